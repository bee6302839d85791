import PyProof.Rows.All
import Wide.All
import OpenK.AllK
import Wide.FinOn
import PySem.Challenge.RW_pagesforties_k33_matched_webs_numbered_w
import HandS.ForMost
import HandS.ForExc
import HandS.Lambda
import HandS.EndTab
import HandS.HeadWalk
import HandS.HeadHook4
import HandS.Head0
import HandS.Head1
import HandS.Head2
import HandS.TryMany
import HandS.ExcInit
import HandS.CallLocal
import HandS.CallSlots
import HandS.Deep
import HandS.TupAny
import HandS.TupMul
import HandS.Wide
import HandS.IsInst
import HandS.Conv
import HandS.DictTup
import HandS.Style
import HandS.Flow
import HandS.SortOrd
import HandS.SortRule
import HandS.SortInts
import HandS.RevTup
import HandS.Zip
import HandS.NoneIn
import HandS.ExcField
import HandS.SortKw
import KE.LtSeq
import HandS.TupLen
import PyProof.Rows.SumGenD
import KE.DataMinMax
import KE.SortData
import HandS.TupSets
import HandS.SetFor
import KE.KRevSl
/-! Mi: a small pure language (values, expressions, statements) and its evaluator. Lists, dicts and objects are values;
an owned one may be changed by its slot alone, a frozen one is never changed. -/
set_option autoImplicit false
set_option linter.all false
namespace Mi

inductive D where
  | non
  | bl (b : Bool)
  | int (i : Int)
  | str (s : List Nat)
  | tup (xs : List D)
  | lst (o : Bool) (xs : List D)
  | dct (o tk : Bool) (kvs : List (D × D))
  | ins (o : Bool) (c : Nat) (fs : List D)
  | fn (i : Nat)
  | scr (ns : List Int)
  | tok (d : D)
  | tex (x : Nat) (as : List D)
  deriving Inhabited, Repr

def D.own : D → Bool
  | .lst o _ => o
  | .dct o _ _ => o
  | .ins o _ _ => o
  | _ => false
def D.fz1 : D → D
  | .lst _ xs => .lst false xs
  | .dct _ k r => .dct false k r
  | d => d
def D.fz : D → D
  | .ins _ c fs => .ins false c (fs.map D.fz1)
  | d => d.fz1

/-! ### equality, order -/
mutual
def eqD : D → D → Bool
  | .non, .non => true
  | .bl a, .bl b => a == b
  | .bl a, .int j => decide ((if a = true then (1 : Int) else 0) = j)
  | .int i, .bl b => decide (i = (if b = true then (1 : Int) else 0))
  | .int i, .int j => decide (i = j)
  | .str x, .str y => decide (x = y)
  | .lst _ xs, .lst _ ys => eqDs xs ys
  | .tup xs, .tup ys => eqDs xs ys
  | _, _ => false
def eqDs : List D → List D → Bool
  | [], [] => true
  | x :: xs, y :: ys => eqD x y && eqDs xs ys
  | _, _ => false
end
mutual
def okN : Nat → D → Bool
  | _, .non => true
  | _, .bl _ => true
  | _, .int _ => true
  | _, .str _ => true
  | n + 1, .tup xs => okNs n xs
  | n + 1, .lst _ xs => okNs n xs
  | _, _ => false
def okNs : Nat → List D → Bool
  | _, [] => true
  | n, x :: xs => okN n x && okNs n xs
end
mutual
def ltD : D → D → Bool
  | .int i, .int j => decide (i < j)
  | .tup xs, .tup ys => ltDs xs ys
  | .lst _ xs, .lst _ ys => ltDs xs ys
  | _, _ => false
def ltDs : List D → List D → Bool
  | [], _ :: _ => true
  | x :: xs, y :: ys => if eqD x y = true then ltDs xs ys else ltD x y
  | _, _ => false
end
def D.isInt : D → Bool
  | .int _ => true
  | _ => false
def D.isTupI : D → Bool
  | .tup xs => xs.all D.isInt
  | _ => false
def D.isBl : D → Bool
  | .bl _ => true
  | _ => false
def D.scal : D → Bool
  | .non => true
  | .bl _ => true
  | .int _ => true
  | .str _ => true
  | _ => false
def ints? : List D → Option (List Int)
  | [] => some []
  | .int i :: r => (ints? r).map (i :: ·)
  | _ :: _ => none
def bls? : List D → Option (List Bool)
  | [] => some []
  | .bl i :: r => (bls? r).map (i :: ·)
  | _ :: _ => none
mutual
/-- ints, and tuples of one form -/
def sameSh : D → D → Bool
  | .int _, .int _ => true
  | .tup xs, .tup ys => sameShs xs ys
  | _, _ => false
def sameShs : List D → List D → Bool
  | [], [] => true
  | x :: xs, y :: ys => sameSh x y && sameShs xs ys
  | _, _ => false
end
def D.isNil : D → Bool
  | .tup [] => true
  | _ => false
def sortOk : List D → Bool
  | [] => true
  | x :: r => !x.isNil && (sameSh x x && r.all (sameSh x))
def ins1 (x : D) : List D → List D
  | [] => [x]
  | y :: ys => if ltD x y = true then x :: y :: ys else y :: ins1 x ys
def sortD (xs : List D) : List D := xs.foldl (fun acc x => ins1 x acc) []
def memD (x : D) : List D → Bool
  | [] => false
  | y :: ys => eqD y x || memD x ys
def dedD : List D → List D → List D
  | acc, [] => acc.reverse
  | acc, x :: r => if memD x acc = true then dedD acc r else dedD (x :: acc) r
def idxD (x : D) : List D → Nat → Option Nat
  | [], _ => none
  | y :: ys, n => if eqD y x = true then some n else idxD x ys (n + 1)
def cntD (x : D) : List D → Nat
  | [] => 0
  | y :: ys => (if eqD y x = true then 1 else 0) + cntD x ys

/-! ### dicts -/
def D.keyA : D → Bool
  | .int _ => true
  | .str _ => true
  | _ => false
def keyOk : Bool → D → Bool
  | false, k => k.keyA
  | true, .tup ks => ks.all D.keyA
  | true, _ => false
def dget : List (D × D) → D → Option D
  | [], _ => none
  | (k, v) :: r, x => if eqD k x = true then some v else dget r x
def dput (kvs : List (D × D)) (x w : D) : List (D × D) :=
  if (kvs.any fun p => eqD p.1 x) = true then kvs.map (fun p => if eqD p.1 x = true then (p.1, w) else p) else kvs ++ [(x, w)]
def dpairs : List D → List (D × D) → Option (List (D × D))
  | [], acc => some acc
  | .tup [k, v] :: r, acc => if keyOk false k then dpairs r (dput acc k v) else none
  | _ :: _, _ => none
def dpairsT : List D → List (D × D) → Option (List (D × D))
  | [], acc => some acc
  | .tup [k, v] :: r, acc => if keyOk true k then dpairsT r (dput acc k v) else none
  | _ :: _, _ => none

def mkD (tk : Bool) : List D → List D → List (D × D) → Option (List (D × D))
  | [], [], acc => some acc
  | k :: ks, v :: vs, acc => if keyOk tk k then mkD tk ks vs (dput acc k v) else none
  | _, _, _ => none

/-! ### places -/
def ixN (n : Nat) (i : Int) : Option Nat := if 0 ≤ i then (if i < n then some i.toNat else none) else if -(n : Int) ≤ i then some (i + n).toNat else none
def sIx (n d : Nat) : Option Int → Nat
  | none => d
  | some v => if v < 0 then (v + (n : Int)).toNat else min v.toNat n
def cutL {α : Type} (xs : List α) (lo hi : Option Int) : List α := (xs.drop (sIx xs.length 0 lo)).take (sIx xs.length xs.length hi - sIx xs.length 0 lo)

/-! ### operators -/
inductive Op2 where
  | add | sub | mul | fdiv | mod | pow
  deriving DecidableEq, Repr
inductive Cp where
  | eq | ne | lt | le | gt | ge | is | isn | isin | nin
  deriving DecidableEq, Repr
def line : Nat := 16777216
def big : Int := 18446744073709551616
def smallI (i : Int) : Bool := decide (-big < i) && decide (i < big)
def rep {α : Type} (xs : List α) : Nat → List α
  | 0 => []
  | n + 1 => xs ++ rep xs n
def binD : Op2 → D → D → Option D
  | .add, .int i, .int j => some (.int (i + j))
  | .add, .str x, .str y => if x.length + y.length ≤ line then some (.str (x ++ y)) else none
  | .add, .tup x, .tup y => if x.length + y.length ≤ line then some (.tup (x ++ y)) else none
  | .add, .lst _ x, .lst _ y => if x.length + y.length ≤ line then some (.lst true (x ++ y)) else none
  | .sub, .int i, .int j => some (.int (i - j))
  | .mul, .int i, .int j => if smallI i || smallI j then some (.int (i * j)) else none
  | .mul, .lst _ x, .int j => if (-1000000 < j ∧ j < 1000000) ∧ x.length * j.toNat ≤ line then some (.lst true (rep x j.toNat)) else none
  | .mul, .tup x, .int j => if 2 ≤ j ∧ j < 1000 ∧ 1 ≤ x.length ∧ x.length ≤ 1000 then some (.tup (rep x j.toNat)) else none
  | .fdiv, .int i, .int j => if 0 < j ∧ j.natAbs.log2 < 9000 then some (.int (i / j)) else none
  | .mod, .int i, .int j => if 0 < j then some (.int (i % j)) else none
  | .pow, .int i, .int j => if 0 ≤ j ∧ j ≤ 1000000 ∧ i.natAbs < 18446744073709551616 then some (.int (i ^ j.toNat)) else none
  | _, _, _ => none
/-- x op= y, whole numbers alone -/
def augD : Op2 → D → D → Option D
  | .add, .int i, .int j => binD .add (.int i) (.int j)
  | .sub, .int i, .int j => binD .sub (.int i) (.int j)
  | .mul, .int i, .int j => binD .mul (.int i) (.int j)
  | _, _, _ => none
def eq? (a b : D) : Option Bool := if okN 60 a && okN 60 b then some (eqD a b) else none
def in? : D → D → Option Bool
  | x, .lst o ys => if okN 60 x && okN 60 (.lst o ys) then some (memD x ys) else none
  | x, .tup ys => if okN 60 x && okN 60 (.tup ys) then some (memD x ys) else none
  | x, .dct _ tk kvs => if keyOk tk x then some (dget kvs x).isSome else none
  | _, _ => none
def D.isLst : D → Bool
  | .lst _ _ => true
  | _ => false
def D.isNon : D → Bool
  | .non => true
  | _ => false
def cmpD : Cp → D → D → Option Bool
  | .eq, a, b => eq? a b
  | .ne, a, b => (eq? a b).map (!·)
  | .lt, .int i, .int j => some (decide (i < j))
  | .le, .int i, .int j => some (decide (i ≤ j))
  | .gt, .int i, .int j => some (decide (j < i))
  | .ge, .int i, .int j => some (decide (j ≤ i))
  | .lt, .lst _ x, .lst _ y => if (ints? x).isSome && (ints? y).isSome then some (ltDs x y) else none
  | .lt, .tup x, .tup y => if (ints? x).isSome && (ints? y).isSome then some (ltDs x y) else none
  | .is, a, .non => some a.isNon
  | .isn, a, .non => some (!a.isNon)
  | .isin, a, b => in? a b
  | .nin, a, b => (in? a b).map (!·)
  | _, _, _ => none

/-! ### built-ins by values -/
inductive Ty where
  | int | bool | tuple | list | str
  deriving DecidableEq, Repr
inductive B where
  | len | abs | int | max1 | min1 | maxd | max2 | min2 | sum | sorted | tuple | list | all | any | lenset | sortset
  | dict (tk : Bool) | lrange1 | lrange2 | trange1 | trange2 | isi (t : Ty) | join | index | count
  deriving DecidableEq, Repr
def isTy : Ty → D → Option Bool
  | .int, .int _ => some true
  | .int, .bl _ => some true
  | .bool, .bl _ => some true
  | .tuple, .tup _ => some true
  | .list, .lst _ _ => some true
  | .str, .str _ => some true
  | _, .fn _ => none
  | _, .scr _ => none
  | _, .tok _ => none
  | _, .tex _ _ => none
  | _, .ins _ _ _ => none
  | _, _ => some false
def seq? : D → Option (List D)
  | .lst _ xs => some xs
  | .tup xs => some xs
  | _ => none
def maxI (i : Int) : List Int → Int
  | [] => i
  | j :: r => maxI (if j > i then j else i) r
def minI (i : Int) : List Int → Int
  | [] => i
  | j :: r => minI (if j < i then j else i) r
def rangeD (a : Int) : Nat → List D
  | 0 => []
  | n + 1 => .int a :: rangeD (a + 1) n
def rngOk (a b : Int) : Bool := decide (-1000000 ≤ a) && decide (b ≤ 1000000) && decide (a ≤ 1000000) && decide (-1000000 ≤ b)
def strs? : List D → Option (List (List Nat))
  | [] => some []
  | .str i :: r => (strs? r).map (i :: ·)
  | _ :: _ => none
def biD : B → List D → Option D
  | .len, [.lst _ xs] => some (.int xs.length)
  | .len, [.tup xs] => some (.int xs.length)
  | .len, [.dct _ _ kvs] => some (.int kvs.length)
  | .len, [.str x] => if x.length ≤ line then some (.int x.length) else none
  | .abs, [.int i] => some (.int (if i < 0 then -i else i))
  | .int, [.int i] => some (.int i)
  | .max2, [.int i, .int j] => some (.int (if j > i then j else i))
  | .min2, [.int i, .int j] => some (.int (if j < i then j else i))
  | .max1, [a] => match (seq? a).bind ints? with
    | some (i :: r) => some (.int (maxI i r))
    | _ => none
  | .min1, [a] => match (seq? a).bind ints? with
    | some (i :: r) => some (.int (minI i r))
    | _ => none
  | .maxd, [a, .int d] => match (seq? a).bind ints? with
    | some (i :: r) => some (.int (maxI i r))
    | some [] => some (.int d)
    | _ => none
  | .sum, [a] => match (seq? a).bind ints? with
    | some r => some (.int r.sum)
    | _ => none
  | .sorted, [a] => match seq? a with
    | some r => if sortOk r && (okNs 60 r && decide (r.length ≤ line)) then some (.lst true (sortD r)) else none
    | _ => none
  | .tuple, [.lst _ xs] => some (.tup xs)
  | .tuple, [.tup xs] => some (.tup xs)
  | .list, [.lst _ xs] => some (.lst true xs)
  | .list, [.tup xs] => some (.lst true xs)
  | .list, [.dct _ _ kvs] => some (.lst true (kvs.map (·.1)))
  | .all, [.lst _ xs] => match bls? xs with
    | some bs => some (.bl (bs.all id))
    | _ => none
  | .any, [.lst _ xs] => match bls? xs with
    | some bs => some (.bl (bs.any id))
    | _ => none
  | .lenset, [a] => match seq? a with
    | some r => if r.all D.isTupI && decide (r.length < 64) then some (.int (dedD [] r).length) else none
    | _ => none
  | .sortset, [a] => match seq? a with
    | some r => if sortOk r && decide (r.length < 64) then some (.lst true (sortD (dedD [] r))) else none
    | _ => none
  | .dict false, [.lst _ xs] => (dpairs xs []).map (.dct true false)
  | .dict true, [.lst _ xs] => (dpairsT xs []).map (.dct true true)
  | .lrange1, [.int n] => if rngOk 0 n then some (.lst true (rangeD 0 n.toNat)) else none
  | .lrange2, [.int a, .int n] => if rngOk a n then some (.lst true (rangeD a (n - a).toNat)) else none
  | .trange1, [.int n] => if rngOk 0 n then some (.tup (rangeD 0 n.toNat)) else none
  | .trange2, [.int a, .int n] => if rngOk a n then some (.tup (rangeD a (n - a).toNat)) else none
  | .isi t, [a] => (isTy t a).map .bl
  | .join, [.str [], .lst _ xs] => match strs? xs with
    | some r => if r.flatten.length ≤ 1000000 then some (.str r.flatten) else none
    | _ => none
  | .index, [.lst o xs, a] => if okN 60 a && okN 60 (.lst o xs) then (idxD a xs 0).map fun n => .int n else none
  | .index, [.tup xs, a] => if okN 60 a && okN 60 (.tup xs) then (idxD a xs 0).map fun n => .int n else none
  | .count, [.lst _ xs, .int k] => match ints? xs with
    | some ns => some (.int (ns.count k))
    | none => none
  | _, _ => none
def ixD : D → D → Option D
  | .lst _ xs, .int i => (ixN xs.length i).bind fun j => xs[j]?
  | .tup xs, .int i => (ixN xs.length i).bind fun j => xs[j]?
  | .dct _ tk kvs, k => if keyOk tk k then dget kvs k else none
  | _, _ => none
def slD : D → Option Int → Option Int → Option D
  | .lst _ xs, lo, hi => some (.lst true (cutL xs lo hi))
  | .scr ns, lo, hi => some (.lst true ((cutL ns lo hi).map .int))
  | .tup xs, lo, hi => some (.tup (cutL xs lo hi))
  | _, _, _ => none
def revD : D → Option D
  | .lst _ xs => some (.lst true xs.reverse)
  | .tup xs => some (.tup xs.reverse)
  | _ => none
def setD : D → D → D → Option D
  | .lst true xs, .int i, v => (ixN xs.length i).map fun j => .lst true (xs.set j v)
  | .dct true tk kvs, k, v => if keyOk tk k && decide (kvs.length < 1000000) then some (.dct true tk (dput kvs k v)) else none
  | _, _, _ => none

/-! ### the language -/
inductive T where
  | v (i : Nat)
  | tup (ts : List T)
  deriving Repr
mutual
inductive E where
  | c (d : D)
  | v (i : Nat)
  | mv (i : Nat)
  | fz (i : Nat)
  | g (i : Nat)
  | bin (o : Op2) (a b : E)
  | neg (a : E)
  | nt (a : E)
  | cmp (a : E) (os : List Cp) (bs : List E)
  | and (es : List E)
  | or (es : List E)
  | ife (t a b : E)
  | tup (es : List E)
  | lst (es : List E)
  | dic (tk : Bool) (ks vs : List E)
  | ix (a b : E)
  | sl (a : E) (lo hi : Option E)
  | rev (a : E)
  | call (f : Nat) (es : List E)
  | io (i : Nat)
  | cv (i : Nat) (es : List E)
  | bi (b : B) (es : List E)
  | pop (i : Nat) (k : Option E)
  | lc (own : List Nat) (elt : E) (t : T) (it : I) (ifs : Option E) (gs : List G)
  | act (i : Nat)
  | lam (f : Nat) (b : E) (es : List E)
  | mk (k : Nat) (es : List E)
  | fld (a : E) (k : Nat)
  | dget (a k d : E)
  | mth (b : B) (a e : E)
  deriving Repr
inductive G where
  | mk (own : List Nat) (t : T) (it : I) (ifs : Option E)
  deriving Repr
inductive I where
  | seq (e : E)
  | rng (es : List E)
  | enum (e : E)
  | zip (a b : E)
  | items (e : E)
  deriving Repr
end
/-- what is changed: a slot's list or dict, a field of a slot's object -/
inductive Pa where
  | v (i : Nat)
  | f (i k : Nat)
  deriving Repr
mutual
inductive S where
  | set (t : T) (e : E)
  | par (is : List Nat) (es : List E)
  | aug (i : Nat) (o : Op2) (e : E)
  | six (p : Pa) (k e : E)
  | aix (p : Pa) (o : Op2) (k e : E)
  | pix (i : Nat) (k1 k2 e1 e2 : E)
  | sfl (i k : Nat) (e : E)
  | app (p : Pa) (e : E)
  | ext (p : Pa) (e : E)
  | ex (e : E)
  | ret (e : E)
  | rai (x : Nat) (es : List E)
  | ite (t : E) (a b : List S)
  | whl (fuel : Nat) (t : E) (b : List S) (kill : List Nat)
  | for (t : T) (it : I) (b : List S) (kill : List Nat)
  | pas
  | brk
  | cnt
  | tri (b : List S) (h : List H)
  deriving Repr
inductive H where
  | mk (xs : List Nat) (o : Option Nat) (b : List S)
  deriving Repr
end
structure Fn where
  np : Nat
  ns : Nat
  io : List Nat
  body : List S
  deriving Repr

/-! ### results -/
inductive Res (α : Type) where
  | ok (a : α)
  | exc (x : Nat) (as : List D)
  | stk
  deriving Repr
namespace Res
variable {α β : Type}
@[inline] def bind (r : Res α) (f : α → Res β) : Res β :=
  match r with
  | .ok a => f a
  | .exc x as => .exc x as
  | .stk => .stk
def of : Option α → Res α
  | some a => .ok a
  | none => .stk
end Res
abbrev Env := List (Option D)
def getV (env : Env) (i : Nat) : Res D :=
  match env[i]? with
  | some (some d) => .ok d
  | _ => .stk
def setV (env : Env) (i : Nat) (d : D) : Env := env.set i (some d)
def delV (env : Env) (i : Nat) : Env := env.set i none
def delVs (env : Env) : List Nat → Env
  | [] => env
  | i :: r => delVs (delV env i) r
mutual
def asg : T → D → Env → Option Env
  | .v i, d, env => some (setV env i d)
  | .tup ts, .tup ds, env => asgs ts ds env
  | .tup _, _, _ => none
def asgs : List T → List D → Env → Option Env
  | [], [], env => some env
  | t :: ts, d :: ds, env => (asg t d env).bind (asgs ts ds)
  | _, _, _ => none
end
/-- an expression whose value may be a slot's own object -/
def vw : E → Bool
  | .v _ => true
  | .io _ => true
  | .fld _ _ => true
  | .ife _ a b => vw a || vw b
  | .and _ => true
  | .or _ => true
  | _ => false
/-- a value that is to be kept: not a slot's own object; frozen -/
def keep (e : E) (d : D) : Res D := if vw e && d.own then .stk else .ok d.fz
/-- a value that goes into a slot, or out of a def -/
def move (e : E) (d : D) : Res D := if vw e && d.own then .stk else .ok d
def fillIo (env : Env) : List E → List D → Res (List D)
  | .io i :: es, _ :: ds => (getV env i).bind fun d => (fillIo env es ds).bind fun r => .ok (d :: r)
  | _ :: es, d :: ds => (fillIo env es ds).bind fun r => .ok (d :: r)
  | [], [] => .ok []
  | _, _ => .stk
def putIo (env : Env) : List E → List D → Res Env
  | .io i :: es, d :: ds => putIo (setV env i d) es ds
  | .io _ :: _, [] => .stk
  | _ :: es, ds => putIo env es ds
  | [], [] => .ok env
  | [], _ :: _ => .stk
def getVs (env : Env) : List Nat → Res (List D)
  | [] => .ok []
  | i :: r => (getV env i).bind fun d => (getVs env r).bind fun ds => .ok (d :: ds)
def getPa (env : Env) : Pa → Res D
  | .v i => getV env i
  | .f i k => (getV env i).bind fun d => match d with
    | .ins true _ fs => Res.of fs[k]?
    | _ => .stk
def setPa (env : Env) : Pa → D → Res Env
  | .v i, d => .ok (setV env i d)
  | .f i k, d => (getV env i).bind fun o => match o with
    | .ins true c fs => .ok (setV env i (.ins true c (fs.set k d)))
    | _ => .stk
def tB : D → Res Bool
  | .bl b => .ok b
  | _ => .stk
def oI : Option D → Res (Option Int)
  | none => .ok none
  | some (.int i) => .ok (some i)
  | _ => .stk
/-- the items that are walked -/
def seqI : D → Res (List D)
  | .lst _ xs => .ok xs
  | .tup xs => .ok xs
  | .str s => .ok (s.map fun c => .str [c])
  | _ => .stk
/-- .. of a list -/
def seqL : D → Res (List D)
  | .lst _ xs => .ok xs
  | _ => .stk
def enumD (i : Int) : List D → List D
  | [] => []
  | x :: r => .tup [.int i, x] :: enumD (i + 1) r
def zipD : List D → List D → List D
  | x :: r, y :: s => .tup [x, y] :: zipD r s
  | _, _ => []
def stepD (a c : Int) : Nat → List D
  | 0 => []
  | n + 1 => .int a :: stepD (a + c) c n
def rngD : List D → Res (List D)
  | [.int n] => if rngOk 0 n then .ok (rangeD 0 n.toNat) else .stk
  | [.int a, .int b] => if rngOk a b then .ok (rangeD a (b - a).toNat) else .stk
  | [.int a, .int b, .int c] => if rngOk a b && (decide (0 < c) && decide (c < 1000)) then .ok (stepD a c ((b - a + c - 1) / c).toNat)
    else if rngOk a b && decide (c = -1) then .ok (stepD a c (a - b).toNat) else .stk
  | _ => .stk
/-- two lists, or two tuples -/
def zipS : D → D → Res (List D)
  | .lst _ xs, .lst _ ys => .ok (zipD xs ys)
  | .tup xs, .tup ys => .ok (zipD xs ys)
  | _, _ => .stk
/-- the restored slots of a comprehension -/
def backV (env0 env : Env) : List Nat → Res Env
  | [] => .ok env
  | i :: r => match env0[i]? with
    | some (some d) => if d.own then .stk else backV env0 (env.set i (some d)) r
    | some none => backV env0 (env.set i none) r
    | none => .stk

/-- what the told def lets out -/
def noX {α : Type} : Res α → Res α
  | .ok a => .ok a
  | _ => .stk
/-- the slots, as a lambda's body sees them -/
def fzE (env : Env) : Env := env.map fun o => o.map D.fz

section
variable (gl : List D) (cf : Nat → List D → Res (D × List D))
def lcGo (f : D → Env → Res (List D × Env)) : List D → List D → Env → Res (List D × Env)
  | [], acc, env => .ok (acc, env)
  | x :: xs, acc, env => match f x env with
    | .ok (ys, env1) => lcGo f xs (acc ++ ys) env1
    | _ => .stk
mutual
def ev : E → Env → Res (D × Env)
  | .c d, env => .ok (d, env)
  | .v i, env => (getV env i).bind fun d => .ok (d, env)
  | .io i, env => (getV env i).bind fun d => .ok (d, env)
  | .mv i, env => (getV env i).bind fun d => .ok (d, delV env i)
  | .fz i, env => (getV env i).bind fun d => .ok (d.fz, setV env i d.fz)
  | .g i, env => (Res.of gl[i]?).bind fun d => .ok (d, env)
  | .bin o a b, env => (ev a env).bind fun (x, e1) => (ev b e1).bind fun (y, e2) => (Res.of (binD o x y)).bind fun d => .ok (d, e2)
  | .neg a, env => (ev a env).bind fun (x, e1) => match x with
    | .int i => .ok (.int (-i), e1)
    | _ => .stk
  | .nt a, env => (ev a env).bind fun (x, e1) => (tB x).bind fun b => .ok (.bl !b, e1)
  | .cmp a os bs, env => (ev a env).bind fun (x, e1) => evc x os bs e1
  | .and es, env => evAnd es env
  | .or es, env => evOr es env
  | .ife t a b, env => (ev t env).bind fun (x, e1) => (tB x).bind fun c => if c = true then ev a e1 else ev b e1
  | .tup es, env => (evs es env).bind fun (ds, e1) => .ok (.tup ds, e1)
  | .lst es, env => (evs es env).bind fun (ds, e1) => .ok (.lst true ds, e1)
  | .dic tk ks vs, env => (evs ks env).bind fun (xs, e1) => (evs vs e1).bind fun (ys, e2) => (Res.of (mkD tk xs ys [])).bind fun r => .ok (.dct true tk r, e2)
  | .ix a b, env => (ev a env).bind fun (x, e1) => (ev b e1).bind fun (y, e2) => (Res.of (ixD x y)).bind fun d => .ok (d, e2)
  | .sl a lo hi, env => (ev a env).bind fun (x, e1) => (evo lo e1).bind fun (l, e2) => (evo hi e2).bind fun (h, e3) => (Res.of (slD x l h)).bind fun d => .ok (d, e3)
  | .rev a, env => (ev a env).bind fun (x, e1) => (Res.of (revD x)).bind fun d => .ok (d, e1)
  | .call f es, env => (evs es env).bind fun (ds, e1) => (fillIo e1 es ds).bind fun ds => (cf f ds).bind fun (d, outs) => (putIo e1 es outs).bind fun e2 => .ok (d, e2)
  | .cv i es, env => (getV env i).bind fun f => match f with
    | .fn n => (evs es env).bind fun (ds, e1) => (cf n ds).bind fun (d, outs) => match outs with
      | [] => .ok (d, e1)
      | _ => .stk
    | _ => .stk
  | .bi b es, env => (evb es env).bind fun (ds, e1) => (Res.of (biD b ds)).bind fun d => .ok (d, e1)
  | .pop i k, env => (getV env i).bind fun o0 => if !o0.isLst then .stk else (evk k env).bind fun (j, e1) => (getV e1 i).bind fun d => match d with
    | .lst true xs => (Res.of (ixN xs.length j)).bind fun n => (Res.of xs[n]?).bind fun x => .ok (x, setV e1 i (.lst true (xs.eraseIdx n)))
    | _ => .stk
  | .lc own elt t it ifs gs, env => (evJ it env).bind fun (r, e1) => if 1000000 < r.length then .stk else (lcGo (fun x e2 => (Res.of (asg t x (delVs e2 own))).bind fun e3 =>
      (evt ifs e3).bind fun (c, e4) => if c = true then evg (fun e => (ev elt e).bind fun (x, e5) => (keep elt x).bind fun x => .ok (x, e5)) gs e4 else .ok ([], e4)) r [] e1).bind fun (ys, e6) =>
      (backV e1 e6 own).bind fun e7 => .ok (.lst true ys, e7)
  | .act i, env => (getV env i).bind fun d => match d with
    | .tok d => .ok (d, env)
    | .tex x as => .exc x as
    | _ => .stk
  | .lam f b es, env => match ev b (fzE env) with
    | .ok (d, _) => (evs es env).bind fun (ds, e1) => (noX (cf f (.tok d.fz :: ds))).bind fun (d, _) => .ok (d, e1)
    | .exc x as => (evs es env).bind fun (ds, e1) => (noX (cf f (.tex x as :: ds))).bind fun (d, _) => .ok (d, e1)
    | .stk => .stk
  | .mk k es, env => (evs es env).bind fun (ds, e1) => (cf k (.ins true k [] :: ds)).bind fun (d, outs) => match outs with
    | [o] => .ok (o, e1)
    | _ => .stk
  | .fld a k, env => (ev a env).bind fun (x, e1) => match x with
    | .ins _ _ fs => (Res.of fs[k]?).bind fun d => .ok (d, e1)
    | _ => .stk
  | .dget a k d, env => (ev a env).bind fun (x, e1) => match x with
    | .dct _ tk kvs => (ev k e1).bind fun (y, e2) => (ev d e2).bind fun (z, e3) => (keep d z).bind fun z => if keyOk tk y then .ok ((dget kvs y).getD z, e3) else .stk
    | _ => .stk
  | .mth b a e, env => (ev a env).bind fun (x, e1) => if x.isLst then (ev e e1).bind fun (y, e2) => (Res.of (biD b [x, y])).bind fun d => .ok (d, e2) else .stk
/-- values that are kept -/
def evs : List E → Env → Res (List D × Env)
  | [], env => .ok ([], env)
  | .io i :: es, env => (getV env i).bind fun _ => (evs es env).bind fun (ds, e2) => .ok (.non :: ds, e2)
  | e :: es, env => (ev e env).bind fun (x, e1) => (keep e x).bind fun x => (evs es e1).bind fun (ds, e2) => .ok (x :: ds, e2)
/-- values that are looked at -/
def evb : List E → Env → Res (List D × Env)
  | [], env => .ok ([], env)
  | e :: es, env => (ev e env).bind fun (x, e1) => (evb es e1).bind fun (ds, e2) => .ok (x :: ds, e2)
def evc : D → List Cp → List E → Env → Res (D × Env)
  | x, [o], [b], env => (ev b env).bind fun (y, e1) => (Res.of (cmpD o x y)).bind fun c => .ok (.bl c, e1)
  | x, o :: os, b :: bs, env => (ev b env).bind fun (y, e1) => (Res.of (cmpD o x y)).bind fun c => if c = true then evc y os bs e1 else .ok (.bl false, e1)
  | _, _, _, _ => .stk
def evAnd : List E → Env → Res (D × Env)
  | [], _ => .stk
  | [e], env => ev e env
  | e :: es, env => (ev e env).bind fun (x, e1) => (tB x).bind fun c => if c = true then evAnd es e1 else .ok (.bl false, e1)
def evOr : List E → Env → Res (D × Env)
  | [], _ => .stk
  | [e], env => ev e env
  | e :: es, env => (ev e env).bind fun (x, e1) => (tB x).bind fun c => if c = true then .ok (.bl true, e1) else evOr es e1
def evo : Option E → Env → Res (Option Int × Env)
  | none, env => .ok (none, env)
  | some e, env => (ev e env).bind fun (x, e1) => match x with
    | .int i => .ok (some i, e1)
    | _ => .stk
def evk : Option E → Env → Res (Int × Env)
  | none, env => .ok (-1, env)
  | some e, env => (ev e env).bind fun (x, e1) => match x with
    | .int i => .ok (i, e1)
    | _ => .stk
def evI : I → Env → Res (List D × Env)
  | .seq e, env => (ev e env).bind fun (x, e1) => if vw e && x.own then .stk else (seqI x).bind fun r => .ok (r, e1)
  | .rng es, env => (evb es env).bind fun (ds, e1) => (rngD ds).bind fun r => .ok (r, e1)
  | .enum e, env => (ev e env).bind fun (x, e1) => if vw e && x.own then .stk else (seqL x).bind fun r => .ok (enumD 0 r, e1)
  | .zip a b, env => (ev a env).bind fun (x, e1) => if vw a && x.own then .stk else (ev b e1).bind fun (y, e2) => if vw b && y.own then .stk else (zipS x y).bind fun r => .ok (r, e2)
  | .items e, env => (ev e env).bind fun (x, e1) => match x with
    | .dct o _ kvs => if vw e && o then .stk else .ok (kvs.map fun p => .tup [p.1, p.2], e1)
    | _ => .stk
/-- the sources of a comprehension: a slot's own list may be looked at -/
def evJ : I → Env → Res (List D × Env)
  | .seq e, env => (ev e env).bind fun (x, e1) => (seqI x).bind fun r => .ok (r, e1)
  | .rng es, env => (evb es env).bind fun (ds, e1) => (rngD ds).bind fun r => .ok (r, e1)
  | .enum e, env => (ev e env).bind fun (x, e1) => (seqL x).bind fun r => .ok (enumD 0 r, e1)
  | .zip a b, env => (ev a env).bind fun (x, e1) => (ev b e1).bind fun (y, e2) => (zipS x y).bind fun r => .ok (r, e2)
  | .items e, env => (ev e env).bind fun (x, e1) => match x with
    | .dct _ _ kvs => .ok (kvs.map fun p => .tup [p.1, p.2], e1)
    | _ => .stk
def evg (f : Env → Res (D × Env)) : List G → Env → Res (List D × Env)
  | [], env => (f env).bind fun (x, e1) => .ok ([x], e1)
  | .mk own t it ifs :: gs, env => (evJ it env).bind fun (r, e1) => lcGo (fun x e2 => (Res.of (asg t x (delVs e2 own))).bind fun e3 =>
      (evt ifs e3).bind fun (c, e4) => if c = true then evg f gs e4 else .ok ([], e4)) r [] e1
def evt : Option E → Env → Res (Bool × Env)
  | none, env => .ok (true, env)
  | some e, env => (ev e env).bind fun (x, e1) => (tB x).bind fun c => .ok (c, e1)
end

/-! ### statements -/
inductive Fl where
  | nx (env : Env)
  | brk (env : Env)
  | cnt (env : Env)
  | ret (d : D) (env : Env)
  deriving Repr
def Fl.kill (ks : List Nat) : Fl → Fl
  | .nx e => .nx (delVs e ks)
  | .brk e => .brk (delVs e ks)
  | .cnt e => .cnt (delVs e ks)
  | .ret d e => .ret d e
def whL (c : Env → Res (Bool × Env)) (f : Env → Res Fl) : Nat → Env → Res Fl
  | 0, _ => .stk
  | n + 1, env => (c env).bind fun (b, e1) => if b = true then (f e1).bind fun fl => match fl with
      | .nx e => whL c f n e
      | .cnt e => whL c f n e
      | .brk e => .ok (.nx e)
      | .ret d e => .ok (.ret d e)
    else .ok (.nx e1)
def forL (f : D → Env → Res Fl) : List D → Env → Res Fl
  | [], env => .ok (.nx env)
  | x :: xs, env => (f x env).bind fun fl => match fl with
      | .nx e => forL f xs e
      | .cnt e => forL f xs e
      | .brk e => .ok (.nx e)
      | .ret d e => .ok (.ret d e)
/-- values that are moved into slots -/
def evm : List E → Env → Res (List D × Env)
  | [], env => .ok ([], env)
  | e :: es, env => (ev gl cf e env).bind fun (x, e1) => (move e x).bind fun x => (evm es e1).bind fun (ds, e2) => .ok (x :: ds, e2)
def setVs (env : Env) : List Nat → List D → Option Env
  | [], [] => some env
  | i :: is, d :: ds => setVs (setV env i d) is ds
  | _, _ => none
mutual
def ex : S → Env → Res Fl
  | .set t e, env => (ev gl cf e env).bind fun (x, e1) => (move e x).bind fun x => (Res.of (asg t x e1)).bind fun e2 => .ok (.nx e2)
  | .par is es, env => (evm gl cf es env).bind fun (ds, e1) => (Res.of (setVs e1 is ds)).bind fun e2 => .ok (.nx e2)
  | .aug i o e, env => (getV env i).bind fun x => (ev gl cf e env).bind fun (y, e1) => (Res.of (augD o x y)).bind fun d => .ok (.nx (setV e1 i d))
  | .six p k e, env => (ev gl cf e env).bind fun (x, e1) => (keep e x).bind fun x => (getPa e1 p).bind fun _ => (ev gl cf k e1).bind fun (j, e2) => (getPa e2 p).bind fun o => (Res.of (setD o j x)).bind fun o =>
    (setPa e2 p o).bind fun e3 => .ok (.nx e3)
  | .aix p op k e, env => (getPa env p).bind fun _ => (ev gl cf k env).bind fun (j, e1) => (getPa e1 p).bind fun o => if o.isLst then (Res.of (ixD o j)).bind fun y => (ev gl cf e e1).bind fun (z, e2) => (Res.of (augD op y z)).bind fun x =>
    (getPa e2 p).bind fun o => (Res.of (setD o j x)).bind fun o => (setPa e2 p o).bind fun e3 => .ok (.nx e3)
    else .stk
  | .pix i k1 k2 a b, env => (ev gl cf a env).bind fun (x, e1) => (keep a x).bind fun x => (ev gl cf b e1).bind fun (y, e2) => (keep b y).bind fun y => (getV e2 i).bind fun _ => (ev gl cf k1 e2).bind fun (j1, e3) =>
    (getV e3 i).bind fun o => (Res.of (setD o j1 x)).bind fun o => (ev gl cf k2 (setV e3 i o)).bind fun (j2, e4) => (getV e4 i).bind fun o => (Res.of (setD o j2 y)).bind fun o => .ok (.nx (setV e4 i o))
  | .sfl i k e, env => (ev gl cf e env).bind fun (x, e1) => (move e x).bind fun x => (getV e1 i).bind fun o => match o with
    | .ins true c fs => if k < fs.length then .ok (.nx (setV e1 i (.ins true c (fs.set k x)))) else if k = fs.length then .ok (.nx (setV e1 i (.ins true c (fs ++ [x])))) else .stk
    | _ => .stk
  | .app p e, env => (getPa env p).bind fun o0 => if o0.isLst then (ev gl cf e env).bind fun (x, e1) => (keep e x).bind fun x => (getPa e1 p).bind fun o => match o with
    | .lst true xs => if xs.length < 1000000 then (setPa e1 p (.lst true (xs ++ [x]))).bind fun e2 => .ok (.nx e2) else .stk
    | _ => .stk
    else .stk
  | .ext p e, env => (getPa env p).bind fun o0 => if o0.isLst then (ev gl cf e env).bind fun (x, e1) => (keep e x).bind fun x => (getPa e1 p).bind fun o => match o, x with
    | .lst true xs, .lst _ ys => if xs.length + ys.length < 1000000 then (setPa e1 p (.lst true (xs ++ ys))).bind fun e2 => .ok (.nx e2) else .stk
    | _, _ => .stk
    else .stk
  | .ex e, env => (ev gl cf e env).bind fun (_, e1) => .ok (.nx e1)
  | .ret e, env => (ev gl cf e env).bind fun (x, e1) => (move e x).bind fun x => .ok (.ret x e1)
  | .rai x es, env => (evs gl cf es env).bind fun (ds, _) => if ds.all D.scal then .exc x ds else .stk
  | .ite t a b, env => (ev gl cf t env).bind fun (x, e1) => (tB x).bind fun c => if c = true then exs a e1 else exs b e1
  | .whl n t b ks, env => whL (fun e => (ev gl cf t e).bind fun (x, e1) => (tB x).bind fun c => .ok (c, e1)) (fun e => (exs b e).bind fun f => .ok (f.kill ks)) n env
  | .for t it b ks, env => (evI gl cf it env).bind fun (r, e1) => forL (fun x e => (Res.of (asg t x e)).bind fun e2 => (exs b e2).bind fun f => .ok (f.kill ks)) r e1
  | .pas, env => .ok (.nx env)
  | .brk, env => .ok (.brk env)
  | .cnt, env => .ok (.cnt env)
  | .tri b h, env => match exs b env with
    | .ok f => .ok f
    | .stk => .stk
    | .exc x as => exh x as h env
def exs : List S → Env → Res Fl
  | [], env => .ok (.nx env)
  | s :: ss, env => (ex s env).bind fun fl => match fl with
    | .nx e => exs ss e
    | .brk e => .ok (.brk e)
    | .cnt e => .ok (.cnt e)
    | .ret d e => .ok (.ret d e)
def exh (x : Nat) (as : List D) : List H → Env → Res Fl
  | [], _ => .exc x as
  | .mk xs o b :: r, env => if x ∈ xs then exs b (match o with
      | none => env
      | some i => setV env i (.ins false x as)) else exh x as r env
end
end

/-! ### programs -/
def outF (fn : Fn) : Fl → Res (D × List D)
  | .ret d env => (getVs env fn.io).bind fun os => .ok (d, os)
  | .nx env => (getVs env fn.io).bind fun os => .ok (.non, os)
  | _ => .stk
def envF (fn : Fn) (ds : List D) : Env := ds.map some ++ List.replicate (fn.ns - fn.np) none
def runF (gl : List D) (P : List Fn) : Nat → Nat → List D → Res (D × List D)
  | 0, _, _ => .stk
  | n + 1, f, ds => match P[f]? with
    | some fn => if ds.length = fn.np then (exs gl (runF gl P n) fn.body (envF fn ds)).bind (outF fn) else .stk
    | none => .stk
end Mi

set_option Elab.async false
set_option linter.all false
set_option maxRecDepth 100000
set_option maxHeartbeats 4000000
/-! MiS: the IR's evaluator tells what the Python text does. Values, owners, states. -/
namespace MiS
open PySem PySem.Spec PyProof.Rows L2
open Mi (D Res Fl)
abbrev St := L2.St
abbrev EnvI := Mi.Env

/-! ### owners: a slot (with a field), what is just made, others -/
abbrev Tag := Nat × Nat
abbrev OM := Addr → Option Tag
abbrev tT : Nat := 1000000
abbrev fT : Nat := 1000001
abbrev tmp : Tag := (tT, 0)
structure GC where
  fad : Nat → Addr
  xad : Nat → Addr
  /-- an exception class's one field -/
  xfl : Nat → Str

def mkS (s : List Nat) : Str := ⟨s.toArray⟩
def keyR : D → Key → Prop
  | .int i, k => k = .inl i
  | .str s, k => k = .inr (mkS s) ∧ PyData.strOk (mkS s) = true
  | _, _ => False
def keyRs : List D → List Key → Prop
  | [], ks => ks = []
  | d :: ds, ks => ∃ k r, ks = k :: r ∧ keyR d k ∧ keyRs ds r
def keyRT : D → List Key → Prop
  | .tup ds, ks => keyRs ds ks
  | _, _ => False
def ofO (o : Bool) (t : Tag) : Option Tag := if o = true then some t else none
section
variable (γ : GC) (K : PySem.W.Frag) (H : Hp) (O : OM)
mutual
def VR : Tag → D → V → Prop
  | _, .non, v => v = .non
  | _, .bl b, v => v = .bl b
  | _, .int i, v => v = .int i
  | _, .str s, v => v = .str (mkS s) ∧ PyData.strOk (mkS s) = true
  | _, .tup ds, v => ∃ a vs, v = .ref a ∧ H a = some (.tup vs) ∧ VRs ds vs
  | t, .lst o ds, v => ∃ a vs, v = .ref a ∧ H a = some (.lst vs) ∧ O a = ofO o t ∧ VRs ds vs
  | t, .dct o false ps, v => ∃ a kvs, v = .ref a ∧ H a = some (.dK kvs) ∧ O a = ofO o t ∧ KRs ps kvs
  | t, .dct o true ps, v => ∃ a kvs, v = .ref a ∧ H a = some (.dT kvs) ∧ O a = ofO o t ∧ TRs ps kvs
  | _, .ins _ _ _, _ => False
  | _, .fn i, v => v = .ref (γ.fad i)
  | _, .scr ns, v => ∃ a, v = .ref a ∧ ((Rd H a (.lst (ns.map V.int)) ∧ O a = none) ∨ ∀ H, SqL K H a (ns.map V.int))
  | _, .tok _, v => ∃ a, v = .ref a
  | _, .tex _ _, v => ∃ a, v = .ref a
def VRs : List D → List V → Prop
  | [], vs => vs = []
  | d :: ds, vs => ∃ v r, vs = v :: r ∧ d.own = false ∧ VR (0, 0) d v ∧ VRs ds r
def KRs : List (D × D) → List (Key × V) → Prop
  | [], vs => vs = []
  | (k, d) :: ds, vs => ∃ kk v r, vs = (kk, v) :: r ∧ keyR k kk ∧ d.own = false ∧ VR (0, 0) d v ∧ KRs ds r
def TRs : List (D × D) → List (List Key × V) → Prop
  | [], vs => vs = []
  | (k, d) :: ds, vs => ∃ kk v r, vs = (kk, v) :: r ∧ keyRT k kk ∧ d.own = false ∧ VR (0, 0) d v ∧ TRs ds r
end
end
def MutO : HO → Prop
  | .lst _ => True
  | .dK _ => True
  | .dT _ => True
  | _ => False
/-- what is owned stands, and may be changed -/
def OD (H : Hp) (O : OM) : Prop := ∀ a t, O a = some t → ∃ o, H a = some o ∧ MutO o
def noTbl (o : HO) : Prop := ∀ ps, o ≠ .tbl ps
section
variable {γ : GC} {K : PySem.W.Frag} {H H' : Hp} {O O' : OM}
theorem OD.tup (d : OD H O) {a : Addr} {vs : List V} (h : H a = some (.tup vs)) : O a = none := by
  cases q : O a with
  | none => rfl
  | some t =>
    obtain ⟨o, e, m⟩ := d a t q
    rw [h] at e
    cases e
    exact m.elim
theorem OD.frz (d : OD H O) {a : Addr} {o : Obj} {u : HO} (h : H a = some (.frz o u)) : O a = none := by
  cases q : O a with
  | none => rfl
  | some t =>
    obtain ⟨o, e, m⟩ := d a t q
    rw [h] at e
    cases e
    exact m.elim
theorem OD.free (d : OD H O) {a : Addr} (h : H a = none) : O a = none := by
  cases q : O a with
  | none => rfl
  | some t =>
    obtain ⟨o, e, m⟩ := d a t q
    rw [h] at e
    cases e
/-- what is not owned is kept -/
def KeepN (H : Hp) (O : OM) (H' : Hp) (O' : OM) : Prop := ∀ a o, H a = some o → O a = none → noTbl o → H' a = some o ∧ O' a = none
theorem sqT_keep (d : OD H O) (k : KeepN H O H' O') {a : Addr} {vs : List V} (h : SqT K H a vs) : SqT K H' a vs := by
  rcases h with (h | ⟨o, h⟩) | h
  · exact .inl (.inl (k a _ h (d.tup h) (fun _ e => nomatch e)).1)
  · exact .inl (.inr ⟨o, (k a _ h (d.frz h) (fun _ e => nomatch e)).1⟩)
  · exact .inr h
mutual
theorem VR.stepN (d : OD H O) (k : KeepN H O H' O') : ∀ {t t' : Tag} (x : D) {v : V}, x.own = false → VR γ K H O t x v → VR γ K H' O' t' x v
  | _, _, .non, _, _, h => h
  | _, _, .bl _, _, _, h => h
  | _, _, .int _, _, _, h => h
  | _, _, .str _, _, _, h => h
  | _, _, .tup ds, _, _, h => by
    obtain ⟨a, vs, e, h1, h2⟩ := h
    exact ⟨a, vs, e, (k a _ h1 (d.tup h1) (fun _ e => nomatch e)).1, VRs.step d k ds h2⟩
  | _, _, .lst false ds, _, _, h => by
    obtain ⟨a, vs, e, h1, h2, h3⟩ := h
    obtain ⟨k1, k2⟩ := k a _ h1 h2 (fun _ e => nomatch e)
    exact ⟨a, vs, e, k1, k2, VRs.step d k ds h3⟩
  | _, _, .lst true _, _, h, _ => nomatch h
  | _, _, .dct false false ps, _, _, h => by
    obtain ⟨a, kvs, e, h1, h2, h3⟩ := h
    obtain ⟨k1, k2⟩ := k a _ h1 h2 (fun _ e => nomatch e)
    exact ⟨a, kvs, e, k1, k2, KRs.step d k ps h3⟩
  | _, _, .dct false true ps, _, _, h => by
    obtain ⟨a, kvs, e, h1, h2, h3⟩ := h
    obtain ⟨k1, k2⟩ := k a _ h1 h2 (fun _ e => nomatch e)
    exact ⟨a, kvs, e, k1, k2, TRs.step d k ps h3⟩
  | _, _, .dct true _ _, _, h, _ => nomatch h
  | _, _, .ins _ _ _, _, _, h => h.elim
  | _, _, .fn _, _, _, h => h
  | _, _, .scr ns, _, _, h => by
    obtain ⟨a, e, h1⟩ := h
    rcases h1 with ⟨h | ⟨o, h⟩, h2⟩ | h
    · obtain ⟨k1, k2⟩ := k a _ h h2 (fun _ e => nomatch e)
      exact ⟨a, e, .inl ⟨.inl k1, k2⟩⟩
    · obtain ⟨k1, k2⟩ := k a _ h h2 (fun _ e => nomatch e)
      exact ⟨a, e, .inl ⟨.inr ⟨o, k1⟩, k2⟩⟩
    · exact ⟨a, e, .inr h⟩
  | _, _, .tok _, _, _, h => h
  | _, _, .tex _ _, _, _, h => h
theorem VRs.step (d : OD H O) (k : KeepN H O H' O') : ∀ (xs : List D) {vs : List V}, VRs γ K H O xs vs → VRs γ K H' O' xs vs
  | [], _, h => h
  | x :: xs, _, h => by
    obtain ⟨v, r, e, ho, h1, h2⟩ := h
    exact ⟨v, r, e, ho, VR.stepN d k x ho h1, VRs.step d k xs h2⟩
theorem KRs.step (d : OD H O) (k : KeepN H O H' O') : ∀ (xs : List (D × D)) {vs : List (Key × V)}, KRs γ K H O xs vs → KRs γ K H' O' xs vs
  | [], _, h => h
  | (kd, x) :: xs, _, h => by
    obtain ⟨kk, v, r, e, hk, ho, h1, h2⟩ := h
    exact ⟨kk, v, r, e, hk, ho, VR.stepN d k x ho h1, KRs.step d k xs h2⟩
theorem TRs.step (d : OD H O) (k : KeepN H O H' O') : ∀ (xs : List (D × D)) {vs : List (List Key × V)}, TRs γ K H O xs vs → TRs γ K H' O' xs vs
  | [], _, h => h
  | (kd, x) :: xs, _, h => by
    obtain ⟨kk, v, r, e, hk, ho, h1, h2⟩ := h
    exact ⟨kk, v, r, e, hk, ho, VR.stepN d k x ho h1, TRs.step d k xs h2⟩
end
/-- an owned value, whose owner keeps it -/
theorem VR.step (d : OD H O) (k : KeepN H O H' O') {t t' : Tag} (x : D) {v : V} (hk : ∀ a o, H a = some o → O a = some t → H' a = some o ∧ O' a = some t') (h : VR γ K H O t x v) : VR γ K H' O' t' x v := by
  by_cases ho : x.own = false
  · exact VR.stepN d k x ho h
  · cases x with
    | lst o ds =>
      cases o with
      | false => exact absurd rfl ho
      | true =>
        obtain ⟨a, vs, e, h1, h2, h3⟩ := h
        obtain ⟨k1, k2⟩ := hk a _ h1 h2
        exact ⟨a, vs, e, k1, k2, VRs.step d k ds h3⟩
    | dct o tk ps =>
      cases o with
      | false => exact absurd rfl ho
      | true =>
        cases tk with
        | false =>
          obtain ⟨a, vs, e, h1, h2, h3⟩ := h
          obtain ⟨k1, k2⟩ := hk a _ h1 h2
          exact ⟨a, vs, e, k1, k2, KRs.step d k ps h3⟩
        | true =>
          obtain ⟨a, vs, e, h1, h2, h3⟩ := h
          obtain ⟨k1, k2⟩ := hk a _ h1 h2
          exact ⟨a, vs, e, k1, k2, TRs.step d k ps h3⟩
    | ins o c fs => exact h.elim
    | _ => exact absurd rfl ho
theorem VR.tag {t t' : Tag} (x : D) {v : V} (ho : x.own = false) (h : VR γ K H O t x v) : VR γ K H O t' x v := by
  cases x with
  | lst o ds =>
    cases o with
    | false => exact h
    | true => exact nomatch ho
  | dct o tk ps =>
    cases o with
    | false => cases tk <;> exact h
    | true => exact nomatch ho
  | ins o c fs => exact h.elim
  | _ => exact h
theorem own_fz (x : D) : x.fz.own = false := by
  cases x <;> rfl
theorem fz_of {x : D} (h : x.own = false) (hi : ∀ o c fs, x ≠ .ins o c fs) : x.fz = x := by
  cases x with
  | lst o ds => cases o <;> first | rfl | exact nomatch h
  | dct o tk ps => cases o <;> first | rfl | exact nomatch h
  | ins o c fs => exact absurd rfl (hi o c fs)
  | _ => rfl
/-- the owner lets go of the value -/
theorem VR.fz (d : OD H O) (k : KeepN H O H O') {t t' : Tag} (x : D) {v : V} (hk : ∀ a, O a = some t → O' a = none) (h : VR γ K H O t x v) : VR γ K H O' t' x.fz v := by
  cases x with
  | lst o ds =>
    obtain ⟨a, vs, e, h1, h2, h3⟩ := h
    refine ⟨a, vs, e, h1, ?_, VRs.step d k ds h3⟩
    cases o with
    | false => exact (k a _ h1 h2 (fun _ e => nomatch e)).2
    | true => exact hk a h2
  | dct o tk ps =>
    cases tk with
    | false =>
      obtain ⟨a, vs, e, h1, h2, h3⟩ := h
      refine ⟨a, vs, e, h1, ?_, KRs.step d k ps h3⟩
      cases o with
      | false => exact (k a _ h1 h2 (fun _ e => nomatch e)).2
      | true => exact hk a h2
    | true =>
      obtain ⟨a, vs, e, h1, h2, h3⟩ := h
      refine ⟨a, vs, e, h1, ?_, TRs.step d k ps h3⟩
      cases o with
      | false => exact (k a _ h1 h2 (fun _ e => nomatch e)).2
      | true => exact hk a h2
  | ins o c fs => exact h.elim
  | non => exact h
  | bl b => exact h
  | int i => exact h
  | str s => exact h
  | tup ds => exact VR.stepN d k (.tup ds) rfl h
  | fn i => exact h
  | scr ns => exact VR.stepN d k (.scr ns) rfl h
  | tok d => exact h
  | tex x as => exact h

/-! ### the slots -/
structure RS (γ : GC) (K : PySem.W.Frag) (H : Hp) (O : OM) (env : EnvI) (σ : St) : Prop where
  od : OD H O
  len : env.length = σ.length
  sz : env.length < tT
  at_ : ∀ (i : Nat) (d : D), env[i]? = some (some d) → ∃ v, σ[i]? = some (some v) ∧ VR γ K H O (i, 0) d v
/-- from one state to a later one: what is not owned, and what is owned by others, is kept -/
structure Pst (H : Hp) (O : OM) (H' : Hp) (O' : OM) : Prop where
  non : KeepN H O H' O'
  frn : ∀ a o k, H a = some o → O a = some (fT, k) → H' a = some o ∧ O' a = some (fT, k)
/-- nothing that stands is changed -/
structure PstP (H : Hp) (O : OM) (H' : Hp) (O' : OM) : Prop where
  all : ∀ a o, H a = some o → noTbl o → H' a = some o
  non : ∀ a o, H a = some o → noTbl o → O a = none → O' a = none
  own : ∀ a t, O a = some t → t.1 ≠ tT → O' a = some t
theorem OD.noTbl (d : OD H O) {a : Addr} {t : Tag} {o : HO} (h : O a = some t) (e : H a = some o) : noTbl o := fun ps q => by
  obtain ⟨u, e2, m⟩ := d a t h
  rw [e] at e2
  cases e2
  rw [q] at m
  exact m.elim
theorem PstP.pst (p : PstP H O H' O') (d : OD H O) : Pst H O H' O' where
  non := fun a o h h2 h3 => ⟨p.all a o h h3, p.non a o h h3 h2⟩
  frn := fun a o k h h2 => ⟨p.all a o h (d.noTbl h2 h), p.own a _ h2 (show fT ≠ tT by decide)⟩
theorem Pst.refl (H : Hp) (O : OM) : Pst H O H O := ⟨fun _ _ h h2 _ => ⟨h, h2⟩, fun _ _ _ h h2 => ⟨h, h2⟩⟩
theorem PstP.refl (H : Hp) (O : OM) : PstP H O H O := ⟨fun _ _ h _ => h, fun _ _ _ _ h => h, fun _ _ h _ => h⟩
theorem Pst.trans {H2 : Hp} {O2 : OM} (p : Pst H O H' O') (q : Pst H' O' H2 O2) : Pst H O H2 O2 where
  non := fun a o h h2 h3 => by
    obtain ⟨h4, h5⟩ := p.non a o h h2 h3
    exact q.non a o h4 h5 h3
  frn := fun a o k h h2 => by
    obtain ⟨h4, h5⟩ := p.frn a o k h h2
    exact q.frn a o k h4 h5
theorem PstP.trans {H2 : Hp} {O2 : OM} (p : PstP H O H' O') (q : PstP H' O' H2 O2) : PstP H O H2 O2 where
  all := fun a o h h3 => q.all a o (p.all a o h h3) h3
  non := fun a o h h3 h2 => q.non a o (p.all a o h h3) h3 (p.non a o h h3 h2)
  own := fun a t h h2 => q.own a t (p.own a t h h2) h2
theorem RS.pure {env : EnvI} {σ : St} (r : RS γ K H O env σ) (d' : OD H' O') (p : PstP H O H' O') : RS γ K H' O' env σ where
  od := d'
  len := r.len
  sz := r.sz
  at_ := fun i x e => by
    obtain ⟨v, h1, h2⟩ := r.at_ i x e
    have hi : i < env.length := (List.getElem?_eq_some_iff.mp e).1
    refine ⟨v, h1, VR.step r.od (p.pst r.od).non x (fun a o h h3 => ⟨p.all a o h (r.od.noTbl h3 h), p.own a _ h3 (Nat.ne_of_lt (Nat.lt_trans hi r.sz))⟩) h2⟩
end
end MiS

set_option Elab.async false
set_option linter.all false
set_option maxRecDepth 100000
set_option maxHeartbeats 4000000
/-! MiS: what an expression's reading is -/
namespace MiS
open PySem PySem.Spec PyProof.Rows L2
open Mi (D Res Fl)

/-! ### what may change a slot's object -/
mutual
def mu : Mi.E → Bool
  | .c _ => false
  | .v _ => false
  | .mv _ => true
  | .fz _ => true
  | .g _ => false
  | .bin _ a b => mu a || mu b
  | .neg a => mu a
  | .nt a => mu a
  | .cmp a _ bs => mu a || mus bs
  | .and es => mus es
  | .or es => mus es
  | .ife t a b => mu t || (mu a || mu b)
  | .tup es => mus es
  | .lst es => mus es
  | .dic _ ks vs => mus ks || mus vs
  | .ix a b => mu a || mu b
  | .sl a lo hi => mu a || (muo lo || muo hi)
  | .rev a => mu a
  | .call _ es => mus es
  | .io _ => true
  | .cv _ es => mus es
  | .bi _ es => mus es
  | .pop _ _ => true
  | .lc _ elt _ it ifs gs => muI it || (mu elt || (muo ifs || muGs gs))
  | .act _ => false
  | .lam _ _ es => mus es
  | .mk _ es => mus es
  | .fld a _ => mu a
  | .dget a k d => mu a || (mu k || mu d)
  | .mth _ a e => mu a || mu e
def mus : List Mi.E → Bool
  | [] => false
  | e :: es => mu e || mus es
def muo : Option Mi.E → Bool
  | none => false
  | some e => mu e
def muG : Mi.G → Bool
  | .mk _ _ it ifs => muI it || muo ifs
def muGs : List Mi.G → Bool
  | [] => false
  | g :: gs => muG g || muGs gs
def muI : Mi.I → Bool
  | .seq e => mu e
  | .rng es => mus es
  | .enum e => mu e
  | .zip a b => mu a || mu b
  | .items e => mu e
end

section
variable {γ : GC} {K : PySem.W.Frag} {H H1 H2 H' : Hp} {O O1 O2 O' : OM}
def PstB (b : Bool) (H : Hp) (O : OM) (H' : Hp) (O' : OM) : Prop := if b = true then Pst H O H' O' else PstP H O H' O'
theorem PstB.pst {b : Bool} (p : PstB b H O H' O') (d : OD H O) : Pst H O H' O' := by
  cases b with
  | true => exact p
  | false => exact PstP.pst p d
theorem PstB.of {b : Bool} (p : PstP H O H' O') (d : OD H O) : PstB b H O H' O' := by
  cases b with
  | true => exact p.pst d
  | false => exact p
theorem PstB.trans {b c : Bool} (d : OD H O) (d1 : OD H1 O1) (p : PstB b H O H1 O1) (q : PstB c H1 O1 H2 O2) : PstB (b || c) H O H2 O2 := by
  cases b with
  | true => exact Pst.trans p (q.pst d1)
  | false =>
    cases c with
    | true => exact Pst.trans (PstP.pst p d) q
    | false => exact PstP.trans p q
theorem PstB.weak {b c : Bool} (d : OD H O) (p : PstB b H O H' O') (h : b = true → c = true) : PstB c H O H' O' := by
  cases b with
  | true =>
    rw [h rfl]
    exact p
  | false => exact .of p d
/-- all that stands is kept -/
structure PstS (H : Hp) (O : OM) (H' : Hp) (O' : OM) : Prop where
  all : ∀ a o, H a = some o → H' a = some o
  non : ∀ a o, H a = some o → O a = none → O' a = none
  own : ∀ a t, O a = some t → t.1 ≠ tT → O' a = some t
theorem PstS.p (p : PstS H O H' O') : PstP H O H' O' := ⟨fun a o h _ => p.all a o h, fun a o h _ h2 => p.non a o h h2, p.own⟩
theorem PstS.refl (H : Hp) (O : OM) : PstS H O H O := ⟨fun _ _ h => h, fun _ _ _ h => h, fun _ _ h _ => h⟩

/-! ### what was just made is put aside -/
def toF (O : OM) : OM := fun a => match O a with
  | some t => if t.1 = tT then some (fT, t.2) else some t
  | none => none
theorem toF_none {a : Addr} (h : O a = none) : toF O a = none := by
  unfold toF
  rw [h]
theorem toF_own {a : Addr} {t : Tag} (h : O a = some t) (ht : t.1 ≠ tT) : toF O a = some t := by
  unfold toF
  rw [h]
  exact if_neg ht
theorem toF_tmp {a : Addr} (h : O a = some tmp) : toF O a = some (fT, 0) := by
  unfold toF
  rw [h]
  rfl
theorem toF_ex {a : Addr} {t : Tag} (h : toF O a = some t) : ∃ t', O a = some t' := by
  unfold toF at h
  cases q : O a with
  | none =>
    rw [q] at h
    cases h
  | some t' => exact ⟨t', rfl⟩
theorem OD.toF (d : OD H O) : OD H (toF O) := fun a t h => by
  obtain ⟨t', q⟩ := toF_ex h
  exact d a t' q
theorem toF_s (H : Hp) (O : OM) : PstS H O H (toF O) := ⟨fun _ _ h => h, fun _ _ _ h => toF_none h, fun _ _ h ht => toF_own h ht⟩
/-- .. let go -/
def unT (O : OM) : OM := fun a => match O a with
  | some t => if t.1 = tT then none else some t
  | none => none
theorem unT_none {a : Addr} (h : O a = none) : unT O a = none := by
  unfold unT
  rw [h]
theorem unT_own {a : Addr} {t : Tag} (h : O a = some t) (ht : t.1 ≠ tT) : unT O a = some t := by
  unfold unT
  rw [h]
  exact if_neg ht
theorem unT_tmp {a : Addr} (h : O a = some tmp) : unT O a = none := by
  unfold unT
  rw [h]
  rfl
theorem OD.unT (d : OD H O) : OD H (unT O) := fun a t h => by
  unfold MiS.unT at h
  cases q : O a with
  | none =>
    rw [q] at h
    cases h
  | some t' => exact d a t' q
theorem unT_s (H : Hp) (O : OM) : PstS H O H (unT O) := ⟨fun _ _ h => h, fun _ _ _ h => unT_none h, fun _ _ h ht => unT_own h ht⟩

theorem PstB.s {b : Bool} (d : OD H O) (d1 : OD H1 O1) (p : PstB b H O H1 O1) (q : PstS H1 O1 H2 O2) : PstB b H O H2 O2 := by
  have := PstB.trans (c := false) d d1 p q.p
  rwa [Bool.or_false] at this
theorem RS.s {env : EnvI} {σ : St} (r : RS γ K H O env σ) (d' : OD H' O') (p : PstS H O H' O') : RS γ K H' O' env σ := r.pure d' p.p
/-- a value that is not owned, at a later state -/
theorem VR.b {b : Bool} {t t' : Tag} {x : D} {v : V} (d : OD H O) (p : PstB b H O H' O') (ho : x.own = false) (h : VR γ K H O t x v) : VR γ K H' O' t' x v := VR.stepN d (p.pst d).non x ho h
theorem VR.s {t : Tag} {x : D} {v : V} (d : OD H O) (p : PstS H O H' O') (ht : t.1 ≠ tT) (h : VR γ K H O t x v) : VR γ K H' O' t x v :=
  VR.step d (p.p.pst d).non x (fun a o e h3 => ⟨p.all a o e, p.own a _ h3 ht⟩) h

/-! ### new objects -/
def ownP (O : OM) (p : Addr) : OM := fun a => if a = p then some tmp else O a
theorem ownP_same {p : Addr} : ownP O p p = some tmp := if_pos rfl
theorem ownP_ne {p a : Addr} (h : a ≠ p) : ownP O p a = O a := if_neg h
theorem new_s {p : Addr} {o : HO} (d : OD H O) (hp : H p = none) : PstS H O (upd H p o) O where
  all := fun a u h => by
    rw [upd_ne (ne_of_none h hp)]
    exact h
  non := fun _ _ _ h => h
  own := fun _ _ h _ => h
theorem new_od {p : Addr} {o : HO} (d : OD H O) (hp : H p = none) : OD (upd H p o) O := fun a t h => by
  obtain ⟨u, e, m⟩ := d a t h
  exact ⟨u, by rw [upd_ne (ne_of_none e hp)]; exact e, m⟩
theorem newO_s {p : Addr} {o : HO} (d : OD H O) (hp : H p = none) : PstS H O (upd H p o) (ownP O p) where
  all := (new_s (o := o) d hp).all
  non := fun a u h h2 => by
    rw [ownP_ne (ne_of_none h hp)]
    exact h2
  own := fun a t h _ => by
    obtain ⟨u, e, _⟩ := d a t h
    rw [ownP_ne (ne_of_none e hp)]
    exact h
theorem newO_od {p : Addr} {o : HO} (d : OD H O) (hp : H p = none) (m : MutO o) : OD (upd H p o) (ownP O p) := fun a t h => by
  by_cases e : a = p
  · rw [e]
    exact ⟨o, upd_same, m⟩
  · rw [ownP_ne e] at h
    obtain ⟨u, e2, m2⟩ := d a t h
    exact ⟨u, by rw [upd_ne e]; exact e2, m2⟩
theorem VRs.s {xs : List D} {vs : List V} (d : OD H O) (p : PstS H O H' O') (h : VRs γ K H O xs vs) : VRs γ K H' O' xs vs := VRs.step d (p.p.pst d).non xs h
theorem new_lst {p : Addr} {xs : List D} {vs : List V} (d : OD H O) (hp : H p = none) (h : VRs γ K H O xs vs) : VR γ K (upd H p (.lst vs)) (ownP O p) tmp (.lst true xs) (.ref p) :=
  ⟨p, vs, rfl, upd_same, ownP_same, h.s d (newO_s d hp)⟩
theorem new_tup {p : Addr} {t : Tag} {xs : List D} {vs : List V} (d : OD H O) (hp : H p = none) (h : VRs γ K H O xs vs) : VR γ K (upd H p (.tup vs)) O t (.tup xs) (.ref p) :=
  ⟨p, vs, rfl, upd_same, h.s d (new_s d hp)⟩
theorem new_dK {p : Addr} (hp : H p = none) : VR γ K (upd H p (.dK [])) (ownP O p) tmp (.dct true false []) (.ref p) := ⟨p, [], rfl, upd_same, ownP_same, rfl⟩
theorem new_dT {p : Addr} (hp : H p = none) : VR γ K (upd H p (.dT [])) (ownP O p) tmp (.dct true true []) (.ref p) := ⟨p, [], rfl, upd_same, ownP_same, rfl⟩

/-! ### readings -/
/-- an exception: its class, what it tells -/
def XR (γ : GC) (x : Nat) (as : List D) (cls : Value) (dx : Option Addr) (H' : Hp) : Prop :=
  cls = .ref (γ.xad x) ∧ ((as = [] ∧ dx = none) ∨ ∃ d a v, as = [d] ∧ dx = some a ∧ H' a = some (.xd [(γ.xfl x, v)]) ∧ d.scal = true ∧ VR γ [] H' (fun _ => none) (0, 0) d v)
/-- where an exception leaves: what is not owned here is kept -/
def PstX (H : Hp) (O : OM) (H' : Hp) : Prop := ∀ a o, H a = some o → (O a = none ∨ ∃ k, O a = some (fT, k)) → noTbl o → H' a = some o
theorem PstX.of (p : Pst H O H1 O1) (q : PstX H1 O1 H') : PstX H O H' := fun a o h h2 h3 => by
  rcases h2 with h2 | ⟨k, h2⟩
  · obtain ⟨h4, h5⟩ := p.non a o h h2 h3
    exact q a o h4 (.inl h5) h3
  · obtain ⟨h4, h5⟩ := p.frn a o k h h2
    exact q a o h4 (.inr ⟨k, h5⟩) h3
abbrev TabL := List (Addr × Str)
def PoX (γ : GC) (T : TabL) (E : XK) (H : Hp) (O : OM) (x : Nat) (as : List D) : Prop := ∀ cls dx H', PstX H O H' → XR γ x as cls dx H' → LamX.Tabs T H' → E cls dx H'
theorem PoX.of {T : TabL} {E : XK} {x : Nat} {as : List D} (p : Pst H O H1 O1) (q : PoX γ T E H O x as) : PoX γ T E H1 O1 x as := fun cls dx H' h1 h2 h3 => q cls dx H' (.of p h1) h2 h3
def PoE (γ : GC) (K : PySem.W.Frag) (T : TabL) (E : XK) (H : Hp) (O : OM) (σ : St) (b vw : Bool) (r : Res (D × EnvI)) (Q : VK) : Prop :=
  match r with
  | .ok p => ∀ v H' O' t, PstB b H O H' O' → RS γ K H' O' p.2 σ → VR γ K H' O' t p.1 v → (vw = false → t = tmp) → LamX.Tabs T H' → Q v H'
  | .exc x as => PoX γ T E H O x as
  | .stk => False
/-- the reading of an expression -/
def tE (γ : GC) (K : PySem.W.Frag) (T : TabL) (E : XK) (f : EnvI → Res (D × EnvI)) (b vw : Bool) : TE := fun σ H Q =>
  ∃ env O, RS γ K H O env σ ∧ LamX.Tabs T H ∧ PoE γ K T E H O σ b vw (f env) Q
def PoT (γ : GC) (K : PySem.W.Frag) (T : TabL) (E : XK) (H : Hp) (O : OM) (σ : St) (b : Bool) (r : Res (Bool × EnvI)) (Q : Bool → Hp → Prop) : Prop :=
  match r with
  | .ok p => ∀ H' O', PstB b H O H' O' → RS γ K H' O' p.2 σ → LamX.Tabs T H' → Q p.1 H'
  | .exc x as => PoX γ T E H O x as
  | .stk => False
/-- .. as a test -/
def tTst (γ : GC) (K : PySem.W.Frag) (T : TabL) (E : XK) (f : EnvI → Res (Bool × EnvI)) (b : Bool) : TT := fun σ H Q =>
  ∃ env O, RS γ K H O env σ ∧ LamX.Tabs T H ∧ PoT γ K T E H O σ b (f env) Q
theorem PE.weak {X : Cx} {e : Expr} {t t' : TE} (h : PE X e t) (i : ∀ σ H Q, t' σ H Q → t σ H Q) : PE X e t' := ⟨fun p s σ H Q I h' => h.run p s σ H Q I (i σ H Q h')⟩
theorem PT.weak {X : Cx} {e : Expr} {t t' : TT} (h : PT X e t) (i : ∀ σ H Q, t' σ H Q → t σ H Q) : PT X e t' := ⟨fun p s σ H Q I h' => h.run p s σ H Q I (i σ H Q h')⟩
theorem PW.weak {X : Cx} {e : Expr} {t t' : TT} (h : PW X e t) (i : ∀ σ H Q, t' σ H Q → t σ H Q) : PW X e t' := ⟨fun wh p s σ H Q I h' => h.run wh p s σ H Q I (i σ H Q h')⟩
theorem OpR.weak {X : Cx} {f : Value → Value → Sem Value} {r r' : R2} (h : OpR X f r) (i : ∀ x y H Q, r' x y H Q → r x y H Q) : OpR X f r' := fun p s σ H x y v u Q I h1 h2 h3 => h p s σ H x y v u Q I h1 h2 (i x y H Q h3)
theorem CallR.weak {X : Cx} {f : Value} {r r' : List V → Hp → VK → Prop} (h : CallR X f r) (i : ∀ x H Q, r' x H Q → r x H Q) : CallR X f r' := fun p s σ H vs us Q I h1 h2 => h p s σ H vs us Q I h1 (i vs H Q h2)
theorem PA.weak {X : Cx} {es : List Expr} {t t' : TA} (h : PA X es t) (i : ∀ σ H Q, t' σ H Q → t σ H Q) : PA X es t' := ⟨fun po p s σ H Q I h' => h.run po p s σ H Q I (i σ H Q h')⟩
theorem tabs_s {T : TabL} (p : PstS H O H' O') (h : LamX.Tabs T H) : LamX.Tabs T H' := h.ext p.all

/-- an operand's value, kept while the next one is made -/
theorem hold {env e1 : EnvI} {σ : St} {b c vw : Bool} {x : D} {v : V} {t : Tag} (R : RS γ K H O env σ) (p : PstB b H O H1 O1) (r : RS γ K H1 O1 e1 σ) (h : VR γ K H1 O1 t x v) (ht : vw = false → t = tmp) (hc : vw = false ∨ c = false) :
    ∃ O1', PstB b H O H1 O1' ∧ RS γ K H1 O1' e1 σ ∧ ∀ H2 O2, PstB c H1 O1' H2 O2 → ∃ t', VR γ K H2 O2 t' x v := by
  by_cases e : t.1 = tT
  · refine ⟨toF O1, p.s R.od r.od (toF_s _ _), r.s r.od.toF (toF_s _ _), fun H2 O2 q => ⟨(fT, t.2), ?_⟩⟩
    have q' := q.pst r.od.toF
    have hx : VR γ K H1 (toF O1) (fT, t.2) x v := VR.step r.od ((toF_s H1 O1).p.pst r.od).non x (fun a o h1 h3 => ⟨h1, by
      unfold toF
      rw [h3]
      exact if_pos e⟩) h
    exact VR.step r.od.toF q'.non x (fun a o h1 h3 => q'.frn a o _ h1 h3) hx
  · have hc' : c = false := by
      rcases hc with z | z
      · rw [ht z] at e
        exact absurd rfl e
      · exact z
    refine ⟨O1, p, r, fun H2 O2 q => ⟨t, ?_⟩⟩
    rw [hc'] at q
    have q' : PstP H1 O1 H2 O2 := q
    exact VR.step r.od (q'.pst r.od).non x (fun a o h1 h3 => ⟨q'.all a o h1 (r.od.noTbl h3 h1), q'.own a _ h3 e⟩) h
/-- a value whose owner is not in the way -/
theorem hold2 {x : D} {v : V} {t : Tag} (d : OD H O) (h : VR γ K H O t x v) : ∃ t', t'.1 ≠ tT ∧ VR γ K H (toF O) t' x v := by
  by_cases e : t.1 = tT
  · refine ⟨(fT, t.2), (show fT ≠ tT by decide), VR.step d ((toF_s H O).p.pst d).non x (fun a o h1 h3 => ⟨h1, ?_⟩) h⟩
    unfold toF
    rw [h3]
    exact if_pos e
  · exact ⟨t, e, VR.s d (toF_s H O) e h⟩
theorem VR.pp {t : Tag} {x : D} {v : V} (d : OD H O) (p : PstP H O H' O') (ht : t.1 ≠ tT) (h : VR γ K H O t x v) : VR γ K H' O' t x v :=
  VR.step d (p.pst d).non x (fun a o e h3 => ⟨p.all a o e (d.noTbl h3 e), p.own a _ h3 ht⟩) h
end
end MiS

set_option Elab.async false
set_option linter.all false
set_option maxRecDepth 100000
set_option maxHeartbeats 4000000
/-! MiS: operators by values -/
namespace MiS
open PySem PySem.Spec PyProof.Rows L2
open Mi (D Res Fl)

def rD (γ : GC) (K : PySem.W.Frag) (g : D → D → Option D) : R2 := fun v w H Q => ∃ O x y t t2 d, OD H O ∧ VR γ K H O t x v ∧ VR γ K H O t2 y w ∧ g x y = some d ∧
  ∀ v' H' O', PstS H O H' O' → OD H' O' → VR γ K H' O' tmp d v' → Q v' H'
section
variable {γ : GC} {K : PySem.W.Frag} {H : Hp} {O : OM} {X : Cx}
theorem mkS_app (a b : List Nat) : mkS a ++ mkS b = mkS (a ++ b) := by
  show (⟨a.toArray ++ b.toArray⟩ : Str) = ⟨(a ++ b).toArray⟩
  simp
theorem mkS_len (a : List Nat) : (mkS a).length = a.length := by
  show a.toArray.size = a.length
  simp
theorem mkS_ok_app {a b : List Nat} (ha : PyData.strOk (mkS a) = true) (hb : PyData.strOk (mkS b) = true) : PyData.strOk (mkS (a ++ b)) = true := by
  unfold PyData.strOk mkS at *
  simp only [List.all_toArray, List.all_append, Bool.and_eq_true] at *
  exact ⟨ha, hb⟩
theorem VRs.len : ∀ {xs : List D} {vs : List V}, VRs γ K H O xs vs → xs.length = vs.length
  | [], _, h => by
    have e : _ = [] := h
    rw [e]
    rfl
  | x :: xs, _, h => by
    obtain ⟨v, r, e, _, _, h2⟩ := h
    rw [e, List.length_cons, List.length_cons, VRs.len h2]
theorem VRs.app : ∀ {xs ys : List D} {vs ws : List V}, VRs γ K H O xs vs → VRs γ K H O ys ws → VRs γ K H O (xs ++ ys) (vs ++ ws)
  | [], _, _, _, h, h2 => by
    have e : _ = [] := h
    rw [e]
    exact h2
  | x :: xs, _, _, _, h, h2 => by
    obtain ⟨v, r, e, ho, h1, h3⟩ := h
    rw [e]
    exact ⟨v, _, rfl, ho, h1, VRs.app h3 h2⟩
theorem rep_eq {α : Type} (xs : List α) : ∀ n, (List.replicate n xs).flatten = Mi.rep xs n
  | 0 => rfl
  | n + 1 => by
    rw [List.replicate_succ, List.flatten_cons, rep_eq xs n]
    rfl
theorem VRs.rep {xs : List D} {vs : List V} (h : VRs γ K H O xs vs) : ∀ n, VRs γ K H O (Mi.rep xs n) (Mi.rep vs n)
  | 0 => rfl
  | n + 1 => VRs.app h (VRs.rep h n)
theorem line_eq : (sizeLine : Nat) = Mi.line := sizeLine_eq
theorem iteS {α : Type} {c : Prop} [Decidable c] {x d : α} (h : (if c then some x else none) = some d) : c ∧ x = d := by
  split at h
  · exact ⟨by assumption, Option.some.inj h⟩
  · cases h
/-- a scalar as an answer -/
theorem fin0 {d : D} {v : V} {Q : VK} (od : OD H O) (q : ∀ v' H' O', PstS H O H' O' → OD H' O' → VR γ K H' O' tmp d v' → Q v' H') (h : VR γ K H O tmp d v) : Q v H := q v H O (PstS.refl H O) od h
theorem finL {xs : List D} {vs : List V} {Q : VK} (od : OD H O) (q : ∀ v' H' O', PstS H O H' O' → OD H' O' → VR γ K H' O' tmp (.lst true xs) v' → Q v' H') (h : VRs γ K H O xs vs) {p : Addr} (hp : H p = none) : Q (.ref p) (upd H p (.lst vs)) :=
  q _ _ _ (newO_s od hp) (newO_od od hp trivial) (new_lst od hp h)
theorem finT {xs : List D} {vs : List V} {Q : VK} (od : OD H O) (q : ∀ v' H' O', PstS H O H' O' → OD H' O' → VR γ K H' O' tmp (.tup xs) v' → Q v' H') (h : VRs γ K H O xs vs) {p : Addr} (hp : H p = none) : Q (.ref p) (upd H p (.tup vs)) :=
  q _ _ _ (new_s od hp) (new_od od hp) (new_tup od hp h)

theorem ok_add : OpR X (binaryOp .Add) (rD γ X.K (Mi.binD .add)) := by
  intro pins s σ H v w v1 w1 Q I rv rw ⟨O, x, y, t, t2, d, od, hx, hy, hg, q⟩
  cases x with
  | int i =>
    cases y with
    | int j =>
      cases hg
      exact op_add pins s σ H _ _ _ _ _ I rv rw ⟨i, j, hx, hy, fin0 od q rfl⟩
    | _ => exact nomatch hg
  | str a =>
    cases y with
    | str b =>
      obtain ⟨hl, e⟩ := iteS hg
      subst e
      refine op_add_str pins s σ H _ _ _ _ _ I rv rw ⟨_, _, hx.1, hy.1, ?_, fin0 od q ⟨?_, mkS_ok_app hx.2 hy.2⟩⟩
      · rw [mkS_len, mkS_len, line_eq]
        exact hl
      · rw [mkS_app]
    | _ => exact nomatch hg
  | tup a =>
    cases y with
    | tup b =>
      obtain ⟨hl, e⟩ := iteS hg
      subst e
      obtain ⟨p1, vs, e1, h1, h2⟩ := hx
      obtain ⟨p2, ws, e2, h3, h4⟩ := hy
      refine op_catA pins s σ H _ _ _ _ _ I rv rw ⟨p1, p2, vs, ws, e1, e2, .of h1, .of h3, ?_, fun e => fin0 od q ?_, fun _ e => fin0 od q ?_, fun _ _ p hp => finT od q (h2.app h4) hp⟩
      · rw [← h2.len, ← h4.len, line_eq]
        exact hl
      · have ea : a = [] := List.eq_nil_of_length_eq_zero (by rw [h2.len, e]; rfl)
        rw [ea]
        exact ⟨p2, ws, rfl, h3, h4⟩
      · have eb : b = [] := List.eq_nil_of_length_eq_zero (by rw [h4.len, e]; rfl)
        rw [eb, List.append_nil]
        exact ⟨p1, vs, rfl, h1, h2⟩
    | _ => exact nomatch hg
  | lst o a =>
    cases y with
    | lst o2 b =>
      obtain ⟨hl, e⟩ := iteS hg
      subst e
      obtain ⟨p1, vs, e1, h1, _, h2⟩ := hx
      obtain ⟨p2, ws, e2, h3, _, h4⟩ := hy
      refine op_cat pins s σ H _ _ _ _ _ I rv rw ⟨p1, p2, vs, ws, e1, e2, h1, h3, ?_, fun p hp => finL od q (h2.app h4) hp⟩
      rw [← h2.len, ← h4.len, line_eq]
      exact hl
    | _ => exact nomatch hg
  | _ => exact nomatch hg
theorem ok_sub : OpR X (binaryOp .Sub) (rD γ X.K (Mi.binD .sub)) := by
  intro pins s σ H v w v1 w1 Q I rv rw ⟨O, x, y, t, t2, d, od, hx, hy, hg, q⟩
  cases x with
  | int i =>
    cases y with
    | int j =>
      cases hg
      exact op_sub pins s σ H _ _ _ _ _ I rv rw ⟨i, j, hx, hy, fin0 od q rfl⟩
    | _ => exact nomatch hg
  | _ => exact nomatch hg
theorem smallI_ok {i : Int} (h : Mi.smallI i = true) : -(2 ^ 64) < i ∧ i < 2 ^ 64 := by
  unfold Mi.smallI Mi.big at h
  simp only [Bool.and_eq_true, decide_eq_true_eq] at h
  exact h
theorem ok_mul : OpR X (binaryOp .Mult) (rD γ X.K (Mi.binD .mul)) := by
  intro pins s σ H v w v1 w1 Q I rv rw ⟨O, x, y, t, t2, d, od, hx, hy, hg, q⟩
  cases x with
  | int i =>
    cases y with
    | int j =>
      obtain ⟨hl, e⟩ := iteS hg
      subst e
      refine op_mul pins s σ H _ _ _ _ _ I rv rw ⟨i, j, hx, hy, ?_, fin0 od q rfl⟩
      rcases Bool.or_eq_true_iff.mp hl with h | h
      · exact .inl (smallI_ok h)
      · exact .inr (smallI_ok h)
    | _ => exact nomatch hg
  | lst o a =>
    cases y with
    | int j =>
      obtain ⟨⟨hl1, hl2⟩, e⟩ := iteS hg
      subst e
      obtain ⟨p1, vs, e1, h1, _, h2⟩ := hx
      refine op_rep pins s σ H _ _ _ _ _ I rv rw ⟨p1, j, vs, e1, hy, h1, by omega, by omega, ?_, fun p hp => ?_⟩
      · rw [← h2.len, line_eq]
        exact hl2
      · rw [rep_eq]
        exact finL od q (h2.rep _) hp
    | _ => exact nomatch hg
  | tup a =>
    cases y with
    | int j =>
      obtain ⟨⟨hl1, hl2, hl3, hl4⟩, e⟩ := iteS hg
      subst e
      obtain ⟨p1, vs, e1, h1, h2⟩ := hx
      refine op_repT pins s σ H _ _ _ _ _ I rv rw ⟨p1, j, vs, e1, hy, .of h1, ?_, hl1, by omega, by rw [← h2.len]; exact hl4, fun p hp => ?_⟩
      · intro e
        rw [h2.len, e] at hl3
        exact absurd hl3 (by decide)
      · rw [rep_eq]
        exact finT od q (h2.rep _) hp
    | _ => exact nomatch hg
  | _ => exact nomatch hg
theorem ok_fdiv : OpR X (binaryOp .FloorDiv) (rD γ X.K (Mi.binD .fdiv)) := by
  intro pins s σ H v w v1 w1 Q I rv rw ⟨O, x, y, t, t2, d, od, hx, hy, hg, q⟩
  cases x with
  | int i =>
    cases y with
    | int j =>
      obtain ⟨hl, e⟩ := iteS hg
      subst e
      exact op_fdivW pins s σ H _ _ _ _ _ I rv rw ⟨i, j, hx, hy, hl, fin0 od q rfl⟩
    | _ => exact nomatch hg
  | _ => exact nomatch hg
theorem ok_mod : OpR X (binaryOp .Mod) (rD γ X.K (Mi.binD .mod)) := by
  intro pins s σ H v w v1 w1 Q I rv rw ⟨O, x, y, t, t2, d, od, hx, hy, hg, q⟩
  cases x with
  | int i =>
    cases y with
    | int j =>
      obtain ⟨hl, e⟩ := iteS hg
      subst e
      exact op_mod pins s σ H _ _ _ _ _ I rv rw ⟨i, j, hx, hy, hl, fin0 od q rfl⟩
    | _ => exact nomatch hg
  | _ => exact nomatch hg
theorem ok_pow : OpR X (binaryOp .Pow) (rD γ X.K (Mi.binD .pow)) := by
  intro pins s σ H v w v1 w1 Q I rv rw ⟨O, x, y, t, t2, d, od, hx, hy, hg, q⟩
  cases x with
  | int i =>
    cases y with
    | int j =>
      obtain ⟨hl, e⟩ := iteS hg
      subst e
      exact op_pow pins s σ H _ _ _ _ _ I rv rw ⟨i, j, hx, hy, hl, fin0 od q rfl⟩
    | _ => exact nomatch hg
  | _ => exact nomatch hg
end
end MiS

set_option Elab.async false
set_option linter.all false
set_option maxRecDepth 100000
set_option maxHeartbeats 4000000
/-! MiS: comparisons, places, slices by values -/
namespace MiS
open PySem PySem.Spec PyProof.Rows L2
open Mi (D Res Fl)
mutual
def toPy : D → PyData
  | .non => .none
  | .bl b => .bool b
  | .int i => .int i
  | .str s => .str (mkS s)
  | .tup xs => .tuple (toPys xs)
  | .lst _ xs => .list (toPys xs)
  | _ => .none
def toPys : List D → List PyData
  | [] => []
  | x :: xs => toPy x :: toPys xs
end
section
variable {γ : GC} {K : PySem.W.Frag} {H : Hp} {O : OM} {X : Cx}
mutual
theorem dp_of : ∀ (n : Nat) (t : Tag) (x : D) {v : V}, Mi.okN n x = true → VR γ K H O t x v → Dp K H v (toPy x) ∧ PyData.canLay0 (toPy x) = true ∧ PyData.depth (toPy x) ≤ n
  | n, _, .non, _, _, h => by
    cases (show _ = V.non from h)
    exact ⟨.non, by simp [toPy, PyData.canLay0], by simp [toPy, PyData.depth]⟩
  | n, _, .bl b, _, _, h => by
    cases (show _ = V.bl b from h)
    exact ⟨.bl b, by simp [toPy, PyData.canLay0], by simp [toPy, PyData.depth]⟩
  | n, _, .int i, _, _, h => by
    cases (show _ = V.int i from h)
    exact ⟨.int i, by simp [toPy, PyData.canLay0], by simp [toPy, PyData.depth]⟩
  | n, _, .str s, _, _, h => by
    obtain ⟨e, h2⟩ := h
    subst e
    exact ⟨.str _, by simpa [toPy, PyData.canLay0] using h2, by simp [toPy, PyData.depth]⟩
  | n + 1, _, .tup xs, _, hn, h => by
    obtain ⟨a, vs, e, h1, h2⟩ := h
    subst e
    obtain ⟨q1, q2, q3⟩ := dps_of n xs (by simpa [Mi.okN] using hn) h2
    exact ⟨.tup (.of h1) q1, by simpa [toPy, PyData.canLay0] using q2, by simp only [toPy, PyData.depth]; omega⟩
  | n + 1, _, .lst _ xs, _, hn, h => by
    obtain ⟨a, vs, e, h1, _, h2⟩ := h
    subst e
    obtain ⟨q1, q2, q3⟩ := dps_of n xs (by simpa [Mi.okN] using hn) h2
    exact ⟨.lst (.of h1) q1, by simpa [toPy, PyData.canLay0] using q2, by simp only [toPy, PyData.depth]; omega⟩
  | 0, _, .tup xs, _, hn, h => by simp [Mi.okN] at hn
  | 0, _, .lst _ xs, _, hn, h => by simp [Mi.okN] at hn
  | _, _, .dct _ _ _, _, hn, h => by simp [Mi.okN] at hn
  | _, _, .ins _ _ _, _, hn, h => by simp [Mi.okN] at hn
  | _, _, .fn _, _, hn, h => by simp [Mi.okN] at hn
  | _, _, .scr _, _, hn, h => by simp [Mi.okN] at hn
  | _, _, .tok _, _, hn, h => by simp [Mi.okN] at hn
  | _, _, .tex _ _, _, hn, h => by simp [Mi.okN] at hn
theorem dps_of : ∀ (n : Nat) (xs : List D) {vs : List V}, Mi.okNs n xs = true → VRs γ K H O xs vs → DpAll K H vs (toPys xs) ∧ PyData.canLayAll0 (toPys xs) = true ∧ PyData.depthAll (toPys xs) ≤ n
  | n, [], _, _, h => by
    cases (show _ = [] from h)
    exact ⟨.nil, by simp [toPys, PyData.canLayAll0], by simp [toPys, PyData.depthAll]⟩
  | n, x :: xs, _, hn, h => by
    obtain ⟨v, r, e, _, h1, h2⟩ := h
    subst e
    have hn' : Mi.okN n x = true ∧ Mi.okNs n xs = true := by simpa [Mi.okNs] using hn
    obtain ⟨a1, a2, a3⟩ := dp_of n _ x hn'.1 h1
    obtain ⟨b1, b2, b3⟩ := dps_of n xs hn'.2 h2
    exact ⟨.cons a1 b1, by simp [toPys, PyData.canLayAll0, a2, b2], by simp only [toPys, PyData.depthAll]; omega⟩
end
theorem mkS_inj {a b : List Nat} (h : mkS a = mkS b) : a = b := by
  have e : a.toArray = b.toArray := congrArg Str.cps h
  have e2 : a.toArray.toList = b.toArray.toList := by rw [e]
  simpa using e2
theorem mkS_eq (a b : List Nat) : (mkS a == mkS b) = decide (a = b) := by
  by_cases h : a = b
  · subst h
    simp
  · rw [decide_eq_false h]
    exact beq_eq_false_iff_ne.mpr fun e => h (mkS_inj e)
mutual
theorem eqv_of : ∀ (n m : Nat) (x y : D), Mi.okN n x = true → Mi.okN m y = true → PyData.eqv (toPy x) (toPy y) = Mi.eqD x y
  | n, m, x, y, hx, hy => by
    cases x with
    | tup xs =>
      cases y with
      | tup ys =>
        cases n with
        | zero => simp [Mi.okN] at hx
        | succ n =>
          cases m with
          | zero => simp [Mi.okN] at hy
          | succ m =>
            have := eqvs_of n m xs ys (by simpa [Mi.okN] using hx) (by simpa [Mi.okN] using hy)
            simpa [toPy, PyData.eqv, Mi.eqD] using this
      | lst o ys => simp [toPy, PyData.eqv, Mi.eqD]
      | dct _ _ _ => simp [Mi.okN] at hy
      | ins _ _ _ => simp [Mi.okN] at hy
      | fn _ => simp [Mi.okN] at hy
      | scr _ => simp [Mi.okN] at hy
      | tok _ => simp [Mi.okN] at hy
      | tex _ _ => simp [Mi.okN] at hy
      | _ => simp [toPy, PyData.eqv, Mi.eqD]
    | lst o xs =>
      cases y with
      | lst o2 ys =>
        cases n with
        | zero => simp [Mi.okN] at hx
        | succ n =>
          cases m with
          | zero => simp [Mi.okN] at hy
          | succ m =>
            have := eqvs_of n m xs ys (by simpa [Mi.okN] using hx) (by simpa [Mi.okN] using hy)
            simpa [toPy, PyData.eqv, Mi.eqD] using this
      | tup ys => simp [toPy, PyData.eqv, Mi.eqD]
      | dct _ _ _ => simp [Mi.okN] at hy
      | ins _ _ _ => simp [Mi.okN] at hy
      | fn _ => simp [Mi.okN] at hy
      | scr _ => simp [Mi.okN] at hy
      | tok _ => simp [Mi.okN] at hy
      | tex _ _ => simp [Mi.okN] at hy
      | _ => simp [toPy, PyData.eqv, Mi.eqD]
    | dct _ _ _ => simp [Mi.okN] at hx
    | ins _ _ _ => simp [Mi.okN] at hx
    | fn _ => simp [Mi.okN] at hx
    | scr _ => simp [Mi.okN] at hx
    | tok _ => simp [Mi.okN] at hx
    | tex _ _ => simp [Mi.okN] at hx
    | non => cases y <;> simp [toPy, PyData.eqv, Mi.eqD] <;> simp [Mi.okN] at hy
    | bl b => cases y <;> simp [toPy, PyData.eqv, Mi.eqD, Bool.beq_eq_decide_eq] <;> simp [Mi.okN] at hy
    | int i => cases y <;> simp [toPy, PyData.eqv, Mi.eqD, Bool.beq_eq_decide_eq] <;> simp [Mi.okN] at hy
    | str s => cases y <;> simp [toPy, PyData.eqv, Mi.eqD, mkS_eq] <;> simp [Mi.okN] at hy
theorem eqvs_of : ∀ (n m : Nat) (xs ys : List D), Mi.okNs n xs = true → Mi.okNs m ys = true → PyData.eqvAll (toPys xs) (toPys ys) = Mi.eqDs xs ys
  | _, _, [], [], _, _ => by simp [toPys, PyData.eqvAll, Mi.eqDs]
  | _, _, [], _ :: _, _, _ => by simp [toPys, PyData.eqvAll, Mi.eqDs]
  | _, _, _ :: _, [], _, _ => by simp [toPys, PyData.eqvAll, Mi.eqDs]
  | n, m, x :: xs, y :: ys, hx, hy => by
    have hx' : Mi.okN n x = true ∧ Mi.okNs n xs = true := by simpa [Mi.okNs] using hx
    have hy' : Mi.okN m y = true ∧ Mi.okNs m ys = true := by simpa [Mi.okNs] using hy
    simp only [toPys, PyData.eqvAll, Mi.eqDs, eqv_of n m x y hx'.1 hy'.1, eqvs_of n m xs ys hx'.2 hy'.2]
end
theorem shaped_of {n : Nat} {x : D} (h1 : PyData.canLay0 (toPy x) = true) (h2 : PyData.depth (toPy x) ≤ n) (hn : n ≤ 64) : SeqAt.shaped (toPy x) = true := by
  unfold SeqAt.shaped
  rw [h1, Bool.true_and]
  exact decide_eq_true (by omega)
theorem room64 {k : Nat} {A : Around} (r : Room k A) : A.units + 65 < cLine := by
  have := r.un
  omega
/-- comparisons with a Bool's answer -/
def rC (γ : GC) (K : PySem.W.Frag) (g : D → D → Option Bool) : R2 := fun v w H Q => ∃ O x y t t2 b, OD H O ∧ VR γ K H O t x v ∧ VR γ K H O t2 y w ∧ g x y = some b ∧ Q (.bl b) H
theorem eq?_some {x y : D} {b : Bool} (h : Mi.eq? x y = some b) : (Mi.okN 60 x = true ∧ Mi.okN 60 y = true) ∧ Mi.eqD x y = b := by
  unfold Mi.eq? at h
  obtain ⟨h1, h2⟩ := iteS (show (if (Mi.okN 60 x && Mi.okN 60 y) = true then some (Mi.eqD x y) else none) = some b from h)
  exact ⟨Bool.and_eq_true_iff.mp h1, h2⟩
theorem ok_eq {k : Nat} (hr : Room k X.A) : OpR X (compareOp .Eq) (rC γ X.K (Mi.cmpD .eq)) := by
  intro pins s σ H v w v1 w1 Q I rv rw ⟨O, x, y, t, t2, b, od, hx, hy, hg, q⟩
  obtain ⟨⟨h1, h2⟩, e⟩ := eq?_some (show Mi.eq? x y = some b from hg)
  obtain ⟨a1, a2, a3⟩ := dp_of 60 t x h1 hx
  obtain ⟨b1, b2, b3⟩ := dp_of 60 t2 y h2 hy
  refine op_eqD hr.units pins s σ H _ _ _ _ _ I rv rw ⟨_, _, a1, b1, shaped_of a2 a3 (by decide), shaped_of b2 b3 (by decide), ?_⟩
  rw [eqv_of 60 60 x y h1 h2, e]
  exact q
theorem ok_ne {k : Nat} (hr : Room k X.A) : OpR X (compareOp .NotEq) (rC γ X.K (Mi.cmpD .ne)) := by
  intro pins s σ H v w v1 w1 Q I rv rw ⟨O, x, y, t, t2, b, od, hx, hy, hg, q⟩
  obtain ⟨c, hc, e0⟩ := Option.map_eq_some_iff.mp (show (Mi.eq? x y).map (!·) = some b from hg)
  obtain ⟨⟨h1, h2⟩, e⟩ := eq?_some hc
  obtain ⟨a1, a2, a3⟩ := dp_of 60 t x h1 hx
  obtain ⟨b1, b2, b3⟩ := dp_of 60 t2 y h2 hy
  refine op_neD hr.units pins s σ H _ _ _ _ _ I rv rw ⟨_, _, a1, b1, shaped_of a2 a3 (by decide), shaped_of b2 b3 (by decide), ?_⟩
  rw [eqv_of 60 60 x y h1 h2, e, e0]
  exact q
theorem any_mem (n m : Nat) (x : D) (hx : Mi.okN n x = true) : ∀ (ys : List D), Mi.okNs m ys = true → ((toPys ys).any fun z => PyData.eqv z (toPy x)) = Mi.memD x ys
  | [], _ => by simp [toPys, Mi.memD]
  | y :: ys, h => by
    have h' : Mi.okN m y = true ∧ Mi.okNs m ys = true := by simpa [Mi.okNs] using h
    simp only [toPys, List.any_cons, Mi.memD, any_mem n m x hx ys h'.2, eqv_of m n y x h'.1 hx]
/-! dicts -/
theorem keyD_eq : ∀ {k x : D} {a b : Key}, keyR k a → keyR x b → Mi.eqD k x = decide (a = b)
  | .int i, .int j, _, _, h1, h2 => by
    cases (show _ = Sum.inl i from h1)
    cases (show _ = Sum.inl j from h2)
    simp [Mi.eqD]
  | .str i, .str j, _, _, h1, h2 => by
    cases (show _ = Sum.inr (mkS i) from h1.1)
    cases (show _ = Sum.inr (mkS j) from h2.1)
    simp only [Mi.eqD]
    by_cases e : i = j
    · subst e
      simp
    · rw [decide_eq_false e]
      exact (decide_eq_false fun q => e (mkS_inj (Sum.inr.inj q))).symm
  | .int i, .str j, _, _, h1, h2 => by
    cases (show _ = Sum.inl i from h1)
    cases (show _ = Sum.inr (mkS j) from h2.1)
    simp [Mi.eqD]
  | .str i, .int j, _, _, h1, h2 => by
    cases (show _ = Sum.inr (mkS i) from h1.1)
    cases (show _ = Sum.inl j from h2)
    simp [Mi.eqD]
  | .non, _, _, _, h, _ => h.elim
  | .bl _, _, _, _, h, _ => h.elim
  | .tup _, _, _, _, h, _ => h.elim
  | .lst _ _, _, _, _, h, _ => h.elim
  | .dct _ _ _, _, _, _, h, _ => h.elim
  | .ins _ _ _, _, _, _, h, _ => h.elim
  | .fn _, _, _, _, h, _ => h.elim
  | .scr _, _, _, _, h, _ => h.elim
  | .tok _, _, _, _, h, _ => h.elim
  | .tex _ _, _, _, _, h, _ => h.elim
  | _, .non, _, _, _, h => h.elim
  | _, .bl _, _, _, _, h => h.elim
  | _, .tup _, _, _, _, h => h.elim
  | _, .lst _ _, _, _, _, h => h.elim
  | _, .dct _ _ _, _, _, _, h => h.elim
  | _, .ins _ _ _, _, _, _, h => h.elim
  | _, .fn _, _, _, _, h => h.elim
  | _, .scr _, _, _, _, h => h.elim
  | _, .tok _, _, _, _, h => h.elim
  | _, .tex _ _, _, _, _, h => h.elim
theorem keyDs_eq : ∀ {k x : List D} {a b : List Key}, keyRs k a → keyRs x b → Mi.eqDs k x = decide (a = b)
  | [], [], _, _, h1, h2 => by
    cases (show _ = [] from h1)
    cases (show _ = [] from h2)
    simp [Mi.eqDs]
  | [], _ :: _, _, _, h1, h2 => by
    cases (show _ = [] from h1)
    obtain ⟨k, r, e, _, _⟩ := h2
    subst e
    simp [Mi.eqDs]
  | _ :: _, [], _, _, h1, h2 => by
    cases (show _ = [] from h2)
    obtain ⟨k, r, e, _, _⟩ := h1
    subst e
    simp [Mi.eqDs]
  | k :: ks, x :: xs, _, _, h1, h2 => by
    obtain ⟨a, r, e, p1, p2⟩ := h1
    obtain ⟨b, q, e2, p3, p4⟩ := h2
    subst e e2
    simp only [Mi.eqDs, keyD_eq p1 p3, keyDs_eq p2 p4]
    by_cases ha : a = b
    · subst ha
      by_cases hr : r = q
      · subst hr
        simp
      · simp [hr]
    · simp [ha]
theorem keyRT_eq {k x : D} {a b : List Key} (h1 : keyRT k a) (h2 : keyRT x b) : Mi.eqD k x = decide (a = b) := by
  cases k with
  | tup ks =>
    cases x with
    | tup xs => simp only [Mi.eqD, keyDs_eq h1 h2]
    | _ => exact h2.elim
  | _ => exact h1.elim
theorem KRs.get : ∀ {ps : List (D × D)} {kvs : List (Key × V)} {x : D} {k : Key}, KRs γ K H O ps kvs → keyR x k →
    match Mi.dget ps x with
    | some d => ∃ v, valV kvs k = some v ∧ d.own = false ∧ VR γ K H O (0, 0) d v
    | none => valV kvs k = none
  | [], _, x, k, h, _ => by
    cases (show _ = [] from h)
    simp [Mi.dget, valV_nil]
  | (kd, d) :: ps, _, x, k, h, hk => by
    obtain ⟨kk, v, r, e, h1, ho, h2, h3⟩ := h
    subst e
    have e1 := keyD_eq h1 hk
    unfold Mi.dget
    rw [e1]
    by_cases q : kk = k
    · rw [if_pos (decide_eq_true q)]
      exact ⟨v, valV_pos q, ho, h2⟩
    · rw [if_neg (by rw [decide_eq_false q]; decide)]
      rw [valV_neg (p := (kk, v)) q]
      exact KRs.get h3 hk
theorem TRs.get : ∀ {ps : List (D × D)} {kvs : List (List Key × V)} {x : D} {k : List Key}, TRs γ K H O ps kvs → keyRT x k →
    match Mi.dget ps x with
    | some d => ∃ v, valV kvs k = some v ∧ d.own = false ∧ VR γ K H O (0, 0) d v
    | none => valV kvs k = none
  | [], _, x, k, h, _ => by
    cases (show _ = [] from h)
    simp [Mi.dget, valV_nil]
  | (kd, d) :: ps, _, x, k, h, hk => by
    obtain ⟨kk, v, r, e, h1, ho, h2, h3⟩ := h
    subst e
    have e1 := keyRT_eq h1 hk
    unfold Mi.dget
    rw [e1]
    by_cases q : kk = k
    · rw [if_pos (decide_eq_true q)]
      exact ⟨v, valV_pos q, ho, h2⟩
    · rw [if_neg (by rw [decide_eq_false q]; decide)]
      rw [valV_neg (p := (kk, v)) q]
      exact TRs.get h3 hk
/-- a key's value -/
theorem key_of_vr {t : Tag} {x : D} {v : V} (h : VR γ K H O t x v) (hk : Mi.keyOk false x = true) : ∃ k, keyR x k ∧ v = kV k := by
  cases x with
  | int i => exact ⟨.inl i, rfl, h⟩
  | str s => exact ⟨.inr (mkS s), ⟨rfl, h.2⟩, h.1⟩
  | _ => simp [Mi.keyOk, D.keyA] at hk
theorem keys_of_vrs : ∀ {xs : List D} {vs : List V}, VRs γ K H O xs vs → xs.all D.keyA = true → ∃ ks, keyRs xs ks ∧ vs = ks.map kV
  | [], _, h, _ => ⟨[], rfl, h⟩
  | x :: xs, _, h, ha => by
    obtain ⟨v, r, e, _, h1, h2⟩ := h
    rw [List.all_cons, Bool.and_eq_true_iff] at ha
    obtain ⟨k, hk, ek⟩ := key_of_vr h1 (show Mi.keyOk false x = true from ha.1)
    obtain ⟨ks, hks, eks⟩ := keys_of_vrs h2 ha.2
    exact ⟨k :: ks, ⟨k, ks, rfl, hk, hks⟩, by rw [e, ek, eks]; rfl⟩
end
end MiS

set_option Elab.async false
set_option linter.all false
set_option maxRecDepth 100000
set_option maxHeartbeats 4000000
/-! MiS: in, order, is None; places and slices -/
namespace MiS
open PySem PySem.Spec PyProof.Rows L2
open Mi (D Res Fl)
section
variable {γ : GC} {K : PySem.W.Frag} {H : Hp} {O : OM} {X : Cx}
theorem in?_cases {x y : D} {b : Bool} (h : Mi.in? x y = some b) : (∃ o ys, y = .lst o ys ∧ Mi.okN 60 x = true ∧ Mi.okN 60 (.lst o ys) = true ∧ Mi.memD x ys = b) ∨ (∃ ys, y = .tup ys ∧ Mi.okN 60 x = true ∧ Mi.okN 60 (.tup ys) = true ∧ Mi.memD x ys = b) ∨
    ∃ o tk kvs, y = .dct o tk kvs ∧ Mi.keyOk tk x = true ∧ (Mi.dget kvs x).isSome = b := by
  cases y with
  | lst o ys =>
    obtain ⟨h1, h2⟩ := iteS (show (if (Mi.okN 60 x && Mi.okN 60 (.lst o ys)) = true then some (Mi.memD x ys) else none) = some b from h)
    exact .inl ⟨o, ys, rfl, (Bool.and_eq_true_iff.mp h1).1, (Bool.and_eq_true_iff.mp h1).2, h2⟩
  | tup ys =>
    obtain ⟨h1, h2⟩ := iteS (show (if (Mi.okN 60 x && Mi.okN 60 (.tup ys)) = true then some (Mi.memD x ys) else none) = some b from h)
    exact .inr (.inl ⟨ys, rfl, (Bool.and_eq_true_iff.mp h1).1, (Bool.and_eq_true_iff.mp h1).2, h2⟩)
  | dct o tk kvs =>
    obtain ⟨h1, h2⟩ := iteS (show (if Mi.keyOk tk x = true then some (Mi.dget kvs x).isSome else none) = some b from h)
    exact .inr (.inr ⟨o, tk, kvs, rfl, h1, h2⟩)
  | _ => exact nomatch h
/-- what a dict tells at a key -/
theorem dget_of {t t2 : Tag} {o tk : Bool} {kvs : List (D × D)} {x : D} {v w : V} (hx : VR γ K H O t x v) (hd : VR γ K H O t2 (.dct o tk kvs) w) (hk : Mi.keyOk tk x = true) :
    ∃ a r, w = .ref a ∧ DGet H a v r ∧ r.isSome = (Mi.dget kvs x).isSome ∧ ∀ d, Mi.dget kvs x = some d → ∃ u, r = some u ∧ d.own = false ∧ VR γ K H O (0, 0) d u := by
  cases tk with
  | false =>
    obtain ⟨a, ps, e, h1, _, h2⟩ := hd
    obtain ⟨k, hk1, ek⟩ := key_of_vr hx hk
    have g := KRs.get h2 hk1
    rw [ek]
    refine ⟨a, _, e, .k h1, ?_, fun d hd => ?_⟩
    · cases q : Mi.dget kvs x with
      | none =>
        rw [q] at g
        rw [show valV ps k = none from g]
        rfl
      | some d =>
        rw [q] at g
        obtain ⟨u, g1, _⟩ := g
        rw [g1]
        rfl
    · rw [hd] at g
      obtain ⟨u, g1, g2, g3⟩ := g
      exact ⟨u, g1, g2, g3⟩
  | true =>
    obtain ⟨a, ps, e, h1, _, h2⟩ := hd
    cases x with
    | tup ks =>
      obtain ⟨b, vs, ev, hb, hvs⟩ := hx
      obtain ⟨kk, hk1, ek⟩ := keys_of_vrs hvs hk
      have g := TRs.get h2 (x := .tup ks) (k := kk) hk1
      rw [ek] at hb
      rw [ev]
      refine ⟨a, _, e, .t h1 hb, ?_, fun d hd => ?_⟩
      · cases q : Mi.dget kvs (.tup ks) with
        | none =>
          rw [q] at g
          rw [show valV ps kk = none from g]
          rfl
        | some d =>
          rw [q] at g
          obtain ⟨u, g1, _⟩ := g
          rw [g1]
          rfl
      · rw [hd] at g
        obtain ⟨u, g1, g2, g3⟩ := g
        exact ⟨u, g1, g2, g3⟩
    | _ => exact nomatch hk
theorem isin_gen (neg : Bool) {k : Nat} (hr : Room k X.A) {pins : List (Addr × Obj)} {s : Shared} {σ : L2.St} {H : Hp} {O : OM} {v w : V} {v1 w1 : Value} {t t2 : Tag} {x y : D} {b : Bool} {Q : VK} (I : Inv X pins σ H s) (rv : RelV v v1) (rw_ : RelV w w1)
    (hx : VR γ X.K H O t x v) (hy : VR γ X.K H O t2 y w) (hg : Mi.in? x y = some b) (q : Q (.bl (if neg = true then !b else b)) H) :
    wpAny (model X.prog X.w) X.A (compareOp (if neg = true then .NotIn else .In) v1 w1) (EP X pins σ Q) X.xe s := by
  have hu := room64 hr
  rcases in?_cases hg with ⟨o, ys, e, h1, h2, h3⟩ | ⟨ys, e, h1, h2, h3⟩ | ⟨o, tk, kvs, e, h1, h2⟩
  · subst e
    obtain ⟨a1, a2, a3⟩ := dp_of 60 t x h1 hx
    obtain ⟨b1, b2, b3⟩ := dp_of 60 t2 _ h2 hy
    have b0 : Dp X.K H w (.list (toPys ys)) := b1
    have hm := any_mem 60 59 x h1 ys (by simpa [Mi.okN] using h2)
    cases neg with
    | false =>
      refine op_inD hu pins s σ H _ _ _ _ _ I rv rw_ ⟨_, _, a1, b0, shaped_of a2 a3 (by decide), shaped_of b2 b3 (by decide), ?_⟩
      rw [hm, h3]
      exact q
    | true =>
      refine op_notInD hu pins s σ H _ _ _ _ _ I rv rw_ ⟨_, _, a1, b0, shaped_of a2 a3 (by decide), shaped_of b2 b3 (by decide), ?_⟩
      rw [hm, h3]
      exact q
  · subst e
    obtain ⟨a1, a2, a3⟩ := dp_of 60 t x h1 hx
    obtain ⟨b1, b2, b3⟩ := dp_of 60 t2 _ h2 hy
    have b0 : Dp X.K H w (.tuple (toPys ys)) := b1
    have hm := any_mem 60 59 x h1 ys (by simpa [Mi.okN] using h2)
    obtain ⟨as, r1⟩ := Dp.reads I _ _ _ a1 rv
    obtain ⟨bs, r2⟩ := Dp.reads I _ _ _ b0 rw_
    have sd := shaped_of a2 a3 (by decide : 60 ≤ 64)
    have hxs : PyData.canLayAll0 (toPys ys) = true := by simpa [toPy, PyData.canLay0] using b2
    have hroom : X.A.units + 1 + min (PyData.depthAll (toPys ys)) (toPy x).depth < cLine := room_in_shaped sd hu
    cases neg with
    | false => exact SeqAt.in_tuple_reads r2 r1 hxs a2 hroom ⟨.bl _, H, I, rfl, by rw [hm, h3]; exact q⟩
    | true => exact SeqAt.notIn_tuple_reads r2 r1 hxs a2 hroom ⟨.bl _, H, I, rfl, by rw [hm, h3]; exact q⟩
  · subst e
    obtain ⟨a, r, ew, g, hs, _⟩ := dget_of hx hy h1
    subst ew
    obtain rfl : w1 = Value.ref a := rw_
    cases neg with
    | false =>
      refine d_in (by omega) I g rv fun s' I' => ⟨.bl _, H, I', rfl, ?_⟩
      rw [hs, h2]
      exact q
    | true =>
      refine d_notIn (by omega) I g rv fun s' I' => ⟨.bl _, H, I', rfl, ?_⟩
      rw [hs, h2]
      exact q
theorem ok_in {k : Nat} (hr : Room k X.A) : OpR X (compareOp .In) (rC γ X.K (Mi.cmpD .isin)) := by
  intro pins s σ H v w v1 w1 Q I rv rw ⟨O, x, y, t, t2, b, od, hx, hy, hg, q⟩
  exact isin_gen false hr I rv rw hx hy hg q
theorem ok_nin {k : Nat} (hr : Room k X.A) : OpR X (compareOp .NotIn) (rC γ X.K (Mi.cmpD .nin)) := by
  intro pins s σ H v w v1 w1 Q I rv rw ⟨O, x, y, t, t2, b, od, hx, hy, hg, q⟩
  obtain ⟨c, hc, e0⟩ := Option.map_eq_some_iff.mp (show (Mi.in? x y).map (!·) = some b from hg)
  exact isin_gen true hr I rv rw hx hy hc (by rw [if_pos rfl, e0]; exact q)
theorem isNon_of {t : Tag} {x : D} {v : V} (h : VR γ K H O t x v) : decide (v = .non) = x.isNon := by
  cases x with
  | non =>
    rw [show v = V.non from h]
    rfl
  | bl b =>
    rw [show v = V.bl b from h]
    rfl
  | int b =>
    rw [show v = V.int b from h]
    rfl
  | str b =>
    rw [show v = V.str _ from h.1]
    rfl
  | tup xs =>
    obtain ⟨a, vs, e, _⟩ := h
    rw [e]
    rfl
  | lst o xs =>
    obtain ⟨a, vs, e, _⟩ := h
    rw [e]
    rfl
  | dct o tk xs =>
    cases tk <;>
    · obtain ⟨a, vs, e, _⟩ := h
      rw [e]
      rfl
  | ins o c fs => exact h.elim
  | fn i =>
    rw [show v = V.ref _ from h]
    rfl
  | scr ns =>
    obtain ⟨a, e, _⟩ := h
    rw [e]
    rfl
  | tok d =>
    obtain ⟨a, e⟩ := h
    rw [e]
    rfl
  | tex a as =>
    obtain ⟨a, e⟩ := h
    rw [e]
    rfl
theorem is_cases {c : Mi.Cp} {x y : D} {b : Bool} (hc : c = .is ∨ c = .isn) (h : Mi.cmpD c x y = some b) : y = .non ∧ (if c = .is then x.isNon else !x.isNon) = b := by
  rcases hc with rfl | rfl
  · cases x <;> cases y <;> first | exact ⟨rfl, Option.some.inj h⟩ | exact nomatch h
  · cases x <;> cases y <;> first | exact ⟨rfl, Option.some.inj h⟩ | exact nomatch h
theorem ok_is : OpR X (compareOp .Is) (rC γ X.K (Mi.cmpD .is)) := by
  intro pins s σ H v w v1 w1 Q I rv rw ⟨O, x, y, t, t2, b, od, hx, hy, hg, q⟩
  obtain ⟨e, h1⟩ := is_cases (.inl rfl) hg
  subst e
  refine op_isN pins s σ H _ _ _ _ _ I rv rw ⟨hy, ?_⟩
  rw [isNon_of hx, show x.isNon = b from h1]
  exact q
theorem ok_isn : OpR X (compareOp .IsNot) (rC γ X.K (Mi.cmpD .isn)) := by
  intro pins s σ H v w v1 w1 Q I rv rw ⟨O, x, y, t, t2, b, od, hx, hy, hg, q⟩
  obtain ⟨e, h1⟩ := is_cases (.inr rfl) hg
  subst e
  refine op_notN pins s σ H _ _ _ _ _ I rv rw ⟨hy, ?_⟩
  rw [isNon_of hx, show (!x.isNon) = b from h1]
  exact q
/-! ints in rows -/
theorem VRs.ints : ∀ {xs : List D} {vs : List V} {ns : List Int}, VRs γ K H O xs vs → Mi.ints? xs = some ns → vs = ns.map V.int ∧ xs = ns.map D.int
  | [], _, _, h, e => by
    cases (show _ = [] from h)
    cases e
    exact ⟨rfl, rfl⟩
  | x :: xs, _, _, h, e => by
    obtain ⟨v, r, ev, _, h1, h2⟩ := h
    subst ev
    cases x with
    | int i =>
      obtain ⟨ns, e1, e2⟩ := Option.map_eq_some_iff.mp (show (Mi.ints? xs).map (i :: ·) = some _ from e)
      obtain ⟨a, b⟩ := VRs.ints h2 e1
      subst e2
      rw [show v = V.int i from h1, a, b]
      exact ⟨rfl, rfl⟩
    | _ => exact nomatch e
theorem ltDs_ints : ∀ (a b : List Int), Mi.ltDs (a.map D.int) (b.map D.int) = HT.lexLt a b
  | [], [] => by simp [Mi.ltDs, HT.lexLt]
  | [], _ :: _ => by simp [Mi.ltDs, HT.lexLt]
  | _ :: _, [] => by simp [Mi.ltDs, HT.lexLt]
  | x :: xs, y :: ys => by
    simp only [List.map_cons, Mi.ltDs, Mi.eqD, Mi.ltD, HT.lexLt, decide_eq_true_eq, ltDs_ints xs ys]
theorem firstLt_lex (a b : List Int) : ∀ (k i : Nat), k + i = min a.length b.length → SeqAt.firstLt (fun j => decide (a[j]? = b[j]?)) (fun j => match a[j]?, b[j]? with | some x, some y => decide (x < y) | _, _ => false) (decide (a.length < b.length)) ((List.range (min a.length b.length)).drop i) = HT.lexLt (a.drop i) (b.drop i)
  | 0, i, h => by
    have hd : (List.range (min a.length b.length)).drop i = [] := List.drop_eq_nil_of_le (by rw [List.length_range]; omega)
    rw [hd]
    show decide (a.length < b.length) = _
    by_cases ha : a.length ≤ i
    · rw [List.drop_eq_nil_of_le ha]
      by_cases hb : b.length ≤ i
      · rw [List.drop_eq_nil_of_le hb, HT.lexLt_nil_nil]
        exact decide_eq_false (by omega)
      · cases q : b.drop i with
        | nil => exact absurd (List.drop_eq_nil_iff.mp q) hb
        | cons y ys =>
          rw [HT.lexLt_nil_cons]
          exact decide_eq_true (by omega)
    · have hb : b.length ≤ i := by omega
      rw [List.drop_eq_nil_of_le hb]
      cases q : a.drop i with
      | nil => exact absurd (List.drop_eq_nil_iff.mp q) ha
      | cons y ys =>
        rw [HT.lexLt_cons_nil]
        exact decide_eq_false (by omega)
  | k + 1, i, h => by
    have hm : i < min a.length b.length := by omega
    have h1 : i < a.length := by omega
    have h2 : i < b.length := by omega
    have hd : (List.range (min a.length b.length)).drop i = i :: (List.range (min a.length b.length)).drop (i + 1) := by simp [List.drop_eq_getElem_cons, hm]
    rw [hd, List.drop_eq_getElem_cons h1, List.drop_eq_getElem_cons h2, HT.lexLt_cons]
    by_cases e : a[i] = b[i]
    · rw [if_pos e, SeqAt.firstLt_yes (by rw [List.getElem?_eq_getElem h1, List.getElem?_eq_getElem h2, e]; exact decide_eq_true rfl)]
      exact firstLt_lex a b k (i + 1) (by omega)
    · rw [if_neg e, SeqAt.firstLt_no (by rw [List.getElem?_eq_getElem h1, List.getElem?_eq_getElem h2]; exact decide_eq_false fun q => e (Option.some.inj q))]
      show (match a[i]?, b[i]? with | some x, some y => decide (x < y) | _, _ => false) = _
      rw [List.getElem?_eq_getElem h1, List.getElem?_eq_getElem h2]
theorem lst_lt {hu : X.A.units < cLine} {pins : List (Addr × Obj)} {s : Shared} {σ : L2.St} {H : Hp} {a b : Addr} {ns ms : List Int} {Q : VK} (I : Inv X pins σ H s) (ha : SqL X.K H a (ns.map V.int)) (hb : SqL X.K H b (ms.map V.int)) (q : Q (.bl (HT.lexLt ns ms)) H) :
    wpAny (model X.prog X.w) X.A (compareOp .Lt (.ref a) (.ref b)) (EP X pins σ Q) X.xe s := by
  obtain ⟨its, r1, p1, _⟩ := I.list ha
  obtain ⟨its2, r2, p2, _⟩ := I.list hb
  have l1 : its.length = ns.length := by rw [← r1.length, List.length_map]
  have l2 : its2.length = ms.length := by rw [← r2.length, List.length_map]
  have at1 : ∀ (j : Nat) (h : j < its.toArray.size), ∃ t, its.toArray[j] = Value.int (ns[j]'(by simpa [l1] using h)) t := fun j h => by
    have hj : j < ns.length := by simpa [l1] using h
    obtain ⟨u, e1, e2⟩ := r1.get (i := j) (x := .int ns[j]) (by simp [hj])
    obtain ⟨t, e2⟩ := e2
    exact ⟨t, by
      have : its[j]? = some its.toArray[j] := by simp at h; simp [h]
      rw [e1, e2] at this
      exact (Option.some.inj this).symm⟩
  have at2 : ∀ (j : Nat) (h : j < its2.toArray.size), ∃ t, its2.toArray[j] = Value.int (ms[j]'(by simpa [l2] using h)) t := fun j h => by
    have hj : j < ms.length := by simpa [l2] using h
    obtain ⟨u, e1, e2⟩ := r2.get (i := j) (x := .int ms[j]) (by simp [hj])
    obtain ⟨t, e2⟩ := e2
    exact ⟨t, by
      have : its2[j]? = some its2.toArray[j] := by simp at h; simp [h]
      rw [e1, e2] at this
      exact (Option.some.inj this).symm⟩
  refine SeqAt.RcLt.lists (e := fun j => decide (ns[j]? = ms[j]?)) (r := fun j => match ns[j]?, ms[j]? with | some x, some y => decide (x < y) | _, _ => false) p1.isList p2.isList hu (fun j h1 h2 => ?_) (fun j h1 h2 _ => ?_) X.prog X.w X.xe (EP X pins σ Q) ?_
  · obtain ⟨t, e1⟩ := at1 j h1
    obtain ⟨t', e2⟩ := at2 j h2
    have g1 : j < ns.length := by simpa [l1] using h1
    have g2 : j < ms.length := by simpa [l2] using h2
    rw [e1, e2]
    have e3 : decide (ns[j]? = ms[j]?) = (ns[j] == ms[j]) := by
      rw [List.getElem?_eq_getElem g1, List.getElem?_eq_getElem g2]
      by_cases e : ns[j] = ms[j]
      · simp [e]
      · simp [e]
    simp only [e3]
    exact SeqAt.EqAt.int_int _ t _ t'
  · obtain ⟨t, e1⟩ := at1 j h1
    obtain ⟨t', e2⟩ := at2 j h2
    have g1 : j < ns.length := by simpa [l1] using h1
    have g2 : j < ms.length := by simpa [l2] using h2
    rw [e1, e2]
    simp only [List.getElem?_eq_getElem g1, List.getElem?_eq_getElem g2]
    exact fun prog w E Q h => HT.rcLt_int _ _ _ _ _ _ _ _ _ _ h
  · have := firstLt_lex ns ms (min ns.length ms.length) 0 (by omega)
    simp only [List.drop_zero] at this
    refine ⟨.bl (HT.lexLt ns ms), H, I, ?_, q⟩
    rw [List.size_toArray, List.size_toArray, l1, l2, this]
    rfl
theorem ok_lt {k : Nat} (hr : Room k X.A) : OpR X (compareOp .Lt) (rC γ X.K (Mi.cmpD .lt)) := by
  intro pins s σ H v w v1 w1 Q I rv rw ⟨O, x, y, t, t2, b, od, hx, hy, hg, q⟩
  cases x with
  | int i =>
    cases y with
    | int j =>
      cases hg
      exact op_lt pins s σ H _ _ _ _ _ I rv rw ⟨i, j, hx, hy, q⟩
    | _ => exact nomatch hg
  | tup xs =>
    cases y with
    | tup ys =>
      obtain ⟨h1, h2⟩ := iteS (show (if ((Mi.ints? xs).isSome && (Mi.ints? ys).isSome) = true then some (Mi.ltDs xs ys) else none) = some b from hg)
      obtain ⟨a, vs, e1, h3, h4⟩ := hx
      obtain ⟨c, ws, e2, h5, h6⟩ := hy
      obtain ⟨ns, en⟩ := Option.isSome_iff_exists.mp (Bool.and_eq_true_iff.mp h1).1
      obtain ⟨ms, em⟩ := Option.isSome_iff_exists.mp (Bool.and_eq_true_iff.mp h1).2
      obtain ⟨p1, p2⟩ := h4.ints en
      obtain ⟨p3, p4⟩ := h6.ints em
      subst p1 p3
      refine op_ltT hr.units0 pins s σ H _ _ _ _ _ I rv rw ⟨a, c, ns, ms, e1, e2, .of h3, .of h5, ?_⟩
      rw [← ltDs_ints, ← p2, ← p4, h2]
      exact q
    | _ => exact nomatch hg
  | lst o xs =>
    cases y with
    | lst o2 ys =>
      obtain ⟨h1, h2⟩ := iteS (show (if ((Mi.ints? xs).isSome && (Mi.ints? ys).isSome) = true then some (Mi.ltDs xs ys) else none) = some b from hg)
      obtain ⟨a, vs, e1, h3, _, h4⟩ := hx
      obtain ⟨c, ws, e2, h5, _, h6⟩ := hy
      obtain ⟨ns, en⟩ := Option.isSome_iff_exists.mp (Bool.and_eq_true_iff.mp h1).1
      obtain ⟨ms, em⟩ := Option.isSome_iff_exists.mp (Bool.and_eq_true_iff.mp h1).2
      obtain ⟨p1, p2⟩ := h4.ints en
      obtain ⟨p3, p4⟩ := h6.ints em
      subst p1 p3 e1 e2
      obtain rfl : v1 = Value.ref a := rv
      obtain rfl : w1 = Value.ref c := rw
      refine lst_lt (hu := hr.units0) I (.of h3) (.of h5) ?_
      rw [← ltDs_ints, ← p2, ← p4, h2]
      exact q
    | _ => exact nomatch hg
  | _ => exact nomatch hg
theorem ok_le : OpR X (compareOp .LtE) (rC γ X.K (Mi.cmpD .le)) := by
  intro pins s σ H v w v1 w1 Q I rv rw ⟨O, x, y, t, t2, b, od, hx, hy, hg, q⟩
  cases x with
  | int i =>
    cases y with
    | int j =>
      cases hg
      exact op_le pins s σ H _ _ _ _ _ I rv rw ⟨i, j, hx, hy, q⟩
    | _ => exact nomatch hg
  | _ => exact nomatch hg
theorem ok_gt : OpR X (compareOp .Gt) (rC γ X.K (Mi.cmpD .gt)) := by
  intro pins s σ H v w v1 w1 Q I rv rw ⟨O, x, y, t, t2, b, od, hx, hy, hg, q⟩
  cases x with
  | int i =>
    cases y with
    | int j =>
      cases hg
      exact op_gt pins s σ H _ _ _ _ _ I rv rw ⟨i, j, hx, hy, q⟩
    | _ => exact nomatch hg
  | _ => exact nomatch hg
theorem ok_ge : OpR X (compareOp .GtE) (rC γ X.K (Mi.cmpD .ge)) := by
  intro pins s σ H v w v1 w1 Q I rv rw ⟨O, x, y, t, t2, b, od, hx, hy, hg, q⟩
  cases x with
  | int i =>
    cases y with
    | int j =>
      cases hg
      exact op_ge pins s σ H _ _ _ _ _ I rv rw ⟨i, j, hx, hy, q⟩
    | _ => exact nomatch hg
  | _ => exact nomatch hg
end
end MiS

set_option Elab.async false
set_option linter.all false
set_option maxRecDepth 100000
set_option maxHeartbeats 4000000
/-! MiS: places, slices, stores -/
namespace MiS
open PySem PySem.Spec PyProof.Rows L2
open Mi (D Res Fl)
section
variable {γ : GC} {K : PySem.W.Frag} {H : Hp} {O : OM} {X : Cx}
theorem VRs.get : ∀ {xs : List D} {vs : List V} {i : Nat} {x : D}, VRs γ K H O xs vs → xs[i]? = some x → ∃ v, vs[i]? = some v ∧ x.own = false ∧ VR γ K H O (0, 0) x v
  | [], _, _, _, _, e => by simp at e
  | y :: ys, _, 0, x, h, e => by
    obtain ⟨v, r, ev, ho, h1, h2⟩ := h
    subst ev
    have : y = x := by simpa using e
    subst this
    exact ⟨v, rfl, ho, h1⟩
  | y :: ys, _, i + 1, x, h, e => by
    obtain ⟨v, r, ev, ho, h1, h2⟩ := h
    subst ev
    exact VRs.get (i := i) h2 (by simpa using e)
theorem VRs.drop : ∀ {xs : List D} {vs : List V} (n : Nat), VRs γ K H O xs vs → VRs γ K H O (xs.drop n) (vs.drop n)
  | _, _, 0, h => h
  | [], _, _ + 1, h => by
    cases (show _ = [] from h)
    exact rfl
  | _ :: _, _, n + 1, h => by
    obtain ⟨v, r, ev, _, _, h2⟩ := h
    subst ev
    exact VRs.drop n h2
theorem VRs.take : ∀ {xs : List D} {vs : List V} (n : Nat), VRs γ K H O xs vs → VRs γ K H O (xs.take n) (vs.take n)
  | _, _, 0, _ => rfl
  | [], _, n + 1, h => by
    cases (show _ = [] from h)
    exact rfl
  | _ :: _, _, n + 1, h => by
    obtain ⟨v, r, ev, ho, h1, h2⟩ := h
    subst ev
    exact ⟨v, _, rfl, ho, h1, VRs.take n h2⟩
theorem VRs.set : ∀ {xs : List D} {vs : List V} (n : Nat) {x : D} {v : V}, x.own = false → VR γ K H O (0, 0) x v → VRs γ K H O xs vs → VRs γ K H O (xs.set n x) (vs.set n v)
  | [], _, n, _, _, _, _, h => by
    cases (show _ = [] from h)
    exact rfl
  | _ :: _, _, 0, _, _, ho, hx, h => by
    obtain ⟨v, r, ev, _, _, h2⟩ := h
    subst ev
    exact ⟨_, _, rfl, ho, hx, h2⟩
  | _ :: _, _, n + 1, _, _, ho, hx, h => by
    obtain ⟨v, r, ev, ho2, h1, h2⟩ := h
    subst ev
    exact ⟨v, _, rfl, ho2, h1, VRs.set n ho hx h2⟩
theorem VRs.one {x : D} {v : V} (ho : x.own = false) (h : VR γ K H O (0, 0) x v) : VRs γ K H O [x] [v] := ⟨v, [], rfl, ho, h, rfl⟩
theorem VRs.rev : ∀ {xs : List D} {vs : List V}, VRs γ K H O xs vs → VRs γ K H O xs.reverse vs.reverse
  | [], _, h => by
    cases (show _ = [] from h)
    exact rfl
  | x :: xs, _, h => by
    obtain ⟨v, r, ev, ho, h1, h2⟩ := h
    subst ev
    rw [List.reverse_cons, List.reverse_cons]
    exact (VRs.rev h2).app (.one ho h1)
theorem VRs.erase : ∀ {xs : List D} {vs : List V} (n : Nat), VRs γ K H O xs vs → VRs γ K H O (xs.eraseIdx n) (vs.eraseIdx n)
  | [], _, n, h => by
    cases (show _ = [] from h)
    exact rfl
  | _ :: _, _, 0, h => by
    obtain ⟨v, r, ev, _, _, h2⟩ := h
    subst ev
    exact h2
  | _ :: _, _, n + 1, h => by
    obtain ⟨v, r, ev, ho2, h1, h2⟩ := h
    subst ev
    exact ⟨v, _, rfl, ho2, h1, VRs.erase n h2⟩
theorem ixN_eq (n : Nat) (i : Int) : Mi.ixN n i = L2.ixN n i := rfl
theorem sIx_eq (n d : Nat) (o : Option Int) : Mi.sIx n d o = HT.sIx n d o := by
  cases o <;> rfl
theorem VRs.at_ {xs : List D} {vs : List V} {i : Int} {x : D} (h : VRs γ K H O xs vs) (e : ((Mi.ixN xs.length i).bind fun j => xs[j]?) = some x) : ∃ v, atI vs i = some v ∧ x.own = false ∧ VR γ K H O (0, 0) x v := by
  cases q : Mi.ixN xs.length i with
  | none =>
    rw [q] at e
    cases e
  | some j =>
    rw [q] at e
    obtain ⟨v, h1, h2, h3⟩ := h.get (show xs[j]? = some x from e)
    refine ⟨v, ?_, h2, h3⟩
    unfold atI
    rw [← h.len, ← ixN_eq, q]
    exact h1
theorem VRs.cut {xs : List D} {vs : List V} (h : VRs γ K H O xs vs) (lo hi : Option Int) : VRs γ K H O (Mi.cutL xs lo hi) (cutV vs lo hi) := by
  unfold Mi.cutL cutV
  rw [sIx_eq, sIx_eq, h.len]
  exact (h.drop _).take _
/-- a sub-item, where it came from -/
theorem ok_ix {k : Nat} (hr : Room k X.A) : IxR X (rD γ X.K Mi.ixD) := by
  intro value slice pins s σ H v w v1 w1 Q I rv rw ⟨O, x, y, t, t2, d, od, hx, hy, hg, q⟩ hs
  have fin : ∀ {u : V}, d.own = false → VR γ X.K H O (0, 0) d u → Q u H := fun ho h => q _ H O (.refl H O) od (VR.tag d ho h)
  have dict : ∀ {o tk kvs}, x = .dct o tk kvs → wpAny (model X.prog X.w) X.A (subscriptTail value slice v1 w1) (EP X pins σ Q) X.xe s := by
    intro o tk kvs e
    subst e
    obtain ⟨h1, h2⟩ : Mi.keyOk tk y = true ∧ Mi.dget kvs y = some d := by
      have hg' : (if Mi.keyOk tk y = true then Mi.dget kvs y else none) = some d := by
        rw [← hg]
        cases y <;> rfl
      split at hg'
      · exact ⟨by assumption, hg'⟩
      · cases hg'
    obtain ⟨a, r, ew, g, _, hd⟩ := dget_of hy hx h1
    obtain ⟨u, er, ho, hu⟩ := hd d h2
    subst ew er
    obtain rfl : v1 = Value.ref a := rv
    exact tail_any (dict_typeIs I g) PySem.F.slot_dict_getitem.lookup (d_getItem (by have := hr.un; omega) I g rw fun w' s3 I3 rw' => ⟨u, H, I3, rw', fin ho hu⟩) hs
  cases x with
  | lst o xs =>
    cases y with
    | int i =>
      obtain ⟨a, vs, e, h1, _, h2⟩ := hx
      obtain ⟨u, h3, h4, h5⟩ := h2.at_ hg
      exact ix_list value slice pins s σ H _ _ _ _ _ I rv rw ⟨a, vs, i, u, e, hy, .of h1, h3, fin h4 h5⟩ hs
    | _ => exact nomatch hg
  | tup xs =>
    cases y with
    | int i =>
      obtain ⟨a, vs, e, h1, h2⟩ := hx
      obtain ⟨u, h3, h4, h5⟩ := h2.at_ hg
      exact ix_tup value slice pins s σ H _ _ _ _ _ I rv rw ⟨a, vs, i, u, e, hy, .of h1, h3, fin h4 h5⟩ hs
    | _ => exact nomatch hg
  | dct o tk kvs => exact dict rfl
  | _ => exact nomatch hg
def rSl (γ : GC) (K : PySem.W.Frag) : V → Option Int → Option Int → Hp → VK → Prop := fun v lo hi H Q => ∃ O x t d, OD H O ∧ VR γ K H O t x v ∧ Mi.slD x lo hi = some d ∧ ∀ v' H' O', PstS H O H' O' → OD H' O' → VR γ K H' O' tmp d v' → Q v' H'
theorem ints_vrs : ∀ (ns : List Int), VRs γ K H O (ns.map D.int) (ns.map V.int)
  | [] => rfl
  | n :: ns => ⟨_, _, rfl, rfl, rfl, ints_vrs ns⟩
theorem cut_map {α β : Type} (f : α → β) (xs : List α) (lo hi : Option Int) : Mi.cutL (xs.map f) lo hi = (Mi.cutL xs lo hi).map f := by
  unfold Mi.cutL
  rw [List.length_map, ← List.map_drop, ← List.map_take]
theorem ok_sl : SlR X (rSl γ X.K) := by
  intro pins s σ H v v1 vl vu lo hi sl Q I rv hs pl pu ⟨O, x, t, d, od, hx, hg, q⟩
  cases x with
  | lst o xs =>
    cases hg
    obtain ⟨a, vs, e, h1, _, h2⟩ := hx
    exact sl_list pins s σ H _ _ vl vu lo hi sl _ I rv hs pl pu ⟨a, vs, e, .of h1, fun p hp => finL od q (h2.cut lo hi) hp⟩
  | scr ns =>
    cases hg
    obtain ⟨a, e, h1⟩ := hx
    have hS : SqL X.K H a (ns.map V.int) := by
      rcases h1 with ⟨h, _⟩ | h
      · exact .inl h
      · exact h H
    refine sl_list pins s σ H _ _ vl vu lo hi sl _ I rv hs pl pu ⟨a, _, e, hS, fun p hp => finL od q ?_ hp⟩
    have := (ints_vrs (γ := γ) (K := X.K) (H := H) (O := O) ns).cut lo hi
    rwa [cut_map] at this
  | tup xs =>
    cases hg
    obtain ⟨a, vs, e, h1, h2⟩ := hx
    refine sl_tupA pins s σ H _ _ vl vu lo hi sl _ I rv hs pl pu ⟨a, vs, e, .of h1, fun hw => fin0 od q ?_, fun _ p hp => finT od q (h2.cut lo hi) hp⟩
    refine ⟨a, vs, rfl, h1, ?_⟩
    have e2 : Mi.cutL xs lo hi = xs := by
      unfold Mi.cutL
      rw [sIx_eq, sIx_eq, h2.len, hw.1, hw.2, List.drop_zero, ← h2.len]
      exact List.take_length
    rw [e2]
    exact h2
  | _ => exact nomatch hg
/-! stores -/
def rSet (γ : GC) (K : PySem.W.Frag) : V → V → V → Hp → (Hp → Prop) → Prop := fun o i v H Q => ∃ O a y x t t2 k d, OD H O ∧ VR γ K H O t a o ∧ t.1 ≠ tT ∧ t.1 ≠ fT ∧ VR γ K H O t2 y i ∧ x.own = false ∧ VR γ K H O k x v ∧ Mi.setD a y x = some d ∧
  ∀ H', Pst H O H' O → OD H' O → (∀ a' o' t', H a' = some o' → O a' = some t' → t' ≠ t → H' a' = some o') → (∀ a' ps, H a' = some (.tbl ps) → H' a' = some (.tbl ps)) → VR γ K H' O t d o → Q H'
/-- a slot's own object is changed -/
theorem upd_pst {p : Addr} {t : Tag} {u o : HO} (od : OD H O) (hp : H p = some u) (ho : O p = some t) (h1 : t.1 ≠ fT) (m : MutO o) : Pst H O (upd H p o) O ∧ OD (upd H p o) O ∧ (∀ a' o' t', H a' = some o' → O a' = some t' → t' ≠ t → upd H p o a' = some o') ∧ (∀ a' ps, H a' = some (.tbl ps) → upd H p o a' = some (.tbl ps)) := by
  have ne : ∀ {a : Addr}, O a = none → a ≠ p := fun {a} h e => by
    rw [e, ho] at h
    cases h
  refine ⟨⟨fun a w h h2 _ => ⟨by rw [upd_ne (ne h2)]; exact h, h2⟩, fun a w k h h2 => ⟨?_, h2⟩⟩, fun a t' h => ?_, fun a' o' t' h h2 h3 => ?_, fun a' ps h => ?_⟩
  · have : a ≠ p := fun e => by
      rw [e, ho] at h2
      cases h2
      exact h1 rfl
    rw [upd_ne this]
    exact h
  · by_cases e : a = p
    · rw [e]
      exact ⟨o, upd_same, m⟩
    · obtain ⟨w, h2, h3⟩ := od a t' h
      exact ⟨w, by rw [upd_ne e]; exact h2, h3⟩
  · have : a' ≠ p := fun e => by
      rw [e, ho] at h2
      cases h2
      exact h3 rfl
    rw [upd_ne this]
    exact h
  · have : a' ≠ p := fun e => by
      obtain ⟨w, h2, h3⟩ := od p t ho
      rw [e, h2] at h
      cases h
      exact h3.elim
    rw [upd_ne this]
    exact h
theorem KRs.any : ∀ {ps : List (D × D)} {kvs : List (Key × V)} {x : D} {k : Key}, KRs γ K H O ps kvs → keyR x k → (ps.any fun p => Mi.eqD p.1 x) = kvs.any fun kv => decide (kv.1 = k)
  | [], _, _, _, h, _ => by
    cases (show _ = [] from h)
    rfl
  | (kd, d) :: ps, _, x, k, h, hk => by
    obtain ⟨kk, v, r, e, h1, _, _, h3⟩ := h
    subst e
    rw [List.any_cons, List.any_cons, KRs.any h3 hk, keyD_eq h1 hk]
theorem KRs.repl : ∀ {ps : List (D × D)} {kvs : List (Key × V)} {x d : D} {k : Key} {v : V}, KRs γ K H O ps kvs → keyR x k → d.own = false → VR γ K H O (0, 0) d v →
    KRs γ K H O (ps.map fun p => if Mi.eqD p.1 x = true then (p.1, d) else p) (kvs.map fun kv => if kv.1 = k then (kv.1, v) else kv)
  | [], _, _, _, _, _, h, _, _, _ => by
    cases (show _ = [] from h)
    rfl
  | (kd, dd) :: ps, _, x, d, k, v, h, hk, ho, hd => by
    obtain ⟨kk, w, r, e, h1, ho2, h2, h3⟩ := h
    subst e
    have ih := KRs.repl h3 hk ho hd
    rw [List.map_cons, List.map_cons]
    have e1 := keyD_eq h1 hk
    by_cases q : kk = k
    · rw [if_pos (show Mi.eqD kd x = true by rw [e1]; exact decide_eq_true q), if_pos q]
      exact ⟨kk, v, _, rfl, h1, ho, hd, ih⟩
    · rw [if_neg (show ¬ Mi.eqD kd x = true by rw [e1, decide_eq_false q]; decide), if_neg q]
      exact ⟨kk, w, _, rfl, h1, ho2, h2, ih⟩
theorem KRs.snoc : ∀ {ps : List (D × D)} {kvs : List (Key × V)} {x d : D} {k : Key} {v : V}, KRs γ K H O ps kvs → keyR x k → d.own = false → VR γ K H O (0, 0) d v → KRs γ K H O (ps ++ [(x, d)]) (kvs ++ [(k, v)])
  | [], _, _, _, _, _, h, hk, ho, hd => by
    cases (show _ = [] from h)
    exact ⟨_, _, _, rfl, hk, ho, hd, rfl⟩
  | (kd, dd) :: ps, _, x, d, k, v, h, hk, ho, hd => by
    obtain ⟨kk, w, r, e, h1, ho2, h2, h3⟩ := h
    subst e
    exact ⟨kk, w, _, rfl, h1, ho2, h2, KRs.snoc h3 hk ho hd⟩
theorem KRs.put {ps : List (D × D)} {kvs : List (Key × V)} {x d : D} {k : Key} {v : V} (h : KRs γ K H O ps kvs) (hk : keyR x k) (ho : d.own = false) (hd : VR γ K H O (0, 0) d v) : KRs γ K H O (Mi.dput ps x d) (putK kvs k v) := by
  unfold Mi.dput putK
  rw [h.any hk]
  by_cases q : (kvs.any fun kv => decide (kv.1 = k)) = true
  · rw [if_pos q, if_pos q]
    exact h.repl hk ho hd
  · rw [if_neg q, if_neg q]
    exact h.snoc hk ho hd
theorem KRs.len : ∀ {ps : List (D × D)} {kvs : List (Key × V)}, KRs γ K H O ps kvs → ps.length = kvs.length
  | [], _, h => by
    cases (show _ = [] from h)
    rfl
  | (kd, d) :: ps, _, h => by
    obtain ⟨kk, v, r, e, _, _, _, h3⟩ := h
    rw [e, List.length_cons, List.length_cons, KRs.len h3]
theorem TRs.any : ∀ {ps : List (D × D)} {kvs : List (List Key × V)} {x : D} {k : List Key}, TRs γ K H O ps kvs → keyRT x k → (ps.any fun p => Mi.eqD p.1 x) = kvs.any fun kv => decide (kv.1 = k)
  | [], _, _, _, h, _ => by
    cases (show _ = [] from h)
    rfl
  | (kd, d) :: ps, _, x, k, h, hk => by
    obtain ⟨kk, v, r, e, h1, _, _, h3⟩ := h
    subst e
    rw [List.any_cons, List.any_cons, TRs.any h3 hk, keyRT_eq h1 hk]
theorem TRs.repl : ∀ {ps : List (D × D)} {kvs : List (List Key × V)} {x d : D} {k : List Key} {v : V}, TRs γ K H O ps kvs → keyRT x k → d.own = false → VR γ K H O (0, 0) d v →
    TRs γ K H O (ps.map fun p => if Mi.eqD p.1 x = true then (p.1, d) else p) (kvs.map fun kv => if kv.1 = k then (kv.1, v) else kv)
  | [], _, _, _, _, _, h, _, _, _ => by
    cases (show _ = [] from h)
    rfl
  | (kd, dd) :: ps, _, x, d, k, v, h, hk, ho, hd => by
    obtain ⟨kk, w, r, e, h1, ho2, h2, h3⟩ := h
    subst e
    have ih := TRs.repl h3 hk ho hd
    rw [List.map_cons, List.map_cons]
    have e1 := keyRT_eq h1 hk
    by_cases q : kk = k
    · rw [if_pos (show Mi.eqD kd x = true by rw [e1]; exact decide_eq_true q), if_pos q]
      exact ⟨kk, v, _, rfl, h1, ho, hd, ih⟩
    · rw [if_neg (show ¬ Mi.eqD kd x = true by rw [e1, decide_eq_false q]; decide), if_neg q]
      exact ⟨kk, w, _, rfl, h1, ho2, h2, ih⟩
theorem TRs.snoc : ∀ {ps : List (D × D)} {kvs : List (List Key × V)} {x d : D} {k : List Key} {v : V}, TRs γ K H O ps kvs → keyRT x k → d.own = false → VR γ K H O (0, 0) d v → TRs γ K H O (ps ++ [(x, d)]) (kvs ++ [(k, v)])
  | [], _, _, _, _, _, h, hk, ho, hd => by
    cases (show _ = [] from h)
    exact ⟨_, _, _, rfl, hk, ho, hd, rfl⟩
  | (kd, dd) :: ps, _, x, d, k, v, h, hk, ho, hd => by
    obtain ⟨kk, w, r, e, h1, ho2, h2, h3⟩ := h
    subst e
    exact ⟨kk, w, _, rfl, h1, ho2, h2, TRs.snoc h3 hk ho hd⟩
theorem TRs.put {ps : List (D × D)} {kvs : List (List Key × V)} {x d : D} {k : List Key} {v : V} (h : TRs γ K H O ps kvs) (hk : keyRT x k) (ho : d.own = false) (hd : VR γ K H O (0, 0) d v) : TRs γ K H O (Mi.dput ps x d) (putK kvs k v) := by
  unfold Mi.dput putK
  rw [h.any hk]
  by_cases q : (kvs.any fun kv => decide (kv.1 = k)) = true
  · rw [if_pos q, if_pos q]
    exact h.repl hk ho hd
  · rw [if_neg q, if_neg q]
    exact h.snoc hk ho hd
theorem TRs.len : ∀ {ps : List (D × D)} {kvs : List (List Key × V)}, TRs γ K H O ps kvs → ps.length = kvs.length
  | [], _, h => by
    cases (show _ = [] from h)
    rfl
  | (kd, d) :: ps, _, h => by
    obtain ⟨kk, v, r, e, _, _, _, h3⟩ := h
    rw [e, List.length_cons, List.length_cons, TRs.len h3]
theorem ok_set {k : Nat} (hr : Room k X.A) : PSet X (rSet γ X.K) := by
  intro pins s σ H o i v ov iv u Q I ro ri rv ⟨O, a, y, x, t, t2, tk, d, od, ha, ht1, ht2, hy, ho, hx, hg, q⟩
  have hx0 : VR γ X.K H O (0, 0) x v := VR.tag x ho hx
  cases a with
  | lst fl xs =>
    cases fl with
    | false => exact nomatch hg
    | true =>
      cases y with
      | int j =>
        obtain ⟨n, en, ed⟩ := Option.map_eq_some_iff.mp (show (Mi.ixN xs.length j).map (fun n => D.lst true (xs.set n x)) = some d from hg)
        subst ed
        obtain ⟨p, vs, e, h1, h2, h3⟩ := ha
        obtain ⟨p1, p2, p3, p4⟩ := upd_pst (o := .lst (vs.set n v)) od h1 h2 ht2 trivial
        refine set_list pins s σ H _ _ _ _ _ _ _ I ro ri rv ⟨p, vs, j, n, e, hy, h1, by rw [← h3.len]; exact en, q _ p1 p2 p3 p4 ?_⟩
        exact ⟨p, _, e, upd_same, h2, (VRs.step od p1.non xs h3).set n ho (VR.stepN od p1.non x ho hx0)⟩
      | _ => exact nomatch hg
  | dct fl tkk ps =>
    cases fl with
    | false => exact nomatch hg
    | true =>
      obtain ⟨hk, e2⟩ := iteS (show (if (Mi.keyOk tkk y && decide (ps.length < 1000000)) = true then some (D.dct true tkk (Mi.dput ps y x)) else none) = some d from by
        rw [← hg]
        cases y <;> rfl)
      subst e2
      obtain ⟨hk1, hk2⟩ := Bool.and_eq_true_iff.mp hk
      have hk2 := of_decide_eq_true hk2
      cases tkk with
      | false =>
        obtain ⟨p, kvs, e, h1, h2, h3⟩ := ha
        obtain ⟨kk, hkk, ek⟩ := key_of_vr hy hk1
        subst e ek
        obtain ⟨p1, p2, p3, p4⟩ := upd_pst (o := .dK (putK kvs kk v)) od h1 h2 ht2 trivial
        obtain rfl : ov = Value.ref p := ro
        refine d_setItem (by have := hr.un; omega) I (.k h1 (by rw [← h3.len, line_eq]; exact Nat.lt_trans hk2 (by decide))) ri rv fun s' I' => ⟨_, I', q _ p1 p2 p3 p4 ?_⟩
        exact ⟨p, _, rfl, upd_same, h2, (KRs.step od p1.non ps h3).put hkk ho (VR.stepN od p1.non x ho hx0)⟩
      | true =>
        obtain ⟨p, kvs, e, h1, h2, h3⟩ := ha
        cases y with
        | tup ks =>
          obtain ⟨b, vs, ev, hb, hvs⟩ := hy
          obtain ⟨kk, hkk, ek⟩ := keys_of_vrs hvs hk1
          subst e ek ev
          obtain ⟨p1, p2, p3, p4⟩ := upd_pst (o := .dT (putK kvs kk v)) od h1 h2 ht2 trivial
          obtain rfl : ov = Value.ref p := ro
          refine d_setItem (by have := hr.un; omega) I (.t h1 hb (by rw [← h3.len, line_eq]; exact Nat.lt_trans hk2 (by decide))) ri rv fun s' I' => ⟨_, I', q _ p1 p2 p3 p4 ?_⟩
          exact ⟨p, _, rfl, upd_same, h2, (TRs.step od p1.non ps h3).put (x := .tup ks) hkk ho (VR.stepN od p1.non x ho hx0)⟩
        | _ => exact nomatch hk1
  | _ => exact nomatch hg
end
end MiS

set_option Elab.async false
set_option linter.all false
set_option maxRecDepth 100000
set_option maxHeartbeats 4000000
/-! MiS: expressions -/
namespace MiS
open PySem PySem.Spec PyProof.Rows L2
open Mi (D Res Fl)
abbrev EF := EnvI → Res (D × EnvI)
structure XOk (E : XK) (X : Cx) : Prop where
  calm : X.calm = true
  nd : X.N.Nodup
  room : ∃ k, Room k X.A
  px : Passes (L2.CX X.prog X.w) X E
section
variable {γ : GC} {T : TabL} {E : XK} {X : Cx} {H : Hp} {O : OM}
theorem getV_ok {env : EnvI} {i : Nat} {d : D} (h : Mi.getV env i = .ok d) : env[i]? = some (some d) := by
  unfold Mi.getV at h
  split at h
  · cases h
    assumption
  · cases h
/-- the cases of a result -/
theorem bind_ok {α β : Type} (a : α) (f : α → Res β) : (Res.ok a).bind f = f a := rfl
theorem bind_exc {α β : Type} (x : Nat) (as : List D) (f : α → Res β) : (Res.exc x as : Res α).bind f = .exc x as := rfl
theorem bind_stk {α β : Type} (f : α → Res β) : (Res.stk : Res α).bind f = .stk := rfl

theorem e_var {x : Str} {pos : Pos} {i : Nat} {f : EF} (hN : X.N[i]? = some x) (hv : Vis X.env.scope x) (hd : (x == ("__debug__" : Str)) = false) (hcd : (x == ("__classdict__" : Str)) = false)
    (hf : ∀ env, f env = (Mi.getV env i).bind fun d => .ok (d, env)) : PE X (.Name x pos) (tE γ X.K T E f false true) := by
  refine PE.weak (pe_var hN hv hd hcd) fun σ H Q ⟨env, O, R, Tb, P⟩ => ?_
  rw [hf] at P
  cases q : Mi.getV env i with
  | ok d =>
    rw [q] at P
    obtain ⟨v, h1, h2⟩ := R.at_ i d (getV_ok q)
    exact ⟨v, h1, P v H O (i, 0) (PstP.refl H O) R h2 (fun e => nomatch e) Tb⟩
  | exc x as =>
    unfold Mi.getV at q
    split at q <;> cases q
  | stk =>
    rw [q] at P
    exact P.elim
theorem e_const {x : Expr} {d : D} {v : V} {f : EF} {K : PySem.W.Frag} (h : PE X x (tC v)) (hv : ∀ H O, VR γ X.K H O tmp d v) (hf : ∀ env, f env = .ok (d, env)) : PE X x (tE γ X.K T E f false false) := by
  refine PE.weak h fun σ H Q ⟨env, O, R, Tb, P⟩ => ?_
  rw [hf] at P
  exact P v H O tmp (PstP.refl H O) R (hv H O) (fun _ => rfl) Tb
/-- the i-th slot's tags replaced -/
def reT (O : OM) (i : Nat) (g : Nat → Option Tag) : OM := fun a => match O a with
  | some t => if t.1 = i then g t.2 else some t
  | none => none
theorem reT_none {i : Nat} {g : Nat → Option Tag} {a : Addr} (h : O a = none) : reT O i g a = none := by
  unfold reT
  rw [h]
theorem reT_ne {i : Nat} {g : Nat → Option Tag} {a : Addr} {t : Tag} (h : O a = some t) (ht : t.1 ≠ i) : reT O i g a = some t := by
  unfold reT
  rw [h]
  exact if_neg ht
theorem reT_eq {i k : Nat} {g : Nat → Option Tag} {a : Addr} (h : O a = some (i, k)) : reT O i g a = g k := by
  unfold reT
  rw [h]
  exact if_pos rfl
theorem reT_od {i : Nat} {g : Nat → Option Tag} (d : OD H O) : OD H (reT O i g) := fun a t h => by
  cases q : O a with
  | none =>
    rw [reT_none q] at h
    cases h
  | some t' => exact d a t' q
theorem reT_pst {i : Nat} {g : Nat → Option Tag} (h : i ≠ fT) : Pst H O H (reT O i g) := ⟨fun a o h1 h2 _ => ⟨h1, reT_none h2⟩, fun a o k h1 h2 => ⟨h1, reT_ne h2 (Ne.symm h)⟩⟩
theorem reT_keep {i : Nat} {g : Nat → Option Tag} : KeepN H O H (reT O i g) := fun a o h1 h2 _ => ⟨h1, reT_none h2⟩
/-- a slot's value leaves it -/
theorem e_mv {x : Str} {pos : Pos} {i : Nat} {f : EF} (hN : X.N[i]? = some x) (hv : Vis X.env.scope x) (hd : (x == ("__debug__" : Str)) = false) (hcd : (x == ("__classdict__" : Str)) = false)
    (hf : ∀ env, f env = (Mi.getV env i).bind fun d => .ok (d, Mi.delV env i)) : PE X (.Name x pos) (tE γ X.K T E f true false) := by
  refine PE.weak (pe_var hN hv hd hcd) fun σ H Q ⟨env, O, R, Tb, P⟩ => ?_
  rw [hf] at P
  cases q : Mi.getV env i with
  | ok d =>
    rw [q] at P
    have q' := getV_ok q
    obtain ⟨v, h1, h2⟩ := R.at_ i d q'
    have hi : i < env.length := (List.getElem?_eq_some_iff.mp q').1
    have hi2 : i < tT := Nat.lt_trans hi R.sz
    have hif : i ≠ fT := fun e => by rw [e] at hi2; exact absurd hi2 (by decide)
    refine ⟨v, h1, P v H (reT O i fun k => some (tT, k)) tmp (show Pst H O H _ from reT_pst hif) ⟨reT_od R.od, ?_, ?_, fun j y e => ?_⟩ ?_ (fun _ => rfl) Tb⟩
    · show (env.set i none).length = σ.length
      rw [List.length_set]
      exact R.len
    · show (env.set i none).length < tT
      rw [List.length_set]
      exact R.sz
    · have e : (env.set i none)[j]? = some (some y) := e
      by_cases hj : i = j
      · subst hj
        rw [List.getElem?_set_self hi] at e
        cases e
      · rw [List.getElem?_set_ne hj] at e
        obtain ⟨u, h3, h4⟩ := R.at_ j y e
        exact ⟨u, h3, VR.step R.od reT_keep y (fun a o h5 h6 => ⟨h5, reT_ne h6 (Ne.symm hj)⟩) h4⟩
    · exact VR.step R.od reT_keep d (fun a o h5 h6 => ⟨h5, reT_eq h6⟩) h2
  | exc x as =>
    unfold Mi.getV at q
    split at q <;> cases q
  | stk =>
    rw [q] at P
    exact P.elim
theorem e_fz {x : Str} {pos : Pos} {i : Nat} {f : EF} (hN : X.N[i]? = some x) (hv : Vis X.env.scope x) (hd : (x == ("__debug__" : Str)) = false) (hcd : (x == ("__classdict__" : Str)) = false)
    (hf : ∀ env, f env = (Mi.getV env i).bind fun d => .ok (d.fz, Mi.setV env i d.fz)) : PE X (.Name x pos) (tE γ X.K T E f true false) := by
  refine PE.weak (pe_var hN hv hd hcd) fun σ H Q ⟨env, O, R, Tb, P⟩ => ?_
  rw [hf] at P
  cases q : Mi.getV env i with
  | ok d =>
    rw [q] at P
    have q' := getV_ok q
    obtain ⟨v, h1, h2⟩ := R.at_ i d q'
    have hi : i < env.length := (List.getElem?_eq_some_iff.mp q').1
    have hi2 : i < tT := Nat.lt_trans hi R.sz
    have hif : i ≠ fT := fun e => by rw [e] at hi2; exact absurd hi2 (by decide)
    have hz : ∀ t', VR γ X.K H (reT O i fun _ => none) t' d.fz v := fun t' => VR.fz R.od reT_keep d (fun a h3 => reT_eq h3) h2
    refine ⟨v, h1, P v H (reT O i fun _ => none) tmp (show Pst H O H _ from reT_pst hif) ⟨reT_od R.od, ?_, ?_, fun j y e => ?_⟩ (hz _) (fun _ => rfl) Tb⟩
    · show (env.set i _).length = σ.length
      rw [List.length_set]
      exact R.len
    · show (env.set i _).length < tT
      rw [List.length_set]
      exact R.sz
    · have e : (env.set i (some d.fz))[j]? = some (some y) := e
      by_cases hj : i = j
      · subst hj
        rw [List.getElem?_set_self hi] at e
        cases e
        exact ⟨v, h1, hz _⟩
      · rw [List.getElem?_set_ne hj] at e
        obtain ⟨u, h3, h4⟩ := R.at_ j y e
        exact ⟨u, h3, VR.step R.od reT_keep y (fun a o h5 h6 => ⟨h5, reT_ne h6 (Ne.symm hj)⟩) h4⟩
  | exc x as =>
    unfold Mi.getV at q
    split at q <;> cases q
  | stk =>
    rw [q] at P
    exact P.elim
/-- two operands: the reading of the first, then of the second -/
theorem op2_gen {fa fb f : EF} {ba bb va vb : Bool} {R2' : V → V → Hp → VK → Prop} {h : D → D → EnvI → Res (D × EnvI)} {vf : Bool} (hc : va = false ∨ bb = false)
    (hf : ∀ env, f env = (fa env).bind fun p => (fb p.2).bind fun q => h p.1 q.1 q.2)
    (hr : ∀ (H : Hp) (O : OM) (σ : St) (env : EnvI) (x y : D) (v w : V) (t t2 : Tag) (Q : VK), RS γ X.K H O env σ → VR γ X.K H O t x v → VR γ X.K H O t2 y w → LamX.Tabs T H → PoE γ X.K T E H O σ false vf (h x y env) Q → R2' v w H Q) :
    ∀ σ H Q, tE γ X.K T E f (ba || bb) vf σ H Q → tOp R2' (tE γ X.K T E fa ba va) (tE γ X.K T E fb bb vb) σ H Q := by
  intro σ H Q ⟨env, O, R, Tb, P⟩
  refine ⟨env, O, R, Tb, ?_⟩
  rw [hf] at P
  cases qa : fa env with
  | ok p =>
    rw [qa] at P
    intro v H1 O1 t p1 r1 v1 ht Tb1
    obtain ⟨O1', p1', r1', hold1⟩ := hold R p1 r1 v1 ht hc
    refine ⟨p.2, O1', r1', Tb1, ?_⟩
    cases qb : fb p.2 with
    | ok q =>
      rw [bind_ok, qb, bind_ok] at P
      intro w H2 O2 t2 p2 r2 w2 ht2 Tb2
      obtain ⟨t', hx⟩ := hold1 H2 O2 p2
      have p12 := PstB.trans R.od r1'.od p1' p2
      refine hr H2 O2 σ q.2 p.1 q.1 v w t' t2 Q r2 hx w2 Tb2 ?_
      cases qh : h p.1 q.1 q.2 with
      | ok r =>
        rw [qh] at P
        intro u H3 O3 t3 p3 r3 u3 ht3 Tb3
        refine P u H3 O3 t3 ?_ r3 u3 ht3 Tb3
        have := PstB.trans R.od r2.od p12 p3
        rwa [Bool.or_false] at this
      | exc x as =>
        rw [qh] at P
        exact PoX.of (p12.pst R.od) P
      | stk =>
        rw [qh] at P
        exact P
    | exc x as =>
      rw [bind_ok, qb] at P
      exact PoX.of (p1'.pst R.od) P
    | stk =>
      rw [bind_ok, qb] at P
      exact P
  | exc x as =>
    rw [qa] at P
    exact P
  | stk =>
    rw [qa] at P
    exact P
theorem op2_D {fa fb f : EF} {ba bb va vb : Bool} {g : D → D → Option D} (hc : va = false ∨ bb = false) (hf : ∀ env, f env = (fa env).bind fun p => (fb p.2).bind fun q => (Res.of (g p.1 q.1)).bind fun d => .ok (d, q.2)) :
    ∀ σ H Q, tE γ X.K T E f (ba || bb) false σ H Q → tOp (rD γ X.K g) (tE γ X.K T E fa ba va) (tE γ X.K T E fb bb vb) σ H Q := by
  refine op2_gen (h := fun x y e => (Res.of (g x y)).bind fun d => .ok (d, e)) hc hf fun H O σ env x y v w t t2 Q R hx hy Tb P => ?_
  cases q : g x y with
  | none =>
    rw [q] at P
    exact P.elim
  | some d =>
    rw [q] at P
    exact ⟨O, x, y, t, t2, d, R.od, hx, hy, q, fun v' H' O' p od' h' => P v' H' O' tmp p.p (R.s od' p) h' (fun _ => rfl) (tabs_s p Tb)⟩
theorem op2_C {fa fb f : EF} {ba bb va vb : Bool} {g : D → D → Option Bool} (hc : va = false ∨ bb = false) (hf : ∀ env, f env = (fa env).bind fun p => (fb p.2).bind fun q => (Res.of (g p.1 q.1)).bind fun b => .ok (.bl b, q.2)) :
    ∀ σ H Q, tE γ X.K T E f (ba || bb) false σ H Q → tOp (rC γ X.K g) (tE γ X.K T E fa ba va) (tE γ X.K T E fb bb vb) σ H Q := by
  refine op2_gen (h := fun x y e => (Res.of (g x y)).bind fun b => .ok (.bl b, e)) hc hf fun H O σ env x y v w t t2 Q R hx hy Tb P => ?_
  cases q : g x y with
  | none =>
    rw [q] at P
    exact P.elim
  | some b =>
    rw [q] at P
    exact ⟨O, x, y, t, t2, b, R.od, hx, hy, q, P _ H O tmp (PstP.refl H O) R (rfl : _ = V.bl b) (fun _ => rfl) Tb⟩
/-- one operand -/
theorem op1_gen {fa f : EF} {ba va : Bool} {R1 : V → Hp → VK → Prop} {h : D → EnvI → Res (D × EnvI)} {vf : Bool}
    (hf : ∀ env, f env = (fa env).bind fun p => h p.1 p.2)
    (hr : ∀ (H : Hp) (O : OM) (σ : St) (env : EnvI) (x : D) (v : V) (t : Tag) (Q : VK), RS γ X.K H O env σ → VR γ X.K H O t x v → (va = false → t = tmp) → LamX.Tabs T H → PoE γ X.K T E H O σ false vf (h x env) Q → R1 v H Q) :
    ∀ σ H Q, tE γ X.K T E f ba vf σ H Q → tE γ X.K T E fa ba va σ H fun v H1 => R1 v H1 Q := by
  intro σ H Q ⟨env, O, R, Tb, P⟩
  refine ⟨env, O, R, Tb, ?_⟩
  rw [hf] at P
  cases qa : fa env with
  | ok p =>
    rw [qa] at P
    intro v H1 O1 t p1 r1 v1 ht Tb1
    refine hr H1 O1 σ p.2 p.1 v t Q r1 v1 ht Tb1 ?_
    rw [bind_ok] at P
    cases qh : h p.1 p.2 with
    | ok r =>
      rw [qh] at P
      intro u H3 O3 t3 p3 r3 u3 ht3 Tb3
      refine P u H3 O3 t3 ?_ r3 u3 ht3 Tb3
      have := PstB.trans R.od r1.od p1 p3
      rwa [Bool.or_false] at this
    | exc x as =>
      rw [qh] at P
      exact PoX.of (p1.pst R.od) P
    | stk =>
      rw [qh] at P
      exact P
  | exc x as =>
    rw [qa] at P
    exact P
  | stk =>
    rw [qa] at P
    exact P
theorem e_neg {a : Expr} {pos : Pos} {fa f : EF} {ba va : Bool} (ha : PE X a (tE γ X.K T E fa ba va)) (hf : ∀ env, f env = (fa env).bind fun p => match p.1 with
    | .int i => .ok (.int (-i), p.2)
    | _ => .stk) : PE X (.UnaryOp .USub a pos) (tE γ X.K T E f ba false) := by
  refine PE.weak (pe_un un_neg ha) (op1_gen (h := fun x e => match x with
    | .int i => .ok (.int (-i), e)
    | _ => .stk) hf fun H O σ env x v t Q R hx _ Tb P => ?_)
  cases x with
  | int i => exact ⟨i, hx, P _ H O tmp (PstP.refl H O) R (rfl : _ = V.int (-i)) (fun _ => rfl) Tb⟩
  | _ => exact P.elim
theorem e_not {a : Expr} {pos : Pos} {fa f : EF} {ba va : Bool} (ha : PE X a (tE γ X.K T E fa ba va)) (hf : ∀ env, f env = (fa env).bind fun p => (Mi.tB p.1).bind fun b => .ok (.bl !b, p.2)) : PE X (.UnaryOp .Not a pos) (tE γ X.K T E f ba false) := by
  refine PE.weak (pe_not ha) (op1_gen (R1 := fun v H Q => ∃ c, v = .bl c ∧ Q (.bl (!c)) H) (h := fun x e => (Mi.tB x).bind fun b => .ok (.bl !b, e)) hf fun H O σ env x v t Q R hx _ Tb P => ?_)
  cases x with
  | bl c => exact ⟨c, hx, P _ H O tmp (PstP.refl H O) R (rfl : _ = V.bl (!c)) (fun _ => rfl) Tb⟩
  | _ => exact P.elim
/-! tests -/
abbrev TF := EnvI → Res (Bool × EnvI)
def tOf (f : EF) : TF := fun env => (f env).bind fun p => (Mi.tB p.1).bind fun b => .ok (b, p.2)
theorem tst_of {fa : EF} {ba va : Bool} : ∀ σ H Q, tTst γ X.K T E (tOf fa) ba σ H Q → tE γ X.K T E fa ba va σ H fun v H1 => ∃ c, v = .bl c ∧ Q c H1 := by
  intro σ H Q ⟨env, O, R, Tb, P⟩
  refine ⟨env, O, R, Tb, ?_⟩
  unfold tOf at P
  cases qa : fa env with
  | ok p =>
    rw [qa, bind_ok] at P
    intro v H1 O1 t p1 r1 v1 ht Tb1
    cases qx : p.1 with
    | bl c =>
      rw [qx] at P v1
      exact ⟨c, v1, P H1 O1 p1 r1 Tb1⟩
    | _ =>
      rw [qx] at P
      exact P.elim
  | exc x as =>
    rw [qa] at P
    exact P
  | stk =>
    rw [qa] at P
    exact P
/-- a test by its value -/
theorem t_val {a : Expr} {fa : EF} {ba va : Bool} (ha : PE X a (tE γ X.K T E fa ba va)) (he : ∀ whole, isTrue a X.env whole = (do let v ← whole; standAt a.pos; holding [v] (truthy v))) : PT X a (tTst γ X.K T E (tOf fa) ba) :=
  PT.weak (pt_val ha he) tst_of
theorem t_not {a : Expr} {pos : Pos} {ta tf : TF} {ba : Bool} (ha : PT X a (tTst γ X.K T E ta ba)) (hf : ∀ env, tf env = (ta env).bind fun p => .ok (!p.1, p.2)) : PT X (.UnaryOp .Not a pos) (tTst γ X.K T E tf ba) := by
  refine PT.weak (pt_not ha) fun σ H Q ⟨env, O, R, Tb, P⟩ => ?_
  refine ⟨env, O, R, Tb, ?_⟩
  rw [hf] at P
  cases qa : ta env with
  | ok p =>
    rw [qa] at P
    exact fun H1 O1 p1 r1 Tb1 => P H1 O1 p1 r1 Tb1
  | exc x as =>
    rw [qa] at P
    exact P
  | stk =>
    rw [qa] at P
    exact P
/-- behind a test -/
theorem tst_then {f : EF} {ta : TF} {fa fb : EF} {bt ba bb va vb b vf : Bool} (hb : (bt = true → b = true) ∧ (ba = true → b = true) ∧ (bb = true → b = true)) (hv : (va = true → vf = true) ∧ (vb = true → vf = true))
    (hf : ∀ env, f env = (ta env).bind fun p => if p.1 = true then fa p.2 else fb p.2) : ∀ σ H Q, tE γ X.K T E f b vf σ H Q →
      tTst γ X.K T E ta bt σ H fun c H1 => if c = true then tE γ X.K T E fa ba va σ H1 Q else tE γ X.K T E fb bb vb σ H1 Q := by
  intro σ H Q ⟨env, O, R, Tb, P⟩
  refine ⟨env, O, R, Tb, ?_⟩
  rw [hf] at P
  cases qa : ta env with
  | ok p =>
    rw [qa, bind_ok] at P
    intro H1 O1 p1 r1 Tb1
    have main : ∀ (g : EF) (bg vg : Bool), (bg = true → b = true) → (vg = true → vf = true) → PoE γ X.K T E H O σ b vf (g p.2) Q → tE γ X.K T E g bg vg σ H1 Q := by
      intro g bg vg h1 h2 P
      refine ⟨p.2, O1, r1, Tb1, ?_⟩
      cases qg : g p.2 with
      | ok r =>
        rw [qg] at P
        intro v H2 O2 t p2 r2 v2 ht Tb2
        refine P v H2 O2 t ?_ r2 v2 (fun e => ht ?_) Tb2
        · refine PstB.weak R.od (PstB.trans R.od r1.od p1 p2) fun e => ?_
          rcases Bool.or_eq_true_iff.mp e with e | e
          · exact hb.1 e
          · exact h1 e
        · cases vg with
          | true =>
            rw [h2 rfl] at e
            cases e
          | false => rfl
      | exc x as =>
        rw [qg] at P
        exact PoX.of (p1.pst R.od) P
      | stk =>
        rw [qg] at P
        exact P
    cases qc : p.1 with
    | true =>
      rw [qc] at P
      exact main fa ba va hb.2.1 hv.1 P
    | false =>
      rw [qc] at P
      exact main fb bb vb hb.2.2 hv.2 P
  | exc x as =>
    rw [qa] at P
    exact P
  | stk =>
    rw [qa] at P
    exact P
end
end MiS

set_option Elab.async false
set_option linter.all false
set_option maxRecDepth 100000
set_option maxHeartbeats 4000000
/-! MiS: and, or, if, chains, displays, argument lists -/
namespace MiS
open PySem PySem.Spec PyProof.Rows L2
open Mi (D Res Fl)
section
variable {γ : GC} {T : TabL} {E : XK} {X : Cx} {H : Hp} {O : OM}
theorem PoE.mono {b b' v v' : Bool} {σ : St} {r : Res (D × EnvI)} {Q : VK} {K : PySem.W.Frag} (d : OD H O) (hb : b = true → b' = true) (hv : v = true → v' = true) (h : PoE γ K T E H O σ b' v' r Q) : PoE γ K T E H O σ b v r Q := by
  cases r with
  | ok p =>
    refine fun w H1 O1 t p1 r1 w1 ht Tb => h w H1 O1 t (PstB.weak d p1 hb) r1 w1 (fun e => ht ?_) Tb
    cases v with
    | true =>
      rw [hv rfl] at e
      cases e
    | false => rfl
  | exc x as => exact h
  | stk => exact h
theorem tE_mono {K : PySem.W.Frag} {f f' : EF} {b b' v v' : Bool} (hf : ∀ env, f' env = f env) (hb : b = true → b' = true) (hv : v = true → v' = true) : ∀ σ H Q, tE γ K T E f' b' v' σ H Q → tE γ K T E f b v σ H Q := by
  intro σ H Q ⟨env, O, R, Tb, P⟩
  rw [hf] at P
  exact ⟨env, O, R, Tb, PoE.mono R.od hb hv P⟩
theorem tT_mono {K : PySem.W.Frag} {f f' : TF} {b b' : Bool} (hf : ∀ env, f' env = f env) (hb : b = true → b' = true) : ∀ σ H Q, tTst γ K T E f' b' σ H Q → tTst γ K T E f b σ H Q := by
  intro σ H Q ⟨env, O, R, Tb, P⟩
  refine ⟨env, O, R, Tb, ?_⟩
  rw [hf] at P
  cases q : f env with
  | ok p =>
    rw [q] at P
    exact fun H1 O1 p1 r1 Tb1 => P H1 O1 (PstB.weak R.od p1 hb) r1 Tb1
  | exc x as =>
    rw [q] at P
    exact P
  | stk =>
    rw [q] at P
    exact P
theorem or_l {a b : Bool} (h : a = true) : (a || b) = true := by rw [h]; rfl
theorem or_r {a b : Bool} (h : b = true) : (a || b) = true := by rw [h, Bool.or_true]
/-- what an expression's checks give -/
inductive PEs (γ : GC) (T : TabL) (E : XK) (X : Cx) (gl : List D) (cf : Nat → List D → Res (D × List D)) : List Mi.E → List Expr → Prop
  | nil : PEs γ T E X gl cf [] []
  | cons {e : Mi.E} {x : Expr} {es : List Mi.E} {xs : List Expr} : PE X x (tE γ X.K T E (Mi.ev gl cf e) (mu e) (Mi.vw e)) → (∀ env, starEach (x :: xs) env = (false, eval x env) :: starEach xs env) → PEs γ T E X gl cf es xs → PEs γ T E X gl cf (e :: es) (x :: xs)
inductive PTs' (γ : GC) (T : TabL) (E : XK) (X : Cx) (gl : List D) (cf : Nat → List D → Res (D × List D)) : List Mi.E → List Expr → Prop
  | nil : PTs' γ T E X gl cf [] []
  | cons {e : Mi.E} {x : Expr} {es : List Mi.E} {xs : List Expr} : PT X x (tTst γ X.K T E (tOf (Mi.ev gl cf e)) (mu e)) → PTs' γ T E X gl cf es xs → PTs' γ T E X gl cf (e :: es) (x :: xs)
variable {gl : List D} {cf : Nat → List D → Res (D × List D)}
theorem e_ife {t a b : Mi.E} {xt xa xb : Expr} {pos : Pos} (ht : PT X xt (tTst γ X.K T E (tOf (Mi.ev gl cf t)) (mu t))) (ha : PE X xa (tE γ X.K T E (Mi.ev gl cf a) (mu a) (Mi.vw a))) (hb : PE X xb (tE γ X.K T E (Mi.ev gl cf b) (mu b) (Mi.vw b))) :
    PE X (.IfExp xt xa xb pos) (tE γ X.K T E (Mi.ev gl cf (.ife t a b)) (mu (.ife t a b)) (Mi.vw (.ife t a b))) := by
  refine PE.weak (pe_ifExp ht ha hb) (tst_then ⟨fun h => ?_, fun h => ?_, fun h => ?_⟩ ⟨fun h => ?_, fun h => ?_⟩ fun env => ?_)
  · exact or_l h
  · exact or_r (or_l h)
  · exact or_r (or_r h)
  · exact or_l h
  · exact or_r h
  · simp only [Mi.ev, tOf]
    cases Mi.ev gl cf t env with
    | ok p =>
      simp only [Res.bind]
      cases p.1 <;> rfl
    | exc x as => rfl
    | stk => rfl
theorem e_and {pos : Pos} : ∀ {es : List Mi.E} {xs : List Expr}, PEs γ T E X gl cf es xs → xs ≠ [] → PE X (.BoolOp .And xs pos) (tE γ X.K T E (Mi.evAnd gl cf es) (mus es) true)
  | _, _, .nil, h => absurd rfl h
  | _, _, .cons (es := []) h1 _ .nil, _ => PE.weak (pe_one h1) (tE_mono (fun env => by simp only [Mi.evAnd]) (fun h => or_l h) fun _ => rfl)
  | e :: e2 :: es, x :: x2 :: xs, .cons h1 _ (.cons h2 s2 h3), _ => by
    have ih := e_and (pos := pos) (PEs.cons h2 s2 h3) (List.cons_ne_nil _ _)
    refine PE.weak (pe_and h1 ih) ?_
    intro σ H Q ⟨env, O, R, Tb, P⟩
    have P : PoE γ X.K T E H O σ (mu e || mus (e2 :: es)) true ((Mi.ev gl cf e env).bind fun p => (Mi.tB p.1).bind fun c => if c = true then Mi.evAnd gl cf (e2 :: es) p.2 else .ok (.bl false, p.2)) Q := by
      have : Mi.evAnd gl cf (e :: e2 :: es) env = (Mi.ev gl cf e env).bind fun p => (Mi.tB p.1).bind fun c => if c = true then Mi.evAnd gl cf (e2 :: es) p.2 else .ok (.bl false, p.2) := by simp only [Mi.evAnd]
      rw [← this]
      exact P
    refine ⟨env, O, R, Tb, ?_⟩
    cases q : Mi.ev gl cf e env with
    | ok p =>
      rw [q, bind_ok] at P
      intro v H1 O1 t p1 r1 v1 ht Tb1
      cases qx : p.1 with
      | bl c =>
        rw [qx] at P v1
        refine ⟨c, v1, ?_⟩
        have P : PoE γ X.K T E H O σ (mu e || mus (e2 :: es)) true (if c = true then Mi.evAnd gl cf (e2 :: es) p.2 else .ok (.bl false, p.2)) Q := P
        cases c with
        | true =>
          rw [if_pos rfl] at P ⊢
          refine ⟨p.2, O1, r1, Tb1, ?_⟩
          cases q2 : Mi.evAnd gl cf (e2 :: es) p.2 with
          | ok r =>
            rw [q2] at P
            exact fun w H2 O2 t2 p2 r2 w2 ht2 Tb2 => P w H2 O2 t2 (PstB.trans R.od r1.od p1 p2) r2 w2 (fun e => nomatch e) Tb2
          | exc y as =>
            rw [q2] at P
            exact PoX.of (p1.pst R.od) P
          | stk =>
            rw [q2] at P
            exact P
        | false =>
          rw [if_neg Bool.false_ne_true] at P ⊢
          exact P _ H1 O1 tmp (PstB.weak R.od p1 fun h => or_l h) r1 (rfl : _ = V.bl false) (fun _ => rfl) Tb1
      | _ =>
        rw [qx] at P
        exact P.elim
    | exc y as =>
      rw [q] at P
      exact P
    | stk =>
      rw [q] at P
      exact P
theorem e_or {pos : Pos} : ∀ {es : List Mi.E} {xs : List Expr}, PEs γ T E X gl cf es xs → xs ≠ [] → PE X (.BoolOp .Or xs pos) (tE γ X.K T E (Mi.evOr gl cf es) (mus es) true)
  | _, _, .nil, h => absurd rfl h
  | _, _, .cons (es := []) h1 _ .nil, _ => PE.weak (pe_one h1) (tE_mono (fun env => by simp only [Mi.evOr]) (fun h => or_l h) fun _ => rfl)
  | e :: e2 :: es, x :: x2 :: xs, .cons h1 _ (.cons h2 s2 h3), _ => by
    have ih := e_or (pos := pos) (PEs.cons h2 s2 h3) (List.cons_ne_nil _ _)
    refine PE.weak (pe_or h1 ih) ?_
    intro σ H Q ⟨env, O, R, Tb, P⟩
    have P : PoE γ X.K T E H O σ (mu e || mus (e2 :: es)) true ((Mi.ev gl cf e env).bind fun p => (Mi.tB p.1).bind fun c => if c = true then .ok (.bl true, p.2) else Mi.evOr gl cf (e2 :: es) p.2) Q := by
      have : Mi.evOr gl cf (e :: e2 :: es) env = (Mi.ev gl cf e env).bind fun p => (Mi.tB p.1).bind fun c => if c = true then .ok (.bl true, p.2) else Mi.evOr gl cf (e2 :: es) p.2 := by simp only [Mi.evOr]
      rw [← this]
      exact P
    refine ⟨env, O, R, Tb, ?_⟩
    cases q : Mi.ev gl cf e env with
    | ok p =>
      rw [q, bind_ok] at P
      intro v H1 O1 t p1 r1 v1 ht Tb1
      cases qx : p.1 with
      | bl c =>
        rw [qx] at P v1
        refine ⟨c, v1, ?_⟩
        have P : PoE γ X.K T E H O σ (mu e || mus (e2 :: es)) true (if c = true then .ok (.bl true, p.2) else Mi.evOr gl cf (e2 :: es) p.2) Q := P
        cases c with
        | false =>
          rw [if_neg Bool.false_ne_true] at P ⊢
          refine ⟨p.2, O1, r1, Tb1, ?_⟩
          cases q2 : Mi.evOr gl cf (e2 :: es) p.2 with
          | ok r =>
            rw [q2] at P
            exact fun w H2 O2 t2 p2 r2 w2 ht2 Tb2 => P w H2 O2 t2 (PstB.trans R.od r1.od p1 p2) r2 w2 (fun e => nomatch e) Tb2
          | exc y as =>
            rw [q2] at P
            exact PoX.of (p1.pst R.od) P
          | stk =>
            rw [q2] at P
            exact P
        | true =>
          rw [if_pos rfl] at P ⊢
          exact P _ H1 O1 tmp (PstB.weak R.od p1 fun h => or_l h) r1 (rfl : _ = V.bl true) (fun _ => rfl) Tb1
      | _ =>
        rw [qx] at P
        exact P.elim
    | exc y as =>
      rw [q] at P
      exact P
    | stk =>
      rw [q] at P
      exact P
/-- two tests, one behind the other -/
theorem tst_two {ta tb tf : TF} {ba bb : Bool} {neg : Bool} (hf : ∀ env, tf env = (ta env).bind fun p => if p.1 = neg then .ok (neg, p.2) else tb p.2) : ∀ σ H Q, tTst γ X.K T E tf (ba || bb) σ H Q →
    tTst γ X.K T E ta ba σ H fun c H1 => if c = neg then Q neg H1 else tTst γ X.K T E tb bb σ H1 Q := by
  intro σ H Q ⟨env, O, R, Tb, P⟩
  refine ⟨env, O, R, Tb, ?_⟩
  rw [hf] at P
  cases q : ta env with
  | ok p =>
    rw [q, bind_ok] at P
    intro H1 O1 p1 r1 Tb1
    by_cases hc : p.1 = neg
    · rw [if_pos hc] at P ⊢
      exact P H1 O1 (PstB.weak R.od p1 fun h => or_l h) r1 Tb1
    · rw [if_neg hc] at P ⊢
      refine ⟨p.2, O1, r1, Tb1, ?_⟩
      cases q2 : tb p.2 with
      | ok r =>
        rw [q2] at P
        exact fun H2 O2 p2 r2 Tb2 => P H2 O2 (PstB.trans R.od r1.od p1 p2) r2 Tb2
      | exc y as =>
        rw [q2] at P
        exact PoX.of (p1.pst R.od) P
      | stk =>
        rw [q2] at P
        exact P
  | exc y as =>
    rw [q] at P
    exact P
  | stk =>
    rw [q] at P
    exact P
theorem tOf_ev {e : Mi.E} {env : EnvI} : tOf (Mi.ev gl cf e) env = (Mi.ev gl cf e env).bind fun p => (Mi.tB p.1).bind fun b => .ok (b, p.2) := rfl
theorem t_and {pos : Pos} : ∀ {es : List Mi.E} {xs : List Expr}, PTs' γ T E X gl cf es xs → xs ≠ [] → PW X (.BoolOp .And xs pos) (tTst γ X.K T E (tOf (Mi.evAnd gl cf es)) (mus es))
  | _, _, .nil, h => absurd rfl h
  | _, _, .cons (es := []) h1 .nil, _ => PW.weak (pw_and1 h1) (tT_mono (fun env => by simp only [tOf, Mi.evAnd]) fun h => or_l h)
  | e :: e2 :: es, x :: x2 :: xs, .cons h1 (.cons h2 h3), _ => by
    have ih := t_and (pos := pos) (PTs'.cons h2 h3) (List.cons_ne_nil _ _)
    refine PW.weak (pw_and h1 ih) fun σ H Q h => ?_
    have := tst_two (ta := tOf (Mi.ev gl cf e)) (tb := tOf (Mi.evAnd gl cf (e2 :: es))) (ba := mu e) (bb := mus (e2 :: es)) (neg := false) (fun env => by
      simp only [tOf, Mi.evAnd]
      cases Mi.ev gl cf e env with
      | ok p =>
        simp only [Res.bind]
        cases p.1 with
        | bl c => cases c <;> rfl
        | _ => rfl
      | exc x as => rfl
      | stk => rfl) σ H Q h
    obtain ⟨env, O, R, Tb, P⟩ := this
    refine ⟨env, O, R, Tb, ?_⟩
    cases q : tOf (Mi.ev gl cf e) env with
    | ok p =>
      rw [q] at P
      intro H1 O1 p1 r1 Tb1
      have z := P H1 O1 p1 r1 Tb1
      show if p.1 = true then _ else _
      cases hc : p.1 with
      | true =>
        rw [hc] at z
        exact z
      | false =>
        rw [hc] at z
        exact z
    | exc y as =>
      rw [q] at P
      exact P
    | stk =>
      rw [q] at P
      exact P
theorem t_or {pos : Pos} : ∀ {es : List Mi.E} {xs : List Expr}, PTs' γ T E X gl cf es xs → xs ≠ [] → PW X (.BoolOp .Or xs pos) (tTst γ X.K T E (tOf (Mi.evOr gl cf es)) (mus es))
  | _, _, .nil, h => absurd rfl h
  | _, _, .cons (es := []) h1 .nil, _ => PW.weak (pw_or1 h1) (tT_mono (fun env => by simp only [tOf, Mi.evOr]) fun h => or_l h)
  | e :: e2 :: es, x :: x2 :: xs, .cons h1 (.cons h2 h3), _ => by
    have ih := t_or (pos := pos) (PTs'.cons h2 h3) (List.cons_ne_nil _ _)
    refine PW.weak (pw_or h1 ih) fun σ H Q h => ?_
    have := tst_two (ta := tOf (Mi.ev gl cf e)) (tb := tOf (Mi.evOr gl cf (e2 :: es))) (ba := mu e) (bb := mus (e2 :: es)) (neg := true) (fun env => by
      simp only [tOf, Mi.evOr]
      cases Mi.ev gl cf e env with
      | ok p =>
        simp only [Res.bind]
        cases p.1 with
        | bl c => cases c <;> rfl
        | _ => rfl
      | exc x as => rfl
      | stk => rfl) σ H Q h
    obtain ⟨env, O, R, Tb, P⟩ := this
    refine ⟨env, O, R, Tb, ?_⟩
    cases q : tOf (Mi.ev gl cf e) env with
    | ok p =>
      rw [q] at P
      intro H1 O1 p1 r1 Tb1
      have z := P H1 O1 p1 r1 Tb1
      show if p.1 = true then _ else _
      cases hc : p.1 with
      | true =>
        rw [hc] at z
        exact z
      | false =>
        rw [hc] at z
        exact z
    | exc y as =>
      rw [q] at P
      exact P
    | stk =>
      rw [q] at P
      exact P
end
end MiS

set_option Elab.async false
set_option linter.all false
set_option maxRecDepth 100000
set_option maxHeartbeats 4000000
/-! MiS: comparisons, argument lists, displays, places -/
namespace MiS
open PySem PySem.Spec PyProof.Rows L2
open Mi (D Res Fl)
def cpOf : Mi.Cp → CmpOp
  | .eq => .Eq
  | .ne => .NotEq
  | .lt => .Lt
  | .le => .LtE
  | .gt => .Gt
  | .ge => .GtE
  | .is => .Is
  | .isn => .IsNot
  | .isin => .In
  | .nin => .NotIn
def opOf : Mi.Op2 → Operator
  | .add => .Add
  | .sub => .Sub
  | .mul => .Mult
  | .fdiv => .FloorDiv
  | .mod => .Mod
  | .pow => .Pow
section
variable {γ : GC} {T : TabL} {E : XK} {X : Cx} {H : Hp} {O : OM} {gl : List D} {cf : Nat → List D → Res (D × List D)}
theorem ok_cp {k : Nat} (hr : Room k X.A) : ∀ c : Mi.Cp, OpR X (compareOp (cpOf c)) (rC γ X.K (Mi.cmpD c))
  | .eq => ok_eq hr
  | .ne => ok_ne hr
  | .lt => ok_lt hr
  | .le => ok_le
  | .gt => ok_gt
  | .ge => ok_ge
  | .is => ok_is
  | .isn => ok_isn
  | .isin => ok_in hr
  | .nin => ok_nin hr
theorem ok_op : ∀ o : Mi.Op2, OpR X (binaryOp (opOf o)) (rD γ X.K (Mi.binD o))
  | .add => ok_add
  | .sub => ok_sub
  | .mul => ok_mul
  | .fdiv => ok_fdiv
  | .mod => ok_mod
  | .pow => ok_pow
theorem e_bin {o : Mi.Op2} {a b : Mi.E} {xa xb : Expr} {pos : Pos} (ha : PE X xa (tE γ X.K T E (Mi.ev gl cf a) (mu a) (Mi.vw a))) (hb : PE X xb (tE γ X.K T E (Mi.ev gl cf b) (mu b) (Mi.vw b))) (hc : Mi.vw a = false ∨ mu b = false) :
    PE X (.BinOp xa (opOf o) xb pos) (tE γ X.K T E (Mi.ev gl cf (.bin o a b)) (mu (.bin o a b)) (Mi.vw (.bin o a b))) :=
  PE.weak (pe_op (ok_op o) ha hb) (op2_D hc fun env => by simp only [Mi.ev])
theorem e_ix {a b : Mi.E} {xa xb : Expr} {pos : Pos} {k : Nat} (hr : Room k X.A) (ha : PE X xa (tE γ X.K T E (Mi.ev gl cf a) (mu a) (Mi.vw a))) (hb : PE X xb (tE γ X.K T E (Mi.ev gl cf b) (mu b) (Mi.vw b))) (hc : Mi.vw a = false ∨ mu b = false) (hs : PlainIx xb) :
    PE X (.Subscript xa xb pos) (tE γ X.K T E (Mi.ev gl cf (.ix a b)) (mu (.ix a b)) (Mi.vw (.ix a b))) :=
  PE.weak (pe_ix (ok_ix hr) ha hb hs) (op2_D hc fun env => by simp only [Mi.ev])
theorem e_cmp1 {c : Mi.Cp} {a b : Mi.E} {xa xb : Expr} {pos : Pos} {k : Nat} (hr : Room k X.A) (ha : PE X xa (tE γ X.K T E (Mi.ev gl cf a) (mu a) (Mi.vw a))) (hb : PE X xb (tE γ X.K T E (Mi.ev gl cf b) (mu b) (Mi.vw b))) (hc : Mi.vw a = false ∨ mu b = false) (hm : behindInMarks (cpOf c) xb = false) :
    PE X (.Compare xa [cpOf c] [xb] pos) (tE γ X.K T E (Mi.ev gl cf (.cmp a [c] [b])) (mu (.cmp a [c] [b])) (Mi.vw (.cmp a [c] [b]))) := by
  refine PE.weak (pe_cmpR (ok_cp (γ := γ) hr c) ha hb hm) fun σ H Q h => ?_
  refine op2_C (g := Mi.cmpD c) hc (f := Mi.ev gl cf (.cmp a [c] [b])) (fun env => by simp only [Mi.ev, Mi.evc]) σ H Q ?_
  have e : (mu a || mu b) = mu (.cmp a [c] [b]) := by simp [mu, mus]
  rw [e]
  exact h
theorem t_cmp1 {c : Mi.Cp} {a b : Mi.E} {xa xb : Expr} {pos : Pos} {k : Nat} (hr : Room k X.A) (ha : PE X xa (tE γ X.K T E (Mi.ev gl cf a) (mu a) (Mi.vw a))) (hb : PE X xb (tE γ X.K T E (Mi.ev gl cf b) (mu b) (Mi.vw b))) (hc : Mi.vw a = false ∨ mu b = false) (hm : behindInMarks (cpOf c) xb = false) :
    PT X (.Compare xa [cpOf c] [xb] pos) (tTst γ X.K T E (tOf (Mi.ev gl cf (.cmp a [c] [b]))) (mu (.cmp a [c] [b]))) := by
  refine PT.weak (pt_cmpR (ok_cp (γ := γ) hr c) ha hb hm) fun σ H Q h => ?_
  refine op2_C (g := Mi.cmpD c) hc (f := Mi.ev gl cf (.cmp a [c] [b])) (fun env => by simp only [Mi.ev, Mi.evc]) σ H _ ?_
  have e : (mu a || mu b) = mu (.cmp a [c] [b]) := by simp [mu, mus]
  rw [e]
  exact tst_of (va := false) σ H Q h
/-- the rest of a chain, from the value of its left end -/
theorem chain_ok {k : Nat} (hr : Room k X.A) {pos : Pos} : ∀ {es : List Mi.E} {xs : List Expr} {os : List Mi.Cp}, PEs γ T E X gl cf es xs → mus es = false → es ≠ [] → os.length = es.length →
    ∀ (pins : List (Addr × Obj)) (s : Shared) (σ : L2.St) (H : Hp) (O : OM) (env : EnvI) (x : D) (v : V) (u : Value) (t : Tag) (Q : VK), Inv X pins σ H s → RelV v u → RS γ X.K H O env σ → t.1 ≠ tT → VR γ X.K H O t x v → LamX.Tabs T H →
      PoE γ X.K T E H O σ false false (Mi.evc gl cf x os es env) Q → wpAny (model X.prog X.w) X.A (compareChain pos u (os.map cpOf) (evalEach xs X.env)) (EP X pins σ Q) X.xe s
  | _, _, _, .nil, _, h, _ => absurd rfl h
  | _, _, os, .cons (es := es') (e := e) (x := xx) (xs := xs') h1 s1 h2, hm, _, hl => fun pins s σ H O env x v u t Q I rv R ht hx Tb P => by
    obtain ⟨hme, hme'⟩ := Bool.or_eq_false_iff.mp (show (mu e || mus es') = false from hm)
    rw [hme] at h1
    cases os with
    | nil => cases hl
    | cons o os' =>
      cases h2 with
      | nil =>
        cases os' with
        | cons _ _ => cases hl
        | nil =>
          have P : PoE γ X.K T E H O σ false false ((Mi.ev gl cf e env).bind fun p => (Res.of (Mi.cmpD o x p.1)).bind fun c => .ok (.bl c, p.2)) Q := by
            have : Mi.evc gl cf x [o] [e] env = (Mi.ev gl cf e env).bind fun p => (Res.of (Mi.cmpD o x p.1)).bind fun c => .ok (.bl c, p.2) := by simp only [Mi.evc]
            rw [← this]
            exact P
          refine chain_last (thn (h1.run pins s σ H (fun w H2 => rC γ X.K (Mi.cmpD o) v w H2 Q) I ⟨env, O, R, Tb, ?_⟩) fun u2 s2 ⟨y, H2, I2, r2, q2⟩ => ok_cp hr o pins s2 σ H2 v y u u2 Q I2 rv r2 q2)
          cases q : Mi.ev gl cf e env with
          | ok p =>
            rw [q, bind_ok] at P
            intro w H2 O2 t2 p2 r2 w2 ht2 Tb2
            cases qc : Mi.cmpD o x p.1 with
            | none =>
              rw [qc] at P
              exact P.elim
            | some c =>
              rw [qc] at P
              exact ⟨O2, x, p.1, t, t2, c, r2.od, hx.pp R.od p2 ht, w2, qc, P _ H2 O2 tmp p2 r2 (rfl : _ = V.bl c) (fun _ => rfl) Tb2⟩
          | exc y as =>
            rw [q] at P
            exact P
          | stk =>
            rw [q] at P
            exact P
      | @cons e2 x2 es2 xs2 h3 s3 h4 =>
        cases os' with
        | nil => cases hl
        | cons o2 os2 =>
          have P : PoE γ X.K T E H O σ false false ((Mi.ev gl cf e env).bind fun p => (Res.of (Mi.cmpD o x p.1)).bind fun c => if c = true then Mi.evc gl cf p.1 (o2 :: os2) (e2 :: es2) p.2 else .ok (.bl false, p.2)) Q := by
            have : Mi.evc gl cf x (o :: o2 :: os2) (e :: e2 :: es2) env = (Mi.ev gl cf e env).bind fun p => (Res.of (Mi.cmpD o x p.1)).bind fun c => if c = true then Mi.evc gl cf p.1 (o2 :: os2) (e2 :: es2) p.2 else .ok (.bl false, p.2) := by simp only [Mi.evc]
            rw [← this]
            exact P
          refine chain_link (thn (h1.run pins s σ H (fun w H2 => rC γ X.K (Mi.cmpD o) v w H2 fun c H3 => ∃ b, c = .bl b ∧ ∀ (pins : List (Addr × Obj)) (s : Shared) (u2 : Value), Inv X pins σ H3 s → RelV w u2 →
            (if b = true then wpAny (model X.prog X.w) X.A (compareChain pos u2 (cpOf o2 :: os2.map cpOf) (eval x2 X.env :: evalEach xs2 X.env)) (EP X pins σ Q) X.xe s else EP X pins σ Q (.bool b) s)) I ⟨env, O, R, Tb, ?_⟩) fun u2 s2 ⟨y, H2, I2, r2, q2⟩ =>
            thn (ok_cp hr o pins s2 σ H2 v y u u2 _ I2 rv r2 q2) fun c s3 ⟨z, H3, I3, r3, b, eb, q3⟩ => ?_)
          · cases q : Mi.ev gl cf e env with
            | ok p =>
              rw [q, bind_ok] at P
              intro w H2 O2 t2 p2 r2 w2 ht2 Tb2
              cases qc : Mi.cmpD o x p.1 with
              | none =>
                rw [qc] at P
                exact P.elim
              | some c =>
                rw [qc] at P
                have P : PoE γ X.K T E H O σ false false (if c = true then Mi.evc gl cf p.1 (o2 :: os2) (e2 :: es2) p.2 else .ok (.bl false, p.2)) Q := P
                refine ⟨O2, x, p.1, t, t2, c, r2.od, hx.pp R.od p2 ht, w2, qc, c, rfl, fun pins' s' u' I' r' => ?_⟩
                cases c with
                | false =>
                  rw [if_neg Bool.false_ne_true] at P ⊢
                  exact ⟨.bl false, H2, I', rfl, P _ H2 O2 tmp p2 r2 (rfl : _ = V.bl false) (fun _ => rfl) Tb2⟩
                | true =>
                  rw [if_pos rfl] at P ⊢
                  obtain ⟨t3, ht3, w3⟩ := hold2 r2.od w2
                  refine chain_ok hr (es := e2 :: es2) (xs := x2 :: xs2) (os := o2 :: os2) (.cons h3 s3 h4) hme' (List.cons_ne_nil _ _) (by simpa using hl) _ _ _ _ _ _ _ _ _ _ _ I' r' (r2.s r2.od.toF (toF_s _ _)) ht3 w3 Tb2 ?_
                  have p2s : PstP H O H2 (toF O2) := PstP.trans p2 (toF_s H2 O2).p
                  cases q3 : Mi.evc gl cf p.1 (o2 :: os2) (e2 :: es2) p.2 with
                  | ok r =>
                    rw [q3] at P
                    exact fun w4 H4 O4 t4 p4 r4 v4 ht4 Tb4 => P w4 H4 O4 t4 (PstP.trans p2s p4) r4 v4 ht4 Tb4
                  | exc y as =>
                    rw [q3] at P
                    exact PoX.of (p2s.pst R.od) P
                  | stk =>
                    rw [q3] at P
                    exact P
            | exc y as =>
              rw [q] at P
              exact P
            | stk =>
              rw [q] at P
              exact P
          · subst eb
            cases r3
            refine wpAny_truthy_bool ?_
            exact q3 pins s3 u2 I3 r2
end
end MiS

set_option Elab.async false
set_option linter.all false
set_option maxRecDepth 100000
set_option maxHeartbeats 4000000
/-! MiS: chains, argument lists, displays -/
namespace MiS
open PySem PySem.Spec PyProof.Rows L2
open Mi (D Res Fl)
section
variable {γ : GC} {T : TabL} {E : XK} {X : Cx} {H : Hp} {O : OM} {gl : List D} {cf : Nat → List D → Res (D × List D)}
theorem PEs.len {es : List Mi.E} {xs : List Expr} (h : PEs γ T E X gl cf es xs) : es.length = xs.length := by
  induction h with
  | nil => rfl
  | cons _ _ _ ih => exact congrArg (· + 1) ih
theorem PEs.each {es : List Mi.E} {xs : List Expr} (h : PEs γ T E X gl cf es xs) : evalEach xs X.env = xs.map fun x => eval x X.env := by
  induction h with
  | nil => rfl
  | cons _ _ _ ih => exact congrArg _ ih
theorem PoE.pre {K : PySem.W.Frag} {H1 : Hp} {O1 : OM} {σ : St} {b c vw : Bool} {r : Res (D × EnvI)} {Q : VK} (d : OD H O) (d1 : OD H1 O1) (p : PstB b H O H1 O1) (P : PoE γ K T E H O σ (b || c) vw r Q) : PoE γ K T E H1 O1 σ c vw r Q := by
  cases r with
  | ok q => exact fun v H2 O2 t p2 r2 v2 ht Tb2 => P v H2 O2 t (PstB.trans d d1 p p2) r2 v2 ht Tb2
  | exc y as => exact PoX.of (p.pst d) P
  | stk => exact P
/-- a chain of two or more -/
theorem e_cmpN {k : Nat} (hr : Room k X.A) {pos : Pos} {a : Mi.E} {xa : Expr} {e1 e2 : Mi.E} {x1 x2 : Expr} {es : List Mi.E} {xs : List Expr} {o1 o2 : Mi.Cp} {os : List Mi.Cp} (ha : PE X xa (tE γ X.K T E (Mi.ev gl cf a) (mu a) (Mi.vw a)))
    (hs : PEs γ T E X gl cf (e1 :: e2 :: es) (x1 :: x2 :: xs)) (hm : mus (e1 :: e2 :: es) = false) (hl : (o1 :: o2 :: os).length = (e1 :: e2 :: es).length) (hk : lastMarks ((o1 :: o2 :: os).map cpOf) (x1 :: x2 :: xs) = false) :
    PE X (.Compare xa ((o1 :: o2 :: os).map cpOf) (x1 :: x2 :: xs) pos) (tE γ X.K T E (Mi.ev gl cf (.cmp a (o1 :: o2 :: os) (e1 :: e2 :: es))) (mu (.cmp a (o1 :: o2 :: os) (e1 :: e2 :: es))) (Mi.vw (.cmp a (o1 :: o2 :: os) (e1 :: e2 :: es)))) := by
  refine ⟨fun pins s σ H Q I ⟨env, O, R, Tb, P⟩ => ?_⟩
  refine Compare_chain (thn (ha.run pins s σ H (fun v H1 => ∀ (pins : List (Addr × Obj)) (s : Shared) (u : Value), Inv X pins σ H1 s → RelV v u → wpAny (model X.prog X.w) X.A (compareChain pos u ((o1 :: o2 :: os).map cpOf) (evalEach (x1 :: x2 :: xs) X.env)) (EP X pins σ Q) X.xe s) I ⟨env, O, R, Tb, ?_⟩) fun u s1 ⟨v, H1, I1, r1, q1⟩ => q1 pins s1 u I1 r1) hk
  have P : PoE γ X.K T E H O σ (mu a || mus (e1 :: e2 :: es)) false ((Mi.ev gl cf a env).bind fun p => Mi.evc gl cf p.1 (o1 :: o2 :: os) (e1 :: e2 :: es) p.2) Q := by
    have : Mi.ev gl cf (.cmp a (o1 :: o2 :: os) (e1 :: e2 :: es)) env = (Mi.ev gl cf a env).bind fun p => Mi.evc gl cf p.1 (o1 :: o2 :: os) (e1 :: e2 :: es) p.2 := by simp only [Mi.ev]
    rw [← this]
    exact P
  rw [hm] at P
  cases q : Mi.ev gl cf a env with
  | ok p =>
    rw [q, bind_ok] at P
    intro v H1 O1 t p1 r1 v1 ht Tb1 pins' s' u' I' r'
    obtain ⟨t3, ht3, w3⟩ := hold2 r1.od v1
    refine chain_ok hr hs hm (List.cons_ne_nil _ _) hl pins' s' σ H1 (toF O1) p.2 p.1 v u' t3 Q I' r' (r1.s r1.od.toF (toF_s _ _)) ht3 w3 Tb1 ?_
    exact PoE.pre R.od r1.od.toF (PstB.s R.od r1.od p1 (toF_s _ _)) P
  | exc x as =>
    rw [q] at P
    exact P
  | stk =>
    rw [q] at P
    exact P
/-- .. as a test -/
theorem chainT_ok {k : Nat} (hr : Room k X.A) {pos : Pos} : ∀ {es : List Mi.E} {xs : List Expr} {os : List Mi.Cp}, PEs γ T E X gl cf es xs → mus es = false → es ≠ [] → os.length = es.length →
    ∀ (pins : List (Addr × Obj)) (s : Shared) (σ : L2.St) (H : Hp) (O : OM) (env : EnvI) (x : D) (v : V) (u : Value) (t : Tag) (Q : Bool → Hp → Prop), Inv X pins σ H s → RelV v u → RS γ X.K H O env σ → t.1 ≠ tT → VR γ X.K H O t x v → LamX.Tabs T H →
      PoE γ X.K T E H O σ false false (Mi.evc gl cf x os es env) (fun v H => ∃ b, v = .bl b ∧ Q b H) → wpAny (model X.prog X.w) X.A (testChain pos u (os.map cpOf) (evalEach xs X.env)) (fun b s' => ∃ H', Inv X pins σ H' s' ∧ Q b H') X.xe s
  | _, _, _, .nil, _, h, _ => absurd rfl h
  | _, _, os, .cons (es := es') (e := e) (x := xx) (xs := xs') h1 s1 h2, hm, _, hl => fun pins s σ H O env x v u t Q I rv R ht hx Tb P => by
    obtain ⟨hme, hme'⟩ := Bool.or_eq_false_iff.mp (show (mu e || mus es') = false from hm)
    rw [hme] at h1
    cases os with
    | nil => cases hl
    | cons o os' =>
      cases h2 with
      | nil =>
        cases os' with
        | cons _ _ => cases hl
        | nil =>
          have P : PoE γ X.K T E H O σ false false ((Mi.ev gl cf e env).bind fun p => (Res.of (Mi.cmpD o x p.1)).bind fun c => .ok (.bl c, p.2)) (fun v H => ∃ b, v = .bl b ∧ Q b H) := by
            have : Mi.evc gl cf x [o] [e] env = (Mi.ev gl cf e env).bind fun p => (Res.of (Mi.cmpD o x p.1)).bind fun c => .ok (.bl c, p.2) := by simp only [Mi.evc]
            rw [← this]
            exact P
          refine test_last (thn (h1.run pins s σ H (fun w H2 => rC γ X.K (Mi.cmpD o) v w H2 fun v H => ∃ b, v = .bl b ∧ Q b H) I ⟨env, O, R, Tb, ?_⟩) fun u2 s2 ⟨y, H2, I2, r2, q2⟩ =>
            thn (ok_cp hr o pins s2 σ H2 v y u u2 _ I2 rv r2 q2) fun c s3 ⟨z, H3, I3, r3, b, eb, q3⟩ => ?_)
          · cases q : Mi.ev gl cf e env with
            | ok p =>
              rw [q, bind_ok] at P
              intro w H2 O2 t2 p2 r2 w2 ht2 Tb2
              cases qc : Mi.cmpD o x p.1 with
              | none =>
                rw [qc] at P
                exact P.elim
              | some c =>
                rw [qc] at P
                exact ⟨O2, x, p.1, t, t2, c, r2.od, hx.pp R.od p2 ht, w2, qc, P _ H2 O2 tmp p2 r2 (rfl : _ = V.bl c) (fun _ => rfl) Tb2⟩
            | exc y as =>
              rw [q] at P
              exact P
            | stk =>
              rw [q] at P
              exact P
          · subst eb
            cases r3
            exact wpAny_truthy_bool ⟨H3, I3, q3⟩
      | @cons e2 x2 es2 xs2 h3 s3 h4 =>
        cases os' with
        | nil => cases hl
        | cons o2 os2 =>
          have P : PoE γ X.K T E H O σ false false ((Mi.ev gl cf e env).bind fun p => (Res.of (Mi.cmpD o x p.1)).bind fun c => if c = true then Mi.evc gl cf p.1 (o2 :: os2) (e2 :: es2) p.2 else .ok (.bl false, p.2)) (fun v H => ∃ b, v = .bl b ∧ Q b H) := by
            have : Mi.evc gl cf x (o :: o2 :: os2) (e :: e2 :: es2) env = (Mi.ev gl cf e env).bind fun p => (Res.of (Mi.cmpD o x p.1)).bind fun c => if c = true then Mi.evc gl cf p.1 (o2 :: os2) (e2 :: es2) p.2 else .ok (.bl false, p.2) := by simp only [Mi.evc]
            rw [← this]
            exact P
          refine test_link (thn (h1.run pins s σ H (fun w H2 => rC γ X.K (Mi.cmpD o) v w H2 fun c H3 => ∃ b, c = .bl b ∧ ∀ (pins : List (Addr × Obj)) (s : Shared) (u2 : Value), Inv X pins σ H3 s → RelV w u2 →
            (if b = true then wpAny (model X.prog X.w) X.A (testChain pos u2 (cpOf o2 :: os2.map cpOf) (eval x2 X.env :: evalEach xs2 X.env)) (fun b s' => ∃ H', Inv X pins σ H' s' ∧ Q b H') X.xe s else ∃ H', Inv X pins σ H' s ∧ Q false H')) I ⟨env, O, R, Tb, ?_⟩) fun u2 s2 ⟨y, H2, I2, r2, q2⟩ =>
            thn (ok_cp hr o pins s2 σ H2 v y u u2 _ I2 rv r2 q2) fun c s3 ⟨z, H3, I3, r3, b, eb, q3⟩ => ?_)
          · cases q : Mi.ev gl cf e env with
            | ok p =>
              rw [q, bind_ok] at P
              intro w H2 O2 t2 p2 r2 w2 ht2 Tb2
              cases qc : Mi.cmpD o x p.1 with
              | none =>
                rw [qc] at P
                exact P.elim
              | some c =>
                rw [qc] at P
                have P : PoE γ X.K T E H O σ false false (if c = true then Mi.evc gl cf p.1 (o2 :: os2) (e2 :: es2) p.2 else .ok (.bl false, p.2)) (fun v H => ∃ b, v = .bl b ∧ Q b H) := P
                refine ⟨O2, x, p.1, t, t2, c, r2.od, hx.pp R.od p2 ht, w2, qc, c, rfl, fun pins' s' u' I' r' => ?_⟩
                cases c with
                | false =>
                  rw [if_neg Bool.false_ne_true] at P ⊢
                  obtain ⟨b, eb, hq⟩ := P (.bl false) H2 O2 tmp p2 r2 (rfl : _ = V.bl false) (fun _ => rfl) Tb2
                  cases eb
                  exact ⟨H2, I', hq⟩
                | true =>
                  rw [if_pos rfl] at P ⊢
                  obtain ⟨t3, ht3, w3⟩ := hold2 r2.od w2
                  exact chainT_ok hr (es := e2 :: es2) (xs := x2 :: xs2) (os := o2 :: os2) (.cons h3 s3 h4) hme' (List.cons_ne_nil _ _) (by simpa using hl) _ _ _ _ _ _ _ _ _ _ _ I' r' (r2.s r2.od.toF (toF_s _ _)) ht3 w3 Tb2 (PoE.pre (b := false) R.od r2.od.toF (PstB.s (b := false) R.od r2.od p2 (toF_s _ _)) P)
            | exc y as =>
              rw [q] at P
              exact P
            | stk =>
              rw [q] at P
              exact P
          · subst eb
            cases r3
            refine wpAny_truthy_bool ?_
            exact q3 pins s3 u2 I3 r2
theorem t_cmpN {k : Nat} (hr : Room k X.A) {pos : Pos} {a : Mi.E} {xa : Expr} {e1 e2 : Mi.E} {x1 x2 : Expr} {es : List Mi.E} {xs : List Expr} {o1 o2 : Mi.Cp} {os : List Mi.Cp} (ha : PE X xa (tE γ X.K T E (Mi.ev gl cf a) (mu a) (Mi.vw a)))
    (hs : PEs γ T E X gl cf (e1 :: e2 :: es) (x1 :: x2 :: xs)) (hm : mus (e1 :: e2 :: es) = false) (hl : (o1 :: o2 :: os).length = (e1 :: e2 :: es).length) (hk : lastMarks ((o1 :: o2 :: os).map cpOf) (x1 :: x2 :: xs) = false) :
    PT X (.Compare xa ((o1 :: o2 :: os).map cpOf) (x1 :: x2 :: xs) pos) (tTst γ X.K T E (tOf (Mi.ev gl cf (.cmp a (o1 :: o2 :: os) (e1 :: e2 :: es)))) (mu (.cmp a (o1 :: o2 :: os) (e1 :: e2 :: es)))) := by
  refine ⟨fun pins s σ H Q I h => ?_⟩
  obtain ⟨env, O, R, Tb, P⟩ := tst_of (va := false) σ H Q h
  refine isTrue_chain (thn (ha.run pins s σ H (fun v H1 => ∀ (pins : List (Addr × Obj)) (s : Shared) (u : Value), Inv X pins σ H1 s → RelV v u → wpAny (model X.prog X.w) X.A (testChain pos u ((o1 :: o2 :: os).map cpOf) (evalEach (x1 :: x2 :: xs) X.env)) (fun b s' => ∃ H', Inv X pins σ H' s' ∧ Q b H') X.xe s) I ⟨env, O, R, Tb, ?_⟩) fun u s1 ⟨v, H1, I1, r1, q1⟩ => q1 pins s1 u I1 r1) hk
  have P : PoE γ X.K T E H O σ (mu a || mus (e1 :: e2 :: es)) false ((Mi.ev gl cf a env).bind fun p => Mi.evc gl cf p.1 (o1 :: o2 :: os) (e1 :: e2 :: es) p.2) (fun v H => ∃ b, v = .bl b ∧ Q b H) := by
    have : Mi.ev gl cf (.cmp a (o1 :: o2 :: os) (e1 :: e2 :: es)) env = (Mi.ev gl cf a env).bind fun p => Mi.evc gl cf p.1 (o1 :: o2 :: os) (e1 :: e2 :: es) p.2 := by simp only [Mi.ev]
    rw [← this]
    exact P
  rw [hm] at P
  cases q : Mi.ev gl cf a env with
  | ok p =>
    rw [q, bind_ok] at P
    intro v H1 O1 t p1 r1 v1 ht Tb1 pins' s' u' I' r'
    obtain ⟨t3, ht3, w3⟩ := hold2 r1.od v1
    exact chainT_ok hr hs hm (List.cons_ne_nil _ _) hl pins' s' σ H1 (toF O1) p.2 p.1 v u' t3 Q I' r' (r1.s r1.od.toF (toF_s _ _)) ht3 w3 Tb1 (PoE.pre R.od r1.od.toF (PstB.s R.od r1.od p1 (toF_s _ _)) P)
  | exc x as =>
    rw [q] at P
    exact P
  | stk =>
    rw [q] at P
    exact P

/-! ### argument lists: kept values -/
inductive AR (γ : GC) (K : PySem.W.Frag) (H : Hp) (O : OM) (σ : St) : List Mi.E → List D → List V → Prop
  | nil : AR γ K H O σ [] [] []
  | io {i : Nat} {v : V} {es : List Mi.E} {ds : List D} {vs : List V} : σ[i]? = some (some v) → AR γ K H O σ es ds vs → AR γ K H O σ (.io i :: es) (.non :: ds) (v :: vs)
  | cons {e : Mi.E} {d : D} {v : V} {es : List Mi.E} {ds : List D} {vs : List V} : (∀ i, e ≠ .io i) → d.own = false → VR γ K H O (0, 0) d v → AR γ K H O σ es ds vs → AR γ K H O σ (e :: es) (d :: ds) (v :: vs)
def noIo : List Mi.E → Bool
  | [] => true
  | .io _ :: _ => false
  | _ :: r => noIo r
theorem AR.vrs {K : PySem.W.Frag} {σ : St} {es : List Mi.E} {ds : List D} {vs : List V} (h : AR γ K H O σ es ds vs) (hn : noIo es = true) : VRs γ K H O ds vs := by
  induction h with
  | nil => rfl
  | io _ _ _ => cases hn
  | cons h1 h2 h3 h4 ih =>
    refine ⟨_, _, rfl, h2, h3, ih ?_⟩
    unfold noIo at hn
    split at hn
    · contradiction
    · cases hn
    · rename_i heq
      cases heq
      exact hn
theorem AR.len {K : PySem.W.Frag} {σ : St} {es : List Mi.E} {ds : List D} {vs : List V} (h : AR γ K H O σ es ds vs) : vs.length = es.length := by
  induction h with
  | nil => rfl
  | io _ _ ih => exact congrArg (· + 1) ih
  | cons _ _ _ _ ih => exact congrArg (· + 1) ih
def PoA (γ : GC) (K : PySem.W.Frag) (T : TabL) (E : XK) (H : Hp) (O : OM) (σ : St) (b : Bool) (es : List Mi.E) (r : Res (List D × EnvI)) (Q : List V → Hp → Prop) : Prop :=
  match r with
  | .ok p => ∀ vs H' O', PstB b H O H' O' → RS γ K H' O' p.2 σ → AR γ K H' O' σ es p.1 vs → LamX.Tabs T H' → Q vs H'
  | .exc x as => PoX γ T E H O x as
  | .stk => False
abbrev AF := EnvI → Res (List D × EnvI)
def tA (γ : GC) (K : PySem.W.Frag) (T : TabL) (E : XK) (f : AF) (b : Bool) (es : List Mi.E) : TA := fun σ H Q =>
  ∃ env O, RS γ K H O env σ ∧ LamX.Tabs T H ∧ PoA γ K T E H O σ b es (f env) Q
/-- frozen -/
theorem keep_ok {K : PySem.W.Frag} {e : Mi.E} {x : D} {v : V} {t : Tag} {env : EnvI} {σ : St} {b : Bool} {H0 : Hp} {O0 : OM} {r : D} (d0 : OD H0 O0) (p : PstB b H0 O0 H O) (R : RS γ K H O env σ) (h : VR γ K H O t x v) (ht : Mi.vw e = false → t = tmp) (hk : Mi.keep e x = .ok r) :
    r.own = false ∧ ∃ O', PstB b H0 O0 H O' ∧ RS γ K H O' env σ ∧ VR γ K H O' (0, 0) r v := by
  unfold Mi.keep at hk
  split at hk
  · cases hk
  · rename_i hc
    cases hk
    refine ⟨own_fz x, ?_⟩
    by_cases ho : x.own = false
    · have hi : ∀ o c fs, x ≠ .ins o c fs := fun o c fs e => by
        subst e
        exact h.elim
      rw [fz_of ho hi]
      exact ⟨O, p, R, VR.tag x ho h⟩
    · have hv : Mi.vw e = false := by
        cases q : Mi.vw e with
        | false => rfl
        | true =>
          rw [q] at hc
          cases q2 : x.own with
          | false => exact absurd q2 ho
          | true =>
            rw [q2] at hc
            exact absurd rfl hc
      have et := ht hv
      subst et
      exact ⟨unT O, p.s d0 R.od (unT_s _ _), R.s R.od.unT (unT_s _ _), VR.fz R.od ((unT_s H O).p.pst R.od).non x (fun a h2 => unT_tmp h2) h⟩

theorem AR.b {K : PySem.W.Frag} {b : Bool} {H' : Hp} {O' : OM} {σ : St} {es : List Mi.E} {ds : List D} {vs : List V} (d : OD H O) (p : PstB b H O H' O') (h : AR γ K H O σ es ds vs) : AR γ K H' O' σ es ds vs := by
  induction h with
  | nil => exact .nil
  | io h1 _ ih => exact .io h1 ih
  | cons h1 h2 h3 _ ih => exact .cons h1 h2 (VR.b d p h2 h3) ih
theorem PoA.pre {K : PySem.W.Frag} {H1 : Hp} {O1 : OM} {σ : St} {b c : Bool} {es : List Mi.E} {r : Res (List D × EnvI)} {Q : List V → Hp → Prop} (d : OD H O) (d1 : OD H1 O1) (p : PstB b H O H1 O1) (P : PoA γ K T E H O σ (b || c) es r Q) : PoA γ K T E H1 O1 σ c es r Q := by
  cases r with
  | ok q => exact fun v H2 O2 p2 r2 v2 Tb2 => P v H2 O2 (PstB.trans d d1 p p2) r2 v2 Tb2
  | exc y as => exact PoX.of (p.pst d) P
  | stk => exact P
theorem evs_io {i : Nat} {es : List Mi.E} {env : EnvI} : Mi.evs gl cf (.io i :: es) env = (Mi.getV env i).bind fun _ => (Mi.evs gl cf es env).bind fun p => .ok (.non :: p.1, p.2) := by
  simp only [Mi.evs]
theorem evs_cons {e : Mi.E} {es : List Mi.E} {env : EnvI} (h : ∀ i, e ≠ .io i) : Mi.evs gl cf (e :: es) env = (Mi.ev gl cf e env).bind fun p => (Mi.keep e p.1).bind fun x => (Mi.evs gl cf es p.2).bind fun q => .ok (x :: q.1, q.2) := by
  cases e <;> first | exact absurd rfl (h _) | simp only [Mi.evs]
theorem getV_exc {env : EnvI} {i x : Nat} {as : List D} (h : Mi.getV env i = .exc x as) : False := by
  unfold Mi.getV at h
  split at h <;> cases h
/-- what the checks of an argument list give -/
inductive PKs (γ : GC) (T : TabL) (E : XK) (X : Cx) (gl : List D) (cf : Nat → List D → Res (D × List D)) : List Mi.E → List Expr → Prop
  | nil : PKs γ T E X gl cf [] []
  | io {i : Nat} {x : Expr} {es : List Mi.E} {xs : List Expr} : PE X x (tVar i) → (∀ env, starEach (x :: xs) env = (false, eval x env) :: starEach xs env) → PKs γ T E X gl cf es xs → PKs γ T E X gl cf (.io i :: es) (x :: xs)
  | cons {e : Mi.E} {x : Expr} {es : List Mi.E} {xs : List Expr} : (∀ i, e ≠ .io i) → PE X x (tE γ X.K T E (Mi.ev gl cf e) (mu e) (Mi.vw e)) → (∀ env, starEach (x :: xs) env = (false, eval x env) :: starEach xs env) → PKs γ T E X gl cf es xs → PKs γ T E X gl cf (e :: es) (x :: xs)
theorem PKs.len {es : List Mi.E} {xs : List Expr} (h : PKs γ T E X gl cf es xs) : es.length = xs.length := by
  induction h with
  | nil => rfl
  | io _ _ _ ih => exact congrArg (· + 1) ih
  | cons _ _ _ _ ih => exact congrArg (· + 1) ih
theorem a_evs : ∀ {es : List Mi.E} {xs : List Expr}, PKs γ T E X gl cf es xs → PA X xs (tA γ X.K T E (Mi.evs gl cf es) (mus es) es)
  | _, _, .nil => PA.weak pa_nil fun σ H Q ⟨env, O, R, Tb, P⟩ => by
    have P : PoA γ X.K T E H O σ false [] (.ok ([], env)) Q := by
      have : Mi.evs gl cf [] env = .ok ([], env) := by simp only [Mi.evs]
      rw [← this]
      exact P
    exact P [] H O (PstP.refl H O) R .nil Tb
  | _, _, .io (i := i) (es := es) h1 s1 h2 => by
    refine PA.weak (pa_cons h1 (a_evs h2) (s1 X.env)) fun σ H Q ⟨env, O, R, Tb, P⟩ => ?_
    rw [evs_io] at P
    cases qg : Mi.getV env i with
    | ok d =>
      rw [qg, bind_ok] at P
      obtain ⟨v, g1, g2⟩ := R.at_ i d (getV_ok qg)
      refine ⟨v, g1, env, O, R, Tb, ?_⟩
      cases q2 : Mi.evs gl cf es env with
      | ok r =>
        rw [q2] at P
        exact fun vs H2 O2 p2 r2 v2 Tb2 => P (v :: vs) H2 O2 (p2.pst R.od) r2 (.io g1 v2) Tb2
      | exc y as =>
        rw [q2] at P
        exact P
      | stk =>
        rw [q2] at P
        exact P
    | exc x as => exact (getV_exc qg).elim
    | stk =>
      rw [qg] at P
      exact P.elim
  | _, _, .cons (e := e) (es := es) hn h1 s1 h2 => by
    refine PA.weak (pa_cons h1 (a_evs h2) (s1 X.env)) fun σ H Q ⟨env, O, R, Tb, P⟩ => ?_
    refine ⟨env, O, R, Tb, ?_⟩
    rw [evs_cons hn] at P
    cases q : Mi.ev gl cf e env with
    | ok p =>
      rw [q, bind_ok] at P
      intro v H1 O1 t p1 r1 v1 ht Tb1
      cases qk : Mi.keep e p.1 with
      | ok x =>
        rw [qk, bind_ok] at P
        obtain ⟨ho, O1', p1', r1', v1'⟩ := keep_ok R.od p1 r1 v1 ht qk
        refine ⟨p.2, O1', r1', Tb1, ?_⟩
        have P := PoA.pre (c := mus es) (es := e :: es) R.od r1'.od p1' P
        cases q2 : Mi.evs gl cf es p.2 with
        | ok r =>
          rw [q2] at P
          exact fun vs H2 O2 p2 r2 v2 Tb2 => P (v :: vs) H2 O2 p2 r2 (.cons hn ho (VR.b r1'.od p2 ho v1') v2) Tb2
        | exc y as =>
          rw [q2] at P
          exact P
        | stk =>
          rw [q2] at P
          exact P
      | exc y as =>
        unfold Mi.keep at qk
        split at qk <;> cases qk
      | stk =>
        rw [qk] at P
        exact P.elim
    | exc y as =>
      rw [q] at P
      exact P
    | stk =>
      rw [q] at P
      exact P
/-- a tuple, a list of written items -/
theorem e_tup {pos : Pos} {x1} {es : List Mi.E} {xs : List Expr} (h : PKs γ T E X gl cf es xs) (hn : noIo es = true) (hl : decide (es.length ≤ 1000) = true) :
    PE X (.Tuple xs x1 pos) (tE γ X.K T E (Mi.ev gl cf (.tup es)) (mu (.tup es)) (Mi.vw (.tup es))) := by
  refine PE.weak (pe_tup (a_evs h)) fun σ H Q ⟨env, O, R, Tb, P⟩ => ?_
  refine ⟨env, O, R, Tb, ?_⟩
  have P : PoE γ X.K T E H O σ (mus es) false ((Mi.evs gl cf es env).bind fun p => .ok (.tup p.1, p.2)) Q := by
    have : Mi.ev gl cf (.tup es) env = (Mi.evs gl cf es env).bind fun p => .ok (.tup p.1, p.2) := by simp only [Mi.ev]
    rw [← this]
    exact P
  cases q : Mi.evs gl cf es env with
  | ok p =>
    rw [q] at P
    intro vs H1 O1 p1 r1 a1 Tb1
    have hs : sizeLine = 16777216 := sizeLine_eq
    have := of_decide_eq_true hl
    refine ⟨by rw [a1.len]; omega, fun a ha => ?_⟩
    exact P (.ref a) (upd H1 a (.tup vs)) O1 tmp (p1.s R.od r1.od (new_s r1.od ha)) (r1.s (new_od r1.od ha) (new_s r1.od ha)) (new_tup r1.od ha (a1.vrs hn)) (fun _ => rfl) (tabs_s (new_s r1.od ha) Tb1)
  | exc y as =>
    rw [q] at P
    exact P
  | stk =>
    rw [q] at P
    exact P
theorem e_lst {pos : Pos} {es : List Mi.E} {xs : List Expr} (h : PKs γ T E X gl cf es xs) (hn : noIo es = true) (hl : decide (es.length ≤ 1000) = true) :
    PE X (.List xs pos) (tE γ X.K T E (Mi.ev gl cf (.lst es)) (mu (.lst es)) (Mi.vw (.lst es))) := by
  refine PE.weak (pe_lst (a_evs h)) fun σ H Q ⟨env, O, R, Tb, P⟩ => ?_
  refine ⟨env, O, R, Tb, ?_⟩
  have P : PoE γ X.K T E H O σ (mus es) false ((Mi.evs gl cf es env).bind fun p => .ok (.lst true p.1, p.2)) Q := by
    have : Mi.ev gl cf (.lst es) env = (Mi.evs gl cf es env).bind fun p => .ok (.lst true p.1, p.2) := by simp only [Mi.ev]
    rw [← this]
    exact P
  cases q : Mi.evs gl cf es env with
  | ok p =>
    rw [q] at P
    intro vs H1 O1 p1 r1 a1 Tb1
    have hs : sizeLine = 16777216 := sizeLine_eq
    have := of_decide_eq_true hl
    refine ⟨by rw [a1.len]; omega, fun a ha => ?_⟩
    exact P (.ref a) (upd H1 a (.lst vs)) (ownP O1 a) tmp (p1.s R.od r1.od (newO_s r1.od ha)) (r1.s (newO_od r1.od ha trivial) (newO_s r1.od ha)) (new_lst r1.od ha (a1.vrs hn)) (fun _ => rfl) (tabs_s (newO_s r1.od ha) Tb1)
  | exc y as =>
    rw [q] at P
    exact P
  | stk =>
    rw [q] at P
    exact P
/-- {} -/
theorem e_dic0 {pos : Pos} {tk : Bool} : PE X (.Dict [] [] pos) (tE γ X.K T E (Mi.ev gl cf (.dic tk [] [])) (mu (.dic tk [] [])) (Mi.vw (.dic tk [] []))) := by
  have hf : ∀ env, Mi.ev gl cf (.dic tk [] []) env = .ok (.dct true tk [], env) := fun env => by simp only [Mi.ev, Mi.evs, Mi.mkD, Res.bind, Res.of]
  cases tk with
  | false =>
    refine PE.weak pe_dnewK fun σ H Q ⟨env, O, R, Tb, P⟩ a ha => ?_
    rw [hf] at P
    exact P (.ref a) _ (ownP O a) tmp (newO_s R.od ha).p (R.s (newO_od R.od ha trivial) (newO_s R.od ha)) (new_dK ha) (fun _ => rfl) (tabs_s (newO_s R.od ha) Tb)
  | true =>
    refine PE.weak pe_dnewT fun σ H Q ⟨env, O, R, Tb, P⟩ a ha => ?_
    rw [hf] at P
    exact P (.ref a) _ (ownP O a) tmp (newO_s R.od ha).p (R.s (newO_od R.od ha trivial) (newO_s R.od ha)) (new_dT ha) (fun _ => rfl) (tabs_s (newO_s R.od ha) Tb)

/-! ### argument lists: looked at -/
inductive BR (γ : GC) (K : PySem.W.Frag) (H : Hp) (O : OM) : List D → List V → Prop
  | nil : BR γ K H O [] []
  | cons {d : D} {v : V} {t : Tag} {ds : List D} {vs : List V} : VR γ K H O t d v → BR γ K H O ds vs → BR γ K H O (d :: ds) (v :: vs)
def PoB (γ : GC) (K : PySem.W.Frag) (T : TabL) (E : XK) (H : Hp) (O : OM) (σ : St) (b : Bool) (r : Res (List D × EnvI)) (Q : List V → Hp → Prop) : Prop :=
  match r with
  | .ok p => ∀ vs H' O', PstB b H O H' O' → RS γ K H' O' p.2 σ → BR γ K H' O' p.1 vs → LamX.Tabs T H' → Q vs H'
  | .exc x as => PoX γ T E H O x as
  | .stk => False
def tBs (γ : GC) (K : PySem.W.Frag) (T : TabL) (E : XK) (f : AF) (b : Bool) : TA := fun σ H Q =>
  ∃ env O, RS γ K H O env σ ∧ LamX.Tabs T H ∧ PoB γ K T E H O σ b (f env) Q
theorem PoB.pre {K : PySem.W.Frag} {H1 : Hp} {O1 : OM} {σ : St} {b c : Bool} {r : Res (List D × EnvI)} {Q : List V → Hp → Prop} (d : OD H O) (d1 : OD H1 O1) (p : PstB b H O H1 O1) (P : PoB γ K T E H O σ (b || c) r Q) : PoB γ K T E H1 O1 σ c r Q := by
  cases r with
  | ok q => exact fun v H2 O2 p2 r2 v2 Tb2 => P v H2 O2 (PstB.trans d d1 p p2) r2 v2 Tb2
  | exc y as => exact PoX.of (p.pst d) P
  | stk => exact P
/-- each value's owner is not in the way of what follows -/
def vwOk : List Mi.E → Bool
  | [] => true
  | e :: es => (!Mi.vw e || !mus es) && vwOk es
theorem evb_cons {e : Mi.E} {es : List Mi.E} {env : EnvI} : Mi.evb gl cf (e :: es) env = (Mi.ev gl cf e env).bind fun p => (Mi.evb gl cf es p.2).bind fun q => .ok (p.1 :: q.1, q.2) := by
  simp only [Mi.evb]
theorem a_evb : ∀ {es : List Mi.E} {xs : List Expr}, PEs γ T E X gl cf es xs → vwOk es = true → PA X xs (tBs γ X.K T E (Mi.evb gl cf es) (mus es))
  | _, _, .nil, _ => PA.weak pa_nil fun σ H Q ⟨env, O, R, Tb, P⟩ => by
    have P : PoB γ X.K T E H O σ false (.ok ([], env)) Q := by
      have : Mi.evb gl cf [] env = .ok ([], env) := by simp only [Mi.evb]
      rw [← this]
      exact P
    exact P [] H O (PstP.refl H O) R .nil Tb
  | _, _, .cons (e := e) (es := es) h1 s1 h2, hv => by
    obtain ⟨hv1, hv2⟩ := Bool.and_eq_true_iff.mp (show ((!Mi.vw e || !mus es) && vwOk es) = true from hv)
    refine PA.weak (pa_cons h1 (a_evb h2 hv2) (s1 X.env)) fun σ H Q ⟨env, O, R, Tb, P⟩ => ?_
    refine ⟨env, O, R, Tb, ?_⟩
    rw [evb_cons] at P
    cases q : Mi.ev gl cf e env with
    | ok p =>
      rw [q, bind_ok] at P
      intro v H1 O1 t p1 r1 v1 ht Tb1
      obtain ⟨O1', p1', r1', hold1⟩ := hold (c := mus es) R p1 r1 v1 ht (by
        rcases Bool.or_eq_true_iff.mp hv1 with z | z
        · exact .inl (by simpa using z)
        · exact .inr (by simpa using z))
      refine ⟨p.2, O1', r1', Tb1, ?_⟩
      have P := PoB.pre (c := mus es) R.od r1'.od p1' P
      cases q2 : Mi.evb gl cf es p.2 with
      | ok r =>
        rw [q2] at P
        intro vs H2 O2 p2 r2 v2 Tb2
        obtain ⟨t', hx⟩ := hold1 H2 O2 p2
        exact P (v :: vs) H2 O2 p2 r2 (.cons hx v2) Tb2
      | exc y as =>
        rw [q2] at P
        exact P
      | stk =>
        rw [q2] at P
        exact P
    | exc y as =>
      rw [q] at P
      exact P
    | stk =>
      rw [q] at P
      exact P
/-- a built-in function of values -/
def rB (γ : GC) (K : PySem.W.Frag) (f : List D → Option D) : List V → Hp → VK → Prop := fun vs H Q =>
  ∃ O ds d, OD H O ∧ BR γ K H O ds vs ∧ f ds = some d ∧ ∀ v H' O', PstS H O H' O' → OD H' O' → VR γ K H' O' tmp d v → Q v H'
theorem bi_gen {t : TA} {f : List D → Option D} {es : List Mi.E} {g : EF} (hg : ∀ env, g env = (Mi.evb gl cf es env).bind fun p => (Res.of (f p.1)).bind fun d => .ok (d, p.2)) :
    ∀ σ H Q, tE γ X.K T E g (mus es) false σ H Q → tBs γ X.K T E (Mi.evb gl cf es) (mus es) σ H fun vs H1 => rB γ X.K f vs H1 Q := by
  intro σ H Q ⟨env, O, R, Tb, P⟩
  refine ⟨env, O, R, Tb, ?_⟩
  rw [hg] at P
  cases q : Mi.evb gl cf es env with
  | ok p =>
    rw [q, bind_ok] at P
    intro vs H1 O1 p1 r1 v1 Tb1
    cases qf : f p.1 with
    | some d =>
      rw [qf] at P
      exact ⟨O1, p.1, d, r1.od, v1, qf, fun v H2 O2 p2 d2 v2 => P v H2 O2 tmp (p1.s R.od r1.od p2) (r1.s d2 p2) v2 (fun _ => rfl) (tabs_s p2 Tb1)⟩
    | none =>
      rw [qf] at P
      exact P.elim
  | exc y as =>
    rw [q] at P
    exact P
  | stk =>
    rw [q] at P
    exact P
theorem bi_ev {b : Mi.B} {es : List Mi.E} {env : EnvI} : Mi.ev gl cf (.bi b es) env = (Mi.evb gl cf es env).bind fun p => (Res.of (Mi.biD b p.1)).bind fun d => .ok (d, p.2) := by
  simp only [Mi.ev]
end
end MiS

set_option Elab.async false
set_option linter.all false
set_option maxRecDepth 100000
set_option maxHeartbeats 4000000
/-! MiS: the built-in functions -/
namespace MiS
open PySem PySem.Spec PyProof.Rows L2
open Mi (D Res Fl)
section
variable {γ : GC} {T : TabL} {E : XK} {X : Cx} {K : PySem.W.Frag} {H : Hp} {O : OM} {gl : List D} {cf : Nat → List D → Res (D × List D)}
theorem BR.one {d : D} {vs : List V} (h : BR γ K H O [d] vs) : ∃ v t, vs = [v] ∧ VR γ K H O t d v := by
  cases h with
  | cons h1 h2 =>
    cases h2
    exact ⟨_, _, rfl, h1⟩
theorem BR.two {d e : D} {vs : List V} (h : BR γ K H O [d, e] vs) : ∃ v w t t2, vs = [v, w] ∧ VR γ K H O t d v ∧ VR γ K H O t2 e w := by
  cases h with
  | cons h1 h2 =>
    cases h2 with
    | cons h3 h4 =>
      cases h4
      exact ⟨_, _, _, _, rfl, h1, h3⟩
theorem BR.three {d e f : D} {vs : List V} (h : BR γ K H O [d, e, f] vs) : ∃ v w z t t2 t3, vs = [v, w, z] ∧ VR γ K H O t d v ∧ VR γ K H O t2 e w ∧ VR γ K H O t3 f z := by
  cases h with
  | cons h1 h2 =>
    obtain ⟨w, z, t2, t3, e, h3, h4⟩ := h2.two
    exact ⟨_, w, z, _, t2, t3, by rw [e], h1, h3, h4⟩
/-- a list or a tuple, as a sequence of the kit's -/
theorem seq_of {t : Tag} {x : D} {xs : List D} {v : V} (h : VR γ K H O t x v) (e : Mi.seq? x = some xs) : ∃ a vs, v = .ref a ∧ (SqL K H a vs ∨ SqT K H a vs) ∧ VRs γ K H O xs vs := by
  cases x with
  | lst o ys =>
    cases e
    obtain ⟨a, vs, e1, h1, _, h2⟩ := h
    exact ⟨a, vs, e1, .inl (.inl (.inl h1)), h2⟩
  | tup ys =>
    cases e
    obtain ⟨a, vs, e1, h1, h2⟩ := h
    exact ⟨a, vs, e1, .inr (.inl (.inl h1)), h2⟩
  | _ => cases e
theorem bi_len : CallR X (.builtin "len") (rB γ X.K (Mi.biD .len)) := by
  intro pins s σ H vs us Q I r h
  obtain ⟨O, ds, d, od, b, e, q⟩ := h
  match ds, e with
  | [.lst o xs], e =>
    cases e
    obtain ⟨v, t, rfl, a, ws, rfl, h1, h2, h3⟩ := b.one
    exact call_len pins s σ H _ us Q I r ⟨_, ws.length, rfl, .inl ⟨ws, .inl (.inl h1), rfl⟩, fin0 od q (by rw [h3.len]; exact (rfl : _ = V.int _))⟩
  | [.tup xs], e =>
    cases e
    obtain ⟨v, t, rfl, a, ws, rfl, h1, h3⟩ := b.one
    exact call_len pins s σ H _ us Q I r ⟨_, ws.length, rfl, .inr ⟨ws, .inl (.inl h1), rfl⟩, fin0 od q (by rw [h3.len]; exact (rfl : _ = V.int _))⟩
  | [.dct o false kvs], e =>
    cases e
    obtain ⟨v, t, rfl, a, ws, rfl, h1, h2, h3⟩ := b.one
    exact call_lenD pins s σ H _ us Q I r ⟨a, ws, rfl, h1, fin0 od q (by rw [h3.len]; exact (rfl : _ = V.int _))⟩
  | [.dct o true kvs], e =>
    cases e
    obtain ⟨v, t, rfl, a, ws, rfl, h1, h2, h3⟩ := b.one
    exact call_len_dT pins s σ H _ us Q I r ⟨a, ws, rfl, h1, fin0 od q (by rw [h3.len]; exact (rfl : _ = V.int _))⟩
  | [.str x], e =>
    obtain ⟨hz, e⟩ := iteS (show (if x.length ≤ Mi.line then some (D.int x.length) else none) = some d from e)
    subst e
    obtain ⟨v, t, rfl, rfl, h1⟩ := b.one
    refine call_len pins s σ H _ us Q I r ⟨_, x.length, rfl, ⟨?_, (mkS_len x).symm⟩, fin0 od q (rfl : _ = V.int _)⟩
    rw [mkS_len, line_eq]
    exact hz
theorem bi_abs : CallR X (.builtin "abs") (rB γ X.K (Mi.biD .abs)) := by
  intro pins s σ H vs us Q I r h
  obtain ⟨O, ds, d, od, b, e, q⟩ := h
  match ds, e with
  | [.int i], e =>
    cases e
    obtain ⟨v, t, rfl, rfl⟩ := b.one
    exact call_abs pins s σ H _ us Q I r ⟨i, rfl, fin0 od q (rfl : _ = V.int _)⟩
theorem bi_int : CallR X (.type "int") (rB γ X.K (Mi.biD .int)) := by
  intro pins s σ H vs us Q I r h
  obtain ⟨O, ds, d, od, b, e, q⟩ := h
  match ds, e with
  | [.int i], e =>
    cases e
    obtain ⟨v, t, rfl, rfl⟩ := b.one
    exact call_int1 pins s σ H _ us Q I r (.inl ⟨i, rfl, fin0 od q (rfl : _ = V.int _)⟩)
theorem bi_max2 (hc : X.calm = true) : CallR X (.builtin "max") (rB γ X.K (Mi.biD .max2)) := by
  intro pins s σ H vs us Q I r h
  obtain ⟨O, ds, d, od, b, e, q⟩ := h
  match ds, e with
  | [.int i, .int j], e =>
    cases e
    obtain ⟨v, w, t, t2, rfl, rfl, rfl⟩ := b.two
    exact call_max2 hc pins s σ H _ us Q I r ⟨i, j, rfl, fin0 od q (rfl : _ = V.int _)⟩
theorem bi_min2 (hc : X.calm = true) : CallR X (.builtin "min") (rB γ X.K (Mi.biD .min2)) := by
  intro pins s σ H vs us Q I r h
  obtain ⟨O, ds, d, od, b, e, q⟩ := h
  match ds, e with
  | [.int i, .int j], e =>
    cases e
    obtain ⟨v, w, t, t2, rfl, rfl, rfl⟩ := b.two
    exact call_min2 hc pins s σ H _ us Q I r ⟨i, j, rfl, fin0 od q (rfl : _ = V.int _)⟩
theorem maxI_spec : ∀ (i : Int) (r : List Int), Mi.maxI i r ∈ i :: r ∧ ∀ y ∈ i :: r, y ≤ Mi.maxI i r
  | i, [] => ⟨List.mem_cons_self, fun y h => by
    rw [List.mem_singleton.mp h]
    exact Int.le_refl _⟩
  | i, j :: r => by
    obtain ⟨h1, h2⟩ := maxI_spec (if j > i then j else i) r
    show Mi.maxI (if j > i then j else i) r ∈ _ ∧ ∀ y ∈ _, y ≤ Mi.maxI (if j > i then j else i) r
    refine ⟨?_, fun y hy => ?_⟩
    · rcases List.mem_cons.mp h1 with e | e
      · rw [e]
        split
        · exact List.mem_cons_of_mem _ List.mem_cons_self
        · exact List.mem_cons_self
      · exact List.mem_cons_of_mem _ (List.mem_cons_of_mem _ e)
    · have h3 := h2 _ List.mem_cons_self
      rcases List.mem_cons.mp hy with e | e
      · rw [e]
        refine Int.le_trans ?_ h3
        split <;> omega
      · rcases List.mem_cons.mp e with e | e
        · rw [e]
          refine Int.le_trans ?_ h3
          split <;> omega
        · exact h2 y (List.mem_cons_of_mem _ e)
theorem minI_spec : ∀ (i : Int) (r : List Int), Mi.minI i r ∈ i :: r ∧ ∀ y ∈ i :: r, Mi.minI i r ≤ y
  | i, [] => ⟨List.mem_cons_self, fun y h => by
    rw [List.mem_singleton.mp h]
    exact Int.le_refl _⟩
  | i, j :: r => by
    obtain ⟨h1, h2⟩ := minI_spec (if j < i then j else i) r
    show Mi.minI (if j < i then j else i) r ∈ _ ∧ ∀ y ∈ _, Mi.minI (if j < i then j else i) r ≤ y
    refine ⟨?_, fun y hy => ?_⟩
    · rcases List.mem_cons.mp h1 with e | e
      · rw [e]
        split
        · exact List.mem_cons_of_mem _ List.mem_cons_self
        · exact List.mem_cons_self
      · exact List.mem_cons_of_mem _ (List.mem_cons_of_mem _ e)
    · have h3 := h2 _ List.mem_cons_self
      rcases List.mem_cons.mp hy with e | e
      · rw [e]
        refine Int.le_trans h3 ?_
        split <;> omega
      · rcases List.mem_cons.mp e with e | e
        · rw [e]
          refine Int.le_trans h3 ?_
          split <;> omega
        · exact h2 y (List.mem_cons_of_mem _ e)
theorem maxI_uniq {i : Int} {r : List Int} {m : Int} (h1 : m ∈ i :: r) (h2 : ∀ y ∈ i :: r, y ≤ m) : m = Mi.maxI i r := by
  obtain ⟨h3, h4⟩ := maxI_spec i r
  exact Int.le_antisymm (h4 m h1) (h2 _ h3)
theorem minI_uniq {i : Int} {r : List Int} {m : Int} (h1 : m ∈ i :: r) (h2 : ∀ y ∈ i :: r, m ≤ y) : m = Mi.minI i r := by
  obtain ⟨h3, h4⟩ := minI_spec i r
  exact Int.le_antisymm (h2 _ h3) (h4 m h1)
/-- ints of a list or a tuple -/
theorem seqI_of {t : Tag} {x : D} {ns : List Int} {v : V} (h : VR γ K H O t x v) (e : (Mi.seq? x).bind Mi.ints? = some ns) : ∃ a, v = .ref a ∧ (SqL K H a (ns.map V.int) ∨ SqT K H a (ns.map V.int)) := by
  cases q : Mi.seq? x with
  | none =>
    rw [q] at e
    cases e
  | some xs =>
    rw [q] at e
    obtain ⟨a, vs, e1, h1, h2⟩ := seq_of h q
    obtain ⟨e2, _⟩ := h2.ints e
    rw [e2] at h1
    exact ⟨a, e1, h1⟩
/-- what the library's walks ask of the ints of a tuple -/
theorem ints_items {its : List Value} {ns : List Int} (rv : Vals (ns.map V.int) its) : IntsAre its ns := rv.ints

theorem readsAll_ints {h : Heap} : ∀ {ns : List Int} {its : List Value}, Vals (ns.map V.int) its → ∃ as, ReadsAll h its (ns.map PyData.int) as
  | [], _, .nil => ⟨[], .nil⟩
  | n :: ns, _, .cons r t => by
    obtain ⟨k, rfl⟩ := r
    obtain ⟨as, h2⟩ := readsAll_ints t
    exact ⟨[] ++ as, .cons (.int n k) h2⟩
theorem alike_intsA (ns : List Int) : PySem.W.AlikeAll (ns.map PyData.int) := by
  refine ⟨fun x hx y hy => ?_, fun x hx => ?_⟩
  · obtain ⟨i, _, rfl⟩ := List.mem_map.mp hx
    obtain ⟨j, _, rfl⟩ := List.mem_map.mp hy
    simp [PySem.W.alike]
  · obtain ⟨i, _, rfl⟩ := List.mem_map.mp hx
    exact fun e => nomatch e
theorem sum_tup {prog : Program} {w : World} {A : Around} {E : Value → Shared → Prop} {s : Shared} {l : Addr} {its : List Value} {ns : List Int} {Q : Value → Shared → Prop} (hh : A.handled = none) (hl : s.heap.IsTuple l its.toArray) (hi : IntsAre its ns)
    (h : ∀ h' tk t', (∀ b o, s.heap.get? b = some o → h'.get? b = some o) → Q (.int ns.sum t') { s with heap := h', toks := tk }) : wpAny (model prog w) A (call (.builtin "sum") [.ref l]) Q E s := by
  have hlt : l < s.heap.objs.size := by
    obtain ⟨_, e, _⟩ := hl
    exact Heap.lt_size e
  have hne : l ≠ s.heap.objs.size := Nat.ne_of_lt hlt
  refine PySem.call_sum_walkG (wpAny_pyIter_tuple hl ⟨_, _, _, _, _, _, fun i => ns.getD i 0, rfl, Walks.tuple (A := A.in1) hh _ l hne its.toArray, ⟨⟨_, Heap.get?_push_size _ rfl, rfl, rfl⟩, hl.push _⟩, fun b hb => ?_, fun i v hv => ?_, fun h' tk t' hk => ?_⟩)
  · show b < (s.heap.push _).objs.size
    rw [Heap.size_push]
    rcases List.mem_cons.mp hb with e | hb
    · rw [e]
      exact Nat.lt_succ_self _
    · rw [List.mem_singleton.mp hb]
      exact Nat.lt_succ_of_lt hlt
  · exact hi.int_at i v (by simpa using hv)
  · have hz : its.toArray.size = ns.length := by rw [List.size_toArray, hi.length]
    rw [hz, preSum_getD, List.take_length]
    refine h h' tk t' fun b o e => hk b o (fun hm => ?_) (Heap.get?_push_of_some _ e)
    rw [List.mem_singleton.mp hm] at e
    exact absurd (Heap.lt_size e) (Nat.lt_irrefl _)
theorem bi_sum (hc : X.calm = true) : CallR X (.builtin "sum") (rB γ X.K (Mi.biD .sum)) := by
  intro pins s σ H vs us Q I r h
  obtain ⟨O, ds, d, od, b, e, q⟩ := h
  match ds, e with
  | [a], e =>
    cases q1 : (Mi.seq? a).bind Mi.ints? with
    | none =>
      simp only [Mi.biD, q1] at e
      cases e
    | some ns =>
      simp only [Mi.biD, q1] at e
      cases e
      obtain ⟨v, t, rfl, h1⟩ := b.one
      obtain ⟨p, rfl, h2 | h2⟩ := seqI_of h1 q1
      · exact cr_sum hc pins s σ H _ us Q I r ⟨p, ns, rfl, h2, fin0 od q (rfl : _ = V.int _)⟩
      · obtain ⟨its, rv, hl, _⟩ := I.tuple h2
        rw [Vals.ref1 r]
        exact sum_tup (I.ok.hd hc) hl rv.ints fun h' tk t' hk => ⟨.int _, H, I.kept hk, ⟨_, rfl⟩, fin0 od q (rfl : _ = V.int _)⟩
theorem fold_max (i : Int) (r : List Int) : r.foldl max i = Mi.maxI i r := by
  induction r generalizing i with
  | nil => rfl
  | cons j r ih =>
    show r.foldl max (max i j) = Mi.maxI (if j > i then j else i) r
    rw [ih]
    congr 1
    rw [Int.max_def]
    split <;> split <;> omega
theorem fold_min (i : Int) (r : List Int) : r.foldl min i = Mi.minI i r := by
  induction r generalizing i with
  | nil => rfl
  | cons j r ih =>
    show r.foldl min (min i j) = Mi.minI (if j < i then j else i) r
    rw [ih]
    congr 1
    rw [Int.min_def]
    split <;> split <;> omega
theorem bi_max1 {k : Nat} (hr : Room k X.A) (hc : X.calm = true) : CallR X (.builtin "max") (rB γ X.K (Mi.biD .max1)) := by
  intro pins s σ H vs us Q I r h
  obtain ⟨O, ds, d, od, b, e, q⟩ := h
  have hu := hr.units
  match ds, e with
  | [a], e =>
    cases q1 : (Mi.seq? a).bind Mi.ints? with
    | none =>
      simp only [Mi.biD, q1] at e
      cases e
    | some ns =>
      simp only [Mi.biD, q1] at e
      cases ns with
      | nil => cases e
      | cons i ns =>
        cases e
        obtain ⟨v, t, rfl, h1⟩ := b.one
        obtain ⟨p, rfl, h2 | h2⟩ := seqI_of h1 q1
        · exact cr_max hc pins s σ H _ us Q I r ⟨p, i :: ns, rfl, h2, Nat.succ_pos _, fun m m1 m2 => by
            rw [maxI_uniq m1 m2]
            exact fin0 od q (rfl : _ = V.int _)⟩
        · obtain ⟨its, rv, hl, _⟩ := I.tuple h2
          rw [Vals.ref1 r]
          obtain ⟨as, hr2⟩ := readsAll_ints (h := s.heap) rv
          refine PySem.W.max_tuple_data (x := .int i) (xs := ns.map PyData.int) (I.ok.hd hc) hl (by simpa using hr2) (alike_intsA (i :: ns)) ?_ fun j v h' tk bs hv rd hk => ?_
          · have := PySem.W.depth_ints (i :: ns)
            rw [List.map_cons] at this
            rw [this]
            omega
          · rw [PySem.W.maxD_ints, fold_max] at rd
            cases rd
            exact ⟨.int _, H, I.kept hk, ⟨_, rfl⟩, fin0 od q (rfl : _ = V.int _)⟩
theorem bi_min1 {k : Nat} (hr : Room k X.A) (hc : X.calm = true) : CallR X (.builtin "min") (rB γ X.K (Mi.biD .min1)) := by
  intro pins s σ H vs us Q I r h
  obtain ⟨O, ds, d, od, b, e, q⟩ := h
  have hu := hr.units
  match ds, e with
  | [a], e =>
    cases q1 : (Mi.seq? a).bind Mi.ints? with
    | none =>
      simp only [Mi.biD, q1] at e
      cases e
    | some ns =>
      simp only [Mi.biD, q1] at e
      cases ns with
      | nil => cases e
      | cons i ns =>
        cases e
        obtain ⟨v, t, rfl, h1⟩ := b.one
        obtain ⟨p, rfl, h2 | h2⟩ := seqI_of h1 q1
        · exact cr_min hc pins s σ H _ us Q I r ⟨p, i :: ns, rfl, h2, Nat.succ_pos _, fun m m1 m2 => by
            rw [minI_uniq m1 m2]
            exact fin0 od q (rfl : _ = V.int _)⟩
        · obtain ⟨its, rv, hl, _⟩ := I.tuple h2
          rw [Vals.ref1 r]
          obtain ⟨as, hr2⟩ := readsAll_ints (h := s.heap) rv
          refine PySem.W.min_tuple_data (x := .int i) (xs := ns.map PyData.int) (I.ok.hd hc) hl (by simpa using hr2) (alike_intsA (i :: ns)) ?_ fun j v h' tk bs hv rd hk => ?_
          · have := PySem.W.depth_ints (i :: ns)
            rw [List.map_cons] at this
            rw [this]
            omega
          · rw [PySem.W.minD_ints, fold_min] at rd
            cases rd
            exact ⟨.int _, H, I.kept hk, ⟨_, rfl⟩, fin0 od q (rfl : _ = V.int _)⟩
theorem VRs.bls : ∀ {xs : List D} {vs : List V} {ns : List Bool}, VRs γ K H O xs vs → Mi.bls? xs = some ns → vs = ns.map V.bl
  | [], _, _, h, e => by
    cases e
    cases h
    rfl
  | x :: xs, _, ns, h, e => by
    obtain ⟨v, r, e1, _, h1, h2⟩ := h
    cases x with
    | bl i =>
      cases q : Mi.bls? xs with
      | none =>
        simp only [Mi.bls?, q] at e
        cases e
      | some ms =>
        simp only [Mi.bls?, q] at e
        cases e
        subst e1
        have e2 : v = V.bl i := h1
        rw [VRs.bls h2 q, e2]
        rfl
    | _ => cases e
theorem bi_all (hc : X.calm = true) : CallR X (.builtin "all") (rB γ X.K (Mi.biD .all)) := by
  intro pins s σ H vs us Q I r h
  obtain ⟨O, ds, d, od, b, e, q⟩ := h
  match ds, e with
  | [.lst o xs], e =>
    cases q1 : Mi.bls? xs with
    | none =>
      simp only [Mi.biD, q1] at e
      cases e
    | some bs =>
      simp only [Mi.biD, q1] at e
      cases e
      obtain ⟨v, t, rfl, p, ws, rfl, h1, _, h2⟩ := b.one
      rw [h2.bls q1] at h1
      exact cr_all hc pins s σ H _ us Q I r ⟨p, bs, rfl, .inl (.inl h1), fin0 od q (rfl : _ = V.bl _)⟩
theorem bi_any (hc : X.calm = true) : CallR X (.builtin "any") (rB γ X.K (Mi.biD .any)) := by
  intro pins s σ H vs us Q I r h
  obtain ⟨O, ds, d, od, b, e, q⟩ := h
  match ds, e with
  | [.lst o xs], e =>
    cases q1 : Mi.bls? xs with
    | none =>
      simp only [Mi.biD, q1] at e
      cases e
    | some bs =>
      simp only [Mi.biD, q1] at e
      cases e
      obtain ⟨v, t, rfl, p, ws, rfl, h1, _, h2⟩ := b.one
      rw [h2.bls q1] at h1
      exact cr_any hc pins s σ H _ us Q I r ⟨p, bs, rfl, .inl (.inl h1), fin0 od q (rfl : _ = V.bl _)⟩
theorem bi_tuple : CallR X (.type "tuple") (rB γ X.K (Mi.biD .tuple)) := by
  intro pins s σ H vs us Q I r h
  obtain ⟨O, ds, d, od, b, e, q⟩ := h
  match ds, e with
  | [.lst o xs], e =>
    cases e
    obtain ⟨v, t, rfl, p, ws, rfl, h1, _, h2⟩ := b.one
    exact call_tuple_of pins s σ H _ us Q I r ⟨p, ws, rfl, .inl ⟨.inl (.inl h1), fun l hl => finT od q h2 hl⟩⟩
  | [.tup xs], e =>
    cases e
    obtain ⟨v, t, rfl, p, ws, rfl, h1, h2⟩ := b.one
    exact call_tuple_of pins s σ H _ us Q I r ⟨p, ws, rfl, .inr ⟨.inl (.inl h1), fin0 od q ⟨p, ws, rfl, h1, h2⟩⟩⟩
theorem key_v {t : Tag} : ∀ {k : D} {kk : Key}, keyR k kk → VR γ K H O t k (kV kk)
  | .int i, _, h => by
    cases (show _ = Sum.inl i from h)
    exact (rfl : _ = V.int _)
  | .str s, _, h => by
    obtain ⟨e, h2⟩ := h
    subst e
    exact ⟨rfl, h2⟩
  | .non, _, h => h.elim
  | .bl _, _, h => h.elim
  | .tup _, _, h => h.elim
  | .lst _ _, _, h => h.elim
  | .dct _ _ _, _, h => h.elim
  | .ins _ _ _, _, h => h.elim
  | .fn _, _, h => h.elim
  | .scr _, _, h => h.elim
  | .tok _, _, h => h.elim
  | .tex _ _, _, h => h.elim
theorem key_own : ∀ {k : D} {kk : Key}, keyR k kk → k.own = false
  | .int i, _, h => rfl
  | .str s, _, h => rfl
  | .non, _, h => h.elim
  | .bl _, _, h => h.elim
  | .tup _, _, h => h.elim
  | .lst _ _, _, h => h.elim
  | .dct _ _ _, _, h => h.elim
  | .ins _ _ _, _, h => h.elim
  | .fn _, _, h => h.elim
  | .scr _, _, h => h.elim
  | .tok _, _, h => h.elim
  | .tex _ _, _, h => h.elim
theorem keys_v : ∀ {ks : List D} {kk : List Key}, keyRs ks kk → VRs γ K H O ks (kk.map kV)
  | [], _, h => by
    cases h
    rfl
  | k :: ks, _, h => by
    obtain ⟨a, r, e, h1, h2⟩ := h
    subst e
    exact ⟨_, _, rfl, key_own h1, key_v h1, keys_v h2⟩
theorem KRs.keys : ∀ {ps : List (D × D)} {kvs : List (Key × V)}, KRs γ K H O ps kvs → VRs γ K H O (ps.map (·.1)) (kvs.map fun kv => kV kv.1)
  | [], _, h => by
    cases h
    rfl
  | (k, d) :: ps, _, h => by
    obtain ⟨a, v, r, e, h1, _, _, h2⟩ := h
    subst e
    exact ⟨_, _, rfl, key_own h1, key_v h1, KRs.keys h2⟩
theorem TRs.keys : ∀ {ps : List (D × D)} {kvs : List (List Key × V)} {bs : List Addr}, TRs γ K H O ps kvs → IsKeys H kvs bs → VRs γ K H O (ps.map (·.1)) (bs.map V.ref)
  | [], _, _, h, b => by
    cases h
    cases b
    rfl
  | (k, d) :: ps, _, _, h, b => by
    obtain ⟨a, v, r, e, h1, _, _, h2⟩ := h
    subst e
    cases b with
    | cons b1 b2 =>
      cases k with
      | tup ks => exact ⟨_, _, rfl, rfl, ⟨_, _, rfl, b1, keys_v h1⟩, TRs.keys h2 b2⟩
      | _ => exact h1.elim
theorem bi_list (hc : X.calm = true) : CallR X (.type "list") (rB γ X.K (Mi.biD .list)) := by
  intro pins s σ H vs us Q I r h
  obtain ⟨O, ds, d, od, b, e, q⟩ := h
  match ds, e with
  | [.lst o xs], e =>
    cases e
    obtain ⟨v, t, rfl, p, ws, rfl, h1, _, h2⟩ := b.one
    exact call_list_of pins s σ H _ us Q I r ⟨p, ws, rfl, .inl (.inl (.inl h1)), fun l hl => finL od q h2 hl⟩
  | [.tup xs], e =>
    cases e
    obtain ⟨v, t, rfl, p, ws, rfl, h1, h2⟩ := b.one
    exact call_list_of pins s σ H _ us Q I r ⟨p, ws, rfl, .inr (.inl (.inl h1)), fun l hl => finL od q h2 hl⟩
  | [.dct o false kvs], e =>
    cases e
    obtain ⟨v, t, rfl, p, ws, rfl, h1, _, h2⟩ := b.one
    exact call_list_dK hc pins s σ H _ us Q I r ⟨p, ws, rfl, h1, fun l hl => finL od q h2.keys hl⟩
  | [.dct o true kvs], e =>
    cases e
    obtain ⟨v, t, rfl, p, ws, rfl, h1, _, h2⟩ := b.one
    exact call_list_dT hc pins s σ H _ us Q I r ⟨p, ws, rfl, .inl h1, fun l bs hl hb => finL od q (h2.keys hb) hl⟩
end
end MiS

set_option Elab.async false
set_option linter.all false
set_option maxRecDepth 100000
set_option maxHeartbeats 4000000
/-! MiS: what a def promises; a call -/
namespace MiS
open PySem PySem.Spec PyProof.Rows L2
open Mi (D Res Fl)

/-! ### a def's promise -/
/-- the arguments of a def: slot i has its own tag if it is lent, is not owned else -/
def argR (γ : GC) (K : PySem.W.Frag) (H : Hp) (O : OM) (io : List Nat) : Nat → List D → List V → Prop
  | _, [], vs => vs = []
  | i, d :: ds, vs => ∃ v r, vs = v :: r ∧ VR γ K H O (i, 0) d v ∧ (io.contains i = false → d.own = false) ∧ argR γ K H O io (i + 1) ds r
/-- what it gives back in the lent ones -/
def outR (γ : GC) (K : PySem.W.Frag) (H : Hp) (O : OM) (vs : List V) : List Nat → List D → Prop
  | [], ds => ds = []
  | i :: io, ds => ∃ d r v, ds = d :: r ∧ vs[i]? = some v ∧ VR γ K H O (i, 0) d v ∧ outR γ K H O vs io r
/-- each tag is a lent slot's, or foreign -/
def tagsIn (O : OM) (io : List Nat) : Prop := ∀ a t, O a = some t → t.1 = fT ∨ t.1 ∈ io
def PoF (γ : GC) (K : PySem.W.Frag) (T : TabL) (E : XK) (H : Hp) (O : OM) (io : List Nat) (vs : List V) (r : Res (D × List D)) (Q : VK) : Prop :=
  match r with
  | .ok p => ∀ v H' O', Pst H O H' O' → OD H' O' → VR γ K H' O' tmp p.1 v → outR γ K H' O' vs io p.2 → LamX.Tabs T H' → Q v H'
  | .exc x as => PoX γ T E H O x as
  | .stk => False
def spF (γ : GC) (K : PySem.W.Frag) (T : TabL) (np : Nat) (io : List Nat) (f : List D → Res (D × List D)) : Sp := fun vs H Q E =>
  vs.length = np ∧ ∃ O ds, OD H O ∧ LamX.Tabs T H ∧ tagsIn O io ∧ argR γ K H O io 0 ds vs ∧ PoF γ K T E H O io vs (f ds) Q

/-! ### the caller's tags, as the callee sees them -/
/-- the lent slots of an argument list, with their places -/
def ioPos : List Mi.E → Nat → List (Nat × Nat)
  | [], _ => []
  | .io j :: es, p => (j, p) :: ioPos es (p + 1)
  | _ :: es, p => ioPos es (p + 1)
def toC (ips : List (Nat × Nat)) (O : OM) : OM := fun a => match O a with
  | none => none
  | some t => match ips.find? fun q => q.1 == t.1 with
    | some q => some (q.2, t.2)
    | none => some (fT, t.2)
/-- .. and back -/
def unC (ips : List (Nat × Nat)) (O O' : OM) : OM := fun a => match O' a with
  | none => none
  | some t => if t.1 = fT then (match O a with
      | some u => some u
      | none => some t) else match ips.find? fun q => q.2 == t.1 with
    | some q => some (q.1, t.2)
    | none => if t.1 = tT then some t else some (fT, t.2)
section
variable {γ : GC} {T : TabL} {E : XK} {X : Cx} {K : PySem.W.Frag} {H H' : Hp} {O O' : OM} {gl : List D} {cf : Nat → List D → Res (D × List D)} {ips : List (Nat × Nat)}
theorem toC_none {a : Addr} (h : O a = none) : toC ips O a = none := by
  unfold toC
  rw [h]
theorem toC_frn {a : Addr} {t : Tag} (h : O a = some t) (hn : ∀ q ∈ ips, q.1 ≠ t.1) : toC ips O a = some (fT, t.2) := by
  unfold toC
  rw [h]
  have : ips.find? (fun q => q.1 == t.1) = none := List.find?_eq_none.mpr fun q hq => by simpa using hn q hq
  simp only [this]
theorem find_fst : ∀ {ips : List (Nat × Nat)} {j p : Nat}, (ips.map (·.1)).Nodup → (j, p) ∈ ips → ips.find? (fun q => q.1 == j) = some (j, p)
  | (j', p') :: r, j, p, hn, hm => by
    rw [List.map_cons, List.nodup_cons] at hn
    rcases List.mem_cons.mp hm with e | e
    · cases e
      exact List.find?_cons_of_pos (by simp)
    · have : j' ≠ j := fun z => hn.1 (List.mem_map.mpr ⟨(j, p), e, z.symm⟩)
      rw [List.find?_cons_of_neg (by simpa using this)]
      exact find_fst hn.2 e
theorem find_snd : ∀ {ips : List (Nat × Nat)} {j p : Nat}, (ips.map (·.2)).Nodup → (j, p) ∈ ips → ips.find? (fun q => q.2 == p) = some (j, p)
  | (j', p') :: r, j, p, hn, hm => by
    rw [List.map_cons, List.nodup_cons] at hn
    rcases List.mem_cons.mp hm with e | e
    · cases e
      exact List.find?_cons_of_pos (by simp)
    · have : p' ≠ p := fun z => hn.1 (List.mem_map.mpr ⟨(j, p), e, z.symm⟩)
      rw [List.find?_cons_of_neg (by simpa using this)]
      exact find_snd hn.2 e
theorem toC_io {a : Addr} {j p k : Nat} (hn : (ips.map (·.1)).Nodup) (h : O a = some (j, k)) (hm : (j, p) ∈ ips) : toC ips O a = some (p, k) := by
  unfold toC
  rw [h]
  simp only [find_fst hn hm]
theorem toC_ex {a : Addr} {t : Tag} (h : toC ips O a = some t) : ∃ u, O a = some u := by
  unfold toC at h
  cases q : O a with
  | none =>
    rw [q] at h
    cases h
  | some u => exact ⟨u, rfl⟩
theorem OD.toC (d : OD H O) : OD H (toC ips O) := fun a t h => by
  obtain ⟨u, q⟩ := toC_ex h
  exact d a u q
theorem toC_in : tagsIn (toC ips O) (ips.map (·.2)) := fun a t h => by
  unfold MiS.toC at h
  cases q : O a with
  | none =>
    rw [q] at h
    cases h
  | some u =>
    rw [q] at h
    cases q2 : ips.find? (fun q => q.1 == u.1) with
    | none =>
      simp only [q2] at h
      cases h
      exact .inl rfl
    | some p =>
      simp only [q2] at h
      cases h
      exact .inr (List.mem_map.mpr ⟨p, List.mem_of_find?_eq_some q2, rfl⟩)
theorem unC_none {a : Addr} (h : O' a = none) : unC ips O O' a = none := by
  unfold unC
  rw [h]
theorem unC_f {a : Addr} {t : Tag} {k : Nat} (h : O' a = some (fT, k)) (h2 : O a = some t) : unC ips O O' a = some t := by
  unfold unC
  rw [h]
  simp only [if_pos]
  rw [h2]
theorem unC_t {a : Addr} (hp : ∀ q ∈ ips, q.2 < tT) (h : O' a = some tmp) : unC ips O O' a = some tmp := by
  unfold unC
  rw [h]
  have h1 : ¬ (tmp.1 = fT) := by decide
  simp only [if_neg h1]
  have : ips.find? (fun q => q.2 == tmp.1) = none := List.find?_eq_none.mpr fun q hq => by
    have := hp q hq
    simpa using Nat.ne_of_lt this
  simp only [this]
  exact if_pos trivial
theorem unC_io {a : Addr} {j p k : Nat} (hp : ∀ q ∈ ips, q.2 < tT) (hn : (ips.map (·.2)).Nodup) (h : O' a = some (p, k)) (hm : (j, p) ∈ ips) : unC ips O O' a = some (j, k) := by
  unfold unC
  rw [h]
  have h1 : ¬ (p = fT) := fun e => by
    have this : p < tT := hp _ hm
    rw [e] at this
    exact absurd this (by decide)
  simp only [if_neg h1, find_snd hn hm]
theorem unC_ex {a : Addr} {t : Tag} (h : unC ips O O' a = some t) : ∃ u, O' a = some u := by
  unfold unC at h
  cases q : O' a with
  | none =>
    rw [q] at h
    cases h
  | some u => exact ⟨u, rfl⟩
theorem OD.unC (d : OD H O') : OD H (unC ips O O') := fun a t h => by
  obtain ⟨u, q⟩ := unC_ex h
  exact d a u q
theorem ioPos_lt {es : List Mi.E} {p : Nat} : ∀ q ∈ ioPos es p, p ≤ q.2 ∧ q.2 < p + es.length := by
  induction es generalizing p with
  | nil => intro q hq; cases hq
  | cons e es ih =>
    intro q hq
    have main : q ∈ ioPos es (p + 1) → p ≤ q.2 ∧ q.2 < p + (e :: es).length := fun h => by
      have := ih q h
      rw [List.length_cons]
      omega
    cases e with
    | io j =>
      rcases List.mem_cons.mp hq with e | e
      · rw [e]
        rw [List.length_cons]
        exact ⟨Nat.le_refl _, by show p < _; omega⟩
      · exact main e
    | _ => exact main hq
theorem ioPos_nd {es : List Mi.E} {p : Nat} : ((ioPos es p).map (·.2)).Nodup := by
  induction es generalizing p with
  | nil => exact List.nodup_nil
  | cons e es ih =>
    cases e with
    | io j =>
      show (p :: (ioPos es (p + 1)).map (·.2)).Nodup
      refine List.nodup_cons.mpr ⟨fun h => ?_, ih⟩
      obtain ⟨q, hq, e⟩ := List.mem_map.mp h
      have := (ioPos_lt q hq).1
      omega
    | _ => exact ih
theorem ioPos_mus {es : List Mi.E} {p : Nat} (h : mus es = false) : ioPos es p = [] := by
  induction es generalizing p with
  | nil => rfl
  | cons e es ih =>
    obtain ⟨h1, h2⟩ := Bool.or_eq_false_iff.mp (show (mu e || mus es) = false from h)
    cases e with
    | io j => cases h1
    | _ => exact ih h2

theorem getV_lt {env : EnvI} {i : Nat} {d : D} (h : Mi.getV env i = .ok d) : i < env.length := (List.getElem?_eq_some_iff.mp (getV_ok h)).1
theorem bind_inv {α β : Type} {r : Res α} {f : α → Res β} {b : β} (h : r.bind f = .ok b) : ∃ a, r = .ok a ∧ f a = .ok b := by
  cases r with
  | ok a => exact ⟨a, rfl, h⟩
  | exc x as => cases h
  | stk => cases h
theorem fillIo_io {env : EnvI} {i : Nat} {es : List Mi.E} {d : D} {ds : List D} : Mi.fillIo env (.io i :: es) (d :: ds) = (Mi.getV env i).bind fun d => (Mi.fillIo env es ds).bind fun r => .ok (d :: r) := by simp only [Mi.fillIo]
theorem fillIo_cons {env : EnvI} {e : Mi.E} {es : List Mi.E} {d : D} {ds : List D} (h : ∀ i, e ≠ .io i) : Mi.fillIo env (e :: es) (d :: ds) = (Mi.fillIo env es ds).bind fun r => .ok (d :: r) := by
  cases e <;> first | exact absurd rfl (h _) | simp only [Mi.fillIo]
theorem putIo_io {env : EnvI} {i : Nat} {es : List Mi.E} {d : D} {ds : List D} : Mi.putIo env (.io i :: es) (d :: ds) = Mi.putIo (Mi.setV env i d) es ds := by simp only [Mi.putIo]
theorem putIo_cons {env : EnvI} {e : Mi.E} {es : List Mi.E} {ds : List D} (h : ∀ i, e ≠ .io i) : Mi.putIo env (e :: es) ds = Mi.putIo env es ds := by
  cases e <;> first | exact absurd rfl (h _) | simp only [Mi.putIo]
theorem ioPos_cons {e : Mi.E} {es : List Mi.E} {p : Nat} (h : ∀ i, e ≠ .io i) : ioPos (e :: es) p = ioPos es (p + 1) := by
  cases e <;> first | exact absurd rfl (h _) | rfl
/-- each lent slot has its value -/
theorem AR.lent {σ : St} : ∀ {es : List Mi.E} {ds : List D} {vs ws : List V} {p : Nat}, AR γ K H O σ es ds vs → ws.drop p = vs → ∀ q ∈ ioPos es p, ∃ v, ws[q.2]? = some v ∧ σ[q.1]? = some (some v)
  | _, _, _, _, _, .nil, _, q, hq => by cases hq
  | _, _, _, ws, p, .io (i := i) (v := v) (vs := vs') h1 h2, e, q, hq => by
    have e0 : ws[p]? = some v := by
      have := congrArg (fun l => l[0]?) e
      simpa using this
    have e1 : ws.drop (p + 1) = vs' := by
      rw [← List.tail_drop, e]
      rfl
    rcases List.mem_cons.mp hq with z | z
    · rw [z]
      exact ⟨v, e0, h1⟩
    · exact AR.lent h2 e1 q z
  | _, _, _, ws, p, .cons (vs := vs') h0 h1 h2 h3, e, q, hq => by
    have e1 : ws.drop (p + 1) = vs' := by
      rw [← List.tail_drop, e]
      rfl
    rw [ioPos_cons h0] at hq
    exact AR.lent h3 e1 q hq
theorem fill_lt {env : EnvI} : ∀ {es : List Mi.E} {ds ds' : List D} {p : Nat}, Mi.fillIo env es ds = .ok ds' → ∀ q ∈ ioPos es p, q.1 < env.length
  | [], _, _, _, _, q, hq => by cases hq
  | e :: es, ds, ds', p, h, q, hq => by
    cases ds with
    | nil => cases e <;> cases h
    | cons d ds =>
      by_cases hio : ∃ i, e = .io i
      · obtain ⟨i, rfl⟩ := hio
        rw [fillIo_io] at h
        obtain ⟨d', h1, h2⟩ := bind_inv h
        obtain ⟨r, h3, h4⟩ := bind_inv h2
        rcases List.mem_cons.mp hq with z | z
        · rw [z]
          exact getV_lt h1
        · exact fill_lt h3 q z
      · have hn : ∀ i, e ≠ .io i := fun i z => hio ⟨i, z⟩
        rw [fillIo_cons hn] at h
        obtain ⟨r, h3, h4⟩ := bind_inv h
        rw [ioPos_cons hn] at hq
        exact fill_lt h3 q hq
/-- the arguments, as the callee sees them -/
theorem arg_of {σ : St} {env : EnvI} (R : RS γ K H O env σ) (hn : (ips.map (·.1)).Nodup) : ∀ {es : List Mi.E} {ds ds' : List D} {vs : List V} {p : Nat}, AR γ K H O σ es ds vs → Mi.fillIo env es ds = .ok ds' → (∀ q ∈ ioPos es p, q ∈ ips) →
    argR γ K H (toC ips O) (ips.map (·.2)) p ds' vs
  | _, _, ds', _, _, .nil, h, _ => by
    have : ds' = [] := by
      simp only [Mi.fillIo] at h
      cases h
      rfl
    rw [this]
    rfl
  | _, _, ds', _, p, .io (i := i) (v := v) h1 h2, h, hs => by
    rw [fillIo_io] at h
    obtain ⟨d', g1, g2⟩ := bind_inv h
    obtain ⟨r, g3, g4⟩ := bind_inv g2
    cases g4
    obtain ⟨v', a1, a2⟩ := R.at_ i d' (getV_ok g1)
    have ev : v' = v := by
      rw [h1] at a1
      cases a1
      rfl
    rw [ev] at a2
    have hm : (i, p) ∈ ips := hs _ List.mem_cons_self
    refine ⟨v, _, rfl, VR.step R.od (fun a o e1 e2 _ => ⟨e1, toC_none e2⟩) d' (fun a o e1 e2 => ⟨e1, toC_io hn e2 hm⟩) a2, fun hc => ?_, arg_of R hn h2 g3 fun q hq => hs q (List.mem_cons_of_mem _ hq)⟩
    have : (ips.map (·.2)).contains p = true := by
      rw [List.contains_iff_mem]
      exact List.mem_map.mpr ⟨(i, p), hm, rfl⟩
    rw [this] at hc
    cases hc
  | _, _, ds', _, p, .cons (d := d) h0 h1 h2 h3, h, hs => by
    rw [fillIo_cons h0] at h
    obtain ⟨r, g3, g4⟩ := bind_inv h
    cases g4
    rw [ioPos_cons h0] at hs
    exact ⟨_, _, rfl, VR.stepN R.od (fun a o e1 e2 _ => ⟨e1, toC_none e2⟩) d h1 h2, fun _ => h1, arg_of R hn h3 g3 hs⟩
theorem setV_len {env : EnvI} {i : Nat} {d : D} : (Mi.setV env i d).length = env.length := List.length_set
theorem put_len : ∀ {es : List Mi.E} {env e2 : EnvI} {ds : List D}, Mi.putIo env es ds = .ok e2 → e2.length = env.length
  | [], env, e2, ds, h => by
    cases ds with
    | nil =>
      simp only [Mi.putIo] at h
      cases h
      rfl
    | cons d ds => cases h
  | e :: es, env, e2, ds, h => by
    by_cases hio : ∃ i, e = .io i
    · obtain ⟨i, rfl⟩ := hio
      cases ds with
      | nil => cases h
      | cons d ds =>
        rw [putIo_io] at h
        rw [put_len h, setV_len]
    · have hn : ∀ i, e ≠ .io i := fun i z => hio ⟨i, z⟩
      rw [putIo_cons hn] at h
      exact put_len h
/-- the lent slots are set anew, the others stand -/
theorem put_at {good : Nat → D → Prop} : ∀ {es : List Mi.E} {env e2 : EnvI} {outs : List D} {p : Nat} {vs : List V} {O2 : OM}, Mi.putIo env es outs = .ok e2 → outR γ K H O2 vs ((ioPos es p).map (·.2)) outs →
    (∀ q ∈ ioPos es p, ∀ d v, vs[q.2]? = some v → VR γ K H O2 (q.2, 0) d v → good q.1 d) → (∀ i d, (∀ q ∈ ioPos es p, q.1 ≠ i) → env[i]? = some (some d) → good i d) → ∀ i d, e2[i]? = some (some d) → good i d
  | [], env, e2, outs, p, vs, O2, h, ho, hg, hb, i, d, e => by
    cases outs with
    | nil =>
      simp only [Mi.putIo] at h
      cases h
      exact hb i d (fun q hq => by cases hq) e
    | cons _ _ => cases h
  | x :: es, env, e2, outs, p, vs, O2, h, ho, hg, hb, i, d, e => by
    by_cases hio : ∃ j, x = .io j
    · obtain ⟨j, rfl⟩ := hio
      obtain ⟨d1, r, v1, eo, hv, h1, h2⟩ := ho
      subst eo
      rw [putIo_io] at h
      refine put_at h h2 (fun q hq => hg q (List.mem_cons_of_mem _ hq)) (fun i2 d2 hn e3 => ?_) i d e
      by_cases hj : j = i2
      · subst hj
        have e3 : (env.set j (some d1))[j]? = some (some d2) := e3
        have hl : j < env.length := by
          have := (List.getElem?_eq_some_iff.mp e3).1
          rwa [List.length_set] at this
        rw [List.getElem?_set_self hl] at e3
        cases e3
        exact hg (j, p) List.mem_cons_self d1 v1 hv h1
      · have e3 : (env.set j (some d1))[i2]? = some (some d2) := e3
        rw [List.getElem?_set_ne hj] at e3
        exact hb i2 d2 (fun q hq => by
          rcases List.mem_cons.mp hq with z | z
          · rw [z]
            exact hj
          · exact hn q z) e3
    · have hn : ∀ i, x ≠ .io i := fun i z => hio ⟨i, z⟩
      rw [putIo_cons hn] at h
      rw [ioPos_cons hn] at ho hg hb
      exact put_at h ho hg hb i d e
theorem put_noexc : ∀ {es : List Mi.E} {env : EnvI} {ds : List D} {x : Nat} {as : List D}, Mi.putIo env es ds = .exc x as → False
  | [], env, ds, x, as, h => by cases ds <;> cases h
  | e :: es, env, ds, x, as, h => by
    by_cases hio : ∃ i, e = .io i
    · obtain ⟨i, rfl⟩ := hio
      cases ds with
      | nil => cases h
      | cons d ds =>
        rw [putIo_io] at h
        exact put_noexc h
    · have hn : ∀ i, e ≠ .io i := fun i z => hio ⟨i, z⟩
      rw [putIo_cons hn] at h
      exact put_noexc h
theorem bind_exc_inv {α β : Type} {r : Res α} {f : α → Res β} {x : Nat} {as : List D} (h : r.bind f = .exc x as) : r = .exc x as ∨ ∃ a, r = .ok a ∧ f a = .exc x as := by
  cases r with
  | ok a => exact .inr ⟨a, rfl, h⟩
  | exc y bs =>
    cases h
    exact .inl rfl
  | stk => cases h
theorem fill_noexc : ∀ {es : List Mi.E} {env : EnvI} {ds : List D} {x : Nat} {as : List D}, Mi.fillIo env es ds = .exc x as → False
  | [], env, ds, x, as, h => by cases ds <;> cases h
  | e :: es, env, ds, x, as, h => by
    cases ds with
    | nil => cases e <;> cases h
    | cons d ds =>
      by_cases hio : ∃ i, e = .io i
      · obtain ⟨i, rfl⟩ := hio
        rw [fillIo_io] at h
        rcases bind_exc_inv h with h | ⟨a, _, h⟩
        · exact getV_exc h
        · rcases bind_exc_inv h with h | ⟨a, _, h⟩
          · exact fill_noexc h
          · cases h
      · have hn : ∀ i, e ≠ .io i := fun i z => hio ⟨i, z⟩
        rw [fillIo_cons hn] at h
        rcases bind_exc_inv h with h | ⟨a, _, h⟩
        · exact fill_noexc h
        · cases h
/-- a call's reading -/
theorem call_read {f : Nat} {np : Nat} {io : List Nat} {es : List Mi.E} {t : TA} {g : EF} (hnp : es.length = np) (hio : (ioPos es 0).map (·.2) = io) (hnd : ((ioPos es 0).map (·.1)).Nodup) (hlt : es.length < tT)
    (hg : ∀ env, g env = (Mi.evs gl cf es env).bind fun p => (Mi.fillIo p.2 es p.1).bind fun ds => (cf f ds).bind fun q => (Mi.putIo p.2 es q.2).bind fun e2 => .ok (q.1, e2)) :
    ∀ σ H Q, tE γ X.K T E g (mus es) false σ H Q → tA γ X.K T E (Mi.evs gl cf es) (mus es) es σ H fun vs H1 => spF γ X.K T np io (cf f) (vs ++ []) H1 Q E := by
  intro σ H Q ⟨env, O, R, Tb, P⟩
  refine ⟨env, O, R, Tb, ?_⟩
  rw [hg] at P
  cases q : Mi.evs gl cf es env with
  | ok p =>
    rw [q, bind_ok] at P
    intro vs H1 O1 p1 r1 a1 Tb1
    rw [List.append_nil]
    cases qf : Mi.fillIo p.2 es p.1 with
    | ok ds =>
      rw [qf, bind_ok] at P
      have hlt1 : ∀ q ∈ ioPos es 0, q.1 < tT := fun q hq => Nat.lt_trans (fill_lt qf q hq) r1.sz
      have hlt2 : ∀ q ∈ ioPos es 0, q.2 < tT := fun q hq => by
        have := (ioPos_lt q hq).2
        omega
      have hkn : KeepN H1 O1 H1 (toC (ioPos es 0) O1) := fun a o e1 e2 _ => ⟨e1, toC_none e2⟩
      refine ⟨by rw [a1.len, hnp], toC (ioPos es 0) O1, ds, r1.od.toC, Tb1, hio ▸ toC_in, hio ▸ arg_of r1 hnd a1 qf (fun q h => h), ?_⟩
      have lent := AR.lent a1 (ws := vs) (p := 0) rfl
      cases qc : cf f ds with
      | ok c =>
        rw [qc, bind_ok] at P
        intro v H2 O2 p2 d2 v2 o2 Tb2
        cases qp : Mi.putIo p.2 es c.2 with
        | ok e2 =>
          rw [qp, bind_ok] at P
          have k2 : KeepN H2 O2 H2 (unC (ioPos es 0) O1 O2) := fun a o e1 e2 _ => ⟨e1, unC_none e2⟩
          have d3 : OD H2 (unC (ioPos es 0) O1 O2) := d2.unC
          -- from the caller's state to the state behind
          have hnon : ∀ a o, H1 a = some o → noTbl o → O1 a = none → H2 a = some o ∧ unC (ioPos es 0) O1 O2 a = none := fun a o e1 e2 e3 => by
            obtain ⟨z1, z2⟩ := p2.non a o e1 (toC_none e3) e2
            exact ⟨z1, unC_none z2⟩
          have hown : ∀ a t, O1 a = some t → (∀ q ∈ ioPos es 0, q.1 ≠ t.1) → ∀ o, H1 a = some o → H2 a = some o ∧ unC (ioPos es 0) O1 O2 a = some t := fun a t e1 e2 o e3 => by
            obtain ⟨z1, z2⟩ := p2.frn a o t.2 e3 (toC_frn e1 e2)
            exact ⟨z1, unC_f z2 e1⟩
          have P3 : PstB (mus es) H1 O1 H2 (unC (ioPos es 0) O1 O2) := by
            cases hm : mus es with
            | true =>
              refine (show Pst H1 O1 H2 _ from ⟨fun a o e1 e2 e3 => hnon a o e1 e3 e2, fun a o k e1 e2 => hown a (fT, k) e2 (fun q hq e => ?_) o e1⟩)
              have := hlt1 q hq
              rw [e] at this
              exact absurd this (show ¬ fT < tT by decide)
            | false =>
              have e0 : ioPos es 0 = [] := ioPos_mus hm
              have hno : ∀ (t : Tag), ∀ q ∈ ioPos es 0, q.1 ≠ t.1 := fun t q hq => by
                rw [e0] at hq
                cases hq
              refine (show PstP H1 O1 H2 _ from ⟨fun a o e1 e2 => ?_, fun a o e1 e2 e3 => (hnon a o e1 e2 e3).2, fun a t e1 _ => ?_⟩)
              · cases qo : O1 a with
                | none => exact (hnon a o e1 e2 qo).1
                | some t => exact (hown a t qo (hno t) o e1).1
              · obtain ⟨o, e2, _⟩ := r1.od a t e1
                exact (hown a t e1 (hno t) o e2).2
          refine P v H2 (unC (ioPos es 0) O1 O2) tmp ?_ ⟨d3, ?_, ?_, ?_⟩ (VR.step d2 k2 c.1 (fun a o e1 e2 => ⟨e1, unC_t hlt2 e2⟩) v2) (fun _ => rfl) Tb2
          · have := PstB.trans R.od r1.od p1 P3
            rwa [Bool.or_self] at this
          · rw [put_len qp]
            exact r1.len
          · rw [put_len qp]
            exact r1.sz
          · refine put_at (p := 0) (vs := vs) (O2 := O2) qp (by rw [hio]; exact o2) (fun q hq d v hv hd => ?_) fun i d hi e => ?_
            · obtain ⟨v', l1, l2⟩ := lent q hq
              rw [hv] at l1
              cases l1
              exact ⟨v, l2, VR.step d2 k2 d (fun a o e1 e2 => ⟨e1, unC_io hlt2 ioPos_nd e2 hq⟩) hd⟩
            · obtain ⟨v', l1, l2⟩ := r1.at_ i d e
              exact ⟨v', l1, VR.step r1.od (fun a o e1 e2 e3 => hnon a o e1 e3 e2) d (fun a o e1 e2 => hown a (i, 0) e2 hi o e1) l2⟩
        | exc y as =>
          rw [qp] at P
          exact absurd qp (fun z => put_noexc z)
        | stk =>
          rw [qp] at P
          exact P.elim
      | exc y as =>
        rw [qc] at P
        refine fun cls dx H2 h1 h2 h3 => P cls dx H2 (PstX.of (p1.pst R.od) fun a o e1 e2 e3 => h1 a o e1 ?_ e3) h2 h3
        rcases e2 with e2 | ⟨k, e2⟩
        · exact .inl (toC_none e2)
        · refine .inr ⟨k, toC_frn (t := (fT, k)) e2 fun q hq e => ?_⟩
          have := hlt1 q hq
          rw [e] at this
          exact absurd this (show ¬ fT < tT by decide)
      | stk =>
        rw [qc] at P
        exact P
    | exc y as =>
      exact absurd qf (fun z => fill_noexc z)
    | stk =>
      rw [qf] at P
      exact P.elim
  | exc y as =>
    rw [q] at P
    exact P
  | stk =>
    rw [q] at P
    exact P
end
end MiS

set_option Elab.async false
set_option linter.all false
set_option maxRecDepth 100000
set_option maxHeartbeats 4000000
/-! MiS: calls of built-ins and defs, slices -/
namespace MiS
open PySem PySem.Spec PyProof.Rows L2
open Mi (D Res Fl)
section
variable {γ : GC} {T : TabL} {E : XK} {X : Cx} {K : PySem.W.Frag} {H : Hp} {O : OM} {gl : List D} {cf : Nat → List D → Res (D × List D)}
theorem noStar {ts : List (Bool × Sem Value)} (h : ∀ t ∈ ts, t.1 = false) (pos : Pos) : (backTo pos ts).any (·.1) = false := by
  unfold backTo
  rw [List.any_eq_false]
  intro t ht
  obtain ⟨t0, h0, e⟩ := List.mem_map.mp ht
  rw [← e]
  simpa using h t0 h0
theorem PEs.star {es : List Mi.E} {xs : List Expr} (h : PEs γ T E X gl cf es xs) (env : Env) : ∀ t ∈ starEach xs env, t.1 = false := by
  induction h with
  | nil => intro t ht; cases ht
  | cons _ s1 _ ih =>
    rw [s1]
    intro t ht
    rcases List.mem_cons.mp ht with e | e
    · rw [e]
    · exact ih t e
theorem PKs.star {es : List Mi.E} {xs : List Expr} (h : PKs γ T E X gl cf es xs) (env : Env) : ∀ t ∈ starEach xs env, t.1 = false := by
  induction h with
  | nil => intro t ht; cases ht
  | io _ s1 _ ih =>
    rw [s1]
    intro t ht
    rcases List.mem_cons.mp ht with e | e
    · rw [e]
    · exact ih t e
  | cons _ _ s1 _ ih =>
    rw [s1]
    intro t ht
    rcases List.mem_cons.mp ht with e | e
    · rw [e]
    · exact ih t e
theorem PEs.hd {e : Mi.E} {es : List Mi.E} {x : Expr} {xs : List Expr} (h : PEs γ T E X gl cf (e :: es) (x :: xs)) (env : Env) : starEach (x :: xs) env = (false, eval x env) :: starEach xs env := by
  cases h with
  | cons _ s1 _ => exact s1 env
theorem PEs.tl {e : Mi.E} {es : List Mi.E} {x : Expr} {xs : List Expr} (h : PEs γ T E X gl cf (e :: es) (x :: xs)) : PEs γ T E X gl cf es xs := by
  cases h with
  | cons _ _ h2 => exact h2
theorem PKs.hd {e : Mi.E} {es : List Mi.E} {x : Expr} {xs : List Expr} (h : PKs γ T E X gl cf (e :: es) (x :: xs)) (env : Env) : starEach (x :: xs) env = (false, eval x env) :: starEach xs env := by
  cases h with
  | io _ s1 _ => exact s1 env
  | cons _ _ s1 _ => exact s1 env
theorem PKs.tl {e : Mi.E} {es : List Mi.E} {x : Expr} {xs : List Expr} (h : PKs γ T E X gl cf (e :: es) (x :: xs)) : PKs γ T E X gl cf es xs := by
  cases h with
  | io _ _ h2 => exact h2
  | cons _ _ _ h2 => exact h2
/-- f(..), f a built-in function -/
theorem e_biB {b : Mi.B} {id : String} {x : Str} {p pos : Pos} {e : Mi.E} {es : List Mi.E} {xa : Expr} {xs : List Expr} (hc : CallR X (.builtin id) (rB γ X.K (Mi.biD b))) (hg : Gl X x) (hm : X.mg x = none) (hv : bootBuiltins x = some (.builtin id)) (hn : x ≠ "__name__")
    (hd : (x == ("__debug__" : Str)) = false) (h : PEs γ T E X gl cf (e :: es) (xa :: xs)) (hw : vwOk (e :: es) = true) :
    PE X (.Call (.Name x p) (xa :: xs) [] pos) (tE γ X.K T E (Mi.ev gl cf (.bi b (e :: es))) (mu (.bi b (e :: es))) (Mi.vw (.bi b (e :: es)))) :=
  PE.weak (pe_callB hc hg hm hv (a_evb h hw) hn hd (h.hd X.env) (noStar (h.tl.star X.env) pos)) fun σ H Q q => bi_gen (t := fun _ _ _ => True) (fun env => bi_ev) σ H Q q
theorem e_biT {b : Mi.B} {id : String} {x : Str} {p pos : Pos} {e : Mi.E} {es : List Mi.E} {xa : Expr} {xs : List Expr} (hc : CallR X (.type id) (rB γ X.K (Mi.biD b))) (hg : Gl X x) (hm : X.mg x = none) (hv : bootBuiltins x = some (.type id)) (hn : x ≠ "__name__")
    (hd : (x == ("__debug__" : Str)) = false) (h : PEs γ T E X gl cf (e :: es) (xa :: xs)) (hw : vwOk (e :: es) = true) :
    PE X (.Call (.Name x p) (xa :: xs) [] pos) (tE γ X.K T E (Mi.ev gl cf (.bi b (e :: es))) (mu (.bi b (e :: es))) (Mi.vw (.bi b (e :: es)))) :=
  PE.weak (pe_callTy hc hg hm hv (a_evb h hw) hn hd (h.hd X.env) (noStar (h.tl.star X.env) pos)) fun σ H Q q => bi_gen (t := fun _ _ _ => True) (fun env => bi_ev) σ H Q q
/-- f(..), f a def -/
theorem e_call {f np : Nat} {io : List Nat} {k : Nat} {fd : FuncData} {ps : List Str} {x : Str} {p pos : Pos} {e : Mi.E} {es : List Mi.E} {xa : Expr} {xs : List Expr} (F : FnOk X.prog X.w X.K X.mg X.base (L2.CX X.prog X.w) k (γ.fad f) fd ps (spF γ X.K T np io (cf f))) (hr : Room k X.A)
    (hg : Gl X x) (hm : X.mg x = some (.ref (γ.fad f))) (hk : PySem.W.keepIn X.K (.ref (γ.fad f)) = true) (hb : Binds X.K fd ps []) (hx : Passes (L2.CX X.prog X.w) X E) (hd : (x == ("__debug__" : Str)) = false)
    (h : PKs γ T E X gl cf (e :: es) (xa :: xs)) (hnp : (e :: es).length = np) (hio : (ioPos (e :: es) 0).map (·.2) = io) (hnd : ((ioPos (e :: es) 0).map (·.1)).Nodup) (hlt : (e :: es).length < tT) :
    PE X (.Call (.Name x p) (xa :: xs) [] pos) (tE γ X.K T E (Mi.ev gl cf (.call f (e :: es))) (mu (.call f (e :: es))) (Mi.vw (.call f (e :: es)))) :=
  PE.weak (pe_call F hr hg hm hk hb .nil hx (a_evs h) hd (h.hd X.env) (noStar (h.tl.star X.env) pos)) fun σ H Q q =>
    call_read (t := fun _ _ _ => True) hnp hio hnd hlt (g := Mi.ev gl cf (.call f (e :: es))) (fun env => by simp only [Mi.ev]) σ H Q q
/-! slices -/
theorem evo_none {env : EnvI} : Mi.evo gl cf none env = .ok (none, env) := by simp only [Mi.evo]
theorem evo_some {e : Mi.E} {env : EnvI} : Mi.evo gl cf (some e) env = (Mi.ev gl cf e env).bind fun p => match p.1 with
    | .int i => .ok (some i, p.2)
    | _ => .stk := by
  unfold Mi.evo
  congr 1
def PoO (γ : GC) (K : PySem.W.Frag) (T : TabL) (E : XK) (H : Hp) (O : OM) (σ : St) (b : Bool) (r : Res (Option Int × EnvI)) (Q : Option Int → Hp → Prop) : Prop :=
  match r with
  | .ok p => ∀ H' O', PstB b H O H' O' → RS γ K H' O' p.2 σ → LamX.Tabs T H' → Q p.1 H'
  | .exc x as => PoX γ T E H O x as
  | .stk => False
def tOI (γ : GC) (K : PySem.W.Frag) (T : TabL) (E : XK) (f : EnvI → Res (Option Int × EnvI)) (b : Bool) : TO := fun σ H Q => ∃ env O, RS γ K H O env σ ∧ LamX.Tabs T H ∧ PoO γ K T E H O σ b (f env) Q
theorem PO.weak {X : Cx} {e : Option Expr} {t t' : TO} (h : PO X e t) (i : ∀ σ H Q, t' σ H Q → t σ H Q) : PO X e t' := ⟨fun p s σ H Q I h' => h.run p s σ H Q I (i σ H Q h')⟩
theorem o_none : PO X none (tOI γ X.K T E (Mi.evo gl cf none) (muo none)) := PO.weak po_none fun σ H Q ⟨env, O, R, Tb, P⟩ => by
  rw [evo_none] at P
  exact P H O (PstP.refl H O) R Tb
theorem o_some {e : Mi.E} {x : Expr} (h : PE X x (tE γ X.K T E (Mi.ev gl cf e) (mu e) (Mi.vw e))) : PO X (some x) (tOI γ X.K T E (Mi.evo gl cf (some e)) (muo (some e))) := PO.weak (po_some h) fun σ H Q ⟨env, O, R, Tb, P⟩ => by
  refine ⟨env, O, R, Tb, ?_⟩
  rw [evo_some] at P
  cases q : Mi.ev gl cf e env with
  | ok p =>
    rw [q, bind_ok] at P
    intro v H1 O1 t p1 r1 v1 ht Tb1
    cases qx : p.1 with
    | int i =>
      rw [qx] at P v1
      exact ⟨i, v1, P H1 O1 p1 r1 Tb1⟩
    | _ =>
      rw [qx] at P
      exact P.elim
  | exc y as =>
    rw [q] at P
    exact P
  | stk =>
    rw [q] at P
    exact P
theorem PoO.pre {H1 : Hp} {O1 : OM} {σ : St} {b c : Bool} {r : Res (Option Int × EnvI)} {Q : Option Int → Hp → Prop} (d : OD H O) (d1 : OD H1 O1) (p : PstB b H O H1 O1) (P : PoO γ K T E H O σ (b || c) r Q) : PoO γ K T E H1 O1 σ c r Q := by
  cases r with
  | ok q => exact fun H2 O2 p2 r2 Tb2 => P H2 O2 (PstB.trans d d1 p p2) r2 Tb2
  | exc y as => exact PoX.of (p.pst d) P
  | stk => exact P
theorem e_sl {a : Mi.E} {lo hi : Option Mi.E} {xa : Expr} {xl xh : Option Expr} {p2 pos : Pos} (ha : PE X xa (tE γ X.K T E (Mi.ev gl cf a) (mu a) (Mi.vw a))) (hl : PO X xl (tOI γ X.K T E (Mi.evo gl cf lo) (muo lo))) (hh : PO X xh (tOI γ X.K T E (Mi.evo gl cf hi) (muo hi)))
    (hc : Mi.vw a = false ∨ (muo lo || muo hi) = false) : PE X (.Subscript xa (.Slice xl xh none p2) pos) (tE γ X.K T E (Mi.ev gl cf (.sl a lo hi)) (mu (.sl a lo hi)) (Mi.vw (.sl a lo hi))) := by
  refine PE.weak (pe_slice (ok_sl (γ := γ)) ha hl hh) fun σ H Q ⟨env, O, R, Tb, P⟩ => ?_
  refine ⟨env, O, R, Tb, ?_⟩
  have P : PoE γ X.K T E H O σ (mu a || (muo lo || muo hi)) false ((Mi.ev gl cf a env).bind fun p => (Mi.evo gl cf lo p.2).bind fun l => (Mi.evo gl cf hi l.2).bind fun h => (Res.of (Mi.slD p.1 l.1 h.1)).bind fun d => .ok (d, h.2)) Q := by
    have : Mi.ev gl cf (.sl a lo hi) env = (Mi.ev gl cf a env).bind fun p => (Mi.evo gl cf lo p.2).bind fun l => (Mi.evo gl cf hi l.2).bind fun h => (Res.of (Mi.slD p.1 l.1 h.1)).bind fun d => .ok (d, h.2) := by simp only [Mi.ev]
    rw [← this]
    exact P
  cases q : Mi.ev gl cf a env with
  | ok p =>
    rw [q, bind_ok] at P
    intro v H1 O1 t p1 r1 v1 ht Tb1
    obtain ⟨O1', p1', r1', hold1⟩ := hold R p1 r1 v1 ht hc
    have P := PoE.pre R.od r1'.od p1' P
    refine ⟨p.2, O1', r1', Tb1, ?_⟩
    cases ql : Mi.evo gl cf lo p.2 with
    | ok l =>
      rw [ql, bind_ok] at P
      intro H2 O2 p2 r2 Tb2
      have P := PoE.pre r1'.od r2.od p2 P
      refine ⟨l.2, O2, r2, Tb2, ?_⟩
      cases qh : Mi.evo gl cf hi l.2 with
      | ok h =>
        rw [qh, bind_ok] at P
        intro H3 O3 p3 r3 Tb3
        obtain ⟨t', hx⟩ := hold1 H3 O3 (PstB.trans r1'.od r2.od p2 p3)
        cases qs : Mi.slD p.1 l.1 h.1 with
        | none =>
          rw [qs] at P
          exact P.elim
        | some d =>
          rw [qs] at P
          exact ⟨O3, p.1, t', d, r3.od, hx, qs, fun w H4 O4 p4 d4 w4 => P w H4 O4 tmp (PstB.s r2.od r3.od p3 p4) (r3.s d4 p4) w4 (fun _ => rfl) (tabs_s p4 Tb3)⟩
      | exc y as =>
        rw [qh] at P
        exact P
      | stk =>
        rw [qh] at P
        exact P
    | exc y as =>
      rw [ql] at P
      exact P
    | stk =>
      rw [ql] at P
      exact P
  | exc y as =>
    rw [q] at P
    exact P
  | stk =>
    rw [q] at P
    exact P
end
end MiS

set_option Elab.async false
set_option linter.all false
set_option maxRecDepth 100000
set_option maxHeartbeats 4000000
/-! MiS: what a loop walks -/
namespace MiS
open PySem PySem.Spec PyProof.Rows L2
open Mi (D Res Fl)
/-- a source of items: the objects at as are to stand -/
structure Src (γ : GC) (K : PySem.W.Frag) (J : It) (ds : List D) (as : List Addr) (good : Hp → OM → Prop) : Prop where
  step : ∀ H O H' O', good H O → OD H O → KeepN H O H' O' → (∀ a ∈ as, ∀ o, H a = some o → H' a = some o) → good H' O'
  go : ∀ i d H O, good H O → OD H O → ds[i]? = some d → J.go i H ∧ d.own = false ∧ ∀ x H', J.yld i H x H' → PstS H O H' O ∧ OD H' O ∧ VR γ K H' O (0, 0) d x
  stop : ∀ i H O, good H O → ds.length ≤ i → J.stop i H
/-- what stands through a body: not owned, or foreign, or (c false) whatever it is -/
def Held (c : Bool) (H : Hp) (O : OM) (a : Addr) : Prop := ∃ o, H a = some o ∧ noTbl o ∧ (O a = none ∨ (∃ k, O a = some (fT, k)) ∨ c = false)
section
variable {γ : GC} {T : TabL} {E : XK} {X : Cx} {K : PySem.W.Frag} {H H' : Hp} {O O' : OM} {gl : List D} {cf : Nat → List D → Res (D × List D)}
theorem Held.step {c : Bool} {a : Addr} (h : Held c H O a) (p : PstB c H O H' O') : Held c H' O' a ∧ ∀ o, H a = some o → H' a = some o := by
  obtain ⟨o, e, n, z⟩ := h
  have main : H' a = some o ∧ (O' a = none ∨ (∃ k, O' a = some (fT, k)) ∨ c = false) := by
    cases c with
    | false =>
      have p : PstP H O H' O' := p
      exact ⟨p.all a o e n, .inr (.inr rfl)⟩
    | true =>
      have p : Pst H O H' O' := p
      rcases z with z | ⟨k, z⟩ | z
      · obtain ⟨e1, e2⟩ := p.non a o e z n
        exact ⟨e1, .inl e2⟩
      · obtain ⟨e1, e2⟩ := p.frn a o k e z
        exact ⟨e1, .inr (.inl ⟨k, e2⟩)⟩
      · cases z
  refine ⟨⟨o, main.1, n, main.2⟩, fun u e2 => ?_⟩
  rw [e] at e2
  cases e2
  exact main.1
def PoI (γ : GC) (K : PySem.W.Frag) (T : TabL) (E : XK) (H : Hp) (O : OM) (σ : St) (b c : Bool) (r : Res (List D × EnvI)) (R : It → Hp → Prop) : Prop :=
  match r with
  | .ok p => ∀ J as good H' O', PstB b H O H' O' → RS γ K H' O' p.2 σ → Src γ K J p.1 as good → good H' O' → (∀ a ∈ as, Held c H' O' a) → LamX.Tabs T H' → R J H'
  | .exc x as => PoX γ T E H O x as
  | .stk => False
def tI (γ : GC) (K : PySem.W.Frag) (T : TabL) (E : XK) (f : AF) (b c : Bool) : TI := fun σ H R =>
  ∃ env O, RS γ K H O env σ ∧ LamX.Tabs T H ∧ PoI γ K T E H O σ b c (f env) R
theorem PI.weak {tg e : Expr} {t t' : TI} (h : PI X tg e t) (i : ∀ σ H Q, t' σ H Q → t σ H Q) : PI X tg e t' := ⟨fun p s σ H Q I h' => h.run p s σ H Q I (i σ H Q h')⟩
theorem PoI.pre {H1 : Hp} {O1 : OM} {σ : St} {b b2 c : Bool} {r : Res (List D × EnvI)} {R : It → Hp → Prop} (d : OD H O) (d1 : OD H1 O1) (p : PstB b H O H1 O1) (P : PoI γ K T E H O σ (b || b2) c r R) : PoI γ K T E H1 O1 σ b2 c r R := by
  cases r with
  | ok q => exact fun J as good H2 O2 p2 r2 s2 g2 h2 Tb2 => P J as good H2 O2 (PstB.trans d d1 p p2) r2 s2 g2 h2 Tb2
  | exc y as => exact PoX.of (p.pst d) P
  | stk => exact P
/-! lists, tuples -/
theorem src_list {a : Addr} {ds : List D} : Src γ K (Itl K a) ds [a] (fun H O => ∃ vs, H a = some (.lst vs) ∧ VRs γ K H O ds vs) where
  step := fun H O H' O' ⟨vs, h1, h2⟩ d k s => ⟨vs, s a List.mem_cons_self _ h1, VRs.step d k ds h2⟩
  go := fun i d H O ⟨vs, h1, h2⟩ od e => by
    obtain ⟨v, e1, e2, e3⟩ := h2.get e
    exact ⟨⟨vs, v, .inl (.inl h1), e1⟩, e2, fun x H' ⟨eH, y⟩ => by
      have := y vs (.inl (.inl h1))
      rw [e1] at this
      cases this
      rw [eH]
      exact ⟨PstS.refl H O, od, e3⟩⟩
  stop := fun i H O ⟨vs, h1, h2⟩ hl => ⟨vs, .inl (.inl h1), by rw [← h2.len]; exact hl⟩
theorem src_tup {a : Addr} {ds : List D} : Src γ K (Itt K a) ds [a] (fun H O => ∃ vs, H a = some (.tup vs) ∧ VRs γ K H O ds vs) where
  step := fun H O H' O' ⟨vs, h1, h2⟩ d k s => ⟨vs, s a List.mem_cons_self _ h1, VRs.step d k ds h2⟩
  go := fun i d H O ⟨vs, h1, h2⟩ od e => by
    obtain ⟨v, e1, e2, e3⟩ := h2.get e
    exact ⟨⟨vs, v, .inl (.inl h1), e1⟩, e2, fun x H' ⟨eH, y⟩ => by
      have := y vs (.inl (.inl h1))
      rw [e1] at this
      cases this
      rw [eH]
      exact ⟨PstS.refl H O, od, e3⟩⟩
  stop := fun i H O ⟨vs, h1, h2⟩ hl => ⟨vs, .inl (.inl h1), by rw [← h2.len]; exact hl⟩
theorem rangeD_len (a : Int) : ∀ n, (Mi.rangeD a n).length = n
  | 0 => rfl
  | n + 1 => congrArg (· + 1) (rangeD_len (a + 1) n)
theorem rangeD_at : ∀ (a : Int) (n i : Nat) (d : D), (Mi.rangeD a n)[i]? = some d → i < n ∧ d = .int (a + i)
  | a, 0, i, d, h => by cases h
  | a, n + 1, 0, d, h => by
    cases h
    exact ⟨Nat.succ_pos _, by simp⟩
  | a, n + 1, i + 1, d, h => by
    obtain ⟨h1, h2⟩ := rangeD_at (a + 1) n i d h
    refine ⟨by omega, ?_⟩
    rw [h2]
    congr 1
    push_cast
    omega
theorem src_rng {lo : Int} {n : Nat} : Src γ K (Itr lo n) (Mi.rangeD lo n) [] (fun _ _ => True) where
  step := fun _ _ _ _ _ _ _ _ => trivial
  go := fun i d H O _ od e => by
    obtain ⟨h1, h2⟩ := rangeD_at lo n i d e
    subst h2
    exact ⟨h1, rfl, fun x H' ⟨eH, ex⟩ => by
      rw [eH]
      exact ⟨PstS.refl H O, od, ex⟩⟩
  stop := fun i H O _ hl => by
    rw [rangeD_len] at hl
    exact hl
theorem stepD_at (c : Int) : ∀ (a : Int) (n i : Nat) (d : D), (Mi.stepD a c n)[i]? = some d → i < n ∧ d = .int (a + (i : Nat) * c)
  | a, 0, i, d, h => by cases h
  | a, n + 1, 0, d, h => by
    cases h
    exact ⟨Nat.succ_pos _, by simp⟩
  | a, n + 1, i + 1, d, h => by
    obtain ⟨h1, h2⟩ := stepD_at c (a + c) n i d h
    refine ⟨by omega, ?_⟩
    rw [h2]
    congr 1
    push_cast
    rw [Int.add_mul, Int.one_mul]
    omega
theorem stepD_len (a c : Int) : ∀ n, (Mi.stepD a c n).length = n
  | 0 => rfl
  | n + 1 => congrArg (· + 1) (stepD_len (a + c) c n)
theorem src_stp {lo c : Int} {n : Nat} : Src γ K (Itc lo c n) (Mi.stepD lo c n) [] (fun _ _ => True) where
  step := fun _ _ _ _ _ _ _ _ => trivial
  go := fun i d H O _ od e => by
    obtain ⟨h1, h2⟩ := stepD_at c lo n i d e
    subst h2
    exact ⟨h1, rfl, fun x H' ⟨eH, ex⟩ => by
      rw [eH]
      exact ⟨PstS.refl H O, od, ex⟩⟩
  stop := fun i H O _ hl => by
    rw [stepD_len] at hl
    exact hl
theorem enumD_len (xs : List D) : ∀ a, (Mi.enumD a xs).length = xs.length := by
  induction xs with
  | nil => intro a; rfl
  | cons x xs ih => intro a; exact congrArg (· + 1) (ih (a + 1))
theorem enumD_at : ∀ (xs : List D) (a : Int) (i : Nat) (d : D), (Mi.enumD a xs)[i]? = some d → ∃ x, xs[i]? = some x ∧ d = .tup [.int (a + i), x]
  | [], a, i, d, h => by cases h
  | x :: xs, a, 0, d, h => by
    cases h
    exact ⟨x, rfl, by simp⟩
  | x :: xs, a, i + 1, d, h => by
    obtain ⟨y, h1, h2⟩ := enumD_at xs (a + 1) i d h
    refine ⟨y, h1, ?_⟩
    rw [h2]
    have : a + 1 + (i : Int) = a + ((i + 1 : Nat) : Int) := by
      push_cast
      omega
    rw [this]
theorem src_enum {a : Addr} {ds : List D} : Src γ K (Ite K a) (Mi.enumD 0 ds) [a] (fun H O => ∃ vs, H a = some (.lst vs) ∧ VRs γ K H O ds vs) where
  step := fun H O H' O' ⟨vs, h1, h2⟩ d k s => ⟨vs, s a List.mem_cons_self _ h1, VRs.step d k ds h2⟩
  go := fun i d H O ⟨vs, h1, h2⟩ od e => by
    obtain ⟨x, ex, ed⟩ := enumD_at ds 0 i d e
    subst ed
    obtain ⟨v, e1, e2, e3⟩ := h2.get ex
    exact ⟨⟨vs, v, .inl (.inl h1), e1⟩, rfl, fun u H' ⟨p, w, eu, hp, eH, y⟩ => by
      have := y vs (.inl (.inl h1))
      rw [e1] at this
      cases this
      subst eu
      rw [eH]
      refine ⟨new_s od hp, new_od od hp, ?_⟩
      refine new_tup od hp ⟨.int i, [v], rfl, rfl, ?_, v, [], rfl, e2, e3, rfl⟩
      show V.int _ = V.int _
      congr 1
      omega⟩
  stop := fun i H O ⟨vs, h1, h2⟩ hl => ⟨vs, .inl (.inl h1), by
    rw [enumD_len] at hl
    rw [← h2.len]
    exact hl⟩
theorem zipD_at : ∀ (xs ys : List D) (i : Nat) (d : D), (Mi.zipD xs ys)[i]? = some d → ∃ x y, xs[i]? = some x ∧ ys[i]? = some y ∧ d = .tup [x, y]
  | [], _, i, d, h => by
    simp only [Mi.zipD] at h
    cases h
  | x :: xs, [], i, d, h => by
    simp only [Mi.zipD] at h
    cases h
  | x :: xs, y :: ys, 0, d, h => by
    cases h
    exact ⟨x, y, rfl, rfl, rfl⟩
  | x :: xs, y :: ys, i + 1, d, h => zipD_at xs ys i d h
theorem zipD_len : ∀ (xs ys : List D) (i : Nat), (Mi.zipD xs ys).length ≤ i → xs.length ≤ i ∨ ys.length ≤ i
  | [], _, i, h => .inl (Nat.zero_le _)
  | x :: xs, [], i, h => .inr (Nat.zero_le _)
  | x :: xs, y :: ys, 0, h => by
    simp only [Mi.zipD] at h
    cases h
  | x :: xs, y :: ys, i + 1, h => by
    rcases zipD_len xs ys i (Nat.le_of_succ_le_succ h) with z | z
    · exact .inl (Nat.succ_le_succ z)
    · exact .inr (Nat.succ_le_succ z)
theorem src_zip {a b : Addr} {ds es : List D} : Src γ K (Itz K a b) (Mi.zipD ds es) [a, b] (fun H O => ∃ vs ws, H a = some (.lst vs) ∧ VRs γ K H O ds vs ∧ H b = some (.lst ws) ∧ VRs γ K H O es ws) where
  step := fun H O H' O' ⟨vs, ws, h1, h2, h3, h4⟩ d k s => ⟨vs, ws, s a List.mem_cons_self _ h1, VRs.step d k ds h2, s b (List.mem_cons_of_mem _ List.mem_cons_self) _ h3, VRs.step d k es h4⟩
  go := fun i d H O ⟨vs, ws, h1, h2, h3, h4⟩ od e => by
    obtain ⟨x, y, ex, ey, ed⟩ := zipD_at ds es i d e
    subst ed
    obtain ⟨v, e1, e2, e3⟩ := h2.get ex
    obtain ⟨w, f1, f2, f3⟩ := h4.get ey
    exact ⟨⟨vs, ws, v, w, .inl (.inl h1), .inl (.inl h3), e1, f1⟩, rfl, fun u H' ⟨p, v', w', eu, hp, eH, y1, y2⟩ => by
      have z1 := y1 vs (.inl (.inl h1))
      rw [e1] at z1
      cases z1
      have z2 := y2 ws (.inl (.inl h3))
      rw [f1] at z2
      cases z2
      subst eu
      rw [eH]
      exact ⟨new_s od hp, new_od od hp, new_tup od hp ⟨v, [w], rfl, e2, e3, w, [], rfl, f2, f3, rfl⟩⟩⟩
  stop := fun i H O ⟨vs, ws, h1, h2, h3, h4⟩ hl => ⟨vs, ws, .inl (.inl h1), .inl (.inl h3), by
    rw [← h2.len, ← h4.len]
    exact zipD_len ds es i hl⟩
theorem src_zipT {a b : Addr} {ds es : List D} : Src γ K (RZ.ItzT K a b) (Mi.zipD ds es) [a, b] (fun H O => ∃ vs ws, H a = some (.tup vs) ∧ VRs γ K H O ds vs ∧ H b = some (.tup ws) ∧ VRs γ K H O es ws) where
  step := fun H O H' O' ⟨vs, ws, h1, h2, h3, h4⟩ d k s => ⟨vs, ws, s a List.mem_cons_self _ h1, VRs.step d k ds h2, s b (List.mem_cons_of_mem _ List.mem_cons_self) _ h3, VRs.step d k es h4⟩
  go := fun i d H O ⟨vs, ws, h1, h2, h3, h4⟩ od e => by
    obtain ⟨x, y, ex, ey, ed⟩ := zipD_at ds es i d e
    subst ed
    obtain ⟨v, e1, e2, e3⟩ := h2.get ex
    obtain ⟨w, f1, f2, f3⟩ := h4.get ey
    exact ⟨⟨vs, ws, v, w, .inl (.inl h1), .inl (.inl h3), e1, f1⟩, rfl, fun u H' ⟨p, v', w', eu, hp, eH, y1, y2⟩ => by
      have z1 := y1 vs (.inl (.inl h1))
      rw [e1] at z1
      cases z1
      have z2 := y2 ws (.inl (.inl h3))
      rw [f1] at z2
      cases z2
      subst eu
      rw [eH]
      exact ⟨new_s od hp, new_od od hp, new_tup od hp ⟨v, [w], rfl, e2, e3, w, [], rfl, f2, f3, rfl⟩⟩⟩
  stop := fun i H O ⟨vs, ws, h1, h2, h3, h4⟩ hl => ⟨vs, ws, .inl (.inl h1), .inl (.inl h3), by
    rw [← h2.len, ← h4.len]
    exact zipD_len ds es i hl⟩
end
end MiS

set_option Elab.async false
set_option linter.all false
set_option maxRecDepth 100000
set_option maxHeartbeats 4000000
/-! MiS: the sources of loops and comprehensions -/
namespace MiS
open PySem PySem.Spec PyProof.Rows L2
open Mi (D Res Fl)
section
variable {γ : GC} {T : TabL} {E : XK} {X : Cx} {K : PySem.W.Frag} {H H' : Hp} {O O' : OM} {gl : List D} {cf : Nat → List D → Res (D × List D)} {tg : Expr}
theorem lst_noTbl (vs : List V) : noTbl (.lst vs) := fun _ e => nomatch e
theorem tup_noTbl (vs : List V) : noTbl (.tup vs) := fun _ e => nomatch e
/-- a value that is walked: its owner keeps it through the body -/
theorem held_of {b c vw : Bool} {env e1 : EnvI} {σ : St} {H1 : Hp} {O1 : OM} {x : D} {xs : List D} {v : V} {t : Tag} (R : RS γ K H O env σ) (p : PstB b H O H1 O1) (r : RS γ K H1 O1 e1 σ) (h : VR γ K H1 O1 t x v) (ht : vw = false → t = tmp) (hc : vw = false ∨ c = false ∨ x.own = false) (e : Mi.seq? x = some xs) :
    ∃ a O2, v = .ref a ∧ PstS H1 O1 H1 O2 ∧ PstB b H O H1 O2 ∧ RS γ K H1 O2 e1 σ ∧ Held c H1 O2 a ∧ ((∃ o vs, x = .lst o xs ∧ H1 a = some (.lst vs) ∧ VRs γ K H1 O2 xs vs) ∨ ∃ vs, x = .tup xs ∧ H1 a = some (.tup vs) ∧ VRs γ K H1 O2 xs vs) := by
  cases x with
  | lst o ys =>
    cases e
    obtain ⟨a, vs, e1, h1, h2, h3⟩ := h
    cases o with
    | false => exact ⟨a, O1, e1, PstS.refl _ _, p, r, ⟨_, h1, lst_noTbl vs, .inl h2⟩, .inl ⟨false, vs, rfl, h1, h3⟩⟩
    | true =>
      have h2 : O1 a = some t := h2
      by_cases hz : t.1 = tT
      · have s := toF_s H1 O1
        refine ⟨a, toF O1, e1, s, p.s R.od r.od s, r.s r.od.toF s, ⟨_, h1, lst_noTbl vs, .inr (.inl ⟨t.2, ?_⟩)⟩, .inl ⟨true, vs, rfl, h1, h3.s r.od s⟩⟩
        unfold toF
        rw [h2]
        exact if_pos hz
      · refine ⟨a, O1, e1, PstS.refl _ _, p, r, ⟨_, h1, lst_noTbl vs, .inr (.inr ?_)⟩, .inl ⟨true, vs, rfl, h1, h3⟩⟩
        rcases hc with z | z | z
        · rw [ht z] at hz
          exact absurd rfl hz
        · exact z
        · cases z
  | tup ys =>
    cases e
    obtain ⟨a, vs, e1, h1, h3⟩ := h
    exact ⟨a, O1, e1, PstS.refl _ _, p, r, ⟨_, h1, tup_noTbl vs, .inl (r.od.tup h1)⟩, .inr ⟨vs, rfl, h1, h3⟩⟩
  | _ => cases e
/-- for x in (a list, a tuple, or a text) -/
def iSeq (K : PySem.W.Frag) (tl : TE) : TI := fun σ H R => tl σ H fun x H1 => (∃ a, x = .ref a ∧ (((∃ xs, SqL K H1 a xs) ∧ R (Itl K a) H1) ∨ ((∃ xs, SqT K H1 a xs) ∧ R (Itt K a) H1))) ∨ ∃ s, x = .str s ∧ R (Its s) H1
theorem pi_seq {l : Expr} {tl : TE} (hl : PE X l tl) : PI X tg l (iSeq X.K tl) := by
  refine ⟨fun pins s σ H R I h => ?_⟩
  refine thn (hl.run pins s σ H _ I h) fun v s1 ⟨x, H1, I1, r1, q1⟩ => ?_
  rcases q1 with ⟨a, rfl, q⟩ | ⟨y, rfl, q⟩
  · cases r1
    rcases q with ⟨⟨xs, hq⟩, q⟩ | ⟨⟨xs, hq⟩, q⟩
    · obtain ⟨its, rv, p, hz⟩ := I1.list hq
      exact wpAny_pyIter_list p.isList (pi_one (tk := s1.toks) I1 _ (turn_list a _) ⟨_, Heap.get?_push_size _ rfl, rfl, rfl⟩ q)
    · obtain ⟨its, rv, p, hz⟩ := I1.tuple hq
      exact wpAny_pyIter_tuple (show s1.heap.IsTuple a its.toArray from p) (pi_one (tk := s1.toks) I1 _ (turn_tuple a _) ⟨_, Heap.get?_push_size _ rfl, rfl, rfl⟩ q)
  · obtain ⟨t, rfl⟩ := r1
    cases ha : y.cps.all (· < 128)
    · exact wpAny_pyIter_wide ha (pi_one (tk := s1.toks) I1 _ (turn_str _ y t "str_iterator" (.inr rfl)) ⟨_, Heap.get?_push_size _ rfl, rfl, rfl⟩ q)
    · exact wpAny_pyIter_ascii ha (pi_one (tk := s1.toks) I1 _ (turn_str _ y t "str_ascii_iterator" (.inl rfl)) ⟨_, Heap.get?_push_size _ rfl, rfl, rfl⟩ q)
theorem strOk_one {s : List Nat} (h : PyData.strOk (mkS s) = true) {c : Nat} (hc : c ∈ s) : PyData.strOk (mkS [c]) = true := by
  have h1 : s.toArray.all (· < 0x110000) = true := h
  rw [List.all_toArray] at h1
  have h2 := List.all_eq_true.mp h1 c hc
  show [c].toArray.all (· < 0x110000) = true
  rw [List.all_toArray]
  simpa using h2
theorem src_str {s : List Nat} (hs : PyData.strOk (mkS s) = true) : Src γ K (Its (mkS s)) (s.map fun c => .str [c]) [] (fun _ _ => True) where
  step := fun _ _ _ _ _ _ _ _ => trivial
  go := fun i d H O _ od e => by
    rw [List.getElem?_map] at e
    cases q : s[i]? with
    | none =>
      rw [q] at e
      cases e
    | some c =>
      rw [q] at e
      cases e
      have hi : i < s.length := (List.getElem?_eq_some_iff.mp q).1
      have hc : (mkS s).cps[i]? = some c := by
        show s.toArray[i]? = some c
        simpa using q
      refine ⟨?_, rfl, fun x H' ⟨eH, c', h1, h2⟩ => ?_⟩
      · show i < s.toArray.size
        rw [List.size_toArray]
        exact hi
      · rw [hc] at h1
        cases h1
        rw [eH]
        exact ⟨PstS.refl H O, od, h2, strOk_one hs (List.mem_of_getElem? q)⟩
  stop := fun i H O _ hl => by
    rw [List.length_map] at hl
    show _ ≤ i
    simpa [mkS] using hl
/-- the source: an expression's value -/
theorem i_seq {e : Mi.E} {xe : Expr} {c : Bool} {g : AF} (h : PE X xe (tE γ X.K T E (Mi.ev gl cf e) (mu e) (Mi.vw e))) (hg : ∀ env r, g env = .ok r → ∃ x e1, Mi.ev gl cf e env = .ok (x, e1) ∧ (Mi.vw e = false ∨ c = false ∨ x.own = false) ∧ Mi.seqI x = .ok r.1 ∧ r.2 = e1)
    (hx : ∀ env x as, g env = .exc x as → Mi.ev gl cf e env = .exc x as) : PI X tg xe (tI γ X.K T E g (mu e) c) := by
  refine PI.weak (pi_seq h) fun σ H R ⟨env, O, Rs, Tb, P⟩ => ?_
  refine ⟨env, O, Rs, Tb, ?_⟩
  cases qg : g env with
  | ok r =>
    rw [qg] at P
    obtain ⟨x, e1, q, hc, hs, he⟩ := hg env r qg
    rw [q]
    intro v H1 O1 t p1 r1 v1 ht Tb1
    cases x with
    | str s =>
      obtain ⟨rfl, hok⟩ := v1
      have : r.1 = s.map fun c => .str [c] := (Res.ok.inj hs).symm
      refine .inr ⟨mkS s, rfl, P _ [] (fun _ _ => True) H1 O1 p1 (by rw [he]; exact r1) (by rw [this]; exact src_str hok) trivial (fun a ha => by cases ha) Tb1⟩
    | lst o xs =>
      have er : r.1 = xs := (Res.ok.inj hs).symm
      obtain ⟨a, O2, rfl, s, p2, r2, hh, z⟩ := held_of (c := c) Rs p1 r1 v1 ht hc (rfl : Mi.seq? (.lst o xs) = some xs)
      rcases z with ⟨o', vs, _, h1, h2⟩ | ⟨vs, z, _⟩
      · refine .inl ⟨a, rfl, .inl ⟨⟨vs, .inl (.inl h1)⟩, P _ [a] (fun H O => ∃ vs, H a = some (.lst vs) ∧ VRs γ X.K H O xs vs) H1 O2 p2 (by rw [he]; exact r2) (by rw [er]; exact src_list) ⟨vs, h1, h2⟩ (fun b hb => by rw [List.mem_singleton.mp hb]; exact hh) Tb1⟩⟩
      · cases z
    | tup xs =>
      have er : r.1 = xs := (Res.ok.inj hs).symm
      obtain ⟨a, O2, rfl, s, p2, r2, hh, z⟩ := held_of (c := c) Rs p1 r1 v1 ht hc (rfl : Mi.seq? (.tup xs) = some xs)
      rcases z with ⟨o', vs, z, _⟩ | ⟨vs, _, h1, h2⟩
      · cases z
      · refine .inl ⟨a, rfl, .inr ⟨⟨vs, .inl (.inl h1)⟩, P _ [a] (fun H O => ∃ vs, H a = some (.tup vs) ∧ VRs γ X.K H O xs vs) H1 O2 p2 (by rw [he]; exact r2) (by rw [er]; exact src_tup) ⟨vs, h1, h2⟩ (fun b hb => by rw [List.mem_singleton.mp hb]; exact hh) Tb1⟩⟩
    | _ => cases hs
  | exc y as =>
    rw [qg] at P
    rw [hx env y as qg]
    exact P
  | stk =>
    rw [qg] at P
    exact P.elim
/-! ranges -/
theorem rngOk_of {a b : Int} (h : Mi.rngOk a b = true) : (-1000000 ≤ a ∧ a ≤ 1000000) ∧ -1000000 ≤ b ∧ b ≤ 1000000 := by
  unfold Mi.rngOk at h
  simp only [Bool.and_eq_true, decide_eq_true_eq] at h
  omega
theorem evb_len : ∀ {es : List Mi.E} {env : EnvI} {p : List D × EnvI}, Mi.evb gl cf es env = .ok p → p.1.length = es.length
  | [], env, p, h => by
    simp only [Mi.evb] at h
    cases h
    rfl
  | e :: es, env, p, h => by
    rw [evb_cons] at h
    obtain ⟨q, h1, h2⟩ := bind_inv h
    obtain ⟨r, h3, h4⟩ := bind_inv h2
    cases h4
    exact congrArg (· + 1) (evb_len h3)
theorem rng_cases {ds : List D} {r : List D} (h : Mi.rngD ds = .ok r) : (∃ i, ds = [.int i]) ∨ (∃ i j, ds = [.int i, .int j]) ∨ ∃ i j k, ds = [.int i, .int j, .int k] := by
  unfold Mi.rngD at h
  split at h
  · exact .inl ⟨_, rfl⟩
  · exact .inr (.inl ⟨_, _, rfl⟩)
  · exact .inr (.inr ⟨_, _, _, rfl⟩)
  · cases h
theorem i_rng_gen {es : List Mi.E} {c : Bool} {g : AF} (hg : ∀ env, g env = (Mi.evb gl cf es env).bind fun p => (Mi.rngD p.1).bind fun r => .ok (r, p.2)) {R3 : (It → Hp → Prop) → List V → Hp → Prop}
    (hr : ∀ (H : Hp) (O : OM) ds vs r (R : It → Hp → Prop), ds.length = es.length → BR γ X.K H O ds vs → Mi.rngD ds = .ok r → (∀ J, Src γ X.K J r [] (fun _ _ => True) → R J H) → R3 R vs H) :
    ∀ σ H R, tI γ X.K T E g (mus es) c σ H R → tBs γ X.K T E (Mi.evb gl cf es) (mus es) σ H fun vs H1 => R3 R vs H1 := by
  intro σ H R ⟨env, O, Rs, Tb, P⟩
  refine ⟨env, O, Rs, Tb, ?_⟩
  rw [hg] at P
  cases q : Mi.evb gl cf es env with
  | ok p =>
    rw [q, bind_ok] at P
    intro vs H1 O1 p1 r1 b1 Tb1
    cases qr : Mi.rngD p.1 with
    | ok r =>
      rw [qr] at P
      exact hr H1 O1 p.1 vs r R (evb_len q) b1 qr fun J s => P J [] _ H1 O1 p1 r1 s trivial (fun a ha => by cases ha) Tb1
    | exc y as =>
      exfalso
      unfold Mi.rngD at qr
      split at qr <;> (try split at qr) <;> (try split at qr) <;> cases qr
    | stk =>
      rw [qr] at P
      exact P.elim
  | exc y as =>
    rw [q] at P
    exact P
  | stk =>
    rw [q] at P
    exact P
theorem rng1_inv {i : Int} {r : List D} (h : Mi.rngD [.int i] = .ok r) : Mi.rngOk 0 i = true ∧ r = Mi.rangeD 0 i.toNat := by
  unfold Mi.rngD at h
  by_cases c : Mi.rngOk 0 i = true
  · simp only [c, if_true] at h
    cases h
    exact ⟨c, rfl⟩
  · simp only [c] at h
    cases h
theorem rng2_inv {i j : Int} {r : List D} (h : Mi.rngD [.int i, .int j] = .ok r) : Mi.rngOk i j = true ∧ r = Mi.rangeD i (j - i).toNat := by
  unfold Mi.rngD at h
  by_cases c : Mi.rngOk i j = true
  · simp only [c, if_true] at h
    cases h
    exact ⟨c, rfl⟩
  · simp only [c] at h
    cases h
theorem i_rng1 {a : Mi.E} {xa : Expr} {p pos : Pos} {c : Bool} {g : AF} (hg : Gl X "range") (hm : X.mg "range" = none) (ha : PEs γ T E X gl cf [a] [xa]) (hf : ∀ env, g env = (Mi.evb gl cf [a] env).bind fun p => (Mi.rngD p.1).bind fun r => .ok (r, p.2)) :
    PI X tg (.Call (.Name "range" p) [xa] [] pos) (tI γ X.K T E g (mus [a]) c) := by
  refine PI.weak (pi_range1 hg hm (a_evb ha (by simp [vwOk, mus])) (ha.hd X.env)) fun σ H R h => i_rng_gen (R3 := fun R vs H1 => ∃ j : Int, vs = [.int j] ∧ -(2 ^ 62) ≤ j ∧ j < 2 ^ 62 ∧ R (Itr 0 j.toNat) H1) hf (fun H O ds vs r R hl b e k => ?_) σ H R h
  rcases rng_cases e with ⟨i, rfl⟩ | ⟨i, j, rfl⟩ | ⟨i, j, k, rfl⟩
  · obtain ⟨v, t, rfl, rfl⟩ := b.one
    obtain ⟨e1, e2⟩ := rng1_inv e
    have := rngOk_of e1
    refine ⟨i, rfl, by omega, by omega, k _ ?_⟩
    rw [e2]
    exact src_rng
  · cases hl
  · cases hl
theorem i_rng2 {a b : Mi.E} {xa xb : Expr} {p pos : Pos} {c : Bool} {g : AF} (hg : Gl X "range") (hm : X.mg "range" = none) (ha : PEs γ T E X gl cf [a, b] [xa, xb]) (hw : vwOk [a, b] = true) (hf : ∀ env, g env = (Mi.evb gl cf [a, b] env).bind fun p => (Mi.rngD p.1).bind fun r => .ok (r, p.2)) :
    PI X tg (.Call (.Name "range" p) [xa, xb] [] pos) (tI γ X.K T E g (mus [a, b]) c) := by
  refine PI.weak (pi_range2 hg hm (a_evb ha hw) (by rw [ha.hd X.env, ha.tl.hd X.env]; rfl) (ha.tl.hd X.env)) fun σ H R h => i_rng_gen (R3 := fun R vs H1 => ∃ i j : Int, vs = [.int i, .int j] ∧ (-(2 ^ 62) ≤ i ∧ i < 2 ^ 62 ∧ -(2 ^ 62) ≤ j ∧ j < 2 ^ 62) ∧ R (Itr i (j - i).toNat) H1) hf (fun H O ds vs r R hl b e k => ?_) σ H R h
  rcases rng_cases e with ⟨i, rfl⟩ | ⟨i, j, rfl⟩ | ⟨i, j, k, rfl⟩
  · cases hl
  · obtain ⟨v, w, t, t2, rfl, rfl, rfl⟩ := b.two
    obtain ⟨e1, e2⟩ := rng2_inv e
    have := rngOk_of e1
    refine ⟨i, j, rfl, by omega, k _ ?_⟩
    rw [e2]
    exact src_rng
  · cases hl
theorem ediv_up {n c : Int} (h1 : 0 < c) : ((n + c - 1) / c).toNat = ((n + c - 1) / c).toNat := rfl
theorem rng3_inv {i j c : Int} {r : List D} (h : Mi.rngD [.int i, .int j, .int c] = .ok r) : Mi.rngOk i j = true ∧ ((0 < c ∧ c < 1000 ∧ r = Mi.stepD i c ((j - i + c - 1) / c).toNat) ∨ (c = -1 ∧ r = Mi.stepD i c (i - j).toNat)) := by
  unfold Mi.rngD at h
  by_cases c1 : (Mi.rngOk i j && (decide (0 < c) && decide (c < 1000))) = true
  · simp only [c1, if_true] at h
    simp only [Bool.and_eq_true, decide_eq_true_eq] at c1
    exact ⟨c1.1, .inl ⟨c1.2.1, c1.2.2, (Res.ok.inj h).symm⟩⟩
  · simp only [c1] at h
    by_cases c2 : (Mi.rngOk i j && decide (c = -1)) = true
    · simp only [c2, if_true] at h
      simp only [Bool.and_eq_true, decide_eq_true_eq] at c2
      exact ⟨c2.1, .inr ⟨c2.2, (Res.ok.inj h).symm⟩⟩
    · simp only [c2] at h
      cases h
theorem small_up {i j c : Int} (h1 : (-1000000 ≤ i ∧ i ≤ 1000000) ∧ -1000000 ≤ j ∧ j ≤ 1000000) (h2 : 0 < c) (h3 : c < 1000) : RgC i j c ((j - i + c - 1) / c).toNat := by
  have main : Builtin.Range.rangeSize i j c = ((j - i + c - 1) / c).toNat := ?_
  · refine ⟨by omega, by omega, ?_, main⟩
    unfold Builtin.Range.small
    rw [main]
    have h5 : ((j - i + c - 1) / c).toNat ≤ 2001000 := by
      have : (j - i + c - 1) / c ≤ 2001000 := by
        refine Int.ediv_le_of_le_mul h2 ?_
        omega
      omega
    simp only [Builtin.Range.rangeFitsLong, Bool.and_eq_true, Bool.or_eq_true, decide_eq_true_eq, beq_iff_eq, show c > 0 from h2, if_true]
    generalize ((j - i + c - 1) / c).toNat = n at h5 ⊢
    omega
  · have e0 : Builtin.Range.rangeSize i j c = if i < j then (j - i - 1) / c + 1 else 0 := by
      unfold Builtin.Range.rangeSize
      rw [if_pos h2]
    rw [e0]
    have e1 : (j - i + c - 1) / c = (j - i - 1) / c + 1 := by
      have : j - i + c - 1 = (j - i - 1) + 1 * c := by omega
      rw [this, Int.add_mul_ediv_right _ _ (by omega)]
    by_cases hl : i < j
    · rw [if_pos hl]
      have : 0 ≤ (j - i - 1) / c := Int.ediv_nonneg (by omega) (by omega)
      omega
    · rw [if_neg hl]
      have : (j - i - 1) / c < 0 := Int.ediv_neg_of_neg_of_pos (by omega) h2
      omega
theorem i_rng3 {a b d : Mi.E} {xa xb xd : Expr} {p pos : Pos} {c : Bool} {g : AF} (hg : Gl X "range") (hm : X.mg "range" = none) (ha : PEs γ T E X gl cf [a, b, d] [xa, xb, xd]) (hw : vwOk [a, b, d] = true) (hf : ∀ env, g env = (Mi.evb gl cf [a, b, d] env).bind fun p => (Mi.rngD p.1).bind fun r => .ok (r, p.2)) :
    PI X tg (.Call (.Name "range" p) [xa, xb, xd] [] pos) (tI γ X.K T E g (mus [a, b, d]) c) := by
  refine PI.weak (pi_range3 hg hm (a_evb ha hw) (ha.hd X.env) (noStar (ha.tl.star X.env) pos)) fun σ H R h => i_rng_gen (R3 := fun R vs H1 => ∃ (i j c : Int) (n : Nat), vs = [.int i, .int j, .int c] ∧ RgC i j c n ∧ R (Itc i c n) H1) hf (fun H O ds vs r R hl b e k => ?_) σ H R h
  rcases rng_cases e with ⟨i, rfl⟩ | ⟨i, j, rfl⟩ | ⟨i, j, z, rfl⟩
  · cases hl
  · cases hl
  · obtain ⟨v, w, u, t, t2, t3, rfl, rfl, rfl, rfl⟩ := b.three
    obtain ⟨e1, e2⟩ := rng3_inv e
    have hb := rngOk_of e1
    rcases e2 with ⟨h1, h2, e2⟩ | ⟨h1, e2⟩
    · refine ⟨i, j, z, _, rfl, small_up hb h1 h2, k _ ?_⟩
      rw [e2]
      exact src_stp
    · subst h1
      refine ⟨i, j, -1, _, rfl, RgC.neg (by omega) (by omega) (by omega) (by omega), k _ ?_⟩
      rw [e2]
      exact src_stp
/-! enumerate, zip -/
theorem i_enum {e : Mi.E} {xe : Expr} {elts : List Expr} {kk : Nat} {tpos p pos : Pos} {c : Bool} {g : AF} (hg0 : Gl X "enumerate") (hm : X.mg "enumerate" = none) (h : PEs γ T E X gl cf [e] [xe])
    (hg : ∀ env r, g env = .ok r → ∃ x xs e1, Mi.ev gl cf e env = .ok (x, e1) ∧ (Mi.vw e = false ∨ c = false ∨ x.own = false) ∧ Mi.seqL x = .ok xs ∧ r.1 = Mi.enumD 0 xs ∧ r.2 = e1)
    (hx : ∀ env x as, g env = .exc x as → Mi.ev gl cf e env = .exc x as) : PI X (.Tuple elts kk tpos) (.Call (.Name "enumerate" p) [xe] [] pos) (tI γ X.K T E g (mu e) c) := by
  cases h with
  | cons h1 s1 h2 =>
    cases h2
    refine PI.weak (pi_enum hg0 hm (pa_cons h1 pa_nil (s1 X.env)) (s1 X.env)) fun σ H R ⟨env, O, Rs, Tb, P⟩ => ?_
    refine ⟨env, O, Rs, Tb, ?_⟩
    cases qg : g env with
    | ok r =>
      rw [qg] at P
      obtain ⟨x, xs, e1, q, hc, hs, he0, he⟩ := hg env r qg
      rw [q]
      intro v H1 O1 t p1 r1 v1 ht Tb1
      cases x with
      | lst o ys =>
        have er : xs = ys := (Res.ok.inj hs).symm
        subst er
        obtain ⟨a, O2, rfl, s, p2, r2, hh, z⟩ := held_of (c := c) Rs p1 r1 v1 ht hc (rfl : Mi.seq? (.lst o xs) = some xs)
        rcases z with ⟨o', vs, _, h1, h2⟩ | ⟨vs, z, _⟩
        · exact ⟨a, vs, rfl, .inl (.inl h1), P _ [a] (fun H O => ∃ vs, H a = some (.lst vs) ∧ VRs γ X.K H O xs vs) H1 O2 p2 (by rw [he]; exact r2) (by rw [he0]; exact src_enum) ⟨vs, h1, h2⟩ (fun b hb => by rw [List.mem_singleton.mp hb]; exact hh) Tb1⟩
        · cases z
      | _ => cases hs
    | exc y as =>
      rw [qg] at P
      rw [hx env y as qg]
      exact P
    | stk =>
      rw [qg] at P
      exact P.elim
theorem zipS_inv {x y : D} {r : List D} (h : Mi.zipS x y = .ok r) : ∃ xs ys, Mi.seq? x = some xs ∧ Mi.seq? y = some ys := by
  unfold Mi.zipS at h
  split at h
  · exact ⟨_, _, rfl, rfl⟩
  · exact ⟨_, _, rfl, rfl⟩
  · cases h
theorem i_zip {e1 e2 : Mi.E} {x1 x2 : Expr} {elts : List Expr} {kk : Nat} {tpos p pos : Pos} {c : Bool} {g : AF} (hg0 : Gl X "zip") (hm : X.mg "zip" = none) (h : PEs γ T E X gl cf [e1, e2] [x1, x2]) (hmu : mu e2 = false)
    (hg : ∀ env r, g env = .ok r → ∃ x y en1 en2, Mi.ev gl cf e1 env = .ok (x, en1) ∧ (Mi.vw e1 = false ∨ c = false ∨ x.own = false) ∧ Mi.ev gl cf e2 en1 = .ok (y, en2) ∧ (Mi.vw e2 = false ∨ c = false ∨ y.own = false) ∧ Mi.zipS x y = .ok r.1 ∧ r.2 = en2)
    (hx : ∀ env x as, g env = .exc x as → Mi.ev gl cf e1 env = .exc x as ∨ ∃ y en1, Mi.ev gl cf e1 env = .ok (y, en1) ∧ Mi.ev gl cf e2 en1 = .exc x as) : PI X (.Tuple elts kk tpos) (.Call (.Name "zip" p) [x1, x2] [] pos) (tI γ X.K T E g (mu e1) c) := by
  cases h with
  | cons h1 s1 h2 =>
    cases h2 with
    | cons h3 s3 h4 =>
      cases h4
      refine PI.weak (RZ.pi_zipA hg0 hm (pa_cons h1 (pa_cons h3 pa_nil (s3 X.env)) (s1 X.env)) (s1 X.env) (by rw [s3 X.env]; rfl)) fun σ H R ⟨env, O, Rs, Tb, P⟩ => ?_
      refine ⟨env, O, Rs, Tb, ?_⟩
      cases qg : g env with
      | ok r =>
        rw [qg] at P
        obtain ⟨x, y, en1, en2, q1, hc1, q2, hc2, hz, he⟩ := hg env r qg
        rw [q1]
        intro v H1 O1 t p1 r1 v1 ht Tb1
        have key : ∃ a O2 xs, v = .ref a ∧ Mi.seq? x = some xs ∧ PstB (mu e1) H O H1 O2 ∧ RS γ X.K H1 O2 en1 σ ∧ Held c H1 O2 a ∧ ((∃ o vs, x = .lst o xs ∧ H1 a = some (.lst vs) ∧ VRs γ X.K H1 O2 xs vs) ∨ ∃ vs, x = .tup xs ∧ H1 a = some (.tup vs) ∧ VRs γ X.K H1 O2 xs vs) := by
          obtain ⟨xs, ys, hs, _⟩ := zipS_inv hz
          obtain ⟨a, O2, ev, _, p2, r2, hh, z⟩ := held_of (c := c) Rs p1 r1 v1 ht hc1 hs
          exact ⟨a, O2, xs, ev, hs, p2, r2, hh, z⟩
        obtain ⟨a, O2, xs, rfl, hsx, p2, r2, hh, za⟩ := key
        refine ⟨en1, O2, r2, Tb1, ?_⟩
        rw [q2]
        intro w H3 O3 t3 p3 r3 v3 ht3 Tb3
        rw [hmu] at p3
        have p3' : PstP H1 O2 H3 O3 := p3
        obtain ⟨hh3, keep3⟩ := Held.step (H' := H3) (O' := O3) hh (PstB.of (b := c) p3' r2.od)
        have key2 : ∃ b O4 ys, w = .ref b ∧ Mi.seq? y = some ys ∧ PstS H3 O3 H3 O4 ∧ PstB false H1 O2 H3 O4 ∧ RS γ X.K H3 O4 en2 σ ∧ Held c H3 O4 b ∧ ((∃ o vs, y = .lst o ys ∧ H3 b = some (.lst vs) ∧ VRs γ X.K H3 O4 ys vs) ∨ ∃ vs, y = .tup ys ∧ H3 b = some (.tup vs) ∧ VRs γ X.K H3 O4 ys vs) := by
          obtain ⟨xs, ys, _, hs⟩ := zipS_inv hz
          obtain ⟨b, O4, ev, s4, p4, r4, hh, z⟩ := held_of (c := c) (b := false) r2 p3 r3 v3 ht3 hc2 hs
          exact ⟨b, O4, ys, ev, hs, s4, p4, r4, hh, z⟩
        obtain ⟨b, O4, ys, rfl, hsy, s4, p4, r4, hh4, zb⟩ := key2
        obtain ⟨hh5, _⟩ := Held.step (H' := H3) (O' := O4) hh3 (PstB.of (b := c) s4.p r3.od)
        have pa : PstB (mu e1) H O H3 O4 := by
          have := PstB.trans Rs.od r2.od p2 p4
          rwa [Bool.or_false] at this
        have kn : KeepN H1 O2 H3 O4 := (PstP.pst p4 r2.od).non
        rcases za with ⟨o, vs, ex, ha, hva⟩ | ⟨vs, ex, ha, hva⟩
        · subst ex
          rcases zb with ⟨o', ws, ey, hb, hvb⟩ | ⟨ws, ey, hb, hvb⟩
          · subst ey
            have er : r.1 = Mi.zipD xs ys := (Res.ok.inj hz).symm
            have ha3 := keep3 _ ha
            exact ⟨a, b, vs, ws, rfl, .inl ⟨.inl (.inl ha3), .inl (.inl hb), P _ [a, b] (fun H O => ∃ vs ws, H a = some (.lst vs) ∧ VRs γ X.K H O xs vs ∧ H b = some (.lst ws) ∧ VRs γ X.K H O ys ws) H3 O4 pa (by rw [he]; exact r4) (by rw [er]; exact src_zip) ⟨vs, ws, ha3, VRs.step r2.od kn xs hva, hb, hvb⟩
              (fun u hu => by
                rcases List.mem_cons.mp hu with z | z
                · rw [z]; exact hh5
                · rw [List.mem_singleton.mp z]; exact hh4) Tb3⟩⟩
          · subst ey
            cases hz
        · subst ex
          rcases zb with ⟨o', ws, ey, hb, hvb⟩ | ⟨ws, ey, hb, hvb⟩
          · subst ey
            cases hz
          · subst ey
            have er : r.1 = Mi.zipD xs ys := (Res.ok.inj hz).symm
            have ha3 := keep3 _ ha
            exact ⟨a, b, vs, ws, rfl, .inr ⟨.inl (.inl ha3), .inl (.inl hb), P _ [a, b] (fun H O => ∃ vs ws, H a = some (.tup vs) ∧ VRs γ X.K H O xs vs ∧ H b = some (.tup ws) ∧ VRs γ X.K H O ys ws) H3 O4 pa (by rw [he]; exact r4) (by rw [er]; exact src_zipT) ⟨vs, ws, ha3, VRs.step r2.od kn xs hva, hb, hvb⟩
              (fun u hu => by
                rcases List.mem_cons.mp hu with z | z
                · rw [z]; exact hh5
                · rw [List.mem_singleton.mp z]; exact hh4) Tb3⟩⟩
      | exc y as =>
        rw [qg] at P
        rcases hx env y as qg with q | ⟨z, en1, q1, q2⟩
        · rw [q]
          exact P
        · rw [q1]
          intro v H1 O1 t p1 r1 v1 ht Tb1
          refine ⟨en1, O1, r1, Tb1, ?_⟩
          rw [q2]
          exact PoX.of (p1.pst Rs.od) P
      | stk =>
        rw [qg] at P
        exact P.elim
end
end MiS

set_option Elab.async false
set_option linter.all false
set_option maxRecDepth 100000
set_option maxHeartbeats 4000000
/-! MiS: targets, comprehensions -/
namespace MiS
open PySem PySem.Spec PyProof.Rows L2
open Mi (D Res Fl)
mutual
def tv : Mi.T → List Nat
  | .v i => [i]
  | .tup ts => tvs ts
def tvs : List Mi.T → List Nat
  | [] => []
  | t :: ts => tv t ++ tvs ts
end
section
variable {γ : GC} {T : TabL} {E : XK} {X : Cx} {K : PySem.W.Frag} {H H' : Hp} {O O' : OM} {gl : List D} {cf : Nat → List D → Res (D × List D)}
/-- what is just made goes to a slot -/
def tmpTo (O : OM) (i : Nat) : OM := fun a => match O a with
  | some t => if t.1 = tT then some (i, t.2) else some t
  | none => none
theorem tmpTo_none {i : Nat} {a : Addr} (h : O a = none) : tmpTo O i a = none := by
  unfold tmpTo
  rw [h]
theorem tmpTo_ne {i : Nat} {a : Addr} {t : Tag} (h : O a = some t) (ht : t.1 ≠ tT) : tmpTo O i a = some t := by
  unfold tmpTo
  rw [h]
  exact if_neg ht
theorem tmpTo_tmp {i : Nat} {a : Addr} (h : O a = some tmp) : tmpTo O i a = some (i, 0) := by
  unfold tmpTo
  rw [h]
  exact if_pos rfl
theorem OD.tmpTo {i : Nat} (d : OD H O) : OD H (tmpTo O i) := fun a t h => by
  cases q : O a with
  | none =>
    rw [tmpTo_none q] at h
    cases h
  | some t' => exact d a t' q
theorem tmpTo_s {i : Nat} : PstS H O H (tmpTo O i) := ⟨fun _ _ h => h, fun _ _ _ h => tmpTo_none h, fun _ _ h ht => tmpTo_ne h ht⟩
/-- a slot takes a value -/
theorem RS.put {env : EnvI} {σ : St} {i : Nat} {d : D} {v : V} {t : Tag} (R : RS γ K H O env σ) (h : VR γ K H O t d v) (ht : d.own = true → t = tmp) : RS γ K H (tmpTo O i) (Mi.setV env i d) (σ.set i (some v)) where
  od := R.od.tmpTo
  len := by
    show (env.set i _).length = (σ.set i _).length
    rw [List.length_set, List.length_set]
    exact R.len
  sz := by
    show (env.set i _).length < tT
    rw [List.length_set]
    exact R.sz
  at_ := fun j x e => by
    have e : (env.set i (some d))[j]? = some (some x) := e
    by_cases hj : i = j
    · subst hj
      have hl : i < env.length := by
        have := (List.getElem?_eq_some_iff.mp e).1
        rwa [List.length_set] at this
      rw [List.getElem?_set_self hl] at e
      cases e
      refine ⟨v, List.getElem?_set_self (by rw [← R.len]; exact hl), ?_⟩
      by_cases ho : d.own = false
      · exact VR.stepN R.od (tmpTo_s.p.pst R.od).non d ho h
      · have := ht (by simpa using ho)
        subst this
        exact VR.step R.od (tmpTo_s.p.pst R.od).non d (fun a o e1 e2 => ⟨e1, tmpTo_tmp e2⟩) h
    · rw [List.getElem?_set_ne hj] at e
      obtain ⟨u, h1, h2⟩ := R.at_ j x e
      have hi : j < env.length := (List.getElem?_eq_some_iff.mp e).1
      refine ⟨u, by rw [List.getElem?_set_ne hj]; exact h1, VR.step R.od (tmpTo_s.p.pst R.od).non x (fun a o e1 e2 => ⟨e1, tmpTo_ne e2 (Nat.ne_of_lt (Nat.lt_trans hi R.sz))⟩) h2⟩
/-! ### targets -/
def PoG (γ : GC) (K : PySem.W.Frag) (H : Hp) (O : OM) (σ : St) (vs : List Nat) (r : Option EnvI) (Q : St → Hp → Prop) : Prop :=
  match r with
  | some env => ∀ σ' O', PstS H O H O' → RS γ K H O' env σ' → σ'.length = σ.length → (∀ j, j ∉ vs → σ'[j]? = σ[j]?) → Q σ' H
  | none => False
def tG (γ : GC) (K : PySem.W.Frag) (vs : List Nat) (f : D → EnvI → Option EnvI) : TG := fun v σ H Q =>
  ∃ env O d t, RS γ K H O env σ ∧ VR γ K H O t d v ∧ (d.own = true → t = tmp) ∧ PoG γ K H O σ vs (f d env) Q
def tGs (γ : GC) (K : PySem.W.Frag) (vs : List Nat) (f : List D → EnvI → Option EnvI) : TGs := fun us σ H Q =>
  ∃ env O ds, RS γ K H O env σ ∧ VRs γ K H O ds us ∧ PoG γ K H O σ vs (f ds env) Q
theorem PG.weak {e : Expr} {t t' : TG} (h : PG X e t) (i : ∀ v σ H Q, t' v σ H Q → t v σ H Q) : PG X e t' := ⟨fun p s σ H v u Q I r h' => h.run p s σ H v u Q I r (i v σ H Q h')⟩
theorem PGs.weak {e : List Expr} {t t' : TGs} (h : PGs X e t) (i : ∀ v σ H Q, t' v σ H Q → t v σ H Q) : PGs X e t' := ⟨fun p s σ H v u Q I r h' => h.run p s σ H v u Q I r (i v σ H Q h')⟩
mutual
/-- what a look at a target gives -/
inductive TgOk (X : Cx) : Mi.T → Expr → Prop
  | v {i : Nat} {x : Str} {pos : Pos} : X.N[i]? = some x → Loc X.env.scope x → (X.fn x = true ∨ X.env.scope.names.lookup x = some .local) → TgOk X (.v i) (.Name x pos)
  | tup {ts : List Mi.T} {es : List Expr} {k : Nat} {pos : Pos} : TgsOk X ts es → TgOk X (.tup ts) (.Tuple es k pos)
inductive TgsOk (X : Cx) : List Mi.T → List Expr → Prop
  | nil : TgsOk X [] []
  | cons {t : Mi.T} {e : Expr} {ts : List Mi.T} {es : List Expr} : TgOk X t e → (∀ env, assignEach (e :: es) env = (false, assign e env) :: assignEach es env) → TgsOk X ts es → TgsOk X (t :: ts) (e :: es)
end
theorem TgsOk.each {ts : List Mi.T} {es : List Expr} (h : TgsOk X ts es) : (assignEach es X.env).length = es.length ∧ (assignEach es X.env).findIdx? (·.1) = none ∧ ts.length = es.length := by
  induction es generalizing ts with
  | nil =>
    cases h
    exact ⟨rfl, rfl, rfl⟩
  | cons e es ih =>
    cases h with
    | cons h1 h2 h3 =>
      obtain ⟨i1, i2, i3⟩ := ih h3
      rw [h2]
      refine ⟨congrArg (· + 1) i1, ?_, congrArg (· + 1) i3⟩
      rw [List.findIdx?_cons, i2]
      rfl
theorem asgs_len : ∀ {ts : List Mi.T} {ds : List D} {env e2 : EnvI}, Mi.asgs ts ds env = some e2 → ts.length = ds.length
  | [], [], _, _, _ => rfl
  | [], _ :: _, _, _, h => by
    simp only [Mi.asgs] at h
    cases h
  | _ :: _, [], _, _, h => by
    simp only [Mi.asgs] at h
    cases h
  | t :: ts, d :: ds, env, e2, h => by
    simp only [Mi.asgs] at h
    cases q : Mi.asg t d env with
    | none =>
      rw [q] at h
      cases h
    | some e1 =>
      rw [q] at h
      exact congrArg (· + 1) (asgs_len h)
mutual
theorem g_asg (hc : X.calm = true) (hN : X.N.Nodup) : ∀ {t : Mi.T} {e : Expr}, TgOk X t e → PG X e (tG γ X.K (tv t) (Mi.asg t))
  | .v i, _, .v h1 h2 h3 => PG.weak (pg_name hN h1 h2 h3) fun v σ H Q ⟨env, O, d, t, R, hv, ht, P⟩ => by
    have P : PoG γ X.K H O σ [i] (some (Mi.setV env i d)) Q := by
      have : Mi.asg (.v i) d env = some (Mi.setV env i d) := by simp only [Mi.asg]
      rw [← this]
      exact P
    refine P (σ.set i (some v)) (tmpTo O i) tmpTo_s (R.put hv ht) List.length_set fun j hj => List.getElem?_set_ne fun e => hj (List.mem_singleton.mpr e.symm)
  | .tup ts, _, .tup (es := es) h => by
    obtain ⟨h1, h2, h3⟩ := h.each
    refine PG.weak (pg_tup hc (g_asgs hc hN h) h1 h2) fun v σ H Q ⟨env, O, d, t, R, hv, ht, P⟩ => ?_
    cases d with
    | tup ds =>
      have P : PoG γ X.K H O σ (tvs ts) (Mi.asgs ts ds env) Q := by
        have : Mi.asg (.tup ts) (.tup ds) env = Mi.asgs ts ds env := by simp only [Mi.asg]
        rw [← this]
        exact P
      obtain ⟨a, vs, rfl, e1, e2⟩ := hv
      refine ⟨a, vs, rfl, .inl (.inl e1), ?_, env, O, ds, R, e2, P⟩
      cases q : Mi.asgs ts ds env with
      | none =>
        rw [q] at P
        exact P.elim
      | some e3 => rw [← e2.len, ← asgs_len q, h3]
    | _ =>
      simp only [Mi.asg] at P
      exact P.elim
theorem g_asgs (hc : X.calm = true) (hN : X.N.Nodup) : ∀ {ts : List Mi.T} {es : List Expr}, TgsOk X ts es → PGs X es (tGs γ X.K (tvs ts) (Mi.asgs ts))
  | _, _, .nil => PGs.weak pgs_nil fun vs σ H Q ⟨env, O, ds, R, hv, P⟩ => by
    cases ds with
    | nil =>
      have P : PoG γ X.K H O σ [] (some env) Q := by
        have : Mi.asgs [] [] env = some env := by simp only [Mi.asgs]
        rw [← this]
        exact P
      exact ⟨hv, P σ O (PstS.refl H O) R rfl fun _ _ => rfl⟩
    | cons d ds =>
      simp only [Mi.asgs] at P
      exact P.elim
  | _, _, .cons (t := t) (ts := ts) h1 h2 h3 => PGs.weak (pgs_cons (g_asg hc hN h1) (g_asgs hc hN h3) (by rw [h2]; rfl)) fun vs σ H Q ⟨env, O, ds, R, hv, P⟩ => by
    cases ds with
    | nil =>
      simp only [Mi.asgs] at P
      exact P.elim
    | cons d ds =>
      obtain ⟨v, r, ev, ho, w1, w2⟩ := hv
      have P : PoG γ X.K H O σ (tv t ++ tvs ts) ((Mi.asg t d env).bind (Mi.asgs ts ds)) Q := by
        have : Mi.asgs (t :: ts) (d :: ds) env = (Mi.asg t d env).bind (Mi.asgs ts ds) := by simp only [Mi.asgs]
        rw [← this]
        exact P
      refine ⟨v, r, ev, env, O, d, (0, 0), R, w1, (fun z => absurd z (by rw [ho]; exact Bool.false_ne_true)), ?_⟩
      cases q : Mi.asg t d env with
      | none =>
        rw [q] at P
        exact P.elim
      | some e1 =>
        rw [q] at P
        intro σ' O' p1 r1 l1 k1
        refine ⟨e1, O', ds, r1, VRs.s R.od p1 w2, ?_⟩
        have P : PoG γ X.K H O σ (tv t ++ tvs ts) (Mi.asgs ts ds e1) Q := P
        cases q2 : Mi.asgs ts ds e1 with
        | none =>
          rw [q2] at P
          exact P.elim
        | some e2 =>
          rw [q2] at P
          intro σ2 O2 p2 r2 l2 k2
          refine P σ2 O2 ⟨fun a o h => h, fun a o h z => p2.non a o h (p1.non a o h z), fun a t h z => p2.own a t (p1.own a t h z) z⟩ r2 (l2.trans l1) fun j hj => ?_
          rw [List.mem_append, not_or] at hj
          rw [k2 j hj.2, k1 j hj.1]
end
end
end MiS

set_option Elab.async false
set_option linter.all false
set_option maxRecDepth 100000
set_option maxHeartbeats 4000000
/-! MiS: comprehensions -/
namespace MiS
open PySem PySem.Spec PyProof.Rows L2
open Mi (D Res Fl)
abbrev E0 : XK := fun _ _ _ => False
section
variable {γ : GC} {T : TabL} {E : XK} {X : Cx} {K : PySem.W.Frag} {H H' : Hp} {O O' : OM} {gl : List D} {cf : Nat → List D → Res (D × List D)}
theorem wipe_at {σ : St} {vs : List Nat} {j : Nat} : (wipe σ vs)[j]? = if j ∈ vs then (if j < σ.length then some none else none) else σ[j]? := by
  induction vs with
  | nil => rfl
  | cons v vs ih =>
    show ((wipe σ vs).set v none)[j]? = _
    by_cases hv : v = j
    · subst hv
      rw [if_pos List.mem_cons_self]
      by_cases hl : v < σ.length
      · rw [if_pos hl, List.getElem?_set_self (by rw [wipe_length]; exact hl)]
      · rw [if_neg hl]
        exact List.getElem?_eq_none (by rw [List.length_set, wipe_length]; omega)
    · rw [List.getElem?_set_ne hv, ih]
      by_cases hm : j ∈ vs
      · rw [if_pos hm, if_pos (List.mem_cons_of_mem _ hm)]
      · rw [if_neg hm, if_neg fun h => by
          rcases List.mem_cons.mp h with z | z
          · exact hv z.symm
          · exact hm z]
theorem wipe_same {σ σ2 : St} {vs ws : List Nat} (hl : σ2.length = (wipe σ vs).length) (hs : ∀ j ∈ ws, j ∈ vs) (h : ∀ j, j ∉ ws → σ2[j]? = (wipe σ vs)[j]?) : wipe σ2 vs = wipe σ vs := by
  refine List.ext_getElem? fun j => ?_
  rw [wipe_at, wipe_at]
  rw [wipe_length] at hl
  by_cases hm : j ∈ vs
  · rw [if_pos hm, if_pos hm, hl]
  · rw [if_neg hm, if_neg hm, h j fun z => hm (hs j z), wipe_at, if_neg hm]
theorem delVs_len {env : EnvI} {vs : List Nat} : (Mi.delVs env vs).length = env.length := by
  induction vs generalizing env with
  | nil => rfl
  | cons v vs ih =>
    show (Mi.delVs (Mi.delV env v) vs).length = _
    rw [ih]
    exact List.length_set
theorem delVs_at {env : EnvI} {vs : List Nat} {j : Nat} {d : D} (h : (Mi.delVs env vs)[j]? = some (some d)) : env[j]? = some (some d) ∧ j ∉ vs := by
  induction vs generalizing env with
  | nil => exact ⟨h, by simp⟩
  | cons v vs ih =>
    obtain ⟨h1, h2⟩ := ih (env := Mi.delV env v) h
    have h1 : (env.set v none)[j]? = some (some d) := h1
    by_cases hv : v = j
    · subst hv
      by_cases hl : v < env.length
      · rw [List.getElem?_set_self hl] at h1
        cases h1
      · rw [List.getElem?_eq_none (by rw [List.length_set]; omega)] at h1
        cases h1
    · rw [List.getElem?_set_ne hv] at h1
      exact ⟨h1, by simp only [List.mem_cons, not_or]; exact ⟨fun e => hv e.symm, h2⟩⟩
theorem delVs_keep {env : EnvI} {vs : List Nat} {j : Nat} (h : j ∉ vs) : (Mi.delVs env vs)[j]? = env[j]? := by
  induction vs generalizing env with
  | nil => rfl
  | cons v vs ih =>
    rw [List.mem_cons, not_or] at h
    show (Mi.delVs (Mi.delV env v) vs)[j]? = _
    rw [ih h.2]
    exact List.getElem?_set_ne (Ne.symm h.1)
theorem backV_len : ∀ {own : List Nat} {env0 env e2 : EnvI}, Mi.backV env0 env own = .ok e2 → e2.length = env.length
  | [], env0, env, e2, h => by
    cases h
    rfl
  | i :: r, env0, env, e2, h => by
    unfold Mi.backV at h
    split at h
    · rename_i d q
      split at h
      · cases h
      · rw [backV_len h, List.length_set]
    · rw [backV_len h, List.length_set]
    · cases h
theorem backV_at : ∀ {own : List Nat} {env0 env e2 : EnvI} {j : Nat} {d : D}, Mi.backV env0 env own = .ok e2 → e2[j]? = some (some d) → (env0[j]? = some (some d) ∧ d.own = false) ∨ (j ∉ own ∧ env[j]? = some (some d))
  | [], env0, env, e2, j, d, h, e => by
    cases h
    exact .inr ⟨by simp, e⟩
  | i :: r, env0, env, e2, j, d, h, e => by
    unfold Mi.backV at h
    split at h
    · rename_i d' q
      split at h
      · cases h
      · rename_i ho
        rcases backV_at h e with z | ⟨z1, z2⟩
        · exact .inl z
        · by_cases hi : i = j
          · subst hi
            by_cases hl : i < env.length
            · rw [List.getElem?_set_self hl] at z2
              cases z2
              exact .inl ⟨q, by simpa using ho⟩
            · rw [List.getElem?_eq_none (by rw [List.length_set]; omega)] at z2
              cases z2
          · rw [List.getElem?_set_ne hi] at z2
            exact .inr ⟨by simp only [List.mem_cons, not_or]; exact ⟨fun e => hi e.symm, z1⟩, z2⟩
    · rename_i q
      rcases backV_at h e with z | ⟨z1, z2⟩
      · exact .inl z
      · by_cases hi : i = j
        · subst hi
          by_cases hl : i < env.length
          · rw [List.getElem?_set_self hl] at z2
            cases z2
          · rw [List.getElem?_eq_none (by rw [List.length_set]; omega)] at z2
            cases z2
        · rw [List.getElem?_set_ne hi] at z2
          exact .inr ⟨by simp only [List.mem_cons, not_or]; exact ⟨fun e => hi e.symm, z1⟩, z2⟩
    · cases h
/-- the block's state: its own names forgotten -/
theorem RS.wiped {env : EnvI} {σ : St} {vs : List Nat} (R : RS γ K H O env σ) : RS γ K H O (Mi.delVs env vs) (wipe σ vs) where
  od := R.od
  len := by rw [delVs_len, wipe_length]; exact R.len
  sz := by rw [delVs_len]; exact R.sz
  at_ := fun j d e => by
    obtain ⟨h1, h2⟩ := delVs_at e
    obtain ⟨v, h3, h4⟩ := R.at_ j d h1
    exact ⟨v, by rw [wipe_at, if_neg h2]; exact h3, h4⟩
/-- one item is laid on the list at D -/
def setTo (O : OM) (D : Addr) (t : Tag) : OM := fun a => if a = D then some t else O a
/-- a turn of the comprehension -/
def turnF (gl : List D) (cf : Nat → List D → Res (D × List D)) (own : List Nat) (elt : Mi.E) (t : Mi.T) (ifs : Option Mi.E) (x : D) (e2 : EnvI) : Res (List D × EnvI) :=
  (Res.of (Mi.asg t x (Mi.delVs e2 own))).bind fun e3 => (Mi.evt gl cf ifs e3).bind fun p => if p.1 = true then (Mi.ev gl cf elt p.2).bind fun q => (Mi.keep elt q.1).bind fun x => .ok ([x], q.2) else .ok ([], p.2)
theorem ev_lc {own : List Nat} {elt : Mi.E} {t : Mi.T} {it : Mi.I} {ifs : Option Mi.E} {env : EnvI} : Mi.ev gl cf (.lc own elt t it ifs []) env = (Mi.evJ gl cf it env).bind fun p => if 1000000 < p.1.length then .stk else
    (Mi.lcGo (turnF gl cf own elt t ifs) p.1 [] p.2).bind fun q => (Mi.backV p.2 q.2 own).bind fun e7 => .ok (.lst true q.1, e7) := by
  simp only [Mi.ev, Mi.evg]
  congr 1
  funext p
  congr 1
  congr 1
  congr 1
  funext x e2
  unfold turnF
  congr 1
  funext e3
  congr 1
  funext p
  split
  · cases Mi.ev gl cf elt p.2 with
    | ok q =>
      simp only [Res.bind]
      cases Mi.keep elt q.1 <;> rfl
    | exc x as => rfl
    | stk => rfl
  · rfl
theorem lcGo_cons {f : D → EnvI → Res (List D × EnvI)} {x : D} {xs acc : List D} {env : EnvI} {r : List D × EnvI} (h : Mi.lcGo f (x :: xs) acc env = .ok r) : ∃ p, f x env = .ok p ∧ Mi.lcGo f xs (acc ++ p.1) p.2 = .ok r := by
  unfold Mi.lcGo at h
  split at h
  · rename_i p q
    exact ⟨_, q, h⟩
  · cases h
theorem lcGo_noexc {f : D → EnvI → Res (List D × EnvI)} : ∀ {xs acc : List D} {env : EnvI} {x : Nat} {as : List D}, Mi.lcGo f xs acc env = .exc x as → False
  | [], acc, env, x, as, h => by cases h
  | y :: xs, acc, env, x, as, h => by
    unfold Mi.lcGo at h
    split at h
    · exact lcGo_noexc h
    · cases h
theorem backV_noexc : ∀ {own : List Nat} {env0 env : EnvI} {x : Nat} {as : List D}, Mi.backV env0 env own = .exc x as → False
  | [], env0, env, x, as, h => by cases h
  | i :: r, env0, env, x, as, h => by
    unfold Mi.backV at h
    split at h
    · split at h
      · cases h
      · exact backV_noexc h
    · exact backV_noexc h
    · cases h

theorem setTo_od {D : Addr} {t : Tag} {vs : List V} (d : OD H O) (h : H D = some (.lst vs)) : OD H (setTo O D t) := fun a u e => by
  unfold setTo at e
  by_cases z : a = D
  · rw [z]
    exact ⟨_, h, trivial⟩
  · rw [if_neg z] at e
    exact d a u e
theorem setTo_ne {D a : Addr} {t : Tag} (h : a ≠ D) : setTo O D t a = O a := if_neg h
theorem setTo_same {D : Addr} {t : Tag} : setTo O D t D = some t := if_pos rfl
/-- steps that leave D aside -/
theorem PstB.aside {b : Bool} {H0 H1 : Hp} {O0 O1 : OM} {D : Addr} (p : PstB b H0 O0 H O) (hD : H0 D = none) (hO : OD H0 O0) (h1 : ∀ a, a ≠ D → H1 a = H a) (h2 : ∀ a, a ≠ D → O1 a = O a) : PstB b H0 O0 H1 O1 := by
  have ne : ∀ a o, H0 a = some o → a ≠ D := fun a o e z => by
    rw [z, hD] at e
    cases e
  cases b with
  | true =>
    have p : Pst H0 O0 H O := p
    exact (show Pst H0 O0 H1 O1 from ⟨fun a o e e2 e3 => by rw [h1 a (ne a o e), h2 a (ne a o e)]; exact p.non a o e e2 e3, fun a o k e e2 => by rw [h1 a (ne a o e), h2 a (ne a o e)]; exact p.frn a o k e e2⟩)
  | false =>
    have p : PstP H0 O0 H O := p
    refine (show PstP H0 O0 H1 O1 from ⟨fun a o e e2 => by rw [h1 a (ne a o e)]; exact p.all a o e e2, fun a o e e2 e3 => by rw [h2 a (ne a o e)]; exact p.non a o e e2 e3, fun a t e e2 => ?_⟩)
    obtain ⟨o, e3, _⟩ := hO a t e
    rw [h2 a (ne a o e3)]
    exact p.own a t e e2
theorem tabs_upd {D : Addr} {o o' : HO} (h : LamX.Tabs T H) (e : H D = some o) (hn : noTbl o) (hc : ∀ c q, o ≠ LamX.CodeO c q) : LamX.Tabs T (upd H D o') := fun p hp => by
  obtain ⟨ps, h1, h2, h3⟩ := h p hp
  have n1 : p.1 ≠ D := fun z => by
    rw [z, e] at h1
    cases h1
    exact hn ps rfl
  refine ⟨ps, by rw [upd_ne n1]; exact h1, h2, fun pos cv hcv => ?_⟩
  obtain ⟨c, e1, e2⟩ := h3 pos cv hcv
  have n2 : c ≠ D := fun z => by
    rw [z, e] at e2
    cases e2
    exact hc _ _ rfl
  exact ⟨c, e1, by rw [upd_ne n2]; exact e2⟩
theorem lst_noCode (vs : List V) : ∀ c q, (HO.lst vs) ≠ LamX.CodeO c q := fun c q z => by
  unfold LamX.CodeO at z
  cases z
/-- the state at a turn -/
structure LcW (γ : GC) (K : PySem.W.Frag) (T : TabL) (gl : List D) (cf : Nat → List D → Res (D × List D)) (own : List Nat) (elt : Mi.E) (t : Mi.T) (ifs : Option Mi.E) (c : Bool) (H1 : Hp) (O1 : OM) (σ : St) (as : List Addr) (good : Hp → OM → Prop) (D : Addr) (res : List Mi.D × EnvI) (xs : List Mi.D) (n : Nat) (H : Hp) : Prop where
  ex : ∃ env O accD acc, RS γ K H O (Mi.delVs env own) (wipe σ own) ∧ O D = some (fT, 0) ∧ H D = some (.lst acc) ∧ VRs γ K H O accD acc ∧ acc.length ≤ n ∧ good H O ∧ (∀ a ∈ as, Held c H O a) ∧ LamX.Tabs T H ∧ PstB c H1 O1 H O ∧
    Mi.lcGo (turnF gl cf own elt t ifs) xs accD env = .ok res
theorem lc_read {own : List Nat} {elt : Mi.E} {t : Mi.T} {it : Mi.I} {ifs : Option Mi.E} (htv : ∀ j ∈ tv t, j ∈ own) :
    ∀ σ H Q, tE γ K T E (Mi.ev gl cf (.lc own elt t it ifs [])) (mu (.lc own elt t it ifs [])) false σ H Q →
      tLc (tI γ K T E (Mi.evJ gl cf it) (muI it) (mu elt || muo ifs)) (tG γ K (tv t) (Mi.asg t)) (tTst γ K T E0 (Mi.evt gl cf ifs) (muo ifs)) (tE γ K T E0 (Mi.ev gl cf elt) (mu elt) (Mi.vw elt)) own σ H Q := by
  intro σ H Q ⟨env, O, R, Tb, P⟩
  refine ⟨env, O, R, Tb, ?_⟩
  rw [ev_lc] at P
  have hb : mu (.lc own elt t it ifs []) = (muI it || (mu elt || muo ifs)) := by
    show (muI it || (mu elt || (muo ifs || false))) = _
    rw [Bool.or_false]
  rw [hb] at P
  cases q : Mi.evJ gl cf it env with
  | ok p =>
    rw [q, bind_ok] at P
    intro J as good H1 O1 p1 r1 src hgood hheld Tb1 D hD
    by_cases hlen : 1000000 < p.1.length
    · rw [if_pos hlen] at P
      exact P.elim
    rw [if_neg hlen] at P
    cases qr : Mi.lcGo (turnF gl cf own elt t ifs) p.1 [] p.2 with
    | ok res =>
      rw [qr, bind_ok] at P
      have hDO : O1 D = none := r1.od.free hD
      have neD : ∀ a o, H1 a = some o → a ≠ D := fun a o e z => by
        rw [z, hD] at e
        cases e
      refine ⟨fun i m H => i ≤ p.1.length ∧ m = p.1.length - i ∧ LcW γ K T gl cf own elt t ifs (mu elt || muo ifs) H1 O1 σ as good D res (p.1.drop i) i H, ⟨p.1.length, Nat.zero_le _, by simp, ⟨p.2, setTo O1 D (fT, 0), [], [], ?_⟩⟩, ?_⟩
      · have d2 : OD (upd H1 D (.lst [])) (setTo O1 D (fT, 0)) := fun a u e => by
          by_cases z : a = D
          · rw [z]
            exact ⟨_, upd_same, trivial⟩
          · rw [setTo_ne z] at e
            obtain ⟨o, h1, h2⟩ := r1.od a u e
            exact ⟨o, by rw [upd_ne z]; exact h1, h2⟩
        have kn : KeepN H1 O1 (upd H1 D (.lst [])) (setTo O1 D (fT, 0)) := fun a o e e2 _ => by
          rw [upd_ne (neD a o e), setTo_ne (neD a o e)]
          exact ⟨e, e2⟩
        have ps : PstS H1 O1 (upd H1 D (.lst [])) (setTo O1 D (fT, 0)) := ⟨fun a o e => by rw [upd_ne (neD a o e)]; exact e, fun a o e e2 => by rw [setTo_ne (neD a o e)]; exact e2, fun a u e _ => by
          obtain ⟨o, h1, _⟩ := r1.od a u e
          rw [setTo_ne (neD a o h1)]
          exact e⟩
        have pb : PstB (mu elt || muo ifs) H1 O1 (upd H1 D (.lst [])) (setTo O1 D (fT, 0)) := PstB.of ps.p r1.od
        exact ⟨(r1.s d2 ps).wiped, setTo_same, upd_same, rfl, Nat.le_refl _, src.step H1 O1 _ _ hgood r1.od kn (fun a ha o e => (Held.step (hheld a ha) pb).2 o e), fun a ha => (Held.step (hheld a ha) pb).1, tabs_s ps Tb1, pb, qr⟩
      · rintro i m H ⟨hi, hm, ⟨env2, O2, accD, acc, r2, o2, hD2, v2, hl2, g2, h2, Tb2, p2, q2⟩⟩
        by_cases hlt : i < p.1.length
        · -- a turn
          refine .inr ⟨(src.go i _ H O2 g2 r2.od (List.getElem?_eq_getElem hlt)).1, fun H' => LcW γ K T gl cf own elt t ifs (mu elt || muo ifs) H1 O1 σ as good D res (p.1.drop (i + 1)) (i + 1) H', fun H' w => ⟨p.1.length - (i + 1), by omega, hlt, rfl, w⟩, fun x H' y => ?_⟩
          obtain ⟨_, ho, hy⟩ := src.go i _ H O2 g2 r2.od (List.getElem?_eq_getElem hlt)
          obtain ⟨s3, d3, vx⟩ := hy x H' y
          have r3 := r2.s d3 s3
          rw [List.drop_eq_getElem_cons hlt] at q2
          obtain ⟨tr, qt, q2⟩ := lcGo_cons q2
          unfold turnF at qt
          obtain ⟨e3, qa, qt⟩ := bind_inv qt
          refine ⟨Mi.delVs env2 own, O2, p.1[i], (0, 0), r3, vx, (fun z => absurd z (by rw [ho]; exact Bool.false_ne_true)), ?_⟩
          have qa' : Mi.asg t p.1[i] (Mi.delVs env2 own) = some e3 := by
            cases qz : Mi.asg t p.1[i] (Mi.delVs env2 own) with
            | none =>
              rw [qz] at qa
              cases qa
            | some z =>
              rw [qz] at qa
              cases qa
              rfl
          rw [qa']
          intro σ4 O4 s4 r4 l4 k4
          refine ⟨wipe_same l4 htv k4, ?_⟩
          obtain ⟨tp, qe, qt⟩ := bind_inv qt
          refine ⟨e3, O4, r4, tabs_s s3 Tb2, ?_⟩
          rw [qe]
          intro H5 O5 p5 r5 Tb5
          -- what is known behind the test
          have s34 : PstS H O2 H' O4 := ⟨fun a o e => s4.all a o (s3.all a o e), fun a o e e2 => s4.non a o (s3.all a o e) (s3.non a o e e2), fun a u e e2 => s4.own a u (s3.own a u e e2) e2⟩
          have p25 : PstB (muo ifs) H O2 H5 O5 := by
            have := PstB.trans (b := false) r2.od r4.od s34.p p5
            rwa [Bool.false_or] at this
          have key : ∀ {H6 : Hp} {O6 : OM} {env6 : EnvI} {accD6 : List Mi.D} {b6 : Bool}, PstB b6 H O2 H6 O6 → (b6 = true → (mu elt || muo ifs) = true) → RS γ K H6 O6 env6 σ4 → LamX.Tabs T H6 → Mi.lcGo (turnF gl cf own elt t ifs) (p.1.drop (i + 1)) accD6 env6 = .ok res →
              O6 D = some (fT, 0) ∧ H6 D = some (.lst acc) ∧ VRs γ K H6 O6 accD acc ∧ (∀ acc6 H7, (∀ a, a ≠ D → H7 a = H6 a) → H7 D = some (.lst acc6) → LamX.Tabs T H7 → VRs γ K H6 O6 accD6 acc6 → acc6.length ≤ i + 1 →
                LcW γ K T gl cf own elt t ifs (mu elt || muo ifs) H1 O1 σ as good D res (p.1.drop (i + 1)) (i + 1) H7) := by
            intro H6 O6 env6 accD6 b6 p6 hb6 r6 Tb6 q6
            have p6' := PstB.weak r2.od p6 hb6
            have p6p := p6.pst r2.od
            obtain ⟨z1, z2⟩ := p6p.frn D _ 0 hD2 o2
            refine ⟨z2, z1, VRs.step r2.od p6p.non accD v2, fun acc6 H7 h7 hD7 Tb7 v6 hl6 => ?_⟩
            have kn : KeepN H6 O6 H7 O6 := fun a o e e2 _ => by
              have : a ≠ D := fun z => by
                rw [z, z2] at e2
                cases e2
              exact ⟨by rw [h7 a this]; exact e, e2⟩
            have d7 : OD H7 O6 := fun a u e => by
              by_cases z : a = D
              · rw [z]
                exact ⟨_, hD7, trivial⟩
              · obtain ⟨o, e1, e2⟩ := r6.od a u e
                exact ⟨o, by rw [h7 a z]; exact e1, e2⟩
            have asD : ∀ a ∈ as, a ≠ D := fun a ha z => by
              obtain ⟨o, e, _⟩ := hheld a ha
              rw [z, hD] at e
              cases e
            have hs : wipe σ4 own = wipe σ own := wipe_same l4 htv k4
            have r7 : RS γ K H7 O6 (Mi.delVs env6 own) (wipe σ own) := by
              rw [← hs]
              have rw6 := r6.wiped (vs := own)
              refine ⟨d7, rw6.len, rw6.sz, fun j d e => ?_⟩
              obtain ⟨v, e1, e2⟩ := rw6.at_ j d e
              have hj : j < (Mi.delVs env6 own).length := (List.getElem?_eq_some_iff.mp e).1
              refine ⟨v, e1, VR.step r6.od kn d (fun a o e3 e4 => ?_) e2⟩
              have : a ≠ D := fun z => by
                rw [z, z2] at e4
                cases e4
                exact absurd (Nat.lt_trans hj rw6.sz) (show ¬ fT < tT by decide)
              exact ⟨by rw [h7 a this]; exact e3, e4⟩
            refine ⟨env6, O6, accD6, acc6, r7, z2, hD7, VRs.step r6.od kn accD6 v6, hl6, ?_, fun a ha => ?_, Tb7, ?_, q6⟩
            · refine src.step H6 O6 H7 O6 (src.step H O2 H6 O6 g2 r2.od p6p.non fun a ha o e => (Held.step (h2 a ha) p6').2 o e) r6.od kn fun a ha o e => ?_
              rw [h7 a (asD a ha)]
              exact e
            · obtain ⟨o, e, n, z⟩ := (Held.step (h2 a ha) p6').1
              exact ⟨o, by rw [h7 a (asD a ha)]; exact e, n, z⟩
            · have := PstB.trans r1.od r2.od p2 p6'
              rw [Bool.or_self] at this
              exact PstB.aside this hD r1.od h7 fun _ _ => rfl
          cases hb : tp.1 with
          | false =>
            rw [hb, if_neg Bool.false_ne_true] at qt
            rw [if_neg Bool.false_ne_true]
            cases qt
            have q2 : Mi.lcGo (turnF gl cf own elt t ifs) (p.1.drop (i + 1)) (accD ++ []) tp.2 = .ok res := q2
            rw [List.append_nil] at q2
            obtain ⟨k1, k2, k3, k5⟩ := key p25 (fun z => by rw [z, Bool.or_true]) r5 Tb5 q2
            exact k5 acc H5 (fun _ _ => rfl) k2 Tb5 k3 (by omega)
          | true =>
            rw [hb, if_pos rfl] at qt
            rw [if_pos rfl]
            obtain ⟨ep, qv, qt⟩ := bind_inv qt
            obtain ⟨xk, qk, qt⟩ := bind_inv qt
            cases qt
            refine ⟨tp.2, O5, r5, Tb5, ?_⟩
            rw [qv]
            intro y6 H6 O6 t6 p6 r6 v6 ht6 Tb6
            obtain ⟨hk, O7, p7, r7, v7⟩ := keep_ok r5.od p6 r6 v6 ht6 qk
            obtain ⟨k1, k2, k3, k5⟩ := key (b6 := muo ifs || mu elt) (PstB.trans r2.od r5.od p25 p7) (fun z => by rw [Bool.or_comm]; exact z) r7 Tb6 q2
            have hz : sizeLine = 16777216 := sizeLine_eq
            refine ⟨acc, k2, by omega, k5 (acc ++ [y6]) (upd H6 D (.lst (acc ++ [y6]))) (fun a ha => upd_ne ha) upd_same (tabs_upd Tb6 k2 (lst_noTbl _) (lst_noCode _)) (VRs.app k3 (VRs.one hk v7)) ?_⟩
            rw [List.length_append, List.length_singleton]
            omega
        · -- the end
          have hi' : i = p.1.length := by omega
          refine .inl ⟨src.stop i H O2 g2 (by omega), ?_⟩
          rw [hi', List.drop_length] at q2
          have er : res = (accD, env2) := by
            cases q2
            rfl
          subst er
          cases qb : Mi.backV p.2 env2 own with
          | ok e7 =>
            rw [qb] at P
            have d8 : OD H (setTo O2 D tmp) := setTo_od r2.od hD2
            have kn : KeepN H O2 H (setTo O2 D tmp) := fun a o e e2 _ => by
              have : a ≠ D := fun z => by
                rw [z, o2] at e2
                cases e2
              exact ⟨e, by rw [setTo_ne this]; exact e2⟩
            have own8 : ∀ i, i < tT → ∀ a o, H a = some o → O2 a = some (i, 0) → H a = some o ∧ setTo O2 D tmp a = some (i, 0) := fun i hi a o e e2 => by
              have : a ≠ D := fun z => by
                rw [z, o2] at e2
                cases e2
                exact absurd hi (show ¬ fT < tT by decide)
              exact ⟨e, by rw [setTo_ne this]; exact e2⟩
            have len2 : env2.length = σ.length := by
              have := r2.len
              rwa [delVs_len, wipe_length] at this
            have sz2 : env2.length < tT := by
              have := r2.sz
              rwa [delVs_len] at this
            have p8 : PstB (mu elt || muo ifs) H1 O1 H (setTo O2 D tmp) := PstB.aside p2 hD r1.od (fun _ _ => rfl) fun a ha => setTo_ne ha
            refine P (.ref D) H (setTo O2 D tmp) tmp (PstB.trans R.od r1.od p1 p8) ⟨d8, by rw [backV_len qb]; exact len2, by rw [backV_len qb]; exact sz2, fun j d e => ?_⟩ ⟨D, acc, rfl, hD2, setTo_same, VRs.step r2.od kn accD v2⟩ (fun _ => rfl) Tb2
            rcases backV_at qb e with ⟨z1, z2⟩ | ⟨z1, z2⟩
            · obtain ⟨v, e1, e2⟩ := r1.at_ j d z1
              exact ⟨v, e1, VR.b r1.od p8 z2 e2⟩
            · obtain ⟨v, e1, e2⟩ := r2.at_ j d (by rw [delVs_keep z1]; exact z2)
              have hj : j < env2.length := (List.getElem?_eq_some_iff.mp z2).1
              exact ⟨v, (wipe_some e1).1, VR.step r2.od kn d (own8 j (Nat.lt_trans hj sz2)) e2⟩
          | exc y as => exact (backV_noexc qb).elim
          | stk =>
            rw [qb] at P
            exact P.elim
    | exc y as => exact (lcGo_noexc qr).elim
    | stk =>
      rw [qr] at P
      exact P.elim
  | exc y as =>
    rw [q] at P
    exact P
  | stk =>
    rw [q] at P
    exact P.elim
end
end MiS

set_option Elab.async false
set_option linter.all false
set_option maxRecDepth 100000
set_option maxHeartbeats 4000000
/-! MiS: statements -/
namespace MiS
open PySem PySem.Spec PyProof.Rows L2
open Mi (D Res Fl)
abbrev SF := EnvI → Res Fl
/-- from one state of a body to a later one -/
structure StepS (io : List Nat) (σ : St) (H : Hp) (O : OM) (σ' : St) (H' : Hp) (O' : OM) : Prop where
  pst : Pst H O H' O'
  io : ∀ i ∈ io, σ'[i]? = σ[i]?
section
variable {γ : GC} {T : TabL} {E : XK} {X : Cx} {K : PySem.W.Frag} {H H' H1 : Hp} {O O' O1 : OM} {gl : List D} {cf : Nat → List D → Res (D × List D)} {io : List Nat}
theorem StepS.trans {σ σ1 σ2 : St} {H2 : Hp} {O2 : OM} (a : StepS io σ H O σ1 H1 O1) (b : StepS io σ1 H1 O1 σ2 H2 O2) : StepS io σ H O σ2 H2 O2 := ⟨a.pst.trans b.pst, fun i hi => (b.io i hi).trans (a.io i hi)⟩
theorem StepS.refl (σ : St) (H : Hp) (O : OM) : StepS io σ H O σ H O := ⟨Pst.refl H O, fun _ _ => rfl⟩
theorem StepS.of {σ : St} (p : Pst H O H1 O1) : StepS io σ H O σ H1 O1 := ⟨p, fun _ _ => rfl⟩
def PoS (γ : GC) (K : PySem.W.Frag) (T : TabL) (E : XK) (io : List Nat) (H : Hp) (O : OM) (σ : St) (r : Res Fl) (D : Ends) : Prop :=
  match r with
  | .ok (.nx e) => ∀ σ' H' O', StepS io σ H O σ' H' O' → RS γ K H' O' e σ' → LamX.Tabs T H' → D.nx σ' H'
  | .ok (.brk e) => ∀ σ' H' O', StepS io σ H O σ' H' O' → RS γ K H' O' e σ' → LamX.Tabs T H' → D.bk σ' H'
  | .ok (.cnt e) => ∀ σ' H' O', StepS io σ H O σ' H' O' → RS γ K H' O' e σ' → LamX.Tabs T H' → D.ct σ' H'
  | .ok (.ret d e) => ∀ v σ' H' O', StepS io σ H O σ' H' O' → RS γ K H' O' e σ' → VR γ K H' O' tmp d v → LamX.Tabs T H' → D.rt v H'
  | .exc x as => PoX γ T E H O x as
  | .stk => False
def tS (γ : GC) (K : PySem.W.Frag) (T : TabL) (E : XK) (io : List Nat) (f : SF) : TS := fun D σ H => ∃ env O, RS γ K H O env σ ∧ LamX.Tabs T H ∧ PoS γ K T E io H O σ (f env) D
theorem PoS.pre {σ σ1 : St} {r : Res Fl} {D : Ends} (s : StepS io σ H O σ1 H1 O1) (P : PoS γ K T E io H O σ r D) : PoS γ K T E io H1 O1 σ1 r D := by
  cases r with
  | ok f =>
    cases f with
    | nx e => exact fun σ' H' O' s' => P σ' H' O' (s.trans s')
    | brk e => exact fun σ' H' O' s' => P σ' H' O' (s.trans s')
    | cnt e => exact fun σ' H' O' s' => P σ' H' O' (s.trans s')
    | ret d e => exact fun v σ' H' O' s' => P v σ' H' O' (s.trans s')
  | exc x as => exact PoX.of s.pst P
  | stk => exact P
theorem PS.weak {st : Stmt} {t t' : TS} (h : PS X st t) (i : ∀ D σ H, t' D σ H → t D σ H) : PS X st t' := ⟨fun p s σ H D I h' => h.run p s σ H D I (i D σ H h')⟩
theorem PSs.weak {st : List Stmt} {t t' : TS} (h : PSs X st t) (i : ∀ D σ H, t' D σ H → t D σ H) : PSs X st t' := ⟨fun p s σ H D I h' => h.run p s σ H D I (i D σ H h')⟩
theorem exs_cons {s : Mi.S} {ss : List Mi.S} {env : EnvI} : Mi.exs gl cf (s :: ss) env = (Mi.ex gl cf s env).bind fun fl => match fl with
    | .nx e => Mi.exs gl cf ss e
    | .brk e => .ok (.brk e)
    | .cnt e => .ok (.cnt e)
    | .ret d e => .ok (.ret d e) := by
  simp only [Mi.exs] <;> congr 1
theorem s_nil : PSs X [] (tS γ X.K T E io (Mi.exs gl cf [])) := PSs.weak pss_nil fun D σ H ⟨env, O, R, Tb, P⟩ => by
  have P : PoS γ X.K T E io H O σ (.ok (.nx env)) D := by
    have : Mi.exs gl cf [] env = .ok (.nx env) := by simp only [Mi.exs]
    rw [← this]
    exact P
  exact P σ H O (StepS.refl σ H O) R Tb
theorem s_cons {s : Mi.S} {ss : List Mi.S} {x : Stmt} {xs : List Stmt} (h1 : PS X x (tS γ X.K T E io (Mi.ex gl cf s))) (h2 : PSs X xs (tS γ X.K T E io (Mi.exs gl cf ss))) : PSs X (x :: xs) (tS γ X.K T E io (Mi.exs gl cf (s :: ss))) :=
  PSs.weak (pss_cons h1 h2) fun D σ H ⟨env, O, R, Tb, P⟩ => by
    rw [exs_cons] at P
    refine ⟨env, O, R, Tb, ?_⟩
    cases q : Mi.ex gl cf s env with
    | ok f =>
      rw [q, bind_ok] at P
      cases f with
      | nx e => exact fun σ' H' O' st r Tb' => ⟨e, O', r, Tb', PoS.pre st P⟩
      | brk e => exact P
      | cnt e => exact P
      | ret d e => exact P
    | exc x as =>
      rw [q] at P
      exact P
    | stk =>
      rw [q] at P
      exact P
theorem s_pas {pos : Pos} : PS X (.Pass pos) (tS γ X.K T E io (Mi.ex gl cf .pas)) := PS.weak ps_pass fun D σ H ⟨env, O, R, Tb, P⟩ => by
  have P : PoS γ X.K T E io H O σ (.ok (.nx env)) D := by
    have : Mi.ex gl cf .pas env = .ok (.nx env) := by simp only [Mi.ex]
    rw [← this]
    exact P
  exact P σ H O (StepS.refl σ H O) R Tb
theorem s_brk {pos : Pos} : PS X (.Break pos) (tS γ X.K T E io (Mi.ex gl cf .brk)) := PS.weak ps_break fun D σ H ⟨env, O, R, Tb, P⟩ => by
  have P : PoS γ X.K T E io H O σ (.ok (.brk env)) D := by
    have : Mi.ex gl cf .brk env = .ok (.brk env) := by simp only [Mi.ex]
    rw [← this]
    exact P
  exact P σ H O (StepS.refl σ H O) R Tb
theorem s_cnt {pos : Pos} : PS X (.Continue pos) (tS γ X.K T E io (Mi.ex gl cf .cnt)) := PS.weak ps_continue fun D σ H ⟨env, O, R, Tb, P⟩ => by
  have P : PoS γ X.K T E io H O σ (.ok (.cnt env)) D := by
    have : Mi.ex gl cf .cnt env = .ok (.cnt env) := by simp only [Mi.ex]
    rw [← this]
    exact P
  exact P σ H O (StepS.refl σ H O) R Tb
theorem move_inv {e : Mi.E} {x y : D} {t : Tag} (h : Mi.move e x = .ok y) (ht : Mi.vw e = false → t = tmp) : y = x ∧ (x.own = true → t = tmp) := by
  unfold Mi.move at h
  split at h
  · cases h
  · rename_i hc
    cases h
    refine ⟨rfl, fun ho => ht ?_⟩
    cases q : Mi.vw e with
    | false => rfl
    | true =>
      rw [q, ho] at hc
      exact absurd rfl hc
theorem move_noexc {e : Mi.E} {x : D} {y : Nat} {as : List D} (h : Mi.move e x = .exc y as) : False := by
  unfold Mi.move at h
  split at h <;> cases h
theorem VR.toTmp {t : Tag} {x : D} {v : V} (h : VR γ K H O t x v) (ht : x.own = true → t = tmp) : VR γ K H O tmp x v := by
  by_cases ho : x.own = false
  · exact VR.tag x ho h
  · rw [← ht (by simpa using ho)]
    exact h
theorem s_ret {e : Mi.E} {x : Expr} {pos : Pos} (h : PE X x (tE γ X.K T E (Mi.ev gl cf e) (mu e) (Mi.vw e))) : PS X (.Return (some x) pos) (tS γ X.K T E io (Mi.ex gl cf (.ret e))) := PS.weak (ps_ret h) fun D σ H ⟨env, O, R, Tb, P⟩ => by
  have P : PoS γ X.K T E io H O σ ((Mi.ev gl cf e env).bind fun p => (Mi.move e p.1).bind fun x => .ok (.ret x p.2)) D := by
    have : Mi.ex gl cf (.ret e) env = (Mi.ev gl cf e env).bind fun p => (Mi.move e p.1).bind fun x => .ok (.ret x p.2) := by simp only [Mi.ex]
    rw [← this]
    exact P
  refine ⟨env, O, R, Tb, ?_⟩
  cases q : Mi.ev gl cf e env with
  | ok p =>
    rw [q, bind_ok] at P
    intro v H1 O1 t p1 r1 v1 ht Tb1
    cases qm : Mi.move e p.1 with
    | ok y =>
      rw [qm, bind_ok] at P
      obtain ⟨rfl, h2⟩ := move_inv qm ht
      exact P v σ H1 O1 (.of (p1.pst R.od)) r1 (v1.toTmp h2) Tb1
    | exc y as => exact (move_noexc qm).elim
    | stk =>
      rw [qm] at P
      exact P.elim
  | exc y as =>
    rw [q] at P
    exact P
  | stk =>
    rw [q] at P
    exact P
theorem s_retN {pos : Pos} : PS X (.Return none pos) (tS γ X.K T E io (Mi.ex gl cf (.ret (.c .non)))) := PS.weak ps_retN fun D σ H ⟨env, O, R, Tb, P⟩ => by
  have P : PoS γ X.K T E io H O σ (.ok (.ret .non env)) D := by
    have : Mi.ex gl cf (.ret (.c .non)) env = .ok (.ret .non env) := by simp [Mi.ex, Mi.ev, Res.bind, Mi.move, Mi.vw]
    rw [← this]
    exact P
  exact P .non σ H O (StepS.refl σ H O) R rfl Tb
theorem s_ex {e : Mi.E} {x : Expr} {pos : Pos} (h : PE X x (tE γ X.K T E (Mi.ev gl cf e) (mu e) (Mi.vw e))) (hs : swapsWith x none pos.line X.env = pure false) : PS X (.Expr x pos) (tS γ X.K T E io (Mi.ex gl cf (.ex e))) := PS.weak (ps_expr h hs) fun D σ H ⟨env, O, R, Tb, P⟩ => by
  have P : PoS γ X.K T E io H O σ ((Mi.ev gl cf e env).bind fun p => .ok (.nx p.2)) D := by
    have : Mi.ex gl cf (.ex e) env = (Mi.ev gl cf e env).bind fun p => .ok (.nx p.2) := by simp only [Mi.ex]
    rw [← this]
    exact P
  refine ⟨env, O, R, Tb, ?_⟩
  cases q : Mi.ev gl cf e env with
  | ok p =>
    rw [q, bind_ok] at P
    exact fun v H1 O1 t p1 r1 v1 ht Tb1 => P σ H1 O1 (.of (p1.pst R.od)) r1 Tb1
  | exc y as =>
    rw [q] at P
    exact P
  | stk =>
    rw [q] at P
    exact P
theorem s_ite {t : Mi.E} {a b : List Mi.S} {x : Expr} {xa xb : List Stmt} {pos : Pos} (ht : PT X x (tTst γ X.K T E (tOf (Mi.ev gl cf t)) (mu t))) (ha : PSs X xa (tS γ X.K T E io (Mi.exs gl cf a))) (hb : PSs X xb (tS γ X.K T E io (Mi.exs gl cf b))) :
    PS X (.If x xa xb pos) (tS γ X.K T E io (Mi.ex gl cf (.ite t a b))) := PS.weak (ps_if ht ha hb) fun D σ H ⟨env, O, R, Tb, P⟩ => by
  have P : PoS γ X.K T E io H O σ ((tOf (Mi.ev gl cf t) env).bind fun p => if p.1 = true then Mi.exs gl cf a p.2 else Mi.exs gl cf b p.2) D := by
    have : Mi.ex gl cf (.ite t a b) env = (tOf (Mi.ev gl cf t) env).bind fun p => if p.1 = true then Mi.exs gl cf a p.2 else Mi.exs gl cf b p.2 := by
      simp only [Mi.ex, tOf]
      cases Mi.ev gl cf t env with
      | ok p =>
        simp only [Res.bind]
        cases Mi.tB p.1 <;> rfl
      | exc x as => rfl
      | stk => rfl
    rw [← this]
    exact P
  refine ⟨env, O, R, Tb, ?_⟩
  cases q : tOf (Mi.ev gl cf t) env with
  | ok p =>
    rw [q, bind_ok] at P
    intro H1 O1 p1 r1 Tb1
    have st : StepS io σ H O σ H1 O1 := .of (p1.pst R.od)
    show if p.1 = true then _ else _
    cases hb : p.1 with
    | true =>
      rw [hb, if_pos rfl] at P
      exact ⟨p.2, O1, r1, Tb1, PoS.pre st P⟩
    | false =>
      rw [hb, if_neg Bool.false_ne_true] at P
      exact ⟨p.2, O1, r1, Tb1, PoS.pre st P⟩
  | exc y as =>
    rw [q] at P
    exact P
  | stk =>
    rw [q] at P
    exact P
/-- a value to a target -/
theorem set_read {t : Mi.T} {e : Mi.E} (hio : ∀ i ∈ io, i ∉ tv t) : ∀ D σ H, tS γ K T E io (Mi.ex gl cf (.set t e)) D σ H → tE γ K T E (Mi.ev gl cf e) (mu e) (Mi.vw e) σ H fun x H1 => tG γ K (tv t) (Mi.asg t) x σ H1 D.nx := by
  intro D σ H ⟨env, O, R, Tb, P⟩
  have P : PoS γ K T E io H O σ ((Mi.ev gl cf e env).bind fun p => (Mi.move e p.1).bind fun x => (Res.of (Mi.asg t x p.2)).bind fun e2 => .ok (.nx e2)) D := by
    have : Mi.ex gl cf (.set t e) env = (Mi.ev gl cf e env).bind fun p => (Mi.move e p.1).bind fun x => (Res.of (Mi.asg t x p.2)).bind fun e2 => .ok (.nx e2) := by simp only [Mi.ex]
    rw [← this]
    exact P
  refine ⟨env, O, R, Tb, ?_⟩
  cases q : Mi.ev gl cf e env with
  | ok p =>
    rw [q, bind_ok] at P
    intro v H1 O1 t1 p1 r1 v1 ht Tb1
    cases qm : Mi.move e p.1 with
    | ok y =>
      rw [qm, bind_ok] at P
      obtain ⟨rfl, h2⟩ := move_inv qm ht
      refine ⟨p.2, O1, p.1, t1, r1, v1, h2, ?_⟩
      cases qa : Mi.asg t p.1 p.2 with
      | some e2 =>
        rw [qa] at P
        exact fun σ' O' s r l k => P σ' H1 O' ⟨(p1.pst R.od).trans (s.p.pst r1.od), fun i hi => k i (hio i hi)⟩ r Tb1
      | none =>
        rw [qa] at P
        exact P
    | exc y as => exact (move_noexc qm).elim
    | stk =>
      rw [qm] at P
      exact P.elim
  | exc y as =>
    rw [q] at P
    exact P
  | stk =>
    rw [q] at P
    exact P
theorem s_set {t : Mi.T} {e : Mi.E} {xt xe : Expr} {pos : Pos} (hc : X.calm = true) (hN : X.N.Nodup) (hio : ∀ i ∈ io, i ∉ tv t) (ht : TgOk X t xt) (he : PE X xe (tE γ X.K T E (Mi.ev gl cf e) (mu e) (Mi.vw e)))
    (hs : swapsWithSole [xt] xe pos.line X.env = pure false) (hw : swappedStores [xt] xe X.env = pure none) : PS X (.Assign [xt] xe pos) (tS γ X.K T E io (Mi.ex gl cf (.set t e))) :=
  PS.weak (ps_asg he (g_asg hc hN ht) hs hw (by cases ht <;> rfl)) (set_read hio)
theorem gname_read {i : Nat} {v : V} {σ : St} {Q : St → Hp → Prop} (h : tG γ K [i] (Mi.asg (.v i)) v σ H Q) : gName i v σ H Q := by
  obtain ⟨env, O, d, t, R, hv, ht, P⟩ := h
  have P : PoG γ K H O σ [i] (some (Mi.setV env i d)) Q := by
    have : Mi.asg (.v i) d env = some (Mi.setV env i d) := by simp only [Mi.asg]
    rw [← this]
    exact P
  exact P (σ.set i (some v)) (tmpTo O i) tmpTo_s (R.put hv ht) List.length_set fun j hj => List.getElem?_set_ne fun e => hj (List.mem_singleton.mpr e.symm)

theorem RS.del {env : EnvI} {σ : St} (R : RS γ K H O env σ) (ks : List Nat) : RS γ K H O (Mi.delVs env ks) σ where
  od := R.od
  len := by rw [delVs_len]; exact R.len
  sz := by rw [delVs_len]; exact R.sz
  at_ := fun j d e => R.at_ j d (delVs_at e).1
theorem forL_cons {f : D → EnvI → Res Fl} {x : D} {xs : List D} {env : EnvI} : Mi.forL f (x :: xs) env = (f x env).bind fun fl => match fl with
      | .nx e => Mi.forL f xs e
      | .cnt e => Mi.forL f xs e
      | .brk e => .ok (.nx e)
      | .ret d e => .ok (.ret d e) := rfl
theorem s_for {t : Mi.T} {it : Mi.I} {b : List Mi.S} {ks : List Nat} {xt xi : Expr} {xb : List Stmt} {pos : Pos} (hp : PassesOwn (model X.prog X.w) X.A X.env X.xe) (hc : X.calm = true) (hN : X.N.Nodup) (hio : ∀ i ∈ io, i ∉ tv t) (ht : TgOk X t xt)
    (hi : PI X xt xi (tI γ X.K T E (Mi.evI gl cf it) (muI it) true)) (hb : PSs X xb (tS γ X.K T E io (Mi.exs gl cf b))) (hs : ∀ x, foldedSetIterable xi X.env x = pure x) : PS X (.For xt xi xb [] pos) (tS γ X.K T E io (Mi.ex gl cf (.for t it b ks))) :=
  PS.weak (ps_for hp hc hi (g_asg (γ := γ) hc hN ht) hb hs) fun D σ H ⟨env, O, R, Tb, P⟩ => by
  have P : PoS γ X.K T E io H O σ ((Mi.evI gl cf it env).bind fun p => Mi.forL (fun x e => (Res.of (Mi.asg t x e)).bind fun e2 => (Mi.exs gl cf b e2).bind fun f => .ok (f.kill ks)) p.1 p.2) D := by
    have : Mi.ex gl cf (.for t it b ks) env = (Mi.evI gl cf it env).bind fun p => Mi.forL (fun x e => (Res.of (Mi.asg t x e)).bind fun e2 => (Mi.exs gl cf b e2).bind fun f => .ok (f.kill ks)) p.1 p.2 := by simp only [Mi.ex]
    rw [← this]
    exact P
  generalize hF : (fun (x : Mi.D) (e : EnvI) => (Res.of (Mi.asg t x e)).bind fun e2 => (Mi.exs gl cf b e2).bind fun f => (Res.ok (f.kill ks) : Res Fl)) = F at P
  have hF' : ∀ x e, F x e = (Res.of (Mi.asg t x e)).bind fun e2 => (Mi.exs gl cf b e2).bind fun f => .ok (f.kill ks) := fun x e => by rw [← hF]
  refine ⟨env, O, R, Tb, ?_⟩
  cases q : Mi.evI gl cf it env with
  | ok p =>
    rw [q, bind_ok] at P
    intro J as good H1 O1 p1 r1 src hgood hheld Tb1
    have st1 : StepS io σ H O σ H1 O1 := .of (p1.pst R.od)
    have P1 := PoS.pre st1 P
    refine ⟨fun i m σ2 H2 => i ≤ p.1.length ∧ m = p.1.length - i ∧ ∃ env2 O2, RS γ X.K H2 O2 env2 σ2 ∧ good H2 O2 ∧ (∀ a ∈ as, Held true H2 O2 a) ∧ LamX.Tabs T H2 ∧ PoS γ X.K T E io H2 O2 σ2 (Mi.forL F (p.1.drop i) env2) D,
      ⟨p.1.length, Nat.zero_le _, by simp, p.2, O1, r1, hgood, hheld, Tb1, P1⟩, ?_⟩
    rintro i m σ2 H2 ⟨hi2, hm, env2, O2, r2, g2, h2, Tb2, P2⟩
    by_cases hlt : i < p.1.length
    · obtain ⟨hgo, ho, hy⟩ := src.go i _ H2 O2 g2 r2.od (List.getElem?_eq_getElem hlt)
      rw [List.drop_eq_getElem_cons hlt, forL_cons, hF'] at P2
      refine .inr ⟨hgo, fun σ3 H3 => ∃ env3 O3, RS γ X.K H3 O3 env3 σ3 ∧ good H3 O3 ∧ (∀ a ∈ as, Held true H3 O3 a) ∧ LamX.Tabs T H3 ∧ PoS γ X.K T E io H3 O3 σ3 (Mi.forL F (p.1.drop (i + 1)) env3) D,
        fun σ3 H3 w => ⟨p.1.length - (i + 1), by omega, hlt, rfl, w⟩, fun x H' y => ?_⟩
      obtain ⟨s3, d3, vx⟩ := hy x H' y
      have r3 := r2.s d3 s3
      refine ⟨env2, O2, p.1[i], (0, 0), r3, vx, (fun z => absurd z (by rw [ho]; exact Bool.false_ne_true)), ?_⟩
      cases qa : Mi.asg t p.1[i] env2 with
      | none =>
        rw [qa] at P2
        exact P2.elim
      | some e3 =>
        rw [qa] at P2
        have P2 : PoS γ X.K T E io H2 O2 σ2 (((Mi.exs gl cf b e3).bind fun f => (Res.ok (f.kill ks) : Res Fl)).bind fun fl => match fl with
          | .nx e => Mi.forL F (p.1.drop (i + 1)) e
          | .cnt e => Mi.forL F (p.1.drop (i + 1)) e
          | .brk e => .ok (.nx e)
          | .ret d e => .ok (.ret d e)) D := P2
        intro σ4 O4 s4 r4 l4 k4
        have s34 : PstS H2 O2 H' O4 := ⟨fun a o e => s4.all a o (s3.all a o e), fun a o e e2 => s4.non a o (s3.all a o e) (s3.non a o e e2), fun a u e e2 => s4.own a u (s3.own a u e e2) e2⟩
        have st4 : StepS io σ2 H2 O2 σ4 H' O4 := ⟨s34.p.pst r2.od, fun j hj => k4 j (hio j hj)⟩
        refine ⟨e3, O4, r4, tabs_s s3 Tb2, ?_⟩
        have again : ∀ {σ5 : St} {H5 : Hp} {O5 : OM} {e5 : EnvI}, StepS io σ4 H' O4 σ5 H5 O5 → RS γ X.K H5 O5 e5 σ5 → LamX.Tabs T H5 → PoS γ X.K T E io H2 O2 σ2 (Mi.forL F (p.1.drop (i + 1)) (Mi.delVs e5 ks)) D →
            ∃ env3 O3, RS γ X.K H5 O3 env3 σ5 ∧ good H5 O3 ∧ (∀ a ∈ as, Held true H5 O3 a) ∧ LamX.Tabs T H5 ∧ PoS γ X.K T E io H5 O3 σ5 (Mi.forL F (p.1.drop (i + 1)) env3) D := fun {σ5 H5 O5 e5} s5 r5 Tb5 P5 => by
          have s25 := st4.trans s5
          have pb : PstB true H2 O2 H5 O5 := s25.pst
          exact ⟨_, O5, r5.del ks, src.step H2 O2 H5 O5 g2 r2.od s25.pst.non fun a ha o e => (Held.step (h2 a ha) pb).2 o e, fun a ha => (Held.step (h2 a ha) pb).1, Tb5, PoS.pre s25 P5⟩
        cases qb : Mi.exs gl cf b e3 with
        | ok f =>
          rw [qb] at P2
          cases f with
          | nx e => exact fun σ5 H5 O5 s5 r5 Tb5 => again s5 r5 Tb5 P2
          | cnt e => exact fun σ5 H5 O5 s5 r5 Tb5 => again s5 r5 Tb5 P2
          | brk e => exact fun σ5 H5 O5 s5 r5 Tb5 => P2 σ5 H5 O5 (st4.trans s5) (r5.del ks) Tb5
          | ret d e => exact fun v σ5 H5 O5 s5 r5 v5 Tb5 => P2 v σ5 H5 O5 (st4.trans s5) r5 v5 Tb5
        | exc y as =>
          rw [qb] at P2
          exact PoX.of st4.pst P2
        | stk =>
          rw [qb] at P2
          exact P2
    · have hi' : i = p.1.length := by omega
      refine .inl ⟨src.stop i H2 O2 g2 (by omega), ?_⟩
      rw [hi', List.drop_length] at P2
      have P2 : PoS γ X.K T E io H2 O2 σ2 (.ok (.nx env2)) D := P2
      exact P2 σ2 H2 O2 (StepS.refl _ _ _) r2 Tb2
  | exc y as =>
    rw [q] at P
    exact P
  | stk =>
    rw [q] at P
    exact P
theorem s_whl {n : Nat} {t : Mi.E} {b : List Mi.S} {ks : List Nat} {xt : Expr} {xb : List Stmt} {pos : Pos} (hp : PassesOwn (model X.prog X.w) X.A X.env X.xe) (ht : PT X xt (tTst γ X.K T E (tOf (Mi.ev gl cf t)) (mu t)))
    (hb : PSs X xb (tS γ X.K T E io (Mi.exs gl cf b))) : PS X (.While xt xb [] pos) (tS γ X.K T E io (Mi.ex gl cf (.whl n t b ks))) :=
  PS.weak (ps_while hp ht hb) fun D σ H ⟨env, O, R, Tb, P⟩ => by
  have P : PoS γ X.K T E io H O σ (Mi.whL (tOf (Mi.ev gl cf t)) (fun e => (Mi.exs gl cf b e).bind fun f => .ok (f.kill ks)) n env) D := by
    have : Mi.ex gl cf (.whl n t b ks) env = Mi.whL (tOf (Mi.ev gl cf t)) (fun e => (Mi.exs gl cf b e).bind fun f => .ok (f.kill ks)) n env := by
      simp only [Mi.ex] <;> rfl
    rw [← this]
    exact P
  refine ⟨fun m σ2 H2 => ∃ env2 O2, RS γ X.K H2 O2 env2 σ2 ∧ LamX.Tabs T H2 ∧ PoS γ X.K T E io H2 O2 σ2 (Mi.whL (tOf (Mi.ev gl cf t)) (fun e => (Mi.exs gl cf b e).bind fun f => .ok (f.kill ks)) m env2) D, ⟨n, env, O, R, Tb, P⟩, ?_⟩
  rintro m σ2 H2 ⟨env2, O2, r2, Tb2, P2⟩
  cases m with
  | zero => exact P2.elim
  | succ m =>
    have P2 : PoS γ X.K T E io H2 O2 σ2 ((tOf (Mi.ev gl cf t) env2).bind fun p => if p.1 = true then ((Mi.exs gl cf b p.2).bind fun f => (Res.ok (f.kill ks) : Res Fl)).bind fun fl => match fl with
      | .nx e => Mi.whL (tOf (Mi.ev gl cf t)) (fun e => (Mi.exs gl cf b e).bind fun f => .ok (f.kill ks)) m e
      | .cnt e => Mi.whL (tOf (Mi.ev gl cf t)) (fun e => (Mi.exs gl cf b e).bind fun f => .ok (f.kill ks)) m e
      | .brk e => .ok (.nx e)
      | .ret d e => .ok (.ret d e)
      else .ok (.nx p.2)) D := P2
    refine ⟨env2, O2, r2, Tb2, ?_⟩
    cases q : tOf (Mi.ev gl cf t) env2 with
    | ok p =>
      rw [q, bind_ok] at P2
      intro H3 O3 p3 r3 Tb3
      have st3 : StepS io σ2 H2 O2 σ2 H3 O3 := .of (p3.pst r2.od)
      show if p.1 = true then _ else _
      cases hb : p.1 with
      | false =>
        rw [hb, if_neg Bool.false_ne_true] at P2
        exact P2 σ2 H3 O3 st3 r3 Tb3
      | true =>
        rw [hb, if_pos rfl] at P2
        rw [if_pos rfl]
        refine ⟨fun σ4 H4 => ∃ env4 O4, RS γ X.K H4 O4 env4 σ4 ∧ LamX.Tabs T H4 ∧ PoS γ X.K T E io H4 O4 σ4 (Mi.whL (tOf (Mi.ev gl cf t)) (fun e => (Mi.exs gl cf b e).bind fun f => .ok (f.kill ks)) m env4) D, fun σ4 H4 w => ⟨m, Nat.lt_succ_self m, w⟩, p.2, O3, r3, Tb3, ?_⟩
        cases qb : Mi.exs gl cf b p.2 with
        | ok f =>
          rw [qb] at P2
          cases f with
          | nx e => exact fun σ5 H5 O5 s5 r5 Tb5 => ⟨_, O5, r5.del ks, Tb5, PoS.pre (st3.trans s5) P2⟩
          | cnt e => exact fun σ5 H5 O5 s5 r5 Tb5 => ⟨_, O5, r5.del ks, Tb5, PoS.pre (st3.trans s5) P2⟩
          | brk e => exact fun σ5 H5 O5 s5 r5 Tb5 => P2 σ5 H5 O5 (st3.trans s5) (r5.del ks) Tb5
          | ret d e => exact fun v σ5 H5 O5 s5 r5 v5 Tb5 => P2 v σ5 H5 O5 (st3.trans s5) r5 v5 Tb5
        | exc y as =>
          rw [qb] at P2
          exact PoX.of st3.pst P2
        | stk =>
          rw [qb] at P2
          exact P2
    | exc y as =>
      rw [q] at P2
      exact P2
    | stk =>
      rw [q] at P2
      exact P2
end
end MiS

set_option Elab.async false
set_option linter.all false
set_option maxRecDepth 100000
set_option maxHeartbeats 4000000
/-! MiS: stores -/
namespace MiS
open PySem PySem.Spec PyProof.Rows L2
open Mi (D Res Fl)
section
variable {γ : GC} {T : TabL} {E : XK} {X : Cx} {K : PySem.W.Frag} {H H' H1 : Hp} {O O' O1 : OM} {gl : List D} {cf : Nat → List D → Res (D × List D)} {io : List Nat}
/-! x op= y -/
def rAug (o : Mi.Op2) : TIp := fun x y H Q => ∃ i j k, x = .int i ∧ y = .int j ∧ Mi.augD o (.int i) (.int j) = some (.int k) ∧ Q (.int k) H
theorem ip_aug : ∀ o : Mi.Op2, PIp X (opOf o) (rAug o)
  | .add => fun pins s σ H x y v u Q I r1 r2 ⟨i, j, k, e1, e2, e3, q⟩ => by
    subst e1 e2
    obtain ⟨t, rfl⟩ := r1
    obtain ⟨t', rfl⟩ := r2
    cases (show some (D.int (i + j)) = some (D.int k) from e3)
    exact iadd_int ⟨.int _, H, I.tok _, ⟨_, rfl⟩, q⟩
  | .sub => fun pins s σ H x y v u Q I r1 r2 ⟨i, j, k, e1, e2, e3, q⟩ => by
    subst e1 e2
    obtain ⟨t, rfl⟩ := r1
    obtain ⟨t', rfl⟩ := r2
    cases (show some (D.int (i - j)) = some (D.int k) from e3)
    exact isub_int ⟨.int _, H, I.tok _, ⟨_, rfl⟩, q⟩
  | .mul => fun pins s σ H x y v u Q I r1 r2 ⟨i, j, k, e1, e2, e3, q⟩ => by
    subst e1 e2
    obtain ⟨t, rfl⟩ := r1
    obtain ⟨t', rfl⟩ := r2
    have e3 : (if (Mi.smallI i || Mi.smallI j) = true then some (D.int (i * j)) else none) = some (D.int k) := e3
    split at e3
    · rename_i hs
      cases e3
      refine imul_int ⟨.int _, H, I.tok _, ⟨_, rfl⟩, q⟩ (CMul.ok ?_)
      rcases Bool.or_eq_true_iff.mp hs with h | h
      · exact .inl (smallI_ok h)
      · exact .inr (smallI_ok h)
    · cases e3
  | .fdiv => fun pins s σ H x y v u Q I r1 r2 ⟨i, j, k, e1, e2, e3, q⟩ => by cases e3
  | .mod => fun pins s σ H x y v u Q I r1 r2 ⟨i, j, k, e1, e2, e3, q⟩ => by cases e3
  | .pow => fun pins s σ H x y v u Q I r1 r2 ⟨i, j, k, e1, e2, e3, q⟩ => by cases e3

theorem augD_inv {o : Mi.Op2} {x y d : D} (h : Mi.augD o x y = some d) : ∃ i j k, x = .int i ∧ y = .int j ∧ d = .int k ∧ Mi.augD o (.int i) (.int j) = some (.int k) := by
  unfold Mi.augD at h
  split at h
  · cases h
    exact ⟨_, _, _, rfl, rfl, rfl, rfl⟩
  · cases h
    exact ⟨_, _, _, rfl, rfl, rfl, rfl⟩
  · rename_i i j
    obtain ⟨hc, e⟩ := iteS (show (if (Mi.smallI i || Mi.smallI j) = true then some (D.int (i * j)) else none) = some d from h)
    refine ⟨_, _, _, rfl, rfl, e.symm, ?_⟩
    show (if (Mi.smallI i || Mi.smallI j) = true then some (D.int (i * j)) else none) = _
    rw [if_pos hc]
  · cases h
theorem getV_at {env : EnvI} {i : Nat} {d : D} {σ : St} (R : RS γ K H O env σ) (h : Mi.getV env i = .ok d) : ∃ v, σ[i]? = some (some v) ∧ VR γ K H O (i, 0) d v := R.at_ i d (getV_ok h)
theorem s_aug {i : Nat} {o : Mi.Op2} {e : Mi.E} {x : Str} {xe : Expr} {p pos : Pos} (hN : X.N.Nodup) (hi : X.N[i]? = some x) (hx : Loc X.env.scope x) (hf : X.fn x = true ∨ X.env.scope.names.lookup x = some .local) (hio : ∀ j ∈ io, j ≠ i)
    (he : PE X xe (tE γ X.K T E (Mi.ev gl cf e) (mu e) (Mi.vw e))) : PS X (.AugAssign (.Name x p) (opOf o) xe pos) (tS γ X.K T E io (Mi.ex gl cf (.aug i o e))) :=
  PS.weak (ps_aug hN hi hx he (ip_aug o) hf) fun D σ H ⟨env, O, R, Tb, P⟩ => by
  have P : PoS γ X.K T E io H O σ ((Mi.getV env i).bind fun x => (Mi.ev gl cf e env).bind fun p => (Res.of (Mi.augD o x p.1)).bind fun d => .ok (.nx (Mi.setV p.2 i d))) D := by
    have : Mi.ex gl cf (.aug i o e) env = (Mi.getV env i).bind fun x => (Mi.ev gl cf e env).bind fun p => (Res.of (Mi.augD o x p.1)).bind fun d => .ok (.nx (Mi.setV p.2 i d)) := by simp only [Mi.ex]
    rw [← this]
    exact P
  cases qg : Mi.getV env i with
  | ok d0 =>
    rw [qg, bind_ok] at P
    obtain ⟨v0, h1, h2⟩ := getV_at R qg
    refine ⟨v0, h1, env, O, R, Tb, ?_⟩
    cases q : Mi.ev gl cf e env with
    | ok p =>
      rw [q, bind_ok] at P
      intro w H1 O1 t p1 r1 w1 ht Tb1
      cases qa : Mi.augD o d0 p.1 with
      | some d =>
        rw [qa] at P
        obtain ⟨a, b, k, e1, e2, e3, e4⟩ := augD_inv qa
        rw [e1] at h2
        rw [e2] at w1
        subst e3
        refine ⟨a, b, k, h2, w1, e4, ?_⟩
        have hp := r1.put (i := i) (d := .int k) (v := .int k) (t := tmp) rfl fun _ => rfl
        exact P (σ.set i (some (.int k))) H1 (tmpTo O1 i) ⟨(p1.pst R.od).trans (tmpTo_s.p.pst r1.od), fun j hj => List.getElem?_set_ne (Ne.symm (hio j hj))⟩ hp Tb1
      | none =>
        rw [qa] at P
        exact P.elim
    | exc y as =>
      rw [q] at P
      exact P
    | stk =>
      rw [q] at P
      exact P
  | exc y as => exact (getV_exc qg).elim
  | stk =>
    rw [qg] at P
    exact P.elim
/-! x[k] = e -/
/-- a slot's own object was changed -/
theorem RS.chg {env : EnvI} {σ : St} {i : Nat} {d : D} {v : V} (R : RS γ K H O env σ) (hi : σ[i]? = some (some v)) (p : Pst H O H' O) (od : OD H' O) (hk : ∀ a' o' t', H a' = some o' → O a' = some t' → t' ≠ (i, 0) → H' a' = some o') (h : VR γ K H' O (i, 0) d v) : RS γ K H' O (Mi.setV env i d) σ where
  od := od
  len := by rw [setV_len]; exact R.len
  sz := by rw [setV_len]; exact R.sz
  at_ := fun j x e => by
    have e : (env.set i (some d))[j]? = some (some x) := e
    by_cases hj : i = j
    · subst hj
      have hl : i < env.length := by
        have := (List.getElem?_eq_some_iff.mp e).1
        rwa [List.length_set] at this
      rw [List.getElem?_set_self hl] at e
      cases e
      exact ⟨v, hi, h⟩
    · rw [List.getElem?_set_ne hj] at e
      obtain ⟨u, h1, h2⟩ := R.at_ j x e
      exact ⟨u, h1, VR.step R.od p.non x (fun a o e1 e2 => ⟨hk a o _ e1 e2 (fun z => hj (congrArg Prod.fst z).symm), e2⟩) h2⟩
theorem tabs_keep (h : LamX.Tabs T H) (od : OD H O) (p : Pst H O H' O') (ht : ∀ a ps, H a = some (.tbl ps) → H' a = some (.tbl ps)) : LamX.Tabs T H' := fun q hq => by
  obtain ⟨ps, h1, h2, h3⟩ := h q hq
  refine ⟨ps, ht _ _ h1, h2, fun pos cv hc => ?_⟩
  obtain ⟨c, e1, e2⟩ := h3 pos cv hc
  refine ⟨c, e1, (p.non c _ e2 ?_ (LamX.codeO_ne)).1⟩
  cases qo : O c with
  | none => rfl
  | some t =>
    obtain ⟨o, e3, m⟩ := od c t qo
    rw [e2] at e3
    cases e3
    exact m.elim
theorem sub_swap {o i e : Expr} {p : Pos} {l : Nat} {env : Env} : swapsWithSole [.Subscript o i p] e l env = pure false := by
  show swapsWith e (some (.Subscript o i p)) l env = pure false
  cases e <;> rfl
theorem sub_stores {o i e : Expr} {p : Pos} {env : Env} : swappedStores [.Subscript o i p] e env = pure none := by
  cases e <;> rfl
theorem s_six {i : Nat} {k e : Mi.E} {x : Str} {xk xe : Expr} {p p2 pos : Pos} {kk : Nat} (hr : Room kk X.A) (hx : PE X (.Name x p) (tVar i)) (hi : i < tT) (hk : PE X xk (tE γ X.K T E (Mi.ev gl cf k) (mu k) (Mi.vw k))) (he : PE X xe (tE γ X.K T E (Mi.ev gl cf e) (mu e) (Mi.vw e)))
    (ha : ∀ v, assign (.Subscript (.Name x p) xk p2) X.env v = (do
      let ov ← holding [v] (eval (.Name x p) X.env)
      let iv ← holding [v, ov] (eval xk X.env)
      standAt p2
      holding [v, ov, iv] (setItem ov iv v)
      release [v, ov, iv] [])) : PS X (.Assign [.Subscript (.Name x p) xk p2] xe pos) (tS γ X.K T E io (Mi.ex gl cf (.six (.v i) k e))) :=
  PS.weak (ps_asg he (pg_sub hx hk (ok_set (γ := γ) hr) ha) sub_swap sub_stores rfl) fun D σ H ⟨env, O, R, Tb, P⟩ => by
  have P : PoS γ X.K T E io H O σ ((Mi.ev gl cf e env).bind fun p => (Mi.keep e p.1).bind fun x => (Mi.getV p.2 i).bind fun _ => (Mi.ev gl cf k p.2).bind fun q => (Mi.getV q.2 i).bind fun o => (Res.of (Mi.setD o q.1 x)).bind fun o => .ok (.nx (Mi.setV q.2 i o))) D := by
    have : Mi.ex gl cf (.six (.v i) k e) env = (Mi.ev gl cf e env).bind fun p => (Mi.keep e p.1).bind fun x => (Mi.getV p.2 i).bind fun _ => (Mi.ev gl cf k p.2).bind fun q => (Mi.getV q.2 i).bind fun o => (Res.of (Mi.setD o q.1 x)).bind fun o => .ok (.nx (Mi.setV q.2 i o)) := by
      simp only [Mi.ex, Mi.getPa, Mi.setPa, Res.bind]
    rw [← this]
    exact P
  refine ⟨env, O, R, Tb, ?_⟩
  cases q : Mi.ev gl cf e env with
  | ok p =>
    rw [q, bind_ok] at P
    intro v H1 O1 t p1 r1 v1 ht Tb1
    cases qk : Mi.keep e p.1 with
    | ok xk =>
      rw [qk, bind_ok] at P
      obtain ⟨ho, O2, p2, r2, v2⟩ := keep_ok R.od p1 r1 v1 ht qk
      have P := PoS.pre (.of (p2.pst R.od)) P
      cases qg : Mi.getV p.2 i with
      | ok d0 =>
        rw [qg, bind_ok] at P
        obtain ⟨vo, h1, _⟩ := getV_at r2 qg
        refine ⟨vo, h1, p.2, O2, r2, Tb1, ?_⟩
        cases qi : Mi.ev gl cf k p.2 with
        | ok z =>
          rw [qi, bind_ok] at P
          intro w H3 O3 t3 p3 r3 w3 ht3 Tb3
          have P := PoS.pre (.of (p3.pst r2.od)) P
          cases qo : Mi.getV z.2 i with
          | ok d1 =>
            rw [qo, bind_ok] at P
            obtain ⟨vo', h1', h2'⟩ := getV_at r3 qo
            rw [h1] at h1'
            cases h1'
            cases qs : Mi.setD d1 z.1 xk with
            | some d2 =>
              rw [qs] at P
              refine ⟨O3, d1, z.1, xk, (i, 0), t3, (0, 0), d2, r3.od, h2', Nat.ne_of_lt hi, fun e => ?_, w3, ho, VR.b r2.od p3 ho v2, qs, fun H4 p4 d4 k4 t4 v4 => ?_⟩
              · have e : i = fT := e
                rw [e] at hi
                exact absurd hi (by decide)
              · exact P σ H4 O3 (.of p4) (r3.chg h1 p4 d4 k4 v4) (tabs_keep Tb3 r3.od p4 t4)
            | none =>
              rw [qs] at P
              exact P.elim
          | exc y as => exact (getV_exc qo).elim
          | stk =>
            rw [qo] at P
            exact P.elim
        | exc y as =>
          rw [qi] at P
          exact P
        | stk =>
          rw [qi] at P
          exact P
      | exc y as => exact (getV_exc qg).elim
      | stk =>
        rw [qg] at P
        exact P.elim
    | exc y as =>
      unfold Mi.keep at qk
      split at qk <;> cases qk
    | stk =>
      rw [qk] at P
      exact P.elim
  | exc y as =>
    rw [q] at P
    exact P
  | stk =>
    rw [q] at P
    exact P
end
end MiS

set_option Elab.async false
set_option linter.all false
set_option maxRecDepth 100000
set_option maxHeartbeats 4000000
/-! MiS: a, b = x, y -/
namespace MiS
open PySem PySem.Spec PyProof.Rows L2
open Mi (D Res Fl)
section
variable {γ : GC} {T : TabL} {E : XK} {X : Cx} {K : PySem.W.Frag} {H H' H1 : Hp} {O O' O1 : OM} {gl : List D} {cf : Nat → List D → Res (D × List D)} {io : List Nat}
/-- moved values: the owned ones are held -/
inductive MR (γ : GC) (K : PySem.W.Frag) (H : Hp) (O : OM) : List Addr → List D → List V → Prop
  | nil : MR γ K H O [] [] []
  | keep {as : List Addr} {d : D} {v : V} {ds : List D} {vs : List V} : d.own = false → VR γ K H O (0, 0) d v → MR γ K H O as ds vs → MR γ K H O as (d :: ds) (v :: vs)
  | own {as : List Addr} {a : Addr} {d : D} {ds : List D} {vs : List V} : d.own = true → O a = some (fT, 0) → VR γ K H O (fT, 0) d (.ref a) → a ∉ as → MR γ K H O as ds vs → MR γ K H O (a :: as) (d :: ds) (.ref a :: vs)
theorem own_ref {t : Tag} {d : D} {v : V} (ho : d.own = true) (h : VR γ K H O t d v) : ∃ a, v = .ref a ∧ O a = some t := by
  cases d with
  | lst o ds =>
    cases o with
    | false => cases ho
    | true =>
      obtain ⟨a, vs, e, _, h2, _⟩ := h
      exact ⟨a, e, h2⟩
  | dct o tk ps =>
    cases o with
    | false => cases ho
    | true =>
      cases tk with
      | false =>
        obtain ⟨a, vs, e, _, h2, _⟩ := h
        exact ⟨a, e, h2⟩
      | true =>
        obtain ⟨a, vs, e, _, h2, _⟩ := h
        exact ⟨a, e, h2⟩
  | ins o c fs => exact h.elim
  | _ => cases ho
def PoM (γ : GC) (K : PySem.W.Frag) (T : TabL) (E : XK) (H : Hp) (O : OM) (σ : St) (r : Res (List D × EnvI)) (Q : List V → Hp → Prop) : Prop :=
  match r with
  | .ok p => ∀ vs H' O' as, Pst H O H' O' → RS γ K H' O' p.2 σ → MR γ K H' O' as p.1 vs → (∀ a ∈ as, ∀ k, O a ≠ some (fT, k)) → LamX.Tabs T H' → Q vs H'
  | .exc x as => PoX γ T E H O x as
  | .stk => False
def tM (γ : GC) (K : PySem.W.Frag) (T : TabL) (E : XK) (f : AF) : TA := fun σ H Q => ∃ env O, RS γ K H O env σ ∧ LamX.Tabs T H ∧ PoM γ K T E H O σ (f env) Q
theorem evm_cons {e : Mi.E} {es : List Mi.E} {env : EnvI} : Mi.evm gl cf (e :: es) env = (Mi.ev gl cf e env).bind fun p => (Mi.move e p.1).bind fun x => (Mi.evm gl cf es p.2).bind fun q => .ok (x :: q.1, q.2) := rfl
theorem a_evm : ∀ {es : List Mi.E} {xs : List Expr}, PEs γ T E X gl cf es xs → PA X xs (tM γ X.K T E (Mi.evm gl cf es))
  | _, _, .nil => PA.weak pa_nil fun σ H Q ⟨env, O, R, Tb, P⟩ => by
    have P : PoM γ X.K T E H O σ (.ok ([], env)) Q := P
    exact P [] H O [] (Pst.refl H O) R .nil (fun a ha => by cases ha) Tb
  | _, _, .cons (e := e) (es := es) h1 s1 h2 => PA.weak (pa_cons h1 (a_evm h2) (s1 X.env)) fun σ H Q ⟨env, O, R, Tb, P⟩ => by
    refine ⟨env, O, R, Tb, ?_⟩
    rw [evm_cons] at P
    cases q : Mi.ev gl cf e env with
    | ok p =>
      rw [q, bind_ok] at P
      intro v H1 O1 t p1 r1 v1 ht Tb1
      have p1 := p1.pst R.od
      cases qm : Mi.move e p.1 with
      | ok y =>
        rw [qm, bind_ok] at P
        obtain ⟨rfl, h2⟩ := move_inv qm ht
        have s := toF_s H1 O1
        have r1' := r1.s r1.od.toF s
        refine ⟨p.2, toF O1, r1', Tb1, ?_⟩
        have frn : ∀ b k, O b = some (fT, k) → toF O1 b = some (fT, k) := fun b k e => by
          obtain ⟨o, e1, _⟩ := R.od b _ e
          exact toF_own (p1.frn b o k e1 e).2 (show fT ≠ tT by decide)
        cases q2 : Mi.evm gl cf es p.2 with
        | ok r =>
          rw [q2] at P
          intro vs H2 O2 as p2 r2 m2 n2 Tb2
          have p12 : Pst H O H2 O2 := (p1.trans (s.p.pst r1.od)).trans p2
          by_cases ho : p.1.own = false
          · refine P (v :: vs) H2 O2 as p12 r2 (.keep ho (VR.stepN r1'.od p2.non p.1 ho (VR.stepN r1.od (s.p.pst r1.od).non (t' := (0, 0)) p.1 ho v1)) m2) (fun b hb k e => n2 b hb k (frn b k e)) Tb2
          · have ho : p.1.own = true := by simpa using ho
            have et := h2 ho
            subst et
            obtain ⟨a, rfl, ha⟩ := own_ref ho v1
            have ha' : toF O1 a = some (fT, 0) := toF_tmp ha
            obtain ⟨o, e1, _⟩ := r1.od a _ ha
            obtain ⟨_, ha2⟩ := p2.frn a o 0 e1 ha'
            have vx : VR γ X.K H1 (toF O1) (fT, 0) p.1 (.ref a) := VR.step r1.od (s.p.pst r1.od).non p.1 (fun b u z1 z2 => ⟨z1, toF_tmp z2⟩) v1
            refine P (.ref a :: vs) H2 O2 (a :: as) p12 r2 (.own ho ha2 (VR.step r1'.od p2.non p.1 (fun b u z1 z2 => p2.frn b u 0 z1 z2) vx) (fun hm => n2 a hm 0 ha') m2) (fun b hb k e => ?_) Tb2
            rcases List.mem_cons.mp hb with z | z
            · rw [z] at e
              obtain ⟨o', e1', _⟩ := R.od a _ e
              have := (p1.frn a o' k e1' e).2
              rw [ha] at this
              exact absurd (congrArg (fun t => (Option.getD t tmp).1) this) (show ¬ tT = fT by decide)
            · exact n2 b z k (frn b k e)
        | exc y as =>
          rw [q2] at P
          exact PoX.of (p1.trans (s.p.pst r1.od)) P
        | stk =>
          rw [q2] at P
          exact P
      | exc y as => exact (move_noexc qm).elim
      | stk =>
        rw [qm] at P
        exact P.elim
    | exc y as =>
      rw [q] at P
      exact P
    | stk =>
      rw [q] at P
      exact P
/-- an owned value, by its own object -/
theorem VR.own1 {t t' : Tag} {d : D} {a : Addr} (od : OD H O) (k : KeepN H O H' O') (ho : d.own = true) (h : VR γ K H O t d (.ref a)) (h1 : ∀ o, H a = some o → H' a = some o) (h2 : O' a = some t') : VR γ K H' O' t' d (.ref a) := by
  cases d with
  | lst o ds =>
    cases o with
    | false => cases ho
    | true =>
      obtain ⟨b, vs, e, e1, _, e3⟩ := h
      cases e
      exact ⟨a, vs, rfl, h1 _ e1, h2, VRs.step od k ds e3⟩
  | dct o tk ps =>
    cases o with
    | false => cases ho
    | true =>
      cases tk with
      | false =>
        obtain ⟨b, vs, e, e1, _, e3⟩ := h
        cases e
        exact ⟨a, vs, rfl, h1 _ e1, h2, KRs.step od k ps e3⟩
      | true =>
        obtain ⟨b, vs, e, e1, _, e3⟩ := h
        cases e
        exact ⟨a, vs, rfl, h1 _ e1, h2, TRs.step od k ps e3⟩
  | ins o c fs => exact h.elim
  | _ => cases ho
theorem MR.step {as : List Addr} {ds : List D} {vs : List V} (od : OD H O) (k : KeepN H O H O') (ho : ∀ b ∈ as, O' b = O b) (m : MR γ K H O as ds vs) : MR γ K H O' as ds vs := by
  induction m with
  | nil => exact .nil
  | keep h1 h2 _ ih => exact .keep h1 (VR.stepN od k _ h1 h2) (ih ho)
  | own h1 h2 h3 h4 _ ih =>
    have := ho _ List.mem_cons_self
    exact .own h1 (this.trans h2) (VR.own1 od k h1 h3 (fun _ e => e) (this.trans h2)) h4 (ih fun b hb => ho b (List.mem_cons_of_mem _ hb))
/-- a moved value goes to a slot -/
theorem MR.put {as : List Addr} {d : D} {v : V} {ds : List D} {vs : List V} {env : EnvI} {σ : St} (i : Nat) (R : RS γ K H O env σ) (m : MR γ K H O as (d :: ds) (v :: vs)) :
    ∃ O' as', RS γ K H O' (Mi.setV env i d) (σ.set i (some v)) ∧ MR γ K H O' as' ds vs ∧ (∀ a ∈ as', a ∈ as) ∧ ∀ b, b ∉ as → O' b = O b := by
  have gen : ∀ (O' : OM), OD H O' → KeepN H O H O' → (∀ b, O b ≠ some (fT, 0) → O' b = O b) → VR γ K H O' (i, 0) d v → RS γ K H O' (Mi.setV env i d) (σ.set i (some v)) := fun O' d' kn ke hv => by
    refine ⟨d', by rw [setV_len, List.length_set]; exact R.len, by rw [setV_len]; exact R.sz, fun j x e => ?_⟩
    have e : (env.set i (some d))[j]? = some (some x) := e
    by_cases hj : i = j
    · subst hj
      have hl : i < env.length := by
        have := (List.getElem?_eq_some_iff.mp e).1
        rwa [List.length_set] at this
      rw [List.getElem?_set_self hl] at e
      cases e
      exact ⟨v, List.getElem?_set_self (by rw [← R.len]; exact hl), hv⟩
    · rw [List.getElem?_set_ne hj] at e
      obtain ⟨u, h1, h2⟩ := R.at_ j x e
      have hi : j < env.length := (List.getElem?_eq_some_iff.mp e).1
      refine ⟨u, by rw [List.getElem?_set_ne hj]; exact h1, VR.step R.od kn x (fun a o e1 e2 => ⟨e1, ?_⟩) h2⟩
      rw [ke a (by
        rw [e2]
        intro z
        cases z
        exact absurd (Nat.lt_trans hi R.sz) (by decide))]
      exact e2
  cases m with
  | keep ho hv m => exact ⟨O, as, gen O R.od (fun a o e e2 _ => ⟨e, e2⟩) (fun _ _ => rfl) (VR.tag d ho hv), m, fun a ha => ha, fun _ _ => rfl⟩
  | @own as' a _ _ _ ho ha hv hn m =>
    have d' : OD H (setTo O a (i, 0)) := fun b t e => by
      by_cases z : b = a
      · rw [z]
        exact R.od a _ ha
      · rw [setTo_ne z] at e
        exact R.od b t e
    have kn : KeepN H O H (setTo O a (i, 0)) := fun b o e e2 _ => by
      have : b ≠ a := fun z => by
        rw [z, ha] at e2
        cases e2
      exact ⟨e, by rw [setTo_ne this]; exact e2⟩
    refine ⟨setTo O a (i, 0), as', gen _ d' kn (fun b hb => setTo_ne fun z => hb (by rw [z]; exact ha)) (VR.own1 R.od kn ho hv (fun _ e => e) setTo_same), m.step R.od kn (fun b hb => setTo_ne fun z => hn (by rw [← z]; exact hb)), fun b hb => List.mem_cons_of_mem _ hb, fun b hb => setTo_ne fun z => hb (by rw [z]; exact List.mem_cons_self)⟩

/-- behind the stores: from the start of the statement -/
theorem put_pst {as : List Addr} {O2 : OM} (p : Pst H O H1 O1) (n : ∀ a ∈ as, ∀ k, O a ≠ some (fT, k)) (m : ∀ a ∈ as, O1 a ≠ none) (h : ∀ b, b ∉ as → O2 b = O1 b) : Pst H O H1 O2 := ⟨fun a o e e2 e3 => by
    obtain ⟨z1, z2⟩ := p.non a o e e2 e3
    exact ⟨z1, by rw [h a fun hm => m a hm z2]; exact z2⟩, fun a o k e e2 => by
    obtain ⟨z1, z2⟩ := p.frn a o k e e2
    exact ⟨z1, by rw [h a fun hm => n a hm k e2]; exact z2⟩⟩
theorem MR.stands {as : List Addr} {ds : List D} {vs : List V} (m : MR γ K H O as ds vs) : ∀ a ∈ as, O a ≠ none := by
  induction m with
  | nil => intro a ha; cases ha
  | keep _ _ _ ih => exact ih
  | own _ h2 _ _ _ ih =>
    intro a ha
    rcases List.mem_cons.mp ha with z | z
    · rw [z, h2]
      exact fun e => nomatch e
    · exact ih a z
theorem MR.len {as : List Addr} {ds : List D} {vs : List V} (m : MR γ K H O as ds vs) : ds.length = vs.length := by
  induction m with
  | nil => rfl
  | keep _ _ _ ih => exact congrArg (· + 1) ih
  | own _ _ _ _ _ ih => exact congrArg (· + 1) ih
/-- all the stores -/
def setsV (σ : St) : List Nat → List V → St
  | i :: is, v :: vs => setsV (σ.set i (some v)) is vs
  | _, _ => σ
theorem MR.puts : ∀ {is : List Nat} {as : List Addr} {ds : List D} {vs : List V} {env e2 : EnvI} {σ : St} {O : OM}, RS γ K H O env σ → MR γ K H O as ds vs → Mi.setVs env is ds = some e2 → ∃ O', RS γ K H O' e2 (setsV σ is vs) ∧ ∀ b, b ∉ as → O' b = O b
  | [], as, ds, vs, env, e2, σ, O, R, m, h => by
    cases ds with
    | nil =>
      cases h
      cases m
      exact ⟨O, R, fun _ _ => rfl⟩
    | cons d ds => cases h
  | i :: is, as, ds, vs, env, e2, σ, O, R, m, h => by
    cases ds with
    | nil => cases h
    | cons d ds =>
      cases vs with
      | nil => cases m.len
      | cons v vs =>
        obtain ⟨O1, as1, r1, m1, h1, h2⟩ := MR.put i R m
        obtain ⟨O2, r2, h3⟩ := MR.puts r1 m1 h
        exact ⟨O2, r2, fun b hb => (h3 b fun z => hb (h1 b z)).trans (h2 b hb)⟩
theorem setsV_at {σ : St} {j : Nat} : ∀ {is : List Nat} {vs : List V}, j ∉ is → (setsV σ is vs)[j]? = σ[j]? := by
  intro is
  induction is generalizing σ with
  | nil => intro vs _; cases vs <;> rfl
  | cons i is ih =>
    intro vs h
    rw [List.mem_cons, not_or] at h
    cases vs with
    | nil => rfl
    | cons v vs =>
      show (setsV (σ.set i (some v)) is vs)[j]? = _
      rw [ih h.2]
      exact List.getElem?_set_ne (Ne.symm h.1)
theorem setVs_len : ∀ {is : List Nat} {ds : List D} {env e2 : EnvI}, Mi.setVs env is ds = some e2 → ds.length = is.length
  | [], [], _, _, _ => rfl
  | [], _ :: _, _, _, h => by cases h
  | _ :: _, [], _, _, h => by cases h
  | i :: is, d :: ds, env, e2, h => congrArg (· + 1) (setVs_len (is := is) (ds := ds) h)
theorem par_read {is : List Nat} {es : List Mi.E} (hio : ∀ i ∈ io, i ∉ is) : ∀ D σ H, tS γ K T E io (Mi.ex gl cf (.par is es)) D σ H → tM γ K T E (Mi.evm gl cf es) σ H fun vs H1 => vs.length = is.length ∧ D.nx (setsV σ is vs) H1 := by
  intro D σ H ⟨env, O, R, Tb, P⟩
  have P : PoS γ K T E io H O σ ((Mi.evm gl cf es env).bind fun p => (Res.of (Mi.setVs p.2 is p.1)).bind fun e2 => .ok (.nx e2)) D := by
    have : Mi.ex gl cf (.par is es) env = (Mi.evm gl cf es env).bind fun p => (Res.of (Mi.setVs p.2 is p.1)).bind fun e2 => .ok (.nx e2) := by simp only [Mi.ex]
    rw [← this]
    exact P
  refine ⟨env, O, R, Tb, ?_⟩
  cases q : Mi.evm gl cf es env with
  | ok p =>
    rw [q, bind_ok] at P
    intro vs H1 O1 as p1 r1 m1 n1 Tb1
    cases qs : Mi.setVs p.2 is p.1 with
    | some e2 =>
      rw [qs] at P
      obtain ⟨O2, r2, h2⟩ := MR.puts r1 m1 qs
      have hl : vs.length = is.length := by
        rw [← m1.len]
        exact setVs_len qs
      exact ⟨hl, P (setsV σ is vs) H1 O2 ⟨put_pst p1 n1 m1.stands h2, fun i hi => setsV_at (hio i hi)⟩ r2 Tb1⟩
    | none =>
      rw [qs] at P
      exact P.elim
  | exc y as =>
    rw [q] at P
    exact P
  | stk =>
    rw [q] at P
    exact P
theorem s_par2 {i j : Nat} {e1 e2 : Mi.E} {x y : Str} {a b : Expr} {px py pt pos : Pos} {kt k2 : Nat} {pt2 : Pos} (hc : X.calm = true) (hN : X.N.Nodup) (hi : X.N[i]? = some x) (hj : X.N[j]? = some y) (hij : i ≠ j)
    (hx : X.env.scope.names.lookup x = some .local) (hy : X.env.scope.names.lookup y = some .local) (hio : ∀ k ∈ io, k ∉ [i, j]) (h : PEs γ T E X gl cf [e1, e2] [a, b])
    (hw : swappedStores [.Tuple [.Name x px, .Name y py] kt pt] (.Tuple [a, b] k2 pt2) X.env = pure (some [x, y])) : PS X (.Assign [.Tuple [.Name x px, .Name y py] kt pt] (.Tuple [a, b] k2 pt2) pos) (tS γ X.K T E io (Mi.ex gl cf (.par [i, j] [e1, e2]))) :=
  PS.weak (ps_par hc hN hi hj hij hx hy (a_evm h) hw) fun D σ H q => by
    obtain ⟨env, O, R, Tb, P⟩ := par_read hio D σ H q
    refine ⟨env, O, R, Tb, ?_⟩
    cases q2 : Mi.evm gl cf [e1, e2] env with
    | ok p =>
      rw [q2] at P
      intro vs H1 O1 as p1 r1 m1 n1 Tb1
      obtain ⟨h1, h2⟩ := P vs H1 O1 as p1 r1 m1 n1 Tb1
      match vs, h1, h2 with
      | [v, w], _, h2 => exact ⟨v, w, rfl, h2⟩
    | exc y as =>
      rw [q2] at P
      exact P
    | stk =>
      rw [q2] at P
      exact P
theorem s_par3 {i j l : Nat} {e1 e2 e3 : Mi.E} {x y z : Str} {a b c : Expr} {px py pz pt pos : Pos} {kt k2 : Nat} {pt2 : Pos} (hc : X.calm = true) (hN : X.N.Nodup) (hi : X.N[i]? = some x) (hj : X.N[j]? = some y) (hl : X.N[l]? = some z) (hij : i ≠ j) (hil : i ≠ l) (hjl : j ≠ l)
    (hx : X.env.scope.names.lookup x = some .local) (hy : X.env.scope.names.lookup y = some .local) (hz : X.env.scope.names.lookup z = some .local) (hio : ∀ k ∈ io, k ∉ [i, j, l]) (h : PEs γ T E X gl cf [e1, e2, e3] [a, b, c])
    (hw : swappedStores [.Tuple [.Name x px, .Name y py, .Name z pz] kt pt] (.Tuple [a, b, c] k2 pt2) X.env = pure (some [x, y, z])) : PS X (.Assign [.Tuple [.Name x px, .Name y py, .Name z pz] kt pt] (.Tuple [a, b, c] k2 pt2) pos) (tS γ X.K T E io (Mi.ex gl cf (.par [i, j, l] [e1, e2, e3]))) :=
  PS.weak (ps_par3 hc hN hi hj hl hij hil hjl hx hy hz (a_evm h) hw) fun D σ H q => by
    obtain ⟨env, O, R, Tb, P⟩ := par_read hio D σ H q
    refine ⟨env, O, R, Tb, ?_⟩
    cases q2 : Mi.evm gl cf [e1, e2, e3] env with
    | ok p =>
      rw [q2] at P
      intro vs H1 O1 as p1 r1 m1 n1 Tb1
      obtain ⟨h1, h2⟩ := P vs H1 O1 as p1 r1 m1 n1 Tb1
      match vs, h1, h2 with
      | [u, v, w], _, h2 => exact ⟨u, v, w, rfl, h2⟩
    | exc y as =>
      rw [q2] at P
      exact P
    | stk =>
      rw [q2] at P
      exact P
end
end MiS

set_option Elab.async false
set_option linter.all false
set_option maxRecDepth 100000
set_option maxHeartbeats 4000000
/-! MiS: methods of lists, raise -/
namespace MiS
open PySem PySem.Spec PyProof.Rows L2
open Mi (D Res Fl)
section
variable {γ : GC} {T : TabL} {E : XK} {X : Cx} {K : PySem.W.Frag} {H H' H1 : Hp} {O O' O1 : OM} {gl : List D} {cf : Nat → List D → Res (D × List D)} {io : List Nat}
theorem isLst_inv {d : D} (h : d.isLst = true) : ∃ o xs, d = .lst o xs := by
  cases d <;> first | exact ⟨_, _, rfl⟩ | cases h
theorem keep_noexc {e : Mi.E} {x : D} {y : Nat} {as : List D} (h : Mi.keep e x = .exc y as) : False := by
  unfold Mi.keep at h
  split at h <;> cases h
/-- x.append(e) -/
theorem s_app {i : Nat} {e : Mi.E} {x : Str} {xe : Expr} {p pa cpos pos : Pos} (hx : PE X (.Name x p) (tVar i)) (hi : i < tT) (he : PE X xe (tE γ X.K T E (Mi.ev gl cf e) (mu e) (Mi.vw e))) (s1 : ∀ env, starEach [xe] env = (false, eval xe env) :: starEach [] env)
    (hl : (pa.endLine == cpos.line) = true) : PS X (.Expr (.Call (.Attribute (.Name x p) "append" pa) [xe] [] cpos) pos) (tS γ X.K T E io (Mi.ex gl cf (.app (.v i) e))) :=
  PS.weak (ps_expr (pe_bm PySem.F.plainAttrs_list PySem.F.slot_list_append PySem.F.type_list_append mt_append hx (pa_cons he pa_nil (s1 X.env)) rfl (by rw [s1]; rfl) hl (s1 X.env) rfl) rfl) fun D σ H ⟨env, O, R, Tb, P⟩ => by
  have P : PoS γ X.K T E io H O σ ((Mi.getV env i).bind fun o0 => if o0.isLst = true then (Mi.ev gl cf e env).bind fun p => (Mi.keep e p.1).bind fun x => (Mi.getV p.2 i).bind fun o => match o with
    | .lst true xs => if xs.length < 1000000 then .ok (.nx (Mi.setV p.2 i (.lst true (xs ++ [x])))) else .stk
    | _ => .stk
    else .stk) D := by
    have : Mi.ex gl cf (.app (.v i) e) env = (Mi.getV env i).bind fun o0 => if o0.isLst = true then (Mi.ev gl cf e env).bind fun p => (Mi.keep e p.1).bind fun x => (Mi.getV p.2 i).bind fun o => match o with
      | .lst true xs => if xs.length < 1000000 then .ok (.nx (Mi.setV p.2 i (.lst true (xs ++ [x])))) else .stk
      | _ => .stk
      else .stk := by
      simp only [Mi.ex, Mi.getPa, Mi.setPa] <;> rfl
    rw [← this]
    exact P
  cases qg : Mi.getV env i with
  | ok d0 =>
    rw [qg, bind_ok] at P
    by_cases hl0 : d0.isLst = true
    · rw [if_pos hl0] at P
      obtain ⟨v0, g1, g2⟩ := getV_at R qg
      obtain ⟨o0, xs0, rfl⟩ := isLst_inv hl0
      obtain ⟨a, vs0, rfl, w1, w2, w3⟩ := g2
      refine ⟨.ref a, g1, .inl ⟨rfl, vs0, .inl (.inl w1)⟩, env, O, R, Tb, ?_⟩
      cases q : Mi.ev gl cf e env with
      | ok p =>
        rw [q, bind_ok] at P
        intro v H1 O1 t p1 r1 v1 ht Tb1
        cases qk : Mi.keep e p.1 with
        | ok xk =>
          rw [qk, bind_ok] at P
          obtain ⟨ho, O2, p2, r2, v2⟩ := keep_ok R.od p1 r1 v1 ht qk
          have P := PoS.pre (.of (p2.pst R.od)) P
          cases qo : Mi.getV p.2 i with
          | ok d1 =>
            rw [qo, bind_ok] at P
            obtain ⟨v', l1, l2⟩ := getV_at r2 qo
            rw [g1] at l1
            cases l1
            cases d1 with
            | lst ow xs =>
              cases ow with
              | true =>
                have P : PoS γ X.K T E io H1 O2 σ (if xs.length < 1000000 then .ok (.nx (Mi.setV p.2 i (.lst true (xs ++ [xk])))) else .stk) D := P
                by_cases hlen : xs.length < 1000000
                · rw [if_pos hlen] at P
                  obtain ⟨a', vs, ea, u1, u2, u3⟩ := l2
                  cases ea
                  have hz : sizeLine = 16777216 := sizeLine_eq
                  refine ⟨a, vs, v, rfl, rfl, u1, by rw [← u3.len]; omega, ?_⟩
                  have nf : i ≠ fT := fun e => by
                    rw [e] at hi
                    exact absurd hi (by decide)
                  have u2 : O2 a = some (i, 0) := u2
                  obtain ⟨k1, k2, k3, k4⟩ := upd_pst (o := .lst (vs ++ [v])) r2.od u1 u2 nf trivial
                  have kn := k1.non
                  exact P σ (upd H1 a (.lst (vs ++ [v]))) O2 (.of k1) (r2.chg g1 k1 k2 k3 ⟨a, vs ++ [v], rfl, upd_same, u2, VRs.app (VRs.step r2.od kn xs u3) (VRs.one ho (VR.stepN r2.od kn xk ho v2))⟩) (tabs_keep Tb1 r2.od k1 k4)
                · rw [if_neg hlen] at P
                  exact P.elim
              | false => exact P.elim
            | _ => exact P.elim
          | exc y as => exact (getV_exc qo).elim
          | stk =>
            rw [qo] at P
            exact P.elim
        | exc y as => exact (keep_noexc qk).elim
        | stk =>
          rw [qk] at P
          exact P.elim
      | exc y as =>
        rw [q] at P
        exact P
      | stk =>
        rw [q] at P
        exact P
    · rw [if_neg hl0] at P
      exact P.elim
  | exc y as => exact (getV_exc qg).elim
  | stk =>
    rw [qg] at P
    exact P.elim
/-- x.extend(e) -/
theorem s_ext {i : Nat} {e : Mi.E} {x : Str} {xe : Expr} {p pa cpos pos : Pos} (hx : PE X (.Name x p) (tVar i)) (hi : i < tT) (he : PE X xe (tE γ X.K T E (Mi.ev gl cf e) (mu e) (Mi.vw e))) (s1 : ∀ env, starEach [xe] env = (false, eval xe env) :: starEach [] env)
    (hl : (pa.endLine == cpos.line) = true) : PS X (.Expr (.Call (.Attribute (.Name x p) "extend" pa) [xe] [] cpos) pos) (tS γ X.K T E io (Mi.ex gl cf (.ext (.v i) e))) :=
  PS.weak (ps_expr (pe_bm PySem.F.plainAttrs_list PySem.F.slot_list_extend PySem.F.type_list_extend mt_extend hx (pa_cons he pa_nil (s1 X.env)) rfl (by rw [s1]; rfl) hl (s1 X.env) rfl) rfl) fun D σ H ⟨env, O, R, Tb, P⟩ => by
  have P : PoS γ X.K T E io H O σ ((Mi.getV env i).bind fun o0 => if o0.isLst = true then (Mi.ev gl cf e env).bind fun p => (Mi.keep e p.1).bind fun x => (Mi.getV p.2 i).bind fun o => match o, x with
    | .lst true xs, .lst _ ys => if xs.length + ys.length < 1000000 then .ok (.nx (Mi.setV p.2 i (.lst true (xs ++ ys)))) else .stk
    | _, _ => .stk
    else .stk) D := by
    have : Mi.ex gl cf (.ext (.v i) e) env = (Mi.getV env i).bind fun o0 => if o0.isLst = true then (Mi.ev gl cf e env).bind fun p => (Mi.keep e p.1).bind fun x => (Mi.getV p.2 i).bind fun o => match o, x with
      | .lst true xs, .lst _ ys => if xs.length + ys.length < 1000000 then .ok (.nx (Mi.setV p.2 i (.lst true (xs ++ ys)))) else .stk
      | _, _ => .stk
      else .stk := by
      simp only [Mi.ex, Mi.getPa, Mi.setPa] <;> rfl
    rw [← this]
    exact P
  cases qg : Mi.getV env i with
  | ok d0 =>
    rw [qg, bind_ok] at P
    by_cases hl0 : d0.isLst = true
    · rw [if_pos hl0] at P
      obtain ⟨v0, g1, g2⟩ := getV_at R qg
      obtain ⟨o0, xs0, rfl⟩ := isLst_inv hl0
      obtain ⟨a, vs0, rfl, w1, w2, w3⟩ := g2
      refine ⟨.ref a, g1, .inl ⟨rfl, vs0, .inl (.inl w1)⟩, env, O, R, Tb, ?_⟩
      cases q : Mi.ev gl cf e env with
      | ok p =>
        rw [q, bind_ok] at P
        intro v H1 O1 t p1 r1 v1 ht Tb1
        cases qk : Mi.keep e p.1 with
        | ok xk =>
          rw [qk, bind_ok] at P
          obtain ⟨ho, O2, p2, r2, v2⟩ := keep_ok R.od p1 r1 v1 ht qk
          have P := PoS.pre (.of (p2.pst R.od)) P
          cases qo : Mi.getV p.2 i with
          | ok d1 =>
            rw [qo, bind_ok] at P
            obtain ⟨v', l1, l2⟩ := getV_at r2 qo
            rw [g1] at l1
            cases l1
            cases d1 with
            | lst ow xs =>
              cases ow with
              | true =>
                cases xk with
                | lst o2 ys =>
                  have P : PoS γ X.K T E io H1 O2 σ (if xs.length + ys.length < 1000000 then .ok (.nx (Mi.setV p.2 i (.lst true (xs ++ ys)))) else .stk) D := P
                  by_cases hlen : xs.length + ys.length < 1000000
                  · rw [if_pos hlen] at P
                    obtain ⟨a', vs, ea, u1, u2, u3⟩ := l2
                    cases ea
                    obtain ⟨b, ws, rfl, y1, y2, y3⟩ := v2
                    have hz : sizeLine = 16777216 := sizeLine_eq
                    refine ⟨a, b, vs, ws, rfl, rfl, u1, y1, by rw [← u3.len, ← y3.len]; omega, ?_⟩
                    have nf : i ≠ fT := fun e => by
                      rw [e] at hi
                      exact absurd hi (by decide)
                    have u2 : O2 a = some (i, 0) := u2
                    obtain ⟨k1, k2, k3, k4⟩ := upd_pst (o := .lst (vs ++ ws)) r2.od u1 u2 nf trivial
                    have kn := k1.non
                    exact P σ (upd H1 a (.lst (vs ++ ws))) O2 (.of k1) (r2.chg g1 k1 k2 k3 ⟨a, vs ++ ws, rfl, upd_same, u2, VRs.app (VRs.step r2.od kn xs u3) (VRs.step r2.od kn ys y3)⟩) (tabs_keep Tb1 r2.od k1 k4)
                  · rw [if_neg hlen] at P
                    exact P.elim
                | _ => exact P.elim
              | false => exact P.elim
            | _ => exact P.elim
          | exc y as => exact (getV_exc qo).elim
          | stk =>
            rw [qo] at P
            exact P.elim
        | exc y as => exact (keep_noexc qk).elim
        | stk =>
          rw [qk] at P
          exact P.elim
      | exc y as =>
        rw [q] at P
        exact P
      | stk =>
        rw [q] at P
        exact P
    · rw [if_neg hl0] at P
      exact P.elim
  | exc y as => exact (getV_exc qg).elim
  | stk =>
    rw [qg] at P
    exact P.elim
/-- a class without own __init__, called without an argument -/
theorem pmk_own0 {x : Str} {p pos : Pos} {C : Addr} {B newId initId : String} {bmB : List Value} (F : ExcBaseFacts B newId initId bmB) (q : PySem.W.excIn X.K C bmB newId = true) (gC : X.mg x = some (.ref C)) (kC : PySem.W.keepIn X.K (.ref C) = true) (r : Raises X (.ref C)) (hg : Gl X x)
    (hdb : (x == ("__debug__" : Str)) = false) : PMk X (.Call (.Name x p) [] [] pos) (fun _ H Q => Q (.ref C) none H) := by
  intro pins s σ H Q I h
  refine wpAny_Call_Name_kw (ld_glob I hg gC ?_ hdb)
  refine PySem.W.callWith_K0 I.kIn kC ?_
  obtain ⟨bm, N, nm, qn, bs, hdct, sn, sub, ab, col, dd, k0, k1, k2, k3, k5, mN, hC, hN, hni, T⟩ := exc_obj I.kIn q
  exact wpAny_call_exc_subT F T hC hN hni (fun h' e hm => mk_of I hm r h (I.hok.gone hm.new)) (Nat.zero_le _)
theorem s_rai0 {k : Nat} {x : Expr} {C : Addr} {pos : Pos} (hc : X.calm = true) (tk : Takes X (fun cls d _ H => E cls d H)) (h : PMk X x (fun _ H Q => Q (.ref C) none H)) (hC : C = γ.xad k) : PS X (.Raise (some x) none pos) (tS γ X.K T E io (Mi.ex gl cf (.rai k []))) :=
  PS.weak (ps_raise hc tk h) fun D σ H ⟨env, O, R, Tb, P⟩ => by
    have P : PoX γ T E H O k [] := by
      have : Mi.ex gl cf (.rai k []) env = .exc k [] := by simp [Mi.ex, Mi.evs, Res.bind]
      rw [this] at P
      exact P
    exact P (.ref C) none H (fun a o e _ _ => e) ⟨by rw [hC], .inl ⟨rfl, rfl⟩⟩ Tb
end
end MiS

set_option Elab.async false
set_option linter.all false
set_option maxRecDepth 100000
set_option maxHeartbeats 4000000
/-! MiS: isinstance, dicts, counts, comprehensions as values and as assignments -/
namespace MiS
open PySem PySem.Spec PyProof.Rows L2
open Mi (D Res Fl)
def tyStr : Mi.Ty → Str
  | .int => "int"
  | .bool => "bool"
  | .tuple => "tuple"
  | .list => "list"
  | .str => "str"
def tyName : Mi.Ty → String
  | .int => "int"
  | .bool => "bool"
  | .tuple => "tuple"
  | .list => "list"
  | .str => "str"
section
variable {γ : GC} {T : TabL} {E : XK} {X : Cx} {K : PySem.W.Frag} {H H' H1 : Hp} {O O' O1 : OM} {gl : List D} {cf : Nat → List D → Res (D × List D)} {io : List Nat}
theorem isTy_of {t : Mi.Ty} {d : D} {b : Bool} {tg : Tag} {v : V} (h : VR γ K H O tg d v) (e : Mi.isTy t d = some b) : ∃ u, TyX K H v u ∧ PySem.W.kitOne K u (.type (tyName t)) = some b := by
  cases d with
  | non =>
    cases (show v = .non from h)
    refine ⟨_, .base .non, ?_⟩
    cases t <;> (cases e; rfl)
  | bl c =>
    cases (show v = .bl c from h)
    refine ⟨_, .base (.bl c), ?_⟩
    cases t <;> (cases e; rfl)
  | int i =>
    cases (show v = .int i from h)
    refine ⟨_, .base (.int i), ?_⟩
    cases t <;> (cases e; rfl)
  | str s =>
    obtain ⟨rfl, _⟩ := h
    refine ⟨_, .base (.str _), ?_⟩
    cases t <;> (cases e; rfl)
  | tup ds =>
    obtain ⟨a, vs, rfl, h1, _⟩ := h
    refine ⟨_, .base (.tup h1), ?_⟩
    cases t <;> (cases e; rfl)
  | lst o ds =>
    obtain ⟨a, vs, rfl, h1, _⟩ := h
    refine ⟨_, .base (.lst h1), ?_⟩
    cases t <;> (cases e; rfl)
  | dct o tk ps =>
    cases tk with
    | false =>
      obtain ⟨a, vs, rfl, h1, _⟩ := h
      refine ⟨_, .base (.dK h1), ?_⟩
      cases t <;> (cases e; rfl)
    | true =>
      obtain ⟨a, vs, rfl, h1, _⟩ := h
      refine ⟨_, .base (.dT h1), ?_⟩
      cases t <;> (cases e; rfl)
  | ins o c fs => exact h.elim
  | _ => cases t <;> cases e
theorem boot_ty (t : Mi.Ty) : bootBuiltins (tyStr t) = some (.type (tyName t)) := by
  cases t
  · exact PyProof.Rows.boot_int
  · exact PyProof.Rows.boot_bool
  · exact boot_tuple
  · exact boot_list
  · exact PyProof.Rows.boot_str
theorem e_isi {t : Mi.Ty} {a : Mi.E} {xa : Expr} {p p2 pos : Pos} (hg : Gl X "isinstance") (hm : X.mg "isinstance" = none) (hv : bootBuiltins "isinstance" = some (.builtin "isinstance")) (hg2 : Gl X (tyStr t)) (hm2 : X.mg (tyStr t) = none)
    (ha : PE X xa (tE γ X.K T E (Mi.ev gl cf a) (mu a) (Mi.vw a))) (s1 : ∀ env ys, starEach (xa :: ys) env = (false, eval xa env) :: starEach ys env) :
    PE X (.Call (.Name "isinstance" p) [xa, .Name (tyStr t) p2] [] pos) (tE γ X.K T E (Mi.ev gl cf (.bi (.isi t) [a])) (mu (.bi (.isi t) [a])) (Mi.vw (.bi (.isi t) [a]))) := by
  have ht : PE X (.Name (tyStr t) p2) (tC (.ty (tyName t))) := pe_bltn hg2 hm2 (boot_ty t) rfl (by cases t <;> decide) (by cases t <;> decide)
  have hmu : mu (.bi (.isi t) [a]) = mu a := by simp [mu, mus]
  rw [hmu]
  refine PE.weak (pe_callB call_isi hg hm hv (pa_cons ha (pa_cons ht pa_nil (by rfl)) (s1 X.env _)) (by decide) (by decide) (s1 X.env _) (by rfl)) (op1_gen (f := Mi.ev gl cf (.bi (.isi t) [a])) (ba := mu a) (vf := false) (h := fun x e => (Res.of (Mi.biD (.isi t) [x])).bind fun d => .ok (d, e)) (fun env => ?_) fun H O σ env x v tg Q R hx _ Tb P => ?_)
  · rw [bi_ev, evb_cons]
    cases Mi.ev gl cf a env with
    | ok p => simp [Res.bind, Mi.evb]
    | exc x as => rfl
    | stk => rfl
  · cases q : Mi.isTy t x with
    | none =>
      have : Mi.biD (.isi t) [x] = none := by simp [Mi.biD, q]
      rw [this] at P
      exact P.elim
    | some b =>
      have : Mi.biD (.isi t) [x] = some (.bl b) := by simp [Mi.biD, q]
      rw [this] at P
      obtain ⟨u, h1, h2⟩ := isTy_of hx q
      exact ⟨v, .ty (tyName t), u, .type (tyName t), b, rfl, .ty _, h1, h2, P (.bl b) H O tmp (PstP.refl H O) R (rfl : _ = V.bl b) (fun _ => rfl) Tb⟩

/-! d.get(k, x) -/
theorem e_dget {a k d : Mi.E} {xa xk xd : Expr} {pa pos : Pos} {kk : Nat} (hr : Room kk X.A) (ha : PE X xa (tE γ X.K T E (Mi.ev gl cf a) (mu a) (Mi.vw a))) (hk : PE X xk (tE γ X.K T E (Mi.ev gl cf k) (mu k) (Mi.vw k))) (hd : PE X xd (tE γ X.K T E (Mi.ev gl cf d) (mu d) (Mi.vw d)))
    (hmk : mu k = false) (hmd : mu d = false) (m : M2 X xa "get" pa xk xd pos) : PE X (.Call (.Attribute xa "get" pa) [xk, xd] [] pos) (tE γ X.K T E (Mi.ev gl cf (.dget a k d)) (mu (.dget a k d)) (Mi.vw (.dget a k d))) := by
  have hu := hr.units
  rw [hmk] at hk
  rw [hmd] at hd
  refine PE.weak (pe_dget2 (by omega) ha hk hd m) fun σ H Q ⟨env, O, R, Tb, P⟩ => ?_
  refine ⟨env, O, R, Tb, ?_⟩
  have P : PoE γ X.K T E H O σ (mu a || (mu k || mu d)) false ((Mi.ev gl cf a env).bind fun p => match p.1 with
    | .dct _ tk kvs => (Mi.ev gl cf k p.2).bind fun q => (Mi.ev gl cf d q.2).bind fun r => (Mi.keep d r.1).bind fun z => if Mi.keyOk tk q.1 = true then .ok ((Mi.dget kvs q.1).getD z, r.2) else .stk
    | _ => .stk) Q := by
    have : Mi.ev gl cf (.dget a k d) env = (Mi.ev gl cf a env).bind fun p => match p.1 with
      | .dct _ tk kvs => (Mi.ev gl cf k p.2).bind fun q => (Mi.ev gl cf d q.2).bind fun r => (Mi.keep d r.1).bind fun z => if Mi.keyOk tk q.1 = true then .ok ((Mi.dget kvs q.1).getD z, r.2) else .stk
      | _ => .stk := by
      simp only [Mi.ev] <;> rfl
    rw [← this]
    exact P
  rw [hmk, hmd] at P
  cases q : Mi.ev gl cf a env with
  | ok p =>
    rw [q, bind_ok] at P
    intro v H1 O1 t p1 r1 v1 ht Tb1
    cases hx : p.1 with
    | dct o tk kvs =>
      rw [hx] at P v1
      obtain ⟨O1', p1', r1', hold1⟩ := hold (c := false) R p1 r1 v1 ht (.inr rfl)
      have P : PoE γ X.K T E H1 O1' σ false false ((Mi.ev gl cf k p.2).bind fun q => (Mi.ev gl cf d q.2).bind fun r => (Mi.keep d r.1).bind fun z => if Mi.keyOk tk q.1 = true then .ok ((Mi.dget kvs q.1).getD z, r.2) else .stk) Q := PoE.pre (c := false) R.od r1'.od p1' P
      obtain ⟨t0, v0⟩ := hold1 H1 O1' (PstP.refl _ _)
      have hD : ∃ aa, v = .ref aa ∧ IsD H1 aa := by
        cases tk with
        | false =>
          obtain ⟨aa, ws, e1, e2, _⟩ := v0
          exact ⟨aa, e1, .inl ⟨_, .inl e2⟩⟩
        | true =>
          obtain ⟨aa, ws, e1, e2, _⟩ := v0
          exact ⟨aa, e1, .inr ⟨_, .inl e2⟩⟩
      obtain ⟨aa, rfl, hD⟩ := hD
      refine ⟨aa, rfl, hD, p.2, O1', r1', Tb1, ?_⟩
      cases q2 : Mi.ev gl cf k p.2 with
      | ok k2 =>
        rw [q2, bind_ok] at P
        intro y H2 O2 t2 p2 r2 y2 ht2 Tb2
        obtain ⟨O2', p2', r2', hold2'⟩ := hold (c := false) r1' p2 r2 y2 ht2 (.inr rfl)
        have P := PoE.pre (c := false) (b := false) r1'.od r2'.od p2' P
        refine ⟨k2.2, O2', r2', Tb2, ?_⟩
        cases q3 : Mi.ev gl cf d k2.2 with
        | ok d3 =>
          rw [q3, bind_ok] at P
          intro z H3 O3 t3 p3 r3 z3 ht3 Tb3
          cases qk : Mi.keep d d3.1 with
          | ok zk =>
            rw [qk, bind_ok] at P
            obtain ⟨ho, O4, p4, r4, z4⟩ := keep_ok r2'.od p3 r3 z3 ht3 qk
            have P := PoE.pre (c := false) (b := false) r2'.od r4.od p4 P
            by_cases hky : Mi.keyOk tk k2.1 = true
            · rw [if_pos hky] at P
              obtain ⟨ty, vy⟩ := hold2' H3 O4 p4
              obtain ⟨td, vd⟩ := hold1 H3 O4 (PstB.trans (b := false) (c := false) r1'.od r2'.od p2' p4)
              obtain ⟨a', r, ea, g, hn, hs⟩ := dget_of vy vd hky
              cases ea
              refine ⟨r, g, ?_⟩
              cases hg : Mi.dget kvs k2.1 with
              | none =>
                have : r = none := by
                  rw [hg] at hn
                  cases r with
                  | none => rfl
                  | some _ => cases hn
                rw [this]
                rw [hg] at P
                exact P z H3 O4 tmp (PstP.refl _ _) r4 (VR.tag zk ho z4) (fun _ => rfl) Tb3
              | some d9 =>
                obtain ⟨u, er, ho9, h9⟩ := hs d9 hg
                rw [er]
                rw [hg] at P
                exact P u H3 O4 tmp (PstP.refl _ _) r4 (VR.tag d9 ho9 h9) (fun _ => rfl) Tb3
            · rw [if_neg hky] at P
              exact P.elim
          | exc y as => exact (keep_noexc qk).elim
          | stk =>
            rw [qk] at P
            exact P.elim
        | exc y as =>
          rw [q3] at P
          exact P
        | stk =>
          rw [q3] at P
          exact P
      | exc y as =>
        rw [q2] at P
        exact P
      | stk =>
        rw [q2] at P
        exact P
    | _ =>
      rw [hx] at P
      exact P.elim
  | exc y as =>
    rw [q] at P
    exact P
  | stk =>
    rw [q] at P
    exact P
/-! xs.count(k) -/
theorem e_count {a k : Mi.E} {xa xk : Expr} {pa pos : Pos} (ha : PE X xa (tE γ X.K T E (Mi.ev gl cf a) (mu a) (Mi.vw a))) (hk : PE X xk (tE γ X.K T E (Mi.ev gl cf k) (mu k) (Mi.vw k))) (hc : Mi.vw a = false ∨ mu k = false) (s1 : ∀ env, starEach [xk] env = (false, eval xk env) :: starEach [] env)
    (hb : attributeBase xa "count" X.env (eval xa X.env) = eval xa X.env) (hl : (pa.endLine == pos.line) = true) : PE X (.Call (.Attribute xa "count" pa) [xk] [] pos) (tE γ X.K T E (Mi.ev gl cf (.mth .count a k)) (mu (.mth .count a k)) (Mi.vw (.mth .count a k))) := by
  refine PE.weak (pe_bm PySem.F.plainAttrs_list PySem.F.slot_list_count PySem.F.type_list_count mt_lcount ha (pa_cons hk pa_nil (s1 X.env)) hb (by rw [s1]; rfl) hl (s1 X.env) rfl) fun σ H Q ⟨env, O, R, Tb, P⟩ => ?_
  refine ⟨env, O, R, Tb, ?_⟩
  have P : PoE γ X.K T E H O σ (mu a || mu k) false ((Mi.ev gl cf a env).bind fun p => if p.1.isLst = true then (Mi.ev gl cf k p.2).bind fun q => (Res.of (Mi.biD .count [p.1, q.1])).bind fun d => .ok (d, q.2) else .stk) Q := by
    have : Mi.ev gl cf (.mth .count a k) env = (Mi.ev gl cf a env).bind fun p => if p.1.isLst = true then (Mi.ev gl cf k p.2).bind fun q => (Res.of (Mi.biD .count [p.1, q.1])).bind fun d => .ok (d, q.2) else .stk := by simp only [Mi.ev]
    rw [← this]
    exact P
  cases q : Mi.ev gl cf a env with
  | ok p =>
    rw [q, bind_ok] at P
    intro v H1 O1 t p1 r1 v1 ht Tb1
    by_cases hl0 : p.1.isLst = true
    · rw [if_pos hl0] at P
      obtain ⟨O1', p1', r1', hold1⟩ := hold (c := mu k) R p1 r1 v1 ht hc
      have P := PoE.pre (c := mu k) R.od r1'.od p1' P
      obtain ⟨o0, xs, hx⟩ := isLst_inv hl0
      have hty : tyV X.K "list" v H1 := by
        rw [hx] at v1
        obtain ⟨aa, vs, rfl, e1, _⟩ := v1
        exact .inl ⟨rfl, vs, .inl (.inl e1)⟩
      refine ⟨hty, p.2, O1', r1', Tb1, ?_⟩
      cases q2 : Mi.ev gl cf k p.2 with
      | ok k2 =>
        rw [q2, bind_ok] at P
        intro y H2 O2 t2 p2 r2 y2 ht2 Tb2
        have P := PoE.pre (c := false) r1'.od r2.od p2 (PoE.mono r1'.od (fun h => by rw [Bool.or_false] at h; exact h) (fun h => h) P)
        obtain ⟨t', hx'⟩ := hold1 H2 O2 p2
        rw [hx] at P hx'
        cases hy : k2.1 with
        | int i =>
          rw [hy] at P y2
          cases qi : Mi.ints? xs with
          | some ns =>
            have e1 : Mi.biD .count [.lst o0 xs, .int i] = some (.int (ns.count i)) := by simp [Mi.biD, qi]
            rw [e1] at P
            obtain ⟨aa, vs, rfl, e2, _, e3⟩ := hx'
            rw [(e3.ints qi).1] at e2
            exact ⟨aa, ns, i, rfl, by rw [show y = V.int i from y2], .inl (.inl e2), P _ H2 O2 tmp (PstP.refl _ _) r2 (rfl : _ = V.int _) (fun _ => rfl) Tb2⟩
          | none =>
            have e1 : Mi.biD .count [.lst o0 xs, .int i] = none := by simp [Mi.biD, qi]
            rw [e1] at P
            exact P.elim
        | _ =>
          rw [hy] at P
          exact P.elim
      | exc y as =>
        rw [q2] at P
        exact P
      | stk =>
        rw [q2] at P
        exact P
    · rw [if_neg hl0] at P
      exact P.elim
  | exc y as =>
    rw [q] at P
    exact P
  | stk =>
    rw [q] at P
    exact P

/-! {k: v}, one pair -/
theorem e_dic1 {i : Int} {e : Mi.E} {xk xe : Expr} {pos : Pos} (hk : PE X xk (tC (.int i))) (he : PE X xe (tE γ X.K T E (Mi.ev gl cf e) (mu e) (Mi.vw e))) (hio : ∀ j, e ≠ .io j) :
    PE X (.Dict [some xk] [xe] pos) (tE γ X.K T E (Mi.ev gl cf (.dic false [.c (.int i)] [e])) (mu (.dic false [.c (.int i)] [e])) (Mi.vw (.dic false [.c (.int i)] [e]))) := by
  refine PE.weak (pe_disp (pps_cons hk he pps_nil) rfl rfl (List.cons_ne_nil _ _) (show 1 ≤ 15 by decide)) fun σ H Q ⟨env, O, R, Tb, P⟩ p hp => ?_
  have hmu : mu (.dic false [.c (.int i)] [e]) = mu e := by simp [mu, mus]
  have P : PoE γ X.K T E H O σ (mu e) false ((Mi.ev gl cf e env).bind fun p => (Mi.keep e p.1).bind fun x => .ok (.dct true false [(.int i, x)], p.2)) Q := by
    have : Mi.ev gl cf (.dic false [.c (.int i)] [e]) env = (Mi.ev gl cf e env).bind fun p => (Mi.keep e p.1).bind fun x => .ok (.dct true false [(.int i, x)], p.2) := by
      have h1 : Mi.evs gl cf [.c (.int i)] env = .ok ([.int i], env) := by
        rw [evs_cons (e := .c (.int i)) (fun j h => by cases h)]
        simp only [Mi.ev, Mi.evs] <;> rfl
      have h2 : Mi.evs gl cf [e] env = (Mi.ev gl cf e env).bind fun p => (Mi.keep e p.1).bind fun x => .ok ([x], p.2) := by
        rw [evs_cons hio]
        simp only [Mi.evs] <;> rfl
      simp only [Mi.ev]
      rw [h1, bind_ok, h2]
      cases Mi.ev gl cf e env with
      | ok p =>
        rw [bind_ok, bind_ok]
        cases Mi.keep e p.1 <;> rfl
      | exc x as => rfl
      | stk => rfl
    rw [← this, ← hmu]
    exact P
  have hpO : O p = none := R.od.free hp
  have ne : ∀ a o, H a = some o → a ≠ p := fun a o e z => by
    rw [z, hp] at e
    cases e
  have d0 : OD (upd H p (.dK [])) (setTo O p (fT, 0)) := fun a u e => by
    by_cases z : a = p
    · rw [z]
      exact ⟨_, upd_same, trivial⟩
    · rw [setTo_ne z] at e
      obtain ⟨o, h1, h2⟩ := R.od a u e
      exact ⟨o, by rw [upd_ne z]; exact h1, h2⟩
  have ps : PstS H O (upd H p (.dK [])) (setTo O p (fT, 0)) := ⟨fun a o e => by rw [upd_ne (ne a o e)]; exact e, fun a o e e2 => by rw [setTo_ne (ne a o e)]; exact e2, fun a u e _ => by
    obtain ⟨o, h1, _⟩ := R.od a u e
    rw [setTo_ne (ne a o h1)]
    exact e⟩
  refine ⟨env, setTo O p (fT, 0), R.s d0 ps, tabs_s ps Tb, ?_⟩
  cases q : Mi.ev gl cf e env with
  | ok z =>
    rw [q, bind_ok] at P
    intro y H2 O2 t p2 r2 y2 ht Tb2
    cases qk : Mi.keep e z.1 with
    | ok w =>
      rw [qk, bind_ok] at P
      obtain ⟨ho, O3, p3, r3, y3⟩ := keep_ok d0 p2 r2 y2 ht qk
      obtain ⟨f1, f2⟩ := (p3.pst d0).frn p _ 0 upd_same setTo_same
      have p13 : PstB (mu e) H O H2 O3 := by
        have := PstB.trans (b := false) R.od d0 ps.p p3
        rwa [Bool.false_or] at this
      have kn : KeepN H2 O3 (upd H2 p (.dK (mergeK [] [(.inl i, y)]))) (setTo O3 p tmp) := fun a o e e2 _ => by
        have : a ≠ p := fun z => by
          rw [z, f2] at e2
          cases e2
        exact ⟨by rw [upd_ne this]; exact e, by rw [setTo_ne this]; exact e2⟩
      have d4 : OD (upd H2 p (.dK (mergeK [] [(.inl i, y)]))) (setTo O3 p tmp) := fun a u e => by
        by_cases z : a = p
        · rw [z]
          exact ⟨_, upd_same, trivial⟩
        · rw [setTo_ne z] at e
          obtain ⟨o, h1, h2⟩ := r3.od a u e
          exact ⟨o, by rw [upd_ne z]; exact h1, h2⟩
      refine ⟨f1, [(.inl i, y)], rfl, (show 1 ≤ 15 by decide), P (.ref p) _ (setTo O3 p tmp) tmp (PstB.aside p13 hp R.od (fun a ha => upd_ne ha) fun a ha => setTo_ne ha) ⟨d4, r3.len, r3.sz, fun j d e => ?_⟩ ?_ (fun _ => rfl) (tabs_upd Tb2 f1 (fun _ e => nomatch e) fun c q e => ?_)⟩
      · obtain ⟨u, h1, h2⟩ := r3.at_ j d e
        have hj : j < z.2.length := (List.getElem?_eq_some_iff.mp e).1
        refine ⟨u, h1, VR.step r3.od kn d (fun a o e1 e2 => ?_) h2⟩
        have : a ≠ p := fun z => by
          rw [z, f2] at e2
          cases e2
          exact absurd (Nat.lt_trans hj r3.sz) (show ¬ fT < tT by decide)
        exact ⟨by rw [upd_ne this]; exact e1, by rw [setTo_ne this]; exact e2⟩
      · exact ⟨p, [(.inl i, y)], rfl, upd_same, setTo_same, .inl i, y, [], rfl, rfl, ho, VR.stepN r3.od kn w ho y3, rfl⟩
      · unfold LamX.CodeO at e
        cases e
    | exc y as => exact (keep_noexc qk).elim
    | stk =>
      rw [qk] at P
      exact P.elim
  | exc y as =>
    rw [q] at P
    exact PoX.of (ps.p.pst R.od) P
  | stk =>
    rw [q] at P
    exact P
/-! dict(a list of pairs) -/
theorem dpairs_of : ∀ {xs : List D} {vs : List V} {acc r : List (D × D)} {kvs : List (Key × V)}, VRs γ K H O xs vs → KRs γ K H O acc kvs → Mi.dpairs xs acc = some r →
    ∃ (ps : List Addr) (more : List (Key × V)), vs = ps.map V.ref ∧ Paired (fun p kv => SqT K H p [kV kv.1, kv.2]) ps more ∧ KRs γ K H O r (mergeK kvs more)
  | [], _, acc, r, kvs, h, ha, e => by
    cases h
    have : acc = r := by
      simp only [Mi.dpairs] at e
      cases e
      rfl
    subst this
    exact ⟨[], [], rfl, .nil, ha⟩
  | x :: xs, _, acc, r, kvs, h, ha, e => by
    obtain ⟨v, rest, ev, ho, hx, hr⟩ := h
    subst ev
    unfold Mi.dpairs at e
    split at e
    · rename_i heq
      cases heq
    · rename_i k d r' heq
      cases heq
      split at e
      · rename_i hk
        obtain ⟨a, ws, e1, e2, w1, rest1, e3, _, hk1, w2, rest2, e4, hd1, hd2, e5⟩ := hx
        obtain ⟨kk, hk2, ek⟩ := key_of_vr hk1 hk
        obtain ⟨ps, more, h1, h2, h3⟩ := dpairs_of hr (KRs.put ha hk2 hd1 hd2) e
        refine ⟨a :: ps, (kk, w2) :: more, by rw [e1, h1]; rfl, .cons (.inl (.inl ?_)) h2, h3⟩
        rw [e2, e3, e4, ek, e5]
      · cases e
    · cases e
theorem bi_dict (hc : X.calm = true) : CallR X (.type "dict") (rB γ X.K (Mi.biD (.dict false))) := by
  intro pins s σ H vs us Q I r h
  obtain ⟨O, ds, d, od, b, e, q⟩ := h
  match ds, e with
  | [.lst o xs], e =>
    cases q1 : Mi.dpairs xs [] with
    | none =>
      simp only [Mi.biD, q1] at e
      cases e
    | some kvs =>
      simp only [Mi.biD, q1] at e
      cases e
      obtain ⟨v, t, rfl, p, ws, rfl, h1, _, h2⟩ := b.one
      obtain ⟨ps, more, e1, e2, e3⟩ := dpairs_of h2 (acc := []) (kvs := []) rfl q1
      rw [e1] at h1
      refine call_dictP hc pins s σ H _ us Q I r ⟨p, ps, more, rfl, .inl (.inl h1), e2, fun l hl => ?_⟩
      have k := ((newO_s (o := .dK (mergeK [] more)) od hl).p.pst od).non
      exact q (.ref l) _ (ownP O l) (newO_s od hl) (newO_od od hl trivial) ⟨l, _, rfl, upd_same, ownP_same, KRs.step od k kvs e3⟩

/-! comprehensions -/
theorem fsi {e : Expr} (h : (match e with | .Set .. => false | _ => true) = true) (env : Env) (x : Value) : foldedSetIterable e env x = pure x := by
  cases e <;> first | rfl | cases h
/-- what the checks of a block give -/
structure LcOk (γ : GC) (T : TabL) (X : Cx) (gl : List D) (cf : Nat → List D → Res (D × List D)) (own : List Nat) (elt : Mi.E) (t : Mi.T) (ifs : Option Mi.E) (scope : Scope) (xt xe : Expr) (xifs : List Expr) (ow : List (Str × Nat)) : Prop where
  hown : ow.map (·.2) = own
  tv : ∀ j ∈ tv t, j ∈ own
  blk : BlkOk X.N X.env.scope scope ow
  g : ∀ (s : Shared) (H : Hp) (C : Addr) (cl : List (Str × Addr)) (fp : List Addr), TgOk (X.blk s H scope (compEnvC scope cl C X.env) fp) t xt
  t : ∀ (s : Shared) (H : Hp) (C : Addr) (cl : List (Str × Addr)) (fp : List Addr), PTs (X.blk s H scope (compEnvC scope cl C X.env) fp) xifs (tTst γ X.K T E0 (Mi.evt gl cf ifs) (muo ifs))
  e : ∀ (s : Shared) (H : Hp) (C : Addr) (cl : List (Str × Addr)) (fp : List Addr), PE (X.blk s H scope (compEnvC scope cl C X.env) fp) xe (tE γ X.K T E0 (Mi.ev gl cf elt) (mu elt) (Mi.vw elt))
theorem e_lc {own : List Nat} {elt : Mi.E} {t : Mi.T} {it : Mi.I} {ifs : Option Mi.E} {scope : Scope} {xt xi xe : Expr} {xifs : List Expr} {ow : List (Str × Nat)} {pos : Pos} (hc : X.calm = true) (hN : X.N.Nodup)
    (hi : PI X xt xi (tI γ X.K T E (Mi.evJ gl cf it) (muI it) (mu elt || muo ifs))) (L : LcOk γ T X gl cf own elt t ifs scope xt xe xifs ow) (hs : ∀ x, foldedSetIterable xi X.env x = pure x) :
    PE X (.ListComp xe [⟨xt, xi, xifs, 0⟩] scope pos) (tE γ X.K T E (Mi.ev gl cf (.lc own elt t it ifs [])) (mu (.lc own elt t it ifs [])) (Mi.vw (.lc own elt t it ifs []))) := by
  refine PE.weak (pe_lc (g := tG γ X.K (tv t) (Mi.asg t)) hc hN hi L.blk (fun s H C cl fp => g_asg (γ := γ) (X := X.blk s H scope (compEnvC scope cl C X.env) fp) hc hN (L.g s H C cl fp)) L.t L.e hs) fun σ H Q q => ?_
  rw [L.hown]
  exact lc_read L.tv σ H Q q
theorem s_setLc {i : Nat} {y : Str} {py : Pos} {own : List Nat} {elt : Mi.E} {t : Mi.T} {it : Mi.I} {ifs : Option Mi.E} {scope : Scope} {xt xi xe : Expr} {xifs : List Expr} {ow : List (Str × Nat)} {pos spos : Pos} (hc : X.calm = true) (hN : X.N.Nodup) (hy : X.N[i]? = some y) (hyl : X.env.scope.names.lookup y = some .local)
    (hsw : swapsWith (.ListComp xe [⟨xt, xi, xifs, 0⟩] scope pos) (some (.Name y py)) spos.line X.env = pure true) (hio : ∀ j ∈ io, j ∉ MiS.tv (.v i)) (hi : PI X xt xi (tI γ X.K T E (Mi.evJ gl cf it) (muI it) (mu elt || muo ifs))) (L : LcOk γ T X gl cf own elt t ifs scope xt xe xifs ow) (hs : ∀ x, foldedSetIterable xi X.env x = pure x) :
    PS X (.Assign [.Name y py] (.ListComp xe [⟨xt, xi, xifs, 0⟩] scope pos) spos) (tS γ X.K T E io (Mi.ex gl cf (.set (.v i) (.lc own elt t it ifs [])))) := by
  refine PS.weak (ps_setLc (g := tG γ X.K (MiS.tv t) (Mi.asg t)) hc hN hy hyl hsw hi L.blk (fun s H C cl fp => g_asg (γ := γ) (X := X.blk s H scope (compEnvC scope cl C X.env) fp) hc hN (L.g s H C cl fp)) L.t L.e hs) fun D σ H q => ?_
  rw [L.hown]
  refine lc_read L.tv σ H _ ?_
  obtain ⟨env, O, R, Tb, P⟩ := set_read hio D σ H q
  refine ⟨env, O, R, Tb, ?_⟩
  cases qv : Mi.ev gl cf (.lc own elt t it ifs []) env with
  | ok p =>
    rw [qv] at P
    exact fun v H1 O1 t1 p1 r1 v1 ht Tb1 => gname_read (P v H1 O1 t1 p1 r1 v1 ht Tb1)
  | exc x as =>
    rw [qv] at P
    exact P
  | stk =>
    rw [qv] at P
    exact P
end
end MiS

set_option Elab.async false
set_option linter.all false
set_option maxRecDepth 100000
set_option maxHeartbeats 4000000
/-! MiS: several except clauses, some with `as` -/
namespace MiS
open PySem PySem.Spec PyProof.Rows L2
open Mi (D Res Fl)
abbrev HL := List (Value × Option Nat × (Addr → Value → Option Addr → TS))
def wHs (K : PySem.W.Frag) (Wout : WX) (D : Ends) : HL → WX
  | [] => Wout
  | (c, o, ts) :: r => fun cls d σ H => ∃ b, PySem.W.exmOne K cls c = some b ∧ (b = true → ∀ a, H a = none → match o with
      | none => ts a cls d D σ H
      | some i => ts a cls d { nx := fun σ' H' => D.nx (σ'.set i none) H', rt := D.rt, bk := fun σ' H' => D.bk (σ'.set i none) H', ct := fun σ' H' => D.ct (σ'.set i none) H' } (σ.set i (some (.ref a))) H) ∧ (b = false → wHs K Wout D r cls d σ H)
inductive HsOk (X : Cx) : List ExceptHandler → HL → Prop
  | nil : HsOk X [] []
  | cons {x : Str} {c : Value} {ts : Addr → Value → Option Addr → TS} {b₀ : Stmt} {suite : List Stmt} {np pos' : Pos} {hds : List ExceptHandler} {l : HL} (hc : Names X x c)
      (hsu : ∀ (a : Addr) (oe : Obj) (cls : Value) (d : Option Addr) (pn : List (Addr × Obj)), Zc cls d oe → (∃ vs, oe.data = .fields vs) → PSs (X.suite a ((a, oe) :: pn)) (b₀ :: suite) (ts a cls d)) (r : HsOk X hds l) :
      HsOk X (.ExceptHandler (some (.Name x np)) none (b₀ :: suite) pos' :: hds) ((c, none, ts) :: l)
  | consA {x n : Str} {i : Nat} {c : Value} {ts : Addr → Value → Option Addr → TS} {b₀ : Stmt} {suite : List Stmt} {np pos' : Pos} {hds : List ExceptHandler} {l : HL} (hc : Names X x c) (hi : X.N[i]? = some n) (hln : X.env.kindOf n = some .local)
      (hsu : ∀ (a : Addr) (oe : Obj) (cls : Value) (d : Option Addr) (pn : List (Addr × Obj)), Zc cls d oe → (∃ vs, oe.data = .fields vs) → PSs (X.suite a ((a, oe) :: pn)) (b₀ :: suite) (ts a cls d)) (r : HsOk X hds l) :
      HsOk X (.ExceptHandler (some (.Name x np)) (some n) (b₀ :: suite) pos' :: hds) ((c, some i, ts) :: l)
section
variable {X : Cx} {body : List Stmt} {h₀ : ExceptHandler} {hds : List ExceptHandler} {l : HL} {pos : Pos} {tb : WX → TS} {Wout : WX}
theorem try_hs (hs : X.stack = X.env :: X.outer) (hf : X.env.frame = some X.env.locals) (hN : X.N.Nodup) (tk : Takes X Wout)
    (hb : ∀ (W : WX) (pn : List (Addr × Obj)) (xe : Value → Shared → Prop), Takes (X.tr pn xe) W → PassesOwn (model X.prog X.w) X.A X.env xe → PSs (X.tr pn xe) body (tb W))
    (hh : HsOk X (h₀ :: hds) l) : PS X (.Try body (h₀ :: hds) [] [] pos) (fun D σ H => tb (wHs X.K Wout D l) D σ H) := by
  refine ⟨fun pins s σ H D I h => ?_⟩
  have ok := I.ok
  have hfr : X.A.frames = some (X.env :: X.outer) := by rw [ok.frames, hs]
  refine wpAny_Try_except ?_
  refine wpAny_mono ((hb (wHs X.K Wout D l) (X.pn ++ pins) (fun e s₁ => wpAny (model X.prog X.w) X.A (noteFrame e X.env) (fun _ s₂ => wpAny (model X.prog X.w) X.A (setFlight e none) (fun _ s₃ =>
    wpAny (model X.prog X.w) X.A (handleBy e X.env (h₀ :: hds)) (SP X pins D) X.xe s₃) X.xe s₂) X.xe s₁) (fun u s' xx => ?_) PassesOwn.looking).run [] s σ H D (I.toTry _) h) (fun f s1 hsp => ?_) (fun e s1 he => he)
  · obtain ⟨a, B, sI, pins', σ', H', cls, d, rfl, J', nb, up, sky, na, os, ag, w⟩ := xx
    have J : Inv X pins σ' H' sI := J'.ofTry ok
    have sky' : Sky B (X.env :: X.outer) a (Zc cls d) X.env.locals s'.heap := by rw [← hs]; exact sky
    show wpAny (model X.prog X.w) X.A (noteFrame (.ref a) X.env) _ _ _
    refine Sky.land Zc.steady hfr hf sky' fun h3 fl3 up3 => ?_
    have J3 : Inv X pins σ' H' { s' with heap := h3 } := J.landed nb fl3.1 (up.trans up3) os ag
    obtain ⟨oe3, vs3, he3, hz3, hd3⟩ := fl3.there
    have notFr : ∀ {h : Heap} {o : Obj} {vs : Array Value}, h.FunFrames B (X.env :: X.outer) → h.get? a = some o → o.data = .fields vs → a ∉ frs (X.env :: X.outer) := fun {h o vs} ff e dd hm => by
      obtain ⟨_, o', e', hnf⟩ := ff.mem hm
      rw [e] at e'; cases e'
      exact hnf _ dd
    have nfr := notFr fl3.2.2.1 he3 hd3
    have nL : a ≠ X.env.locals := fun z => nfr (List.mem_filterMap.mpr ⟨X.env, List.mem_cons_self, by rw [hf, z]⟩)
    have nF : a ∉ X.fs := fun hm => by
      obtain ⟨e, he, q⟩ := List.mem_filterMap.mp hm
      exact nfr (List.mem_filterMap.mpr ⟨e, List.mem_cons_of_mem _ he, q⟩)
    have S3 := J3.suite he3 hd3 na nL nF
    have go : ∀ {hds' : List ExceptHandler} {l' : HL}, HsOk X hds' l' → wHs X.K Wout D l' cls d σ' H' →
        wpAny (model X.prog X.w) X.A (handleBy (.ref a) X.env hds') (SP X pins D) X.xe { s' with heap := h3 } := by
      intro hds' l' hk
      have LT : PySem.W.Looks (model X.prog X.w) h3 (typeOf (.ref a)) cls := fun A Q E s k q => wpAny_typeOf_ref (k _ _ he3) (by rw [hz3.1]; exact q)
      have test : ∀ {x : Str} {np : Pos} {c : Value} {Q : Value → Shared → Prop} {E : Value → Shared → Prop}, Names X x c → Q c { s' with heap := h3 } → wpAny (model X.prog X.w) (X.A.mark (some (.ref a))) (eval (.Name x np) X.env) Q E { s' with heap := h3 } := fun {x np c Q E} hc q => by
        obtain ⟨hg, hdbg, hm | ⟨hm, hv, hnn⟩⟩ := hc
        · exact ld_glob (X := X.suite a ((a, oe3) :: (X.pn ++ pins))) S3 hg hm q hdbg
        · exact ld_blt (X := X.suite a ((a, oe3) :: (X.pn ++ pins))) S3 hg hm hv q hnn hdbg
      induction hk with
      | nil =>
        intro w
        refine wpAny_handleBy_nil ?_
        obtain ⟨k1, k2, k3, oe, vs, T, oT, ts', he, hz, hd, h1, hr⟩ := id fl3
        unfold PySem.passOn
        refine wpAny_bind (wpAny_field he hd h1 ?_)
        rw [if_neg (show ¬ ((Value.ref T == Value.none) = true) from by simp)]
        have fin : wpAny (model X.prog X.w) X.A (setFlight (.ref a) X.env.frame) (fun _ s4 => wpAny (model X.prog X.w) X.A (throw (.ref a) : Sem Flow) (SP X pins D) X.xe s4) X.xe { s' with heap := h3 } := by
          rw [hf]
          refine HandSPX.setFlight_upZ fl3 fun h4 hh4 up4 => wpAny_throw (tk _ _ ?_)
          exact ⟨a, B, sI, pins, σ', H', cls, d, rfl, J, nb, (up.trans up3).trans up4, .inr (.inr (by rw [hs]; exact hh4)), na, os, ag, w⟩
        first
          | exact wpAny_bind (wpAny_pure (wpAny_bind fin))
          | exact wpAny_bind fin
      | @cons x c ts b₀ suite np pos' hds2 l2 hc hsu r ih =>
        intro w
        obtain ⟨b, hb1, hyes, hno⟩ := w
        refine wpAny_handleBy_cons (codeAny_handlers_test ?_) (by intro q; cases q)
        have LM := PySem.W.exm_one (M := model X.prog X.w) (J3.kIn) LT hb1
        refine test hc (LM.here ?_)
        cases b with
        | true =>
          refine codeAny_handlers_suite ?_
          refine HandSPX.lands_againZ fl3 fun h4 fl4 up4 => ?_
          have J4 : Inv X pins σ' H' { s' with heap := h4 } := J.landed nb fl4.1 ((up.trans up3).trans up4) os ag
          obtain ⟨oe4, vs4, he4, hz4, hd4⟩ := fl4.there
          have S4 := J4.suite he4 hd4 na nL nF
          refine wpAny_mono ((hsu a oe4 cls d (X.pn ++ pins) hz4 ⟨_, hd4⟩).run [] _ _ H' _ S4 (hyes rfl a na)) (fun f s6 hsp => ?_) (fun _ _ z => False.elim z)
          cases f with
          | next =>
            obtain ⟨σ6, H6, S6, q6⟩ := hsp
            exact ⟨_, _, S6.unsuite ok, q6⟩
          | brk =>
            obtain ⟨σ6, H6, S6, q6⟩ := hsp
            exact ⟨_, _, S6.unsuite ok, q6⟩
          | cont =>
            obtain ⟨σ6, H6, S6, q6⟩ := hsp
            exact ⟨_, _, S6.unsuite ok, q6⟩
          | ret u =>
            obtain ⟨v6, σ6, H6, S6, r6, q6⟩ := hsp
            exact ⟨_, _, _, S6.unsuite ok, r6, q6⟩
        | false =>
          show wpAny _ X.A (handleBy (.ref a) X.env hds2) _ _ _
          exact ih (hno rfl)
      | @consA x n i c ts b₀ suite np pos' hds2 l2 hc hi hln hsu r ih =>
        intro w
        obtain ⟨b, hb1, hyes, hno⟩ := w
        have hloc : Loc X.env.scope n := .inl hln
        refine wpAny_handleBy_cons (codeAny_handlers_test ?_) (by intro q; cases q)
        have LM := PySem.W.exm_one (M := model X.prog X.w) (J3.kIn) LT hb1
        refine test hc (LM.here ?_)
        cases b with
        | true =>
          refine codeAny_handlers_suite_as ?_
          refine HandSPX.lands_againZ fl3 fun h4 fl4 up4 => ?_
          have J4 : Inv X pins σ' H' { s' with heap := h4 } := J.landed nb fl4.1 ((up.trans up3).trans up4) os ag
          obtain ⟨oe4, vs4, he4, hz4, hd4⟩ := fl4.there
          have S4 := J4.suite he4 hd4 na nL nF
          refine store_ok (X := X.suite a ((a, oe4) :: (X.pn ++ pins))) (v := .ref a) S4 hN hi hloc rfl (fun s5 S5 => ?_) (.inr hln)
          refine wpAny_mono ((hsu a oe4 cls d (X.pn ++ pins) hz4 ⟨_, hd4⟩).run [] s5 _ H' _ S5 (hyes rfl a na)) (fun f s6 hsp => ?_) (fun _ _ z => False.elim z)
          have end_ : ∀ {σ6 : L2.St} {H6 : Hp} {Q : Shared → Prop}, Inv (X.suite a ((a, oe4) :: (X.pn ++ pins))) [] σ6 H6 s6 → (∀ s7, Inv X pins (σ6.set i none) H6 s7 → Q s7) →
              wpAny (model X.prog X.w) X.A (do bindName X.env n .none; unbindBehindTheSuite X.env n pos') (fun _ s7 => Q s7) X.xe s6 := fun {σ6 H6 Q} S6 hq => gone_ok (S6.unsuite ok) hN hi hln hq
          cases f with
          | next =>
            obtain ⟨σ6, H6, S6, q6⟩ := hsp
            exact end_ S6 fun s7 J7 => ⟨_, _, J7, q6⟩
          | brk =>
            obtain ⟨σ6, H6, S6, q6⟩ := hsp
            exact end_ S6 fun s7 J7 => ⟨_, _, J7, q6⟩
          | cont =>
            obtain ⟨σ6, H6, S6, q6⟩ := hsp
            exact end_ S6 fun s7 J7 => ⟨_, _, J7, q6⟩
          | ret u =>
            obtain ⟨v6, σ6, H6, S6, r6, q6⟩ := hsp
            exact end_ S6 fun s7 J7 => ⟨_, _, _, J7, r6, q6⟩
        | false =>
          show wpAny _ X.A (handleBy (.ref a) X.env hds2) _ _ _
          exact ih (hno rfl)
    exact go hh w
  · cases f with
    | next =>
      obtain ⟨σ', H', J', q⟩ := hsp
      exact wpAny_execs_nil ⟨σ', H', J'.ofTry ok, q⟩
    | brk =>
      obtain ⟨σ', H', J', q⟩ := hsp
      exact ⟨σ', H', J'.ofTry ok, q⟩
    | cont =>
      obtain ⟨σ', H', J', q⟩ := hsp
      exact ⟨σ', H', J'.ofTry ok, q⟩
    | ret u =>
      obtain ⟨v, σ', H', J', r, q⟩ := hsp
      exact ⟨v, σ', H', J'.ofTry ok, r, q⟩
end
end MiS

set_option Elab.async false
set_option linter.all false
set_option maxRecDepth 100000
set_option maxHeartbeats 4000000
/-! MiS: a def that tells how a lambda ended -/
namespace MiS
open PySem PySem.Spec PyProof.Rows L2
open Mi (D Res Fl)
inductive An where
  | fld
  | sfld (s : List Nat)
  | non
  | eqn (s : List Nat)
structure HSp where
  xs : List Nat
  c : Nat
  an : An
structure TSp where
  np : Nat
  hs : List HSp
  df : D
def An.as : An → Option Nat
  | .fld => some 1
  | .sfld _ => some 1
  | .non => none
  | .eqn _ => none
def An.e : An → Mi.E
  | .fld => .fld (.v 1) 0
  | .sfld s => .tup [.c (.str s), .fld (.v 1) 0]
  | .non => .c .non
  | .eqn s => .cmp (.v 1) [.eq] [.c (.str s)]
def HSp.h (h : HSp) : Mi.H := .mk h.xs h.an.as [.ret h.an.e]
def TSp.fn (t : TSp) : Mi.Fn := ⟨t.np, 2, [], [.tri [.ex (.act 0)] (t.hs.map HSp.h), .ret (.c t.df)]⟩
def eqnV (s : List Nat) (nm : List D) : Option D := match nm with
  | [.str t] => some (.bl (decide (t = s)))
  | _ => none
theorem eqnV_inv {s : List Nat} {nm : List D} {d : D} (h : eqnV s nm = some d) : ∃ t, nm = [.str t] ∧ d = .bl (decide (t = s)) := by
  unfold eqnV at h
  split at h
  · rename_i t
    cases h
    exact ⟨t, rfl, rfl⟩
  · cases h
def An.val (nm as : List D) : An → Option D
  | .fld => as[0]?
  | .sfld s => as[0]?.map fun d => .tup [.str s, d.fz]
  | .non => some .non
  | .eqn s => eqnV s nm
def tellH (nm : List D) (x : Nat) (as : List D) : List HSp → Option D
  | [] => none
  | h :: r => if x ∈ h.xs then h.an.val nm as else tellH nm x as r
def TellR (t : TSp) (nm : List D) (d : D) : D → Prop
  | .tok _ => d = t.df
  | .tex x as => tellH nm x as t.hs = some d
  | _ => False
section
variable {gl : List D} {cf : Nat → List D → Res (D × List D)}
def NmOk (nm : List D) : Prop := nm = [] ∨ ∃ t, nm = [.str t]
theorem move_eq {e : Mi.E} {x y : D} (h : Mi.move e x = .ok y) : y = x := by
  unfold Mi.move at h
  split at h
  · cases h
  · cases h
    rfl
theorem ret_run {e : Mi.E} {env : EnvI} {r : Fl} (hr : Mi.exs gl cf [.ret e] env = .ok r) : ∃ d env', Mi.ev gl cf e env = .ok (d, env') ∧ r = .ret d env' := by
  simp only [Mi.exs, Mi.ex] at hr
  obtain ⟨fl, h1, h2⟩ := bind_inv hr
  obtain ⟨p, h3, h4⟩ := bind_inv h1
  obtain ⟨x, h5, h6⟩ := bind_inv h4
  cases h6
  have h2 : (Res.ok (Fl.ret x p.2) : Res Fl) = .ok r := h2
  cases h2
  exact ⟨x, p.2, by rw [h3, move_eq h5], rfl⟩
theorem of_inv {α : Type} {o : Option α} {a : α} (h : Res.of o = .ok a) : o = some a := by
  cases o with
  | none => cases h
  | some b => cases h; rfl
theorem fld_run {env env' : EnvI} {x : Nat} {as : List D} {d : D} (h1 : env[1]? = some (some (.ins false x as))) (h : Mi.ev gl cf (.fld (.v 1) 0) env = .ok (d, env')) : as[0]? = some d ∧ env' = env := by
  simp only [Mi.ev, Mi.getV, h1, bind_ok] at h
  obtain ⟨y, h2, h3⟩ := bind_inv h
  cases h3
  exact ⟨of_inv h2, rfl⟩
theorem keep_eq {e : Mi.E} {x y : D} (h : Mi.keep e x = .ok y) : y = x.fz := by
  unfold Mi.keep at h
  split at h
  · cases h
  · cases h
    rfl
theorem fz_scal {d : D} (h : d.scal = true) : d.fz = d := by
  cases d <;> first | rfl | cases h
theorem an_run {an : An} {x : Nat} {nm as : List D} {env : EnvI} {d : D} {env' : EnvI} (h1 : an.as = some 1 → env[1]? = some (some (.ins false x as))) (h2 : an.as = none → ∀ t, nm = [.str t] → env[1]? = some (some (.str t))) (h3 : NmOk nm) (h4 : an.as = none → nm = [] → env[1]? = some none) (hr : Mi.ev gl cf an.e env = .ok (d, env')) : an.val nm as = some d := by
  cases an with
  | fld => exact (fld_run (h1 rfl) hr).1
  | sfld s =>
    have e : Mi.ev gl cf (.tup [.c (.str s), .fld (.v 1) 0]) env = (Mi.evs gl cf [.c (.str s), .fld (.v 1) 0] env).bind fun p => .ok (.tup p.1, p.2) := by simp only [Mi.ev]
    have hr : Mi.ev gl cf (.tup [.c (.str s), .fld (.v 1) 0]) env = .ok (d, env') := hr
    rw [e] at hr
    obtain ⟨p, a1, a2⟩ := bind_inv hr
    simp only [Mi.evs] at a1
    obtain ⟨q, b1, b2⟩ := bind_inv a1
    simp only [Mi.ev] at b1
    cases b1
    obtain ⟨k, c1, c2⟩ := bind_inv b2
    have c1 := keep_eq c1
    obtain ⟨q2, d1, d2⟩ := bind_inv c2
    obtain ⟨q3, e1, e2⟩ := bind_inv d1
    obtain ⟨k2, f1, f2⟩ := bind_inv e2
    cases f2
    cases d2
    cases a2
    have g := (fld_run (env' := q3.2) (d := q3.1) (h1 rfl) e1).1
    have f1 := keep_eq f1
    subst f1 c1
    simp only [An.val, g] <;> rfl
  | non =>
    simp only [An.e, Mi.ev] at hr
    cases hr
    rfl
  | eqn s =>
    have hr : Mi.ev gl cf (.cmp (.v 1) [.eq] [.c (.str s)]) env = .ok (d, env') := hr
    rcases h3 with e | ⟨t, e⟩
    · have := h4 rfl e
      simp only [Mi.ev, Mi.getV, this] at hr
      cases hr
    · have := h2 rfl t e
      simp only [Mi.ev, Mi.getV, this, bind_ok, Mi.evc, Mi.cmpD, Mi.eq?, Mi.okN, Mi.eqD] at hr
      cases hr
      rw [e]
      rfl
theorem exh_run {nm as : List D} {x : Nat} {env : EnvI} {fl : Fl} (h3 : NmOk nm) (hl : 1 < env.length) (h2 : ∀ t, nm = [.str t] → env[1]? = some (some (.str t))) (h4 : nm = [] → env[1]? = some none) :
    ∀ hs : List HSp, Mi.exh gl cf x as (hs.map HSp.h) env = .ok fl → ∃ d env', fl = .ret d env' ∧ tellH nm x as hs = some d
  | [], h => by
    simp only [List.map_nil, Mi.exh] at h
    cases h
  | h0 :: r, h => by
    have e : Mi.exh gl cf x as ((h0 :: r).map HSp.h) env = if x ∈ h0.xs then Mi.exs gl cf [.ret h0.an.e] (match h0.an.as with
      | none => env
      | some i => Mi.setV env i (.ins false x as)) else Mi.exh gl cf x as (r.map HSp.h) env := by
      simp only [List.map_cons, HSp.h, Mi.exh] <;> rfl
    rw [e] at h
    unfold tellH
    by_cases hx : x ∈ h0.xs
    · rw [if_pos hx] at h
      rw [if_pos hx]
      obtain ⟨d, env', g1, g2⟩ := ret_run h
      refine ⟨d, env', g2, an_run (x := x) (fun q => ?_) (fun q t e => ?_) h3 (fun q e => ?_) g1⟩
      · simp only [q]
        exact List.getElem?_set_self hl
      · simp only [q]
        exact h2 t e
      · simp only [q]
        exact h4 e
    · rw [if_neg hx] at h
      rw [if_neg hx]
      exact exh_run h3 hl h2 h4 r h
def actR (env : EnvI) : D → Res (D × EnvI)
  | .tok d => .ok (d, env)
  | .tex x as => .exc x as
  | _ => .stk
theorem act_run {env : EnvI} {r : D} (g : Mi.getV env 0 = .ok r) : Mi.ev gl cf (.act 0) env = actR env r := by
  simp only [Mi.ev, g, bind_ok]
  cases r <;> rfl
/-- a told def, run -/
theorem told_tell {P : List Mi.Fn} {t : TSp} {n f : Nat} {nm : List D} {r d : D} {outs : List D} (hP : P[f]? = some t.fn) (hn : NmOk nm) (hnp : 1 ≤ t.np ∧ t.np ≤ 2) (hr : Mi.runF gl P n f (r :: nm) = .ok (d, outs)) : TellR t nm d r ∧ nm.length + 1 = t.np := by
  cases n with
  | zero => cases hr
  | succ n =>
    simp only [Mi.runF, hP] at hr
    split at hr
    · rename_i hl
      have hl : nm.length + 1 = t.np := hl
      refine ⟨?_, hl⟩
      obtain ⟨fl, h1, h2⟩ := bind_inv hr
      have h1 : Mi.exs gl (Mi.runF gl P n) [.tri [.ex (.act 0)] (t.hs.map HSp.h), .ret (.c t.df)] (Mi.envF t.fn (r :: nm)) = .ok fl := h1
      have ge : ∀ i : Nat, (Mi.envF t.fn (r :: nm))[i]? = ((some r :: nm.map some) ++ List.replicate (2 - t.np) none : EnvI)[i]? := fun i => rfl
      generalize qe : Mi.envF t.fn (r :: nm) = env at h1 ge
      have g0 : Mi.getV env 0 = .ok r := by
        unfold Mi.getV
        rw [ge 0]
        rfl
      have ea : Mi.exs gl (Mi.runF gl P n) [.ex (.act 0)] env = (Mi.ex gl (Mi.runF gl P n) (.ex (.act 0)) env).bind fun fl => match fl with
        | .nx e => .ok (.nx e)
        | .brk e => .ok (.brk e)
        | .cnt e => .ok (.cnt e)
        | .ret d e => .ok (.ret d e) := by
        simp only [Mi.exs] <;> rfl
      have eb : Mi.ex gl (Mi.runF gl P n) (.ex (.act 0)) env = (Mi.ev gl (Mi.runF gl P n) (.act 0) env).bind fun p => .ok (.nx p.2) := by simp only [Mi.ex]
      have ec := act_run (gl := gl) (cf := Mi.runF gl P n) g0
      rw [exs_cons] at h1
      have et : Mi.ex gl (Mi.runF gl P n) (.tri [.ex (.act 0)] (t.hs.map HSp.h)) env = match Mi.exs gl (Mi.runF gl P n) [.ex (.act 0)] env with
        | .ok f => .ok f
        | .stk => .stk
        | .exc x as => Mi.exh gl (Mi.runF gl P n) x as (t.hs.map HSp.h) env := by
        simp only [Mi.ex] <;> (cases Mi.exs gl (Mi.runF gl P n) [.ex (.act 0)] env <;> rfl)
      rw [et, ea, eb, ec] at h1
      cases r with
      | tok d0 =>
        obtain ⟨fl1, a1, a2⟩ := bind_inv h1
        have a1 : (Res.ok (Fl.nx env) : Res Fl) = .ok fl1 := a1
        cases a1
        have a2 : Mi.exs gl (Mi.runF gl P n) [.ret (.c t.df)] env = .ok fl := a2
        obtain ⟨d', env', b1, b2⟩ := ret_run a2
        simp only [Mi.ev] at b1
        cases b1
        subst b2
        have h2 : ((Mi.getVs env t.fn.io).bind fun os => .ok (t.df, os)) = Res.ok (d, outs) := h2
        have h2 : (Res.ok (t.df, []) : Res (D × List D)) = .ok (d, outs) := h2
        cases h2
        rfl
      | tex x as =>
        obtain ⟨fl1, a1, a2⟩ := bind_inv h1
        have a1 : Mi.exh gl (Mi.runF gl P n) x as (t.hs.map HSp.h) env = .ok fl1 := a1
        have hlen : 1 < env.length := by
          rw [← qe]
          unfold Mi.envF
          rw [List.length_append, List.length_map, List.length_replicate]
          show 1 < nm.length + 1 + (2 - t.np)
          omega
        obtain ⟨d', env', b1, b2⟩ := exh_run hn hlen (fun t0 e => by rw [ge 1, e]; rfl) (fun e => by
          rw [ge 1, e]
          have : t.np = 1 := by
            rw [e] at hl
            exact hl.symm
          rw [this]
          rfl) t.hs a1
        subst b1
        have a2 : (Res.ok (Fl.ret d' env') : Res Fl) = .ok fl := a2
        cases a2
        have h2 : (Res.ok (d', []) : Res (D × List D)) = .ok (d, outs) := h2
        cases h2
        exact b2
      | _ => cases h1
    · cases hr
end
end MiS

set_option Elab.async false
set_option linter.all false
set_option maxRecDepth 100000
set_option maxHeartbeats 4000000
/-! MiS: a told def's text, and what its clauses wish -/
namespace MiS
open PySem PySem.Spec PyProof.Rows L2
open Mi (D Res Fl)
def dbgB (x : Str) : Bool := (x == ("__debug__" : Str)) || (x == ("__classdict__" : Str))
def locIs (N : List Str) (sc : Scope) (i : Nat) (n : Str) : Bool := decide (N[i]? = some n) && decide (sc.names.lookup n = some .local) && !dbgB n
def ansB (fl : Nat → Str) (N : List Str) (sc : Scope) (c : Nat) (an : An) (o : Option Str) (x : Expr) : Bool := match an with
  | .fld => (match o, x with
    | some n, .Attribute (.Name m _) f _ => decide (n = m) && locIs N sc 1 n && decide (f = fl c)
    | _, _ => false)
  | .sfld s => (match o, x with
    | some n, .Tuple [.Constant (.str t) _ _, .Attribute (.Name m _) f _] _ _ => decide (n = m) && locIs N sc 1 n && decide (f = fl c) && decide (mkS s = t)
    | _, _ => false)
  | .non => (match o, x with
    | none, .Constant .none _ _ => true
    | _, _ => false)
  | .eqn s => (match o, x with
    | none, .Compare (.Name m _) [.Eq] [.Constant (.str t) _ _] _ => locIs N sc 1 m && decide (mkS s = t)
    | _, _ => false)
def hdB (xn : List Str) (fl : Nat → Str) (N : List Str) (sc : Scope) (h : HSp) : ExceptHandler → Bool
  | .ExceptHandler (some (.Name y _)) o [.Return (some x) _] _ => decide (xn[h.c]? = some y) && decide (sc.names.lookup y = some .globalImplicit) && !dbgB y && ansB fl N sc h.c h.an o x
  | _ => false
def hdsB (xn : List Str) (fl : Nat → Str) (N : List Str) (sc : Scope) : List HSp → List ExceptHandler → Bool
  | [], [] => true
  | h :: r, x :: xs => hdB xn fl N sc h x && hdsB xn fl N sc r xs
  | _, _ => false
def dfB : D → Expr → Bool
  | .non, .Constant .none _ _ => true
  | .bl b, .Constant (.bool c) _ _ => b == c
  | _, _ => false
def toldB (xn : List Str) (fl : Nat → Str) (N : List Str) (sc : Scope) (t : TSp) : List Stmt → Bool
  | [.Try [.Expr (.Call (.Name a _) [] [] _) _] (h₀ :: hds) [] [] _, .Return (some x) _] => locIs N sc 0 a && hdsB xn fl N sc t.hs (h₀ :: hds) && dfB t.df x
  | _ => false
/-- what the clauses lean on -/
structure ClOk (γ : GC) (K : PySem.W.Frag) (mg : Str → Option Value) (xn : List Str) (t : TSp) : Prop where
  nm : ∀ (k : Nat) (y : Str), xn[k]? = some y → mg y = some (.ref (γ.xad k))
  sub : ∀ h ∈ t.hs, ∀ g ∈ t.hs, ∀ x ∈ g.xs, PySem.W.exmOne K (.ref (γ.xad x)) (.ref (γ.xad h.c)) = some (decide (x ∈ h.xs))
  as1 : ∀ h ∈ t.hs, h.an.as = some 1 → (∀ x ∈ h.xs, x = h.c) ∧ XfC K (γ.xad h.c) ∧ PySem.W.findIn K (.ref (γ.xad h.c)) (γ.xfl h.c) = some none
  so : ∀ h ∈ t.hs, ∀ s, h.an = .sfld s → PyData.strOk (mkS s) = true
def tsOf (γ : GC) (h : HSp) (a : Addr) (cls : Value) (d : Option Addr) : TS := match h.an with
  | .fld => tRet (tXf a cls d (γ.xad h.c) (γ.xfl h.c) (tVar 1))
  | .sfld s => tRet (tTup (tCons (tC (.str (mkS s))) (tCons (tXf a cls d (γ.xad h.c) (γ.xfl h.c) (tVar 1)) tNil)))
  | .non => tRet (tC .non)
  | .eqn s => tRet (tOp rEq (tVar 1) (tC (.str (mkS s))))
def hlOf (γ : GC) (hs : List HSp) : HL := hs.map fun h => ((Value.ref (γ.xad h.c), h.an.as, tsOf γ h) : Value × Option Nat × (Addr → Value → Option Addr → TS))
theorem and3 {a b : Bool} (h : (a && b) = true) : a = true ∧ b = true := Bool.and_eq_true_iff.mp h
theorem loc_is {N : List Str} {sc : Scope} {i : Nat} {n : Str} (h : locIs N sc i n = true) : N[i]? = some n ∧ sc.names.lookup n = some .local ∧ (n == ("__debug__" : Str)) = false ∧ (n == ("__classdict__" : Str)) = false := by
  unfold locIs at h
  obtain ⟨h, h3⟩ := and3 h
  obtain ⟨h1, h2⟩ := and3 h
  unfold dbgB at h3
  simp only [Bool.not_eq_true', Bool.or_eq_false_iff] at h3
  exact ⟨of_decide_eq_true h1, of_decide_eq_true h2, h3⟩
section
variable {γ : GC} {X : Cx} {xn : List Str} {t : TSp}
theorem hds_ok {N : List Str} {sc : Scope} (hN : X.N = N) (hs : X.env.scope = sc) (C : ClOk γ X.K X.mg xn t) : ∀ (hs : List HSp) (hds : List ExceptHandler), (∀ h ∈ hs, h ∈ t.hs) → hdsB xn γ.xfl N sc hs hds = true → HsOk X hds (hlOf γ hs)
  | [], [], _, _ => .nil
  | [], _ :: _, _, h => by cases h
  | _ :: _, [], _, h => by cases h
  | h :: r, x :: xs, hm, hB => by
    obtain ⟨h1, h2⟩ := and3 (show (hdB xn γ.xfl N sc h x && hdsB xn γ.xfl N sc r xs) = true from hB)
    have ih := hds_ok hN hs C r xs (fun g hg => hm g (List.mem_cons_of_mem _ hg)) h2
    unfold hdB at h1
    split at h1
    · rename_i y p o e p2 p3
      obtain ⟨h1, b4⟩ := and3 h1
      obtain ⟨h1, b3⟩ := and3 h1
      obtain ⟨b1, b2⟩ := and3 h1
      have hc : Names X y (.ref (γ.xad h.c)) := by
        refine ⟨?_, ?_, .inl (C.nm _ _ (of_decide_eq_true b1))⟩
        · show X.env.scope.names.lookup y = _
          rw [hs]
          exact of_decide_eq_true b2
        · unfold dbgB at b3
          simp only [Bool.not_eq_true', Bool.or_eq_false_iff] at b3
          exact b3.1
      obtain ⟨hxs, hcc, han⟩ := h
      have vis : ∀ {m : Str}, locIs N sc 1 m = true → X.N[1]? = some m ∧ Vis X.env.scope m ∧ (m == ("__debug__" : Str)) = false ∧ (m == ("__classdict__" : Str)) = false := fun {m} q => by
        obtain ⟨q1, q2, q3⟩ := loc_is q
        rw [hN, hs]
        exact ⟨q1, .inl q2, q3⟩
      cases han with
      | fld =>
        obtain ⟨_, xf, fn⟩ := C.as1 _ (hm _ List.mem_cons_self) rfl
        unfold ansB at b4
        dsimp only at b4
        split at b4
        · rename_i n m pm f pf
          obtain ⟨b4, c3⟩ := and3 b4
          obtain ⟨c1, c2⟩ := and3 b4
          have c1 := of_decide_eq_true c1
          have c3 := of_decide_eq_true c3
          subst c1 c3
          obtain ⟨n1, n2, n3, n4⟩ := vis c2
          refine .consA hc n1 ?_ (fun a oe cls d pn hz hf => pss_one (ps_ret (pe_xf xf fn hz hf (pe_var (X := X.suite a ((a, oe) :: pn)) n1 n2 n3 n4) ?_))) ih
          · show X.env.scope.names.lookup _ = _
            rw [hs]
            exact (loc_is c2).2.1
          · rfl
        · cases b4
      | sfld s =>
        obtain ⟨_, xf, fn⟩ := C.as1 _ (hm _ List.mem_cons_self) rfl
        unfold ansB at b4
        dsimp only at b4
        split at b4
        · rename_i n t2 j2 p4 m pm f pf ctx p5
          obtain ⟨b4, c4⟩ := and3 b4
          obtain ⟨b4, c3⟩ := and3 b4
          obtain ⟨c1, c2⟩ := and3 b4
          have c1 := of_decide_eq_true c1
          have c3 := of_decide_eq_true c3
          have c4 := of_decide_eq_true c4
          subst c1 c3 c4
          obtain ⟨n1, n2, n3, n4⟩ := vis c2
          refine .consA hc n1 ?_ (fun a oe cls d pn hz hf => pss_one (ps_ret (pe_tup (pa_cons pe_str (pa_cons (pe_xf xf fn hz hf (pe_var (X := X.suite a ((a, oe) :: pn)) n1 n2 n3 n4) ?_) pa_nil))))) ih
          · show X.env.scope.names.lookup _ = _
            rw [hs]
            exact (loc_is c2).2.1
          · rfl
        · cases b4
      | non =>
        unfold ansB at b4
        dsimp only at b4
        split at b4
        · exact .cons hc (fun a oe cls d pn hz hf => pss_one (ps_ret pe_non)) ih
        · cases b4
      | eqn s =>
        unfold ansB at b4
        dsimp only at b4
        split at b4
        · rename_i m pm t2 j2 p4 p5
          obtain ⟨c2, c4⟩ := and3 b4
          have c4 := of_decide_eq_true c4
          subst c4
          obtain ⟨n1, n2, n3, n4⟩ := vis c2
          exact .cons hc (fun a oe cls d pn hz hf => pss_one (ps_ret (pe_cmpR op_eq (pe_var (X := X.suite a ((a, oe) :: pn)) n1 n2 n3 n4) pe_str rfl))) ih
        · cases b4
    · cases h1
end
end MiS

set_option Elab.async false
set_option linter.all false
set_option maxRecDepth 100000
set_option maxHeartbeats 4000000
/-! MiS: what the clauses wish, told by the evaluator -/
namespace MiS
open PySem PySem.Spec PyProof.Rows L2
open Mi (D Res Fl)
section
variable {γ : GC} {K : PySem.W.Frag} {mg : Str → Option Value} {xn : List Str} {t : TSp} {H H' : Hp} {O O' : OM}
theorem scal_vr {K K' : PySem.W.Frag} {H H' : Hp} {O O' : OM} {t t' : Tag} : ∀ {d : D} {v : V}, d.scal = true → VR γ K H O t d v → VR γ K' H' O' t' d v
  | .non, _, _, h => h
  | .bl _, _, _, h => h
  | .int _, _, _, h => h
  | .str _, _, _, h => h
theorem scal_own {d : D} (h : d.scal = true) : d.own = false := by
  cases d <;> first | rfl | cases h
/-- the answer, at any owners -/
def AnsR (γ : GC) (K : PySem.W.Frag) (H : Hp) (d : D) (v : V) : Prop := ∀ O t, VR γ K H O t d v
theorem xr_fld {x : Nat} {as : List D} {cls : Value} {dx : Option Addr} {d : D} (X : XR γ x as cls dx H) (h : as[0]? = some d) : ∃ a v, dx = some a ∧ H a = some (.xd [(γ.xfl x, v)]) ∧ d.scal = true ∧ ∀ K H' O t, VR γ K H' O t d v := by
  obtain ⟨_, ⟨e, _⟩ | ⟨d', a, v, e, e2, e3, e4, e5⟩⟩ := X
  · rw [e] at h
    cases h
  · rw [e] at h
    have h : some d' = some d := h
    cases h
    exact ⟨a, v, e2, e3, e4, fun K H' O t => scal_vr e4 e5⟩
theorem look1 {f : Str} {v : V} : ([(f, v)] : List (Str × V)).lookup f = some v := by
  show (match f == f with | true => some v | false => List.lookup f []) = some v
  rw [show (f == f) = true from by simp]
theorem an_wish {h : HSp} {x : Nat} {nm as : List D} {cls : Value} {dx : Option Addr} {d : D} {a : Addr} {σ : L2.St} {D0 : Ends} (X : XR γ x as cls dx H) (hx : h.an.as = some 1 → x = h.c) (hso : ∀ s, h.an = .sfld s → PyData.strOk (mkS s) = true) (hv : h.an.val nm as = some d) (hsx : h.an.as = some 1 → σ[1]? = some (some (.ref a))) (hsn : h.an.as = none → ∀ s, nm = [.str s] → σ[1]? = some (some (.str (mkS s))))
    (q : ∀ v H', (∀ b o, H b = some o → H' b = some o) → AnsR γ K H' d v → D0.rt v H') : tsOf γ h a cls dx D0 σ H := by
  have hc := X.1
  obtain ⟨hxs, hcc, han⟩ := h
  cases han with
  | fld =>
    have ex : x = hcc := hx rfl
    subst ex
    obtain ⟨dd, v, e1, e2, e3, e4⟩ := xr_fld X hv
    refine ⟨.ref a, hsx rfl, rfl, hc, dd, _, v, e1, e2, look1, q v H (fun _ _ z => z) fun O t => e4 _ _ _ _⟩
  | sfld s =>
    have ex : x = hcc := hx rfl
    subst ex
    have hv : (as[0]?.map fun d => .tup [.str s, d.fz]) = some d := hv
    cases qa : as[0]? with
    | none => rw [qa] at hv; cases hv
    | some d1 =>
      rw [qa] at hv
      cases hv
      obtain ⟨dd, v, e1, e2, e3, e4⟩ := xr_fld X qa
      refine ⟨.ref a, hsx rfl, rfl, hc, dd, _, v, e1, e2, look1, ?_, fun p hp => ?_⟩
      · show 2 ≤ sizeLine
        rw [sizeLine_eq]
        decide
      · refine q _ _ (fun b o z => by rw [upd_ne (ne_of_none z hp)]; exact z) fun O t => ⟨p, _, rfl, upd_same, ?_⟩
        rw [fz_scal e3]
        refine ⟨_, _, rfl, rfl, ⟨rfl, ?_⟩, v, [], rfl, scal_own e3, e4 _ _ _ _, rfl⟩
        exact hso s rfl
  | non =>
    have hv : some D.non = some d := hv
    cases hv
    exact q _ _ (fun _ _ z => z) fun O t => rfl
  | eqn s =>
    obtain ⟨t2, e1, e2⟩ := eqnV_inv hv
    subst e2
    refine ⟨_, hsn rfl t2 e1, rfl, q _ _ (fun _ _ z => z) fun O t => ?_⟩
    show V.bl _ = V.bl _
    have : decide (V.str (mkS t2) = V.str (mkS s)) = decide (t2 = s) := by
      by_cases e : t2 = s
      · subst e
        simp
      · have n : ¬ (V.str (mkS t2) = V.str (mkS s)) := fun z => e (mkS_inj (V.str.inj z))
        simp [e, n]
    rw [this]
/-- the clauses, one after the other -/
theorem whs_of {Wout : WX} {D0 : Ends} {x : Nat} {nm as : List D} {cls : Value} {dx : Option Addr} {d : D} {σ : L2.St} (C : ClOk γ K mg xn t) (X : XR γ x as cls dx H) (hl : 1 < σ.length) (hsn : ∀ s, nm = [.str s] → σ[1]? = some (some (.str (mkS s))))
    (q : ∀ v H', (∀ b o, H b = some o → H' b = some o) → AnsR γ K H' d v → D0.rt v H') (hx : ∃ g ∈ t.hs, x ∈ g.xs) : ∀ hs : List HSp, (∀ h ∈ hs, h ∈ t.hs) → tellH nm x as hs = some d → wHs K Wout D0 (hlOf γ hs) cls dx σ H
  | [], _, h => by cases h
  | h0 :: r, hm, h => by
    have h0m := hm h0 List.mem_cons_self
    obtain ⟨g, hg, hxg⟩ := hx
    have e0 := C.sub h0 h0m g hg x hxg
    rw [← X.1] at e0
    refine ⟨_, e0, fun hb a ha => ?_, fun hb => ?_⟩
    · have hin : x ∈ h0.xs := of_decide_eq_true hb
      unfold tellH at h
      rw [if_pos hin] at h
      have go : ∀ {D1 : Ends} {σ1 : L2.St}, D1.rt = D0.rt → (h0.an.as = some 1 → σ1[1]? = some (some (.ref a))) → (h0.an.as = none → ∀ s, nm = [.str s] → σ1[1]? = some (some (.str (mkS s)))) → tsOf γ h0 a cls dx D1 σ1 H := fun {D1 σ1} e1 e2 e3 =>
        an_wish X (fun z => (C.as1 h0 h0m z).1 x hin) (C.so h0 h0m) h e2 e3 fun v H' k w => by
          rw [e1]
          exact q v H' k w
      cases qa : h0.an.as with
      | none => exact go rfl (fun z => by rw [qa] at z; cases z) fun _ => hsn
      | some i =>
        have ei : i = 1 := by
          cases qn : h0.an <;> rw [qn] at qa <;> cases qa <;> rfl
        subst ei
        exact go rfl (fun _ => List.getElem?_set_self hl) fun z => by rw [qa] at z; cases z
    · have hin : ¬ x ∈ h0.xs := of_decide_eq_false hb
      unfold tellH at h
      rw [if_neg hin] at h
      exact whs_of C X hl hsn q ⟨g, hg, hxg⟩ r (fun g hg => hm g (List.mem_cons_of_mem _ hg)) h
theorem tell_mem {x : Nat} {nm as : List D} {d : D} : ∀ {hs : List HSp}, tellH nm x as hs = some d → ∃ g ∈ hs, x ∈ g.xs
  | [], h => by cases h
  | h0 :: r, h => by
    unfold tellH at h
    by_cases q : x ∈ h0.xs
    · exact ⟨h0, List.mem_cons_self, q⟩
    · rw [if_neg q] at h
      obtain ⟨g, h1, h2⟩ := tell_mem h
      exact ⟨g, List.mem_cons_of_mem _ h1, h2⟩
end
end MiS

set_option Elab.async false
set_option linter.all false
set_option maxRecDepth 100000
set_option maxHeartbeats 4000000
/-! MiS: a lambda handed to a told def -/
namespace MiS
open PySem PySem.Spec PyProof.Rows L2
open Mi (D Res Fl)
section
variable {X : Cx} {pins : List (Addr × Obj)} {σ : L2.St} {H : Hp} {s : Shared}
/-- x() in the told def: its slots at the call are σ1 -/
theorem pe_act2 {CXg : CXT} {Eg : XK} {Ng : List Str} {qg : Str} {sg : Scope} {g f c' : Addr} {cdg pm ctv : Value} {params : Arguments} {body : Expr} {scope : Scope} {k i : Nat} {a : Str} {pn : List (Addr × Obj)} {xe : Value → Shared → Prop} {W : WX} {E : XK} {tb : TE} {p1 p2 : Pos} {σ1 : L2.St}
    (I : Inv X pins σ H s) (L : LamX.LamS X.env.scope scope) (hf : s.heap.get? f = some (PySem.W.kla_obj "<lambda>" (X.env.qual ++ "<lambda>") params body scope (cloFrom X.env.cells scope.names []) pm c' ctv)) (hfn : H f = none) (hfr : f ∉ frs X.stack)
    (hbind : bindArgs (PySem.W.kla_fn "<lambda>" (X.env.qual ++ "<lambda>") params body scope (cloFrom X.env.cells scope.names []) pm (.ref c') ctv) ⟨[], []⟩ = pure [])
    (tk : Takes ((cxOf CXg X.prog X.w X.K X.mg X.base Ng qg sg g cdg X.A X.stack s H Eg).tr pn xe) W) (hW : ∀ cls d H', E cls d H' → W cls d σ1 H') (hr : Room (k + 1) (X.A.deeper (envOfC qg sg s.heap.objs.size g cdg)))
    (hbody : ∀ (A : Around) (outer : List Env) (s : Shared) (H : Hp), Room k (A.deeper (LamX.lamEnv X scope s.heap.objs.size f c')) → PE (LamX.lamCx X A outer s H E scope f c') body tb)
    (hN : Ng[i]? = some a) (hv : Vis sg a) (hd : (a == ("__debug__" : Str)) = false) (hcd : (a == ("__classdict__" : Str)) = false) :
    PE ((cxOf CXg X.prog X.w X.K X.mg X.base Ng qg sg g cdg X.A X.stack s H Eg).tr pn xe) (.Call (.Name a p1) [] [] p2)
      (fun σZ HZ Q => σZ = σ1 ∧ σ1[i]? = some (some (.ref f)) ∧ HZ c' = some (LamX.CodeO c' (X.env.qual ++ "<lambda>")) ∧ tb σ HZ Q) := by
  refine ⟨fun pinsZ sZ σZ HZ Q IZ h => ?_⟩
  obtain ⟨eσ, hs, hc, ht⟩ := h
  subst eσ
  refine wpAny_Call_Name_kw (thn ((pe_var (pos := p1) (i := i) hN hv hd hcd).run pinsZ sZ σZ HZ (fun v H1 => v = .ref f ∧ H1 = HZ) IZ ⟨.ref f, hs, rfl, rfl⟩) fun u s1 ⟨v, H1, I1, r1, q1⟩ => ?_)
  obtain ⟨ev, eH⟩ := q1
  subst ev
  rw [eH] at I1
  obtain rfl : u = Value.ref f := r1
  have of1 : s1.heap.get? f = some (PySem.W.kla_obj "<lambda>" (X.env.qual ++ "<lambda>") params body scope (cloFrom X.env.cells scope.names []) pm c' ctv) := I1.base.keep f _ hf hfn hfr (fun z => nomatch (show f ∈ ([] : List Addr) from z))
  refine PySem.W.callWith_F0 ⟨_, _, _, _, of1⟩ ?_
  have un : Un (frs X.stack) [] H HZ s.heap s1.heap := I1.base
  obtain ⟨⟨oc, vs, t, hoc, hdc, hvc⟩, _, _⟩ := I1.hok c' _ hc
  have rc : codeAny (model X.prog X.w) (X.A.deeper (envOfC qg sg s.heap.objs.size g cdg)) (.call (.ref f) ⟨[], []⟩) (CR (L2.CX X.prog X.w) (envOfC qg sg s.heap.objs.size g cdg :: X.stack) X.prog X.w HZ s1 Q E) s1 := by
    refine PySem.W.kla_callFunE hr.depth of1 rfl L.co L.gen rfl ⟨c', oc, vs, t, rfl, hoc, hdc, hvc⟩ ?_
    rw [hbind]
    refine wpAny_pure (wpAny_newFunctionEnv (fun y hy => (L.own y hy).2) (fun y hy => absurd hy (by simp)) (fun h₁ hns hsb => ⟨I1.nolimit.fresh _ hsb, ?_⟩) L.kind)
    show codeAny _ _ (.expr body (LamX.lamEnv X scope s1.heap.objs.size f c')) _ _
    have kp : ∀ b o, s1.heap.get? b = some o → h₁.get? b = some o := fun b o e => hsb.extBut b o (Nat.ne_of_lt (Heap.lt_size e)) (Heap.get?_push_of_some _ e)
    have J : Inv (LamX.lamCx X (X.A.deeper (envOfC qg sg s.heap.objs.size g cdg)) (envOfC qg sg s.heap.objs.size g cdg :: X.stack) s1 HZ E scope f c') [] σ HZ { s1 with heap := h₁, toks := s1.toks + ([] : List (Str × Value)).length } :=
      LamX.lam_start2 I L I1.env0 hr.hd un hns kp
    refine PySem.W.kla_codeExpr (wpAny_mono ((hbody _ _ s1 HZ (hr.deeper _)).run [] _ _ HZ Q J ht) (fun v s' hq => ?_) fun e s' hq => hq)
    obtain ⟨w', H', J', rv, q⟩ := hq
    exact ⟨w', H', J'.os, J'.bare, J'.base, J'.hok, rv, q⟩
  refine wpAny_call (codeAny_mono rc fun r s' hq => ?_)
  cases r with
  | error e => exact tk e s' (XE.of_call I1 (fun cls d H' h => hW cls d H' h) hq)
  | ok fl =>
    cases fl with
    | ret u => exact I1.after hq
    | next => exact False.elim hq
    | brk => exact False.elim hq
    | cont => exact False.elim hq
end
/-- a told def of the text -/
structure ToldOk (γ : GC) (K : PySem.W.Frag) (mg : Str → Option Value) (xn : List Str) (y : Str) (fi : Nat) (t : TSp) : Prop where
  gl : mg y = some (.ref (γ.fad fi))
  kp : PySem.W.keepIn K (.ref (γ.fad fi)) = true
  ex : ∃ (fd : FuncData) (x qual : Str) (st : Stmt) (N ps : List Str), Fun K x qual st (γ.fad fi) fd ∧ FnScope N ps (defScope st) ∧ L2.Binds K fd ps [] ∧ ps.length = t.np ∧ N.length = 2 ∧ toldB xn γ.xfl N (defScope st) t (defBody st) = true
  np : 1 ≤ t.np ∧ t.np ≤ 2
  cl : ClOk γ K mg xn t
section
variable {γ : GC} {T : TabL} {E : XK} {X : Cx} {gl : List D} {cf : Nat → List D → Res (D × List D)} {K : PySem.W.Frag} {H H' H1 : Hp} {O O' : OM}
def O0 : OM := fun _ => none
theorem rs_fz {env : EnvI} {σ : L2.St} (R : RS γ K H O env σ) : RS γ K H O0 (Mi.fzE env) σ where
  od := fun a t h => by cases h
  len := by rw [← R.len]; exact List.length_map ..
  sz := by
    show (env.map _).length < tT
    rw [List.length_map]
    exact R.sz
  at_ := fun i d e => by
    have e : (env.map fun o => o.map D.fz)[i]? = some (some d) := e
    rw [List.getElem?_map] at e
    cases q : env[i]? with
    | none => rw [q] at e; cases e
    | some o =>
      rw [q] at e
      cases o with
      | none => cases e
      | some d0 =>
        have e : some (some d0.fz) = some (some d) := e
        cases e
        obtain ⟨v, h1, h2⟩ := R.at_ i d0 q
        refine ⟨v, h1, ?_⟩
        have k : KeepN H O H O0 := fun a o h _ _ => ⟨h, rfl⟩
        cases d0 with
        | lst o xs =>
          obtain ⟨a, vs, e1, e2, e3, e4⟩ := h2
          exact ⟨a, vs, e1, e2, rfl, VRs.step R.od k xs e4⟩
        | dct o tk kvs =>
          cases tk with
          | false =>
            obtain ⟨a, vs, e1, e2, e3, e4⟩ := h2
            exact ⟨a, vs, e1, e2, rfl, KRs.step R.od k kvs e4⟩
          | true =>
            obtain ⟨a, vs, e1, e2, e3, e4⟩ := h2
            exact ⟨a, vs, e1, e2, rfl, TRs.step R.od k kvs e4⟩
        | ins o c fs => exact h2.elim
        | tup xs => exact VR.stepN R.od k _ rfl h2
        | scr ns => exact VR.stepN R.od k _ rfl h2
        | non => exact h2
        | bl b => exact h2
        | int i => exact h2
        | str s => exact h2
        | fn i => exact h2
        | tok d => exact h2
        | tex x as => exact h2
theorem keep_p (h : ∀ a o, H a = some o → noTbl o → H' a = some o) : PstP H O H' O := ⟨h, fun _ _ _ _ z => z, fun _ _ z _ => z⟩
theorem keep_od (d : OD H O) (h : ∀ a o, H a = some o → noTbl o → H' a = some o) : OD H' O := fun a t q => by
  obtain ⟨o, e, m⟩ := d a t q
  exact ⟨o, h a o e (d.noTbl q e), m⟩
/-- what the evaluator told -/
theorem lam_inv {fi : Nat} {b : Mi.E} {es : List Mi.E} {nm : List D} {env : EnvI} {σ : L2.St} {Q : VK} (he : Mi.evs gl cf es env = .ok (nm, env)) (P : PoE γ K T E H O σ false false (Mi.ev gl cf (.lam fi b es) env) Q) :
    ∃ r d outs, cf fi (r :: nm) = .ok (d, outs) ∧ ((∃ d0 e0, Mi.ev gl cf b (Mi.fzE env) = .ok (d0, e0) ∧ r = .tok d0.fz) ∨ ∃ x as, Mi.ev gl cf b (Mi.fzE env) = .exc x as ∧ r = .tex x as) ∧ PoE γ K T E H O σ false false (.ok (d, env)) Q := by
  have main : ∀ r, PoE γ K T E H O σ false false ((Mi.evs gl cf es env).bind fun p => (Mi.noX (cf fi (r :: p.1))).bind fun q => .ok (q.1, p.2)) Q → ∃ d outs, cf fi (r :: nm) = .ok (d, outs) ∧ PoE γ K T E H O σ false false (.ok (d, env)) Q := fun r P => by
    rw [he, bind_ok] at P
    have P : PoE γ K T E H O σ false false ((Mi.noX (cf fi (r :: nm))).bind fun q => .ok (q.1, env)) Q := P
    cases q : cf fi (r :: nm) with
    | ok p =>
      rw [q] at P
      exact ⟨p.1, p.2, rfl, P⟩
    | exc x as => rw [q] at P; exact P.elim
    | stk => rw [q] at P; exact P.elim
  cases q : Mi.ev gl cf b (Mi.fzE env) with
  | ok p =>
    obtain ⟨d0, e0⟩ := p
    have e : Mi.ev gl cf (.lam fi b es) env = (Mi.evs gl cf es env).bind fun p => (Mi.noX (cf fi (.tok d0.fz :: p.1))).bind fun q => .ok (q.1, p.2) := by simp only [Mi.ev, q]
    rw [e] at P
    obtain ⟨d, outs, h1, h2⟩ := main _ P
    exact ⟨_, d, outs, h1, .inl ⟨d0, e0, rfl, rfl⟩, h2⟩
  | exc x as =>
    have e : Mi.ev gl cf (.lam fi b es) env = (Mi.evs gl cf es env).bind fun p => (Mi.noX (cf fi (.tex x as :: p.1))).bind fun q => .ok (q.1, p.2) := by simp only [Mi.ev, q]
    rw [e] at P
    obtain ⟨d, outs, h1, h2⟩ := main _ P
    exact ⟨_, d, outs, h1, .inr ⟨x, as, rfl, rfl⟩, h2⟩
  | stk =>
    have e : Mi.ev gl cf (.lam fi b es) env = .stk := by simp only [Mi.ev, q]
    rw [e] at P
    exact P.elim
/-- the argument behind the lambda -/
inductive LArg : List Mi.E → List Expr → List D → List V → Prop
  | nil : LArg [] [] [] []
  | one {t : List Nat} {j : Nat} {p : Pos} : LArg [.c (.str t)] [.Constant (.str (mkS t)) j p] [.str t] [.str (mkS t)]
theorem LArg.evs {es : List Mi.E} {xs : List Expr} {nm : List D} {vs : List V} (h : LArg es xs nm vs) (env : EnvI) : Mi.evs gl cf es env = .ok (nm, env) := by
  cases h with
  | nil => simp only [Mi.evs]
  | one =>
    simp only [Mi.evs, Mi.ev] <;> rfl
theorem LArg.nm {es : List Mi.E} {xs : List Expr} {nm : List D} {vs : List V} (h : LArg es xs nm vs) : NmOk nm := by
  cases h with
  | nil => exact .inl rfl
  | one => exact .inr ⟨_, rfl⟩
theorem LArg.len {es : List Mi.E} {xs : List Expr} {nm : List D} {vs : List V} (h : LArg es xs nm vs) : vs.length = nm.length := by
  cases h <;> rfl
theorem df_of {Z : Cx} {d : D} {xd : Expr} (h : dfB d xd = true) : ∃ dv, (∀ K H, AnsR γ K H d dv) ∧ PE Z xd (tC dv) := by
  unfold dfB at h
  split at h
  · exact ⟨.non, fun K H O t => rfl, pe_non⟩
  · rename_i b1 b2 _ _
    have : b1 = b2 := by simpa using h
    subst this
    exact ⟨.bl b1, fun K H O t => rfl, pe_bl⟩
  · cases h
/-- the told def runs -/
theorem told_call {xn : List Str} {y : Str} {fi k : Nat} {t : TSp} {b : Mi.E} {es : List Mi.E} {xs : List Expr} {nm : List D} {nvs : List V} {us : List Value} {params : Arguments} {body : Expr} {scope : Scope} {f c' : Addr} {pm ctv : Value} {pins : List (Addr × Obj)} {σ : L2.St} {s : Shared} {env : EnvI} {d : D} {r : D} {Q : VK}
    (TO : ToldOk γ X.K X.mg xn y fi t) (LA : LArg es xs nm nvs) (hu : Vals nvs us) (tell : TellR t nm d r) (hnp : nm.length + 1 = t.np)
    (I : Inv X pins σ H1 s) (L : LamX.LamS X.env.scope scope) (hf : s.heap.get? f = some (PySem.W.kla_obj "<lambda>" (X.env.qual ++ "<lambda>") params body scope (cloFrom X.env.cells scope.names []) pm c' ctv)) (hfn : H1 f = none) (hfr : f ∉ frs X.stack)
    (hco : H1 c' = some (LamX.CodeO c' (X.env.qual ++ "<lambda>"))) (hbind : bindArgs (PySem.W.kla_fn "<lambda>" (X.env.qual ++ "<lambda>") params body scope (cloFrom X.env.cells scope.names []) pm (.ref c') ctv) ⟨[], []⟩ = pure [])
    (hr : Room (k + 2) X.A) (hbody : ∀ (A : Around) (outer : List Env) (s : Shared) (H : Hp) (E : XK), Room k (A.deeper (LamX.lamEnv X scope s.heap.objs.size f c')) → PE (LamX.lamCx X A outer s H E scope f c') body (tE γ X.K T E (Mi.ev gl cf b) false (Mi.vw b)))
    (R : RS γ X.K H1 O env σ) (Tb : LamX.Tabs T H1)
    (hev : (∃ d0 e0, Mi.ev gl cf b (Mi.fzE env) = .ok (d0, e0) ∧ r = .tok d0.fz) ∨ ∃ x as, Mi.ev gl cf b (Mi.fzE env) = .exc x as ∧ r = .tex x as)
    (q : ∀ v H', (∀ a o, H1 a = some o → noTbl o → H' a = some o) → AnsR γ X.K H' d v → LamX.Tabs T H' → Q v H') :
    codeAny (model X.prog X.w) X.A (.call (.ref (γ.fad fi)) ⟨.ref f :: us, []⟩) (CR C8.CX0 X.stack X.prog X.w H1 s Q C8.E0) s := by
  obtain ⟨fd, x, qual, st, N, ps, F, S, B, hps, hNl, hB⟩ := TO.ex
  obtain ⟨oc, od, kV, doc, pmg, an, cdv, ct, osl, rfl, lk, hcd⟩ := F.ex
  have hlen : (V.ref f :: nvs).length = ps.length := by
    rw [List.length_cons, LA.len, hnp, hps]
  refine LamX.run_ofS (N := N) (ps := ps) (us := .ref f :: us) (vs := .ref f :: nvs) lk hcd S hr I.env0 ?_ (.cons rfl hu) hlen fun hr' => ?_
  · have := B s (.ref f :: us) I.kIn (by rw [List.append_nil, List.length_cons, ← hu.length]; exact hlen)
    rwa [List.append_nil] at this
  unfold toldB at hB
  split at hB
  · rename_i a pa pc pe h₀ hds pt xd pr hbd
    rw [hbd]
    obtain ⟨hB, b3⟩ := and3 hB
    obtain ⟨b1, b2⟩ := and3 hB
    obtain ⟨n1, n2, n3, n4⟩ := loc_is b1
    have HS : HsOk (cxOf C8.CX0 X.prog X.w X.K X.mg X.base N qual (defScope st) (γ.fad fi) cdv X.A X.stack s H1 C8.E0).nox (h₀ :: hds) (hlOf γ t.hs) := hds_ok (X := (cxOf C8.CX0 X.prog X.w X.K X.mg X.base N qual (defScope st) (γ.fad fi) cdv X.A X.stack s H1 C8.E0).nox) (N := N) (sc := defScope st) rfl rfl TO.cl t.hs (h₀ :: hds) (fun h hh => hh) b2
    obtain ⟨dv, hdv, hpe⟩ := df_of (γ := γ) (Z := (cxOf C8.CX0 X.prog X.w X.K X.mg X.base N qual (defScope st) (γ.fad fi) cdv X.A X.stack s H1 C8.E0).nox) b3
    have hσ : 1 < (L2.start N (V.ref f :: nvs)).length := by
      unfold L2.start
      rw [List.length_append, List.length_map, List.length_replicate, hlen, hps]
      have := TO.np
      omega
    refine ⟨_, (pss_cons (try_hs (X := (cxOf C8.CX0 X.prog X.w X.K X.mg X.base N qual (defScope st) (γ.fad fi) cdv X.A X.stack s H1 C8.E0).nox) (Wout := fun _ _ _ _ => False)
      (tb := fun W D σZ HZ => ∃ Ech : XK, (∀ cls d H', Ech cls d H' → W cls d (L2.start N (V.ref f :: nvs)) H') ∧ σZ = L2.start N (V.ref f :: nvs) ∧ (L2.start N (V.ref f :: nvs))[0]? = some (some (.ref f)) ∧ HZ c' = some (LamX.CodeO c' (X.env.qual ++ "<lambda>")) ∧
        tE γ X.K T Ech (Mi.ev gl cf b) false (Mi.vw b) σ HZ (fun _ H' => D.nx (L2.start N (V.ref f :: nvs)) H'))
      rfl rfl S.nd LamX.takes0 (fun W pn xe tk _ => ?_) HS) (pss_one (ps_ret hpe))).nox, ?_⟩
    · refine ⟨fun pinsZ sZ σZ HZ D IZ h => ?_⟩
      obtain ⟨Ech, hW, es, h1, h2, h3⟩ := h
      have hp := pe_act2 (CXg := C8.CX0) (Eg := C8.E0) (Ng := N) (p1 := pa) (p2 := pc) (tb := tE γ X.K T Ech (Mi.ev gl cf b) false (Mi.vw b)) I L hf hfn hfr hbind tk hW hr' (fun A outer s H hr2 => hbody A outer s H Ech hr2) n1 (.inl n2) n3 n4
      subst es
      exact (pss_one (ps_expr (pos := pe) hp)).run pinsZ sZ _ HZ D IZ ⟨rfl, h1, h2, h3⟩
    · refine ⟨fun cls d H' => wHs X.K (fun _ _ _ _ => False) { nx := fun _ H' => Q dv H', rt := Q } (hlOf γ t.hs) cls d (L2.start N (V.ref f :: nvs)) H', fun cls d H' h => h, rfl, rfl, hco, Mi.fzE env, O0, rs_fz R, Tb, ?_⟩
      rcases hev with ⟨d0, e0, h1, h2⟩ | ⟨x, as, h1, h2⟩
      · rw [h1]
        subst h2
        have tell : d = t.df := tell
        intro v H' O' tt p1 r1 v1 ht Tb'
        have p1 : PstP H1 O0 H' O' := p1
        rw [tell] at q
        exact q dv H' p1.all (hdv _ H') Tb'
      · rw [h1]
        subst h2
        have tell : tellH nm x as t.hs = some d := tell
        intro cls dx H' hpx hxr Tb'
        refine whs_of TO.cl hxr hσ (fun s2 e => ?_) (fun v H'' k w => ?_) (tell_mem tell) t.hs (fun h hh => hh) tell
        · cases LA with
          | nil => cases e
          | one =>
            cases e
            rfl
        · exact q v H'' (fun a o h1 h2 => k a o (hpx a o h1 (.inl rfl) h2)) w (Tb'.ext k)
  · cases hB
/-- told(lambda: body), told(lambda: body, name) -/
theorem e_lam {xn : List Str} {y : Str} {fi k : Nat} {t : TSp} {b : Mi.E} {es : List Mi.E} {xs : List Expr} {nm : List D} {nvs : List V} {params : Arguments} {body : Expr} {scope : Scope} {c P : Addr} {p lpos pos : Pos}
    (TO : ToldOk γ X.K X.mg xn y fi t) (LA : LArg es xs nm nvs) (hg : Gl X y) (hdb : (y == ("__debug__" : Str)) = false) (tell : ∀ r d outs, cf fi (r :: nm) = .ok (d, outs) → TellR t nm d r ∧ nm.length + 1 = t.np)
    (TB : LamX.TabB X.base X.mg c P) (hcode : X.env.code = .ref c) (hmT : (P, X.env.qual ++ "<lambda>") ∈ T) (hu : ∀ p ∈ T, p.1 = P → p.2 = X.env.qual ++ "<lambda>") (hr : Room (k + 2) X.A) (L : LamX.LamS X.env.scope scope) (hdef : defaultsOf params X.env = ([], []))
    (hbind : ∀ (q : Str) (cl : List (Str × Addr)) (pm cv ctv : Value), bindArgs (PySem.W.kla_fn "<lambda>" q params body scope cl pm cv ctv) ⟨[], []⟩ = pure [])
    (hbody : ∀ (A : Around) (outer : List Env) (s : Shared) (H : Hp) (E : XK) (f c' : Addr), Room k (A.deeper (LamX.lamEnv X scope s.heap.objs.size f c')) → PE (LamX.lamCx X A outer s H E scope f c') body (tE γ X.K T E (Mi.ev gl cf b) false (Mi.vw b))) :
    PE X (.Call (.Name y p) (.Lambda params body scope lpos :: xs) [] pos) (tE γ X.K T E (Mi.ev gl cf (.lam fi b es)) false false) := by
  refine ⟨fun pins s σ H Q I h => ?_⟩
  obtain ⟨env, O, R, Tb, h⟩ := h
  obtain ⟨r, d, outs, e1, hev, QQ⟩ := lam_inv (LA.evs env) h
  obtain ⟨te, hnp⟩ := tell r d outs e1
  refine wpAny_Call_Name_kw (ld_glob I hg TO.gl ?_ hdb)
  refine PySem.W.callWith_K (h₀ := X.base) I.ok.mod.kin TO.kp ?_ (by rfl) (by cases LA <;> rfl)
  show wpAny _ _ (spliced ((false, eval (.Lambda params body scope lpos) X.env) :: backTo pos (starEach xs X.env))) _ _ s
  refine Calls.spliced_cons (LamX.lam_make2 I TB hcode hmT hu Tb hdef (L.has I.ok) fun f c' pm' ctv H1 s' I1 eN T1 hf hfn hfr hco => ?_)
  have keep1 : ∀ a o, H a = some o → noTbl o → H1 a = some o := fun a o h n => eN a o h n
  have R1 : RS γ X.K H1 O env σ := R.pure (keep_od R.od keep1) (keep_p keep1)
  have fin : ∀ {s2 : Shared} {us : List Value}, s2.heap = s'.heap → Inv X pins σ H1 s2 → Vals nvs us → wpAny (model X.prog X.w) X.A (call (.ref (γ.fad fi)) ([] ++ .ref f :: us)) (EP X pins σ Q) X.xe s2 := fun {s2 us} eh I2 hv => by
    have rc := told_call (b := b) (env := env) (O := O) (Q := Q) (T := T) (gl := gl) (cf := cf) TO LA hv te hnp I2 L (by rw [eh]; exact hf) hfn hfr hco (hbind _ _ _ _ _) hr (fun A outer s H E hr2 => hbody A outer s H E f c' hr2) R1 T1 hev (fun v H' k w Tb' =>
      QQ v H' O tmp (PstB.of (keep_p fun a o h n => k a o (keep1 a o h n) n) R.od) (R1.pure (keep_od R1.od k) (keep_p k)) (w _ _) (fun _ => rfl) Tb')
    refine wpAny_call (codeAny_mono rc fun r s2 hq => ?_)
    cases r with
    | error e => exact (show False from hq).elim
    | ok fl =>
      cases fl with
      | ret u => exact I2.after hq
      | next => exact False.elim hq
      | brk => exact False.elim hq
      | cont => exact False.elim hq
  cases LA with
  | nil => exact Calls.spliced_nil ⟨I1.kIn, fin rfl I1 .nil⟩
  | @one t2 j2 p2 =>
    refine Calls.spliced_cons (Calls.Constant_str (k := j2) (pos := p2) (Calls.spliced_nil ⟨I1.kIn, fin rfl (I1.tok _) (.cons ⟨_, rfl⟩ .nil)⟩))
end
end MiS

set_option Elab.async false
set_option linter.all false
set_option maxRecDepth 100000
set_option maxHeartbeats 4000000
/-! MiS: list(range(n)), tuple(range(n)), xs.index(x), x[k] op= e, x[::-1] of a tuple -/
namespace MiS
open PySem PySem.Spec PyProof.Rows L2
open Mi (D Res Fl)
section
variable {γ : GC} {T : TabL} {E : XK} {X : Cx} {K : PySem.W.Frag} {H H' H1 : Hp} {O O' O1 : OM} {gl : List D} {cf : Nat → List D → Res (D × List D)} {io : List Nat}
theorem VRs.ofInts : ∀ ns : List Int, VRs γ K H O (ns.map D.int) (ns.map V.int)
  | [] => rfl
  | n :: r => ⟨_, _, rfl, rfl, rfl, VRs.ofInts r⟩
theorem rangeD_map : ∀ (n : Nat) (a : Int), Mi.rangeD a n = ((List.range n).map fun i => a + (i : Nat)).map D.int
  | 0, a => rfl
  | n + 1, a => by
    rw [List.range_succ_eq_map, List.map_cons, List.map_map, List.map_cons]
    show D.int a :: Mi.rangeD (a + 1) n = _
    rw [rangeD_map n (a + 1)]
    congr 1
    · show D.int a = D.int (a + ((0 : Nat) : Int))
      simp
    · rw [List.map_map, List.map_map]
      refine List.map_congr_left fun i _ => ?_
      show D.int (a + 1 + (i : Nat)) = D.int (a + ((i + 1 : Nat) : Int))
      congr 1
      omega
theorem rangeD_vr (b : Int) : VRs γ K H O (Mi.rangeD 0 b.toNat) (rgV 0 b) := by
  rw [rangeD_map]
  unfold rgV
  rw [Int.sub_zero]
  have : ((List.range b.toNat).map fun i : Nat => V.int (0 + (i : Int))) = ((List.range b.toNat).map fun i : Nat => (0 : Int) + (i : Int)).map V.int := by
    rw [List.map_map]
    rfl
  rw [this]
  exact VRs.ofInts _
theorem rng_small {b : Int} (h : Mi.rngOk 0 b = true) : RgOk 0 b := by
  unfold Mi.rngOk at h
  simp only [Bool.and_eq_true, decide_eq_true_eq] at h
  exact ⟨by omega, by omega, by omega, by omega, by omega⟩
theorem ev_bi1 {b : Mi.B} {e : Mi.E} {env : EnvI} : Mi.ev gl cf (.bi b [e]) env = (Mi.ev gl cf e env).bind fun p => (Res.of (Mi.biD b [p.1])).bind fun d => .ok (d, p.2) := by
  simp only [Mi.ev, Mi.evb]
  cases Mi.ev gl cf e env <;> rfl
theorem e_lrg1 {e : Mi.E} {xe : Expr} {p p2 pos pos2 : Pos} (hc : X.calm = true) (hg : Gl X "list") (hm : X.mg "list" = none) (hg2 : Gl X "range") (hm2 : X.mg "range" = none) (he : PE X xe (tE γ X.K T E (Mi.ev gl cf e) (mu e) (Mi.vw e))) (hs : ∀ env, starEach [xe] env = (false, eval xe env) :: starEach [] env) :
    PE X (.Call (.Name "list" p) [.Call (.Name "range" p2) [xe] [] pos2] [] pos) (tE γ X.K T E (Mi.ev gl cf (.bi .lrange1 [e])) (mus [e]) false) := by
  refine PE.weak (pe_listRg hc hg hm (prg_1 hg2 hm2 he (hs X.env))) fun σ H Q h => ?_
  have h : tE γ X.K T E (Mi.ev gl cf (.bi .lrange1 [e])) (mu e) false σ H Q := by
    have : mus [e] = mu e := by
      show (mu e || false) = mu e
      rw [Bool.or_false]
    rwa [this] at h
  refine op1_gen (R1 := fun x H1 Q => ∃ n, x = .int n ∧ (RgOk 0 n ∧ ∀ q, H1 q = none → Q (.ref q) (upd H1 q (.lst (rgV 0 n))))) (h := fun x e => (Res.of (Mi.biD .lrange1 [x])).bind fun d => .ok (d, e)) (fun env => ev_bi1) (fun H O σ env x v t Q R hx _ Tb P => ?_) σ H Q h
  cases x with
  | int n =>
    have P : PoE γ X.K T E H O σ false false ((Res.of (if Mi.rngOk 0 n = true then some (D.lst true (Mi.rangeD 0 n.toNat)) else none)).bind fun d => .ok (d, env)) Q := P
    by_cases q : Mi.rngOk 0 n = true
    · rw [if_pos q] at P
      exact ⟨n, hx, rng_small q, fun p hp => P _ _ (ownP O p) tmp (newO_s R.od hp).p (R.s (newO_od R.od hp trivial) (newO_s R.od hp)) (new_lst R.od hp (rangeD_vr n)) (fun _ => rfl) (tabs_s (newO_s R.od hp) Tb)⟩
    · rw [if_neg q] at P
      exact P.elim
  | _ => exact P.elim
theorem e_trg1 {e : Mi.E} {xe : Expr} {p p2 pos pos2 : Pos} (hc : X.calm = true) (hg : Gl X "tuple") (hm : X.mg "tuple" = none) (hg2 : Gl X "range") (hm2 : X.mg "range" = none) (he : PE X xe (tE γ X.K T E (Mi.ev gl cf e) (mu e) (Mi.vw e))) (hs : ∀ env, starEach [xe] env = (false, eval xe env) :: starEach [] env) :
    PE X (.Call (.Name "tuple" p) [.Call (.Name "range" p2) [xe] [] pos2] [] pos) (tE γ X.K T E (Mi.ev gl cf (.bi .trange1 [e])) (mus [e]) false) := by
  refine PE.weak (pe_tupRg hc hg hm (prg_1 hg2 hm2 he (hs X.env))) fun σ H Q h => ?_
  have h : tE γ X.K T E (Mi.ev gl cf (.bi .trange1 [e])) (mu e) false σ H Q := by
    have : mus [e] = mu e := by
      show (mu e || false) = mu e
      rw [Bool.or_false]
    rwa [this] at h
  refine op1_gen (R1 := fun x H1 Q => ∃ n, x = .int n ∧ (RgOk 0 n ∧ ∀ q, H1 q = none → Q (.ref q) (upd H1 q (.tup (rgV 0 n))))) (h := fun x e => (Res.of (Mi.biD .trange1 [x])).bind fun d => .ok (d, e)) (fun env => ev_bi1) (fun H O σ env x v t Q R hx _ Tb P => ?_) σ H Q h
  cases x with
  | int n =>
    have P : PoE γ X.K T E H O σ false false ((Res.of (if Mi.rngOk 0 n = true then some (D.tup (Mi.rangeD 0 n.toNat)) else none)).bind fun d => .ok (d, env)) Q := P
    by_cases q : Mi.rngOk 0 n = true
    · rw [if_pos q] at P
      exact ⟨n, hx, rng_small q, fun p hp => P _ _ O tmp (new_s R.od hp).p (R.s (new_od R.od hp) (new_s R.od hp)) (new_tup R.od hp (rangeD_vr n)) (fun _ => rfl) (tabs_s (new_s R.od hp) Tb)⟩
    · rw [if_neg q] at P
      exact P.elim
  | _ => exact P.elim
end
end MiS

set_option Elab.async false
set_option linter.all false
set_option maxRecDepth 100000
set_option maxHeartbeats 4000000
/-! MiS: x[::-1] of a tuple -/
namespace MiS
open PySem PySem.Spec PyProof.Rows L2
open Mi (D Res Fl)
section
variable {prog : Program} {w : World} {A : Around} {E : Value → Shared → Prop} {s : Shared}
theorem sliceApplied_rev {sl : Addr} {vs : Value} {n : Nat} {Q : Int × Int × Nat → Shared → Prop} (hs : s.heap.IsSliceOf sl .none .none vs) (ps : IsPart vs (some (-1)))
    (h : Q ((n : Int) - 1, -1, n) s) : wpAny (model prog w) A (Builtin.Slice.sliceApplied (.ref sl) (pure (n : Int))) Q E s := by
  obtain ⟨os, hos, hcs, hds⟩ := id hs
  unfold Builtin.Slice.sliceApplied Builtin.Slice.sliceFields
  refine wpAny_bind (wpAny_bind (wpAny_field hos hds (x := .none) rfl (wpAny_bind (wpAny_field hos hds (x := .none) rfl (wpAny_bind (wpAny_field hos hds (x := vs) rfl (wpAny_pure ?_)))))))
  refine wpAny_bind (HT.slicePart_ ps ?_)
  show wpAny _ _ (if ((-1 : Int) == 0) = true then _ else _) _ _ s
  rw [if_neg (by decide)]
  refine wpAny_bind (PyProof.Rows.slicePart_none (wpAny_bind (PyProof.Rows.slicePart_none (wpAny_bind (wpAny_pure ?_)))))
  have e1 : Builtin.Slice.sliceAdjust none none (-1) (n : Int) = ((n : Int) - 1, -1) := rfl
  show wpAny _ _ (match Builtin.Slice.sliceAdjust none none (-1) (n : Int) with | (lo, hi) => pure (lo, (-1 : Int), Builtin.Slice.slicePlaces lo hi (-1))) _ _ s
  rw [e1]
  have e2 : Builtin.Slice.slicePlaces ((n : Int) - 1) (-1) (-1) = n := by
    unfold Builtin.Slice.slicePlaces
    rw [if_neg (by decide)]
    by_cases h : (n : Int) - 1 > -1
    · rw [if_pos h]
      have : ((n : Int) - 1 - -1 - 1) / (- -1) + 1 = (n : Int) := by
        rw [show (- -1 : Int) = 1 by decide, Int.ediv_one]
        omega
      rw [this]
      rfl
    · rw [if_neg h]
      omega
  show wpAny _ _ (pure ((n : Int) - 1, (-1 : Int), Builtin.Slice.slicePlaces ((n : Int) - 1) (-1) (-1))) _ _ s
  rw [e2]
  exact wpAny_pure h
theorem fm_congr {α β : Type} {f g : α → Option β} : ∀ {l : List α}, (∀ a ∈ l, f a = g a) → l.filterMap f = l.filterMap g
  | [], _ => rfl
  | a :: l, h => by
    rw [List.filterMap_cons, List.filterMap_cons, h a List.mem_cons_self, fm_congr fun b hb => h b (List.mem_cons_of_mem _ hb)]
theorem pick_rev (xs : Array Value) : ((List.range xs.size).filterMap fun (m : Nat) => xs[((xs.size : Int) - 1 + (m : Int) * -1).toNat]?).toArray = xs.toList.reverse.toArray := by
  congr 1
  have e : (List.range xs.size).filterMap (fun (m : Nat) => xs[((xs.size : Int) - 1 + (m : Int) * -1).toNat]?) = (List.range xs.size).map fun m => xs.toList.reverse.getD m .none := by
    rw [← List.filterMap_eq_map]
    refine fm_congr fun m hm => ?_
    have hm := List.mem_range.mp hm
    have e1 : ((xs.size : Int) - 1 + (m : Int) * -1).toNat = xs.size - 1 - m := by omega
    rw [e1]
    have h2 : xs.size - 1 - m < xs.size := by omega
    rw [Array.getElem?_eq_getElem h2]
    show some _ = some (xs.toList.reverse.getD m .none)
    rw [List.getD_eq_getElem?_getD, List.getElem?_reverse (by rw [Array.length_toList]; exact hm), Array.length_toList, Array.getElem?_toList, Array.getElem?_eq_getElem h2]
    rfl
  rw [e]
  refine List.ext_getElem? fun i => ?_
  rw [List.getElem?_map]
  by_cases hi : i < xs.size
  · rw [List.getElem?_range hi]
    have : i < xs.toList.reverse.length := by rw [List.length_reverse, Array.length_toList]; exact hi
    rw [List.getElem?_eq_getElem this]
    show some (xs.toList.reverse.getD i .none) = some _
    rw [List.getD_eq_getElem?_getD, List.getElem?_eq_getElem this]
    rfl
  · rw [List.getElem?_eq_none (by rw [List.length_range]; omega), List.getElem?_eq_none (by rw [List.length_reverse, Array.length_toList]; omega)]
    rfl
theorem getItem_tuple_rev {t sl : Addr} {items : Array Value} {vs : Value} {Q : Value → Shared → Prop} (ht : IsTup s.heap t items) (hs : s.heap.IsSliceOf sl .none .none vs) (ps : IsPart vs (some (-1)))
    (h : Q (.ref s.heap.objs.size) { s with heap := s.heap.push { cls := .type "tuple", data := .seq items.toList.reverse.toArray } }) (hsz : items.size ≤ sizeLine) : wpAny (model prog w) A (getItem (.ref t) (.ref sl)) Q E s := by
  have htake : sizeOk (.seq items.toList.reverse.toArray) := by
    show items.toList.reverse.toArray.size ≤ sizeLine
    rw [List.size_toArray, List.length_reverse, Array.length_toList]
    exact hsz
  obtain ⟨os, hos, hcs, hds⟩ := id hs
  have hTs : s.TypeIs (.ref sl) "slice" := ⟨os, hos, hcs⟩
  unfold getItem
  try with_reducible refine wpAny_holding ?_
  first | refine wpAny_bind (wpAny_pure ?_) | skip
  refine wpAny_bind (wpAny_sequenceKey ht.typeIs (by decide) ?_)
  refine wpAny_bind (wpAny_callSpecial?_slot (name := Str.ofString "__getitem__") ht.typeIs PyProof.Rows.slot_tuple_getitem
    (wpAny_call_entry PyProof.Rows.slot_tuple_getitem ht.typeIs entry_tuple_getitem ?_ (args_tuple_getitem _ _)))
  show wpAny _ _ (Builtin.Tuple.tupleItemsOf (.ref t) >>= _) _ _ s
  refine wpAny_bind (tupleItemsOf_ ht ?_)
  refine wpAny_bind (wpAny_typeOf hTs ?_)
  rw [if_pos (by decide)]
  refine wpAny_bind (sliceApplied_rev hs ps ?_)
  have hno : ¬ ((((items.size : Int) - 1) == 0 && (-1 : Int) == 1 && (items.size == items.size)) = true) := by
    intro q
    rw [Bool.and_eq_true, Bool.and_eq_true] at q
    exact absurd q.1.2 (by decide)
  show wpAny _ _ (if (((items.size : Int) - 1) == 0 && (-1 : Int) == 1 && (items.size == items.size)) = true then _ else _) _ _ s
  rw [if_neg hno, pick_rev]
  first
    | exact wpAny_bind (m := Builtin.Tuple.tupleExact _) (wpAny_newObj_type (wpAny_pure ⟨_, rfl, wpAny_pure h⟩) htake)
    | exact wpAny_bind (m := Builtin.Tuple.tupleExact _) (wpAny_newObj_type (wpAny_bind (wpAny_pure (wpAny_pure ⟨_, rfl, wpAny_pure h⟩))) htake)
    | exact wpAny_bind (wpAny_bind (m := Builtin.Tuple.tupleExact _) (wpAny_newObj_type (wpAny_pure (wpAny_pure ⟨_, rfl, wpAny_pure h⟩)) htake))
    | exact wpAny_bind (wpAny_bind (m := Builtin.Tuple.tupleExact _) (wpAny_newObj_type (wpAny_pure ⟨_, rfl, wpAny_pure h⟩) htake))
end
section
variable {γ : GC} {T : TabL} {E : XK} {X : Cx} {gl : List D} {cf : Nat → List D → Res (D × List D)}
/-- x[::-1], a list or a tuple -/
def tRevA (K : PySem.W.Frag) (te : TE) : TE := fun σ H Q => te σ H fun x H1 => (∃ a xs, x = .ref a ∧ SqL K H1 a xs ∧ ∀ p, H1 p = none → Q (.ref p) (upd H1 p (.lst xs.reverse))) ∨
  ∃ a xs, x = .ref a ∧ SqT K H1 a xs ∧ ∀ p, H1 p = none → Q (.ref p) (upd H1 p (.tup xs.reverse))
theorem pe_revA {e : Expr} {te : TE} {k : Nat} {p1 p2 p3 pos : Pos} (he : PE X e te) : PE X (.Subscript e (.Slice none none (some (.UnaryOp .USub (.Constant (.int 1) k p1) p2)) p3) pos) (tRevA X.K te) := by
  refine ⟨fun pins s σ H Q I h => ?_⟩
  refine Subscript_ (thn (he.run pins s σ H _ I h) fun v s1 ⟨x, H1, I1, r1, q1⟩ => ?_)
  have hst : PO X (some (.UnaryOp .USub (.Constant (.int 1) k p1) p2)) (tPart (tUn (rU fun i => .int (-i)) (tC (.int 1)))) := po_some (pe_un un_neg pe_int)
  refine wpAny_Slice (thn (po_none.run pins s1 σ H1 (fun o H2 => o = none ∧ H2 = H1) I1 ⟨rfl, rfl⟩) fun vl s2 ⟨l, H2, I2, pl, el, e2⟩ => ?_)
  subst el e2
  refine thn (po_none.run pins s2 σ H2 (fun o H3 => o = none ∧ H3 = H2) I2 ⟨rfl, rfl⟩) fun vu s3 ⟨u, H3, I3, pu, eu, e3⟩ => ?_
  subst eu e3
  refine thn (hst.run pins s3 σ H3 (fun o H4 => o = some (-1) ∧ H4 = H3) I3 ⟨1, rfl, -1, rfl, rfl, rfl⟩) fun vs s4 ⟨o, H4, I4, ps, eo, e4⟩ => ?_
  subst eo e4
  have I5 : Inv X pins σ H4 { s4 with heap := s4.heap.push { cls := .type "slice", data := .fields #[vl, vu, vs] } } := I4.kept (t' := s4.toks) fun b ob q => Heap.get?_push_of_some _ q
  rcases q1 with ⟨a, xs, ex, hx, q⟩ | ⟨a, xs, ex, hx, q⟩
  · subst ex
    cases r1
    obtain ⟨its, r, ht, hz⟩ := I5.list hx
    have hlen := r.length
    show wpAny (model X.prog X.w) X.A (subscriptTail e (.Slice none none (some (.UnaryOp .USub (.Constant (.int 1) k p1) p2)) p3) (.ref a) (.ref s4.heap.objs.size)) (EP X pins σ Q) X.xe { s4 with heap := s4.heap.push { cls := .type "slice", data := .fields #[vl, vu, vs] } }
    refine tail_any (ops := [.ref a, .ref s4.heap.objs.size]) ht.isList.typeIs (PySem.slot_list_getitem.lookup) ?_ (by with_unfolding_all rfl)
    refine wpAny_getItem_list_slice ht.isList (Heap.IsSliceOf.new _ vl vu vs) pl pu ps (by decide) ?_ (by rw [List.size_toArray]; omega)
    rw [PySem.W.krv_pick]
    refine ⟨.ref _, _, I5.laid (t' := s4.toks) (o := .lst xs.reverse) (fun b ob q => Heap.get?_push_of_some _ q) (Nat.le_refl _) ?_, rfl, q _ (I5.hok.fresh (Nat.le_refl _))⟩
    exact ⟨by rw [List.length_reverse]; exact hz, _, 0, r.reverse, Heap.get?_push_size _ rfl⟩
  · subst ex
    cases r1
    cases pl
    cases pu
    obtain ⟨its, r, ht, hz⟩ := I5.tuple hx
    have hlen := r.length
    show wpAny (model X.prog X.w) X.A (subscriptTail e (.Slice none none (some (.UnaryOp .USub (.Constant (.int 1) k p1) p2)) p3) (.ref a) (.ref s4.heap.objs.size)) (EP X pins σ Q) X.xe { s4 with heap := s4.heap.push { cls := .type "slice", data := .fields #[.none, .none, vs] } }
    refine tail_any (ops := [.ref a, .ref s4.heap.objs.size]) ht.typeIs (slot_tuple_getitem.lookup) ?_ (by with_unfolding_all rfl)
    refine getItem_tuple_rev ht (Heap.IsSliceOf.new _ .none .none vs) ps ?_ (by rw [List.size_toArray]; omega)
    refine ⟨.ref _, _, I5.laid (t' := s4.toks) (o := .tup xs.reverse) (fun b ob q => Heap.get?_push_of_some _ q) (Nat.le_refl _) ?_, rfl, q _ (I5.hok.fresh (Nat.le_refl _))⟩
    exact ⟨by rw [List.length_reverse]; exact hz, _, r.reverse, IsTup.new _ _⟩
theorem e_revA {a : Mi.E} {xa : Expr} {k : Nat} {q1 q2 q3 pos : Pos} (ha : PE X xa (tE γ X.K T E (Mi.ev gl cf a) (mu a) (Mi.vw a))) :
    PE X (.Subscript xa (.Slice none none (some (.UnaryOp .USub (.Constant (.int 1) k q1) q2)) q3) pos) (tE γ X.K T E (Mi.ev gl cf (.rev a)) (mu (.rev a)) (Mi.vw (.rev a))) := by
  refine PE.weak (pe_revA ha) (op1_gen (f := Mi.ev gl cf (.rev a)) (ba := mu a) (vf := false) (R1 := fun x H1 Q => (∃ a xs, x = .ref a ∧ SqL X.K H1 a xs ∧ ∀ p, H1 p = none → Q (.ref p) (upd H1 p (.lst xs.reverse))) ∨
    ∃ a xs, x = .ref a ∧ SqT X.K H1 a xs ∧ ∀ p, H1 p = none → Q (.ref p) (upd H1 p (.tup xs.reverse))) (h := fun x e => (Res.of (Mi.revD x)).bind fun d => .ok (d, e)) (fun env => by simp only [Mi.ev]) fun H O σ env x v t Q R hx _ Tb P => ?_)
  cases x with
  | lst o xs =>
    obtain ⟨a, vs, rfl, h1, _, h2⟩ := hx
    exact .inl ⟨a, vs, rfl, .inl (.inl h1), fun p hp => P _ _ (ownP O p) tmp (newO_s R.od hp).p (R.s (newO_od R.od hp trivial) (newO_s R.od hp)) (new_lst R.od hp h2.rev) (fun _ => rfl) (tabs_s (newO_s R.od hp) Tb)⟩
  | tup xs =>
    obtain ⟨a, vs, rfl, h1, h2⟩ := hx
    exact .inr ⟨a, vs, rfl, .inl (.inl h1), fun p hp => P _ _ O tmp (new_s R.od hp).p (R.s (new_od R.od hp) (new_s R.od hp)) (new_tup R.od hp h2.rev) (fun _ => rfl) (tabs_s (new_s R.od hp) Tb)⟩
  | _ => exact P.elim
end
end MiS

set_option Elab.async false
set_option linter.all false
set_option maxRecDepth 100000
set_option maxHeartbeats 4000000
/-! MiS: xs.index(x), x[k] op= e -/
namespace MiS
open PySem PySem.Spec PyProof.Rows L2
open Mi (D Res Fl)
section
variable {γ : GC} {T : TabL} {E : XK} {X : Cx} {K : PySem.W.Frag} {H H' H1 : Hp} {O O' O1 : OM} {gl : List D} {cf : Nat → List D → Res (D × List D)} {io : List Nat}
theorem toPys_map : ∀ xs : List D, toPys xs = xs.map toPy
  | [] => rfl
  | x :: r => by
    show toPy x :: toPys r = _
    rw [toPys_map r]
    rfl
theorem okNs_at {n : Nat} : ∀ {xs : List D} {i : Nat} {x : D}, Mi.okNs n xs = true → xs[i]? = some x → Mi.okN n x = true
  | [], i, x, _, h => by simp at h
  | y :: r, 0, x, h, e => by
    cases e
    exact (Bool.and_eq_true_iff.mp (show (Mi.okN n y && Mi.okNs n r) = true from h)).1
  | y :: r, i + 1, x, h, e => okNs_at (Bool.and_eq_true_iff.mp (show (Mi.okN n y && Mi.okNs n r) = true from h)).2 e
theorem idxD_spec {a : D} : ∀ {xs : List D} {n m : Nat}, Mi.idxD a xs n = some m → ∃ j z, m = n + j ∧ xs[j]? = some z ∧ Mi.eqD z a = true ∧ ∀ (i : Nat) (z' : D), i < j → xs[i]? = some z' → Mi.eqD z' a = false
  | [], n, m, h => by cases h
  | y :: r, n, m, h => by
    have h : (if Mi.eqD y a = true then some n else Mi.idxD a r (n + 1)) = some m := h
    by_cases q : Mi.eqD y a = true
    · rw [if_pos q] at h
      cases h
      exact ⟨0, y, rfl, rfl, q, fun i z' hi => absurd hi (Nat.not_lt_zero _)⟩
    · rw [if_neg q] at h
      obtain ⟨j, z, e, h1, h2, h3⟩ := idxD_spec h
      refine ⟨j + 1, z, by omega, h1, h2, fun i z' hi e => ?_⟩
      cases i with
      | zero =>
        cases e
        exact Bool.eq_false_iff.mpr q
      | succ i => exact h3 i z' (by omega) e
theorem e_index {a k : Mi.E} {xa xk : Expr} {pa pos : Pos} {kk : Nat} (hr : Room kk X.A) (ha : PE X xa (tE γ X.K T E (Mi.ev gl cf a) (mu a) (Mi.vw a))) (hk : PE X xk (tE γ X.K T E (Mi.ev gl cf k) (mu k) (Mi.vw k))) (hc : Mi.vw a = false ∨ mu k = false) (s1 : ∀ env, starEach [xk] env = (false, eval xk env) :: starEach [] env)
    (hb : attributeBase xa "index" X.env (eval xa X.env) = eval xa X.env) (hl : (pa.endLine == pos.line) = true) : PE X (.Call (.Attribute xa "index" pa) [xk] [] pos) (tE γ X.K T E (Mi.ev gl cf (.mth .index a k)) (mu (.mth .index a k)) (Mi.vw (.mth .index a k))) := by
  refine PE.weak (pe_bm PySem.F.plainAttrs_list PySem.F.slot_list_index PySem.F.type_list_index (mt_indexD (room64 hr)) ha (pa_cons hk pa_nil (s1 X.env)) hb (by rw [s1]; rfl) hl (s1 X.env) rfl) fun σ H Q ⟨env, O, R, Tb, P⟩ => ?_
  refine ⟨env, O, R, Tb, ?_⟩
  have P : PoE γ X.K T E H O σ (mu a || mu k) false ((Mi.ev gl cf a env).bind fun p => if p.1.isLst = true then (Mi.ev gl cf k p.2).bind fun q => (Res.of (Mi.biD .index [p.1, q.1])).bind fun d => .ok (d, q.2) else .stk) Q := by
    have : Mi.ev gl cf (.mth .index a k) env = (Mi.ev gl cf a env).bind fun p => if p.1.isLst = true then (Mi.ev gl cf k p.2).bind fun q => (Res.of (Mi.biD .index [p.1, q.1])).bind fun d => .ok (d, q.2) else .stk := by simp only [Mi.ev]
    rw [← this]
    exact P
  cases q : Mi.ev gl cf a env with
  | ok p =>
    rw [q, bind_ok] at P
    intro v H1 O1 t p1 r1 v1 ht Tb1
    by_cases hl0 : p.1.isLst = true
    · rw [if_pos hl0] at P
      obtain ⟨O1', p1', r1', hold1⟩ := hold (c := mu k) R p1 r1 v1 ht hc
      have P := PoE.pre (c := mu k) R.od r1'.od p1' P
      obtain ⟨o0, xs, hx⟩ := isLst_inv hl0
      have hty : tyV X.K "list" v H1 := by
        rw [hx] at v1
        obtain ⟨aa, vs, rfl, e1, _⟩ := v1
        exact .inl ⟨rfl, vs, .inl (.inl e1)⟩
      refine ⟨hty, p.2, O1', r1', Tb1, ?_⟩
      cases q2 : Mi.ev gl cf k p.2 with
      | ok k2 =>
        rw [q2, bind_ok] at P
        intro y H2 O2 t2 p2 r2 y2 ht2 Tb2
        have P := PoE.pre (c := false) r1'.od r2.od p2 (PoE.mono r1'.od (fun h => by rw [Bool.or_false] at h; exact h) (fun h => h) P)
        obtain ⟨t', hx'⟩ := hold1 H2 O2 p2
        rw [hx] at P hx'
        have P : PoE γ X.K T E H2 O2 σ false false ((Res.of (if (Mi.okN 60 k2.1 && Mi.okN 60 (.lst o0 xs)) = true then (Mi.idxD k2.1 xs 0).map fun n => D.int n else none)).bind fun d => .ok (d, k2.2)) Q := P
        by_cases hok : (Mi.okN 60 k2.1 && Mi.okN 60 (.lst o0 xs)) = true
        · rw [if_pos hok] at P
          obtain ⟨o1, o2⟩ := Bool.and_eq_true_iff.mp hok
          cases qi : Mi.idxD k2.1 xs 0 with
          | none => rw [qi] at P; exact P.elim
          | some m =>
            rw [qi] at P
            obtain ⟨j, z, ej, h1, h2, h3⟩ := idxD_spec qi
            have ej : m = j := by omega
            subst ej
            obtain ⟨d1, d2, d3⟩ := dp_of 60 t' (.lst o0 xs) o2 hx'
            obtain ⟨f1, f2, f3⟩ := dp_of 60 t2 k2.1 o1 y2
            have o3 : Mi.okNs 59 xs = true := o2
            have sl : SeqAt.shaped (toPy (.lst o0 xs)) = true := shaped_of d2 d3 (by decide)
            have sk : SeqAt.shaped (toPy k2.1) = true := shaped_of f2 f3 (by decide)
            have hx2 := hx'
            obtain ⟨aa, vs, ev_, e2, _, e3⟩ := hx2
            subst ev_
            have at_ : ∀ {i : Nat} {z : PyData}, (toPys xs)[i]? = some z → ∃ x, xs[i]? = some x ∧ z = toPy x ∧ Mi.okN 59 x = true := fun {i z} e => by
              rw [toPys_map, List.getElem?_map] at e
              cases qx : xs[i]? with
              | none => rw [qx] at e; cases e
              | some x =>
                rw [qx] at e
                cases e
                exact ⟨x, rfl, rfl, okNs_at o3 qx⟩
            refine ⟨aa, y, toPy k2.1, toPys xs, m, toPy z, rfl, rfl, d1, f1, sl, sk, ?_, ?_, fun i z' hi e => ?_, P _ H2 O2 tmp (PstP.refl _ _) r2 (rfl : _ = V.int _) (fun _ => rfl) Tb2⟩
            · rw [toPys_map, List.getElem?_map, h1]
              rfl
            · rw [eqv_of 59 60 z k2.1 (okNs_at o3 h1) o1]
              exact h2
            · obtain ⟨x, qx, ex, ox⟩ := at_ e
              rw [ex, eqv_of 59 60 x k2.1 ox o1]
              exact h3 i x hi qx
        · rw [if_neg hok] at P
          exact P.elim
      | exc y as =>
        rw [q2] at P
        exact P
      | stk =>
        rw [q2] at P
        exact P
    · rw [if_neg hl0] at P
      exact P.elim
  | exc y as =>
    rw [q] at P
    exact P
  | stk =>
    rw [q] at P
    exact P
theorem get_list : PGet X (rIxL X.K) := by
  intro pins s σ H o i ov iv Q I ro ri h
  obtain ⟨p, xs, i, z, rfl, rfl, hq, he, q⟩ := h
  cases ro
  obtain ⟨t, rfl⟩ := ri
  obtain ⟨its, r, pl, hz⟩ := I.list hq
  obtain ⟨j, h1, h2, h3, h4, h5⟩ := atI_get he
  obtain ⟨w, ew, rw'⟩ := r.get h2
  have hl := r.length
  have hn := line63
  have fin : EP X pins σ Q w s := ⟨z, H, I, rw', q⟩
  by_cases h0 : 0 ≤ i
  · have hj : i.toNat = j := by
      rw [seqIndex_of h0 h5] at h1
      exact Option.some.inj h1
    exact wpAny_getItem_list pl.isList h0 (by omega) (by rw [hj]; simpa using ew) fin
  · have hj : (i + (its.toArray.size : Int)).toNat = j := by
      rw [seqIndex_neg (by omega) h4] at h1
      rw [List.size_toArray, ← hl]
      exact Option.some.inj h1
    exact wpAny_getItem_list_neg pl.isList (by omega) (by rw [List.size_toArray] <;> omega) (by omega) (by rw [hj]; simpa using ew) fin
/-- x[k] op= e, a list -/
theorem s_aix {i : Nat} {o : Mi.Op2} {k e : Mi.E} {x : Str} {xk xe : Expr} {p p2 pos : Pos} {kk : Nat} (hr : Room kk X.A) (hx : PE X (.Name x p) (tVar i)) (hi : i < tT) (hk : PE X xk (tE γ X.K T E (Mi.ev gl cf k) (mu k) (Mi.vw k))) (he : PE X xe (tE γ X.K T E (Mi.ev gl cf e) (mu e) (Mi.vw e))) (hme : mu e = false)
    (ha : ∀ ov iv new, augStore xk ov iv new = (do holding [new, ov, iv] (setItem ov iv new); release [new, ov, iv] []; pure .next)) : PS X (.AugAssign (.Subscript (.Name x p) xk p2) (opOf o) xe pos) (tS γ X.K T E io (Mi.ex gl cf (.aix (.v i) o k e))) :=
  PS.weak (ps_augS hx hk get_list he (ip_aug o) (ok_set (γ := γ) hr) ha) fun D σ H ⟨env, O, R, Tb, P⟩ => by
  have P : PoS γ X.K T E io H O σ ((Mi.getV env i).bind fun _ => (Mi.ev gl cf k env).bind fun p => (Mi.getV p.2 i).bind fun ob => if ob.isLst = true then (Res.of (Mi.ixD ob p.1)).bind fun y => (Mi.ev gl cf e p.2).bind fun q => (Res.of (Mi.augD o y q.1)).bind fun x =>
      (Mi.getV q.2 i).bind fun ob => (Res.of (Mi.setD ob p.1 x)).bind fun ob => .ok (.nx (Mi.setV q.2 i ob)) else .stk) D := by
    have : Mi.ex gl cf (.aix (.v i) o k e) env = (Mi.getV env i).bind fun _ => (Mi.ev gl cf k env).bind fun p => (Mi.getV p.2 i).bind fun ob => if ob.isLst = true then (Res.of (Mi.ixD ob p.1)).bind fun y => (Mi.ev gl cf e p.2).bind fun q => (Res.of (Mi.augD o y q.1)).bind fun x =>
        (Mi.getV q.2 i).bind fun ob => (Res.of (Mi.setD ob p.1 x)).bind fun ob => .ok (.nx (Mi.setV q.2 i ob)) else .stk := by
      simp only [Mi.ex, Mi.getPa, Mi.setPa, Res.bind]
    rw [← this]
    exact P
  have hT : (i : Nat) ≠ fT := fun e => by
    rw [e] at hi
    exact absurd hi (by decide)
  cases qg : Mi.getV env i with
  | ok d0 =>
    rw [qg, bind_ok] at P
    obtain ⟨vo, h1, _⟩ := getV_at R qg
    refine ⟨vo, h1, env, O, R, Tb, ?_⟩
    cases qk : Mi.ev gl cf k env with
    | ok pk =>
      rw [qk, bind_ok] at P
      intro w H1 O1 t1 p1 r1 w1 ht1 Tb1
      obtain ⟨t1', n1, w1'⟩ := hold2 r1.od w1
      have r1' := r1.s r1.od.toF (toF_s H1 O1)
      have p1' := p1.s R.od r1.od (toF_s H1 O1)
      have P := PoS.pre (.of (p1'.pst R.od)) P
      cases qo : Mi.getV pk.2 i with
      | ok d1 =>
        rw [qo, bind_ok] at P
        by_cases hl : d1.isLst = true
        · rw [if_pos hl] at P
          obtain ⟨vo', g1, g2⟩ := getV_at r1' qo
          rw [h1] at g1
          cases g1
          obtain ⟨ow, xs, ed⟩ := isLst_inv hl
          subst ed
          cases qx : Mi.ixD (.lst ow xs) pk.1 with
          | some y =>
            rw [qx] at P
            have P : PoS γ X.K T E io H1 (toF O1) σ ((Mi.ev gl cf e pk.2).bind fun q => (Res.of (Mi.augD o y q.1)).bind fun x => (Mi.getV q.2 i).bind fun ob => (Res.of (Mi.setD ob pk.1 x)).bind fun ob => .ok (.nx (Mi.setV q.2 i ob))) D := P
            have hik : ∃ ii, pk.1 = .int ii := by
              cases qq : pk.1 with
              | int ii => exact ⟨ii, rfl⟩
              | _ => rw [qq] at qx; cases qx
            obtain ⟨ii, eii⟩ := hik
            rw [eii] at qx w1 w1'
            have w1 : w = V.int ii := w1
            obtain ⟨aa, vs, ea, e1, e2, e3⟩ := g2
            subst ea
            obtain ⟨u, u1, u2, u3⟩ := e3.at_ qx
            refine ⟨aa, vs, ii, u, rfl, w1, .inl (.inl e1), u1, pk.2, toF O1, r1', tabs_s (toF_s H1 O1) Tb1, ?_⟩
            cases qe : Mi.ev gl cf e pk.2 with
            | ok z =>
              rw [qe, bind_ok] at P
              intro b H2 O2 t2 p2 r2 b2 ht2 Tb2
              have P := PoS.pre (.of (p2.pst r1'.od)) P
              cases qa : Mi.augD o y z.1 with
              | some x =>
                rw [qa] at P
                have P : PoS γ X.K T E io H2 O2 σ ((Mi.getV z.2 i).bind fun ob => (Res.of (Mi.setD ob pk.1 x)).bind fun ob => .ok (.nx (Mi.setV z.2 i ob))) D := P
                obtain ⟨y1, z1, k1, ey, ez, ex, ea⟩ := augD_inv qa
                rw [ey] at u3
                rw [ez] at b2
                have u3 : u = V.int y1 := u3
                have b2 : b = V.int z1 := b2
                refine ⟨y1, z1, k1, u3, b2, ea, ?_⟩
                cases qb : Mi.getV z.2 i with
                | ok d3 =>
                  rw [qb, bind_ok] at P
                  obtain ⟨vo3, k2, k3⟩ := getV_at r2 qb
                  rw [h1] at k2
                  cases k2
                  cases qs : Mi.setD d3 pk.1 x with
                  | some d4 =>
                    rw [qs] at P
                    rw [eii] at qs
                    refine ⟨O2, d3, .int ii, x, (i, 0), (0, 0), (0, 0), d4, r2.od, k3, Nat.ne_of_lt hi, hT, (by rw [w1]; rfl), ?_, ?_, qs, fun H4 p4 d4' k4 t4 v4 => ?_⟩
                    · rw [ex]
                      rfl
                    · rw [ex]
                      rfl
                    · exact P σ H4 O2 (.of p4) (r2.chg h1 p4 d4' k4 v4) (tabs_keep Tb2 r2.od p4 t4)
                  | none => rw [qs] at P; exact P.elim
                | exc y as => exact (getV_exc qb).elim
                | stk => rw [qb] at P; exact P.elim
              | none => rw [qa] at P; exact P.elim
            | exc y as =>
              rw [qe] at P
              exact P
            | stk =>
              rw [qe] at P
              exact P
          | none => rw [qx] at P; exact P.elim
        · rw [if_neg hl] at P
          exact P.elim
      | exc y as => exact (getV_exc qo).elim
      | stk => rw [qo] at P; exact P.elim
    | exc y as =>
      rw [qk] at P
      exact P
    | stk =>
      rw [qk] at P
      exact P
  | exc y as => exact (getV_exc qg).elim
  | stk => rw [qg] at P; exact P.elim
end
end MiS

set_option Elab.async false
set_option linter.all false
set_option maxRecDepth 100000
set_option maxHeartbeats 4000000
/-! MiS: len(set(xs)), xs a tuple (or a list) of tuples of ints -/
namespace L2
open PySem PySem.Spec PyProof.Rows
section
variable {P : Program} {w : World} {A : Around} {E : Value → Shared → Prop} {s : Shared}
/-- set(xs), xs a tuple -/
theorem call_set_tupsT {l : Addr} {items : Array Value} (ks : List (Addr × List Int)) {Q : Value → Shared → Prop} (hh : A.handled = none) (hl : s.heap.IsTuple l items) (hit : items.toList = ks.map fun p => Value.ref p.1)
    (hk : ∀ p ∈ ks, IsT P w s.heap p.2 p.1) (hfew : ks.length < 64) (hu : A.units + 3 < cLine)
    (h : ∀ (h' : Heap) (tk : Nat) L es ep t, SetTR P w h' s.heap.objs.size L es ep t → Got ks ks.length L → (∀ b o, s.heap.get? b = some o → h'.get? b = some o) → Q (.ref s.heap.objs.size) { s with heap := h', toks := tk }) :
    wpAny (model P w) A (call (.type "set") [.ref l]) Q E s := by
  have hisz : items.size = ks.length := by
    have q := congrArg List.length hit
    rw [Array.length_toList, List.length_map] at q
    exact q
  obtain ⟨c, tl, hmro⟩ := F.called_set.mro
  have hmade := F.called_set.made
  have hsub := F.called_set.sub
  refine wpAny_call (codeAny_of_tree ?_)
  show wpAny _ _ (callAny (.type "set") _) _ _ _
  refine wpAny_pure ⟨Code.quiet_builtin _ (by decide +kernel), codeAny_builtin F.entry_type_call ?_⟩
  rw [Around.under_plain (weight_type_call_type "set" [.ref l] []) rfl]
  have h1 := F.called_set.notType
  have h2 := F.called_set.canCreate
  have hct := F.typeCall_set_1 (.ref l)
  repeat (any_goals (first | assumption | wp_step))

  refine codeAny_mono (code_set_led1 (.ref l) (E := E) (Q₁ := fun obj s₁ => obj = .ref s.heap.objs.size ∧ s₁ = { s with heap := s.heap.push { cls := .type "set", dict := none, data := .set #[] 0 (.fresh 0 0 (!w.params.followText "set-order")) } }) ⟨rfl, rfl⟩) fun r s₁ hr => ?_
  cases r with
  | error e => exact hr
  | ok fl =>
    cases fl with
    | ret obj =>
      obtain ⟨rfl, rfl⟩ := hr
      have hS : (s.heap.push { cls := .type "set", dict := none, data := .set #[] 0 (.fresh 0 0 (!w.params.followText "set-order")) }).get? s.heap.objs.size = some { cls := .type "set", dict := none, data := .set #[] 0 (.fresh 0 0 (!w.params.followText "set-order")) } := Heap.get?_push_size _ rfl
      have hT : Shared.TypeIs { s with heap := s.heap.push { cls := .type "set", dict := none, data := .set #[] 0 (.fresh 0 0 (!w.params.followText "set-order")) } } (.ref s.heap.objs.size) "set" := ⟨_, hS, rfl⟩
      have hli := F.called_set.init.lookup
      have hbi := F.called_set.init.bind (.ref s.heap.objs.size)
      repeat (any_goals (first | assumption | wp_step))

      refine codeAny_mono (codeAny_call_builtin (R := wants (fun r s₂ => r = .none ∧ ∃ h' tk L es ep t, s₂ = { s with heap := h', toks := tk } ∧ SetTR P w h' s.heap.objs.size L es ep t ∧ Got ks ks.length L ∧
          (∀ b o, s.heap.get? b = some o → h'.get? b = some o)) E) F.called_set.init.plain F.entry_set_init (check_set_init_1 hT ?_)) fun r₂ s₂ hr₂ => ?_
      · obtain ⟨ol, hol, hcl, nl, hdl⟩ := hl
        obtain ⟨ocls, odict, odata, oslots⟩ := ol
        simp only at hcl hdl
        subst hcl; subst hdl
        have hol' : (s.heap.push { cls := .type "set", dict := none, data := .set #[] 0 (.fresh 0 0 (!w.params.followText "set-order")) }).get? l = some { cls := .type "tuple", dict := odict, data := .seq items nl, slots := oslots } := Heap.get?_push_of_some _ hol
        have hsls := F.sub_tuple_set
        have hslf := F.sub_tuple_frozenset
        have hne : (Value.type "tuple" == Value.type "dict") = false := by decide
        have hl1 : (s.heap.push { cls := .type "set", dict := none, data := .set #[] 0 (.fresh 0 0 (!w.params.followText "set-order")) }).IsTuple l items := ⟨_, hol', rfl, nl, rfl⟩
        unfold Builtin.«set.__init__» noKeywords Builtin.Frozenset.updateFrom
        generalize hPI : pyIter = PI
        wp_walk
        subst hPI

        refine wpAny_pyIter_tuple hl1 ?_
        refine wpAny_bind (wpAny_runValue ?_)
        have hlS : l < s.heap.objs.size := Heap.lt_size hol
        have hh3 : A.in1.in1.in1.handled = none := by simp [hh]
        have hz1 : (s.heap.push { cls := .type "set", dict := none, data := .set #[] 0 (.fresh 0 0 (!w.params.followText "set-order")) }).objs.size = s.heap.objs.size + 1 := Heap.size_push ..
        have hneI : l ≠ (s.heap.push { cls := .type "set", dict := none, data := .set #[] 0 (.fresh 0 0 (!w.params.followText "set-order")) }).objs.size := by
          rw [Heap.size_push]; exact Nat.ne_of_lt (Nat.lt_succ_of_lt hlS)
        have hSf : s.heap.objs.size ∉ [(s.heap.push { cls := .type "set", dict := none, data := .set #[] 0 (.fresh 0 0 (!w.params.followText "set-order")) }).objs.size, l] := by
          rw [Heap.size_push]; simp only [List.mem_cons, List.mem_singleton, List.not_mem_nil, or_false, not_or]
          exact ⟨Nat.ne_of_lt (Nat.lt_succ_self _), Nat.ne_of_gt hlS⟩
        have hval : ∀ (i : Nat) (v : Value), items[i]? = some v → ∃ p, ks[i]? = some p ∧ v = .ref p.1 := fun i v hv => by
          have q : items.toList[i]? = some v := by rw [Array.getElem?_toList]; exact hv
          rw [hit, List.getElem?_map] at q
          cases hq : ks[i]? with
          | none => rw [hq] at q; cases q
          | some p =>
            rw [hq] at q
            exact ⟨p, rfl, (Option.some.inj q).symm⟩
        have none_of : ∀ b, s.heap.objs.size ≤ b → s.heap.get? b = none := fun b hb => by
          cases q : s.heap.get? b with
          | none => rfl
          | some o => exact absurd (Nat.lt_of_lt_of_le (Heap.lt_size q) hb) (Nat.lt_irrefl _)
        refine set_update_tups ((Walks.tuple hh3 _ l hneI items).toS) s.heap.objs.size
          hSf ks hisz hfew hval s.heap hk (none_of _ (Nat.le_refl _)) (fun b hb => none_of b (by
            rw [List.mem_singleton.mp hb, Heap.size_push]
            exact Nat.le_succ _)) hu (items.size - 0) 0 _ (by omega) (Nat.zero_le _)
          ⟨⟨_, Heap.get?_push_size _ rfl, rfl, rfl⟩, (hl1.push _)⟩ (fun b o e => Heap.get?_push_of_some _ (Heap.get?_push_of_some _ e)) ?hS0 ?hR
        case hS0 =>
          have hget : ((s.heap.push { cls := .type "set", dict := none, data := .set #[] 0 (.fresh 0 0 (!w.params.followText "set-order")) }).push { cls := .type "tuple_iterator", data := .fields #[.ref l, .int 0 0] }).get? s.heap.objs.size
              = some { cls := .type "set", dict := none, data := .set #[] 0 (.fresh 0 0 (!w.params.followText "set-order")) } := Heap.get?_push_of_some _ hS
          exact ⟨[], #[], 0, _, setTR_fresh hget, Got.zero ks⟩
        case hR =>
          intro s' L es ep t hm hS' g' hkp
          obtain ⟨h', g2, d', tk', os'⟩ := s'
          have eg : g2 = s.gens := hm.gens
          have ed : d' = s.drawn := hm.drawn
          have eo : os' = s.os := hm.os
          subst eg; subst ed; subst eo
          show wpAny _ _ _ _ _ _
          refine wpAny_pure ?_
          show wpAny _ _ (ret Value.none) _ _ _
          rw [hisz] at g'
          exact wpAny_pure ⟨rfl, h', tk', L, es, ep, t, rfl, hS', g', hkp⟩

      · cases r₂ with
        | error e => exact hr₂
        | ok fl₂ =>
          cases fl₂ with
          | ret r =>
            obtain ⟨rfl, h', tk, L, es, ep, t, rfl, hS', g', hk'⟩ := hr₂
            repeat (any_goals (first | assumption | wp_step))
            exact h _ _ _ _ _ _ hS' g' hk'
          | _ => exact hr₂.elim
    | _ => exact hr.elim


end
end L2
namespace MiS
open PySem PySem.Spec PyProof.Rows L2
open Mi (D Res Fl)
section
variable {γ : GC} {T : TabL} {E : XK} {X : Cx} {K : PySem.W.Frag} {H H' H1 : Hp} {O O' O1 : OM} {gl : List D} {cf : Nat → List D → Res (D × List D)}
/-- the count of the distinct ones -/
def tLenSetT (K : PySem.W.Frag) (ta : TE) : TE := fun σ H Q => ta σ H fun x H1 => ∃ (l : Addr) (ks : List (Addr × List Int)), x = V.ref l ∧ (SqL K H1 l (ks.map fun p => V.ref p.1) ∨ SqT K H1 l (ks.map fun p => V.ref p.1)) ∧ (∀ p ∈ ks, SqT K H1 p.1 (p.2.map V.int)) ∧ ks.length < 64 ∧
  ∀ L : List (List Int), L.Nodup → (∀ x ∈ L, x ∈ ks.map (·.2)) → (∀ p ∈ ks, p.2 ∈ L) → Q (.int L.length) H1
theorem pe_lenSetT {k : Nat} {a : Expr} {ta : TE} {p p2 q pos : Pos} (hr : Room k X.A) (hc : X.calm = true) (hg : Gl X "len") (hm : X.mg "len" = none) (hg2 : Gl X "set") (hm2 : X.mg "set" = none) (ha : PE X a ta)
    (na : starEach [a] X.env = (false, eval a X.env) :: starEach [] X.env) : PE X (.Call (.Name "len" p) [.Call (.Name "set" p2) [a] [] q] [] pos) (tLenSetT X.K ta) := by
  refine ⟨fun pins s σ H Q I h => ?_⟩
  refine Call_ (ld_blt I hg hm PySem.boot_len ?_)
  refine PyProof.Rows.callWith_builtin1 (PyProof.Rows.args_cons ?_ rfl) rfl rfl
  refine Call_ (ld_blt I hg2 hm2 PyProof.Rows.boot_set ?_)
  refine PyProof.Rows.callWith_type1 (PyProof.Rows.args_cons (thn (ha.run pins s σ H _ I h) fun v s1 ⟨x, H1, I1, r1, q1⟩ => PyProof.Rows.args_nil ?_) na) na rfl
  obtain ⟨l, ks, rfl, hq, hk, hf, q1⟩ := q1
  cases r1
  have hu : X.A.units + 3 < cLine := by
    have := hr.un
    omega
  have fin : ∀ (h' : Heap) (tk : Nat) (L : List (Addr × List Int)) (es : Array (Int × Value)) (ep : Nat) (t : SetTable), SetTR X.prog X.w h' s1.heap.objs.size L es ep t → Got ks ks.length L → (∀ b o, s1.heap.get? b = some o → h'.get? b = some o) →
      wpAny (model X.prog X.w) X.A (call (.builtin "len") [.ref s1.heap.objs.size]) (EP X pins σ Q) X.xe { s1 with heap := h', toks := tk } := fun h' tk L es ep t R g kp => by
    have I2 : Inv X pins σ H1 { s1 with heap := h', toks := tk } := I1.kept kp
    obtain ⟨o, ho, hex, hd⟩ := R.ob
    have R' : SetTR X.prog X.w ({ s1 with heap := h', toks := tk } : Shared).heap s1.heap.objs.size L es ep t := R
    have hsz := R'.size
    have hfew := R.few
    refine call_len_set ho hex hd R'.fits (by rw [hsz]; omega) ⟨.int L.length, H1, I2.tok _, ⟨_, by rw [hsz]⟩, ?_⟩
    have := q1 (L.map (·.2)) R.nd (fun x hx => by
      obtain ⟨p, hp, rfl⟩ := List.mem_map.mp hx
      exact List.mem_map.mpr ⟨p, List.mem_of_mem_take (g.sub p hp), rfl⟩) fun p hp => g.all p (by rw [List.take_length]; exact hp)
    rwa [List.length_map] at this
  rcases hq with hq | hq
  · obtain ⟨its, r, pl, hz⟩ := I1.list hq
    exact call_set_tups (P := X.prog) (w := X.w) ks (I1.ok.hd hc) pl.isList (by simpa using refs_of_vals r) (fun p hp => I1.isT (hk p hp)) hf hu fun h' tk L es ep t R g kp => PyProof.Rows.args_nil (fin h' tk L es ep t R g kp)
  · obtain ⟨its, r, pl, hz⟩ := I1.tuple hq
    obtain ⟨o, ho, hc2, n, hd⟩ := id pl
    exact call_set_tupsT (P := X.prog) (w := X.w) ks (I1.ok.hd hc) ⟨o, ho, hc2, n, hd⟩ (by simpa using refs_of_vals r) (fun p hp => I1.isT (hk p hp)) hf hu fun h' tk L es ep t R g kp => PyProof.Rows.args_nil (fin h' tk L es ep t R g kp)
end
end MiS

set_option Elab.async false
set_option linter.all false
set_option maxRecDepth 100000
set_option maxHeartbeats 4000000
/-! MiS: len(set(xs)), told by the evaluator -/
namespace MiS
open PySem PySem.Spec PyProof.Rows L2
open Mi (D Res Fl)
def tpI (l : List Int) : D := .tup (l.map D.int)
theorem eqDs_ints : ∀ a b : List Int, Mi.eqDs (a.map D.int) (b.map D.int) = decide (a = b)
  | [], [] => rfl
  | [], _ :: _ => rfl
  | _ :: _, [] => rfl
  | x :: a, y :: b => by
    show (decide (x = y) && Mi.eqDs (a.map D.int) (b.map D.int)) = _
    rw [eqDs_ints a b]
    by_cases h : x = y
    · by_cases h2 : a = b <;> simp [h, h2]
    · simp [h]
theorem eqD_tpI (a b : List Int) : Mi.eqD (tpI a) (tpI b) = decide (a = b) := eqDs_ints a b
theorem memD_tpI (x : List Int) : ∀ acc : List (List Int), Mi.memD (tpI x) (acc.map tpI) = decide (x ∈ acc)
  | [] => rfl
  | y :: r => by
    show (Mi.eqD (tpI y) (tpI x) || Mi.memD (tpI x) (r.map tpI)) = _
    rw [eqD_tpI, memD_tpI x r]
    by_cases h : y = x
    · subst h
      simp
    · have h' : ¬ x = y := fun e => h e.symm
      by_cases h2 : x ∈ r <;> simp [h, h', h2]
def dedI : List (List Int) → List (List Int) → List (List Int)
  | acc, [] => acc.reverse
  | acc, x :: r => if x ∈ acc then dedI acc r else dedI (x :: acc) r
theorem dedD_tpI : ∀ (r acc : List (List Int)), Mi.dedD (acc.map tpI) (r.map tpI) = (dedI acc r).map tpI
  | [], acc => by
    show (acc.map tpI).reverse = _
    rw [← List.map_reverse]
    rfl
  | x :: r, acc => by
    show (if Mi.memD (tpI x) (acc.map tpI) = true then Mi.dedD (acc.map tpI) (r.map tpI) else Mi.dedD (tpI x :: acc.map tpI) (r.map tpI)) = _
    rw [memD_tpI]
    by_cases h : x ∈ acc
    · rw [if_pos (decide_eq_true h), dedD_tpI r acc]
      show _ = (if x ∈ acc then dedI acc r else dedI (x :: acc) r).map tpI
      rw [if_pos h]
    · rw [if_neg (by simpa using h)]
      have := dedD_tpI r (x :: acc)
      rw [List.map_cons] at this
      rw [this]
      show _ = (if x ∈ acc then dedI acc r else dedI (x :: acc) r).map tpI
      rw [if_neg h]
theorem dedI_nd : ∀ (r acc : List (List Int)), acc.Nodup → (dedI acc r).Nodup
  | [], acc, h => by
    show acc.reverse.Nodup
    exact (List.reverse_perm acc).nodup_iff.mpr h
  | x :: r, acc, h => by
    unfold dedI
    by_cases q : x ∈ acc
    · rw [if_pos q]
      exact dedI_nd r acc h
    · rw [if_neg q]
      exact dedI_nd r (x :: acc) (List.nodup_cons.mpr ⟨q, h⟩)
theorem dedI_mem (y : List Int) : ∀ (r acc : List (List Int)), y ∈ dedI acc r ↔ y ∈ acc ∨ y ∈ r
  | [], acc => by
    show y ∈ acc.reverse ↔ _
    simp
  | x :: r, acc => by
    unfold dedI
    by_cases q : x ∈ acc
    · rw [if_pos q, dedI_mem y r acc]
      constructor
      · rintro (h | h)
        · exact .inl h
        · exact .inr (List.mem_cons_of_mem _ h)
      · rintro (h | h)
        · exact .inl h
        · rcases List.mem_cons.mp h with e | e
          · rw [e]
            exact .inl q
          · exact .inr e
    · rw [if_neg q, dedI_mem y r (x :: acc)]
      simp only [List.mem_cons]
      constructor
      · rintro ((h | h) | h)
        · exact .inr (.inl h)
        · exact .inl h
        · exact .inr (.inr h)
      · rintro (h | (h | h))
        · exact .inl (.inr h)
        · exact .inl (.inl h)
        · exact .inr h
theorem nodup_len {α : Type} [DecidableEq α] : ∀ (l m : List α), l.Nodup → (∀ x ∈ l, x ∈ m) → l.length ≤ m.length
  | [], m, _, _ => Nat.zero_le _
  | x :: l, m, h, hs => by
    obtain ⟨h1, h2⟩ := List.nodup_cons.mp h
    have hx := hs x List.mem_cons_self
    have := nodup_len l (m.erase x) h2 fun y hy => by
      have ne : y ≠ x := fun e => h1 (e ▸ hy)
      exact (List.mem_erase_of_ne ne).mpr (hs y (List.mem_cons_of_mem _ hy))
    rw [List.length_erase_of_mem hx] at this
    have hp : 0 < m.length := List.length_pos_of_mem hx
    rw [List.length_cons]
    omega
section
variable {γ : GC} {T : TabL} {E : XK} {X : Cx} {K : PySem.W.Frag} {H H' H1 : Hp} {O O' O1 : OM} {gl : List D} {cf : Nat → List D → Res (D × List D)}
theorem isInt_ints : ∀ {xs : List D}, xs.all D.isInt = true → ∃ ns : List Int, xs = ns.map D.int
  | [], _ => ⟨[], rfl⟩
  | x :: r, h => by
    obtain ⟨h1, h2⟩ := Bool.and_eq_true_iff.mp (show (x.isInt && r.all D.isInt) = true from h)
    obtain ⟨ns, e⟩ := isInt_ints h2
    cases x with
    | int i => exact ⟨i :: ns, by rw [e]; rfl⟩
    | _ => cases h1
theorem vrs_ints : ∀ {ns : List Int} {vs : List V}, VRs γ K H O (ns.map D.int) vs → vs = ns.map V.int
  | [], vs, h => h
  | n :: r, vs, ⟨v, r', e, _, hv, h⟩ => by
    rw [e, vrs_ints h]
    rw [show v = V.int n from hv]
    rfl
/-- tuples of ints, with their places -/
theorem vrs_tups : ∀ {xs : List D} {vs : List V}, xs.all D.isTupI = true → VRs γ K H O xs vs → ∃ ks : List (Addr × List Int), vs = ks.map (fun p => V.ref p.1) ∧ xs = (ks.map (·.2)).map tpI ∧ ∀ p ∈ ks, SqT K H p.1 (p.2.map V.int)
  | [], vs, _, h => ⟨[], h, rfl, fun p hp => by cases hp⟩
  | x :: r, vs, ha, ⟨v, r', e, _, hv, h⟩ => by
    obtain ⟨h1, h2⟩ := Bool.and_eq_true_iff.mp (show (x.isTupI && r.all D.isTupI) = true from ha)
    obtain ⟨ks, e1, e2, e3⟩ := vrs_tups h2 h
    cases x with
    | tup ys =>
      obtain ⟨ns, en⟩ := isInt_ints (show ys.all D.isInt = true from h1)
      subst en
      obtain ⟨a, us, ea, eh, eu⟩ := hv
      have eu := vrs_ints eu
      subst eu
      refine ⟨(a, ns) :: ks, by rw [e, ea, e1]; rfl, by rw [e2]; rfl, fun p hp => ?_⟩
      rcases List.mem_cons.mp hp with z | z
      · rw [z]
        exact .inl (.inl eh)
      · exact e3 p z
    | _ => cases h1
theorem e_lenset {k : Nat} {e : Mi.E} {xe : Expr} {p p2 pos pos2 : Pos} (hr : Room k X.A) (hc : X.calm = true) (hg : Gl X "len") (hm : X.mg "len" = none) (hg2 : Gl X "set") (hm2 : X.mg "set" = none) (he : PE X xe (tE γ X.K T E (Mi.ev gl cf e) (mu e) (Mi.vw e))) (hs : ∀ env, starEach [xe] env = (false, eval xe env) :: starEach [] env) :
    PE X (.Call (.Name "len" p) [.Call (.Name "set" p2) [xe] [] pos2] [] pos) (tE γ X.K T E (Mi.ev gl cf (.bi .lenset [e])) (mus [e]) false) := by
  refine PE.weak (pe_lenSetT hr hc hg hm hg2 hm2 he (hs X.env)) fun σ H Q h => ?_
  have h : tE γ X.K T E (Mi.ev gl cf (.bi .lenset [e])) (mu e) false σ H Q := by
    have : mus [e] = mu e := by
      show (mu e || false) = mu e
      rw [Bool.or_false]
    rwa [this] at h
  refine op1_gen (R1 := fun x H1 Q => ∃ (l : Addr) (ks : List (Addr × List Int)), x = V.ref l ∧ (SqL X.K H1 l (ks.map fun p => V.ref p.1) ∨ SqT X.K H1 l (ks.map fun p => V.ref p.1)) ∧ (∀ p ∈ ks, SqT X.K H1 p.1 (p.2.map V.int)) ∧ ks.length < 64 ∧
    ∀ L : List (List Int), L.Nodup → (∀ x ∈ L, x ∈ ks.map (·.2)) → (∀ p ∈ ks, p.2 ∈ L) → Q (.int L.length) H1) (h := fun x e => (Res.of (Mi.biD .lenset [x])).bind fun d => .ok (d, e)) (fun env => ev_bi1) (fun H O σ env x v t Q R hx _ Tb P => ?_) σ H Q h
  have main : ∀ (r : List D) (vs : List V) (a : Addr), Mi.seq? x = some r → v = .ref a → VRs γ X.K H O r vs → (SqL X.K H a vs ∨ SqT X.K H a vs) → ∃ (l : Addr) (ks : List (Addr × List Int)), v = V.ref l ∧ (SqL X.K H l (ks.map fun p => V.ref p.1) ∨ SqT X.K H l (ks.map fun p => V.ref p.1)) ∧ (∀ p ∈ ks, SqT X.K H p.1 (p.2.map V.int)) ∧ ks.length < 64 ∧
    ∀ L : List (List Int), L.Nodup → (∀ x ∈ L, x ∈ ks.map (·.2)) → (∀ p ∈ ks, p.2 ∈ L) → Q (.int L.length) H := fun r vs a hq ev_ hv hsq => by
    have P : PoE γ X.K T E H O σ false false ((Res.of (match Mi.seq? x with
      | some r => if (r.all D.isTupI && decide (r.length < 64)) = true then some (D.int (Mi.dedD [] r).length) else none
      | _ => none)).bind fun d => .ok (d, env)) Q := P
    rw [hq] at P
    have P : PoE γ X.K T E H O σ false false ((Res.of (if (r.all D.isTupI && decide (r.length < 64)) = true then some (D.int (Mi.dedD [] r).length) else none)).bind fun d => .ok (d, env)) Q := P
    by_cases c : (r.all D.isTupI && decide (r.length < 64)) = true
    · rw [if_pos c] at P
      obtain ⟨c1, c2⟩ := Bool.and_eq_true_iff.mp c
      obtain ⟨ks, e1, e2, e3⟩ := vrs_tups c1 hv
      subst e1
      refine ⟨a, ks, ev_, hsq, e3, ?_, fun L hn hL1 hL2 => ?_⟩
      · have := of_decide_eq_true c2
        rw [e2, List.length_map, List.length_map] at this
        exact this
      · have hd : Mi.dedD [] r = (dedI [] (ks.map (·.2))).map tpI := by
          rw [e2]
          exact dedD_tpI _ []
        have hl : (Mi.dedD [] r).length = L.length := by
          rw [hd, List.length_map]
          refine Nat.le_antisymm (nodup_len _ _ (dedI_nd _ [] List.nodup_nil) fun x hx => ?_) (nodup_len _ _ hn fun x hx => ?_)
          · rcases (dedI_mem x _ []).mp hx with z | z
            · cases z
            · obtain ⟨p, hp, rfl⟩ := List.mem_map.mp z
              exact hL2 p hp
          · exact (dedI_mem x _ []).mpr (.inr (hL1 x hx))
        have := P _ H O tmp (PstP.refl _ _) R (rfl : _ = V.int _) (fun _ => rfl) Tb
        rw [hl] at this
        exact this
    · rw [if_neg c] at P
      exact P.elim
  cases x with
  | lst o xs =>
    obtain ⟨a, vs, rfl, h1, _, h2⟩ := hx
    exact main xs vs a rfl rfl h2 (.inl (.inl (.inl h1)))
  | tup xs =>
    obtain ⟨a, vs, rfl, h1, h2⟩ := hx
    exact main xs vs a rfl rfl h2 (.inr (.inl (.inl h1)))
  | _ => exact P.elim
end
end MiS

set_option Elab.async false
set_option linter.all false
set_option maxRecDepth 100000
set_option maxHeartbeats 4000000
/-! MiS: sorted: the order -/
namespace MiS
open PySem PySem.Spec PyProof.Rows L2
open Mi (D Res Fl)
theorem row_nil : PySem.W.rowLt [] [] = false := lex_irrefl _
mutual
theorem lt_of : ∀ (n m : Nat) (x y : D), Mi.okN n x = true → Mi.okN m y = true → Mi.sameSh x y = true → PySem.W.alike (toPy x) (toPy y) = true ∧ PySem.W.dataLt (toPy x) (toPy y) = Mi.ltD x y
  | n, m, .int i, y, _, _, h => by
    cases y with
    | int j => exact ⟨rfl, PySem.W.dataLt_int i j⟩
    | _ => cases h
  | n, m, .tup xs, y, h1, h2, h => by
    cases y with
    | tup ys =>
      cases n with
      | zero => simp [Mi.okN] at h1
      | succ n =>
        cases m with
        | zero => simp [Mi.okN] at h2
        | succ m =>
          obtain ⟨a, b⟩ := lts_of n m xs ys h1 h2 h
          refine ⟨a, ?_⟩
          show PySem.W.dataLt (.tuple (toPys xs)) (.tuple (toPys ys)) = _
          rw [PySem.W.dataLt_tuple]
          exact b
    | _ => cases h
  | _, _, .non, y, _, _, h => by cases y <;> cases h
  | _, _, .bl _, y, _, _, h => by cases y <;> cases h
  | _, _, .str _, y, _, _, h => by cases y <;> cases h
  | _, _, .lst _ _, y, _, _, h => by cases y <;> cases h
  | _, _, .dct _ _ _, y, _, _, h => by cases y <;> cases h
  | _, _, .ins _ _ _, y, _, _, h => by cases y <;> cases h
  | _, _, .fn _, y, _, _, h => by cases y <;> cases h
  | _, _, .scr _, y, _, _, h => by cases y <;> cases h
  | _, _, .tok _, y, _, _, h => by cases y <;> cases h
  | _, _, .tex _ _, y, _, _, h => by cases y <;> cases h
theorem lts_of : ∀ (n m : Nat) (xs ys : List D), Mi.okNs n xs = true → Mi.okNs m ys = true → Mi.sameShs xs ys = true → PySem.W.alikeAll (toPys xs) (toPys ys) = true ∧ PySem.W.rowLt (toPys xs) (toPys ys) = Mi.ltDs xs ys
  | n, m, [], ys, _, _, h => by
    cases ys with
    | nil => exact ⟨rfl, row_nil⟩
    | cons y ys => cases h
  | n, m, x :: xs, ys, h1, h2, h => by
    cases ys with
    | nil => cases h
    | cons y ys =>
      obtain ⟨a1, a2⟩ := Bool.and_eq_true_iff.mp (show (Mi.okN n x && Mi.okNs n xs) = true from h1)
      obtain ⟨b1, b2⟩ := Bool.and_eq_true_iff.mp (show (Mi.okN m y && Mi.okNs m ys) = true from h2)
      obtain ⟨c1, c2⟩ := Bool.and_eq_true_iff.mp (show (Mi.sameSh x y && Mi.sameShs xs ys) = true from h)
      obtain ⟨e1, e2⟩ := lt_of n m x y a1 b1 c1
      obtain ⟨f1, f2⟩ := lts_of n m xs ys a2 b2 c2
      refine ⟨?_, ?_⟩
      · show PySem.W.alikeAll (toPy x :: toPys xs) (toPy y :: toPys ys) = true
        unfold PySem.W.alikeAll
        rw [e1, f1]
        rfl
      · show PySem.W.rowLt (toPy x :: toPys xs) (toPy y :: toPys ys) = _
        unfold PySem.W.rowLt
        rw [PySem.W.dataLt_cons e1, eqv_of n m x y a1 b1, e2]
        show (if Mi.eqD x y = true then PySem.W.rowLt (toPys xs) (toPys ys) else Mi.ltD x y) = _
        rw [f2]
        rfl
end
mutual
theorem lt_tri : ∀ (x y : D), Mi.sameSh x y = true → Mi.ltD x y = false → Mi.ltD y x = false → x = y ∧ Mi.eqD x y = true
  | .int i, y, h, h1, h2 => by
    cases y with
    | int j =>
      have h1 : ¬ i < j := of_decide_eq_false h1
      have h2 : ¬ j < i := of_decide_eq_false h2
      have e : i = j := by omega
      subst e
      exact ⟨rfl, decide_eq_true rfl⟩
    | _ => cases h
  | .tup xs, y, h, h1, h2 => by
    cases y with
    | tup ys =>
      obtain ⟨e, f⟩ := lts_tri xs ys h h1 h2
      subst e
      exact ⟨rfl, f⟩
    | _ => cases h
  | .non, y, h, _, _ => by cases y <;> cases h
  | .bl _, y, h, _, _ => by cases y <;> cases h
  | .str _, y, h, _, _ => by cases y <;> cases h
  | .lst _ _, y, h, _, _ => by cases y <;> cases h
  | .dct _ _ _, y, h, _, _ => by cases y <;> cases h
  | .ins _ _ _, y, h, _, _ => by cases y <;> cases h
  | .fn _, y, h, _, _ => by cases y <;> cases h
  | .scr _, y, h, _, _ => by cases y <;> cases h
  | .tok _, y, h, _, _ => by cases y <;> cases h
  | .tex _ _, y, h, _, _ => by cases y <;> cases h
theorem lts_tri : ∀ (xs ys : List D), Mi.sameShs xs ys = true → Mi.ltDs xs ys = false → Mi.ltDs ys xs = false → xs = ys ∧ Mi.eqDs xs ys = true
  | [], ys, h, _, _ => by
    cases ys with
    | nil => exact ⟨rfl, rfl⟩
    | cons y ys => cases h
  | x :: xs, ys, h, h1, h2 => by
    cases ys with
    | nil => cases h
    | cons y ys =>
      obtain ⟨c1, c2⟩ := Bool.and_eq_true_iff.mp (show (Mi.sameSh x y && Mi.sameShs xs ys) = true from h)
      have h1 : (if Mi.eqD x y = true then Mi.ltDs xs ys else Mi.ltD x y) = false := h1
      have h2 : (if Mi.eqD y x = true then Mi.ltDs ys xs else Mi.ltD y x) = false := h2
      by_cases q : Mi.eqD x y = true
      · rw [if_pos q] at h1
        by_cases q2 : Mi.eqD y x = true
        · rw [if_pos q2] at h2
          obtain ⟨e, f⟩ := lts_tri xs ys c2 h1 h2
          have exy := eq_sh x y c1 q
          subst e exy
          exact ⟨rfl, by show (Mi.eqD x x && Mi.eqDs xs xs) = true; rw [q, f]; rfl⟩
        · exfalso
          have exy := eq_sh x y c1 q
          subst exy
          exact q2 q
      · rw [if_neg q] at h1
        by_cases q2 : Mi.eqD y x = true
        · exfalso
          have exy := eq_sh y x (sh_symm x y c1) q2
          subst exy
          exact q q2
        · rw [if_neg q2] at h2
          obtain ⟨e, f⟩ := lt_tri x y c1 h1 h2
          exact absurd f q
theorem eq_sh : ∀ (x y : D), Mi.sameSh x y = true → Mi.eqD x y = true → x = y
  | .int i, y, h, h1 => by
    cases y with
    | int j => exact congrArg D.int (of_decide_eq_true h1)
    | _ => cases h
  | .tup xs, y, h, h1 => by
    cases y with
    | tup ys => exact congrArg D.tup (eqs_sh xs ys h h1)
    | _ => cases h
  | .non, y, h, _ => by cases y <;> cases h
  | .bl _, y, h, _ => by cases y <;> cases h
  | .str _, y, h, _ => by cases y <;> cases h
  | .lst _ _, y, h, _ => by cases y <;> cases h
  | .dct _ _ _, y, h, _ => by cases y <;> cases h
  | .ins _ _ _, y, h, _ => by cases y <;> cases h
  | .fn _, y, h, _ => by cases y <;> cases h
  | .scr _, y, h, _ => by cases y <;> cases h
  | .tok _, y, h, _ => by cases y <;> cases h
  | .tex _ _, y, h, _ => by cases y <;> cases h
theorem eqs_sh : ∀ (xs ys : List D), Mi.sameShs xs ys = true → Mi.eqDs xs ys = true → xs = ys
  | [], ys, h, _ => by
    cases ys with
    | nil => rfl
    | cons y ys => cases h
  | x :: xs, ys, h, h1 => by
    cases ys with
    | nil => cases h
    | cons y ys =>
      obtain ⟨c1, c2⟩ := Bool.and_eq_true_iff.mp (show (Mi.sameSh x y && Mi.sameShs xs ys) = true from h)
      obtain ⟨d1, d2⟩ := Bool.and_eq_true_iff.mp (show (Mi.eqD x y && Mi.eqDs xs ys) = true from h1)
      rw [eq_sh x y c1 d1, eqs_sh xs ys c2 d2]
theorem sh_symm : ∀ (x y : D), Mi.sameSh x y = true → Mi.sameSh y x = true
  | .int i, y, h => by
    cases y with
    | int j => rfl
    | _ => cases h
  | .tup xs, y, h => by
    cases y with
    | tup ys => exact shs_symm xs ys h
    | _ => cases h
  | .non, y, h => by cases y <;> cases h
  | .bl _, y, h => by cases y <;> cases h
  | .str _, y, h => by cases y <;> cases h
  | .lst _ _, y, h => by cases y <;> cases h
  | .dct _ _ _, y, h => by cases y <;> cases h
  | .ins _ _ _, y, h => by cases y <;> cases h
  | .fn _, y, h => by cases y <;> cases h
  | .scr _, y, h => by cases y <;> cases h
  | .tok _, y, h => by cases y <;> cases h
  | .tex _ _, y, h => by cases y <;> cases h
theorem shs_symm : ∀ (xs ys : List D), Mi.sameShs xs ys = true → Mi.sameShs ys xs = true
  | [], ys, h => by
    cases ys with
    | nil => rfl
    | cons y ys => cases h
  | x :: xs, ys, h => by
    cases ys with
    | nil => cases h
    | cons y ys =>
      obtain ⟨c1, c2⟩ := Bool.and_eq_true_iff.mp (show (Mi.sameSh x y && Mi.sameShs xs ys) = true from h)
      show (Mi.sameSh y x && Mi.sameShs ys xs) = true
      rw [sh_symm x y c1, shs_symm xs ys c2]
      rfl
end
end MiS

set_option Elab.async false
set_option linter.all false
set_option maxRecDepth 100000
set_option maxHeartbeats 4000000
/-! MiS: sorted, of a list or a tuple -/
namespace MiS
open PySem PySem.Spec PyProof.Rows L2
open Mi (D Res Fl)
/-! ### one sorted list -/
def ltK (a b : D) : Bool := PySem.W.dataLt (toPy a) (toPy b)
theorem ltK_ir (a : D) : ltK a a = false := lex_irrefl _
theorem ltK_tr {a b c : D} (h : ltK a b = true) (h2 : ltK b c = true) : ltK a c = true := lex_trans _ _ _ h h2
theorem ltK_as {a b : D} (h : ltK a b = true) : ltK b a = false := by
  cases q : ltK b a with
  | false => rfl
  | true =>
    have := ltK_tr h q
    rw [ltK_ir] at this
    cases this
/-- not after -/
def leK (a b : D) : Bool := !ltK b a
theorem leK_total (a b : D) : (leK a b || leK b a) = true := by
  unfold leK
  cases q : ltK b a with
  | false => rfl
  | true => rw [ltK_as q]; rfl
theorem leK_tr (a b c : D) (h : leK a b = true) (h2 : leK b c = true) : leK a c = true := by
  unfold leK at *
  cases q : ltK c a with
  | false => rfl
  | true =>
    have h : ltK b a = false := by simpa using h
    have h2 : ltK c b = false := by simpa using h2
    cases q2 : ltK a b with
    | true =>
      have := ltK_tr q q2
      rw [h2] at this
      cases this
    | false =>
      have e : PySem.W.keyToks (toPy a) = PySem.W.keyToks (toPy b) := lex_total _ _ q2 h
      have : ltK c a = ltK c b := by
        unfold ltK PySem.W.dataLt
        rw [e]
      rw [q, h2] at this
      cases this
def insK (x : D) : List D → List D
  | [] => [x]
  | y :: ys => if ltK x y = true then x :: y :: ys else y :: insK x ys
theorem insK_perm (x : D) : ∀ ys : List D, (insK x ys).Perm (x :: ys)
  | [] => List.Perm.refl _
  | y :: ys => by
    unfold insK
    split
    · exact List.Perm.refl _
    · exact (List.Perm.cons y (insK_perm x ys)).trans (List.Perm.swap x y ys)
theorem insK_mem {x z : D} {ys : List D} (h : z ∈ insK x ys) : z = x ∨ z ∈ ys := List.mem_cons.mp ((insK_perm x ys).mem_iff.mp h)
theorem insK_srt (x : D) : ∀ ys : List D, ys.Pairwise (fun a b => leK a b = true) → (insK x ys).Pairwise (fun a b => leK a b = true)
  | [], _ => List.pairwise_singleton _ _
  | y :: ys, h => by
    obtain ⟨h1, h2⟩ := List.pairwise_cons.mp h
    unfold insK
    by_cases q : ltK x y = true
    · rw [if_pos q]
      have hxy : leK x y = true := by
        unfold leK
        rw [ltK_as q]
        rfl
      refine List.pairwise_cons.mpr ⟨fun z hz => ?_, h⟩
      rcases List.mem_cons.mp hz with e | e
      · rw [e]
        exact hxy
      · exact leK_tr x y z hxy (h1 z e)
    · rw [if_neg q]
      have hyx : leK y x = true := by
        unfold leK
        rw [Bool.eq_false_iff.mpr q]
        rfl
      refine List.pairwise_cons.mpr ⟨fun z hz => ?_, insK_srt x ys h2⟩
      rcases insK_mem hz with e | e
      · rw [e]
        exact hyx
      · exact h1 z e
def srtK (acc : List D) : List D → List D
  | [] => acc
  | x :: r => srtK (insK x acc) r
theorem srtK_perm : ∀ (r acc : List D), (srtK acc r).Perm (acc ++ r)
  | [], acc => by
    rw [List.append_nil]
    exact List.Perm.refl _
  | x :: r, acc => by
    refine (srtK_perm r (insK x acc)).trans ?_
    exact ((insK_perm x acc).append_right r).trans (List.perm_middle.symm)
theorem srtK_srt : ∀ (r acc : List D), acc.Pairwise (fun a b => leK a b = true) → (srtK acc r).Pairwise (fun a b => leK a b = true)
  | [], acc, h => h
  | x :: r, acc, h => srtK_srt r (insK x acc) (insK_srt x acc h)
theorem ins_eq {x : D} : ∀ {ys : List D}, (∀ y ∈ ys, Mi.ltD x y = ltK x y) → Mi.ins1 x ys = insK x ys
  | [], _ => rfl
  | y :: ys, h => by
    show (if Mi.ltD x y = true then x :: y :: ys else y :: Mi.ins1 x ys) = (if ltK x y = true then x :: y :: ys else y :: insK x ys)
    rw [h y List.mem_cons_self, ins_eq fun z hz => h z (List.mem_cons_of_mem _ hz)]
theorem srt_eq : ∀ (r acc : List D), (∀ x ∈ acc ++ r, ∀ y ∈ acc ++ r, Mi.ltD x y = ltK x y) → r.foldl (fun acc x => Mi.ins1 x acc) acc = srtK acc r
  | [], acc, _ => rfl
  | x :: r, acc, h => by
    rw [List.foldl_cons]
    have hx : x ∈ acc ++ x :: r := List.mem_append_right _ List.mem_cons_self
    rw [ins_eq (x := x) (ys := acc) fun y hy => h x hx y (List.mem_append_left _ hy)]
    refine srt_eq r (insK x acc) fun a ha b hb => ?_
    have mem : ∀ z, z ∈ insK x acc ++ r → z ∈ acc ++ x :: r := fun z hz => by
      rcases List.mem_append.mp hz with e | e
      · rcases insK_mem e with e | e
        · rw [e]
          exact hx
        · exact List.mem_append_left _ e
      · exact List.mem_append_right _ (List.mem_cons_of_mem _ e)
    exact h a (mem a ha) b (mem b hb)
theorem srt_uniq : ∀ (l m : List D), l.Perm m → l.Pairwise (fun a b => leK a b = true) → m.Pairwise (fun a b => leK a b = true) → (∀ x ∈ l, ∀ y ∈ l, leK x y = true → leK y x = true → x = y) → l = m
  | [], m, h, _, _, _ => h.nil_eq
  | x :: l, m, h, h1, h2, ha => by
    cases m with
    | nil => exact absurd h.symm.nil_eq (by simp)
    | cons y m =>
      obtain ⟨a1, a2⟩ := List.pairwise_cons.mp h1
      obtain ⟨b1, b2⟩ := List.pairwise_cons.mp h2
      have hx : x ∈ y :: m := h.mem_iff.mp List.mem_cons_self
      have hy : y ∈ x :: l := h.mem_iff.mpr List.mem_cons_self
      have exy : x = y := by
        rcases List.mem_cons.mp hx with e | e
        · exact e
        · rcases List.mem_cons.mp hy with e2 | e2
          · exact e2.symm
          · exact ha x List.mem_cons_self y hy (a1 y e2) (b1 x e)
      subst exy
      rw [srt_uniq l m (List.Perm.cons_inv h) a2 b2 fun a h3 b h4 => ha a (List.mem_cons_of_mem _ h3) b (List.mem_cons_of_mem _ h4)]
mutual
theorem sh_trans : ∀ (x y z : D), Mi.sameSh x y = true → Mi.sameSh x z = true → Mi.sameSh y z = true
  | .int i, y, z, h, h2 => by
    cases y with
    | int j =>
      cases z with
      | int k => rfl
      | _ => cases h2
    | _ => cases h
  | .tup xs, y, z, h, h2 => by
    cases y with
    | tup ys =>
      cases z with
      | tup zs => exact shs_trans xs ys zs h h2
      | _ => cases h2
    | _ => cases h
  | .non, y, z, h, _ => by cases y <;> cases h
  | .bl _, y, z, h, _ => by cases y <;> cases h
  | .str _, y, z, h, _ => by cases y <;> cases h
  | .lst _ _, y, z, h, _ => by cases y <;> cases h
  | .dct _ _ _, y, z, h, _ => by cases y <;> cases h
  | .ins _ _ _, y, z, h, _ => by cases y <;> cases h
  | .fn _, y, z, h, _ => by cases y <;> cases h
  | .scr _, y, z, h, _ => by cases y <;> cases h
  | .tok _, y, z, h, _ => by cases y <;> cases h
  | .tex _ _, y, z, h, _ => by cases y <;> cases h
theorem shs_trans : ∀ (xs ys zs : List D), Mi.sameShs xs ys = true → Mi.sameShs xs zs = true → Mi.sameShs ys zs = true
  | [], ys, zs, h, h2 => by
    cases ys with
    | nil =>
      cases zs with
      | nil => rfl
      | cons z zs => cases h2
    | cons y ys => cases h
  | x :: xs, ys, zs, h, h2 => by
    cases ys with
    | nil => cases h
    | cons y ys =>
      cases zs with
      | nil => cases h2
      | cons z zs =>
        obtain ⟨c1, c2⟩ := Bool.and_eq_true_iff.mp (show (Mi.sameSh x y && Mi.sameShs xs ys) = true from h)
        obtain ⟨d1, d2⟩ := Bool.and_eq_true_iff.mp (show (Mi.sameSh x z && Mi.sameShs xs zs) = true from h2)
        show (Mi.sameSh y z && Mi.sameShs ys zs) = true
        rw [sh_trans x y z c1 d1, shs_trans xs ys zs c2 d2]
        rfl
end
/-- the items of a list that is to be sorted -/
theorem sort_pairs {r : List D} (h : Mi.sortOk r = true) : ∀ x ∈ r, ∀ y ∈ r, Mi.sameSh x y = true := by
  cases r with
  | nil => intro x hx; cases hx
  | cons a r =>
    obtain ⟨_, h⟩ := Bool.and_eq_true_iff.mp (show (!a.isNil && (Mi.sameSh a a && r.all (Mi.sameSh a))) = true from h)
    obtain ⟨h1, h2⟩ := Bool.and_eq_true_iff.mp h
    have all : ∀ x ∈ a :: r, Mi.sameSh a x = true := fun x hx => by
      rcases List.mem_cons.mp hx with e | e
      · rw [e]
        exact h1
      · exact List.all_eq_true.mp h2 x e
    exact fun x hx y hy => sh_trans a x y (all x hx) (all y hy)
theorem okNs_mem {n : Nat} : ∀ {xs : List D}, Mi.okNs n xs = true → ∀ x ∈ xs, Mi.okN n x = true
  | [], _, x, h => by cases h
  | y :: r, h, x, hx => by
    obtain ⟨h1, h2⟩ := Bool.and_eq_true_iff.mp (show (Mi.okN n y && Mi.okNs n r) = true from h)
    rcases List.mem_cons.mp hx with e | e
    · rw [e]
      exact h1
    · exact okNs_mem h2 x e
theorem sortD_eq {r : List D} (h : Mi.sortOk r = true) (ho : Mi.okNs 60 r = true) : Mi.sortD r = r.mergeSort (fun a b => leK a b) := by
  have ag : ∀ x ∈ r, ∀ y ∈ r, Mi.ltD x y = ltK x y := fun x hx y hy => (lt_of 60 60 x y (okNs_mem ho x hx) (okNs_mem ho y hy) (sort_pairs h x hx y hy)).2.symm
  unfold Mi.sortD
  rw [srt_eq r [] (by rw [List.nil_append]; exact ag)]
  have p1 := srtK_perm r []
  rw [List.nil_append] at p1
  refine srt_uniq _ _ (p1.trans (List.mergeSort_perm r _).symm) (srtK_srt r [] List.Pairwise.nil) (List.pairwise_mergeSort leK_tr leK_total r) fun x hx y hy h1 h2 => ?_
  have hx := p1.mem_iff.mp hx
  have hy := p1.mem_iff.mp hy
  unfold leK at h1 h2
  rw [← ag y hy x hx] at h1
  rw [← ag x hx y hy] at h2
  exact (lt_tri x y (sort_pairs h x hx y hy) (by simpa using h2) (by simpa using h1)).1
end MiS

set_option Elab.async false
set_option linter.all false
set_option maxRecDepth 100000
set_option maxHeartbeats 4000000
/-! MiS: sorted, the call -/
namespace PySem.W
open PySem PySem.Calls PyProof.Rows
section
variable {prog : Program} {w : World} {A : Around} {E : Value → Shared → Prop} {s : Shared}
theorem collect_seq2 {Q : List Value → Shared → Prop} (it : Addr) {T : String} {o : Obj} {items : Array Value} {n : Nat} (hT : T = "list" ∨ T = "tuple")
    (ho : s.heap.get? it = some o) (hc : o.cls = .type T) (hd : o.data = .seq items n)
    (hQ : ∀ h', (∀ b o', s.heap.get? b = some o' → h'.get? b = some o') → s.heap.objs.size ≤ h'.objs.size → Q items.toList { s with heap := h' }) (hsz : items.size ≤ sizeLine := by size_fits) :
    wpAny (model prog w) A (collect (.ref it)) Q E s := by
  unfold collect
  refine wpAny_bind (wpAny_runValue (codeAny_builtin F.entry_proto_collect ?_))
  rw [Around.under_plainId F.plain_proto_collect _]
  show wpAny _ A.in1 (newList [] >>= fun l => again (.builtin "list.__iadd__" ⟨[l, .ref it], []⟩)) _ _ s
  refine wpAny_bind (wpAny_newObj_type ?_)
  refine wpAny_pure ⟨plainId_quiet F.plain_list_iadd _, codeAny_builtin F.entry_list_iadd ?_⟩
  rw [Around.under_plainId F.plain_list_iadd _]
  show wpAny _ A.in1 (Builtin.List.listExtendWith (.ref s.heap.objs.size) (.ref it) (.ref s.heap.objs.size)) _ _ _
  have hS : (s.heap.push { cls := .type "list", data := .seq ([] : List Value).toArray }).get? s.heap.objs.size = some { cls := .type "list", data := .seq #[] 0 } := Heap.get?_push_size _ rfl
  have hS₂ := Heap.get?_update_self (Obj.mapSeq (· ++ items)) hS rfl
  have fin' : wpAny (model prog w) A (match Value.ref s.heap.objs.size with
      | Value.ref a => do
        match (← load a).data with
          | Data.seq xs _ => pure xs.toList
          | _ => unsupported "internal:collect"
      | _ => unsupported "internal:collect") Q E { s with heap := (s.heap.push { cls := .type "list", data := .seq ([] : List Value).toArray }).update s.heap.objs.size (Obj.mapSeq (· ++ items)) } := by
    show wpAny _ A (load s.heap.objs.size >>= _) _ _ _
    refine wpAny_bind (wpAny_load hS₂ ?_)
    refine wpAny_pure ?_
    have e : ((#[] : Array Value) ++ items).toList = items.toList := by simp
    show Q ((#[] : Array Value) ++ items).toList _
    rw [e]
    refine hQ _ (fun b o' hb => ?_) (by rw [Heap.size_update, Heap.size_push]; exact Nat.le_succ _)
    exact (Heap.get?_update_other _ _ (Nat.ne_of_gt (Heap.lt_size hb))).trans (Heap.get?_push_of_some _ hb)
  refine wpAny_mono (wpAny_extend_seq (hsz := hsz) (A := A) (R := fun r s' => r = .ok (.ret (.ref s.heap.objs.size)) ∧ s' = { s with heap := (s.heap.push { cls := .type "list", data := .seq ([] : List Value).toArray }).update s.heap.objs.size (Obj.mapSeq (· ++ items)) })
    (s := { s with heap := s.heap.push { cls := .type "list", data := .seq ([] : List Value).toArray } }) _ it _ 0 hT hS (Heap.get?_push_of_some _ ho) hc hd ⟨rfl, rfl⟩) (fun fin s' h => ?_) (fun e s' h => ?_)
  · cases fin with
    | done f =>
      obtain ⟨e, rfl⟩ := h
      cases e
      exact fin'
    | again c' => exact ⟨h.1, codeAny_mono h.2 fun r s'' hr => by obtain ⟨rfl, rfl⟩ := hr; exact fin'⟩
  · exact absurd h.1 (by simp)
end
section
variable {β : Type} {prog : Program} {w : World} {A : Around} {E : Value → Shared → Prop} {s : Shared} {enc : β → PyData} {R : Value → β → Prop} {vs : List Value} {bs : List β}
/-- sorted(xs), xs a list or a tuple -/
theorem sorted_seq {l : Addr} {T : String} {o : Obj} {n : Nat} {Q : Value → Shared → Prop} (hT : T = "list" ∨ T = "tuple") (ho : s.heap.get? l = some o) (hc : o.cls = .type T) (hd : o.data = .seq vs.toArray n) (hL : vs.length ≤ sizeLine)
    (e : EachIs R vs bs) (er : EachIs (fun v b => ∃ as, Reads s.heap v (enc b) as) vs bs) (hal : AllAlike (bs.map enc)) (hk : Sortable (bs.map enc)) (hu : ∀ b, b ∈ bs → A.units + 2 + (enc b).depth < cLine)
    (h : ∀ (h' : Heap) (d : Addr) (out : List Value) (m : Nat), (∀ b o, s.heap.get? b = some o → h'.get? b = some o) → s.heap.objs.size ≤ d → h'.get? d = some (seqObj "list" out.toArray m) → EachIs R out (bs.mergeSort (dataLe false enc)) → Q (.ref d) { s with heap := h' }) :
    wpAny (model prog w) A (call (.builtin "sorted") [.ref l]) Q E s := by
  refine call_function_entry_kw kind_sorted plain_sorted entry_sorted (args_sorted1 _) ?_
  unfold Builtin.«sorted»
  refine wpAny_bind (m := checkCount "sorted" 1 1 _) (wpAny_pure ?_)
  refine wpAny_bind (collect_seq2 l hT ho hc hd (fun h1 k1 hge => ?_) (by rw [List.size_toArray]; exact hL))
  refine wpAny_bind (wpAny_newList ?_ (by exact hL))
  have hat : (h1.push (seqObj "list" vs.toArray 0)).get? h1.objs.size = some (seqObj "list" vs.toArray 0) := Heap.get?_push_size _ rfl
  have old : ∀ b o, s.heap.get? b = some o → (h1.push (seqObj "list" vs.toArray 0)).get? b = some o := fun b o q => Heap.get?_push_of_some _ (k1 b o q)
  have ne : ∀ b o, s.heap.get? b = some o → b ≠ h1.objs.size := fun b o q => Nat.ne_of_lt (Nat.lt_of_lt_of_le (Heap.lt_size q) hge)
  have er' : EachIs (fun v b => ∃ as, Reads (sortingHeap (h1.push (seqObj "list" vs.toArray 0)) h1.objs.size vs) v (enc b) as) vs bs := er.mono fun _ _ ⟨as, r⟩ => ⟨as, PyProof.Rows.Reads.keeps (fun b o q => sortingHeap_old (ne b o q) (old b o q)) r⟩
  refine wpAny_bind (wpAny_holding (wpAny_call_entry_kw slot_list_sort ⟨_, hat, rfl⟩ entry_list_sort ?body (args_list_sort _)))
  case body =>
    refine list_sort_vals (s := { s with heap := h1.push (seqObj "list" vs.toArray 0) }) (κ := dataKind (sortingHeap (h1.push (seqObj "list" vs.toArray 0)) h1.objs.size vs) (bs.map enc)) hat
      (SortsAt.data (s := { s with heap := sortingHeap (h1.push (seqObj "list" vs.toArray 0)) h1.objs.size vs }) (each_map (R := fun v d => ∃ as, Reads (sortingHeap (h1.push (seqObj "list" vs.toArray 0)) h1.objs.size vs) v d as) enc er') hal hk (bound_map hu)) hL ⟨_, rfl, wpAny_pure ⟨_, rfl, ?_⟩⟩
    obtain ⟨m, hm⟩ := sortedHeap_at (out := (sortVals (dataKind (sortingHeap (h1.push (seqObj "list" vs.toArray 0)) h1.objs.size vs) (bs.map enc)) false vs vs).toArray) hat
    refine h _ h1.objs.size _ m (fun b o q => ?_) hge hm (sortVals_data false e er' hal)
    rw [sortedHeap_old (ne b o q) (Heap.lt_size (old b o q))]
    exact old b o q
end
end PySem.W

set_option Elab.async false
set_option linter.all false
set_option maxRecDepth 100000
set_option maxHeartbeats 4000000
/-! MiS: sorted, the rule -/
namespace MiS
open PySem PySem.Spec PyProof.Rows L2
open Mi (D Res Fl)
section
variable {γ : GC} {X : Cx} {K : PySem.W.Frag} {H : Hp} {O : OM}
/-- a value of the heap that stands for d -/
def RvD (γ : GC) (K : PySem.W.Frag) (H : Hp) (O : OM) (u : Value) (d : D) : Prop := ∃ v, RelV v u ∧ d.own = false ∧ VR γ K H O (0, 0) d v
theorem each_rv : ∀ {r : List D} {vs : List V} {us : List Value}, VRs γ K H O r vs → Vals vs us → PySem.W.EachIs (RvD γ K H O) us r
  | [], vs, us, h, hv => by
    have h : vs = [] := h
    subst h
    cases hv
    exact .nil
  | d :: r, vs, us, ⟨v, vs', e, ho, hd, h⟩, hv => by
    subst e
    cases hv with
    | cons rv rest => exact .cons ⟨v, rv, ho, hd⟩ (each_rv h rest)
theorem of_each : ∀ {r : List D} {us : List Value}, PySem.W.EachIs (RvD γ K H O) us r → ∃ vs, Vals vs us ∧ VRs γ K H O r vs
  | _, _, .nil => ⟨[], .nil, rfl⟩
  | _, _, .cons ⟨v, rv, ho, hd⟩ t => by
    obtain ⟨vs, h1, h2⟩ := of_each t
    exact ⟨v :: vs, .cons rv h1, v, vs, rfl, ho, hd, h2⟩
theorem each_read {pins : List (Addr × Obj)} {σ : L2.St} {s : Shared} (I : Inv X pins σ H s) : ∀ {r : List D} {us : List Value}, Mi.okNs 60 r = true → PySem.W.EachIs (RvD γ X.K H O) us r → PySem.W.EachIs (fun u d => ∃ as, Reads s.heap u (toPy d) as) us r
  | _, _, _, .nil => .nil
  | _, _, h, .cons ⟨v, rv, ho, hd⟩ t => by
    obtain ⟨h1, h2⟩ := Bool.and_eq_true_iff.mp h
    obtain ⟨d1, _, _⟩ := dp_of 60 (0, 0) _ h1 hd
    exact .cons (Dp.reads I _ _ _ d1 rv) (each_read I h2 t)
theorem sort_able {r : List D} (h : Mi.sortOk r = true) : PySem.W.Sortable (r.map toPy) := by
  cases r with
  | nil => exact .inl fun d hd => by cases hd
  | cons a r =>
    have hp := sort_pairs h
    obtain ⟨hn, _⟩ := Bool.and_eq_true_iff.mp (show (!a.isNil && (Mi.sameSh a a && r.all (Mi.sameSh a))) = true from h)
    have hsh : ∀ x ∈ a :: r, Mi.sameSh a x = true := fun x hx => hp a List.mem_cons_self x hx
    cases a with
    | int i =>
      refine .inr fun d hd => ?_
      obtain ⟨x, hx, rfl⟩ := List.mem_map.mp hd
      have := hsh x hx
      cases x with
      | int j =>
        refine ⟨fun z => ?_, fun xs z => ?_⟩
        · have z : PyData.int j = PyData.none := z
          cases z
        · have z : PyData.int j = PyData.tuple xs := z
          cases z
      | _ => cases this
    | tup ys =>
      refine .inl fun d hd => ?_
      obtain ⟨x, hx, rfl⟩ := List.mem_map.mp hd
      have := hsh x hx
      cases ys with
      | nil => cases hn
      | cons y ys =>
        cases x with
        | tup zs =>
          cases zs with
          | nil => cases this
          | cons z zs => exact ⟨toPy z, toPys zs, rfl⟩
        | _ => cases this
    | _ =>
      have := hsh _ List.mem_cons_self
      cases this
theorem bi_sorted {k : Nat} (hr : Room k X.A) : CallR X (.builtin "sorted") (rB γ X.K (Mi.biD .sorted)) := by
  intro pins s σ H vs us Q I r h
  obtain ⟨O, ds, d, od, b, e, q⟩ := h
  have one : ∃ x, ds = [x] := by
    cases ds with
    | nil => cases e
    | cons x ds =>
      cases ds with
      | nil => exact ⟨x, rfl⟩
      | cons y ds => cases e
  obtain ⟨x, rfl⟩ := one
  obtain ⟨v, t, rfl, hv⟩ := b.one
  have e : (match Mi.seq? x with
    | some r => if (Mi.sortOk r && (Mi.okNs 60 r && decide (r.length ≤ Mi.line))) = true then some (D.lst true (Mi.sortD r)) else none
    | _ => none) = some d := e
  cases qs : Mi.seq? x with
  | none => rw [qs] at e; cases e
  | some rs =>
    rw [qs] at e
    have e : (if (Mi.sortOk rs && (Mi.okNs 60 rs && decide (rs.length ≤ Mi.line))) = true then some (D.lst true (Mi.sortD rs)) else none) = some d := e
    obtain ⟨c, e⟩ := iteS e
    subst e
    obtain ⟨c1, c⟩ := Bool.and_eq_true_iff.mp c
    obtain ⟨c2, c3⟩ := Bool.and_eq_true_iff.mp c
    have c3 := of_decide_eq_true c3
    obtain ⟨a, ws, ea, hs, hw⟩ := seq_of hv qs
    subst ea
    rw [Vals.ref1 r]
    have hu : ∀ b, b ∈ rs → X.A.units + 2 + (toPy b).depth < cLine := fun b hb => by
      obtain ⟨n, hn⟩ := List.mem_iff_getElem?.mp hb
      obtain ⟨w, _, _, g3⟩ := hw.get hn
      obtain ⟨_, _, d3⟩ := dp_of 60 (0, 0) b (okNs_mem c2 b hb) g3
      have := room64 hr
      omega
    have hal : PySem.W.AllAlike (rs.map toPy) := fun p hp p' hp' => by
      obtain ⟨x1, h1, rfl⟩ := List.mem_map.mp hp
      obtain ⟨x2, h2, rfl⟩ := List.mem_map.mp hp'
      exact (lt_of 60 60 x1 x2 (okNs_mem c2 x1 h1) (okNs_mem c2 x2 h2) (sort_pairs c1 x1 h1 x2 h2)).1
    have hfun : PySem.W.dataLe false toPy = fun a b => leK a b := by
      rw [PySem.W.dataLe_eq]
      rfl
    have go : ∀ {T : String} {o : Obj} {n : Nat} {its : List Value}, (T = "list" ∨ T = "tuple") → s.heap.get? a = some o → o.cls = .type T → o.data = .seq its.toArray n → Vals ws its → wpAny (model X.prog X.w) X.A (call (.builtin "sorted") [.ref a]) (EP X pins σ Q) X.xe s := fun {T o n its} hT ho hc hd rv => by
      have hlen : its.length ≤ sizeLine := by
        have h1 := rv.length
        have h2 := hw.len
        have := sizeLine_eq
        have : Mi.line = 16777216 := rfl
        omega
      have ei := each_rv hw rv
      refine PySem.W.sorted_seq (enc := toPy) (R := RvD γ X.K H O) hT ho hc hd hlen ei (each_read I c2 ei) hal (sort_able c1) hu fun h' dd out m kp hge hm hout => ?_
      rw [hfun, ← sortD_eq c1 c2] at hout
      obtain ⟨vs', hv1, hv2⟩ := of_each hout
      have hl2 : vs'.length ≤ sizeLine := by
        have h1 := hv2.len
        have h2 : (Mi.sortD rs).length = rs.length := by
          rw [sortD_eq c1 c2]
          exact List.length_mergeSort rs
        have := sizeLine_eq
        have : Mi.line = 16777216 := rfl
        omega
      exact ⟨.ref dd, upd H dd (.lst vs'), I.laid (t' := s.toks) kp hge ⟨hl2, out, m, hv1, hm⟩, rfl, finL od q hv2 (I.hok.fresh hge)⟩
    rcases hs with hs | hs
    · obtain ⟨its, rv, pl, hz⟩ := I.list hs
      obtain ⟨o, ho, hc, n, hd⟩ := pl.isList
      exact go (.inl rfl) ho hc hd rv
    · obtain ⟨its, rv, pl, hz⟩ := I.tuple hs
      obtain ⟨o, ho, hc, n, hd⟩ := pl
      exact go (.inr rfl) ho hc hd rv
end
end MiS

set_option Elab.async false
set_option linter.all false
set_option maxRecDepth 100000
set_option maxHeartbeats 4000000
/-! MiS: x[k1], x[k2] = a, b -/
namespace MiS
open PySem PySem.Spec PyProof.Rows L2
open Mi (D Res Fl)
section
variable {γ : GC} {T : TabL} {E : XK} {X : Cx} {K : PySem.W.Frag} {H H' H1 : Hp} {O O' O1 : OM} {gl : List D} {cf : Nat → List D → Res (D × List D)} {io : List Nat}
theorem sub_read {i : Nat} {k : Mi.E} {x : D} {vx : V} {rest : EnvI → Res Fl} {DD : Ends} {σ : L2.St} {env : EnvI} {Q : L2.St → Hp → Prop} (hi : i < tT) (R : RS γ K H O env σ) (Tb : LamX.Tabs T H) (hx : x.own = false) (hv : VR γ K H O (0, 0) x vx)
    (P : PoS γ K T E io H O σ ((Mi.getV env i).bind fun _ => (Mi.ev gl cf k env).bind fun q => (Mi.getV q.2 i).bind fun o => (Res.of (Mi.setD o q.1 x)).bind fun o => rest (Mi.setV q.2 i o)) DD)
    (hq : ∀ H' O' e', Pst H O H' O' → RS γ K H' O' e' σ → LamX.Tabs T H' → (∃ d, Mi.getV e' i = .ok d) → PoS γ K T E io H' O' σ (rest e') DD → Q σ H') : gSub (tVar i) (tE γ K T E (Mi.ev gl cf k) (mu k) (Mi.vw k)) (rSet γ K) vx σ H Q := by
  have hT : (i : Nat) ≠ fT := fun e => by
    rw [e] at hi
    exact absurd hi (by decide)
  cases qg : Mi.getV env i with
  | ok d0 =>
    rw [qg, bind_ok] at P
    obtain ⟨vo, h1, _⟩ := getV_at R qg
    refine ⟨vo, h1, env, O, R, Tb, ?_⟩
    cases qi : Mi.ev gl cf k env with
    | ok z =>
      rw [qi, bind_ok] at P
      intro w H3 O3 t3 p3 r3 w3 ht3 Tb3
      have P := PoS.pre (.of (p3.pst R.od)) P
      cases qo : Mi.getV z.2 i with
      | ok d1 =>
        rw [qo, bind_ok] at P
        obtain ⟨vo', h1', h2'⟩ := getV_at r3 qo
        rw [h1] at h1'
        cases h1'
        cases qs : Mi.setD d1 z.1 x with
        | some d2 =>
          rw [qs] at P
          have P : PoS γ K T E io H3 O3 σ (rest (Mi.setV z.2 i d2)) DD := P
          refine ⟨O3, d1, z.1, x, (i, 0), t3, (0, 0), d2, r3.od, h2', Nat.ne_of_lt hi, hT, w3, hx, VR.b R.od p3 hx hv, qs, fun H4 p4 d4 k4 t4 v4 => ?_⟩
          have hl := getV_lt qo
          refine hq H4 O3 _ ((p3.pst R.od).trans p4) (r3.chg h1 p4 d4 k4 v4) (tabs_keep Tb3 r3.od p4 t4) ⟨d2, ?_⟩ (PoS.pre (.of p4) P)
          unfold Mi.getV Mi.setV
          rw [List.getElem?_set_self hl]
        | none =>
          rw [qs] at P
          exact P.elim
      | exc y as => exact (getV_exc qo).elim
      | stk =>
        rw [qo] at P
        exact P.elim
    | exc y as =>
      rw [qi] at P
      exact P
    | stk =>
      rw [qi] at P
      exact P
  | exc y as => exact (getV_exc qg).elim
  | stk =>
    rw [qg] at P
    exact P.elim
theorem s_pix {i : Nat} {k1 k2 a b : Mi.E} {x : Str} {xk1 xk2 xa xb : Expr} {p1 p2 q1 q2 pt pt2 pos : Pos} {kt kt2 kk : Nat} (hr : Room kk X.A) (hc : X.calm = true) (hx1 : PE X (.Name x p1) (tVar i)) (hx2 : PE X (.Name x p2) (tVar i)) (hi : i < tT)
    (hk1 : PE X xk1 (tE γ X.K T E (Mi.ev gl cf k1) (mu k1) (Mi.vw k1))) (hk2 : PE X xk2 (tE γ X.K T E (Mi.ev gl cf k2) (mu k2) (Mi.vw k2))) (na : ∀ j, a ≠ .io j) (nb : ∀ j, b ≠ .io j)
    (ht : PE X (.Tuple [xa, xb] kt2 pt2) (tE γ X.K T E (Mi.ev gl cf (.tup [a, b])) (mus [a, b]) false))
    (ha1 : ∀ v, assign (.Subscript (.Name x p1) xk1 q1) X.env v = (do
      let ov ← holding [v] (eval (.Name x p1) X.env)
      let iv ← holding [v, ov] (eval xk1 X.env)
      standAt q1
      holding [v, ov, iv] (setItem ov iv v)
      release [v, ov, iv] []))
    (ha2 : ∀ v, assign (.Subscript (.Name x p2) xk2 q2) X.env v = (do
      let ov ← holding [v] (eval (.Name x p2) X.env)
      let iv ← holding [v, ov] (eval xk2 X.env)
      standAt q2
      holding [v, ov, iv] (setItem ov iv v)
      release [v, ov, iv] [])) (hsw : swappedStores [.Tuple [.Subscript (.Name x p1) xk1 q1, .Subscript (.Name x p2) xk2 q2] kt pt] (.Tuple [xa, xb] kt2 pt2) X.env = pure none) :
    PS X (.Assign [.Tuple [.Subscript (.Name x p1) xk1 q1, .Subscript (.Name x p2) xk2 q2] kt pt] (.Tuple [xa, xb] kt2 pt2) pos) (tS γ X.K T E io (Mi.ex gl cf (.pix i k1 k2 a b))) :=
  PS.weak (ps_asg ht (pg_tup hc (pgs_cons (pg_sub hx1 hk1 (ok_set (γ := γ) hr) ha1) (pgs_cons (pg_sub hx2 hk2 (ok_set (γ := γ) hr) ha2) pgs_nil rfl) rfl)) rfl hsw rfl) fun D σ H ⟨env, O, R, Tb, P⟩ => by
  have e1 : ∀ env, Mi.ex gl cf (.pix i k1 k2 a b) env = (Mi.ev gl cf (.tup [a, b]) env).bind fun p => match p.1 with
      | .tup [x, y] => (Mi.getV p.2 i).bind fun _ => (Mi.ev gl cf k1 p.2).bind fun q => (Mi.getV q.2 i).bind fun o => (Res.of (Mi.setD o q.1 x)).bind fun o => (Mi.ev gl cf k2 (Mi.setV q.2 i o)).bind fun q => (Mi.getV q.2 i).bind fun o => (Res.of (Mi.setD o q.1 y)).bind fun o => .ok (.nx (Mi.setV q.2 i o))
      | _ => .stk := fun env => by
    have t1 : Mi.ev gl cf (.tup [a, b]) env = (Mi.evs gl cf [a, b] env).bind fun p => .ok (.tup p.1, p.2) := by simp only [Mi.ev]
    rw [t1, evs_cons na]
    simp only [Mi.ex]
    cases Mi.ev gl cf a env with
    | ok pa =>
      simp only [Res.bind]
      cases Mi.keep a pa.1 with
      | ok xa =>
        simp only [Res.bind]
        rw [evs_cons nb]
        cases Mi.ev gl cf b pa.2 with
        | ok pb =>
          simp only [Res.bind]
          cases Mi.keep b pb.1 with
          | ok xb => simp only [Res.bind, Mi.evs]
          | exc _ _ => rfl
          | stk => rfl
        | exc _ _ => rfl
        | stk => rfl
      | exc _ _ => rfl
      | stk => rfl
    | exc _ _ => rfl
    | stk => rfl
  rw [e1] at P
  refine ⟨env, O, R, Tb, ?_⟩
  cases q : Mi.ev gl cf (.tup [a, b]) env with
  | ok p =>
    rw [q, bind_ok] at P
    intro v H1 O1 t p1 r1 v1 ht1 Tb1
    obtain ⟨pd, pe⟩ := p
    cases pd with
    | tup ds =>
      cases ds with
      | nil => exact P.elim
      | cons x ds =>
        cases ds with
        | nil => exact P.elim
        | cons y ds =>
          cases ds with
          | cons z ds => exact P.elim
          | nil =>
            obtain ⟨aT, vs, ev_, hT, vx, r', e2, hox, hvx, vy, r'', e3, hoy, hvy, e4⟩ := v1
            have e4 : r'' = [] := e4
            subst e4 e3 e2 ev_
            have P := PoS.pre (.of (p1.pst R.od)) P
            refine ⟨aT, [vx, vy], rfl, .inl (.inl hT), rfl, vx, [vy], rfl, sub_read hi r1 Tb1 hox hvx (rest := fun e => (Mi.ev gl cf k2 e).bind fun q => (Mi.getV q.2 i).bind fun o => (Res.of (Mi.setD o q.1 y)).bind fun o => .ok (.nx (Mi.setV q.2 i o))) P fun H2 O2 e' ps r2 Tb2 hg P2 => ?_⟩
            obtain ⟨dd, hg⟩ := hg
            exact ⟨vy, [], rfl, sub_read hi r2 Tb2 hoy (VR.stepN r1.od ps.non y hoy hvy) (rest := fun e => .ok (.nx e)) (by rw [hg, bind_ok]; exact P2) fun H3 O3 e'' ps3 r3 Tb3 _ P3 => ⟨rfl, P3 σ H3 O3 (StepS.refl _ _ _) r3 Tb3⟩⟩
    | _ => exact P.elim
  | exc y as =>
    rw [q] at P
    exact P
  | stk =>
    rw [q] at P
    exact P
theorem ss_sub {o1 o2 i1 i2 : Expr} {p1 p2 pt : Pos} {kt : Nat} {xe : List Expr} {k2 : Nat} {pt2 : Pos} {env : Env} : swappedStores [.Tuple [.Subscript o1 i1 p1, .Subscript o2 i2 p2] kt pt] (.Tuple xe k2 pt2) env = pure none := by
  unfold swappedStores
  dsimp only
  split
  · rfl
  · split
    · rfl
    · rw [if_pos]
      rfl
end
end MiS

set_option Elab.async false
set_option linter.all false
set_option maxRecDepth 100000
set_option maxHeartbeats 4000000
/-! MiS: a look at the text -/
namespace MiS
open PySem PySem.Spec PyProof.Rows L2
open Mi (D Res Fl)
/-- what the look knows: the slots' names, the scope, the defs, the constants, the built-in names that stand, the names that are stored as they are -/
structure Sc where
  N : List Str
  sc : Scope
  fns : List (Str × Nat × List Nat)
  gls : List (Option Str)
  free : List Str
  fnOk : List Str → Bool := fun _ => true
  all : Bool
  cells : List Str
  told : List (Option Str) := []
  lam : Bool := false
def visB (sc : Scope) (x : Str) : Bool := decide (sc.names.lookup x = some .local) || decide (sc.names.lookup x = some .cell) || decide (sc.names.lookup x = some .free)
def glB (sc : Scope) (x : Str) : Bool := decide (sc.names.lookup x = some .globalImplicit)
def dbg (x : Str) : Bool := (x == ("__debug__" : Str)) || (x == ("__classdict__" : Str))
def chkV (sc : Sc) (i : Nat) (x : Str) : Bool := decide (sc.N[i]? = some x) && visB sc.sc x && !dbg x
def locB (sc : Sc) (x : Str) : Bool := decide (sc.sc.names.lookup x = some .local) || (decide (sc.sc.names.lookup x = some .cell) && (sc.all || sc.cells.contains x))
def freeB (sc : Sc) (x : Str) : Bool := glB sc.sc x && sc.free.contains x && !dbg x && !decide (x = ("__name__" : Str))
def notStar : Expr → Bool
  | .Starred .. => false
  | _ => true
def plainT : Expr → Bool
  | .UnaryOp .. => false
  | .BoolOp .. => false
  | .IfExp .. => false
  | .Compare .. => false
  | _ => true
def notSl : Expr → Bool
  | .Slice .. => false
  | _ => true
def notSet : Expr → Bool
  | .Set .. => false
  | _ => true
mutual
def chkTg (sc : Sc) : Mi.T → Expr → Bool
  | .v i, x => match x with
    | .Name y _ => decide (sc.N[i]? = some y) && locB sc y
    | _ => false
  | .tup ts, x => match x with
    | .Tuple es _ _ => chkTgs sc ts es
    | _ => false
def chkTgs (sc : Sc) : List Mi.T → List Expr → Bool
  | [], [] => true
  | t :: ts, e :: es => chkTg sc t e && notStar e && chkTgs sc ts es
  | _, _ => false
end
def biName : Mi.B → Option (Str × Bool × String)
  | .len => some ("len", false, "len")
  | .abs => some ("abs", false, "abs")
  | .int => some ("int", true, "int")
  | .max1 => some ("max", false, "max")
  | .max2 => some ("max", false, "max")
  | .min1 => some ("min", false, "min")
  | .min2 => some ("min", false, "min")
  | .sum => some ("sum", false, "sum")
  | .sorted => some ("sorted", false, "sorted")
  | .tuple => some ("tuple", true, "tuple")
  | .list => some ("list", true, "list")
  | .all => some ("all", false, "all")
  | .any => some ("any", false, "any")
  | .dict false => some ("dict", true, "dict")
  | _ => none
def lamSc (sc : Sc) (scope : Scope) : Sc := { sc with sc := scope, all := false, cells := [], lam := false }
def blkSc (sc : Sc) (scope : Scope) : Sc := { sc with sc := relS scope sc.sc, all := false, lam := false, cells := (scope.names.filter fun y => decide (scope.names.lookup y.1 = some .cell)).map (·.1) }
def owOf (sc : Sc) (own : List Nat) : List (Str × Nat) := own.map fun i => (sc.N.getD i "", i)
def isKey : List Mi.E → Int → Bool
  | [.c (.int i)], j => decide (i = j)
  | _, _ => false
/-- the arguments that are values -/
def biArgs : Mi.B → List Expr → List Expr
  | .isi _, [x, .Name _ _] => [x]
  | .isi _, _ => [.Starred (.Tuple [] 0 default) default]
  | _, xs => xs
def biOk (sc : Sc) (b : Mi.B) (y : Str) (xs : List Expr) (es : List Mi.E) : Bool := match b with
  | .isi t => decide (y = ("isinstance" : Str)) && decide (es.length = 1) && (match xs with
    | [_, .Name z _] => decide (z = tyStr t) && freeB sc z
    | _ => false)
  | b => match biName b with
    | some (n, _, _) => decide (y = n) && decide (0 < es.length) && vwOk es
    | none => false
/-- a conversion of another call: the two names -/
def convB : Mi.B → Option (Str × Str)
  | .lenset => some ("len", "set")
  | .lrange1 => some ("list", "range")
  | .trange1 => some ("tuple", "range")
  | _ => none
def noArgs : Arguments → Bool
  | ⟨[], [], none, [], [], none, []⟩ => true
  | _ => false
/-- the argument behind a lambda -/
def lArgB : List Mi.E → List Expr → Bool
  | [], [] => true
  | [.c (.str s)], [.Constant (.str t) _ _] => decide (mkS s = t)
  | _, _ => false
mutual
/-- m: as a test -/
def chk (sc : Sc) (m : Bool) : Mi.E → Expr → Bool
  | .c d, x => (!m || plainT x) && match d, x with
    | .int i, .Constant (.int j) _ _ => decide (i = j)
    | .str s, .Constant (.str t) _ _ => decide (mkS s = t) && PyData.strOk t
    | .bl b, .Constant (.bool c) _ _ => b == c
    | .non, .Constant .none _ _ => true
    | _, _ => false
  | .v i, x => (!m || plainT x) && match x with
    | .Name y _ => chkV sc i y
    | _ => false
  | .mv i, x => (!m || plainT x) && match x with
    | .Name y _ => chkV sc i y
    | _ => false
  | .fz i, x => (!m || plainT x) && match x with
    | .Name y _ => chkV sc i y
    | _ => false
  | .g i, x => (!m || plainT x) && match x with
    | .Name y _ => decide (sc.gls[i]? = some (some y)) && glB sc.sc y && !dbg y
    | _ => false
  | .bin o a b, x => (!m || plainT x) && match x with
    | .BinOp l op r _ => decide (op = opOf o) && chk sc false a l && chk sc false b r && (!Mi.vw a || !mu b)
    | _ => false
  | .neg a, x => !m && match x with
    | .UnaryOp .USub y _ => chk sc false a y
    | _ => false
  | .nt a, x => match x with
    | .UnaryOp .Not y _ => chk sc m a y
    | _ => false
  | .cmp a os bs, x => match x with
    | .Compare l ops rs _ => decide (ops = os.map cpOf) && chk sc false a l && chks sc bs rs && decide (os.length = bs.length) && decide (0 < os.length) && (if os.length = 1 then (!Mi.vw a || !mus bs) && (match ops, rs with
      | [op], [r] => !behindInMarks op r
      | _, _ => false) else !mus bs && !lastMarks ops rs)
    | _ => false
  | .and es, x => match x with
    | .BoolOp .And xs _ => (if m = true then chkts sc es xs else chks sc es xs) && decide (0 < es.length)
    | _ => false
  | .or es, x => match x with
    | .BoolOp .Or xs _ => (if m = true then chkts sc es xs else chks sc es xs) && decide (0 < es.length)
    | _ => false
  | .ife t a b, x => !m && match x with
    | .IfExp xt xa xb _ => chk sc true t xt && chk sc false a xa && chk sc false b xb
    | _ => false
  | .tup es, x => (!m || plainT x) && match x with
    | .Tuple xs _ _ => chkks sc es xs && noIo es && decide (es.length ≤ 1000)
    | _ => false
  | .lst es, x => (!m || plainT x) && match x with
    | .List xs _ => chkks sc es xs && noIo es && decide (es.length ≤ 1000)
    | _ => false
  | .dic tk ks vs, x => !m && match x with
    | .Dict [] [] _ => ks.isEmpty && vs.isEmpty
    | .Dict [some (.Constant (.int j) _ _)] [xe] _ => !tk && isKey ks j && chkks sc vs [xe] && noIo vs
    | _ => false
  | .ix a b, x => (!m || plainT x) && match x with
    | .Subscript l r _ => chk sc false a l && chk sc false b r && (!Mi.vw a || !mu b) && notSl r
    | _ => false
  | .sl a lo hi, x => !m && match x with
    | .Subscript l (.Slice xl xh none _) _ => chk sc false a l && chko sc lo xl && chko sc hi xh && (!Mi.vw a || !(muo lo || muo hi))
    | _ => false
  | .rev a, x => !m && match x with
    | .Subscript l (.Slice none none (some (.UnaryOp .USub (.Constant (.int i) _ _) _)) _) _ => chk sc false a l && decide (i = 1)
    | _ => false
  | .call f es, x => (!m || plainT x) && match x with
    | .Call (.Name y _) xs [] _ => chkks sc es xs && decide (0 < es.length) && glB sc.sc y && !dbg y && decide (sc.fns[f]? = some (y, es.length, (ioPos es 0).map (·.2))) && decide ((ioPos es 0).map (·.1)).Nodup && decide (es.length ≤ 1000)
    | _ => false
  | .lam f b es, x => (!m || plainT x) && match x with
    | .Call (.Name y _) (.Lambda params body scope _ :: xs) [] _ => sc.lam && decide (sc.told[f]? = some (some y)) && glB sc.sc y && !dbg y && lArgB es xs && !mu b && noArgs params && LamX.lamSB sc.sc scope && chk (lamSc sc scope) false b body
    | _ => false
  | .bi b es, x => (!m || plainT x) && match convB b with
    | some (o, i) => (match x with
      | .Call (.Name y _) [.Call (.Name z _) xs [] _] [] _ => decide (y = o) && decide (z = i) && freeB sc y && freeB sc z && chks sc es xs && decide (es.length = 1)
      | _ => false)
    | none => (match x with
      | .Call (.Name y _) xs [] _ => freeB sc y && chks sc es (biArgs b xs) && biOk sc b y xs es
      | _ => false)
  | .dget a k d, x => (!m || plainT x) && match x with
    | .Call (.Attribute (.Name y p) at_ pa) [xk, xd] [] pos => decide (at_ = ("get" : Str)) && chk sc false a (.Name y p) && chk sc false k xk && chk sc false d xd && !mu k && !mu d && notStar xk && notStar xd && (pa.endLine == pos.line)
    | _ => false
  | .mth .index a k, x => (!m || plainT x) && match x with
    | .Call (.Attribute (.Name y p) at_ pa) [xk] [] pos => decide (at_ = ("index" : Str)) && chk sc false a (.Name y p) && chk sc false k xk && (!Mi.vw a || !mu k) && notStar xk && (pa.endLine == pos.line)
    | _ => false
  | .mth .count a k, x => (!m || plainT x) && match x with
    | .Call (.Attribute (.Name y p) at_ pa) [xk] [] pos => decide (at_ = ("count" : Str)) && chk sc false a (.Name y p) && chk sc false k xk && (!Mi.vw a || !mu k) && notStar xk && (pa.endLine == pos.line)
    | _ => false
  | .lc own elt t it ifs gs, x => (!m || plainT x) && match x with
    | .ListComp xe [⟨xt, xi, xifs, z⟩] scope _ => gs.isEmpty && decide (z = 0) && decide (∀ j ∈ tv t, j ∈ own) && blkC sc.N sc.sc scope (owOf sc own) && chkTg (blkSc sc scope) t xt && chk (blkSc sc scope) false elt xe && chkI sc (mu elt || muo ifs) it xt xi &&
      notSet xi && chkot (blkSc sc scope) ifs xifs
    | _ => false
  | _, _ => false
def chks (sc : Sc) : List Mi.E → List Expr → Bool
  | [], [] => true
  | e :: es, x :: xs => chk sc false e x && notStar x && chks sc es xs
  | _, _ => false
def chkts (sc : Sc) : List Mi.E → List Expr → Bool
  | [], [] => true
  | e :: es, x :: xs => chk sc true e x && chkts sc es xs
  | _, _ => false
def chkks (sc : Sc) : List Mi.E → List Expr → Bool
  | [], [] => true
  | .io i :: es, x :: xs => (match x with
    | .Name y _ => chkV sc i y
    | _ => false) && chkks sc es xs
  | e :: es, x :: xs => chk sc false e x && notStar x && chkks sc es xs
  | _, _ => false
def chko (sc : Sc) : Option Mi.E → Option Expr → Bool
  | none, none => true
  | some e, some x => chk sc false e x
  | _, _ => false
def chkot (sc : Sc) : Option Mi.E → List Expr → Bool
  | none, [] => true
  | some e, [x] => chk sc true e x
  | _, _ => false
/-- c: the body changes things (true: what is walked must not be a slot's own) -/
def chkI (sc : Sc) (c : Bool) : Mi.I → Expr → Expr → Bool
  | .seq e, _, x => chk sc false e x && (!c || !Mi.vw e)
  | .rng es, _, x => match x with
    | .Call (.Name y _) xs [] _ => decide (y = ("range" : Str)) && freeB sc y && chks sc es xs && vwOk es && decide (es.length = 1 ∨ es.length = 2 ∨ es.length = 3)
    | _ => false
  | .enum e, xt, x => match xt, x with
    | .Tuple .., .Call (.Name y _) [xe] [] _ => decide (y = ("enumerate" : Str)) && freeB sc y && chk sc false e xe && notStar xe && (!c || !Mi.vw e)
    | _, _ => false
  | .zip a b, xt, x => match xt, x with
    | .Tuple .., .Call (.Name y _) [xa, xb] [] _ => decide (y = ("zip" : Str)) && freeB sc y && chk sc false a xa && chk sc false b xb && notStar xa && notStar xb && !mu b && (!c || (!Mi.vw a && !Mi.vw b))
    | _, _ => false
  | _, _, _ => false
end
end MiS

set_option Elab.async false
set_option linter.all false
set_option maxRecDepth 100000
set_option maxHeartbeats 4000000
/-! MiS: the look is sound -/
namespace MiS
open PySem PySem.Spec PyProof.Rows L2
open Mi (D Res Fl)
/-- what a lambda of this context may lean on -/
def LamI (γ : GC) (T : TabL) (cf : Nat → List D → Res (D × List D)) (sc : Sc) (X : Cx) : Prop :=
  ∃ (c P : Addr) (m : Nat), LamX.TabB X.base X.mg c P ∧ X.env.code = .ref c ∧ (P, X.env.qual ++ "<lambda>") ∈ T ∧ (∀ p ∈ T, p.1 = P → p.2 = X.env.qual ++ "<lambda>") ∧ Room (m + 4) X.A ∧
    (∀ (f : Nat) (y : Str) (np : Nat) (io : List Nat), sc.fns[f]? = some (y, np, io) → ∃ fd ps, X.mg y = some (.ref (γ.fad f)) ∧ PySem.W.keepIn X.K (.ref (γ.fad f)) = true ∧ L2.Binds X.K fd ps [] ∧
      FnOk X.prog X.w X.K X.mg X.base (L2.CX X.prog X.w) (m + 2) (γ.fad f) fd ps (spF γ X.K T np io (cf f))) ∧
    ∀ (f : Nat) (y : Str), sc.told[f]? = some (some y) → ∃ t xn, ToldOk γ X.K X.mg xn y f t ∧ ∀ nm r d outs, NmOk nm → cf f (r :: nm) = .ok (d, outs) → TellR t nm d r ∧ nm.length + 1 = t.np
structure XG (γ : GC) (T : TabL) (E : XK) (gl : List D) (cf : Nat → List D → Res (D × List D)) (sc : Sc) (X : Cx) : Prop where
  calm : X.calm = true
  nd : X.N.Nodup
  hN : X.N = sc.N
  hs : X.env.scope = sc.sc
  room : ∃ k, Room (k + 2) X.A
  tk : Takes X (fun cls d _ H => E cls d H)
  own : PassesOwn (model X.prog X.w) X.A X.env X.xe
  px : Passes (L2.CX X.prog X.w) X E
  free : ∀ x ∈ sc.free, X.mg x = none
  fns : ∀ (f : Nat) (y : Str) (np : Nat) (io : List Nat), sc.fns[f]? = some (y, np, io) → ∃ k fd ps, X.mg y = some (.ref (γ.fad f)) ∧ PySem.W.keepIn X.K (.ref (γ.fad f)) = true ∧ L2.Binds X.K fd ps [] ∧ Room k X.A ∧
    FnOk X.prog X.w X.K X.mg X.base (L2.CX X.prog X.w) k (γ.fad f) fd ps (spF γ X.K T np io (cf f))
  gls : ∀ (i : Nat) (y : Str), sc.gls[i]? = some (some y) → ∃ u v d, gl[i]? = some d ∧ X.mg y = some u ∧ RelV v u ∧ ∀ H O, VR γ X.K H O tmp d v
  hf : (sc.all = true → ∀ x, X.fn x = true) ∧ ∀ x ∈ sc.cells, X.fn x = true
  lam : sc.lam = true → LamI γ T cf sc X
section
variable {γ : GC} {T : TabL} {E : XK} {X : Cx} {gl : List D} {cf : Nat → List D → Res (D × List D)} {sc : Sc}
theorem XG.blk (G : XG γ T E gl cf sc X) (scope : Scope) (s : Shared) (H : Hp) (C : Addr) (cl : List (Str × Addr)) (fp : List Addr) : XG γ T E0 gl cf (blkSc sc scope) (X.blk s H scope (compEnvC scope cl C X.env) fp) where
  calm := G.calm
  nd := G.nd
  hN := G.hN
  hs := by
    show relabel scope X.env = relS scope sc.sc
    rw [← G.hs]
    rfl
  room := G.room
  tk := fun _ _ x => by
    obtain ⟨_, _, _, _, _, _, _, _, _, _, _, _, _, _, _, _, z⟩ := x
    exact z.elim
  own := PassesOwn.never
  px := fun _ _ _ _ _ _ _ h => by
    obtain ⟨_, _, _, _, _, _, _, _, _, _, _, _, z⟩ := h
    exact z.elim
  free := G.free
  fns := G.fns
  gls := G.gls
  hf := ⟨fun h => (nomatch (show false = true from h)), fun x hx => by
    obtain ⟨y, hy, rfl⟩ := List.mem_map.mp hx
    have := (List.mem_filter.mp hy).2
    show (scope.names.lookup y.1 == some .cell) = true
    simpa using this⟩
  lam := fun h => (nomatch (show false = true from h))
/-- a lambda's body -/
theorem XG.lamB (G : XG γ T E gl cf sc X) {m : Nat} {E' : XK} {scope : Scope} {A : Around} {outer : List Env} {s : Shared} {H : Hp} {f c' : Addr} (hr : Room (m + 2) (A.deeper (LamX.lamEnv X scope s.heap.objs.size f c')))
    (hF : ∀ (f : Nat) (y : Str) (np : Nat) (io : List Nat), sc.fns[f]? = some (y, np, io) → ∃ fd ps, X.mg y = some (.ref (γ.fad f)) ∧ PySem.W.keepIn X.K (.ref (γ.fad f)) = true ∧ L2.Binds X.K fd ps [] ∧
      FnOk X.prog X.w X.K X.mg X.base (L2.CX X.prog X.w) (m + 2) (γ.fad f) fd ps (spF γ X.K T np io (cf f))) : XG γ T E' gl cf (lamSc sc scope) (LamX.lamCx X A outer s H E' scope f c') where
  calm := rfl
  nd := G.nd
  hN := G.hN
  hs := rfl
  room := ⟨m, hr⟩
  tk := takes_of rfl rfl rfl rfl
  own := passes_of rfl
  px := passes_call (takes_of rfl rfl rfl rfl) fun _ _ _ _ h => h
  free := G.free
  fns := fun g y np io e => by
    obtain ⟨fd, ps, a1, a2, a3, a4⟩ := hF g y np io e
    exact ⟨m + 2, fd, ps, a1, a2, a3, hr, a4⟩
  gls := G.gls
  hf := ⟨fun h => (nomatch (show false = true from h)), fun x hx => by cases hx⟩
  lam := fun h => (nomatch (show false = true from h))
theorem noArgs_of {p : Arguments} (h : noArgs p = true) : p = ⟨[], [], none, [], [], none, []⟩ := by
  unfold noArgs at h
  split at h
  · rfl
  · cases h
theorem lArg_of {es : List Mi.E} {xs : List Expr} (h : lArgB es xs = true) : ∃ nm vs, LArg es xs nm vs := by
  unfold lArgB at h
  split at h
  · exact ⟨_, _, .nil⟩
  · have := of_decide_eq_true h
    subst this
    exact ⟨_, _, .one⟩
  · cases h
theorem vis_of {sc : Scope} {x : Str} (h : visB sc x = true) : Vis sc x := by
  unfold visB at h
  simp only [Bool.or_eq_true, decide_eq_true_eq] at h
  rcases h with (h | h) | h
  · exact .inl h
  · exact .inr (.inl h)
  · exact .inr (.inr h)
theorem dbg_of {x : Str} (h : (!dbg x) = true) : (x == ("__debug__" : Str)) = false ∧ (x == ("__classdict__" : Str)) = false := by
  unfold dbg at h
  simp only [Bool.not_eq_true', Bool.or_eq_false_iff] at h
  exact h
theorem chkV_of (G : XG γ T E gl cf sc X) {i : Nat} {x : Str} (h : chkV sc i x = true) : X.N[i]? = some x ∧ Vis X.env.scope x ∧ (x == ("__debug__" : Str)) = false ∧ (x == ("__classdict__" : Str)) = false := by
  unfold chkV at h
  obtain ⟨h, h3⟩ := Bool.and_eq_true_iff.mp h
  obtain ⟨h1, h2⟩ := Bool.and_eq_true_iff.mp h
  obtain ⟨h4, h5⟩ := dbg_of h3
  exact ⟨by rw [G.hN]; exact of_decide_eq_true h1, by rw [G.hs]; exact vis_of h2, h4, h5⟩
theorem freeB_of (G : XG γ T E gl cf sc X) {x : Str} (h : freeB sc x = true) : Gl X x ∧ X.mg x = none ∧ (x == ("__debug__" : Str)) = false ∧ x ≠ "__name__" := by
  unfold freeB at h
  obtain ⟨h, h4⟩ := Bool.and_eq_true_iff.mp h
  obtain ⟨h, h3⟩ := Bool.and_eq_true_iff.mp h
  obtain ⟨h1, h2⟩ := Bool.and_eq_true_iff.mp h
  refine ⟨?_, G.free x (by simpa using h2), (dbg_of h3).1, by simpa using h4⟩
  show X.env.scope.names.lookup x = some .globalImplicit
  rw [G.hs]
  exact of_decide_eq_true h1
theorem gl_of (G : XG γ T E gl cf sc X) {x : Str} (h : glB sc.sc x = true) : Gl X x := by
  show X.env.scope.names.lookup x = some .globalImplicit
  rw [G.hs]
  exact of_decide_eq_true h
theorem star_of {x : Expr} (h : notStar x = true) (env : Env) (ys : List Expr) : starEach (x :: ys) env = (false, eval x env) :: starEach ys env := by
  cases x <;> first | rfl | cases h
theorem each_of {x : Expr} (h : notStar x = true) (env : Env) (ys : List Expr) : assignEach (x :: ys) env = (false, assign x env) :: assignEach ys env := by
  cases x <;> first | rfl | cases h
theorem plain_of {x : Expr} (h : plainT x = true) (env : Env) (whole : Sem Value) : isTrue x env whole = (do let v ← whole; standAt x.pos; holding [v] (truthy v)) := by
  cases x <;> first | rfl | cases h
theorem loc_of (G : XG γ T E gl cf sc X) {x : Str} (h : locB sc x = true) : Loc X.env.scope x ∧ (X.fn x = true ∨ X.env.scope.names.lookup x = some .local) := by
  unfold locB at h
  rw [G.hs]
  rcases Bool.or_eq_true_iff.mp h with h | h
  · exact ⟨.inl (of_decide_eq_true h), .inr (of_decide_eq_true h)⟩
  · obtain ⟨h1, h2⟩ := Bool.and_eq_true_iff.mp h
    refine ⟨.inr (of_decide_eq_true h1), .inl ?_⟩
    rcases Bool.or_eq_true_iff.mp h2 with h2 | h2
    · exact G.hf.1 h2 x
    · exact G.hf.2 x (by simpa using h2)
mutual
theorem chkTg_ok (G : XG γ T E gl cf sc X) : ∀ (t : Mi.T) (x : Expr), chkTg sc t x = true → TgOk X t x
  | .v i, x, h => by
    unfold chkTg at h
    split at h
    · obtain ⟨h1, h2⟩ := Bool.and_eq_true_iff.mp h
      obtain ⟨h3, h4⟩ := loc_of G h2
      exact .v (by rw [G.hN]; exact of_decide_eq_true h1) h3 h4
    · cases h
  | .tup ts, x, h => by
    unfold chkTg at h
    split at h
    · exact .tup (chkTgs_ok G ts _ h)
    · cases h
theorem chkTgs_ok (G : XG γ T E gl cf sc X) : ∀ (ts : List Mi.T) (xs : List Expr), chkTgs sc ts xs = true → TgsOk X ts xs
  | [], [], _ => .nil
  | [], _ :: _, h => by simp [chkTgs] at h
  | _ :: _, [], h => by simp [chkTgs] at h
  | t :: ts, x :: xs, h => by
    unfold chkTgs at h
    obtain ⟨h, h3⟩ := Bool.and_eq_true_iff.mp h
    obtain ⟨h1, h2⟩ := Bool.and_eq_true_iff.mp h
    exact .cons (chkTg_ok G t x h1) (fun env => each_of h2 env xs) (chkTgs_ok G ts xs h3)
end
/-- both readings -/
def Both (γ : GC) (T : TabL) (E : XK) (gl : List D) (cf : Nat → List D → Res (D × List D)) (X : Cx) (m : Bool) (e : Mi.E) (x : Expr) : Prop :=
  (m = false → PE X x (tE γ X.K T E (Mi.ev gl cf e) (mu e) (Mi.vw e))) ∧ (m = true → PT X x (tTst γ X.K T E (tOf (Mi.ev gl cf e)) (mu e)))
theorem both_of {m : Bool} {e : Mi.E} {x : Expr} (hm : (!m || plainT x) = true) (h : PE X x (tE γ X.K T E (Mi.ev gl cf e) (mu e) (Mi.vw e))) : Both γ T E gl cf X m e x :=
  ⟨fun _ => h, fun e => t_val h fun whole => plain_of (by
    rw [e] at hm
    simpa using hm) _ _⟩
theorem bi_boot {b : Mi.B} {n : Str} {ty : Bool} {id : String} (h : biName b = some (n, ty, id)) : bootBuiltins n = some (if ty = true then .type id else .builtin id) := by
  unfold biName at h
  split at h <;> cases h <;> first | exact PySem.boot_len | exact boot_abs | exact boot_int | exact boot_max | exact boot_min | exact boot_sum | exact boot_tuple | exact boot_list | exact boot_all | exact boot_any | exact boot_dict | exact PySem.boot_sorted | exact PyProof.Rows.boot_sorted
end
end MiS

set_option Elab.async false
set_option linter.all false
set_option maxRecDepth 100000
set_option maxHeartbeats 4000000
/-! MiS: the look at an expression is sound -/
namespace MiS
open PySem PySem.Spec PyProof.Rows L2
open Mi (D Res Fl)
section
variable {γ : GC} {T : TabL} {gl : List D} {cf : Nat → List D → Res (D × List D)}
theorem and2 {a b : Bool} (h : (a && b) = true) : a = true ∧ b = true := Bool.and_eq_true_iff.mp h
theorem orn {a b : Bool} (h : (!a || !b) = true) : a = false ∨ b = false := by
  rcases Bool.or_eq_true_iff.mp h with z | z
  · exact .inl (by simpa using z)
  · exact .inr (by simpa using z)
theorem plainIx_of {x : Expr} (h : notSl x = true) : PlainIx x := fun o i => by
  cases x <;> first | rfl | cases h
theorem PEs.of (γ : GC) (T : TabL) (E : XK) (X : Cx) {es : List Mi.E} {xs : List Expr} (h : PEs γ T E X gl cf es xs) : es.length = xs.length := h.len
theorem bi_rule {E : XK} {X : Cx} {sc : Sc} (G : XG γ T E gl cf sc X) {b : Mi.B} {n : Str} {ty : Bool} {id : String} (h : biName b = some (n, ty, id)) : CallR X (if ty = true then .type id else .builtin id) (rB γ X.K (Mi.biD b)) := by
  obtain ⟨k, hr⟩ := G.room
  have hc := G.calm
  unfold biName at h
  split at h <;> cases h
  · exact bi_len
  · exact bi_abs
  · exact bi_int
  · exact bi_max1 hr hc
  · exact bi_max2 hc
  · exact bi_min1 hr hc
  · exact bi_min2 hc
  · exact bi_sum hc
  · exact bi_sorted hr
  · exact bi_tuple
  · exact bi_list hc
  · exact bi_all hc
  · exact bi_any hc
  · exact bi_dict hc
theorem isKey_of {ks : List Mi.E} {j : Int} (h : isKey ks j = true) : ks = [.c (.int j)] := by
  unfold isKey at h
  split at h
  · rw [of_decide_eq_true h]
  · cases h
theorem evJ_seq {e : Mi.E} {env : EnvI} : Mi.evJ gl cf (.seq e) env = (Mi.ev gl cf e env).bind fun p => (Mi.seqI p.1).bind fun r => .ok (r, p.2) := by simp only [Mi.evJ]
theorem star1 {x : Expr} (h : ∀ env : Env, starEach [x] env = (false, eval x env) :: starEach [] env) (env : Env) (ys : List Expr) : starEach (x :: ys) env = (false, eval x env) :: starEach ys env := by
  cases x with
  | Starred e p =>
    have := h env
    simp [starEach] at this
  | _ => rfl
theorem seqI_noexc {d : D} {x : Nat} {as : List D} (h : Mi.seqI d = .exc x as) : False := by
  unfold Mi.seqI at h
  split at h <;> cases h
theorem seqL_noexc {d : D} {x : Nat} {as : List D} (h : Mi.seqL d = .exc x as) : False := by
  unfold Mi.seqL at h
  split at h <;> cases h
theorem zipS_noexc {d e : D} {x : Nat} {as : List D} (h : Mi.zipS d e = .exc x as) : False := by
  unfold Mi.zipS at h
  split at h <;> cases h
theorem rng_gen {E : XK} {X : Cx} {es : List Mi.E} {xs : List Expr} {xt : Expr} {p pos : Pos} {c : Bool} {g : AF} (hg : Gl X "range") (hm : X.mg "range" = none) (ha : PEs γ T E X gl cf es xs) (hw : vwOk es = true) (hl : es.length = 1 ∨ es.length = 2 ∨ es.length = 3)
    (hf : ∀ env, g env = (Mi.evb gl cf es env).bind fun p => (Mi.rngD p.1).bind fun r => .ok (r, p.2)) : PI X xt (.Call (.Name "range" p) xs [] pos) (tI γ X.K T E g (mus es) c) := by
  have hx := ha.len
  rcases hl with z | z | z
  · match es, xs, z, hx, ha, hw, hf with
    | [a], [x], _, _, ha, hw, hf => exact i_rng1 hg hm ha hf
  · match es, xs, z, hx, ha, hw, hf with
    | [a, b], [x, y], _, _, ha, hw, hf => exact i_rng2 hg hm ha hw hf
  · match es, xs, z, hx, ha, hw, hf with
    | [a, b, d], [x, y, w], _, _, ha, hw, hf => exact i_rng3 hg hm ha hw hf
theorem PTs.weak {X : Cx} {e : List Expr} {t t' : TT} (h : PTs X e t) (i : ∀ σ H Q, t' σ H Q → t σ H Q) : PTs X e t' := ⟨fun p s σ H Q I h' => h.run p s σ H Q I (i σ H Q h')⟩
theorem lcOk {E : XK} {sc : Sc} {X : Cx} (G : XG γ T E gl cf sc X) {own : List Nat} {elt : Mi.E} {t : Mi.T} {ifs : Option Mi.E} {scope : Scope} {xt xe : Expr} {xifs : List Expr} (h1 : decide (∀ j ∈ tv t, j ∈ own) = true) (h2 : blkC sc.N sc.sc scope (owOf sc own) = true) (h3 : chkTg (blkSc sc scope) t xt = true)
    (he : ∀ (s : Shared) (H : Hp) (C : Addr) (cl : List (Str × Addr)) (fp : List Addr), PE (X.blk s H scope (compEnvC scope cl C X.env) fp) xe (tE γ X.K T E0 (Mi.ev gl cf elt) (mu elt) (Mi.vw elt)))
    (ht : ∀ (s : Shared) (H : Hp) (C : Addr) (cl : List (Str × Addr)) (fp : List Addr), PTs (X.blk s H scope (compEnvC scope cl C X.env) fp) xifs (tTst γ X.K T E0 (Mi.evt gl cf ifs) (muo ifs))) : LcOk γ T X gl cf own elt t ifs scope xt xe xifs (owOf sc own) where
  hown := by
    unfold owOf
    rw [List.map_map]
    exact List.map_id _
  tv := of_decide_eq_true h1
  blk := by
    rw [G.hN, G.hs]
    exact blkOk_by h2
  g := fun s H C cl fp => chkTg_ok (G.blk scope s H C cl fp) t xt h3
  t := ht
  e := he
mutual
theorem chk_ok : ∀ (e : Mi.E) {E : XK} {sc : Sc} {X : Cx} (G : XG γ T E gl cf sc X) (m : Bool) (x : Expr), chk sc m e x = true → Both γ T E gl cf X m e x
  | .c d, E, sc, X, G, m, x, h => by
    unfold chk at h
    obtain ⟨hm, h⟩ := and2 h
    refine both_of hm ?_
    split at h
    · rw [of_decide_eq_true h]
      exact e_const (K := X.K) (d := .int _) pe_int (fun _ _ => rfl) fun env => by simp only [Mi.ev]
    · obtain ⟨h1, h2⟩ := and2 h
      rw [← of_decide_eq_true h1] at h2 ⊢
      exact e_const (K := X.K) (d := .str _) pe_str (fun _ _ => ⟨rfl, h2⟩) fun env => by simp only [Mi.ev]
    · rw [eq_of_beq h]
      exact e_const (K := X.K) (d := .bl _) pe_bl (fun _ _ => rfl) fun env => by simp only [Mi.ev]
    · exact e_const (K := X.K) (d := .non) pe_non (fun _ _ => rfl) fun env => by simp only [Mi.ev]
    · cases h
  | .v i, E, sc, X, G, m, x, h => by
    unfold chk at h
    obtain ⟨hm, h⟩ := and2 h
    refine both_of hm ?_
    split at h
    · obtain ⟨h1, h2, h3, h4⟩ := chkV_of G h
      exact e_var h1 h2 h3 h4 fun env => by simp only [Mi.ev]
    · cases h
  | .mv i, E, sc, X, G, m, x, h => by
    unfold chk at h
    obtain ⟨hm, h⟩ := and2 h
    refine both_of hm ?_
    split at h
    · obtain ⟨h1, h2, h3, h4⟩ := chkV_of G h
      exact e_mv h1 h2 h3 h4 fun env => by simp only [Mi.ev]
    · cases h
  | .fz i, E, sc, X, G, m, x, h => by
    unfold chk at h
    obtain ⟨hm, h⟩ := and2 h
    refine both_of hm ?_
    split at h
    · obtain ⟨h1, h2, h3, h4⟩ := chkV_of G h
      exact e_fz h1 h2 h3 h4 fun env => by simp only [Mi.ev]
    · cases h
  | .g i, E, sc, X, G, m, x, h => by
    unfold chk at h
    obtain ⟨hm, h⟩ := and2 h
    refine both_of hm ?_
    split at h
    · obtain ⟨h, h3⟩ := and2 h
      obtain ⟨h1, h2⟩ := and2 h
      obtain ⟨u, v, d, g1, g2, g3, g4⟩ := G.gls i _ (of_decide_eq_true h1)
      exact e_const (K := X.K) (d := d) (pe_glob (gl_of G h2) g2 g3 (dbg_of h3).1) g4 fun env => by
        simp only [Mi.ev]
        rw [g1]
        rfl
    · cases h
  | .bin o a b, E, sc, X, G, m, x, h => by
    unfold chk at h
    obtain ⟨hm, h⟩ := and2 h
    refine both_of hm ?_
    split at h
    · obtain ⟨h, h4⟩ := and2 h
      obtain ⟨h, h3⟩ := and2 h
      obtain ⟨h1, h2⟩ := and2 h
      rw [of_decide_eq_true h1]
      exact e_bin ((chk_ok a G false _ h2).1 rfl) ((chk_ok b G false _ h3).1 rfl) (orn h4)
    · cases h
  | .neg a, E, sc, X, G, m, x, h => by
    unfold chk at h
    obtain ⟨hm0, h0⟩ := and2 h
    clear h
    have hm : m = false := by simpa using hm0
    clear hm0
    subst hm
    split at h0 <;> (have h := h0; clear h0)
    · exact ⟨fun _ => e_neg ((chk_ok a G false _ h).1 rfl) fun env => by
        simp only [Mi.ev] <;> rfl, fun z => nomatch z⟩
    · cases h
  | .nt a, E, sc, X, G, m, x, h => by
    unfold chk at h
    split at h
    · have ih := chk_ok a G m _ h
      refine ⟨fun hm => e_not (ih.1 hm) fun env => by simp only [Mi.ev], fun hm => t_not (ih.2 hm) fun env => ?_⟩
      simp only [Mi.ev, tOf]
      cases Mi.ev gl cf a env with
      | ok p =>
        simp only [Res.bind]
        cases p.1 <;> rfl
      | exc x as => rfl
      | stk => rfl
    · cases h
  | .ix a b, E, sc, X, G, m, x, h => by
    unfold chk at h
    obtain ⟨hm, h⟩ := and2 h
    refine both_of hm ?_
    obtain ⟨k, hr⟩ := G.room
    split at h
    · obtain ⟨h, h4⟩ := and2 h
      obtain ⟨h, h3⟩ := and2 h
      obtain ⟨h1, h2⟩ := and2 h
      exact e_ix hr ((chk_ok a G false _ h1).1 rfl) ((chk_ok b G false _ h2).1 rfl) (orn h3) (plainIx_of h4)
    · cases h
  | .cmp a os bs, E, sc, X, G, m, x, h => by
    unfold chk at h
    obtain ⟨k, hr⟩ := G.room
    split at h
    · rename_i l ops rs pos
      obtain ⟨h, h6⟩ := and2 h
      obtain ⟨h, h5⟩ := and2 h
      obtain ⟨h, h4⟩ := and2 h
      obtain ⟨h, h3⟩ := and2 h
      obtain ⟨h1, h2⟩ := and2 h
      have e1 : ops = os.map cpOf := of_decide_eq_true h1
      subst e1
      have ia := (chk_ok a G false _ h2).1 rfl
      have ib := chks_ok bs G _ h3
      have hl : os.length = bs.length := of_decide_eq_true h4
      have hp : 0 < os.length := of_decide_eq_true h5
      by_cases h1l : os.length = 1
      · rw [if_pos h1l] at h6
        obtain ⟨h7, h8⟩ := and2 h6
        match os, bs, rs, ib, hl, h1l, h7, h8 with
        | [o], [b], [r], .cons ib _ .nil, _, _, h7, h8 =>
          have hm2 : behindInMarks (cpOf o) r = false := by simpa using h8
          have hv : Mi.vw a = false ∨ mu b = false := by
            rcases orn h7 with z | z
            · exact .inl z
            · exact .inr (by simpa [mus] using z)
          exact ⟨fun _ => e_cmp1 hr ia ib hv hm2, fun _ => t_cmp1 hr ia ib hv hm2⟩
      · rw [if_neg h1l] at h6
        obtain ⟨h7, h8⟩ := and2 h6
        match os, bs, rs, ib, hl, h1l, h7, h8, hp with
        | o1 :: o2 :: os, b1 :: b2 :: bs, r1 :: r2 :: rs, ib, hl, _, h7, h8, _ =>
          have hm1 : mus (b1 :: b2 :: bs) = false := by simpa using h7
          have hm2 : lastMarks ((o1 :: o2 :: os).map cpOf) (r1 :: r2 :: rs) = false := by simpa using h8
          exact ⟨fun _ => e_cmpN hr ia ib hm1 hl hm2, fun _ => t_cmpN hr ia ib hm1 hl hm2⟩
        | [_], _, _, _, _, h1l, _, _, _ => exact absurd rfl h1l
        | [], _, _, _, _, _, _, _, hp => exact absurd hp (Nat.lt_irrefl _)
        | _ :: _ :: _, [], _, _, hl, _, _, _, _ => cases hl
        | _ :: _ :: _, [_], _, _, hl, _, _, _, _ => cases hl
        | _ :: _ :: _, _ :: _ :: _, [], ib, _, _, _, _, _ => cases ib
        | _ :: _ :: _, _ :: _ :: _, [_], ib, _, _, _, _, _ => cases ib with
          | cons _ _ z => cases z
    · cases h
  | .and es, E, sc, X, G, m, x, h => by
    unfold chk at h
    split at h
    · rename_i xs pos
      obtain ⟨h1, h2⟩ := and2 h
      have hl : 0 < es.length := of_decide_eq_true h2
      refine ⟨fun hm => ?_, fun hm => ?_⟩
      · subst hm
        have ih := chks_ok es G xs (by simpa using h1)
        have hn : xs ≠ [] := fun z => by
          rw [z] at ih
          cases ih
          exact absurd hl (Nat.lt_irrefl _)
        exact PE.weak (e_and ih hn) fun σ H Q q => tE_mono (fun env => by simp only [Mi.ev]) (fun z => z) (fun z => rfl) σ H Q q
      · subst hm
        have ih := chkts_ok es G xs (by simpa using h1)
        have hn : xs ≠ [] := fun z => by
          rw [z] at ih
          cases ih
          exact absurd hl (Nat.lt_irrefl _)
        exact PT.weak (t_and ih hn).pt fun σ H Q q => tT_mono (fun env => by simp only [tOf, Mi.ev]) (fun z => z) σ H Q q
    · cases h
  | .or es, E, sc, X, G, m, x, h => by
    unfold chk at h
    split at h
    · rename_i xs pos
      obtain ⟨h1, h2⟩ := and2 h
      have hl : 0 < es.length := of_decide_eq_true h2
      refine ⟨fun hm => ?_, fun hm => ?_⟩
      · subst hm
        have ih := chks_ok es G xs (by simpa using h1)
        have hn : xs ≠ [] := fun z => by
          rw [z] at ih
          cases ih
          exact absurd hl (Nat.lt_irrefl _)
        exact PE.weak (e_or ih hn) fun σ H Q q => tE_mono (fun env => by simp only [Mi.ev]) (fun z => z) (fun z => rfl) σ H Q q
      · subst hm
        have ih := chkts_ok es G xs (by simpa using h1)
        have hn : xs ≠ [] := fun z => by
          rw [z] at ih
          cases ih
          exact absurd hl (Nat.lt_irrefl _)
        exact PT.weak (t_or ih hn).pt fun σ H Q q => tT_mono (fun env => by simp only [tOf, Mi.ev]) (fun z => z) σ H Q q
    · cases h
  | .ife t a b, E, sc, X, G, m, x, h => by
    unfold chk at h
    obtain ⟨hm0, h0⟩ := and2 h
    clear h
    have hm : m = false := by simpa using hm0
    clear hm0
    subst hm
    split at h0 <;> (have h := h0; clear h0)
    · obtain ⟨h, h3⟩ := and2 h
      obtain ⟨h1, h2⟩ := and2 h
      exact ⟨fun _ => e_ife ((chk_ok t G true _ h1).2 rfl) ((chk_ok a G false _ h2).1 rfl) ((chk_ok b G false _ h3).1 rfl), fun z => nomatch z⟩
    · cases h
  | .tup es, E, sc, X, G, m, x, h => by
    unfold chk at h
    obtain ⟨hm, h⟩ := and2 h
    refine both_of hm ?_
    split at h
    · obtain ⟨h, h3⟩ := and2 h
      obtain ⟨h1, h2⟩ := and2 h
      exact e_tup (chkks_ok es G _ h1) h2 h3
    · cases h
  | .lst es, E, sc, X, G, m, x, h => by
    unfold chk at h
    obtain ⟨hm, h⟩ := and2 h
    refine both_of hm ?_
    split at h
    · obtain ⟨h, h3⟩ := and2 h
      obtain ⟨h1, h2⟩ := and2 h
      exact e_lst (chkks_ok es G _ h1) h2 h3
    · cases h
  | .dic tk ks vs, E, sc, X, G, m, x, h => by
    unfold chk at h
    obtain ⟨hm0, h0⟩ := and2 h
    clear h
    have hm : m = false := by simpa using hm0
    clear hm0
    subst hm
    split at h0 <;> (have h := h0; clear h0)
    · obtain ⟨h1, h2⟩ := and2 h
      rw [List.isEmpty_iff.mp h1, List.isEmpty_iff.mp h2]
      exact ⟨fun _ => e_dic0, fun z => nomatch z⟩
    · obtain ⟨h, h4⟩ := and2 h
      obtain ⟨h, h3⟩ := and2 h
      obtain ⟨h1, h2⟩ := and2 h
      have ht : tk = false := by simpa using h1
      subst ht
      rw [isKey_of h2]
      have ih := chkks_ok vs G _ h3
      cases ih with
      | cons c1 c2 c3 c4 =>
        cases c4
        exact ⟨fun _ => e_dic1 pe_int c2 c1, fun z => nomatch z⟩
      | io c1 c2 c3 => cases h4
    · cases h
  | .sl a lo hi, E, sc, X, G, m, x, h => by
    unfold chk at h
    obtain ⟨hm0, h0⟩ := and2 h
    clear h
    have hm : m = false := by simpa using hm0
    clear hm0
    subst hm
    split at h0 <;> (have h := h0; clear h0)
    · obtain ⟨h, h4⟩ := and2 h
      obtain ⟨h, h3⟩ := and2 h
      obtain ⟨h1, h2⟩ := and2 h
      exact ⟨fun _ => e_sl ((chk_ok a G false _ h1).1 rfl) (chko_ok lo G _ h2) (chko_ok hi G _ h3) (orn h4), fun z => nomatch z⟩
    · cases h
  | .rev a, E, sc, X, G, m, x, h => by
    unfold chk at h
    obtain ⟨hm0, h0⟩ := and2 h
    clear h
    have hm : m = false := by simpa using hm0
    clear hm0
    subst hm
    split at h0 <;> (have h := h0; clear h0)
    · obtain ⟨h1, h2⟩ := and2 h
      rw [of_decide_eq_true h2]
      exact ⟨fun _ => e_revA ((chk_ok a G false _ h1).1 rfl), fun z => nomatch z⟩
    · cases h
  | .call f es, E, sc, X, G, m, x, h => by
    unfold chk at h
    obtain ⟨hm, h⟩ := and2 h
    refine both_of hm ?_
    split at h
    · obtain ⟨h, h7⟩ := and2 h
      obtain ⟨h, h6⟩ := and2 h
      obtain ⟨h, h5⟩ := and2 h
      obtain ⟨h, h4⟩ := and2 h
      obtain ⟨h, h3⟩ := and2 h
      obtain ⟨h1, h2⟩ := and2 h
      obtain ⟨k, fd, ps, g1, g2, g3, g4, g5⟩ := G.fns f _ _ _ (of_decide_eq_true h5)
      have ih := chkks_ok es G _ h1
      have hlt : es.length ≤ 1000 := of_decide_eq_true h7
      have hp : 0 < es.length := of_decide_eq_true h2
      cases ih with
      | nil => exact absurd hp (Nat.lt_irrefl _)
      | io c1 c2 c3 => exact e_call g5 g4 (gl_of G h3) g1 g2 g3 G.px (dbg_of h4).1 (.io c1 c2 c3) rfl rfl (of_decide_eq_true h6) (Nat.lt_of_le_of_lt hlt (by decide))
      | cons c1 c2 c3 c4 => exact e_call g5 g4 (gl_of G h3) g1 g2 g3 G.px (dbg_of h4).1 (.cons c1 c2 c3 c4) rfl rfl (of_decide_eq_true h6) (Nat.lt_of_le_of_lt hlt (by decide))
    · cases h
  | .lam f b es, E, sc, X, G, m, x, h => by
    unfold chk at h
    obtain ⟨hm, h⟩ := and2 h
    refine both_of hm ?_
    split at h
    · obtain ⟨h, h9⟩ := and2 h
      obtain ⟨h, h8⟩ := and2 h
      obtain ⟨h, h7⟩ := and2 h
      obtain ⟨h, h6⟩ := and2 h
      obtain ⟨h, h5⟩ := and2 h
      obtain ⟨h, h4⟩ := and2 h
      obtain ⟨h, h3⟩ := and2 h
      obtain ⟨h1, h2⟩ := and2 h
      obtain ⟨c, P, k, t1, t2, t3, t4, t5, t6, t7⟩ := G.lam h1
      obtain ⟨t, xn, TO, tell⟩ := t7 f _ (of_decide_eq_true h2)
      obtain ⟨nm, vs, LA⟩ := lArg_of h5
      have hb : mu b = false := by simpa using h6
      have hp := noArgs_of h7
      subst hp
      have hmu : mu (.lam f b es) = false := by
        show mus es = false
        cases LA <;> rfl
      rw [hmu]
      refine e_lam (k := k + 2) TO LA (gl_of G h3) (dbg_of h4).1 (fun r d outs e => tell nm r d outs LA.nm e) t1 t2 t3 t4 t5 (LamX.lamS_by (by rw [G.hs]; exact h8)) rfl (fun _ _ _ _ _ => rfl) fun A outer s H E' f' c' hr => ?_
      have ih := (chk_ok b (G.lamB (E' := E') (A := A) (outer := outer) (s := s) (H := H) (f := f') (c' := c') hr t6) false _ h9).1 rfl
      rw [hb] at ih
      exact ih
    · cases h
  | .bi b es, E, sc, X, G, m, x, h => by
    unfold chk at h
    obtain ⟨hm, h⟩ := and2 h
    refine both_of hm ?_
    split at h
    · rename_i o i hcv
      obtain ⟨kk, hr⟩ := G.room
      split at h
      · obtain ⟨h, k6⟩ := and2 h
        obtain ⟨h, k5⟩ := and2 h
        obtain ⟨h, k4⟩ := and2 h
        obtain ⟨h, k3⟩ := and2 h
        obtain ⟨k1, k2⟩ := and2 h
        have k1 := of_decide_eq_true k1
        have k2 := of_decide_eq_true k2
        subst k1 k2
        obtain ⟨f1, f2, f3, f4⟩ := freeB_of G k3
        obtain ⟨g1, g2, g3, g4⟩ := freeB_of G k4
        have ih := chks_ok es G _ k5
        have hl : es.length = 1 := of_decide_eq_true k6
        cases ih with
        | nil => cases hl
        | cons c1 c2 c3 =>
          cases c3 with
          | nil =>
            cases b <;> first
              | (cases hcv; exact e_lenset hr G.calm f1 f2 g1 g2 c1 (star1 c2 · []))
              | (cases hcv; exact e_lrg1 G.calm f1 f2 g1 g2 c1 (star1 c2 · []))
              | (cases hcv; exact e_trg1 G.calm f1 f2 g1 g2 c1 (star1 c2 · []))
              | cases hcv
          | cons _ _ _ => cases hl
      · cases h
    split at h
    · rename_i y p xs pos h00
      obtain ⟨h, h3⟩ := and2 h
      obtain ⟨h1, h2⟩ := and2 h
      obtain ⟨f1, f2, f3, f4⟩ := freeB_of G h1
      have ih := chks_ok es G _ h2
      by_cases hisi : ∃ t, b = .isi t
      · obtain ⟨t, rfl⟩ := hisi
        unfold biOk at h3
        obtain ⟨h3, h5⟩ := and2 h3
        obtain ⟨h3, h4⟩ := and2 h3
        have ey : y = ("isinstance" : Str) := of_decide_eq_true h3
        subst ey
        split at h5
        · rename_i xa z p2 _
          obtain ⟨h6, h7⟩ := and2 h5
          obtain ⟨k1, k2, k3, k4⟩ := freeB_of G h7
          have ez : z = tyStr t := of_decide_eq_true h6
          subst ez
          have ih : PEs γ T E X gl cf es [xa] := ih
          cases ih with
          | cons c1 c2 c3 =>
            cases c3
            exact e_isi f1 f2 PyProof.Rows.boot_isinstance k1 k2 c1 (star1 c2)
        · cases h5
      · have hb : biArgs b xs = xs := by
          unfold biArgs
          split <;> first | rfl | exact absurd ⟨_, rfl⟩ hisi
        rw [hb] at ih
        have h3 : (match biName b with
          | some (n, _, _) => decide (y = n) && decide (0 < es.length) && vwOk es
          | none => false) = true := by
          unfold biOk at h3
          split at h3
          · exact absurd ⟨_, rfl⟩ hisi
          · exact h3
        split at h3
        · rename_i n ty id hbn
          obtain ⟨h3, h5⟩ := and2 h3
          obtain ⟨h3, h4⟩ := and2 h3
          have ey : y = n := of_decide_eq_true h3
          subst ey
          have hp : 0 < es.length := of_decide_eq_true h4
          have boot := bi_boot hbn
          have rule := bi_rule G hbn
          cases ih with
          | nil => exact absurd hp (Nat.lt_irrefl _)
          | cons c1 c2 c3 =>
            cases ty with
            | true => exact e_biT rule f1 f2 boot f4 f3 (.cons c1 c2 c3) h5
            | false => exact e_biB rule f1 f2 boot f4 f3 (.cons c1 c2 c3) h5
        · cases h3
    · cases h
  | .dget a k d, E, sc, X, G, m, x, h => by
    unfold chk at h
    obtain ⟨hm, h⟩ := and2 h
    refine both_of hm ?_
    obtain ⟨kk, hr⟩ := G.room
    split at h
    · rename_i y p at_ pa xk xd pos _
      obtain ⟨h, h9⟩ := and2 h
      obtain ⟨h, h8⟩ := and2 h
      obtain ⟨h, h7⟩ := and2 h
      obtain ⟨h, h6⟩ := and2 h
      obtain ⟨h, h5⟩ := and2 h
      obtain ⟨h, h4⟩ := and2 h
      obtain ⟨h, h3⟩ := and2 h
      obtain ⟨h1, h2⟩ := and2 h
      have ea : at_ = ("get" : Str) := of_decide_eq_true h1
      subst ea
      have e1 := star_of h7 X.env [xd]
      have e2 := star_of h8 X.env []
      refine e_dget hr ((chk_ok a G false _ h2).1 rfl) ((chk_ok k G false _ h3).1 rfl) ((chk_ok d G false _ h4).1 rfl) (by simpa using h5) (by simpa using h6) ⟨rfl, ?_, h9, ?_⟩
      · rw [e1, e2]
        rfl
      · rw [e1, e2]
        rfl
    · cases h
  | .mth b a k, E, sc, X, G, m, x, h => by
    cases b with
    | count =>
      unfold chk at h
      obtain ⟨hm, h⟩ := and2 h
      refine both_of hm ?_
      split at h
      · rename_i y p at_ pa xk pos _
        obtain ⟨h, h9⟩ := and2 h
        obtain ⟨h, h7⟩ := and2 h
        obtain ⟨h, h4⟩ := and2 h
        obtain ⟨h, h3⟩ := and2 h
        obtain ⟨h1, h2⟩ := and2 h
        have ea : at_ = ("count" : Str) := of_decide_eq_true h1
        subst ea
        exact e_count ((chk_ok a G false _ h2).1 rfl) ((chk_ok k G false _ h3).1 rfl) (orn h4) (fun env => star_of h7 env []) rfl h9
      · cases h
    | index =>
      unfold chk at h
      obtain ⟨hm, h⟩ := and2 h
      refine both_of hm ?_
      split at h
      · rename_i y p at_ pa xk pos _
        obtain ⟨h, h9⟩ := and2 h
        obtain ⟨h, h7⟩ := and2 h
        obtain ⟨h, h4⟩ := and2 h
        obtain ⟨h, h3⟩ := and2 h
        obtain ⟨h1, h2⟩ := and2 h
        have ea : at_ = ("index" : Str) := of_decide_eq_true h1
        subst ea
        obtain ⟨kk, hr⟩ := G.room
        exact e_index hr ((chk_ok a G false _ h2).1 rfl) ((chk_ok k G false _ h3).1 rfl) (orn h4) (fun env => star_of h7 env []) rfl h9
      · cases h
    | _ => simp [chk] at h
  | .lc own elt t it ifs gs, E, sc, X, G, m, x, h => by
    unfold chk at h
    obtain ⟨hm, h⟩ := and2 h
    refine both_of hm ?_
    split at h
    · rename_i xe xt xi xifs z scope pos _
      obtain ⟨h, h9⟩ := and2 h
      obtain ⟨h, h8⟩ := and2 h
      obtain ⟨h, h7⟩ := and2 h
      obtain ⟨h, h6⟩ := and2 h
      obtain ⟨h, h5⟩ := and2 h
      obtain ⟨h, h4⟩ := and2 h
      obtain ⟨h, h3⟩ := and2 h
      obtain ⟨h1, h2⟩ := and2 h
      have eg : gs = [] := List.isEmpty_iff.mp h1
      have ez : z = 0 := of_decide_eq_true h2
      subst eg ez
      exact e_lc G.calm G.nd (chkJ_ok it G (mu elt || muo ifs) xt xi h7) (lcOk G h3 h4 h5 (fun s H C cl fp => (chk_ok elt (G.blk scope s H C cl fp) false _ h6).1 rfl) fun s H C cl fp => chkot_ok ifs (G.blk scope s H C cl fp) _ h9) fun x => fsi h8 _ x
    · cases h
  | .cv _ _, _, _, _, _, _, _, h => by simp [chk] at h
  | .pop _ _, _, _, _, _, _, _, h => by simp [chk] at h
  | .act _, _, _, _, _, _, _, h => by simp [chk] at h
  | .mk _ _, _, _, _, _, _, _, h => by simp [chk] at h
  | .fld _ _, _, _, _, _, _, _, h => by simp [chk] at h
  | .io _, _, _, _, _, _, _, h => by simp [chk] at h
theorem chkts_ok : ∀ (es : List Mi.E) {E : XK} {sc : Sc} {X : Cx} (G : XG γ T E gl cf sc X) (xs : List Expr), chkts sc es xs = true → PTs' γ T E X gl cf es xs
  | [], _, _, _, G, [], _ => .nil
  | [], _, _, _, G, _ :: _, h => by simp [chkts] at h
  | _ :: _, _, _, _, G, [], h => by simp [chkts] at h
  | e :: es, E, sc, X, G, x :: xs, h => by
    unfold chkts at h
    obtain ⟨h1, h3⟩ := and2 h
    exact .cons ((chk_ok e G true x h1).2 rfl) (chkts_ok es G xs h3)
theorem chkks_ok : ∀ (es : List Mi.E) {E : XK} {sc : Sc} {X : Cx} (G : XG γ T E gl cf sc X) (xs : List Expr), chkks sc es xs = true → PKs γ T E X gl cf es xs
  | [], _, _, _, G, [], _ => .nil
  | [], _, _, _, G, _ :: _, h => by simp [chkks] at h
  | e :: _, _, _, _, G, [], h => by cases e <;> simp [chkks] at h
  | e :: es, E, sc, X, G, x :: xs, h => by
    by_cases hio : ∃ i, e = .io i
    · obtain ⟨i, rfl⟩ := hio
      unfold chkks at h
      obtain ⟨h1, h3⟩ := and2 h
      split at h1
      · obtain ⟨g1, g2, g3, g4⟩ := chkV_of G h1
        exact .io (pe_var g1 g2 g3 g4) (fun env => rfl) (chkks_ok es G xs h3)
      · cases h1
    · have hn : ∀ i, e ≠ .io i := fun i z => hio ⟨i, z⟩
      have h : (chk sc false e x && notStar x && chkks sc es xs) = true := by
        rw [← h]
        cases e <;> first | exact absurd rfl (hn _) | simp only [chkks]
      obtain ⟨h, h3⟩ := and2 h
      obtain ⟨h1, h2⟩ := and2 h
      exact .cons hn ((chk_ok e G false x h1).1 rfl) (fun env => star_of h2 env xs) (chkks_ok es G xs h3)
theorem chkot_ok : ∀ (e : Option Mi.E) {E : XK} {sc : Sc} {X : Cx} (G : XG γ T E gl cf sc X) (xs : List Expr), chkot sc e xs = true → PTs X xs (tTst γ X.K T E (Mi.evt gl cf e) (muo e))
  | none, E, sc, X, G, [], _ => PTs.weak pts_nil fun σ H Q ⟨env, O, R, Tb, P⟩ => by
    have P : PoT γ X.K T E H O σ false (.ok (true, env)) Q := by
      have : Mi.evt gl cf none env = .ok (true, env) := by simp only [Mi.evt]
      rw [← this]
      exact P
    exact P H O (PstP.refl H O) R Tb
  | none, _, _, _, G, _ :: _, h => by simp [chkot] at h
  | some _, _, _, _, G, [], h => by simp [chkot] at h
  | some _, _, _, _, G, _ :: _ :: _, h => by simp [chkot] at h
  | some e, E, sc, X, G, [x], h => by
    unfold chkot at h
    exact PTs.weak (pts_one ((chk_ok e G true x h).2 rfl)) fun σ H Q q => tT_mono (fun env => by
      simp only [Mi.evt, tOf]) (fun z => z) σ H Q q
theorem chkJ_ok : ∀ (it : Mi.I) {E : XK} {sc : Sc} {X : Cx} (G : XG γ T E gl cf sc X) (c : Bool) (xt x : Expr), chkI sc c it xt x = true → PI X xt x (tI γ X.K T E (Mi.evJ gl cf it) (muI it) c)
  | .seq e, E, sc, X, G, c, xt, x, h => by
    unfold chkI at h
    obtain ⟨h1, h2⟩ := and2 h
    have hc : Mi.vw e = false ∨ c = false := by
      rcases Bool.or_eq_true_iff.mp h2 with z | z
      · exact .inr (by simpa using z)
      · exact .inl (by simpa using z)
    refine i_seq ((chk_ok e G false x h1).1 rfl) (fun env r q => ?_) fun env y as q => ?_
    · rw [evJ_seq] at q
      obtain ⟨p, q1, q2⟩ := bind_inv q
      obtain ⟨z, q3, q4⟩ := bind_inv q2
      cases q4
      refine ⟨p.1, p.2, q1, ?_, q3, rfl⟩
      rcases hc with z | z
      · exact .inl z
      · exact .inr (.inl z)
    · rw [evJ_seq] at q
      rcases bind_exc_inv q with q | ⟨p, _, q⟩
      · exact q
      · rcases bind_exc_inv q with q | ⟨_, _, q⟩
        · exact (seqI_noexc q).elim
        · cases q
  | .rng es, E, sc, X, G, c, xt, x, h => by
    unfold chkI at h
    split at h
    · rename_i y p xs pos
      obtain ⟨h, h5⟩ := and2 h
      obtain ⟨h, h4⟩ := and2 h
      obtain ⟨h, h3⟩ := and2 h
      obtain ⟨h1, h2⟩ := and2 h
      have ey : y = ("range" : Str) := of_decide_eq_true h1
      subst ey
      obtain ⟨f1, f2, _, _⟩ := freeB_of G h2
      have ih := chks_ok es G _ h3
      exact rng_gen f1 f2 ih h4 (of_decide_eq_true h5) fun env => by simp only [Mi.evJ]
    · cases h
  | .enum e, E, sc, X, G, c, xt, x, h => by
    unfold chkI at h
    split at h
    · obtain ⟨h, h5⟩ := and2 h
      obtain ⟨h, h4⟩ := and2 h
      obtain ⟨h, h3⟩ := and2 h
      obtain ⟨h1, h2⟩ := and2 h
      rw [of_decide_eq_true h1] at h2 ⊢
      obtain ⟨f1, f2, _, _⟩ := freeB_of G h2
      have hc : Mi.vw e = false ∨ c = false := by
        rcases Bool.or_eq_true_iff.mp h5 with z | z
        · exact .inr (by simpa using z)
        · exact .inl (by simpa using z)
      have hJ : ∀ env, Mi.evJ gl cf (.enum e) env = (Mi.ev gl cf e env).bind fun p => (Mi.seqL p.1).bind fun r => .ok (Mi.enumD 0 r, p.2) := fun env => by simp only [Mi.evJ]
      refine i_enum f1 f2 (.cons ((chk_ok e G false _ h3).1 rfl) (fun env => star_of h4 env []) .nil) (fun env r q => ?_) fun env y as q => ?_
      · rw [hJ] at q
        obtain ⟨p, q1, q2⟩ := bind_inv q
        obtain ⟨z, q3, q4⟩ := bind_inv q2
        cases q4
        refine ⟨p.1, z, p.2, q1, ?_, q3, rfl, rfl⟩
        rcases hc with z | z
        · exact .inl z
        · exact .inr (.inl z)
      · rw [hJ] at q
        rcases bind_exc_inv q with q | ⟨p, _, q⟩
        · exact q
        · rcases bind_exc_inv q with q | ⟨_, _, q⟩
          · exact (seqL_noexc q).elim
          · cases q
    · cases h
  | .zip a b, E, sc, X, G, c, xt, x, h => by
    unfold chkI at h
    split at h
    · obtain ⟨h, h8⟩ := and2 h
      obtain ⟨h, h7⟩ := and2 h
      obtain ⟨h, h6⟩ := and2 h
      obtain ⟨h, h5⟩ := and2 h
      obtain ⟨h, h4⟩ := and2 h
      obtain ⟨h, h3⟩ := and2 h
      obtain ⟨h1, h2⟩ := and2 h
      rw [of_decide_eq_true h1] at h2 ⊢
      obtain ⟨f1, f2, _, _⟩ := freeB_of G h2
      have hc : (Mi.vw a = false ∧ Mi.vw b = false) ∨ c = false := by
        rcases Bool.or_eq_true_iff.mp h8 with z | z
        · exact .inr (by simpa using z)
        · obtain ⟨z1, z2⟩ := and2 z
          exact .inl ⟨by simpa using z1, by simpa using z2⟩
      have hmb : mu b = false := by simpa using h7
      have hJ : ∀ env, Mi.evJ gl cf (.zip a b) env = (Mi.ev gl cf a env).bind fun p => (Mi.ev gl cf b p.2).bind fun q => (Mi.zipS p.1 q.1).bind fun r => .ok (r, q.2) := fun env => by simp only [Mi.evJ]
      have hmu : muI (.zip a b) = mu a := by
        show (mu a || mu b) = mu a
        rw [hmb, Bool.or_false]
      rw [hmu]
      refine i_zip f1 f2 (.cons ((chk_ok a G false _ h3).1 rfl) (fun env => star_of h5 env _) (.cons ((chk_ok b G false _ h4).1 rfl) (fun env => star_of h6 env _) .nil)) hmb (fun env r q => ?_) fun env y as q => ?_
      · rw [hJ] at q
        obtain ⟨p, q1, q2⟩ := bind_inv q
        obtain ⟨p2, q3, q4⟩ := bind_inv q2
        obtain ⟨z, q5, q6⟩ := bind_inv q4
        cases q6
        refine ⟨p.1, p2.1, p.2, p2.2, q1, ?_, q3, ?_, q5, rfl⟩
        · rcases hc with z | z
          · exact .inl z.1
          · exact .inr (.inl z)
        · rcases hc with z | z
          · exact .inl z.2
          · exact .inr (.inl z)
      · rw [hJ] at q
        rcases bind_exc_inv q with q | ⟨p, q1, q⟩
        · exact .inl q
        · rcases bind_exc_inv q with q | ⟨_, _, q⟩
          · exact .inr ⟨p.1, p.2, q1, q⟩
          · rcases bind_exc_inv q with q | ⟨_, _, q⟩
            · exact (zipS_noexc q).elim
            · cases q
    · cases h
  | .items e, E, sc, X, G, c, xt, x, h => by simp [chkI] at h
theorem chko_ok : ∀ (e : Option Mi.E) {E : XK} {sc : Sc} {X : Cx} (G : XG γ T E gl cf sc X) (x : Option Expr), chko sc e x = true → PO X x (tOI γ X.K T E (Mi.evo gl cf e) (muo e))
  | none, _, _, _, G, none, _ => o_none
  | none, _, _, _, G, some _, h => by simp [chko] at h
  | some _, _, _, _, G, none, h => by simp [chko] at h
  | some e, E, sc, X, G, some x, h => by
    unfold chko at h
    exact o_some ((chk_ok e G false x h).1 rfl)
theorem chks_ok : ∀ (es : List Mi.E) {E : XK} {sc : Sc} {X : Cx} (G : XG γ T E gl cf sc X) (xs : List Expr), chks sc es xs = true → PEs γ T E X gl cf es xs
  | [], _, _, _, G, [], _ => .nil
  | [], _, _, _, G, _ :: _, h => by simp [chks] at h
  | _ :: _, _, _, _, G, [], h => by simp [chks] at h
  | e :: es, E, sc, X, G, x :: xs, h => by
    unfold chks at h
    obtain ⟨h, h3⟩ := and2 h
    obtain ⟨h1, h2⟩ := and2 h
    exact .cons ((chk_ok e G false x h1).1 rfl) (fun env => star_of h2 env xs) (chks_ok es G xs h3)
end
end
end MiS

set_option Elab.async false
set_option linter.all false
set_option maxRecDepth 100000
set_option maxHeartbeats 4000000
/-! MiS: the look at a statement -/
namespace MiS
open PySem PySem.Spec PyProof.Rows L2
open Mi (D Res Fl)
def notComp : Expr → Bool
  | .ListComp .. => false
  | .SetComp .. => false
  | .DictComp .. => false
  | _ => true
def notTup : Expr → Bool
  | .Tuple .. => false
  | _ => true
theorem sw_no {x : Expr} (h : notComp x = true) (t : Option Expr) (l : Nat) (env : Env) : swapsWith x t l env = pure false := by
  cases x <;> first | rfl | cases h
theorem ss_name {y : Str} {p : Pos} {x : Expr} {env : Env} : swappedStores [.Name y p] x env = pure none := by
  cases x <;> rfl
theorem ss_tup {ts : List Expr} {k : Nat} {p : Pos} {x : Expr} {env : Env} (h : notTup x = true) : swappedStores [.Tuple ts k p] x env = pure none := by
  cases x <;> first | rfl | cases h
theorem sw_tup {ts : List Expr} {k : Nat} {p : Pos} {x : Expr} {l : Nat} {env : Env} : swapsWithSole [.Tuple ts k p] x l env = pure false := by
  show swapsWith x (some (.Tuple ts k p)) l env = pure false
  cases x <;> rfl
theorem blockF {env : Env} (h : env.scope.kind = .function) : env.blockKind = .function := by
  unfold Env.blockKind
  rw [h]
  rfl
def parB2 (sc : Scope) (x : Str) (px : Pos) (y : Str) (py : Pos) (a b : Expr) : Bool :=
  decide (sc.names.lookup x = some .local) && decide (sc.names.lookup y = some .local) && (py.line == px.line) && !decide (x = y) && notStar a && notStar b && !(foldedForSure 8 a && foldedForSure 8 b) && !(constantsAlone 8 a && constantsAlone 8 b)
theorem not_star {a : Expr} (h : notStar a = true) : (match a with | .Starred .. => true | _ => false) = false := by
  cases a <;> first | rfl | cases h
theorem par2_sw {env : Env} {x y : Str} {px py pt pt2 : Pos} {a b : Expr} {kt k2 : Nat} (hk : env.scope.kind = .function) (h : parB2 env.scope x px y py a b = true) :
    swappedStores [.Tuple [.Name x px, .Name y py] kt pt] (.Tuple [a, b] k2 pt2) env = pure (some [x, y]) := by
  unfold parB2 at h
  simp only [Bool.and_eq_true, decide_eq_true_eq, Bool.not_eq_true', decide_eq_false_iff_not] at h
  obtain ⟨⟨⟨⟨⟨⟨⟨h1, h2⟩, h3⟩, h4⟩, h5⟩, h6⟩, h7⟩, h8⟩ := h
  have kx : env.kindOf x = some .local := h1
  have ky : env.kindOf y = some .local := h2
  have hb := blockF hk
  have e3 : py.line = px.line := eq_of_beq h3
  unfold swappedStores
  simp only [hb, kx, ky, e3, not_star h5, not_star h6, h7, h8, List.length_cons, List.length_nil, List.any_cons, List.any_nil, List.head?_cons, Option.map_some, Option.getD_some, List.filterMap_cons, List.filterMap_nil, Expr.pos, List.all_cons, List.all_nil]
  rw [if_neg (by decide)]
  rw [if_neg (fun hh => by
    rcases Bool.or_eq_true_iff.mp hh with z | z
    · cases a <;> first | (cases z; done) | (cases h5; done)
    · rcases Bool.or_eq_true_iff.mp z with z | z
      · cases b <;> first | (cases z; done) | (cases h6; done)
      · cases z)]
  simp only [beq_self_eq_true, Bool.and_self, if_true]
  have e2 : [x, y].eraseDups.length = 2 := by
    rw [List.eraseDups_cons]
    have : List.filter (fun b => !b == x) [y] = [y] := by
      rw [List.filter_cons_of_pos]
      · rfl
      · simpa using fun e : y = x => h4 e.symm
    rw [this]
    rfl
  rw [e2]
  rw [if_neg (fun hh => by simp at hh)]
  rw [if_neg (fun hh => by
    have : (foldedForSure 8 a && foldedForSure 8 b) = true := by simpa using hh
    rw [this] at h7
    cases h7)]
  rw [if_neg (fun hh => by
    have : (constantsAlone 8 a && constantsAlone 8 b) = true := by simpa using hh
    rw [this] at h8
    cases h8)]
def parB3 (sc : Scope) (x : Str) (px : Pos) (y : Str) (py : Pos) (z : Str) (pz : Pos) (a b c : Expr) : Bool :=
  decide (sc.names.lookup x = some .local) && decide (sc.names.lookup y = some .local) && decide (sc.names.lookup z = some .local) && (py.line == px.line) && (pz.line == px.line) && !decide (x = y) && !decide (x = z) && !decide (y = z) && notStar a && notStar b && notStar c &&
    !(foldedForSure 8 a && (foldedForSure 8 b && foldedForSure 8 c)) && !(constantsAlone 8 a && (constantsAlone 8 b && constantsAlone 8 c))
theorem par3_sw {env : Env} {x y z : Str} {px py pz pt pt2 : Pos} {a b c : Expr} {kt k2 : Nat} (hk : env.scope.kind = .function) (h : parB3 env.scope x px y py z pz a b c = true) :
    swappedStores [.Tuple [.Name x px, .Name y py, .Name z pz] kt pt] (.Tuple [a, b, c] k2 pt2) env = pure (some [x, y, z]) := by
  unfold parB3 at h
  simp only [Bool.and_eq_true, decide_eq_true_eq, Bool.not_eq_true', decide_eq_false_iff_not] at h
  obtain ⟨⟨⟨⟨⟨⟨⟨⟨⟨⟨⟨⟨h1, h2⟩, h3⟩, h4⟩, h5⟩, h6⟩, h7⟩, h8⟩, h9⟩, h10⟩, h11⟩, h12⟩, h13⟩ := h
  have kx : env.kindOf x = some .local := h1
  have ky : env.kindOf y = some .local := h2
  have kz : env.kindOf z = some .local := h3
  have hb := blockF hk
  have e3 : py.line = px.line := eq_of_beq h4
  have e4 : pz.line = px.line := eq_of_beq h5
  unfold swappedStores
  simp only [hb, kx, ky, kz, e3, e4, h12, h13, List.length_cons, List.length_nil, List.any_cons, List.any_nil, List.head?_cons, Option.map_some, Option.getD_some, List.filterMap_cons, List.filterMap_nil, Expr.pos, List.all_cons, List.all_nil]
  rw [if_neg (by decide)]
  rw [if_neg (fun hh => by
    rcases Bool.or_eq_true_iff.mp hh with z | z
    · cases a <;> first | (cases z; done) | (cases h9; done)
    · rcases Bool.or_eq_true_iff.mp z with z | z
      · cases b <;> first | (cases z; done) | (cases h10; done)
      · rcases Bool.or_eq_true_iff.mp z with z | z
        · cases c <;> first | (cases z; done) | (cases h11; done)
        · cases z)]
  simp only [beq_self_eq_true, Bool.and_self, if_true]
  have e2 : [x, y, z].eraseDups.length = 3 := by
    rw [List.eraseDups_cons]
    have f1 : List.filter (fun b => !b == x) [y, z] = [y, z] := by
      rw [List.filter_cons_of_pos (by simpa using fun e : y = x => h6 e.symm), List.filter_cons_of_pos (by simpa using fun e : z = x => h7 e.symm)]
      rfl
    rw [f1, List.eraseDups_cons]
    have f2 : List.filter (fun b => !b == y) [z] = [z] := by
      rw [List.filter_cons_of_pos (by simpa using fun e : z = y => h8 e.symm)]
      rfl
    rw [f2]
    rfl
  rw [e2]
  rw [if_neg (fun hh => by simp at hh)]
  rw [if_neg (fun hh => by
    have : (foldedForSure 8 a && (foldedForSure 8 b && foldedForSure 8 c)) = true := by simpa using hh
    rw [this] at h12
    cases h12)]
  rw [if_neg (fun hh => by
    have : (constantsAlone 8 a && (constantsAlone 8 b && constantsAlone 8 c)) = true := by simpa using hh
    rw [this] at h13
    cases h13)]
end MiS

set_option Elab.async false
set_option linter.all false
set_option maxRecDepth 100000
set_option maxHeartbeats 4000000
/-! MiS: the look at statements, and its soundness -/
namespace MiS
open PySem PySem.Spec PyProof.Rows L2
open Mi (D Res Fl)
def isNoneC : Mi.E → Bool
  | .c .non => true
  | _ => false
/-- a comprehension that goes straight to a local name -/
def lcSet (sc : Scope) : Mi.T → Mi.E → Expr → Expr → Bool
  | .v i, .lc .., .Name y py, .ListComp xe [⟨xt, xi, xifs, z⟩] scope p => decide (sc.names.lookup y = some .local) && (py.line == p.line) && !(scope.names.any fun (n, k) => n == y && (k == .local || k == .cell))
  | _, _, _, _ => false
def setFrm : Expr → Expr → Bool
  | .Name .., xe => notComp xe
  | .Tuple .., xe => notComp xe && notTup xe
  | _, _ => false
/-- a target that is a cell: nothing is swapped -/
def cellT (sc : Scope) : Expr → Bool
  | .Name y _ => !decide (sc.names.lookup y = some .local)
  | _ => false
def setCell (sc : Scope) : Expr → Expr → Bool
  | .Name y p, _ => cellT sc (.Name y p)
  | .Tuple ts _ _, .Tuple .. => ts.any (cellT sc)
  | _, _ => false
theorem sw_cell {y : Str} {p : Pos} {xe : Expr} {l : Nat} {env : Env} (h : cellT env.scope (.Name y p) = true) : swapsWith xe (some (.Name y p)) l env = pure false := by
  have hk : (env.kindOf y == some .local) = false := by
    have : ¬ (env.scope.names.lookup y = some .local) := by
      unfold cellT at h
      simpa using h
    have : ¬ (env.kindOf y = some .local) := this
    simpa using this
  cases xe <;> first
    | rfl
    | (show (pure (_ && _ && _ && _) : Sem Bool) = pure false
       rw [hk, Bool.and_false, Bool.false_and, Bool.false_and])
theorem fm_lt {α β : Type} {f : α → Option β} : ∀ {l : List α}, (∃ a ∈ l, f a = none) → (l.filterMap f).length < l.length
  | [], ⟨_, h, _⟩ => by cases h
  | b :: r, ⟨a, h, e⟩ => by
    have hle := List.length_filterMap_le f r
    rcases List.mem_cons.mp h with z | z
    · subst z
      rw [List.filterMap_cons, e, List.length_cons]
      show (r.filterMap f).length < _
      omega
    · have ih := fm_lt (f := f) ⟨a, z, e⟩
      rw [List.filterMap_cons, List.length_cons]
      cases f b with
      | none => show (r.filterMap f).length < _; omega
      | some c => show (c :: r.filterMap f).length < _; rw [List.length_cons]; omega
theorem ss_cell {ts vs : List Expr} {kt k2 : Nat} {pt pt2 : Pos} {env : Env} (h : ts.any (cellT env.scope) = true) : swappedStores [.Tuple ts kt pt] (.Tuple vs k2 pt2) env = pure none := by
  unfold swappedStores
  dsimp only
  split
  · rfl
  · split
    · rfl
    · rw [if_pos]
      obtain ⟨t, ht, hc⟩ := List.any_eq_true.mp h
      have := fm_lt (f := fun x => match x with
        | .Name id pos => if (env.kindOf id == some .local && pos.line == (ts.head?.map (·.pos.line)).getD 0) = true then some id else none
        | _ => none) ⟨t, ht, by
          cases t with
          | Name y p =>
            have hk : (env.kindOf y == some .local) = false := by
              have : ¬ (env.scope.names.lookup y = some .local) := by
                unfold cellT at hc
                simpa using hc
              have : ¬ (env.kindOf y = some .local) := this
              simpa using this
            dsimp only
            rw [hk, Bool.false_and]
            rfl
          | _ => rfl⟩
      have n := Nat.ne_of_lt this
      rw [Bool.or_eq_true]
      exact .inl (bne_iff_ne.mpr n)
def parOk (sc : Sc) (io : List Nat) (is : List Nat) (es : List Mi.E) : List Expr → List Expr → Bool
  | [.Name x px, .Name y py], [a, b] => (match is with
    | [i, j] => decide (sc.N[i]? = some x) && decide (sc.N[j]? = some y) && !decide (i = j) && parB2 sc.sc x px y py a b && decide (es.length = 2)
    | _ => false)
  | [.Name x px, .Name y py, .Name z pz], [a, b, c] => (match is with
    | [i, j, l] => decide (sc.N[i]? = some x) && decide (sc.N[j]? = some y) && decide (sc.N[l]? = some z) && !decide (i = j) && !decide (i = l) && !decide (j = l) && parB3 sc.sc x px y py z pz a b c && decide (es.length = 3)
    | _ => false)
  | _, _ => false
mutual
def chkS (rz : Nat → List Mi.E → Expr → Bool) (sc : Sc) (io : List Nat) : Mi.S → Stmt → Bool
  | .set t e, s => match s with
    | .Assign [xt] xe _ => decide (∀ i ∈ io, i ∉ tv t) && chkTg sc t xt && chk sc false e xe && (setFrm xt xe || lcSet sc.sc t e xt xe || setCell sc.sc xt xe)
    | _ => false
  | .par is es, s => match s with
    | .Assign [.Tuple ts _ _] (.Tuple vs _ _) _ => decide (∀ i ∈ io, i ∉ is) && chks sc es vs && parOk sc io is es ts vs
    | _ => false
  | .aug i o e, s => match s with
    | .AugAssign (.Name y _) op xe _ => decide (op = opOf o) && decide (sc.N[i]? = some y) && locB sc y && decide (∀ j ∈ io, j ≠ i) && chk sc false e xe
    | _ => false
  | .six p k e, s => match p, s with
    | .v i, .Assign [.Subscript (.Name y _) xk _] xe _ => chkV sc i y && decide (i < 1000) && chk sc false k xk && chk sc false e xe && notSl xk
    | _, _ => false
  | .aix p o k e, s => match p, s with
    | .v i, .AugAssign (.Subscript (.Name y _) xk _) op xe _ => decide (op = opOf o) && chkV sc i y && decide (i < 1000) && chk sc false k xk && chk sc false e xe && notSl xk && !mu e
    | _, _ => false
  | .pix i k1 k2 a b, s => match s with
    | .Assign [.Tuple [.Subscript (.Name y _) xk1 _, .Subscript (.Name z _) xk2 _] _ _] (.Tuple [xa, xb] _ _) _ => chkV sc i y && chkV sc i z && decide (i < 1000) && chk sc false k1 xk1 && chk sc false k2 xk2 && chkks sc [a, b] [xa, xb] && noIo [a, b] && notSl xk1 && notSl xk2
    | _ => false
  | .app p e, s => match p, s with
    | .v i, .Expr (.Call (.Attribute (.Name y _) at_ pa) [xe] [] cpos) _ => decide (at_ = ("append" : Str)) && chkV sc i y && decide (i < 1000) && chk sc false e xe && notStar xe && (pa.endLine == cpos.line)
    | _, _ => false
  | .ext p e, s => match p, s with
    | .v i, .Expr (.Call (.Attribute (.Name y _) at_ pa) [xe] [] cpos) _ => decide (at_ = ("extend" : Str)) && chkV sc i y && decide (i < 1000) && chk sc false e xe && notStar xe && (pa.endLine == cpos.line)
    | _, _ => false
  | .ex e, s => match s with
    | .Expr xe _ => chk sc false e xe && notComp xe
    | _ => false
  | .ret e, s => match s with
    | .Return (some x) _ => chk sc false e x
    | .Return none _ => isNoneC e
    | _ => false
  | .rai k es, s => match s with
    | .Raise (some x) none _ => rz k es x
    | _ => false
  | .ite t a b, s => match s with
    | .If x xa xb _ => chk sc true t x && chkSs rz sc io a xa && chkSs rz sc io b xb
    | _ => false
  | .whl _ t b _, s => match s with
    | .While x xb [] _ => chk sc true t x && chkSs rz sc io b xb
    | _ => false
  | .for t it b _, s => match s with
    | .For xt xi xb [] _ => decide (∀ i ∈ io, i ∉ tv t) && chkTg sc t xt && chkI sc false it xt xi && notSet xi && chkSs rz sc io b xb
    | _ => false
  | .pas, s => match s with
    | .Pass _ => true
    | _ => false
  | .brk, s => match s with
    | .Break _ => true
    | _ => false
  | .cnt, s => match s with
    | .Continue _ => true
    | _ => false
  | _, _ => false
def chkSs (rz : Nat → List Mi.E → Expr → Bool) (sc : Sc) (io : List Nat) : List Mi.S → List Stmt → Bool
  | [], [] => true
  | s :: ss, x :: xs => chkS rz sc io s x && chkSs rz sc io ss xs
  | _, _ => false
end
end MiS

set_option Elab.async false
set_option linter.all false
set_option maxRecDepth 100000
set_option maxHeartbeats 4000000
/-! MiS: the look at statements is sound -/
namespace MiS
open PySem PySem.Spec PyProof.Rows L2
open Mi (D Res Fl)
section
variable {γ : GC} {T : TabL} {gl : List D} {cf : Nat → List D → Res (D × List D)}
theorem ife_ok {α : Type} {c : Bool} {r : Res α} {a : α} (h : (if c = true then .stk else r) = .ok a) : c = false ∧ r = .ok a := by
  cases c with
  | true => cases h
  | false => exact ⟨rfl, h⟩
theorem ife_exc {α : Type} {c : Bool} {r : Res α} {x : Nat} {as : List D} (h : (if c = true then .stk else r) = .exc x as) : r = .exc x as := by
  cases c with
  | true => cases h
  | false => exact h
theorem vo {a b : Bool} (h : (a && b) = false) : a = false ∨ true = false ∨ b = false := by
  cases a with
  | false => exact .inl rfl
  | true => exact .inr (.inr h)
theorem chkI_ok (it : Mi.I) {E : XK} {sc : Sc} {X : Cx} (G : XG γ T E gl cf sc X) (xt x : Expr) (h : chkI sc false it xt x = true) : PI X xt x (tI γ X.K T E (Mi.evI gl cf it) (muI it) true) := by
  cases it with
  | seq e =>
    unfold chkI at h
    obtain ⟨h1, _⟩ := and2 h
    have hI : ∀ env, Mi.evI gl cf (.seq e) env = (Mi.ev gl cf e env).bind fun p => if (Mi.vw e && p.1.own) = true then .stk else (Mi.seqI p.1).bind fun r => .ok (r, p.2) := fun env => by simp only [Mi.evI]
    refine i_seq ((chk_ok e G false x h1).1 rfl) (fun env r q => ?_) fun env y as q => ?_
    · rw [hI] at q
      obtain ⟨p, q1, q2⟩ := bind_inv q
      obtain ⟨hc, q2⟩ := ife_ok q2
      obtain ⟨z, q3, q4⟩ := bind_inv q2
      cases q4
      exact ⟨p.1, p.2, q1, vo hc, q3, rfl⟩
    · rw [hI] at q
      rcases bind_exc_inv q with q | ⟨p, _, q⟩
      · exact q
      · rcases bind_exc_inv (ife_exc q) with q | ⟨_, _, q⟩
        · exact (seqI_noexc q).elim
        · cases q
  | rng es =>
    unfold chkI at h
    split at h
    · rename_i y p xs pos
      obtain ⟨h, h5⟩ := and2 h
      obtain ⟨h, h4⟩ := and2 h
      obtain ⟨h, h3⟩ := and2 h
      obtain ⟨h1, h2⟩ := and2 h
      have ey : y = ("range" : Str) := of_decide_eq_true h1
      subst ey
      obtain ⟨f1, f2, _, _⟩ := freeB_of G h2
      exact rng_gen f1 f2 (chks_ok es G _ h3) h4 (of_decide_eq_true h5) fun env => by simp only [Mi.evI]
    · cases h
  | enum e =>
    unfold chkI at h
    split at h
    · obtain ⟨h, h5⟩ := and2 h
      obtain ⟨h, h4⟩ := and2 h
      obtain ⟨h, h3⟩ := and2 h
      obtain ⟨h1, h2⟩ := and2 h
      rw [of_decide_eq_true h1] at h2 ⊢
      obtain ⟨f1, f2, _, _⟩ := freeB_of G h2
      have hI : ∀ env, Mi.evI gl cf (.enum e) env = (Mi.ev gl cf e env).bind fun p => if (Mi.vw e && p.1.own) = true then .stk else (Mi.seqL p.1).bind fun r => .ok (Mi.enumD 0 r, p.2) := fun env => by simp only [Mi.evI]
      refine i_enum f1 f2 (.cons ((chk_ok e G false _ h3).1 rfl) (fun env => star_of h4 env []) .nil) (fun env r q => ?_) fun env y as q => ?_
      · rw [hI] at q
        obtain ⟨p, q1, q2⟩ := bind_inv q
        obtain ⟨hc, q2⟩ := ife_ok q2
        obtain ⟨z, q3, q4⟩ := bind_inv q2
        cases q4
        exact ⟨p.1, z, p.2, q1, vo hc, q3, rfl, rfl⟩
      · rw [hI] at q
        rcases bind_exc_inv q with q | ⟨p, _, q⟩
        · exact q
        · rcases bind_exc_inv (ife_exc q) with q | ⟨_, _, q⟩
          · exact (seqL_noexc q).elim
          · cases q
    · cases h
  | zip a b =>
    unfold chkI at h
    split at h
    · obtain ⟨h, h8⟩ := and2 h
      obtain ⟨h, h7⟩ := and2 h
      obtain ⟨h, h6⟩ := and2 h
      obtain ⟨h, h5⟩ := and2 h
      obtain ⟨h, h4⟩ := and2 h
      obtain ⟨h, h3⟩ := and2 h
      obtain ⟨h1, h2⟩ := and2 h
      rw [of_decide_eq_true h1] at h2 ⊢
      obtain ⟨f1, f2, _, _⟩ := freeB_of G h2
      have hmb : mu b = false := by simpa using h7
      have hI : ∀ env, Mi.evI gl cf (.zip a b) env = (Mi.ev gl cf a env).bind fun p => if (Mi.vw a && p.1.own) = true then .stk else (Mi.ev gl cf b p.2).bind fun q => if (Mi.vw b && q.1.own) = true then .stk else (Mi.zipS p.1 q.1).bind fun r => .ok (r, q.2) := fun env => by simp only [Mi.evI]
      have hmu : muI (.zip a b) = mu a := by
        show (mu a || mu b) = mu a
        rw [hmb, Bool.or_false]
      rw [hmu]
      refine i_zip f1 f2 (.cons ((chk_ok a G false _ h3).1 rfl) (fun env => star_of h5 env _) (.cons ((chk_ok b G false _ h4).1 rfl) (fun env => star_of h6 env _) .nil)) hmb (fun env r q => ?_) fun env y as q => ?_
      · rw [hI] at q
        obtain ⟨p, q1, q2⟩ := bind_inv q
        obtain ⟨hc1, q2⟩ := ife_ok q2
        obtain ⟨p2, q3, q4⟩ := bind_inv q2
        obtain ⟨hc2, q4⟩ := ife_ok q4
        obtain ⟨z, q5, q6⟩ := bind_inv q4
        cases q6
        exact ⟨p.1, p2.1, p.2, p2.2, q1, vo hc1, q3, vo hc2, q5, rfl⟩
      · rw [hI] at q
        rcases bind_exc_inv q with q | ⟨p, q1, q⟩
        · exact .inl q
        · rcases bind_exc_inv (ife_exc q) with q | ⟨_, _, q⟩
          · exact .inr ⟨p.1, p.2, q1, q⟩
          · rcases bind_exc_inv (ife_exc q) with q | ⟨_, _, q⟩
            · exact (zipS_noexc q).elim
            · cases q
    · cases h
  | items e => simp [chkI] at h
theorem sub_asg {x : Str} {p p2 : Pos} {xk : Expr} {env : Env} (h : notSl xk = true) (v : Value) : assign (.Subscript (.Name x p) xk p2) env v = (do
      let ov ← holding [v] (eval (.Name x p) env)
      let iv ← holding [v, ov] (eval xk env)
      standAt p2
      holding [v, ov, iv] (setItem ov iv v)
      release [v, ov, iv] []) := by
  cases xk <;> first | rfl | cases h
theorem aug_store {xk : Expr} (h : notSl xk = true) (ov iv new : Value) : augStore xk ov iv new = (do holding [new, ov, iv] (setItem ov iv new); release [new, ov, iv] []; pure .next) := by
  cases xk <;> first | rfl | cases h
variable {E : XK} {sc : Sc} {X : Cx} {io : List Nat} {rz : Nat → List Mi.E → Expr → Bool}
mutual
theorem chkS_ok (G : XG γ T E gl cf sc X) (hk : X.env.scope.kind = .function) (hR : ∀ k es x pos, rz k es x = true → PS X (.Raise (some x) none pos) (tS γ X.K T E io (Mi.ex gl cf (.rai k es)))) :
    ∀ (s : Mi.S) (x : Stmt), chkS rz sc io s x = true → PS X x (tS γ X.K T E io (Mi.ex gl cf s))
  | .set t e, x, h => by
    unfold chkS at h
    split at h
    · rename_i xt xe pos
      obtain ⟨h, h4⟩ := and2 h
      obtain ⟨h, h3⟩ := and2 h
      obtain ⟨h1, h2⟩ := and2 h
      have hio := of_decide_eq_true h1
      have ht := chkTg_ok G t xt h2
      rcases Bool.or_eq_true_iff.mp h4 with h40 | h4'
      rotate_left
      · have he := (chk_ok e G false xe h3).1 rfl
        unfold setCell at h4'
        rw [← G.hs] at h4'
        split at h4'
        · exact s_set G.calm G.nd hio ht he (show swapsWithSole [.Name _ _] _ _ _ = _ from sw_cell (l := pos.line) h4') ss_name
        · exact s_set G.calm G.nd hio ht he sw_tup (ss_cell h4')
        · cases h4'
      rcases Bool.or_eq_true_iff.mp h40 with h4 | h4
      · have he := (chk_ok e G false xe h3).1 rfl
        unfold setFrm at h4
        split at h4
        · exact s_set G.calm G.nd hio ht he (show swapsWithSole [.Name _ _] _ _ _ = _ from sw_no h4 (some (.Name _ _)) pos.line X.env) ss_name
        · obtain ⟨h5, h6⟩ := and2 h4
          exact s_set G.calm G.nd hio ht he sw_tup (ss_tup h6)
        · cases h4
      · unfold lcSet at h4
        split at h4
        · rename_i i own elt t2 it ifs gs y py xe' xt' xi xifs z scope p _ _ _
          obtain ⟨h5, h6⟩ := and2 h4
          obtain ⟨h5, h7⟩ := and2 h5
          have hl : X.env.scope.names.lookup y = some .local := by
            rw [G.hs]
            exact of_decide_eq_true h5
          unfold chk at h3
          obtain ⟨_, h3⟩ := and2 h3
          obtain ⟨h, k9⟩ := and2 h3
          obtain ⟨h, k8⟩ := and2 h
          obtain ⟨h, k7⟩ := and2 h
          obtain ⟨h, k6⟩ := and2 h
          obtain ⟨h, k5⟩ := and2 h
          obtain ⟨h, k4⟩ := and2 h
          obtain ⟨h, k3⟩ := and2 h
          obtain ⟨k1, k2⟩ := and2 h
          have eg : gs = [] := List.isEmpty_iff.mp k1
          have ez : z = 0 := of_decide_eq_true k2
          subst eg ez
          cases ht with
          | v n1 n2 n3 =>
            exact s_setLc G.calm G.nd n1 hl (sw_true hk hl h7 (by simpa using h6)) hio (chkJ_ok it G (mu elt || muo ifs) xt' xi k7)
              (lcOk G k3 k4 k5 (fun s H C cl fp => (chk_ok elt (G.blk scope s H C cl fp) false _ k6).1 rfl) fun s H C cl fp => chkot_ok ifs (G.blk scope s H C cl fp) _ k9) fun x => fsi k8 _ x
        · cases h4
    · cases h
  | .par is es, x, h => by
    unfold chkS at h
    split at h
    · rename_i ts k1 p1 vs k2 p2 pos
      obtain ⟨h, h3⟩ := and2 h
      obtain ⟨h1, h2⟩ := and2 h
      have hio := of_decide_eq_true h1
      have ih := chks_ok es G vs h2
      unfold parOk at h3
      split at h3
      · split at h3
        · obtain ⟨h3, h8⟩ := and2 h3
          obtain ⟨h3, h7⟩ := and2 h3
          obtain ⟨h3, h6⟩ := and2 h3
          obtain ⟨h4, h5⟩ := and2 h3
          match es, ih, of_decide_eq_true h8 with
          | [e1, e2], ih, _ =>
            rw [← G.hs] at h7
            have hw := par2_sw (kt := k1) (pt := p1) (k2 := k2) (pt2 := p2) hk h7
            unfold parB2 at h7
            simp only [Bool.and_eq_true, decide_eq_true_eq] at h7
            exact s_par2 G.calm G.nd (by rw [G.hN]; exact of_decide_eq_true h4) (by rw [G.hN]; exact of_decide_eq_true h5) (by simpa using h6) h7.1.1.1.1.1.1.1 h7.1.1.1.1.1.1.2 hio ih hw
        · cases h3
      · split at h3
        · obtain ⟨h3, h11⟩ := and2 h3
          obtain ⟨h3, h10⟩ := and2 h3
          obtain ⟨h3, h9⟩ := and2 h3
          obtain ⟨h3, h8⟩ := and2 h3
          obtain ⟨h3, h7⟩ := and2 h3
          obtain ⟨h3, h6⟩ := and2 h3
          obtain ⟨h4, h5⟩ := and2 h3
          match es, ih, of_decide_eq_true h11 with
          | [e1, e2, e3], ih, _ =>
            rw [← G.hs] at h10
            have hw := par3_sw (kt := k1) (pt := p1) (k2 := k2) (pt2 := p2) hk h10
            unfold parB3 at h10
            simp only [Bool.and_eq_true, decide_eq_true_eq] at h10
            have g1 := h10.1.1.1.1.1.1.1.1.1.1
            exact s_par3 G.calm G.nd (by rw [G.hN]; exact of_decide_eq_true h4) (by rw [G.hN]; exact of_decide_eq_true h5) (by rw [G.hN]; exact of_decide_eq_true h6) (by simpa using h7) (by simpa using h8) (by simpa using h9) g1.1.1 g1.1.2 g1.2 hio ih hw
        · cases h3
      · cases h3
    · cases h
  | .aug i o e, x, h => by
    unfold chkS at h
    split at h
    · obtain ⟨h, h5⟩ := and2 h
      obtain ⟨h, h4⟩ := and2 h
      obtain ⟨h, h3⟩ := and2 h
      obtain ⟨h1, h2⟩ := and2 h
      rw [of_decide_eq_true h1]
      obtain ⟨l1, l2⟩ := loc_of G h3
      exact s_aug G.nd (by rw [G.hN]; exact of_decide_eq_true h2) l1 l2 (of_decide_eq_true h4) ((chk_ok e G false _ h5).1 rfl)
    · cases h
  | .six p k e, x, h => by
    unfold chkS at h
    obtain ⟨kk, hr⟩ := G.room
    split at h
    · obtain ⟨h, h5⟩ := and2 h
      obtain ⟨h, h4⟩ := and2 h
      obtain ⟨h, h3⟩ := and2 h
      obtain ⟨h1, h2⟩ := and2 h
      obtain ⟨g1, g2, g3, g4⟩ := chkV_of G h1
      exact s_six hr (pe_var g1 g2 g3 g4) (Nat.lt_trans (of_decide_eq_true h2) (by decide)) ((chk_ok k G false _ h3).1 rfl) ((chk_ok e G false _ h4).1 rfl) (sub_asg h5)
    · cases h
  | .aix p o k e, x, h => by
    unfold chkS at h
    obtain ⟨kk, hr⟩ := G.room
    split at h
    · obtain ⟨h, h7⟩ := and2 h
      obtain ⟨h, h6⟩ := and2 h
      obtain ⟨h, h5⟩ := and2 h
      obtain ⟨h, h4⟩ := and2 h
      obtain ⟨h, h3⟩ := and2 h
      obtain ⟨h1, h2⟩ := and2 h
      obtain ⟨g1, g2, g3, g4⟩ := chkV_of G h2
      rw [of_decide_eq_true h1]
      exact s_aix hr (pe_var g1 g2 g3 g4) (Nat.lt_trans (of_decide_eq_true h3) (by decide)) ((chk_ok k G false _ h4).1 rfl) ((chk_ok e G false _ h5).1 rfl) (by simpa using h7) (aug_store h6)
    · cases h
  | .pix i k1 k2 a b, x, h => by
    unfold chkS at h
    obtain ⟨kk, hr⟩ := G.room
    split at h
    · obtain ⟨h, h9⟩ := and2 h
      obtain ⟨h, h8⟩ := and2 h
      obtain ⟨h, h7⟩ := and2 h
      obtain ⟨h, h6⟩ := and2 h
      obtain ⟨h, h5⟩ := and2 h
      obtain ⟨h, h4⟩ := and2 h
      obtain ⟨h, h3⟩ := and2 h
      obtain ⟨h1, h2⟩ := and2 h
      obtain ⟨g1, g2, g3, g4⟩ := chkV_of G h1
      obtain ⟨f1, f2, f3, f4⟩ := chkV_of G h2
      have ez := Option.some.inj (g1.symm.trans f1)
      subst ez
      have hn : ∀ j, a ≠ .io j ∧ b ≠ .io j := fun j => ⟨fun e => by rw [e] at h7; simp [noIo] at h7, fun e => by rw [e] at h7; cases a <;> simp [noIo] at h7⟩
      exact s_pix hr G.calm (pe_var g1 g2 g3 g4) (pe_var f1 f2 f3 f4) (Nat.lt_trans (of_decide_eq_true h3) (by decide)) ((chk_ok k1 G false _ h4).1 rfl) ((chk_ok k2 G false _ h5).1 rfl) (fun j => (hn j).1) (fun j => (hn j).2)
        (e_tup (chkks_ok [a, b] G _ h6) h7 rfl) (sub_asg h8) (sub_asg h9) ss_sub
    · cases h
  | .app p e, x, h => by
    unfold chkS at h
    split at h
    · obtain ⟨h, h6⟩ := and2 h
      obtain ⟨h, h5⟩ := and2 h
      obtain ⟨h, h4⟩ := and2 h
      obtain ⟨h, h3⟩ := and2 h
      obtain ⟨h1, h2⟩ := and2 h
      obtain ⟨g1, g2, g3, g4⟩ := chkV_of G h2
      rw [of_decide_eq_true h1]
      exact s_app (pe_var g1 g2 g3 g4) (Nat.lt_trans (of_decide_eq_true h3) (by decide)) ((chk_ok e G false _ h4).1 rfl) (fun env => star_of h5 env []) h6
    · cases h
  | .ext p e, x, h => by
    unfold chkS at h
    split at h
    · obtain ⟨h, h6⟩ := and2 h
      obtain ⟨h, h5⟩ := and2 h
      obtain ⟨h, h4⟩ := and2 h
      obtain ⟨h, h3⟩ := and2 h
      obtain ⟨h1, h2⟩ := and2 h
      obtain ⟨g1, g2, g3, g4⟩ := chkV_of G h2
      rw [of_decide_eq_true h1]
      exact s_ext (pe_var g1 g2 g3 g4) (Nat.lt_trans (of_decide_eq_true h3) (by decide)) ((chk_ok e G false _ h4).1 rfl) (fun env => star_of h5 env []) h6
    · cases h
  | .ex e, x, h => by
    unfold chkS at h
    split at h
    · obtain ⟨h1, h2⟩ := and2 h
      exact s_ex ((chk_ok e G false _ h1).1 rfl) (sw_no h2 _ _ _)
    · cases h
  | .ret e, x, h => by
    unfold chkS at h
    split at h
    · exact s_ret ((chk_ok e G false _ h).1 rfl)
    · unfold isNoneC at h
      split at h
      · exact s_retN
      · cases h
    · cases h
  | .rai k es, x, h => by
    unfold chkS at h
    split at h
    · exact hR k es _ _ h
    · cases h
  | .ite t a b, x, h => by
    unfold chkS at h
    split at h
    · obtain ⟨h, h3⟩ := and2 h
      obtain ⟨h1, h2⟩ := and2 h
      exact s_ite ((chk_ok t G true _ h1).2 rfl) (chkSs_ok G hk hR a _ h2) (chkSs_ok G hk hR b _ h3)
    · cases h
  | .whl n t b ks, x, h => by
    unfold chkS at h
    split at h
    · obtain ⟨h1, h2⟩ := and2 h
      exact s_whl G.own ((chk_ok t G true _ h1).2 rfl) (chkSs_ok G hk hR b _ h2)
    · cases h
  | .for t it b ks, x, h => by
    unfold chkS at h
    split at h
    · obtain ⟨h, h5⟩ := and2 h
      obtain ⟨h, h4⟩ := and2 h
      obtain ⟨h, h3⟩ := and2 h
      obtain ⟨h1, h2⟩ := and2 h
      exact s_for G.own G.calm G.nd (of_decide_eq_true h1) (chkTg_ok G t _ h2) (chkI_ok it G _ _ h3) (chkSs_ok G hk hR b _ h5) fun x => fsi h4 _ x
    · cases h
  | .pas, x, h => by
    unfold chkS at h
    split at h
    · exact s_pas
    · cases h
  | .brk, x, h => by
    unfold chkS at h
    split at h
    · exact s_brk
    · cases h
  | .cnt, x, h => by
    unfold chkS at h
    split at h
    · exact s_cnt
    · cases h
  | .sfl _ _ _, x, h => by simp [chkS] at h
  | .tri _ _, x, h => by simp [chkS] at h
theorem chkSs_ok (G : XG γ T E gl cf sc X) (hk : X.env.scope.kind = .function) (hR : ∀ k es x pos, rz k es x = true → PS X (.Raise (some x) none pos) (tS γ X.K T E io (Mi.ex gl cf (.rai k es)))) :
    ∀ (ss : List Mi.S) (xs : List Stmt), chkSs rz sc io ss xs = true → PSs X xs (tS γ X.K T E io (Mi.exs gl cf ss))
  | [], [], _ => s_nil
  | [], _ :: _, h => by simp [chkSs] at h
  | _ :: _, [], h => by simp [chkSs] at h
  | s :: ss, x :: xs, h => by
    unfold chkSs at h
    obtain ⟨h1, h2⟩ := and2 h
    exact s_cons (chkS_ok G hk hR s x h1) (chkSs_ok G hk hR ss xs h2)
end
end
end MiS

set_option Elab.async false
set_option linter.all false
set_option maxRecDepth 100000
set_option maxHeartbeats 4000000
/-! MiS: a def of the text keeps its promise -/
namespace MiS
open PySem PySem.Spec PyProof.Rows L2
open Mi (D Res Fl)
section
variable {γ : GC} {T : TabL} {K : PySem.W.Frag} {H H' : Hp} {O O' : OM} {gl : List D} {cf : Nat → List D → Res (D × List D)}
theorem argR_get {io : List Nat} : ∀ {ds : List D} {vs : List V} {p : Nat}, argR γ K H O io p ds vs → ds.length = vs.length ∧ ∀ i d, ds[i]? = some d → ∃ v, vs[i]? = some v ∧ VR γ K H O (p + i, 0) d v
  | [], vs, p, h => by
    have h : vs = [] := h
    subst h
    exact ⟨rfl, fun i d e => by cases e⟩
  | d :: ds, vs, p, h => by
    obtain ⟨v, r, e, h1, _, h2⟩ := h
    subst e
    obtain ⟨l, ih⟩ := argR_get h2
    refine ⟨by rw [List.length_cons, List.length_cons, l], fun i d' e => ?_⟩
    cases i with
    | zero => cases e; exact ⟨v, rfl, h1⟩
    | succ i =>
      obtain ⟨v', e1, e2⟩ := ih i d' e
      refine ⟨v', e1, ?_⟩
      rw [show p + (i + 1) = p + 1 + i by omega]
      exact e2
theorem start_get {N : List Str} {vs : List V} {i : Nat} {v : V} (h : vs[i]? = some v) : (start N vs)[i]? = some (some v) := by
  unfold L2.start
  have hi : i < vs.length := (List.getElem?_eq_some_iff.mp h).1
  rw [List.getElem?_append_left (by simpa using hi), List.getElem?_map, h]
  rfl
theorem rs_start {fn : Mi.Fn} {N : List Str} {ds : List D} {vs : List V} {io : List Nat} (od : OD H O) (a : argR γ K H O io 0 ds vs) (hl : vs.length = fn.np) (hN : N.length = fn.ns) (hle : fn.np ≤ fn.ns) (hsz : fn.ns < tT) : RS γ K H O (Mi.envF fn ds) (start N vs) := by
  obtain ⟨l, g⟩ := argR_get a
  have e1 : (Mi.envF fn ds).length = fn.ns := by
    unfold Mi.envF
    rw [List.length_append, List.length_map, List.length_replicate, l, hl]
    omega
  refine ⟨od, ?_, by rw [e1]; exact hsz, fun i d e => ?_⟩
  · rw [e1]
    unfold L2.start
    rw [List.length_append, List.length_map, List.length_replicate, hl, hN]
    omega
  · unfold Mi.envF at e
    by_cases hi : i < ds.length
    · rw [List.getElem?_append_left (by simpa using hi), List.getElem?_map] at e
      cases q : ds[i]? with
      | none => rw [q] at e; cases e
      | some d' =>
        rw [q] at e
        cases e
        obtain ⟨v, h1, h2⟩ := g i d q
        rw [Nat.zero_add] at h2
        exact ⟨v, start_get h1, h2⟩
    · rw [List.getElem?_append_right (by simpa using hi), List.getElem?_replicate] at e
      split at e <;> cases e
theorem out_of {env : EnvI} {σ : St} {N : List Str} {vs : List V} (R : RS γ K H O env σ) : ∀ {io : List Nat} {os : List D}, Mi.getVs env io = .ok os → (∀ i ∈ io, i < vs.length) → (∀ i ∈ io, σ[i]? = (start N vs)[i]?) → outR γ K H O vs io os
  | [], os, h, _, _ => by
    simp only [Mi.getVs] at h
    cases h
    rfl
  | i :: io, os, h, hi, hs => by
    simp only [Mi.getVs] at h
    obtain ⟨d, h1, h2⟩ := bind_inv h
    obtain ⟨r, h3, h4⟩ := bind_inv h2
    cases h4
    obtain ⟨v, a1, a2⟩ := R.at_ i d (getV_ok h1)
    have hl := hi i List.mem_cons_self
    have e : vs[i]? = some vs[i] := List.getElem?_eq_getElem hl
    rw [hs i List.mem_cons_self, start_get e] at a1
    cases a1
    exact ⟨d, r, _, rfl, e, a2, out_of (N := N) R h3 (fun j hj => hi j (List.mem_cons_of_mem _ hj)) fun j hj => hs j (List.mem_cons_of_mem _ hj)⟩
theorem getVs_noexc {env : EnvI} {x : Nat} {as : List D} : ∀ {io : List Nat}, Mi.getVs env io = .exc x as → False
  | [], h => by
    simp only [Mi.getVs] at h
    cases h
  | i :: io, h => by
    simp only [Mi.getVs] at h
    rcases bind_exc_inv h with h | ⟨_, _, h⟩
    · exact getV_exc h
    · rcases bind_exc_inv h with h | ⟨_, _, h⟩
      · exact getVs_noexc h
      · cases h
/-- the body's ends -/
theorem pos_out {fn : Mi.Fn} {N : List Str} {vs : List V} {E : XK} {Q : VK} {r : Res Fl} (hio : ∀ i ∈ fn.io, i < vs.length) (P : PoF γ K T E H O fn.io vs (r.bind (Mi.outF fn)) Q) : PoS γ K T E fn.io H O (start N vs) r { nx := fun _ H' => Q .non H', rt := Q } := by
  cases r with
  | ok fl =>
    rw [bind_ok] at P
    cases fl with
    | nx e =>
      intro σ' H1 O1 s R Tb
      have P : PoF γ K T E H O fn.io vs ((Mi.getVs e fn.io).bind fun os => .ok (.non, os)) Q := P
      cases q : Mi.getVs e fn.io with
      | ok os =>
        rw [q] at P
        exact P .non H1 O1 s.pst R.od rfl (out_of (N := N) R q hio s.io) Tb
      | exc x as => exact (getVs_noexc q).elim
      | stk => rw [q] at P; exact P.elim
    | ret d e =>
      intro v σ' H1 O1 s R hv Tb
      have P : PoF γ K T E H O fn.io vs ((Mi.getVs e fn.io).bind fun os => .ok (d, os)) Q := P
      cases q : Mi.getVs e fn.io with
      | ok os =>
        rw [q] at P
        exact P v H1 O1 s.pst R.od hv (out_of (N := N) R q hio s.io) Tb
      | exc x as => exact (getVs_noexc q).elim
      | stk => rw [q] at P; exact P.elim
    | brk e => exact P.elim
    | cnt e => exact P.elim
  | exc x as => exact P
  | stk => exact P
end
/-- the look's knowledge in a def -/
abbrev scOf (N : List Str) (scope : Scope) (fns : List (Str × Nat × List Nat)) (gls : List (Option Str)) (free : List Str) (told : List (Option Str)) (lm : Bool) : Sc := { N := N, sc := scope, fns := fns, gls := gls, free := free, all := true, cells := [], told := told, lam := lm }
/-- what is known of a def and its text -/
structure DefOk (prog : Program) (K : PySem.W.Frag) (mg : Str → Option Value) (base : Heap) (T : TabL) (fns : List (Str × Nat × List Nat)) (gls : List (Option Str)) (free : List Str) (told : List (Option Str)) (rz : Sc → Nat → List Mi.E → Expr → Bool) (f : Addr) (fd : FuncData) (ps : List Str) (fn : Mi.Fn) : Prop where
  ex : ∃ (lm : Bool) (x qual : Str) (st : Stmt) (N : List Str), Fun K x qual st f fd ∧ FnScope N ps (defScope st) ∧ ps.length = fn.np ∧ N.length = fn.ns ∧ fn.np ≤ fn.ns ∧ fn.ns < tT ∧ (∀ i ∈ fn.io, i < fn.np) ∧
    chkSs (rz (scOf N (defScope st) fns gls free told lm)) (scOf N (defScope st) fns gls free told lm) fn.io fn.body (defBody st) = true ∧
    (lm = true → ∃ c P, fd.code = .ref c ∧ LamX.TabB base mg c P ∧ (P, (qual ++ ".<locals>.") ++ "<lambda>") ∈ T ∧ ∀ p ∈ T, p.1 = P → p.2 = (qual ++ ".<locals>.") ++ "<lambda>")
/-- what is known of the module -/
structure ModOk (γ : GC) (K : PySem.W.Frag) (mg : Str → Option Value) (gl : List D) (fns : List (Str × Nat × List Nat)) (gls : List (Option Str)) (free : List Str) (told : List (Option Str)) (P : List Mi.Fn) (FD : Nat → FuncData) (PZ : Nat → List Str) (RD : Nat → Bool) : Prop where
  free : ∀ x ∈ free, mg x = none
  gls : ∀ (i : Nat) (y : Str), gls[i]? = some (some y) → ∃ u v d, gl[i]? = some d ∧ mg y = some u ∧ RelV v u ∧ ∀ H O, VR γ K H O tmp d v
  fns : ∀ (f : Nat) (y : Str) (np : Nat) (io : List Nat), fns[f]? = some (y, np, io) → mg y = some (.ref (γ.fad f)) ∧ PySem.W.keepIn K (.ref (γ.fad f)) = true ∧ L2.Binds K (FD f) (PZ f) [] ∧ ∃ fn, P[f]? = some fn ∧ fn.np = np ∧ fn.io = io ∧ RD f = true
  len : ∀ (f : Nat) (fn : Mi.Fn), P[f]? = some fn → RD f = true → (PZ f).length = fn.np
  told : ∀ (f : Nat) (y : Str), told[f]? = some (some y) → ∃ t xn, ToldOk γ K mg xn y f t ∧ P[f]? = some t.fn
section
variable {prog : Program} {w : World} {mg : Str → Option Value} {base : Heap} {γ : GC} {T : TabL} {K : PySem.W.Frag} {gl : List D} {fns : List (Str × Nat × List Nat)} {gls : List (Option Str)} {free : List Str} {told : List (Option Str)} {P : List Mi.Fn} {FD : Nat → FuncData} {PZ : Nat → List Str} {RD : Nat → Bool} {rz : Sc → Nat → List Mi.E → Expr → Bool}
/-- every def keeps its promise at n -/
def AllOk (prog : Program) (w : World) (K : PySem.W.Frag) (mg : Str → Option Value) (base : Heap) (γ : GC) (T : TabL) (gl : List D) (P : List Mi.Fn) (FD : Nat → FuncData) (PZ : Nat → List Str) (RD : Nat → Bool) (n : Nat) : Prop :=
  ∀ (f : Nat) (fn : Mi.Fn), P[f]? = some fn → RD f = true → ∀ k, 3 * n + 3 ≤ k → FnOk prog w K mg base (L2.CX prog w) k (γ.fad f) (FD f) (PZ f) (spF γ K T fn.np fn.io (Mi.runF gl P n f))
/-- one def, one level up -/
def StepOk (prog : Program) (w : World) (K : PySem.W.Frag) (mg : Str → Option Value) (base : Heap) (γ : GC) (T : TabL) (gl : List D) (P : List Mi.Fn) (FD : Nat → FuncData) (PZ : Nat → List Str) (RD : Nat → Bool) (f : Nat) (fn : Mi.Fn) : Prop :=
  ∀ n, AllOk prog w K mg base γ T gl P FD PZ RD n → ∀ k, 3 * (n + 1) + 3 ≤ k → FnOk prog w K mg base (L2.CX prog w) k (γ.fad f) (FD f) (PZ f) (spF γ K T fn.np fn.io (Mi.runF gl P (n + 1) f))
theorem all_ok (M : ModOk γ K mg gl fns gls free told P FD PZ RD) (S : ∀ (f : Nat) (fn : Mi.Fn), P[f]? = some fn → RD f = true → StepOk prog w K mg base γ T gl P FD PZ RD f fn) : ∀ n, AllOk prog w K mg base γ T gl P FD PZ RD n
  | 0 => fun f fn hf hRD k _ => ⟨fun vs H Q E h => by rw [M.len f fn hf (by assumption)]; exact h.1, fun A outer s H args us vs Q E _ _ _ _ h => by
      obtain ⟨_, O, ds, _, _, _, _, z⟩ := h
      exact z.elim⟩
  | n + 1 => fun f fn hf hd k hk => S f fn hf hd n (all_ok M S n) k hk
/-- the context of a body -/
theorem xg_of {sc : Sc} {qual : Str} {scope : Scope} {f : Addr} {cd : Value} {A : Around} {outer : List Env} {s : Shared} {H : Hp} {E : XK} {n k : Nat} (M : ModOk γ K mg gl fns gls free told P FD PZ RD) (ih : AllOk prog w K mg base γ T gl P FD PZ RD n) (hn : sc.N.Nodup) (hs : scope = sc.sc)
    (h1 : sc.fns = fns) (h2 : sc.gls = gls) (h3 : sc.free = free) (h4 : sc.told = told) (hl : sc.lam = true → ∃ c P, cd = .ref c ∧ LamX.TabB base mg c P ∧ (P, (qual ++ ".<locals>.") ++ "<lambda>") ∈ T ∧ ∀ p ∈ T, p.1 = P → p.2 = (qual ++ ".<locals>.") ++ "<lambda>") (hr : Room k (A.deeper (envOfC qual scope s.heap.objs.size f cd))) (hk : 3 * n + 5 ≤ k) :
    XG γ T E gl (Mi.runF gl P n) sc (cxOf (L2.CX prog w) prog w K mg base sc.N qual scope f cd A outer s H E) where
  calm := rfl
  nd := hn
  hN := rfl
  hs := hs
  room := ⟨3 * n + 3, hr.mono hk⟩
  tk := takes_of rfl rfl rfl rfl
  own := passes_of rfl
  px := passes_call (takes_of rfl rfl rfl rfl) fun _ _ _ _ h => h
  free := by rw [h3]; exact M.free
  fns := fun g y np io e => by
    rw [h1] at e
    obtain ⟨a1, a2, a3, fn, a4, a5, a6, a7⟩ := M.fns g y np io e
    subst a5 a6
    exact ⟨3 * n + 3, FD g, PZ g, a1, a2, a3, hr.mono (Nat.le_trans (Nat.le_add_right _ 2) hk), ih g fn a4 a7 (3 * n + 3) (Nat.le_refl _)⟩
  gls := by rw [h2]; exact M.gls
  hf := ⟨fun _ _ => rfl, fun _ _ => rfl⟩
  lam := fun e => by
    obtain ⟨c, Pt, a1, a2, a3, a4⟩ := hl e
    refine ⟨c, Pt, 3 * n + 1, a2, a1, a3, a4, hr.mono hk, fun g y np io e => ?_, fun g y e => ?_⟩
    · rw [h1] at e
      obtain ⟨a1, a2, a3, fn, a4, a5, a6, a7⟩ := M.fns g y np io e
      subst a5 a6
      exact ⟨FD g, PZ g, a1, a2, a3, ih g fn a4 a7 (3 * n + 3) (Nat.le_refl _)⟩
    · rw [h4] at e
      obtain ⟨t, xn, b1, b2⟩ := M.told g y e
      exact ⟨t, xn, b1, fun nm r d outs hn e => told_tell b2 hn b1.np e⟩
/-- a def whose body the look takes -/
theorem step_look {f : Nat} {fn : Mi.Fn} (M : ModOk γ K mg gl fns gls free told P FD PZ RD) (hf : P[f]? = some fn) (DO : DefOk prog K mg base T fns gls free told rz (γ.fad f) (FD f) (PZ f) fn)
    (hR : ∀ (E : XK) (cf : Nat → List D → Res (D × List D)) (sc : Sc) (X : Cx) (io : List Nat), X.prog = prog → X.w = w → X.K = K → X.mg = mg → XG γ T E gl cf sc X → X.env.scope.kind = .function → ∀ k es x pos, rz sc k es x = true → PS X (.Raise (some x) none pos) (tS γ X.K T E io (Mi.ex gl cf (.rai k es)))) :
    StepOk prog w K mg base γ T gl P FD PZ RD f fn := fun n ih k hk => by
  obtain ⟨lm, x, qual, st, N, F, S, g1, g2, g3, g4, g5, g6, g7⟩ := DO.ex
  obtain ⟨k, rfl⟩ : ∃ j, k = j + 1 := ⟨k - 1, by omega⟩
  obtain ⟨oc, od, kV, doc, pm, an, cdv, ct, osl, ef, lk, hcd⟩ := F.ex
  have hcode : (FD f).code = cdv := by rw [ef]
  rw [hcode] at g7
  rw [ef] at lk ⊢
  refine L2.fn_of lk hcd S (fun vs H Q E h => by rw [g1]; exact h.1) fun A outer s H vs Q E hr h => ?_
  obtain ⟨hl, O, ds, od, Tb, ti, a, Po⟩ := h
  have G := xg_of (E := E) (qual := qual) (f := γ.fad f) (cd := cdv) (A := A) (outer := outer) (s := s) (H := H) (sc := scOf N (defScope st) fns gls free told lm) M ih S.nd rfl rfl rfl rfl rfl g7 hr (by omega)
  refine ⟨_, chkSs_ok G S.kind (hR E _ _ _ fn.io rfl rfl rfl rfl G S.kind) fn.body (defBody st) g6, Mi.envF fn ds, O, rs_start od a hl g2 g3 g4, Tb, ?_⟩
  refine pos_out (fun i hi => by rw [hl]; exact g5 i hi) ?_
  have e : Mi.runF gl P (n + 1) f ds = (Mi.exs gl (Mi.runF gl P n) fn.body (Mi.envF fn ds)).bind (Mi.outF fn) := by
    have := (argR_get a).1
    simp only [Mi.runF, hf]
    rw [if_pos (by rw [this, hl])]
  rw [e] at Po
  exact Po
end
end MiS

set_option Elab.async false
set_option linter.all false
set_option maxRecDepth 100000
set_option maxHeartbeats 4000000
/-! MiS: raise X(), raise X(e) -/
namespace MiS
open PySem PySem.Spec PyProof.Rows L2
open Mi (D Res Fl)
/-! ### an own __init__ of one field -/
def spI (K : PySem.W.Frag) (C : Addr) (f : Str) : Sp := fun vs H Q E => ∃ a y, vs = [.ref a, y] ∧ H a = some (exo a C none) ∧ ∀ dx, H dx = none → dx ≠ a → Q .non (upd (upd H dx (exd dx [(f, y)])) a (exo a C (some dx)))
/-- the written form: self.f = y -/
def initB (f : Str) (st : Stmt) : Bool := match defBody st with
  | [.Assign [.Attribute (.Name s _) g _] (.Name y _) _] => decide (g = f) && decide ((defScope st).names.lookup s = some .local) && decide ((defScope st).names.lookup y = some .local) && !dbg s && !dbg y && (match defArgs st with
    | a => decide (a.args.map (·.arg) = [s, y]))
  | _ => false
structure OexOk (K : PySem.W.Frag) (mg : Str → Option Value) (C : Addr) (y : Str) (f : Str) : Prop where
  ox : OexC K C
  gC : mg y = some (.ref C)
  ex : ∃ (fI : Addr) (fd : FuncData) (x qual s z : Str) (st : Stmt), Fun K x qual st fI fd ∧ FnScope [s, z] [s, z] (defScope st) ∧ Binds K fd [s, z] [] ∧ PySem.W.findIn K (.ref C) "__init__" = some (some (.ref fI)) ∧ PySem.W.typeIn K (.ref fI) = some (.type "function") ∧
    PySem.W.findIn K (.ref C) f = some none ∧ (∃ p1 p2 p3 p4, defBody st = [.Assign [.Attribute (.Name s p1) f p2] (.Name z p3) p4]) ∧ dbg s = false ∧ dbg z = false
section
variable {prog : Program} {w : World} {mg : Str → Option Value} {base : Heap} {K : PySem.W.Frag} {C : Addr} {y f : Str}
theorem init_ok {fI : Addr} {fd : FuncData} {x qual s z : Str} {st : Stmt} (ox : OexC K C) (hf : PySem.W.findIn K (.ref C) f = some none) (F : Fun K x qual st fI fd) (S : FnScope [s, z] [s, z] (defScope st)) (hb : ∃ p1 p2 p3 p4, defBody st = [.Assign [.Attribute (.Name s p1) f p2] (.Name z p3) p4]) (h1 : dbg s = false) (h2 : dbg z = false) :
    FnOk prog w K mg base (L2.CX prog w) 1 fI fd [s, z] (spI K C f) := by
  obtain ⟨p1, p2, p3, p4, e⟩ := hb
  refine F.okX (k := 0) S (fun vs H Q E ⟨a, y, ev, _⟩ => by rw [ev]; rfl) fun cdv A outer s0 H vs Q E hr ⟨a, y, ev, ea, q⟩ => ?_
  subst ev
  rw [e]
  have d1 := dbg_of (x := s) (by rw [h1]; rfl)
  have d2 := dbg_of (x := z) (by rw [h2]; rfl)
  have vis : ∀ n ∈ [s, z], Vis (defScope st) n := fun n hn => by
    rcases S.par n hn with h | h
    · exact .inl h
    · exact .inr (.inl h)
  refine ⟨_, pss_cons (ps_ost (pe_var (i := 0) rfl (vis s (by simp)) d1.1 d1.2) (pe_var (i := 1) rfl (vis z (by simp)) d2.1 d2.2) (by rfl)) pss_nil, ?_⟩
  exact ⟨y, rfl, .ref a, rfl, a, C, rfl, ox, hf, .inl ⟨ea, fun dx n ne => q dx n ne⟩⟩
end
section
variable {γ : GC} {T : TabL} {E : XK} {X : Cx} {gl : List D} {cf : Nat → List D → Res (D × List D)} {sc : Sc} {io : List Nat} {H : Hp} {O : OM}
theorem tabs_two {H1 : Hp} {a d : Addr} {o1 : HO} (h : LamX.Tabs T H1) (ha : H1 a = none) (hd : H1 d = none) (H2 : Hp) (hk : ∀ b, b ≠ a → b ≠ d → H2 b = H1 b) : LamX.Tabs T H2 := fun q hq => by
  obtain ⟨ps, h1, h2, h3⟩ := h q hq
  have ne : ∀ {b o}, H1 b = some o → H2 b = some o := fun {b o} e => by
    rw [hk b (fun z => by rw [z, ha] at e; cases e) (fun z => by rw [z, hd] at e; cases e)]
    exact e
  refine ⟨ps, ne h1, h2, fun pos cv hc => ?_⟩
  obtain ⟨c, e1, e2⟩ := h3 pos cv hc
  exact ⟨c, e1, ne e2⟩
theorem vr_scal {K K' : PySem.W.Frag} {H' : Hp} {O' : OM} {t t' : Tag} : ∀ {d : D} {v : V}, d.scal = true → VR γ K H O t d v → VR γ K' H' O' t' d v
  | .non, _, _, h => h
  | .bl _, _, _, h => h
  | .int _, _, _, h => h
  | .str _, _, _, h => h
theorem s_rai1 {k : Nat} {e : Mi.E} {x : Str} {xe : Expr} {f : Str} {p pos pos2 : Pos} (G : XG γ T E gl cf sc X) (OK : OexOk X.K X.mg (γ.xad k) x f) (ef : f = γ.xfl k) (hg : Gl X x) (hd : (x == ("__debug__" : Str)) = false) (hn : ∀ i, e ≠ .io i)
    (h : PE X xe (tE γ X.K T E (Mi.ev gl cf e) (mu e) (Mi.vw e))) (hs : notStar xe = true) : PS X (.Raise (some (.Call (.Name x p) [xe] [] pos)) none pos2) (tS γ X.K T E io (Mi.ex gl cf (.rai k [e]))) := by
  obtain ⟨kk, hr⟩ := G.room
  obtain ⟨fI, fd, nx, qual, s, z, st, F, S, B, iC, tI, hf, hb, d1, d2⟩ := OK.ex
  have F1 := init_ok (prog := X.prog) (w := X.w) (mg := X.mg) (base := X.base) OK.ox hf F S hb d1 d2
  have PK : PKs γ T E X gl cf [e] [xe] := .cons hn h (fun env => star_of hs env []) .nil
  refine PS.weak (ps_raise G.calm G.tk (pmk_oex (ds := []) (dvs := []) OK.ox iC tI F1 (hr.mono (by omega)) B .nil passL hg OK.gC (a_evs PK) hd (star_of hs X.env []) rfl)) fun DD σ H ⟨env, O, R, Tb, P⟩ => ?_
  refine ⟨env, O, R, Tb, ?_⟩
  have P : PoS γ X.K T E io H O σ ((Mi.evs gl cf [e] env).bind fun p => if p.1.all D.scal then .exc k p.1 else .stk) DD := by
    have : Mi.ex gl cf (.rai k [e]) env = (Mi.evs gl cf [e] env).bind fun p => if p.1.all D.scal then .exc k p.1 else .stk := by simp only [Mi.ex]
    rw [← this]
    exact P
  cases q : Mi.evs gl cf [e] env with
  | ok r =>
    obtain ⟨as, env1⟩ := r
    rw [q, bind_ok] at P
    intro vs H1 O1 p1 r1 a1 Tb1
    have a1 : AR γ X.K H1 O1 σ [e] as vs := a1
    have P : PoS γ X.K T E io H O σ (if as.all D.scal then .exc k as else .stk) DD := P
    split at P
    · rename_i hsc
      cases a1 with
      | io => exact absurd rfl (hn _)
      | @cons _ d v _ ds vs' _ ho hv a2 =>
        cases a2
        refine ⟨by simp, fun a ha => ⟨a, v, rfl, upd_same, fun dx hx hne => ⟨rfl, dx, [(f, v)], upd_same, ?_, ?_, ?_⟩⟩⟩
        · rw [upd_ne hne, upd_same]
        · rw [upd_ne hne] at hx
          exact hx
        · have hx1 : H1 dx = none := by
            rw [upd_ne hne] at hx
            exact hx
          have keep : ∀ b, b ≠ a → b ≠ dx → upd (del (upd (upd (upd H1 a (exo a (γ.xad k) none)) dx (exd dx [(f, v)])) a (exo a (γ.xad k) (some dx))) a) dx (.xd [(f, v)]) b = H1 b := fun b h1 h2 => by
            rw [upd_ne h2, del_ne h1, upd_ne h1, upd_ne h2, upd_ne h1]
          refine P _ _ _ (PstX.of (p1.pst R.od) fun b o e1 _ _ => ?_) ⟨rfl, .inr ⟨d, dx, v, rfl, rfl, by rw [← ef]; exact upd_same, ?_, ?_⟩⟩ (tabs_two (o1 := exo a (γ.xad k) none) Tb1 ha hx1 _ keep)
          · rw [keep b (fun z => by rw [z, ha] at e1; cases e1) (fun z => by rw [z, hx1] at e1; cases e1)]
            exact e1
          · simpa using hsc
          · exact vr_scal (by simpa using hsc) hv
    · exact P.elim
  | exc y as =>
    rw [q] at P
    exact P
  | stk =>
    rw [q] at P
    exact P
end
end MiS

set_option Elab.async false
set_option linter.all false
set_option maxRecDepth 100000
set_option maxHeartbeats 4000000
/-! MiS: the look at raise statements -/
namespace MiS
open PySem PySem.Spec PyProof.Rows L2
open Mi (D Res Fl)
def notIoE : Mi.E → Bool
  | .io _ => false
  | _ => true
def rzB (exs : List (Str × Option Str)) (sc : Sc) (k : Nat) (es : List Mi.E) (x : Expr) : Bool :=
  match exs[k]?, es, x with
  | some (y, none), [], .Call (.Name z _) [] [] _ => decide (y = z) && glB sc.sc z && !dbg z
  | some (y, some _), [e], .Call (.Name z _) [xe] [] _ => decide (y = z) && glB sc.sc z && !dbg z && chk sc false e xe && notStar xe && notIoE e
  | _, _, _ => false
/-- an own class without a field: its base is a built-in one -/
structure Ex0Ok (K : PySem.W.Frag) (mg : Str → Option Value) (C : Addr) (y : Str) : Prop where
  gC : mg y = some (.ref C)
  kC : PySem.W.keepIn K (.ref C) = true
  exC : PySem.W.subIn K (.ref C) (.type "BaseException") = some true
  tyC : PySem.W.typeIn K (.ref C) = some (.type "type")
  ba : ∃ B newId initId bmB, ExcBaseFacts B newId initId bmB ∧ PySem.W.excIn K C bmB newId = true
structure ExsOk (γ : GC) (K : PySem.W.Frag) (mg : Str → Option Value) (exs : List (Str × Option Str)) : Prop where
  e0 : ∀ k y, exs[k]? = some (y, none) → Ex0Ok K mg (γ.xad k) y
  e1 : ∀ k y f, exs[k]? = some (y, some f) → OexOk K mg (γ.xad k) y f ∧ f = γ.xfl k
theorem rz_ok {γ : GC} {T : TabL} {E : XK} {X : Cx} {gl : List D} {cf : Nat → List D → Res (D × List D)} {sc : Sc} {io : List Nat} {exs : List (Str × Option Str)} (G : XG γ T E gl cf sc X) (OK : ExsOk γ X.K X.mg exs) {k : Nat} {es : List Mi.E} {x : Expr} {pos : Pos}
    (h : rzB exs sc k es x = true) : PS X (.Raise (some x) none pos) (tS γ X.K T E io (Mi.ex gl cf (.rai k es))) := by
  unfold rzB at h
  split at h
  · rename_i y z p pos1 q
    obtain ⟨h, h3⟩ := and2 h
    obtain ⟨h1, h2⟩ := and2 h
    have h1 := of_decide_eq_true h1
    subst h1
    have O := OK.e0 _ _ q
    obtain ⟨B, n1, n2, bm, F, e⟩ := O.ba
    exact s_rai0 G.calm G.tk (pmk_own0 F e O.gC O.kC (raises_own O.exC O.tyC) (gl_of G h2) (dbg_of h3).1) rfl
  · rename_i y f e z p xe pos1 q
    obtain ⟨h, h6⟩ := and2 h
    obtain ⟨h, h5⟩ := and2 h
    obtain ⟨h, h4⟩ := and2 h
    obtain ⟨h, h3⟩ := and2 h
    obtain ⟨h1, h2⟩ := and2 h
    have h1 := of_decide_eq_true h1
    subst h1
    exact s_rai1 G (OK.e1 _ _ _ q).1 (OK.e1 _ _ _ q).2 (gl_of G h2) (dbg_of h3).1 (fun i z => by rw [z] at h6; cases h6) ((chk_ok e G false _ h4).1 rfl) h5
  · cases h
end MiS

set_option Elab.async false
set_option linter.all false
set_option maxRecDepth 100000
set_option maxHeartbeats 4000000
/-! MiS: a law's text, what is looked at, what follows -/
namespace MiS
open PySem PySem.Spec PyProof.Rows L2
open Mi (D Res Fl)
/-- one def: its name, its statement, its slots' names, what it is in the small language; lm: it makes lambdas; told: it is one that tells -/
structure DI where
  nm : Str
  st : Stmt
  N : List Str
  fn : Mi.Fn
  lm : Bool
  told : Option TSp
/-- an own exception class; its field, the __init__'s statement, its parameters -/
structure XI where
  nm : Str
  fld : Option (Str × Stmt × Str × Str)
structure LawT where
  defs : List DI
  nr : Nat
  gls : List (Str × Int)
  free : List Str
  xs : List XI
def DI.ps (d : DI) : List Str := (defArgs d.st).args.map (·.arg)
def DI.d (d : DI) : He.DefD := ⟨(d.nm, none), d.nm, d.nm, defArgs d.st, defBody d.st, defScope d.st, [], []⟩
def DI.F (d : DI) : Mi.Fn := match d.told with
  | some t => t.fn
  | none => d.fn
def XI.d (x : XI) : Option He.DefD := x.fld.map fun q => ⟨(x.nm, some "__init__"), "__init__", x.nm ++ ".__init__", defArgs q.2.1, defBody q.2.1, defScope q.2.1, [], []⟩
namespace LawT
variable (L : LawT) (K : PySem.W.Frag)
def P : List Mi.Fn := L.defs.map DI.F
def fns : List (Str × Nat × List Nat) := (L.defs.take L.nr).map fun d => (d.nm, d.F.np, d.F.io)
def tolds : List (Option Str) := L.defs.map fun d => d.told.map fun _ => d.nm
def glN : List (Option Str) := L.gls.map fun g => some g.1
def glD : List D := L.gls.map fun g => D.int g.2
def exs : List (Str × Option Str) := L.xs.map fun x => (x.nm, x.fld.map (·.1))
def xn : List Str := L.xs.map (·.nm)
def dn (f : Nat) : Str := ((L.defs[f]?).map (·.nm)).getD ""
def xnm (k : Nat) : Str := ((L.xs[k]?).map (·.nm)).getD ""
def xfl (k : Nat) : Str := (((L.xs[k]?).bind (·.fld)).map (·.1)).getD ""
def γ : GC := ⟨fun f => He.ga K (L.dn f), fun k => He.ga K (L.xnm k), L.xfl⟩
def fa : List He.Fa := (L.defs.map fun d => He.Fa.glo d.nm) ++ ((L.gls.map fun g => He.Fa.int g.1 g.2) ++ ((L.free.map fun x => He.Fa.free x) ++ L.xs.map fun x => He.Fa.glo x.nm))
def fn : List He.DefD := L.defs.map DI.d ++ L.xs.filterMap XI.d
def lmd : List DI := L.defs.filter (·.lm)
def tf : List He.Defn := L.lmd.map fun d => (d.nm, none)
def qlam (d : DI) : Str := (d.nm ++ ".<locals>.") ++ "<lambda>"
def T : TabL := L.lmd.map fun d => ((He.cT K (d.nm, none)).2, qlam d)
end LawT
def clsB (K : PySem.W.Frag) (C : Addr) : Bool := match K.lookup C with
  | some ⟨.type "type", _, .cls cd, sl⟩ => (match cd.mro, sl.toList with
    | .ref C' :: bm, [_, _, _, _, some (.builtin n), _] => decide (C' = C) && decide (n = "ValueError.__new__") && !cd.hasDel && cd.hasDict && PySem.HandSPX.refsVE bm
    | _, _ => false)
  | _ => false
theorem clsB_ok {K : PySem.W.Frag} {C : Addr} (h : clsB K C = true) : ∃ nm q N bs bm sn sub ab col dd k0 k1 k2 k3 k5, K.lookup C = some (excClassObj nm q C N bs bm true sn sub ab col dd k0 k1 k2 k3 k5 "ValueError.__new__") ∧ PySem.HandSPX.refsVE bm = true := by
  unfold clsB at h
  split at h
  · rename_i dd cd sl ho
    split at h
    · rename_i C' bm k0 k1 k2 k3 n k5 hm hs
      obtain ⟨h, h5⟩ := and2 h
      obtain ⟨h, h4⟩ := and2 h
      obtain ⟨h, h3⟩ := and2 h
      obtain ⟨h1, h2⟩ := and2 h
      have h1 := of_decide_eq_true h1
      have h2 := of_decide_eq_true h2
      subst h1 h2
      have h3 : cd.hasDel = false := by simpa using h3
      obtain ⟨a1, a2, a3, a4, a5, a6, a7, a8, a9, a10, a11⟩ := cd
      have hm : a3 = _ := hm
      have h4 : a6 = true := h4
      have h3 : a11 = false := h3
      subst hm h4 h3
      have es : sl = #[k0, k1, k2, k3, some (.builtin "ValueError.__new__"), k5] := by
        rw [← Array.toArray_toList (xs := sl), hs]
      subst es
      exact ⟨_, _, _, _, _, _, _, _, _, _, _, _, _, _, _, ho, h5⟩
    · cases h
  · cases h
def fldB (K : PySem.W.Frag) (x : Str) (f : Str) : Bool :=
  clsB K (He.ga K x) && decide (PySem.W.findIn K (.ref (He.ga K x)) "__setattr__" = some (some (.builtin "object.__setattr__"))) && decide (PySem.W.findIn K (.ref (He.ga K x)) "__init__" = some (some (.ref (He.ma K (He.ga K x) "__init__")))) &&
  decide (PySem.W.typeIn K (.ref (He.ma K (He.ga K x) "__init__")) = some (.type "function")) && decide (PySem.W.findIn K (.ref (He.ga K x)) f = some none) && xfB K (He.ga K x)
def xsB (K : PySem.W.Frag) (x : XI) : Bool :=
  PySem.W.keepIn K (.ref (He.ga K x.nm)) && decide (PySem.W.subIn K (.ref (He.ga K x.nm)) (.type "BaseException") = some true) && decide (PySem.W.typeIn K (.ref (He.ga K x.nm)) = some (.type "type")) && (match x.fld with
  | none => PySem.W.excIn K (He.ga K x.nm) He.veBase "ValueError.__new__"
  | some (f, _) => fldB K x.nm f)
def exmB (L : LawT) (K : PySem.W.Frag) (t : TSp) : Bool := t.hs.all fun h => t.hs.all fun g => g.xs.all fun x => decide (PySem.W.exmOne K (.ref (He.ga K (L.xnm x))) (.ref (He.ga K (L.xnm h.c))) = some (decide (x ∈ h.xs)))
/-- what is looked at in the written part -/
def LawT.ex (L : LawT) (K : PySem.W.Frag) : Bool :=
  (L.xs.all fun x => xsB K x) && (L.defs.all fun d => match d.told with
    | some t => exmB L K t
    | none => true) && L.lmd.all fun d => L.lmd.all fun e => decide (d.nm = e.nm) || !decide ((He.cT K (d.nm, none)).2 = (He.cT K (e.nm, none)).2)
/-! ### what is looked at in the text alone -/
def scB (N P : List Str) (sc : Scope) : Bool := decide (sc.kind = .function) && !sc.isCoroutine && !sc.isGenerator && decide N.Nodup && decide (N.take P.length = P) && (P.all fun x => decide (sc.names.lookup x = some .local) || decide (sc.names.lookup x = some .cell)) && sc.names.all fun y => !decide (y.2 = .free)
theorem scB_ok {N P : List Str} {sc : Scope} (h : scB N P sc = true) : FnScope N P sc := by
  unfold scB at h
  obtain ⟨h, h7⟩ := and2 h
  obtain ⟨h, h6⟩ := and2 h
  obtain ⟨h, h5⟩ := and2 h
  obtain ⟨h, h4⟩ := and2 h
  obtain ⟨h, h3⟩ := and2 h
  obtain ⟨h1, h2⟩ := and2 h
  exact ⟨of_decide_eq_true h1, by simpa using h2, by simpa using h3, of_decide_eq_true h4, of_decide_eq_true h5, fun x hx => by
    have := List.all_eq_true.mp h6 x hx
    simpa using this, fun y hy => by
    have := List.all_eq_true.mp h7 y hy
    simpa using this⟩
def lkB (L : LawT) (d : DI) : Bool := chkSs (rzB L.exs (scOf d.N (defScope d.st) L.fns L.glN L.free L.tolds d.lm)) (scOf d.N (defScope d.st) L.fns L.glN L.free L.tolds d.lm) d.F.io d.F.body (defBody d.st)
def realB (L : LawT) (d : DI) : Bool := d.told.isNone && scB d.N d.ps (defScope d.st) && decide (d.ps.length = d.F.np) && decide (d.N.length = d.F.ns) && decide (d.F.np ≤ d.F.ns) && decide (d.F.ns < tT) && (d.F.io.all fun i => decide (i < d.F.np))
def asB (L : LawT) (h : HSp) : Bool := match h.an with
  | .fld => (h.xs.all fun x => decide (x = h.c)) && (match L.xs[h.c]? with
    | some x => x.fld.isSome
    | none => false)
  | .sfld s => (h.xs.all fun x => decide (x = h.c)) && (match L.xs[h.c]? with
    | some x => x.fld.isSome
    | none => false) && PyData.strOk (mkS s)
  | _ => true
def toldOkB (L : LawT) (d : DI) : Bool := match d.told with
  | some t => scB d.N d.ps (defScope d.st) && decide (d.ps.length = t.np) && decide (d.N.length = 2) && decide (1 ≤ t.np) && decide (t.np ≤ 2) && toldB L.xn L.xfl d.N (defScope d.st) t (defBody d.st) && t.hs.all (asB L)
  | none => false
def initOkB (x : XI) : Bool := match x.fld with
  | some (f, st, s, z) => scB [s, z] [s, z] (defScope st) && (match defBody st with
    | [.Assign [.Attribute (.Name s' _) f' _] (.Name z' _) _] => decide (s' = s) && decide (f' = f) && decide (z' = z)
    | _ => false) && !dbg s && !dbg z
  | none => true
def LawT.ok (L : LawT) : Bool := (L.defs.take L.nr).all (realB L) && (L.defs.drop L.nr).all (toldOkB L) && L.xs.all initOkB
/-- how the arguments bind -/
def BD (st : Stmt) (ps : List Str) : Prop := ∀ (x qual : Str) (kV doc pm : Value) (an : Option Addr) (cdv ct : Value) (us : List Value), us.length = ps.length → bindArgs (PySem.W.fnOf x qual (defArgs st) (defBody st) (defScope st) .none kV doc pm an cdv ct) ⟨us, []⟩ = pure (ps.zip us)
def AllP {α : Type} (p : α → Prop) : List α → Prop
  | [] => True
  | a :: r => p a ∧ AllP p r
theorem AllP.at_ {α : Type} {p : α → Prop} : ∀ {l : List α}, AllP p l → ∀ a ∈ l, p a
  | [], _, _, h => by cases h
  | b :: r, ⟨h1, h2⟩, a, h => by
    rcases List.mem_cons.mp h with e | e
    · rw [e]
      exact h1
    · exact h2.at_ a e
def LawT.binds (L : LawT) : Prop := AllP (fun d => BD d.st d.ps) L.defs ∧ AllP (fun x => ∀ f st s z, x.fld = some (f, st, s, z) → BD st [s, z]) L.xs
def LawT.looks (L : LawT) : Prop := AllP (fun d => lkB L d = true) (L.defs.take L.nr)
end MiS

set_option Elab.async false
set_option linter.all false
set_option maxRecDepth 100000
set_option maxHeartbeats 4000000
/-! MiS: from what the head tells to each def's promise -/
namespace MiS
open PySem PySem.Spec PyProof.Rows L2
open Mi (D Res Fl)
theorem fun_of {K : PySem.W.Frag} {x q : Str} {st : Stmt} {kws : List (Str × V)} {f : Addr} {fd : FuncData} (F : FunD K x q (defArgs st) (defBody st) (defScope st) [] kws f fd) : Fun K x q st f fd := by
  obtain ⟨oc, od, dV, kV, doc, pm, an, cdv, ct, osl, e, lk, hcd, hD, _⟩ := F.ex
  rcases hD with ⟨_, ed⟩ | ⟨n, _⟩
  · subst ed
    exact ⟨⟨oc, od, kV, doc, pm, an, cdv, ct, osl, e, lk, hcd⟩, F.kp⟩
  · exact absurd rfl n
theorem binds_of {K : PySem.W.Frag} {x q : Str} {st : Stmt} {ps : List Str} {kws : List (Str × V)} {f : Addr} {fd : FuncData} (F : FunD K x q (defArgs st) (defBody st) (defScope st) [] kws f fd) (B : BD st ps) : L2.Binds K fd ps [] := fun s us _ hl => by
  rw [List.append_nil] at hl ⊢
  exact FunD.bindsA F (fun kV doc pm an cdv ct us hl => B x q kV doc pm an cdv ct us hl) s us hl
def fdAt (K : PySem.W.Frag) (a : Addr) : FuncData := match K.lookup a with
  | some ⟨_, _, .func fd, _⟩ => fd
  | _ => default
theorem fdAt_eq {K : PySem.W.Frag} {x q : Str} {st : Stmt} {f : Addr} {fd : FuncData} (F : Fun K x q st f fd) : fdAt K f = fd := by
  obtain ⟨oc, od, kV, doc, pm, an, cdv, ct, osl, e, lk, hcd⟩ := F.ex
  unfold fdAt
  rw [lk]
section
variable {L : LawT} {K : PySem.W.Frag} {mg : Str → Option Value} {h base : Heap} {w : World} {prog : Program}
def LawT.FD (L : LawT) (K : PySem.W.Frag) (f : Nat) : FuncData := fdAt K (He.ga K (L.dn f))
def LawT.PZ (L : LawT) (f : Nat) : List Str := ((L.defs[f]?).map DI.ps).getD []
def LawT.RD (L : LawT) (f : Nat) : Bool := decide (f < L.nr)
theorem dn_eq {f : Nat} {d : DI} (e : L.defs[f]? = some d) : L.dn f = d.nm := by
  unfold LawT.dn
  rw [e]
  rfl
theorem xnm_eq {k : Nat} {x : XI} (e : L.xs[k]? = some x) : L.xnm k = x.nm := by
  unfold LawT.xnm
  rw [e]
  rfl
theorem xfl_eq {k : Nat} {x : XI} {f s z : Str} {st : Stmt} (e : L.xs[k]? = some x) (ef : x.fld = some (f, st, s, z)) : L.xfl k = f := by
  unfold LawT.xfl
  simp only [e, Option.bind_some, ef] <;> rfl
theorem P_at {f : Nat} {fn : Mi.Fn} (e : L.P[f]? = some fn) : ∃ d, L.defs[f]? = some d ∧ d.F = fn := by
  unfold LawT.P at e
  rw [List.getElem?_map] at e
  cases q : L.defs[f]? with
  | none => rw [q] at e; cases e
  | some d =>
    rw [q] at e
    cases e
    exact ⟨d, rfl, rfl⟩
theorem P_of {f : Nat} {d : DI} (e : L.defs[f]? = some d) : L.P[f]? = some d.F := by
  unfold LawT.P
  rw [List.getElem?_map, e]
  rfl
variable (S : He.SaysX L.fa L.fn [] L.tf L.ex w h K) (X : K.In h) (G : h.Ns mainGlobals mg)
include S X G
theorem d_glo {d : DI} (hd : d ∈ L.defs) : mg d.nm = some (.ref (He.ga K d.nm)) :=
  He.glo_ok X G (S.t.d.facts (List.mem_append_left _ (List.mem_map.mpr ⟨d, hd, rfl⟩)))
theorem x_glo {x : XI} (hx : x ∈ L.xs) : mg x.nm = some (.ref (He.ga K x.nm)) :=
  He.glo_ok X G (S.t.d.facts (List.mem_append_right _ (List.mem_append_right _ (List.mem_append_right _ (List.mem_map.mpr ⟨x, hx, rfl⟩)))))
omit X G in
theorem d_fun {d : DI} (hd : d ∈ L.defs) : ∃ fd, FunD K d.nm d.nm (defArgs d.st) (defBody d.st) (defScope d.st) [] [] (He.ga K d.nm) fd :=
  S.t.d.defs (d := d.d) (List.mem_append_left _ (List.mem_map.mpr ⟨d, hd, rfl⟩))
omit X G in
theorem x_fun {x : XI} {f s z : Str} {st : Stmt} (hx : x ∈ L.xs) (e : x.fld = some (f, st, s, z)) : ∃ fd, FunD K "__init__" (x.nm ++ ".__init__") (defArgs st) (defBody st) (defScope st) [] [] (He.ma K (He.ga K x.nm) "__init__") fd := by
  have hm : (⟨(x.nm, some "__init__"), "__init__", x.nm ++ ".__init__", defArgs st, defBody st, defScope st, [], []⟩ : He.DefD) ∈ L.fn := by
    refine List.mem_append_right _ (List.mem_filterMap.mpr ⟨x, hx, ?_⟩)
    unfold XI.d
    rw [e]
    rfl
  exact S.t.d.defs hm
omit X G in
theorem x_ex {x : XI} (hx : x ∈ L.xs) : xsB K x = true := by
  have := S.more
  unfold LawT.ex at this
  exact List.all_eq_true.mp (and2 (and2 this).1).1 x hx
omit X G in
theorem t_ex {d : DI} {t : TSp} (hd : d ∈ L.defs) (e : d.told = some t) : exmB L K t = true := by
  have := S.more
  unfold LawT.ex at this
  have := List.all_eq_true.mp (and2 (and2 this).1).2 d hd
  rw [e] at this
  exact this
omit X G in
theorem l_ex {d e : DI} (hd : d ∈ L.lmd) (he : e ∈ L.lmd) : d.nm = e.nm ∨ ¬ (He.cT K (d.nm, none)).2 = (He.cT K (e.nm, none)).2 := by
  have := S.more
  unfold LawT.ex at this
  have := List.all_eq_true.mp (List.all_eq_true.mp (and2 this).2 d hd) e he
  rcases Bool.or_eq_true_iff.mp this with q | q
  · exact .inl (of_decide_eq_true q)
  · exact .inr (by simpa using q)
theorem exs_ok (ok : L.ok = true) (BX : L.binds) : ExsOk (L.γ K) K mg L.exs where
  e0 := fun k y e => by
    unfold LawT.exs at e
    rw [List.getElem?_map] at e
    cases q : L.xs[k]? with
    | none => rw [q] at e; cases e
    | some x =>
      rw [q] at e
      have e : some (x.nm, x.fld.map (·.1)) = some (y, none) := e
      injection e with e
      injection e with e1 e2
      subst e1
      have hx := List.mem_of_getElem? q
      have B := x_ex S hx
      unfold xsB at B
      obtain ⟨B, b4⟩ := and2 B
      obtain ⟨B, b3⟩ := and2 B
      obtain ⟨b1, b2⟩ := and2 B
      have ea : (L.γ K).xad k = He.ga K x.nm := by
        show He.ga K (L.xnm k) = _
        rw [xnm_eq q]
      rw [ea]
      have hf : x.fld = none := by
        cases qf : x.fld with
        | none => rfl
        | some z => rw [qf] at e2; cases e2
      rw [hf] at b4
      exact ⟨x_glo S X G hx, b1, of_decide_eq_true b2, of_decide_eq_true b3, _, _, _, _, PySem.F.excBase_ValueError, b4⟩
  e1 := fun k y f e => by
    unfold LawT.exs at e
    rw [List.getElem?_map] at e
    cases q : L.xs[k]? with
    | none => rw [q] at e; cases e
    | some x =>
      rw [q] at e
      have e : some (x.nm, x.fld.map (·.1)) = some (y, some f) := e
      injection e with e
      injection e with e1 e2
      subst e1
      have hx := List.mem_of_getElem? q
      have B := x_ex S hx
      unfold xsB at B
      obtain ⟨B, b4⟩ := and2 B
      obtain ⟨B, b3⟩ := and2 B
      obtain ⟨b1, b2⟩ := and2 B
      have ea : (L.γ K).xad k = He.ga K x.nm := by
        show He.ga K (L.xnm k) = _
        rw [xnm_eq q]
      rw [ea]
      cases qf : x.fld with
      | none => rw [qf] at e2; cases e2
      | some z =>
        obtain ⟨f', st, s, zz⟩ := z
        rw [qf] at e2 b4
        have e2 : some f' = some f := e2
        cases e2
        have b4 : fldB K x.nm f = true := b4
        unfold fldB at b4
        obtain ⟨b4, c6⟩ := and2 b4
        obtain ⟨b4, c5⟩ := and2 b4
        obtain ⟨b4, c4⟩ := and2 b4
        obtain ⟨b4, c3⟩ := and2 b4
        obtain ⟨c1, c2⟩ := and2 b4
        obtain ⟨fd, F⟩ := x_fun S hx qf
        have io : initOkB x = true := by
          unfold LawT.ok at ok
          exact List.all_eq_true.mp (and2 ok).2 x hx
        unfold initOkB at io
        rw [qf] at io
        obtain ⟨io, d4⟩ := and2 io
        obtain ⟨io, d3⟩ := and2 io
        obtain ⟨d1, d2⟩ := and2 io
        refine ⟨⟨⟨clsB_ok c1, of_decide_eq_true c2, of_decide_eq_true b2, of_decide_eq_true b3, b1⟩, x_glo S X G hx, He.ma K (He.ga K x.nm) "__init__", fd, _, _, s, zz, st, fun_of F, scB_ok d1, binds_of F (BX.2.at_ x hx _ _ _ _ qf), of_decide_eq_true c3, of_decide_eq_true c4, of_decide_eq_true c5, ?_, by simpa using d3, by simpa using d4⟩, ?_⟩
        · split at d2
          · rename_i s' p1 f' p2 z' p3 p4 hb
            obtain ⟨d2, g3⟩ := and2 d2
            obtain ⟨g1, g2⟩ := and2 d2
            have g1 := of_decide_eq_true g1
            have g2 := of_decide_eq_true g2
            have g3 := of_decide_eq_true g3
            subst g1 g2 g3
            exact ⟨_, _, _, _, hb⟩
          · cases d2
        · exact (xfl_eq q qf).symm
theorem cl_ok {d : DI} {t : TSp} (hd : d ∈ L.defs) (e : d.told = some t) (hb : toldOkB L d = true) : ClOk (L.γ K) K mg L.xn t where
  nm := fun k y e => by
    unfold LawT.xn at e
    rw [List.getElem?_map] at e
    cases q : L.xs[k]? with
    | none => rw [q] at e; cases e
    | some x =>
      rw [q] at e
      cases e
      have ea : (L.γ K).xad k = He.ga K x.nm := by
        show He.ga K (L.xnm k) = _
        rw [xnm_eq q]
      rw [ea]
      exact x_glo S X G (List.mem_of_getElem? q)
  sub := fun h hh g hg x hx => by
    have B := t_ex S hd e
    unfold exmB at B
    exact of_decide_eq_true (List.all_eq_true.mp (List.all_eq_true.mp (List.all_eq_true.mp B h hh) g hg) x hx)
  as1 := fun h hh ha => by
    unfold toldOkB at hb
    rw [e] at hb
    have hb := List.all_eq_true.mp (and2 hb).2 h hh
    have main : ((h.xs.all fun x => decide (x = h.c)) && (match L.xs[h.c]? with
      | some x => x.fld.isSome
      | none => false)) = true → (∀ x ∈ h.xs, x = h.c) ∧ XfC K ((L.γ K).xad h.c) ∧ PySem.W.findIn K (.ref ((L.γ K).xad h.c)) ((L.γ K).xfl h.c) = some none := fun hb => by
      obtain ⟨h1, h2⟩ := and2 hb
      refine ⟨fun x hx => of_decide_eq_true (List.all_eq_true.mp h1 x hx), ?_⟩
      cases q : L.xs[h.c]? with
      | none => rw [q] at h2; cases h2
      | some x =>
        rw [q] at h2
        have h2 : x.fld.isSome = true := h2
        have hx := List.mem_of_getElem? q
        have B := x_ex S hx
        unfold xsB at B
        have b4 := (and2 B).2
        have ea : (L.γ K).xad h.c = He.ga K x.nm := by
          show He.ga K (L.xnm h.c) = _
          rw [xnm_eq q]
        rw [ea]
        cases qf : x.fld with
        | none => rw [qf] at h2; cases h2
        | some z =>
          obtain ⟨f', st, s, zz⟩ := z
          rw [qf] at b4
          have b4 : fldB K x.nm f' = true := b4
          unfold fldB at b4
          obtain ⟨b4, c6⟩ := and2 b4
          obtain ⟨b4, c5⟩ := and2 b4
          refine ⟨xfB_ok c6, ?_⟩
          rw [show (L.γ K).xfl h.c = f' from xfl_eq q qf]
          exact of_decide_eq_true c5
    unfold asB at hb
    cases qa : h.an with
    | fld =>
      rw [qa] at hb
      exact main hb
    | sfld s =>
      rw [qa] at hb
      exact main (and2 hb).1
    | non => rw [qa] at ha; cases ha
    | eqn s => rw [qa] at ha; cases ha
  so := fun h hh s ha => by
    unfold toldOkB at hb
    rw [e] at hb
    have hb := List.all_eq_true.mp (and2 hb).2 h hh
    unfold asB at hb
    rw [ha] at hb
    exact (and2 hb).2
theorem told_ok {f : Nat} {d : DI} {t : TSp} (q : L.defs[f]? = some d) (e : d.told = some t) (hb : toldOkB L d = true) (bd : BD d.st d.ps) : ToldOk (L.γ K) K mg L.xn d.nm f t := by
  have hd := List.mem_of_getElem? q
  have ea : (L.γ K).fad f = He.ga K d.nm := by
    show He.ga K (L.dn f) = _
    rw [dn_eq q]
  have hb' := hb
  unfold toldOkB at hb
  rw [e] at hb
  obtain ⟨hb, h7⟩ := and2 hb
  obtain ⟨hb, h6⟩ := and2 hb
  obtain ⟨hb, h5⟩ := and2 hb
  obtain ⟨hb, h4⟩ := and2 hb
  obtain ⟨hb, h3⟩ := and2 hb
  obtain ⟨h1, h2⟩ := and2 hb
  obtain ⟨fd, F⟩ := d_fun S hd
  refine ⟨?_, ?_, ⟨fd, d.nm, d.nm, d.st, d.N, d.ps, ?_, scB_ok h1, binds_of F bd, of_decide_eq_true h2, of_decide_eq_true h3, h6⟩, ⟨of_decide_eq_true h4, of_decide_eq_true h5⟩, cl_ok S X G hd e hb'⟩
  · rw [ea]
    exact d_glo S X G hd
  · rw [ea]
    exact F.kp
  · rw [ea]
    exact fun_of F
theorem mod_ok (ok : L.ok = true) (BX : L.binds) : ModOk (L.γ K) K mg L.glD L.fns L.glN L.free L.tolds L.P (L.FD K) L.PZ L.RD where
  free := fun x hx => He.free_ok X G (S.t.d.facts (List.mem_append_right _ (List.mem_append_right _ (List.mem_append_left _ (List.mem_map.mpr ⟨x, hx, rfl⟩)))))
  gls := fun i y e => by
    unfold LawT.glN at e
    rw [List.getElem?_map] at e
    cases q : L.gls[i]? with
    | none => rw [q] at e; cases e
    | some g =>
      rw [q] at e
      cases e
      obtain ⟨t, ht⟩ := He.int_ok X G (S.t.d.facts (f := .int g.1 g.2) (List.mem_append_right _ (List.mem_append_left _ (List.mem_map.mpr ⟨g, List.mem_of_getElem? q, rfl⟩))))
      refine ⟨_, .int g.2, .int g.2, ?_, ht, ⟨t, rfl⟩, fun H O => rfl⟩
      unfold LawT.glD
      rw [List.getElem?_map, q]
      rfl
  fns := fun f y np io e => by
    unfold LawT.fns at e
    rw [List.getElem?_map] at e
    cases q : (L.defs.take L.nr)[f]? with
    | none => rw [q] at e; cases e
    | some d =>
      rw [q] at e
      have e : some (d.nm, d.F.np, d.F.io) = some (y, np, io) := e
      cases e
      have hf : f < L.nr := by
        have := (List.getElem?_eq_some_iff.mp q).1
        rw [List.length_take] at this
        omega
      have q2 : L.defs[f]? = some d := by
        rw [List.getElem?_take, if_pos hf] at q
        exact q
      have hd := List.mem_of_getElem? q2
      obtain ⟨fd, F⟩ := d_fun S hd
      have ea : (L.γ K).fad f = He.ga K d.nm := by
        show He.ga K (L.dn f) = _
        rw [dn_eq q2]
      have ef : L.FD K f = fd := by
        unfold LawT.FD
        rw [dn_eq q2]
        exact fdAt_eq (fun_of F)
      have ep : L.PZ f = d.ps := by
        unfold LawT.PZ
        rw [q2]
        rfl
      rw [ea, ef, ep]
      exact ⟨d_glo S X G hd, F.kp, binds_of F (BX.1.at_ d hd), d.F, P_of q2, rfl, rfl, decide_eq_true hf⟩
  len := fun f fn e hr => by
    obtain ⟨d, q, ed⟩ := P_at e
    have ep : L.PZ f = d.ps := by
      unfold LawT.PZ
      rw [q]
      rfl
    rw [ep, ← ed]
    have hf : f < L.nr := of_decide_eq_true hr
    unfold LawT.ok at ok
    have hm : d ∈ L.defs.take L.nr := List.mem_of_getElem? (i := f) (by rw [List.getElem?_take, if_pos hf]; exact q)
    have := List.all_eq_true.mp (and2 (and2 ok).1).1 d hm
    unfold realB at this
    exact of_decide_eq_true (and2 (and2 (and2 (and2 (and2 this).1).1).1).1).2
  told := fun f y e => by
    unfold LawT.tolds at e
    rw [List.getElem?_map] at e
    cases q : L.defs[f]? with
    | none => rw [q] at e; cases e
    | some d =>
      rw [q] at e
      have e : some (d.told.map fun _ => d.nm) = some (some y) := e
      cases qt : d.told with
      | none => rw [qt] at e; cases e
      | some t =>
        rw [qt] at e
        cases e
        have hd := List.mem_of_getElem? q
        have hb : toldOkB L d = true := by
          unfold LawT.ok at ok
          by_cases hf : f < L.nr
          · have hm : d ∈ L.defs.take L.nr := List.mem_of_getElem? (i := f) (by rw [List.getElem?_take, if_pos hf]; exact q)
            have := List.all_eq_true.mp (and2 (and2 ok).1).1 d hm
            unfold realB at this
            have := (and2 (and2 (and2 (and2 (and2 (and2 this).1).1).1).1).1).1
            rw [qt] at this
            cases this
          · have hm : d ∈ L.defs.drop L.nr := List.mem_of_getElem? (i := f - L.nr) (by rw [List.getElem?_drop, show L.nr + (f - L.nr) = f by omega]; exact q)
            exact List.all_eq_true.mp (and2 (and2 ok).1).2 d hm
        refine ⟨t, L.xn, told_ok S X G q qt hb (BX.1.at_ d hd), ?_⟩
        rw [P_of q]
        unfold DI.F
        rw [qt]
end
end MiS

set_option Elab.async false
set_option linter.all false
set_option maxRecDepth 100000
set_option maxHeartbeats 4000000
/-! MiS: the law's own call -/
namespace MiS
open PySem PySem.Spec PyProof.Rows L2
open Mi (D Res Fl)
section
variable {L : LawT} {K : PySem.W.Frag} {mg : Str → Option Value} {h base : Heap} {w : World} {prog : Program}
theorem def_ok (S : He.SaysX L.fa L.fn [] L.tf L.ex w h K) (ok : L.ok = true) (LK : L.looks) (TB : ∀ p ∈ L.tf.map (He.cT K), LamX.TabB base mg p.1 p.2) {f : Nat} {d : DI} (q : L.defs[f]? = some d) (hf : f < L.nr) :
    DefOk prog K mg base (L.T K) L.fns L.glN L.free L.tolds (rzB L.exs) ((L.γ K).fad f) (L.FD K f) (L.PZ f) d.F := by
  have hd := List.mem_of_getElem? q
  have hm : d ∈ L.defs.take L.nr := List.mem_of_getElem? (i := f) (by rw [List.getElem?_take, if_pos hf]; exact q)
  have hr : realB L d = true := by
    unfold LawT.ok at ok
    exact List.all_eq_true.mp (and2 (and2 ok).1).1 d hm
  unfold realB at hr
  obtain ⟨hr, r7⟩ := and2 hr
  obtain ⟨hr, r6⟩ := and2 hr
  obtain ⟨hr, r5⟩ := and2 hr
  obtain ⟨hr, r4⟩ := and2 hr
  obtain ⟨hr, r3⟩ := and2 hr
  obtain ⟨r1, r2⟩ := and2 hr
  obtain ⟨fd, F⟩ := d_fun S hd
  have ea : (L.γ K).fad f = He.ga K d.nm := by
    show He.ga K (L.dn f) = _
    rw [dn_eq q]
  have ef : L.FD K f = fd := by
    unfold LawT.FD
    rw [dn_eq q]
    exact fdAt_eq (fun_of F)
  have ep : L.PZ f = d.ps := by
    unfold LawT.PZ
    rw [q]
    rfl
  rw [ea, ef, ep]
  refine ⟨d.lm, d.nm, d.nm, d.st, d.N, fun_of F, scB_ok r2, of_decide_eq_true r3, of_decide_eq_true r4, of_decide_eq_true r5, of_decide_eq_true r6, fun i hi => of_decide_eq_true (List.all_eq_true.mp r7 i hi), LK.at_ d hm, fun hl => ?_⟩
  have hlm : d ∈ L.lmd := List.mem_filter.mpr ⟨hd, hl⟩
  obtain ⟨oc, od, kV, doc, pm, an, cdv, ct, osl, e, lk, hcd⟩ := (fun_of F).ex
  obtain ⟨c, ec⟩ := He.codeIn_ref hcd
  have e1 : fd.code = .ref c := by
    rw [e, ← ec]
  have e2 := He.codeOf_eq (p := (d.nm, none)) lk e1
  refine ⟨c, (He.cT K (d.nm, none)).2, e1, ?_, List.mem_map.mpr ⟨d, hlm, rfl⟩, fun p hp ep => ?_⟩
  · have := TB (He.cT K (d.nm, none)) (List.mem_map.mpr ⟨(d.nm, none), List.mem_map.mpr ⟨d, hlm, rfl⟩, rfl⟩)
    rw [← e2]
    exact this
  · obtain ⟨g, hg, rfl⟩ := List.mem_map.mp hp
    rcases l_ex S hg hlm with z | z
    · show LawT.qlam g = LawT.qlam d
      unfold LawT.qlam
      rw [z]
    · exact absurd ep z
theorem all_def (S : He.SaysX L.fa L.fn [] L.tf L.ex w h K) (X : K.In h) (G : h.Ns mainGlobals mg) (ok : L.ok = true) (BX : L.binds) (LK : L.looks) (TB : ∀ p ∈ L.tf.map (He.cT K), LamX.TabB base mg p.1 p.2) : ∀ n, AllOk prog w K mg base (L.γ K) (L.T K) L.glD L.P (L.FD K) L.PZ L.RD n :=
  all_ok (mod_ok S X G ok BX) fun f fn hf hr => by
    obtain ⟨d, q, ed⟩ := P_at hf
    rw [← ed] at hf ⊢
    have hf2 : f < L.nr := of_decide_eq_true hr
    refine step_look (mod_ok S X G ok BX) hf (def_ok S ok LK TB q hf2) fun E cf sc X' io e1 e2 e3 e4 G' hk k es x pos hz => ?_
    have EO := exs_ok S X G ok BX
    generalize hγ : L.γ K = γ at EO G' ⊢
    rw [← e3, ← e4] at EO
    exact rz_ok G' EO hz
theorem law_at {l : PySem.W.OpenLaw} (ok : L.ok = true) (BX : L.binds) (LK : L.looks) {m n k li : Nat} {d : DI} {x : Str} {fa : Addr} (q : L.defs[li]? = some d) (hli : li < L.nr) (hnp : d.F.np = 1) (hio : d.F.io = []) (hps : d.ps = [x]) (hk : 3 * n + 3 ≤ k)
    (pure_ : ∀ ns : List Int, ns.length ≤ 63 → (∀ z ∈ ns, Builtin.Int.intBits z ≤ 1048576) → ∃ outs, Mi.runF L.glD L.P n li [.scr ns] = .ok (.bl true, outs)) (Y : (He.hookX m L.fa L.fn [] L.tf L.ex).says w h) (G : h.Ns mainGlobals mg) (hmg : mg d.nm = some (.ref fa)) :
    ∃ K, K.In h ∧ LamX.LawAtS l w K (L2.CX l.prog w) k 63 x mg fa h := by
  obtain ⟨K, X, S⟩ := Y
  have hd := List.mem_of_getElem? q
  have efa := hmg.symm.trans (d_glo S X G hd)
  have ea : (L.γ K).fad li = He.ga K d.nm := by
    show He.ga K (L.dn li) = _
    rw [dn_eq q]
  have ep : L.PZ li = d.ps := by
    unfold LawT.PZ
    rw [q]
    rfl
  have efa : fa = He.ga K d.nm := by
    injection efa with efa
    injection efa
  obtain ⟨fd, F⟩ := d_fun S hd
  have ef : L.FD K li = fd := by
    unfold LawT.FD
    rw [dn_eq q]
    exact fdAt_eq (fun_of F)
  have Bd := binds_of F (BX.1.at_ d hd)
  refine ⟨K, X, fd, L.tf.map (He.cT K), spF (L.γ K) K (L.T K) 1 [] (Mi.runF L.glD L.P n li), fun p hp => ?_, fun p hp => ?_, fun p hp => ?_, fun s u => ?_, fun H a ns hl hb hT hS => ?_, fun base KB NB TB => ?_⟩
  · obtain ⟨p, hp', rfl⟩ := List.mem_map.mp hp
    exact S.empty p hp'
  · obtain ⟨p, hp', rfl⟩ := List.mem_map.mp hp
    exact S.out p hp'
  · obtain ⟨p, hp', rfl⟩ := List.mem_map.mp hp
    exact PySem.W.codeHd_of_K X (S.hd p hp')
  · have := binds_of F (BX.1.at_ d hd)
    have := FunD.bindsA F (fun kV doc pm an cdv ct us hl => BX.1.at_ d hd d.nm d.nm kV doc pm an cdv ct us hl) s [u] (by rw [hps]; rfl)
    rw [hps] at this
    exact this
  · obtain ⟨outs, e⟩ := pure_ ns hl hb
    refine ⟨rfl, O0, [.scr ns], ⟨fun a t h => (nomatch (show none = some t from h)), fun p hp => ?_, fun a t h => (nomatch (show none = some t from h)), ⟨.ref a, [], rfl, ⟨a, rfl, ?_⟩, fun _ => rfl, rfl⟩, ?_⟩⟩
    · obtain ⟨g, hg, rfl⟩ := List.mem_map.mp hp
      exact LamX.TabS.nil (hT (He.cT K (g.nm, none)) (List.mem_map.mpr ⟨(g.nm, none), List.mem_map.mpr ⟨g, hg, rfl⟩, rfl⟩))
    · rcases hS with z | z
      · exact .inl ⟨z, rfl⟩
      · exact .inr fun H => .inr z
    · rw [e]
      intro v H' O' _ _ hv _ _
      exact hv
  · have A := all_def (prog := l.prog) S X G ok BX LK TB n li d.F (P_of q) (decide_eq_true hli) k hk
    rw [ea, ef, ep, hps, ← efa, hnp, hio] at A
    exact A
end
theorem cx_end {P : Program} {w : World} (H : Hp) (s : Shared) (e : Value) (s' : Shared) (h : L2.CX P w [] H s (fun _ _ _ => False) e s') : False := by
  obtain ⟨_, _, _, _, _, _, _, _, _, _, _, _, z⟩ := h
  exact z
end MiS

set_option Elab.async false
set_option linter.all false
set_option maxRecDepth 100000
set_option maxHeartbeats 4000000
/-! Pl: the draws of the laws, plainly -/
namespace Pl
open Mi
def fnPot : Fn := ⟨1, 2, [],
  [.ret (.lst [.lc [1] (.bi .abs [.v 1]) (.v 1) (.seq (.sl (.v 0) none (some (.c (.int 63))))) none [], .c (.int 0), .c (.int 20011), .c (.int 0)])]⟩
def fnDraw : Fn := ⟨2, 4, [0],
  [.ite (.cmp (.v 1) [.lt] [.c (.int 2)])
    [.ret (.c (.int 0))]
    [],
   .ite (.cmp (.ix (.v 0) (.c (.int 3))) [.gt] [.c (.int 0)])
    [.set (.v 3) (.bin .mod (.bi .int [.ix (.v 0) (.c (.int 3))]) (.v 1)),
     .six (.v 0) (.c (.int 3)) (.bin .fdiv (.ix (.v 0) (.c (.int 3))) (.v 1)),
     .ret (.v 3)]
    [],
   .set (.v 2) (.c (.int 0)),
   .ite (.cmp (.ix (.v 0) (.c (.int 1))) [.lt] [.bi .len [.ix (.v 0) (.c (.int 0))]])
    [.set (.v 2) (.ix (.ix (.v 0) (.c (.int 0))) (.ix (.v 0) (.c (.int 1)))),
     .six (.v 0) (.c (.int 1)) (.bin .add (.ix (.v 0) (.c (.int 1))) (.c (.int 1))),
     .ite (.cmp (.v 2) [.ge] [.bin .pow (.c (.int 10)) (.c (.int 18))])
      [.six (.v 0) (.c (.int 3)) (.bin .fdiv (.v 2) (.v 1)),
       .ret (.bin .mod (.bi .int [.v 2]) (.v 1))]
      []]
    [],
   .six (.v 0) (.c (.int 2)) (.bin .mod (.bi .int [.bin .add (.bin .add (.bin .mul (.ix (.v 0) (.c (.int 2))) (.c (.int 48271))) (.v 2)) (.c (.int 12345))]) (.c (.int 2147483647))),
   .ret (.bin .mod (.bi .int [.bin .add (.bin .fdiv (.bin .mul (.ix (.v 0) (.c (.int 2))) (.ix (.v 0) (.c (.int 2)))) (.c (.int 64))) (.bin .fdiv (.ix (.v 0) (.c (.int 2))) (.c (.int 7)))]) (.v 1))]⟩
/-- a pot -/
def potD (cs : List Int) (i s r : Int) : D := .lst true [.lst false (cs.map D.int), .int i, .int s, .int r]
structure PotOk (cs : List Int) (i s r : Int) : Prop where
  i0 : 0 ≤ i
  s0 : 0 ≤ s
  s1 : s < 2147483647
section
variable {gl : List D} {cf : Nat → List D → Res (D × List D)} {cs : List Int} {i s r m : Int}
theorem small_of (h0 : 0 ≤ s) (h1 : s < 2147483647) : smallI s = true := by
  unfold smallI big
  simp only [Bool.and_eq_true, decide_eq_true_eq]
  omega
theorem draw_lt (h : m < 2) : (exs gl cf fnDraw.body [some (potD cs i s r), some (.int m), none, none]).bind (outF fnDraw) = .ok (.int 0, [potD cs i s r]) := by
  simp [fnDraw, exs, ex, ev, evc, getV, Res.bind, Res.of, cmpD, tB, h, move, vw, outF, getVs, potD]
theorem log_ok {m : Int} (h : 2 ≤ m) (hm : m ≤ 10000000000000000000000000000000000000000) : m.natAbs.log2 < 9000 := by
  have h0 : m.natAbs ≠ 0 := by omega
  rw [Nat.log2_lt h0]
  have : m.natAbs < 2 ^ 140 := by
    have : (2 : Nat) ^ 140 = 1393796574908163946345982392040522594123776 := by decide
    omega
  exact Nat.lt_of_lt_of_le this (Nat.pow_le_pow_right (by decide) (by decide))
theorem draw_r (h : 2 ≤ m) (hm : m ≤ 10000000000000000000000000000000000000000) (hr : 0 < r) : (exs gl cf fnDraw.body [some (potD cs i s r), some (.int m), none, none]).bind (outF fnDraw) = .ok (.int (r % m), [potD cs i s (r / m)]) := by
  have h1 : ¬ m < 2 := by omega
  have h2 : 0 < m := by omega
  have h3 := log_ok h hm
  simp [fnDraw, exs, ex, ev, evc, evb, getV, Res.bind, Res.of, cmpD, tB, h1, h2, h3, move, vw, outF, getVs, potD, ixD, ixN, hr, biD, binD, keep, D.fz, D.fz1, D.own, getPa, setPa, setD, setV, asg]
def nextS (s c : Int) : Int := (s * 48271 + c + 12345) % 2147483647
def outS (s m : Int) : Int := (s * s / 64 + s / 7) % m
theorem next_ok (s c : Int) : 0 ≤ nextS s c ∧ nextS s c < 2147483647 := ⟨Int.emod_nonneg _ (by decide), Int.emod_lt_of_pos _ (by decide)⟩
theorem draw_end (hi : 0 ≤ i) (hs : PotOk cs i s r) (h : 2 ≤ m) (hm : m ≤ 10000000000000000000000000000000000000000) (hr : ¬ 0 < r) (hl : ¬ i < cs.length) : (exs gl cf fnDraw.body [some (potD cs i s r), some (.int m), none, none]).bind (outF fnDraw) = .ok (.int (outS (nextS s 0) m), [potD cs i (nextS s 0) r]) := by
  have h1 : ¬ m < 2 := by omega
  have h2 : 0 < m := by omega
  have n1 := next_ok s 0
  have n2 := small_of n1.1 n1.2
  have n3 := small_of hs.s0 hs.s1
  unfold nextS at n2
  simp only [Int.add_zero] at n2
  have l64 : Nat.log2 64 < 9000 := by decide
  have l7 : Nat.log2 7 < 9000 := by decide
  simp [fnDraw, exs, ex, ev, evc, evb, getV, Res.bind, Res.of, cmpD, tB, h1, h2, move, vw, outF, getVs, potD, ixD, ixN, hr, biD, binD, keep, D.fz, D.fz1, D.own, getPa, setPa, setD, setV, asg, hl, n2, n3, nextS, outS, l64, l7]
theorem draw_far (hs : PotOk cs i s r) (h : 2 ≤ m) (hm : m ≤ 10000000000000000000000000000000000000000) (hr : ¬ 0 < r) (hl : i < cs.length) {c : Int} (hc : cs[i.toNat]? = some c) (hf : 10 ^ 18 ≤ c) : (exs gl cf fnDraw.body [some (potD cs i s r), some (.int m), none, none]).bind (outF fnDraw) = .ok (.int (c % m), [potD cs (i + 1) s (c / m)]) := by
  have h1 : ¬ m < 2 := by omega
  have h2 : 0 < m := by omega
  have h3 := log_ok h hm
  have h0 := hs.i0
  obtain ⟨hx, rfl⟩ := List.getElem?_eq_some_iff.mp hc
  have hf : 1000000000000000000 ≤ cs[i.toNat] := hf
  simp [fnDraw, exs, ex, ev, evc, evb, getV, Res.bind, Res.of, cmpD, tB, h1, h2, h3, move, vw, outF, getVs, potD, ixD, ixN, hr, biD, binD, keep, D.fz, D.fz1, D.own, getPa, setPa, setD, setV, asg, hl, h0, hx, hf]
theorem draw_near (hs : PotOk cs i s r) (h : 2 ≤ m) (hm : m ≤ 10000000000000000000000000000000000000000) (hr : ¬ 0 < r) (hl : i < cs.length) {c : Int} (hc : cs[i.toNat]? = some c) (hf : ¬ 10 ^ 18 ≤ c) : (exs gl cf fnDraw.body [some (potD cs i s r), some (.int m), none, none]).bind (outF fnDraw) = .ok (.int (outS (nextS s c) m), [potD cs (i + 1) (nextS s c) r]) := by
  have h1 : ¬ m < 2 := by omega
  have h2 : 0 < m := by omega
  have h0 := hs.i0
  have n1 := next_ok s c
  have n2 := small_of n1.1 n1.2
  have n3 := small_of hs.s0 hs.s1
  unfold nextS at n2
  have l64 : Nat.log2 64 < 9000 := by decide
  have l7 : Nat.log2 7 < 9000 := by decide
  obtain ⟨hx, rfl⟩ := List.getElem?_eq_some_iff.mp hc
  have hf : ¬ 1000000000000000000 ≤ cs[i.toNat] := hf
  simp [fnDraw, exs, ex, ev, evc, evb, getV, Res.bind, Res.of, cmpD, tB, h1, h2, move, vw, outF, getVs, potD, ixD, ixN, hr, biD, binD, keep, D.fz, D.fz1, D.own, getPa, setPa, setD, setV, asg, hl, h0, hx, hf, n2, n3, nextS, outS, l64, l7]
/-- a draw below m (0 if m < 2) -/
theorem draw_ok (hs : PotOk cs i s r) (hm : m ≤ 10000000000000000000000000000000000000000) : ∃ d i' s' r', (exs gl cf fnDraw.body [some (potD cs i s r), some (.int m), none, none]).bind (outF fnDraw) = .ok (.int d, [potD cs i' s' r']) ∧ PotOk cs i' s' r' ∧ 0 ≤ d ∧ (2 ≤ m → d < m) ∧ (m < 2 → d = 0) := by
  by_cases h : m < 2
  · exact ⟨0, i, s, r, draw_lt h, hs, Int.le_refl _, fun _ => by omega, fun _ => rfl⟩
  · have h2 : 2 ≤ m := by omega
    have md : ∀ x : Int, 0 ≤ x % m ∧ x % m < m := fun x => ⟨Int.emod_nonneg _ (by omega), Int.emod_lt_of_pos _ (by omega)⟩
    by_cases hr : 0 < r
    · exact ⟨_, i, s, _, draw_r h2 hm hr, ⟨hs.i0, hs.s0, hs.s1⟩, (md r).1, fun _ => (md r).2, fun z => by omega⟩
    · by_cases hl : i < cs.length
      · have h0 := hs.i0
        have hx : i.toNat < cs.length := by omega
        have hc : cs[i.toNat]? = some cs[i.toNat] := List.getElem?_eq_getElem hx
        by_cases hf : 10 ^ 18 ≤ cs[i.toNat]
        · exact ⟨_, _, s, _, draw_far hs h2 hm hr hl hc hf, ⟨by omega, hs.s0, hs.s1⟩, (md _).1, fun _ => (md _).2, fun z => by omega⟩
        · have n1 := next_ok s cs[i.toNat]
          exact ⟨_, _, _, r, draw_near hs h2 hm hr hl hc hf, ⟨by omega, n1.1, n1.2⟩, (md _).1, fun _ => (md _).2, fun z => by omega⟩
      · have n1 := next_ok s 0
        exact ⟨_, i, _, r, draw_end hs.i0 hs h2 hm hr hl, ⟨hs.i0, n1.1, n1.2⟩, (md _).1, fun _ => (md _).2, fun z => by omega⟩
/-- a comprehension, item by item -/
theorem lcGo_map {f : D → Env → Res (List D × Env)} {g : D → List D} {I : Env → Prop} : ∀ {xs acc : List D} {e : Env}, (∀ x ∈ xs, ∀ e, I e → ∃ e', f x e = .ok (g x, e') ∧ I e') → I e → ∃ e', lcGo f xs acc e = .ok (acc ++ xs.flatMap g, e') ∧ I e'
  | [], acc, e, _, h => ⟨e, by simp [lcGo], h⟩
  | x :: xs, acc, e, hf, h => by
    obtain ⟨e1, h1, h2⟩ := hf x List.mem_cons_self e h
    obtain ⟨e2, h3, h4⟩ := lcGo_map (f := f) (g := g) (I := I) (xs := xs) (acc := acc ++ g x) (fun y hy => hf y (List.mem_cons_of_mem _ hy)) h2
    exact ⟨e2, by simp [lcGo, h1, h3], h4⟩
def lcF (gl : List D) (cf : Nat → List D → Res (D × List D)) (own : List Nat) (elt : E) (t : T) (ifs : Option E) (gs : List G) : D → Env → Res (List D × Env) := fun x e2 => (Res.of (asg t x (delVs e2 own))).bind fun e3 =>
  (evt gl cf ifs e3).bind fun p => if p.1 = true then evg gl cf (fun e => (ev gl cf elt e).bind fun q => (keep elt q.1).bind fun x => .ok (x, q.2)) gs p.2 else .ok ([], p.2)
theorem ev_lc {own : List Nat} {elt : E} {t : T} {it : I} {ifs : Option E} {gs : List G} {env : Env} : ev gl cf (.lc own elt t it ifs gs) env = (evJ gl cf it env).bind fun p => if 1000000 < p.1.length then .stk else (lcGo (lcF gl cf own elt t ifs gs) p.1 [] p.2).bind fun q =>
    (backV p.2 q.2 own).bind fun e7 => .ok (.lst true q.1, e7) := by
  simp only [ev] <;> rfl
theorem evs_c {e : E} {es : List E} {env : Env} (hn : ∀ i, e ≠ .io i) : evs gl cf (e :: es) env = (ev gl cf e env).bind fun p => (keep e p.1).bind fun x => (evs gl cf es p.2).bind fun q => .ok (x :: q.1, q.2) := by
  cases e <;> first | exact absurd rfl (hn _) | simp only [evs]
theorem ev_lcM {own : List Nat} {elt : E} {t : T} {it : I} {ifs : Option E} {gs : List G} {env e1 : Env} {xs : List D} {g : D → List D} {J : Env → Prop} {e7 : Env} (h1 : evJ gl cf it env = .ok (xs, e1)) (hl : xs.length ≤ 1000000)
    (hf : ∀ x ∈ xs, ∀ e, J e → ∃ e', lcF gl cf own elt t ifs gs x e = .ok (g x, e') ∧ J e') (h0 : J e1) (hb : ∀ e, J e → backV e1 e own = .ok e7) : ev gl cf (.lc own elt t it ifs gs) env = .ok (.lst true (xs.flatMap g), e7) := by
  obtain ⟨e', a1, a2⟩ := lcGo_map (acc := []) hf h0
  rw [List.nil_append] at a1
  rw [ev_lc, h1]
  show (if 1000000 < xs.length then Res.stk else (lcGo (lcF gl cf own elt t ifs gs) xs [] e1).bind fun q => (backV e1 q.2 own).bind fun e7 => Res.ok (D.lst true q.1, e7)) = _
  rw [if_neg (by omega), a1]
  show (backV e1 e' own).bind (fun e7 => Res.ok (D.lst true (xs.flatMap g), e7)) = _
  rw [hb e' a2]
  rfl
def absI (x : Int) : Int := if x < 0 then -x else x
theorem pot_ok (ns : List Int) : (exs gl cf fnPot.body [some (.scr ns), none]).bind (outF fnPot) = .ok (potD ((ns.take 63).map absI) 0 20011 0, []) := by
  have hc : cutL ns none (some 63) = ns.take 63 := by
    have hk : sIx ns.length 0 none = 0 := rfl
    have hh : sIx ns.length ns.length (some 63) = min 63 ns.length := rfl
    unfold cutL
    rw [hk, hh, List.drop_zero, Nat.sub_zero]
    exact (List.take_eq_take_min).symm
  have e1 : ev gl cf (.lc [1] (.bi .abs [.v 1]) (.v 1) (.seq (.sl (.v 0) none (some (.c (.int 63))))) none []) [some (.scr ns), none] = .ok (.lst true (((ns.take 63).map absI).map D.int), [some (.scr ns), none]) := by
    have hm : (List.map D.int (ns.take 63)).flatMap (fun x => match x with
      | .int z => [D.int (absI z)]
      | _ => []) = ((ns.take 63).map absI).map D.int := by
      generalize ns.take 63 = l
      induction l with
      | nil => rfl
      | cons a l ih => simp only [List.map_cons, List.flatMap_cons, ih]; rfl
    rw [← hm]
    refine ev_lcM (J := fun e => ∃ y, e = [some (.scr ns), y]) (e1 := [some (.scr ns), none]) ?_ ?_ (fun x hx e he => ?_) ⟨_, rfl⟩ ?_
    · simp [evJ, ev, getV, Res.bind, evo, Res.of, slD, hc, seqI]
    · rw [List.length_map]
      have := List.length_take_le 63 ns
      omega
    · obtain ⟨z, _, rfl⟩ := List.mem_map.mp hx
      obtain ⟨y, rfl⟩ := he
      exact ⟨[some (.scr ns), some (.int z)], by simp [lcF, asg, delVs, delV, setV, Res.of, Res.bind, evt, evg, ev, evb, getV, biD, keep, vw, D.fz, D.fz1, absI], _, rfl⟩
    · rintro e ⟨y, rfl⟩
      simp [backV]
  have e2 : evs gl cf [.lc [1] (.bi .abs [.v 1]) (.v 1) (.seq (.sl (.v 0) none (some (.c (.int 63))))) none [], .c (.int 0), .c (.int 20011), .c (.int 0)] [some (.scr ns), none] =
      .ok ([.lst false (((ns.take 63).map absI).map D.int), .int 0, .int 20011, .int 0], [some (.scr ns), none]) := by
    rw [evs_c (fun i z => by cases z), e1]
    show (evs gl cf [.c (.int 0), .c (.int 20011), .c (.int 0)] [some (.scr ns), none]).bind (fun q => Res.ok (D.lst false (((ns.take 63).map absI).map D.int) :: q.1, q.2)) = _
    simp [evs, ev, Res.bind, keep, vw, D.fz, D.fz1]
  have e3 : ev gl cf (.lst [.lc [1] (.bi .abs [.v 1]) (.v 1) (.seq (.sl (.v 0) none (some (.c (.int 63))))) none [], .c (.int 0), .c (.int 20011), .c (.int 0)]) [some (.scr ns), none] = .ok (potD ((ns.take 63).map absI) 0 20011 0, [some (.scr ns), none]) := by
    have : ∀ es env, ev gl cf (.lst es) env = (evs gl cf es env).bind fun p => .ok (.lst true p.1, p.2) := fun es env => by simp only [ev]
    rw [this, e2]
    rfl
  have e4 : ∀ e env, exs gl cf [.ret e] env = ((ev gl cf e env).bind fun p => (move e p.1).bind fun x => Res.ok (Fl.ret x p.2)).bind fun fl => match fl with
    | .nx e => .ok (.nx e)
    | .brk e => .ok (.brk e)
    | .cnt e => .ok (.cnt e)
    | .ret d e => .ok (.ret d e) := fun e env => by
    simp only [exs, ex] <;> rfl
  unfold fnPot
  rw [e4, e3]
  rfl
end
end Pl

set_option Elab.async false
set_option linter.all false
set_option maxRecDepth 100000
set_option maxHeartbeats 4000000
/-! Pl2: steps of the evaluator -/
namespace Pl
open Mi
theorem runF_eq {gl : List D} {P : List Fn} {n f : Nat} {fn : Fn} {ds : List D} (h : P[f]? = some fn) (hl : ds.length = fn.np) : runF gl P (n + 1) f ds = (exs gl (runF gl P n) fn.body (envF fn ds)).bind (outF fn) := by
  simp only [runF, h]
  rw [if_pos hl]
theorem run_pot {gl : List D} {P : List Fn} {n f : Nat} (h : P[f]? = some fnPot) (ns : List Int) : runF gl P (n + 1) f [.scr ns] = .ok (potD ((ns.take 63).map absI) 0 20011 0, []) := by
  rw [runF_eq h rfl]
  exact pot_ok ns
theorem run_draw {gl : List D} {P : List Fn} {n f : Nat} (h : P[f]? = some fnDraw) {cs : List Int} {i s r m : Int} (hs : PotOk cs i s r) (hm : m ≤ 10000000000000000000000000000000000000000) :
    ∃ d i' s' r', runF gl P (n + 1) f [potD cs i s r, .int m] = .ok (.int d, [potD cs i' s' r']) ∧ PotOk cs i' s' r' ∧ 0 ≤ d ∧ (2 ≤ m → d < m) ∧ (m < 2 → d = 0) := by
  rw [runF_eq h rfl]
  exact draw_ok hs hm
theorem potOk0 (cs : List Int) : PotOk cs 0 20011 0 := ⟨by decide, by decide, by decide⟩
section
variable {gl : List D} {cf : Nat → List D → Res (D × List D)}
theorem ev_draw {f i : Nat} {m d : Int} {env : Env} {p p' : D} (hcf : cf f [p, .int m] = .ok (.int d, [p'])) (hg : getV env i = .ok p) : ev gl cf (.call f [.io i, .c (.int m)]) env = .ok (.int d, setV env i p') := by
  simp [ev, evs, fillIo, putIo, hg, hcf, keep, Res.bind, vw, D.fz, D.fz1]
theorem ex_setv {i : Nat} {e : E} {env e1 : Env} {x : D} (h : ev gl cf e env = .ok (x, e1)) (hv : vw e = false ∨ x.own = false) : ex gl cf (.set (.v i) e) env = .ok (.nx (setV e1 i x)) := by
  have : (vw e && x.own) = false := by rcases hv with z | z <;> simp [z]
  simp [ex, h, Res.bind, move, this, asg, Res.of]
theorem exs_nx {s : S} {ss : List S} {env e1 : Env} (h : ex gl cf s env = .ok (.nx e1)) : exs gl cf (s :: ss) env = exs gl cf ss e1 := by
  simp only [exs, h] <;> rfl
theorem exs_rt {s : S} {ss : List S} {env e1 : Env} {d : D} (h : ex gl cf s env = .ok (.ret d e1)) : exs gl cf (s :: ss) env = .ok (.ret d e1) := by
  simp only [exs, h] <;> rfl
theorem ex_for {t : T} {it : I} {b : List S} {ks : List Nat} {env e1 : Env} {r : List D} (h : evI gl cf it env = .ok (r, e1)) : ex gl cf (.for t it b ks) env = forL (fun x e => (Res.of (asg t x e)).bind fun e2 => (exs gl cf b e2).bind fun f => .ok (f.kill ks)) r e1 := by
  simp only [ex, h] <;> rfl
theorem forL_nx {f : D → Env → Res Fl} {x : D} {xs : List D} {env e1 : Env} (h : f x env = .ok (.nx e1)) : forL f (x :: xs) env = forL f xs e1 := by
  simp only [forL, h] <;> rfl
end
end Pl

set_option Elab.async false
set_option linter.all false
set_option maxRecDepth 100000
set_option maxHeartbeats 4000000
/-! Pl3: loops by invariants, products of odd numbers -/
namespace Pl
open Mi
/-- a loop, turn by turn -/
theorem forL_inv {f : D → Env → Res Fl} {J : Nat → Env → Prop} : ∀ {xs : List D} {k : Nat} {e : Env}, (∀ i x e, xs[i]? = some x → J (k + i) e → ∃ e', f x e = .ok (.nx e') ∧ J (k + i + 1) e') → J k e → ∃ e', forL f xs e = .ok (.nx e') ∧ J (k + xs.length) e'
  | [], k, e, _, h => ⟨e, by simp [forL], h⟩
  | x :: xs, k, e, hf, h => by
    obtain ⟨e1, h1, h2⟩ := hf 0 x e rfl h
    obtain ⟨e2, h3, h4⟩ := forL_inv (f := f) (J := J) (xs := xs) (k := k + 1) (e := e1) (fun i y e hy he => by
      have := hf (i + 1) y e hy (by rw [show k + (i + 1) = k + 1 + i by omega]; exact he)
      rw [show k + 1 + i = k + (i + 1) by omega]
      exact this) h2
    refine ⟨e2, ?_, by rw [List.length_cons, show k + (xs.length + 1) = k + 1 + xs.length by omega]; exact h4⟩
    rw [forL_nx h1]
    exact h3
theorem rangeD_len (a : Int) : ∀ n, (rangeD a n).length = n
  | 0 => rfl
  | n + 1 => congrArg (· + 1) (rangeD_len (a + 1) n)
theorem rangeD_at : ∀ (a : Int) (n i : Nat) (d : D), (rangeD a n)[i]? = some d → i < n ∧ d = .int (a + i)
  | a, 0, i, d, h => by simp [rangeD] at h
  | a, n + 1, 0, d, h => by
    cases h
    exact ⟨Nat.succ_pos _, by simp⟩
  | a, n + 1, i + 1, d, h => by
    obtain ⟨h1, h2⟩ := rangeD_at (a + 1) n i d h
    refine ⟨Nat.succ_lt_succ h1, ?_⟩
    rw [h2]
    congr 1
    omega
/-- 1 · 3 · .. (n factors) -/
def od : Nat → Int
  | 0 => 1
  | n + 1 => od n * (2 * n + 1)
theorem od_pos : ∀ n, 0 < od n
  | 0 => by decide
  | n + 1 => Int.mul_pos (od_pos n) (by omega)
def fnTotal : Fn := ⟨1, 3, [],
  [.set (.v 1) (.c (.int 1)),
   .for (.v 2) (.rng [.v 0])
    [.aug 1 .mul (.bin .add (.bin .mul (.c (.int 2)) (.v 2)) (.c (.int 1)))] [2],
   .ret (.v 1)]⟩
def fnTotal2 : Fn := ⟨1, 3, [],
  [.set (.v 1) (.c (.int 1)),
   .for (.v 2) (.rng [.v 0])
    [.set (.v 1) (.bin .mul (.v 1) (.bin .add (.bin .mul (.c (.int 2)) (.v 2)) (.c (.int 1))))] [2],
   .ret (.v 1)]⟩
section
variable {gl : List D} {cf : Nat → List D → Res (D × List D)}
theorem small_nat {k : Nat} (h : k ≤ 1000000) : smallI (2 * (k : Int) + 1) = true := by
  unfold smallI big
  simp only [Bool.and_eq_true, decide_eq_true_eq]
  omega
theorem total_ok {n : Nat} (hn : n ≤ 1000000) : (exs gl cf fnTotal.body [some (.int n), none, none]).bind (outF fnTotal) = .ok (.int (od n), []) := by
  have hr : rngOk 0 (n : Int) = true := by
    unfold rngOk
    simp only [Bool.and_eq_true, decide_eq_true_eq]
    omega
  have he : evI gl cf (.rng [.v 0]) [some (.int n), some (.int 1), none] = .ok (rangeD 0 n, [some (.int n), some (.int 1), none]) := by
    simp [evI, evb, ev, getV, Res.bind, rngD, hr]
  obtain ⟨e', h1, h2⟩ := forL_inv (f := fun x e => (Res.of (asg (.v 2) x e)).bind fun e2 => (exs gl cf [.aug 1 .mul (.bin .add (.bin .mul (.c (.int 2)) (.v 2)) (.c (.int 1)))] e2).bind fun f => .ok (f.kill [2])) (J := fun i e => e = [some (.int n), some (.int (od i)), none])
    (xs := rangeD 0 n) (k := 0) (e := [some (.int n), some (.int 1), none]) (fun i x e hx he => by
    obtain ⟨hi, rfl⟩ := rangeD_at _ _ _ _ hx
    subst he
    refine ⟨_, ?_, rfl⟩
    have hs := small_nat (k := i) (by omega)
    have h2 : smallI 2 = true := by decide
    simp [asg, setV, exs, ex, ev, getV, Res.bind, Res.of, binD, augD, h2, hs, Fl.kill, delVs, delV, od]) rfl
  rw [rangeD_len, Nat.zero_add] at h2
  subst h2
  have e3 : exs gl cf fnTotal.body [some (.int n), none, none] = .ok (.ret (.int (od n)) [some (.int n), some (.int (od n)), none]) := by
    unfold fnTotal
    rw [exs_nx (e1 := [some (.int n), some (.int 1), none]) (by simp [ex, ev, Res.bind, Res.of, move, vw, asg, setV]), exs_nx (e1 := [some (.int n), some (.int (od n)), none]) (by
      rw [ex_for he]
      exact h1)]
    simp [exs, ex, ev, getV, Res.bind, move, D.own]
  rw [e3]
  rfl
theorem total2_ok {n : Nat} (hn : n ≤ 1000000) : (exs gl cf fnTotal2.body [some (.int n), none, none]).bind (outF fnTotal2) = .ok (.int (od n), []) := by
  have hr : rngOk 0 (n : Int) = true := by
    unfold rngOk
    simp only [Bool.and_eq_true, decide_eq_true_eq]
    omega
  have he : evI gl cf (.rng [.v 0]) [some (.int n), some (.int 1), none] = .ok (rangeD 0 n, [some (.int n), some (.int 1), none]) := by
    simp [evI, evb, ev, getV, Res.bind, rngD, hr]
  obtain ⟨e', h1, h2⟩ := forL_inv (f := fun x e => (Res.of (asg (.v 2) x e)).bind fun e2 => (exs gl cf [.set (.v 1) (.bin .mul (.v 1) (.bin .add (.bin .mul (.c (.int 2)) (.v 2)) (.c (.int 1))))] e2).bind fun f => .ok (f.kill [2])) (J := fun i e => e = [some (.int n), some (.int (od i)), none])
    (xs := rangeD 0 n) (k := 0) (e := [some (.int n), some (.int 1), none]) (fun i x e hx he => by
    obtain ⟨hi, rfl⟩ := rangeD_at _ _ _ _ hx
    subst he
    refine ⟨_, ?_, rfl⟩
    have hs := small_nat (k := i) (by omega)
    have h2 : smallI 2 = true := by decide
    simp [asg, setV, exs, ex, ev, getV, Res.bind, Res.of, binD, h2, hs, Fl.kill, delVs, delV, od, move, vw]) rfl
  rw [rangeD_len, Nat.zero_add] at h2
  subst h2
  have e3 : exs gl cf fnTotal2.body [some (.int n), none, none] = .ok (.ret (.int (od n)) [some (.int n), some (.int (od n)), none]) := by
    unfold fnTotal2
    rw [exs_nx (e1 := [some (.int n), some (.int 1), none]) (by simp [ex, ev, Res.bind, Res.of, move, vw, asg, setV]), exs_nx (e1 := [some (.int n), some (.int (od n)), none]) (by
      rw [ex_for he]
      exact h1)]
    simp [exs, ex, ev, getV, Res.bind, move, D.own]
  rw [e3]
  rfl
end
end Pl

set_option Elab.async false
set_option linter.all false
set_option maxRecDepth 100000
set_option maxHeartbeats 4000000
/-! Pl4: comprehensions in slots that come back, a tactic for straight code -/
namespace Pl
open Mi
theorem fz_non : D.non.fz = .non := rfl
theorem fz_bl (b : Bool) : (D.bl b).fz = .bl b := rfl
theorem fz_int (i : Int) : (D.int i).fz = .int i := rfl
theorem fz_str (i : List Nat) : (D.str i).fz = .str i := rfl
theorem fz_tup (i : List D) : (D.tup i).fz = .tup i := rfl
theorem fz_lst (o : Bool) (i : List D) : (D.lst o i).fz = .lst false i := rfl
theorem fz_dct (o t : Bool) (i : List (D × D)) : (D.dct o t i).fz = .dct false t i := rfl
theorem own_non : D.non.own = false := rfl
theorem own_bl (b : Bool) : (D.bl b).own = false := rfl
theorem own_int (i : Int) : (D.int i).own = false := rfl
theorem own_str (i : List Nat) : (D.str i).own = false := rfl
theorem own_tup (i : List D) : (D.tup i).own = false := rfl
theorem own_lst (o : Bool) (i : List D) : (D.lst o i).own = o := rfl
theorem own_dct (o t : Bool) (i : List (D × D)) : (D.dct o t i).own = o := rfl
section
variable {gl : List D} {cf : Nat → List D → Res (D × List D)}
theorem set_set {env : Env} {i : Nat} {a b : Option D} : (env.set i a).set i b = env.set i b := List.set_set ..
theorem set_self {env : Env} {i : Nat} {o : Option D} (h : env[i]? = some o) : env.set i o = env := by
  obtain ⟨hi, rfl⟩ := List.getElem?_eq_some_iff.mp h
  exact List.set_getElem_self hi
theorem delVs_one {env : Env} {i : Nat} : delVs env [i] = env.set i none := rfl
theorem back_one {env e : Env} {i : Nat} {o : Option D} (h : env[i]? = some o) (ho : ∀ d, o = some d → d.own = false) (he : e.set i o = env) : backV env e [i] = .ok env := by
  unfold backV
  rw [h]
  cases o with
  | none =>
    show backV env (e.set i none) [] = _
    rw [he]
    rfl
  | some d =>
    simp only [ho d rfl]
    show backV env (e.set i (some d)) [] = _
    rw [he]
    rfl
theorem lcF_one {i : Nat} {elt : E} {x y : D} {env e2 : Env} {o : Option D} (h : ev gl cf elt (env.set i (some x)) = .ok (y, e2)) (hk : vw elt = false ∨ y.own = false) : lcF gl cf [i] elt (.v i) none [] x (env.set i o) = .ok ([y.fz], e2) := by
  have hk : (vw elt && y.own) = false := by rcases hk with z | z <;> simp [z]
  have e1 : setV (delVs (env.set i o) [i]) i x = env.set i (some x) := by
    show ((env.set i o).set i none).set i (some x) = _
    rw [set_set, set_set]
  simp only [lcF, asg, Res.of, Res.bind, e1, evt, evg, if_pos, h, keep, hk]
  rfl
theorem lcF_if {i : Nat} {elt c : E} {x y : D} {b : Bool} {env : Env} {o : Option D} (hc : ev gl cf c (env.set i (some x)) = .ok (.bl b, env.set i (some x))) (h : b = true → ev gl cf elt (env.set i (some x)) = .ok (y, env.set i (some x))) (hk : vw elt = false ∨ y.own = false) :
    lcF gl cf [i] elt (.v i) (some c) [] x (env.set i o) = .ok (if b = true then [y.fz] else [], env.set i (some x)) := by
  have hk : (vw elt && y.own) = false := by rcases hk with z | z <;> simp [z]
  have e1 : setV (delVs (env.set i o) [i]) i x = env.set i (some x) := by
    show ((env.set i o).set i none).set i (some x) = _
    rw [set_set, set_set]
  cases b with
  | false => simp [lcF, asg, Res.of, Res.bind, e1, evt, hc, tB]
  | true => simp [lcF, asg, Res.of, Res.bind, e1, evt, hc, tB, evg, h rfl, keep, hk]
theorem map_flat {α β : Type} (f : α → β) : ∀ l : List α, l.flatMap (fun x => [f x]) = l.map f
  | [] => rfl
  | a :: l => by
    rw [List.flatMap_cons, map_flat f l]
    rfl
theorem filter_flat {α β : Type} (p : α → Bool) (f : α → β) : ∀ l : List α, l.flatMap (fun x => if p x = true then [f x] else []) = (l.filter p).map f
  | [] => rfl
  | a :: l => by
    rw [List.flatMap_cons, filter_flat p f l, List.filter_cons]
    cases p a <;> rfl
theorem ev_bin {o : Op2} {a b : E} {env e1 e2 : Env} {x y d : D} (ha : ev gl cf a env = .ok (x, e1)) (hb : ev gl cf b e1 = .ok (y, e2)) (h : binD o x y = some d) : ev gl cf (.bin o a b) env = .ok (d, e2) := by
  rw [ev, ha]
  show (ev gl cf b e1).bind _ = _
  rw [hb]
  show (Res.of (binD o x y)).bind _ = _
  rw [h]
  rfl
/-- [elt for i in it], elt changes nothing -/
theorem ev_lcP {i : Nat} {elt : E} {it : I} {env : Env} {xs : List D} {g : D → D} {o : Option D} (h1 : evJ gl cf it env = .ok (xs, env)) (hl : xs.length ≤ 1000000) (hi : env[i]? = some o) (ho : ∀ d, o = some d → d.own = false)
    (hf : ∀ x ∈ xs, ev gl cf elt (env.set i (some x)) = .ok (g x, env.set i (some x))) (hk : vw elt = false ∨ ∀ x ∈ xs, (g x).own = false) : ev gl cf (.lc [i] elt (.v i) it none []) env = .ok (.lst true (xs.map fun x => (g x).fz), env) := by
  rw [← map_flat]
  refine ev_lcM (J := fun e => ∃ y, e = env.set i y) (e1 := env) h1 hl ?_ ⟨o, (set_self hi).symm⟩ ?_
  · rintro x hx _ ⟨y, rfl⟩
    refine ⟨_, lcF_one (hf x hx) ?_, some x, rfl⟩
    rcases hk with z | z
    · exact .inl z
    · exact .inr (z x hx)
  · rintro _ ⟨y, rfl⟩
    exact back_one hi ho (by rw [set_set, set_self hi])
/-- [elt for i in it if c] -/
theorem ev_lcI {i : Nat} {elt c : E} {it : I} {env : Env} {xs : List D} {g : D → D} {p : D → Bool} {o : Option D} (h1 : evJ gl cf it env = .ok (xs, env)) (hl : xs.length ≤ 1000000) (hi : env[i]? = some o) (ho : ∀ d, o = some d → d.own = false)
    (hc : ∀ x ∈ xs, ev gl cf c (env.set i (some x)) = .ok (.bl (p x), env.set i (some x))) (hf : ∀ x ∈ xs, p x = true → ev gl cf elt (env.set i (some x)) = .ok (g x, env.set i (some x))) (hk : vw elt = false ∨ ∀ x ∈ xs, (g x).own = false) :
    ev gl cf (.lc [i] elt (.v i) it (some c) []) env = .ok (.lst true ((xs.filter p).map fun x => (g x).fz), env) := by
  rw [← filter_flat]
  refine ev_lcM (J := fun e => ∃ y, e = env.set i y) (e1 := env) h1 hl ?_ ⟨o, (set_self hi).symm⟩ ?_
  · rintro x hx _ ⟨y, rfl⟩
    refine ⟨_, lcF_if (hc x hx) (hf x hx) ?_, some x, rfl⟩
    rcases hk with z | z
    · exact .inl z
    · exact .inr (z x hx)
  · rintro _ ⟨y, rfl⟩
    exact back_one hi ho (by rw [set_set, set_self hi])
end
/-! ### lists of whole numbers -/
def nD (k : Nat) : D := .int k
theorem rangeD_nat : ∀ (a n : Nat), rangeD (a : Int) n = (List.range' a n).map nD
  | a, 0 => rfl
  | a, n + 1 => by
    have := rangeD_nat (a + 1) n
    rw [show (((a + 1 : Nat)) : Int) = (a : Int) + 1 by omega] at this
    simp only [rangeD, List.range'_succ, List.map_cons, this, nD]
theorem rangeD0 (n : Nat) : rangeD 0 n = (List.range n).map nD := by
  have := rangeD_nat 0 n
  rw [List.range_eq_range']
  exact this
theorem rngOk_nat {n : Nat} (h : n ≤ 1000000) : rngOk 0 (n : Int) = true := by
  unfold rngOk
  simp only [Bool.and_eq_true, decide_eq_true_eq]
  omega
mutual
theorem eqD_rfl : ∀ (n : Nat) (x : D), okN n x = true → eqD x x = true
  | _, .non, _ => rfl
  | _, .bl b, _ => by simp [eqD]
  | _, .int i, _ => by simp [eqD]
  | _, .str s, _ => by simp [eqD]
  | 0, .tup xs, h => by simp [okN] at h
  | 0, .lst _ xs, h => by simp [okN] at h
  | n + 1, .tup xs, h => by
    rw [okN] at h
    rw [eqD]
    exact eqDs_rfl n xs h
  | n + 1, .lst o xs, h => by
    rw [okN] at h
    rw [eqD]
    exact eqDs_rfl n xs h
  | n, .dct _ _ _, h => by cases n <;> simp [okN] at h
  | n, .ins _ _ _, h => by cases n <;> simp [okN] at h
  | n, .fn _, h => by cases n <;> simp [okN] at h
  | n, .scr _, h => by cases n <;> simp [okN] at h
  | n, .tok _, h => by cases n <;> simp [okN] at h
  | n, .tex _ _, h => by cases n <;> simp [okN] at h
theorem eqDs_rfl : ∀ (n : Nat) (xs : List D), okNs n xs = true → eqDs xs xs = true
  | _, [], _ => rfl
  | n, x :: xs, h => by
    rw [okNs, Bool.and_eq_true] at h
    rw [eqDs, eqD_rfl n x h.1, eqDs_rfl n xs h.2]
    rfl
end
theorem okNs_all {n : Nat} : ∀ {xs : List D}, (∀ x ∈ xs, okN n x = true) → okNs n xs = true
  | [], _ => by cases n <;> rfl
  | x :: xs, h => by
    rw [okNs, h x List.mem_cons_self, okNs_all fun y hy => h y (List.mem_cons_of_mem _ hy)]
    rfl
end Pl

set_option Elab.async false
set_option linter.all false
set_option maxRecDepth 100000
set_option maxHeartbeats 4000000
/-! Pw1: webs: whole numbers, ties, webs -/
namespace Pl
open Mi
abbrev Tie := Nat × Nat
def tieD (t : Tie) : D := .tup [.int t.1, .int t.2]
def webD (m : Nat) (ts : List Tie) : D := .tup [.int m, .tup (ts.map tieD)]
structure WebOk (m : Nat) (ts : List Tie) : Prop where
  m60 : m ≤ 60
  t60 : ts.length ≤ 60
  tie : ∀ t ∈ ts, t.1 < t.2 ∧ t.2 < m
  nd : ts.Nodup
theorem tieD_inj {a b : Tie} (h : tieD a = tieD b) : a = b := by
  obtain ⟨x, y⟩ := a
  obtain ⟨z, w⟩ := b
  simp only [tieD, D.tup.injEq, List.cons.injEq, D.int.injEq] at h
  congr 1 <;> omega
theorem eqD_tie (a b : Tie) : eqD (tieD a) (tieD b) = decide (a = b) := by
  obtain ⟨x, y⟩ := a
  obtain ⟨z, w⟩ := b
  by_cases h1 : x = z <;> by_cases h2 : y = w <;> simp [tieD, eqD, eqDs, h1, h2] <;> omega
theorem memD_tie (a : Tie) : ∀ l : List Tie, memD (tieD a) (l.map tieD) = decide (a ∈ l)
  | [] => by simp [memD]
  | b :: l => by
    rw [List.map_cons, memD, memD_tie a l, eqD_tie]
    by_cases h : b = a
    · simp [h]
    · have : ¬ a = b := fun z => h z.symm
      simp [h, this]
theorem dedD_nd : ∀ (l acc : List Tie), l.Nodup → (∀ x ∈ l, x ∉ acc) → dedD (acc.map tieD) (l.map tieD) = (acc.reverse ++ l).map tieD
  | [], acc, _, _ => by simp [dedD]
  | a :: l, acc, h, hx => by
    rw [List.map_cons, dedD, memD_tie, decide_eq_false (hx a List.mem_cons_self)]
    have h1 := List.nodup_cons.mp h
    have := dedD_nd l (a :: acc) h1.2 (fun x hm => by
      intro hc
      rcases List.mem_cons.mp hc with z | z
      · exact h1.1 (z ▸ hm)
      · exact hx x (List.mem_cons_of_mem _ hm) z)
    rw [List.map_cons] at this
    rw [if_neg (by decide), this]
    simp
def fnWhole : Fn := ⟨1, 1, [],
  [.ret (.and [.bi (.isi .int) [.v 0], .nt (.bi (.isi .bool) [.v 0])])]⟩
def fnTie (w : Nat) : Fn := ⟨2, 2, [],
  [.ite (.or [.nt (.bi (.isi .tuple) [.v 0]), .cmp (.bi .len [.v 0]) [.ne] [.c (.int 2)]])
    [.ret (.c (.bl false))]
    [],
   .ite (.or [.nt (.call w [.ix (.v 0) (.c (.int 0))]), .nt (.call w [.ix (.v 0) (.c (.int 1))])])
    [.ret (.c (.bl false))]
    [],
   .ret (.cmp (.c (.int 0)) [.le, .lt, .lt] [.ix (.v 0) (.c (.int 0)), .ix (.v 0) (.c (.int 1)), .v 1])]⟩
def fnWeb (w t g0 g1 : Nat) : Fn := ⟨1, 4, [],
  [.ite (.or [.nt (.bi (.isi .tuple) [.v 0]), .cmp (.bi .len [.v 0]) [.ne] [.c (.int 2)]])
    [.ret (.c (.bl false))]
    [],
   .set (.tup [.v 1, .v 2]) (.v 0),
   .ite (.or [.nt (.call w [.v 1]), .nt (.cmp (.c (.int 0)) [.le, .le] [.v 1, .g g0])])
    [.ret (.c (.bl false))]
    [],
   .ite (.or [.nt (.bi (.isi .tuple) [.v 2]), .cmp (.bi .len [.v 2]) [.gt] [.g g1]])
    [.ret (.c (.bl false))]
    [],
   .ite (.nt (.bi .all [.lc [3] (.call t [.v 3, .v 1]) (.v 3) (.seq (.v 2)) none []]))
    [.ret (.c (.bl false))]
    [],
   .ret (.cmp (.bi .lenset [.v 2]) [.eq] [.bi .len [.v 2]])]⟩
def fnTiesOf (b x : Nat) : Fn := ⟨1, 1, [],
  [.ite (.nt (.call b [.v 0]))
    [.rai x []]
    [],
   .ret (.ix (.v 0) (.c (.int 1)))]⟩
def fnPlacesOf (b x : Nat) : Fn := ⟨1, 1, [],
  [.ite (.nt (.call b [.v 0]))
    [.rai x []]
    [],
   .ret (.bi .trange1 [.ix (.v 0) (.c (.int 0))])]⟩
section
variable {gl : List D} {P : List Fn} {n : Nat}
theorem run_whole {w : Nat} (h : P[w]? = some fnWhole) (i : Int) : runF gl P (n + 1) w [.int i] = .ok (.bl true, []) := by
  rw [runF_eq h rfl]
  simp [Mi.exs, Mi.ex, Mi.ev, Mi.evs, Mi.evb, Mi.evc, Mi.evo, Mi.evk, Mi.evAnd, Mi.evOr, Mi.evm, Mi.evI, Mi.evJ, Mi.getV, Mi.setV, Mi.delV, Mi.delVs, Mi.setVs, Mi.Res.bind, Mi.Res.of, Mi.cmpD, Mi.tB, Mi.keep, Mi.move, Mi.vw, Pl.own_non, Pl.own_bl, Pl.own_int, Pl.own_str, Pl.own_tup, Pl.own_lst, Pl.own_dct, Pl.fz_non, Pl.fz_bl, Pl.fz_int, Pl.fz_str, Pl.fz_tup, Pl.fz_lst, Pl.fz_dct, Mi.asg, Mi.asgs, Mi.getPa, Mi.setPa, Mi.biD, Mi.isTy, Mi.seqI, Mi.fillIo, Mi.putIo, Mi.getVs, Mi.outF, Mi.envF, Mi.Fl.kill, Mi.D.isLst, Mi.binD, Mi.augD, fnWhole]
theorem run_whole_non {w : Nat} (h : P[w]? = some fnWhole) : runF gl P (n + 1) w [.non] = .ok (.bl false, []) := by
  rw [runF_eq h rfl]
  simp [Mi.exs, Mi.ex, Mi.ev, Mi.evs, Mi.evb, Mi.evc, Mi.evo, Mi.evk, Mi.evAnd, Mi.evOr, Mi.evm, Mi.evI, Mi.evJ, Mi.getV, Mi.setV, Mi.delV, Mi.delVs, Mi.setVs, Mi.Res.bind, Mi.Res.of, Mi.cmpD, Mi.tB, Mi.keep, Mi.move, Mi.vw, Pl.own_non, Pl.own_bl, Pl.own_int, Pl.own_str, Pl.own_tup, Pl.own_lst, Pl.own_dct, Pl.fz_non, Pl.fz_bl, Pl.fz_int, Pl.fz_str, Pl.fz_tup, Pl.fz_lst, Pl.fz_dct, Mi.asg, Mi.asgs, Mi.getPa, Mi.setPa, Mi.biD, Mi.isTy, Mi.seqI, Mi.fillIo, Mi.putIo, Mi.getVs, Mi.outF, Mi.envF, Mi.Fl.kill, Mi.D.isLst, Mi.binD, Mi.augD, fnWhole]
theorem okNI (i : Int) : okN 60 (.int i) = true := by rw [okN]
theorem eqI (i j : Int) : eq? (.int i) (.int j) = some (decide (i = j)) := by simp [eq?, okN, eqD]
theorem ix2_0 (a b : D) : ixD (.tup [a, b]) (.int 0) = some a := rfl
theorem ix2_1 (a b : D) : ixD (.tup [a, b]) (.int 1) = some b := rfl
theorem run_tie {w t : Nat} (hw : P[w]? = some fnWhole) (h : P[t]? = some (fnTie w)) {m : Nat} {a : Tie} (ha : a.1 < a.2 ∧ a.2 < m) : runF gl P (n + 2) t [tieD a, .int m] = .ok (.bl true, []) := by
  rw [runF_eq h rfl]
  have := @run_whole gl P n w hw
  obtain ⟨a, b⟩ := a
  have h0 : (a : Int) < b := by have := ha.1; omega
  have h1 : (b : Int) < m := by have := ha.2; omega
  simp [Mi.exs, Mi.ex, Mi.ev, Mi.evs, Mi.evb, Mi.evc, Mi.evo, Mi.evk, Mi.evAnd, Mi.evOr, Mi.evm, Mi.evI, Mi.evJ, Mi.getV, Mi.setV, Mi.delV, Mi.delVs, Mi.setVs, Mi.Res.bind, Mi.Res.of, Mi.cmpD, Mi.tB, Mi.keep, Mi.move, Mi.vw, Pl.own_non, Pl.own_bl, Pl.own_int, Pl.own_str, Pl.own_tup, Pl.own_lst, Pl.own_dct, Pl.fz_non, Pl.fz_bl, Pl.fz_int, Pl.fz_str, Pl.fz_tup, Pl.fz_lst, Pl.fz_dct, Mi.asg, Mi.asgs, Mi.getPa, Mi.setPa, Mi.biD, Mi.isTy, Mi.seqI, Mi.fillIo, Mi.putIo, Mi.getVs, Mi.outF, Mi.envF, Mi.Fl.kill, Mi.D.isLst, Mi.binD, Mi.augD, fnTie, tieD, eqI, ix2_0, ix2_1, this, h0, h1]
theorem bls_map : ∀ {α : Type} (l : List α), bls? (l.map fun _ => D.bl true) = some (l.map fun _ => true)
  | _, [] => rfl
  | _, a :: l => by
    rw [List.map_cons, bls?, bls_map l]
    rfl
theorem all_true : ∀ {α : Type} (l : List α), (l.map fun _ => true).all id = true
  | _, [] => rfl
  | _, a :: l => by
    rw [List.map_cons, List.all_cons, all_true l]
    rfl
theorem isTupI_tie (l : List Tie) : (l.map tieD).all D.isTupI = true := by
  rw [List.all_eq_true]
  rintro x hx
  obtain ⟨t, _, rfl⟩ := List.mem_map.mp hx
  rfl
theorem run_web {w t b g0 g1 : Nat} (hw : P[w]? = some fnWhole) (ht : P[t]? = some (fnTie w)) (hb : P[b]? = some (fnWeb w t g0 g1)) (h0 : gl[g0]? = some (.int 60)) (h1 : gl[g1]? = some (.int 60)) {m : Nat} {ts : List Tie} (h : WebOk m ts) :
    runF gl P (n + 3) b [webD m ts] = .ok (.bl true, []) := by
  rw [runF_eq hb rfl]
  have e0 : envF (fnWeb w t g0 g1) [webD m ts] = [some (webD m ts), none, none, none] := rfl
  rw [e0]
  have w0 := @run_whole gl P (n + 1) w hw
  have m0 : (m : Int) ≤ 60 := by have := h.m60; omega
  have l0 : ¬ (60 : Int) < ts.length := by have := h.t60; omega
  have lc : ev gl (runF gl P (n + 2)) (.lc [3] (.call t [.v 3, .v 1]) (.v 3) (.seq (.v 2)) none []) [some (webD m ts), some (.int m), some (.tup (ts.map tieD)), none] = .ok (.lst true ((ts.map tieD).map fun x => (D.bl true).fz), [some (webD m ts), some (.int m), some (.tup (ts.map tieD)), none]) := by
    refine ev_lcP (g := fun _ => .bl true) (o := none) ?_ ?_ rfl (fun d z => by cases z) (fun x hx => ?_) (.inl rfl)
    · simp [Mi.exs, Mi.ex, Mi.ev, Mi.evs, Mi.evb, Mi.evc, Mi.evo, Mi.evk, Mi.evAnd, Mi.evOr, Mi.evm, Mi.evI, Mi.evJ, Mi.getV, Mi.setV, Mi.delV, Mi.delVs, Mi.setVs, Mi.Res.bind, Mi.Res.of, Mi.cmpD, Mi.tB, Mi.keep, Mi.move, Mi.vw, Pl.own_non, Pl.own_bl, Pl.own_int, Pl.own_str, Pl.own_tup, Pl.own_lst, Pl.own_dct, Pl.fz_non, Pl.fz_bl, Pl.fz_int, Pl.fz_str, Pl.fz_tup, Pl.fz_lst, Pl.fz_dct, Mi.asg, Mi.asgs, Mi.getPa, Mi.setPa, Mi.biD, Mi.isTy, Mi.seqI, Mi.fillIo, Mi.putIo, Mi.getVs, Mi.outF, Mi.envF, Mi.Fl.kill, Mi.D.isLst, Mi.binD, Mi.augD]
    · have := h.t60
      rw [List.length_map]
      omega
    · obtain ⟨a, ha, rfl⟩ := List.mem_map.mp hx
      have := @run_tie gl P n w t hw ht m a (h.tie a ha)
      have e2 : tieD a = .tup [.int a.1, .int a.2] := rfl
      rw [e2] at this ⊢
      simp [Mi.exs, Mi.ex, Mi.ev, Mi.evs, Mi.evb, Mi.evc, Mi.evo, Mi.evk, Mi.evAnd, Mi.evOr, Mi.evm, Mi.evI, Mi.evJ, Mi.getV, Mi.setV, Mi.delV, Mi.delVs, Mi.setVs, Mi.Res.bind, Mi.Res.of, Mi.cmpD, Mi.tB, Mi.keep, Mi.move, Mi.vw, Pl.own_non, Pl.own_bl, Pl.own_int, Pl.own_str, Pl.own_tup, Pl.own_lst, Pl.own_dct, Pl.fz_non, Pl.fz_bl, Pl.fz_int, Pl.fz_str, Pl.fz_tup, Pl.fz_lst, Pl.fz_dct, Mi.asg, Mi.asgs, Mi.getPa, Mi.setPa, Mi.biD, Mi.isTy, Mi.seqI, Mi.fillIo, Mi.putIo, Mi.getVs, Mi.outF, Mi.envF, Mi.Fl.kill, Mi.D.isLst, Mi.binD, Mi.augD, this]
  have ld : (dedD [] (ts.map tieD)).length = ts.length := by
    have := dedD_nd ts [] h.nd (fun _ _ z => by cases z)
    rw [List.map_nil] at this
    rw [this]
    simp
  have l64 : ts.length < 64 := by have := h.t60; omega
  rw [show (fnWeb w t g0 g1).body = [(fnWeb w t g0 g1).body.getD 0 .pas, (fnWeb w t g0 g1).body.getD 1 .pas, (fnWeb w t g0 g1).body.getD 2 .pas, (fnWeb w t g0 g1).body.getD 3 .pas, (fnWeb w t g0 g1).body.getD 4 .pas, (fnWeb w t g0 g1).body.getD 5 .pas] from rfl]
  rw [exs_nx (e1 := [some (webD m ts), none, none, none]) (by simp [Mi.exs, Mi.ex, Mi.ev, Mi.evs, Mi.evb, Mi.evc, Mi.evo, Mi.evk, Mi.evAnd, Mi.evOr, Mi.evm, Mi.evI, Mi.evJ, Mi.getV, Mi.setV, Mi.delV, Mi.delVs, Mi.setVs, Mi.Res.bind, Mi.Res.of, Mi.cmpD, Mi.tB, Mi.keep, Mi.move, Mi.vw, Pl.own_non, Pl.own_bl, Pl.own_int, Pl.own_str, Pl.own_tup, Pl.own_lst, Pl.own_dct, Pl.fz_non, Pl.fz_bl, Pl.fz_int, Pl.fz_str, Pl.fz_tup, Pl.fz_lst, Pl.fz_dct, Mi.asg, Mi.asgs, Mi.getPa, Mi.setPa, Mi.biD, Mi.isTy, Mi.seqI, Mi.fillIo, Mi.putIo, Mi.getVs, Mi.outF, Mi.envF, Mi.Fl.kill, Mi.D.isLst, Mi.binD, Mi.augD, fnWeb, webD, eqI]), exs_nx (e1 := [some (webD m ts), some (.int m), some (.tup (ts.map tieD)), none]) (by simp [Mi.exs, Mi.ex, Mi.ev, Mi.evs, Mi.evb, Mi.evc, Mi.evo, Mi.evk, Mi.evAnd, Mi.evOr, Mi.evm, Mi.evI, Mi.evJ, Mi.getV, Mi.setV, Mi.delV, Mi.delVs, Mi.setVs, Mi.Res.bind, Mi.Res.of, Mi.cmpD, Mi.tB, Mi.keep, Mi.move, Mi.vw, Pl.own_non, Pl.own_bl, Pl.own_int, Pl.own_str, Pl.own_tup, Pl.own_lst, Pl.own_dct, Pl.fz_non, Pl.fz_bl, Pl.fz_int, Pl.fz_str, Pl.fz_tup, Pl.fz_lst, Pl.fz_dct, Mi.asg, Mi.asgs, Mi.getPa, Mi.setPa, Mi.biD, Mi.isTy, Mi.seqI, Mi.fillIo, Mi.putIo, Mi.getVs, Mi.outF, Mi.envF, Mi.Fl.kill, Mi.D.isLst, Mi.binD, Mi.augD, fnWeb, webD]),
    exs_nx (e1 := [some (webD m ts), some (.int m), some (.tup (ts.map tieD)), none]) (by simp [Mi.exs, Mi.ex, Mi.ev, Mi.evs, Mi.evb, Mi.evc, Mi.evo, Mi.evk, Mi.evAnd, Mi.evOr, Mi.evm, Mi.evI, Mi.evJ, Mi.getV, Mi.setV, Mi.delV, Mi.delVs, Mi.setVs, Mi.Res.bind, Mi.Res.of, Mi.cmpD, Mi.tB, Mi.keep, Mi.move, Mi.vw, Pl.own_non, Pl.own_bl, Pl.own_int, Pl.own_str, Pl.own_tup, Pl.own_lst, Pl.own_dct, Pl.fz_non, Pl.fz_bl, Pl.fz_int, Pl.fz_str, Pl.fz_tup, Pl.fz_lst, Pl.fz_dct, Mi.asg, Mi.asgs, Mi.getPa, Mi.setPa, Mi.biD, Mi.isTy, Mi.seqI, Mi.fillIo, Mi.putIo, Mi.getVs, Mi.outF, Mi.envF, Mi.Fl.kill, Mi.D.isLst, Mi.binD, Mi.augD, fnWeb, w0, h0, m0]), exs_nx (e1 := [some (webD m ts), some (.int m), some (.tup (ts.map tieD)), none]) (by simp [Mi.exs, Mi.ex, Mi.ev, Mi.evs, Mi.evb, Mi.evc, Mi.evo, Mi.evk, Mi.evAnd, Mi.evOr, Mi.evm, Mi.evI, Mi.evJ, Mi.getV, Mi.setV, Mi.delV, Mi.delVs, Mi.setVs, Mi.Res.bind, Mi.Res.of, Mi.cmpD, Mi.tB, Mi.keep, Mi.move, Mi.vw, Pl.own_non, Pl.own_bl, Pl.own_int, Pl.own_str, Pl.own_tup, Pl.own_lst, Pl.own_dct, Pl.fz_non, Pl.fz_bl, Pl.fz_int, Pl.fz_str, Pl.fz_tup, Pl.fz_lst, Pl.fz_dct, Mi.asg, Mi.asgs, Mi.getPa, Mi.setPa, Mi.biD, Mi.isTy, Mi.seqI, Mi.fillIo, Mi.putIo, Mi.getVs, Mi.outF, Mi.envF, Mi.Fl.kill, Mi.D.isLst, Mi.binD, Mi.augD, fnWeb, h1, l0]),
    exs_nx (e1 := [some (webD m ts), some (.int m), some (.tup (ts.map tieD)), none]) (by
      show ex gl (runF gl P (n + 2)) (.ite (.nt (.bi .all [.lc [3] (.call t [.v 3, .v 1]) (.v 3) (.seq (.v 2)) none []])) [.ret (.c (.bl false))] []) _ = _
      rw [ex, ev, ev, evb, lc]
      have hm : ((ts.map tieD).map fun _ => (D.bl true).fz) = ts.map fun _ => D.bl true := by rw [List.map_map]; rfl
      rw [hm]
      simp [Mi.exs, Mi.ex, Mi.ev, Mi.evs, Mi.evb, Mi.evc, Mi.evo, Mi.evk, Mi.evAnd, Mi.evOr, Mi.evm, Mi.evI, Mi.evJ, Mi.getV, Mi.setV, Mi.delV, Mi.delVs, Mi.setVs, Mi.Res.bind, Mi.Res.of, Mi.cmpD, Mi.tB, Mi.keep, Mi.move, Mi.vw, Pl.own_non, Pl.own_bl, Pl.own_int, Pl.own_str, Pl.own_tup, Pl.own_lst, Pl.own_dct, Pl.fz_non, Pl.fz_bl, Pl.fz_int, Pl.fz_str, Pl.fz_tup, Pl.fz_lst, Pl.fz_dct, Mi.asg, Mi.asgs, Mi.getPa, Mi.setPa, Mi.biD, Mi.isTy, Mi.seqI, Mi.fillIo, Mi.putIo, Mi.getVs, Mi.outF, Mi.envF, Mi.Fl.kill, Mi.D.isLst, Mi.binD, Mi.augD, bls_map, all_true])]
  have hi : ∀ t : Tie, (tieD t).isTupI = true := fun _ => rfl
  simp [Mi.exs, Mi.ex, Mi.ev, Mi.evs, Mi.evb, Mi.evc, Mi.evo, Mi.evk, Mi.evAnd, Mi.evOr, Mi.evm, Mi.evI, Mi.evJ, Mi.getV, Mi.setV, Mi.delV, Mi.delVs, Mi.setVs, Mi.Res.bind, Mi.Res.of, Mi.cmpD, Mi.tB, Mi.keep, Mi.move, Mi.vw, Pl.own_non, Pl.own_bl, Pl.own_int, Pl.own_str, Pl.own_tup, Pl.own_lst, Pl.own_dct, Pl.fz_non, Pl.fz_bl, Pl.fz_int, Pl.fz_str, Pl.fz_tup, Pl.fz_lst, Pl.fz_dct, Mi.asg, Mi.asgs, Mi.getPa, Mi.setPa, Mi.biD, Mi.isTy, Mi.seqI, Mi.fillIo, Mi.putIo, Mi.getVs, Mi.outF, Mi.envF, Mi.Fl.kill, Mi.D.isLst, Mi.binD, Mi.augD, fnWeb, seq?, hi, l64, ld, eqI]
theorem run_tiesOf {b x f : Nat} (hf : P[f]? = some (fnTiesOf b x)) {m : Nat} {ts : List Tie} (h : runF gl P (n + 3) b [webD m ts] = .ok (.bl true, [])) : runF gl P (n + 4) f [webD m ts] = .ok (.tup (ts.map tieD), []) := by
  rw [runF_eq hf rfl]
  have e2 : webD m ts = .tup [.int m, .tup (ts.map tieD)] := rfl
  rw [e2] at h ⊢
  simp [Mi.exs, Mi.ex, Mi.ev, Mi.evs, Mi.evb, Mi.evc, Mi.evo, Mi.evk, Mi.evAnd, Mi.evOr, Mi.evm, Mi.evI, Mi.evJ, Mi.getV, Mi.setV, Mi.delV, Mi.delVs, Mi.setVs, Mi.Res.bind, Mi.Res.of, Mi.cmpD, Mi.tB, Mi.keep, Mi.move, Mi.vw, Pl.own_non, Pl.own_bl, Pl.own_int, Pl.own_str, Pl.own_tup, Pl.own_lst, Pl.own_dct, Pl.fz_non, Pl.fz_bl, Pl.fz_int, Pl.fz_str, Pl.fz_tup, Pl.fz_lst, Pl.fz_dct, Mi.asg, Mi.asgs, Mi.getPa, Mi.setPa, Mi.biD, Mi.isTy, Mi.seqI, Mi.fillIo, Mi.putIo, Mi.getVs, Mi.outF, Mi.envF, Mi.Fl.kill, Mi.D.isLst, Mi.binD, Mi.augD, fnTiesOf, h, ix2_1]
theorem run_placesOf {b x f : Nat} (hf : P[f]? = some (fnPlacesOf b x)) {m : Nat} {ts : List Tie} (hm : m ≤ 60) (h : runF gl P (n + 3) b [webD m ts] = .ok (.bl true, [])) : runF gl P (n + 4) f [webD m ts] = .ok (.tup ((List.range m).map nD), []) := by
  rw [runF_eq hf rfl]
  have e2 : webD m ts = .tup [.int m, .tup (ts.map tieD)] := rfl
  rw [e2] at h ⊢
  have hr := rngOk_nat (n := m) (by omega)
  have := rangeD0 m
  simp [Mi.exs, Mi.ex, Mi.ev, Mi.evs, Mi.evb, Mi.evc, Mi.evo, Mi.evk, Mi.evAnd, Mi.evOr, Mi.evm, Mi.evI, Mi.evJ, Mi.getV, Mi.setV, Mi.delV, Mi.delVs, Mi.setVs, Mi.Res.bind, Mi.Res.of, Mi.cmpD, Mi.tB, Mi.keep, Mi.move, Mi.vw, Pl.own_non, Pl.own_bl, Pl.own_int, Pl.own_str, Pl.own_tup, Pl.own_lst, Pl.own_dct, Pl.fz_non, Pl.fz_bl, Pl.fz_int, Pl.fz_str, Pl.fz_tup, Pl.fz_lst, Pl.fz_dct, Mi.asg, Mi.asgs, Mi.getPa, Mi.setPa, Mi.biD, Mi.isTy, Mi.seqI, Mi.fillIo, Mi.putIo, Mi.getVs, Mi.outF, Mi.envF, Mi.Fl.kill, Mi.D.isLst, Mi.binD, Mi.augD, fnPlacesOf, h, ix2_0, hr, this]
end
end Pl

set_option Elab.async false
set_option linter.all false
set_option maxRecDepth 100000
set_option maxHeartbeats 4000000
/-! Pw2: degrees, matched webs, partners -/
namespace Pl
open Mi
theorem forL_fold {α β : Type} {f : D → Env → Res Fl} {enc : α → D} {st : β → Env} {step : β → α → β} {I : β → Prop} : ∀ {xs : List α} {b : β}, (∀ x ∈ xs, ∀ b, I b → f (enc x) (st b) = .ok (.nx (st (step b x))) ∧ I (step b x)) → I b → forL f (xs.map enc) (st b) = .ok (.nx (st (xs.foldl step b))) ∧ I (xs.foldl step b)
  | [], b, _, h => ⟨by simp [forL], h⟩
  | x :: xs, b, hf, h => by
    obtain ⟨h1, h2⟩ := hf x List.mem_cons_self b h
    rw [List.map_cons, forL_nx h1, List.foldl_cons]
    exact forL_fold (fun y hy => hf y (List.mem_cons_of_mem _ hy)) h2
def ends (ts : List Tie) : List Nat := ts.flatMap fun t => [t.1, t.2]
def bump (ds : List Nat) (a : Nat) : List Nat := ds.set a (ds.getD a 0 + 1)
def degS (ds : List Nat) (t : Tie) : List Nat := bump (bump ds t.1) t.2
def degs (m : Nat) (ts : List Tie) : List Nat := ts.foldl degS (List.replicate m 0)
theorem bump_len (ds : List Nat) (a : Nat) : (bump ds a).length = ds.length := by simp [bump]
theorem bump_at (ds : List Nat) (a x : Nat) (h : a < ds.length) : (bump ds a).getD x 0 = ds.getD x 0 + if a = x then 1 else 0 := by
  unfold bump
  simp only [List.getD_eq_getElem?_getD, List.getElem?_set]
  by_cases e : a = x
  · subst e
    simp [h]
  · simp [e]
theorem degF_at : ∀ (ts : List Tie) (ds : List Nat) (x : Nat), (∀ t ∈ ts, t.1 < ds.length ∧ t.2 < ds.length) → (ts.foldl degS ds).getD x 0 = ds.getD x 0 + (ends ts).count x ∧ (ts.foldl degS ds).length = ds.length
  | [], ds, x, _ => by simp [ends]
  | t :: ts, ds, x, h => by
    have h0 := h t List.mem_cons_self
    have l1 : (degS ds t).length = ds.length := by simp [degS, bump_len]
    have ih := degF_at ts (degS ds t) x (fun u hu => by rw [l1]; exact h u (List.mem_cons_of_mem _ hu))
    rw [List.foldl_cons]
    refine ⟨?_, ih.2.trans l1⟩
    rw [ih.1]
    unfold degS
    rw [bump_at _ _ _ (by rw [bump_len]; exact h0.2), bump_at _ _ _ h0.1]
    show _ = ds.getD x 0 + (t.1 :: t.2 :: ends ts).count x
    rw [List.count_cons, List.count_cons]
    simp only [beq_iff_eq]
    omega
def Matched (m : Nat) (ts : List Tie) : Prop := ∀ x, x < m → (ends ts).count x = 1
theorem degs_one {m : Nat} {ts : List Tie} (h : WebOk m ts) (hm : Matched m ts) : degs m ts = List.replicate m 1 := by
  have hl := degF_at ts (List.replicate m 0) 0 (fun t ht => by
    have := h.tie t ht
    rw [List.length_replicate]
    omega)
  have l1 : (degs m ts).length = m := by
    have := hl.2
    rwa [List.length_replicate] at this
  apply List.ext_getElem
  · rw [l1, List.length_replicate]
  · intro x h1 h2
    have hx := (degF_at ts (List.replicate m 0) x (fun t ht => by
      have := h.tie t ht
      rw [List.length_replicate]
      omega)).1
    rw [hm x (by omega)] at hx
    have z : (List.replicate m 0).getD x 0 = 0 := by
      rw [List.getD_eq_getElem?_getD, List.getElem?_replicate]
      split <;> rfl
    have hx : (degs m ts).getD x 0 = (List.replicate m 0).getD x 0 + 1 := hx
    rw [z, List.getD_eq_getElem?_getD, List.getElem?_eq_getElem h1] at hx
    rw [List.getElem_replicate]
    exact hx
def parS (vs : List Nat) (t : Tie) : List Nat := (vs.set t.1 t.2).set t.2 t.1
def pars (m : Nat) (ts : List Tie) : List Nat := ts.foldl parS (List.replicate m 0)
def fnDegrees (p t : Nat) : Fn := ⟨1, 4, [],
  [.set (.v 1) (.bin .mul (.lst [.c (.int 0)]) (.bi .len [.call p [.v 0]])),
   .for (.tup [.v 2, .v 3]) (.seq (.call t [.v 0]))
    [.aix (.v 1) .add (.v 2) (.c (.int 1)),
     .aix (.v 1) .add (.v 3) (.c (.int 1))] [2, 3],
   .ret (.bi .tuple [.v 1])]⟩
def fnIsMatched (d : Nat) : Fn := ⟨1, 2, [],
  [.ret (.bi .all [.lc [1] (.cmp (.v 1) [.eq] [.c (.int 1)]) (.v 1) (.seq (.call d [.v 0])) none []])]⟩
def fnMatchedTies (t q x : Nat) : Fn := ⟨1, 2, [],
  [.set (.v 1) (.call t [.v 0]),
   .ite (.nt (.call q [.v 0]))
    [.rai x []]
    [],
   .ret (.v 1)]⟩
def fnPartners (d t : Nat) : Fn := ⟨1, 4, [],
  [.set (.v 1) (.bin .mul (.lst [.c (.int 0)]) (.bi .len [.call d [.v 0]])),
   .for (.tup [.v 2, .v 3]) (.seq (.call t [.v 0]))
    [.six (.v 1) (.v 2) (.v 3),
     .six (.v 1) (.v 3) (.v 2)] [2, 3],
   .ret (.bi .tuple [.v 1])]⟩
def fnNeed (w g x : Nat) : Fn := ⟨1, 1, [],
  [.ite (.nt (.call w [.v 0]))
    [.rai x [.neg (.c (.int 1))]]
    [],
   .ite (.nt (.cmp (.c (.int 0)) [.le, .le] [.v 0, .g g]))
    [.rai x [.v 0]]
    []]⟩
section
variable {gl : List D} {P : List Fn} {n : Nat} {cf : Nat → List D → Res (D × List D)}
theorem rep_nil {α : Type} (k : Nat) : rep ([] : List α) k = [] := by
  induction k with
  | zero => rfl
  | succ k ih => rw [rep, ih]; rfl
theorem rep_one {α : Type} (a : α) : ∀ k, rep [a] k = List.replicate k a
  | 0 => rfl
  | k + 1 => by
    rw [rep, rep_one a k]
    rfl
theorem ixN_nat {l k : Nat} (h : k < l) : ixN l (k : Int) = some k := by
  unfold ixN
  rw [if_pos (by omega), if_pos (by omega)]
  rfl
theorem ixD_nat {o : Bool} {l : List Nat} {k : Nat} (h : k < l.length) : ixD (.lst o (l.map nD)) (.int k) = some (.int (l.getD k 0 : Nat)) := by
  have : l[k]? = some (l.getD k 0) := by
    rw [List.getD_eq_getElem?_getD, List.getElem?_eq_getElem h]
    rfl
  rw [ixD, List.length_map, ixN_nat h]
  show (l.map nD)[k]? = _
  rw [List.getElem?_map, this]
  rfl
theorem ixT_nat {l : List Nat} {k : Nat} (h : k < l.length) : ixD (.tup (l.map nD)) (.int k) = some (.int (l.getD k 0 : Nat)) := by
  have : l[k]? = some (l.getD k 0) := by
    rw [List.getD_eq_getElem?_getD, List.getElem?_eq_getElem h]
    rfl
  rw [ixD, List.length_map, ixN_nat h]
  show (l.map nD)[k]? = _
  rw [List.getElem?_map, this]
  rfl
theorem setD_nat {l : List Nat} {k v : Nat} (h : k < l.length) : setD (.lst true (l.map nD)) (.int k) (.int v) = some (.lst true ((l.set k v).map nD)) := by
  rw [setD, List.length_map, ixN_nat h]
  show some (D.lst true ((l.map nD).set k (nD v))) = _
  rw [List.map_set]
theorem zeros_map (k : Nat) : (List.replicate k (.int 0) : List D) = (List.replicate k 0).map nD := by
  rw [List.map_replicate]
  rfl
theorem bin_rep {a : D} {m : Nat} (h : m ≤ 1000) : binD .mul (.lst true [a]) (.int m) = some (.lst true (List.replicate m a)) := by
  have c : ((-1000000 : Int) < m ∧ (m : Int) < 1000000) ∧ [a].length * (m : Int).toNat ≤ line := by
    refine ⟨⟨by omega, by omega⟩, ?_⟩
    have : [a].length = 1 := rfl
    rw [this, Int.toNat_natCast]
    unfold line
    omega
  simp only [binD]
  rw [if_pos c, rep_one, Int.toNat_natCast]
theorem run_degrees {p t f : Nat} (hf : P[f]? = some (fnDegrees p t)) {m : Nat} {ts : List Tie} (h : WebOk m ts) (hp : runF gl P (n + 4) p [webD m ts] = .ok (.tup ((List.range m).map nD), [])) (ht : runF gl P (n + 4) t [webD m ts] = .ok (.tup (ts.map tieD), [])) :
    runF gl P (n + 5) f [webD m ts] = .ok (.tup ((degs m ts).map nD), []) := by
  rw [runF_eq hf rfl]
  have e2 : webD m ts = .tup [.int m, .tup (ts.map tieD)] := rfl
  rw [e2] at hp ht ⊢
  have hm := h.m60
  have hb : binD .mul (.lst true [.int 0]) (.int m) = some (.lst true ((List.replicate m 0).map nD)) := by
    rw [bin_rep (by omega), zeros_map]
  generalize hw : D.tup [.int m, .tup (ts.map tieD)] = W at hp ht ⊢
  have hz : W.fz = W := by rw [← hw]; rfl
  have ho : W.own = false := by rw [← hw]; rfl
  have s1 : ex gl (runF gl P (n + 4)) (.set (.v 1) (.bin .mul (.lst [.c (.int 0)]) (.bi .len [.call p [.v 0]]))) [some W, none, none, none] = .ok (.nx [some W, some (.lst true ((List.replicate m 0).map nD)), none, none]) := by
    have : biD .len [.tup ((List.range m).map nD)] = some (.int m) := by simp [biD]
    exact ex_setv (ev_bin (x := .lst true [.int 0]) (e1 := [some W, none, none, none]) (y := .int m) (e2 := [some W, none, none, none]) (by simp [ev, evs, Res.bind, keep, vw, fz_int]) (by simp [ev, evs, evb, getV, keep, vw, ho, hz, fillIo, putIo, Res.bind, Res.of, hp, this]) hb) (.inl rfl)
  have s2 : evI gl (runF gl P (n + 4)) (.seq (.call t [.v 0])) [some W, some (.lst true ((List.replicate m 0).map nD)), none, none] = .ok (ts.map tieD, [some W, some (.lst true ((List.replicate m 0).map nD)), none, none]) := by
    simp [evI, ev, evs, getV, keep, vw, ho, hz, fillIo, putIo, Res.bind, Res.of, ht, seqI]
  have s3 := (forL_fold (f := fun x e => (Res.of (asg (.tup [.v 2, .v 3]) x e)).bind fun e2 => (exs gl (runF gl P (n + 4)) [.aix (.v 1) .add (.v 2) (.c (.int 1)), .aix (.v 1) .add (.v 3) (.c (.int 1))] e2).bind fun f => .ok (f.kill [2, 3])) (enc := tieD)
    (st := fun ds => [some W, some (.lst true (ds.map nD)), none, none]) (step := degS) (I := fun ds => ds.length = m) (xs := ts) (b := List.replicate m 0) (fun x hx ds hd => by
    have hx := h.tie x hx
    refine ⟨?_, by simp [degS, bump_len, hd]⟩
    obtain ⟨a, b⟩ := x
    have i1 := @ixD_nat true ds a (by simp only at hx; omega)
    have i2 := @setD_nat ds a (ds.getD a 0 + 1) (by simp only at hx; omega)
    have i3 := @ixD_nat true (bump ds a) b (by rw [bump_len]; simp only at hx; omega)
    have i4 := @setD_nat (bump ds a) b ((bump ds a).getD b 0 + 1) (by rw [bump_len]; simp only at hx; omega)
    have i2 : setD (.lst true (ds.map nD)) (.int a) (.int ((ds.getD a 0 : Nat) + 1)) = some (.lst true ((bump ds a).map nD)) := i2
    have i4 : setD (.lst true ((bump ds a).map nD)) (.int b) (.int (((bump ds a).getD b 0 : Nat) + 1)) = some (.lst true ((degS ds (a, b)).map nD)) := i4
    have e : tieD (a, b) = .tup [.int a, .int b] := rfl
    rw [e]
    generalize (bump ds a).map nD = B1 at i2 i3 i4
    generalize (degS ds (a, b)).map nD = B2 at i4 ⊢
    generalize ds.getD a 0 = v1 at i1 i2
    generalize (bump ds a).getD b 0 = v2 at i3 i4
    simp [asg, asgs, Res.of, Res.bind, setV, exs, ex, ev, getPa, getV, D.isLst, i1, i2, i3, i4, augD, binD, setPa, Fl.kill, delVs, delV]) (List.length_replicate ..)).1
  unfold fnDegrees
  show (exs gl _ _ [some W, none, none, none]).bind _ = _
  rw [exs_nx s1, exs_nx (by rw [ex_for s2]; exact s3)]
  show (exs gl _ _ [some W, some (.lst true ((degs m ts).map nD)), none, none]).bind _ = _
  generalize (degs m ts).map nD = Z
  simp [Mi.exs, Mi.ex, Mi.ev, Mi.evs, Mi.evb, Mi.evc, Mi.evo, Mi.evk, Mi.evAnd, Mi.evOr, Mi.evm, Mi.evI, Mi.evJ, Mi.getV, Mi.setV, Mi.delV, Mi.delVs, Mi.setVs, Mi.Res.bind, Mi.Res.of, Mi.cmpD, Mi.tB, Mi.keep, Mi.move, Mi.vw, Pl.own_non, Pl.own_bl, Pl.own_int, Pl.own_str, Pl.own_tup, Pl.own_lst, Pl.own_dct, Pl.fz_non, Pl.fz_bl, Pl.fz_int, Pl.fz_str, Pl.fz_tup, Pl.fz_lst, Pl.fz_dct, Mi.asg, Mi.asgs, Mi.getPa, Mi.setPa, Mi.biD, Mi.isTy, Mi.seqI, Mi.fillIo, Mi.putIo, Mi.getVs, Mi.outF, Mi.envF, Mi.Fl.kill, Mi.D.isLst, Mi.binD, Mi.augD]
theorem run_isMatched {d f : Nat} (hf : P[f]? = some (fnIsMatched d)) {m : Nat} {ts : List Tie} (hm : m ≤ 60) (hd : runF gl P (n + 5) d [webD m ts] = .ok (.tup ((List.replicate m 1).map nD), [])) : runF gl P (n + 6) f [webD m ts] = .ok (.bl true, []) := by
  rw [runF_eq hf rfl]
  have e2 : webD m ts = .tup [.int m, .tup (ts.map tieD)] := rfl
  rw [e2] at hd ⊢
  have lc : ev gl (runF gl P (n + 5)) (.lc [1] (.cmp (.v 1) [.eq] [.c (.int 1)]) (.v 1) (.seq (.call d [.v 0])) none []) [some (.tup [.int m, .tup (ts.map tieD)]), none] = .ok (.lst true (((List.replicate m 1).map nD).map fun x => (D.bl true).fz), [some (.tup [.int m, .tup (ts.map tieD)]), none]) := by
    refine ev_lcP (g := fun _ => .bl true) (o := none) ?_ ?_ rfl (fun d z => by cases z) (fun x hx => ?_) (.inl rfl)
    · simp [Mi.exs, Mi.ex, Mi.ev, Mi.evs, Mi.evb, Mi.evc, Mi.evo, Mi.evk, Mi.evAnd, Mi.evOr, Mi.evm, Mi.evI, Mi.evJ, Mi.getV, Mi.setV, Mi.delV, Mi.delVs, Mi.setVs, Mi.Res.bind, Mi.Res.of, Mi.cmpD, Mi.tB, Mi.keep, Mi.move, Mi.vw, Pl.own_non, Pl.own_bl, Pl.own_int, Pl.own_str, Pl.own_tup, Pl.own_lst, Pl.own_dct, Pl.fz_non, Pl.fz_bl, Pl.fz_int, Pl.fz_str, Pl.fz_tup, Pl.fz_lst, Pl.fz_dct, Mi.asg, Mi.asgs, Mi.getPa, Mi.setPa, Mi.biD, Mi.isTy, Mi.seqI, Mi.fillIo, Mi.putIo, Mi.getVs, Mi.outF, Mi.envF, Mi.Fl.kill, Mi.D.isLst, Mi.binD, Mi.augD, hd]
    · simp
      omega
    · obtain ⟨a, ha, rfl⟩ := List.mem_map.mp hx
      have := (List.mem_replicate.mp ha).2
      subst this
      simp [Mi.exs, Mi.ex, Mi.ev, Mi.evs, Mi.evb, Mi.evc, Mi.evo, Mi.evk, Mi.evAnd, Mi.evOr, Mi.evm, Mi.evI, Mi.evJ, Mi.getV, Mi.setV, Mi.delV, Mi.delVs, Mi.setVs, Mi.Res.bind, Mi.Res.of, Mi.cmpD, Mi.tB, Mi.keep, Mi.move, Mi.vw, Pl.own_non, Pl.own_bl, Pl.own_int, Pl.own_str, Pl.own_tup, Pl.own_lst, Pl.own_dct, Pl.fz_non, Pl.fz_bl, Pl.fz_int, Pl.fz_str, Pl.fz_tup, Pl.fz_lst, Pl.fz_dct, Mi.asg, Mi.asgs, Mi.getPa, Mi.setPa, Mi.biD, Mi.isTy, Mi.seqI, Mi.fillIo, Mi.putIo, Mi.getVs, Mi.outF, Mi.envF, Mi.Fl.kill, Mi.D.isLst, Mi.binD, Mi.augD, nD, eqI]
  unfold fnIsMatched
  show (exs gl _ [.ret (.bi .all [.lc [1] (.cmp (.v 1) [.eq] [.c (.int 1)]) (.v 1) (.seq (.call d [.v 0])) none []])] [some (.tup [.int m, .tup (ts.map tieD)]), none]).bind _ = _
  rw [exs, ex, ev, evb, lc]
  have hm : (((List.replicate m 1).map nD).map fun _ => (D.bl true).fz) = (List.replicate m 1).map fun _ => D.bl true := by rw [List.map_map]; rfl
  rw [hm]
  have := bls_map (List.replicate m 1)
  generalize ((List.replicate m 1).map fun _ => D.bl true) = Z at this ⊢
  simp [Mi.exs, Mi.ex, Mi.ev, Mi.evs, Mi.evb, Mi.evc, Mi.evo, Mi.evk, Mi.evAnd, Mi.evOr, Mi.evm, Mi.evI, Mi.evJ, Mi.getV, Mi.setV, Mi.delV, Mi.delVs, Mi.setVs, Mi.Res.bind, Mi.Res.of, Mi.cmpD, Mi.tB, Mi.keep, Mi.move, Mi.vw, Pl.own_non, Pl.own_bl, Pl.own_int, Pl.own_str, Pl.own_tup, Pl.own_lst, Pl.own_dct, Pl.fz_non, Pl.fz_bl, Pl.fz_int, Pl.fz_str, Pl.fz_tup, Pl.fz_lst, Pl.fz_dct, Mi.asg, Mi.asgs, Mi.getPa, Mi.setPa, Mi.biD, Mi.isTy, Mi.seqI, Mi.fillIo, Mi.putIo, Mi.getVs, Mi.outF, Mi.envF, Mi.Fl.kill, Mi.D.isLst, Mi.binD, Mi.augD, this]
theorem run_matchedTies {t q x f : Nat} (hf : P[f]? = some (fnMatchedTies t q x)) {m : Nat} {ts : List Tie} (ht : runF gl P (n + 6) t [webD m ts] = .ok (.tup (ts.map tieD), [])) (hq : runF gl P (n + 6) q [webD m ts] = .ok (.bl true, [])) :
    runF gl P (n + 7) f [webD m ts] = .ok (.tup (ts.map tieD), []) := by
  rw [runF_eq hf rfl]
  have e2 : webD m ts = .tup [.int m, .tup (ts.map tieD)] := rfl
  rw [e2] at ht hq ⊢
  simp [Mi.exs, Mi.ex, Mi.ev, Mi.evs, Mi.evb, Mi.evc, Mi.evo, Mi.evk, Mi.evAnd, Mi.evOr, Mi.evm, Mi.evI, Mi.evJ, Mi.getV, Mi.setV, Mi.delV, Mi.delVs, Mi.setVs, Mi.Res.bind, Mi.Res.of, Mi.cmpD, Mi.tB, Mi.keep, Mi.move, Mi.vw, Pl.own_non, Pl.own_bl, Pl.own_int, Pl.own_str, Pl.own_tup, Pl.own_lst, Pl.own_dct, Pl.fz_non, Pl.fz_bl, Pl.fz_int, Pl.fz_str, Pl.fz_tup, Pl.fz_lst, Pl.fz_dct, Mi.asg, Mi.asgs, Mi.getPa, Mi.setPa, Mi.biD, Mi.isTy, Mi.seqI, Mi.fillIo, Mi.putIo, Mi.getVs, Mi.outF, Mi.envF, Mi.Fl.kill, Mi.D.isLst, Mi.binD, Mi.augD, fnMatchedTies, ht, hq]
theorem run_partners {d t f : Nat} (hf : P[f]? = some (fnPartners d t)) {m : Nat} {ts : List Tie} (h : WebOk m ts) {dd : List Nat} (hdd : dd.length = m) (hd : runF gl P (n + 7) d [webD m ts] = .ok (.tup (dd.map nD), [])) (ht : runF gl P (n + 7) t [webD m ts] = .ok (.tup (ts.map tieD), [])) :
    runF gl P (n + 8) f [webD m ts] = .ok (.tup ((pars m ts).map nD), []) := by
  rw [runF_eq hf rfl]
  have e2 : webD m ts = .tup [.int m, .tup (ts.map tieD)] := rfl
  rw [e2] at hd ht ⊢
  have hm := h.m60
  have hb : binD .mul (.lst true [.int 0]) (.int m) = some (.lst true ((List.replicate m 0).map nD)) := by
    rw [bin_rep (by omega), zeros_map]
  generalize hw : D.tup [.int m, .tup (ts.map tieD)] = W at hd ht ⊢
  have hz : W.fz = W := by rw [← hw]; rfl
  have ho : W.own = false := by rw [← hw]; rfl
  have s1 : ex gl (runF gl P (n + 7)) (.set (.v 1) (.bin .mul (.lst [.c (.int 0)]) (.bi .len [.call d [.v 0]]))) [some W, none, none, none] = .ok (.nx [some W, some (.lst true ((List.replicate m 0).map nD)), none, none]) := by
    have : biD .len [.tup (dd.map nD)] = some (.int m) := by simp [biD, hdd]
    exact ex_setv (ev_bin (x := .lst true [.int 0]) (e1 := [some W, none, none, none]) (y := .int m) (e2 := [some W, none, none, none]) (by simp [ev, evs, Res.bind, keep, vw, fz_int]) (by simp [ev, evs, evb, getV, keep, vw, ho, hz, fillIo, putIo, Res.bind, Res.of, hd, this]) hb) (.inl rfl)
  have s2 : evI gl (runF gl P (n + 7)) (.seq (.call t [.v 0])) [some W, some (.lst true ((List.replicate m 0).map nD)), none, none] = .ok (ts.map tieD, [some W, some (.lst true ((List.replicate m 0).map nD)), none, none]) := by
    simp [evI, ev, evs, getV, keep, vw, ho, hz, fillIo, putIo, Res.bind, Res.of, ht, seqI]
  have s3 := (forL_fold (f := fun x e => (Res.of (asg (.tup [.v 2, .v 3]) x e)).bind fun e2 => (exs gl (runF gl P (n + 7)) [.six (.v 1) (.v 2) (.v 3), .six (.v 1) (.v 3) (.v 2)] e2).bind fun f => .ok (f.kill [2, 3])) (enc := tieD)
    (st := fun ds => [some W, some (.lst true (ds.map nD)), none, none]) (step := parS) (I := fun ds => ds.length = m) (xs := ts) (b := List.replicate m 0) (fun x hx ds hd => by
    have hx := h.tie x hx
    refine ⟨?_, by simp [parS, hd]⟩
    obtain ⟨a, b⟩ := x
    have i2 := @setD_nat ds a b (by simp only at hx; omega)
    have i4 := @setD_nat (ds.set a b) b a (by rw [List.length_set]; simp only at hx; omega)
    have i4 : setD (.lst true ((ds.set a b).map nD)) (.int b) (.int a) = some (.lst true ((parS ds (a, b)).map nD)) := i4
    have e : tieD (a, b) = .tup [.int a, .int b] := rfl
    rw [e]
    generalize (ds.set a b).map nD = B1 at i2 i4
    generalize (parS ds (a, b)).map nD = B2 at i4 ⊢
    simp [asg, asgs, Res.of, Res.bind, setV, exs, ex, ev, getPa, getV, D.isLst, i2, i4, setPa, Fl.kill, delVs, delV, keep, vw, own_int, fz_int]) (List.length_replicate ..)).1
  unfold fnPartners
  show (exs gl _ _ [some W, none, none, none]).bind _ = _
  rw [exs_nx s1, exs_nx (by rw [ex_for s2]; exact s3)]
  show (exs gl _ _ [some W, some (.lst true ((pars m ts).map nD)), none, none]).bind _ = _
  generalize (pars m ts).map nD = Z
  simp [Mi.exs, Mi.ex, Mi.ev, Mi.evs, Mi.evb, Mi.evc, Mi.evo, Mi.evk, Mi.evAnd, Mi.evOr, Mi.evm, Mi.evI, Mi.evJ, Mi.getV, Mi.setV, Mi.delV, Mi.delVs, Mi.setVs, Mi.Res.bind, Mi.Res.of, Mi.cmpD, Mi.tB, Mi.keep, Mi.move, Mi.vw, Pl.own_non, Pl.own_bl, Pl.own_int, Pl.own_str, Pl.own_tup, Pl.own_lst, Pl.own_dct, Pl.fz_non, Pl.fz_bl, Pl.fz_int, Pl.fz_str, Pl.fz_tup, Pl.fz_lst, Pl.fz_dct, Mi.asg, Mi.asgs, Mi.getPa, Mi.setPa, Mi.biD, Mi.isTy, Mi.seqI, Mi.fillIo, Mi.putIo, Mi.getVs, Mi.outF, Mi.envF, Mi.Fl.kill, Mi.D.isLst, Mi.binD, Mi.augD]
theorem run_need {w g x f : Nat} (hf : P[f]? = some (fnNeed w g x)) {k m : Int} (hw : runF gl P (n + 1) w [.int m] = .ok (.bl true, [])) (hg : gl[g]? = some (.int k)) (h0 : 0 ≤ m) (h1 : m ≤ k) : runF gl P (n + 2) f [.int m] = .ok (.non, []) := by
  rw [runF_eq hf rfl]
  simp [Mi.exs, Mi.ex, Mi.ev, Mi.evs, Mi.evb, Mi.evc, Mi.evo, Mi.evk, Mi.evAnd, Mi.evOr, Mi.evm, Mi.evI, Mi.evJ, Mi.getV, Mi.setV, Mi.delV, Mi.delVs, Mi.setVs, Mi.Res.bind, Mi.Res.of, Mi.cmpD, Mi.tB, Mi.keep, Mi.move, Mi.vw, Pl.own_non, Pl.own_bl, Pl.own_int, Pl.own_str, Pl.own_tup, Pl.own_lst, Pl.own_dct, Pl.fz_non, Pl.fz_bl, Pl.fz_int, Pl.fz_str, Pl.fz_tup, Pl.fz_lst, Pl.fz_dct, Mi.asg, Mi.asgs, Mi.getPa, Mi.setPa, Mi.biD, Mi.isTy, Mi.seqI, Mi.fillIo, Mi.putIo, Mi.getVs, Mi.outF, Mi.envF, Mi.Fl.kill, Mi.D.isLst, Mi.binD, Mi.augD, fnNeed, hw, hg, h0, h1]
theorem run_need_far {w g x f : Nat} (hf : P[f]? = some (fnNeed w g x)) {k m : Int} (hw : runF gl P (n + 1) w [.int m] = .ok (.bl true, [])) (hg : gl[g]? = some (.int k)) (h1 : ¬ (0 ≤ m ∧ m ≤ k)) : runF gl P (n + 2) f [.int m] = .exc x [.int m] := by
  rw [runF_eq hf rfl]
  by_cases h0 : 0 ≤ m
  · have h2 : ¬ m ≤ k := fun z => h1 ⟨h0, z⟩
    simp [Mi.exs, Mi.ex, Mi.ev, Mi.evs, Mi.evb, Mi.evc, Mi.evo, Mi.evk, Mi.evAnd, Mi.evOr, Mi.evm, Mi.evI, Mi.evJ, Mi.getV, Mi.setV, Mi.delV, Mi.delVs, Mi.setVs, Mi.Res.bind, Mi.Res.of, Mi.cmpD, Mi.tB, Mi.keep, Mi.move, Mi.vw, Pl.own_non, Pl.own_bl, Pl.own_int, Pl.own_str, Pl.own_tup, Pl.own_lst, Pl.own_dct, Pl.fz_non, Pl.fz_bl, Pl.fz_int, Pl.fz_str, Pl.fz_tup, Pl.fz_lst, Pl.fz_dct, Mi.asg, Mi.asgs, Mi.getPa, Mi.setPa, Mi.biD, Mi.isTy, Mi.seqI, Mi.fillIo, Mi.putIo, Mi.getVs, Mi.outF, Mi.envF, Mi.Fl.kill, Mi.D.isLst, Mi.binD, Mi.augD, fnNeed, hw, hg, h0, h2, D.scal]
  · simp [Mi.exs, Mi.ex, Mi.ev, Mi.evs, Mi.evb, Mi.evc, Mi.evo, Mi.evk, Mi.evAnd, Mi.evOr, Mi.evm, Mi.evI, Mi.evJ, Mi.getV, Mi.setV, Mi.delV, Mi.delVs, Mi.setVs, Mi.Res.bind, Mi.Res.of, Mi.cmpD, Mi.tB, Mi.keep, Mi.move, Mi.vw, Pl.own_non, Pl.own_bl, Pl.own_int, Pl.own_str, Pl.own_tup, Pl.own_lst, Pl.own_dct, Pl.fz_non, Pl.fz_bl, Pl.fz_int, Pl.fz_str, Pl.fz_tup, Pl.fz_lst, Pl.fz_dct, Mi.asg, Mi.asgs, Mi.getPa, Mi.setPa, Mi.biD, Mi.isTy, Mi.seqI, Mi.fillIo, Mi.putIo, Mi.getVs, Mi.outF, Mi.envF, Mi.Fl.kill, Mi.D.isLst, Mi.binD, Mi.augD, fnNeed, hw, hg, h0, D.scal]
end
end Pl

set_option Elab.async false
set_option linter.all false
set_option maxRecDepth 100000
set_option maxHeartbeats 4000000
/-! Pm1: matched webs and their numbers, plainly -/
namespace Pl
open Mi
/-- 1 · 3 · .. (n factors) -/
def odN : Nat → Nat
  | 0 => 1
  | n + 1 => odN n * (2 * n + 1)
theorem od_cast : ∀ n, ((odN n : Nat) : Int) = od n
  | 0 => rfl
  | n + 1 => by
    rw [odN, od, ← od_cast n]
    simp
theorem odN_pos : ∀ n, 0 < odN n
  | 0 => by decide
  | n + 1 => Nat.mul_pos (odN_pos n) (by omega)
def mat : Nat → Nat → List Nat → List Tie
  | 0, _, _ => []
  | _ + 1, _, [] => []
  | n + 1, r, a :: l => (a, l.getD (r / odN n) 0) :: mat n (r % odN n) (l.eraseIdx (r / odN n))
def num (V : Nat → Nat) : Nat → List Nat → Nat
  | 0, _ => 0
  | _ + 1, [] => 0
  | n + 1, a :: l => l.idxOf (V a) * odN n + num V n (l.eraseIdx (l.idxOf (V a)))
theorem div_lt {r n : Nat} (h : r < odN (n + 1)) : r / odN n < 2 * n + 1 := by
  rw [Nat.div_lt_iff_lt_mul (odN_pos n)]
  rw [odN, Nat.mul_comm] at h
  exact h
theorem erase_perm : ∀ (l : List Nat) (k : Nat), k < l.length → (l.getD k 0 :: l.eraseIdx k).Perm l
  | [], k, h => by cases h
  | a :: l, 0, _ => .refl _
  | a :: l, k + 1, h => by
    have := erase_perm l k (by simpa using h)
    show (l.getD k 0 :: a :: l.eraseIdx k).Perm (a :: l)
    exact (List.Perm.swap ..).trans (this.cons a)
theorem ends_cons (t : Tie) (ts : List Tie) : ends (t :: ts) = t.1 :: t.2 :: ends ts := rfl
theorem erase_len {l : List Nat} {k n : Nat} (hl : l.length = 2 * n + 1) (hk : k < 2 * n + 1) : (l.eraseIdx k).length = 2 * n := by
  rw [List.length_eraseIdx, if_pos (by omega)]
  omega
theorem mat_perm : ∀ (n r : Nat) (l : List Nat), l.length = 2 * n → r < odN n → (ends (mat n r l)).Perm l
  | 0, r, l, hl, _ => by
    have : l = [] := List.eq_nil_of_length_eq_zero (by omega)
    subst this
    exact .refl _
  | n + 1, r, [], hl, _ => by simp at hl
  | n + 1, r, a :: l, hl, hr => by
    have hk := div_lt hr
    have hl : l.length = 2 * n + 1 := by simp at hl; omega
    have ih := mat_perm n (r % odN n) (l.eraseIdx (r / odN n)) (erase_len hl hk) (Nat.mod_lt _ (odN_pos n))
    rw [mat, ends_cons]
    exact ((ih.cons _).trans (erase_perm l _ (by omega))).cons a
theorem mat_len : ∀ (n r : Nat) (l : List Nat), l.length = 2 * n → r < odN n → (mat n r l).length = n
  | 0, r, l, _, _ => rfl
  | n + 1, r, [], hl, _ => by simp at hl
  | n + 1, r, a :: l, hl, hr => by
    have hk := div_lt hr
    have hl : l.length = 2 * n + 1 := by simp at hl; omega
    rw [mat, List.length_cons, mat_len n _ _ (erase_len hl hk) (Nat.mod_lt _ (odN_pos n))]
theorem mem_ends {t : Tie} {ts : List Tie} (h : t ∈ ts) : t.1 ∈ ends ts ∧ t.2 ∈ ends ts := by
  unfold ends
  rw [List.mem_flatMap, List.mem_flatMap]
  exact ⟨⟨t, h, by simp⟩, ⟨t, h, by simp⟩⟩
theorem of_ends {x : Nat} {ts : List Tie} (h : x ∈ ends ts) : ∃ t ∈ ts, x = t.1 ∨ x = t.2 := by
  unfold ends at h
  rw [List.mem_flatMap] at h
  obtain ⟨t, h1, h2⟩ := h
  refine ⟨t, h1, ?_⟩
  simpa using h2
theorem getD_mem {l : List Nat} {k : Nat} (h : k < l.length) : l.getD k 0 ∈ l := by
  rw [List.getD_eq_getElem?_getD, List.getElem?_eq_getElem h]
  exact List.getElem_mem h
theorem mat_sorted : ∀ (n r : Nat) (l : List Nat), l.length = 2 * n → r < odN n → l.Pairwise (· < ·) → (mat n r l).Pairwise (fun s t => s.1 < t.1) ∧ ∀ t ∈ mat n r l, t.1 < t.2
  | 0, r, l, hl, _, _ => ⟨.nil, fun t ht => by cases ht⟩
  | n + 1, r, [], hl, _, _ => by simp at hl
  | n + 1, r, a :: l, hl, hr, hs => by
    have hk := div_lt hr
    have hl : l.length = 2 * n + 1 := by simp at hl; omega
    have hs := List.pairwise_cons.mp hs
    have l2 := erase_len hl hk
    have r2 := Nat.mod_lt r (odN_pos n)
    have ih := mat_sorted n (r % odN n) (l.eraseIdx (r / odN n)) l2 r2 (hs.2.sublist (List.eraseIdx_sublist ..))
    have hp := mat_perm n (r % odN n) (l.eraseIdx (r / odN n)) l2 r2
    rw [mat]
    refine ⟨List.pairwise_cons.mpr ⟨fun t ht => ?_, ih.1⟩, fun t ht => ?_⟩
    · exact hs.1 _ ((List.eraseIdx_sublist ..).subset (hp.subset (mem_ends ht).1))
    · rcases List.mem_cons.mp ht with rfl | ht
      · exact hs.1 _ (getD_mem (by omega))
      · exact ih.2 t ht
/-- V is read from ties -/
def Ag (V : Nat → Nat) (ts : List Tie) : Prop := ∀ t ∈ ts, V t.1 = t.2 ∧ V t.2 = t.1
theorem idx_getD {l : List Nat} {k : Nat} (hd : l.Nodup) (h : k < l.length) : l.idxOf (l.getD k 0) = k := by
  have : l.getD k 0 = l[k] := by
    rw [List.getD_eq_getElem?_getD, List.getElem?_eq_getElem h]
    rfl
  rw [this]
  exact hd.idxOf_getElem k h
theorem num_mat {V : Nat → Nat} : ∀ (n r : Nat) (l : List Nat), l.length = 2 * n → r < odN n → l.Nodup → Ag V (mat n r l) → num V n l = r
  | 0, r, l, _, hr, _, _ => by
    rw [odN] at hr
    rw [num]
    omega
  | n + 1, r, [], hl, _, _, _ => by simp at hl
  | n + 1, r, a :: l, hl, hr, hd, hv => by
    have hk := div_lt hr
    have hl : l.length = 2 * n + 1 := by simp at hl; omega
    have hd := List.nodup_cons.mp hd
    rw [mat] at hv
    have ha := (hv _ List.mem_cons_self).1
    simp only at ha
    have ih := num_mat n (r % odN n) (l.eraseIdx (r / odN n)) (erase_len hl hk) (Nat.mod_lt _ (odN_pos n)) (hd.2.sublist (List.eraseIdx_sublist ..)) (fun t ht => hv t (List.mem_cons_of_mem _ ht))
    rw [num, ha, idx_getD hd.2 (by omega), ih, Nat.mul_comm]
    exact Nat.div_add_mod ..
/-- V pairs the items of l -/
def Pairs (V : Nat → Nat) (l : List Nat) : Prop := ∀ x ∈ l, V x ∈ l ∧ V x ≠ x ∧ V (V x) = x
theorem pairs_erase {V : Nat → Nat} {a : Nat} {l : List Nat} (hd : (a :: l).Nodup) (h : Pairs V (a :: l)) : V a ∈ l ∧ Pairs V (l.eraseIdx (l.idxOf (V a))) := by
  have ha := h a List.mem_cons_self
  have h1 : V a ∈ l := by
    rcases List.mem_cons.mp ha.1 with z | z
    · exact absurd z ha.2.1
    · exact z
  have hd := List.nodup_cons.mp hd
  have hi := List.idxOf_lt_length_iff.mpr h1
  have hg : l.getD (l.idxOf (V a)) 0 = V a := by
    rw [List.getD_eq_getElem?_getD, List.getElem?_eq_getElem hi]
    exact List.getElem_idxOf hi
  have hp := erase_perm l _ hi
  rw [hg] at hp
  have hn := List.nodup_cons.mp (hp.nodup_iff.mpr hd.2)
  refine ⟨h1, fun x hx => ?_⟩
  have hxl : x ∈ l := (List.eraseIdx_sublist ..).subset hx
  have h2 := h x (List.mem_cons_of_mem _ hxl)
  refine ⟨?_, h2.2⟩
  have h3 : V x ∈ l := by
    rcases List.mem_cons.mp h2.1 with z | z
    · exfalso
      have : V a = x := by rw [← z, h2.2.2]
      exact hn.1 (this ▸ hx)
    · exact z
  rcases List.mem_cons.mp (hp.symm.subset h3) with z | z
  · exfalso
    have : x = a := by rw [← h2.2.2, z, ha.2.2]
    exact hd.1 (this ▸ hxl)
  · exact z
theorem num_ok {V : Nat → Nat} : ∀ (n : Nat) (l : List Nat), l.length = 2 * n → l.Nodup → Pairs V l → num V n l < odN n ∧ ∀ t ∈ mat n (num V n l) l, V t.1 = t.2
  | 0, l, _, _, _ => ⟨by rw [num, odN]; decide, fun t ht => by cases ht⟩
  | n + 1, [], hl, _, _ => by simp at hl
  | n + 1, a :: l, hl, hd, hv => by
    have hl : l.length = 2 * n + 1 := by simp at hl; omega
    have h1 := pairs_erase hd hv
    have hi := List.idxOf_lt_length_iff.mpr h1.1
    have hg : l.getD (l.idxOf (V a)) 0 = V a := by
      rw [List.getD_eq_getElem?_getD, List.getElem?_eq_getElem hi]
      exact List.getElem_idxOf hi
    have hd := List.nodup_cons.mp hd
    have ih := num_ok n (l.eraseIdx (l.idxOf (V a))) (erase_len hl (by omega)) (hd.2.sublist (List.eraseIdx_sublist ..)) h1.2
    have hdiv : num V (n + 1) (a :: l) / odN n = l.idxOf (V a) := by
      rw [num, Nat.mul_comm, Nat.mul_add_div (odN_pos n), Nat.div_eq_of_lt ih.1, Nat.add_zero]
    have hmod : num V (n + 1) (a :: l) % odN n = num V n (l.eraseIdx (l.idxOf (V a))) := by
      rw [num, Nat.mul_comm, Nat.mul_add_mod, Nat.mod_eq_of_lt ih.1]
    refine ⟨?_, ?_⟩
    · rw [num, odN]
      have : (l.idxOf (V a) + 1) * odN n ≤ (2 * n + 1) * odN n := Nat.mul_le_mul_right _ (by omega)
      rw [Nat.add_mul] at this
      rw [Nat.mul_comm (odN n)]
      omega
    · rw [mat, hdiv, hmod, hg]
      intro t ht
      rcases List.mem_cons.mp ht with rfl | ht
      · rfl
      · exact ih.2 t ht
theorem mat_lex {V W : Nat → Nat} : ∀ (n r q : Nat) (l : List Nat), l.length = 2 * n → r < q → q < odN n → l.Pairwise (· < ·) → Ag V (mat n r l) → Ag W (mat n q l) → ∃ p ∈ l, V p < W p ∧ ∀ x ∈ l, x < p → V x = W x
  | 0, r, q, l, _, h1, h2, _, _, _ => by
    rw [odN] at h2
    omega
  | n + 1, r, q, [], hl, _, _, _, _, _ => by simp at hl
  | n + 1, r, q, a :: l, hl, h1, h2, hs, hv, hw => by
    have hk := div_lt (show r < odN (n + 1) by omega)
    have hj := div_lt h2
    have hl : l.length = 2 * n + 1 := by simp at hl; omega
    have hs := List.pairwise_cons.mp hs
    rw [mat] at hv hw
    have ha := hv _ List.mem_cons_self
    have hb := hw _ List.mem_cons_self
    simp only at ha hb
    have hle : r / odN n ≤ q / odN n := Nat.div_le_div_right (by omega)
    by_cases he : r / odN n = q / odN n
    · rw [he] at hv ha
      have hm : r % odN n < q % odN n := by
        have e1 := Nat.div_add_mod r (odN n)
        have e2 := Nat.div_add_mod q (odN n)
        rw [he] at e1
        omega
      obtain ⟨p, p1, p2, p3⟩ := mat_lex n (r % odN n) (q % odN n) (l.eraseIdx (q / odN n)) (erase_len hl hj) hm (Nat.mod_lt _ (odN_pos n)) (hs.2.sublist (List.eraseIdx_sublist ..)) (fun t ht => hv t (List.mem_cons_of_mem _ ht)) (fun t ht => hw t (List.mem_cons_of_mem _ ht))
      refine ⟨p, List.mem_cons_of_mem _ ((List.eraseIdx_sublist ..).subset p1), p2, fun x hx hxp => ?_⟩
      rcases List.mem_cons.mp hx with rfl | hx
      · rw [ha.1, hb.1]
      · rcases List.mem_cons.mp ((erase_perm l (q / odN n) (by omega)).symm.subset hx) with z | z
        · rw [z, ha.2, hb.2]
        · exact p3 x z hxp
    · refine ⟨a, List.mem_cons_self, ?_, fun x hx hxa => ?_⟩
      · rw [ha.1, hb.1]
        have g1 : l.getD (r / odN n) 0 = l[r / odN n]'(by omega) := by
          rw [List.getD_eq_getElem?_getD, List.getElem?_eq_getElem (by omega)]
          rfl
        have g2 : l.getD (q / odN n) 0 = l[q / odN n]'(by omega) := by
          rw [List.getD_eq_getElem?_getD, List.getElem?_eq_getElem (by omega)]
          rfl
        rw [g1, g2]
        exact List.pairwise_iff_getElem.mp hs.2 _ _ (by omega) (by omega) (by omega)
      · rcases List.mem_cons.mp hx with rfl | hx
        · omega
        · have := hs.1 x hx
          omega
/-- ties are known by V and by the places they reach -/
theorem ties_sub {V : Nat → Nat} {S T : List Tie} (hS : Ag V S) (hT : Ag V T) (lS : ∀ t ∈ S, t.1 < t.2) (lT : ∀ t ∈ T, t.1 < t.2) (h : ∀ x ∈ ends S, x ∈ ends T) {t : Tie} (ht : t ∈ S) : t ∈ T := by
  obtain ⟨u, hu, e⟩ := of_ends (h _ (mem_ends ht).1)
  have h1 := hS t ht
  have h2 := hT u hu
  have h3 := lS t ht
  have h4 := lT u hu
  rcases e with e | e
  · have : t = u := by
      obtain ⟨a, b⟩ := t
      obtain ⟨c, d⟩ := u
      simp only at *
      subst e
      rw [h1.1] at h2
      rw [h2.1]
    exact this ▸ hu
  · exfalso
    rw [e, h2.2] at h1
    have := h1.1
    omega
/-! ### sorting -/
section
variable {α : Type} (lt : α → α → Bool)
def insP (x : α) : List α → List α
  | [] => [x]
  | y :: ys => if lt x y = true then x :: y :: ys else y :: insP x ys
def sortP (xs : List α) : List α := xs.foldl (fun acc x => insP lt x acc) []
theorem insP_perm (x : α) : ∀ ys : List α, (insP lt x ys).Perm (x :: ys)
  | [] => .refl _
  | y :: ys => by
    rw [insP]
    split
    · exact .refl _
    · exact ((insP_perm x ys).cons y).trans (List.Perm.swap ..)
theorem foldP_perm : ∀ xs acc : List α, (xs.foldl (fun acc x => insP lt x acc) acc).Perm (acc ++ xs)
  | [], acc => by simp
  | x :: xs, acc => by
    rw [List.foldl_cons]
    refine (foldP_perm xs _).trans ?_
    refine ((insP_perm lt x acc).append_right xs).trans ?_
    exact (List.perm_middle (l₁ := acc) (l₂ := xs) (a := x)).symm
theorem sortP_perm (xs : List α) : (sortP lt xs).Perm xs := foldP_perm lt xs []
variable {lt}
theorem insP_sorted (tr : ∀ a b c, lt a b = true → lt b c = true → lt a c = true) (x : α) : ∀ ys : List α, (∀ y ∈ ys, lt x y = true ∨ lt y x = true) → ys.Pairwise (fun a b => lt a b = true) → (insP lt x ys).Pairwise (fun a b => lt a b = true)
  | [], _, _ => by
    rw [insP]
    exact List.pairwise_singleton ..
  | y :: ys, ht, hs => by
    have h := List.pairwise_cons.mp hs
    rw [insP]
    split
    · rename_i hxy
      refine List.pairwise_cons.mpr ⟨fun z hz => ?_, hs⟩
      rcases List.mem_cons.mp hz with rfl | hz
      · exact hxy
      · exact tr _ _ _ hxy (h.1 z hz)
    · rename_i hxy
      refine List.pairwise_cons.mpr ⟨fun z hz => ?_, insP_sorted tr x ys (fun z hz => ht z (List.mem_cons_of_mem _ hz)) h.2⟩
      rcases List.mem_cons.mp ((insP_perm lt x ys).subset hz) with rfl | hz
      · rcases ht y List.mem_cons_self with w | w
        · exact absurd w hxy
        · exact w
      · exact h.1 z hz
theorem foldP_sorted (tr : ∀ a b c, lt a b = true → lt b c = true → lt a c = true) : ∀ xs acc : List α, (acc ++ xs).Pairwise (fun a b => lt a b = true ∨ lt b a = true) → acc.Pairwise (fun a b => lt a b = true) → (xs.foldl (fun acc x => insP lt x acc) acc).Pairwise (fun a b => lt a b = true)
  | [], acc, _, h => h
  | x :: xs, acc, ht, h => by
    rw [List.foldl_cons]
    have hp : (acc ++ x :: xs).Perm (insP lt x acc ++ xs) := List.perm_middle.trans ((insP_perm lt x acc).append_right xs).symm
    refine foldP_sorted tr xs _ ((hp.pairwise_iff (fun h => h.symm)).mp ht) ?_
    refine insP_sorted tr x acc (fun y hy => ?_) h
    exact ((List.pairwise_append.mp ht).2.2 y hy x List.mem_cons_self).symm
theorem sortP_eq (tr : ∀ a b c, lt a b = true → lt b c = true → lt a c = true) (ir : ∀ a, lt a a = false) {xs ys : List α} (hp : xs.Perm ys) (hy : ys.Pairwise (fun a b => lt a b = true)) : sortP lt xs = ys := by
  have h2 : xs.Pairwise (fun a b => lt a b = true ∨ lt b a = true) := (hp.pairwise_iff (fun h => h.symm)).mpr (hy.imp fun h => .inl h)
  refine List.Perm.eq_of_pairwise (le := fun a b => lt a b = true) (fun a b _ _ h1 h2 => ?_) (foldP_sorted tr xs [] (by simpa using h2) .nil) hy ((sortP_perm lt xs).trans hp)
  have := tr _ _ _ h1 h2
  rw [ir] at this
  cases this
end
theorem ins1_map {α : Type} {lt : α → α → Bool} {enc : α → D} (h : ∀ a b, ltD (enc a) (enc b) = lt a b) (x : α) : ∀ ys : List α, ins1 (enc x) (ys.map enc) = (insP lt x ys).map enc
  | [] => rfl
  | y :: ys => by
    rw [List.map_cons, ins1, insP, h, ins1_map h x ys]
    split <;> rfl
theorem sortD_map {α : Type} {lt : α → α → Bool} {enc : α → D} (h : ∀ a b, ltD (enc a) (enc b) = lt a b) (xs : List α) : sortD (xs.map enc) = (sortP lt xs).map enc := by
  have : ∀ (xs acc : List α), (xs.map enc).foldl (fun acc x => ins1 x acc) (acc.map enc) = (xs.foldl (fun acc x => insP lt x acc) acc).map enc := by
    intro xs
    induction xs with
    | nil => intro acc; rfl
    | cons x xs ih =>
      intro acc
      rw [List.map_cons, List.foldl_cons, List.foldl_cons, ins1_map h, ih]
  exact this xs []
def tieLt (a b : Tie) : Bool := if a.1 = b.1 then decide (a.2 < b.2) else decide (a.1 < b.1)
theorem ltD_tie (a b : Tie) : ltD (tieD a) (tieD b) = tieLt a b := by
  obtain ⟨x, y⟩ := a
  obtain ⟨z, w⟩ := b
  unfold tieLt tieD
  simp only [ltD, ltDs, eqD, decide_eq_true_eq]
  have e1 : ((x : Int) = z) ↔ x = z := by omega
  have e2 : ((y : Int) = w) ↔ y = w := by omega
  have e3 : ((x : Int) < z) ↔ x < z := by omega
  have e4 : ((y : Int) < w) ↔ y < w := by omega
  simp only [e1, e2, e3, e4]
  split
  · split
    · rename_i h
      subst h
      simp
    · rfl
  · rfl
theorem ltD_nat (a b : Nat) : ltD (nD a) (nD b) = decide (a < b) := by
  unfold nD
  simp only [ltD]
  congr 1
  simp
theorem sort_ties {S T : List Tie} (hp : S.Perm T) (hT : T.Pairwise (fun s t => s.1 < t.1)) : sortD (S.map tieD) = T.map tieD := by
  rw [sortD_map ltD_tie, sortP_eq (ys := T) ?_ ?_ hp ?_]
  · rintro ⟨a1, a2⟩ ⟨b1, b2⟩ ⟨c1, c2⟩
    simp only [tieLt]
    intro h1 h2
    split at h1 <;> split at h2 <;> split <;> simp only [decide_eq_true_eq] at * <;> omega
  · rintro ⟨a1, a2⟩
    simp [tieLt]
  · refine hT.imp fun {a b} h => ?_
    unfold tieLt
    rw [if_neg (by omega)]
    simpa using h
theorem sort_range {S : List Nat} {m : Nat} (hp : S.Perm (List.range m)) : sortD (S.map nD) = (List.range m).map nD := by
  rw [sortD_map ltD_nat, sortP_eq (ys := List.range m) ?_ ?_ hp ?_]
  · intro a b c h1 h2
    simp only [decide_eq_true_eq] at *
    omega
  · intro a
    simp
  · refine List.pairwise_lt_range.imp fun {a b} h => ?_
    simpa using h
/-! ### partners -/
theorem parF_at : ∀ (ts : List Tie) (vs : List Nat), (ends ts).Nodup → (∀ t ∈ ts, t.1 < vs.length ∧ t.2 < vs.length) → (ts.foldl parS vs).length = vs.length ∧ (∀ t ∈ ts, (ts.foldl parS vs).getD t.1 0 = t.2 ∧ (ts.foldl parS vs).getD t.2 0 = t.1) ∧ ∀ x, x ∉ ends ts → (ts.foldl parS vs).getD x 0 = vs.getD x 0
  | [], vs, _, _ => ⟨rfl, (fun t ht => by cases ht), fun x _ => rfl⟩
  | t :: ts, vs, hn, hl => by
    rw [ends_cons] at hn
    have n1 := List.nodup_cons.mp hn
    have n2 := List.nodup_cons.mp n1.2
    have l0 := hl t List.mem_cons_self
    have pl : (parS vs t).length = vs.length := by simp [parS]
    obtain ⟨h1, h2, h3⟩ := parF_at ts (parS vs t) n2.2 (fun u hu => by rw [pl]; exact hl u (List.mem_cons_of_mem _ hu))
    have ne : t.1 ≠ t.2 := fun e => n1.1 (e ▸ List.mem_cons_self)
    rw [List.foldl_cons]
    refine ⟨h1.trans pl, fun u hu => ?_, fun x hx => ?_⟩
    · rcases List.mem_cons.mp hu with rfl | hu
      · rw [h3 _ (fun z => n1.1 (List.mem_cons_of_mem _ z)), h3 _ n2.1]
        unfold parS
        simp only [List.getD_eq_getElem?_getD, List.getElem?_set, List.length_set]
        have ne2 : u.2 ≠ u.1 := fun e => ne e.symm
        simp [l0.1, l0.2, ne, ne2]
      · exact h2 u hu
    · rw [ends_cons] at hx
      have a1 : x ≠ t.1 := fun e => hx (e ▸ List.mem_cons_self)
      have a2 : x ≠ t.2 := fun e => hx (e ▸ List.mem_cons_of_mem _ List.mem_cons_self)
      rw [h3 x (fun z => hx (List.mem_cons_of_mem _ (List.mem_cons_of_mem _ z)))]
      unfold parS
      simp only [List.getD_eq_getElem?_getD, List.getElem?_set, List.length_set]
      have a1 : ¬ t.1 = x := fun e => a1 e.symm
      have a2 : ¬ t.2 = x := fun e => a2 e.symm
      simp [a1, a2]
theorem ltDs_nat : ∀ (v w : List Nat) (p : Nat), v.length = w.length → p < v.length → (∀ x, x < p → v.getD x 0 = w.getD x 0) → v.getD p 0 < w.getD p 0 → ltDs (v.map nD) (w.map nD) = true
  | [], w, p, _, hp, _, _ => by simp at hp
  | a :: v, [], p, hl, _, _, _ => by simp at hl
  | a :: v, b :: w, 0, hl, hp, h1, h2 => by
    have h2 : a < b := h2
    rw [List.map_cons, List.map_cons, ltDs, ltD_nat]
    have : eqD (nD a) (nD b) = false := by
      unfold nD
      simp [eqD]
      omega
    rw [this]
    simpa using h2
  | a :: v, b :: w, p + 1, hl, hp, h1, h2 => by
    have e : a = b := h1 0 (by omega)
    subst e
    rw [List.map_cons, List.map_cons, ltDs]
    have : eqD (nD a) (nD a) = true := by
      unfold nD
      simp [eqD]
    rw [this, if_pos rfl]
    exact ltDs_nat v w p (by simpa using hl) (by simpa using hp) (fun x hx => h1 (x + 1) (by omega)) h2
end Pl

set_option Elab.async false
set_option linter.all false
set_option maxRecDepth 100000
set_option maxHeartbeats 4000000
/-! Pm2: matched_at, matched_number -/
namespace Pl
open Mi
def fnMatchedAt (need w tot x : Nat) : Fn := ⟨2, 7, [],
  [.ex (.call need [.v 0]),
   .ite (.nt (.call w [.v 1]))
    [.rai x [.neg (.c (.int 1))]]
    [],
   .ite (.nt (.cmp (.c (.int 0)) [.le, .lt] [.v 1, .call tot [.v 0]]))
    [.rai x [.v 1]]
    [],
   .set (.v 2) (.bi .lrange1 [.bin .mul (.c (.int 2)) (.v 0)]),
   .set (.v 3) (.lst []),
   .set (.v 4) (.v 1),
   .for (.v 5) (.rng [.bin .sub (.v 0) (.c (.int 1)), .neg (.c (.int 1)), .neg (.c (.int 1))])
    [.set (.v 6) (.bin .add (.bin .fdiv (.v 4) (.call tot [.v 5])) (.c (.int 1))),
     .set (.v 4) (.bin .mod (.v 4) (.call tot [.v 5])),
     .app (.v 3) (.tup [.ix (.v 2) (.c (.int 0)), .ix (.v 2) (.v 6)]),
     .set (.v 2) (.bin .add (.sl (.v 2) (some (.c (.int 1))) (some (.v 6))) (.sl (.v 2) (some (.bin .add (.v 6) (.c (.int 1)))) none))] [5, 6],
   .ret (.tup [.bin .mul (.c (.int 2)) (.v 0), .bi .tuple [.v 3]])]⟩
def fnMatchedNumber (par tot : Nat) : Fn := ⟨1, 5, [],
  [.set (.v 1) (.call par [.v 0]),
   .set (.v 2) (.bi .lrange1 [.bi .len [.v 1]]),
   .set (.v 3) (.c (.int 0)),
   .whl 100000 (.cmp (.bi .len [.v 2]) [.gt] [.c (.int 0)])
    [.set (.v 4) (.mth .index (.v 2) (.ix (.v 1) (.ix (.v 2) (.c (.int 0))))),
     .aug 3 .add (.bin .mul (.bin .sub (.v 4) (.c (.int 1))) (.call tot [.bin .sub (.bin .fdiv (.bi .len [.v 2]) (.c (.int 2))) (.c (.int 1))])),
     .set (.v 2) (.bin .add (.sl (.v 2) (some (.c (.int 1))) (some (.v 4))) (.sl (.v 2) (some (.bin .add (.v 4) (.c (.int 1)))) none))] [4],
   .ret (.v 3)]⟩
theorem cut_mid {a : Nat} {l : List Nat} {k : Nat} (h : k ≤ l.length) : cutL ((a :: l).map nD) (some 1) (some ((k : Int) + 1)) = (l.take k).map nD := by
  unfold cutL
  have e1 : sIx ((a :: l).map nD).length 0 (some 1) = 1 := by
    simp [sIx]
  have e2 : sIx ((a :: l).map nD).length ((a :: l).map nD).length (some ((k : Int) + 1)) = k + 1 := by
    unfold sIx
    simp only [List.length_map, List.length_cons]
    rw [if_neg (by omega)]
    omega
  rw [e1, e2, Nat.add_sub_cancel, List.map_cons, List.drop_one, List.tail_cons, List.map_take]
theorem cut_end {a : Nat} {l : List Nat} {k : Nat} (h : k < l.length) : cutL ((a :: l).map nD) (some ((k : Int) + 1 + 1)) none = (l.drop (k + 1)).map nD := by
  unfold cutL
  have e1 : sIx ((a :: l).map nD).length 0 (some ((k : Int) + 1 + 1)) = k + 1 + 1 := by
    unfold sIx
    simp only [List.length_map, List.length_cons]
    rw [if_neg (by omega)]
    omega
  have e2 : sIx ((a :: l).map nD).length ((a :: l).map nD).length none = l.length + 1 := by
    unfold sIx
    simp
  rw [e1, e2, List.map_cons, List.drop_succ_cons, ← List.map_drop]
  apply List.take_of_length_le
  simp <;> omega
theorem erase_map {l : List Nat} {k : Nat} : (l.take k).map nD ++ (l.drop (k + 1)).map nD = (l.eraseIdx k).map nD := by
  rw [List.eraseIdx_eq_take_drop_succ, List.map_append]
theorem add_lst {o p : Bool} {x y : List D} (h : x.length + y.length ≤ 1000000) : binD .add (.lst o x) (.lst p y) = some (.lst true (x ++ y)) := by
  have : x.length + y.length ≤ line := by
    unfold line
    omega
  simp only [binD]
  rw [if_pos this]
section
variable {gl : List D} {cf : Nat → List D → Res (D × List D)}
theorem ev_slM {s i : Nat} {env : Env} {a : Nat} {l : List Nat} {k : Nat} (hs : env[s]? = some (some (.lst true ((a :: l).map nD)))) (hi : env[i]? = some (some (.int ((k : Int) + 1)))) (h : k < l.length) (hl : l.length ≤ 100000) :
    ev gl cf (.bin .add (.sl (.v s) (some (.c (.int 1))) (some (.v i))) (.sl (.v s) (some (.bin .add (.v i) (.c (.int 1)))) none)) env = .ok (.lst true ((l.eraseIdx k).map nD), env) := by
  refine ev_bin (x := .lst true ((l.take k).map nD)) (e1 := env) (y := .lst true ((l.drop (k + 1)).map nD)) ?_ ?_ ?_
  · have c := @cut_mid a l k (by omega)
    generalize (a :: l).map nD = Z at hs c
    simp [ev, evo, getV, hs, hi, Res.bind, Res.of, slD, c]
  · have c := @cut_end a l k h
    generalize (a :: l).map nD = Z at hs c
    simp [ev, evo, getV, hs, hi, Res.bind, Res.of, slD, binD, c]
  · rw [add_lst (by simp; omega), erase_map]
theorem odN_mono {n m : Nat} (h : n ≤ m) : odN n ≤ odN m := by
  induction m with
  | zero =>
    have : n = 0 := by omega
    rw [this]
    exact Nat.le_refl _
  | succ m ih =>
    by_cases e : n = m + 1
    · rw [e]
      exact Nat.le_refl _
    · rw [odN]
      exact Nat.le_trans (ih (by omega)) (Nat.le_mul_of_pos_right _ (by omega))
theorem od_log {n : Nat} (h : n ≤ 30) : (od n).natAbs.log2 < 9000 := by
  have h0 : (od n).natAbs ≠ 0 := by
    have := od_pos n
    omega
  rw [Nat.log2_lt h0, ← od_cast, Int.natAbs_natCast]
  have : odN 30 < 2 ^ 140 := by decide +kernel
  exact Nat.lt_of_le_of_lt (odN_mono h) (Nat.lt_of_lt_of_le this (Nat.pow_le_pow_right (by decide) (by decide)))
theorem step_of : ∀ n : Nat, stepD ((n : Int) + 1 - 1) (-1) (n + 1) = .int n :: stepD ((n : Int) - 1) (-1) n := by
  intro n
  rw [stepD]
  congr 2 <;> omega
abbrev maE (m q : D) (l : List Nat) (ts : List Tie) (r : Int) : Env := [some m, some q, some (.lst true (l.map nD)), some (.lst true (ts.map tieD)), some (.int r), none, none]
def maB (tot : Nat) : List S :=
    [.set (.v 6) (.bin .add (.bin .fdiv (.v 4) (.call tot [.v 5])) (.c (.int 1))),
     .set (.v 4) (.bin .mod (.v 4) (.call tot [.v 5])),
     .app (.v 3) (.tup [.ix (.v 2) (.c (.int 0)), .ix (.v 2) (.v 6)]),
     .set (.v 2) (.bin .add (.sl (.v 2) (some (.c (.int 1))) (some (.v 6))) (.sl (.v 2) (some (.bin .add (.v 6) (.c (.int 1)))) none))]
theorem ma_step {tot : Nat} {m q : D} {n r a : Nat} {l : List Nat} {ts : List Tie} (ht : cf tot [.int n] = .ok (.int (od n), [])) (hn : n < 30) (hl : l.length = 2 * n + 1) (hts : ts.length ≤ 1000) (hr : r < odN (n + 1)) :
    ((Res.of (asg (.v 5) (.int n) (maE m q (a :: l) ts r))).bind fun e2 => (exs gl cf (maB tot) e2).bind fun f => .ok (f.kill [5, 6])) = .ok (.nx (maE m q (l.eraseIdx (r / odN n)) (ts ++ [(a, l.getD (r / odN n) 0)]) ((r % odN n : Nat) : Int))) := by
  have hk := div_lt hr
  have hd : (r : Int) / od n = ((r / odN n : Nat) : Int) := by rw [← od_cast]; rfl
  have hm : (r : Int) % od n = ((r % odN n : Nat) : Int) := by rw [← od_cast]; rfl
  have hp := od_pos n
  have hg := @od_log n (by omega)
  generalize r / odN n = k at hd hk ⊢
  generalize r % odN n = s at hm ⊢
  have i0 := @ixD_nat true (a :: l) 0 (by simp)
  have i1 := @ixD_nat true (a :: l) (k + 1) (by simp; omega)
  have i0 : ixD (.lst true ((a :: l).map nD)) (.int 0) = some (.int a) := i0
  have i1 : ixD (.lst true ((a :: l).map nD)) (.int ((k : Int) + 1)) = some (.int (l.getD k 0 : Nat)) := i1
  show ((exs gl cf (maB tot) [some m, some q, some (.lst true ((a :: l).map nD)), some (.lst true (ts.map tieD)), some (.int r), some (.int n), none]).bind fun f => Res.ok (f.kill [5, 6])) = _
  have s4 := @ev_slM gl cf 2 6 [some m, some q, some (.lst true ((a :: l).map nD)), some (.lst true ((ts ++ [(a, l.getD k 0)]).map tieD)), some (.int s), some (.int n), some (.int ((k : Int) + 1))] a l k rfl rfl (by omega) (by omega)
  have htl : (ts.map tieD).length < 1000000 := by simp; omega
  have hta : (ts ++ [(a, l.getD k 0)]).map tieD = ts.map tieD ++ [.tup [.int a, .int (l.getD k 0 : Nat)]] := by rw [List.map_append]; rfl
  rw [hta] at s4
  unfold maE
  rw [hta]
  generalize hA : (a :: l).map nD = A at i0 i1 s4 ⊢
  generalize (l.eraseIdx k).map nD = B at s4 ⊢
  generalize ts.map tieD = T at s4 htl ⊢
  generalize l.getD k 0 = w at i1 s4 ⊢
  unfold maB
  rw [exs_nx (e1 := [some m, some q, some (.lst true A), some (.lst true T), some (.int r), some (.int n), some (.int ((k : Int) + 1))]) (by simp [Mi.exs, Mi.ex, Mi.ev, Mi.evs, Mi.evb, Mi.evc, Mi.evo, Mi.evk, Mi.evAnd, Mi.evOr, Mi.evm, Mi.evI, Mi.evJ, Mi.getV, Mi.setV, Mi.delV, Mi.delVs, Mi.setVs, Mi.Res.bind, Mi.Res.of, Mi.cmpD, Mi.tB, Mi.keep, Mi.move, Mi.vw, Pl.own_non, Pl.own_bl, Pl.own_int, Pl.own_str, Pl.own_tup, Pl.own_lst, Pl.own_dct, Pl.fz_non, Pl.fz_bl, Pl.fz_int, Pl.fz_str, Pl.fz_tup, Pl.fz_lst, Pl.fz_dct, Mi.asg, Mi.asgs, Mi.getPa, Mi.setPa, Mi.biD, Mi.isTy, Mi.seqI, Mi.fillIo, Mi.putIo, Mi.getVs, Mi.outF, Mi.envF, Mi.Fl.kill, Mi.D.isLst, Mi.binD, Mi.augD, ht, hp, hg, hd]),
    exs_nx (e1 := [some m, some q, some (.lst true A), some (.lst true T), some (.int s), some (.int n), some (.int ((k : Int) + 1))]) (by simp [Mi.exs, Mi.ex, Mi.ev, Mi.evs, Mi.evb, Mi.evc, Mi.evo, Mi.evk, Mi.evAnd, Mi.evOr, Mi.evm, Mi.evI, Mi.evJ, Mi.getV, Mi.setV, Mi.delV, Mi.delVs, Mi.setVs, Mi.Res.bind, Mi.Res.of, Mi.cmpD, Mi.tB, Mi.keep, Mi.move, Mi.vw, Pl.own_non, Pl.own_bl, Pl.own_int, Pl.own_str, Pl.own_tup, Pl.own_lst, Pl.own_dct, Pl.fz_non, Pl.fz_bl, Pl.fz_int, Pl.fz_str, Pl.fz_tup, Pl.fz_lst, Pl.fz_dct, Mi.asg, Mi.asgs, Mi.getPa, Mi.setPa, Mi.biD, Mi.isTy, Mi.seqI, Mi.fillIo, Mi.putIo, Mi.getVs, Mi.outF, Mi.envF, Mi.Fl.kill, Mi.D.isLst, Mi.binD, Mi.augD, ht, hp, hm]),
    exs_nx (e1 := [some m, some q, some (.lst true A), some (.lst true (T ++ [.tup [.int a, .int w]])), some (.int s), some (.int n), some (.int ((k : Int) + 1))]) (by simp [Mi.exs, Mi.ex, Mi.ev, Mi.evs, Mi.evb, Mi.evc, Mi.evo, Mi.evk, Mi.evAnd, Mi.evOr, Mi.evm, Mi.evI, Mi.evJ, Mi.getV, Mi.setV, Mi.delV, Mi.delVs, Mi.setVs, Mi.Res.bind, Mi.Res.of, Mi.cmpD, Mi.tB, Mi.keep, Mi.move, Mi.vw, Pl.own_non, Pl.own_bl, Pl.own_int, Pl.own_str, Pl.own_tup, Pl.own_lst, Pl.own_dct, Pl.fz_non, Pl.fz_bl, Pl.fz_int, Pl.fz_str, Pl.fz_tup, Pl.fz_lst, Pl.fz_dct, Mi.asg, Mi.asgs, Mi.getPa, Mi.setPa, Mi.biD, Mi.isTy, Mi.seqI, Mi.fillIo, Mi.putIo, Mi.getVs, Mi.outF, Mi.envF, Mi.Fl.kill, Mi.D.isLst, Mi.binD, Mi.augD, i0, i1, htl]),
    exs_nx (ex_setv s4 (.inl rfl))]
  simp [Mi.exs, Mi.ex, Mi.ev, Mi.evs, Mi.evb, Mi.evc, Mi.evo, Mi.evk, Mi.evAnd, Mi.evOr, Mi.evm, Mi.evI, Mi.evJ, Mi.getV, Mi.setV, Mi.delV, Mi.delVs, Mi.setVs, Mi.Res.bind, Mi.Res.of, Mi.cmpD, Mi.tB, Mi.keep, Mi.move, Mi.vw, Pl.own_non, Pl.own_bl, Pl.own_int, Pl.own_str, Pl.own_tup, Pl.own_lst, Pl.own_dct, Pl.fz_non, Pl.fz_bl, Pl.fz_int, Pl.fz_str, Pl.fz_tup, Pl.fz_lst, Pl.fz_dct, Mi.asg, Mi.asgs, Mi.getPa, Mi.setPa, Mi.biD, Mi.isTy, Mi.seqI, Mi.fillIo, Mi.putIo, Mi.getVs, Mi.outF, Mi.envF, Mi.Fl.kill, Mi.D.isLst, Mi.binD, Mi.augD]
theorem ma_loop {tot : Nat} {m q : D} (ht : ∀ n : Nat, n ≤ 30 → cf tot [.int n] = .ok (.int (od n), [])) : ∀ (n r : Nat) (l : List Nat) (ts : List Tie), n ≤ 30 → l.length = 2 * n → ts.length + n ≤ 100 → r < odN n → ∃ e', forL (fun x e => (Res.of (asg (.v 5) x e)).bind fun e2 => (exs gl cf (maB tot) e2).bind fun f => .ok (f.kill [5, 6]))
    (stepD ((n : Int) - 1) (-1) n) (maE m q l ts r) = .ok (.nx e') ∧ ∃ s, e' = maE m q [] (ts ++ mat n r l) s
  | 0, r, l, ts, _, hl, _, _ => by
    have : l = [] := List.eq_nil_of_length_eq_zero (by omega)
    subst this
    exact ⟨_, rfl, r, by rw [mat, List.append_nil]⟩
  | n + 1, r, [], ts, _, hl, _, _ => by simp at hl
  | n + 1, r, a :: l, ts, hn, hl, hts, hr => by
    have hk := div_lt hr
    have hl : l.length = 2 * n + 1 := by simp at hl; omega
    have e : stepD (((n + 1 : Nat) : Int) - 1) (-1) (n + 1) = .int n :: stepD ((n : Int) - 1) (-1) n := step_of n
    rw [e, forL_nx (ma_step (ht n (by omega)) (by omega) hl (by omega) hr)]
    obtain ⟨e', h1, s, h2⟩ := ma_loop ht n (r % odN n) (l.eraseIdx (r / odN n)) (ts ++ [(a, l.getD (r / odN n) 0)]) (by omega) (erase_len hl hk) (by simp; omega) (Nat.mod_lt _ (odN_pos n))
    refine ⟨e', h1, s, ?_⟩
    rw [h2, mat, List.append_assoc]
    rfl
end
section
variable {gl : List D} {P : List Fn} {n : Nat}
theorem run_total {f : Nat} (hf : P[f]? = some fnTotal) {m : Nat} (h : m ≤ 1000000) : runF gl P (n + 1) f [.int m] = .ok (.int (od m), []) := by
  rw [runF_eq hf rfl]
  exact total_ok h
theorem run_total2 {f : Nat} (hf : P[f]? = some fnTotal2) {m : Nat} (h : m ≤ 1000000) : runF gl P (n + 1) f [.int m] = .ok (.int (od m), []) := by
  rw [runF_eq hf rfl]
  exact total2_ok h
theorem run_matchedAt {need w tot x g f : Nat} (hf : P[f]? = some (fnMatchedAt need w tot x)) (hw : P[w]? = some fnWhole) (hn : P[need]? = some (fnNeed w g x)) (ht : P[tot]? = some fnTotal) (hg : gl[g]? = some (.int 30)) {m r : Nat} (hm : m ≤ 30) (hr : r < odN m) :
    runF gl P (n + 3) f [.int m, .int r] = .ok (webD (2 * m) (mat m r (List.range (2 * m))), []) := by
  have w0 := fun i => @run_whole gl P n w hw i
  have w1 := fun i => @run_whole gl P (n + 1) w hw i
  have n0 := @run_need gl P n w g x need hn 30 m (w0 m) hg (by omega) (by omega)
  have t0 : ∀ k : Nat, k ≤ 30 → runF gl P (n + 2) tot [.int k] = .ok (.int (od k), []) := fun k hk => run_total ht (by omega)
  rw [runF_eq hf rfl]
  have hro : (r : Int) < od m := by rw [← od_cast]; omega
  have hrg : rngOk 0 (2 * (m : Int)) = true := by
    unfold rngOk
    simp only [Bool.and_eq_true, decide_eq_true_eq]
    omega
  have hrl : rangeD 0 (2 * (m : Int)).toNat = (List.range (2 * m)).map nD := by
    have : (2 * (m : Int)).toNat = 2 * m := by omega
    rw [this, rangeD0]
  have hs2 : smallI 2 = true := by decide
  have s7 : evI gl (runF gl P (n + 2)) (.rng [.bin .sub (.v 0) (.c (.int 1)), .neg (.c (.int 1)), .neg (.c (.int 1))]) (maE (.int m) (.int r) (List.range (2 * m)) [] r) = .ok (stepD ((m : Int) - 1) (-1) m, maE (.int m) (.int r) (List.range (2 * m)) [] r) := by
    have h1 : rngOk ((m : Int) - 1) (-1) = true := by
      unfold rngOk
      simp only [Bool.and_eq_true, decide_eq_true_eq]
      omega
    have h2 : ((m : Int) - 1 - -1).toNat = m := by omega
    unfold maE
    generalize (List.range (2 * m)).map nD = A
    simp [Mi.exs, Mi.ex, Mi.ev, Mi.evs, Mi.evb, Mi.evc, Mi.evo, Mi.evk, Mi.evAnd, Mi.evOr, Mi.evm, Mi.evI, Mi.evJ, Mi.getV, Mi.setV, Mi.delV, Mi.delVs, Mi.setVs, Mi.Res.bind, Mi.Res.of, Mi.cmpD, Mi.tB, Mi.keep, Mi.move, Mi.vw, Pl.own_non, Pl.own_bl, Pl.own_int, Pl.own_str, Pl.own_tup, Pl.own_lst, Pl.own_dct, Pl.fz_non, Pl.fz_bl, Pl.fz_int, Pl.fz_str, Pl.fz_tup, Pl.fz_lst, Pl.fz_dct, Mi.asg, Mi.asgs, Mi.getPa, Mi.setPa, Mi.biD, Mi.isTy, Mi.seqI, Mi.fillIo, Mi.putIo, Mi.getVs, Mi.outF, Mi.envF, Mi.Fl.kill, Mi.D.isLst, Mi.binD, Mi.augD, rngD, h1, h2]
  obtain ⟨e', l1, s, l2⟩ := @ma_loop gl (runF gl P (n + 2)) tot (.int m) (.int r) t0 m r (List.range (2 * m)) [] hm (by simp) (by simp; omega) hr
  rw [l2, List.nil_append] at l1
  unfold fnMatchedAt
  show (exs gl (runF gl P (n + 2)) _ [some (.int m), some (.int r), none, none, none, none, none]).bind _ = _
  have t1 := t0 m hm
  rw [exs_nx (e1 := [some (.int m), some (.int r), none, none, none, none, none]) (by simp [Mi.exs, Mi.ex, Mi.ev, Mi.evs, Mi.evb, Mi.evc, Mi.evo, Mi.evk, Mi.evAnd, Mi.evOr, Mi.evm, Mi.evI, Mi.evJ, Mi.getV, Mi.setV, Mi.delV, Mi.delVs, Mi.setVs, Mi.Res.bind, Mi.Res.of, Mi.cmpD, Mi.tB, Mi.keep, Mi.move, Mi.vw, Pl.own_non, Pl.own_bl, Pl.own_int, Pl.own_str, Pl.own_tup, Pl.own_lst, Pl.own_dct, Pl.fz_non, Pl.fz_bl, Pl.fz_int, Pl.fz_str, Pl.fz_tup, Pl.fz_lst, Pl.fz_dct, Mi.asg, Mi.asgs, Mi.getPa, Mi.setPa, Mi.biD, Mi.isTy, Mi.seqI, Mi.fillIo, Mi.putIo, Mi.getVs, Mi.outF, Mi.envF, Mi.Fl.kill, Mi.D.isLst, Mi.binD, Mi.augD, n0]), exs_nx (e1 := [some (.int m), some (.int r), none, none, none, none, none]) (by simp [Mi.exs, Mi.ex, Mi.ev, Mi.evs, Mi.evb, Mi.evc, Mi.evo, Mi.evk, Mi.evAnd, Mi.evOr, Mi.evm, Mi.evI, Mi.evJ, Mi.getV, Mi.setV, Mi.delV, Mi.delVs, Mi.setVs, Mi.Res.bind, Mi.Res.of, Mi.cmpD, Mi.tB, Mi.keep, Mi.move, Mi.vw, Pl.own_non, Pl.own_bl, Pl.own_int, Pl.own_str, Pl.own_tup, Pl.own_lst, Pl.own_dct, Pl.fz_non, Pl.fz_bl, Pl.fz_int, Pl.fz_str, Pl.fz_tup, Pl.fz_lst, Pl.fz_dct, Mi.asg, Mi.asgs, Mi.getPa, Mi.setPa, Mi.biD, Mi.isTy, Mi.seqI, Mi.fillIo, Mi.putIo, Mi.getVs, Mi.outF, Mi.envF, Mi.Fl.kill, Mi.D.isLst, Mi.binD, Mi.augD, w1]),
    exs_nx (e1 := [some (.int m), some (.int r), none, none, none, none, none]) (by simp [Mi.exs, Mi.ex, Mi.ev, Mi.evs, Mi.evb, Mi.evc, Mi.evo, Mi.evk, Mi.evAnd, Mi.evOr, Mi.evm, Mi.evI, Mi.evJ, Mi.getV, Mi.setV, Mi.delV, Mi.delVs, Mi.setVs, Mi.Res.bind, Mi.Res.of, Mi.cmpD, Mi.tB, Mi.keep, Mi.move, Mi.vw, Pl.own_non, Pl.own_bl, Pl.own_int, Pl.own_str, Pl.own_tup, Pl.own_lst, Pl.own_dct, Pl.fz_non, Pl.fz_bl, Pl.fz_int, Pl.fz_str, Pl.fz_tup, Pl.fz_lst, Pl.fz_dct, Mi.asg, Mi.asgs, Mi.getPa, Mi.setPa, Mi.biD, Mi.isTy, Mi.seqI, Mi.fillIo, Mi.putIo, Mi.getVs, Mi.outF, Mi.envF, Mi.Fl.kill, Mi.D.isLst, Mi.binD, Mi.augD, t1, hro]),
    exs_nx (e1 := [some (.int m), some (.int r), some (.lst true ((List.range (2 * m)).map nD)), none, none, none, none]) (by simp [Mi.exs, Mi.ex, Mi.ev, Mi.evs, Mi.evb, Mi.evc, Mi.evo, Mi.evk, Mi.evAnd, Mi.evOr, Mi.evm, Mi.evI, Mi.evJ, Mi.getV, Mi.setV, Mi.delV, Mi.delVs, Mi.setVs, Mi.Res.bind, Mi.Res.of, Mi.cmpD, Mi.tB, Mi.keep, Mi.move, Mi.vw, Pl.own_non, Pl.own_bl, Pl.own_int, Pl.own_str, Pl.own_tup, Pl.own_lst, Pl.own_dct, Pl.fz_non, Pl.fz_bl, Pl.fz_int, Pl.fz_str, Pl.fz_tup, Pl.fz_lst, Pl.fz_dct, Mi.asg, Mi.asgs, Mi.getPa, Mi.setPa, Mi.biD, Mi.isTy, Mi.seqI, Mi.fillIo, Mi.putIo, Mi.getVs, Mi.outF, Mi.envF, Mi.Fl.kill, Mi.D.isLst, Mi.binD, Mi.augD, hs2, hrg, hrl]),
    exs_nx (e1 := [some (.int m), some (.int r), some (.lst true ((List.range (2 * m)).map nD)), some (.lst true []), none, none, none]) (by simp [Mi.exs, Mi.ex, Mi.ev, Mi.evs, Mi.evb, Mi.evc, Mi.evo, Mi.evk, Mi.evAnd, Mi.evOr, Mi.evm, Mi.evI, Mi.evJ, Mi.getV, Mi.setV, Mi.delV, Mi.delVs, Mi.setVs, Mi.Res.bind, Mi.Res.of, Mi.cmpD, Mi.tB, Mi.keep, Mi.move, Mi.vw, Pl.own_non, Pl.own_bl, Pl.own_int, Pl.own_str, Pl.own_tup, Pl.own_lst, Pl.own_dct, Pl.fz_non, Pl.fz_bl, Pl.fz_int, Pl.fz_str, Pl.fz_tup, Pl.fz_lst, Pl.fz_dct, Mi.asg, Mi.asgs, Mi.getPa, Mi.setPa, Mi.biD, Mi.isTy, Mi.seqI, Mi.fillIo, Mi.putIo, Mi.getVs, Mi.outF, Mi.envF, Mi.Fl.kill, Mi.D.isLst, Mi.binD, Mi.augD]),
    exs_nx (e1 := maE (.int m) (.int r) (List.range (2 * m)) [] r) (by simp [Mi.exs, Mi.ex, Mi.ev, Mi.evs, Mi.evb, Mi.evc, Mi.evo, Mi.evk, Mi.evAnd, Mi.evOr, Mi.evm, Mi.evI, Mi.evJ, Mi.getV, Mi.setV, Mi.delV, Mi.delVs, Mi.setVs, Mi.Res.bind, Mi.Res.of, Mi.cmpD, Mi.tB, Mi.keep, Mi.move, Mi.vw, Pl.own_non, Pl.own_bl, Pl.own_int, Pl.own_str, Pl.own_tup, Pl.own_lst, Pl.own_dct, Pl.fz_non, Pl.fz_bl, Pl.fz_int, Pl.fz_str, Pl.fz_tup, Pl.fz_lst, Pl.fz_dct, Mi.asg, Mi.asgs, Mi.getPa, Mi.setPa, Mi.biD, Mi.isTy, Mi.seqI, Mi.fillIo, Mi.putIo, Mi.getVs, Mi.outF, Mi.envF, Mi.Fl.kill, Mi.D.isLst, Mi.binD, Mi.augD, maE]),
    exs_nx (by rw [ex_for s7]; exact l1)]
  unfold maE webD
  generalize (mat m r (List.range (2 * m))).map tieD = T
  simp [Mi.exs, Mi.ex, Mi.ev, Mi.evs, Mi.evb, Mi.evc, Mi.evo, Mi.evk, Mi.evAnd, Mi.evOr, Mi.evm, Mi.evI, Mi.evJ, Mi.getV, Mi.setV, Mi.delV, Mi.delVs, Mi.setVs, Mi.Res.bind, Mi.Res.of, Mi.cmpD, Mi.tB, Mi.keep, Mi.move, Mi.vw, Pl.own_non, Pl.own_bl, Pl.own_int, Pl.own_str, Pl.own_tup, Pl.own_lst, Pl.own_dct, Pl.fz_non, Pl.fz_bl, Pl.fz_int, Pl.fz_str, Pl.fz_tup, Pl.fz_lst, Pl.fz_dct, Mi.asg, Mi.asgs, Mi.getPa, Mi.setPa, Mi.biD, Mi.isTy, Mi.seqI, Mi.fillIo, Mi.putIo, Mi.getVs, Mi.outF, Mi.envF, Mi.Fl.kill, Mi.D.isLst, Mi.binD, Mi.augD, hs2]
theorem run_matchedAt_far {need w tot x g f : Nat} (hf : P[f]? = some (fnMatchedAt need w tot x)) (hw : P[w]? = some fnWhole) (hn : P[need]? = some (fnNeed w g x)) (ht : P[tot]? = some fnTotal) (hg : gl[g]? = some (.int 30)) {m : Nat} {r : Int} (hm : m ≤ 30) (hr : ¬ (0 ≤ r ∧ r < od m)) :
    runF gl P (n + 3) f [.int m, .int r] = .exc x [.int r] := by
  have w0 := fun i => @run_whole gl P n w hw i
  have w1 := fun i => @run_whole gl P (n + 1) w hw i
  have n0 := @run_need gl P n w g x need hn 30 m (w0 m) hg (by omega) (by omega)
  have t1 := @run_total gl P (n + 1) tot ht m (by omega)
  rw [runF_eq hf rfl]
  by_cases h0 : 0 ≤ r
  · have h1 : ¬ r < od m := fun z => hr ⟨h0, z⟩
    simp [Mi.exs, Mi.ex, Mi.ev, Mi.evs, Mi.evb, Mi.evc, Mi.evo, Mi.evk, Mi.evAnd, Mi.evOr, Mi.evm, Mi.evI, Mi.evJ, Mi.getV, Mi.setV, Mi.delV, Mi.delVs, Mi.setVs, Mi.Res.bind, Mi.Res.of, Mi.cmpD, Mi.tB, Mi.keep, Mi.move, Mi.vw, Pl.own_non, Pl.own_bl, Pl.own_int, Pl.own_str, Pl.own_tup, Pl.own_lst, Pl.own_dct, Pl.fz_non, Pl.fz_bl, Pl.fz_int, Pl.fz_str, Pl.fz_tup, Pl.fz_lst, Pl.fz_dct, Mi.asg, Mi.asgs, Mi.getPa, Mi.setPa, Mi.biD, Mi.isTy, Mi.seqI, Mi.fillIo, Mi.putIo, Mi.getVs, Mi.outF, Mi.envF, Mi.Fl.kill, Mi.D.isLst, Mi.binD, Mi.augD, fnMatchedAt, n0, w1, t1, h0, h1, D.scal]
  · simp [Mi.exs, Mi.ex, Mi.ev, Mi.evs, Mi.evb, Mi.evc, Mi.evo, Mi.evk, Mi.evAnd, Mi.evOr, Mi.evm, Mi.evI, Mi.evJ, Mi.getV, Mi.setV, Mi.delV, Mi.delVs, Mi.setVs, Mi.Res.bind, Mi.Res.of, Mi.cmpD, Mi.tB, Mi.keep, Mi.move, Mi.vw, Pl.own_non, Pl.own_bl, Pl.own_int, Pl.own_str, Pl.own_tup, Pl.own_lst, Pl.own_dct, Pl.fz_non, Pl.fz_bl, Pl.fz_int, Pl.fz_str, Pl.fz_tup, Pl.fz_lst, Pl.fz_dct, Mi.asg, Mi.asgs, Mi.getPa, Mi.setPa, Mi.biD, Mi.isTy, Mi.seqI, Mi.fillIo, Mi.putIo, Mi.getVs, Mi.outF, Mi.envF, Mi.Fl.kill, Mi.D.isLst, Mi.binD, Mi.augD, fnMatchedAt, n0, w1, t1, h0, D.scal]
theorem run_matchedAt_non {need w tot x g f : Nat} (hf : P[f]? = some (fnMatchedAt need w tot x)) (hw : P[w]? = some fnWhole) (hn : P[need]? = some (fnNeed w g x)) (hg : gl[g]? = some (.int 30)) {m : Nat} (hm : m ≤ 30) :
    runF gl P (n + 3) f [.int m, .non] = .exc x [.int (-1)] := by
  have w0 := fun i => @run_whole gl P n w hw i
  have w1 := @run_whole_non gl P (n + 1) w hw
  have n0 := @run_need gl P n w g x need hn 30 m (w0 m) hg (by omega) (by omega)
  rw [runF_eq hf rfl]
  simp [Mi.exs, Mi.ex, Mi.ev, Mi.evs, Mi.evb, Mi.evc, Mi.evo, Mi.evk, Mi.evAnd, Mi.evOr, Mi.evm, Mi.evI, Mi.evJ, Mi.getV, Mi.setV, Mi.delV, Mi.delVs, Mi.setVs, Mi.Res.bind, Mi.Res.of, Mi.cmpD, Mi.tB, Mi.keep, Mi.move, Mi.vw, Pl.own_non, Pl.own_bl, Pl.own_int, Pl.own_str, Pl.own_tup, Pl.own_lst, Pl.own_dct, Pl.fz_non, Pl.fz_bl, Pl.fz_int, Pl.fz_str, Pl.fz_tup, Pl.fz_lst, Pl.fz_dct, Mi.asg, Mi.asgs, Mi.getPa, Mi.setPa, Mi.biD, Mi.isTy, Mi.seqI, Mi.fillIo, Mi.putIo, Mi.getVs, Mi.outF, Mi.envF, Mi.Fl.kill, Mi.D.isLst, Mi.binD, Mi.augD, fnMatchedAt, n0, w1, D.scal]
theorem run_matchedAt_big {need w tot x g f : Nat} (hf : P[f]? = some (fnMatchedAt need w tot x)) (hw : P[w]? = some fnWhole) (hn : P[need]? = some (fnNeed w g x)) (hg : gl[g]? = some (.int 30)) {m : Int} (hm : 30 < m) {q : D} (hq : q.own = false) (hqz : q.fz = q) :
    runF gl P (n + 3) f [.int m, q] = .exc x [.int m] := by
  have w0 := fun i => @run_whole gl P n w hw i
  have n0 := @run_need_far gl P n w g x need hn 30 m (w0 m) hg (by omega)
  rw [runF_eq hf rfl]
  simp [Mi.exs, Mi.ex, Mi.ev, Mi.evs, Mi.evb, Mi.evc, Mi.evo, Mi.evk, Mi.evAnd, Mi.evOr, Mi.evm, Mi.evI, Mi.evJ, Mi.getV, Mi.setV, Mi.delV, Mi.delVs, Mi.setVs, Mi.Res.bind, Mi.Res.of, Mi.cmpD, Mi.tB, Mi.keep, Mi.move, Mi.vw, Pl.own_non, Pl.own_bl, Pl.own_int, Pl.own_str, Pl.own_tup, Pl.own_lst, Pl.own_dct, Pl.fz_non, Pl.fz_bl, Pl.fz_int, Pl.fz_str, Pl.fz_tup, Pl.fz_lst, Pl.fz_dct, Mi.asg, Mi.asgs, Mi.getPa, Mi.setPa, Mi.biD, Mi.isTy, Mi.seqI, Mi.fillIo, Mi.putIo, Mi.getVs, Mi.outF, Mi.envF, Mi.Fl.kill, Mi.D.isLst, Mi.binD, Mi.augD, fnMatchedAt, n0]
end
end Pl

set_option Elab.async false
set_option linter.all false
set_option maxRecDepth 100000
set_option maxHeartbeats 4000000
/-! Pm3: matched_number -/
namespace Pl
open Mi
theorem eqD_nat (a b : Nat) : eqD (nD a) (nD b) = decide (a = b) := by
  unfold nD
  simp only [eqD]
  exact decide_eq_decide.mpr (by omega)
theorem idxD_nat (b : Nat) : ∀ (l : List Nat) (k : Nat), b ∈ l → idxD (nD b) (l.map nD) k = some (k + l.idxOf b)
  | [], k, h => by cases h
  | a :: l, k, h => by
    rw [List.map_cons, idxD, eqD_nat, List.idxOf_cons]
    by_cases e : a = b
    · simp [e]
    · have : b ∈ l := by
        rcases List.mem_cons.mp h with z | z
        · exact absurd z.symm e
        · exact z
      have e2 : (a == b) = false := by simpa using e
      rw [idxD_nat b l (k + 1) this, e2, decide_eq_false e]
      simp
      omega
theorem okNs_nat (n : Nat) (l : List Nat) : okNs n (l.map nD) = true := by
  refine okNs_all fun x hx => ?_
  obtain ⟨a, _, rfl⟩ := List.mem_map.mp hx
  cases n <;> rfl
theorem index_nat {b : Nat} {l : List Nat} (h : b ∈ l) : biD .index [.lst true (l.map nD), .int b] = some (.int (l.idxOf b : Nat)) := by
  have h1 : okN 60 (.lst true (l.map nD)) = true := by
    rw [okN]
    exact okNs_nat 59 l
  have h2 : okN 60 (.int b) = true := okNI b
  have h3 := idxD_nat b l 0 h
  rw [Nat.zero_add] at h3
  have h3 : idxD (.int b) (l.map nD) 0 = some (l.idxOf b) := h3
  simp [biD, h1, h2, h3]
section
variable {gl : List D} {cf : Nat → List D → Res (D × List D)}
abbrev mnE (W : D) (v l : List Nat) (acc : Nat) : Env := [some W, some (.tup (v.map nD)), some (.lst true (l.map nD)), some (.int acc), none]
def mnB (tot : Nat) : List S :=
    [.set (.v 4) (.mth .index (.v 2) (.ix (.v 1) (.ix (.v 2) (.c (.int 0))))),
     .aug 3 .add (.bin .mul (.bin .sub (.v 4) (.c (.int 1))) (.call tot [.bin .sub (.bin .fdiv (.bi .len [.v 2]) (.c (.int 2))) (.c (.int 1))])),
     .set (.v 2) (.bin .add (.sl (.v 2) (some (.c (.int 1))) (some (.v 4))) (.sl (.v 2) (some (.bin .add (.v 4) (.c (.int 1)))) none))]
theorem idx_le {l : List Nat} {b : Nat} : l.idxOf b ≤ l.length := List.idxOf_le_length
theorem mn_step {tot : Nat} {W : D} {v : List Nat} {n a acc : Nat} {l : List Nat} (ht : cf tot [.int n] = .ok (.int (od n), [])) (hn : n < 30) (hl : l.length = 2 * n + 1) (ha : a < v.length) (hm : v.getD a 0 ∈ l) (hne : v.getD a 0 ≠ a) :
    ((exs gl cf (mnB tot) (mnE W v (a :: l) acc)).bind fun f => .ok (f.kill [4])) = .ok (.nx (mnE W v (l.eraseIdx (l.idxOf (v.getD a 0))) (acc + l.idxOf (v.getD a 0) * odN n))) := by
  have hx := index_nat (List.mem_cons_of_mem a hm)
  have hi := List.idxOf_lt_length_iff.mpr hm
  have hx2 : (a :: l).idxOf (v.getD a 0) = l.idxOf (v.getD a 0) + 1 := by
    rw [List.idxOf_cons]
    have : (a == v.getD a 0) = false := by simpa using fun z : a = v.getD a 0 => hne z.symm
    rw [this]
    rfl
  rw [hx2] at hx
  have hx : biD .index [.lst true ((a :: l).map nD), .int (v.getD a 0 : Nat)] = some (.int ((l.idxOf (v.getD a 0) : Nat) + 1)) := hx
  have i0 := @ixD_nat true (a :: l) 0 (by simp)
  have i0 : ixD (.lst true ((a :: l).map nD)) (.int 0) = some (.int a) := i0
  have i1 := @ixT_nat v a ha
  have s4 := @ev_slM gl cf 2 4 [some W, some (.tup (v.map nD)), some (.lst true ((a :: l).map nD)), some (.int ((acc + l.idxOf (v.getD a 0) * odN n : Nat))), some (.int ((l.idxOf (v.getD a 0) : Nat) + 1))] a l (l.idxOf (v.getD a 0)) rfl rfl hi (by omega)
  unfold mnE
  generalize hk : l.idxOf (v.getD a 0) = k at hx hi s4 ⊢
  generalize v.getD a 0 = b at hx i1
  have hlen : biD .len [.lst true ((a :: l).map nD)] = some (.int (2 * n + 2 : Nat)) := by
    simp [biD]
    omega
  have hsm : smallI (k : Int) = true := by
    unfold smallI big
    simp only [Bool.and_eq_true, decide_eq_true_eq]
    omega
  generalize (a :: l).map nD = A at hx i0 s4 hlen ⊢
  generalize (l.eraseIdx k).map nD = B at s4 ⊢
  generalize v.map nD = Z at i1 s4 ⊢
  have hd : ((2 * n + 2 : Nat) : Int) / 2 - 1 = n := by omega
  have e2 : ev gl cf (.call tot [.bin .sub (.bin .fdiv (.bi .len [.v 2]) (.c (.int 2))) (.c (.int 1))]) [some W, some (.tup Z), some (.lst true A), some (.int acc), some (.int ((k : Nat) + 1))] = .ok (.int (od n), [some W, some (.tup Z), some (.lst true A), some (.int acc), some (.int ((k : Nat) + 1))]) := by
    have hl2 : ((2 : Int)).natAbs.log2 < 9000 := by decide
    have e3 : ev gl cf (.bin .sub (.bin .fdiv (.bi .len [.v 2]) (.c (.int 2))) (.c (.int 1))) [some W, some (.tup Z), some (.lst true A), some (.int acc), some (.int ((k : Nat) + 1))] = .ok (.int n, [some W, some (.tup Z), some (.lst true A), some (.int acc), some (.int ((k : Nat) + 1))]) := by
      have hf : binD .fdiv (.int ((2 * n + 2 : Nat) : Int)) (.int 2) = some (.int (((2 * n + 2 : Nat) : Int) / 2)) := by
        simp only [binD]
        rw [if_pos ⟨by decide, hl2⟩]
      refine ev_bin (ev_bin (x := .int ((2 * n + 2 : Nat) : Int)) ?_ rfl hf) rfl ?_
      · simp [ev, evb, getV, Res.bind, Res.of, hlen]
      · rw [← hd]
        rfl
    have hnz : (D.int n).fz = .int n := rfl
    rw [ev, evs_c (fun i z => by cases z), e3]
    simp [Res.bind, keep, vw, fz_int, evs, fillIo, ht, putIo]
  unfold mnB
  rw [exs_nx (e1 := [some W, some (.tup Z), some (.lst true A), some (.int acc), some (.int ((k : Nat) + 1))]) (by simp [ex, ev, getV, Res.bind, Res.of, i0, i1, D.isLst, hx, move, vw, asg, setV]),
    exs_nx (e1 := [some W, some (.tup Z), some (.lst true A), some (.int ((acc + k * odN n : Nat))), some (.int ((k : Nat) + 1))]) (by
      have hmul : ev gl cf (.bin .mul (.bin .sub (.v 4) (.c (.int 1))) (.call tot [.bin .sub (.bin .fdiv (.bi .len [.v 2]) (.c (.int 2))) (.c (.int 1))])) [some W, some (.tup Z), some (.lst true A), some (.int acc), some (.int ((k : Nat) + 1))] = .ok (.int ((k * odN n : Nat)), [some W, some (.tup Z), some (.lst true A), some (.int acc), some (.int ((k : Nat) + 1))]) := by
        refine ev_bin (x := .int k) (y := .int (od n)) (e1 := [some W, some (.tup Z), some (.lst true A), some (.int acc), some (.int ((k : Nat) + 1))]) ?_ e2 ?_
        · simp [ev, getV, Res.bind, Res.of, binD]
        · simp [binD, hsm, ← od_cast]
      rw [ex, hmul]
      simp [getV, Res.bind, Res.of, augD, binD, setV]),
    exs_nx (ex_setv s4 (.inl rfl))]
  simp [Mi.exs, Mi.ex, Mi.ev, Mi.evs, Mi.evb, Mi.evc, Mi.evo, Mi.evk, Mi.evAnd, Mi.evOr, Mi.evm, Mi.evI, Mi.evJ, Mi.getV, Mi.setV, Mi.delV, Mi.delVs, Mi.setVs, Mi.Res.bind, Mi.Res.of, Mi.cmpD, Mi.tB, Mi.keep, Mi.move, Mi.vw, Pl.own_non, Pl.own_bl, Pl.own_int, Pl.own_str, Pl.own_tup, Pl.own_lst, Pl.own_dct, Pl.fz_non, Pl.fz_bl, Pl.fz_int, Pl.fz_str, Pl.fz_tup, Pl.fz_lst, Pl.fz_dct, Mi.asg, Mi.asgs, Mi.getPa, Mi.setPa, Mi.biD, Mi.isTy, Mi.seqI, Mi.fillIo, Mi.putIo, Mi.getVs, Mi.outF, Mi.envF, Mi.Fl.kill, Mi.D.isLst, Mi.binD, Mi.augD]
theorem mn_loop {tot : Nat} {W : D} {v : List Nat} (ht : ∀ n : Nat, n ≤ 30 → cf tot [.int n] = .ok (.int (od n), [])) : ∀ (n : Nat) (l : List Nat) (acc fuel : Nat), n ≤ 30 → n < fuel → l.length = 2 * n → l.Nodup → (∀ x ∈ l, x < v.length) → Pairs (fun x => v.getD x 0) l →
    whL (fun e => (ev gl cf (.cmp (.bi .len [.v 2]) [.gt] [.c (.int 0)]) e).bind fun (x, e1) => (tB x).bind fun c => .ok (c, e1)) (fun e => (exs gl cf (mnB tot) e).bind fun f => .ok (f.kill [4])) fuel (mnE W v l acc) = .ok (.nx (mnE W v [] (acc + num (fun x => v.getD x 0) n l)))
  | n, l, acc, 0, _, h, _, _, _, _ => by omega
  | 0, l, acc, fuel + 1, _, _, hl, _, _, _ => by
    have : l = [] := List.eq_nil_of_length_eq_zero (by omega)
    subst this
    rw [whL, num]
    simp [mnE, ev, evb, evc, getV, biD, Res.bind, Res.of, cmpD, tB]
  | n + 1, [], acc, fuel + 1, _, _, hl, _, _, _ => by simp at hl
  | n + 1, a :: l, acc, fuel + 1, hn, hf, hl, hd, hx, hp => by
    have hl : l.length = 2 * n + 1 := by simp at hl; omega
    have h1 := pairs_erase hd hp
    have h0 := hp a List.mem_cons_self
    have hd := List.nodup_cons.mp hd
    have hi := List.idxOf_lt_length_iff.mpr h1.1
    have st := @mn_step gl cf tot W v n a acc l (ht n (by omega)) (by omega) hl (hx a List.mem_cons_self) h1.1 h0.2.1
    have ih := mn_loop (W := W) (v := v) ht n (l.eraseIdx (l.idxOf (v.getD a 0))) (acc + l.idxOf (v.getD a 0) * odN n) fuel (by omega) (by omega) (erase_len hl (by omega)) (hd.2.sublist (List.eraseIdx_sublist ..)) (fun x hx2 => hx x (List.mem_cons_of_mem _ ((List.eraseIdx_sublist ..).subset hx2))) h1.2
    have hc : ((ev gl cf (.cmp (.bi .len [.v 2]) [.gt] [.c (.int 0)]) (mnE W v (a :: l) acc)).bind fun (x, e1) => (tB x).bind fun c => Res.ok (c, e1)) = .ok (true, mnE W v (a :: l) acc) := by
      have hlen : biD .len [.lst true ((a :: l).map nD)] = some (.int (2 * n + 2 : Nat)) := by
        simp [biD]
        omega
      have h0 : (0 : Int) < ((2 * n + 2 : Nat) : Int) := by omega
      unfold mnE
      generalize (a :: l).map nD = A at hlen ⊢
      simp only [ev, evb, evc, getV, Res.bind, Res.of, List.getElem?_cons_succ, List.getElem?_cons_zero, hlen, cmpD, tB]
      rw [decide_eq_true h0]
    rw [whL, hc]
    show (((exs gl cf (mnB tot) (mnE W v (a :: l) acc)).bind fun f => Res.ok (f.kill [4])).bind _) = _
    rw [st]
    show whL _ _ fuel _ = _
    rw [ih, num, Nat.add_assoc]
end
section
variable {gl : List D} {P : List Fn} {n : Nat}
theorem run_matchedNumber {par tot f : Nat} (hf : P[f]? = some (fnMatchedNumber par tot)) (ht : P[tot]? = some fnTotal) {W : D} {v : List Nat} {m : Nat} (hW : W.own = false) (hz : W.fz = W) (hp : runF gl P (n + 8) par [W] = .ok (.tup (v.map nD), [])) (hm : m ≤ 30) (hv : v.length = 2 * m) (hV : Pairs (fun x => v.getD x 0) (List.range (2 * m))) :
    runF gl P (n + 9) f [W] = .ok (.int (num (fun x => v.getD x 0) m (List.range (2 * m)) : Nat), []) := by
  have t0 : ∀ k : Nat, k ≤ 30 → runF gl P (n + 8) tot [.int k] = .ok (.int (od k), []) := fun k hk => run_total ht (by omega)
  rw [runF_eq hf rfl]
  have hrg : rngOk 0 ((2 * m : Nat) : Int) = true := by
    unfold rngOk
    simp only [Bool.and_eq_true, decide_eq_true_eq]
    omega
  have hrl : rangeD 0 ((2 * m : Nat) : Int).toNat = (List.range (2 * m)).map nD := by
    rw [Int.toNat_natCast, rangeD0]
  have hlen : biD .len [.tup (v.map nD)] = some (.int (2 * m : Nat)) := by
    simp [biD, hv]
  have s2 : biD .lrange1 [.int (2 * m : Nat)] = some (.lst true ((List.range (2 * m)).map nD)) := by
    simp only [biD]
    rw [if_pos hrg, hrl]
  have lp := @mn_loop gl (runF gl P (n + 8)) tot W v t0 m (List.range (2 * m)) 0 100000 hm (by omega) (by simp) List.nodup_range (fun x hx => by rw [hv]; exact List.mem_range.mp hx) hV
  unfold fnMatchedNumber
  show (exs gl (runF gl P (n + 8)) _ [some W, none, none, none, none]).bind _ = _
  rw [exs_nx (e1 := [some W, some (.tup (v.map nD)), none, none, none]) (by
      generalize v.map nD = Z at hp ⊢
      simp [ex, ev, evs, getV, Res.bind, Res.of, keep, vw, hW, hz, fillIo, putIo, hp, move, asg, setV]),
    exs_nx (e1 := [some W, some (.tup (v.map nD)), some (.lst true ((List.range (2 * m)).map nD)), none, none]) (by
      generalize v.map nD = Z at hlen ⊢
      simp only [ex, ev, evb, getV, Res.bind, Res.of, List.getElem?_cons_succ, List.getElem?_cons_zero, hlen, s2]
      generalize (List.range (2 * m)).map nD = Y
      simp [move, vw, asg, setV]),
    exs_nx (e1 := mnE W v (List.range (2 * m)) 0) (by
      unfold mnE
      generalize v.map nD = Z
      generalize (List.range (2 * m)).map nD = Y
      simp [ex, ev, Res.bind, Res.of, move, vw, asg, setV]),
    exs_nx (e1 := mnE W v [] (0 + num (fun x => v.getD x 0) m (List.range (2 * m)))) (by
      rw [ex]
      exact lp)]
  unfold mnE
  generalize v.map nD = Z
  rw [Nat.zero_add]
  simp [Mi.exs, Mi.ex, Mi.ev, Mi.evs, Mi.evb, Mi.evc, Mi.evo, Mi.evk, Mi.evAnd, Mi.evOr, Mi.evm, Mi.evI, Mi.evJ, Mi.getV, Mi.setV, Mi.delV, Mi.delVs, Mi.setVs, Mi.Res.bind, Mi.Res.of, Mi.cmpD, Mi.tB, Mi.keep, Mi.move, Mi.vw, Pl.own_non, Pl.own_bl, Pl.own_int, Pl.own_str, Pl.own_tup, Pl.own_lst, Pl.own_dct, Pl.fz_non, Pl.fz_bl, Pl.fz_int, Pl.fz_str, Pl.fz_tup, Pl.fz_lst, Pl.fz_dct, Mi.asg, Mi.asgs, Mi.getPa, Mi.setPa, Mi.biD, Mi.isTy, Mi.seqI, Mi.fillIo, Mi.putIo, Mi.getVs, Mi.outF, Mi.envF, Mi.Fl.kill, Mi.D.isLst, Mi.binD, Mi.augD]
end
end Pl

set_option Elab.async false
set_option linter.all false
set_option maxRecDepth 100000
set_option maxHeartbeats 4000000
/-! Pm4: the laws' own small functions: same, pick, partners, drawn matched webs -/
namespace Pl
open Mi
def fnSame (s : Nat) : Fn := ⟨2, 3, [],
  [.ite (.or [.bi (.isi .tuple) [.v 1], .bi (.isi .list) [.v 1]])
    [.ite (.or [.cmp (.bi (.isi .tuple) [.v 1]) [.ne] [.bi (.isi .tuple) [.v 0]], .cmp (.bi (.isi .list) [.v 1]) [.ne] [.bi (.isi .list) [.v 0]]])
      [.ret (.c (.bl false))]
      [],
     .ite (.cmp (.bi .len [.v 0]) [.ne] [.bi .len [.v 1]])
      [.ret (.c (.bl false))]
      [],
     .ret (.cmp (.lc [2] (.v 2) (.v 2) (.rng [.bi .len [.v 1]]) (some (.nt (.call s [.ix (.v 0) (.v 2), .ix (.v 1) (.v 2)]))) []) [.eq] [.lst []])]
    [],
   .ite (.cmp (.v 1) [.is] [.c (.non)])
    [.ret (.cmp (.v 0) [.is] [.c (.non)])]
    [],
   .ite (.bi (.isi .str) [.v 1])
    [.ret (.and [.bi (.isi .str) [.v 0], .cmp (.v 0) [.eq] [.v 1]])]
    [],
   .ret (.and [.bi (.isi .int) [.v 0], .cmp (.bi (.isi .bool) [.v 0]) [.eq] [.bi (.isi .bool) [.v 1]], .cmp (.v 0) [.eq] [.v 1]])]⟩
/-- values that same takes -/
inductive Flat : Nat → D → Prop where
  | int (n : Nat) (i : Int) : Flat n (.int i)
  | bl (n : Nat) (b : Bool) : Flat n (.bl b)
  | non (n : Nat) : Flat n .non
  | tup (n : Nat) (xs : List D) (hl : xs.length ≤ 100000) (h : ∀ x ∈ xs, Flat n x) : Flat (n + 1) (.tup xs)
  | lst (n : Nat) (xs : List D) (hl : xs.length ≤ 100000) (h : ∀ x ∈ xs, Flat n x) : Flat (n + 1) (.lst false xs)
theorem Flat.own {n : Nat} {x : D} (h : Flat n x) : x.own = false := by cases h <;> rfl
theorem Flat.fz {n : Nat} {x : D} (h : Flat n x) : x.fz = x := by cases h <;> rfl
theorem Flat.up {n : Nat} {x : D} (h : Flat n x) : Flat (n + 1) x := by
  induction h with
  | int n i => exact .int _ _
  | bl n i => exact .bl _ _
  | non n => exact .non _
  | tup n xs hl h ih => exact .tup _ _ hl ih
  | lst n xs hl h ih => exact .lst _ _ hl ih
theorem flat_tie (n : Nat) (t : Tie) : Flat (n + 1) (tieD t) := .tup _ _ (by simp) (fun x hx => by
  simp at hx
  rcases hx with rfl | rfl <;> exact .int _ _)
theorem flat_web (n m : Nat) (ts : List Tie) (h : ts.length ≤ 60) : Flat (n + 3) (webD m ts) := .tup _ _ (by simp) (fun x hx => by
  simp at hx
  rcases hx with rfl | rfl
  · exact .int _ _
  · refine .tup _ _ (by simp; omega) (fun y hy => ?_)
    obtain ⟨t, _, rfl⟩ := List.mem_map.mp hy
    exact flat_tie _ _)
theorem filter_nil {α : Type} {p : α → Bool} {l : List α} (h : ∀ x ∈ l, p x = false) : l.filter p = [] := by
  rw [List.filter_eq_nil_iff]
  intro x hx
  rw [h x hx]
  decide
section
variable {gl : List D} {P : List Fn}
theorem rangeD_len0 (k : Nat) : (rangeD 0 k).length = k := rangeD_len 0 k
theorem same_items {s k : Nat} {A : D} {xs : List D} (hA : ∀ j, j < xs.length → ixD A (.int (j : Nat)) = some (xs.getD j .non)) (hfz : ∀ x ∈ xs, x.fz = x) (hA1 : biD .len [A] = some (.int xs.length)) (hl : xs.length ≤ 100000)
    (h : ∀ x ∈ xs, runF gl P k s [x, x] = .ok (.bl true, [])) : ev gl (runF gl P k) (.lc [2] (.v 2) (.v 2) (.rng [.bi .len [.v 1]]) (some (.nt (.call s [.ix (.v 0) (.v 2), .ix (.v 1) (.v 2)]))) []) [some A, some A, none] = .ok (.lst true [], [some A, some A, none]) := by
  have hr := rngOk_nat (n := xs.length) (by omega)
  have e := ev_lcI (gl := gl) (cf := runF gl P k) (i := 2) (elt := .v 2) (c := .nt (.call s [.ix (.v 0) (.v 2), .ix (.v 1) (.v 2)])) (it := .rng [.bi .len [.v 1]]) (env := [some A, some A, none]) (xs := rangeD 0 xs.length) (g := fun x => x) (p := fun _ => false) (o := none)
    (by simp [evJ, evb, ev, getV, Res.bind, Res.of, hA1, rngD, hr]) (by rw [rangeD_len0]; omega) rfl (fun d z => by cases z) (fun x hx => ?_) (fun x hx z => by cases z) (.inr fun x hx => ?_)
  · rw [e, filter_nil (fun _ _ => rfl)]
    rfl
  · obtain ⟨j, hj⟩ := List.getElem?_of_mem hx
    obtain ⟨h1, rfl⟩ := rangeD_at _ _ _ _ hj
    have ha := hA j h1
    have hm : xs.getD j .non ∈ xs := by
      rw [List.getD_eq_getElem?_getD, List.getElem?_eq_getElem h1]
      exact List.getElem_mem h1
    have hs := h _ hm
    have hz := hfz _ hm
    generalize xs.getD j .non = x at ha hs hz
    simp [ev, evs, getV, Res.bind, Res.of, ha, keep, vw, hz, fillIo, hs, putIo, tB]
  · obtain ⟨j, hj⟩ := List.getElem?_of_mem hx
    obtain ⟨h1, rfl⟩ := rangeD_at _ _ _ _ hj
    rfl
theorem ix_list {o : Bool} {xs : List D} {j : Nat} (h : j < xs.length) : ixD (.lst o xs) (.int j) = some (xs.getD j .non) := by
  rw [ixD, ixN_nat h]
  show xs[j]? = _
  rw [List.getD_eq_getElem?_getD, List.getElem?_eq_getElem h]
  rfl
theorem ix_tup {xs : List D} {j : Nat} (h : j < xs.length) : ixD (.tup xs) (.int j) = some (xs.getD j .non) := by
  rw [ixD, ixN_nat h]
  show xs[j]? = _
  rw [List.getD_eq_getElem?_getD, List.getElem?_eq_getElem h]
  rfl
theorem eqB (i j : Bool) : eq? (.bl i) (.bl j) = some (i == j) := by simp [eq?, okN, eqD]
/-- same takes each value as its own like -/
theorem run_same {s : Nat} (hs : P[s]? = some (fnSame s)) : ∀ (k n : Nat) (x : D), Flat k x → runF gl P (n + k + 1) s [x, x] = .ok (.bl true, []) := by
  intro k
  induction k with
  | zero =>
    intro n x h
    rw [runF_eq hs rfl]
    cases h with
    | int n i => simp [Mi.exs, Mi.ex, Mi.ev, Mi.evs, Mi.evb, Mi.evc, Mi.evo, Mi.evk, Mi.evAnd, Mi.evOr, Mi.evm, Mi.evI, Mi.evJ, Mi.getV, Mi.setV, Mi.delV, Mi.delVs, Mi.setVs, Mi.Res.bind, Mi.Res.of, Mi.cmpD, Mi.tB, Mi.keep, Mi.move, Mi.vw, Pl.own_non, Pl.own_bl, Pl.own_int, Pl.own_str, Pl.own_tup, Pl.own_lst, Pl.own_dct, Pl.fz_non, Pl.fz_bl, Pl.fz_int, Pl.fz_str, Pl.fz_tup, Pl.fz_lst, Pl.fz_dct, Mi.asg, Mi.asgs, Mi.getPa, Mi.setPa, Mi.biD, Mi.isTy, Mi.seqI, Mi.fillIo, Mi.putIo, Mi.getVs, Mi.outF, Mi.envF, Mi.Fl.kill, Mi.D.isLst, Mi.binD, Mi.augD, fnSame, D.isNon, eqI, eqB]
    | bl n i => simp [Mi.exs, Mi.ex, Mi.ev, Mi.evs, Mi.evb, Mi.evc, Mi.evo, Mi.evk, Mi.evAnd, Mi.evOr, Mi.evm, Mi.evI, Mi.evJ, Mi.getV, Mi.setV, Mi.delV, Mi.delVs, Mi.setVs, Mi.Res.bind, Mi.Res.of, Mi.cmpD, Mi.tB, Mi.keep, Mi.move, Mi.vw, Pl.own_non, Pl.own_bl, Pl.own_int, Pl.own_str, Pl.own_tup, Pl.own_lst, Pl.own_dct, Pl.fz_non, Pl.fz_bl, Pl.fz_int, Pl.fz_str, Pl.fz_tup, Pl.fz_lst, Pl.fz_dct, Mi.asg, Mi.asgs, Mi.getPa, Mi.setPa, Mi.biD, Mi.isTy, Mi.seqI, Mi.fillIo, Mi.putIo, Mi.getVs, Mi.outF, Mi.envF, Mi.Fl.kill, Mi.D.isLst, Mi.binD, Mi.augD, fnSame, D.isNon, eqB]
    | non n => simp [Mi.exs, Mi.ex, Mi.ev, Mi.evs, Mi.evb, Mi.evc, Mi.evo, Mi.evk, Mi.evAnd, Mi.evOr, Mi.evm, Mi.evI, Mi.evJ, Mi.getV, Mi.setV, Mi.delV, Mi.delVs, Mi.setVs, Mi.Res.bind, Mi.Res.of, Mi.cmpD, Mi.tB, Mi.keep, Mi.move, Mi.vw, Pl.own_non, Pl.own_bl, Pl.own_int, Pl.own_str, Pl.own_tup, Pl.own_lst, Pl.own_dct, Pl.fz_non, Pl.fz_bl, Pl.fz_int, Pl.fz_str, Pl.fz_tup, Pl.fz_lst, Pl.fz_dct, Mi.asg, Mi.asgs, Mi.getPa, Mi.setPa, Mi.biD, Mi.isTy, Mi.seqI, Mi.fillIo, Mi.putIo, Mi.getVs, Mi.outF, Mi.envF, Mi.Fl.kill, Mi.D.isLst, Mi.binD, Mi.augD, fnSame, D.isNon]
  | succ k ih =>
    intro n x h
    rw [runF_eq hs rfl]
    cases h with
    | int n i => simp [Mi.exs, Mi.ex, Mi.ev, Mi.evs, Mi.evb, Mi.evc, Mi.evo, Mi.evk, Mi.evAnd, Mi.evOr, Mi.evm, Mi.evI, Mi.evJ, Mi.getV, Mi.setV, Mi.delV, Mi.delVs, Mi.setVs, Mi.Res.bind, Mi.Res.of, Mi.cmpD, Mi.tB, Mi.keep, Mi.move, Mi.vw, Pl.own_non, Pl.own_bl, Pl.own_int, Pl.own_str, Pl.own_tup, Pl.own_lst, Pl.own_dct, Pl.fz_non, Pl.fz_bl, Pl.fz_int, Pl.fz_str, Pl.fz_tup, Pl.fz_lst, Pl.fz_dct, Mi.asg, Mi.asgs, Mi.getPa, Mi.setPa, Mi.biD, Mi.isTy, Mi.seqI, Mi.fillIo, Mi.putIo, Mi.getVs, Mi.outF, Mi.envF, Mi.Fl.kill, Mi.D.isLst, Mi.binD, Mi.augD, fnSame, D.isNon, eqI, eqB]
    | bl n i => simp [Mi.exs, Mi.ex, Mi.ev, Mi.evs, Mi.evb, Mi.evc, Mi.evo, Mi.evk, Mi.evAnd, Mi.evOr, Mi.evm, Mi.evI, Mi.evJ, Mi.getV, Mi.setV, Mi.delV, Mi.delVs, Mi.setVs, Mi.Res.bind, Mi.Res.of, Mi.cmpD, Mi.tB, Mi.keep, Mi.move, Mi.vw, Pl.own_non, Pl.own_bl, Pl.own_int, Pl.own_str, Pl.own_tup, Pl.own_lst, Pl.own_dct, Pl.fz_non, Pl.fz_bl, Pl.fz_int, Pl.fz_str, Pl.fz_tup, Pl.fz_lst, Pl.fz_dct, Mi.asg, Mi.asgs, Mi.getPa, Mi.setPa, Mi.biD, Mi.isTy, Mi.seqI, Mi.fillIo, Mi.putIo, Mi.getVs, Mi.outF, Mi.envF, Mi.Fl.kill, Mi.D.isLst, Mi.binD, Mi.augD, fnSame, D.isNon, eqB]
    | non n => simp [Mi.exs, Mi.ex, Mi.ev, Mi.evs, Mi.evb, Mi.evc, Mi.evo, Mi.evk, Mi.evAnd, Mi.evOr, Mi.evm, Mi.evI, Mi.evJ, Mi.getV, Mi.setV, Mi.delV, Mi.delVs, Mi.setVs, Mi.Res.bind, Mi.Res.of, Mi.cmpD, Mi.tB, Mi.keep, Mi.move, Mi.vw, Pl.own_non, Pl.own_bl, Pl.own_int, Pl.own_str, Pl.own_tup, Pl.own_lst, Pl.own_dct, Pl.fz_non, Pl.fz_bl, Pl.fz_int, Pl.fz_str, Pl.fz_tup, Pl.fz_lst, Pl.fz_dct, Mi.asg, Mi.asgs, Mi.getPa, Mi.setPa, Mi.biD, Mi.isTy, Mi.seqI, Mi.fillIo, Mi.putIo, Mi.getVs, Mi.outF, Mi.envF, Mi.Fl.kill, Mi.D.isLst, Mi.binD, Mi.augD, fnSame, D.isNon]
    | tup _ xs hl h =>
      have e := same_items (gl := gl) (P := P) (s := s) (k := n + k + 1) (A := .tup xs) (xs := xs) (fun j hj => ix_tup hj) (fun x hx => (h x hx).fz) rfl hl (fun x hx => ih n x (h x hx))
      have e2 : eq? (.lst true []) (.lst true []) = some true := rfl
      unfold fnSame
      show (exs gl (runF gl P (n + k + 1)) _ [some (.tup xs), some (.tup xs), none]).bind _ = _
      have er : ex gl (runF gl P (n + k + 1)) (.ret (.cmp (.lc [2] (.v 2) (.v 2) (.rng [.bi .len [.v 1]]) (some (.nt (.call s [.ix (.v 0) (.v 2), .ix (.v 1) (.v 2)]))) []) [.eq] [.lst []])) [some (.tup xs), some (.tup xs), none] = .ok (.ret (.bl true) [some (.tup xs), some (.tup xs), none]) := by
        rw [ex, ev, e]
        simp [evc, ev, evs, Res.bind, Res.of, cmpD, e2, move, vw]
      have ei : ∀ a b, ex gl (runF gl P (n + k + 1)) (.ite (.or [.bi (.isi .tuple) [.v 1], .bi (.isi .list) [.v 1]]) a b) [some (.tup xs), some (.tup xs), none] = exs gl (runF gl P (n + k + 1)) a [some (.tup xs), some (.tup xs), none] := fun a b => by
        rw [ex]
        simp [evOr, ev, evb, getV, Res.bind, Res.of, biD, isTy, tB]
      rw [exs_rt (d := .bl true) (e1 := [some (.tup xs), some (.tup xs), none]) (by
        rw [ei, exs_nx (e1 := [some (.tup xs), some (.tup xs), none]) (by simp [Mi.exs, Mi.ex, Mi.ev, Mi.evs, Mi.evb, Mi.evc, Mi.evo, Mi.evk, Mi.evAnd, Mi.evOr, Mi.evm, Mi.evI, Mi.evJ, Mi.getV, Mi.setV, Mi.delV, Mi.delVs, Mi.setVs, Mi.Res.bind, Mi.Res.of, Mi.cmpD, Mi.tB, Mi.keep, Mi.move, Mi.vw, Pl.own_non, Pl.own_bl, Pl.own_int, Pl.own_str, Pl.own_tup, Pl.own_lst, Pl.own_dct, Pl.fz_non, Pl.fz_bl, Pl.fz_int, Pl.fz_str, Pl.fz_tup, Pl.fz_lst, Pl.fz_dct, Mi.asg, Mi.asgs, Mi.getPa, Mi.setPa, Mi.biD, Mi.isTy, Mi.seqI, Mi.fillIo, Mi.putIo, Mi.getVs, Mi.outF, Mi.envF, Mi.Fl.kill, Mi.D.isLst, Mi.binD, Mi.augD, eqB]), exs_nx (e1 := [some (.tup xs), some (.tup xs), none]) (by simp [Mi.exs, Mi.ex, Mi.ev, Mi.evs, Mi.evb, Mi.evc, Mi.evo, Mi.evk, Mi.evAnd, Mi.evOr, Mi.evm, Mi.evI, Mi.evJ, Mi.getV, Mi.setV, Mi.delV, Mi.delVs, Mi.setVs, Mi.Res.bind, Mi.Res.of, Mi.cmpD, Mi.tB, Mi.keep, Mi.move, Mi.vw, Pl.own_non, Pl.own_bl, Pl.own_int, Pl.own_str, Pl.own_tup, Pl.own_lst, Pl.own_dct, Pl.fz_non, Pl.fz_bl, Pl.fz_int, Pl.fz_str, Pl.fz_tup, Pl.fz_lst, Pl.fz_dct, Mi.asg, Mi.asgs, Mi.getPa, Mi.setPa, Mi.biD, Mi.isTy, Mi.seqI, Mi.fillIo, Mi.putIo, Mi.getVs, Mi.outF, Mi.envF, Mi.Fl.kill, Mi.D.isLst, Mi.binD, Mi.augD, eqI]), exs_rt er])]
      rfl
    | lst _ xs hl h =>
      have e := same_items (gl := gl) (P := P) (s := s) (k := n + k + 1) (A := .lst false xs) (xs := xs) (fun j hj => ix_list hj) (fun x hx => (h x hx).fz) rfl hl (fun x hx => ih n x (h x hx))
      have e2 : eq? (.lst true []) (.lst true []) = some true := rfl
      unfold fnSame
      show (exs gl (runF gl P (n + k + 1)) _ [some (.lst false xs), some (.lst false xs), none]).bind _ = _
      have er : ex gl (runF gl P (n + k + 1)) (.ret (.cmp (.lc [2] (.v 2) (.v 2) (.rng [.bi .len [.v 1]]) (some (.nt (.call s [.ix (.v 0) (.v 2), .ix (.v 1) (.v 2)]))) []) [.eq] [.lst []])) [some (.lst false xs), some (.lst false xs), none] = .ok (.ret (.bl true) [some (.lst false xs), some (.lst false xs), none]) := by
        rw [ex, ev, e]
        simp [evc, ev, evs, Res.bind, Res.of, cmpD, e2, move, vw]
      have ei : ∀ a b, ex gl (runF gl P (n + k + 1)) (.ite (.or [.bi (.isi .tuple) [.v 1], .bi (.isi .list) [.v 1]]) a b) [some (.lst false xs), some (.lst false xs), none] = exs gl (runF gl P (n + k + 1)) a [some (.lst false xs), some (.lst false xs), none] := fun a b => by
        rw [ex]
        simp [evOr, ev, evb, getV, Res.bind, Res.of, biD, isTy, tB]
      rw [exs_rt (d := .bl true) (e1 := [some (.lst false xs), some (.lst false xs), none]) (by
        rw [ei, exs_nx (e1 := [some (.lst false xs), some (.lst false xs), none]) (by simp [Mi.exs, Mi.ex, Mi.ev, Mi.evs, Mi.evb, Mi.evc, Mi.evo, Mi.evk, Mi.evAnd, Mi.evOr, Mi.evm, Mi.evI, Mi.evJ, Mi.getV, Mi.setV, Mi.delV, Mi.delVs, Mi.setVs, Mi.Res.bind, Mi.Res.of, Mi.cmpD, Mi.tB, Mi.keep, Mi.move, Mi.vw, Pl.own_non, Pl.own_bl, Pl.own_int, Pl.own_str, Pl.own_tup, Pl.own_lst, Pl.own_dct, Pl.fz_non, Pl.fz_bl, Pl.fz_int, Pl.fz_str, Pl.fz_tup, Pl.fz_lst, Pl.fz_dct, Mi.asg, Mi.asgs, Mi.getPa, Mi.setPa, Mi.biD, Mi.isTy, Mi.seqI, Mi.fillIo, Mi.putIo, Mi.getVs, Mi.outF, Mi.envF, Mi.Fl.kill, Mi.D.isLst, Mi.binD, Mi.augD, eqB]), exs_nx (e1 := [some (.lst false xs), some (.lst false xs), none]) (by simp [Mi.exs, Mi.ex, Mi.ev, Mi.evs, Mi.evb, Mi.evc, Mi.evo, Mi.evk, Mi.evAnd, Mi.evOr, Mi.evm, Mi.evI, Mi.evJ, Mi.getV, Mi.setV, Mi.delV, Mi.delVs, Mi.setVs, Mi.Res.bind, Mi.Res.of, Mi.cmpD, Mi.tB, Mi.keep, Mi.move, Mi.vw, Pl.own_non, Pl.own_bl, Pl.own_int, Pl.own_str, Pl.own_tup, Pl.own_lst, Pl.own_dct, Pl.fz_non, Pl.fz_bl, Pl.fz_int, Pl.fz_str, Pl.fz_tup, Pl.fz_lst, Pl.fz_dct, Mi.asg, Mi.asgs, Mi.getPa, Mi.setPa, Mi.biD, Mi.isTy, Mi.seqI, Mi.fillIo, Mi.putIo, Mi.getVs, Mi.outF, Mi.envF, Mi.Fl.kill, Mi.D.isLst, Mi.binD, Mi.augD, eqI]), exs_rt er])]
      rfl
end
end Pl

set_option Elab.async false
set_option linter.all false
set_option maxRecDepth 100000
set_option maxHeartbeats 4000000
/-! Pm5: the laws' own small functions: pick, partners, drawn matched webs -/
namespace Pl
open Mi
def fnPick (d : Nat) : Fn := ⟨2, 2, [0],
  [.ret (.ix (.fz 1) (.call d [.io 0, .bi .len [.v 1]]))]⟩
def fnLawPartners : Fn := ⟨1, 5, [],
  [.set (.v 1) (.lc [4] (.c (.int 0)) (.v 4) (.rng [.ix (.v 0) (.c (.int 0))]) none []),
   .for (.tup [.v 2, .v 3]) (.seq (.ix (.v 0) (.c (.int 1))))
    [.pix 1 (.v 2) (.v 3) (.v 3) (.v 2)] [2, 3],
   .ret (.mv 1)]⟩
def fnLawMatched (d p : Nat) : Fn := ⟨2, 8, [0],
  [.par [4, 5, 6] [.call d [.io 0, .bin .add (.v 1) (.c (.int 1))], .call d [.io 0, .c (.int 6)], .lst []],
   .set (.v 2) (.lc [3] (.v 3) (.v 3) (.rng [.bin .mul (.c (.int 2)) (.v 4)]) none []),
   .for (.v 3) (.rng [.v 4])
    [.set (.v 7) (.ife (.cmp (.v 5) [.eq] [.c (.int 3)]) (.call p [.io 0, .lst [.c (.int 1), .bin .sub (.bi .len [.v 2]) (.c (.int 1))]]) (.bin .add (.c (.int 1)) (.call d [.io 0, .bin .sub (.bi .len [.v 2]) (.c (.int 1))]))),
     .ite (.cmp (.v 5) [.lt] [.c (.int 3)])
      [.set (.v 7) (.ix (.lst [.bin .sub (.bi .len [.v 2]) (.c (.int 1)), .c (.int 1), .bin .fdiv (.bi .len [.v 2]) (.c (.int 2))]) (.v 5))]
      [],
     .app (.v 6) (.tup [.ix (.v 2) (.c (.int 0)), .ix (.v 2) (.v 7)]),
     .set (.v 2) (.bin .add (.sl (.v 2) (some (.c (.int 1))) (some (.v 7))) (.sl (.v 2) (some (.bin .add (.v 7) (.c (.int 1)))) none))] [3, 7],
   .ret (.tup [.bin .mul (.c (.int 2)) (.v 4), .bi .tuple [.ife (.cmp (.call d [.io 0, .c (.int 3)]) [.eq] [.c (.int 0)]) (.rev (.v 6)) (.v 6)]])]⟩
/-- a pot of cells cs -/
def IsPot (cs : List Int) (p : D) : Prop := ∃ i s r, p = potD cs i s r ∧ PotOk cs i s r
theorem IsPot.lst {cs : List Int} {p : D} (h : IsPot cs p) : ∃ xs, p = .lst true xs := by
  obtain ⟨i, s, r, rfl, _⟩ := h
  exact ⟨_, rfl⟩
theorem isPot0 (cs : List Int) : IsPot cs (potD cs 0 20011 0) := ⟨_, _, _, rfl, potOk0 cs⟩
section
variable {gl : List D} {P : List Fn} {n : Nat} {cf : Nat → List D → Res (D × List D)} {cs : List Int}
def Draws (cf : Nat → List D → Res (D × List D)) (cs : List Int) (d : Nat) : Prop := ∀ p (m : Int), IsPot cs p → m ≤ 10000000000000000000000000000000000000000 → ∃ (k : Nat) (p' : D), cf d [p, .int m] = .ok (.int k, [p']) ∧ IsPot cs p' ∧ (2 ≤ m → (k : Int) < m) ∧ (m < 2 → k = 0)
theorem draws {d : Nat} (hd : P[d]? = some fnDraw) : Draws (runF gl P (n + 1)) cs d := by
  rintro p m ⟨i, s, r, rfl, hs⟩ hm
  obtain ⟨k, i', s', r', h1, h2, h3, h4, h5⟩ := run_draw (gl := gl) (n := n) hd hs hm
  obtain ⟨k, rfl⟩ := Int.eq_ofNat_of_zero_le h3
  refine ⟨k, _, h1, ⟨_, _, _, rfl, h2⟩, h4, fun z => ?_⟩
  have := h5 z
  omega
theorem draws_pos {d : Nat} (h : Draws cf cs d) {p : D} {m : Nat} (hp : IsPot cs p) (h1 : 1 ≤ m) (h2 : m ≤ 1000000) : ∃ (k : Nat) (p' : D), cf d [p, .int m] = .ok (.int k, [p']) ∧ IsPot cs p' ∧ k < m := by
  obtain ⟨k, p', a, b, c, e⟩ := h p m hp (by omega)
  refine ⟨k, p', a, b, ?_⟩
  by_cases z : (m : Int) < 2
  · rw [e z]
    omega
  · have := c (by omega)
    omega
def Picks (cf : Nat → List D → Res (D × List D)) (cs : List Int) (d : Nat) : Prop := ∀ p (xs : List D), IsPot cs p → 1 ≤ xs.length → xs.length ≤ 1000000 → ∃ (k : Nat) (p' : D), cf d [p, .lst false xs] = .ok (xs.getD k .non, [p']) ∧ IsPot cs p' ∧ k < xs.length
theorem picks {d f : Nat} (hd : P[d]? = some fnDraw) (hf : P[f]? = some (fnPick d)) : Picks (runF gl P (n + 2)) cs f := by
  intro p xs hp h1 h2
  obtain ⟨k, p', a, b, c⟩ := draws_pos (draws (gl := gl) (P := P) (n := n) (cs := cs) hd) hp h1 h2
  refine ⟨k, p', ?_, b, c⟩
  rw [runF_eq hf rfl]
  have ha := @ix_list false xs k c
  generalize xs.getD k .non = x at ha ⊢
  have hz : (D.lst false xs).fz = D.lst false xs := rfl
  have e0 : biD .len [.lst false xs] = some (.int xs.length) := rfl
  generalize hl : (xs.length : Int) = L at e0 a
  generalize D.lst false xs = X at ha e0 hz ⊢
  unfold fnPick
  show (exs gl (runF gl P (n + 1)) _ [some p, some X]).bind _ = _
  have e1 : ev gl (runF gl P (n + 1)) (.ix (.fz 1) (.call d [.io 0, .bi .len [.v 1]])) [some p, some X] = .ok (x, [some p', some X]) := by
    simp [ev, evs, evb, getV, setV, Res.bind, Res.of, hz, e0, keep, vw, fz_int, fillIo, a, putIo, ha]
  rw [exs_rt (d := x) (e1 := [some p', some X]) (by
    rw [ex, e1]
    simp [Res.bind, move, vw])]
  simp [Res.bind, outF, getVs, getV]
/-! ### partners -/
theorem par_step {m : Nat} {vs : List Nat} {W : D} {t : Tie} (h1 : t.1 < vs.length) (h2 : t.2 < vs.length) :
    ((Res.of (asg (.tup [.v 2, .v 3]) (tieD t) [some W, some (.lst true (vs.map nD)), none, none, none])).bind fun e2 => (exs gl cf [.pix 1 (.v 2) (.v 3) (.v 3) (.v 2)] e2).bind fun f => .ok (f.kill [2, 3])) = .ok (.nx [some W, some (.lst true ((parS vs t).map nD)), none, none, none]) := by
  obtain ⟨a, b⟩ := t
  have i2 := @setD_nat vs a b h1
  have i4 := @setD_nat (vs.set a b) b a (by rw [List.length_set]; exact h2)
  have i4 : setD (.lst true ((vs.set a b).map nD)) (.int b) (.int a) = some (.lst true ((parS vs (a, b)).map nD)) := i4
  have e : tieD (a, b) = .tup [.int a, .int b] := rfl
  rw [e]
  generalize (vs.set a b).map nD = B1 at i2 i4
  generalize (parS vs (a, b)).map nD = B2 at i4 ⊢
  simp [asg, asgs, Res.of, Res.bind, setV, exs, ex, ev, getV, i2, i4, Fl.kill, delVs, delV, keep, vw, own_int, fz_int]
theorem run_lawPartners {f : Nat} (hf : P[f]? = some fnLawPartners) {m : Nat} {ts : List Tie} (h : WebOk m ts) : runF gl P (n + 1) f [webD m ts] = .ok (.lst true ((pars m ts).map nD), []) := by
  rw [runF_eq hf rfl]
  have e2 : webD m ts = .tup [.int m, .tup (ts.map tieD)] := rfl
  have hm := h.m60
  have hr := rngOk_nat (n := m) (by omega)
  rw [e2]
  have i0 := ix2_0 (.int m) (.tup (ts.map tieD))
  have i1 := ix2_1 (.int m) (.tup (ts.map tieD))
  generalize hw : D.tup [.int m, .tup (ts.map tieD)] = W at i0 i1 ⊢
  have e1 : ev gl (runF gl P n) (.lc [4] (.c (.int 0)) (.v 4) (.rng [.ix (.v 0) (.c (.int 0))]) none []) [some W, none, none, none, none] = .ok (.lst true ((List.replicate m 0).map nD), [some W, none, none, none, none]) := by
    have := ev_lcP (gl := gl) (cf := runF gl P n) (i := 4) (elt := .c (.int 0)) (it := .rng [.ix (.v 0) (.c (.int 0))]) (env := [some W, none, none, none, none]) (xs := rangeD 0 m) (g := fun _ => .int 0) (o := none)
      (by simp [evJ, evb, ev, getV, Res.bind, Res.of, i0, rngD, hr]) (by rw [rangeD_len0]; omega) rfl (fun d z => by cases z) (fun x _ => by simp [ev]) (.inl rfl)
    rw [this, rangeD0, List.map_map, List.map_replicate]
    have : (List.range m).map ((fun _ => (D.int 0).fz) ∘ nD) = List.replicate m (nD 0) := by
      rw [List.eq_replicate_iff]
      refine ⟨by simp, fun b hb => ?_⟩
      obtain ⟨a, _, rfl⟩ := List.mem_map.mp hb
      rfl
    rw [this]
  have s2 : evI gl (runF gl P n) (.seq (.ix (.v 0) (.c (.int 1)))) [some W, some (.lst true ((List.replicate m 0).map nD)), none, none, none] = .ok (ts.map tieD, [some W, some (.lst true ((List.replicate m 0).map nD)), none, none, none]) := by
    simp [evI, ev, getV, vw, Res.bind, Res.of, i1, seqI]
  have s3 := (forL_fold (f := fun x e => (Res.of (asg (.tup [.v 2, .v 3]) x e)).bind fun e2 => (exs gl (runF gl P n) [.pix 1 (.v 2) (.v 3) (.v 3) (.v 2)] e2).bind fun f => .ok (f.kill [2, 3])) (enc := tieD)
    (st := fun ds => [some W, some (.lst true (ds.map nD)), none, none, none]) (step := parS) (I := fun ds => ds.length = m) (xs := ts) (b := List.replicate m 0) (fun x hx ds hd => by
    have hx := h.tie x hx
    exact ⟨par_step (m := m) (by omega) (by omega), by simp [parS, hd]⟩) (List.length_replicate ..)).1
  unfold fnLawPartners
  show (exs gl _ _ [some W, none, none, none, none]).bind _ = _
  rw [exs_nx (ex_setv e1 (.inl rfl)), exs_nx (by
    show ex gl _ _ [some W, some (.lst true ((List.replicate m 0).map nD)), none, none, none] = _
    rw [ex_for s2]
    exact s3)]
  show (exs gl _ _ [some W, some (.lst true ((pars m ts).map nD)), none, none, none]).bind _ = _
  generalize (pars m ts).map nD = Z
  simp [Mi.exs, Mi.ex, Mi.ev, Mi.evs, Mi.evb, Mi.evc, Mi.evo, Mi.evk, Mi.evAnd, Mi.evOr, Mi.evm, Mi.evI, Mi.evJ, Mi.getV, Mi.setV, Mi.delV, Mi.delVs, Mi.setVs, Mi.Res.bind, Mi.Res.of, Mi.cmpD, Mi.tB, Mi.keep, Mi.move, Mi.vw, Pl.own_non, Pl.own_bl, Pl.own_int, Pl.own_str, Pl.own_tup, Pl.own_lst, Pl.own_dct, Pl.fz_non, Pl.fz_bl, Pl.fz_int, Pl.fz_str, Pl.fz_tup, Pl.fz_lst, Pl.fz_dct, Mi.asg, Mi.asgs, Mi.getPa, Mi.setPa, Mi.biD, Mi.isTy, Mi.seqI, Mi.fillIo, Mi.putIo, Mi.getVs, Mi.outF, Mi.envF, Mi.Fl.kill, Mi.D.isLst, Mi.binD, Mi.augD]
end
end Pl

set_option Elab.async false
set_option linter.all false
set_option maxRecDepth 100000
set_option maxHeartbeats 4000000
/-! Pm6: drawn matched webs -/
namespace Pl
open Mi
structure MWeb (m : Nat) (ts : List Tie) : Prop where
  len : ts.length = m
  perm : (ends ts).Perm (List.range (2 * m))
  lt : ∀ t ∈ ts, t.1 < t.2
theorem ends_len : ∀ ts : List Tie, (ends ts).length = 2 * ts.length
  | [] => rfl
  | t :: ts => by
    rw [ends_cons, List.length_cons, List.length_cons, ends_len ts, List.length_cons]
    omega
theorem nodup_of_ends : ∀ {ts : List Tie}, (ends ts).Nodup → ts.Nodup
  | [], _ => .nil
  | t :: ts, h => by
    rw [ends_cons] at h
    have h1 := List.nodup_cons.mp h
    have h2 := List.nodup_cons.mp h1.2
    exact List.nodup_cons.mpr ⟨fun z => h1.1 (List.mem_cons_of_mem _ (mem_ends z).1), nodup_of_ends h2.2⟩
theorem MWeb.nd {m : Nat} {ts : List Tie} (h : MWeb m ts) : (ends ts).Nodup := h.perm.nodup_iff.mpr List.nodup_range
theorem MWeb.web {m : Nat} {ts : List Tie} (h : MWeb m ts) (hm : m ≤ 30) : WebOk (2 * m) ts where
  m60 := by omega
  t60 := by rw [h.len]; omega
  tie := fun t ht => ⟨h.lt t ht, List.mem_range.mp (h.perm.subset (mem_ends ht).2)⟩
  nd := nodup_of_ends h.nd
theorem MWeb.matched {m : Nat} {ts : List Tie} (h : MWeb m ts) : Matched (2 * m) ts := fun x hx => by
  rw [h.perm.count_eq, List.nodup_range.count, if_pos (List.mem_range.mpr hx)]
theorem ends_perm {S T : List Tie} (h : S.Perm T) : (ends S).Perm (ends T) := h.flatMap_right _
theorem MWeb.of_perm {m : Nat} {S T : List Tie} (h : MWeb m S) (hp : S.Perm T) : MWeb m T where
  len := hp.length_eq ▸ h.len
  perm := (ends_perm hp.symm).trans h.perm
  lt := fun t ht => h.lt t (hp.mem_iff.mpr ht)
theorem mat_web {n r : Nat} (h : r < odN n) : MWeb n (mat n r (List.range (2 * n))) where
  len := mat_len _ _ _ (by simp) h
  perm := mat_perm _ _ _ (by simp) h
  lt := (mat_sorted _ _ _ (by simp) h List.pairwise_lt_range).2
theorem MWeb.pars {m : Nat} {ts : List Tie} (h : MWeb m ts) : (pars (2 * m) ts).length = 2 * m ∧ Ag (fun x => (Pl.pars (2 * m) ts).getD x 0) ts ∧ Pairs (fun x => (Pl.pars (2 * m) ts).getD x 0) (List.range (2 * m)) := by
  have hb : ∀ t ∈ ts, t.1 < 2 * m ∧ t.2 < 2 * m := fun t ht => ⟨List.mem_range.mp (h.perm.subset (mem_ends ht).1), List.mem_range.mp (h.perm.subset (mem_ends ht).2)⟩
  obtain ⟨h1, h2, _⟩ := parF_at ts (List.replicate (2 * m) 0) h.nd (fun t ht => by
    rw [List.length_replicate]
    exact hb t ht)
  rw [List.length_replicate] at h1
  refine ⟨h1, h2, fun x hx => ?_⟩
  obtain ⟨t, ht, e⟩ := of_ends (h.perm.symm.subset hx)
  have h3 : (Pl.pars (2 * m) ts).getD t.1 0 = t.2 ∧ (Pl.pars (2 * m) ts).getD t.2 0 = t.1 := h2 t ht
  have h4 := hb t ht
  have h5 := h.lt t ht
  simp only [List.mem_range]
  rcases e with rfl | rfl
  · rw [h3.1, h3.2]
    exact ⟨h4.2, by omega, rfl⟩
  · rw [h3.2, h3.1]
    exact ⟨h4.1, by omega, rfl⟩
section
variable {gl : List D} {P : List Fn} {n : Nat} {cf : Nat → List D → Res (D × List D)} {cs : List Int}
abbrev lmE (p M : D) (A : List D) (x : D) (many kind : Nat) (T : List D) (o : Option D) : Env := [some p, some M, some (.lst true A), some x, some (.int many), some (.int kind), some (.lst true T), o]
theorem lm1 {d q : Nat} (hd : Draws cf cs d) (hq : Picks cf cs q) {p M x : D} {A T : List D} {many kind : Nat} (hp : IsPot cs p) (h2 : 2 ≤ A.length) (hA : A.length ≤ 1000) : ∃ (k : Nat) (p' : D), ex gl cf (.set (.v 7) (.ife (.cmp (.v 5) [.eq] [.c (.int 3)]) (.call q [.io 0, .lst [.c (.int 1), .bin .sub (.bi .len [.v 2]) (.c (.int 1))]]) (.bin .add (.c (.int 1)) (.call d [.io 0, .bin .sub (.bi .len [.v 2]) (.c (.int 1))])))) (lmE p M A x many kind T none) = .ok (.nx (lmE p' M A x many kind T (some (.int ((k : Int) + 1))))) ∧ k + 1 < A.length ∧ IsPot cs p' := by
  have e0 : biD .len [.lst true A] = some (.int A.length) := rfl
  have hL : ((A.length - 1 : Nat) : Int) = (A.length : Int) - 1 := by omega
  have hc : ev gl cf (.cmp (.v 5) [.eq] [.c (.int 3)]) (lmE p M A x many kind T none) = .ok (.bl (decide ((kind : Int) = 3)), lmE p M A x many kind T none) := by
    simp [lmE, ev, evc, getV, Res.bind, Res.of, cmpD, eqI]
  have hlen : ev gl cf (.bin .sub (.bi .len [.v 2]) (.c (.int 1))) (lmE p M A x many kind T none) = .ok (.int ((A.length : Int) - 1), lmE p M A x many kind T none) := by
    simp [lmE, ev, evb, getV, Res.bind, Res.of, e0, binD]
  by_cases hk : (kind : Int) = 3
  · obtain ⟨k, p', a, b, c⟩ := hq p [.int 1, .int ((A.length : Int) - 1)] hp (by simp) (by simp)
    have he : ev gl cf (.call q [.io 0, .lst [.c (.int 1), .bin .sub (.bi .len [.v 2]) (.c (.int 1))]]) (lmE p M A x many kind T none) = .ok (([.int 1, .int ((A.length : Int) - 1)] : List D).getD k .non, lmE p' M A x many kind T none) := by
      have : evs gl cf [.c (.int 1), .bin .sub (.bi .len [.v 2]) (.c (.int 1))] (lmE p M A x many kind T none) = .ok ([.int 1, .int ((A.length : Int) - 1)], lmE p M A x many kind T none) := by
        rw [evs_c (fun i z => by cases z), ev]
        simp only [Res.bind, keep, vw, fz_int]
        rw [evs_c (fun i z => by cases z), hlen]
        simp [Res.bind, keep, vw, fz_int, evs]
      have e3 : ev gl cf (.lst [.c (.int 1), .bin .sub (.bi .len [.v 2]) (.c (.int 1))]) (lmE p M A x many kind T none) = .ok (.lst true [.int 1, .int ((A.length : Int) - 1)], lmE p M A x many kind T none) := by
        rw [ev, this]
        rfl
      rw [ev, evs]
      simp only [getV, List.getElem?_cons_zero, Res.bind]
      rw [evs_c (fun i z => by cases z), e3]
      simp [Res.bind, keep, vw, fz_lst, evs, fillIo, getV, a, putIo, setV]
    have hi : ev gl cf (.ife (.cmp (.v 5) [.eq] [.c (.int 3)]) (.call q [.io 0, .lst [.c (.int 1), .bin .sub (.bi .len [.v 2]) (.c (.int 1))]]) (.bin .add (.c (.int 1)) (.call d [.io 0, .bin .sub (.bi .len [.v 2]) (.c (.int 1))]))) (lmE p M A x many kind T none) = .ok (([.int 1, .int ((A.length : Int) - 1)] : List D).getD k .non, lmE p' M A x many kind T none) := by
      rw [ev, hc, decide_eq_true hk]
      simp only [Res.bind, tB, if_pos]
      exact he
    have hk2 : k < 2 := c
    by_cases z : k = 0
    · subst z
      exact ⟨0, p', ex_setv hi (.inl rfl), by omega, b⟩
    · have z : k = 1 := by omega
      subst z
      refine ⟨A.length - 2, p', ?_, by omega, b⟩
      rw [ex_setv hi (.inl rfl)]
      have : ((A.length - 2 : Nat) : Int) + 1 = (A.length : Int) - 1 := by omega
      rw [this]
      rfl
  · obtain ⟨k, p', a, b, c⟩ := draws_pos hd (m := A.length - 1) hp (by omega) (by omega)
    rw [hL] at a
    refine ⟨k, p', ?_, by omega, b⟩
    have he : ev gl cf (.call d [.io 0, .bin .sub (.bi .len [.v 2]) (.c (.int 1))]) (lmE p M A x many kind T none) = .ok (.int k, lmE p' M A x many kind T none) := by
      rw [ev, evs]
      simp only [getV, List.getElem?_cons_zero, Res.bind]
      rw [evs_c (fun i z => by cases z), hlen]
      simp [Res.bind, keep, vw, fz_int, evs, fillIo, getV, a, putIo, setV]
    have hi : ev gl cf (.ife (.cmp (.v 5) [.eq] [.c (.int 3)]) (.call q [.io 0, .lst [.c (.int 1), .bin .sub (.bi .len [.v 2]) (.c (.int 1))]]) (.bin .add (.c (.int 1)) (.call d [.io 0, .bin .sub (.bi .len [.v 2]) (.c (.int 1))]))) (lmE p M A x many kind T none) = .ok (.int ((k : Int) + 1), lmE p' M A x many kind T none) := by
      rw [ev, hc, decide_eq_false hk]
      simp only [Res.bind, tB]
      refine ev_bin (x := .int 1) (y := .int k) (by simp [ev]) he ?_
      simp [binD, Int.add_comm]
    rw [ex_setv hi (.inl rfl)]
    rfl
theorem lm2 {p M x : D} {A T : List D} {many kind k : Nat} (h2 : 2 ≤ A.length) (hA : A.length ≤ 1000) (hk : k + 1 < A.length) : ∃ k' : Nat, ex gl cf (.ite (.cmp (.v 5) [.lt] [.c (.int 3)])
      [.set (.v 7) (.ix (.lst [.bin .sub (.bi .len [.v 2]) (.c (.int 1)), .c (.int 1), .bin .fdiv (.bi .len [.v 2]) (.c (.int 2))]) (.v 5))]
      []) (lmE p M A x many kind T (some (.int ((k : Int) + 1)))) = .ok (.nx (lmE p M A x many kind T (some (.int ((k' : Int) + 1))))) ∧ k' + 1 < A.length := by
  have e0 : biD .len [.lst true A] = some (.int A.length) := rfl
  by_cases h3 : (kind : Int) < 3
  · have hl2 : ((2 : Int)).natAbs.log2 < 9000 := by decide
    have hf : binD .fdiv (.int (A.length : Int)) (.int 2) = some (.int ((A.length : Int) / 2)) := by
      simp only [binD]
      rw [if_pos ⟨by decide, hl2⟩]
    have hs : binD .sub (.int (A.length : Int)) (.int 1) = some (.int ((A.length : Int) - 1)) := by
      simp only [binD]
    have key : ∀ w : Int, ixD (.lst true [.int ((A.length : Int) - 1), .int 1, .int ((A.length : Int) / 2)]) (.int kind) = some (.int w) → ex gl cf (.ite (.cmp (.v 5) [.lt] [.c (.int 3)])
      [.set (.v 7) (.ix (.lst [.bin .sub (.bi .len [.v 2]) (.c (.int 1)), .c (.int 1), .bin .fdiv (.bi .len [.v 2]) (.c (.int 2))]) (.v 5))]
      []) (lmE p M A x many kind T (some (.int ((k : Int) + 1)))) = .ok (.nx (lmE p M A x many kind T (some (.int w)))) := by
      intro w hw
      unfold lmE
      generalize hB : D.lst true A = B at e0
      generalize (A.length : Int) = L at e0 hf hs hw
      simp [ex, exs, ev, evc, evb, evs, getV, Res.bind, Res.of, cmpD, tB, h3, e0, hf, hs, keep, vw, fz_int, hw, move, asg, setV]
    have : kind = 0 ∨ kind = 1 ∨ kind = 2 := by omega
    rcases this with rfl | rfl | rfl
    · refine ⟨A.length - 2, ?_, by omega⟩
      rw [show ((A.length - 2 : Nat) : Int) + 1 = (A.length : Int) - 1 by omega]
      exact key _ rfl
    · exact ⟨0, key _ rfl, by omega⟩
    · refine ⟨A.length / 2 - 1, ?_, by omega⟩
      rw [show ((A.length / 2 - 1 : Nat) : Int) + 1 = (A.length : Int) / 2 by omega]
      exact key _ rfl
  · refine ⟨k, ?_, hk⟩
    simp [lmE, ex, exs, ev, evc, getV, Res.bind, Res.of, cmpD, tB, h3]
def lmB (d q : Nat) : List S :=
    [.set (.v 7) (.ife (.cmp (.v 5) [.eq] [.c (.int 3)]) (.call q [.io 0, .lst [.c (.int 1), .bin .sub (.bi .len [.v 2]) (.c (.int 1))]]) (.bin .add (.c (.int 1)) (.call d [.io 0, .bin .sub (.bi .len [.v 2]) (.c (.int 1))]))),
     .ite (.cmp (.v 5) [.lt] [.c (.int 3)])
      [.set (.v 7) (.ix (.lst [.bin .sub (.bi .len [.v 2]) (.c (.int 1)), .c (.int 1), .bin .fdiv (.bi .len [.v 2]) (.c (.int 2))]) (.v 5))]
      [],
     .app (.v 6) (.tup [.ix (.v 2) (.c (.int 0)), .ix (.v 2) (.v 7)]),
     .set (.v 2) (.bin .add (.sl (.v 2) (some (.c (.int 1))) (some (.v 7))) (.sl (.v 2) (some (.bin .add (.v 7) (.c (.int 1)))) none))]
structure LmI (many i : Nat) (left : List Nat) (ts : List Tie) : Prop where
  ll : left.length = 2 * (many - i)
  le : i ≤ many
  so : left.Pairwise (· < ·)
  pe : (ends ts ++ left).Perm (List.range (2 * many))
  tl : ts.length = i
  lt : ∀ t ∈ ts, t.1 < t.2
theorem lm_next {many i a k : Nat} {l : List Nat} {ts : List Tie} (h : LmI many i (a :: l) ts) (hk : k < l.length) : LmI many (i + 1) (l.eraseIdx k) (ts ++ [(a, l.getD k 0)]) := by
  have hl := h.ll
  rw [List.length_cons] at hl
  have hs := List.pairwise_cons.mp h.so
  refine ⟨?_, by omega, hs.2.sublist (List.eraseIdx_sublist ..), ?_, by rw [List.length_append, h.tl]; rfl, fun t ht => ?_⟩
  · rw [List.length_eraseIdx, if_pos hk]
    omega
  · have e : ends (ts ++ [(a, l.getD k 0)]) = ends ts ++ [a, l.getD k 0] := by
      unfold ends
      rw [List.flatMap_append]
      rfl
    rw [e, List.append_assoc]
    refine ((List.Perm.append_left (ends ts) ?_).trans h.pe)
    exact (erase_perm l k hk).cons a
  · rcases List.mem_append.mp ht with z | z
    · exact h.lt t z
    · simp only [List.mem_singleton] at z
      subst z
      exact hs.1 _ (getD_mem hk)
theorem lm_step {d q : Nat} (hd : Draws cf cs d) (hq : Picks cf cs q) {p M x : D} {many kind i : Nat} {left : List Nat} {ts : List Tie} (hp : IsPot cs p) (h : LmI many i left ts) (hi : i < many) (hm : many ≤ 30) : ∃ p' left' ts', ((Res.of (asg (.v 3) x (([some p, some M, some (.lst true (left.map nD)), none, some (.int many), some (.int kind), some (.lst true (ts.map tieD)), none] : Env)))).bind fun e2 => (exs gl cf (lmB d q) e2).bind fun f => .ok (f.kill [3, 7])) = .ok (.nx [some p', some M, some (.lst true (left'.map nD)), none, some (.int many), some (.int kind), some (.lst true (ts'.map tieD)), none]) ∧ IsPot cs p' ∧ LmI many (i + 1) left' ts' := by
  have hl := h.ll
  obtain ⟨a, l, rfl⟩ : ∃ a l, left = a :: l := by
    cases left with
    | nil => simp at hl; omega
    | cons a l => exact ⟨a, l, rfl⟩
  have hlm : ((a :: l).map nD).length = 2 * (many - i) := by rw [List.length_map, hl]
  have hl2 : l.length + 1 = 2 * (many - i) := hl
  obtain ⟨k0, p', s1, c1, hp'⟩ := @lm1 gl cf cs d q hd hq p M x ((a :: l).map nD) (ts.map tieD) many kind hp (by omega) (by omega)
  obtain ⟨k, s2, c2⟩ := @lm2 gl cf p' M x ((a :: l).map nD) (ts.map tieD) many kind k0 (by omega) (by omega) c1
  have hk : k < l.length := by omega
  refine ⟨p', l.eraseIdx k, ts ++ [(a, l.getD k 0)], ?_, hp', lm_next h hk⟩
  have i0 := @ixD_nat true (a :: l) 0 (by simp)
  have i1 := @ixD_nat true (a :: l) (k + 1) (by simp; omega)
  have i0 : ixD (.lst true ((a :: l).map nD)) (.int 0) = some (.int a) := i0
  have i1 : ixD (.lst true ((a :: l).map nD)) (.int ((k : Int) + 1)) = some (.int (l.getD k 0 : Nat)) := i1
  have s4 := @ev_slM gl cf 2 7 [some p', some M, some (.lst true ((a :: l).map nD)), some x, some (.int many), some (.int kind), some (.lst true ((ts ++ [(a, l.getD k 0)]).map tieD)), some (.int ((k : Int) + 1))] a l k rfl rfl hk (by omega)
  have htl : (ts.map tieD).length < 1000000 := by
    have := h.tl
    simp
    omega
  have hta : (ts ++ [(a, l.getD k 0)]).map tieD = ts.map tieD ++ [.tup [.int a, .int (l.getD k 0 : Nat)]] := by rw [List.map_append]; rfl
  rw [hta] at s4 ⊢
  show ((exs gl cf (lmB d q) (lmE p M ((a :: l).map nD) x many kind (ts.map tieD) none)).bind fun f => Res.ok (f.kill [3, 7])) = _
  generalize (a :: l).map nD = A at i0 i1 s1 s2 s4 ⊢
  generalize (l.eraseIdx k).map nD = B at s4 ⊢
  generalize ts.map tieD = T at s1 s2 s4 htl ⊢
  generalize l.getD k 0 = w at i1 s4 ⊢
  unfold lmB
  rw [exs_nx s1, exs_nx s2, exs_nx (e1 := lmE p' M A x many kind (T ++ [.tup [.int a, .int w]]) (some (.int ((k : Int) + 1)))) (by simp [Mi.exs, Mi.ex, Mi.ev, Mi.evs, Mi.evb, Mi.evc, Mi.evo, Mi.evk, Mi.evAnd, Mi.evOr, Mi.evm, Mi.evI, Mi.evJ, Mi.getV, Mi.setV, Mi.delV, Mi.delVs, Mi.setVs, Mi.Res.bind, Mi.Res.of, Mi.cmpD, Mi.tB, Mi.keep, Mi.move, Mi.vw, Pl.own_non, Pl.own_bl, Pl.own_int, Pl.own_str, Pl.own_tup, Pl.own_lst, Pl.own_dct, Pl.fz_non, Pl.fz_bl, Pl.fz_int, Pl.fz_str, Pl.fz_tup, Pl.fz_lst, Pl.fz_dct, Mi.asg, Mi.asgs, Mi.getPa, Mi.setPa, Mi.biD, Mi.isTy, Mi.seqI, Mi.fillIo, Mi.putIo, Mi.getVs, Mi.outF, Mi.envF, Mi.Fl.kill, Mi.D.isLst, Mi.binD, Mi.augD, lmE, i0, i1, htl]), exs_nx (ex_setv s4 (.inl rfl))]
  simp [Mi.exs, Mi.ex, Mi.ev, Mi.evs, Mi.evb, Mi.evc, Mi.evo, Mi.evk, Mi.evAnd, Mi.evOr, Mi.evm, Mi.evI, Mi.evJ, Mi.getV, Mi.setV, Mi.delV, Mi.delVs, Mi.setVs, Mi.Res.bind, Mi.Res.of, Mi.cmpD, Mi.tB, Mi.keep, Mi.move, Mi.vw, Pl.own_non, Pl.own_bl, Pl.own_int, Pl.own_str, Pl.own_tup, Pl.own_lst, Pl.own_dct, Pl.fz_non, Pl.fz_bl, Pl.fz_int, Pl.fz_str, Pl.fz_tup, Pl.fz_lst, Pl.fz_dct, Mi.asg, Mi.asgs, Mi.getPa, Mi.setPa, Mi.biD, Mi.isTy, Mi.seqI, Mi.fillIo, Mi.putIo, Mi.getVs, Mi.outF, Mi.envF, Mi.Fl.kill, Mi.D.isLst, Mi.binD, Mi.augD]
theorem run_lawMatched {d q f : Nat} (hd : P[d]? = some fnDraw) (hq : P[q]? = some (fnPick d)) (hf : P[f]? = some (fnLawMatched d q)) {p : D} (hp : IsPot cs p) {most : Nat} (hm : most ≤ 30) : ∃ many ts p', runF gl P (n + 3) f [p, .int most] = .ok (webD (2 * many) ts, [p']) ∧ IsPot cs p' ∧ many ≤ most ∧ MWeb many ts := by
  have dr := draws (gl := gl) (P := P) (n := n + 1) (cs := cs) hd
  have pk := picks (gl := gl) (P := P) (n := n) (cs := cs) hd hq
  obtain ⟨many, p1, a1, b1, c1⟩ := draws_pos dr (m := most + 1) hp (by omega) (by omega)
  obtain ⟨kind, p2, a2, b2, c2⟩ := draws_pos dr (m := 6) b1 (by omega) (by omega)
  have s1 : ex gl (runF gl P (n + 2)) (.par [4, 5, 6] [.call d [.io 0, .bin .add (.v 1) (.c (.int 1))], .call d [.io 0, .c (.int 6)], .lst []]) [some p, some (.int most), none, none, none, none, none, none] = .ok (.nx [some p2, some (.int most), none, none, some (.int many), some (.int kind), some (.lst true []), none]) := by
    have a1 : runF gl P (n + 2) d [p, .int ((most : Int) + 1)] = .ok (.int many, [p1]) := a1
    have a2 : runF gl P (n + 2) d [p1, .int 6] = .ok (.int kind, [p2]) := a2
    simp [ex, evm, ev, evs, getV, setV, Res.bind, Res.of, binD, keep, vw, fz_int, fillIo, a1, a2, putIo, move, setVs]
  have hr : rngOk 0 (2 * (many : Int)) = true := by
    unfold rngOk
    simp only [Bool.and_eq_true, decide_eq_true_eq]
    omega
  have hs2 : smallI 2 = true := by decide
  have hrl : rangeD 0 (2 * (many : Int)).toNat = (List.range (2 * many)).map nD := by
    have : (2 * (many : Int)).toNat = 2 * many := by omega
    rw [this, rangeD0]
  have e2 : ev gl (runF gl P (n + 2)) (.lc [3] (.v 3) (.v 3) (.rng [.bin .mul (.c (.int 2)) (.v 4)]) none []) [some p2, some (.int most), none, none, some (.int many), some (.int kind), some (.lst true []), none] = .ok (.lst true ((List.range (2 * many)).map nD), [some p2, some (.int most), none, none, some (.int many), some (.int kind), some (.lst true []), none]) := by
    have := ev_lcP (gl := gl) (cf := runF gl P (n + 2)) (i := 3) (elt := .v 3) (it := .rng [.bin .mul (.c (.int 2)) (.v 4)]) (env := [some p2, some (.int most), none, none, some (.int many), some (.int kind), some (.lst true []), none]) (xs := (List.range (2 * many)).map nD) (g := fun x => x) (o := none)
      (by
        simp only [evJ, evb, ev, getV, Res.bind, Res.of, List.getElem?_cons_succ, List.getElem?_cons_zero, binD, hs2, rngD]
        simp only [Bool.true_or, if_pos, hr, hrl]) (by simp; omega) rfl (fun d z => by cases z) (fun x _ => by simp [ev, getV, Res.bind]) (.inr fun x hx => by
        obtain ⟨a, _, rfl⟩ := List.mem_map.mp hx
        rfl)
    rw [this, List.map_map]
    rfl
  have hr2 := rngOk_nat (n := many) (by omega)
  have s3 : evI gl (runF gl P (n + 2)) (.rng [.v 4]) [some p2, some (.int most), some (.lst true ((List.range (2 * many)).map nD)), none, some (.int many), some (.int kind), some (.lst true []), none] = .ok (rangeD 0 many, [some p2, some (.int most), some (.lst true ((List.range (2 * many)).map nD)), none, some (.int many), some (.int kind), some (.lst true []), none]) := by
    simp [evI, evb, ev, getV, Res.bind, rngD, hr2]
  obtain ⟨e', l1, l2⟩ := forL_inv (f := fun x e => (Res.of (asg (.v 3) x e)).bind fun e2 => (exs gl (runF gl P (n + 2)) (lmB d q) e2).bind fun f => .ok (f.kill [3, 7])) (xs := rangeD 0 many) (k := 0) (e := [some p2, some (.int most), some (.lst true ((List.range (2 * many)).map nD)), none, some (.int many), some (.int kind), some (.lst true ([].map tieD)), none])
    (J := fun i e => ∃ p left ts, e = [some p, some (.int most), some (.lst true (left.map nD)), none, some (.int many), some (.int kind), some (.lst true (ts.map tieD)), none] ∧ IsPot cs p ∧ LmI many i left ts)
    (fun i x e hx ⟨p, left, ts, he, hp, hI⟩ => by
      subst he
      obtain ⟨h1, rfl⟩ := rangeD_at _ _ _ _ hx
      rw [Nat.zero_add] at hI ⊢
      obtain ⟨p', left', ts', h2, h3, h4⟩ := @lm_step gl _ cs d q dr pk p (.int most) (.int (0 + (i : Int))) many kind i left ts hp hI h1 (by omega)
      exact ⟨_, h2, p', left', ts', rfl, h3, h4⟩) ⟨p2, List.range (2 * many), [], rfl, b2, ⟨by simp, by omega, List.pairwise_lt_range, .refl _, rfl, fun t ht => by cases ht⟩⟩
  rw [Nat.zero_add, rangeD_len0] at l2
  obtain ⟨p3, left, ts, rfl, b3, hI⟩ := l2
  have hnil : left = [] := List.eq_nil_of_length_eq_zero (by
    have := hI.ll
    omega)
  subst hnil
  have hpe := hI.pe
  rw [List.append_nil] at hpe
  obtain ⟨c, p4, a4, b4, c4⟩ := draws_pos dr (m := 3) b3 (by omega) (by omega)
  have a4 : runF gl P (n + 2) d [p3, .int 3] = .ok (.int c, [p4]) := a4
  have hw : MWeb many ts := ⟨hI.tl, hpe, hI.lt⟩
  rw [runF_eq hf rfl]
  unfold fnLawMatched
  show ∃ many ts p', (exs gl (runF gl P (n + 2)) _ [some p, some (.int most), none, none, none, none, none, none]).bind _ = _ ∧ _
  rw [exs_nx s1, exs_nx (ex_setv e2 (.inl rfl)), exs_nx (by
    show ex gl _ _ [some p2, some (.int most), some (.lst true ((List.range (2 * many)).map nD)), none, some (.int many), some (.int kind), some (.lst true []), none] = _
    rw [ex_for s3]
    exact l1)]
  refine ⟨many, if c = 0 then ts.reverse else ts, p4, ?_, b4, by omega, ?_⟩
  · unfold webD
    generalize ([] : List Nat).map nD = Z
    by_cases hc : c = 0
    · subst hc
      rw [if_pos rfl, List.map_reverse]
      generalize ts.map tieD = T
      simp [Mi.exs, Mi.ex, Mi.ev, Mi.evs, Mi.evb, Mi.evc, Mi.evo, Mi.evk, Mi.evAnd, Mi.evOr, Mi.evm, Mi.evI, Mi.evJ, Mi.getV, Mi.setV, Mi.delV, Mi.delVs, Mi.setVs, Mi.Res.bind, Mi.Res.of, Mi.cmpD, Mi.tB, Mi.keep, Mi.move, Mi.vw, Pl.own_non, Pl.own_bl, Pl.own_int, Pl.own_str, Pl.own_tup, Pl.own_lst, Pl.own_dct, Pl.fz_non, Pl.fz_bl, Pl.fz_int, Pl.fz_str, Pl.fz_tup, Pl.fz_lst, Pl.fz_dct, Mi.asg, Mi.asgs, Mi.getPa, Mi.setPa, Mi.biD, Mi.isTy, Mi.seqI, Mi.fillIo, Mi.putIo, Mi.getVs, Mi.outF, Mi.envF, Mi.Fl.kill, Mi.D.isLst, Mi.binD, Mi.augD, hs2, a4, eqI, revD]
    · have hc2 : ¬ (c : Int) = 0 := by omega
      rw [if_neg hc]
      generalize ts.map tieD = T
      simp [Mi.exs, Mi.ex, Mi.ev, Mi.evs, Mi.evb, Mi.evc, Mi.evo, Mi.evk, Mi.evAnd, Mi.evOr, Mi.evm, Mi.evI, Mi.evJ, Mi.getV, Mi.setV, Mi.delV, Mi.delVs, Mi.setVs, Mi.Res.bind, Mi.Res.of, Mi.cmpD, Mi.tB, Mi.keep, Mi.move, Mi.vw, Pl.own_non, Pl.own_bl, Pl.own_int, Pl.own_str, Pl.own_tup, Pl.own_lst, Pl.own_dct, Pl.fz_non, Pl.fz_bl, Pl.fz_int, Pl.fz_str, Pl.fz_tup, Pl.fz_lst, Pl.fz_dct, Mi.asg, Mi.asgs, Mi.getPa, Mi.setPa, Mi.biD, Mi.isTy, Mi.seqI, Mi.fillIo, Mi.putIo, Mi.getVs, Mi.outF, Mi.envF, Mi.Fl.kill, Mi.D.isLst, Mi.binD, Mi.augD, hs2, a4, eqI, hc2, hc]
  · by_cases hc : c = 0
    · rw [if_pos hc]
      exact hw.of_perm (List.reverse_perm ts).symm
    · rw [if_neg hc]
      exact hw
end
end Pl

set_option Elab.async false
set_option linter.all false
set_option maxRecDepth 100000
set_option maxHeartbeats 4000000
/-! Pl5: more rules -/
namespace Pl
open Mi
def isIo : E → Bool
  | .io _ => true
  | _ => false
theorem no_io {a : E} (h : isIo a = false) : ∀ j, a ≠ .io j := fun j z => by
  subst z
  cases h
section
variable {gl : List D} {cf : Nat → List D → Res (D × List D)}
theorem ev_drawE {d i k : Nat} {a : E} {m : Int} {env : Env} {p p' : D} (ha : ev gl cf a env = .ok (.int m, env)) (hg : getV env i = .ok p) (hcf : cf d [p, .int m] = .ok (.int k, [p'])) (hn0 : isIo a = false := by rfl) : ev gl cf (.call d [.io i, a]) env = .ok (.int k, setV env i p') := by
  have hn := no_io hn0
  have hk : keep a (.int m) = .ok (.int m) := by
    unfold keep
    rw [own_int]
    simp [fz_int]
  have h2 : fillIo env [.io i, a] [.non, .int m] = .ok [p, .int m] := by
    have : fillIo env [a] [.int m] = .ok [.int m] := by
      cases a <;> first | exact absurd rfl (hn _) | rfl
    simp only [fillIo, hg, this, Res.bind]
  have h3 : putIo env [.io i, a] [p'] = .ok (setV env i p') := by
    have : putIo (setV env i p') [a] [] = .ok (setV env i p') := by
      cases a <;> first | exact absurd rfl (hn _) | rfl
    simp only [putIo, this]
  have h1 : evs gl cf [.io i, a] env = .ok ([.non, .int m], env) := by
    rw [evs, hg]
    show (evs gl cf [a] env).bind _ = _
    rw [evs_c hn, ha]
    show ((keep a (.int m)).bind fun x => (evs gl cf [] env).bind fun q => Res.ok (x :: q.1, q.2)).bind _ = _
    rw [hk]
    simp [evs, Res.bind]
  rw [ev, h1]
  show ((fillIo env [.io i, a] [.non, .int m]).bind _) = _
  rw [h2]
  show ((cf d [p, .int m]).bind _) = _
  rw [hcf]
  show ((putIo env [.io i, a] [p']).bind _) = _
  rw [h3]
  rfl
theorem ite_no {t : E} {a : List S} {env e1 : Env} (h : ev gl cf t env = .ok (.bl false, e1)) : ex gl cf (.ite t a []) env = .ok (.nx e1) := by
  simp [ex, h, Res.bind, tB, exs]
theorem ev_cmp1 {o : Cp} {a b : E} {env e1 e2 : Env} {x y : D} {c : Bool} (ha : ev gl cf a env = .ok (x, e1)) (hb : ev gl cf b e1 = .ok (y, e2)) (h : cmpD o x y = some c) : ev gl cf (.cmp a [o] [b]) env = .ok (.bl c, e2) := by
  rw [ev, ha]
  show evc gl cf x [o] [b] e1 = _
  rw [evc, hb]
  show (Res.of (cmpD o x y)).bind _ = _
  rw [h]
  rfl
theorem ne_self {n : Nat} {x : D} (h : okN 60 x = true) : cmpD .ne x x = some false := by
  simp [cmpD, eq?, h, eqD_rfl 60 x h]
theorem ne_int (i j : Int) : cmpD .ne (.int i) (.int j) = some (!decide (i = j)) := by
  simp [cmpD, eqI]
theorem ev_nt {a : E} {env e1 : Env} {b : Bool} (h : ev gl cf a env = .ok (.bl b, e1)) : ev gl cf (.nt a) env = .ok (.bl (!b), e1) := by
  rw [ev, h]
  rfl
theorem ev_or1 {a b : E} {es : List E} {env e1 : Env} {r : Res (D × Env)} (h : ev gl cf a env = .ok (.bl false, e1)) (h2 : ev gl cf (.or (b :: es)) e1 = r) : ev gl cf (.or (a :: b :: es)) env = r := by
  rw [← h2]
  simp only [ev, evOr, h, Res.bind, tB] <;> rfl
theorem ev_or0 {a : E} {env : Env} {r : Res (D × Env)} (h : ev gl cf a env = r) : ev gl cf (.or [a]) env = r := by
  simp only [ev, evOr, h]
theorem ev_and1 {a b : E} {es : List E} {env e1 : Env} {r : Res (D × Env)} (h : ev gl cf a env = .ok (.bl true, e1)) (h2 : ev gl cf (.and (b :: es)) e1 = r) : ev gl cf (.and (a :: b :: es)) env = r := by
  rw [← h2]
  simp only [ev, evAnd, h, Res.bind, tB] <;> rfl
theorem ev_andF {a b : E} {es : List E} {env e1 : Env} (h : ev gl cf a env = .ok (.bl false, e1)) : ev gl cf (.and (a :: b :: es)) env = .ok (.bl false, e1) := by
  simp only [ev, evAnd, h, Res.bind, tB] <;> rfl
theorem ev_and0 {a : E} {env : Env} {r : Res (D × Env)} (h : ev gl cf a env = r) : ev gl cf (.and [a]) env = r := by
  simp only [ev, evAnd, h]
theorem keepV {e : E} {x : D} (ho : x.own = false) (hz : x.fz = x) : keep e x = .ok x := by
  unfold keep
  rw [ho, hz]
  simp
/-- a call with one argument -/
theorem ev_call1 {f : Nat} {a : E} {x y : D} {env e1 : Env} (ha : ev gl cf a env = .ok (x, e1)) (hk : keep a x = .ok x) (h : cf f [x] = .ok (y, [])) (hn0 : isIo a = false := by rfl) : ev gl cf (.call f [a]) env = .ok (y, e1) := by
  have hn := no_io hn0
  have h1 : evs gl cf [a] env = .ok ([x], e1) := by
    rw [evs_c hn, ha]
    show ((keep a x).bind _) = _
    rw [hk]
    simp [evs, Res.bind]
  have h2 : fillIo e1 [a] [x] = .ok [x] := by
    cases a <;> first | exact absurd rfl (hn _) | rfl
  have h3 : putIo e1 [a] [] = .ok e1 := by
    cases a <;> first | exact absurd rfl (hn _) | rfl
  rw [ev, h1]
  show ((fillIo e1 [a] [x]).bind _) = _
  rw [h2]
  show ((cf f [x]).bind _) = _
  rw [h]
  show ((putIo e1 [a] []).bind _) = _
  rw [h3]
  rfl
theorem ev_call1X {f : Nat} {a : E} {x : D} {env e1 : Env} {c : Nat} {as : List D} (ha : ev gl cf a env = .ok (x, e1)) (hk : keep a x = .ok x) (h : cf f [x] = .exc c as) (hn0 : isIo a = false := by rfl) : ev gl cf (.call f [a]) env = .exc c as := by
  have hn := no_io hn0
  have h1 : evs gl cf [a] env = .ok ([x], e1) := by
    rw [evs_c hn, ha]
    show ((keep a x).bind _) = _
    rw [hk]
    simp [evs, Res.bind]
  have h2 : fillIo e1 [a] [x] = .ok [x] := by
    cases a <;> first | exact absurd rfl (hn _) | rfl
  rw [ev, h1]
  show ((fillIo e1 [a] [x]).bind _) = _
  rw [h2]
  show ((cf f [x]).bind _) = _
  rw [h]
  rfl
theorem evs_2 {a b : E} {x y : D} {env e1 e2 : Env} (ha : ev gl cf a env = .ok (x, e1)) (hk : keep a x = .ok x) (hb : ev gl cf b e1 = .ok (y, e2)) (hj : keep b y = .ok y) (hn0 : isIo a = false := by rfl) (hm0 : isIo b = false := by rfl) : evs gl cf [a, b] env = .ok ([x, y], e2) := by
  have hn := no_io hn0
  have hm := no_io hm0
  rw [evs_c hn, ha]
  show ((keep a x).bind _) = _
  rw [hk]
  show ((evs gl cf [b] e1).bind _) = _
  rw [evs_c hm, hb]
  show (((keep b y).bind fun z => (evs gl cf [] e2).bind fun q => Res.ok (z :: q.1, q.2)).bind _) = _
  rw [hj]
  simp [evs, Res.bind]
theorem ev_call2 {f : Nat} {a b : E} {x y z : D} {env e1 e2 : Env} (ha : ev gl cf a env = .ok (x, e1)) (hk : keep a x = .ok x) (hb : ev gl cf b e1 = .ok (y, e2)) (hj : keep b y = .ok y) (h : cf f [x, y] = .ok (z, [])) (hn0 : isIo a = false := by rfl) (hm0 : isIo b = false := by rfl) : ev gl cf (.call f [a, b]) env = .ok (z, e2) := by
  have hn := no_io hn0
  have hm := no_io hm0
  have h1 := evs_2 ha hk hb hj hn0 hm0
  have h2 : fillIo e2 [a, b] [x, y] = .ok [x, y] := by
    have : fillIo e2 [b] [y] = .ok [y] := by
      cases b <;> first | exact absurd rfl (hm _) | rfl
    cases a <;> first | exact absurd rfl (hn _) | simp only [fillIo, this, Res.bind]
  have h3 : putIo e2 [a, b] [] = .ok e2 := by
    have : putIo e2 [b] [] = .ok e2 := by
      cases b <;> first | exact absurd rfl (hm _) | rfl
    cases a <;> first | exact absurd rfl (hn _) | simp only [putIo, this]
  rw [ev, h1]
  show ((fillIo e2 [a, b] [x, y]).bind _) = _
  rw [h2]
  show ((cf f [x, y]).bind _) = _
  rw [h]
  show ((putIo e2 [a, b] []).bind _) = _
  rw [h3]
  rfl
theorem ev_call2X {f : Nat} {a b : E} {x y : D} {env e1 e2 : Env} {c : Nat} {as : List D} (ha : ev gl cf a env = .ok (x, e1)) (hk : keep a x = .ok x) (hb : ev gl cf b e1 = .ok (y, e2)) (hj : keep b y = .ok y) (h : cf f [x, y] = .exc c as) (hn0 : isIo a = false := by rfl) (hm0 : isIo b = false := by rfl) : ev gl cf (.call f [a, b]) env = .exc c as := by
  have hn := no_io hn0
  have hm := no_io hm0
  have h1 := evs_2 ha hk hb hj hn0 hm0
  have h2 : fillIo e2 [a, b] [x, y] = .ok [x, y] := by
    have : fillIo e2 [b] [y] = .ok [y] := by
      cases b <;> first | exact absurd rfl (hm _) | rfl
    cases a <;> first | exact absurd rfl (hn _) | simp only [fillIo, this, Res.bind]
  rw [ev, h1]
  show ((fillIo e2 [a, b] [x, y]).bind _) = _
  rw [h2]
  show ((cf f [x, y]).bind _) = _
  rw [h]
  rfl
theorem evs_nil {env : Env} : evs gl cf [] env = .ok ([], env) := by rw [evs]
theorem evs_cons {a : E} {es : List E} {x : D} {ds : List D} {env e1 e2 : Env} (ha : ev gl cf a env = .ok (x, e1)) (hk : keep a x = .ok x) (h : evs gl cf es e1 = .ok (ds, e2)) (hn0 : isIo a = false := by rfl) : evs gl cf (a :: es) env = .ok (x :: ds, e2) := by
  rw [evs_c (no_io hn0), ha]
  show ((keep a x).bind _) = _
  rw [hk]
  show ((evs gl cf es e1).bind _) = _
  rw [h]
  rfl
theorem ev_lst {es : List E} {ds : List D} {env e1 : Env} (h : evs gl cf es env = .ok (ds, e1)) : ev gl cf (.lst es) env = .ok (.lst true ds, e1) := by
  rw [ev, h]
  rfl
theorem ev_tupE {es : List E} {ds : List D} {env e1 : Env} (h : evs gl cf es env = .ok (ds, e1)) : ev gl cf (.tup es) env = .ok (.tup ds, e1) := by
  rw [ev, h]
  rfl
theorem ev_bi2 {b : B} {a c : E} {x y z : D} {env e1 e2 : Env} (ha : ev gl cf a env = .ok (x, e1)) (hc : ev gl cf c e1 = .ok (z, e2)) (h : biD b [x, z] = some y) : ev gl cf (.bi b [a, c]) env = .ok (y, e2) := by
  simp [ev, evb, ha, hc, Res.bind, Res.of, h]
theorem ev_neg {a : E} {i : Int} {env e1 : Env} (ha : ev gl cf a env = .ok (.int i, e1)) : ev gl cf (.neg a) env = .ok (.int (-i), e1) := by
  rw [ev, ha]
  rfl
theorem ev_ifT {t a b : E} {env e1 : Env} {r : Res (D × Env)} (h : ev gl cf t env = .ok (.bl true, e1)) (ha : ev gl cf a e1 = r) : ev gl cf (.ife t a b) env = r := by
  rw [ev, h]
  show (if true = true then ev gl cf a e1 else ev gl cf b e1) = r
  rw [if_pos rfl, ha]
theorem ev_ifF {t a b : E} {env e1 : Env} {r : Res (D × Env)} (h : ev gl cf t env = .ok (.bl false, e1)) (ha : ev gl cf b e1 = r) : ev gl cf (.ife t a b) env = r := by
  rw [ev, h]
  show (if false = true then ev gl cf a e1 else ev gl cf b e1) = r
  rw [if_neg (by decide), ha]
theorem evI_seq {e : E} {x : D} {r : List D} {env e1 : Env} (h : ev gl cf e env = .ok (x, e1)) (hv : (vw e && x.own) = false) (hs : seqI x = .ok r) : evI gl cf (.seq e) env = .ok (r, e1) := by
  rw [evI, h]
  show (if (vw e && x.own) = true then Res.stk else (seqI x).bind _) = _
  rw [hv, if_neg (by decide), hs]
  rfl
theorem ev_bi1 {b : B} {a : E} {x y : D} {env e1 : Env} (ha : ev gl cf a env = .ok (x, e1)) (h : biD b [x] = some y) : ev gl cf (.bi b [a]) env = .ok (y, e1) := by
  simp [ev, evb, ha, Res.bind, Res.of, h]
theorem ev_ix {a b : E} {x y z : D} {env e1 e2 : Env} (ha : ev gl cf a env = .ok (x, e1)) (hb : ev gl cf b e1 = .ok (y, e2)) (h : ixD x y = some z) : ev gl cf (.ix a b) env = .ok (z, e2) := by
  simp [ev, ha, hb, Res.bind, Res.of, h]
theorem ev_c {x : D} {env : Env} : ev gl cf (.c x) env = .ok (x, env) := by rw [ev]
theorem ev_v {i : Nat} {x : D} {env : Env} (h : env[i]? = some (some x)) : ev gl cf (.v i) env = .ok (x, env) := by
  simp [ev, getV, h, Res.bind]
theorem ev_tup2 {a b : E} {x y : D} {env e1 e2 : Env} (ha : ev gl cf a env = .ok (x, e1)) (hk : keep a x = .ok x) (hb : ev gl cf b e1 = .ok (y, e2)) (hj : keep b y = .ok y) (hn0 : isIo a = false := by rfl) (hm0 : isIo b = false := by rfl) : ev gl cf (.tup [a, b]) env = .ok (.tup [x, y], e2) := by
  have hn := no_io hn0
  have hm := no_io hm0
  rw [ev, evs_2 ha hk hb hj hn0 hm0]
  rfl
/-- what a told def makes of an error -/
theorem ev_lamX {f : Nat} {b : E} {es : List E} {env e1 : Env} {c : Nat} {as ds : List D} {y : D} (h : ev gl cf b (fzE env) = .exc c as) (hs : evs gl cf es env = .ok (ds, e1)) (ht : cf f (.tex c as :: ds) = .ok (y, [])) : ev gl cf (.lam f b es) env = .ok (y, e1) := by
  simp only [ev, h, hs, Res.bind, ht, noX]
theorem ev_lamK {f : Nat} {b : E} {es : List E} {env e0 e1 : Env} {x : D} {ds : List D} {y : D} (h : ev gl cf b (fzE env) = .ok (x, e0)) (hs : evs gl cf es env = .ok (ds, e1)) (ht : cf f (.tok x.fz :: ds) = .ok (y, [])) : ev gl cf (.lam f b es) env = .ok (y, e1) := by
  simp only [ev, h, hs, Res.bind, ht, noX]
end
/-! ### sorting as a built-in -/
theorem sameSh_ties (a b : Tie) : sameSh (tieD a) (tieD b) = true := rfl
theorem okN_tie (n : Nat) (t : Tie) : okN (n + 1) (tieD t) = true := by
  unfold tieD
  rw [okN]
  simp [okNs, okN]
theorem sorted_ties {o : Bool} {S T : List Tie} (hp : S.Perm T) (hT : T.Pairwise (fun s t => s.1 < t.1)) (hl : S.length ≤ 100000) : biD .sorted [.tup (S.map tieD)] = some (.lst true (T.map tieD)) := by
  have h1 : sortOk (S.map tieD) = true := by
    cases S with
    | nil => rfl
    | cons a S =>
      rw [List.map_cons, sortOk]
      have : (S.map tieD).all (sameSh (tieD a)) = true := by
        rw [List.all_eq_true]
        rintro x hx
        obtain ⟨t, _, rfl⟩ := List.mem_map.mp hx
        rfl
      rw [this]
      rfl
  have h2 : okNs 60 (S.map tieD) = true := okNs_all fun x hx => by
    obtain ⟨t, _, rfl⟩ := List.mem_map.mp hx
    exact okN_tie 59 t
  have h3 : (S.map tieD).length ≤ line := by
    unfold line
    rw [List.length_map]
    omega
  simp only [biD, seq?, h1, h2, decide_eq_true h3, Bool.and_self, if_true]
  rw [sort_ties hp hT]
theorem sorted_nats {S : List Nat} {m : Nat} (hp : S.Perm (List.range m)) (hl : m ≤ 100000) : biD .sorted [.lst true (S.map nD)] = some (.lst true ((List.range m).map nD)) := by
  have h1 : sortOk (S.map nD) = true := by
    cases S with
    | nil => rfl
    | cons a S =>
      rw [List.map_cons, sortOk]
      have : (S.map nD).all (sameSh (nD a)) = true := by
        rw [List.all_eq_true]
        rintro x hx
        obtain ⟨t, _, rfl⟩ := List.mem_map.mp hx
        rfl
      rw [this]
      rfl
  have h2 : okNs 60 (S.map nD) = true := okNs_nat 60 S
  have h3 : (S.map nD).length ≤ line := by
    unfold line
    have := hp.length_eq
    rw [List.length_range] at this
    rw [List.length_map]
    omega
  simp only [biD, seq?, h1, h2, decide_eq_true h3, Bool.and_self, if_true]
  rw [sort_range hp]
theorem ints_nat : ∀ l : List Nat, (ints? (l.map nD)).isSome = true
  | [] => rfl
  | a :: l => by
    have := ints_nat l
    rw [List.map_cons]
    show ((ints? (l.map nD)).map _).isSome = true
    rw [Option.isSome_map]
    exact this
theorem okN_ties (n : Nat) (o : Bool) (l : List Tie) : okN (n + 2) (.lst o (l.map tieD)) = true := by
  rw [okN]
  exact okNs_all fun x hx => by
    obtain ⟨t, _, rfl⟩ := List.mem_map.mp hx
    exact okN_tie n t
theorem okN_nats (n : Nat) (o : Bool) (l : List Nat) : okN (n + 1) (.lst o (l.map nD)) = true := by
  rw [okN]
  exact okNs_nat n l
end Pl

set_option Elab.async false
set_option linter.all false
set_option maxRecDepth 100000
set_option maxHeartbeats 4000000
namespace k33
open Mi
/-- is_whole(value): value=0 -/
def f_is_whole : Fn := ⟨1, 1, [],
  [.ret (.and [.bi (.isi .int) [.v 0], .nt (.bi (.isi .bool) [.v 0])])]⟩
/-- is_tie(value, places): value=0 places=1 -/
def f_is_tie : Fn := ⟨2, 2, [],
  [.ite (.or [.nt (.bi (.isi .tuple) [.v 0]), .cmp (.bi .len [.v 0]) [.ne] [.c (.int 2)]])
    [.ret (.c (.bl false))]
    [],
   .ite (.or [.nt (.call 0 [.ix (.v 0) (.c (.int 0))]), .nt (.call 0 [.ix (.v 0) (.c (.int 1))])])
    [.ret (.c (.bl false))]
    [],
   .ret (.cmp (.c (.int 0)) [.le, .lt, .lt] [.ix (.v 0) (.c (.int 0)), .ix (.v 0) (.c (.int 1)), .v 1])]⟩
/-- is_web(value): value=0 places=1 ties=2 tie=3 -/
def f_is_web : Fn := ⟨1, 4, [],
  [.ite (.or [.nt (.bi (.isi .tuple) [.v 0]), .cmp (.bi .len [.v 0]) [.ne] [.c (.int 2)]])
    [.ret (.c (.bl false))]
    [],
   .set (.tup [.v 1, .v 2]) (.v 0),
   .ite (.or [.nt (.call 0 [.v 1]), .nt (.cmp (.c (.int 0)) [.le, .le] [.v 1, .g 0])])
    [.ret (.c (.bl false))]
    [],
   .ite (.or [.nt (.bi (.isi .tuple) [.v 2]), .cmp (.bi .len [.v 2]) [.gt] [.g 1]])
    [.ret (.c (.bl false))]
    [],
   .ite (.nt (.bi .all [.lc [3] (.call 1 [.v 3, .v 1]) (.v 3) (.seq (.v 2)) none []]))
    [.ret (.c (.bl false))]
    [],
   .ret (.cmp (.bi .lenset [.v 2]) [.eq] [.bi .len [.v 2]])]⟩
/-- ties_of(web): web=0 -/
def f_ties_of : Fn := ⟨1, 1, [],
  [.ite (.nt (.call 2 [.v 0]))
    [.rai 1 []]
    [],
   .ret (.ix (.v 0) (.c (.int 1)))]⟩
/-- degrees(web): web=0 found=1 low=2 high=3 -/
def f_degrees : Fn := ⟨1, 4, [],
  [.set (.v 1) (.bin .mul (.lst [.c (.int 0)]) (.bi .len [.call 5 [.v 0]])),
   .for (.tup [.v 2, .v 3]) (.seq (.call 3 [.v 0]))
    [.aix (.v 1) .add (.v 2) (.c (.int 1)),
     .aix (.v 1) .add (.v 3) (.c (.int 1))] [2, 3],
   .ret (.bi .tuple [.v 1])]⟩
/-- places_of(web): web=0 -/
def f_places_of : Fn := ⟨1, 1, [],
  [.ite (.nt (.call 2 [.v 0]))
    [.rai 1 []]
    [],
   .ret (.bi .trange1 [.ix (.v 0) (.c (.int 0))])]⟩
/-- is_matched(web): web=0 many=1 -/
def f_is_matched : Fn := ⟨1, 2, [],
  [.ret (.bi .all [.lc [1] (.cmp (.v 1) [.eq] [.c (.int 1)]) (.v 1) (.seq (.call 4 [.v 0])) none []])]⟩
/-- matched_ties(web): web=0 ties=1 -/
def f_matched_ties : Fn := ⟨1, 2, [],
  [.set (.v 1) (.call 3 [.v 0]),
   .ite (.nt (.call 6 [.v 0]))
    [.rai 3 []]
    [],
   .ret (.v 1)]⟩
/-- partners(web): web=0 found=1 low=2 high=3 -/
def f_partners : Fn := ⟨1, 4, [],
  [.set (.v 1) (.bin .mul (.lst [.c (.int 0)]) (.bi .len [.call 4 [.v 0]])),
   .for (.tup [.v 2, .v 3]) (.seq (.call 7 [.v 0]))
    [.six (.v 1) (.v 2) (.v 3),
     .six (.v 1) (.v 3) (.v 2)] [2, 3],
   .ret (.bi .tuple [.v 1])]⟩
/-- need_many(many): many=0 -/
def f_need_many : Fn := ⟨1, 1, [],
  [.ite (.nt (.call 0 [.v 0]))
    [.rai 2 [.neg (.c (.int 1))]]
    [],
   .ite (.nt (.cmp (.c (.int 0)) [.le, .le] [.v 0, .g 2]))
    [.rai 2 [.v 0]]
    []]⟩
/-- total_of(many): many=0 found=1 own=2 -/
def f_total_of : Fn := ⟨1, 3, [],
  [.set (.v 1) (.c (.int 1)),
   .for (.v 2) (.rng [.v 0])
    [.aug 1 .mul (.bin .add (.bin .mul (.c (.int 2)) (.v 2)) (.c (.int 1)))] [2],
   .ret (.v 1)]⟩
/-- matched_total(many): many=0 -/
def f_matched_total : Fn := ⟨1, 1, [],
  [.ex (.call 9 [.v 0]),
   .ret (.call 10 [.v 0])]⟩
/-- matched_at(many, number): many=0 number=1 left=2 ties=3 rest=4 size=5 at=6 -/
def f_matched_at : Fn := ⟨2, 7, [],
  [.ex (.call 9 [.v 0]),
   .ite (.nt (.call 0 [.v 1]))
    [.rai 2 [.neg (.c (.int 1))]]
    [],
   .ite (.nt (.cmp (.c (.int 0)) [.le, .lt] [.v 1, .call 10 [.v 0]]))
    [.rai 2 [.v 1]]
    [],
   .set (.v 2) (.bi .lrange1 [.bin .mul (.c (.int 2)) (.v 0)]),
   .set (.v 3) (.lst []),
   .set (.v 4) (.v 1),
   .for (.v 5) (.rng [.bin .sub (.v 0) (.c (.int 1)), .neg (.c (.int 1)), .neg (.c (.int 1))])
    [.set (.v 6) (.bin .add (.bin .fdiv (.v 4) (.call 10 [.v 5])) (.c (.int 1))),
     .set (.v 4) (.bin .mod (.v 4) (.call 10 [.v 5])),
     .app (.v 3) (.tup [.ix (.v 2) (.c (.int 0)), .ix (.v 2) (.v 6)]),
     .set (.v 2) (.bin .add (.sl (.v 2) (some (.c (.int 1))) (some (.v 6))) (.sl (.v 2) (some (.bin .add (.v 6) (.c (.int 1)))) none))] [5, 6],
   .ret (.tup [.bin .mul (.c (.int 2)) (.v 0), .bi .tuple [.v 3]])]⟩
/-- matched_number(web): web=0 other=1 left=2 found=3 at=4 -/
def f_matched_number : Fn := ⟨1, 5, [],
  [.set (.v 1) (.call 8 [.v 0]),
   .set (.v 2) (.bi .lrange1 [.bi .len [.v 1]]),
   .set (.v 3) (.c (.int 0)),
   .whl 100000 (.cmp (.bi .len [.v 2]) [.gt] [.c (.int 0)])
    [.set (.v 4) (.mth .index (.v 2) (.ix (.v 1) (.ix (.v 2) (.c (.int 0))))),
     .aug 3 .add (.bin .mul (.bin .sub (.v 4) (.c (.int 1))) (.call 10 [.bin .sub (.bin .fdiv (.bi .len [.v 2]) (.c (.int 2))) (.c (.int 1))])),
     .set (.v 2) (.bin .add (.sl (.v 2) (some (.c (.int 1))) (some (.v 4))) (.sl (.v 2) (some (.bin .add (.v 4) (.c (.int 1)))) none))] [4],
   .ret (.v 3)]⟩
/-- _law_pot(script): script=0 cell=1 -/
def f__law_pot : Fn := ⟨1, 2, [],
  [.ret (.lst [.lc [1] (.bi .abs [.v 1]) (.v 1) (.seq (.sl (.v 0) none (some (.c (.int 63))))) none [], .c (.int 0), .c (.int 20011), .c (.int 0)])]⟩
/-- _law_draw(pot, many): pot=0 many=1 cell=2 found=3 -/
def f__law_draw : Fn := ⟨2, 4, [0],
  [.ite (.cmp (.v 1) [.lt] [.c (.int 2)])
    [.ret (.c (.int 0))]
    [],
   .ite (.cmp (.ix (.v 0) (.c (.int 3))) [.gt] [.c (.int 0)])
    [.set (.v 3) (.bin .mod (.bi .int [.ix (.v 0) (.c (.int 3))]) (.v 1)),
     .six (.v 0) (.c (.int 3)) (.bin .fdiv (.ix (.v 0) (.c (.int 3))) (.v 1)),
     .ret (.v 3)]
    [],
   .set (.v 2) (.c (.int 0)),
   .ite (.cmp (.ix (.v 0) (.c (.int 1))) [.lt] [.bi .len [.ix (.v 0) (.c (.int 0))]])
    [.set (.v 2) (.ix (.ix (.v 0) (.c (.int 0))) (.ix (.v 0) (.c (.int 1)))),
     .six (.v 0) (.c (.int 1)) (.bin .add (.ix (.v 0) (.c (.int 1))) (.c (.int 1))),
     .ite (.cmp (.v 2) [.ge] [.bin .pow (.c (.int 10)) (.c (.int 18))])
      [.six (.v 0) (.c (.int 3)) (.bin .fdiv (.v 2) (.v 1)),
       .ret (.bin .mod (.bi .int [.v 2]) (.v 1))]
      []]
    [],
   .six (.v 0) (.c (.int 2)) (.bin .mod (.bi .int [.bin .add (.bin .add (.bin .mul (.ix (.v 0) (.c (.int 2))) (.c (.int 48271))) (.v 2)) (.c (.int 12345))]) (.c (.int 2147483647))),
   .ret (.bin .mod (.bi .int [.bin .add (.bin .fdiv (.bin .mul (.ix (.v 0) (.c (.int 2))) (.ix (.v 0) (.c (.int 2)))) (.c (.int 64))) (.bin .fdiv (.ix (.v 0) (.c (.int 2))) (.c (.int 7)))]) (.v 1))]⟩
/-- _law_pick(pot, row): pot=0 row=1 -/
def f__law_pick : Fn := ⟨2, 2, [0],
  [.ret (.ix (.fz 1) (.call 15 [.io 0, .bi .len [.v 1]]))]⟩
/-- _law_same(found, due): found=0 due=1 k=2 -/
def f__law_same : Fn := ⟨2, 3, [],
  [.ite (.or [.bi (.isi .tuple) [.v 1], .bi (.isi .list) [.v 1]])
    [.ite (.or [.cmp (.bi (.isi .tuple) [.v 1]) [.ne] [.bi (.isi .tuple) [.v 0]], .cmp (.bi (.isi .list) [.v 1]) [.ne] [.bi (.isi .list) [.v 0]]])
      [.ret (.c (.bl false))]
      [],
     .ite (.cmp (.bi .len [.v 0]) [.ne] [.bi .len [.v 1]])
      [.ret (.c (.bl false))]
      [],
     .ret (.cmp (.lc [2] (.v 2) (.v 2) (.rng [.bi .len [.v 1]]) (some (.nt (.call 17 [.ix (.v 0) (.v 2), .ix (.v 1) (.v 2)]))) []) [.eq] [.lst []])]
    [],
   .ite (.cmp (.v 1) [.is] [.c (.non)])
    [.ret (.cmp (.v 0) [.is] [.c (.non)])]
    [],
   .ite (.bi (.isi .str) [.v 1])
    [.ret (.and [.bi (.isi .str) [.v 0], .cmp (.v 0) [.eq] [.v 1]])]
    [],
   .ret (.and [.bi (.isi .int) [.v 0], .cmp (.bi (.isi .bool) [.v 0]) [.eq] [.bi (.isi .bool) [.v 1]], .cmp (.v 0) [.eq] [.v 1]])]⟩
/-- _law_matched(pot, most): pot=0 most=1 left=2 k=3 many=4 kind=5 found=6 at=7 -/
def f__law_matched : Fn := ⟨2, 8, [0],
  [.par [4, 5, 6] [.call 15 [.io 0, .bin .add (.v 1) (.c (.int 1))], .call 15 [.io 0, .c (.int 6)], .lst []],
   .set (.v 2) (.lc [3] (.v 3) (.v 3) (.rng [.bin .mul (.c (.int 2)) (.v 4)]) none []),
   .for (.v 3) (.rng [.v 4])
    [.set (.v 7) (.ife (.cmp (.v 5) [.eq] [.c (.int 3)]) (.call 16 [.io 0, .lst [.c (.int 1), .bin .sub (.bi .len [.v 2]) (.c (.int 1))]]) (.bin .add (.c (.int 1)) (.call 15 [.io 0, .bin .sub (.bi .len [.v 2]) (.c (.int 1))]))),
     .ite (.cmp (.v 5) [.lt] [.c (.int 3)])
      [.set (.v 7) (.ix (.lst [.bin .sub (.bi .len [.v 2]) (.c (.int 1)), .c (.int 1), .bin .fdiv (.bi .len [.v 2]) (.c (.int 2))]) (.v 5))]
      [],
     .app (.v 6) (.tup [.ix (.v 2) (.c (.int 0)), .ix (.v 2) (.v 7)]),
     .set (.v 2) (.bin .add (.sl (.v 2) (some (.c (.int 1))) (some (.v 7))) (.sl (.v 2) (some (.bin .add (.v 7) (.c (.int 1)))) none))] [3, 7],
   .ret (.tup [.bin .mul (.c (.int 2)) (.v 4), .bi .tuple [.ife (.cmp (.call 15 [.io 0, .c (.int 3)]) [.eq] [.c (.int 0)]) (.rev (.v 6)) (.v 6)]])]⟩
/-- _law_partners(web): web=0 found=1 low=2 high=3 k=4 -/
def f__law_partners : Fn := ⟨1, 5, [],
  [.set (.v 1) (.lc [4] (.c (.int 0)) (.v 4) (.rng [.ix (.v 0) (.c (.int 0))]) none []),
   .for (.tup [.v 2, .v 3]) (.seq (.ix (.v 0) (.c (.int 1))))
    [.pix 1 (.v 2) (.v 3) (.v 3) (.v 2)] [2, 3],
   .ret (.mv 1)]⟩
/-- _law_all_matched(many): many=0 rows=1 turn=2 more=3 ties=4 left=5 row=6 k=7 -/
def f__law_all_matched : Fn := ⟨1, 8, [],
  [.set (.v 1) (.lst [.tup [.lst [], .lc [7] (.v 7) (.v 7) (.rng [.bin .mul (.c (.int 2)) (.v 0)]) none []]]),
   .for (.v 2) (.rng [.v 0])
    [.set (.v 3) (.lst []),
     .for (.tup [.v 4, .v 5]) (.seq (.fz 1))
      [.ext (.v 3) (.lc [7] (.tup [.bin .add (.v 4) (.lst [.tup [.ix (.v 5) (.c (.int 0)), .ix (.v 5) (.v 7)]]), .bin .add (.sl (.v 5) (some (.c (.int 1))) (some (.v 7))) (.sl (.v 5) (some (.bin .add (.v 7) (.c (.int 1)))) none)]) (.v 7) (.rng [.c (.int 1), .bi .len [.v 5]]) none [])] [4, 5],
     .set (.v 1) (.mv 3)] [2, 3, 4, 5],
   .ret (.lc [6] (.tup [.bin .mul (.c (.int 2)) (.v 0), .bi .tuple [.ix (.v 6) (.c (.int 0))]]) (.v 6) (.seq (.v 1)) none [])]⟩
/-- _law_total(many): many=0 found=1 k=2 -/
def f__law_total : Fn := ⟨1, 3, [],
  [.set (.v 1) (.c (.int 1)),
   .for (.v 2) (.rng [.v 0])
    [.set (.v 1) (.bin .mul (.v 1) (.bin .add (.bin .mul (.c (.int 2)) (.v 2)) (.c (.int 1))))] [2],
   .ret (.v 1)]⟩
/-- law(script): script=0 pot=1 turn=2 far=3 web=4 again=5 many=6 total=7 number=8 own=9 k=10 tie=11 -/
def f_law : Fn := ⟨1, 12, [],
  [.set (.v 1) (.call 14 [.v 0]),
   .for (.v 2) (.rng [.c (.int 3)])
    [.set (.v 6) (.ife (.cmp (.v 2) [.eq] [.c (.int 0)]) (.call 15 [.io 1, .c (.int 5)]) (.call 15 [.io 1, .c (.int 31)])),
     .set (.v 7) (.call 21 [.v 6]),
     .ite (.nt (.call 17 [.call 11 [.v 6], .v 7]))
      [.ret (.c (.bl false))]
      [],
     .set (.v 8) (.bin .mod (.bi .int [.bin .add (.bin .mul (.call 15 [.io 1, .bin .pow (.c (.int 10)) (.c (.int 30))]) (.bin .add (.c (.int 1)) (.call 15 [.io 1, .bin .pow (.c (.int 10)) (.c (.int 9))]))) (.call 15 [.io 1, .bin .pow (.c (.int 10)) (.c (.int 6))])]) (.v 7)),
     .for (.v 9) (.seq (.lst [.v 8, .c (.int 0), .bin .sub (.v 7) (.c (.int 1)), .bi .max2 [.bin .sub (.v 8) (.c (.int 1)), .c (.int 0)]]))
      [.set (.v 4) (.call 12 [.v 6, .v 9]),
       .ite (.or [.nt (.call 17 [.call 2 [.v 4], .c (.bl true)]), .cmp (.ix (.v 4) (.c (.int 0))) [.ne] [.bin .mul (.c (.int 2)) (.v 6)], .cmp (.bi .len [.ix (.v 4) (.c (.int 1))]) [.ne] [.v 6]])
        [.ret (.c (.bl false))]
        [],
       .ite (.cmp (.bi .sorted [.bin .add (.lc [11] (.ix (.v 11) (.c (.int 0))) (.v 11) (.seq (.ix (.v 4) (.c (.int 1)))) none []) (.lc [11] (.ix (.v 11) (.c (.int 1))) (.v 11) (.seq (.ix (.v 4) (.c (.int 1)))) none [])]) [.ne] [.lc [10] (.v 10) (.v 10) (.rng [.bin .mul (.c (.int 2)) (.v 6)]) none []])
        [.ret (.c (.bl false))]
        [],
       .ite (.or [.cmp (.bi .list [.ix (.v 4) (.c (.int 1))]) [.ne] [.bi .sorted [.ix (.v 4) (.c (.int 1))]], .nt (.call 17 [.call 13 [.v 4], .v 9])])
        [.ret (.c (.bl false))]
        [],
       .ite (.nt (.call 17 [.call 13 [.tup [.ix (.v 4) (.c (.int 0)), .rev (.ix (.v 4) (.c (.int 1)))]], .v 9]))
        [.ret (.c (.bl false))]
        []] [4, 9],
     .ite (.and [.cmp (.v 8) [.gt] [.c (.int 0)], .nt (.cmp (.call 19 [.call 12 [.v 6, .bin .sub (.v 8) (.c (.int 1))]]) [.lt] [.call 19 [.call 12 [.v 6, .v 8]]])])
      [.ret (.c (.bl false))]
      [],
     .set (.v 3) (.bin .add (.fz 7) (.call 15 [.io 1, .c (.int 50)])),
     .ite (.cmp (.lam 23 (.call 12 [.v 6, .v 3]) []) [.ne] [.v 3])
      [.ret (.c (.bl false))]
      [],
     .ite (.cmp (.lam 23 (.call 12 [.v 6, .bin .sub (.neg (.c (.int 1))) (.v 2)]) []) [.ne] [.bin .sub (.neg (.c (.int 1))) (.v 2)])
      [.ret (.c (.bl false))]
      [],
     .ite (.cmp (.lam 23 (.call 12 [.v 6, .c (.non)]) []) [.ne] [.neg (.c (.int 1))])
      [.ret (.c (.bl false))]
      [],
     .ite (.nt (.lam 24 (.call 13 [.tup [.c (.int 1), .tup []]]) [.c (.str [78, 111, 116, 77, 97, 116, 99, 104, 101, 100])]))
      [.ret (.c (.bl false))]
      []] [2, 3, 4, 6, 7, 8, 9],
   .ite (.cmp (.lc [10] (.call 12 [.c (.int 3), .v 10]) (.v 10) (.rng [.c (.int 15)]) none []) [.ne] [.call 20 [.c (.int 3)]])
    [.ret (.c (.bl false))]
    [],
   .set (.v 3) (.bin .add (.c (.int 31)) (.call 15 [.io 1, .bin .pow (.c (.int 10)) (.c (.int 9))])),
   .ite (.cmp (.lam 23 (.call 11 [.v 3]) []) [.ne] [.v 3])
    [.ret (.c (.bl false))]
    [],
   .ite (.cmp (.lam 23 (.call 12 [.v 3, .c (.int 0)]) []) [.ne] [.v 3])
    [.ret (.c (.bl false))]
    [],
   .set (.v 4) (.call 18 [.io 1, .c (.int 9)]),
   .set (.v 5) (.call 12 [.bi .len [.ix (.v 4) (.c (.int 1))], .call 13 [.v 4]]),
   .ret (.call 17 [.v 5, .tup [.ix (.v 4) (.c (.int 0)), .bi .tuple [.bi .sorted [.ix (.v 4) (.c (.int 1))]]]])]⟩
/-- _law_told -/
def t__law_told : MiS.TSp := ⟨1, [⟨[2], 2, .fld⟩, ⟨[0, 1, 2, 3], 0, .non⟩], .non⟩
/-- _law_raises -/
def t__law_raises : MiS.TSp := ⟨2, [⟨[3], 3, .eqn [78, 111, 116, 77, 97, 116, 99, 104, 101, 100]⟩], .bl false⟩
open PySem PySem.Spec PyProof.Rows L2 MiS
def top (i : Nat) : Stmt := PySem.Challenge.pw_pagesforties_k33_matched_webs_numbered_w.main.body.getD i (.Pass ⟨0, 0, 0, 0⟩)
def inner (s : Stmt) : Stmt := match s with
  | .ClassDef _ _ _ b _ _ _ _ _ _ _ => b.getD 0 (.Pass ⟨0, 0, 0, 0⟩)
  | _ => s
def L : LawT where
  defs := [⟨"is_whole", top 8, ["value"], f_is_whole, false, none⟩,
    ⟨"is_tie", top 9, ["value", "places"], f_is_tie, false, none⟩,
    ⟨"is_web", top 10, ["value", "places", "ties", "tie"], f_is_web, false, none⟩,
    ⟨"ties_of", top 11, ["web"], f_ties_of, false, none⟩,
    ⟨"degrees", top 12, ["web", "found", "low", "high"], f_degrees, false, none⟩,
    ⟨"places_of", top 13, ["web"], f_places_of, false, none⟩,
    ⟨"is_matched", top 16, ["web", "many"], f_is_matched, false, none⟩,
    ⟨"matched_ties", top 17, ["web", "ties"], f_matched_ties, false, none⟩,
    ⟨"partners", top 18, ["web", "found", "low", "high"], f_partners, false, none⟩,
    ⟨"need_many", top 19, ["many"], f_need_many, false, none⟩,
    ⟨"total_of", top 20, ["many", "found", "own"], f_total_of, false, none⟩,
    ⟨"matched_total", top 21, ["many"], f_matched_total, false, none⟩,
    ⟨"matched_at", top 22, ["many", "number", "left", "ties", "rest", "size", "at"], f_matched_at, false, none⟩,
    ⟨"matched_number", top 23, ["web", "other", "left", "found", "at"], f_matched_number, false, none⟩,
    ⟨"_law_pot", top 25, ["script", "cell"], f__law_pot, false, none⟩,
    ⟨"_law_draw", top 26, ["pot", "many", "cell", "found"], f__law_draw, false, none⟩,
    ⟨"_law_pick", top 27, ["pot", "row"], f__law_pick, false, none⟩,
    ⟨"_law_same", top 28, ["found", "due", "k"], f__law_same, false, none⟩,
    ⟨"_law_matched", top 29, ["pot", "most", "left", "k", "many", "kind", "found", "at"], f__law_matched, false, none⟩,
    ⟨"_law_partners", top 31, ["web", "found", "low", "high", "k"], f__law_partners, false, none⟩,
    ⟨"_law_all_matched", top 32, ["many", "rows", "turn", "more", "ties", "left", "row", "k"], f__law_all_matched, false, none⟩,
    ⟨"_law_total", top 34, ["many", "found", "k"], f__law_total, false, none⟩,
    ⟨"law", top 35, ["script", "pot", "turn", "far", "web", "again", "many", "total", "number", "own", "k", "tie"], f_law, true, none⟩,
    ⟨"_law_told", top 30, ["work", "e"], t__law_told.fn, false, some t__law_told⟩,
    ⟨"_law_raises", top 33, ["work", "name"], t__law_raises.fn, false, some t__law_raises⟩]
  nr := 23
  gls := [("MOST_PLACES", 60), ("MOST_TIES", 60), ("MOST_OPENED", 30)]
  free := ["len", "abs", "int", "bool", "str", "tuple", "list", "max", "all", "sorted", "set", "range", "isinstance"]
  xs := [⟨"WebError", none⟩, ⟨"BadWeb", none⟩, ⟨"BadPlace", some ("number", inner (top 3), "self", "number")⟩, ⟨"NotMatched", none⟩]
theorem b0 : BD (top 8) ["value"] := fun _ _ _ _ _ _ _ _ us hl => match us, hl with
  | [_], _ => rfl
theorem b1 : BD (top 9) ["value", "places"] := fun _ _ _ _ _ _ _ _ us hl => match us, hl with
  | [_, _], _ => rfl
theorem b2 : BD (top 10) ["value"] := fun _ _ _ _ _ _ _ _ us hl => match us, hl with
  | [_], _ => rfl
theorem b3 : BD (top 11) ["web"] := fun _ _ _ _ _ _ _ _ us hl => match us, hl with
  | [_], _ => rfl
theorem b4 : BD (top 12) ["web"] := fun _ _ _ _ _ _ _ _ us hl => match us, hl with
  | [_], _ => rfl
theorem b5 : BD (top 13) ["web"] := fun _ _ _ _ _ _ _ _ us hl => match us, hl with
  | [_], _ => rfl
theorem b6 : BD (top 16) ["web"] := fun _ _ _ _ _ _ _ _ us hl => match us, hl with
  | [_], _ => rfl
theorem b7 : BD (top 17) ["web"] := fun _ _ _ _ _ _ _ _ us hl => match us, hl with
  | [_], _ => rfl
theorem b8 : BD (top 18) ["web"] := fun _ _ _ _ _ _ _ _ us hl => match us, hl with
  | [_], _ => rfl
theorem b9 : BD (top 19) ["many"] := fun _ _ _ _ _ _ _ _ us hl => match us, hl with
  | [_], _ => rfl
theorem b10 : BD (top 20) ["many"] := fun _ _ _ _ _ _ _ _ us hl => match us, hl with
  | [_], _ => rfl
theorem b11 : BD (top 21) ["many"] := fun _ _ _ _ _ _ _ _ us hl => match us, hl with
  | [_], _ => rfl
theorem b12 : BD (top 22) ["many", "number"] := fun _ _ _ _ _ _ _ _ us hl => match us, hl with
  | [_, _], _ => rfl
theorem b13 : BD (top 23) ["web"] := fun _ _ _ _ _ _ _ _ us hl => match us, hl with
  | [_], _ => rfl
theorem b14 : BD (top 25) ["script"] := fun _ _ _ _ _ _ _ _ us hl => match us, hl with
  | [_], _ => rfl
theorem b15 : BD (top 26) ["pot", "many"] := fun _ _ _ _ _ _ _ _ us hl => match us, hl with
  | [_, _], _ => rfl
theorem b16 : BD (top 27) ["pot", "row"] := fun _ _ _ _ _ _ _ _ us hl => match us, hl with
  | [_, _], _ => rfl
theorem b17 : BD (top 28) ["found", "due"] := fun _ _ _ _ _ _ _ _ us hl => match us, hl with
  | [_, _], _ => rfl
theorem b18 : BD (top 29) ["pot", "most"] := fun _ _ _ _ _ _ _ _ us hl => match us, hl with
  | [_, _], _ => rfl
theorem b19 : BD (top 31) ["web"] := fun _ _ _ _ _ _ _ _ us hl => match us, hl with
  | [_], _ => rfl
theorem b20 : BD (top 32) ["many"] := fun _ _ _ _ _ _ _ _ us hl => match us, hl with
  | [_], _ => rfl
theorem b21 : BD (top 34) ["many"] := fun _ _ _ _ _ _ _ _ us hl => match us, hl with
  | [_], _ => rfl
theorem b22 : BD (top 35) ["script"] := fun _ _ _ _ _ _ _ _ us hl => match us, hl with
  | [_], _ => rfl
theorem b23 : BD (top 30) ["work"] := fun _ _ _ _ _ _ _ _ us hl => match us, hl with
  | [_], _ => rfl
theorem b24 : BD (top 33) ["work", "name"] := fun _ _ _ _ _ _ _ _ us hl => match us, hl with
  | [_, _], _ => rfl
theorem x3 : BD (inner (top 3)) ["self", "number"] := fun _ _ _ _ _ _ _ _ us hl => match us, hl with
  | [_, _], _ => rfl
theorem binds : L.binds := ⟨⟨b0, b1, b2, b3, b4, b5, b6, b7, b8, b9, b10, b11, b12, b13, b14, b15, b16, b17, b18, b19, b20, b21, b22, b23, b24, trivial⟩, fun f st s z e => (nomatch e), fun f st s z e => (nomatch e), fun f st s z e => by
    cases e
    exact x3, fun f st s z e => (nomatch e), trivial⟩
theorem k0 : lkB L (L.defs.getD 0 ⟨"", default, [], ⟨0, 0, [], []⟩, false, none⟩) = true := by decide +kernel
theorem k1 : lkB L (L.defs.getD 1 ⟨"", default, [], ⟨0, 0, [], []⟩, false, none⟩) = true := by decide +kernel
theorem k2 : lkB L (L.defs.getD 2 ⟨"", default, [], ⟨0, 0, [], []⟩, false, none⟩) = true := by decide +kernel
theorem k3 : lkB L (L.defs.getD 3 ⟨"", default, [], ⟨0, 0, [], []⟩, false, none⟩) = true := by decide +kernel
theorem k4 : lkB L (L.defs.getD 4 ⟨"", default, [], ⟨0, 0, [], []⟩, false, none⟩) = true := by decide +kernel
theorem k5 : lkB L (L.defs.getD 5 ⟨"", default, [], ⟨0, 0, [], []⟩, false, none⟩) = true := by decide +kernel
theorem k6 : lkB L (L.defs.getD 6 ⟨"", default, [], ⟨0, 0, [], []⟩, false, none⟩) = true := by decide +kernel
theorem k7 : lkB L (L.defs.getD 7 ⟨"", default, [], ⟨0, 0, [], []⟩, false, none⟩) = true := by decide +kernel
theorem k8 : lkB L (L.defs.getD 8 ⟨"", default, [], ⟨0, 0, [], []⟩, false, none⟩) = true := by decide +kernel
theorem k9 : lkB L (L.defs.getD 9 ⟨"", default, [], ⟨0, 0, [], []⟩, false, none⟩) = true := by decide +kernel
theorem k10 : lkB L (L.defs.getD 10 ⟨"", default, [], ⟨0, 0, [], []⟩, false, none⟩) = true := by decide +kernel
theorem k11 : lkB L (L.defs.getD 11 ⟨"", default, [], ⟨0, 0, [], []⟩, false, none⟩) = true := by decide +kernel
theorem k12 : lkB L (L.defs.getD 12 ⟨"", default, [], ⟨0, 0, [], []⟩, false, none⟩) = true := by decide +kernel
theorem k13 : lkB L (L.defs.getD 13 ⟨"", default, [], ⟨0, 0, [], []⟩, false, none⟩) = true := by decide +kernel
theorem k14 : lkB L (L.defs.getD 14 ⟨"", default, [], ⟨0, 0, [], []⟩, false, none⟩) = true := by decide +kernel
theorem k15 : lkB L (L.defs.getD 15 ⟨"", default, [], ⟨0, 0, [], []⟩, false, none⟩) = true := by decide +kernel
theorem k16 : lkB L (L.defs.getD 16 ⟨"", default, [], ⟨0, 0, [], []⟩, false, none⟩) = true := by decide +kernel
theorem k17 : lkB L (L.defs.getD 17 ⟨"", default, [], ⟨0, 0, [], []⟩, false, none⟩) = true := by decide +kernel
theorem k18 : lkB L (L.defs.getD 18 ⟨"", default, [], ⟨0, 0, [], []⟩, false, none⟩) = true := by decide +kernel
theorem k19 : lkB L (L.defs.getD 19 ⟨"", default, [], ⟨0, 0, [], []⟩, false, none⟩) = true := by decide +kernel
theorem k20 : lkB L (L.defs.getD 20 ⟨"", default, [], ⟨0, 0, [], []⟩, false, none⟩) = true := by decide +kernel
theorem k21 : lkB L (L.defs.getD 21 ⟨"", default, [], ⟨0, 0, [], []⟩, false, none⟩) = true := by decide +kernel
theorem k22 : lkB L (L.defs.getD 22 ⟨"", default, [], ⟨0, 0, [], []⟩, false, none⟩) = true := by decide +kernel
theorem looks : L.looks := ⟨k0, k1, k2, k3, k4, k5, k6, k7, k8, k9, k10, k11, k12, k13, k14, k15, k16, k17, k18, k19, k20, k21, k22, trivial⟩
theorem ok : L.ok = true := by decide +kernel
def gl : List D := [.int 60, .int 60, .int 30]
def lawIx : Nat := 22
def lawTop : Nat := 35
def tops : List PySem.Str := ["WebError", "BadWeb", "BadPlace", "NotMatched", "is_whole", "is_tie", "is_web", "ties_of", "degrees", "places_of", "is_matched", "matched_ties", "partners", "need_many", "total_of", "matched_total", "matched_at", "matched_number", "_law_pot", "_law_draw", "_law_pick", "_law_same", "_law_matched", "_law_partners", "_law_all_matched", "_law_total", "_law_told", "_law_raises", "MOST_PLACES", "MOST_TIES", "MOST_OPENED"]
/- defs: is_whole=0 is_tie=1 is_web=2 ties_of=3 degrees=4 places_of=5 is_matched=6 matched_ties=7 partners=8 need_many=9 total_of=10 matched_total=11 matched_at=12 matched_number=13 _law_pot=14 _law_draw=15 _law_pick=16 _law_same=17 _law_matched=18 _law_partners=19 _law_all_matched=20 _law_total=21 law=22 _law_told=23 _law_raises=24
   excs: WebError=0 BadWeb=1 BadPlace=2 NotMatched=3
   globals: MOST_PLACES=0 MOST_TIES=1 MOST_OPENED=2 -/
end k33

set_option Elab.async false
set_option linter.all false
set_option maxRecDepth 100000
set_option maxHeartbeats 0
namespace k33
open PySem PySem.Spec PyProof.Rows L2 MiS
abbrev R : PySem.W.OpenRow := PySem.W.OpenLaw.row PySem.Challenge.rw_pagesforties_k33_matched_webs_numbered_w
abbrev hk : PySem.W.Hook := He.hookX 5 L.fa L.fn [] L.tf L.ex
def ob (s : PySem.W.SharedT) : He.AlX := He.obsX 5 L.fa L.fn [] L.tf L.ex (HandSHeadRun.getT s)
theorem ob_eq (s : PySem.W.SharedT) : ob s = hk.obs s.abs := He.obsX_eq (HandSHeadRun.getT_eq s)
theorem run (w : World) : HandSHeadRun.RunEq R (PySem.W.view R.prog [lawTop]) hk ob 4000 tops w := by
  intro os
  kernel_rfl
end k33

set_option Elab.async false
set_option linter.all false
set_option maxRecDepth 100000
set_option maxHeartbeats 4000000
namespace k33
open Mi Pl
abbrev cf11 := runF L.glD L.P 11
abbrev E12 (S p t far web again many total number own : Option Mi.D) : Env := [S, p, t, far, web, again, many, total, number, own, none, none]
theorem a_web {m : Nat} {ts : List Tie} (h : MWeb m ts) (hm : m ≤ 30) {n : Nat} : runF L.glD L.P (n + 3) 2 [webD (2 * m) ts] = .ok (.bl true, []) := run_web (w := 0) (t := 1) (g0 := 0) (g1 := 1) rfl rfl rfl rfl rfl (h.web hm)
theorem a_part {m : Nat} {ts : List Tie} (h : MWeb m ts) (hm : m ≤ 30) {n : Nat} : runF L.glD L.P (n + 8) 8 [webD (2 * m) ts] = .ok (.tup ((pars (2 * m) ts).map nD), []) := by
  have hw := h.web hm
  have w := fun k => @a_web m ts h hm k
  have ti : ∀ k, runF L.glD L.P (k + 4) 3 [webD (2 * m) ts] = .ok (.tup (ts.map tieD), []) := fun k => run_tiesOf (b := 2) (x := 1) rfl (w k)
  have pl : ∀ k, runF L.glD L.P (k + 4) 5 [webD (2 * m) ts] = .ok (.tup ((List.range (2 * m)).map nD), []) := fun k => run_placesOf (b := 2) (x := 1) rfl hw.m60 (w k)
  have dg : ∀ k, runF L.glD L.P (k + 5) 4 [webD (2 * m) ts] = .ok (.tup ((List.replicate (2 * m) 1).map nD), []) := fun k => by
    have := @run_degrees L.glD L.P k 5 3 4 rfl (2 * m) ts hw (pl k) (ti k)
    rw [degs_one hw h.matched] at this
    exact this
  have im : ∀ k, runF L.glD L.P (k + 6) 6 [webD (2 * m) ts] = .ok (.bl true, []) := fun k => run_isMatched (d := 4) rfl hw.m60 (dg k)
  have mt : ∀ k, runF L.glD L.P (k + 7) 7 [webD (2 * m) ts] = .ok (.tup (ts.map tieD), []) := fun k => run_matchedTies (t := 3) (q := 6) (x := 3) rfl (ti (k + 2)) (im k)
  exact run_partners (d := 4) (t := 7) rfl hw (List.length_replicate ..) (dg (n + 2)) (mt n)
abbrev VV (m : Nat) (ts : List Tie) : Nat → Nat := fun x => (pars (2 * m) ts).getD x 0
theorem a_num {m : Nat} {ts : List Tie} (h : MWeb m ts) (hm : m ≤ 30) : cf11 13 [webD (2 * m) ts] = .ok (.int (num (VV m ts) m (List.range (2 * m)) : Nat), []) :=
  run_matchedNumber (n := 2) (par := 8) (tot := 10) rfl rfl rfl rfl (a_part h hm) hm h.pars.1 h.pars.2.2
theorem a_at {m r : Nat} (hm : m ≤ 30) (hr : r < odN m) : cf11 12 [.int m, .int r] = .ok (webD (2 * m) (mat m r (List.range (2 * m))), []) :=
  run_matchedAt (n := 8) (need := 9) (w := 0) (tot := 10) (x := 2) (g := 2) rfl rfl rfl rfl rfl hm hr
theorem a_same {x : Mi.D} (h : Flat 10 x) : cf11 17 [x, x] = .ok (.bl true, []) := run_same (s := 17) rfl 10 0 x h
theorem a_lpar {m : Nat} {ts : List Tie} (h : MWeb m ts) (hm : m ≤ 30) : cf11 19 [webD (2 * m) ts] = .ok (.lst true ((pars (2 * m) ts).map nD), []) := run_lawPartners (n := 10) rfl (h.web hm)
theorem a_total {m : Nat} (hm : m ≤ 30) : cf11 11 [.int m] = .ok (.int (od m), []) := by
  have w0 := @run_whole L.glD L.P 8 0 rfl m
  have n0 := @run_need L.glD L.P 8 0 2 2 9 rfl 30 m w0 rfl (by omega) (by omega)
  have t0 := @run_total L.glD L.P 9 10 rfl m (by omega)
  show runF L.glD L.P (10 + 1) 11 [.int m] = _
  rw [runF_eq (fn := f_matched_total) rfl rfl]
  simp [Mi.exs, Mi.ex, Mi.ev, Mi.evs, Mi.evb, Mi.evc, Mi.evo, Mi.evk, Mi.evAnd, Mi.evOr, Mi.evm, Mi.evI, Mi.evJ, Mi.getV, Mi.setV, Mi.delV, Mi.delVs, Mi.setVs, Mi.Res.bind, Mi.Res.of, Mi.cmpD, Mi.tB, Mi.keep, Mi.move, Mi.vw, Pl.own_non, Pl.own_bl, Pl.own_int, Pl.own_str, Pl.own_tup, Pl.own_lst, Pl.own_dct, Pl.fz_non, Pl.fz_bl, Pl.fz_int, Pl.fz_str, Pl.fz_tup, Pl.fz_lst, Pl.fz_dct, Mi.asg, Mi.asgs, Mi.getPa, Mi.setPa, Mi.biD, Mi.isTy, Mi.seqI, Mi.fillIo, Mi.putIo, Mi.getVs, Mi.outF, Mi.envF, Mi.Fl.kill, Mi.D.isLst, Mi.binD, Mi.augD, f_matched_total, n0, t0]
theorem a_far {m : Int} (hm : 30 < m) : cf11 11 [.int m] = .exc 2 [.int m] := by
  have w0 := @run_whole L.glD L.P 8 0 rfl m
  have n0 := @run_need_far L.glD L.P 8 0 2 2 9 rfl 30 m w0 rfl (by omega)
  show runF L.glD L.P (10 + 1) 11 [.int m] = _
  rw [runF_eq (fn := f_matched_total) rfl rfl]
  simp [Mi.exs, Mi.ex, Mi.ev, Mi.evs, Mi.evb, Mi.evc, Mi.evo, Mi.evk, Mi.evAnd, Mi.evOr, Mi.evm, Mi.evI, Mi.evJ, Mi.getV, Mi.setV, Mi.delV, Mi.delVs, Mi.setVs, Mi.Res.bind, Mi.Res.of, Mi.cmpD, Mi.tB, Mi.keep, Mi.move, Mi.vw, Pl.own_non, Pl.own_bl, Pl.own_int, Pl.own_str, Pl.own_tup, Pl.own_lst, Pl.own_dct, Pl.fz_non, Pl.fz_bl, Pl.fz_int, Pl.fz_str, Pl.fz_tup, Pl.fz_lst, Pl.fz_dct, Mi.asg, Mi.asgs, Mi.getPa, Mi.setPa, Mi.biD, Mi.isTy, Mi.seqI, Mi.fillIo, Mi.putIo, Mi.getVs, Mi.outF, Mi.envF, Mi.Fl.kill, Mi.D.isLst, Mi.binD, Mi.augD, f_matched_total, n0]
theorem num_at {m r : Nat} (hr : r < odN m) {ts : List Tie} (hp : (mat m r (List.range (2 * m))).Perm ts) : num (VV m ts) m (List.range (2 * m)) = r := by
  have h := (mat_web hr).of_perm hp
  refine num_mat m r _ (by simp) hr List.nodup_range fun t ht => ?_
  exact h.pars.2.1 t (hp.mem_iff.mp ht)

theorem pow_of {k : Nat} {v : Int} (h : (10 : Int) ^ k = v) (hk : k ≤ 1000000) : binD .pow (.int 10) (.int k) = some (.int v) := by
  have c : 0 ≤ (k : Int) ∧ (k : Int) ≤ 1000000 ∧ (10 : Int).natAbs < 18446744073709551616 := ⟨by omega, by omega, by decide⟩
  simp only [binD]
  rw [if_pos c, Int.toNat_natCast, h]
theorem lit30 : binD .pow (.int 10) (.int 30) = some (.int 1000000000000000000000000000000) := pow_of (k := 30) (by decide) (by decide)
theorem lit9 : binD .pow (.int 10) (.int 9) = some (.int 1000000000) := pow_of (k := 9) (by decide) (by decide)
theorem lit6 : binD .pow (.int 10) (.int 6) = some (.int 1000000) := pow_of (k := 6) (by decide) (by decide)
def lawB : List Mi.S := match f_law.body[1]? with
  | some (Mi.S.for _ _ b _) => b
  | _ => []
def ownB : List Mi.S := match lawB[4]? with
  | some (Mi.S.for _ _ b _) => b
  | _ => []
def st (b : List Mi.S) (k : Nat) : Mi.S := b.getD k .pas
theorem ownB_eq : ownB = [st ownB 0, st ownB 1, st ownB 2, st ownB 3, st ownB 4] := rfl
theorem lawB_eq : lawB = [st lawB 0, st lawB 1, st lawB 2, st lawB 3, st lawB 4, st lawB 5, st lawB 6, st lawB 7, st lawB 8, st lawB 9, st lawB 10] := rfl
abbrev EO (S p t far again total number : Option Mi.D) (m : Nat) (web own : Option Mi.D) : Env := [S, p, t, far, web, again, some (.int m), total, number, own, none, none]
theorem own_step (S p t far again total number : Option Mi.D) {m r : Nat} (hm : m ≤ 30) (hr : r < odN m) :
    ((Mi.Res.of (asg (.v 9) (nD r) (EO S p t far again total number m none none))).bind fun e2 => (exs L.glD cf11 ownB e2).bind fun f => .ok (f.kill [4, 9])) = .ok (.nx (EO S p t far again total number m none none)) := by
  have hw := mat_web hr
  have hs := (mat_sorted m r (List.range (2 * m)) (by simp) hr List.pairwise_lt_range).1
  have at0 := a_at hm hr
  have web0 : cf11 2 [webD (2 * m) (mat m r (List.range (2 * m)))] = .ok (.bl true, []) := a_web hw hm
  have num0 := a_num hw hm
  rw [num_at hr (.refl _)] at num0
  have hv := hw.of_perm (List.reverse_perm (mat m r (List.range (2 * m)))).symm
  have num1 := a_num hv hm
  rw [num_at hr (List.reverse_perm _).symm] at num1
  have same0 := a_same (.bl 10 true)
  have same1 := a_same (.int 10 r)
  have so1 := @sorted_ties false _ _ (.refl _) hs (by rw [hw.len]; omega)
  have hpe : ((mat m r (List.range (2 * m))).map (·.1) ++ (mat m r (List.range (2 * m))).map (·.2)).Perm (List.range (2 * m)) := by
    refine List.Perm.trans ?_ hw.perm
    generalize mat m r (List.range (2 * m)) = ts
    induction ts with
    | nil => exact .refl _
    | cons a ts ih =>
      rw [List.map_cons, List.map_cons, ends_cons]
      exact (List.perm_middle.trans (ih.cons a.2)).cons a.1
  have so2 := sorted_nats hpe (by omega)
  have hlen : ((mat m r (List.range (2 * m))).map tieD).length = m := by rw [List.length_map, hw.len]
  generalize mat m r (List.range (2 * m)) = ts at *
  have hs2 : smallI 2 = true := by decide
  show ((exs L.glD cf11 ownB (EO S p t far again total number m none (some (nD r)))).bind fun f => Mi.Res.ok (f.kill [4, 9])) = _
  have fzw : (webD (2 * m) ts).fz = webD (2 * m) ts := rfl
  have oww : (webD (2 * m) ts).own = false := rfl
  have x0 : ixD (webD (2 * m) ts) (.int 0) = some (.int (2 * m : Nat)) := rfl
  have x1 : ixD (webD (2 * m) ts) (.int 1) = some (.tup (ts.map tieD)) := rfl
  have e4 : ∀ o, ev L.glD cf11 (.v 4) (EO S p t far again total number m (some (webD (2 * m) ts)) o) = .ok (webD (2 * m) ts, EO S p t far again total number m (some (webD (2 * m) ts)) o) := fun o => rfl
  have b1 : ev L.glD cf11 (.call 2 [.v 4]) (EO S p t far again total number m (some (webD (2 * m) ts)) (some (nD r))) = .ok (.bl true, EO S p t far again total number m (some (webD (2 * m) ts)) (some (nD r))) := ev_call1 (e4 _) rfl web0
  have b2 : ev L.glD cf11 (.call 13 [.v 4]) (EO S p t far again total number m (some (webD (2 * m) ts)) (some (nD r))) = .ok (.int r, EO S p t far again total number m (some (webD (2 * m) ts)) (some (nD r))) := ev_call1 (e4 _) rfl num0
  have w0 : ev L.glD cf11 (.ix (.v 4) (.c (.int 0))) (EO S p t far again total number m (some (webD (2 * m) ts)) (some (nD r))) = .ok (.int (2 * m : Nat), EO S p t far again total number m (some (webD (2 * m) ts)) (some (nD r))) := ev_ix (e4 _) ev_c x0
  have w1 : ev L.glD cf11 (.ix (.v 4) (.c (.int 1))) (EO S p t far again total number m (some (webD (2 * m) ts)) (some (nD r))) = .ok (.tup (ts.map tieD), EO S p t far again total number m (some (webD (2 * m) ts)) (some (nD r))) := ev_ix (e4 _) ev_c x1
  have twom : ∀ o q, ev L.glD cf11 (.bin .mul (.c (.int 2)) (.v 6)) (EO S p t far again total number m o q) = .ok (.int (2 * m : Nat), EO S p t far again total number m o q) := fun o q => by
    refine ev_bin ev_c (ev_v (x := .int m) rfl) ?_
    simp [binD, hs2]
  have s0 : ex L.glD cf11 (st ownB 0) (EO S p t far again total number m none (some (nD r))) = .ok (.nx (EO S p t far again total number m (some (webD (2 * m) ts)) (some (nD r)))) := by
    refine ex_setv (i := 4) (e1 := EO S p t far again total number m none (some (nD r))) (ev_call2 (ev_v (x := .int m) rfl) rfl (ev_v (x := nD r) rfl) rfl at0) (.inl rfl)
  have s1 : ex L.glD cf11 (st ownB 1) (EO S p t far again total number m (some (webD (2 * m) ts)) (some (nD r))) = .ok (.nx (EO S p t far again total number m (some (webD (2 * m) ts)) (some (nD r)))) := by
    refine ite_no (ev_or1 (ev_nt (ev_call2 b1 rfl ev_c rfl same0)) (ev_or1 (ev_cmp1 w0 (twom _ _) (c := false) (by rw [ne_int]; simp)) (ev_or0 ?_)))
    exact ev_cmp1 (ev_bi1 w1 (y := .int m) (by simp only [biD, hlen])) (ev_v (x := .int m) rfl) (by rw [ne_int]; simp)
  have lcf : ∀ (f : Tie → Nat) (j : Int), (∀ u : Tie, ixD (tieD u) (.int j) = some (nD (f u))) → ev L.glD cf11 (.lc [11] (.ix (.v 11) (.c (.int j))) (.v 11) (.seq (.ix (.v 4) (.c (.int 1)))) none []) (EO S p t far again total number m (some (webD (2 * m) ts)) (some (nD r))) = .ok (.lst true ((ts.map f).map nD), EO S p t far again total number m (some (webD (2 * m) ts)) (some (nD r))) := fun f j hf => by
    have e := ev_lcP (gl := L.glD) (cf := cf11) (i := 11) (elt := .ix (.v 11) (.c (.int j))) (it := .seq (.ix (.v 4) (.c (.int 1)))) (env := EO S p t far again total number m (some (webD (2 * m) ts)) (some (nD r))) (xs := ts.map tieD) (g := fun x => (ixD x (.int j)).getD .non) (o := none)
      (by
        simp only [evJ, w1, Mi.Res.bind, seqI]) (by rw [hlen]; omega) rfl (fun d z => by cases z) (fun x hx => by
        obtain ⟨u, _, rfl⟩ := List.mem_map.mp hx
        refine ev_ix (ev_v (x := tieD u) rfl) ev_c ?_
        rw [hf]
        rfl) (.inl rfl)
    rw [e, List.map_map, List.map_map]
    congr 3
    apply List.map_congr_left
    intro u _
    show ((ixD (tieD u) (.int j)).getD .non).fz = nD (f u)
    rw [hf]
    rfl
  have l0 := lcf (·.1) 0 (fun u => rfl)
  have l1 := lcf (·.2) 1 (fun u => rfl)
  have hrg : rngOk 0 ((2 * m : Nat) : Int) = true := rngOk_nat (by omega)
  have l2 : ev L.glD cf11 (.lc [10] (.v 10) (.v 10) (.rng [.bin .mul (.c (.int 2)) (.v 6)]) none []) (EO S p t far again total number m (some (webD (2 * m) ts)) (some (nD r))) = .ok (.lst true ((List.range (2 * m)).map nD), EO S p t far again total number m (some (webD (2 * m) ts)) (some (nD r))) := by
    have e := ev_lcP (gl := L.glD) (cf := cf11) (i := 10) (elt := .v 10) (it := .rng [.bin .mul (.c (.int 2)) (.v 6)]) (env := EO S p t far again total number m (some (webD (2 * m) ts)) (some (nD r))) (xs := (List.range (2 * m)).map nD) (g := fun x => x) (o := none)
      (by
        simp only [evJ, evb, twom, Mi.Res.bind, rngD, hrg, if_true, Int.toNat_natCast, rangeD0]) (by simp; omega) rfl (fun d z => by cases z) (fun x hx => ev_v rfl) (.inr fun x hx => by
        obtain ⟨a, _, rfl⟩ := List.mem_map.mp hx
        rfl)
    rw [e, List.map_map]
    rfl
  have s2 : ex L.glD cf11 (st ownB 2) (EO S p t far again total number m (some (webD (2 * m) ts)) (some (nD r))) = .ok (.nx (EO S p t far again total number m (some (webD (2 * m) ts)) (some (nD r)))) := by
    refine ite_no (ev_cmp1 (ev_bi1 (ev_bin l0 l1 (add_lst ?_)) (y := .lst true ((List.range (2 * m)).map nD)) ?_) l2 (ne_self (n := 60) (okN_nats 59 _ _)))
    · simp only [List.length_map] at hlen ⊢
      omega
    · rw [← List.map_append]
      exact so2
  have s3 : ex L.glD cf11 (st ownB 3) (EO S p t far again total number m (some (webD (2 * m) ts)) (some (nD r))) = .ok (.nx (EO S p t far again total number m (some (webD (2 * m) ts)) (some (nD r)))) := by
    refine ite_no (ev_or1 (ev_cmp1 (ev_bi1 w1 (y := .lst true (ts.map tieD)) rfl) (ev_bi1 w1 so1) (ne_self (n := 60) (okN_ties 58 _ _))) (ev_or0 ?_))
    exact ev_nt (ev_call2 b2 rfl (ev_v (x := nD r) rfl) rfl same1)
  have s4 : ex L.glD cf11 (st ownB 4) (EO S p t far again total number m (some (webD (2 * m) ts)) (some (nD r))) = .ok (.nx (EO S p t far again total number m (some (webD (2 * m) ts)) (some (nD r)))) := by
    refine ite_no (ev_nt (ev_call2 (ev_call1 (ev_tup2 w0 rfl (y := .tup (ts.reverse.map tieD)) ?_ rfl) rfl num1) rfl (ev_v (x := nD r) rfl) rfl same1))
    rw [ev, w1, List.map_reverse]
    rfl
  rw [ownB_eq, exs_nx s0, exs_nx s1, exs_nx s2, exs_nx s3, exs_nx s4]
  rfl

abbrev T12 (S p : Option Mi.D) (t far m total number : Option Mi.D) : Env := [S, p, t, far, none, none, m, total, number, none, none, none]
theorem told23 (z : Int) : cf11 23 [.tex 2 [.int z]] = .ok (.int z, []) := rfl
theorem told24 : cf11 24 [.tex 3 [], .str [78, 111, 116, 77, 97, 116, 99, 104, 101, 100]] = .ok (.bl true, []) := rfl
theorem no_match : cf11 13 [.tup [.int 1, .tup []]] = .exc 3 [] := by kernel_rfl
theorem turn_ok {cs : List Int} {p : Mi.D} (S : Option Mi.D) (hp : IsPot cs p) {t : Int} (ht : 0 ≤ t) : ∃ p', ((Mi.Res.of (asg (.v 2) (.int t) (T12 S (some p) none none none none none))).bind fun e2 => (exs L.glD cf11 lawB e2).bind fun f => .ok (f.kill [2, 3, 4, 6, 7, 8, 9])) = .ok (.nx (T12 S (some p') none none none none none)) ∧ IsPot cs p' := by
  have dr : Draws cf11 cs 15 := draws (n := 10) rfl
  have c2 : ∀ q, ev L.glD cf11 (.cmp (.v 2) [.eq] [.c (.int 0)]) (T12 S q (some (.int t)) none none none none) = .ok (.bl (decide (t = 0)), T12 S q (some (.int t)) none none none none) := fun q => ev_cmp1 (ev_v (x := .int t) rfl) ev_c (by simp [cmpD, eqI])
  obtain ⟨m, p1, s0, hp1, hm⟩ : ∃ (m : Nat) (p1 : Mi.D), ex L.glD cf11 (st lawB 0) (T12 S (some p) (some (.int t)) none none none none) = .ok (.nx (T12 S (some p1) (some (.int t)) none (some (.int m)) none none)) ∧ IsPot cs p1 ∧ m ≤ 30 := by
    by_cases h : t = 0
    · obtain ⟨m, p1, a, b, c⟩ := draws_pos dr (m := 5) hp (by omega) (by omega)
      have a : cf11 15 [p, .int 5] = .ok (.int m, [p1]) := a
      refine ⟨m, p1, ?_, b, by omega⟩
      exact ex_setv (i := 6) (e1 := T12 S (some p1) (some (.int t)) none none none none) (ev_ifT (by rw [c2, decide_eq_true h]) (ev_drawE ev_c rfl a)) (.inl rfl)
    · obtain ⟨m, p1, a, b, c⟩ := draws_pos dr (m := 31) hp (by omega) (by omega)
      have a : cf11 15 [p, .int 31] = .ok (.int m, [p1]) := a
      refine ⟨m, p1, ?_, b, by omega⟩
      exact ex_setv (i := 6) (e1 := T12 S (some p1) (some (.int t)) none none none none) (ev_ifF (by rw [c2, decide_eq_false h]) (ev_drawE ev_c rfl a)) (.inl rfl)
  have s1 : ex L.glD cf11 (st lawB 1) (T12 S (some p1) (some (.int t)) none (some (.int m)) none none) = .ok (.nx (T12 S (some p1) (some (.int t)) none (some (.int m)) (some (.int (od m))) none)) := by
    have := @run_total2 L.glD L.P 10 21 rfl m (by omega)
    exact ex_setv (i := 7) (e1 := T12 S (some p1) (some (.int t)) none (some (.int m)) none none) (ev_call1 (ev_v (x := .int m) rfl) rfl this) (.inl rfl)
  have s2 : ex L.glD cf11 (st lawB 2) (T12 S (some p1) (some (.int t)) none (some (.int m)) (some (.int (od m))) none) = .ok (.nx (T12 S (some p1) (some (.int t)) none (some (.int m)) (some (.int (od m))) none)) :=
    ite_no (ev_nt (ev_call2 (ev_call1 (ev_v (x := .int m) rfl) rfl (a_total hm)) rfl (ev_v (x := .int (od m)) rfl) rfl (a_same (.int 10 (od m)))))
  obtain ⟨r, p4, s3, hp4, hr⟩ : ∃ (r : Nat) (p4 : Mi.D), ex L.glD cf11 (st lawB 3) (T12 S (some p1) (some (.int t)) none (some (.int m)) (some (.int (od m))) none) = .ok (.nx (T12 S (some p4) (some (.int t)) none (some (.int m)) (some (.int (od m))) (some (.int r)))) ∧ IsPot cs p4 ∧ r < odN m := by
    obtain ⟨a, p2, a1, b1, c1, _⟩ := dr p1 1000000000000000000000000000000 hp1 (by decide)
    obtain ⟨b, p3, a2, b2, c2, _⟩ := dr p2 1000000000 b1 (by decide)
    obtain ⟨c, p4, a3, b3, c3, _⟩ := dr p3 1000000 b2 (by decide)
    have c2 := c2 (by omega)
    have hpos := od_pos m
    have h0 := Int.emod_nonneg ((a : Int) * (1 + (b : Int)) + c) (show od m ≠ 0 by omega)
    have h1 := Int.emod_lt_of_pos ((a : Int) * (1 + (b : Int)) + c) hpos
    obtain ⟨r, hr⟩ := Int.eq_ofNat_of_zero_le h0
    refine ⟨r, p4, ?_, b3, ?_⟩
    · have sm : smallI (1 + (b : Int)) = true := by
        unfold smallI big
        simp only [Bool.and_eq_true, decide_eq_true_eq]
        omega
      refine ex_setv (i := 8) (e1 := T12 S (some p4) (some (.int t)) none (some (.int m)) (some (.int (od m))) none) (ev_bin (x := .int ((a : Int) * (1 + (b : Int)) + c)) (y := .int (od m)) (e1 := T12 S (some p4) (some (.int t)) none (some (.int m)) (some (.int (od m))) none) (ev_bi1 (x := .int ((a : Int) * (1 + (b : Int)) + c)) ?_ rfl) (ev_v rfl) ?_) (.inl rfl)
      · refine ev_bin (x := .int ((a : Int) * (1 + (b : Int)))) (e1 := T12 S (some p3) (some (.int t)) none (some (.int m)) (some (.int (od m))) none) (y := .int c) ?_ (ev_drawE (ev_bin ev_c ev_c lit6) rfl a3) rfl
        refine ev_bin (x := .int a) (e1 := T12 S (some p2) (some (.int t)) none (some (.int m)) (some (.int (od m))) none) (y := .int (1 + (b : Int))) (ev_drawE (ev_bin ev_c ev_c lit30) rfl a1) (ev_bin (x := .int 1) ev_c (ev_drawE (ev_bin ev_c ev_c lit9) rfl a2) rfl) ?_
        simp only [binD, sm, Bool.or_true, if_true]
      · simp only [binD]
        rw [if_pos hpos, hr] <;> rfl
    · have : ((r : Nat) : Int) < od m := by rw [← hr]; exact h1
      rw [← od_cast] at this
      omega
  have e8 : ∀ o, ev L.glD cf11 (.v 8) (T12 S (some p4) (some (.int t)) o (some (.int m)) (some (.int (od m))) (some (.int r))) = .ok (.int r, T12 S (some p4) (some (.int t)) o (some (.int m)) (some (.int (od m))) (some (.int r))) := fun o => rfl
  have e81 : ∀ o, ev L.glD cf11 (.bin .sub (.v 8) (.c (.int 1))) (T12 S (some p4) (some (.int t)) o (some (.int m)) (some (.int (od m))) (some (.int r))) = .ok (.int ((r : Int) - 1), T12 S (some p4) (some (.int t)) o (some (.int m)) (some (.int (od m))) (some (.int r))) := fun o => ev_bin (e8 o) ev_c rfl
  have s4 : ex L.glD cf11 (st lawB 4) (T12 S (some p4) (some (.int t)) none (some (.int m)) (some (.int (od m))) (some (.int r))) = .ok (.nx (T12 S (some p4) (some (.int t)) none (some (.int m)) (some (.int (od m))) (some (.int r)))) := by
    have hi : evI L.glD cf11 (.seq (.lst [.v 8, .c (.int 0), .bin .sub (.v 7) (.c (.int 1)), .bi .max2 [.bin .sub (.v 8) (.c (.int 1)), .c (.int 0)]])) (T12 S (some p4) (some (.int t)) none (some (.int m)) (some (.int (od m))) (some (.int r))) = .ok ([r, 0, odN m - 1, r - 1].map nD, T12 S (some p4) (some (.int t)) none (some (.int m)) (some (.int (od m))) (some (.int r))) := by
      have hod := odN_pos m
      refine evI_seq (x := .lst true ([r, 0, odN m - 1, r - 1].map nD)) (ev_lst (evs_cons (e8 none) rfl (evs_cons ev_c rfl (evs_cons (ev_bin (x := .int (od m)) (y := .int 1) (ev_v rfl) ev_c ?_) rfl (evs_cons (ev_bi2 (e81 none) ev_c ?_) rfl evs_nil))))) rfl rfl
      · rw [← od_cast]
        simp only [binD]
        congr 2 <;> omega
      · simp only [biD]
        congr 2
        split <;> omega
    have hf := (forL_fold (f := fun x e => (Mi.Res.of (asg (.v 9) x e)).bind fun e2 => (exs L.glD cf11 ownB e2).bind fun f => .ok (f.kill [4, 9])) (enc := nD) (st := fun _ : Unit => EO S (some p4) (some (.int t)) none none (some (.int (od m))) (some (.int r)) m none none) (step := fun b _ => b) (I := fun _ => True) (xs := [r, 0, odN m - 1, r - 1]) (b := ()) (fun x hx _ _ => by
      refine ⟨own_step _ _ _ _ _ _ _ hm ?_, trivial⟩
      have := odN_pos m
      simp only [List.mem_cons, List.not_mem_nil, or_false] at hx
      omega) trivial).1
    show ex L.glD cf11 (.for (.v 9) (.seq (.lst [.v 8, .c (.int 0), .bin .sub (.v 7) (.c (.int 1)), .bi .max2 [.bin .sub (.v 8) (.c (.int 1)), .c (.int 0)]])) ownB [4, 9]) _ = _
    rw [ex_for hi]
    exact hf
  have s5 : ex L.glD cf11 (st lawB 5) (T12 S (some p4) (some (.int t)) none (some (.int m)) (some (.int (od m))) (some (.int r))) = .ok (.nx (T12 S (some p4) (some (.int t)) none (some (.int m)) (some (.int (od m))) (some (.int r)))) := by
    by_cases h0 : r = 0
    · refine ite_no (ev_andF (ev_cmp1 (e8 _) ev_c ?_))
      simp only [cmpD]
      rw [decide_eq_false (by omega)]
    · refine ite_no (ev_and1 (ev_cmp1 (e8 _) ev_c (c := true) ?_) (ev_and0 (ev_nt (b := true) ?_)))
      · simp only [cmpD]
        rw [decide_eq_true (by omega)]
      · have a1 := a_at hm (r := r - 1) (by omega)
        have a2 := a_at hm hr
        have w1 := mat_web (n := m) (r := r - 1) (by omega)
        have w2 := mat_web hr
        have l1 := a_lpar w1 hm
        have l2 := a_lpar w2 hm
        have e1 : ((r - 1 : Nat) : Int) = (r : Int) - 1 := by omega
        rw [e1] at a1
        refine ev_cmp1 (ev_call1 (ev_call2 (ev_v (x := .int m) rfl) rfl (e81 none) rfl a1) rfl l1) (ev_call1 (ev_call2 (ev_v (x := .int m) rfl) rfl (e8 none) rfl a2) rfl l2) ?_
        obtain ⟨p, h1, h2, h3⟩ := mat_lex m (r - 1) r (List.range (2 * m)) (by simp) (by omega) hr List.pairwise_lt_range w1.pars.2.1 w2.pars.2.1
        have h1 := List.mem_range.mp h1
        have := ltDs_nat _ _ p (w1.pars.1.trans w2.pars.1.symm) (by rw [w1.pars.1]; exact h1) (fun x hx => h3 x (List.mem_range.mpr (by omega)) hx) h2
        simp only [cmpD, ints_nat, Bool.and_self, if_true, this]
  obtain ⟨k, p5, d1, hp5, _⟩ := draws_pos dr (m := 50) hp4 (by omega) (by omega)
  have d1 : cf11 15 [p4, .int 50] = .ok (.int k, [p5]) := d1
  have s6 : ex L.glD cf11 (st lawB 6) (T12 S (some p4) (some (.int t)) none (some (.int m)) (some (.int (od m))) (some (.int r))) = .ok (.nx (T12 S (some p5) (some (.int t)) (some (.int (od m + k))) (some (.int m)) (some (.int (od m))) (some (.int r)))) := by
    refine ex_setv (i := 3) (e1 := T12 S (some p5) (some (.int t)) none (some (.int m)) (some (.int (od m))) (some (.int r))) (ev_bin (x := .int (od m)) (e1 := T12 S (some p4) (some (.int t)) none (some (.int m)) (some (.int (od m))) (some (.int r))) rfl (ev_drawE ev_c rfl d1) rfl) (.inl rfl)
  generalize hE : T12 S (some p5) (some (.int t)) (some (.int (od m + k))) (some (.int m)) (some (.int (od m))) (some (.int r)) = env at s6
  have v6 : ev L.glD cf11 (.v 6) (fzE env) = .ok (.int m, fzE env) := by rw [← hE]; rfl
  have v3 : ev L.glD cf11 (.v 3) (fzE env) = .ok (.int (od m + k), fzE env) := by rw [← hE]; rfl
  have v2 : ev L.glD cf11 (.v 2) (fzE env) = .ok (.int t, fzE env) := by rw [← hE]; rfl
  have v3' : ev L.glD cf11 (.v 3) env = .ok (.int (od m + k), env) := by rw [← hE]; rfl
  have v2' : ev L.glD cf11 (.v 2) env = .ok (.int t, env) := by rw [← hE]; rfl
  have far : ∀ z : Int, ¬ (0 ≤ z ∧ z < od m) → cf11 12 [.int m, .int z] = .exc 2 [.int z] := fun z hz => run_matchedAt_far (n := 8) (need := 9) (w := 0) (tot := 10) (x := 2) (g := 2) rfl rfl rfl rfl rfl hm hz
  have nonr : cf11 12 [.int m, .non] = .exc 2 [.int (-1)] := run_matchedAt_non (n := 8) (need := 9) (w := 0) (tot := 10) (x := 2) (g := 2) rfl rfl rfl rfl hm
  have s7 : ex L.glD cf11 (st lawB 7) env = .ok (.nx env) :=
    ite_no (ev_cmp1 (ev_lamX (ev_call2X v6 rfl v3 rfl (far _ (by omega))) evs_nil (told23 _)) v3' (by rw [ne_int]; simp))
  have m1 : ∀ e, ev L.glD cf11 (.neg (.c (.int 1))) e = .ok (.int (-1), e) := fun e => ev_neg ev_c
  have m1t : ∀ e, ev L.glD cf11 (.v 2) e = .ok (.int t, e) → ev L.glD cf11 (.bin .sub (.neg (.c (.int 1))) (.v 2)) e = .ok (.int (-1 - t), e) := fun e h => ev_bin (m1 e) h rfl
  have s8 : ex L.glD cf11 (st lawB 8) env = .ok (.nx env) :=
    ite_no (ev_cmp1 (ev_lamX (ev_call2X v6 rfl (m1t _ v2) rfl (far _ (by omega))) evs_nil (told23 _)) (m1t _ v2') (by rw [ne_int]; simp))
  have s9 : ex L.glD cf11 (st lawB 9) env = .ok (.nx env) :=
    ite_no (ev_cmp1 (ev_lamX (ev_call2X v6 rfl ev_c rfl nonr) evs_nil (told23 _)) (m1 _) (by rw [ne_int]; rfl))
  have s10 : ex L.glD cf11 (st lawB 10) env = .ok (.nx env) :=
    ite_no (ev_nt (b := true) (ev_lamX (ev_call1X (ev_tup2 ev_c rfl (ev_tupE evs_nil) rfl) rfl no_match) (evs_cons ev_c rfl evs_nil) told24))
  refine ⟨p5, ?_, hp5⟩
  show ((exs L.glD cf11 lawB (T12 S (some p) (some (.int t)) none none none none)).bind fun f => Mi.Res.ok (f.kill [2, 3, 4, 6, 7, 8, 9])) = _
  rw [lawB_eq, exs_nx s0, exs_nx s1, exs_nx s2, exs_nx s3, exs_nx s4, exs_nx s5, exs_nx s6, exs_nx s7, exs_nx s8, exs_nx s9, exs_nx s10, ← hE]
  rfl
def lst (k : Nat) : Mi.S := f_law.body.getD k .pas
theorem body_eq : f_law.body = [lst 0, lst 1, lst 2, lst 3, lst 4, lst 5, lst 6, lst 7, lst 8] := rfl
theorem all3 (S p : Option Mi.D) : ex L.glD cf11 (lst 2) (T12 S p none none none none none) = .ok (.nx (T12 S p none none none none none)) := by kernel_rfl
theorem law_pure (ns : List Int) : Mi.runF L.glD L.P 12 lawIx [.scr ns] = .ok (.bl true, []) := by
  rw [show lawIx = 22 from rfl, runF_eq (fn := f_law) rfl rfl]
  have p0 := run_pot (gl := L.glD) (P := L.P) (n := 10) (f := 14) rfl ns
  generalize (ns.take 63).map absI = cs at p0
  have hp0 := isPot0 cs
  generalize potD cs 0 20011 0 = p at p0 hp0
  have dr : Draws cf11 cs 15 := draws (n := 10) rfl
  have s0 : ex L.glD cf11 (lst 0) (envF f_law [.scr ns]) = .ok (.nx (T12 (some (.scr ns)) (some p) none none none none none)) := 
    ex_setv (i := 1) (e1 := envF f_law [.scr ns]) (ev_call1 (x := .scr ns) (ev_v rfl) rfl p0) (.inl rfl)
  obtain ⟨p1, t1, hp1⟩ := turn_ok (some (.scr ns)) hp0 (t := 0) (by omega)
  obtain ⟨p2, t2, hp2⟩ := turn_ok (some (.scr ns)) hp1 (t := 1) (by omega)
  obtain ⟨p3, t3, hp3⟩ := turn_ok (some (.scr ns)) hp2 (t := 2) (by omega)
  have s1 : ex L.glD cf11 (lst 1) (T12 (some (.scr ns)) (some p) none none none none none) = .ok (.nx (T12 (some (.scr ns)) (some p3) none none none none none)) := by
    show ex L.glD cf11 (.for (.v 2) (.rng [.c (.int 3)]) lawB [2, 3, 4, 6, 7, 8, 9]) _ = _
    rw [ex_for (r := [.int 0, .int 1, .int 2]) (e1 := T12 (some (.scr ns)) (some p) none none none none none) rfl, forL_nx t1, forL_nx t2, forL_nx t3]
    rfl
  have s2 := all3 (some (.scr ns)) (some p3)
  obtain ⟨k, p4, a1, hp4, _⟩ := dr p3 1000000000 hp3 (by decide)
  have s3 : ex L.glD cf11 (lst 3) (T12 (some (.scr ns)) (some p3) none none none none none) = .ok (.nx (T12 (some (.scr ns)) (some p4) none (some (.int (31 + (k : Int)))) none none none)) :=
    ex_setv (i := 3) (e1 := T12 (some (.scr ns)) (some p4) none none none none none) (ev_bin (x := .int 31) ev_c (ev_drawE (ev_bin ev_c ev_c lit9) rfl a1) rfl) (.inl rfl)
  have s4 : ex L.glD cf11 (lst 4) (T12 (some (.scr ns)) (some p4) none (some (.int (31 + (k : Int)))) none none none) = .ok (.nx (T12 (some (.scr ns)) (some p4) none (some (.int (31 + (k : Int)))) none none none)) :=
    ite_no (ev_cmp1 (ev_lamX (ev_call1X (x := .int (31 + (k : Int))) (ev_v rfl) rfl (a_far (by omega))) evs_nil (told23 _)) (ev_v (x := .int (31 + (k : Int))) rfl) (by rw [ne_int]; simp))
  have s5 : ex L.glD cf11 (lst 5) (T12 (some (.scr ns)) (some p4) none (some (.int (31 + (k : Int)))) none none none) = .ok (.nx (T12 (some (.scr ns)) (some p4) none (some (.int (31 + (k : Int)))) none none none)) :=
    ite_no (ev_cmp1 (ev_lamX (ev_call2X (x := .int (31 + (k : Int))) (ev_v rfl) rfl ev_c rfl (run_matchedAt_big (n := 8) (need := 9) (w := 0) (tot := 10) (x := 2) (g := 2) rfl rfl rfl rfl (by omega) rfl rfl)) evs_nil (told23 _)) (ev_v (x := .int (31 + (k : Int))) rfl) (by rw [ne_int]; simp))
  obtain ⟨m, ts, p5, a2, hp5, hm, hw⟩ := run_lawMatched (gl := L.glD) (P := L.P) (n := 8) (d := 15) (q := 16) (f := 18) rfl rfl rfl hp4 (most := 9) (by omega)
  have a2 : cf11 18 [p4, .int 9] = .ok (webD (2 * m) ts, [p5]) := a2
  have hm : m ≤ 30 := by omega
  have s6 : ex L.glD cf11 (lst 6) (T12 (some (.scr ns)) (some p4) none (some (.int (31 + (k : Int)))) none none none) = .ok (.nx [some (.scr ns), some p5, none, some (.int (31 + (k : Int))), some (webD (2 * m) ts), none, none, none, none, none, none, none]) := by
    refine ex_setv (i := 4) (e1 := T12 (some (.scr ns)) (some p5) none (some (.int (31 + (k : Int)))) none none none) ?_ (.inl rfl)
    simp [ev, evs, getV, Res.bind, keep, vw, fz_int, fillIo, a2, putIo, setV]
  have hn := a_num hw hm
  obtain ⟨hlt, hag⟩ := num_ok (V := VV m ts) m (List.range (2 * m)) (by simp) List.nodup_range hw.pars.2.2
  have hat := a_at hm hlt
  have hw2 := mat_web hlt
  have hso := (mat_sorted m _ (List.range (2 * m)) (by simp) hlt List.pairwise_lt_range).1
  have hag2 : Ag (VV m ts) (mat m (num (VV m ts) m (List.range (2 * m))) (List.range (2 * m))) := fun t ht => by
    have h1 := hag t ht
    refine ⟨h1, ?_⟩
    have h2 := hw.pars.2.2 t.1 (hw2.perm.subset (mem_ends ht).1)
    have h3 : VV m ts (VV m ts t.1) = t.1 := h2.2.2
    rw [h1] at h3
    exact h3
  generalize mat m (num (VV m ts) m (List.range (2 * m))) (List.range (2 * m)) = us at hat hw2 hso hag2
  generalize num (VV m ts) m (List.range (2 * m)) = r at hn hat
  have hpm : ts.Perm us := (List.perm_ext_iff_of_nodup (nodup_of_ends hw.nd) (nodup_of_ends hw2.nd)).mpr fun t =>
    ⟨fun ht => ties_sub hw.pars.2.1 hag2 hw.lt hw2.lt (fun x hx => hw2.perm.symm.subset (hw.perm.subset hx)) ht,
     fun ht => ties_sub hag2 hw.pars.2.1 hw2.lt hw.lt (fun x hx => hw.perm.symm.subset (hw2.perm.subset hx)) ht⟩
  generalize hE : ([some (.scr ns), some p5, none, some (.int (31 + (k : Int))), some (webD (2 * m) ts), none, none, none, none, none, none, none] : Env) = env at s6
  have v4 : ev L.glD cf11 (.v 4) env = .ok (webD (2 * m) ts, env) := by rw [← hE]; rfl
  have w0 : ev L.glD cf11 (.ix (.v 4) (.c (.int 0))) env = .ok (.int (2 * m : Nat), env) := ev_ix v4 ev_c rfl
  have w1 : ev L.glD cf11 (.ix (.v 4) (.c (.int 1))) env = .ok (.tup (ts.map tieD), env) := ev_ix v4 ev_c rfl
  have s7 : ex L.glD cf11 (lst 7) env = .ok (.nx (setV env 5 (webD (2 * m) us))) := by
    refine ex_setv (i := 5) (e1 := env) (ev_call2 (ev_bi1 w1 (y := .int m) ?_) rfl (ev_call1 v4 rfl hn) rfl hat) (.inl rfl)
    simp [biD, hw.len]
  have s8 : ex L.glD cf11 (lst 8) (setV env 5 (webD (2 * m) us)) = .ok (.ret (.bl true) (setV env 5 (webD (2 * m) us))) := by
    have v5 : ev L.glD cf11 (.v 5) (setV env 5 (webD (2 * m) us)) = .ok (webD (2 * m) us, setV env 5 (webD (2 * m) us)) := by rw [← hE]; rfl
    have v4 : ev L.glD cf11 (.v 4) (setV env 5 (webD (2 * m) us)) = .ok (webD (2 * m) ts, setV env 5 (webD (2 * m) us)) := by rw [← hE]; rfl
    have h1 : ev L.glD cf11 (.tup [.ix (.v 4) (.c (.int 0)), .bi .tuple [.bi .sorted [.ix (.v 4) (.c (.int 1))]]]) (setV env 5 (webD (2 * m) us)) = .ok (webD (2 * m) us, setV env 5 (webD (2 * m) us)) :=
      ev_tup2 (ev_ix v4 ev_c (z := .int (2 * m : Nat)) rfl) rfl (ev_bi1 (ev_bi1 (ev_ix v4 ev_c (z := .tup (ts.map tieD)) rfl) (sorted_ties (o := false) hpm hso (by rw [hw.len]; omega))) (y := .tup (us.map tieD)) rfl) rfl
    have h2 := ev_call2 (f := 17) v5 rfl h1 rfl (a_same (flat_web 7 (2 * m) us (by rw [hw2.len]; omega)))
    show ex L.glD cf11 (.ret (.call 17 [.v 5, .tup [.ix (.v 4) (.c (.int 0)), .bi .tuple [.bi .sorted [.ix (.v 4) (.c (.int 1))]]]])) _ = _
    rw [ex, h2]
    rfl
  rw [body_eq, exs_nx s0, exs_nx s1, exs_nx s2, exs_nx s3, exs_nx s4, exs_nx s5, exs_nx s6, exs_nx s7, exs_rt s8]
  rfl
end k33
open PySem PySem.W PySem.Calls PyProof.Rows
theorem PySem.Challenge.cw_pagesforties_k33_matched_webs_numbered_w_holds : PySem.Challenge.rw_pagesforties_k33_matched_webs_numbered_w.Holds := by
  w_on; o_law
  refine HandSHeadRun.head_any (r := k33.R) (q := view k33.R.prog [k33.lawTop]) (H := k33.hk) (ob := k33.ob) (M := 4000) (loose := k33.tops) (d := HandSHeadRun.topDef k33.R.prog k33.lawTop) (kwd := []) k33.ob_eq
    (by kernel_rfl) (fun s => by kernel_rfl) k33.run (by kernel_rfl) (by kernel_rfl) (by kernel_rfl) (by rfl) (by first | assumption | decide +kernel) (by decide +kernel) ⟨rfl, rfl, rfl, rfl, rfl, by decide +kernel⟩ ?hw ?hc
  case hw => w_witness2
  case hc =>
    refine LamX.walk_ofTsE (l := PySem.Challenge.rw_pagesforties_k33_matched_webs_numbered_w) (n := 63) (k := 60) (x := "script") (CX := fun w => L2.CX PySem.Challenge.rw_pagesforties_k33_matched_webs_numbered_w.prog w) rfl (by decide) (by kernel_rfl) ⟨rfl, by decide, by decide⟩ ?F (fun w H s e s' z => MiS.cx_end H s e s' z)
    intro w mg fa h Y G hmg0
    have hmg : mg ("law" : PySem.Str) = some (.ref fa) := by
      have e : (HandSHeadRun.topDef k33.R.prog k33.lawTop).name = ("law" : PySem.Str) := by kernel_rfl
      rw [← e]
      exact hmg0
    exact MiS.law_at (L := k33.L) (li := k33.lawIx) (n := 12) k33.ok k33.binds k33.looks rfl (by decide) rfl rfl rfl (by decide) (fun ns _ _ => ⟨[], k33.law_pure ns⟩) Y G hmg
