import PyProof.Rows.All
import Wide.All
import OpenK.AllK
import Wide.FinOn
import HandS.Base
import HandS.Call
import HandS.List
import HandS.Iter
import HandS.Zip
import HandS.TupLe
import HandS.TupAny
import HandS.Style
import KE.GoesMore
import KE.GoesEnum
import HandS.ForMost
import HandS.Wide
import HandS.Gcd
import HandS.IsInst
import HandS.Deep
import HandS.Rev
import HandS.RevRange
import HandS.More
import HandS.TupMul
import HandS.SortInts
import HandS.TupSets
import HandS.Sort
import HandS.Flow
import PySem.Challenge.RW_hullrests_k05_whole_sections_and_polygon
set_option Elab.async false
set_option linter.all false
set_option autoImplicit false
set_option maxRecDepth 100000
/-! PLang: a small language for what defs of intsOf, texts, tuples and lists reckon, and its evaluation in Option. -/
namespace Pl
open PySem (PyData Str)

abbrev D := PyData
/-- the content of the one list that a def may change for its caller -/
abbrev U := List Int

inductive BOp where | add | sub | mul | fdiv | mod | pow
  deriving DecidableEq, Repr
inductive COp where | eq | ne | lt | le | gt | ge | isin | notin | isN | notN
  deriving DecidableEq, Repr
inductive BI where
  | len | abs | int | tuple | list | all | any | sum | max2 | min2 | divmod | gcd | repr | isInt | isBool | isTuple | isList | isStr | sorted | sortedSet | max1 | min1
  deriving DecidableEq, Repr
inductive Tg where
  | one (i : Nat) | many (is : List Nat)
  deriving DecidableEq, Repr
/-- an unpacking target: a name, or a place of the lent list -/
inductive Tu where
  | nm (i : Nat) | pl (k : Nat)
  deriving DecidableEq, Repr

mutual
inductive E where
  | var (i : Nat)
  | lit (d : PySem.Const)
  | glob (x : String)
  | neg (a : E) | not (a : E)
  | bin (o : BOp) (a b : E)
  | cmp (o : COp) (a b : E)
  | chain (o1 o2 : COp) (a b c : E)
  | and (a b : E) | or (a b : E)
  | ite (c a b : E)
  | tup (es : Es) | lst (es : Es) | rep (es : Es) (n : E)
  | idx (a i : E) | sli (a : E) (lo hi : Eo) | rev (a : E) | rvt (a : E)
  | uidx (k : E)
  | call (f : String) (es : Es) (perm : List Nat)
  | ucall (f : String) (es : Es)
  | ncall (f : String) (a : E) (es : Es)
  | bi (b : BI) (es : Es)
  | comp (elt : E) (t : Tg) (it : I) (cond : Eo) (own : List Nat)
  | dict0
  | trng (a b : E)
inductive Es where
  | nil | cons (e : E) (es : Es)
inductive Eo where
  | no | yes (e : E)
inductive I where
  | seq (e : E) | range1 (a : E) | range2 (a b : E) | range3 (a b c : E) | revRange1 (a : E) | enum (e : E) | zip (a b : E) | zip3 (a b c : E) | rev (e : E)
end

mutual
inductive S where
  | set (i : Nat) (e : E)
  | set2 (i j : Nat) (e : E)
  | par (is : List Nat) (es : Es)
  | unp (ts : List Tu) (e : E)
  | setI (i : Nat) (k : E) (e : E)
  | setU (k : E) (e : E)
  | app (i : Nat) (e : E) | pop (i : Nat) | ins (i : Nat) (k e : E)
  | drop (e : E)
  | ite (c : E) (a b : Ss)
  | whil (c : E) (b : Ss)
  | for_ (t : Tg) (it : I) (b : Ss)
  | ret (e : E) | retF (e : E) | brk | cont | pass | raise
inductive Ss where
  | nil | cons (s : S) (ss : Ss)
end
structure PFun where
  np : Nat
  ns : Nat
  urn : Bool
  fresh : Bool
  body : Ss

inductive Slot where
  | no | imm (d : D) | own (ds : List D)
abbrev Env := List Slot

/-! ### values -/
mutual
@[simp] def noList : D → Bool
  | .none | .bool _ | .int _ | .str _ => true
  | .list _ => false
  | .tuple xs => noListAll xs
  | .dict _ => false
@[simp] def noListAll : List D → Bool
  | [] => true
  | x :: xs => noList x && noListAll xs
end
@[simp] def isDict : D → Bool | .dict _ => true | _ => false
@[simp] def isL : D → Bool | .list _ => true | _ => false
@[simp] def items : D → Option (List D) | .list xs => some xs | .tuple xs => some xs | _ => none
@[simp] def listOf : D → Option (List D) | .list xs => some xs | _ => none
@[simp] def intsOf : List D → Option (List Int)
  | [] => some []
  | .int i :: r => (intsOf r).map (i :: ·)
  | _ => none
@[simp] def boolsOf : List D → Option (List Bool)
  | [] => some []
  | .bool b :: r => (boolsOf r).map (b :: ·)
  | _ => none
def bigOk (n : Int) (k : Nat) : Bool := decide (n.natAbs < 2 ^ k)

def atI {α : Type} (xs : List α) (i : Int) : Option α := if 0 ≤ i then xs[i.toNat]? else if 0 ≤ i + xs.length then xs[(i + xs.length).toNat]? else none
def ixN (n : Nat) (i : Int) : Option Nat := if 0 ≤ i then (if i < n then some i.toNat else none) else if -(n : Int) ≤ i then some (i + n).toNat else none
def sIx (n d : Nat) : Option Int → Nat
  | none => d
  | some i => if i < 0 then (i + n).toNat else min i.toNat n
def cut {α : Type} (xs : List α) (lo hi : Option Int) : List α := (xs.drop (sIx xs.length 0 lo)).take (sIx xs.length xs.length hi - sIx xs.length 0 lo)
def rangeL (lo hi : Int) : List D := (List.range (hi - lo).toNat).map fun (i : Nat) => PyData.int (lo + (i : Int))
def sizeOk (n : Nat) : Bool := decide (n ≤ 100000)
def intOk (n : Int) : Bool := decide (-(2 ^ 60) ≤ n ∧ n < 2 ^ 60)

@[simp] def rng2 : D → D → Option (List D)
  | .int i, .int j => if intOk i && intOk j then some (rangeL i j) else none
  | _, _ => none

def mulOk (i j : Int) : Bool := decide (i.natAbs.log2 + j.natAbs.log2 < 1000000)
def divOk (j : Int) : Bool := decide (j ≠ 0 ∧ j.natAbs.log2 < 9000)

@[simp] def binV : BOp → D → D → Option D
  | .add, .int i, .int j => some (.int (i + j))
  | .sub, .int i, .int j => some (.int (i - j))
  | .mul, .int i, .int j => if mulOk i j then some (.int (i * j)) else none
  | .fdiv, .int i, .int j => if divOk j then some (.int (Int.fdiv i j)) else none
  | .mod, .int i, .int j => if j = 0 then none else some (.int (Int.fmod i j))
  | .pow, .int i, .int j => if decide (0 ≤ j ∧ j ≤ 1000000 ∧ i.natAbs < 2 ^ 64) then some (.int (i ^ j.toNat)) else none
  | .mul, .tuple a, .int k => if decide (2 ≤ k ∧ k ≤ 1000 ∧ 0 < a.length ∧ a.length ≤ 1000) then some (.tuple (List.replicate k.toNat a).flatten) else none
  | .add, .list a, .list b => if sizeOk (a.length + b.length) then some (.list (a ++ b)) else none
  | .add, .tuple a, .tuple b => if sizeOk (a.length + b.length) then some (.tuple (a ++ b)) else none
  | _, _, _ => none
@[simp] def isNone : D → Bool | .none => true | _ => false
def inV (neg : Bool) (a b : D) : Option Bool := (items b).bind fun xs => if PySem.SeqAt.shaped a && PyData.canLayAll0 xs then some (if neg then !(xs.any fun y => PyData.eqv y a) else xs.any fun y => PyData.eqv y a) else none
def eqD (a b : D) : Option Bool := match a, b with
  | .str x, .str y => some (decide (x = y))
  | a, b => if PySem.SeqAt.shaped a && PySem.SeqAt.shaped b then some (PyData.eqv a b) else none
@[simp] def cmpV : COp → D → D → Option Bool
  | .lt, .int i, .int j => some (decide (i < j))
  | .le, .int i, .int j => some (decide (i ≤ j))
  | .gt, .int i, .int j => some (decide (j < i))
  | .ge, .int i, .int j => some (decide (j ≤ i))
  | .eq, a, b => eqD a b
  | .ne, a, b => (eqD a b).map (!·)
  | .isN, a, .none => some (isNone a)
  | .isN, .bool a, .bool b => some (decide (a = b))
  | .notN, a, .none => some (!isNone a)
  | .notN, .bool a, .bool b => some (!decide (a = b))
  | .isin, a, b => inV false a b
  | .notin, a, b => inV true a b
  | _, _, _ => none
@[simp] def litV : PySem.Const → Option D
  | .none => some .none
  | .bool b => some (.bool b)
  | .int i => some (.int i)
  | .str s => some (.str s)
  | _ => none
@[simp] def idxV : D → D → Option D
  | .list xs, .int i => atI xs i
  | .tuple xs, .int i => atI xs i
  | _, _ => none
@[simp] def sliV : D → Option Int → Option Int → Option D
  | .list xs, lo, hi => some (.list (cut xs lo hi))
  | .tuple xs, lo, hi => some (.tuple (cut xs lo hi))
  | _, _, _ => none
mutual
/-- at least as much as a datum's text is long -/
def cw : D → Nat
  | .none => 4
  | .bool _ => 5
  | .int _ => 1921
  | .str x => (PyData.shown (.str x)).length
  | .list xs => cwAll xs + 2
  | .tuple xs => cwAll xs + 3
  | .dict _ => 0
def cwAll : List D → Nat
  | [] => 0
  | x :: xs => cw x + 2 + cwAll xs
end
/-- pairs of whole numbers, in order, each once -/
def pairsOf : List D → Option (List (Int × Int))
  | [] => some []
  | .tuple [.int x, .int y] :: r => (pairsOf r).map ((x, y) :: ·)
  | _ => none
def ltP (p q : Int × Int) : Bool := decide (p.1 < q.1 ∨ (p.1 = q.1 ∧ p.2 < q.2))
def insP (p : Int × Int) : List (Int × Int) → List (Int × Int)
  | [] => [p]
  | q :: r => if ltP p q then p :: q :: r else if p = q then q :: r else q :: insP p r
def sortP (ps : List (Int × Int)) : List (Int × Int) := ps.foldr insP []
/-- whole numbers in order -/
def insI (x : Int) : List Int → List Int
  | [] => [x]
  | y :: r => if x ≤ y then x :: y :: r else y :: insI x r
def sortI (l : List Int) : List Int := l.foldr insI []
def maxI : List Int → Option Int
  | [] => none
  | x :: r => match maxI r with
    | none => some x
    | some m => some (if m ≤ x then x else m)
def minI : List Int → Option Int
  | [] => none
  | x :: r => match minI r with
    | none => some x
    | some m => some (if x ≤ m then x else m)
@[simp] def biV : BI → List D → Option D
  | .len, [.list xs] => some (.int xs.length)
  | .len, [.tuple xs] => some (.int xs.length)
  | .abs, [.int i] => some (.int (if i < 0 then -i else i))
  | .int, [.int i] => some (.int i)
  | .int, [.bool b] => some (.int (if b then 1 else 0))
  | .tuple, [.list xs] => some (.tuple xs)
  | .tuple, [.tuple xs] => some (.tuple xs)
  | .list, [.list xs] => some (.list xs)
  | .list, [.tuple xs] => some (.list xs)
  | .all, [.list xs] => (boolsOf xs).map fun bs => .bool (bs.all id)
  | .any, [.list xs] => (boolsOf xs).map fun bs => .bool (bs.any id)
  | .sum, [.list xs] => (intsOf xs).map fun ns => .int ns.sum
  | .sorted, [.list xs] => (intsOf xs).map fun ns => .list ((sortI ns).map .int)
  | .max1, [.list xs] => ((intsOf xs).bind maxI).map .int
  | .min1, [.list xs] => ((intsOf xs).bind minI).map .int
  | .max2, [.int i, .int j] => some (.int (if j > i then j else i))
  | .min2, [.int i, .int j] => some (.int (if j < i then j else i))
  | .divmod, [.int i, .int j] => if divOk j then some (.tuple [.int (Int.fdiv i j), .int (Int.fmod i j)]) else none
  | .gcd, [.int i, .int j] => some (.int ((Nat.gcd i.natAbs j.natAbs : Nat) : Int))
  | .repr, [d] => if d.showable && !d.hasDict && decide (d.depth ≤ 60) && decide (cw d ≤ PySem.sizeLine) then some (.str d.shown) else none
  | .isInt, [d] => some (.bool (match d with | .int _ => true | .bool _ => true | _ => false))
  | .isBool, [d] => some (.bool (match d with | .bool _ => true | _ => false))
  | .isTuple, [d] => some (.bool (match d with | .tuple _ => true | _ => false))
  | .isList, [d] => some (.bool (match d with | .list _ => true | _ => false))
  | .isStr, [d] => some (.bool (match d with | .str _ => true | _ => false))
  | .sortedSet, [.list xs] => if xs.length < 64 then (pairsOf xs).map fun ps => .list ((sortP ps).map fun p => .tuple [.int p.1, .int p.2]) else none
  | _, _ => none
def zipL : List D → List D → List D
  | x :: xs, y :: ys => .tuple [x, y] :: zipL xs ys
  | _, _ => []
@[simp] def zipD : D → D → Option (List D)
  | .list xs, .list ys => some (zipL xs ys)
  | .tuple xs, .tuple ys => some (zipL xs ys)
  | _, _ => none
def zipL3 : List D → List D → List D → List D
  | x :: xs, y :: ys, z :: zs => .tuple [x, y, z] :: zipL3 xs ys zs
  | _, _, _ => []
@[simp] def zipD3 : D → D → D → Option (List D)
  | .list xs, .list ys, .list zs => if xs.length ≤ ys.length ∧ xs.length ≤ zs.length then some (zipL3 xs ys zs) else none
  | _, _, _ => none
def enumL (i : Nat) : List D → List D
  | [] => []
  | x :: xs => .tuple [.int (i : Int), x] :: enumL (i + 1) xs

/-! ### environments -/
@[simp] def getV (env : Env) (i : Nat) : Option D := match env[i]? with
  | some (.imm d) => some d
  | some (.own ds) => some (.list ds)
  | _ => none
def wipe (env : Env) : List Nat → Env
  | [] => env
  | v :: vs => (wipe env vs).set v .no
@[simp] def bindMany : List Nat → List D → Env → Option Env
  | [], [], env => some env
  | i :: is, d :: ds, env => bindMany is ds (env.set i (.imm d))
  | _, _, _ => none
@[simp] def bindT : Tg → D → Env → Option Env
  | .one i, d, env => some (env.set i (.imm d))
  | .many is, .tuple ds, env => bindMany is ds env
  | .many _, _, _ => none
@[simp] def pick (ds : List D) : List Nat → Option (List D)
  | [] => some []
  | i :: is => do
    let d ← ds[i]?
    let r ← pick ds is
    some (d :: r)
@[simp] def compL (step : D → U → Option (Option D × U)) : List D → U → Option (List D × U)
  | [], u => some ([], u)
  | d :: ds, u => do
    let (o, u1) ← step d u
    let (r, u2) ← compL step ds u1
    match o with
    | some x => some (x :: r, u2)
    | none => some (r, u2)

/-- what a name of the module means: a constant, a def -/
structure Ctx where
  glob : String → Option D
  fn : String → List D → Option D
  ufn : String → List D → U → Option (D × U)

section
variable (C : Ctx)
mutual
@[simp] def evalE : E → Env → U → Option (D × U)
  | .var i, env, u => (getV env i).bind fun d => some (d, u)
  | .dict0, _, u => some (.dict [], u)
  | .trng a b, env, u => (evalE a env u).bind fun ra => (evalE b env ra.2).bind fun rb => (rng2 ra.1 rb.1).bind fun xs => if sizeOk xs.length then some (.tuple xs, rb.2) else none
  | .lit c, _, u => (litV c).bind fun d => some (d, u)
  | .glob x, _, u => (C.glob x).bind fun d => some (d, u)
  | .neg a, env, u => (evalE a env u).bind fun r => match r with
    | (.int i, u1) => some (.int (-i), u1)
    | _ => none
  | .not a, env, u => (evalE a env u).bind fun r => match r with
    | (.bool b, u1) => some (.bool (!b), u1)
    | _ => none
  | .bin o a b, env, u => (evalE a env u).bind fun ra => (evalE b env ra.2).bind fun rb => (binV o ra.1 rb.1).bind fun d => some (d, rb.2)
  | .cmp o a b, env, u => (evalE a env u).bind fun ra => (evalE b env ra.2).bind fun rb => (cmpV o ra.1 rb.1).bind fun d => some (.bool d, rb.2)
  | .chain o1 o2 a b c, env, u => (evalE a env u).bind fun ra => (evalE b env ra.2).bind fun rb => (cmpV o1 ra.1 rb.1).bind fun d =>
      if d = true then (evalE c env rb.2).bind fun rc => (cmpV o2 rb.1 rc.1).bind fun d2 => some (.bool d2, rc.2) else some (.bool false, rb.2)
  | .and a b, env, u => (evalE a env u).bind fun ra => match ra with
    | (.bool c, u1) => if c = true then (evalE b env u1).bind fun rb => (match rb with | (.bool c2, u2) => some (.bool c2, u2) | _ => none) else some (.bool false, u1)
    | _ => none
  | .or a b, env, u => (evalE a env u).bind fun ra => match ra with
    | (.bool c, u1) => if c = true then some (.bool true, u1) else (evalE b env u1).bind fun rb => (match rb with | (.bool c2, u2) => some (.bool c2, u2) | _ => none)
    | _ => none
  | .ite c a b, env, u => (evalE c env u).bind fun rc => match rc with
    | (.bool k, u1) => if k = true then evalE a env u1 else evalE b env u1
    | _ => none
  | .tup es, env, u => (evalEs es env u).bind fun r => if sizeOk r.1.length then some (.tuple r.1, r.2) else none
  | .lst es, env, u => (evalEs es env u).bind fun r => if sizeOk r.1.length then some (.list r.1, r.2) else none
  | .rep es n, env, u => (evalEs es env u).bind fun r => (evalE n env r.2).bind fun rn => match rn.1 with
    | .int k => if decide (-(2 ^ 60) ≤ k ∧ k < 2 ^ 60) && sizeOk r.1.length && sizeOk (r.1.length * k.toNat) then some (.list (List.replicate k.toNat r.1).flatten, rn.2) else none
    | _ => none
  | .idx a i, env, u => (evalE a env u).bind fun ra => (evalE i env ra.2).bind fun rb => (idxV ra.1 rb.1).bind fun d => some (d, rb.2)
  | .sli a lo hi, env, u => (evalE a env u).bind fun ra => (evalEo lo env ra.2).bind fun rl => (evalEo hi env rl.2).bind fun rh => (sliV ra.1 rl.1 rh.1).bind fun d => some (d, rh.2)
  | .rev a, env, u => (evalE a env u).bind fun ra => match ra with
    | (.list xs, u1) => some (.list xs.reverse, u1)
    | (.tuple xs, u1) => some (.tuple xs.reverse, u1)
    | _ => none
  | .rvt a, env, u => (evalE a env u).bind fun ra => match ra with
    | (.tuple (_ :: xs), u1) => some (.tuple xs.reverse, u1)
    | _ => none
  | .uidx k, env, u => (evalE k env u).bind fun rk => match rk with
    | (.int i, u1) => (atI u1 i).bind fun n => some (.int n, u1)
    | _ => none
  | .call f es perm, env, u => (evalEs es env u).bind fun r => (pick r.1 perm).bind fun ds => (C.fn f ds).bind fun d => some (d, r.2)
  | .ucall f es, env, u => (evalEs es env u).bind fun r => C.ufn f r.1 r.2
  | .ncall f a es, env, u => (evalE a env u).bind fun ra => (evalEs es env ra.2).bind fun r => match ra.1 with
    | .list xs => (intsOf xs).bind fun ns => (C.ufn f r.1 ns).bind fun q => some (q.1, r.2)
    | _ => none
  | .bi b es, env, u => (evalEs es env u).bind fun r => (biV b r.1).bind fun d => some (d, r.2)
  | .comp elt t it cond own, env, u => (evalI it env u).bind fun ri =>
      (compL (fun d u => (bindT t d (wipe env own)).bind fun env' => (evalC cond env' u).bind fun rc =>
        if rc.1 = true then (evalE elt env' rc.2).bind fun re => some (some re.1, re.2) else some (none, rc.2)) ri.1 ri.2).bind fun r => if sizeOk ri.1.length then some (.list r.1, r.2) else none
@[simp] def evalEs : Es → Env → U → Option (List D × U)
  | .nil, _, u => some ([], u)
  | .cons e es, env, u => (evalE e env u).bind fun r => (evalEs es env r.2).bind fun rs => some (r.1 :: rs.1, rs.2)
/-- a bound of a slice -/
@[simp] def evalEo : Eo → Env → U → Option (Option Int × U)
  | .no, _, u => some (none, u)
  | .yes e, env, u => (evalE e env u).bind fun r => match r with
    | (.int i, u1) => some (some i, u1)
    | _ => none
/-- a comprehension's test -/
@[simp] def evalC : Eo → Env → U → Option (Bool × U)
  | .no, _, u => some (true, u)
  | .yes e, env, u => (evalE e env u).bind fun r => match r with
    | (.bool b, u1) => some (b, u1)
    | _ => none
@[simp] def evalI : I → Env → U → Option (List D × U)
  | .seq e, env, u => (evalE e env u).bind fun r => (items r.1).bind fun xs => some (xs, r.2)
  | .range1 a, env, u => (evalE a env u).bind fun r => match r with
    | (.int j, u1) => if intOk j then some (rangeL 0 j, u1) else none
    | _ => none
  | .range2 a b, env, u => (evalE a env u).bind fun ra => (evalE b env ra.2).bind fun rb => (rng2 ra.1 rb.1).bind fun xs => some (xs, rb.2)
  | .range3 a b c, env, u => none
  | .revRange1 a, env, u => (evalE a env u).bind fun r => match r with
    | (.int j, u1) => if intOk j then some ((rangeL 0 j).reverse, u1) else none
    | _ => none
  | .enum e, env, u => (evalE e env u).bind fun r => (items r.1).bind fun xs => some (enumL 0 xs, r.2)
  | .zip a b, env, u => (evalE a env u).bind fun ra => (evalE b env ra.2).bind fun rb => (zipD ra.1 rb.1).bind fun xs => some (xs, rb.2)
  | .zip3 a b c, env, u => (evalE a env u).bind fun ra => (evalE b env ra.2).bind fun rb => (evalE c env rb.2).bind fun rc => (zipD3 ra.1 rb.1 rc.1).bind fun xs => some (xs, rc.2)
  | .rev e, env, u => (evalE e env u).bind fun r => (items r.1).bind fun xs => some (xs.reverse, r.2)
end

end

/-! ### which names an expression reads; what makes a new list -/
mutual
@[simp] def fvE : E → List Nat
  | .var i => [i]
  | .lit _ | .glob _ | .dict0 => []
  | .neg a | .not a | .rev a | .rvt a | .uidx a => fvE a
  | .bin _ a b | .cmp _ a b | .and a b | .or a b | .idx a b | .trng a b => fvE a ++ fvE b
  | .chain _ _ a b c | .ite a b c => fvE a ++ (fvE b ++ fvE c)
  | .tup es | .lst es | .call _ es _ | .ucall _ es | .bi _ es => fvEs es
  | .ncall _ a es => fvE a ++ fvEs es
  | .rep es n => fvEs es ++ fvE n
  | .sli a lo hi => fvE a ++ (fvEo lo ++ fvEo hi)
  | .comp elt _ it cond _ => fvI it ++ (fvEo cond ++ fvE elt)
@[simp] def fvEs : Es → List Nat
  | .nil => []
  | .cons e es => fvE e ++ fvEs es
@[simp] def fvEo : Eo → List Nat
  | .no => []
  | .yes e => fvE e
@[simp] def fvI : I → List Nat
  | .seq e | .range1 e | .revRange1 e | .enum e | .rev e => fvE e
  | .range2 a b | .zip a b => fvE a ++ fvE b
  | .range3 a b c | .zip3 a b c => fvE a ++ (fvE b ++ fvE c)
end
/-- may hand back a new list (ff: the defs that do) -/
@[simp] def fk (ff : String → Bool) : E → Bool
  | .lst _ => true
  | .comp _ _ _ _ _ => true
  | .bin .add _ _ => true
  | .rep _ _ => true
  | .sli _ _ _ => true
  | .rev _ => true
  | .rvt _ => true
  | .bi .list _ => true
  | .bi .sorted _ => true
  | .bi .sortedSet _ => true
  | .call f _ _ => ff f
  | .ucall f _ => ff f
  | .ncall f _ _ => ff f
  | .ite _ a b => fk ff a && fk ff b
  | _ => false
@[simp] def frz : Slot → Slot
  | .own ds => .imm (.list ds)
  | s => s
@[simp] def freeze (env : Env) : List Nat → Env
  | [] => env
  | i :: is => (freeze env is).modify i frz
/-- a value is stored: what it makes of its name, and of the lists that it may have taken in -/
def slotOf (ff : String → Bool) (e : E) (d : D) : Slot := if fk ff e then (match d with | .list ds => .own ds | _ => .imm d) else .imm d
def within (ff : String → Bool) (e : E) (d : D) : Bool := if fk ff e then (match d with | .list ds => noListAll ds | _ => noList d) else noList d
def after (ff : String → Bool) (env : Env) (e : E) (d : D) : Env := if within ff e d then env else freeze env (fvE e)

inductive O where
  | nx (env : Env) (u : U) | rt (d : D) (u : U) | bk (env : Env) (u : U) | ct (env : Env) (u : U)

def whileO {α β : Type} (step : α → Option (Sum α β)) (a : α) : Option β :=
  match step a with
  | none => none
  | some (.inl a') => whileO step a'
  | some (.inr b) => some b partial_fixpoint

@[simp] def forL (step : D → Env → U → Option O) : List D → Env → U → Option O
  | [], env, u => some (.nx env u)
  | d :: ds, env, u => (step d env u).bind fun o => match o with
    | .nx env' u' => forL step ds env' u'
    | .ct env' u' => forL step ds env' u'
    | .bk env' u' => some (.nx env' u')
    | .rt d u' => some (.rt d u')
@[simp] def bindTu : List Tu → List D → Env → U → Option (Env × U)
  | [], [], env, u => some (env, u)
  | .nm i :: ts, d :: ds, env, u => bindTu ts ds (env.set i (.imm d)) u
  | .pl k :: ts, .int n :: ds, env, u => if k < u.length then bindTu ts ds env (u.set k n) else none
  | _, _, _, _ => none
/-- the slots of several values stored at once -/
@[simp] def parSlots (ff : String → Bool) : Es → List D → Option (List Slot)
  | .nil, [] => some []
  | .cons e es, d :: ds => (parSlots ff es ds).map (slotOf ff e d :: ·)
  | _, _ => none
@[simp] def parWithin (ff : String → Bool) : Es → List D → Bool
  | .cons e es, d :: ds => within ff e d && parWithin ff es ds
  | _, _ => true
@[simp] def setAll : List Nat → List Slot → Env → Option Env
  | [], [], env => some env
  | i :: is, s :: ss, env => setAll is ss (env.set i s)
  | _, _, _ => none
@[simp] def iterOk : I → Bool
  | .range1 _ | .range2 _ _ | .range3 _ _ _ | .revRange1 _ => true
  | _ => false
@[simp] def ownVar (env : Env) : E → Bool
  | .var i => match env[i]? with | some (.own _) => true | _ => false
  | _ => false

section
variable (C : Ctx) (ff : String → Bool)
mutual
@[simp] def execS : S → Env → U → Option O
  | .set i e, env, u => (evalE C e env u).bind fun r => some (.nx ((after ff env e r.1).set i (slotOf ff e r.1)) r.2)
  | .set2 i j e, env, u => (evalE C e env u).bind fun r => if noList r.1 then some (.nx ((env.set i (.imm r.1)).set j (.imm r.1)) r.2) else none
  | .par is es, env, u => (evalEs C es env u).bind fun r => (parSlots ff es r.1).bind fun ss => (setAll is ss (if parWithin ff es r.1 then env else freeze env (fvEs es))).bind fun env' => some (.nx env' r.2)
  | .unp ts e, env, u => (evalE C e env u).bind fun r => match r.1 with
    | .tuple ds => (bindTu ts ds (if noListAll ds then env else freeze env (fvE e)) r.2).bind fun q => some (.nx q.1 q.2)
    | _ => none
  | .setI i k e, env, u => (evalE C e env u).bind fun r => if noList r.1 then (evalE C k env r.2).bind fun rk => match env[i]?, rk.1 with
    | some (.own ds), .int n => (ixN ds.length n).bind fun j => some (.nx (env.set i (.own (ds.set j r.1))) rk.2)
    | _, _ => none else none
  | .setU k e, env, u => (evalE C e env u).bind fun r => match r.1 with
    | .int z => (evalE C k env r.2).bind fun rk => (match rk.1 with
      | .int n => (ixN rk.2.length n).bind fun j => some (.nx env (rk.2.set j z))
      | _ => none)
    | _ => none
  | .app i e, env, u => (evalE C e env u).bind fun r => match (if noList r.1 then env else freeze env (fvE e))[i]? with
    | some (.own ds) => if sizeOk ds.length then some (.nx ((if noList r.1 then env else freeze env (fvE e)).set i (.own (ds ++ [r.1]))) r.2) else none
    | _ => none
  | .pop i, env, u => match env[i]? with
    | some (.own ds) => if ds.isEmpty then none else some (.nx (env.set i (.own ds.dropLast)) u)
    | _ => none
  | .ins i k e, env, u => (evalE C k env u).bind fun rk => (evalE C e env rk.2).bind fun r => if noList r.1 then match env[i]?, rk.1 with
    | some (.own ds), .int n => if decide (0 ≤ n ∧ n ≤ ds.length) && sizeOk ds.length then some (.nx (env.set i (.own (ds.take n.toNat ++ r.1 :: ds.drop n.toNat))) r.2) else none
    | _, _ => none else none
  | .drop e, env, u => (evalE C e env u).bind fun r => some (.nx env r.2)
  | .ite c a b, env, u => (evalE C c env u).bind fun rc => match rc with
    | (.bool k, u1) => if k = true then execSs a env u1 else execSs b env u1
    | _ => none
  | .whil c b, env, u => whileO (fun (q : Env × U) => (evalE C c q.1 q.2).bind fun rc => match rc with
    | (.bool k, u1) => if k = true then (execSs b q.1 u1).bind fun o => (match o with
        | .nx env' u' => some (.inl (env', u'))
        | .ct env' u' => some (.inl (env', u'))
        | .bk env' u' => some (.inr (O.nx env' u'))
        | .rt d u' => some (.inr (O.rt d u'))) else some (.inr (O.nx q.1 u1))
    | _ => none) (env, u)
  | .for_ t it b, env, u => (evalI C it env u).bind fun ri => if sizeOk ri.1.length then
      forL (fun d env u => (bindT t d env).bind fun env' => execSs b env' u) ri.1 (if iterOk it then env else freeze env (fvI it)) ri.2 else none
  | .ret e, env, u => (evalE C e env u).bind fun r => some (.rt r.1 r.2)
  | .retF e, env, u => (evalE C e env u).bind fun r => if fk ff e || ownVar env e || noList r.1 then some (.rt r.1 r.2) else none
  | .brk, env, u => some (.bk env u)
  | .cont, env, u => some (.ct env u)
  | .pass, env, u => some (.nx env u)
  | .raise, _, _ => none
@[simp] def execSs : Ss → Env → U → Option O
  | .nil, env, u => some (.nx env u)
  | .cons s ss, env, u => (execS s env u).bind fun o => match o with
    | .nx env' u' => execSs ss env' u'
    | o => some o
end
end

/-! ### a table of defs -/
structure Prog where
  T : String → Option PFun
  glob : String → Option D
def Prog.ff (G : Prog) (f : String) : Bool := match G.T f with | some p => p.fresh | none => false
def mkEnv (p : PFun) (ds : List D) : Env := (if p.urn then [Slot.no] else []) ++ ds.map Slot.imm ++ List.replicate (p.ns - p.np) Slot.no
def runF (C : Ctx) (ff : String → Bool) (p : PFun) (ds : List D) (u : U) : Option (D × U) :=
  if ds.length + (if p.urn then 1 else 0) = p.np then
    match execSs C ff p.body (mkEnv p ds) u with
    | some (.rt d u') => some (d, u')
    | some (.nx _ u') => if p.fresh then none else some (.none, u')
    | _ => none
  else none
def ctxOf (G : Prog) (c : String → List D → U → Option (D × U)) : Ctx where
  glob := G.glob
  fn := fun f ds => match G.T f with
    | some p => if p.urn then none else (c f ds []).map (·.1)
    | none => none
  ufn := fun f ds u => match G.T f with
    | some p => if p.urn then c f ds u else none
    | none => none
def callU (G : Prog) : Nat → String → List D → U → Option (D × U)
  | 0 => fun _ _ _ => none
  | n + 1 => fun f ds u => match G.T f with
    | some p => runF (ctxOf G (callU G n)) G.ff p ds u
    | none => none
def ctxN (G : Prog) (n : Nat) : Ctx := ctxOf G (callU G n)
/-! ### whole numbers in order -/
theorem insI_perm (x : Int) : ∀ l : List Int, (insI x l).Perm (x :: l)
  | [] => .refl _
  | y :: r => by
    unfold insI
    split
    · exact .refl _
    · exact ((insI_perm x r).cons y).trans (List.Perm.swap x y r)
theorem insI_srt (x : Int) : ∀ {l : List Int}, l.Pairwise (· ≤ ·) → (insI x l).Pairwise (· ≤ ·)
  | [], _ => by simp [insI]
  | y :: r, h => by
    unfold insI
    have h' := h
    rw [List.pairwise_cons] at h
    split
    · rename_i c
      refine List.pairwise_cons.mpr ⟨fun z hz => ?_, h'⟩
      rcases List.mem_cons.mp hz with rfl | hz
      · exact c
      · have := h.1 z hz; omega
    · rename_i c
      refine List.pairwise_cons.mpr ⟨fun z hz => ?_, insI_srt x h.2⟩
      rcases List.mem_cons.mp ((insI_perm x r).mem_iff.mp hz) with rfl | hz
      · omega
      · exact h.1 z hz
theorem sortI_perm : ∀ l : List Int, (sortI l).Perm l
  | [] => .refl _
  | x :: l => (insI_perm x (sortI l)).trans ((sortI_perm l).cons x)
theorem sortI_srt : ∀ l : List Int, (sortI l).Pairwise (· ≤ ·)
  | [] => .nil
  | x :: l => insI_srt x (sortI_srt l)
theorem srtI_one : ∀ {l m : List Int}, l.Perm m → l.Pairwise (· ≤ ·) → m.Pairwise (· ≤ ·) → l = m
  | [], m, h, _, _ => by rw [List.nil_perm.mp h]
  | a :: l, [], h, _, _ => by simpa using h.length_eq
  | a :: l, b :: m, h, s1, s2 => by
    have t1 := List.pairwise_cons.mp s1
    have t2 := List.pairwise_cons.mp s2
    have e : a = b := by
      have m1 : a ∈ b :: m := h.mem_iff.mp List.mem_cons_self
      have m2 : b ∈ a :: l := h.mem_iff.mpr List.mem_cons_self
      rcases List.mem_cons.mp m1 with q | q
      · exact q
      · rcases List.mem_cons.mp m2 with p | p
        · exact p.symm
        · have := t1.1 b p; have := t2.1 a q; omega
    subst e
    rw [srtI_one (List.Perm.cons_inv h) t1.2 t2.2]
theorem maxI_ok : ∀ {l : List Int} {m : Int}, maxI l = some m → m ∈ l ∧ ∀ y ∈ l, y ≤ m
  | [], m, h => by cases h
  | x :: r, m, h => by
    unfold maxI at h
    cases q : maxI r with
    | none =>
      rw [q] at h
      cases h
      have : r = [] := by
        cases r with
        | nil => rfl
        | cons a r =>
          unfold maxI at q
          split at q <;> cases q
      subst this
      simp
    | some k =>
      rw [q] at h
      obtain ⟨a, b⟩ := maxI_ok q
      simp only [Option.some.injEq] at h
      subst h
      split
      · rename_i c
        exact ⟨List.mem_cons_self, fun y hy => by rcases List.mem_cons.mp hy with rfl | hy; exact Int.le_refl _; have := b y hy; omega⟩
      · rename_i c
        exact ⟨List.mem_cons_of_mem _ a, fun y hy => by rcases List.mem_cons.mp hy with rfl | hy; omega; exact b y hy⟩
theorem minI_ok : ∀ {l : List Int} {m : Int}, minI l = some m → m ∈ l ∧ ∀ y ∈ l, m ≤ y
  | [], m, h => by cases h
  | x :: r, m, h => by
    unfold minI at h
    cases q : minI r with
    | none =>
      rw [q] at h
      cases h
      have : r = [] := by
        cases r with
        | nil => rfl
        | cons a r =>
          unfold minI at q
          split at q <;> cases q
      subst this
      simp
    | some k =>
      rw [q] at h
      obtain ⟨a, b⟩ := minI_ok q
      simp only [Option.some.injEq] at h
      subst h
      split
      · rename_i c
        exact ⟨List.mem_cons_self, fun y hy => by rcases List.mem_cons.mp hy with rfl | hy; exact Int.le_refl _; have := b y hy; omega⟩
      · rename_i c
        exact ⟨List.mem_cons_of_mem _ a, fun y hy => by rcases List.mem_cons.mp hy with rfl | hy; omega; exact b y hy⟩
end Pl

set_option maxHeartbeats 4000000
/-! PSound0: enumerate over a tuple. -/
namespace PlE
open PySem PySem.Spec PyProof.Rows L2
set_option maxHeartbeats 1000000 in
theorem meets_newT (l : Addr) (items : Array Value) (n : Nat) (dct : Option Addr) (sl : Array (Option Value)) :
    Meets (Builtin.«enumerate.__new__» ⟨[.type "enumerate", .ref l], []⟩) (fun _ R s => s.heap.get? l = some { cls := .type "tuple", dict := dct, data := .seq items n, slots := sl } ∧
      R (.ok (.ret (.ref (s.heap.push { cls := .type "tuple_iterator", data := .fields #[.ref l, .int 0 0] }).objs.size)))
        { s with heap := (s.heap.push { cls := .type "tuple_iterator", data := .fields #[.ref l, .int 0 0] }).push { cls := .type "enumerate", data := .fields #[.none, .bool false, .ref s.heap.objs.size, rawInt 0, .none, .none] } }) :=
  .of_wp fun prog w A R s h => by
    obtain ⟨hp, g, d, tk, os⟩ := s; obtain ⟨hl, h⟩ := h
    have hsub := sub_enumerate
    have hL : Heap.IsTuple (Shared.heap ⟨hp, g, d, tk, os⟩) l items := ⟨_, hl, rfl, n, rfl⟩
    wp_walk using AutoSeq1.wpAny_loadPart' hl
    refine wpAny_stack_any fun st => wpAny_pure ?_
    split
    · rename_i c _ _ _ _ _
      cases (c == Value.type "enumerate")
      · wp_walk using AutoSeq1.wpAny_loadPart' hl, wpAny_pyIter_tuple hL
        exact ⟨_, rfl, h⟩
      · wp_walk using AutoSeq1.wpAny_loadPart' hl, wpAny_pyIter_tuple hL
        exact ⟨_, rfl, h⟩
    · wp_walk using AutoSeq1.wpAny_loadPart' hl, wpAny_pyIter_tuple hL
      exact ⟨_, rfl, h⟩
section
variable {prog : Program} {w : World} {A : Around} {E : Value → Shared → Prop} {s : Shared}
theorem call_enumerate_tuple {l : Addr} {items : Array Value} {Q : Value → Shared → Prop} (hL : s.heap.IsTuple l items)
    (h : ∀ h', IsEnum h' (s.heap.objs.size + 1) s.heap.objs.size 0 .none → h'.IsTupleIter s.heap.objs.size l 0 → h'.objs.size = s.heap.objs.size + 2 →
      (∀ b o, s.heap.get? b = some o → h'.get? b = some o) → Q (.ref (s.heap.objs.size + 1)) { s with heap := h' }) :
    wpAny (model prog w) A (call (.type "enumerate") [.ref l]) Q E s := by
  obtain ⟨⟨c, dct, dt, sl⟩, hl, hc, n, hd⟩ := hL
  replace hc : c = .type "tuple" := hc
  replace hd : dt = .seq items n := hd
  subst hc hd
  refine callType_new F.called_enumerate (by decide) (F.typeCall_enumerate_1 _) (F.newCall_enumerate_1 _) (fun obj => F.args_object_init_2 obj _) F.entry_enumerate_new
    (meets_newT l items n dct sl) ⟨hl, ?_⟩
  have hz : (s.heap.push { cls := .type "tuple_iterator", data := .fields #[.ref l, .int 0 0] }).objs.size = s.heap.objs.size + 1 := Heap.size_push ..
  show _ ∧ _
  rw [hz]
  have he : IsEnum ((s.heap.push { cls := .type "tuple_iterator", data := .fields #[.ref l, .int 0 0] }).push
      { cls := .type "enumerate", data := .fields #[.none, .bool false, .ref s.heap.objs.size, rawInt 0, .none, .none] }) (s.heap.objs.size + 1) s.heap.objs.size 0 .none := by
    have := Heap.get?_push_size (s.heap.push { cls := .type "tuple_iterator", data := .fields #[.ref l, .int 0 0] })
      (o := { cls := .type "enumerate", data := .fields #[.none, .bool false, .ref s.heap.objs.size, rawInt 0, .none, .none] }) rfl
    rw [hz] at this; exact this
  refine ⟨⟨_, he, rfl⟩, h _ he ⟨_, Heap.get?_push_of_some _ (Heap.get?_push_size _ rfl), rfl, rfl⟩ (by rw [Heap.size_push, hz]) fun b o x => Heap.get?_push_of_some _ (Heap.get?_push_of_some _ x)⟩
end
section
variable {prog : Program} {w : World} {A : Around} {E : Value → Shared → Prop} {s : Shared}
theorem pyNext_enumT_end {e it l : Addr} {i : Nat} {items : Array Value} {old : Value} {Q : Option Value → Shared → Prop} (hh : A.handled = none)
    (he : IsEnum s.heap e it i old) (hit : s.heap.IsTupleIter it l i) (hl : s.heap.IsTuple l items) (hx : items[i]? = none)
    (hQ : ∀ h', Heap.ExtBut it s.heap h' → Q none { s with heap := h' }) : wpAny (model prog w) A (pyNext (.ref e)) Q E s := by
  have hT : s.TypeIs (.ref e) "enumerate" := ⟨_, he, rfl⟩
  unfold pyNext
  refine wpAny_bind (wpAny_attempt (wpAny_callSpecial?_slot (name := Str.ofString "__next__") hT F.slot_enumerate_next
    (wpAny_call_entry F.slot_enumerate_next hT F.entry_enumerate_next ?_ (F.args_enumerate_next_1 _))))
  show wpAny _ _ (field (.ref e) 2 >>= _) _ _ _
  refine wpAny_bind (wpAny_field he rfl (x := .ref it) rfl ?_)
  refine wpAny_bind (wpAny_nextOf_tuple_end hh hit hl hx fun h' x he' hx' => ?_)
  obtain ⟨o, ho, hc⟩ := hx'
  refine wpAny_bind (wpAny_isInstance (T := "StopIteration") (b := true) ⟨o, ho, hc⟩ isSubtype_stop ?_)
  exact wpAny_pure (hQ _ he')
end
/-- the tuple at a, each item in a new pair -/
def Itet (K : PySem.W.Frag) (a : Addr) : It :=
  ⟨fun i H => ∃ (xs : List V) (x : V), SqT K H a xs ∧ xs[i]? = some x, fun i H v H' => ∃ T x, v = .ref T ∧ H T = none ∧ H' = upd H T (.tup [.int (i : Nat), x]) ∧ ∀ xs, SqT K H a xs → xs[i]? = some x, fun i H => ∃ xs : List V, SqT K H a xs ∧ xs.length ≤ i⟩
theorem turn_enumT {P : Program} {w : World} {K : PySem.W.Frag} {elts : List Expr} {kk : Nat} {tpos : Pos} (a e it : Addr) :
    Turn P w K (.Tuple elts kk tpos) (Itet K a) [e, it] e (fun i h => (∃ old, IsEnum h e it ((i : Nat) : Int) old) ∧ h.IsTupleIter it a i ∧ e ≠ it ∧ e ≠ a ∧ a ≠ it) where
  mem := by simp
  obj := fun i h st b hb => by
    obtain ⟨⟨old, he⟩, ⟨o, ho, hc, hd⟩, _⟩ := st
    have e' : b = e ∨ b = it := by simpa using hb
    rcases e' with z | z
    · rw [z]; exact ⟨_, he, fun v q => nomatch q⟩
    · rw [z]; exact ⟨o, ho, fun v q => by rw [hd] at q; cases q⟩
  keep := fun i h h' st k => let ⟨⟨old, he⟩, hi, hne⟩ := st; ⟨⟨old, k e (by simp) _ he⟩, hi.at fun o q => k it (by simp) o q, hne⟩
  item := by
    intro X hP hw hK hc i pins s σ H E I hf st hg
    subst hP hw hK
    obtain ⟨⟨old, he⟩, hit, hne, hea, hai⟩ := st
    obtain ⟨xs, x, hq, hx⟩ := hg
    obtain ⟨its, rv, p, hz⟩ := I.tuple hq
    obtain ⟨u, hu, ru⟩ := rv.get hx
    have hel : e < s.heap.objs.size := Heap.lt_size he
    have hil : it < s.heap.objs.size := by obtain ⟨_, q, _⟩ := hit; exact Heap.lt_size q
    have hlt : i < its.toArray.size := by
      have := (List.getElem?_eq_some_iff.mp hu).1
      simpa using this
    refine wpAny_pyNext_enum_itemD (Draws.tuple (by first | rfl | exact I.ok.hd hc) it a hai its.toArray) he ⟨hit, p⟩ hlt hne (by simp [hne, hea]) fun y h' tk hy ho hit' hT hsz hk => ?_
    have hy' : y = u := by
      simp only [List.getElem?_toArray] at hy
      rw [hu] at hy
      exact (Option.some.inj hy).symm
    subst hy'
    refine ⟨_, rfl, wpAny_letOwnedTupleGo_enum (s := { s with heap := h', toks := tk + 1 }) ho fun h'' he' sb => ?_⟩
    have hT2 : h''.get? s.heap.objs.size = some { cls := .type "tuple", data := .seq #[.int i tk, y] } := (sb.2 _ (Nat.ne_of_gt hel)).trans hT
    have new : ObjOk X.prog X.w (upd H s.heap.objs.size (.tup [.int (i : Nat), x])) h'' s.heap.objs.size (.tup [.int (i : Nat), x]) :=
      ⟨by show 2 ≤ sizeLine; decide, [.int i tk, y], .cons ⟨_, rfl⟩ (.cons ru .nil), ⟨_, hT2, rfl, _, rfl⟩⟩
    have I1 : Inv X pins σ (upd H s.heap.objs.size (.tup [.int (i : Nat), x])) { s with heap := h'', toks := tk + 1 } :=
      I.turnedNew (t' := tk + 1) (ch := [e, it]) (fun b ob hb q => (sb.2 b (fun z => hb (by simp [z]))).trans (hk b ob (fun z => hb (by simp [z])) (fun z => hb (by simp [z])) q)) hf (Nat.le_refl _) new
    refine ⟨.ref s.heap.objs.size, _, I1, rfl, ⟨_, x, rfl, I.hok.fresh (Nat.le_refl _), rfl, fun ys hy => by rw [I.tuple_inj hy hq]; exact hx⟩, ⟨⟨y, ?_⟩, hit'.1.at fun o q => (sb.2 it (Ne.symm hne)).trans q, hne, hea, hai⟩, fun b hb => ?_⟩
    · have e1 : ((i + 1 : Nat) : Int) = (i : Int) + 1 := by omega
      rw [e1]; exact he'
    · have hb' : b < s.heap.objs.size := by
        have e' : b = e ∨ b = it := by simpa using hb
        rcases e' with z | z
        · rw [z]; exact hel
        · rw [z]; exact hil
      rw [upd_ne (Nat.ne_of_lt hb')]
      exact (hf b hb).1
  done := by
    intro X hP hw hK hc i pins s σ H E I hf st hg
    subst hP hw hK
    obtain ⟨⟨old, he⟩, hit, hne, hea, hai⟩ := st
    obtain ⟨xs, hq, hx⟩ := hg
    obtain ⟨its, rv, p, hz⟩ := I.tuple hq
    obtain ⟨f0, f1, f2, f3, f4, f5⟩ := hf it (by simp)
    have hl := rv.length
    exact pyNext_enumT_end (I.ok.hd hc) he hit p (by simp; omega) fun h' eb => ⟨rfl, I.turned (t' := s.toks) (fun b o hb q => eb b o hb q) f0 f1 f3 f4 f5⟩
  self := fun A i s Q E st h => let ⟨⟨_, he⟩, _⟩ := st; wpAny_pyIter_enum he h
/-- enumerate over a list or a tuple -/
def iEnumA (K : PySem.W.Frag) (ta : TA) : TI := fun σ H R => ta σ H fun vs H1 => ∃ a, vs = [.ref a] ∧ ((∃ xs, SqL K H1 a xs ∧ R (Ite K a) H1) ∨ (∃ xs, SqT K H1 a xs ∧ R (Itet K a) H1))
theorem pi_enumA {X : Cx} {e : Expr} {ta : TA} {p pos tpos : Pos} {elts : List Expr} {kk : Nat} (hg : Gl X "enumerate") (hm : X.mg "enumerate" = none) (ha : PA X [e] ta) (hs : starEach [e] X.env = [(false, eval e X.env)] := by rfl) :
    PI X (.Tuple elts kk tpos) (.Call (.Name "enumerate" p) [e] [] pos) (iEnumA X.K ta) := by
  refine ⟨fun pins s σ H R I h => ?_⟩
  refine Call_ (ld_blt I hg hm boot_enumerate (PyProof.Rows.callWith_type1 (thn (ha.run pos pins s σ H _ I h) fun us s1 ⟨vs, H1, I1, r1, q1⟩ => ?_) hs rfl))
  obtain ⟨a, ex, q⟩ := q1
  subst ex
  cases r1 with
  | cons r rr =>
    cases rr
    cases r
    rcases q with ⟨xs, hq, q⟩ | ⟨xs, hq, q⟩
    · obtain ⟨its, rv, p', hz⟩ := I1.list hq
      refine call_enumerate_list p'.isList fun h' he hit hsz hk => wpAny_pyIter_enum he ?_
      have I2 : Inv X pins σ H1 { s1 with heap := h' } := I1.kept (t' := s1.toks) hk
      refine ⟨s1.heap.objs.size + 1, [s1.heap.objs.size + 1, s1.heap.objs.size], _, _, H1, rfl, I2, turn_enum a (s1.heap.objs.size + 1) s1.heap.objs.size, ⟨⟨.none, he⟩, hit, Nat.succ_ne_self _⟩, fun b hb => ?_, q⟩
      have e' : b = s1.heap.objs.size + 1 ∨ b = s1.heap.objs.size := by simpa using hb
      have hle : s1.heap.objs.size ≤ b := by
        rcases e' with z | z
        · rw [z]; exact Nat.le_add_right _ _
        · rw [z]; exact Nat.le_refl _
      exact I1.fpOk hle (I1.hok.fresh hle)
    · obtain ⟨its, rv, p', hz⟩ := I1.tuple hq
      have hal : a < s1.heap.objs.size := by obtain ⟨_, q', _⟩ := p'; exact Heap.lt_size q'
      refine call_enumerate_tuple p' fun h' he hit hsz hk => wpAny_pyIter_enum he ?_
      have I2 : Inv X pins σ H1 { s1 with heap := h' } := I1.kept (t' := s1.toks) hk
      refine ⟨s1.heap.objs.size + 1, [s1.heap.objs.size + 1, s1.heap.objs.size], _, _, H1, rfl, I2, turn_enumT a (s1.heap.objs.size + 1) s1.heap.objs.size, ⟨⟨.none, he⟩, hit, Nat.succ_ne_self _, Nat.ne_of_gt (Nat.lt_succ_of_lt hal), Nat.ne_of_lt hal⟩, fun b hb => ?_, q⟩
      have e' : b = s1.heap.objs.size + 1 ∨ b = s1.heap.objs.size := by simpa using hb
      have hle : s1.heap.objs.size ≤ b := by
        rcases e' with z | z
        · rw [z]; exact Nat.le_add_right _ _
        · rw [z]; exact Nat.le_refl _
      exact I1.fpOk hle (I1.hok.fresh hle)
/-! ### t[::-1] of a tuple -/
section
variable {prog : Program} {w : World} {A : Around} {E : Value → Shared → Prop} {s : Shared}
theorem adjust_rev (n : Nat) : Builtin.Slice.sliceAdjust none none (-1) (n : Int) = ((n : Int) - 1, -1) := by
  unfold Builtin.Slice.sliceAdjust
  simp
theorem places_rev (n : Nat) : Builtin.Slice.slicePlaces ((n : Int) - 1) (-1) (-1) = n := by
  unfold Builtin.Slice.slicePlaces
  have h1 : ¬ ((-1 : Int) > 0) := by omega
  have h2 : (-(-1) : Int) = 1 := by decide
  simp only [h1, if_false, h2, Int.ediv_one]
  split <;> omega
theorem sliceApplied_rev {sl : Addr} {vl vu vs : Value} {n : Nat} {Q : Int × Int × Nat → Shared → Prop} (hs : s.heap.IsSliceOf sl vl vu vs) (pl : IsPart vl none) (pu : IsPart vu none) (ps : IsPart vs (some (-1)))
    (h : Q ((n : Int) - 1, -1, n) s) : wpAny (model prog w) A (Builtin.Slice.sliceApplied (.ref sl) (pure (n : Int))) Q E s := by
  obtain ⟨os, hos, hcs, hds⟩ := id hs
  unfold Builtin.Slice.sliceApplied Builtin.Slice.sliceFields
  refine wpAny_bind (wpAny_bind (wpAny_field hos hds (x := vl) rfl (wpAny_bind (wpAny_field hos hds (x := vu) rfl (wpAny_bind (wpAny_field hos hds (x := vs) rfl (wpAny_pure ?_)))))))
  refine wpAny_bind (HT.slicePart_ ps ?_)
  show wpAny _ _ (if ((-1 : Int) == 0) = true then _ else _) _ _ s
  rw [if_neg (by decide)]
  refine wpAny_bind (HT.slicePart_ pl (wpAny_bind (HT.slicePart_ pu (wpAny_bind (wpAny_pure ?_)))))
  show wpAny _ _ (match Builtin.Slice.sliceAdjust none none (-1) (n : Int) with | (lo, hi) => pure (lo, (-1 : Int), Builtin.Slice.slicePlaces lo hi (-1))) _ _ s
  rw [adjust_rev]
  show wpAny _ _ (pure ((n : Int) - 1, (-1 : Int), Builtin.Slice.slicePlaces ((n : Int) - 1) (-1) (-1))) _ _ s
  rw [places_rev]
  exact wpAny_pure h
theorem pick_rev (xs : Array Value) : ((List.range xs.size).filterMap fun (m : Nat) => xs[(((xs.size : Int) - 1) + (m : Int) * (-1)).toNat]?).toArray = xs.toList.reverse.toArray := by
  congr 1
  refine List.ext_getElem? fun i => ?_
  have e : (List.range xs.size).filterMap (fun (m : Nat) => xs[(((xs.size : Int) - 1) + (m : Int) * (-1)).toNat]?) = (List.range xs.size).map fun m => xs.toList.reverse.getD m .none := by
    have : ∀ l : List Nat, (∀ m ∈ l, m < xs.size) → l.filterMap (fun (m : Nat) => xs[(((xs.size : Int) - 1) + (m : Int) * (-1)).toNat]?) = l.map fun m => xs.toList.reverse.getD m .none := by
      intro l
      induction l with
      | nil => intro _; rfl
      | cons m l ih =>
        intro h
        have hm := h m List.mem_cons_self
        have e1 : (((xs.size : Int) - 1) + (m : Int) * (-1)).toNat = xs.size - 1 - m := by omega
        have e2 : xs[xs.size - 1 - m]? = some (xs.toList.reverse.getD m .none) := by
          have h1 : m < xs.toList.reverse.length := by simpa using hm
          rw [List.getD_eq_getElem?_getD, List.getElem?_eq_getElem h1, List.getElem_reverse]
          rw [Array.getElem?_eq_getElem (by omega)]
          simp
        rw [List.filterMap_cons, e1, e2, List.map_cons, ih fun k hk => h k (List.mem_cons_of_mem _ hk)]
    exact this _ fun m hm => List.mem_range.mp hm
  rw [e, List.getElem?_map]
  by_cases hi : i < xs.size
  · rw [List.getElem?_range hi]
    have h1 : i < xs.toList.reverse.length := by simpa using hi
    rw [List.getElem?_eq_getElem h1]
    simp only [Option.map_some, List.getD_eq_getElem?_getD, List.getElem?_eq_getElem h1, Option.getD_some]
  · rw [List.getElem?_eq_none (by simpa using hi), List.getElem?_eq_none (by simpa using hi)]
    rfl
theorem getItem_tuple_rev {t sl : Addr} {items : Array Value} {vl vu vs : Value} {Q : Value → Shared → Prop} (ht : IsTup s.heap t items) (hs : s.heap.IsSliceOf sl vl vu vs) (pl : IsPart vl none) (pu : IsPart vu none) (ps : IsPart vs (some (-1)))
    (h : Q (.ref s.heap.objs.size) { s with heap := s.heap.push { cls := .type "tuple", data := .seq items.toList.reverse.toArray } }) (hsz : items.size ≤ sizeLine) : wpAny (model prog w) A (getItem (.ref t) (.ref sl)) Q E s := by
  have htake : sizeOk (.seq items.toList.reverse.toArray) := by
    show items.toList.reverse.toArray.size ≤ sizeLine
    rw [List.size_toArray, List.length_reverse, Array.length_toList]
    exact hsz
  obtain ⟨os, hos, hcs, hds⟩ := id hs
  have hTs : s.TypeIs (.ref sl) "slice" := ⟨os, hos, hcs⟩
  unfold getItem
  try with_reducible refine wpAny_holding ?_
  first | refine wpAny_bind (wpAny_pure ?_) | skip
  refine wpAny_bind (wpAny_sequenceKey ht.typeIs (by decide) ?_)
  refine wpAny_bind (wpAny_callSpecial?_slot (name := Str.ofString "__getitem__") ht.typeIs PyProof.Rows.slot_tuple_getitem
    (wpAny_call_entry PyProof.Rows.slot_tuple_getitem ht.typeIs entry_tuple_getitem ?_ (args_tuple_getitem _ _)))
  show wpAny _ _ (Builtin.Tuple.tupleItemsOf (.ref t) >>= _) _ _ s
  refine wpAny_bind (tupleItemsOf_ ht ?_)
  refine wpAny_bind (wpAny_typeOf hTs ?_)
  rw [if_pos (by decide)]
  refine wpAny_bind (sliceApplied_rev (n := items.size) hs pl pu ps ?_)
  have hno : ¬ ((((items.size : Int) - 1) == 0 && (-1 : Int) == 1 && items.size == items.size) = true) := by
    intro q
    rw [Bool.and_eq_true, Bool.and_eq_true] at q
    exact absurd q.1.2 (by decide)
  show wpAny _ _ (if (((items.size : Int) - 1) == 0 && (-1 : Int) == 1 && items.size == items.size) = true then _ else _) _ _ s
  rw [if_neg hno, pick_rev]
  first
    | exact wpAny_bind (m := Builtin.Tuple.tupleExact _) (wpAny_newObj_type (wpAny_pure ⟨_, rfl, wpAny_pure h⟩) htake)
    | exact wpAny_bind (m := Builtin.Tuple.tupleExact _) (wpAny_newObj_type (wpAny_bind (wpAny_pure (wpAny_pure ⟨_, rfl, wpAny_pure h⟩))) htake)
end
def tRevT (K : PySem.W.Frag) (te : TE) : TE := fun σ H Q => te σ H fun x H1 => ∃ a xs, x = .ref a ∧ ((SqL K H1 a xs ∧ ∀ p, H1 p = none → Q (.ref p) (upd H1 p (.lst xs.reverse))) ∨ (SqT K H1 a xs ∧ ∀ p, H1 p = none → Q (.ref p) (upd H1 p (.tup xs.reverse))))
theorem pe_revT {X : Cx} {e : Expr} {te : TE} {k : Nat} {p1 p2 p3 pos : Pos} (he : PE X e te) : PE X (.Subscript e (.Slice none none (some (.UnaryOp .USub (.Constant (.int 1) k p1) p2)) p3) pos) (tRevT X.K te) := by
  refine ⟨fun pins s σ H Q I h => ?_⟩
  refine Subscript_ (thn (he.run pins s σ H _ I h) fun v s1 ⟨x, H1, I1, r1, q1⟩ => ?_)
  obtain ⟨a, xs, ex, hxq⟩ := q1
  subst ex
  cases r1
  have hst : PO X (some (.UnaryOp .USub (.Constant (.int 1) k p1) p2)) (tPart (tUn (rU fun i => .int (-i)) (tC (.int 1)))) := po_some (pe_un un_neg pe_int)
  refine wpAny_Slice (thn (po_none.run pins s1 σ H1 (fun o H2 => o = none ∧ H2 = H1) I1 ⟨rfl, rfl⟩) fun vl s2 ⟨l, H2, I2, pl, el, e2⟩ => ?_)
  subst el e2
  refine thn (po_none.run pins s2 σ H2 (fun o H3 => o = none ∧ H3 = H2) I2 ⟨rfl, rfl⟩) fun vu s3 ⟨u, H3, I3, pu, eu, e3⟩ => ?_
  subst eu e3
  refine thn (hst.run pins s3 σ H3 (fun o H4 => o = some (-1) ∧ H4 = H3) I3 ⟨1, rfl, -1, rfl, rfl, rfl⟩) fun vs s4 ⟨o, H4, I4, ps, eo, e4⟩ => ?_
  subst eo e4
  have I5 : Inv X pins σ H4 { s4 with heap := s4.heap.push { cls := .type "slice", data := .fields #[vl, vu, vs] } } := I4.kept (t' := s4.toks) fun b ob q => Heap.get?_push_of_some _ q
  show wpAny (model X.prog X.w) X.A (subscriptTail e (.Slice none none (some (.UnaryOp .USub (.Constant (.int 1) k p1) p2)) p3) (.ref a) (.ref s4.heap.objs.size)) (EP X pins σ Q) X.xe { s4 with heap := s4.heap.push { cls := .type "slice", data := .fields #[vl, vu, vs] } }
  rcases hxq with ⟨hx, q⟩ | ⟨hx, q⟩
  · obtain ⟨its, r, ht, hz⟩ := I5.list hx
    have hlen := r.length
    refine tail_any (ops := [.ref a, .ref s4.heap.objs.size]) ht.isList.typeIs (PySem.slot_list_getitem.lookup) ?_ (by with_unfolding_all rfl)
    refine wpAny_getItem_list_slice ht.isList (Heap.IsSliceOf.new _ vl vu vs) pl pu ps (by decide) ?_ (by rw [List.size_toArray]; omega)
    rw [PySem.W.krv_pick]
    refine ⟨.ref _, _, I5.laid (t' := s4.toks) (o := .lst xs.reverse) (fun b ob q => Heap.get?_push_of_some _ q) (Nat.le_refl _) ?_, rfl, q _ (I5.hok.fresh (Nat.le_refl _))⟩
    exact ⟨by rw [List.length_reverse]; exact hz, _, 0, r.reverse, Heap.get?_push_size _ rfl⟩
  · obtain ⟨its, r, ht, hz⟩ := I5.tuple hx
    have hlen := r.length
    refine tail_any (ops := [.ref a, .ref s4.heap.objs.size]) ht.typeIs (PyProof.Rows.slot_tuple_getitem.lookup) ?_ (by with_unfolding_all rfl)
    refine getItem_tuple_rev ht (Heap.IsSliceOf.new _ vl vu vs) pl pu ps ?_ (by rw [List.size_toArray]; omega)
    refine ⟨.ref _, _, I5.laid (t' := s4.toks) (o := .tup xs.reverse) (fun b ob q => Heap.get?_push_of_some _ q) (Nat.le_refl _) ?_, rfl, q _ (I5.hok.fresh (Nat.le_refl _))⟩
    exact ⟨by rw [List.length_reverse]; exact hz, _, r.reverse, IsTup.new _ _⟩
/-! ### t[:0:-1] of a tuple that is not empty -/
section
variable {prog : Program} {w : World} {A : Around} {E : Value → Shared → Prop} {s : Shared}
theorem adjust_rvt (n : Nat) : Builtin.Slice.sliceAdjust none (some 0) (-1) ((n + 1 : Nat) : Int) = ((n : Int), 0) := by
  unfold Builtin.Slice.sliceAdjust
  simp
  omega
theorem places_rvt (n : Nat) : Builtin.Slice.slicePlaces (n : Int) 0 (-1) = n := by
  unfold Builtin.Slice.slicePlaces
  have h1 : ¬ ((-1 : Int) > 0) := by omega
  have h2 : (-(-1) : Int) = 1 := by decide
  simp only [h1, if_false, h2, Int.ediv_one]
  split <;> omega
theorem sliceApplied_rvt {sl : Addr} {vl vu vs : Value} {n : Nat} {Q : Int × Int × Nat → Shared → Prop} (hs : s.heap.IsSliceOf sl vl vu vs) (pl : IsPart vl none) (pu : IsPart vu (some 0)) (ps : IsPart vs (some (-1)))
    (h : Q ((n : Int), -1, n) s) : wpAny (model prog w) A (Builtin.Slice.sliceApplied (.ref sl) (pure ((n + 1 : Nat) : Int))) Q E s := by
  obtain ⟨os, hos, hcs, hds⟩ := id hs
  unfold Builtin.Slice.sliceApplied Builtin.Slice.sliceFields
  refine wpAny_bind (wpAny_bind (wpAny_field hos hds (x := vl) rfl (wpAny_bind (wpAny_field hos hds (x := vu) rfl (wpAny_bind (wpAny_field hos hds (x := vs) rfl (wpAny_pure ?_)))))))
  refine wpAny_bind (HT.slicePart_ ps ?_)
  show wpAny _ _ (if ((-1 : Int) == 0) = true then _ else _) _ _ s
  rw [if_neg (by decide)]
  refine wpAny_bind (HT.slicePart_ pl (wpAny_bind (HT.slicePart_ pu (wpAny_bind (wpAny_pure ?_)))))
  show wpAny _ _ (match Builtin.Slice.sliceAdjust none (some 0) (-1) ((n + 1 : Nat) : Int) with | (lo, hi) => pure (lo, (-1 : Int), Builtin.Slice.slicePlaces lo hi (-1))) _ _ s
  rw [adjust_rvt]
  show wpAny _ _ (pure ((n : Int), (-1 : Int), Builtin.Slice.slicePlaces (n : Int) 0 (-1))) _ _ s
  rw [places_rvt]
  exact wpAny_pure h
theorem pick_rvt (x : Value) (ys : List Value) : ((List.range ys.length).filterMap fun (m : Nat) => (x :: ys).toArray[((ys.length : Int) + (m : Int) * (-1)).toNat]?).toArray = ys.reverse.toArray := by
  congr 1
  have key : ∀ l : List Nat, (∀ m ∈ l, m < ys.length) → l.filterMap (fun (m : Nat) => (x :: ys).toArray[((ys.length : Int) + (m : Int) * (-1)).toNat]?) = l.map fun m => ys.reverse.getD m .none := by
    intro l
    induction l with
    | nil => intro _; rfl
    | cons m l ih =>
      intro h
      have hm := h m List.mem_cons_self
      have e1 : ((ys.length : Int) + (m : Int) * (-1)).toNat = (ys.length - 1 - m) + 1 := by omega
      have e2 : (x :: ys).toArray[(ys.length - 1 - m) + 1]? = some (ys.reverse.getD m .none) := by
        have h1 : m < ys.reverse.length := by simpa using hm
        rw [List.getD_eq_getElem?_getD, List.getElem?_eq_getElem h1, List.getElem_reverse]
        rw [List.getElem?_toArray, List.getElem?_cons_succ, List.getElem?_eq_getElem (by omega)]
        simp
      rw [List.filterMap_cons, e1, e2, List.map_cons, ih fun k hk => h k (List.mem_cons_of_mem _ hk)]
  rw [key _ fun m hm => List.mem_range.mp hm]
  refine List.ext_getElem? fun i => ?_
  rw [List.getElem?_map]
  by_cases hi : i < ys.length
  · rw [List.getElem?_range hi]
    have h1 : i < ys.reverse.length := by simpa using hi
    rw [List.getElem?_eq_getElem h1]
    simp only [Option.map_some, List.getD_eq_getElem?_getD, List.getElem?_eq_getElem h1, Option.getD_some]
  · rw [List.getElem?_eq_none (by simpa using hi), List.getElem?_eq_none (by simpa using hi)]
    rfl
theorem getItem_tuple_rvt {t sl : Addr} {x : Value} {ys : List Value} {vl vu vs : Value} {Q : Value → Shared → Prop} (ht : IsTup s.heap t (x :: ys).toArray) (hs : s.heap.IsSliceOf sl vl vu vs) (pl : IsPart vl none) (pu : IsPart vu (some 0)) (ps : IsPart vs (some (-1)))
    (h : Q (.ref s.heap.objs.size) { s with heap := s.heap.push { cls := .type "tuple", data := .seq ys.reverse.toArray } }) (hsz : ys.length ≤ sizeLine) : wpAny (model prog w) A (getItem (.ref t) (.ref sl)) Q E s := by
  have htake : sizeOk (.seq ys.reverse.toArray) := by
    show ys.reverse.toArray.size ≤ sizeLine
    rw [List.size_toArray, List.length_reverse]
    exact hsz
  obtain ⟨os, hos, hcs, hds⟩ := id hs
  have hTs : s.TypeIs (.ref sl) "slice" := ⟨os, hos, hcs⟩
  unfold getItem
  try with_reducible refine wpAny_holding ?_
  first | refine wpAny_bind (wpAny_pure ?_) | skip
  refine wpAny_bind (wpAny_sequenceKey ht.typeIs (by decide) ?_)
  refine wpAny_bind (wpAny_callSpecial?_slot (name := Str.ofString "__getitem__") ht.typeIs PyProof.Rows.slot_tuple_getitem
    (wpAny_call_entry PyProof.Rows.slot_tuple_getitem ht.typeIs entry_tuple_getitem ?_ (args_tuple_getitem _ _)))
  show wpAny _ _ (Builtin.Tuple.tupleItemsOf (.ref t) >>= _) _ _ s
  refine wpAny_bind (tupleItemsOf_ ht ?_)
  refine wpAny_bind (wpAny_typeOf hTs ?_)
  rw [if_pos (by decide)]
  refine wpAny_bind (sliceApplied_rvt (n := ys.length) hs pl pu ps ?_)
  have hno : ¬ (((ys.length : Int) == 0 && (-1 : Int) == 1 && ys.length == (x :: ys).toArray.size) = true) := by
    intro q
    rw [Bool.and_eq_true, Bool.and_eq_true] at q
    exact absurd q.1.2 (by decide)
  show wpAny _ _ (if ((ys.length : Int) == 0 && (-1 : Int) == 1 && ys.length == (x :: ys).toArray.size) = true then _ else _) _ _ s
  rw [if_neg hno, pick_rvt]
  first
    | exact wpAny_bind (m := Builtin.Tuple.tupleExact _) (wpAny_newObj_type (wpAny_pure ⟨_, rfl, wpAny_pure h⟩) htake)
    | exact wpAny_bind (m := Builtin.Tuple.tupleExact _) (wpAny_newObj_type (wpAny_bind (wpAny_pure (wpAny_pure ⟨_, rfl, wpAny_pure h⟩))) htake)
end
def tRvtT (K : PySem.W.Frag) (te : TE) : TE := fun σ H Q => te σ H fun x H1 => ∃ a y xs, x = .ref a ∧ SqT K H1 a (y :: xs) ∧ ∀ p, H1 p = none → Q (.ref p) (upd H1 p (.tup xs.reverse))
theorem pe_rvtT {X : Cx} {e : Expr} {te : TE} {k k0 : Nat} {p0 p1 p2 p3 pos : Pos} (he : PE X e te) : PE X (.Subscript e (.Slice none (some (.Constant (.int 0) k0 p0)) (some (.UnaryOp .USub (.Constant (.int 1) k p1) p2)) p3) pos) (tRvtT X.K te) := by
  refine ⟨fun pins s σ H Q I h => ?_⟩
  refine Subscript_ (thn (he.run pins s σ H _ I h) fun v s1 ⟨x, H1, I1, r1, q1⟩ => ?_)
  obtain ⟨a, y, xs, ex, hx, q⟩ := q1
  subst ex
  cases r1
  have hst : PO X (some (.UnaryOp .USub (.Constant (.int 1) k p1) p2)) (tPart (tUn (rU fun i => .int (-i)) (tC (.int 1)))) := po_some (pe_un un_neg pe_int)
  have hup : PO X (some (.Constant (.int 0) k0 p0)) (tPart (tC (.int 0))) := po_some pe_int
  refine wpAny_Slice (thn (po_none.run pins s1 σ H1 (fun o H2 => o = none ∧ H2 = H1) I1 ⟨rfl, rfl⟩) fun vl s2 ⟨l, H2, I2, pl, el, e2⟩ => ?_)
  subst el e2
  refine thn (hup.run pins s2 σ H2 (fun o H3 => o = some 0 ∧ H3 = H2) I2 ⟨0, rfl, rfl, rfl⟩) fun vu s3 ⟨u, H3, I3, pu, eu, e3⟩ => ?_
  subst eu e3
  refine thn (hst.run pins s3 σ H3 (fun o H4 => o = some (-1) ∧ H4 = H3) I3 ⟨1, rfl, -1, rfl, rfl, rfl⟩) fun vs s4 ⟨o, H4, I4, ps, eo, e4⟩ => ?_
  subst eo e4
  have I5 : Inv X pins σ H4 { s4 with heap := s4.heap.push { cls := .type "slice", data := .fields #[vl, vu, vs] } } := I4.kept (t' := s4.toks) fun b ob q => Heap.get?_push_of_some _ q
  show wpAny (model X.prog X.w) X.A (subscriptTail e (.Slice none (some (.Constant (.int 0) k0 p0)) (some (.UnaryOp .USub (.Constant (.int 1) k p1) p2)) p3) (.ref a) (.ref s4.heap.objs.size)) (EP X pins σ Q) X.xe { s4 with heap := s4.heap.push { cls := .type "slice", data := .fields #[vl, vu, vs] } }
  obtain ⟨its, r, ht, hz⟩ := I5.tuple hx
  have hlen := r.length
  cases its with
  | nil => simp at hlen
  | cons z its =>
    have r' : L2.Vals xs its := by cases r with | cons _ t => exact t
    have hl' := r'.length
    simp only [List.length_cons] at hz hlen
    refine tail_any (ops := [.ref a, .ref s4.heap.objs.size]) ht.typeIs (PyProof.Rows.slot_tuple_getitem.lookup) ?_ (by with_unfolding_all rfl)
    refine getItem_tuple_rvt ht (Heap.IsSliceOf.new _ vl vu vs) pl pu ps ?_ (by omega)
    refine ⟨.ref _, _, I5.laid (t' := s4.toks) (o := .tup xs.reverse) (fun b ob q => Heap.get?_push_of_some _ q) (Nat.le_refl _) ?_, rfl, q _ (I5.hok.fresh (Nat.le_refl _))⟩
    exact ⟨by rw [List.length_reverse]; omega, _, r'.reverse, IsTup.new _ _⟩
end PlE

/-! PSound1: how the values of PLang lie in the hand layer's heap; the operations. -/
namespace Pl
open PySem PyProof.Rows
open L2 (V Hp HO St VK TE TT TA TS TI TG Cx PE PT PW PA PS PSs PI PG Inv SqL SqT upd upd_same upd_ne OpR UnR CallR R2 Vals RelV EP)

/-! ### data over a heap: as the library has it, and new dicts with nothing in them -/
mutual
inductive Dp (K : PySem.W.Frag) (H : Hp) : V → PyData → Prop
  | non : Dp K H .non .none
  | bl (b : Bool) : Dp K H (.bl b) (.bool b)
  | int (i : Int) : Dp K H (.int i) (.int i)
  | str (x : Str) : Dp K H (.str x) (.str x)
  | lst {a : Addr} {xs : List V} {ds : List PyData} : SqL K H a xs → DpAll K H xs ds → Dp K H (.ref a) (.list ds)
  | tup {a : Addr} {xs : List V} {ds : List PyData} : SqT K H a xs → DpAll K H xs ds → Dp K H (.ref a) (.tuple ds)
  | dct {a : Addr} : H a = some (.dT []) → Dp K H (.ref a) (.dict [])
inductive DpAll (K : PySem.W.Frag) (H : Hp) : List V → List PyData → Prop
  | nil : DpAll K H [] []
  | cons {v : V} {vs : List V} {d : PyData} {ds : List PyData} : Dp K H v d → DpAll K H vs ds → DpAll K H (v :: vs) (d :: ds)
end
mutual
theorem Dp.lib {K : PySem.W.Frag} {H : Hp} : ∀ (d : D) (v : V), PyData.hasDict d = false → Dp K H v d → L2.Dp K H v d
  | .none, _, _, .non => .non
  | .bool _, _, _, .bl b => .bl b
  | .int _, _, _, .int i => .int i
  | .str _, _, _, .str x => .str x
  | .list ds, _, n, .lst h a => .lst h (DpAll.lib ds _ (by simpa only [PyData.hasDict] using n) a)
  | .tuple ds, _, n, .tup h a => .tup h (DpAll.lib ds _ (by simpa only [PyData.hasDict] using n) a)
  | .dict [], _, n, .dct h => by simp [PyData.hasDict] at n
theorem DpAll.lib {K : PySem.W.Frag} {H : Hp} : ∀ (ds : List D) (vs : List V), PyData.hasDictAll ds = false → DpAll K H vs ds → L2.DpAll K H vs ds
  | [], _, _, .nil => .nil
  | d :: ds, _, n, .cons h t => by
    simp only [PyData.hasDictAll, Bool.or_eq_false_iff] at n
    exact .cons (Dp.lib d _ n.1 h) (DpAll.lib ds _ n.2 t)
end
mutual
theorem noDict_of_lay : ∀ d : D, PyData.canLay0 d = true → PyData.hasDict d = false
  | .none, _ => rfl
  | .bool _, _ => rfl
  | .int _, _ => rfl
  | .str _, _ => rfl
  | .list ds, h => by rw [PyData.hasDict]; exact noDict_of_layAll ds (by simpa only [PyData.canLay0] using h)
  | .tuple ds, h => by rw [PyData.hasDict]; exact noDict_of_layAll ds (by simpa only [PyData.canLay0] using h)
  | .dict _, h => by simp [PyData.canLay0] at h
theorem noDict_of_layAll : ∀ ds : List D, PyData.canLayAll0 ds = true → PyData.hasDictAll ds = false
  | [], _ => rfl
  | d :: ds, h => by
    simp only [PyData.canLayAll0, Bool.and_eq_true] at h
    rw [PyData.hasDictAll, noDict_of_lay d h.1, noDict_of_layAll ds h.2]
    rfl
end
theorem noDict_of_shaped {d : D} (h : PySem.SeqAt.shaped d = true) : PyData.hasDict d = false := by
  unfold PySem.SeqAt.shaped at h
  rw [Bool.and_eq_true] at h
  exact noDict_of_lay d h.1

/-! ### the heap: F what stands still, H what is tracked -/
def Sub (F H : Hp) : Prop := ∀ a o, F a = some o → H a = some o
/-- all that is tracked is as it was, but the lent list -/
def Ext (au : Option Addr) (F H F' H' : Hp) : Prop := ∀ a, some a ≠ au → H a ≠ none → H' a = H a ∧ F' a = F a
def UrnR (au : Option Addr) (u : U) (F H : Hp) : Prop := ∀ a, au = some a → H a = some (.lst (u.map V.int)) ∧ F a = none

theorem Sub.refl (F : Hp) : Sub F F := fun _ _ h => h
theorem Sub.trans {F G H : Hp} (a : Sub F G) (b : Sub G H) : Sub F H := fun x o h => b x o (a x o h)
theorem Ext.refl (au : Option Addr) (F H : Hp) : Ext au F H F H := fun _ _ _ => ⟨rfl, rfl⟩
theorem Ext.trans {au : Option Addr} {F H F1 H1 F2 H2 : Hp} (a : Ext au F H F1 H1) (b : Ext au F1 H1 F2 H2) : Ext au F H F2 H2 := fun x hx hn => by
  obtain ⟨h1, h2⟩ := a x hx hn
  obtain ⟨h3, h4⟩ := b x hx (by rw [h1]; exact hn)
  exact ⟨h3.trans h1, h4.trans h2⟩
theorem Ext.wk {au : Option Addr} {F H F' H' : Hp} (a : Ext none F H F' H') : Ext au F H F' H' := fun x _ hn => a x (fun h => nomatch h) hn
theorem Ext.sub {au : Option Addr} {F H F' H' : Hp} (e : Ext au F H F' H') (s : Sub F H) (hu : ∀ a, au = some a → F a = none) : Sub F F' := fun a o h => by
  have hn : some a ≠ au := fun q => by rw [hu a q.symm] at h; cases h
  rw [(e a hn (by rw [s a o h]; exact fun q => nomatch q)).2]
  exact h
theorem UrnR.step {au : Option Addr} {u : U} {F H F' H' : Hp} (r : UrnR au u F H) (e : Ext none F H F' H') : UrnR au u F' H' := fun a ha => by
  obtain ⟨h1, h2⟩ := r a ha
  obtain ⟨h3, h4⟩ := e a (fun h => nomatch h) (by rw [h1]; exact fun q => nomatch q)
  exact ⟨h3.trans h1, h4.trans h2⟩
theorem UrnR.no {u : U} {F H : Hp} : UrnR none u F H := fun _ h => nomatch h

/-- a new object, seen by H alone -/
theorem ext_newH {F H : Hp} {p : Addr} {o : HO} (hp : H p = none) : Ext none F H F (upd H p o) := fun a _ hn =>
  ⟨upd_ne fun e => hn (e ▸ hp), rfl⟩
/-- a new object that stands still -/
theorem ext_newF {F H : Hp} {p : Addr} {o : HO} (hp : H p = none) : Ext none F H (upd F p o) (upd H p o) := fun a _ hn =>
  ⟨upd_ne fun e => hn (e ▸ hp), upd_ne fun e => hn (e ▸ hp)⟩
theorem Sub.free {F H : Hp} (s : Sub F H) {p : Addr} (hp : H p = none) : F p = none := by
  cases h : F p with
  | none => rfl
  | some o => rw [s p o h] at hp; cases hp
theorem sub_newH {F H : Hp} {p : Addr} {o : HO} (s : Sub F H) (hp : H p = none) : Sub F (upd H p o) := fun a u h => by
  rw [upd_ne fun e => by rw [e, s.free hp] at h; cases h]
  exact s a u h
theorem sub_newF {F H : Hp} {p : Addr} {o : HO} (s : Sub F H) : Sub (upd F p o) (upd H p o) := fun a u h => by
  by_cases e : a = p
  · subst e; rw [upd_same] at h ⊢; exact h
  · rw [upd_ne e] at h ⊢; exact s a u h
theorem sub_new {F : Hp} {p : Addr} {o : HO} (hp : F p = none) : Sub F (upd F p o) := fun a u h => by
  rw [upd_ne fun e => by rw [e, hp] at h; cases h]
  exact h

section
variable {K : PySem.W.Frag} {F F' H H' : Hp}
theorem sqL_sub (s : Sub F F') {a : Addr} {xs : List V} (h : SqL K F a xs) : SqL K F' a xs := by
  rcases h with (h | ⟨o, h⟩) | h
  · exact .inl (.inl (s _ _ h))
  · exact .inl (.inr ⟨o, s _ _ h⟩)
  · exact .inr h
theorem sqT_sub (s : Sub F F') {a : Addr} {xs : List V} (h : SqT K F a xs) : SqT K F' a xs := by
  rcases h with (h | ⟨o, h⟩) | h
  · exact .inl (.inl (s _ _ h))
  · exact .inl (.inr ⟨o, s _ _ h⟩)
  · exact .inr h
mutual
theorem dp_sub (s : Sub F F') : ∀ (d : D) (v : V), Dp K F v d → Dp K F' v d
  | .none, _, .non => .non
  | .bool _, _, .bl b => .bl b
  | .int _, _, .int i => .int i
  | .str _, _, .str x => .str x
  | .list ds, _, .lst h a => .lst (sqL_sub s h) (dpAll_sub s ds _ a)
  | .tuple ds, _, .tup h a => .tup (sqT_sub s h) (dpAll_sub s ds _ a)
  | .dict [], _, .dct h => .dct (s _ _ h)
theorem dpAll_sub (s : Sub F F') : ∀ (ds : List D) (vs : List V), DpAll K F vs ds → DpAll K F' vs ds
  | [], _, .nil => .nil
  | d :: ds, _, .cons h t => .cons (dp_sub s d _ h) (dpAll_sub s ds _ t)
end
theorem dpAll_len : ∀ {ds : List D} {vs : List V}, DpAll K F vs ds → vs.length = ds.length
  | _, _, .nil => rfl
  | _, _, .cons _ t => congrArg Nat.succ (dpAll_len t)
theorem dpAll_get : ∀ {ds : List D} {vs : List V} {i : Nat} {d : D}, DpAll K F vs ds → ds[i]? = some d → ∃ v, vs[i]? = some v ∧ Dp K F v d
  | _, _, i, d, .nil, h => by simp at h
  | _, _, 0, d, .cons a t, h => by simp at h; subst h; exact ⟨_, rfl, a⟩
  | _, _, i + 1, d, .cons a t, h => by
    obtain ⟨v, h1, h2⟩ := dpAll_get (i := i) t (by simpa using h)
    exact ⟨v, by simpa using h1, h2⟩
theorem dpAll_append : ∀ {ds es : List D} {vs ws : List V}, DpAll K F vs ds → DpAll K F ws es → DpAll K F (vs ++ ws) (ds ++ es)
  | _, _, _, _, .nil, h => h
  | _, _, _, _, .cons a t, h => .cons a (dpAll_append t h)
theorem dpAll_take : ∀ {ds : List D} {vs : List V} (n : Nat), DpAll K F vs ds → DpAll K F (vs.take n) (ds.take n)
  | _, _, 0, _ => .nil
  | _, _, n + 1, .nil => .nil
  | _, _, n + 1, .cons a t => .cons a (dpAll_take n t)
theorem dpAll_drop : ∀ {ds : List D} {vs : List V} (n : Nat), DpAll K F vs ds → DpAll K F (vs.drop n) (ds.drop n)
  | _, _, 0, h => h
  | _, _, n + 1, .nil => .nil
  | _, _, n + 1, .cons a t => dpAll_drop n t
theorem dpAll_set : ∀ {ds : List D} {vs : List V} {v : V} {d : D} (j : Nat), DpAll K F vs ds → Dp K F v d → DpAll K F (vs.set j v) (ds.set j d)
  | _, _, _, _, _, .nil, _ => .nil
  | _, _, _, _, 0, .cons a t, h => .cons h t
  | _, _, _, _, j + 1, .cons a t, h => .cons a (dpAll_set j t h)
theorem dpAll_rev {ds : List D} {vs : List V} (h : DpAll K F vs ds) : DpAll K F vs.reverse ds.reverse := by
  induction ds generalizing vs with
  | nil => cases h; exact .nil
  | cons d ds ih =>
    cases h with
    | cons a t => rw [List.reverse_cons, List.reverse_cons]; exact dpAll_append (ih t) (.cons a .nil)
theorem dpAll_rep {ds : List D} {vs : List V} (h : DpAll K F vs ds) : ∀ k : Nat, DpAll K F (List.replicate k vs).flatten (List.replicate k ds).flatten
  | 0 => .nil
  | k + 1 => by
    rw [List.replicate_succ, List.replicate_succ, List.flatten_cons, List.flatten_cons]
    exact dpAll_append h (dpAll_rep h k)
theorem dpAll_dropLast {ds : List D} {vs : List V} (h : DpAll K F vs ds) : DpAll K F vs.dropLast ds.dropLast := by
  rw [List.dropLast_eq_take, List.dropLast_eq_take, dpAll_len h]
  exact dpAll_take _ h
theorem dpAll_ints : ∀ {ds : List D} {vs : List V} {ns : List Int}, DpAll K F vs ds → intsOf ds = some ns → vs = ns.map V.int
  | _, _, ns, .nil, h => by simp [intsOf] at h; subst h; rfl
  | .int i :: ds, _, ns, .cons a t, h => by
    cases a
    simp only [intsOf, Option.map_eq_some_iff] at h
    obtain ⟨ms, h, rfl⟩ := h
    rw [dpAll_ints t h]; rfl
  | .none :: ds, _, ns, .cons a t, h => by simp [intsOf] at h
  | .bool _ :: ds, _, ns, .cons a t, h => by simp [intsOf] at h
  | .str _ :: ds, _, ns, .cons a t, h => by simp [intsOf] at h
  | .list _ :: ds, _, ns, .cons a t, h => by simp [intsOf] at h
  | .tuple _ :: ds, _, ns, .cons a t, h => by simp [intsOf] at h
  | .dict _ :: ds, _, ns, .cons a t, h => by simp [intsOf] at h
theorem dpAll_bools : ∀ {ds : List D} {vs : List V} {ns : List Bool}, DpAll K F vs ds → boolsOf ds = some ns → vs = ns.map V.bl
  | _, _, ns, .nil, h => by simp [boolsOf] at h; subst h; rfl
  | .bool i :: ds, _, ns, .cons a t, h => by
    cases a
    simp only [boolsOf, Option.map_eq_some_iff] at h
    obtain ⟨ms, h, rfl⟩ := h
    rw [dpAll_bools t h]; rfl
  | .none :: ds, _, ns, .cons a t, h => by simp [boolsOf] at h
  | .int _ :: ds, _, ns, .cons a t, h => by simp [boolsOf] at h
  | .str _ :: ds, _, ns, .cons a t, h => by simp [boolsOf] at h
  | .list _ :: ds, _, ns, .cons a t, h => by simp [boolsOf] at h
  | .tuple _ :: ds, _, ns, .cons a t, h => by simp [boolsOf] at h
  | .dict _ :: ds, _, ns, .cons a t, h => by simp [boolsOf] at h
theorem dp_int {v : V} {i : Int} (h : Dp K F v (.int i)) : v = .int i := by cases h; rfl
theorem dp_bool {v : V} {b : Bool} (h : Dp K F v (.bool b)) : v = .bl b := by cases h; rfl
theorem dp_list {v : V} {ds : List D} (h : Dp K F v (.list ds)) : ∃ a xs, v = .ref a ∧ SqL K F a xs ∧ DpAll K F xs ds := by
  cases h with
  | lst h a => exact ⟨_, _, rfl, h, a⟩
theorem dp_tuple {v : V} {ds : List D} (h : Dp K F v (.tuple ds)) : ∃ a xs, v = .ref a ∧ SqT K F a xs ∧ DpAll K F xs ds := by
  cases h with
  | tup h a => exact ⟨_, _, rfl, h, a⟩
theorem dpAll_of_ints (ns : List Int) : DpAll K F (ns.map V.int) (ns.map PyData.int) := by
  induction ns with
  | nil => exact .nil
  | cons n ns ih => exact .cons (.int n) ih


mutual
theorem dp_noList (hT : ∀ a xs, SqT K F a xs → SqT K F' a xs) : ∀ (d : D) (v : V), noList d = true → Dp K F v d → Dp K F' v d
  | .none, _, _, .non => .non
  | .bool _, _, _, .bl b => .bl b
  | .int _, _, _, .int i => .int i
  | .str _, _, _, .str x => .str x
  | .list ds, _, h, _ => by simp [noList] at h
  | .tuple ds, _, h, .tup q a => .tup (hT _ _ q) (dpAll_noList hT ds _ (by simpa [noList] using h) a)
theorem dpAll_noList (hT : ∀ a xs, SqT K F a xs → SqT K F' a xs) : ∀ (ds : List D) (vs : List V), noListAll ds = true → DpAll K F vs ds → DpAll K F' vs ds
  | [], _, _, .nil => .nil
  | d :: ds, _, h, .cons a t => by
    simp only [noListAll, Bool.and_eq_true] at h
    exact .cons (dp_noList hT d _ h.1 a) (dpAll_noList hT ds _ h.2 t)
end
end

/-- a result that may be a new list: the list is new, nothing else holds it -/
def Rn (K : PySem.W.Frag) (H F' H' : Hp) (v : V) : D → Prop
  | .list ds => ∃ a vs, v = .ref a ∧ H a = none ∧ F' a = none ∧ H' a = some (.lst vs) ∧ DpAll K F' vs ds
  | d => Dp K F' v d
def Rr (b : Bool) (K : PySem.W.Frag) (H F' H' : Hp) (v : V) (d : D) : Prop := if b then Rn K H F' H' v d else Dp K F' v d
theorem Rn.of {K : PySem.W.Frag} {H F' H' : Hp} {v : V} {d : D} (h : Dp K F' v d) (n : isL d = false) : Rn K H F' H' v d := by
  cases d <;> first | exact h | (simp [isL] at n)
theorem Rr.of {b : Bool} {K : PySem.W.Frag} {H F' H' : Hp} {v : V} {d : D} (h : Dp K F' v d) (n : isL d = false) : Rr b K H F' H' v d := by
  cases b
  · exact h
  · exact Rn.of h n

/-- the new list is put to what stands still -/
theorem Rr.settle {au : Option Addr} {b : Bool} {K : PySem.W.Frag} {u : U} {F H F' H' : Hp} {v : V} {d : D} (r : Rr b K H F' H' v d) (e : Ext au F H F' H') (s : Sub F' H') (hu : UrnR au u F' H')
    (h0 : ∀ a, au = some a → H a ≠ none) : ∃ F'', Ext au F H F'' H' ∧ Sub F'' H' ∧ UrnR au u F'' H' ∧ Dp K F'' v d ∧ Sub F' F'' := by
  by_cases hb : b = true ∧ isL d = true
  · obtain ⟨rfl, hl⟩ := hb
    cases d with
    | list ds =>
      obtain ⟨a, vs, rfl, h1, h2, h3, h4⟩ := r
      have sF : Sub F' (upd F' a (.lst vs)) := sub_new h2
      refine ⟨upd F' a (.lst vs), fun x hx hn => ?_, fun x o h => ?_, fun x hx => ?_, .lst (.inl (.inl upd_same)) (dpAll_sub sF _ _ h4), sF⟩
      · obtain ⟨q1, q2⟩ := e x hx hn
        exact ⟨q1, (upd_ne fun (z : x = a) => hn (by rw [z]; exact h1)).trans q2⟩
      · by_cases z : x = a
        · subst z; rw [upd_same] at h; rw [h3]; exact h
        · rw [upd_ne z] at h; exact s x o h
      · obtain ⟨q1, q2⟩ := hu x hx
        exact ⟨q1, (upd_ne fun (z : x = a) => h0 x hx (by rw [z]; exact h1)).trans q2⟩
    | _ => simp [isL] at hl
  · refine ⟨F', e, s, hu, ?_, Sub.refl _⟩
    cases b with
    | false => exact r
    | true =>
      have hn : isL d = false := by
        cases q : isL d with
        | false => rfl
        | true => exact absurd ⟨rfl, q⟩ hb
      cases d <;> first | exact r | (simp [isL] at hn)
end Pl

/-! PSound2: the operations. -/
namespace Pl
open PySem PyProof.Rows
open L2 (V Hp HO St VK TE TT TA TS TI TG Cx PE PT PW PA PS PSs PI PG Inv SqL SqT upd upd_same upd_ne OpR UnR CallR R2 Vals RelV EP)

def toOp : BOp → Operator
  | .add => .Add | .sub => .Sub | .mul => .Mult | .fdiv => .FloorDiv | .mod => .Mod | .pow => .Pow
def toCmp : COp → CmpOp
  | .eq => .Eq | .ne => .NotEq | .lt => .Lt | .le => .LtE | .gt => .Gt | .ge => .GtE | .isin => .In | .notin => .NotIn | .isN => .Is | .notN => .IsNot

/-- what an operation's answer is to be: d, over what stands still -/
def Ans (K : PySem.W.Frag) (F H : Hp) (d : D) (Q : VK) : Prop := ∀ v F' H', Ext none F H F' H' → Sub F' H' → Rn K H F' H' v d → Q v H'
theorem Ans.same {K : PySem.W.Frag} {F H : Hp} {d : D} {Q : VK} {v : V} (h : Ans K F H d Q) (s : Sub F H) (r : Dp K F v d) (n : isL d = false) : Q v H := h v F H (Ext.refl _ _ _) s (Rn.of r n)
theorem Ans.newL {K : PySem.W.Frag} {F H : Hp} {ds : List D} {Q : VK} {vs : List V} {p : Addr} (h : Ans K F H (.list ds) Q) (s : Sub F H) (r : DpAll K F vs ds) (hp : H p = none) : Q (.ref p) (upd H p (.lst vs)) :=
  h _ F _ (ext_newH hp) (sub_newH s hp) ⟨p, vs, rfl, hp, s.free hp, upd_same, r⟩
theorem Ans.newT {K : PySem.W.Frag} {F H : Hp} {ds : List D} {Q : VK} {vs : List V} {p : Addr} (h : Ans K F H (.tuple ds) Q) (s : Sub F H) (r : DpAll K F vs ds) (hp : H p = none) : Q (.ref p) (upd H p (.tup vs)) :=
  h _ (upd F p (.tup vs)) _ (ext_newF hp) (sub_newF s) (Dp.tup (.inl (.inl upd_same)) (dpAll_sub (sub_new (s.free hp)) _ _ r))
theorem Ans.newD {K : PySem.W.Frag} {F H : Hp} {Q : VK} {p : Addr} (h : Ans K F H (.dict []) Q) (s : Sub F H) (hp : H p = none) : Q (.ref p) (upd H p (.dT [])) :=
  h _ (upd F p (.dT [])) _ (ext_newF hp) (sub_newF s) (Dp.dct upd_same)
theorem sizeLine_of {n : Nat} (h : sizeOk n = true) : n ≤ sizeLine := Nat.le_trans (of_decide_eq_true h) (by decide)
theorem sizeLt_of {n : Nat} (h : sizeOk n = true) : n < sizeLine := Nat.lt_of_le_of_lt (of_decide_eq_true h) (by decide)

section
variable {X : Cx}
/-- list + list, whatever they stand in -/
theorem op_catS : OpR X (binaryOp .Add) (fun x y H Q => ∃ l b xs zs, x = .ref l ∧ y = .ref b ∧ SqL X.K H l xs ∧ SqL X.K H b zs ∧ xs.length + zs.length ≤ sizeLine ∧ ∀ p, H p = none → Q (.ref p) (upd H p (.lst (xs ++ zs)))) := by
  intro pins s σ H x y v u Q I rx ry h
  obtain ⟨l, b, xs, zs, rfl, rfl, hH, hB, hz, q⟩ := h
  cases rx
  cases ry
  obtain ⟨its, r, ⟨o, n, e, c, dd, d⟩, z⟩ := I.list hH
  obtain ⟨its2, r2, ⟨o2, n2, e2, c2, dd2, d2⟩, z2⟩ := I.list hB
  obtain ⟨oc, od, dt, sl⟩ := o
  obtain ⟨oc2, od2, dt2, sl2⟩ := o2
  simp only at c dd d c2 dd2 d2
  subst c dd d c2 dd2 d2
  have hl := r.length
  have hl2 := r2.length
  refine concat_meets ⟨_, e, rfl⟩ ⟨_, e2, rfl⟩ noFill_list_add seq_list_add PySem.F.slot_list_add PySem.F.entry_list_add (PySem.F.args_list_add_2 _ _) (list_addW l b its.toArray its2.toArray n n2 _ _ sl sl2 (by simp only [List.size_toArray]; omega)) ⟨e, e2, ?_⟩
  have ea : its.toArray ++ its2.toArray = (its ++ its2).toArray := by simp
  rw [ea]
  exact ⟨.ref _, _, I.lnew (t' := s.toks) (r.append r2) (by rw [List.length_append]; omega), rfl, q _ I.fresh⟩
theorem op_fdivS : OpR X (binaryOp .FloorDiv) (L2.rI (fun _ j => j ≠ 0 ∧ j.natAbs.log2 < 9000) fun i j => .int (i.fdiv j)) := L2.opI fun _ _ _ _ _ _ _ hc q => floordiv_int hc.1 q (.inl (PyProof.noPylong_of_log2 hc.2))
theorem call_divmodS : CallR X (.builtin "divmod") (fun xs H Q => ∃ i j, xs = [.int i, .int j] ∧ (j ≠ 0 ∧ j.natAbs.log2 < 9000) ∧ ∀ p, H p = none → Q (.ref p) (upd H p (.tup [.int (i.fdiv j), .int (i.fmod j)]))) := by
  intro pins s σ H xs us Q I r h
  obtain ⟨i, j, rfl, ⟨h1, h2⟩, q⟩ := h
  obtain ⟨u, w', rfl, ⟨t, rfl⟩, ⟨t', rfl⟩⟩ := L2.vals2 r
  refine divmod_int h1 ?_ (.inl (PyProof.noPylong_of_log2 h2))
  have hn : H s.heap.objs.size = none := I.hok.fresh (Nat.le_refl _)
  refine ⟨.ref s.heap.objs.size, _, ?_, rfl, q _ hn⟩
  refine I.laid (fun b o e => Heap.get?_push_of_some _ e) (Nat.le_refl _) ⟨by simp only [List.length_cons, List.length_nil]; rw [sizeLine_eq]; decide, [.int (i.fdiv j) s.toks, .int (i.fmod j) (s.toks + 1)], .cons ⟨_, rfl⟩ (.cons ⟨_, rfl⟩ .nil), ?_⟩
  exact ⟨_, Heap.get?_push_size s.heap rfl, rfl, 0, rfl⟩

def rB (K : PySem.W.Frag) (o : BOp) : R2 := fun x y H Q => ∃ F dx dy d, Sub F H ∧ Dp K F x dx ∧ Dp K F y dy ∧ binV o dx dy = some d ∧ Ans K F H d Q
theorem op_bin (o : BOp) : OpR X (binaryOp (toOp o)) (rB X.K o) := by
  intro pins s σ H x y v u Q I rx ry h
  obtain ⟨F, dx, dy, d, sb, hx, hy, hd, q⟩ := h
  have ii : ∀ {i j z : Int}, dx = .int i → dy = .int j → d = .int z → x = .int i ∧ y = .int j ∧ Q (.int z) H := fun {i j z} e1 e2 e3 => by
    subst e1 e2 e3
    exact ⟨dp_int hx, dp_int hy, q.same sb (.int z) rfl⟩
  cases o <;> cases dx <;> cases dy <;> simp only [binV] at hd <;> first | contradiction | skip
  · -- int + int
    cases hd
    obtain ⟨rfl, rfl, q'⟩ := ii rfl rfl rfl
    exact L2.op_add pins s σ H _ _ _ _ Q I rx ry ⟨_, _, rfl, rfl, q'⟩
  · -- list + list
    split at hd <;> first | contradiction | skip
    rename_i hz
    cases hd
    obtain ⟨a, xs, rfl, h1, h2⟩ := dp_list hx
    obtain ⟨b, ys, rfl, h3, h4⟩ := dp_list hy
    exact op_catS pins s σ H _ _ _ _ Q I rx ry ⟨a, b, xs, ys, rfl, rfl, sqL_sub sb h1, sqL_sub sb h3, by rw [dpAll_len h2, dpAll_len h4]; exact sizeLine_of hz, fun p hp => q.newL sb (dpAll_append h2 h4) hp⟩
  · -- tuple + tuple
    split at hd <;> first | contradiction | skip
    rename_i hz
    cases hd
    obtain ⟨a, xs, rfl, h1, h2⟩ := dp_tuple hx
    obtain ⟨b, ys, rfl, h3, h4⟩ := dp_tuple hy
    refine L2.op_catA pins s σ H _ _ _ _ Q I rx ry ⟨a, b, xs, ys, rfl, rfl, sqT_sub sb h1, sqT_sub sb h3, by rw [dpAll_len h2, dpAll_len h4]; exact sizeLine_of hz, fun z => ?_, fun z z2 => ?_, fun _ _ p hp => q.newT sb (dpAll_append h2 h4) hp⟩
    · subst z; cases h2; exact q.same sb hy rfl
    · subst z2; cases h4; rw [List.append_nil] at q; exact q.same sb hx rfl
  · -- int - int
    cases hd
    obtain ⟨rfl, rfl, q'⟩ := ii rfl rfl rfl
    exact L2.op_sub pins s σ H _ _ _ _ Q I rx ry ⟨_, _, rfl, rfl, q'⟩
  · -- int * int
    split at hd <;> first | contradiction | skip
    rename_i hz
    cases hd
    obtain ⟨rfl, rfl, q'⟩ := ii rfl rfl rfl
    exact L2.op_mulW pins s σ H _ _ _ _ Q I rx ry ⟨_, _, rfl, rfl, by simpa [mulOk, divOk, L2.CMulW, L2.CPow] using hz, q'⟩
  · -- tuple * int
    split at hd <;> first | contradiction | skip
    rename_i hz
    cases hd
    have hz := of_decide_eq_true hz
    obtain ⟨a, xs, rfl, h1, h2⟩ := dp_tuple hx
    obtain rfl := dp_int hy
    have hl := dpAll_len h2
    refine L2.op_repT pins s σ H _ _ _ _ Q I rx ry ⟨a, _, xs, rfl, rfl, sqT_sub sb h1, fun z => ?_, hz.1, hz.2.1, by omega, fun p hp => q.newT sb (dpAll_rep h2 _) hp⟩
    subst z
    simp only [List.length_nil] at hl
    omega
  · -- int // int
    split at hd <;> first | contradiction | skip
    rename_i hz
    cases hd
    obtain ⟨rfl, rfl, q'⟩ := ii rfl rfl rfl
    exact op_fdivS pins s σ H _ _ _ _ Q I rx ry ⟨_, _, rfl, rfl, by simpa [mulOk, divOk, L2.CMulW, L2.CPow] using hz, q'⟩
  · -- int % int
    split at hd <;> first | contradiction | skip
    rename_i hz
    cases hd
    obtain ⟨rfl, rfl, q'⟩ := ii rfl rfl rfl
    exact L2.op_modN pins s σ H _ _ _ _ Q I rx ry ⟨_, _, rfl, rfl, hz, q'⟩
  · -- int ** int
    split at hd <;> first | contradiction | skip
    rename_i hz
    cases hd
    obtain ⟨rfl, rfl, q'⟩ := ii rfl rfl rfl
    exact L2.op_pow pins s σ H _ _ _ _ Q I rx ry ⟨_, _, rfl, rfl, by simpa [mulOk, divOk, L2.CMulW, L2.CPow] using hz, q'⟩

/-! ### comparisons -/
/-- a flat answer -/
def AnsB (H : Hp) (b : Bool) (Q : VK) : Prop := Q (.bl b) H
def rC (K : PySem.W.Frag) (o : COp) : R2 := fun x y H Q => ∃ F dx dy b, Sub F H ∧ Dp K F x dx ∧ Dp K F y dy ∧ cmpV o dx dy = some b ∧ Q (.bl b) H
theorem items_list {d : D} {xs : List D} (h : items d = some xs) : d = .list xs ∨ d = .tuple xs := by
  cases d <;> simp [items] at h
  · exact .inl (by rw [h])
  · exact .inr (by rw [h])
theorem dp_none_iff {K : PySem.W.Frag} {F : Hp} {v : V} {d : D} (h : Dp K F v d) : decide (v = .non) = isNone d := by
  cases h <;> rfl
theorem room_in {A : Around} {d : D} {n : Nat} (h : PySem.SeqAt.shaped d = true) (hu : A.units + 66 < cLine) : A.units + 1 + min n d.depth < cLine := by
  have h1 := PySem.SeqAt.depth_of_shaped h
  have h2 : min n d.depth ≤ d.depth := Nat.min_le_right _ _
  omega
theorem op_cmp (o : COp) (hu : X.A.units + 66 < cLine) : OpR X (compareOp (toCmp o)) (rC X.K o) := by
  intro pins s σ H x y v u Q I rx ry h
  obtain ⟨F, dx, dy, b, sb, hx, hy, hd, q⟩ := h
  have hX := dp_sub sb _ _ hx
  have hY := dp_sub sb _ _ hy
  cases o
  case eq =>
    have hd : eqD dx dy = some b := by simpa only [cmpV] using hd
    unfold eqD at hd
    split at hd
    · cases hd
      cases hX
      cases hY
      exact L2.op_eq pins s σ H _ _ _ _ Q I rx ry ⟨rfl, by simpa using q⟩
    · split at hd <;> first | contradiction | skip
      rename_i hz
      cases hd
      rw [Bool.and_eq_true] at hz
      exact L2.op_eqD (by omega) pins s σ H _ _ _ _ Q I rx ry ⟨dx, dy, Dp.lib _ _ (noDict_of_shaped hz.1) hX, Dp.lib _ _ (noDict_of_shaped hz.2) hY, hz.1, hz.2, q⟩
  case ne =>
    have hq : (eqD dx dy).map (!·) = some b := by simpa only [cmpV] using hd
    rw [Option.map_eq_some_iff] at hq
    obtain ⟨b0, hq, e⟩ := hq
    subst e
    unfold eqD at hq
    split at hq
    · cases hq
      cases hX
      cases hY
      exact L2.op_ne pins s σ H _ _ _ _ Q I rx ry ⟨rfl, by simpa using q⟩
    · split at hq <;> first | contradiction | skip
      rename_i hz
      cases hq
      rw [Bool.and_eq_true] at hz
      exact L2.op_neD (by omega) pins s σ H _ _ _ _ Q I rx ry ⟨dx, dy, Dp.lib _ _ (noDict_of_shaped hz.1) hX, Dp.lib _ _ (noDict_of_shaped hz.2) hY, hz.1, hz.2, q⟩
  case lt =>
    cases dx <;> cases dy <;> simp only [cmpV] at hd <;> first | contradiction | skip
    cases hd; obtain rfl := dp_int hx; obtain rfl := dp_int hy
    exact L2.op_lt pins s σ H _ _ _ _ Q I rx ry ⟨_, _, rfl, rfl, q⟩
  case le =>
    cases dx <;> cases dy <;> simp only [cmpV] at hd <;> first | contradiction | skip
    cases hd; obtain rfl := dp_int hx; obtain rfl := dp_int hy
    exact L2.op_le pins s σ H _ _ _ _ Q I rx ry ⟨_, _, rfl, rfl, q⟩
  case gt =>
    cases dx <;> cases dy <;> simp only [cmpV] at hd <;> first | contradiction | skip
    cases hd; obtain rfl := dp_int hx; obtain rfl := dp_int hy
    exact L2.op_gt pins s σ H _ _ _ _ Q I rx ry ⟨_, _, rfl, rfl, q⟩
  case ge =>
    cases dx <;> cases dy <;> simp only [cmpV] at hd <;> first | contradiction | skip
    cases hd; obtain rfl := dp_int hx; obtain rfl := dp_int hy
    exact L2.op_ge pins s σ H _ _ _ _ Q I rx ry ⟨_, _, rfl, rfl, q⟩
  case isN =>
    have hdy : dy = .none ∨ ∃ p q, dx = .bool p ∧ dy = .bool q := by
      cases dy <;> first | exact .inl rfl | (cases dx <;> simp only [cmpV] at hd <;> first | contradiction | exact .inr ⟨_, _, rfl, rfl⟩)
    rcases hdy with rfl | ⟨p, p', rfl, rfl⟩
    rotate_left
    · simp only [cmpV] at hd
      cases hd
      cases hx; cases hy
      exact L2.op_is_bl pins s σ H _ _ _ _ Q I rx ry ⟨_, _, rfl, rfl, q⟩
    simp only [cmpV] at hd
    cases hd
    have e := dp_none_iff hx
    cases hy
    exact L2.op_isN pins s σ H _ _ _ _ Q I rx ry ⟨rfl, by rw [e]; exact q⟩
  case notN =>
    have hdy : dy = .none ∨ ∃ p q, dx = .bool p ∧ dy = .bool q := by
      cases dy <;> first | exact .inl rfl | (cases dx <;> simp only [cmpV] at hd <;> first | contradiction | exact .inr ⟨_, _, rfl, rfl⟩)
    rcases hdy with rfl | ⟨p, p', rfl, rfl⟩
    rotate_left
    · simp only [cmpV] at hd
      cases hd
      cases hx; cases hy
      exact L2.op_isnot_bl pins s σ H _ _ _ _ Q I rx ry ⟨_, _, rfl, rfl, q⟩
    simp only [cmpV] at hd
    cases hd
    have e := dp_none_iff hx
    cases hy
    exact L2.op_notN pins s σ H _ _ _ _ Q I rx ry ⟨rfl, by rw [e]; exact q⟩
  case isin =>
    have hd : inV false dx dy = some b := by simpa only [cmpV] using hd
    obtain ⟨xs, hi, hd⟩ := Option.bind_eq_some_iff.mp hd
    split at hd <;> first | contradiction | skip
    rename_i hz
    cases hd
    rw [Bool.and_eq_true] at hz
    obtain ⟨as, r1⟩ := L2.Dp.reads I dx x v (Dp.lib _ _ (noDict_of_shaped hz.1) hX) rx
    obtain ⟨bs, r2⟩ := L2.Dp.reads I dy y u (Dp.lib _ _ (by cases dy <;> simp only [items, Option.some.injEq] at hi <;> first | contradiction | (subst hi; rw [PyData.hasDict]; exact noDict_of_layAll _ hz.2)) hY) ry
    rcases items_list hi with e | e <;> subst e
    · exact SeqAt.in_list_reads r2 r1 hz.2 (SeqAt.canLay_of_shaped hz.1) (room_in hz.1 hu) ⟨.bl _, H, I, rfl, q⟩
    · exact SeqAt.in_tuple_reads r2 r1 hz.2 (SeqAt.canLay_of_shaped hz.1) (room_in hz.1 hu) ⟨.bl _, H, I, rfl, q⟩
  case notin =>
    have hd : inV true dx dy = some b := by simpa only [cmpV] using hd
    obtain ⟨xs, hi, hd⟩ := Option.bind_eq_some_iff.mp hd
    split at hd <;> first | contradiction | skip
    rename_i hz
    cases hd
    rw [Bool.and_eq_true] at hz
    obtain ⟨as, r1⟩ := L2.Dp.reads I dx x v (Dp.lib _ _ (noDict_of_shaped hz.1) hX) rx
    obtain ⟨bs, r2⟩ := L2.Dp.reads I dy y u (Dp.lib _ _ (by cases dy <;> simp only [items, Option.some.injEq] at hi <;> first | contradiction | (subst hi; rw [PyData.hasDict]; exact noDict_of_layAll _ hz.2)) hY) ry
    rcases items_list hi with e | e <;> subst e
    · exact SeqAt.notIn_list_reads r2 r1 hz.2 (SeqAt.canLay_of_shaped hz.1) (room_in hz.1 hu) ⟨.bl _, H, I, rfl, q⟩
    · exact SeqAt.notIn_tuple_reads r2 r1 hz.2 (SeqAt.canLay_of_shaped hz.1) (room_in hz.1 hu) ⟨.bl _, H, I, rfl, q⟩

/-! ### subscripts, slices -/
theorem atI_eq {α : Type} {xs : List α} {i : Int} {x : α} (h : atI xs i = some x) : L2.atI xs i = some x := by
  unfold atI at h
  unfold L2.atI L2.ixN
  by_cases h0 : 0 ≤ i
  · rw [if_pos h0] at h ⊢
    have hl := (List.getElem?_eq_some_iff.mp h).1
    rw [if_pos (by omega)]
    exact h
  · rw [if_neg h0] at h ⊢
    split at h <;> first | contradiction | skip
    rename_i h1
    rw [if_pos (by omega)]
    exact h
theorem atI_dp {K : PySem.W.Frag} {F : Hp} {xs : List D} {vs : List V} {i : Int} {d : D} (r : DpAll K F vs xs) (h : atI xs i = some d) : ∃ v, L2.atI vs i = some v ∧ Dp K F v d := by
  have hl := dpAll_len r
  unfold atI at h
  by_cases h0 : 0 ≤ i
  · rw [if_pos h0] at h
    obtain ⟨v, h1, h2⟩ := dpAll_get r h
    exact ⟨v, atI_eq (by unfold atI; rw [if_pos h0]; exact h1), h2⟩
  · rw [if_neg h0] at h
    split at h <;> first | contradiction | skip
    rename_i h1
    obtain ⟨v, h3, h2⟩ := dpAll_get r h
    exact ⟨v, atI_eq (by unfold atI; rw [if_neg h0, hl, if_pos h1]; exact h3), h2⟩
def rIx (K : PySem.W.Frag) : R2 := fun x y H Q => ∃ F dx dy d, Sub F H ∧ Dp K F x dx ∧ Dp K F y dy ∧ idxV dx dy = some d ∧ ∀ v, Dp K F v d → Q v H
theorem ix_any : L2.IxR X (rIx X.K) := by
  intro value slice pins s σ H x y v u Q I rx ry h hs
  obtain ⟨F, dx, dy, d, sb, hx, hy, hd, q⟩ := h
  cases dx <;> cases dy <;> simp only [idxV] at hd <;> first | contradiction | skip
  · obtain ⟨a, xs, rfl, h1, h2⟩ := dp_list hx
    obtain rfl := dp_int hy
    obtain ⟨w, h3, h4⟩ := atI_dp h2 hd
    exact L2.ix_list value slice pins s σ H _ _ _ _ Q I rx ry ⟨a, xs, _, w, rfl, rfl, sqL_sub sb h1, h3, q w h4⟩ hs
  · obtain ⟨a, xs, rfl, h1, h2⟩ := dp_tuple hx
    obtain rfl := dp_int hy
    obtain ⟨w, h3, h4⟩ := atI_dp h2 hd
    exact L2.ix_tup value slice pins s σ H _ _ _ _ Q I rx ry ⟨a, xs, _, w, rfl, rfl, sqT_sub sb h1, h3, q w h4⟩ hs
theorem sIx_eq (n d : Nat) (o : Option Int) : sIx n d o = HT.sIx n d o := by
  cases o with
  | none => rfl
  | some i => rfl
theorem cutV_dp {K : PySem.W.Frag} {F : Hp} {xs : List D} {vs : List V} {lo hi : Option Int} (r : DpAll K F vs xs) : DpAll K F (L2.cutV vs lo hi) (cut xs lo hi) := by
  unfold L2.cutV cut
  rw [sIx_eq, sIx_eq, dpAll_len r]
  exact dpAll_take _ (dpAll_drop _ r)
def rSl (K : PySem.W.Frag) : V → Option Int → Option Int → Hp → VK → Prop := fun x lo hi H Q => ∃ F dx d, Sub F H ∧ Dp K F x dx ∧ sliV dx lo hi = some d ∧ Ans K F H d Q
theorem sl_any : L2.SlR X (rSl X.K) := by
  intro pins s σ H x v vl vu lo hi sl Q I rx hs pl pu h
  obtain ⟨F, dx, d, sb, hx, hd, q⟩ := h
  cases dx <;> simp only [sliV] at hd <;> first | contradiction | skip
  · cases hd
    obtain ⟨a, xs, rfl, h1, h2⟩ := dp_list hx
    exact L2.sl_list pins s σ H _ _ _ _ _ _ _ Q I rx hs pl pu ⟨a, xs, rfl, sqL_sub sb h1, fun p hp => q.newL sb (cutV_dp h2) hp⟩
  · cases hd
    rename_i ds0
    obtain ⟨a, xs, rfl, h1, h2⟩ := dp_tuple hx
    refine L2.sl_tupA pins s σ H _ _ _ _ _ _ _ Q I rx hs pl pu ⟨a, xs, rfl, sqT_sub sb h1, fun z => ?_, fun _ p hp => q.newT sb (cutV_dp h2) hp⟩
    have e : cut ds0 lo hi = ds0 := by
      unfold cut
      rw [sIx_eq, sIx_eq, ← dpAll_len h2, z.1, z.2, List.drop_zero, Nat.sub_zero, dpAll_len h2, List.take_length]
    rw [e] at q
    exact q.same sb hx rfl
end
end Pl

/-! PSound3: built-in functions by values. -/
namespace Pl
open PySem PyProof.Rows
open L2 (V Hp HO St VK TE TT TA TS TI TG Cx PE PT PW PA PS PSs PI PG Inv SqL SqT upd upd_same upd_ne OpR UnR CallR R2 Vals RelV EP)

def rBi (K : PySem.W.Frag) (b : BI) : List V → Hp → VK → Prop := fun vs H Q => ∃ F ds d, Sub F H ∧ DpAll K F vs ds ∧ biV b ds = some d ∧ Ans K F H d Q
section
variable {X : Cx}
theorem dpAll1 {K : PySem.W.Frag} {F : Hp} {vs : List V} {d : D} (h : DpAll K F vs [d]) : ∃ v, vs = [v] ∧ Dp K F v d := by
  cases h with
  | cons a t => cases t; exact ⟨_, rfl, a⟩
theorem dpAll2 {K : PySem.W.Frag} {F : Hp} {vs : List V} {d e : D} (h : DpAll K F vs [d, e]) : ∃ v w, vs = [v, w] ∧ Dp K F v d ∧ Dp K F w e := by
  cases h with
  | cons a t => cases t with | cons b t => cases t; exact ⟨_, _, rfl, a, b⟩
theorem bi_len : CallR X (.builtin "len") (rBi X.K .len) := by
  intro pins s σ H xs us Q I r h
  obtain ⟨F, ds, d, sb, hx, hd, q⟩ := h
  unfold biV at hd
  split at hd <;> first | contradiction | skip
  all_goals cases hd
  · obtain ⟨v, rfl, hv⟩ := dpAll1 hx
    obtain ⟨a, xs, rfl, h1, h2⟩ := dp_list hv
    refine L2.call_len_seq pins s σ H _ _ Q I r ⟨a, xs, rfl, .inl (sqL_sub sb h1), ?_⟩
    rw [dpAll_len h2]
    exact q.same sb (.int _) rfl
  · obtain ⟨v, rfl, hv⟩ := dpAll1 hx
    obtain ⟨a, xs, rfl, h1, h2⟩ := dp_tuple hv
    refine L2.call_len_seq pins s σ H _ _ Q I r ⟨a, xs, rfl, .inr (sqT_sub sb h1), ?_⟩
    rw [dpAll_len h2]
    exact q.same sb (.int _) rfl
theorem bi_abs : CallR X (.builtin "abs") (rBi X.K .abs) := by
  intro pins s σ H xs us Q I r h
  obtain ⟨F, ds, d, sb, hx, hd, q⟩ := h
  unfold biV at hd
  split at hd <;> first | contradiction | skip
  cases hd
  obtain ⟨v, rfl, hv⟩ := dpAll1 hx
  obtain rfl := dp_int hv
  exact L2.call_abs pins s σ H _ _ Q I r ⟨_, rfl, q.same sb (.int _) rfl⟩
theorem bi_int : CallR X (.type "int") (rBi X.K .int) := by
  intro pins s σ H xs us Q I r h
  obtain ⟨F, ds, d, sb, hx, hd, q⟩ := h
  unfold biV at hd
  split at hd <;> first | contradiction | skip
  all_goals cases hd
  · obtain ⟨v, rfl, hv⟩ := dpAll1 hx
    obtain rfl := dp_int hv
    exact L2.call_int1 pins s σ H _ _ Q I r (.inl ⟨_, rfl, q.same sb (.int _) rfl⟩)
  · obtain ⟨v, rfl, hv⟩ := dpAll1 hx
    obtain rfl := dp_bool hv
    exact L2.call_int1 pins s σ H _ _ Q I r (.inr ⟨_, rfl, q.same sb (.int _) rfl⟩)
theorem bi_tuple : CallR X (.type "tuple") (rBi X.K .tuple) := by
  intro pins s σ H xs us Q I r h
  obtain ⟨F, ds, d, sb, hx, hd, q⟩ := h
  unfold biV at hd
  split at hd <;> first | contradiction | skip
  all_goals cases hd
  · obtain ⟨v, rfl, hv⟩ := dpAll1 hx
    obtain ⟨a, xs, rfl, h1, h2⟩ := dp_list hv
    exact L2.call_tuple_of pins s σ H _ _ Q I r ⟨a, xs, rfl, .inl ⟨sqL_sub sb h1, fun p hp => q.newT sb h2 hp⟩⟩
  · obtain ⟨v, rfl, hv⟩ := dpAll1 hx
    obtain ⟨a, xs, rfl, h1, h2⟩ := dp_tuple hv
    exact L2.call_tuple_of pins s σ H _ _ Q I r ⟨a, xs, rfl, .inr ⟨sqT_sub sb h1, q.same sb (.tup h1 h2) rfl⟩⟩
theorem bi_list : CallR X (.type "list") (rBi X.K .list) := by
  intro pins s σ H xs us Q I r h
  obtain ⟨F, ds, d, sb, hx, hd, q⟩ := h
  unfold biV at hd
  split at hd <;> first | contradiction | skip
  all_goals cases hd
  · obtain ⟨v, rfl, hv⟩ := dpAll1 hx
    obtain ⟨a, xs, rfl, h1, h2⟩ := dp_list hv
    exact L2.call_list_of pins s σ H _ _ Q I r ⟨a, xs, rfl, .inl (sqL_sub sb h1), fun p hp => q.newL sb h2 hp⟩
  · obtain ⟨v, rfl, hv⟩ := dpAll1 hx
    obtain ⟨a, xs, rfl, h1, h2⟩ := dp_tuple hv
    exact L2.call_list_of pins s σ H _ _ Q I r ⟨a, xs, rfl, .inr (sqT_sub sb h1), fun p hp => q.newL sb h2 hp⟩
theorem bi_all (hc : X.calm = true) : CallR X (.builtin "all") (rBi X.K .all) := by
  intro pins s σ H xs us Q I r h
  obtain ⟨F, ds, d, sb, hx, hd, q⟩ := h
  unfold biV at hd
  split at hd <;> first | contradiction | skip
  simp only [Option.map_eq_some_iff] at hd
  obtain ⟨bs, hb, rfl⟩ := hd
  obtain ⟨v, rfl, hv⟩ := dpAll1 hx
  obtain ⟨a, xs, rfl, h1, h2⟩ := dp_list hv
  obtain rfl := dpAll_bools h2 hb
  exact L2.cr_all hc pins s σ H _ _ Q I r ⟨a, bs, rfl, sqL_sub sb h1, q.same sb (.bl _) rfl⟩
theorem bi_any (hc : X.calm = true) : CallR X (.builtin "any") (rBi X.K .any) := by
  intro pins s σ H xs us Q I r h
  obtain ⟨F, ds, d, sb, hx, hd, q⟩ := h
  unfold biV at hd
  split at hd <;> first | contradiction | skip
  simp only [Option.map_eq_some_iff] at hd
  obtain ⟨bs, hb, rfl⟩ := hd
  obtain ⟨v, rfl, hv⟩ := dpAll1 hx
  obtain ⟨a, xs, rfl, h1, h2⟩ := dp_list hv
  obtain rfl := dpAll_bools h2 hb
  exact L2.cr_any hc pins s σ H _ _ Q I r ⟨a, bs, rfl, sqL_sub sb h1, q.same sb (.bl _) rfl⟩
theorem bi_sum (hc : X.calm = true) : CallR X (.builtin "sum") (rBi X.K .sum) := by
  intro pins s σ H xs us Q I r h
  obtain ⟨F, ds, d, sb, hx, hd, q⟩ := h
  unfold biV at hd
  split at hd <;> first | contradiction | skip
  simp only [Option.map_eq_some_iff] at hd
  obtain ⟨bs, hb, rfl⟩ := hd
  obtain ⟨v, rfl, hv⟩ := dpAll1 hx
  obtain ⟨a, xs, rfl, h1, h2⟩ := dp_list hv
  obtain rfl := dpAll_ints h2 hb
  exact L2.cr_sum hc pins s σ H _ _ Q I r ⟨a, bs, rfl, sqL_sub sb h1, q.same sb (.int _) rfl⟩
theorem bi_sorted : CallR X (.builtin "sorted") (rBi X.K .sorted) := by
  intro pins s σ H xs us Q I r h
  obtain ⟨F, ds, d, sb, hx, hd, q⟩ := h
  unfold biV at hd
  split at hd <;> first | contradiction | skip
  simp only [Option.map_eq_some_iff] at hd
  obtain ⟨ns, hb, rfl⟩ := hd
  obtain ⟨v, rfl, hv⟩ := dpAll1 hx
  obtain ⟨a, xs, rfl, h1, h2⟩ := dp_list hv
  obtain rfl := dpAll_ints h2 hb
  exact L2.cr_sortedI pins s σ H _ _ Q I r ⟨a, ns, rfl, sqL_sub sb h1, fun ns' p hp hs hn => by
    rw [srtI_one (hp.trans (sortI_perm ns).symm) hs (sortI_srt ns)]
    exact q.newL sb (dpAll_of_ints _) hn⟩
theorem bi_max1 (hc : X.calm = true) : CallR X (.builtin "max") (rBi X.K .max1) := by
  intro pins s σ H xs us Q I r h
  obtain ⟨F, ds, d, sb, hx, hd, q⟩ := h
  unfold biV at hd
  split at hd <;> first | contradiction | skip
  simp only [Option.map_eq_some_iff, Option.bind_eq_some_iff] at hd
  obtain ⟨m, ⟨ns, hb, hm⟩, rfl⟩ := hd
  obtain ⟨v, rfl, hv⟩ := dpAll1 hx
  obtain ⟨a, xs, rfl, h1, h2⟩ := dp_list hv
  obtain rfl := dpAll_ints h2 hb
  obtain ⟨m1, m2⟩ := maxI_ok hm
  exact L2.cr_max hc pins s σ H _ _ Q I r ⟨a, ns, rfl, sqL_sub sb h1, List.length_pos_of_mem m1, fun k k1 k2 => by
    have a1 := k2 m m1
    have a2 := m2 k k1
    have : k = m := by omega
    subst this
    exact q.same sb (.int _) rfl⟩
theorem bi_min1 (hc : X.calm = true) : CallR X (.builtin "min") (rBi X.K .min1) := by
  intro pins s σ H xs us Q I r h
  obtain ⟨F, ds, d, sb, hx, hd, q⟩ := h
  unfold biV at hd
  split at hd <;> first | contradiction | skip
  simp only [Option.map_eq_some_iff, Option.bind_eq_some_iff] at hd
  obtain ⟨m, ⟨ns, hb, hm⟩, rfl⟩ := hd
  obtain ⟨v, rfl, hv⟩ := dpAll1 hx
  obtain ⟨a, xs, rfl, h1, h2⟩ := dp_list hv
  obtain rfl := dpAll_ints h2 hb
  obtain ⟨m1, m2⟩ := minI_ok hm
  exact L2.cr_min hc pins s σ H _ _ Q I r ⟨a, ns, rfl, sqL_sub sb h1, List.length_pos_of_mem m1, fun k k1 k2 => by
    have a1 := k2 m m1
    have a2 := m2 k k1
    have : k = m := by omega
    subst this
    exact q.same sb (.int _) rfl⟩
theorem bi_max2 (hc : X.calm = true) : CallR X (.builtin "max") (rBi X.K .max2) := by
  intro pins s σ H xs us Q I r h
  obtain ⟨F, ds, d, sb, hx, hd, q⟩ := h
  unfold biV at hd
  split at hd <;> first | contradiction | skip
  cases hd
  obtain ⟨v, w, rfl, hv, hw⟩ := dpAll2 hx
  obtain rfl := dp_int hv
  obtain rfl := dp_int hw
  exact L2.call_max2 hc pins s σ H _ _ Q I r ⟨_, _, rfl, q.same sb (.int _) rfl⟩
theorem bi_min2 (hc : X.calm = true) : CallR X (.builtin "min") (rBi X.K .min2) := by
  intro pins s σ H xs us Q I r h
  obtain ⟨F, ds, d, sb, hx, hd, q⟩ := h
  unfold biV at hd
  split at hd <;> first | contradiction | skip
  cases hd
  obtain ⟨v, w, rfl, hv, hw⟩ := dpAll2 hx
  obtain rfl := dp_int hv
  obtain rfl := dp_int hw
  exact L2.call_min2 hc pins s σ H _ _ Q I r ⟨_, _, rfl, q.same sb (.int _) rfl⟩
theorem bi_divmod : CallR X (.builtin "divmod") (rBi X.K .divmod) := by
  intro pins s σ H xs us Q I r h
  obtain ⟨F, ds, d, sb, hx, hd, q⟩ := h
  unfold biV at hd
  split at hd <;> first | contradiction | skip
  split at hd <;> first | contradiction | skip
  rename_i hz
  cases hd
  obtain ⟨v, w, rfl, hv, hw⟩ := dpAll2 hx
  obtain rfl := dp_int hv
  obtain rfl := dp_int hw
  exact call_divmodS pins s σ H _ _ Q I r ⟨_, _, rfl, of_decide_eq_true hz, fun p hp => q.newT sb (.cons (.int _) (.cons (.int _) .nil)) hp⟩
theorem bi_gcd : CallR X (.builtin "math.gcd") (rBi X.K .gcd) := by
  intro pins s σ H xs us Q I r h
  obtain ⟨F, ds, d, sb, hx, hd, q⟩ := h
  unfold biV at hd
  split at hd <;> first | contradiction | skip
  cases hd
  obtain ⟨v, w, rfl, hv, hw⟩ := dpAll2 hx
  obtain rfl := dp_int hv
  obtain rfl := dp_int hw
  exact L2.cr_gcd pins s σ H _ _ Q I r ⟨_, _, rfl, q.same sb (.int _) rfl⟩
theorem join_le : ∀ ts : List Str, (Str.join ", " ts).length ≤ piled ts
  | [] => Nat.zero_le _
  | t :: ts => by have := join_length_add (t :: ts) (by simp); omega
theorem textFrom_le : ∀ (ts : List Str) (k : Nat) (acc : Str), (textFrom k acc ts).length ≤ acc.length + piled ts
  | [], k, acc => Nat.le_add_right _ _
  | t :: ts, k, acc => by
    unfold textFrom
    refine Nat.le_trans (textFrom_le ts (k + 1) _) ?_
    rw [strLen_append, strLen_append, piled_cons]
    have : (((if k > 0 then ", " else "" : String) : Str)).length ≤ 2 := by split <;> decide
    omega
theorem len_tuple (ts : List Str) : (tupleText ts).length ≤ piled ts + 3 := by
  unfold tupleText
  rw [strLen_append, strLen_append]
  have e1 : ((("(" : String) : Str)).length = 1 := rfl
  have e3 : (((if ts.length == 1 then ",)" else ")" : String) : Str)).length ≤ 2 := by split <;> decide
  have := join_le ts
  omega
theorem len_list (ts : List Str) : (listText ts).length ≤ piled ts + 2 := by
  unfold listText
  rw [strLen_append]
  have e1 : ((("]" : String) : Str)).length = 1 := rfl
  have e2 : ((("[" : String) : Str)).length = 1 := rfl
  have := textFrom_le ts 0 "["
  omega
mutual
theorem shown_len : ∀ d : D, d.showable = true → d.hasDict = false → d.shown.length ≤ cw d
  | .none, _, _ => by show ((("None" : String) : Str)).length ≤ 4; decide
  | .bool b, _, _ => by cases b <;> (show (((_ : String) : Str)).length ≤ 5; decide)
  | .int i, h, _ => by
    simp only [PyData.showable, decide_eq_true_eq] at h
    simp only [PyData.shown, cw]
    exact int_text_len_1921 h
  | .str x, _, _ => Nat.le_refl _
  | .list xs, h, k => by
    simp only [PyData.shown, cw]
    have := shownAll_len xs (by simpa only [PyData.showable] using h) (by simpa only [PyData.hasDict] using k)
    have := len_list (PyData.shownAll xs)
    omega
  | .tuple xs, h, k => by
    simp only [PyData.shown, cw]
    have := shownAll_len xs (by simpa only [PyData.showable] using h) (by simpa only [PyData.hasDict] using k)
    have := len_tuple (PyData.shownAll xs)
    omega
  | .dict _, _, k => by simp [PyData.hasDict] at k
theorem shownAll_len : ∀ ds : List D, PyData.showableAll ds = true → PyData.hasDictAll ds = false → piled (PyData.shownAll ds) ≤ cwAll ds
  | [], _, _ => Nat.le_refl _
  | d :: ds, h, k => by
    simp only [PyData.showableAll, Bool.and_eq_true] at h
    simp only [PyData.hasDictAll, Bool.or_eq_false_iff] at k
    simp only [PyData.shownAll, cwAll]
    rw [piled_cons]
    have := shown_len d h.1 k.1
    have := shownAll_len ds h.2 k.2
    omega
end
theorem bi_repr (hg : X.A.guards = some []) (hu : X.A.units + 66 < cLine) : CallR X (.builtin "repr") (rBi X.K .repr) := by
  intro pins s σ H xs us Q I r h
  obtain ⟨F, ds, d, sb, hx, hd, q⟩ := h
  unfold biV at hd
  split at hd <;> first | contradiction | skip
  rename_i d0 _
  split at hd <;> first | contradiction | skip
  rename_i hz
  cases hd
  simp only [Bool.and_eq_true, decide_eq_true_eq, Bool.not_eq_true'] at hz
  obtain ⟨⟨⟨z1, z2⟩, z3⟩, z40⟩ := hz
  have z4 : d0.shown.length ≤ sizeLine := Nat.le_trans (shown_len d0 z1 z2) z40
  obtain ⟨v, rfl, hv⟩ := dpAll1 hx
  obtain ⟨u, rfl, ru⟩ := L2.vals1 r
  have q' := q.same sb (.str d0.shown) rfl
  obtain ⟨as, rd⟩ := L2.Dp.reads I d0 v u (Dp.lib _ _ z2 (dp_sub sb _ _ hv)) ru
  have big : ∀ a, u = .ref a → wpAny (model X.prog X.w) X.A (call (.builtin "repr") [u]) (EP X pins σ Q) X.xe s := fun a e => by
    subst e
    exact repr_of_reads' rd z1 (PyData.noDict_hsm z2) hg (by omega) (fun _ _ e => e) (fun h' u tk hk => ⟨.str _, H, I.kept hk, ⟨_, rfl⟩, q'⟩) z4
  cases hv with
  | non => cases ru; exact PySem.P.repr_of_none ⟨.str _, H, I.tok _, ⟨_, rfl⟩, q'⟩
  | bl b => cases ru; exact PySem.P.repr_of_bool ⟨.str _, H, I.tok _, ⟨_, rfl⟩, q'⟩
  | int i =>
    obtain ⟨t, rfl⟩ := ru
    exact PySem.P.repr_of_int (by simpa [PyData.showable] using z1) ⟨.str _, H, I.tok _, ⟨_, rfl⟩, q'⟩
  | str x =>
    obtain ⟨t, rfl⟩ := ru
    exact PySem.P.repr_of_str ⟨.str _, H, I.tok _, ⟨_, rfl⟩, q'⟩ (by simpa only [PyData.shown] using z4)
  | lst h1 h2 => exact big _ ru
  | tup h1 h2 => exact big _ ru
  | dct h1 => simp [PyData.hasDict] at z2

/-! ### isinstance(x, T) -/
def tyName : D → String
  | .none => "NoneType" | .bool _ => "bool" | .int _ => "int" | .str _ => "str" | .list _ => "list" | .tuple _ => "tuple" | .dict _ => "dict"
theorem tyX_list {K : PySem.W.Frag} {H : Hp} {a : Addr} {xs : List V} (h : SqL K H a xs) : L2.TyX K H (.ref a) (.type "list") := by
  rcases h with (h | ⟨o, h⟩) | ⟨o, its, n, h, c, _⟩
  · exact .base (.lst h)
  · exact .base (.frz h)
  · exact .kList h c
theorem tyX_tuple {K : PySem.W.Frag} {H : Hp} {a : Addr} {xs : List V} (h : SqT K H a xs) : L2.TyX K H (.ref a) (.type "tuple") := by
  rcases h with (h | ⟨o, h⟩) | ⟨o, its, n, h, c, _⟩
  · exact .base (.tup h)
  · exact .fTuple h
  · exact .kTuple h c
theorem tyX_dp {K : PySem.W.Frag} {H : Hp} {v : V} {d : D} (h : Dp K H v d) : L2.TyX K H v (.type (tyName d)) := by
  cases h with
  | non => exact .base .non
  | bl b => exact .base (.bl b)
  | int i => exact .base (.int i)
  | str x => exact .base (.str x)
  | lst h _ => exact tyX_list h
  | tup h _ => exact tyX_tuple h
  | dct h => exact .base (.dT h)
def rIsi (K : PySem.W.Frag) (T : String) (b : BI) : List V → Hp → VK → Prop := fun vs H Q => ∃ F v d z, Sub F H ∧ vs = [v, .ty T] ∧ Dp K F v d ∧ biV b [d] = some (.bool z) ∧ Q (.bl z) H
theorem isi_of (T : String) (b : BI) (k : ∀ (K : PySem.W.Frag) (d : D) (z : Bool), biV b [d] = some (.bool z) → PySem.W.kitOne K (.type (tyName d)) (.type T) = some z) : CallR X (.builtin "isinstance") (rIsi X.K T b) := by
  intro pins s σ H xs us Q I r h
  obtain ⟨F, v, d, z, sb, rfl, hv, hd, q⟩ := h
  exact L2.call_isi pins s σ H _ _ Q I r ⟨v, .ty T, _, _, z, rfl, .ty T, tyX_dp (dp_sub sb _ _ hv), k _ d z hd, q⟩
theorem isi_int : CallR X (.builtin "isinstance") (rIsi X.K "int" .isInt) := isi_of _ _ fun K d z h => by
  cases d <;> simp only [biV, Option.some.injEq, PyData.bool.injEq] at h <;> first | contradiction | (subst h; exact L2.kit_ty (by simp only [tyName]; decide +kernel))
theorem isi_bool : CallR X (.builtin "isinstance") (rIsi X.K "bool" .isBool) := isi_of _ _ fun K d z h => by
  cases d <;> simp only [biV, Option.some.injEq, PyData.bool.injEq] at h <;> first | contradiction | (subst h; exact L2.kit_ty (by simp only [tyName]; decide +kernel))
theorem isi_tuple : CallR X (.builtin "isinstance") (rIsi X.K "tuple" .isTuple) := isi_of _ _ fun K d z h => by
  cases d <;> simp only [biV, Option.some.injEq, PyData.bool.injEq] at h <;> first | contradiction | (subst h; exact L2.kit_ty (by simp only [tyName]; decide +kernel))
theorem isi_list : CallR X (.builtin "isinstance") (rIsi X.K "list" .isList) := isi_of _ _ fun K d z h => by
  cases d <;> simp only [biV, Option.some.injEq, PyData.bool.injEq] at h <;> first | contradiction | (subst h; exact L2.kit_ty (by simp only [tyName]; decide +kernel))
theorem isi_str : CallR X (.builtin "isinstance") (rIsi X.K "str" .isStr) := isi_of _ _ fun K d z h => by
  cases d <;> simp only [biV, Option.some.injEq, PyData.bool.injEq] at h <;> first | contradiction | (subst h; exact L2.kit_ty (by simp only [tyName]; decide +kernel))
end
end Pl

/-! PSound4: expressions. -/
namespace Pl
open PySem
open L2 (V Hp HO St VK TE TT TA TS TI TG Cx PE PT PW PA PS PSs PI PG Inv SqL SqT upd upd_same upd_ne OpR UnR CallR R2 Vals RelV EP Gl Vis)

structure At (K : PySem.W.Frag) (au : Option Addr) (σ : St) (H F : Hp) (env : Env) (u : U) (is : List Nat) : Prop where
  sub : Sub F H
  urn : UrnR au u F H
  s0 : ∀ a, au = some a → σ[0]? = some (some (.ref a))
  len : env.length = σ.length
  env : ∀ i ∈ is, ∀ d, getV env i = some d → ∃ v, σ[i]? = some (some v) ∧ Dp K F v d
structure Post (au : Option Addr) (F H F' H' : Hp) (u' : U) : Prop where
  ext : Ext au F H F' H'
  sub : Sub F' H'
  urn : UrnR au u' F' H'
section
variable {K : PySem.W.Frag} {au : Option Addr} {σ : St} {H F H1 F1 H2 F2 : Hp} {env : Env} {u u1 u2 : U} {is js : List Nat}
theorem UrnR.hu (r : UrnR au u F H) : ∀ a, au = some a → F a = none := fun a h => (r a h).2
theorem UrnR.hh (r : UrnR au u F H) : ∀ a, au = some a → H a ≠ none := fun a h => by rw [(r a h).1]; exact fun q => nomatch q
theorem At.subF (A : At K au σ H F env u is) (P : Post au F H F1 H1 u1) : Sub F F1 := P.ext.sub A.sub A.urn.hu
theorem At.step (A : At K au σ H F env u is) (P : Post au F H F1 H1 u1) : At K au σ H1 F1 env u1 is :=
  ⟨P.sub, P.urn, A.s0, A.len, fun i hi d h => by
    obtain ⟨v, h1, h2⟩ := A.env i hi d h
    exact ⟨v, h1, dp_sub (A.subF P) _ _ h2⟩⟩
theorem At.mono (A : At K au σ H F env u is) (h : ∀ i ∈ js, i ∈ is) : At K au σ H F env u js := ⟨A.sub, A.urn, A.s0, A.len, fun i hi => A.env i (h i hi)⟩
theorem At.l (A : At K au σ H F env u (is ++ js)) : At K au σ H F env u is := A.mono fun _ h => List.mem_append_left _ h
theorem At.r (A : At K au σ H F env u (is ++ js)) : At K au σ H F env u js := A.mono fun _ h => List.mem_append_right _ h
theorem Post.trans (a : Post au F H F1 H1 u1) (b : Post au F1 H1 F2 H2 u2) : Post au F H F2 H2 u2 := ⟨a.ext.trans b.ext, b.sub, b.urn⟩
theorem At.post (A : At K au σ H F env u is) : Post au F H F H u := ⟨Ext.refl _ _ _, A.sub, A.urn⟩
/-- behind an operation that leaves the lent list -/
theorem Post.of (r : UrnR au u F H) (e : Ext none F H F1 H1) (s : Sub F1 H1) : Post au F H F1 H1 u := ⟨e.wk, s, r.step e⟩
end

def wpE (b : Bool) (K : PySem.W.Frag) (C : Ctx) (au : Option Addr) (p : E) : TE := fun σ H Q =>
  ∃ F env u d u', At K au σ H F env u (fvE p) ∧ evalE C p env u = some (d, u') ∧ ∀ v F' H', Post au F H F' H' u' → Rr b K H F' H' v d → Q v H'
def wpT (K : PySem.W.Frag) (C : Ctx) (au : Option Addr) (p : E) : TT := fun σ H Q =>
  ∃ F env u b u', At K au σ H F env u (fvE p) ∧ evalE C p env u = some (.bool b, u') ∧ ∀ F' H', Post au F H F' H' u' → Q b H'
def wpEs (K : PySem.W.Frag) (C : Ctx) (au : Option Addr) (p : Es) : TA := fun σ H Q =>
  ∃ F env u ds u', At K au σ H F env u (fvEs p) ∧ evalEs C p env u = some (ds, u') ∧ ∀ vs F' H', Post au F H F' H' u' → DpAll K F' vs ds → Q vs H'
def wpO (K : PySem.W.Frag) (C : Ctx) (au : Option Addr) (p : Eo) : L2.TO := fun σ H Q =>
  ∃ F env u o u', At K au σ H F env u (fvEo p) ∧ evalEo C p env u = some (o, u') ∧ ∀ F' H', Post au F H F' H' u' → Q o H'

section
variable {X : Cx}
theorem _root_.L2.PE.imp {e : Expr} {t t' : TE} (h : PE X e t) (k : ∀ σ H Q, t' σ H Q → t σ H Q) : PE X e t' := ⟨fun pins s σ H Q I hw => h.run pins s σ H Q I (k _ _ _ hw)⟩
theorem _root_.L2.PT.imp {e : Expr} {t t' : TT} (h : PT X e t) (k : ∀ σ H Q, t' σ H Q → t σ H Q) : PT X e t' := ⟨fun pins s σ H Q I hw => h.run pins s σ H Q I (k _ _ _ hw)⟩
theorem _root_.L2.PW.imp {e : Expr} {t t' : TT} (h : PW X e t) (k : ∀ σ H Q, t' σ H Q → t σ H Q) : PW X e t' := ⟨fun wh pins s σ H Q I hw => h.run wh pins s σ H Q I (k _ _ _ hw)⟩
theorem _root_.L2.PA.imp {e : List Expr} {t t' : TA} (h : PA X e t) (k : ∀ σ H Q, t' σ H Q → t σ H Q) : PA X e t' := ⟨fun pos pins s σ H Q I hw => h.run pos pins s σ H Q I (k _ _ _ hw)⟩
theorem _root_.L2.PS.imp {e : Stmt} {t t' : TS} (h : PS X e t) (k : ∀ D σ H, t' D σ H → t D σ H) : PS X e t' := ⟨fun pins s σ H D I hw => h.run pins s σ H D I (k _ _ _ hw)⟩
theorem _root_.L2.PSs.imp {e : List Stmt} {t t' : TS} (h : PSs X e t) (k : ∀ D σ H, t' D σ H → t D σ H) : PSs X e t' := ⟨fun pins s σ H D I hw => h.run pins s σ H D I (k _ _ _ hw)⟩
theorem _root_.L2.PI.imp {tg e : Expr} {t t' : TI} (h : PI X tg e t) (k : ∀ σ H R, t' σ H R → t σ H R) : PI X tg e t' := ⟨fun pins s σ H R I hw => h.run pins s σ H R I (k _ _ _ hw)⟩
theorem _root_.L2.PO.imp {e : Option Expr} {t t' : L2.TO} (h : L2.PO X e t) (k : ∀ σ H Q, t' σ H Q → t σ H Q) : L2.PO X e t' := ⟨fun pins s σ H Q I hw => h.run pins s σ H Q I (k _ _ _ hw)⟩
end

/-- an expression and what it means; ff: the defs that hand back new lists; au: the lent list -/
structure Sim (X : Cx) (C : Ctx) (ff : String → Bool) (au : Option Addr) (e : Expr) (p : E) : Prop where
  raw : PE X e (wpE (fk ff p) X.K C au p)
structure SimT (X : Cx) (C : Ctx) (au : Option Addr) (e : Expr) (p : E) : Prop where
  t : PT X e (wpT X.K C au p)
structure SimW (X : Cx) (C : Ctx) (au : Option Addr) (e : Expr) (p : E) : Prop where
  t : PW X e (wpT X.K C au p)
structure SimA (X : Cx) (C : Ctx) (au : Option Addr) (es : List Expr) (p : Es) : Prop where
  t : PA X es (wpEs X.K C au p)
structure SimO (X : Cx) (C : Ctx) (au : Option Addr) (e : Option Expr) (p : Eo) : Prop where
  t : L2.PO X e (wpO X.K C au p)

section
variable {X : Cx} {C : Ctx} {ff : String → Bool} {au : Option Addr} {e a b c : Expr} {es : List Expr} {p pa pb pc : E} {ps : Es} {pos : Pos}
theorem Sim.pl (h : Sim X C ff au e p) : PE X e (wpE false X.K C au p) := h.raw.imp fun σ H Q ⟨F, env, u, d, u', A, ev, k⟩ => by
  refine ⟨F, env, u, d, u', A, ev, fun v F' H' P r => ?_⟩
  obtain ⟨F2, e2, s2, r2, dp, _⟩ := r.settle P.ext P.sub P.urn A.urn.hh
  exact k v F2 H' ⟨e2, s2, r2⟩ dp
/-- where nothing new is handed back -/
theorem sim_pl (hk : fk ff p = false) (h : PE X e (wpE false X.K C au p)) : Sim X C ff au e p := ⟨by rw [hk]; exact h⟩
/-- an expression's value, of its own ways -/
theorem Sim.bo (h : Sim X C ff au e p) : PE X e (fun σ H Q => ∃ F env u b u', At X.K au σ H F env u (fvE p) ∧ evalE C p env u = some (.bool b, u') ∧ ∀ F' H', Post au F H F' H' u' → Q (.bl b) H') :=
  h.pl.imp fun σ H Q ⟨F, env, u, b, u', A, ev, k⟩ => ⟨F, env, u, .bool b, u', A, ev, fun v F' H' P r => by
    obtain rfl := dp_bool r
    exact k F' H' P⟩
theorem simT_of (h : Sim X C ff au e p) (he : ∀ whole, isTrue e X.env whole = (do let v ← whole; standAt e.pos; holding [v] (truthy v))) : SimT X C au e p :=
  ⟨L2.PT.imp (L2.pt_val h.pl he) fun σ H Q ⟨F, env, u, b, u', A, ev, k⟩ => ⟨F, env, u, .bool b, u', A, ev, fun v F' H' P r => ⟨b, dp_bool r, k F' H' P⟩⟩⟩

/-! ### names, constants -/
theorem sim_var {i : Nat} {x : Str} (h : PE X (.Name x pos) (L2.tVar i)) : Sim X C ff au (.Name x pos) (.var i) := sim_pl rfl (h.imp fun σ H Q ⟨F, env, u, d, u', A, ev, k⟩ => by
  simp only [evalE] at ev
  obtain ⟨d0, e1, ev⟩ := Option.bind_eq_some_iff.mp ev
  cases ev
  obtain ⟨v, h1, h2⟩ := A.env i (by simp [fvE]) _ e1
  exact ⟨v, h1, k v F H A.post h2⟩)
theorem sim_int {i : Int} {j : Nat} : Sim X C ff au (.Constant (.int i) j pos) (.lit (.int i)) := sim_pl rfl (L2.pe_int.imp fun σ H Q ⟨F, env, u, d, u', A, ev, k⟩ => by
  simp only [evalE, litV, Option.bind_some, Option.some.injEq, Prod.mk.injEq] at ev
  obtain ⟨rfl, rfl⟩ := ev
  exact k _ F H A.post (.int i))
theorem sim_bool {i : Bool} {j : Nat} : Sim X C ff au (.Constant (.bool i) j pos) (.lit (.bool i)) := sim_pl rfl (L2.pe_bl.imp fun σ H Q ⟨F, env, u, d, u', A, ev, k⟩ => by
  simp only [evalE, litV, Option.bind_some, Option.some.injEq, Prod.mk.injEq] at ev
  obtain ⟨rfl, rfl⟩ := ev
  exact k _ F H A.post (.bl i))
theorem sim_none {j : Nat} : Sim X C ff au (.Constant .none j pos) (.lit .none) := sim_pl rfl (L2.pe_non.imp fun σ H Q ⟨F, env, u, d, u', A, ev, k⟩ => by
  simp only [evalE, litV, Option.bind_some, Option.some.injEq, Prod.mk.injEq] at ev
  obtain ⟨rfl, rfl⟩ := ev
  exact k _ F H A.post .non)
theorem sim_str {i : Str} {j : Nat} : Sim X C ff au (.Constant (.str i) j pos) (.lit (.str i)) := sim_pl rfl (L2.pe_str.imp fun σ H Q ⟨F, env, u, d, u', A, ev, k⟩ => by
  simp only [evalE, litV, Option.bind_some, Option.some.injEq, Prod.mk.injEq] at ev
  obtain ⟨rfl, rfl⟩ := ev
  exact k _ F H A.post (.str i))
/-- a constant of the module -/
theorem sim_glob {x : Str} {n : String} {v : V} {d : D} (h : PE X (.Name x pos) (L2.tC v)) (hc : C.glob n = some d) (hd : ∀ F, Dp X.K F v d) : Sim X C ff au (.Name x pos) (.glob n) := sim_pl rfl (h.imp fun σ H Q ⟨F, env, u, d, u', A, ev, k⟩ => by
  simp only [evalE, hc, Option.bind_some, Option.some.injEq, Prod.mk.injEq] at ev
  obtain ⟨rfl, rfl⟩ := ev
  exact k _ F H A.post (hd F))

/-! ### operations -/
theorem Post.grow {F H F2 H2 : Hp} {u2 : U} (P : Post au F H F2 H2 u2) {q : Addr} (hq : H q ≠ none) : H2 q ≠ none := by
  by_cases hz : some q = au
  · exact P.urn.hh q hz.symm
  · rw [(P.ext q hz hq).1]; exact hq
theorem Rn.back {K : PySem.W.Frag} {H H2 F' H' : Hp} {z : V} {d : D} (r : Rn K H2 F' H' z d) (g : ∀ q, H q ≠ none → H2 q ≠ none) : Rn K H F' H' z d := by
  cases d with
  | list ds =>
    obtain ⟨p, vs, h1, h2, h3⟩ := r
    refine ⟨p, vs, h1, ?_, h3⟩
    cases q : H p with
    | none => rfl
    | some o => exact absurd h2 (g p (by rw [q]; exact fun z => nomatch z))
  | _ => exact r
theorem Rr.back {b : Bool} {K : PySem.W.Frag} {H H2 F' H' : Hp} {z : V} {d : D} (r : Rr b K H2 F' H' z d) (g : ∀ q, H q ≠ none → H2 q ≠ none) : Rr b K H F' H' z d := by
  cases b with
  | false => exact r
  | true => exact Rn.back r g
/-- an answer of an operation, as an expression's -/
theorem ans_of {K : PySem.W.Frag} {F H F2 H2 : Hp} {u2 : U} {d : D} {Q : VK} (P : Post au F H F2 H2 u2) (k : ∀ v F' H', Post au F H F' H' u2 → Rr true K H F' H' v d → Q v H') : Ans K F2 H2 d Q := fun z F' H' e s r =>
  k z F' H' (P.trans (Post.of P.urn e s)) (Rn.back r fun _ hq => P.grow hq)

theorem sim_bin (o : BOp) (ha : Sim X C ff au a pa) (hb : Sim X C ff au b pb) : PE X (.BinOp a (toOp o) b pos) (wpE true X.K C au (.bin o pa pb)) :=
  (L2.pe_op (op_bin o) ha.pl hb.pl).imp fun σ H Q ⟨F, env, u, d, u', A, ev, k⟩ => by
    simp only [evalE] at ev
    obtain ⟨⟨da, u1⟩, e1, ev⟩ := Option.bind_eq_some_iff.mp ev
    obtain ⟨⟨db, u2⟩, e2, ev⟩ := Option.bind_eq_some_iff.mp ev
    obtain ⟨d0, e3, ev⟩ := Option.bind_eq_some_iff.mp ev
    cases ev
    refine ⟨F, env, u, da, u1, A.l, e1, fun v F1 H1 P1 r1 => ?_⟩
    have A1 := A.step P1
    refine ⟨F1, env, u1, db, u2, A1.r, e2, fun w F2 H2 P2 r2 => ?_⟩
    exact ⟨F2, da, db, d, P2.sub, dp_sub (A1.subF P2) _ _ r1, r2, e3, ans_of (P1.trans P2) k⟩
/-- of what no list comes -/
theorem down_of {e : Expr} {p : E} (h : PE X e (wpE true X.K C au p)) (hk : ∀ env u d u', evalE C p env u = some (d, u') → isL d = false) : PE X e (wpE false X.K C au p) := h.imp fun σ H Q ⟨F, env, u, d, u', A, ev, k⟩ =>
  ⟨F, env, u, d, u', A, ev, fun v F' H' P r => k v F' H' P (by
    have n := hk _ _ _ _ ev
    cases d <;> first | exact r | simp [isL] at n)⟩
theorem bin_noL {o : BOp} (h : o ≠ .add) : ∀ env u d u', evalE C (.bin o pa pb) env u = some (d, u') → isL d = false := by
  intro env u d u' ev
  simp only [evalE] at ev
  obtain ⟨⟨da, u1⟩, e1, ev⟩ := Option.bind_eq_some_iff.mp ev
  obtain ⟨⟨db, u2⟩, e2, ev⟩ := Option.bind_eq_some_iff.mp ev
  obtain ⟨d0, e3, ev⟩ := Option.bind_eq_some_iff.mp ev
  cases ev
  simp only at e3
  cases o <;> first | exact absurd rfl h | skip
  all_goals (cases da <;> cases db <;> simp only [binV] at e3 <;> first | contradiction | (cases e3; rfl) | (split at e3 <;> first | contradiction | (cases e3; rfl)))
theorem sim_add (ha : Sim X C ff au a pa) (hb : Sim X C ff au b pb) : Sim X C ff au (.BinOp a .Add b pos) (.bin .add pa pb) := ⟨sim_bin .add ha hb⟩
theorem sim_sub (ha : Sim X C ff au a pa) (hb : Sim X C ff au b pb) : Sim X C ff au (.BinOp a .Sub b pos) (.bin .sub pa pb) := sim_pl rfl (down_of (sim_bin .sub ha hb) (bin_noL (by decide)))
theorem sim_mul (ha : Sim X C ff au a pa) (hb : Sim X C ff au b pb) : Sim X C ff au (.BinOp a .Mult b pos) (.bin .mul pa pb) := sim_pl rfl (down_of (sim_bin .mul ha hb) (bin_noL (by decide)))
theorem sim_fdiv (ha : Sim X C ff au a pa) (hb : Sim X C ff au b pb) : Sim X C ff au (.BinOp a .FloorDiv b pos) (.bin .fdiv pa pb) := sim_pl rfl (down_of (sim_bin .fdiv ha hb) (bin_noL (by decide)))
theorem sim_mod (ha : Sim X C ff au a pa) (hb : Sim X C ff au b pb) : Sim X C ff au (.BinOp a .Mod b pos) (.bin .mod pa pb) := sim_pl rfl (down_of (sim_bin .mod ha hb) (bin_noL (by decide)))
theorem sim_pow (ha : Sim X C ff au a pa) (hb : Sim X C ff au b pb) : Sim X C ff au (.BinOp a .Pow b pos) (.bin .pow pa pb) := sim_pl rfl (down_of (sim_bin .pow ha hb) (bin_noL (by decide)))
theorem sim_neg (ha : Sim X C ff au a pa) : Sim X C ff au (.UnaryOp .USub a pos) (.neg pa) := sim_pl rfl ((L2.pe_un L2.un_neg ha.pl).imp fun σ H Q ⟨F, env, u, d, u', A, ev, k⟩ => by
  simp only [evalE] at ev
  obtain ⟨⟨da, u1⟩, e1, ev⟩ := Option.bind_eq_some_iff.mp ev
  refine ⟨F, env, u, da, u1, A, e1, fun v F1 H1 P1 r1 => ?_⟩
  cases da <;> simp only at ev <;> first | contradiction | skip
  cases ev
  obtain rfl := dp_int r1
  exact ⟨_, rfl, k _ F1 H1 P1 (.int _)⟩)

/-! ### comparisons -/
theorem cmp_imp {o : COp} {σ : St} {H : Hp} {Q : VK} (h : wpE false X.K C au (.cmp o pa pb) σ H Q) : L2.tOp (rC X.K o) (wpE false X.K C au pa) (wpE false X.K C au pb) σ H Q := by
  obtain ⟨F, env, u, d, u', A, ev, k⟩ := h
  simp only [evalE] at ev
  obtain ⟨⟨da, u1⟩, e1, ev⟩ := Option.bind_eq_some_iff.mp ev
  obtain ⟨⟨db, u2⟩, e2, ev⟩ := Option.bind_eq_some_iff.mp ev
  obtain ⟨d0, e3, ev⟩ := Option.bind_eq_some_iff.mp ev
  cases ev
  refine ⟨F, env, u, da, u1, A.l, e1, fun v F1 H1 P1 r1 => ?_⟩
  have A1 := A.step P1
  refine ⟨F1, env, u1, db, _, A1.r, e2, fun w F2 H2 P2 r2 => ?_⟩
  exact ⟨F2, da, db, d0, P2.sub, dp_sub (A1.subF P2) _ _ r1, r2, e3, k _ F2 H2 (P1.trans P2) (.bl _)⟩
theorem sim_cmp (o : COp) (hu : X.A.units + 66 < cLine) (ha : Sim X C ff au a pa) (hb : Sim X C ff au b pb) (hm : behindInMarks (toCmp o) b = false) : Sim X C ff au (.Compare a [toCmp o] [b] pos) (.cmp o pa pb) :=
  sim_pl rfl ((L2.pe_cmpR (op_cmp o hu) ha.pl hb.pl hm).imp fun _ _ _ h => cmp_imp h)
theorem simT_cmp (o : COp) (hu : X.A.units + 66 < cLine) (ha : Sim X C ff au a pa) (hb : Sim X C ff au b pb) (hm : behindInMarks (toCmp o) b = false) : SimT X C au (.Compare a [toCmp o] [b] pos) (.cmp o pa pb) :=
  ⟨L2.PT.imp (L2.pt_cmpR (op_cmp o hu) ha.pl hb.pl hm) fun σ H Q ⟨F, env, u, b, u', A, ev, k⟩ => cmp_imp ⟨F, env, u, .bool b, u', A, ev, fun v F' H' P r => ⟨b, dp_bool r, k F' H' P⟩⟩⟩
theorem chain_imp {o1 o2 : COp} {σ : St} {H : Hp} {Q : VK} (h : wpE false X.K C au (.chain o1 o2 pa pb pc) σ H Q) : L2.tChain (rC X.K o1) (rC X.K o2) (wpE false X.K C au pa) (wpE false X.K C au pb) (wpE false X.K C au pc) σ H Q := by
  obtain ⟨F, env, u, d, u', A, ev, k⟩ := h
  simp only [evalE] at ev
  obtain ⟨⟨da, u1⟩, e1, ev⟩ := Option.bind_eq_some_iff.mp ev
  obtain ⟨⟨db, u2⟩, e2, ev⟩ := Option.bind_eq_some_iff.mp ev
  obtain ⟨d0, e3, ev⟩ := Option.bind_eq_some_iff.mp ev
  refine ⟨F, env, u, da, u1, A.l, e1, fun v F1 H1 P1 r1 => ?_⟩
  have A1 := A.step P1
  refine ⟨F1, env, u1, db, u2, A1.r.l, e2, fun w F2 H2 P2 r2 => ?_⟩
  have A2 := A1.step P2
  refine ⟨F2, da, db, d0, P2.sub, dp_sub (A1.subF P2) _ _ r1, r2, e3, d0, rfl, ?_⟩
  cases d0 with
  | false =>
    rw [if_neg Bool.false_ne_true] at ev ⊢
    cases ev
    exact k _ F2 H2 (P1.trans P2) (.bl _)
  | true =>
    rw [if_pos rfl] at ev ⊢
    obtain ⟨⟨dc, u3⟩, e4, ev⟩ := Option.bind_eq_some_iff.mp ev
    obtain ⟨d2, e5, ev⟩ := Option.bind_eq_some_iff.mp ev
    cases ev
    refine ⟨F2, env, u2, dc, _, A2.r.r, e4, fun z F3 H3 P3 r3 => ?_⟩
    exact ⟨F3, db, dc, d2, P3.sub, dp_sub (A2.subF P3) _ _ r2, r3, e5, k _ F3 H3 ((P1.trans P2).trans P3) (.bl _)⟩
theorem sim_chain (o1 o2 : COp) (hu : X.A.units + 66 < cLine) (ha : Sim X C ff au a pa) (hb : Sim X C ff au b pb) (hc : Sim X C ff au c pc) (hm : lastMarks [toCmp o1, toCmp o2] [b, c] = false) : Sim X C ff au (.Compare a [toCmp o1, toCmp o2] [b, c] pos) (.chain o1 o2 pa pb pc) :=
  sim_pl rfl ((L2.pe_chain (op_cmp o1 hu) (op_cmp o2 hu) ha.pl hb.pl hc.pl hm).imp fun _ _ _ h => chain_imp h)
theorem simT_chain (o1 o2 : COp) (hu : X.A.units + 66 < cLine) (ha : Sim X C ff au a pa) (hb : Sim X C ff au b pb) (hc : Sim X C ff au c pc) (hm : lastMarks [toCmp o1, toCmp o2] [b, c] = false) : SimT X C au (.Compare a [toCmp o1, toCmp o2] [b, c] pos) (.chain o1 o2 pa pb pc) :=
  ⟨L2.PT.imp (L2.pt_chain (op_cmp o1 hu) (op_cmp o2 hu) ha.pl hb.pl hc.pl hm) fun σ H Q ⟨F, env, u, b, u', A, ev, k⟩ => chain_imp ⟨F, env, u, .bool b, u', A, ev, fun v F' H' P r => ⟨b, dp_bool r, k F' H' P⟩⟩⟩

/-! ### and, or, not, if -/
theorem simW_and1 (ha : SimT X C au a pa) : SimW X C au (.BoolOp .And [a] pos) pa := ⟨L2.pw_and1 ha.t⟩
theorem simW_or1 (ha : SimT X C au a pa) : SimW X C au (.BoolOp .Or [a] pos) pa := ⟨L2.pw_or1 ha.t⟩
theorem simT_W (h : SimW X C au e p) : SimT X C au e p := ⟨h.t.pt⟩
theorem simW_and (ha : SimT X C au a pa) (hb : SimW X C au (.BoolOp .And (b :: es) pos) pb) : SimW X C au (.BoolOp .And (a :: b :: es) pos) (.and pa pb) :=
  ⟨L2.PW.imp (L2.pw_and ha.t hb.t) fun σ H Q ⟨F, env, u, d, u', A, ev, k⟩ => by
    simp only [evalE] at ev
    obtain ⟨⟨da, u1⟩, e1, ev⟩ := Option.bind_eq_some_iff.mp ev
    cases da <;> simp only at ev <;> first | contradiction | skip
    rename_i c
    refine ⟨F, env, u, c, u1, A.l, e1, fun F1 H1 P1 => ?_⟩
    cases c with
    | false =>
      rw [if_neg Bool.false_ne_true] at ev ⊢
      cases ev
      exact k F1 H1 P1
    | true =>
      rw [if_pos rfl] at ev ⊢
      obtain ⟨⟨db, u2⟩, e2, ev⟩ := Option.bind_eq_some_iff.mp ev
      cases db <;> simp only at ev <;> first | contradiction | skip
      cases ev
      exact ⟨F1, env, u1, _, _, (A.step P1).r, e2, fun F2 H2 P2 => k F2 H2 (P1.trans P2)⟩⟩
theorem simW_or (ha : SimT X C au a pa) (hb : SimW X C au (.BoolOp .Or (b :: es) pos) pb) : SimW X C au (.BoolOp .Or (a :: b :: es) pos) (.or pa pb) :=
  ⟨L2.PW.imp (L2.pw_or ha.t hb.t) fun σ H Q ⟨F, env, u, d, u', A, ev, k⟩ => by
    simp only [evalE] at ev
    obtain ⟨⟨da, u1⟩, e1, ev⟩ := Option.bind_eq_some_iff.mp ev
    cases da <;> simp only at ev <;> first | contradiction | skip
    rename_i c
    refine ⟨F, env, u, c, u1, A.l, e1, fun F1 H1 P1 => ?_⟩
    cases c with
    | true =>
      rw [if_pos rfl] at ev ⊢
      cases ev
      exact k F1 H1 P1
    | false =>
      rw [if_neg Bool.false_ne_true] at ev ⊢
      obtain ⟨⟨db, u2⟩, e2, ev⟩ := Option.bind_eq_some_iff.mp ev
      cases db <;> simp only at ev <;> first | contradiction | skip
      cases ev
      exact ⟨F1, env, u1, _, _, (A.step P1).r, e2, fun F2 H2 P2 => k F2 H2 (P1.trans P2)⟩⟩
theorem simT_not (ha : SimT X C au a pa) : SimT X C au (.UnaryOp .Not a pos) (.not pa) :=
  ⟨L2.PT.imp (L2.pt_not ha.t) fun σ H Q ⟨F, env, u, d, u', A, ev, k⟩ => by
    simp only [evalE] at ev
    obtain ⟨⟨da, u1⟩, e1, ev⟩ := Option.bind_eq_some_iff.mp ev
    cases da <;> simp only at ev <;> first | contradiction | skip
    cases ev
    exact ⟨F, env, u, _, _, A, e1, fun F1 H1 P1 => k F1 H1 P1⟩⟩
theorem sim_not (ha : Sim X C ff au a pa) : Sim X C ff au (.UnaryOp .Not a pos) (.not pa) := sim_pl rfl ((L2.pe_not ha.bo).imp fun σ H Q ⟨F, env, u, d, u', A, ev, k⟩ => by
    simp only [evalE] at ev
    obtain ⟨⟨da, u1⟩, e1, ev⟩ := Option.bind_eq_some_iff.mp ev
    cases da <;> simp only at ev <;> first | contradiction | skip
    cases ev
    exact ⟨F, env, u, _, _, A, e1, fun F1 H1 P1 => ⟨_, rfl, k _ F1 H1 P1 (.bl _)⟩⟩)
theorem sim_one {op : BoolOp} (hb : Sim X C ff au b pb) (hk : fk ff pb = false) : Sim X C ff au (.BoolOp op [b] pos) pb := sim_pl hk (L2.pe_one hb.pl)
theorem sim_and (ha : Sim X C ff au a pa) (hb : Sim X C ff au (.BoolOp .And (b :: es) pos) pb) : Sim X C ff au (.BoolOp .And (a :: b :: es) pos) (.and pa pb) :=
  sim_pl rfl ((L2.pe_and ha.bo hb.bo).imp fun σ H Q ⟨F, env, u, d, u', A, ev, k⟩ => by
    simp only [evalE] at ev
    obtain ⟨⟨da, u1⟩, e1, ev⟩ := Option.bind_eq_some_iff.mp ev
    cases da <;> simp only at ev <;> first | contradiction | skip
    rename_i c
    refine ⟨F, env, u, c, u1, A.l, e1, fun F1 H1 P1 => ⟨c, rfl, ?_⟩⟩
    cases c with
    | false =>
      rw [if_neg Bool.false_ne_true] at ev ⊢
      cases ev
      exact k _ F1 H1 P1 (.bl _)
    | true =>
      rw [if_pos rfl] at ev ⊢
      obtain ⟨⟨db, u2⟩, e2, ev⟩ := Option.bind_eq_some_iff.mp ev
      cases db <;> simp only at ev <;> first | contradiction | skip
      cases ev
      exact ⟨F1, env, u1, _, _, (A.step P1).r, e2, fun F2 H2 P2 => k _ F2 H2 (P1.trans P2) (.bl _)⟩)
theorem sim_or (ha : Sim X C ff au a pa) (hb : Sim X C ff au (.BoolOp .Or (b :: es) pos) pb) : Sim X C ff au (.BoolOp .Or (a :: b :: es) pos) (.or pa pb) :=
  sim_pl rfl ((L2.pe_or ha.bo hb.bo).imp fun σ H Q ⟨F, env, u, d, u', A, ev, k⟩ => by
    simp only [evalE] at ev
    obtain ⟨⟨da, u1⟩, e1, ev⟩ := Option.bind_eq_some_iff.mp ev
    cases da <;> simp only at ev <;> first | contradiction | skip
    rename_i c
    refine ⟨F, env, u, c, u1, A.l, e1, fun F1 H1 P1 => ⟨c, rfl, ?_⟩⟩
    cases c with
    | true =>
      rw [if_pos rfl] at ev ⊢
      cases ev
      exact k _ F1 H1 P1 (.bl _)
    | false =>
      rw [if_neg Bool.false_ne_true] at ev ⊢
      obtain ⟨⟨db, u2⟩, e2, ev⟩ := Option.bind_eq_some_iff.mp ev
      cases db <;> simp only at ev <;> first | contradiction | skip
      cases ev
      exact ⟨F1, env, u1, _, _, (A.step P1).r, e2, fun F2 H2 P2 => k _ F2 H2 (P1.trans P2) (.bl _)⟩)
/-- at the wish b -/
theorem Sim.at_ (h : Sim X C ff au e p) (b : Bool) (hb : b = true → fk ff p = true) : PE X e (wpE b X.K C au p) := by
  cases b with
  | false => exact h.pl
  | true => rw [← hb rfl]; exact h.raw
theorem sim_ite (hc : SimT X C au c pc) (ha : Sim X C ff au a pa) (hb : Sim X C ff au b pb) : Sim X C ff au (.IfExp c a b pos) (.ite pc pa pb) :=
  ⟨(L2.pe_ifExp hc.t (ha.at_ (fk ff (.ite pc pa pb)) fun h => by simp only [fk, Bool.and_eq_true] at h; exact h.1) (hb.at_ (fk ff (.ite pc pa pb)) fun h => by simp only [fk, Bool.and_eq_true] at h; exact h.2)).imp fun σ H Q ⟨F, env, u, d, u', A, ev, k⟩ => by
    simp only [evalE] at ev
    obtain ⟨⟨da, u1⟩, e1, ev⟩ := Option.bind_eq_some_iff.mp ev
    cases da <;> simp only at ev <;> first | contradiction | skip
    rename_i c
    refine ⟨F, env, u, c, u1, A.l, e1, fun F1 H1 P1 => ?_⟩
    cases c with
    | true =>
      rw [if_pos rfl] at ev ⊢
      exact ⟨F1, env, u1, d, u', (A.step P1).r.l, ev, fun v F2 H2 P2 r => k v F2 H2 (P1.trans P2) (r.back fun _ hq => P1.grow hq)⟩
    | false =>
      rw [if_neg Bool.false_ne_true] at ev ⊢
      exact ⟨F1, env, u1, d, u', (A.step P1).r.r, ev, fun v F2 H2 P2 r => k v F2 H2 (P1.trans P2) (r.back fun _ hq => P1.grow hq)⟩⟩
theorem simT_ite (hc : SimT X C au c pc) (ha : SimT X C au a pa) (hb : SimT X C au b pb) (h : ∀ {t : TT}, (∀ σ H Q, t σ H Q → wpT X.K C au pc σ H fun k H1 => if k = true then wpT X.K C au pa σ H1 Q else wpT X.K C au pb σ H1 Q) → PT X (.IfExp c a b pos) t) : SimT X C au (.IfExp c a b pos) (.ite pc pa pb) :=
  ⟨h fun σ H Q ⟨F, env, u, d, u', A, ev, k⟩ => by
    simp only [evalE] at ev
    obtain ⟨⟨da, u1⟩, e1, ev⟩ := Option.bind_eq_some_iff.mp ev
    cases da <;> simp only at ev <;> first | contradiction | skip
    rename_i c
    refine ⟨F, env, u, c, u1, A.l, e1, fun F1 H1 P1 => ?_⟩
    cases c with
    | true =>
      rw [if_pos rfl] at ev ⊢
      exact ⟨F1, env, u1, d, u', (A.step P1).r.l, ev, fun F2 H2 P2 => k F2 H2 (P1.trans P2)⟩
    | false =>
      rw [if_neg Bool.false_ne_true] at ev ⊢
      exact ⟨F1, env, u1, d, u', (A.step P1).r.r, ev, fun F2 H2 P2 => k F2 H2 (P1.trans P2)⟩⟩

/-! ### displays, subscripts, slices -/
theorem simA_nil : SimA X C au [] .nil := ⟨L2.PA.imp L2.pa_nil fun σ H Q ⟨F, env, u, d, u', A, ev, k⟩ => by
  simp only [evalEs, Option.some.injEq, Prod.mk.injEq] at ev
  obtain ⟨rfl, rfl⟩ := ev
  exact k [] F H A.post .nil⟩
theorem simA_cons (ha : Sim X C ff au a pa) (hs : SimA X C au es ps) (hst : starEach (a :: es) X.env = (false, eval a X.env) :: starEach es X.env) : SimA X C au (a :: es) (.cons pa ps) :=
  ⟨L2.PA.imp (L2.pa_cons ha.pl hs.t hst) fun σ H Q ⟨F, env, u, d, u', A, ev, k⟩ => by
    simp only [evalEs] at ev
    obtain ⟨⟨da, u1⟩, e1, ev⟩ := Option.bind_eq_some_iff.mp ev
    obtain ⟨⟨ds, u2⟩, e2, ev⟩ := Option.bind_eq_some_iff.mp ev
    cases ev
    refine ⟨F, env, u, da, u1, A.l, e1, fun v F1 H1 P1 r1 => ?_⟩
    have A1 := A.step P1
    refine ⟨F1, env, u1, ds, u2, A1.r, e2, fun vs F2 H2 P2 r2 => ?_⟩
    exact k _ F2 H2 (P1.trans P2) (.cons (dp_sub (A1.subF P2) _ _ r1) r2)⟩
theorem sim_tup (hs : SimA X C au es ps) {j : Nat} : Sim X C ff au (.Tuple es j pos) (.tup ps) := sim_pl rfl ((L2.pe_tup hs.t).imp fun σ H Q ⟨F, env, u, d, u', A, ev, k⟩ => by
  simp only [evalE] at ev
  obtain ⟨⟨ds, u1⟩, e1, ev⟩ := Option.bind_eq_some_iff.mp ev
  split at ev <;> first | contradiction | skip
  rename_i hz
  cases ev
  refine ⟨F, env, u, ds, _, A, e1, fun vs F1 H1 P1 r1 => ⟨by rw [dpAll_len r1]; exact sizeLine_of hz, fun p hp => ?_⟩⟩
  exact (ans_of (K := X.K) (d := .tuple ds) P1 fun v F' H' P r => k v F' H' P r).newT P1.sub r1 hp)
theorem sim_dict0 : Sim X C ff au (.Dict [] [] pos) .dict0 := sim_pl rfl (L2.pe_dnewT.imp fun σ H Q ⟨F, env, u, d, u', A, ev, k⟩ => by
  simp only [evalE, Option.some.injEq, Prod.mk.injEq] at ev
  obtain ⟨rfl, rfl⟩ := ev
  exact fun p hp => (ans_of (K := X.K) (d := .dict []) A.post fun v F' H' P r => k v F' H' P r).newD A.sub hp)
theorem sim_lst (hs : SimA X C au es ps) : Sim X C ff au (.List es pos) (.lst ps) := ⟨(L2.pe_lst hs.t).imp fun σ H Q ⟨F, env, u, d, u', A, ev, k⟩ => by
  simp only [evalE] at ev
  obtain ⟨⟨ds, u1⟩, e1, ev⟩ := Option.bind_eq_some_iff.mp ev
  split at ev <;> first | contradiction | skip
  rename_i hz
  cases ev
  refine ⟨F, env, u, ds, _, A, e1, fun vs F1 H1 P1 r1 => ⟨by rw [dpAll_len r1]; exact sizeLine_of hz, fun p hp => ?_⟩⟩
  exact (ans_of P1 k).newL P1.sub r1 hp⟩
theorem sim_rep {pos2 : Pos} (hs : SimA X C au es ps) (hb : Sim X C ff au b pb) : Sim X C ff au (.BinOp (.List es pos2) .Mult b pos) (.rep ps pb) := ⟨(L2.pe_op L2.op_rep (L2.pe_lst hs.t) hb.pl).imp fun σ H Q ⟨F, env, u, d, u', A, ev, k⟩ => by
  simp only [evalE] at ev
  obtain ⟨⟨ds, u1⟩, e1, ev⟩ := Option.bind_eq_some_iff.mp ev
  obtain ⟨⟨dn, u2⟩, e2, ev⟩ := Option.bind_eq_some_iff.mp ev
  cases dn <;> simp only at ev <;> first | contradiction | skip
  split at ev <;> first | contradiction | skip
  rename_i hz
  cases ev
  simp only [Bool.and_eq_true, decide_eq_true_eq] at hz
  obtain ⟨⟨⟨z1, z2⟩, z3⟩, z4⟩ := hz
  refine ⟨F, env, u, ds, u1, A.l, e1, fun vs F1 H1 P1 r1 => ⟨by rw [dpAll_len r1]; exact sizeLine_of z3, fun p hp => ?_⟩⟩
  have A1 := A.step P1
  have hpa : ∀ a, au = some a → a ≠ p := fun a ha e => P1.urn.hh a ha (e ▸ hp)
  have A2 : At X.K au σ (upd H1 p (.lst vs)) F1 env u1 (fvEs ps ++ fvE pb) := ⟨sub_newH P1.sub hp, fun a ha => by rw [upd_ne (hpa a ha)]; exact P1.urn a ha, A1.s0, A1.len, A1.env⟩
  refine ⟨F1, env, u1, _, _, A2.r, e2, fun w F2 H2 P2 r2 => ?_⟩
  obtain rfl := dp_int r2
  have q2 := (P2.ext p (fun e => hpa p e.symm rfl) (by rw [upd_same]; exact fun z => nomatch z))
  rw [upd_same] at q2
  have P12 : Post au F H F2 H2 _ := P1.trans ⟨fun x hx hn => by
    have hxp : x ≠ p := fun e => hn (e ▸ hp)
    have := P2.ext x hx (by rw [upd_ne hxp]; exact hn)
    rw [upd_ne hxp] at this
    exact this, P2.sub, P2.urn⟩
  refine ⟨p, _, vs, rfl, rfl, q2.1, by omega, by omega, by rw [dpAll_len r1]; exact sizeLine_of z4, fun r hr => ?_⟩
  exact (ans_of P12 k).newL P12.sub (dpAll_rep (dpAll_sub (A2.subF P2) _ _ r1) _) hr⟩
theorem sim_idx (ha : Sim X C ff au a pa) (hb : Sim X C ff au b pb) (hs : L2.PlainIx b) : Sim X C ff au (.Subscript a b pos) (.idx pa pb) := sim_pl rfl ((L2.pe_ix ix_any ha.pl hb.pl hs).imp fun σ H Q ⟨F, env, u, d, u', A, ev, k⟩ => by
  simp only [evalE] at ev
  obtain ⟨⟨da, u1⟩, e1, ev⟩ := Option.bind_eq_some_iff.mp ev
  obtain ⟨⟨db, u2⟩, e2, ev⟩ := Option.bind_eq_some_iff.mp ev
  obtain ⟨d0, e3, ev⟩ := Option.bind_eq_some_iff.mp ev
  cases ev
  refine ⟨F, env, u, da, u1, A.l, e1, fun v F1 H1 P1 r1 => ?_⟩
  have A1 := A.step P1
  refine ⟨F1, env, u1, db, _, A1.r, e2, fun w F2 H2 P2 r2 => ?_⟩
  exact ⟨F2, da, db, d, P2.sub, dp_sub (A1.subF P2) _ _ r1, r2, e3, fun z hz => k z F2 H2 (P1.trans P2) hz⟩)
theorem simO_no : SimO X C au none .no := ⟨L2.PO.imp L2.po_none fun σ H Q ⟨F, env, u, d, u', A, ev, k⟩ => by
  simp only [evalEo, Option.some.injEq, Prod.mk.injEq] at ev
  obtain ⟨rfl, rfl⟩ := ev
  exact k F H A.post⟩
theorem simO_yes (ha : Sim X C ff au a pa) : SimO X C au (some a) (.yes pa) := ⟨L2.PO.imp (L2.po_some ha.pl) fun σ H Q ⟨F, env, u, d, u', A, ev, k⟩ => by
  simp only [evalEo] at ev
  obtain ⟨⟨da, u1⟩, e1, ev⟩ := Option.bind_eq_some_iff.mp ev
  cases da <;> simp only at ev <;> first | contradiction | skip
  cases ev
  exact ⟨F, env, u, _, _, A, e1, fun v F1 H1 P1 r1 => ⟨_, dp_int r1, k F1 H1 P1⟩⟩⟩
theorem sim_sli {lo hi : Option Expr} {pl ph : Eo} {p2 : Pos} (ha : Sim X C ff au a pa) (hl : SimO X C au lo pl) (hh : SimO X C au hi ph) : Sim X C ff au (.Subscript a (.Slice lo hi none p2) pos) (.sli pa pl ph) :=
  ⟨(L2.pe_slice sl_any ha.pl hl.t hh.t).imp fun σ H Q ⟨F, env, u, d, u', A, ev, k⟩ => by
    simp only [evalE] at ev
    obtain ⟨⟨da, u1⟩, e1, ev⟩ := Option.bind_eq_some_iff.mp ev
    obtain ⟨⟨ol, u2⟩, e2, ev⟩ := Option.bind_eq_some_iff.mp ev
    obtain ⟨⟨oh, u3⟩, e3, ev⟩ := Option.bind_eq_some_iff.mp ev
    obtain ⟨d0, e4, ev⟩ := Option.bind_eq_some_iff.mp ev
    cases ev
    refine ⟨F, env, u, da, u1, A.l, e1, fun v F1 H1 P1 r1 => ?_⟩
    have A1 := A.step P1
    refine ⟨F1, env, u1, ol, u2, A1.r.l, e2, fun F2 H2 P2 => ?_⟩
    have A2 := A1.step P2
    refine ⟨F2, env, u2, oh, u3, A2.r.r, e3, fun F3 H3 P3 => ?_⟩
    exact ⟨F3, da, d, P3.sub, dp_sub (A2.subF P3) _ _ (dp_sub (A1.subF P2) _ _ r1), e4, ans_of ((P1.trans P2).trans P3) k⟩⟩
theorem sim_rev {k : Nat} {p1 p2 p3 : Pos} (ha : Sim X C ff au a pa) : Sim X C ff au (.Subscript a (.Slice none none (some (.UnaryOp .USub (.Constant (.int 1) k p1) p2)) p3) pos) (.rev pa) :=
  ⟨(PlE.pe_revT ha.pl).imp fun σ H Q ⟨F, env, u, d, u', A, ev, k⟩ => by
    simp only [evalE] at ev
    obtain ⟨⟨da, u1⟩, e1, ev⟩ := Option.bind_eq_some_iff.mp ev
    cases da <;> simp only at ev <;> first | contradiction | skip
    · cases ev
      refine ⟨F, env, u, _, _, A, e1, fun v F1 H1 P1 r1 => ?_⟩
      obtain ⟨p, xs, rfl, h1, h2⟩ := dp_list r1
      exact ⟨p, xs, rfl, .inl ⟨sqL_sub P1.sub h1, fun q hq => (ans_of P1 k).newL P1.sub (dpAll_rev h2) hq⟩⟩
    · cases ev
      refine ⟨F, env, u, _, _, A, e1, fun v F1 H1 P1 r1 => ?_⟩
      obtain ⟨p, xs, rfl, h1, h2⟩ := dp_tuple r1
      exact ⟨p, xs, rfl, .inr ⟨sqT_sub P1.sub h1, fun q hq => (ans_of P1 k).newT P1.sub (dpAll_rev h2) hq⟩⟩⟩
theorem sim_rvt {k k0 : Nat} {p0 p1 p2 p3 : Pos} (ha : Sim X C ff au a pa) : Sim X C ff au (.Subscript a (.Slice none (some (.Constant (.int 0) k0 p0)) (some (.UnaryOp .USub (.Constant (.int 1) k p1) p2)) p3) pos) (.rvt pa) :=
  ⟨(PlE.pe_rvtT ha.pl).imp fun σ H Q ⟨F, env, u, d, u', A, ev, k⟩ => by
    simp only [evalE] at ev
    obtain ⟨⟨da, u1⟩, e1, ev⟩ := Option.bind_eq_some_iff.mp ev
    split at ev <;> first | contradiction | skip
    rename_i he
    cases he
    cases ev
    refine ⟨F, env, u, _, _, A, e1, fun v F1 H1 P1 r1 => ?_⟩
    obtain ⟨p, xs, rfl, h1, h2⟩ := dp_tuple r1
    cases h2 with
    | cons h3 h4 => exact ⟨p, _, _, rfl, sqT_sub P1.sub h1, fun q hq => (ans_of P1 k).newT P1.sub (dpAll_rev h4) hq⟩⟩
theorem sim_uidx {x : Str} {pos2 : Pos} (h : PE X (.Name x pos2) (L2.tVar 0)) (hau : au.isSome = true) (hb : Sim X C ff au b pb) (hs : L2.PlainIx b) : Sim X C ff au (.Subscript (.Name x pos2) b pos) (.uidx pb) :=
  sim_pl rfl ((L2.pe_ix L2.ix_list h hb.pl hs).imp fun σ H Q ⟨F, env, u, d, u', A, ev, k⟩ => by
    simp only [evalE] at ev
    obtain ⟨⟨db, u1⟩, e1, ev⟩ := Option.bind_eq_some_iff.mp ev
    cases db <;> simp only at ev <;> first | contradiction | skip
    obtain ⟨n, e2, ev⟩ := Option.bind_eq_some_iff.mp ev
    cases ev
    obtain ⟨x, hx⟩ := Option.isSome_iff_exists.mp hau
    refine ⟨.ref x, A.s0 x hx, F, env, u, _, _, A, e1, fun v F1 H1 P1 r1 => ?_⟩
    obtain rfl := dp_int r1
    refine ⟨x, _, _, .int n, rfl, rfl, .inl (.inl (P1.urn x hx).1), ?_, k _ F1 H1 P1 (.int n)⟩
    refine atI_eq ?_
    unfold atI at e2 ⊢
    rw [List.length_map]
    split <;> rename_i h0
    · rw [if_pos h0] at e2
      rw [List.getElem?_map, e2]; rfl
    · rw [if_neg h0] at e2
      split <;> rename_i h3
      · rw [if_pos h3] at e2
        rw [List.getElem?_map, e2]; rfl
      · rw [if_neg h3] at e2; cases e2)
end
end Pl

/-! PSound5: calls of built-ins, what is walked, comprehensions. -/
namespace Pl
open PySem
open L2 (V Hp HO St VK TE TT TA TS TI TG Cx PE PT PW PA PS PSs PI PG Inv SqL SqT upd upd_same upd_ne OpR UnR CallR R2 Vals RelV EP Gl Vis It)

section
variable {X : Cx} {C : Ctx} {ff : String → Bool} {au : Option Addr} {e a b c : Expr} {es : List Expr} {p pa pb pc : E} {ps : Es} {pos : Pos} {x : Str} {pos2 : Pos}

/-! ### calls of built-ins -/
theorem bi_imp {bi : BI} {σ : St} {H : Hp} {Q : VK} (h : wpE true X.K C au (.bi bi ps) σ H Q) : L2.tCB (rBi X.K bi) (wpEs X.K C au ps) σ H Q := by
  obtain ⟨F, env, u, d, u', A, ev, k⟩ := h
  simp only [evalE] at ev
  obtain ⟨⟨ds, u1⟩, e1, ev⟩ := Option.bind_eq_some_iff.mp ev
  obtain ⟨d0, e2, ev⟩ := Option.bind_eq_some_iff.mp ev
  cases ev
  exact ⟨F, env, u, ds, _, A, e1, fun vs F1 H1 P1 r1 => ⟨F1, ds, d, P1.sub, r1, e2, ans_of P1 k⟩⟩
theorem bi_noL {bi : BI} (h1 : bi ≠ .list) (h2 : bi ≠ .sorted) (h3 : bi ≠ .sortedSet) : ∀ env u d u', evalE C (.bi bi ps) env u = some (d, u') → isL d = false := by
  intro env u d u' ev
  simp only [evalE] at ev
  obtain ⟨⟨ds, u1⟩, e1, ev⟩ := Option.bind_eq_some_iff.mp ev
  obtain ⟨d0, e2, ev⟩ := Option.bind_eq_some_iff.mp ev
  cases ev
  simp only at e2
  unfold biV at e2
  split at e2 <;> first
    | contradiction
    | exact absurd rfl h1
    | (cases e2; rfl)
    | (simp only [Option.map_eq_some_iff] at e2; obtain ⟨_, _, rfl⟩ := e2; rfl)
    | (split at e2 <;> first | contradiction | (cases e2; rfl))
theorem sim_biB {id : String} (bi : BI) (hr : CallR X (.builtin id) (rBi X.K bi)) (h1 : bi ≠ .list) (h2 : bi ≠ .sorted) (h3 : bi ≠ .sortedSet) (hg : Gl X x) (hm : X.mg x = none) (hv : bootBuiltins x = some (.builtin id)) (ha : SimA X C au (a :: es) ps) (hn : x ≠ "__name__") (hdb : (x == ("__debug__" : Str)) = false)
    (he : starEach (a :: es) X.env = (false, eval a X.env) :: starEach es X.env) (hpl : (backTo pos (starEach es X.env)).any (·.1) = false) : Sim X C ff au (.Call (.Name x pos2) (a :: es) [] pos) (.bi bi ps) :=
  sim_pl (by cases bi <;> first | rfl | exact absurd rfl h1 | exact absurd rfl h2 | exact absurd rfl h3) (down_of ((L2.pe_callB hr hg hm hv ha.t hn hdb he hpl).imp fun _ _ _ h => bi_imp h) (bi_noL h1 h2 h3))
theorem sim_biT {id : String} (bi : BI) (hr : CallR X (.type id) (rBi X.K bi)) (h1 : bi ≠ .list) (h2 : bi ≠ .sorted) (h3 : bi ≠ .sortedSet) (hg : Gl X x) (hm : X.mg x = none) (hv : bootBuiltins x = some (.type id)) (ha : SimA X C au (a :: es) ps) (hn : x ≠ "__name__") (hdb : (x == ("__debug__" : Str)) = false)
    (he : starEach (a :: es) X.env = (false, eval a X.env) :: starEach es X.env) (hpl : (backTo pos (starEach es X.env)).any (·.1) = false) : Sim X C ff au (.Call (.Name x pos2) (a :: es) [] pos) (.bi bi ps) :=
  sim_pl (by cases bi <;> first | rfl | exact absurd rfl h1 | exact absurd rfl h2 | exact absurd rfl h3) (down_of ((L2.pe_callTy hr hg hm hv ha.t hn hdb he hpl).imp fun _ _ _ h => bi_imp h) (bi_noL h1 h2 h3))
theorem sim_list (hg : Gl X "list") (hm : X.mg "list" = none) (ha : SimA X C au (a :: es) ps)
    (he : starEach (a :: es) X.env = (false, eval a X.env) :: starEach es X.env) (hpl : (backTo pos (starEach es X.env)).any (·.1) = false) : Sim X C ff au (.Call (.Name "list" pos2) (a :: es) [] pos) (.bi .list ps) :=
  ⟨(L2.pe_callTy bi_list hg hm (by decide +kernel) ha.t (by decide) (by decide) he hpl).imp fun _ _ _ h => bi_imp h⟩
theorem sim_sorted (hg : Gl X "sorted") (hm : X.mg "sorted" = none) (ha : SimA X C au (a :: es) ps)
    (he : starEach (a :: es) X.env = (false, eval a X.env) :: starEach es X.env) (hpl : (backTo pos (starEach es X.env)).any (·.1) = false) : Sim X C ff au (.Call (.Name "sorted" pos2) (a :: es) [] pos) (.bi .sorted ps) :=
  ⟨(L2.pe_callB bi_sorted hg hm (by decide +kernel) ha.t (by decide) (by decide) he hpl).imp fun _ _ _ h => bi_imp h⟩
theorem sim_gcd (hg : Gl X "gcd") (hm : X.mg "gcd" = some (.builtin "math.gcd")) (ha : SimA X C au (a :: es) ps)
    (he : starEach (a :: es) X.env = (false, eval a X.env) :: starEach es X.env) (hpl : (backTo pos (starEach es X.env)).any (·.1) = false) : Sim X C ff au (.Call (.Name "gcd" pos2) (a :: es) [] pos) (.bi .gcd ps) :=
  sim_pl rfl (down_of ((L2.pe_callBfun bi_gcd hg hm ha.t (by decide) he hpl).imp fun _ _ _ h => bi_imp h) (bi_noL (by decide) (by decide) (by decide)))
theorem sim_isi {T : String} {y : Str} {py : Pos} (bi : BI) (hr : CallR X (.builtin "isinstance") (rIsi X.K T bi)) (hz : ∀ d d', biV bi [d] = some d' → ∃ z, d' = .bool z) (hk : fk ff (.bi bi (.cons pa .nil)) = false) (hg : Gl X "isinstance") (hm : X.mg "isinstance" = none) (ha : Sim X C ff au a pa) (hgy : Gl X y) (hmy : X.mg y = none) (hvy : bootBuiltins y = some (.type T)) (hny : y ≠ "__name__") (hdy : (y == ("__debug__" : Str)) = false)
    (he : starEach [a, .Name y py] X.env = (false, eval a X.env) :: starEach [.Name y py] X.env) : Sim X C ff au (.Call (.Name "isinstance" pos2) [a, .Name y py] [] pos) (.bi bi (.cons pa .nil)) :=
  sim_pl hk ((L2.pe_callB hr hg hm (by decide +kernel) (L2.pa_cons ha.pl (L2.pa_cons (L2.pe_bltn (v := .ty T) hgy hmy hvy rfl hny hdy) L2.pa_nil rfl) he) (by decide) (by decide) he rfl).imp fun σ H Q ⟨F, env, u, d, u', A, ev, k⟩ => by
    simp only [evalE, evalEs] at ev
    obtain ⟨⟨ds, u1⟩, e1, ev⟩ := Option.bind_eq_some_iff.mp ev
    obtain ⟨⟨da, u2⟩, e2, e3⟩ := Option.bind_eq_some_iff.mp e1
    simp only [Option.bind_some, Option.some.injEq, Prod.mk.injEq] at e3
    obtain ⟨rfl, rfl⟩ := e3
    obtain ⟨d0, e4, ev⟩ := Option.bind_eq_some_iff.mp ev
    cases ev
    obtain ⟨z, rfl⟩ := hz _ _ e4
    exact ⟨F, env, u, da, _, by simpa [fvE, fvEs] using A, e2, fun v F1 H1 P1 r1 => ⟨F1, v, da, z, P1.sub, rfl, r1, e4, k _ F1 H1 P1 (.bl z)⟩⟩)

/-! ### what is walked -/
/-- the walk J hands out ds, while what stands still stands -/
def Feeds (K : PySem.W.Frag) (F0 : Hp) (J : It) (ds : List D) : Prop := ∀ F H, Sub F0 F → Sub F H → ∀ i : Nat,
  (∀ d, ds[i]? = some d → J.go i H ∧ ∀ y H', J.yld i H y H' → ∃ F', Ext none F H F' H' ∧ Sub F' H' ∧ Dp K F' y d) ∧ (ds.length ≤ i → J.stop i H)
def wpI (K : PySem.W.Frag) (C : Ctx) (au : Option Addr) (p : I) : TI := fun σ H R =>
  ∃ F env u ds u', At K au σ H F env u (fvI p) ∧ evalI C p env u = some (ds, u') ∧ ∀ J F' H', Post au F H F' H' u' → Feeds K F' J ds → (iterOk p = true → ∀ F0, Feeds K F0 J ds) → R J H'
structure SimI (X : Cx) (C : Ctx) (au : Option Addr) (tg e : Expr) (p : I) : Prop where
  t : PI X tg e (wpI X.K C au p)
def iSeq (K : PySem.W.Frag) (tl : TE) : TI := fun σ H R => tl σ H fun y H1 => ∃ q, y = .ref q ∧ ((∃ xs, SqL K H1 q xs ∧ R (L2.Itl K q) H1) ∨ (∃ xs, SqT K H1 q xs ∧ R (L2.Itt K q) H1))
theorem pi_seq {tg l : Expr} {tl : TE} (hl : PE X l tl) : PI X tg l (iSeq X.K tl) := by
  refine ⟨fun pins s σ H R I h => ?_⟩
  refine L2.thn (hl.run pins s σ H _ I h) fun v s1 ⟨y, H1, I1, r1, q1⟩ => ?_
  obtain ⟨q, e, q1⟩ := q1
  subst e
  cases r1
  rcases q1 with ⟨xs, hq, q1⟩ | ⟨xs, hq, q1⟩
  · obtain ⟨its, rv, p, hz⟩ := I1.list hq
    refine wpAny_pyIter_list p.isList ?_
    refine ⟨s1.heap.objs.size, [s1.heap.objs.size], _, _, H1, rfl, I1.kept (t' := s1.toks) fun b o e => Heap.get?_push_of_some _ e, L2.turn_list q _, ⟨_, Heap.get?_push_size _ rfl, rfl, rfl⟩, fun b hb => ?_, q1⟩
    have e : b = s1.heap.objs.size := by simpa using hb
    subst e
    exact I1.fpOk (Nat.le_refl _) (I1.hok.fresh (Nat.le_refl _))
  · obtain ⟨its, rv, p, hz⟩ := I1.tuple hq
    refine wpAny_pyIter_tuple (show s1.heap.IsTuple q its.toArray from p) ?_
    refine ⟨s1.heap.objs.size, [s1.heap.objs.size], _, _, H1, rfl, I1.kept (t' := s1.toks) fun b o e => Heap.get?_push_of_some _ e, L2.turn_tuple q _, ⟨_, Heap.get?_push_size _ rfl, rfl, rfl⟩, fun b hb => ?_, q1⟩
    have e : b = s1.heap.objs.size := by simpa using hb
    subst e
    exact I1.fpOk (Nat.le_refl _) (I1.hok.fresh (Nat.le_refl _))
theorem getD_lt {α : Type} {ds : List α} {i : Nat} {d : α} (h : ds[i]? = some d) : i < ds.length := (List.getElem?_eq_some_iff.mp h).1
theorem feeds_list {K : PySem.W.Frag} {F : Hp} {q : Addr} {xs : List V} {ds : List D} (h : SqL K F q xs) (r : DpAll K F xs ds) : Feeds K F (L2.Itl K q) ds := fun F2 H s1 s2 i => by
  have hq := sqL_sub s2 (sqL_sub s1 h)
  refine ⟨fun d hd => ?_, fun hl => ⟨xs, hq, by rw [dpAll_len r]; exact hl⟩⟩
  obtain ⟨v, h1, h2⟩ := dpAll_get r hd
  refine ⟨⟨xs, v, hq, h1⟩, fun y H' hy => ?_⟩
  obtain ⟨e, hy⟩ := hy
  subst e
  have := hy xs hq
  rw [h1] at this
  cases this
  exact ⟨F2, Ext.refl _ _ _, s2, dp_sub s1 _ _ h2⟩
theorem feeds_tuple {K : PySem.W.Frag} {F : Hp} {q : Addr} {xs : List V} {ds : List D} (h : SqT K F q xs) (r : DpAll K F xs ds) : Feeds K F (L2.Itt K q) ds := fun F2 H s1 s2 i => by
  have hq := sqT_sub s2 (sqT_sub s1 h)
  refine ⟨fun d hd => ?_, fun hl => ⟨xs, hq, by rw [dpAll_len r]; exact hl⟩⟩
  obtain ⟨v, h1, h2⟩ := dpAll_get r hd
  refine ⟨⟨xs, v, hq, h1⟩, fun y H' hy => ?_⟩
  obtain ⟨e, hy⟩ := hy
  subst e
  have := hy xs hq
  rw [h1] at this
  cases this
  exact ⟨F2, Ext.refl _ _ _, s2, dp_sub s1 _ _ h2⟩
theorem simI_seq {tg : Expr} (ha : Sim X C ff au a pa) : SimI X C au tg a (.seq pa) := ⟨L2.PI.imp (pi_seq ha.pl) fun σ H Q ⟨F, env, u, ds, u', A, ev, k⟩ => by
  simp only [evalI] at ev
  obtain ⟨⟨d, u1⟩, e1, ev⟩ := Option.bind_eq_some_iff.mp ev
  obtain ⟨xs, e2, ev⟩ := Option.bind_eq_some_iff.mp ev
  cases ev
  refine ⟨F, env, u, d, _, A, e1, fun v F1 H1 P1 r1 => ?_⟩
  rcases items_list e2 with e | e <;> simp only at e <;> subst e
  · obtain ⟨q, vs, rfl, h1, h2⟩ := dp_list r1
    exact ⟨q, rfl, .inl ⟨vs, sqL_sub P1.sub h1, k _ F1 H1 P1 (feeds_list h1 h2) (fun h => nomatch h)⟩⟩
  · obtain ⟨q, vs, rfl, h1, h2⟩ := dp_tuple r1
    exact ⟨q, rfl, .inr ⟨vs, sqT_sub P1.sub h1, k _ F1 H1 P1 (feeds_tuple h1 h2) (fun h => nomatch h)⟩⟩⟩
theorem rangeL_get {lo hi : Int} {i : Nat} {d : D} (h : (rangeL lo hi)[i]? = some d) : i < (hi - lo).toNat ∧ d = .int (lo + (i : Int)) := by
  unfold rangeL at h
  rw [List.getElem?_map] at h
  have hl : i < (hi - lo).toNat := by
    cases q : (List.range (hi - lo).toNat)[i]? with
    | none => rw [q] at h; cases h
    | some j => have := getD_lt q; rwa [List.length_range] at this
  rw [List.getElem?_range hl] at h
  exact ⟨hl, (Option.some.inj h).symm⟩
theorem rangeL_len (lo hi : Int) : (rangeL lo hi).length = (hi - lo).toNat := by unfold rangeL; rw [List.length_map, List.length_range]
theorem feeds_range {K : PySem.W.Frag} {F : Hp} {lo hi : Int} : Feeds K F (L2.Itr lo (hi - lo).toNat) (rangeL lo hi) := fun F2 H s1 s2 i => by
  refine ⟨fun d hd => ?_, fun hl => by rw [rangeL_len] at hl; exact hl⟩
  obtain ⟨h1, rfl⟩ := rangeL_get hd
  refine ⟨h1, fun y H' hy => ?_⟩
  obtain ⟨e, rfl⟩ := hy
  subst e
  exact ⟨F2, Ext.refl _ _ _, s2, .int _⟩
theorem intOk_of {j : Int} (h : intOk j = true) : -(2 ^ 62) ≤ j ∧ j < 2 ^ 62 := by
  have := of_decide_eq_true h
  omega
theorem rng2_some {d e : D} {xs : List D} (h : rng2 d e = some xs) : ∃ i j, d = .int i ∧ e = .int j ∧ (intOk i = true ∧ intOk j = true) ∧ xs = rangeL i j := by
  unfold rng2 at h
  split at h <;> first | contradiction | skip
  split at h <;> first | contradiction | skip
  rename_i hz
  cases h
  rw [Bool.and_eq_true] at hz
  exact ⟨_, _, rfl, rfl, hz, rfl⟩
theorem dpAll_rg {K : PySem.W.Frag} {F : Hp} (lo hi : Int) : DpAll K F (L2.rgV lo hi) (rangeL lo hi) := by
  unfold L2.rgV rangeL
  induction List.range (hi - lo).toNat with
  | nil => exact .nil
  | cons x xs ih => exact .cons (.int _) ih
theorem sim_trng {b : Expr} {pb : E} {pos3 pos4 : Pos} (hc : X.calm = true) (hg : Gl X "range") (hm : X.mg "range" = none) (hgr : Gl X "tuple") (hmr : X.mg "tuple" = none) (ha : Sim X C ff au a pa) (hb : Sim X C ff au b pb)
    (hs : starEach [a, b] X.env = (false, eval a X.env) :: starEach [b] X.env) (hs2 : starEach [b] X.env = (false, eval b X.env) :: starEach [] X.env) (hpl : (backTo pos4 (starEach [b] X.env)).any (·.1) = false) :
    Sim X C ff au (.Call (.Name "tuple" pos2) [.Call (.Name "range" pos3) [a, b] [] pos4] [] pos) (.trng pa pb) := sim_pl rfl ((L2.pe_tupRg hc hgr hmr (L2.prg_2 hg hm ha.pl hb.pl hs hs2 hpl) rfl).imp fun σ H Q ⟨F, env, u, d, u', A, ev, k⟩ => by
  simp only [evalE] at ev
  obtain ⟨⟨da, u1⟩, e1, ev⟩ := Option.bind_eq_some_iff.mp ev
  obtain ⟨⟨db, u2⟩, e2, ev⟩ := Option.bind_eq_some_iff.mp ev
  obtain ⟨xs, e3, ev⟩ := Option.bind_eq_some_iff.mp ev
  split at ev <;> first | contradiction | skip
  rename_i hz
  cases ev
  obtain ⟨i, j, ei, ej, ok, rfl⟩ := rng2_some e3
  simp only at ei ej
  subst ei ej
  refine ⟨F, env, u, _, u1, A.l, e1, fun v F1 H1 P1 r1 => ?_⟩
  have A1 := A.step P1
  refine ⟨F1, env, u1, _, u2, A1.r, e2, fun w F2 H2 P2 r2 => ?_⟩
  obtain rfl := dp_int r1
  obtain rfl := dp_int r2
  have q1 := intOk_of ok.1
  have q2 := intOk_of ok.2
  rw [rangeL_len] at hz
  refine ⟨i, j, rfl, rfl, ⟨q1.1, q1.2, q2.1, q2.2, sizeLine_of hz⟩, fun p hp => ?_⟩
  exact (ans_of (K := X.K) (d := .tuple (rangeL i j)) (P1.trans P2) fun v F' H' P r => k v F' H' P r).newT (P1.trans P2).sub (dpAll_rg i j) hp)
theorem simI_range1 {tg : Expr} (hg : Gl X "range") (hm : X.mg "range" = none) (ha : SimA X C au [a] (.cons pa .nil)) (hs : starEach [a] X.env = [(false, eval a X.env)]) : SimI X C au tg (.Call (.Name "range" pos2) [a] [] pos) (.range1 pa) :=
  ⟨L2.PI.imp (L2.pi_range1 hg hm ha.t hs) fun σ H Q ⟨F, env, u, ds, u', A, ev, k⟩ => by
    simp only [evalI] at ev
    obtain ⟨⟨d, u1⟩, e1, ev⟩ := Option.bind_eq_some_iff.mp ev
    cases d <;> simp only at ev <;> first | contradiction | skip
    rename_i j
    split at ev <;> first | contradiction | skip
    rename_i hz
    cases ev
    refine ⟨F, env, u, [.int j], u', by simpa [fvEs, fvI] using A, by simp [evalEs, e1], fun vs F1 H1 P1 r1 => ?_⟩
    obtain ⟨v, rfl, hv⟩ := dpAll1 r1
    obtain rfl := dp_int hv
    have := intOk_of hz
    refine ⟨j, rfl, this.1, this.2, ?_⟩
    have q := k (L2.Itr 0 (j - 0).toNat) F1 H1 P1 feeds_range (fun _ _ => feeds_range)
    rw [Int.sub_zero] at q
    exact q⟩
theorem simI_range2 {tg : Expr} (hg : Gl X "range") (hm : X.mg "range" = none) (ha : SimA X C au [a, b] (.cons pa (.cons pb .nil))) (hs : starEach [a, b] X.env = [(false, eval a X.env), (false, eval b X.env)]) (hs2 : starEach [b] X.env = [(false, eval b X.env)]) : SimI X C au tg (.Call (.Name "range" pos2) [a, b] [] pos) (.range2 pa pb) :=
  ⟨L2.PI.imp (L2.pi_range2 hg hm ha.t hs hs2) fun σ H Q ⟨F, env, u, ds, u', A, ev, k⟩ => by
    simp only [evalI] at ev
    obtain ⟨⟨d, u1⟩, e1, ev⟩ := Option.bind_eq_some_iff.mp ev
    obtain ⟨⟨d2, u2⟩, e2, ev⟩ := Option.bind_eq_some_iff.mp ev
    obtain ⟨xs, e3, ev⟩ := Option.bind_eq_some_iff.mp ev
    cases ev
    obtain ⟨i, j, rfl, rfl, hz, rfl⟩ := rng2_some e3
    refine ⟨F, env, u, [.int i, .int j], u2, by simpa [fvEs, fvI] using A, by simp [evalEs, e1, e2], fun vs F1 H1 P1 r1 => ?_⟩
    obtain ⟨v, w, rfl, hv, hw⟩ := dpAll2 r1
    obtain rfl := dp_int hv
    obtain rfl := dp_int hw
    have h1 := intOk_of hz.1
    have h2 := intOk_of hz.2
    exact ⟨i, j, rfl, ⟨h1.1, h1.2, h2.1, h2.2⟩, k _ F1 H1 P1 feeds_range (fun _ _ => feeds_range)⟩⟩
theorem feeds_revRange {K : PySem.W.Frag} {F : Hp} {j : Int} : Feeds K F (L2.Itc (0 + (((j - 0).toNat : Nat) : Int) - 1) (-1) (j - 0).toNat) (rangeL 0 j).reverse := fun F2 H s1 s2 i => by
  refine ⟨fun d hd => ?_, fun hl => by rw [List.length_reverse, rangeL_len] at hl; exact hl⟩
  have hl := getD_lt hd
  rw [List.length_reverse, rangeL_len] at hl
  rw [List.getElem?_reverse (by rw [rangeL_len]; exact hl), rangeL_len] at hd
  obtain ⟨h1, rfl⟩ := rangeL_get hd
  refine ⟨hl, fun y H' hy => ?_⟩
  obtain ⟨e, rfl⟩ := hy
  subst e
  refine ⟨F2, Ext.refl _ _ _, s2, ?_⟩
  have e : 0 + (((j - 0).toNat : Nat) : Int) - 1 + (i : Int) * (-1) = 0 + (((j - 0).toNat - 1 - i : Nat) : Int) := by omega
  rw [e]
  exact .int _
theorem simI_revRange1 {tg : Expr} {pos3 pos4 : Pos} (hg : Gl X "range") (hm : X.mg "range" = none) (hgr : Gl X "reversed") (hmr : X.mg "reversed" = none) (ha : Sim X C ff au a pa) (hs : starEach [a] X.env = (false, eval a X.env) :: starEach [] X.env) :
    SimI X C au tg (.Call (.Name "reversed" pos2) [.Call (.Name "range" pos3) [a] [] pos4] [] pos) (.revRange1 pa) :=
  ⟨L2.PI.imp (L2.pi_revR hgr hmr (L2.prg_1 hg hm ha.pl hs) rfl) fun σ H Q ⟨F, env, u, ds, u', A, ev, k⟩ => by
    simp only [evalI] at ev
    obtain ⟨⟨d, u1⟩, e1, ev⟩ := Option.bind_eq_some_iff.mp ev
    cases d <;> simp only at ev <;> first | contradiction | skip
    rename_i j
    split at ev <;> first | contradiction | skip
    rename_i hz
    cases ev
    refine ⟨F, env, u, _, _, A, e1, fun v F1 H1 P1 r1 => ?_⟩
    obtain rfl := dp_int r1
    have := intOk_of hz
    exact ⟨j, rfl, by decide, by decide, this.1, this.2, k _ F1 H1 P1 feeds_revRange (fun _ _ => feeds_revRange)⟩⟩
theorem enumL_get : ∀ {ds : List D} {k i : Nat} {d : D}, (enumL k ds)[i]? = some d → ∃ z, ds[i]? = some z ∧ d = .tuple [.int ((k + i : Nat) : Int), z]
  | [], _, _, _, h => by simp [enumL] at h
  | x :: xs, k, 0, d, h => by simp [enumL] at h; exact ⟨x, rfl, h.symm⟩
  | x :: xs, k, i + 1, d, h => by
    simp only [enumL, List.getElem?_cons_succ] at h
    obtain ⟨z, h1, h2⟩ := enumL_get h
    refine ⟨z, by simpa using h1, ?_⟩
    rw [h2]
    congr 3
    omega
theorem enumL_len : ∀ (ds : List D) (k : Nat), (enumL k ds).length = ds.length
  | [], _ => rfl
  | _ :: xs, k => congrArg Nat.succ (enumL_len xs (k + 1))
theorem feeds_enum {K : PySem.W.Frag} {F : Hp} {q : Addr} {xs : List V} {ds : List D} (h : SqL K F q xs) (r : DpAll K F xs ds) : Feeds K F (L2.Ite K q) (enumL 0 ds) := fun F2 H s1 s2 i => by
  have hq := sqL_sub s2 (sqL_sub s1 h)
  refine ⟨fun d hd => ?_, fun hl => ⟨xs, hq, by rw [dpAll_len r]; rw [enumL_len] at hl; exact hl⟩⟩
  obtain ⟨z, hz, rfl⟩ := enumL_get hd
  obtain ⟨v, h1, h2⟩ := dpAll_get r hz
  refine ⟨⟨xs, v, hq, h1⟩, fun y H' hy => ?_⟩
  obtain ⟨T, w, rfl, hT, e, hy⟩ := hy
  subst e
  have := hy xs hq
  rw [h1] at this
  cases this
  refine ⟨upd F2 T (.tup [.int (i : Nat), v]), ext_newF hT, sub_newF s2, .tup (.inl (.inl upd_same)) ?_⟩
  rw [Nat.zero_add]
  exact .cons (.int _) (.cons (dp_sub (s1.trans (sub_new (s2.free hT))) _ _ h2) .nil)
theorem feeds_enumT {K : PySem.W.Frag} {F : Hp} {q : Addr} {xs : List V} {ds : List D} (h : SqT K F q xs) (r : DpAll K F xs ds) : Feeds K F (PlE.Itet K q) (enumL 0 ds) := fun F2 H s1 s2 i => by
  have hq := sqT_sub s2 (sqT_sub s1 h)
  refine ⟨fun d hd => ?_, fun hl => ⟨xs, hq, by rw [dpAll_len r]; rw [enumL_len] at hl; exact hl⟩⟩
  obtain ⟨z, hz, rfl⟩ := enumL_get hd
  obtain ⟨v, h1, h2⟩ := dpAll_get r hz
  refine ⟨⟨xs, v, hq, h1⟩, fun y H' hy => ?_⟩
  obtain ⟨T, w, rfl, hT, e, hy⟩ := hy
  subst e
  have := hy xs hq
  rw [h1] at this
  cases this
  refine ⟨upd F2 T (.tup [.int (i : Nat), v]), ext_newF hT, sub_newF s2, .tup (.inl (.inl upd_same)) ?_⟩
  rw [Nat.zero_add]
  exact .cons (.int _) (.cons (dp_sub (s1.trans (sub_new (s2.free hT))) _ _ h2) .nil)
theorem items_eq {d : D} {xs : List D} (h : items d = some xs) : d = .list xs ∨ d = .tuple xs := by cases d <;> simp [items] at h <;> rw [h] <;> first | exact .inl rfl | exact .inr rfl
theorem simI_enum {elts : List Expr} {kk : Nat} {tpos : Pos} (hg : Gl X "enumerate") (hm : X.mg "enumerate" = none) (ha : SimA X C au [a] (.cons pa .nil)) (hs : starEach [a] X.env = [(false, eval a X.env)]) : SimI X C au (.Tuple elts kk tpos) (.Call (.Name "enumerate" pos2) [a] [] pos) (.enum pa) :=
  ⟨L2.PI.imp (PlE.pi_enumA hg hm ha.t hs) fun σ H Q ⟨F, env, u, ds, u', A, ev, k⟩ => by
    simp only [evalI] at ev
    obtain ⟨⟨d, u1⟩, e1, ev⟩ := Option.bind_eq_some_iff.mp ev
    obtain ⟨xs, e2, ev⟩ := Option.bind_eq_some_iff.mp ev
    cases ev
    simp only at e2
    refine ⟨F, env, u, [d], u1, by simpa [fvEs, fvI] using A, by simp [evalEs, e1], fun vs F1 H1 P1 r1 => ?_⟩
    obtain ⟨v, rfl, hv⟩ := dpAll1 r1
    rcases items_eq e2 with rfl | rfl
    · obtain ⟨q, vs, rfl, h1, h2⟩ := dp_list hv
      exact ⟨q, rfl, .inl ⟨vs, sqL_sub P1.sub h1, k _ F1 H1 P1 (feeds_enum h1 h2) (fun h => nomatch h)⟩⟩
    · obtain ⟨q, vs, rfl, h1, h2⟩ := dp_tuple hv
      exact ⟨q, rfl, .inr ⟨vs, sqT_sub P1.sub h1, k _ F1 H1 P1 (feeds_enumT h1 h2) (fun h => nomatch h)⟩⟩⟩
theorem zipL_get : ∀ {xs ys : List D} {i : Nat} {d : D}, (zipL xs ys)[i]? = some d → ∃ x y, xs[i]? = some x ∧ ys[i]? = some y ∧ d = .tuple [x, y]
  | [], _, _, _, h => by simp [zipL] at h
  | _ :: _, [], _, _, h => by simp [zipL] at h
  | x :: xs, y :: ys, 0, d, h => by simp [zipL] at h; exact ⟨x, y, rfl, rfl, h.symm⟩
  | x :: xs, y :: ys, i + 1, d, h => by
    simp only [zipL, List.getElem?_cons_succ] at h
    obtain ⟨a, b, h1, h2, h3⟩ := zipL_get h
    exact ⟨a, b, by simpa using h1, by simpa using h2, h3⟩
theorem zipL_len : ∀ (xs ys : List D), (zipL xs ys).length = min xs.length ys.length
  | [], _ => by simp [zipL]
  | _ :: _, [] => by simp [zipL]
  | _ :: xs, _ :: ys => by simp only [zipL, List.length_cons, zipL_len xs ys]; omega
theorem feeds_zip {K : PySem.W.Frag} {F : Hp} {q r : Addr} {xs ys : List V} {ds es : List D} (h : SqL K F q xs) (r1 : DpAll K F xs ds) (h' : SqL K F r ys) (r2 : DpAll K F ys es) : Feeds K F (L2.Itz K q r) (zipL ds es) := fun F2 H s1 s2 i => by
  have hq := sqL_sub s2 (sqL_sub s1 h)
  have hr := sqL_sub s2 (sqL_sub s1 h')
  refine ⟨fun d hd => ?_, fun hl => ⟨xs, ys, hq, hr, by rw [dpAll_len r1, dpAll_len r2]; rw [zipL_len] at hl; omega⟩⟩
  obtain ⟨z, z', hz, hz', rfl⟩ := zipL_get hd
  obtain ⟨v, h1, h2⟩ := dpAll_get r1 hz
  obtain ⟨v', h3, h4⟩ := dpAll_get r2 hz'
  refine ⟨⟨xs, ys, v, v', hq, hr, h1, h3⟩, fun y H' hy => ?_⟩
  obtain ⟨T, w, w', rfl, hT, e, hy, hy'⟩ := hy
  subst e
  have e1 := hy xs hq
  rw [h1] at e1
  cases e1
  have e2 := hy' ys hr
  rw [h3] at e2
  cases e2
  have sF := s1.trans (sub_new (o := .tup [v, v']) (s2.free hT))
  exact ⟨upd F2 T (.tup [v, v']), ext_newF hT, sub_newF s2, .tup (.inl (.inl upd_same)) (.cons (dp_sub sF _ _ h2) (.cons (dp_sub sF _ _ h4) .nil))⟩
theorem feeds_zipT {K : PySem.W.Frag} {F : Hp} {q r : Addr} {xs ys : List V} {ds es : List D} (h : SqT K F q xs) (r1 : DpAll K F xs ds) (h' : SqT K F r ys) (r2 : DpAll K F ys es) : Feeds K F (RZ.ItzT K q r) (zipL ds es) := fun F2 H s1 s2 i => by
  have hq := sqT_sub s2 (sqT_sub s1 h)
  have hr := sqT_sub s2 (sqT_sub s1 h')
  refine ⟨fun d hd => ?_, fun hl => ⟨xs, ys, hq, hr, by rw [dpAll_len r1, dpAll_len r2]; rw [zipL_len] at hl; omega⟩⟩
  obtain ⟨z, z', hz, hz', rfl⟩ := zipL_get hd
  obtain ⟨v, h1, h2⟩ := dpAll_get r1 hz
  obtain ⟨v', h3, h4⟩ := dpAll_get r2 hz'
  refine ⟨⟨xs, ys, v, v', hq, hr, h1, h3⟩, fun y H' hy => ?_⟩
  obtain ⟨T, w, w', rfl, hT, e, hy, hy'⟩ := hy
  subst e
  have e1 := hy xs hq
  rw [h1] at e1
  cases e1
  have e2 := hy' ys hr
  rw [h3] at e2
  cases e2
  have sF := s1.trans (sub_new (o := .tup [v, v']) (s2.free hT))
  exact ⟨upd F2 T (.tup [v, v']), ext_newF hT, sub_newF s2, .tup (.inl (.inl upd_same)) (.cons (dp_sub sF _ _ h2) (.cons (dp_sub sF _ _ h4) .nil))⟩
theorem simI_zip {elts : List Expr} {kk : Nat} {tpos : Pos} (hg : Gl X "zip") (hm : X.mg "zip" = none) (ha : SimA X C au [a, b] (.cons pa (.cons pb .nil)))
    (hs : starEach [a, b] X.env = (false, eval a X.env) :: starEach [b] X.env) (hpl : (backTo pos (starEach [b] X.env)).any (·.1) = false) : SimI X C au (.Tuple elts kk tpos) (.Call (.Name "zip" pos2) [a, b] [] pos) (.zip pa pb) :=
  ⟨L2.PI.imp (RZ.pi_zipA hg hm ha.t hs hpl) fun σ H Q ⟨F, env, u, ds, u', A, ev, k⟩ => by
    simp only [evalI] at ev
    obtain ⟨⟨d, u1⟩, e1, ev⟩ := Option.bind_eq_some_iff.mp ev
    obtain ⟨⟨d', u2⟩, e2, ev⟩ := Option.bind_eq_some_iff.mp ev
    obtain ⟨xs, e3, ev⟩ := Option.bind_eq_some_iff.mp ev
    cases ev
    simp only at e2 e3
    refine ⟨F, env, u, [d, d'], u2, by simpa [fvEs, fvI] using A, by simp [evalEs, e1, e2], fun vs F1 H1 P1 r1 => ?_⟩
    obtain ⟨v, w, rfl, hv, hw⟩ := dpAll2 r1
    cases d <;> cases d' <;> simp only [zipD] at e3 <;> first | contradiction | skip
    · cases e3
      obtain ⟨q, vs, rfl, h1, h2⟩ := dp_list hv
      obtain ⟨r, ws, rfl, h3, h4⟩ := dp_list hw
      exact ⟨q, r, vs, ws, rfl, .inl ⟨sqL_sub P1.sub h1, sqL_sub P1.sub h3, k _ F1 H1 P1 (feeds_zip h1 h2 h3 h4) (fun h => nomatch h)⟩⟩
    · cases e3
      obtain ⟨q, vs, rfl, h1, h2⟩ := dp_tuple hv
      obtain ⟨r, ws, rfl, h3, h4⟩ := dp_tuple hw
      exact ⟨q, r, vs, ws, rfl, .inr ⟨sqT_sub P1.sub h1, sqT_sub P1.sub h3, k _ F1 H1 P1 (feeds_zipT h1 h2 h3 h4) (fun h => nomatch h)⟩⟩⟩
theorem feeds_revL {K : PySem.W.Frag} {F : Hp} {q : Addr} {xs : List V} {ds : List D} (h : SqL K F q xs) (r : DpAll K F xs ds) : Feeds K F (L2.Itv K q xs.length) ds.reverse := fun F2 H s1 s2 i => by
  have hq := sqL_sub s2 (sqL_sub s1 h)
  have hn := dpAll_len r
  refine ⟨fun d hd => ?_, fun hl => ?_⟩
  · have hl := getD_lt hd
    rw [List.length_reverse] at hl
    rw [List.getElem?_reverse hl, ← hn] at hd
    obtain ⟨v, h1, h2⟩ := dpAll_get r hd
    refine ⟨⟨by omega, xs, v, hq, h1⟩, fun y H' hy => ?_⟩
    obtain ⟨e, hy⟩ := hy
    subst e
    have := hy xs hq
    rw [h1] at this
    cases this
    exact ⟨F2, Ext.refl _ _ _, s2, dp_sub s1 _ _ h2⟩
  · rw [List.length_reverse, ← hn] at hl
    exact hl
theorem feeds_revT {K : PySem.W.Frag} {F : Hp} {q : Addr} {xs : List V} {ds : List D} (h : SqT K F q xs) (r : DpAll K F xs ds) : Feeds K F (RT.ItvT K q xs.length) ds.reverse := fun F2 H s1 s2 i => by
  have hq := sqT_sub s2 (sqT_sub s1 h)
  have hn := dpAll_len r
  refine ⟨fun d hd => ?_, fun hl => ?_⟩
  · have hl := getD_lt hd
    rw [List.length_reverse] at hl
    rw [List.getElem?_reverse hl, ← hn] at hd
    obtain ⟨v, h1, h2⟩ := dpAll_get r hd
    refine ⟨⟨by omega, xs, v, hq, h1⟩, fun y H' hy => ?_⟩
    obtain ⟨e, hy⟩ := hy
    subst e
    have := hy xs hq
    rw [h1] at this
    cases this
    exact ⟨F2, Ext.refl _ _ _, s2, dp_sub s1 _ _ h2⟩
  · rw [List.length_reverse, ← hn] at hl
    exact hl
theorem simI_rev {tg : Expr} (hg : Gl X "reversed") (hm : X.mg "reversed" = none) (ha : Sim X C ff au a pa) (hs : starEach [a] X.env = (false, eval a X.env) :: starEach [] X.env) : SimI X C au tg (.Call (.Name "reversed" pos2) [a] [] pos) (.rev pa) :=
  ⟨L2.PI.imp (RT.pi_revA hg hm ha.pl hs) fun σ H Q ⟨F, env, u, ds, u', A, ev, k⟩ => by
    simp only [evalI] at ev
    obtain ⟨⟨d, u1⟩, e1, ev⟩ := Option.bind_eq_some_iff.mp ev
    obtain ⟨xs, e2, ev⟩ := Option.bind_eq_some_iff.mp ev
    cases ev
    refine ⟨F, env, u, d, _, A, e1, fun v F1 H1 P1 r1 => ?_⟩
    rcases items_list e2 with e | e <;> simp only at e <;> subst e
    · obtain ⟨q, vs, rfl, h1, h2⟩ := dp_list r1
      exact ⟨q, vs, rfl, .inl ⟨sqL_sub P1.sub h1, k _ F1 H1 P1 (feeds_revL h1 h2) (fun h => nomatch h)⟩⟩
    · obtain ⟨q, vs, rfl, h1, h2⟩ := dp_tuple r1
      exact ⟨q, vs, rfl, .inr ⟨sqT_sub P1.sub h1, k _ F1 H1 P1 (feeds_revT h1 h2) (fun h => nomatch h)⟩⟩⟩
end
end Pl

set_option maxHeartbeats 4000000
/-! PSoundZ: zip over three lists. -/
namespace PlZ
open PySem PySem.Spec PyProof.Rows L2
theorem tc3 (a b c : Value) : checkTypeCall "zip" ⟨[a, b, c], []⟩ = pure () := by kernel_rfl
theorem nc3 (a b c : Value) : checkBuiltinCall "zip.__new__" ⟨[.type "zip", a, b, c], []⟩ = pure () := by kernel_rfl
theorem oi4 (a b c d : Value) : argsOk "object.__init__" ⟨[a, b, c, d], []⟩ := by
  unfold argsOk
  rw [signature?_of (id := "object.__init__") (n := ['_', '_', 't', 'i', 'n', 'i', '_', '_']) (o := ['t', 'c', 'e', 'j', 'b', 'o']) (by kernel_rfl) F.owner_object]
  kernel_rfl
abbrev Is3 (h : Heap) (T : Addr) (a b c : Value) : Prop := h.get? T = some { cls := .type "tuple", data := .seq #[a, b, c] }
/-- all addresses apart -/
structure Apart3 (z TI TO i j k l m n : Addr) : Prop where
  TIz : TI ≠ z
  TOz : TO ≠ z
  iz : i ≠ z
  jz : j ≠ z
  kz : k ≠ z
  TITO : TI ≠ TO
  TIi : TI ≠ i
  TIj : TI ≠ j
  TIk : TI ≠ k
  TOi : TO ≠ i
  TOj : TO ≠ j
  TOk : TO ≠ k
  ij : i ≠ j
  ik : i ≠ k
  jk : j ≠ k
  lz : l ≠ z
  lTO : l ≠ TO
  li : l ≠ i
  lj : l ≠ j
  lk : l ≠ k
  mz : m ≠ z
  mTO : m ≠ TO
  mi : m ≠ i
  mj : m ≠ j
  mkk : m ≠ k
  nz : n ≠ z
  nTO : n ≠ TO
  ni : n ≠ i
  nj : n ≠ j
  nk : n ≠ k
theorem apart3 (I l m n : Nat) (h1 : l < I) (h2 : m < I) (h3 : n < I) : Apart3 (I + 5) (I + 3) (I + 4) I (I + 1) (I + 2) l m n := by
  constructor <;> (refine PySem.W.neN ?_; omega)
section
variable {prog : Program} {w : World} {A : Around} {E : Value → Shared → Prop} {s : Shared}
theorem put3 {T : Addr} {a b c x : Value} {k : Nat} {Q : Unit → Shared → Prop} (hT : Is3 s.heap T a b c)
    (h : ∀ h', h'.get? T = some { cls := .type "tuple", data := .seq ((#[a, b, c] : Array Value).setIfInBounds k x) } → Heap.SameBut T s.heap h' → Q () { s with heap := h' }) :
    wpAny (model prog w) A (updateSeq T (·.setIfInBounds k x)) Q E s := by
  refine wpAny_updateSeq hT rfl (h _ ?_ (Heap.SameBut.update ..))
  rw [Heap.get?_update_self _ hT rfl]
  simp [Obj.mapSeq]
/-- what stands but for the iterator's own -/
def KeepsBut (z TO i j k : Addr) (h h' : Heap) : Prop := ∀ c o, c ≠ z → c ≠ TO → c ≠ i → c ≠ j → c ≠ k → h.get? c = some o → h'.get? c = some o
theorem next3 {z TI TO i j k l m n : Addr} {q : Nat} {xs ys zs : Array Value} {x y v a b c : Value} {Q : Value → Shared → Prop} (D : Apart3 z TI TO i j k l m n)
    (hz : IsZip s.heap z TI TO .none) (hTI : Is3 s.heap TI (.ref i) (.ref j) (.ref k)) (hTO : Is3 s.heap TO a b c)
    (h1 : s.heap.IsListIter i l q) (h2 : s.heap.IsListIter j m q) (h3 : s.heap.IsListIter k n q) (hl : s.heap.IsList l xs) (hm : s.heap.IsList m ys) (hn : s.heap.IsList n zs)
    (hx : xs[q]? = some x) (hy : ys[q]? = some y) (hv : zs[q]? = some v)
    (hQ : ∀ h', IsZip h' z TI TO (rawInt s.heap.objs.size) → Is3 h' TO x y v → h'.IsListIter i l (q + 1) → h'.IsListIter j m (q + 1) → h'.IsListIter k n (q + 1) → Is3 h' s.heap.objs.size x y v →
      h'.objs.size = s.heap.objs.size + 1 → KeepsBut z TO i j k s.heap h' → Q (.ref s.heap.objs.size) { s with heap := h' }) :
    wpAny (model prog w) A (Builtin.«zip.__next__» ⟨[.ref z], []⟩) (fun fin s' => ∃ v, fin = .done (.ret v) ∧ Q v s') E s := by
  show wpAny _ _ (field (.ref z) 2 >>= _) _ _ _
  refine wpAny_bind (wpAny_field hz rfl (x := .bool false) rfl ?_)
  show wpAny _ _ (field (.ref z) 3 >>= _) _ _ _
  refine wpAny_bind (wpAny_field hz rfl (x := .ref TI) rfl (wpAny_bind (wpAny_seqItems hTI rfl ?_)))
  show wpAny _ _ (Builtin.SmallTypes.ownedTupleIsFree (.ref z) >>= _) _ _ _
  refine wpAny_bind ?_
  unfold Builtin.SmallTypes.ownedTupleIsFree
  refine wpAny_bind (wpAny_field hz rfl (x := .none) rfl (wpAny_pure ?_))
  simp only [if_true]
  refine wpAny_bind (wpAny_rule (wpAny_bind (wpAny_field hz rfl (x := .ref TO) rfl (wpAny_bind (wpAny_setField_rec hz (by simp) fun g1 z1 s1 => ?_)))))
  replace z1 : IsZip g1 z TI TO .ellipsis := z1
  refine wpAny_bind ?_
  simp only [List.zipIdx_cons, List.zipIdx_nil, List.forIn_cons, List.forIn_nil]
  -- the first
  refine wpAny_bind (wpAny_bind (wpAny_onRaise ?_))
  show wpAny _ _ (Builtin.SmallTypes.nextOf (.ref i) >>= _) _ _ _
  refine wpAny_bind (wpAny_nextOf_list_item (h1.extBut s1.extBut D.iz) (hl.extBut s1.extBut D.lz) hx fun g2 i2 s2 => wpAny_pure ?_)
  have t2 : Is3 g2 TO a b c := s2.extBut _ _ D.TOi (s1.extBut _ _ D.TOz hTO)
  refine wpAny_bind (wpAny_seqItems t2 rfl (wpAny_bind (put3 t2 fun g3 t3 s3 => ?_)))
  replace t3 : Is3 g3 TO x b c := t3
  refine wpAny_bind (wpAny_letGo (wpAny_pure ?_))
  -- the second
  refine wpAny_bind (wpAny_bind (wpAny_onRaise ?_))
  show wpAny _ _ (Builtin.SmallTypes.nextOf (.ref j) >>= _) _ _ _
  refine wpAny_bind (wpAny_nextOf_list_item (((h2.extBut s1.extBut D.jz).extBut s2.extBut D.ij.symm).extBut s3.extBut D.TOj.symm) (((hm.extBut s1.extBut D.mz).extBut s2.extBut D.mi).extBut s3.extBut D.mTO) hy fun g4 j4 s4 => wpAny_pure ?_)
  have t4 : Is3 g4 TO x b c := s4.extBut _ _ D.TOj t3
  refine wpAny_bind (wpAny_seqItems t4 rfl (wpAny_bind (put3 t4 fun g5 t5 s5 => ?_)))
  replace t5 : Is3 g5 TO x y c := t5
  refine wpAny_bind (wpAny_letGo (wpAny_pure ?_))
  -- the third
  refine wpAny_bind (wpAny_bind (wpAny_onRaise ?_))
  show wpAny _ _ (Builtin.SmallTypes.nextOf (.ref k) >>= _) _ _ _
  refine wpAny_bind (wpAny_nextOf_list_item (((((h3.extBut s1.extBut D.kz).extBut s2.extBut D.ik.symm).extBut s3.extBut D.TOk.symm).extBut s4.extBut D.jk.symm).extBut s5.extBut D.TOk.symm)
    (((((hn.extBut s1.extBut D.nz).extBut s2.extBut D.ni).extBut s3.extBut D.nTO).extBut s4.extBut D.nj).extBut s5.extBut D.nTO) hv fun g6 k6 s6 => wpAny_pure ?_)
  have t6 : Is3 g6 TO x y c := s6.extBut _ _ D.TOk t5
  refine wpAny_bind (wpAny_seqItems t6 rfl (wpAny_bind (put3 t6 fun g7 t7 s7 => ?_)))
  replace t7 : Is3 g7 TO x y v := t7
  refine wpAny_bind (wpAny_letGo (wpAny_pure (wpAny_pure ?_)))
  refine wpAny_bind (wpAny_seqItems t7 rfl (wpAny_bind (wpAny_newTuple ?_)))
  have hsz : g7.objs.size = s.heap.objs.size := by rw [s7.1, s6.1, s5.1, s4.1, s3.1, s2.1, s1.1]
  have z7 : IsZip g7 z TI TO .ellipsis := s7.extBut _ _ D.TOz.symm (s6.extBut _ _ D.kz.symm (s5.extBut _ _ D.TOz.symm (s4.extBut _ _ D.jz.symm (s3.extBut _ _ D.TOz.symm (s2.extBut _ _ D.iz.symm z1)))))
  have k7 : KeepsBut z TO i j k s.heap g7 := fun c o c1 c2 c3 c4 c5 e =>
    s7.extBut _ _ c2 (s6.extBut _ _ c5 (s5.extBut _ _ c2 (s4.extBut _ _ c4 (s3.extBut _ _ c2 (s2.extBut _ _ c3 (s1.extBut _ _ c1 e))))))
  have i7 : g7.IsListIter i l (q + 1) := ((((i2.extBut s3.extBut D.TOi.symm).extBut s4.extBut D.ij).extBut s5.extBut D.TOi.symm).extBut s6.extBut D.ik).extBut s7.extBut D.TOi.symm
  have j7 : g7.IsListIter j m (q + 1) := ((j4.extBut s5.extBut D.TOj.symm).extBut s6.extBut D.jk).extBut s7.extBut D.TOj.symm
  have kk7 : g7.IsListIter k n (q + 1) := k6.extBut s7.extBut D.TOk.symm
  have hzlt : z < g7.objs.size := Heap.lt_size z7
  show wpAny _ _ (Builtin.SmallTypes.ownedTupleHandOut (.ref z) (.ref g7.objs.size) >>= _) _ _ _
  refine wpAny_bind ?_
  unfold Builtin.SmallTypes.ownedTupleHandOut
  have z8 : IsZip (g7.push { cls := .type "tuple", data := .seq #[x, y, v] }) z TI TO .ellipsis := Heap.get?_push_of_some _ z7
  refine wpAny_bind (wpAny_setField_rec z8 (by simp) fun g9 z9 s9 => ?_)
  replace z9 : IsZip g9 z TI TO (rawInt g7.objs.size) := z9
  refine wpAny_setField_rec z9 (by simp) fun ga za sa => ?_
  replace za : IsZip ga z TI TO (rawInt g7.objs.size) := za
  have up : ∀ c o, c ≠ z → g7.get? c = some o → ga.get? c = some o := fun c o c1 e => sa.extBut _ _ c1 (s9.extBut _ _ c1 (Heap.get?_push_of_some _ e))
  have ta : Is3 ga g7.objs.size x y v := sa.extBut _ _ (Nat.ne_of_gt hzlt) (s9.extBut _ _ (Nat.ne_of_gt hzlt) (Heap.get?_push_size _ rfl))
  have na : ga.objs.size = g7.objs.size + 1 := by rw [sa.1, s9.1, Heap.size_push]
  rw [hsz] at za ta na
  refine wpAny_pure ⟨_, rfl, ?_⟩
  show Q (.ref g7.objs.size) _
  rw [hsz]
  exact hQ ga za (up _ _ D.TOz t7) (i7.at fun o e => up _ o D.iz e) (j7.at fun o e => up _ o D.jz e) (kk7.at fun o e => up _ o D.kz e) ta na fun c o c1 c2 c3 c4 c5 e => up c o c1 (k7 c o c1 c2 c3 c4 c5 e)
theorem end3 {z TI TO i j k l m n : Addr} {q : Nat} {xs ys zs : Array Value} {a b c : Value} {Q : PySem.Fin → Shared → Prop} (hh : A.handled = none) (D : Apart3 z TI TO i j k l m n)
    (hz : IsZip s.heap z TI TO .none) (hTI : Is3 s.heap TI (.ref i) (.ref j) (.ref k)) (hTO : Is3 s.heap TO a b c)
    (h1 : s.heap.IsListIter i l q) (hl : s.heap.IsList l xs) (hx : xs[q]? = none)
    (hE : ∀ h' e, KeepsBut z TO i j k s.heap h' → (∃ o, h'.get? e = some o ∧ o.cls = .type "StopIteration") → E (.ref e) { s with heap := h' }) :
    wpAny (model prog w) A (Builtin.«zip.__next__» ⟨[.ref z], []⟩) Q E s := by
  show wpAny _ _ (field (.ref z) 2 >>= _) _ _ _
  refine wpAny_bind (wpAny_field hz rfl (x := .bool false) rfl ?_)
  show wpAny _ _ (field (.ref z) 3 >>= _) _ _ _
  refine wpAny_bind (wpAny_field hz rfl (x := .ref TI) rfl (wpAny_bind (wpAny_seqItems hTI rfl ?_)))
  show wpAny _ _ (Builtin.SmallTypes.ownedTupleIsFree (.ref z) >>= _) _ _ _
  refine wpAny_bind ?_
  unfold Builtin.SmallTypes.ownedTupleIsFree
  refine wpAny_bind (wpAny_field hz rfl (x := .none) rfl (wpAny_pure ?_))
  simp only [if_true]
  refine wpAny_bind (wpAny_rule (wpAny_bind (wpAny_field hz rfl (x := .ref TO) rfl (wpAny_bind (wpAny_setField_rec hz (by simp) fun g1 z1 s1 => ?_)))))
  replace z1 : IsZip g1 z TI TO .ellipsis := z1
  refine wpAny_bind ?_
  simp only [List.zipIdx_cons, List.zipIdx_nil, List.forIn_cons, List.forIn_nil]
  refine wpAny_bind (wpAny_bind (wpAny_onRaise ?_))
  show wpAny _ _ (Builtin.SmallTypes.nextOf (.ref i) >>= _) _ _ _
  refine wpAny_bind (wpAny_nextOf_list_end hh (h1.extBut s1.extBut D.iz) (hl.extBut s1.extBut D.lz) hx fun g2 e s2 he => ?_)
  obtain ⟨oe, hoe, hce⟩ := he
  have z2 : IsZip g2 z TI TO .ellipsis := s2 _ _ D.iz.symm z1
  have hez : e ≠ z := fun x => by subst x; rw [z2] at hoe; cases hoe; simp at hce
  refine wpAny_setField_rec z2 (by simp) fun g3 _ s3 => hE g3 e (fun c o c1 _ c3 _ _ x => s3.extBut _ _ c1 (s2 _ _ c3 (s1.extBut _ _ c1 x))) ⟨oe, s3.extBut _ _ hez hoe, hce⟩
theorem pyNext3 {z TI TO i j k l m n : Addr} {q : Nat} {xs ys zs : Array Value} {x y v a b c : Value} {Q : Option Value → Shared → Prop} (D : Apart3 z TI TO i j k l m n)
    (hz : IsZip s.heap z TI TO .none) (hTI : Is3 s.heap TI (.ref i) (.ref j) (.ref k)) (hTO : Is3 s.heap TO a b c)
    (h1 : s.heap.IsListIter i l q) (h2 : s.heap.IsListIter j m q) (h3 : s.heap.IsListIter k n q) (hl : s.heap.IsList l xs) (hm : s.heap.IsList m ys) (hn : s.heap.IsList n zs)
    (hx : xs[q]? = some x) (hy : ys[q]? = some y) (hv : zs[q]? = some v)
    (hQ : ∀ h', IsZip h' z TI TO (rawInt s.heap.objs.size) → Is3 h' TO x y v → h'.IsListIter i l (q + 1) → h'.IsListIter j m (q + 1) → h'.IsListIter k n (q + 1) → Is3 h' s.heap.objs.size x y v →
      h'.objs.size = s.heap.objs.size + 1 → KeepsBut z TO i j k s.heap h' → Q (some (.ref s.heap.objs.size)) { s with heap := h' }) : wpAny (model prog w) A (pyNext (.ref z)) Q E s := by
  have hT : s.TypeIs (.ref z) "zip" := ⟨_, hz, rfl⟩
  unfold pyNext
  exact wpAny_bind (wpAny_attempt (wpAny_callSpecial?_slot (name := Str.ofString "__next__") hT F.slot_zip_next (wpAny_call_entry F.slot_zip_next hT F.entry_zip_next
    (next3 D hz hTI hTO h1 h2 h3 hl hm hn hx hy hv fun h' a1 a2 a3 a4 a5 a6 a7 a8 => wpAny_pure (hQ h' a1 a2 a3 a4 a5 a6 a7 a8)) (F.args_zip_next_1 _))))
theorem pyNext3_end {z TI TO i j k l m n : Addr} {q : Nat} {xs ys zs : Array Value} {a b c : Value} {Q : Option Value → Shared → Prop} (hh : A.handled = none) (D : Apart3 z TI TO i j k l m n)
    (hz : IsZip s.heap z TI TO .none) (hTI : Is3 s.heap TI (.ref i) (.ref j) (.ref k)) (hTO : Is3 s.heap TO a b c)
    (h1 : s.heap.IsListIter i l q) (hl : s.heap.IsList l xs) (hx : xs[q]? = none)
    (hQ : ∀ h', KeepsBut z TO i j k s.heap h' → Q none { s with heap := h' }) : wpAny (model prog w) A (pyNext (.ref z)) Q E s := by
  have hT : s.TypeIs (.ref z) "zip" := ⟨_, hz, rfl⟩
  unfold pyNext
  refine wpAny_bind (wpAny_attempt (wpAny_callSpecial?_slot (name := Str.ofString "__next__") hT F.slot_zip_next (wpAny_call_entry F.slot_zip_next hT F.entry_zip_next
    (end3 (xs := xs) (ys := ys) (zs := zs) hh D hz hTI hTO h1 hl hx fun h' e hk he => ?_) (F.args_zip_next_1 _))))
  obtain ⟨o, ho, hc⟩ := he
  exact wpAny_bind (wpAny_isInstance (T := "StopIteration") (b := true) ⟨o, ho, hc⟩ isSubtype_stop (wpAny_pure (hQ _ hk)))
end
abbrev lit (l : Addr) : Obj := { cls := .type "list_iterator", data := .fields #[.ref l, .int 0 0] }
abbrev hA (h : Heap) (l : Addr) : Heap := h.push (lit l)
abbrev hB (h : Heap) (l m : Addr) : Heap := (hA h l).push (lit m)
abbrev hC (h : Heap) (l m n : Addr) : Heap := (hB h l m).push (lit n)
abbrev hD (h : Heap) (l m n : Addr) : Heap := (hC h l m n).push { cls := .type "tuple", data := .seq #[.ref h.objs.size, .ref (hA h l).objs.size, .ref (hB h l m).objs.size] }
abbrev hE (h : Heap) (l m n : Addr) : Heap := (hD h l m n).push { cls := .type "tuple", data := .seq #[.none, .none, .none] }
abbrev hF (h : Heap) (l m n : Addr) : Heap := (hE h l m n).push { cls := .type "zip", data := .fields #[.none, .bool false, .bool false, .ref (hC h l m n).objs.size, .ref (hD h l m n).objs.size] }
theorem meets_new3 (l m n : Addr) (xs ys zs : Array Value) :
    Meets (Builtin.«zip.__new__» ⟨[.type "zip", .ref l, .ref m, .ref n], []⟩) (fun _ R s => s.heap.IsList l xs ∧ s.heap.IsList m ys ∧ s.heap.IsList n zs ∧
      R (.ok (.ret (.ref (hE s.heap l m n).objs.size))) { s with heap := hF s.heap l m n }) :=
  .of_wp fun prog w A R s h => by
    obtain ⟨hp, g, d, tk, os⟩ := s; obtain ⟨hl1, hl2, hl3, h⟩ := h
    have hsub := sub_zip
    have hL1 : Heap.IsList (Shared.heap ⟨hp, g, d, tk, os⟩) l xs := hl1
    have hL2 : Heap.IsList (Shared.heap ⟨hp.push (lit l), g, d, tk, os⟩) m ys := Heap.IsList.push hl2 _
    have hL3 : Heap.IsList (Shared.heap ⟨(hp.push (lit l)).push (lit m), g, d, tk, os⟩) n zs := Heap.IsList.push (Heap.IsList.push hl3 _) _
    wp_walk using wpAny_pyIter_list hL1, wpAny_pyIter_list hL2, wpAny_pyIter_list hL3
    exact ⟨_, rfl, h⟩
section
variable {prog : Program} {w : World} {A : Around} {E : Value → Shared → Prop} {s : Shared}
theorem call3 {l m n : Addr} {xs ys zs : Array Value} {Q : Value → Shared → Prop} (hl : s.heap.IsList l xs) (hm : s.heap.IsList m ys) (hn : s.heap.IsList n zs)
    (h : ∀ h', IsZip h' (s.heap.objs.size + 5) (s.heap.objs.size + 3) (s.heap.objs.size + 4) .none → Is3 h' (s.heap.objs.size + 3) (.ref s.heap.objs.size) (.ref (s.heap.objs.size + 1)) (.ref (s.heap.objs.size + 2)) →
      Is3 h' (s.heap.objs.size + 4) .none .none .none → h'.IsListIter s.heap.objs.size l 0 → h'.IsListIter (s.heap.objs.size + 1) m 0 → h'.IsListIter (s.heap.objs.size + 2) n 0 →
      (∀ c o, s.heap.get? c = some o → h'.get? c = some o) → Q (.ref (s.heap.objs.size + 5)) { s with heap := h' }) :
    wpAny (model prog w) A (call (.type "zip") [.ref l, .ref m, .ref n]) Q E s := by
  refine callType_new F.called_zip (by decide) (tc3 _ _ _) (nc3 _ _ _) (fun obj => oi4 obj _ _ _) F.entry_zip_new (meets_new3 l m n xs ys zs) ⟨hl, hm, hn, ?_⟩
  have z1 : (hA s.heap l).objs.size = s.heap.objs.size + 1 := Heap.size_push ..
  have z2 : (hB s.heap l m).objs.size = s.heap.objs.size + 2 := by rw [Heap.size_push, z1]
  have z3 : (hC s.heap l m n).objs.size = s.heap.objs.size + 3 := by rw [Heap.size_push, z2]
  have z4 : (hD s.heap l m n).objs.size = s.heap.objs.size + 4 := by rw [Heap.size_push, z3]
  have z5 : (hE s.heap l m n).objs.size = s.heap.objs.size + 5 := by rw [Heap.size_push, z4]
  have p6 : (hF s.heap l m n).get? (hE s.heap l m n).objs.size = some _ := Heap.get?_push_size _ rfl
  have p5 : (hF s.heap l m n).get? (hD s.heap l m n).objs.size = some _ := Heap.get?_push_of_some _ (Heap.get?_push_size _ rfl)
  have p4 : (hF s.heap l m n).get? (hC s.heap l m n).objs.size = some _ := Heap.get?_push_of_some _ (Heap.get?_push_of_some _ (Heap.get?_push_size _ rfl))
  have p3 : (hF s.heap l m n).get? (hB s.heap l m).objs.size = some _ := Heap.get?_push_of_some _ (Heap.get?_push_of_some _ (Heap.get?_push_of_some _ (Heap.get?_push_size _ rfl)))
  have p2 : (hF s.heap l m n).get? (hA s.heap l).objs.size = some _ := Heap.get?_push_of_some _ (Heap.get?_push_of_some _ (Heap.get?_push_of_some _ (Heap.get?_push_of_some _ (Heap.get?_push_size _ rfl))))
  have p1 : (hF s.heap l m n).get? s.heap.objs.size = some _ := Heap.get?_push_of_some _ (Heap.get?_push_of_some _ (Heap.get?_push_of_some _ (Heap.get?_push_of_some _ (Heap.get?_push_of_some _ (Heap.get?_push_size _ rfl)))))
  show _ ∧ _
  rw [z3, z4, z5] at p6
  rw [z1, z2, z3] at p4
  rw [z4] at p5
  rw [z2] at p3
  rw [z1] at p2
  rw [z5]
  exact ⟨⟨_, p6, rfl⟩, h _ p6 p4 p5 ⟨_, p1, rfl, rfl⟩ ⟨_, p2, rfl, rfl⟩ ⟨_, p3, rfl, rfl⟩ fun c o x =>
    Heap.get?_push_of_some _ (Heap.get?_push_of_some _ (Heap.get?_push_of_some _ (Heap.get?_push_of_some _ (Heap.get?_push_of_some _ (Heap.get?_push_of_some _ x)))))⟩
end
/-- three lists at a, b, c, the items in new triples -/
def It3 (K : PySem.W.Frag) (a b c : Addr) : It :=
  ⟨fun i H => ∃ (xs ys zs : List V) (x y z : V), SqL K H a xs ∧ SqL K H b ys ∧ SqL K H c zs ∧ xs[i]? = some x ∧ ys[i]? = some y ∧ zs[i]? = some z,
    fun i H v H' => ∃ T x y z, v = .ref T ∧ H T = none ∧ H' = upd H T (.tup [x, y, z]) ∧ (∀ xs, SqL K H a xs → xs[i]? = some x) ∧ (∀ ys, SqL K H b ys → ys[i]? = some y) ∧ ∀ zs, SqL K H c zs → zs[i]? = some z,
    fun i H => ∃ xs : List V, SqL K H a xs ∧ xs.length ≤ i⟩
theorem turn3 {P : Program} {w : World} {K : PySem.W.Frag} {elts : List Expr} {kk : Nat} {tpos : Pos} {a b c z TI TO i1 i2 i3 : Addr} (D : Apart3 z TI TO i1 i2 i3 a b c)
    (hb : ∀ (i : Nat) (H : Hp), True) :
    Turn P w K (.Tuple elts kk tpos) (It3 K a b c) [z, TI, TO, i1, i2, i3] z (fun i h => IsZip h z TI TO .none ∧ Is3 h TI (.ref i1) (.ref i2) (.ref i3) ∧ (∃ x y v, Is3 h TO x y v) ∧ h.IsListIter i1 a i ∧ h.IsListIter i2 b i ∧ h.IsListIter i3 c i) where
  mem := by simp
  obj := fun i h st d hc => by
    obtain ⟨hz, hTI, ⟨x, y, v, hTO⟩, ⟨o1, e1, _, d1⟩, ⟨o2, e2, _, d2⟩, ⟨o3, e3, _, d3⟩⟩ := st
    have e' : d = z ∨ d = TI ∨ d = TO ∨ d = i1 ∨ d = i2 ∨ d = i3 := by simpa using hc
    rcases e' with q | q | q | q | q | q
    · rw [q]; exact ⟨_, hz, fun v q => nomatch q⟩
    · rw [q]; exact ⟨_, hTI, fun v q => nomatch q⟩
    · rw [q]; exact ⟨_, hTO, fun v q => nomatch q⟩
    · rw [q]; exact ⟨o1, e1, fun v q => by rw [d1] at q; cases q⟩
    · rw [q]; exact ⟨o2, e2, fun v q => by rw [d2] at q; cases q⟩
    · rw [q]; exact ⟨o3, e3, fun v q => by rw [d3] at q; cases q⟩
  keep := fun i h h' st k => by
    obtain ⟨hz, hTI, ⟨x, y, v, hTO⟩, h1, h2, h3⟩ := st
    exact ⟨k z (by simp) _ hz, k TI (by simp) _ hTI, ⟨x, y, v, k TO (by simp) _ hTO⟩, h1.at fun o q => k i1 (by simp) o q, h2.at fun o q => k i2 (by simp) o q, h3.at fun o q => k i3 (by simp) o q⟩
  item := by
    intro X hP hw hK hc i pins s σ H E I hf st hg
    subst hP hw hK
    obtain ⟨hz, hTI, ⟨x0, y0, v0, hTO⟩, h1, h2, h3⟩ := st
    obtain ⟨xs, ys, zs, x, y, v, hqx, hqy, hqz, hx, hy, hv⟩ := hg
    obtain ⟨it1, rv1, p1, _⟩ := I.list hqx
    obtain ⟨it2, rv2, p2, _⟩ := I.list hqy
    obtain ⟨it3, rv3, p3, _⟩ := I.list hqz
    obtain ⟨u1, hu1, ru1⟩ := rv1.get hx
    obtain ⟨u2, hu2, ru2⟩ := rv2.get hy
    obtain ⟨u3, hu3, ru3⟩ := rv3.get hv
    have hzl : z < s.heap.objs.size := Heap.lt_size hz
    refine pyNext3 D hz hTI hTO h1 h2 h3 p1.isList p2.isList p3.isList (x := u1) (y := u2) (v := u3) (by simpa using hu1) (by simpa using hu2) (by simpa using hu3) fun h' z' TO' n1 n2 n3 hT hsz hk => ?_
    refine ⟨_, rfl, wpAny_letOwnedTupleGo_zip (s := { s with heap := h' }) z' fun h'' z'' sb => ?_⟩
    have hT2 : h''.get? s.heap.objs.size = some { cls := .type "tuple", data := .seq #[u1, u2, u3] } := (sb.2 _ (Nat.ne_of_gt hzl)).trans hT
    have new : ObjOk X.prog X.w (upd H s.heap.objs.size (.tup [x, y, v])) h'' s.heap.objs.size (.tup [x, y, v]) :=
      ⟨by show 3 ≤ sizeLine; decide, [u1, u2, u3], .cons ru1 (.cons ru2 (.cons ru3 .nil)), ⟨_, hT2, rfl, _, rfl⟩⟩
    have I1 : Inv X pins σ (upd H s.heap.objs.size (.tup [x, y, v])) { s with heap := h'' } :=
      I.turnedNew (t' := s.toks) (ch := [z, TI, TO, i1, i2, i3]) (fun d o hb q => (sb.2 d (fun q' => hb (by simp [q']))).trans (hk d o (fun q' => hb (by simp [q'])) (fun q' => hb (by simp [q'])) (fun q' => hb (by simp [q'])) (fun q' => hb (by simp [q'])) (fun q' => hb (by simp [q'])) q)) hf (Nat.le_refl _) new
    refine ⟨.ref s.heap.objs.size, _, I1, rfl, ⟨_, x, y, v, rfl, I.hok.fresh (Nat.le_refl _), rfl, fun l hl => by rw [I.list_inj hl hqx]; exact hx, fun l hl => by rw [I.list_inj hl hqy]; exact hy, fun l hl => by rw [I.list_inj hl hqz]; exact hv⟩,
      ⟨z'', ?_, ⟨u1, u2, u3, ?_⟩, ?_, ?_, ?_⟩, fun d hcm => ?_⟩
    · exact (sb.2 _ D.TIz).trans (hk _ _ D.TIz D.TITO D.TIi D.TIj D.TIk hTI)
    · exact (sb.2 _ D.TOz).trans TO'
    · exact n1.at fun o q => (sb.2 _ D.iz).trans q
    · exact n2.at fun o q => (sb.2 _ D.jz).trans q
    · exact n3.at fun o q => (sb.2 _ D.kz).trans q
    · have hlt : d < s.heap.objs.size := by
        have e' : d = z ∨ d = TI ∨ d = TO ∨ d = i1 ∨ d = i2 ∨ d = i3 := by simpa using hcm
        rcases e' with q | q | q | q | q | q
        · rw [q]; exact hzl
        · rw [q]; exact Heap.lt_size hTI
        · rw [q]; exact Heap.lt_size hTO
        · rw [q]; obtain ⟨_, e1, _⟩ := h1; exact Heap.lt_size e1
        · rw [q]; obtain ⟨_, e1, _⟩ := h2; exact Heap.lt_size e1
        · rw [q]; obtain ⟨_, e1, _⟩ := h3; exact Heap.lt_size e1
      rw [upd_ne (Nat.ne_of_lt hlt)]
      exact (hf d hcm).1
  done := by
    intro X hP hw hK hc i pins s σ H E I hf st hg
    subst hP hw hK
    obtain ⟨hz, hTI, ⟨x0, y0, v0, hTO⟩, h1, h2, h3⟩ := st
    obtain ⟨xs, hqx, hend⟩ := hg
    obtain ⟨its, rv, p, _⟩ := I.list hqx
    have l1 := rv.length
    have he : its.toArray[i]? = none := by simp; omega
    exact pyNext3_end (xs := its.toArray) (ys := its.toArray) (zs := its.toArray) (I.ok.hd hc) D hz hTI hTO h1 p.isList he fun h' hk => ⟨rfl, I.turnedL (t' := s.toks) (ch := [z, TI, TO, i1, i2, i3]) (fun d o hb q =>
      hk d o (fun q' => hb (by simp [q'])) (fun q' => hb (by simp [q'])) (fun q' => hb (by simp [q'])) (fun q' => hb (by simp [q'])) (fun q' => hb (by simp [q'])) q) hf⟩
  self := fun A i s Q E st h => wpAny_pyIter_zip st.1 h
def iZip3 (K : PySem.W.Frag) (ta : TA) : TI := fun σ H R => ta σ H fun vs H1 => ∃ a b c xs ys zs, vs = [.ref a, .ref b, .ref c] ∧ SqL K H1 a xs ∧ SqL K H1 b ys ∧ SqL K H1 c zs ∧ R (It3 K a b c) H1
theorem pi_zip3 {X : Cx} {e e2 e3 : Expr} {ta : TA} {p pos tpos : Pos} {elts : List Expr} {kk : Nat} (hg : Gl X "zip") (hm : X.mg "zip" = none) (ha : PA X [e, e2, e3] ta)
    (hs : starEach [e, e2, e3] X.env = (false, eval e X.env) :: starEach [e2, e3] X.env) (hpl : (backTo pos (starEach [e2, e3] X.env)).any (·.1) = false) :
    PI X (.Tuple elts kk tpos) (.Call (.Name "zip" p) [e, e2, e3] [] pos) (iZip3 X.K ta) := by
  refine ⟨fun pins s σ H R I h => ?_⟩
  refine Call_ (ld_blt I hg hm PyProof.Rows.boot_zip (PyProof.Rows.callWith_type1 (thn (ha.run pos pins s σ H _ I h) fun us s1 ⟨vs, H1, I1, r1, q1⟩ => ?_) hs hpl))
  obtain ⟨a, b, c, xs, ys, zs, ex, hqx, hqy, hqz, q⟩ := q1
  subst ex
  cases r1 with
  | cons r rr =>
    cases rr with
    | cons r' rr =>
      cases rr with
      | cons r'' rr =>
        cases rr
        cases r
        cases r'
        cases r''
        obtain ⟨it1, rv1, p1, _⟩ := I1.list hqx
        obtain ⟨it2, rv2, p2, _⟩ := I1.list hqy
        obtain ⟨it3, rv3, p3, _⟩ := I1.list hqz
        refine call3 p1.isList p2.isList p3.isList fun h' hz hTI hTO h1 h2 h3 hk => wpAny_pyIter_zip hz ?_
        have I2 : Inv X pins σ H1 { s1 with heap := h' } := I1.kept (t' := s1.toks) hk
        refine ⟨s1.heap.objs.size + 5, [s1.heap.objs.size + 5, s1.heap.objs.size + 3, s1.heap.objs.size + 4, s1.heap.objs.size, s1.heap.objs.size + 1, s1.heap.objs.size + 2], _, _, H1, rfl, I2,
          turn3 (apart3 s1.heap.objs.size a b c p1.lt p2.lt p3.lt) (fun _ _ => trivial), ⟨hz, hTI, ⟨_, _, _, hTO⟩, h1, h2, h3⟩, fun d hcm => ?_, q⟩
        have e' : d = s1.heap.objs.size + 5 ∨ d = s1.heap.objs.size + 3 ∨ d = s1.heap.objs.size + 4 ∨ d = s1.heap.objs.size ∨ d = s1.heap.objs.size + 1 ∨ d = s1.heap.objs.size + 2 := by simpa using hcm
        have hle : s1.heap.objs.size ≤ d := by
          rcases e' with z | z | z | z | z | z
          · rw [z]; exact Nat.le_add_right _ _
          · rw [z]; exact Nat.le_add_right _ _
          · rw [z]; exact Nat.le_add_right _ _
          · rw [z]; exact Nat.le_refl _
          · rw [z]; exact Nat.le_add_right _ _
          · rw [z]; exact Nat.le_add_right _ _
        exact I1.fpOk hle (I1.hok.fresh hle)
end PlZ

set_option maxHeartbeats 4000000
/-! PSoundS: sorted(set(pairs)), pairs of whole numbers of any sign. -/
namespace PlT
open PySem PyProof.Rows
def rk (M : Int) : List Int → Int
  | [x, y] => x * M + y
  | _ => 0
def Near (M : Int) (ns : List Int) : Prop := ∃ x y, ns = [x, y] ∧ -M < 2 * y ∧ 2 * y < M
theorem rk_less {M x y x' y' : Int} (h1 : -M < 2 * y) (h2 : 2 * y < M) (h3 : -M < 2 * y') (h4 : 2 * y' < M) (h : x < x') : rk M [x, y] < rk M [x', y'] := by
  show x * M + y < x' * M + y'
  have p : (x + 1) * M ≤ x' * M := Int.mul_le_mul_of_nonneg_right (by omega) (by omega)
  rw [Int.add_mul, Int.one_mul] at p
  generalize x * M = X at p ⊢
  generalize x' * M = Y at p ⊢
  omega
theorem rk_iff {M x y x' y' : Int} (h1 : -M < 2 * y) (h2 : 2 * y < M) (h3 : -M < 2 * y') (h4 : 2 * y' < M) : rk M [x, y] < rk M [x', y'] ↔ x < x' ∨ (x = x' ∧ y < y') := by
  constructor
  · intro h
    rcases Int.lt_trichotomy x x' with q | q | q
    · exact .inl q
    · subst q
      refine .inr ⟨rfl, ?_⟩
      have h' : x * M + y < x * M + y' := h
      omega
    · have := rk_less h3 h4 h1 h2 q
      omega
  · rintro (h | ⟨rfl, h⟩)
    · exact rk_less h1 h2 h3 h4 h
    · show x * M + y < x * M + y'
      omega
section
variable {prog : Program} {w : World} {A : Around} {E : Value → Shared → Prop} {s : Shared} {Q : Bool → Shared → Prop}
theorem lex2 {M : Int} {b : Bool} {xs ys : List Value} {ns ms : List Int} (hx : IntsAre xs ns) (hy : IntsAre ys ms) (h1 : Near M ns) (h2 : Near M ms) (h : Q (decide (rk M ns < rk M ms)) s) : PySem.W.KatLex prog w A b false Q (xs.zip ys) 0 s := by
  obtain ⟨x, y, rfl, a1, a2⟩ := h1
  obtain ⟨x', y', rfl, b1, b2⟩ := h2
  cases hx with
  | cons p t hx =>
    cases hx with
    | cons p2 t2 hx =>
      cases hx
      cases hy with
      | cons q u hy =>
        cases hy with
        | cons q2 u2 hy =>
          cases hy
          have key := rk_iff (x := x) (x' := x') a1 a2 b1 b2
          show PySem.W.KatLex prog w A b false Q [(Value.int x t, Value.int x' u), (Value.int y t2, Value.int y' u2)] 0 s
          refine PySem.W.kat_cons (wpAny_eqBool_int ?_)
          by_cases e : x = x'
          · subst e
            rw [beq_self_eq_true]
            refine PySem.W.kat_yes (PySem.W.kat_cons (wpAny_eqBool_int ?_))
            by_cases e2 : y = y'
            · subst e2
              rw [beq_self_eq_true]
              refine PySem.W.kat_yes (PySem.W.kat_nil ?_)
              have : decide (rk M [x, y] < rk M [x, y]) = false := decide_eq_false (Int.lt_irrefl _)
              rw [this] at h
              exact h
            · rw [show (y == y') = false from beq_eq_false_iff_ne.mpr e2]
              refine PySem.W.kat_no (TS.oneLt_ints _ ?_)
              rw [show decide (y < y') = decide (rk M [x, y] < rk M [x, y']) from decide_eq_decide.mpr ⟨fun z => key.mpr (.inr ⟨rfl, z⟩), fun z => by
                rcases key.mp z with k | k
                · exact absurd k (Int.lt_irrefl _)
                · exact k.2⟩]
              exact h
          · rw [show (x == x') = false from beq_eq_false_iff_ne.mpr e]
            refine PySem.W.kat_no (TS.oneLt_ints _ ?_)
            rw [show decide (x < x') = decide (rk M [x, y] < rk M [x', y']) from decide_eq_decide.mpr ⟨fun z => key.mpr (.inl z), fun z => by
              rcases key.mp z with k | k
              · exact k
              · exact absurd k.1 e⟩]
            exact h
end
def PairsOk (h : Heap) (M : Int) (vs : List Value) : Prop := ∀ v, v ∈ vs → ∃ ns, TS.TupInts h v ns ∧ Near M ns
theorem firsts2 {h : Heap} {M : Int} : ∀ vs : List Value, PairsOk h M vs → ∃ fs, PySem.W.KatTups h vs fs ∧ fs.length = vs.length ∧ ∀ f, f ∈ fs → ∃ n t, f = Value.int n t
  | [], _ => ⟨[], PySem.W.KatTups.nil, rfl, fun f hf => by cases hf⟩
  | v :: vs, x => by
    obtain ⟨fs, k, hl, hi⟩ := firsts2 vs fun u hu => x u (List.mem_cons_of_mem _ hu)
    obtain ⟨ns, ⟨a, xs, rfl, ⟨o, ho, hc, n, hdt⟩, i⟩, ⟨x0, y0, rfl, _⟩⟩ := x v List.mem_cons_self
    generalize hxl : xs.toList = xl at i
    cases i with
    | cons p t i2 =>
      have hy : xs[0]? = some (Value.int x0 t) := by
        have z := congrArg (fun l : List Value => l[0]?) hxl
        simpa using z
      refine ⟨Value.int x0 t :: fs, PySem.W.KatTups.cons ho hc hdt hy k, by rw [List.length_cons, List.length_cons, hl], fun f hf => ?_⟩
      rcases List.mem_cons.mp hf with rfl | hf
      · exact ⟨x0, t, rfl⟩
      · exact hi f hf
section
variable {prog : Program} {w : World} {A : Around} {E : Value → Shared → Prop} {s : Shared}
theorem kind2 {M : Int} {vs : List Value} (h2 : 2 ≤ vs.length) (x : PairsOk s.heap M vs) (r : Value → Int) (hr : ∀ v, v ∈ vs → ∀ ns, TS.TupInts s.heap v ns → r v = rk M ns) (Q : SortKind → Shared → Prop)
    (h : ∀ κ, TS.Cmp prog w A s κ (pairsOf vs) r → Q κ s) : wpAny (model prog w) A (keyKind' vs.toArray) Q E s := by
  obtain ⟨fs, k, hl, hi⟩ := firsts2 vs x
  refine PySem.W.kat_kind (T := Value.type "int") k (by omega) (fun f hf => ?_) rfl (h _ ?_)
  · obtain ⟨n, t, rfl⟩ := hi f hf
    exact PySem.W.Looks.of_pure rfl
  · intro p q hp hq Q' E' hQ
    rw [pairsOf_toList] at hp hq
    obtain ⟨ns, tp, np⟩ := x _ (mem_zip_self hp).2
    obtain ⟨ms, tq, nq⟩ := x _ (mem_zip_self hq).2
    rw [hr _ (mem_zip_self hp).2 _ tp, hr _ (mem_zip_self hq).2 _ tq] at hQ
    obtain ⟨a, xs, e1, ⟨o, ho, hc, n, hdt⟩, i⟩ := tp
    obtain ⟨a', ys, e2, ⟨o', ho', hc', n', hdt'⟩, i'⟩ := tq
    rw [e1, e2]
    refine PySem.W.kat_lt ho hdt ho' hdt' ?_
    have l1 := i.length
    have l2 := i'.length
    obtain ⟨x1, y1, rfl, _⟩ := id np
    obtain ⟨x2, y2, rfl, _⟩ := id nq
    rw [Array.length_toList] at l1 l2
    rw [show decide (xs.size < ys.size) = false from decide_eq_false (by rw [l1, l2]; exact Nat.lt_irrefl _)]
    exact lex2 i i' np nq hQ
theorem sort2 {a : Addr} {vs : List Value} {n : Nat} {M : Int} {Q : Value → Shared → Prop} (ho : s.heap.get? a = some (seqObj "list" vs.toArray n)) (h64 : vs.length < 64) (x : PairsOk s.heap M vs)
    (h : ∀ out : Array Value, out.toList.Perm vs → out.toList.Pairwise (fun u v => rk M (TS.intsOf s.heap u) ≤ rk M (TS.intsOf s.heap v)) → Q .none { s with heap := sortedHeap s.heap a vs out }) :
    wpAny (model prog w) A (call (.builtin "list.sort") [.ref a]) Q E s := by
  have keep : ∀ b o, s.heap.get? b = some o → o.cls = .type "tuple" → (TS.midHeap s.heap a vs).get? b = some o := fun b o e hc => by
    refine TS.midHeap_old (fun z => ?_) e
    subst z
    rw [ho] at e
    rw [← Option.some.inj e] at hc
    have c' : Value.type "list" = Value.type "tuple" := hc
    injection c' with c''
    exact absurd c'' (by decide)
  refine wpAny_call_entry slot_list_sort ⟨_, ho, rfl⟩ entry_list_sort (SK.plain_sort (r := fun v => rk M (TS.intsOf s.heap v)) ho h64 (fun h2 Q hQ => ?_) fun ps out h1 h2 h3 => ?_) (args_list_sort _)
  · refine kind2 (s := { s with heap := TS.midHeap s.heap a vs }) (M := M) h2 (fun v hv => let ⟨ns, t, r⟩ := x v hv; ⟨ns, t.keeps keep, r⟩) _ (fun v hv ns t => ?_) Q hQ
    obtain ⟨ns0, t0, _⟩ := x v hv
    show rk M (TS.intsOf s.heap v) = rk M ns
    rw [t0.ints, ← (t0.keeps keep).ints, t.ints]
  · obtain ⟨p, o⟩ := TS.out_rank (r := fun v => rk M (TS.intsOf s.heap v)) h1 h2 h3
    exact ⟨_, rfl, h out p o⟩
end
end PlT
namespace PlT
open PySem PySem.Spec PyProof.Rows L2
section
variable {P : Program} {w : World} {A : Around} {E : Value → Shared → Prop} {s : Shared}
/-- values that are the addresses of rows, in some order -/
theorem rows_at {L : List (Addr × List Int)} : ∀ {vs : List Value}, (∀ v ∈ vs, ∃ q ∈ L, v = Value.ref q.1) → ∃ L1 : List (Addr × List Int), vs = L1.map (fun q => Value.ref q.1) ∧ ∀ q ∈ L1, q ∈ L
  | [], _ => ⟨[], rfl, fun q hq => by cases hq⟩
  | v :: vs, h => by
    obtain ⟨q, hq, e⟩ := h v List.mem_cons_self
    obtain ⟨L1, e1, hs⟩ := rows_at (vs := vs) fun u hu => h u (List.mem_cons_of_mem _ hu)
    refine ⟨q :: L1, by rw [List.map_cons, e, e1], fun r hr => ?_⟩
    rcases List.mem_cons.mp hr with z | z
    · rw [z]; exact hq
    · exact hs r z
theorem sortedSet {a : Addr} {L : List (Addr × List Int)} {es : Array (Int × Value)} {ep : Nat} {t : SetTable} {Q : Value → Shared → Prop} (R : SetTR P w s.heap a L es ep t) (hh : A.handled = none)
    {M : Int} (hB : ∀ p ∈ L, Near M p.2)
    (hQ : ∀ s' p (out : Array Value) (c : Nat) (L' : List (Addr × List Int)), (∀ b o, s.heap.get? b = some o → s'.heap.get? b = some o) → s'.gens = s.gens → s'.os = s.os → s.heap.objs.size ≤ p →
      s'.heap.get? p = some (seqObj "list" out c) → out.toList = L'.map (fun q => Value.ref q.1) → L'.Perm L → L'.Pairwise (fun q r => rk M q.2 ≤ rk M r.2) → Q (.ref p) s') :
    wpAny (model P w) A (call (.builtin "sorted") [.ref a]) Q E s := by
  obtain ⟨o, ho, hex, hd⟩ := R.ob
  have hfew := R.few
  refine Calls.call_function_entry kind_sorted plain_sorted entry_sorted (args_sorted1 _) ?_
  unfold Builtin.«sorted»
  refine wpAny_bind (m := checkCount "sorted" 1 1 _) (wpAny_pure ?_)
  refine wpAny_bind (collect_set (A := A.in1) hh ⟨o, ho, hex.1, hd⟩ R.fits (by have := R.size; unfold scanBound; omega) R.tab.ris R.led fun s1 vs k1 hz g1 o1 pm => ?_)
  have hes : es.toList.map (·.2) = L.map fun q => Value.ref q.1 := by
    rw [R.rows]
    unfold rowsOf
    rw [List.map_map] <;> rfl
  rw [hes] at pm
  have one : ∀ q ∈ L, ∀ r ∈ L, q.1 = r.1 → q = r := fun q hq r hr e => by
    have a1 := R.tup q hq
    rw [e] at a1
    exact Prod.ext e (a1.inj (R.tup r hr))
  have nL : L.Nodup := nodup_of_map R.nd
  have nref : (L.map fun q => Value.ref q.1).Nodup := by
    refine List.pairwise_map.mpr (List.Pairwise.imp_of_mem (fun {q r} hq hr hne e => ?_) nL)
    injection e with e
    exact hne (one q hq r hr e)
  have perm_of : ∀ L1 : List (Addr × List Int), (∀ q ∈ L1, q ∈ L) → (L1.map (fun q => Value.ref q.1)).Perm (L.map fun q => Value.ref q.1) → L1.Perm L := fun L1 hs pm1 => by
    refine (List.perm_ext_iff_of_nodup (nodup_of_map (pm1.nodup_iff.mpr nref)) nL).mpr fun q => ⟨hs q, fun hq => ?_⟩
    obtain ⟨r, hr, e⟩ := List.mem_map.mp (pm1.mem_iff.mpr (List.mem_map.mpr ⟨q, hq, rfl⟩))
    injection e with e
    rw [← one r (hs r hr) q hq e]
    exact hr
  have hvl : vs.length < 64 := by rw [pm.length_eq, List.length_map]; exact hfew
  refine wpAny_bind (wpAny_newList ?_ (by rw [sizeLine_eq]; omega))
  have hoL : (s1.heap.push (seqObj "list" vs.toArray 0)).get? s1.heap.objs.size = some (seqObj "list" vs.toArray 0) := Heap.get?_push_size _ rfl
  have tk : ∀ q ∈ L, TS.TupInts (s1.heap.push (seqObj "list" vs.toArray 0)) (.ref q.1) q.2 := fun q hq => tupInts_of (P := P) (w := w) (isT_keep (R.tup q hq) fun b u e => Heap.get?_push_of_some _ (k1 b u e))
  have x : PairsOk (s1.heap.push (seqObj "list" vs.toArray 0)) M vs := fun v hv => by
    obtain ⟨q, hq, e⟩ := List.mem_map.mp (pm.mem_iff.mp hv)
    exact ⟨q.2, e ▸ tk q hq, hB q hq⟩
  refine wpAny_bind (wpAny_holding (sort2 (s := { s1 with heap := s1.heap.push (seqObj "list" vs.toArray 0) }) hoL hvl x fun out a1 a2 => ?_))
  obtain ⟨c, hc⟩ := sortedHeap_at (vs := vs) (out := out) hoL
  obtain ⟨L', e', hs'⟩ := rows_at (L := L) (vs := out.toList) fun v hv => by
    obtain ⟨q, hq, e⟩ := List.mem_map.mp (pm.mem_iff.mp (a1.mem_iff.mp hv))
    exact ⟨q, hq, e.symm⟩
  have pL : L'.Perm L := perm_of L' hs' (by rw [← e']; exact a1.trans pm)
  have pw : L'.Pairwise (fun q r => rk M q.2 ≤ rk M r.2) := by
    rw [e'] at a2
    refine List.Pairwise.imp_of_mem (fun {q r} hq hr hle => ?_) (List.pairwise_map.mp a2)
    have f1 : TS.intsOf (s1.heap.push (seqObj "list" vs.toArray 0)) (.ref q.1) = q.2 := (tk q (hs' q hq)).ints
    have f2 : TS.intsOf (s1.heap.push (seqObj "list" vs.toArray 0)) (.ref r.1) = r.2 := (tk r (hs' r hr)).ints
    rw [← f1, ← f2]
    exact hle
  refine wpAny_pure ⟨_, rfl, hQ _ s1.heap.objs.size out c L' (fun b u e => ?_) g1 o1 hz hc e' pL pw⟩
  have q := k1 b u e
  have hlt := Heap.lt_size q
  show (sortedHeap (s1.heap.push (seqObj "list" vs.toArray 0)) s1.heap.objs.size vs out).get? b = some u
  rw [sortedHeap_old (Nat.ne_of_lt hlt) (by rw [size_push']; exact Nat.lt_succ_of_lt hlt)]
  exact Heap.get?_push_of_some _ q
end
section
variable {X : Cx}
/-- sorted(set), pairs of whole numbers -/
def rSorted2 (K : PySem.W.Frag) (P : Program) (w : World) : List V → Hp → VK → Prop := fun vs H Q => ∃ (a : Addr) (L : List (Addr × List Int)) (M : Int), vs = [V.ref a] ∧ H a = some (SetTO P w a L) ∧ (∀ p ∈ L, SqT K H p.1 (p.2.map V.int)) ∧
  (∀ p ∈ L, Near M p.2) ∧
  ∀ (L' : List (Addr × List Int)) (p : Addr), L'.Perm L → (L'.map (·.2)).Nodup → L'.Pairwise (fun q r => rk M q.2 ≤ rk M r.2) → H p = none → Q (.ref p) (upd H p (.lst (L'.map fun q => V.ref q.1)))
theorem cr_sorted2 (hc : X.calm = true) : CallR X (.builtin "sorted") (rSorted2 X.K X.prog X.w) := by
  intro pins s σ H vs us Q I r h
  obtain ⟨a, L, M, rfl, ha, hk, hB, q⟩ := h
  have R0 : SetT0 X.prog X.w s.heap a L := (I.hok a _ ha).1
  obtain ⟨es, ep, t, R⟩ := R0.full fun p hp => I.isT (hk p hp)
  rw [Vals.ref1 r]
  refine sortedSet R (I.ok.hd hc) hB fun s' p out c L' k g o hp hg hout pm pw => ?_
  have hfew : L'.length < 64 := by rw [pm.length_eq]; exact R.few
  have hlen : (L'.map fun q => V.ref q.1).length ≤ sizeLine := by rw [List.length_map, sizeLine_eq]; omega
  have hn : H p = none := I.hok.fresh hp
  have hv : Vals (L'.map fun q => V.ref q.1) out.toList := by rw [hout]; exact vals_of_refs L'
  have J : Inv X pins σ (upd H p (.lst (L'.map fun q => V.ref q.1))) { s with heap := s'.heap, gens := s'.gens, drawn := s'.drawn, toks := s'.toks } :=
    I.call (ch := []) (Un.laid k hp hn) (I.hok.laid k hp ⟨hlen, out.toList, c, hv, hg⟩) (by rw [g]; exact I.bare) (fun _ z => nomatch z)
  have e : s' = { s with heap := s'.heap, gens := s'.gens, drawn := s'.drawn, toks := s'.toks } := by
    cases s'
    cases s
    cases o
    rfl
  rw [e]
  exact ⟨.ref p, _, J, rfl, q L' p pm ((pm.map (·.2)).nodup_iff.mpr R.nd) pw hn⟩
end
end PlT

/-! PSoundT: zip over three lists, sorted(set(pairs)). -/
namespace Pl
open PySem
open L2 (V Hp HO St VK TE TT TA TS TI TG Cx PE PT PW PA PS PSs PI PG Inv SqL SqT upd upd_same upd_ne OpR UnR CallR R2 Vals RelV EP Gl Vis It)
theorem zipL3_get : ∀ {xs ys zs : List D} {i : Nat} {d : D}, (zipL3 xs ys zs)[i]? = some d → ∃ x y z, xs[i]? = some x ∧ ys[i]? = some y ∧ zs[i]? = some z ∧ d = .tuple [x, y, z]
  | [], _, _, _, _, h => by simp [zipL3] at h
  | _ :: _, [], _, _, _, h => by simp [zipL3] at h
  | _ :: _, _ :: _, [], _, _, h => by simp [zipL3] at h
  | x :: xs, y :: ys, z :: zs, 0, d, h => by simp [zipL3] at h; exact ⟨x, y, z, rfl, rfl, rfl, h.symm⟩
  | x :: xs, y :: ys, z :: zs, i + 1, d, h => by
    simp only [zipL3, List.getElem?_cons_succ] at h
    obtain ⟨a, b, c, h1, h2, h3, h4⟩ := zipL3_get h
    exact ⟨a, b, c, by simpa using h1, by simpa using h2, by simpa using h3, h4⟩
theorem zipL3_len : ∀ (xs ys zs : List D), xs.length ≤ ys.length → xs.length ≤ zs.length → (zipL3 xs ys zs).length = xs.length
  | [], _, _, _, _ => by simp [zipL3]
  | _ :: _, [], _, h, _ => by simp at h
  | _ :: _, _ :: _, [], _, h => by simp at h
  | _ :: xs, _ :: ys, _ :: zs, h1, h2 => by simp only [zipL3, List.length_cons]; rw [zipL3_len xs ys zs (by simpa using h1) (by simpa using h2)]
theorem feeds_zip3 {K : PySem.W.Frag} {F : Hp} {q r t : Addr} {xs ys zs : List V} {ds es fs : List D} (h : SqL K F q xs) (r1 : DpAll K F xs ds) (h' : SqL K F r ys) (r2 : DpAll K F ys es) (h'' : SqL K F t zs) (r3 : DpAll K F zs fs)
    (l1 : ds.length ≤ es.length) (l2 : ds.length ≤ fs.length) : Feeds K F (PlZ.It3 K q r t) (zipL3 ds es fs) := fun F2 H s1 s2 i => by
  have hq := sqL_sub s2 (sqL_sub s1 h)
  have hr := sqL_sub s2 (sqL_sub s1 h')
  have ht := sqL_sub s2 (sqL_sub s1 h'')
  refine ⟨fun d hd => ?_, fun hl => ⟨xs, hq, by rw [dpAll_len r1]; rw [zipL3_len _ _ _ l1 l2] at hl; exact hl⟩⟩
  obtain ⟨z, z', z'', hz, hz', hz'', rfl⟩ := zipL3_get hd
  obtain ⟨v, h1, h2⟩ := dpAll_get r1 hz
  obtain ⟨v', h3, h4⟩ := dpAll_get r2 hz'
  obtain ⟨v'', h5, h6⟩ := dpAll_get r3 hz''
  refine ⟨⟨xs, ys, zs, v, v', v'', hq, hr, ht, h1, h3, h5⟩, fun y H' hy => ?_⟩
  obtain ⟨T, w, w', w'', rfl, hT, e, hy, hy', hy''⟩ := hy
  subst e
  have e1 := hy xs hq
  rw [h1] at e1
  cases e1
  have e2 := hy' ys hr
  rw [h3] at e2
  cases e2
  have e3 := hy'' zs ht
  rw [h5] at e3
  cases e3
  have sF := s1.trans (sub_new (o := .tup [v, v', v'']) (s2.free hT))
  exact ⟨upd F2 T (.tup [v, v', v'']), ext_newF hT, sub_newF s2, .tup (.inl (.inl upd_same)) (.cons (dp_sub sF _ _ h2) (.cons (dp_sub sF _ _ h4) (.cons (dp_sub sF _ _ h6) .nil)))⟩
theorem dpAll3 {K : PySem.W.Frag} {F : Hp} {vs : List V} {d e f : D} (h : DpAll K F vs [d, e, f]) : ∃ v w x, vs = [v, w, x] ∧ Dp K F v d ∧ Dp K F w e ∧ Dp K F x f := by
  cases h with
  | cons a t => cases t with | cons b t => cases t with | cons c t => cases t; exact ⟨_, _, _, rfl, a, b, c⟩
section
variable {X : Cx} {C : Ctx} {ff : String → Bool} {au : Option Addr} {e a b c : Expr} {es : List Expr} {p pa pb pc : E} {ps : Es} {pos : Pos} {x : Str} {pos2 : Pos}
theorem simI_zip3 {elts : List Expr} {kk : Nat} {tpos : Pos} (hg : Gl X "zip") (hm : X.mg "zip" = none) (ha : SimA X C au [a, b, c] (.cons pa (.cons pb (.cons pc .nil))))
    (hs : starEach [a, b, c] X.env = (false, eval a X.env) :: starEach [b, c] X.env) (hpl : (backTo pos (starEach [b, c] X.env)).any (·.1) = false) : SimI X C au (.Tuple elts kk tpos) (.Call (.Name "zip" pos2) [a, b, c] [] pos) (.zip3 pa pb pc) :=
  ⟨L2.PI.imp (PlZ.pi_zip3 hg hm ha.t hs hpl) fun σ H Q ⟨F, env, u, ds, u', A, ev, k⟩ => by
    simp only [evalI] at ev
    obtain ⟨⟨d, u1⟩, e1, ev⟩ := Option.bind_eq_some_iff.mp ev
    obtain ⟨⟨d', u2⟩, e2, ev⟩ := Option.bind_eq_some_iff.mp ev
    obtain ⟨⟨d'', u3⟩, e3, ev⟩ := Option.bind_eq_some_iff.mp ev
    obtain ⟨xs, e4, ev⟩ := Option.bind_eq_some_iff.mp ev
    cases ev
    simp only at e2 e3 e4
    refine ⟨F, env, u, [d, d', d''], u3, by simpa [fvEs, fvI] using A, by simp [evalEs, e1, e2, e3], fun vs F1 H1 P1 r1 => ?_⟩
    obtain ⟨v, w, z, rfl, hv, hw, hz⟩ := dpAll3 r1
    unfold zipD3 at e4
    split at e4 <;> first | contradiction | skip
    split at e4 <;> first | contradiction | skip
    rename_i hl
    cases e4
    obtain ⟨q, vs, rfl, h1, h2⟩ := dp_list hv
    obtain ⟨r, ws, rfl, h3, h4⟩ := dp_list hw
    obtain ⟨t, zs, rfl, h5, h6⟩ := dp_list hz
    exact ⟨q, r, t, vs, ws, zs, rfl, sqL_sub P1.sub h1, sqL_sub P1.sub h3, sqL_sub P1.sub h5, k _ F1 H1 P1 (feeds_zip3 h1 h2 h3 h4 h5 h6 hl.1 hl.2) (fun h => nomatch h)⟩⟩
end

/-! ### sorted(set(pairs)) -/
def pr2 (p : Int × Int) : List Int := [p.1, p.2]
theorem ks_of {K : PySem.W.Frag} {F : Hp} : ∀ {xs : List D} {vs : List V} {ps : List (Int × Int)}, DpAll K F vs xs → pairsOf xs = some ps →
    ∃ ks : List (Addr × List Int), vs = ks.map (fun p => V.ref p.1) ∧ (∀ p ∈ ks, SqT K F p.1 (p.2.map V.int)) ∧ ks.map (·.2) = ps.map pr2
  | [], _, ps, .nil, h => by
    simp only [pairsOf, Option.some.injEq] at h
    subst h
    exact ⟨[], rfl, fun p hp => (by cases hp), rfl⟩
  | d :: xs, _, ps, .cons a t, h => by
    unfold pairsOf at h
    split at h <;> first | contradiction | skip
    rename_i x y r heq
    cases heq
    rw [Option.map_eq_some_iff] at h
    obtain ⟨qs, h, rfl⟩ := h
    obtain ⟨ks, e1, e2, e3⟩ := ks_of t h
    obtain ⟨b, ws, rfl, h1, h2⟩ := dp_tuple a
    obtain ⟨v, w, rfl, hv, hw⟩ := dpAll2 h2
    obtain rfl := dp_int hv
    obtain rfl := dp_int hw
    refine ⟨(b, [x, y]) :: ks, by rw [e1]; rfl, fun p hp => ?_, by rw [List.map_cons, e3]; rfl⟩
    rcases List.mem_cons.mp hp with rfl | hp
    · exact h1
    · exact e2 p hp
theorem ltP_iff {p q : Int × Int} : ltP p q = true ↔ p.1 < q.1 ∨ (p.1 = q.1 ∧ p.2 < q.2) := by unfold ltP; exact decide_eq_true_iff
theorem ltP_trans {p q r : Int × Int} (h : ltP p q = true) (k : ltP q r = true) : ltP p r = true := by
  rw [ltP_iff] at *
  omega
theorem ltP_irr {p : Int × Int} (h : ltP p p = true) : False := by
  rw [ltP_iff] at h
  omega
theorem ltP_tri {p q : Int × Int} (h : ¬ ltP p q = true) (k : p ≠ q) : ltP q p = true := by
  rw [ltP_iff] at *
  have : ¬ (p.1 = q.1 ∧ p.2 = q.2) := fun z => k (Prod.ext z.1 z.2)
  omega
theorem insP_mem {p x : Int × Int} : ∀ {l : List (Int × Int)}, x ∈ insP p l ↔ x = p ∨ x ∈ l
  | [] => by simp [insP]
  | q :: r => by
    unfold insP
    split
    · simp
    · split
      · rename_i e; subst e; simp
      · rw [List.mem_cons, insP_mem, List.mem_cons]
        constructor
        · rintro (h | h | h)
          · exact .inr (.inl h)
          · exact .inl h
          · exact .inr (.inr h)
        · rintro (h | h | h)
          · exact .inr (.inl h)
          · exact .inl h
          · exact .inr (.inr h)
theorem insP_sorted {p : Int × Int} : ∀ {l : List (Int × Int)}, l.Pairwise (fun a b => ltP a b = true) → (insP p l).Pairwise (fun a b => ltP a b = true)
  | [], _ => by simp [insP]
  | q :: r, h => by
    unfold insP
    have h' := h
    rw [List.pairwise_cons] at h
    split
    · rename_i hl
      refine List.pairwise_cons.mpr ⟨fun x hx => ?_, h'⟩
      rcases List.mem_cons.mp hx with rfl | hx
      · exact hl
      · exact ltP_trans hl (h.1 x hx)
    · rename_i hl
      split
      · exact h'
      · rename_i hne
        refine List.pairwise_cons.mpr ⟨fun x hx => ?_, insP_sorted h.2⟩
        rcases insP_mem.mp hx with rfl | hx
        · exact ltP_tri hl hne
        · exact h.1 x hx
theorem sortP_mem {x : Int × Int} : ∀ {l : List (Int × Int)}, x ∈ sortP l ↔ x ∈ l
  | [] => by simp [sortP]
  | p :: l => by
    show x ∈ insP p (sortP l) ↔ _
    rw [insP_mem, sortP_mem, List.mem_cons]
theorem sortP_sorted : ∀ (l : List (Int × Int)), (sortP l).Pairwise (fun a b => ltP a b = true)
  | [] => .nil
  | p :: l => insP_sorted (sortP_sorted l)
theorem sorted_one : ∀ {l m : List (Int × Int)}, l.Pairwise (fun a b => ltP a b = true) → m.Pairwise (fun a b => ltP a b = true) → (∀ x, x ∈ l ↔ x ∈ m) → l = m
  | [], [], _, _, _ => rfl
  | [], q :: m, _, _, h => absurd ((h q).mpr List.mem_cons_self) (by simp)
  | p :: l, [], _, _, h => absurd ((h p).mp List.mem_cons_self) (by simp)
  | p :: l, q :: m, h1, h2, h => by
    rw [List.pairwise_cons] at h1 h2
    have e : p = q := by
      rcases List.mem_cons.mp ((h p).mp List.mem_cons_self) with e | e
      · exact e
      · rcases List.mem_cons.mp ((h q).mpr List.mem_cons_self) with e' | e'
        · exact e'.symm
        · exact absurd (ltP_trans (h2.1 p e) (h1.1 q e')) fun z => ltP_irr z
    subst e
    rw [sorted_one h1.2 h2.2 fun x => ?_]
    constructor
    · intro hx
      rcases List.mem_cons.mp ((h x).mp (List.mem_cons_of_mem _ hx)) with e | e
      · subst e; exact absurd (h1.1 x hx) fun z => ltP_irr z
      · exact e
    · intro hx
      rcases List.mem_cons.mp ((h x).mpr (List.mem_cons_of_mem _ hx)) with e | e
      · subst e; exact absurd (h2.1 x hx) fun z => ltP_irr z
      · exact e
def wide (ps : List (Int × Int)) : Nat := ps.foldr (fun p s => p.2.natAbs + s) 0
theorem wide_le : ∀ {ps : List (Int × Int)} {p : Int × Int}, p ∈ ps → p.2.natAbs ≤ wide ps
  | q :: ps, p, h => by
    show _ ≤ q.2.natAbs + wide ps
    rcases List.mem_cons.mp h with rfl | h
    · omega
    · have := wide_le h; omega
theorem near_of {ps : List (Int × Int)} {p : Int × Int} (h : p ∈ ps) : -(2 * (wide ps : Int) + 1) < 2 * p.2 ∧ 2 * p.2 < 2 * (wide ps : Int) + 1 := by
  have := wide_le h
  omega
theorem sortP_of {ks L' : List (Addr × List Int)} {ps : List (Int × Int)} (hk : ks.map (·.2) = ps.map pr2) (h1 : ∀ p ∈ L', p ∈ ks) (h2 : ∀ p ∈ ks, p.2 ∈ L'.map (·.2)) (hn : (L'.map (·.2)).Nodup)
    (hp : L'.Pairwise (fun q r => PlT.rk (2 * (wide ps : Int) + 1) q.2 ≤ PlT.rk (2 * (wide ps : Int) + 1) r.2)) : L'.map (·.2) = (sortP ps).map pr2 := by
  have hm : ∀ p ∈ L', ∃ q ∈ ps, p.2 = pr2 q := fun p hp => by
    have : p.2 ∈ ks.map (·.2) := List.mem_map.mpr ⟨p, h1 p hp, rfl⟩
    rw [hk] at this
    obtain ⟨q, hq, e⟩ := List.mem_map.mp this
    exact ⟨q, hq, e.symm⟩
  have key : ∀ {A : List (Addr × List Int)}, (∀ p ∈ A, ∃ q ∈ ps, p.2 = pr2 q) → ∃ B : List (Int × Int), A.map (·.2) = B.map pr2 ∧ ∀ q ∈ B, q ∈ ps := fun {A} => by
    induction A with
    | nil => intro _; exact ⟨[], rfl, fun q hq => (by cases hq)⟩
    | cons p A ih =>
      intro h
      obtain ⟨q, hq, e⟩ := h p List.mem_cons_self
      obtain ⟨B, e1, e2⟩ := ih fun r hr => h r (List.mem_cons_of_mem _ hr)
      refine ⟨q :: B, by rw [List.map_cons, List.map_cons, e1, e], fun r hr => ?_⟩
      rcases List.mem_cons.mp hr with rfl | hr
      · exact hq
      · exact e2 r hr
  obtain ⟨B, e1, e2⟩ := key hm
  have inj : ∀ {p q : Int × Int}, pr2 p = pr2 q → p = q := fun {p q} h => by
    unfold pr2 at h
    simp only [List.cons.injEq, and_true] at h
    exact Prod.ext h.1 h.2
  rw [e1]
  refine congrArg (List.map pr2) (sorted_one ?_ (sortP_sorted ps) fun x => ?_)
  · have n1 : B.Nodup := by
      rw [e1] at hn
      exact (List.pairwise_map.mp hn).imp fun {a b} h e => h (by rw [e])
    have p1 : (B.map pr2).Pairwise (fun a b => PlT.rk (2 * (wide ps : Int) + 1) a ≤ PlT.rk (2 * (wide ps : Int) + 1) b) := by
      rw [← e1]
      exact List.pairwise_map.mpr hp
    have p2 := List.pairwise_map.mp p1
    refine List.Pairwise.imp_of_mem (fun {a b} ha hb h => ?_) (p2.and n1)
    obtain ⟨h, hne⟩ := h
    have na := near_of (e2 a ha)
    have nb := near_of (e2 b hb)
    by_cases hl : ltP a b = true
    · exact hl
    · have := ltP_tri hl hne
      rw [ltP_iff] at this
      have := (PlT.rk_iff (M := 2 * (wide ps : Int) + 1) nb.1 nb.2 na.1 na.2).mpr this
      exact absurd h (Int.not_le.mpr this)
  · rw [sortP_mem]
    constructor
    · exact e2 x
    · intro hx
      have : pr2 x ∈ ks.map (·.2) := by rw [hk]; exact List.mem_map.mpr ⟨x, hx, rfl⟩
      obtain ⟨p, hp, e⟩ := List.mem_map.mp this
      have := h2 p hp
      rw [e1] at this
      obtain ⟨q, hq, e'⟩ := List.mem_map.mp this
      have e3 : pr2 q = pr2 x := by rw [e']; exact e
      rw [← inj e3]
      exact hq
theorem dpAll_keys {K : PySem.W.Frag} {F : Hp} : ∀ {L : List (Addr × List Int)} {ps : List (Int × Int)}, L.map (·.2) = ps.map pr2 → (∀ p ∈ L, SqT K F p.1 (p.2.map V.int)) → DpAll K F (L.map fun q => V.ref q.1) (ps.map fun p => .tuple [.int p.1, .int p.2])
  | [], [], _, _ => .nil
  | [], _ :: _, h, _ => by simp at h
  | _ :: _, [], h, _ => by simp at h
  | q :: L, p :: ps, h, hs => by
    rw [List.map_cons, List.map_cons, List.cons.injEq] at h
    have h1 := hs q List.mem_cons_self
    rw [h.1] at h1
    exact .cons (.tup h1 (.cons (.int _) (.cons (.int _) .nil))) (dpAll_keys h.2 fun p hp => hs p (List.mem_cons_of_mem _ hp))
section
variable {X : Cx} {C : Ctx} {ff : String → Bool} {au : Option Addr} {a : Expr} {pa : E} {pos pos2 pos3 pos4 : Pos}
theorem sim_sortedSet (hc : X.calm = true) (hu : X.A.units + 64 < cLine) (hg : Gl X "sorted") (hm : X.mg "sorted" = none) (hgr : Gl X "set") (hmr : X.mg "set" = none) (ha : Sim X C ff au a pa)
    (hs : starEach [a] X.env = (false, eval a X.env) :: starEach [] X.env) :
    Sim X C ff au (.Call (.Name "sorted" pos2) [.Call (.Name "set" pos3) [a] [] pos4] [] pos) (.bi .sortedSet (.cons pa .nil)) :=
  ⟨(L2.pe_callB (PlT.cr_sorted2 hc) hg hm (by decide +kernel) (L2.pa_cons (L2.pe_callTy (L2.cr_setOfT hc hu) hgr hmr (by decide +kernel) (L2.pa_cons ha.pl L2.pa_nil hs) (by decide) (by decide) hs rfl) L2.pa_nil rfl) (by decide) (by decide) rfl rfl).imp fun σ H Q ⟨F, env, u, d, u', A, ev, k⟩ => by
    simp only [evalE, evalEs] at ev
    obtain ⟨⟨ds, u1⟩, e1, ev⟩ := Option.bind_eq_some_iff.mp ev
    obtain ⟨⟨da, u2⟩, e2, e3⟩ := Option.bind_eq_some_iff.mp e1
    simp only [Option.bind_some, Option.some.injEq, Prod.mk.injEq] at e3
    obtain ⟨rfl, rfl⟩ := e3
    obtain ⟨d0, e4, ev⟩ := Option.bind_eq_some_iff.mp ev
    cases ev
    cases da <;> simp only [biV] at e4 <;> first | contradiction | skip
    split at e4 <;> first | contradiction | skip
    rename_i xs hl
    rw [Option.map_eq_some_iff] at e4
    obtain ⟨ps, hps, rfl⟩ := e4
    refine ⟨F, env, u, _, _, by simpa [fvE, fvEs] using A, e2, fun v F1 H1 P1 r1 => ?_⟩
    obtain ⟨l, vs, rfl, h1, h2⟩ := dp_list r1
    obtain ⟨ks, q1, q2, q3⟩ := ks_of h2 hps
    subst q1
    have hlen : ks.length < 64 := by
      have := dpAll_len h2
      rw [List.length_map] at this
      omega
    refine ⟨l, ks, rfl, sqL_sub P1.sub h1, fun p hp => sqT_sub P1.sub (q2 p hp), hlen, fun s L hs1 hL1 hL2 => ?_⟩
    have hneL : ∀ p ∈ L, PlT.Near (2 * (wide ps : Int) + 1) p.2 := fun p hp => by
      have : p.2 ∈ ks.map (·.2) := List.mem_map.mpr ⟨p, hL1 p hp, rfl⟩
      rw [q3] at this
      obtain ⟨q, hq, e⟩ := List.mem_map.mp this
      exact ⟨q.1, q.2, e.symm, near_of hq⟩
    have sb : Sub H1 (upd H1 s (L2.SetTO X.prog X.w s L)) := sub_new hs1
    refine ⟨s, L, _, rfl, upd_same, fun p hp => sqT_sub sb (sqT_sub P1.sub (q2 p (hL1 p hp))), hneL, fun L' p pm nd pw hp => ?_⟩
    have hL1' : ∀ q ∈ L', q ∈ ks := fun q hq => hL1 q (pm.mem_iff.mp hq)
    have hkeys := sortP_of q3 hL1' (fun q hq => by
      have := hL2 q hq
      obtain ⟨r, hr, e⟩ := List.mem_map.mp this
      exact List.mem_map.mpr ⟨r, pm.mem_iff.mpr hr, e⟩) nd pw
    have hps : p ≠ s := fun z => by rw [z, upd_same] at hp; cases hp
    have hp1 : H1 p = none := by rw [upd_ne hps] at hp; exact hp
    refine ans_of P1 k _ F1 _ ((ext_newH hs1).trans (ext_newH hp)) (sub_newH (sub_newH P1.sub hs1) hp) ⟨p, _, rfl, hp1, P1.sub.free hp1, upd_same, dpAll_keys hkeys fun q hq => q2 q (hL1' q hq)⟩⟩
end
end Pl

/-! PSound6: targets, comprehensions. -/
namespace Pl
open PySem
open L2 (V Hp HO St VK TE TT TA TS TI TG TGs Cx PE PT PW PA PS PSs PI PG PGs Inv SqL SqT upd upd_same upd_ne OpR UnR CallR R2 Vals RelV EP Gl Vis It)

def setMany : List Nat → List V → St → St
  | i :: is, v :: vs, σ => setMany is vs (σ.set i (some v))
  | _, _, σ => σ
def wpG (K : PySem.W.Frag) : Tg → TG
  | .one i => fun v σ H Q => Q (σ.set i (some v)) H
  | .many is => fun v σ H Q => ∃ a xs, v = .ref a ∧ SqT K H a xs ∧ xs.length = is.length ∧ Q (setMany is xs σ) H
def gMany : List Nat → TGs
  | [] => L2.gNil
  | i :: is => L2.gCons (L2.gName i) (gMany is)
def tgIx : Tg → List Nat
  | .one i => [i]
  | .many is => is
structure SimG (X : Cx) (tg : Expr) (t : Tg) : Prop where
  t : PG X tg (wpG X.K t)
section
variable {X : Cx}
theorem _root_.L2.PG.imp {tg : Expr} {t t' : TG} (h : PG X tg t) (k : ∀ v σ H Q, t' v σ H Q → t v σ H Q) : PG X tg t' := ⟨fun pins s σ H v u Q I r hw => h.run pins s σ H v u Q I r (k _ _ _ _ hw)⟩
theorem gMany_of : ∀ (is : List Nat) (xs : List V) (σ : St) (H : Hp) (Q : St → Hp → Prop), xs.length = is.length → Q (setMany is xs σ) H → gMany is xs σ H Q
  | [], [], _, _, _, _, q => ⟨rfl, q⟩
  | [], _ :: _, _, _, _, h, _ => by simp at h
  | _ :: _, [], _, _, _, h, _ => by simp at h
  | i :: is, v :: vs, σ, H, Q, h, q => ⟨v, vs, rfl, gMany_of is vs _ H Q (by simpa using h) q⟩
theorem simG_one {x : Str} {i : Nat} {pos : Pos} (h : PG X (.Name x pos) (L2.gName i)) : SimG X (.Name x pos) (.one i) := ⟨h⟩
theorem simG_many {es : List Expr} {is : List Nat} {k : Nat} {pos : Pos} (hc : X.calm = true) (h : PGs X es (gMany is)) (hn : (assignEach es X.env).length = is.length) (hst : (assignEach es X.env).findIdx? (·.1) = none) : SimG X (.Tuple es k pos) (.many is) :=
  ⟨L2.PG.imp (L2.pg_tup hc h hn hst) fun v σ H Q ⟨a, xs, e, hq, hl, q⟩ => ⟨a, xs, e, hq, hl, gMany_of is xs σ H Q hl q⟩⟩
end
section
variable {K : PySem.W.Frag} {au : Option Addr} {σ : St} {H F : Hp} {env : Env} {u : U} {is js : List Nat}
theorem getV_set_ne {env : Env} {i j : Nat} {s : Slot} (h : i ≠ j) : getV (env.set i s) j = getV env j := by unfold getV; rw [List.getElem?_set_ne h]
theorem At.set {i : Nat} {v : V} {d : D} (A : At K au σ H F env u is) (r : Dp K F v d) (h0 : au.isSome = true → i ≠ 0) : At K au (σ.set i (some v)) H F (env.set i (.imm d)) u is := by
  refine ⟨A.sub, A.urn, fun a ha => ?_, by rw [List.length_set, List.length_set]; exact A.len, fun j hj d' hd => ?_⟩
  · rw [List.getElem?_set_ne (h0 (by rw [ha]; rfl))]
    exact A.s0 a ha
  · by_cases e : i = j
    · subst e
      by_cases hl : i < env.length
      · unfold getV at hd
        rw [List.getElem?_set_self hl] at hd
        cases hd
        exact ⟨v, by rw [List.getElem?_set_self (by rw [← A.len]; exact hl)], r⟩
      · unfold getV at hd
        rw [List.getElem?_eq_none (by rw [List.length_set]; omega)] at hd
        cases hd
    · rw [getV_set_ne e] at hd
      obtain ⟨w, h1, h2⟩ := A.env j hj d' hd
      exact ⟨w, by rw [List.getElem?_set_ne e]; exact h1, h2⟩
theorem At.setMany : ∀ {is : List Nat} {ds : List D} {vs : List V} {σ : St} {env env' : Env}, At K au σ H F env u js → DpAll K F vs ds → bindMany is ds env = some env' → (au.isSome = true → 0 ∉ is) → At K au (Pl.setMany is vs σ) H F env' u js
  | [], [], _, σ, env, env', A, .nil, h, _ => by simp only [bindMany, Option.some.injEq] at h; subst h; exact A
  | [], _ :: _, _, σ, env, env', A, _, h, _ => by simp [bindMany] at h
  | _ :: _, [], _, σ, env, env', A, _, h, _ => by simp [bindMany] at h
  | i :: is, d :: ds, _, σ, env, env', A, .cons r rs, h, h0 => by
    simp only [bindMany] at h
    exact At.setMany (is := is) (σ := σ.set i (some _)) (A.set r fun z e => h0 z (by rw [e]; exact List.mem_cons_self)) rs h fun z hm => h0 z (List.mem_cons_of_mem _ hm)
theorem bindMany_len : ∀ {is : List Nat} {ds : List D} {env env' : Env}, bindMany is ds env = some env' → ds.length = is.length
  | [], [], _, _, _ => rfl
  | [], _ :: _, _, _, h => by simp [bindMany] at h
  | _ :: _, [], _, _, h => by simp [bindMany] at h
  | _ :: is, _ :: ds, _, _, h => by simp only [bindMany] at h; exact congrArg Nat.succ (bindMany_len h)
theorem At.bind {t : Tg} {v : V} {d : D} {env' : Env} (A : At K au σ H F env u js) (r : Dp K F v d) (h : bindT t d env = some env') (h0 : au.isSome = true → 0 ∉ tgIx t) {Q : St → Hp → Prop}
    (q : ∀ σ', At K au σ' H F env' u js → (∃ ws, σ' = Pl.setMany (tgIx t) ws σ) → Q σ' H) : wpG K t v σ H Q := by
  cases t with
  | one i =>
    simp only [bindT, Option.some.injEq] at h
    subst h
    exact q _ (A.set r fun z e => h0 z (by rw [e]; exact List.mem_singleton.mpr rfl)) ⟨[v], rfl⟩
  | many is =>
    cases d <;> simp only [bindT] at h <;> first | contradiction | skip
    obtain ⟨a, xs, rfl, h1, h2⟩ := dp_tuple r
    exact ⟨a, xs, rfl, sqT_sub A.sub h1, by rw [dpAll_len h2, bindMany_len h], q _ (A.setMany h2 h h0) ⟨xs, rfl⟩⟩

theorem lwipe_get (σ : St) (vs : List Nat) (j : Nat) : (L2.wipe σ vs)[j]? = if j ∈ vs then (σ[j]?).map (fun _ => none) else σ[j]? := by
  induction vs with
  | nil => simp [L2.wipe]
  | cons v vs ih =>
    unfold L2.wipe
    by_cases e : v = j
    · subst e
      rw [if_pos List.mem_cons_self]
      by_cases hl : v < (L2.wipe σ vs).length
      · rw [List.getElem?_set_self hl]
        rw [L2.wipe_length] at hl
        rw [List.getElem?_eq_getElem hl]; rfl
      · rw [List.getElem?_eq_none (by rw [List.length_set]; omega)]
        rw [L2.wipe_length] at hl
        rw [List.getElem?_eq_none (by omega)]; rfl
    · rw [List.getElem?_set_ne e, ih]
      have : (j ∈ v :: vs) ↔ j ∈ vs := by
        rw [List.mem_cons]
        exact ⟨fun h => h.resolve_left fun q => e q.symm, .inr⟩
      by_cases hm : j ∈ vs
      · rw [if_pos hm, if_pos (this.mpr hm)]
      · rw [if_neg hm, if_neg fun h => hm (this.mp h)]
theorem lwipe_set {σ : St} {vs : List Nat} {i : Nat} {x : Option V} (h : i ∈ vs) : L2.wipe (σ.set i x) vs = L2.wipe σ vs := by
  apply List.ext_getElem?
  intro j
  rw [lwipe_get, lwipe_get]
  by_cases hm : j ∈ vs
  · rw [if_pos hm, if_pos hm]
    by_cases e : i = j
    · subst e
      by_cases hl : i < σ.length
      · rw [List.getElem?_set_self hl, List.getElem?_eq_getElem hl]; rfl
      · rw [List.getElem?_eq_none (by rw [List.length_set]; omega), List.getElem?_eq_none (by omega)]
    · rw [List.getElem?_set_ne e]
  · rw [if_neg hm, if_neg hm, List.getElem?_set_ne fun (q : i = j) => hm (by rw [← q]; exact h)]
theorem lwipe_wipe {σ : St} {vs : List Nat} : L2.wipe (L2.wipe σ vs) vs = L2.wipe σ vs := by
  apply List.ext_getElem?
  intro j
  rw [lwipe_get]
  by_cases hm : j ∈ vs
  · rw [if_pos hm, lwipe_get, if_pos hm]
    cases σ[j]? <;> rfl
  · rw [if_neg hm]
theorem lwipe_setMany : ∀ {is : List Nat} {ws : List V} {σ : St} {vs : List Nat}, (∀ i ∈ is, i ∈ vs) → L2.wipe (setMany is ws σ) vs = L2.wipe σ vs
  | [], _, _, _, _ => by unfold setMany; rfl
  | _ :: _, [], _, _, _ => by unfold setMany; rfl
  | i :: is, w :: ws, σ, vs, h => by
    unfold setMany
    rw [lwipe_setMany fun j hj => h j (List.mem_cons_of_mem _ hj), lwipe_set (h i List.mem_cons_self)]
theorem wipe_len (env : Env) (vs : List Nat) : (wipe env vs).length = env.length := by
  induction vs with
  | nil => rfl
  | cons v vs ih => unfold wipe; rw [List.length_set]; exact ih
theorem getV_wipe {env : Env} {j : Nat} {d : D} : ∀ {vs : List Nat}, getV (wipe env vs) j = some d → j ∉ vs ∧ getV env j = some d
  | [], h => ⟨by simp, h⟩
  | v :: vs, h => by
    unfold wipe at h
    by_cases e : v = j
    · subst e
      unfold getV at h
      by_cases hl : v < (wipe env vs).length
      · rw [List.getElem?_set_self hl] at h; cases h
      · rw [List.getElem?_eq_none (by rw [List.length_set]; omega)] at h; cases h
    · rw [getV_set_ne e] at h
      obtain ⟨h1, h2⟩ := getV_wipe h
      exact ⟨by simp only [List.mem_cons, not_or]; exact ⟨fun z => e z.symm, h1⟩, h2⟩
theorem At.wipe {vs : List Nat} (A : At K au σ H F env u is) (h0 : au.isSome = true → 0 ∉ vs) : At K au (L2.wipe σ vs) H F (Pl.wipe env vs) u is := by
  refine ⟨A.sub, A.urn, fun a ha => ?_, by rw [wipe_len, L2.wipe_length]; exact A.len, fun j hj d hd => ?_⟩
  · rw [lwipe_get, if_neg (h0 (by rw [ha]; rfl))]
    exact A.s0 a ha
  · obtain ⟨h1, h2⟩ := getV_wipe hd
    obtain ⟨w, h3, h4⟩ := A.env j hj d h2
    exact ⟨w, by rw [lwipe_get, if_neg h1]; exact h3, h4⟩
end

def wpC (K : PySem.W.Frag) (C : Ctx) (au : Option Addr) (p : Eo) : TT := fun σ H Q =>
  ∃ F env u b u', At K au σ H F env u (fvEo p) ∧ evalC C p env u = some (b, u') ∧ ∀ F' H', Post au F H F' H' u' → Q b H'
structure SimC (X : Cx) (C : Ctx) (au : Option Addr) (ifs : List Expr) (p : Eo) : Prop where
  t : L2.PTs X ifs (wpC X.K C au p)
section
variable {X : Cx} {C : Ctx} {ff : String → Bool} {au : Option Addr} {e a : Expr} {pa pe : E} {pos : Pos}
theorem simC_no : SimC X C au [] .no := ⟨⟨fun pins s σ H Q I ⟨F, env, u, b, u', A, ev, k⟩ => by
  simp only [evalC, Option.some.injEq, Prod.mk.injEq] at ev
  obtain ⟨rfl, rfl⟩ := ev
  exact L2.pts_nil.run pins s σ H Q I (k F H A.post)⟩⟩
theorem simC_yes (ha : SimT X C au a pa) : SimC X C au [a] (.yes pa) := ⟨⟨fun pins s σ H Q I ⟨F, env, u, b, u', A, ev, k⟩ => by
  simp only [evalC] at ev
  obtain ⟨⟨da, u1⟩, e1, ev⟩ := Option.bind_eq_some_iff.mp ev
  cases da <;> simp only at ev <;> first | contradiction | skip
  cases ev
  exact (L2.pts_one ha.t).run pins s σ H Q I ⟨F, env, u, _, _, A, e1, k⟩⟩⟩

/-- a comprehension's meaning is its rule's -/
theorem comp_imp {t : Tg} {it : I} {cond : Eo} {own : List Nat} {σ : St} {H : Hp} {Q : VK} (h0 : au.isSome = true → 0 ∉ own ∧ 0 ∉ tgIx t) (hsub : ∀ i ∈ tgIx t, i ∈ own)
    (h : wpE true X.K C au (.comp pe t it cond own) σ H Q) : L2.tLc (wpI X.K C au it) (wpG X.K t) (wpC X.K C au cond) (wpE false X.K C au pe) own σ H Q := by
  obtain ⟨F, env, u, d, u', A, ev, k⟩ := h
  simp only [evalE] at ev
  obtain ⟨⟨ds, u1⟩, e1, ev⟩ := Option.bind_eq_some_iff.mp ev
  obtain ⟨⟨rs, u2⟩, e2, ev⟩ := Option.bind_eq_some_iff.mp ev
  split at ev <;> first | contradiction | skip
  rename_i hz
  cases ev
  refine ⟨F, env, u, ds, u1, A.l, e1, fun J F1 H1 P1 feeds _ D hD => ?_⟩
  have A1 := A.step P1
  have hDau : ∀ q, au = some q → q ≠ D := fun q hq e => P1.urn.hh q hq (e ▸ hD)
  -- the state at turn i
  refine ⟨fun i m H2 => m = ds.length - i ∧ i ≤ ds.length ∧ ∃ F2 v acc accD rest, Post au F1 H1 F2 H2 v ∧ H2 D = some (.lst acc) ∧ F2 D = none ∧ DpAll X.K F2 acc accD ∧ acc.length ≤ i ∧
    compL (fun d u => (bindT t d (wipe env own)).bind fun env' => (evalC C cond env' u).bind fun rc => if rc.1 = true then (evalE C pe env' rc.2).bind fun re => some (some re.1, re.2) else some (none, rc.2)) (ds.drop i) v = some (rest, u2) ∧ accD ++ rest = rs, ?_, ?_⟩
  · refine ⟨ds.length, by simp, Nat.zero_le _, F1, u1, [], [], rs, ⟨fun x hx hn => ⟨upd_ne fun e => hn (e ▸ hD), rfl⟩, sub_newH P1.sub hD, fun q hq => ⟨(upd_ne (hDau q hq)).trans (P1.urn q hq).1, (P1.urn q hq).2⟩⟩, upd_same, P1.sub.free hD, .nil, Nat.le_refl _, ?_, rfl⟩
    rw [List.drop_zero]
    exact e2
  rintro i m H2 ⟨rfl, hi, F2, v, acc, accD, rest, P2, hD2, hF2, hacc, hlen, ev, hres⟩
  have sF : Sub F1 F2 := P2.ext.sub P1.sub P1.urn.hu
  obtain ⟨hgo, hstop⟩ := feeds F2 H2 sF P2.sub i
  by_cases hlt : i < ds.length
  · have hd : ds[i]? = some ds[i] := List.getElem?_eq_getElem hlt
    obtain ⟨go, yld⟩ := hgo _ hd
    rw [List.drop_eq_getElem_cons hlt] at ev
    simp only [compL] at ev
    obtain ⟨⟨o, v1⟩, ev1, ev⟩ := Option.bind_eq_some_iff.mp ev
    obtain ⟨⟨rest1, v2⟩, ev2, ev⟩ := Option.bind_eq_some_iff.mp ev
    obtain ⟨env', eb, ev1⟩ := Option.bind_eq_some_iff.mp ev1
    obtain ⟨⟨b, vc⟩, ec, ev1⟩ := Option.bind_eq_some_iff.mp ev1
    refine .inr ⟨go, fun H3 => ∃ m', m' < ds.length - i ∧ (m' = ds.length - (i + 1) ∧ i + 1 ≤ ds.length ∧ ∃ F2 v acc accD rest, Post au F1 H1 F2 H3 v ∧ H3 D = some (.lst acc) ∧ F2 D = none ∧ DpAll X.K F2 acc accD ∧ acc.length ≤ i + 1 ∧
      compL (fun d u => (bindT t d (wipe env own)).bind fun env' => (evalC C cond env' u).bind fun rc => if rc.1 = true then (evalE C pe env' rc.2).bind fun re => some (some re.1, re.2) else some (none, rc.2)) (ds.drop (i + 1)) v = some (rest, u2) ∧ accD ++ rest = rs), fun _ h => h, fun y H3 hy => ?_⟩
    obtain ⟨F3, x3, s3, dp3⟩ := yld y H3 hy
    have P3 : Post au F2 H2 F3 H3 v := Post.of P2.urn x3 s3
    have keepD : ∀ {F4 H4 : Hp} {v4 : U}, Post au F2 H2 F4 H4 v4 → H4 D = some (.lst acc) ∧ F4 D = none := fun {F4 H4 v4} P4 => by
      obtain ⟨q1, q2⟩ := P4.ext D (fun e => hDau D e.symm rfl) (by rw [hD2]; exact fun z => nomatch z)
      exact ⟨q1.trans hD2, q2.trans hF2⟩
    have Aw : At X.K au (L2.wipe σ own) H3 F3 (wipe env own) v (fvEo cond ++ fvE pe) :=
      ((A1.r.step P2).step P3).wipe fun z => (h0 z).1
    refine Aw.bind dp3 eb (fun z => (h0 z).2) fun σ' A3 ⟨ws, hσ⟩ => ⟨by rw [hσ, lwipe_setMany hsub, lwipe_wipe], ?_⟩
    refine ⟨F3, env', v, b, vc, A3.l, ec, fun F4 H4 P4 => ?_⟩
    cases b with
    | true =>
      rw [if_pos rfl] at ev1 ⊢
      obtain ⟨⟨z, v5⟩, ee, ev1⟩ := Option.bind_eq_some_iff.mp ev1
      cases ev1
      refine ⟨F4, env', vc, z, v5, (A3.step P4).r, ee, fun w F5 H5 P5 r5 => ?_⟩
      have P25 := (P3.trans P4).trans P5
      obtain ⟨k1, k2⟩ := keepD P25
      refine ⟨acc, k1, Nat.lt_of_le_of_lt (Nat.le_trans hlen hi) (sizeLt_of hz), _, by omega, rfl, hlt, F5, v5, acc ++ [w], accD ++ [z], rest1, ?_, upd_same, k2, dpAll_append (dpAll_sub (P25.ext.sub P2.sub P2.urn.hu) _ _ hacc) (.cons r5 .nil), by rw [List.length_append]; exact Nat.succ_le_succ hlen, ?_, ?_⟩
      · have P5' := P2.trans P25
        refine ⟨fun x hx hn => ?_, fun x o ho => ?_, fun q hq => ⟨(upd_ne (hDau q hq)).trans (P5.urn q hq).1, (P5.urn q hq).2⟩⟩
        · rw [upd_ne fun (q : x = D) => hn (by rw [q]; exact hD)]
          exact P5'.ext x hx hn
        · rw [upd_ne fun (q : x = D) => by rw [q, k2] at ho; cases ho]
          exact P5.sub x o ho
      · simp only at ev
        cases ev
        exact ev2
      · simp only at ev
        cases ev
        rw [List.append_assoc]
        exact hres
    | false =>
      rw [if_neg Bool.false_ne_true] at ev1 ⊢
      cases ev1
      have P24 := P3.trans P4
      obtain ⟨k1, k2⟩ := keepD P24
      simp only at ev
      cases ev
      exact ⟨_, by omega, rfl, hlt, F4, vc, acc, accD, rest, P2.trans P24, k1, k2, dpAll_sub (P24.ext.sub P2.sub P2.urn.hu) _ _ hacc, Nat.le_succ_of_le hlen, ev2, hres⟩
  · have e : i = ds.length := by omega
    subst e
    rw [List.drop_length] at ev
    simp only [compL, Option.some.injEq, Prod.mk.injEq] at ev
    obtain ⟨rfl, rfl⟩ := ev
    rw [List.append_nil] at hres
    subst hres
    refine .inl ⟨hstop (Nat.le_refl _), k _ F2 H2 (P1.trans P2) ?_⟩
    refine ⟨D, acc, rfl, ?_, hF2, hD2, hacc⟩
    cases q : H D with
    | none => rfl
    | some o => exact absurd hD (P1.grow (by rw [q]; exact fun z => nomatch z))
end
end Pl

/-! PSound7: statements. -/
namespace Pl
open PySem
open L2 (V Hp HO St VK TE TT TA TS TI TG TGs Cx PE PT PW PA PS PSs PI PG PGs Inv SqL SqT upd upd_same upd_ne OpR UnR CallR R2 Vals RelV EP Gl Vis It Ends)

/-- a def's state: H0, F0 at its entry -/
structure StR (K : PySem.W.Frag) (au : Option Addr) (H0 F0 : Hp) (σ : St) (H F : Hp) (env : Env) (u : U) : Prop where
  sub : Sub F H
  urn : UrnR au u F H
  s0 : ∀ a, au = some a → σ[0]? = some (some (V.ref a))
  len : env.length = σ.length
  ext : Ext au F0 H0 F H
  u0 : ∀ a, au = some a → H0 a ≠ none
  imm : ∀ (i : Nat) d, env[i]? = some (Slot.imm d) → ∃ v, σ[i]? = some (some v) ∧ Dp K F v d
  own : ∀ (i : Nat) ds, env[i]? = some (Slot.own ds) → ∃ p vs, σ[i]? = some (some (V.ref p)) ∧ H p = some (.lst vs) ∧ F p = none ∧ H0 p = none ∧ DpAll K F vs ds
  dis : ∀ (i j : Nat) ds ds' p, env[i]? = some (Slot.own ds) → env[j]? = some (Slot.own ds') → σ[i]? = some (some (V.ref p)) → σ[j]? = some (some (V.ref p)) → i = j

section
variable {K : PySem.W.Frag} {au : Option Addr} {H0 F0 : Hp} {σ : St} {H F : Hp} {env : Env} {u : U}
/-- the own lists that is mentions -/
def Held (env : Env) (σ : St) (is : List Nat) (a : Addr) : Prop := ∃ i ∈ is, ∃ ds, env[i]? = some (Slot.own ds) ∧ σ[i]? = some (some (V.ref a))
open Classical in
noncomputable def thaw (env : Env) (σ : St) (is : List Nat) (H F : Hp) : Hp := fun a => if Held env σ is a then H a else F a
open Classical in
noncomputable def hide (env : Env) (σ : St) (is : List Nat) (F : Hp) : Hp := fun a => if Held env σ is a then none else F a
theorem StR.held (R : StR K au H0 F0 σ H F env u) {is : List Nat} {a : Addr} (h : Held env σ is a) : (∃ vs, H a = some (.lst vs)) ∧ F a = none ∧ H0 a = none := by
  obtain ⟨i, _, ds, h1, h2⟩ := h
  obtain ⟨p, vs, h3, h4, h5, h6, _⟩ := R.own i ds h1
  rw [h2] at h3
  cases h3
  exact ⟨⟨vs, h4⟩, h5, h6⟩
theorem StR.heldAu (R : StR K au H0 F0 σ H F env u) {is : List Nat} {a : Addr} (h : Held env σ is a) : some a ≠ au := fun e => R.u0 a e.symm (R.held h).2.2
theorem thaw_yes {is : List Nat} {a : Addr} (h : Held env σ is a) : thaw env σ is H F a = H a := by unfold thaw; rw [if_pos h]
theorem thaw_no {is : List Nat} {a : Addr} (h : ¬ Held env σ is a) : thaw env σ is H F a = F a := by unfold thaw; rw [if_neg h]
theorem hide_yes {is : List Nat} {a : Addr} (h : Held env σ is a) : hide env σ is F a = none := by unfold hide; rw [if_pos h]
theorem hide_no {is : List Nat} {a : Addr} (h : ¬ Held env σ is a) : hide env σ is F a = F a := by unfold hide; rw [if_neg h]
theorem StR.subT (R : StR K au H0 F0 σ H F env u) (is : List Nat) : Sub F (thaw env σ is H F) := fun a o h => by
  by_cases q : Held env σ is a
  · rw [(R.held q).2.1] at h; cases h
  · rw [thaw_no q]; exact h
/-- for an expression -/
theorem StR.at_ (R : StR K au H0 F0 σ H F env u) (is : List Nat) : At K au σ H (thaw env σ is H F) env u is := by
  refine ⟨fun a o h => ?_, fun a ha => ⟨(R.urn a ha).1, ?_⟩, R.s0, R.len, fun i hi d hd => ?_⟩
  · by_cases q : Held env σ is a
    · rwa [thaw_yes q] at h
    · rw [thaw_no q] at h; exact R.sub a o h
  · rw [thaw_no fun q => R.heldAu q ha.symm]
    exact (R.urn a ha).2
  · unfold getV at hd
    split at hd <;> first | contradiction | skip
    · rename_i d0 h1
      cases hd
      obtain ⟨v, h2, h3⟩ := R.imm i _ h1
      exact ⟨v, h2, dp_sub (R.subT is) _ _ h3⟩
    · rename_i ds h1
      cases hd
      obtain ⟨p, vs, h2, h3, h4, h5, h6⟩ := R.own i _ h1
      exact ⟨.ref p, h2, .lst (.inl (.inl (by rw [thaw_yes ⟨i, hi, ds, h1, h2⟩]; exact h3))) (dpAll_sub (R.subT is) _ _ h6)⟩
variable {F1 H1 : Hp} {u1 : U} {is : List Nat}
theorem StR.subH (R : StR K au H0 F0 σ H F env u) (P : Post au (thaw env σ is H F) H F1 H1 u1) : Sub F (hide env σ is F1) := fun a o h => by
  have q : ¬ Held env σ is a := fun q => by rw [(R.held q).2.1] at h; cases h
  rw [hide_no q]
  have ha : some a ≠ au := fun e => by rw [(R.urn a e.symm).2] at h; cases h
  rw [(P.ext a ha (by rw [R.sub a o h]; exact fun z => nomatch z)).2, thaw_no q]
  exact h
/-- behind it, the own lists still one's own -/
theorem StR.keep (R : StR K au H0 F0 σ H F env u) (P : Post au (thaw env σ is H F) H F1 H1 u1) : StR K au H0 F0 σ H1 (hide env σ is F1) env u1 := by
  have sF := R.subH P
  refine ⟨fun a o h => ?_, fun a ha => ⟨(P.urn a ha).1, ?_⟩, R.s0, R.len, fun a ha hn => ?_, R.u0, fun i d hi => ?_, fun i ds hi => ?_, R.dis⟩
  · by_cases q : Held env σ is a
    · rw [hide_yes q] at h; cases h
    · rw [hide_no q] at h; exact P.sub a o h
  · rw [hide_no fun q => R.heldAu q ha.symm]
    exact (P.urn a ha).2
  · have q : ¬ Held env σ is a := fun q => hn (R.held q).2.2
    obtain ⟨e1, e2⟩ := R.ext a ha hn
    obtain ⟨e3, e4⟩ := P.ext a ha (by rw [e1]; exact hn)
    exact ⟨e3.trans e1, (hide_no q).trans (e4.trans ((thaw_no q).trans e2))⟩
  · obtain ⟨v, h1, h2⟩ := R.imm i d hi
    exact ⟨v, h1, dp_sub sF _ _ h2⟩
  · obtain ⟨p, vs, h1, h2, h3, h4, h5⟩ := R.own i ds hi
    have hp : some p ≠ au := fun e => R.u0 p e.symm h4
    obtain ⟨e1, e2⟩ := P.ext p hp (by rw [h2]; exact fun z => nomatch z)
    refine ⟨p, vs, h1, e1.trans h2, ?_, h4, dpAll_sub sF _ _ h5⟩
    by_cases q : Held env σ is p
    · exact hide_yes q
    · exact (hide_no q).trans (e2.trans ((thaw_no q).trans h3))
theorem StR.noHeld (R : StR K au H0 F0 σ H F env u) (P : Post au (thaw env σ is H F) H F1 H1 u1) {a : Addr} {xs : List V} (h : SqT K F1 a xs) : SqT K (hide env σ is F1) a xs := by
  rcases h with (h | ⟨o, h⟩) | h
  · refine .inl (.inl ?_)
    rw [hide_no fun q => ?_]
    · exact h
    · obtain ⟨⟨vs, e⟩, _⟩ := R.held q
      rw [(P.ext a (R.heldAu q) (by rw [e]; exact fun z => nomatch z)).2, thaw_yes q, e] at h
      cases h
  · refine .inl (.inr ⟨o, ?_⟩)
    rw [hide_no fun q => ?_]
    · exact h
    · obtain ⟨⟨vs, e⟩, _⟩ := R.held q
      rw [(P.ext a (R.heldAu q) (by rw [e]; exact fun z => nomatch z)).2, thaw_yes q, e] at h
      cases h
  · exact .inr h
theorem StR.keepV (R : StR K au H0 F0 σ H F env u) (P : Post au (thaw env σ is H F) H F1 H1 u1) {v : V} {d : D} (h : Dp K F1 v d) (n : noList d = true) : Dp K (hide env σ is F1) v d := dp_noList (fun _ _ q => R.noHeld P q) d v n h
theorem freeze_get (env : Env) (j : Nat) : ∀ (is : List Nat), (freeze env is)[j]? = if j ∈ is then (env[j]?).map frz else env[j]?
  | [] => by simp [freeze]
  | i :: is => by
    unfold freeze
    rw [List.getElem?_modify]
    have ih := freeze_get env j is
    by_cases e : i = j
    · subst e
      simp only [if_true, ih]
      by_cases hm : i ∈ is
      · rw [if_pos hm, if_pos List.mem_cons_self]
        cases env[i]? with
        | none => rfl
        | some s => cases s <;> rfl
      · rw [if_neg hm, if_pos List.mem_cons_self]
        rfl
    · have hm : (j ∈ i :: is) ↔ j ∈ is := by
        rw [List.mem_cons]
        exact ⟨fun h => h.resolve_left fun q => e q.symm, .inr⟩
      simp only [e, if_false, ih, hm]
      by_cases hm2 : j ∈ is
      · rw [if_pos hm2]; cases env[j]? <;> rfl
      · rw [if_neg hm2]; cases env[j]? <;> rfl
theorem freeze_len (env : Env) : ∀ (is : List Nat), (freeze env is).length = env.length
  | [] => rfl
  | i :: is => by unfold freeze; rw [List.length_modify]; exact freeze_len env is
/-- .. or the own lists that it mentions given up -/
theorem StR.frz (R : StR K au H0 F0 σ H F env u) (P : Post au (thaw env σ is H F) H F1 H1 u1) : StR K au H0 F0 σ H1 F1 (freeze env is) u1 := by
  have sF : Sub F F1 := (R.subT is).trans (P.ext.sub (R.at_ is).sub (R.at_ is).urn.hu)
  have ownB : ∀ (j : Nat) ds, (freeze env is)[j]? = some (Slot.own ds) → env[j]? = some (.own ds) ∧ j ∉ is := fun j ds h => by
    rw [freeze_get] at h
    by_cases hm : j ∈ is
    · rw [if_pos hm] at h
      cases q : env[j]? with
      | none => rw [q] at h; cases h
      | some s => rw [q] at h; cases s <;> cases h
    · rw [if_neg hm] at h; exact ⟨h, hm⟩
  refine ⟨P.sub, P.urn, R.s0, by rw [freeze_len]; exact R.len, fun a ha hn => ?_, R.u0, fun i d hi => ?_, fun i ds hi => ?_, fun i j ds ds' p h1 h2 => R.dis i j ds ds' p (ownB _ _ h1).1 (ownB _ _ h2).1⟩
  · have q : ¬ Held env σ is a := fun q => hn (R.held q).2.2
    obtain ⟨e1, e2⟩ := R.ext a ha hn
    obtain ⟨e3, e4⟩ := P.ext a ha (by rw [e1]; exact hn)
    exact ⟨e3.trans e1, e4.trans ((thaw_no q).trans e2)⟩
  · rw [freeze_get] at hi
    by_cases hm : i ∈ is
    · rw [if_pos hm] at hi
      cases q : env[i]? with
      | none => rw [q] at hi; cases hi
      | some s =>
        rw [q] at hi
        cases s with
        | no => cases hi
        | imm d0 =>
          cases hi
          obtain ⟨v, h1, h2⟩ := R.imm i _ q
          exact ⟨v, h1, dp_sub sF _ _ h2⟩
        | own ds =>
          cases hi
          obtain ⟨p, vs, h1, h2, h3, h4, h5⟩ := R.own i ds q
          have hp : some p ≠ au := fun e => R.u0 p e.symm h4
          have e := (P.ext p hp (by rw [h2]; exact fun z => nomatch z)).2
          rw [thaw_yes ⟨i, hm, ds, q, h1⟩, h2] at e
          exact ⟨.ref p, h1, .lst (.inl (.inl e)) (dpAll_sub sF _ _ h5)⟩
    · rw [if_neg hm] at hi
      obtain ⟨v, h1, h2⟩ := R.imm i d hi
      exact ⟨v, h1, dp_sub sF _ _ h2⟩
  · obtain ⟨q, hm⟩ := ownB _ _ hi
    obtain ⟨p, vs, h1, h2, h3, h4, h5⟩ := R.own i ds q
    have hp : some p ≠ au := fun e => R.u0 p e.symm h4
    have hh : ¬ Held env σ is p := fun ⟨j, hj, ds', g1, g2⟩ => hm (by rw [R.dis i j ds ds' p q g1 h1 g2]; exact hj)
    obtain ⟨e1, e2⟩ := P.ext p hp (by rw [h2]; exact fun z => nomatch z)
    exact ⟨p, vs, h1, e1.trans h2, e2.trans ((thaw_no hh).trans h3), h4, dpAll_sub sF _ _ h5⟩

/-- what is stored in a slot -/
def SlotOk (K : PySem.W.Frag) (H0 F H : Hp) (env : Env) (σ : St) (i : Nat) (v : V) : Slot → Prop
  | .no => True
  | .imm d => Dp K F v d
  | .own ds => ∃ p vs, v = .ref p ∧ H p = some (.lst vs) ∧ F p = none ∧ H0 p = none ∧ DpAll K F vs ds ∧ ∀ (j : Nat) ds', env[j]? = some (Slot.own ds') → j ≠ i → σ[j]? ≠ some (some (V.ref p))
theorem StR.put (R : StR K au H0 F0 σ H F env u) {i : Nat} {v : V} {s : Slot} (h : SlotOk K H0 F H env σ i v s) (h0 : au.isSome = true → i ≠ 0) : StR K au H0 F0 (σ.set i (some v)) H F (env.set i s) u := by
  have get : ∀ (j : Nat) t, (env.set i s)[j]? = some t → (j = i ∧ t = s ∧ i < env.length) ∨ (j ≠ i ∧ env[j]? = some t) := fun j t hj => by
    by_cases e : i = j
    · subst e
      by_cases hl : i < env.length
      · rw [List.getElem?_set_self hl] at hj
        exact .inl ⟨rfl, (Option.some.inj hj).symm, hl⟩
      · rw [List.getElem?_eq_none (by rw [List.length_set]; omega)] at hj; cases hj
    · rw [List.getElem?_set_ne e] at hj
      exact .inr ⟨fun q => e q.symm, hj⟩
  have sg : i < env.length → (σ.set i (some v))[i]? = some (some v) := fun hl => List.getElem?_set_self (by rw [← R.len]; exact hl)
  have sn : ∀ {j}, j ≠ i → (σ.set i (some v))[j]? = σ[j]? := fun {j} e => List.getElem?_set_ne fun q => e q.symm
  refine ⟨R.sub, R.urn, fun a ha => ?_, by rw [List.length_set, List.length_set]; exact R.len, R.ext, R.u0, fun j d hj => ?_, fun j ds hj => ?_, fun j k ds ds' p hj hk h1 h2 => ?_⟩
  · rw [sn fun e => h0 (by rw [ha]; rfl) e.symm]
    exact R.s0 a ha
  · rcases get j _ hj with ⟨rfl, e, hl⟩ | ⟨ne, hj⟩
    · subst e
      exact ⟨v, sg hl, h⟩
    · obtain ⟨w, h1, h2⟩ := R.imm j d hj
      exact ⟨w, by rw [sn ne]; exact h1, h2⟩
  · rcases get j _ hj with ⟨rfl, e, hl⟩ | ⟨ne, hj⟩
    · subst e
      obtain ⟨p, vs, rfl, h1, h2, h3, h4, _⟩ := h
      exact ⟨p, vs, sg hl, h1, h2, h3, h4⟩
    · obtain ⟨p, vs, h1, h2⟩ := R.own j ds hj
      exact ⟨p, vs, by rw [sn ne]; exact h1, h2⟩
  · rcases get j _ hj with ⟨rfl, e, hl⟩ | ⟨ne, hj2⟩
    · rcases get k _ hk with ⟨rfl, e', _⟩ | ⟨ne', hk2⟩
      · rfl
      · subst e
        obtain ⟨q, vs, rfl, _, _, _, _, hd⟩ := h
        rw [sg hl] at h1
        cases h1
        rw [sn ne'] at h2
        exact absurd h2 (hd k ds' hk2 ne')
    · rcases get k _ hk with ⟨rfl, e', hl⟩ | ⟨ne', hk2⟩
      · subst e'
        obtain ⟨q, vs, rfl, _, _, _, _, hd⟩ := h
        rw [sg hl] at h2
        cases h2
        rw [sn ne] at h1
        exact absurd h1 (hd j ds hj2 ne)
      · rw [sn ne] at h1
        rw [sn ne'] at h2
        exact R.dis j k ds ds' p hj2 hk2 h1 h2
/-- a new list is nobody's -/
theorem StR.fresh (R : StR K au H0 F0 σ H F env u) {p : Addr} (hp : H p = none) : H0 p = none ∧ ∀ (j : Nat) ds', env[j]? = some (Slot.own ds') → σ[j]? ≠ some (some (V.ref p)) := by
  refine ⟨?_, fun j ds' hj e => ?_⟩
  · cases q : H0 p with
    | none => rfl
    | some o =>
      by_cases ha : some p = au
      · exact absurd hp (R.urn.hh p ha.symm)
      · rw [(R.ext p ha (by rw [q]; exact fun z => nomatch z)).1, q] at hp; cases hp
  · obtain ⟨q, vs, h1, h2, _⟩ := R.own j ds' hj
    rw [e] at h1
    cases h1
    rw [hp] at h2; cases h2
/-- a value, as it is stored -/
theorem StR.slot (R : StR K au H0 F0 σ H F env u) (ff : String → Bool) {e : E} (P : Post au (thaw env σ (fvE e) H F) H F1 H1 u1) {v : V} {d : D} (r : Rr (fk ff e) K H F1 H1 v d) (i : Nat) :
    ∃ F', StR K au H0 F0 σ H1 F' (after ff env e d) u1 ∧ SlotOk K H0 F' H1 (after ff env e d) σ i v (slotOf ff e d) := by
  have frs : ∀ {p : Addr}, H p = none → ∀ (env' : Pl.Env), (∀ (j : Nat) ds', env'[j]? = some (Slot.own ds') → env[j]? = some (Slot.own ds')) → H0 p = none ∧ ∀ (j : Nat) ds', env'[j]? = some (Slot.own ds') → j ≠ i → σ[j]? ≠ some (some (V.ref p)) := fun {p} hp env' he =>
    ⟨(R.fresh hp).1, fun j ds' hj _ => (R.fresh hp).2 j ds' (he j ds' hj)⟩
  have fz : ∀ (j : Nat) ds', (freeze env (fvE e))[j]? = some (Slot.own ds') → env[j]? = some (Slot.own ds') := fun j ds' h => by
    rw [freeze_get] at h
    split at h
    · cases q : env[j]? with
      | none => rw [q] at h; cases h
      | some s => rw [q] at h; cases s <;> cases h
    · exact h
  unfold after slotOf within
  by_cases hk : fk ff e = true
  · rw [if_pos hk]
    rw [hk] at r
    cases d with
    | list ds =>
      obtain ⟨p, vs, rfl, h1, h2, h3, h4⟩ := r
      simp only [hk, if_true]
      by_cases hn : noListAll ds = true
      · rw [if_pos hn]
        obtain ⟨q1, q2⟩ := frs h1 env fun _ _ h => h
        refine ⟨_, R.keep P, p, vs, rfl, h3, ?_, q1, dpAll_noList (fun _ _ q => R.noHeld P q) _ _ hn h4, q2⟩
        by_cases q : Held env σ (fvE e) p
        · exact hide_yes q
        · rw [hide_no q]; exact h2
      · rw [if_neg hn]
        obtain ⟨q1, q2⟩ := frs h1 _ fz
        exact ⟨_, R.frz P, p, vs, rfl, h3, h2, q1, h4, q2⟩
    | _ =>
      simp only [hk, if_true]
      split
      · rename_i hn
        exact ⟨_, R.keep P, R.keepV P r hn⟩
      · exact ⟨_, R.frz P, r⟩
  · have hk' : fk ff e = false := by simpa using hk
    rw [hk'] at r
    rw [if_neg hk]
    simp only [hk', Bool.false_eq_true, if_false]
    by_cases hn : noList d = true
    · rw [if_pos hn]; exact ⟨_, R.keep P, R.keepV P r hn⟩
    · rw [if_neg hn]; exact ⟨_, R.frz P, r⟩
end

/-! ### what a statement's end is to give -/
def RetR (fr : Bool) (K : PySem.W.Frag) (au : Option Addr) (H0 F0 : Hp) (v : V) (F H : Hp) (d : D) (u : U) : Prop := Post au F0 H0 F H u ∧ Rr fr K H0 F H v d
def Fin (fr : Bool) (K : PySem.W.Frag) (au : Option Addr) (H0 F0 : Hp) (D : Ends) : O → Prop
  | .nx env u => ∀ σ H F, StR K au H0 F0 σ H F env u → D.nx σ H
  | .bk env u => ∀ σ H F, StR K au H0 F0 σ H F env u → D.bk σ H
  | .ct env u => ∀ σ H F, StR K au H0 F0 σ H F env u → D.ct σ H
  | .rt d u => ∀ v F H, RetR fr K au H0 F0 v F H d u → D.rt v H
def wpS (fr : Bool) (C : Ctx) (ff : String → Bool) (K : PySem.W.Frag) (au : Option Addr) (H0 F0 : Hp) (p : S) : TS := fun D σ H =>
  ∃ F env u o, StR K au H0 F0 σ H F env u ∧ execS C ff p env u = some o ∧ Fin fr K au H0 F0 D o
def wpSs (fr : Bool) (C : Ctx) (ff : String → Bool) (K : PySem.W.Frag) (au : Option Addr) (H0 F0 : Hp) (p : Ss) : TS := fun D σ H =>
  ∃ F env u o, StR K au H0 F0 σ H F env u ∧ execSs C ff p env u = some o ∧ Fin fr K au H0 F0 D o
structure SimS (X : Cx) (C : Ctx) (ff : String → Bool) (au : Option Addr) (fr : Bool) (st : Stmt) (p : S) : Prop where
  t : ∀ H0 F0, PS X st (wpS fr C ff X.K au H0 F0 p)
structure SimSs (X : Cx) (C : Ctx) (ff : String → Bool) (au : Option Addr) (fr : Bool) (st : List Stmt) (p : Ss) : Prop where
  t : ∀ H0 F0, PSs X st (wpSs fr C ff X.K au H0 F0 p)

section
variable {X : Cx} {C : Ctx} {ff : String → Bool} {au : Option Addr} {fr : Bool} {e a b c : Expr} {es : List Expr} {p pa pb pc : E} {ps : Es} {pos : Pos} {x : Str} {pos2 : Pos} {K : PySem.W.Frag} {H0 F0 : Hp} {st : Stmt} {sts sts2 : List Stmt} {s : S} {ss ss2 : Ss}

theorem simSs_nil : SimSs X C ff au fr [] .nil := ⟨fun H0 F0 => L2.pss_nil.imp fun D σ H ⟨F, env, u, o, R, ev, k⟩ => by
  simp only [execSs, Option.some.injEq] at ev
  subst ev
  exact k σ H F R⟩
theorem simSs_cons (h1 : SimS X C ff au fr st s) (h2 : SimSs X C ff au fr sts ss) : SimSs X C ff au fr (st :: sts) (.cons s ss) := ⟨fun H0 F0 => (L2.pss_cons (h1.t H0 F0) (h2.t H0 F0)).imp fun D σ H ⟨F, env, u, o, R, ev, k⟩ => by
  simp only [execSs] at ev
  obtain ⟨o1, e1, ev⟩ := Option.bind_eq_some_iff.mp ev
  refine ⟨F, env, u, o1, R, e1, ?_⟩
  cases o1 with
  | nx env' u' => exact fun σ' H' F' R' => ⟨F', env', u', o, R', ev, k⟩
  | rt d u' => simp only [Option.some.injEq] at ev; subst ev; exact k
  | bk env' u' => simp only [Option.some.injEq] at ev; subst ev; exact k
  | ct env' u' => simp only [Option.some.injEq] at ev; subst ev; exact k⟩
theorem simS_pass : SimS X C ff au fr (.Pass pos) .pass := ⟨fun H0 F0 => L2.ps_pass.imp fun D σ H ⟨F, env, u, o, R, ev, k⟩ => by
  simp only [execS, Option.some.injEq] at ev
  subst ev
  exact k σ H F R⟩
theorem simS_brk : SimS X C ff au fr (.Break pos) .brk := ⟨fun H0 F0 => L2.ps_break.imp fun D σ H ⟨F, env, u, o, R, ev, k⟩ => by
  simp only [execS, Option.some.injEq] at ev
  subst ev
  exact k σ H F R⟩
theorem simS_cont : SimS X C ff au fr (.Continue pos) .cont := ⟨fun H0 F0 => L2.ps_continue.imp fun D σ H ⟨F, env, u, o, R, ev, k⟩ => by
  simp only [execS, Option.some.injEq] at ev
  subst ev
  exact k σ H F R⟩
theorem simS_raise : SimS X C ff au fr st .raise := ⟨fun H0 F0 => L2.ps_never.imp fun D σ H ⟨F, env, u, o, R, ev, k⟩ => by
  simp [execS] at ev⟩

/-! ### assignments -/
theorem set_core {i : Nat} {D : Ends} {σ : St} {H : Hp} (h0 : au.isSome = true → i ≠ 0) (h : wpS fr C ff K au H0 F0 (.set i p) D σ H) : wpE (fk ff p) K C au p σ H fun v H1 => D.nx (σ.set i (some v)) H1 := by
  obtain ⟨F, env, u, o, R, ev, k⟩ := h
  simp only [execS] at ev
  obtain ⟨⟨d, u1⟩, e1, ev⟩ := Option.bind_eq_some_iff.mp ev
  cases ev
  refine ⟨_, env, u, d, u1, R.at_ (fvE p), e1, fun v F1 H1 P r => ?_⟩
  obtain ⟨F', R', so⟩ := R.slot ff P r i
  exact k _ H1 F' (R'.put so h0)
theorem simS_set {i : Nat} (h : PE X e (wpE (fk ff p) X.K C au p) → PS X st (L2.tAsg (wpE (fk ff p) X.K C au p) (L2.gName i))) (he : Sim X C ff au e p) (h0 : au.isSome = true → i ≠ 0) : SimS X C ff au fr st (.set i p) :=
  ⟨fun H0 F0 => (h he.raw).imp fun D σ H q => set_core h0 q⟩
/-- x = e, e no comprehension -/
theorem simS_setN {i : Nat} (hN : X.N.Nodup) (hi : X.N[i]? = some x) (hx : L2.Loc X.env.scope x) (hf : X.fn x = true) (he : Sim X C ff au e p) (hs : swapsWith e (some (.Name x pos2)) pos.line X.env = pure false) (h0 : au.isSome = true → i ≠ 0) : SimS X C ff au fr (.Assign [.Name x pos2] e pos) (.set i p) :=
  simS_set (fun h => L2.ps_set hN hi hx h hs (.inl hf)) he h0
theorem simS_set2 {i j : Nat} {t1 t2 : Expr} (h1 : PG X t1 (L2.gName i)) (h2 : PG X t2 (L2.gName j)) (ha : (assignEach [t1, t2] X.env).map (·.2) = [assign t1 X.env, assign t2 X.env]) (hw : swappedStores [t1, t2] e X.env = pure none) (he : Sim X C ff au e p) (h0 : au.isSome = true → i ≠ 0 ∧ j ≠ 0) : SimS X C ff au fr (.Assign [t1, t2] e pos) (.set2 i j p) :=
  ⟨fun H0 F0 => (L2.ps_asg2 he.pl h1 h2 ha hw).imp fun D σ H ⟨F, env, u, o, R, ev, k⟩ => by
    simp only [execS] at ev
    obtain ⟨⟨d, u1⟩, e1, ev⟩ := Option.bind_eq_some_iff.mp ev
    split at ev <;> first | contradiction | skip
    rename_i hn
    cases ev
    refine ⟨_, env, u, d, u1, R.at_ (fvE p), e1, fun v F1 H1 P r => ?_⟩
    have R1 := R.keep P
    have r1 := R.keepV P r hn
    exact k _ H1 _ ((R1.put (s := .imm d) r1 fun z => (h0 z).1).put (s := .imm d) r1 fun z => (h0 z).2)⟩
theorem simS_drop (he : Sim X C ff au e p) (hs : swapsWith e none pos.line X.env = pure false) : SimS X C ff au fr (.Expr e pos) (.drop p) :=
  ⟨fun H0 F0 => (L2.ps_expr he.pl hs).imp fun D σ H ⟨F, env, u, o, R, ev, k⟩ => by
    simp only [execS] at ev
    obtain ⟨⟨d, u1⟩, e1, ev⟩ := Option.bind_eq_some_iff.mp ev
    cases ev
    exact ⟨_, env, u, d, u1, R.at_ (fvE p), e1, fun v F1 H1 P r => k _ H1 _ (R.keep P)⟩⟩
theorem StR.ret {σ : St} {H F : Hp} {env : Pl.Env} {u : U} (R : StR K au H0 F0 σ H F env u) {is : List Nat} {F1 H1 : Hp} {u1 : U} {v : V} {d : D} {bb : Bool} (P : Post au (thaw env σ is H F) H F1 H1 u1) (r : Rr bb K H F1 H1 v d) : RetR bb K au H0 F0 v F1 H1 d u1 := by
  refine ⟨⟨fun a ha hn => ?_, P.sub, P.urn⟩, r.back fun q hq => ?_⟩
  · have q : ¬ Held env σ is a := fun q => hn (R.held q).2.2
    obtain ⟨e1, e2⟩ := R.ext a ha hn
    obtain ⟨e3, e4⟩ := P.ext a ha (by rw [e1]; exact hn)
    exact ⟨e3.trans e1, e4.trans ((thaw_no q).trans e2)⟩
  · by_cases ha : some q = au
    · exact R.urn.hh q ha.symm
    · rw [(R.ext q ha hq).1]; exact hq
theorem simS_ret (he : Sim X C ff au e p) : SimS X C ff au false (.Return (some e) pos) (.ret p) :=
  ⟨fun H0 F0 => (L2.ps_ret he.pl).imp fun D σ H ⟨F, env, u, o, R, ev, k⟩ => by
    simp only [execS] at ev
    obtain ⟨⟨d, u1⟩, e1, ev⟩ := Option.bind_eq_some_iff.mp ev
    cases ev
    exact ⟨_, env, u, d, u1, R.at_ (fvE p), e1, fun v F1 H1 P r => k v F1 H1 (R.ret P r)⟩⟩
theorem simS_retN : SimS X C ff au false (.Return none pos) (.ret (.lit .none)) :=
  ⟨fun H0 F0 => L2.ps_retN.imp fun D σ H ⟨F, env, u, o, R, ev, k⟩ => by
    simp only [execS, evalE, litV, Option.bind_some, Option.some.injEq] at ev
    subst ev
    exact k _ _ H (R.ret (is := []) (R.at_ []).post Dp.non)⟩
theorem retF_core {D : Ends} {σ : St} {H : Hp} (hv : ∀ i, p ≠ .var i) (h : wpS true C ff K au H0 F0 (.retF p) D σ H) : wpE (fk ff p) K C au p σ H fun v H1 => D.rt v H1 := by
  obtain ⟨F, env, u, o, R, ev, k⟩ := h
  simp only [execS] at ev
  obtain ⟨⟨d, u1⟩, e1, ev⟩ := Option.bind_eq_some_iff.mp ev
  split at ev <;> first | contradiction | skip
  rename_i hz
  cases ev
  refine ⟨_, env, u, d, u1, R.at_ (fvE p), e1, fun v F1 H1 P r => ?_⟩
  by_cases hk : fk ff p = true
  · rw [hk] at r
    exact k v F1 H1 (R.ret P r)
  · have hk' : fk ff p = false := by simpa using hk
    rw [hk'] at r hz
    refine k v F1 H1 (R.ret P (.of r ?_))
    have hw : ownVar env p = false := by
      unfold ownVar
      split
      · rename_i i; exact absurd rfl (hv i)
      · rfl
    rw [hw] at hz
    cases d <;> simp [noList, isL] at hz ⊢
theorem simS_retF (hv : ∀ i, p ≠ .var i) (he : Sim X C ff au e p) : SimS X C ff au true (.Return (some e) pos) (.retF p) :=
  ⟨fun H0 F0 => (L2.ps_ret he.raw).imp fun D σ H q => retF_core hv q⟩
/-- one's own list is handed back -/
theorem simS_retFV {i : Nat} (he : PE X e (L2.tVar i)) : SimS X C ff au true (.Return (some e) pos) (.retF (.var i)) :=
  ⟨fun H0 F0 => (L2.ps_ret he).imp fun D σ H ⟨F, env, u, o, R, ev, k⟩ => by
    simp only [execS, evalE] at ev
    obtain ⟨⟨d, u1⟩, e1, ev⟩ := Option.bind_eq_some_iff.mp ev
    obtain ⟨d', e2, e1⟩ := Option.bind_eq_some_iff.mp e1
    cases e1
    split at ev <;> first | contradiction | skip
    rename_i hz
    cases ev
    unfold getV at e2
    split at e2 <;> first | contradiction | skip
    · rename_i d0 hi
      cases e2
      obtain ⟨v, h1, h2⟩ := R.imm i _ hi
      refine ⟨v, h1, k v F H ⟨⟨R.ext, R.sub, R.urn⟩, Rr.of h2 ?_⟩⟩
      have hw : ownVar env (.var i) = false := by unfold ownVar; simp [hi]
      rw [hw] at hz
      simp only [fk, Bool.false_or] at hz
      cases d <;> simp [noList, isL] at hz ⊢
    · rename_i ds hi
      cases e2
      obtain ⟨q, vs, h1, h3, h4, h5, h6⟩ := R.own i ds hi
      exact ⟨_, h1, k _ F H ⟨⟨R.ext, R.sub, R.urn⟩, q, vs, rfl, h5, h4, h3, h6⟩⟩⟩
end
end Pl

/-! PSound8: the other statements. -/
namespace Pl
open PySem
open L2 (V Hp HO St VK TE TT TA TS TI TG TGs Cx PE PT PW PA PS PSs PI PG PGs Inv SqL SqT upd upd_same upd_ne OpR UnR CallR R2 Vals RelV EP Gl Vis It Ends)

section
variable {K : PySem.W.Frag} {au : Option Addr} {H0 F0 : Hp} {σ : St} {H F H1 F1 : Hp} {env : Env} {u u1 : U} {is : List Nat}
/-- one's own list is changed -/
theorem StR.mut (R : StR K au H0 F0 σ H F env u) {i : Nat} {ds ds' : List D} {p : Addr} {vs' : List V} (hi : env[i]? = some (Slot.own ds)) (hp : σ[i]? = some (some (V.ref p))) (hd : DpAll K F vs' ds') :
    StR K au H0 F0 σ (upd H p (.lst vs')) F (env.set i (.own ds')) u := by
  obtain ⟨q, vs, e1, e2, e3, e4, e5⟩ := R.own i ds hi
  rw [hp] at e1
  cases e1
  have hl : i < env.length := (List.getElem?_eq_some_iff.mp hi).1
  have get : ∀ (j : Nat) t, (env.set i (.own ds'))[j]? = some t → (j = i ∧ t = .own ds') ∨ (j ≠ i ∧ env[j]? = some t) := fun j t hj => by
    by_cases e : i = j
    · subst e
      rw [List.getElem?_set_self hl] at hj
      exact .inl ⟨rfl, (Option.some.inj hj).symm⟩
    · rw [List.getElem?_set_ne e] at hj
      exact .inr ⟨fun q => e q.symm, hj⟩
  have back : ∀ (j : Nat) es, (env.set i (.own ds'))[j]? = some (Slot.own es) → ∃ es', env[j]? = some (Slot.own es') := fun j es hj => by
    rcases get j _ hj with ⟨rfl, _⟩ | ⟨_, h⟩
    · exact ⟨_, hi⟩
    · exact ⟨_, h⟩
  refine ⟨fun a o h => ?_, fun a ha => ⟨?_, (R.urn a ha).2⟩, R.s0, by rw [List.length_set]; exact R.len, fun a ha hn => ?_, R.u0, fun j d hj => ?_, fun j es hj => ?_, fun j k es es' q h1 h2 h3 h4 => ?_⟩
  · rw [upd_ne fun (z : a = p) => by rw [z, e3] at h; cases h]
    exact R.sub a o h
  · rw [upd_ne fun (z : a = p) => R.u0 a ha (by rw [z]; exact e4)]
    exact (R.urn a ha).1
  · rw [upd_ne fun (z : a = p) => hn (by rw [z]; exact e4)]
    exact R.ext a ha hn
  · rcases get j _ hj with ⟨_, h⟩ | ⟨_, h⟩
    · cases h
    · exact R.imm j d h
  · rcases get j _ hj with ⟨rfl, h⟩ | ⟨ne, h⟩
    · cases h
      exact ⟨p, vs', hp, upd_same, e3, e4, hd⟩
    · obtain ⟨q, ws, g1, g2, g3⟩ := R.own j es h
      exact ⟨q, ws, g1, by rw [upd_ne fun (z : q = p) => ne (R.dis j i es ds p h hi (by rw [g1, z]) hp)]; exact g2, g3⟩
  · obtain ⟨es1, h1⟩ := back j _ h1
    obtain ⟨es2, h2⟩ := back k _ h2
    exact R.dis j k es1 es2 q h1 h2 h3 h4
/-- the lent list is changed -/
theorem StR.urnSet (R : StR K au H0 F0 σ H F env u) {a : Addr} (ha : au = some a) (u' : U) : StR K au H0 F0 σ (upd H a (.lst (u'.map V.int))) F env u' := by
  refine ⟨fun b o h => ?_, fun b hb => ?_, R.s0, R.len, fun b hb hn => ?_, R.u0, R.imm, fun j es hj => ?_, R.dis⟩
  · rw [upd_ne fun (z : b = a) => by rw [z, (R.urn a ha).2] at h; cases h]
    exact R.sub b o h
  · rw [ha] at hb; cases hb
    exact ⟨upd_same, (R.urn a ha).2⟩
  · rw [upd_ne fun (z : b = a) => hb (by rw [z, ha])]
    exact R.ext b hb hn
  · obtain ⟨q, ws, g1, g2, g3, g4, g5⟩ := R.own j es hj
    exact ⟨q, ws, g1, by rw [upd_ne fun (z : q = a) => R.u0 a ha (by rw [← z]; exact g4)]; exact g2, g3, g4, g5⟩
/-- behind an expression whose value is taken in -/
theorem StR.aft (R : StR K au H0 F0 σ H F env u) (P : Post au (thaw env σ is H F) H F1 H1 u1) {v : V} {d : D} (h : Dp K F1 v d) :
    ∃ F', StR K au H0 F0 σ H1 F' (if noList d then env else freeze env is) u1 ∧ Dp K F' v d := by
  by_cases hn : noList d = true
  · rw [if_pos hn]; exact ⟨_, R.keep P, R.keepV P h hn⟩
  · rw [if_neg hn]; exact ⟨_, R.frz P, h⟩
theorem thaw_nil : thaw env σ [] H F = F := by
  funext a
  exact thaw_no fun ⟨_, h, _⟩ => by cases h
theorem hide_nil : hide env σ [] F = F := by
  funext a
  exact hide_no fun ⟨_, h, _⟩ => by cases h
theorem StR.step (R : StR K au H0 F0 σ H F env u) (P : Post au F H F1 H1 u1) : StR K au H0 F0 σ H1 F1 env u1 := by
  have h := R.keep (is := []) (by rw [thaw_nil]; exact P)
  rw [hide_nil] at h
  exact h
theorem own_of_after {env : Env} {d : D} {is : List Nat} {i : Nat} {ds : List D} (h : (if noList d then env else freeze env is)[i]? = some (Slot.own ds)) : env[i]? = some (Slot.own ds) := by
  split at h
  · exact h
  · rw [freeze_get] at h
    split at h
    · cases q : env[i]? with
      | none => rw [q] at h; cases h
      | some s => rw [q] at h; cases s <;> cases h
    · exact h

/-! ### what has come to stand still, for a loop -/
def base (H0 F1 : Hp) : Hp := fun a => match F1 a with | some o => some o | none => H0 a
theorem base_some {H0 F1 : Hp} {a : Addr} {o : HO} (h : F1 a = some o) : base H0 F1 a = some o := by unfold base; rw [h]
theorem base_none {H0 F1 : Hp} {a : Addr} (h : F1 a = none) : base H0 F1 a = H0 a := by unfold base; rw [h]
theorem base_ne {H0 F1 : Hp} {a : Addr} (h : H0 a ≠ none) : base H0 F1 a ≠ none := by
  cases q : F1 a with
  | none => rw [base_none q]; exact h
  | some o => rw [base_some q]; exact fun z => nomatch z
theorem StR.rebase (R : StR K au H0 F0 σ H F env u) : StR K au (base H0 F) F σ H F env u := by
  refine ⟨R.sub, R.urn, R.s0, R.len, fun a ha hn => ⟨?_, rfl⟩, fun a ha => base_ne (R.u0 a ha), R.imm, fun i ds hi => ?_, R.dis⟩
  · cases q : F a with
    | some o => rw [base_some q]; exact R.sub a o q
    | none => rw [base_none q] at hn ⊢; exact (R.ext a ha hn).1
  · obtain ⟨p, vs, h1, h2, h3, h4, h5⟩ := R.own i ds hi
    exact ⟨p, vs, h1, h2, h3, (base_none h3).trans h4, h5⟩
theorem ext_unbase {F2 H2 : Hp} (s : Sub F H) (hu : ∀ a, au = some a → F a = none) (e0 : Ext au F0 H0 F H) (e : Ext au F (base H0 F) F2 H2) : Ext au F0 H0 F2 H2 := fun a ha hn => by
  obtain ⟨h1, h2⟩ := e a ha (base_ne hn)
  obtain ⟨h3, h4⟩ := e0 a ha hn
  refine ⟨h1.trans ?_, h2.trans h4⟩
  cases q : F a with
  | none => rw [base_none q]
  | some o => rw [base_some q, ← h3, s a o q]
theorem StR.unbase {σ2 : St} {H2 F2 : Hp} {env2 : Env} {u2 : U} (R0 : StR K au H0 F0 σ H F env u) (R : StR K au (base H0 F) F σ2 H2 F2 env2 u2) : StR K au H0 F0 σ2 H2 F2 env2 u2 := by
  refine ⟨R.sub, R.urn, R.s0, R.len, ext_unbase R0.sub R0.urn.hu R0.ext R.ext, R0.u0, R.imm, fun i ds hi => ?_, R.dis⟩
  obtain ⟨p, vs, h1, h2, h3, h4, h5⟩ := R.own i ds hi
  refine ⟨p, vs, h1, h2, h3, ?_, h5⟩
  cases q : F p with
  | none => rw [base_none q] at h4; exact h4
  | some o => rw [base_some q] at h4; cases h4
theorem RetR.unbase {fr : Bool} {v : V} {F2 H2 : Hp} {d : D} {u2 : U} (R0 : StR K au H0 F0 σ H F env u) (r : RetR fr K au (base H0 F) F v F2 H2 d u2) : RetR fr K au H0 F0 v F2 H2 d u2 :=
  ⟨⟨ext_unbase R0.sub R0.urn.hu R0.ext r.1.ext, r.1.sub, r.1.urn⟩, r.2.back fun q hq => base_ne hq⟩
theorem StR.subBase {σ2 : St} {H2 F2 : Hp} {env2 : Env} {u2 : U} (R0 : StR K au H0 F0 σ H F env u) (R : StR K au (base H0 F) F σ2 H2 F2 env2 u2) : Sub F F2 := fun a o h => by
  have ha : some a ≠ au := fun e => by rw [R0.urn.hu a e.symm] at h; cases h
  rw [(R.ext a ha (by rw [base_some h]; exact fun z => nomatch z)).2]
  exact h
theorem StR.putMany : ∀ {is : List Nat} {ds : List D} {vs : List V} {σ : St} {env env' : Env}, StR K au H0 F0 σ H F env u → DpAll K F vs ds → bindMany is ds env = some env' → (au.isSome = true → 0 ∉ is) → StR K au H0 F0 (Pl.setMany is vs σ) H F env' u
  | [], [], _, σ, env, env', R, .nil, h, _ => by simp only [bindMany, Option.some.injEq] at h; subst h; exact R
  | [], _ :: _, _, σ, env, env', R, _, h, _ => by simp [bindMany] at h
  | _ :: _, [], _, σ, env, env', R, _, h, _ => by simp [bindMany] at h
  | i :: is, d :: ds, _, σ, env, env', R, .cons r rs, h, h0 => by
    simp only [bindMany] at h
    exact StR.putMany (is := is) (σ := σ.set i (some _)) (R.put (s := .imm d) r fun z e => h0 z (by rw [e]; exact List.mem_cons_self)) rs h fun z hm => h0 z (List.mem_cons_of_mem _ hm)
theorem StR.bind {t : Tg} {v : V} {d : D} {env' : Env} (R : StR K au H0 F0 σ H F env u) (r : Dp K F v d) (h : bindT t d env = some env') (h0 : au.isSome = true → 0 ∉ tgIx t) {Q : St → Hp → Prop}
    (q : ∀ σ', StR K au H0 F0 σ' H F env' u → Q σ' H) : wpG K t v σ H Q := by
  cases t with
  | one i =>
    simp only [bindT, Option.some.injEq] at h
    subst h
    exact q _ (R.put (s := .imm d) r fun z e => h0 z (by rw [e]; exact List.mem_singleton.mpr rfl))
  | many is =>
    cases d <;> simp only [bindT] at h <;> first | contradiction | skip
    obtain ⟨a, xs, rfl, h1, h2⟩ := dp_tuple r
    exact ⟨a, xs, rfl, sqT_sub R.sub h1, by rw [dpAll_len h2, bindMany_len h], q _ (R.putMany h2 h h0)⟩
end

section
variable {X : Cx} {C : Ctx} {ff : String → Bool} {au : Option Addr} {fr : Bool} {e a b c : Expr} {es : List Expr} {p pa pb pc : E} {ps : Es} {pos : Pos} {x : Str} {pos2 : Pos} {K : PySem.W.Frag} {H0 F0 : Hp} {st : Stmt} {sts sts2 : List Stmt} {s : S} {ss ss2 : Ss}

/-! ### comprehensions -/
theorem sim_comp {elt tg iter : Expr} {ifs : List Expr} {scope : Scope} {own : List (Str × Nat)} {t : Tg} {it : I} {cond : Eo} {pe : E} (hc : X.calm = true) (hN : X.N.Nodup) (hi : SimI X C au tg iter it) (ok : L2.BlkOk X.N X.env.scope scope own)
    (hg : ∀ (s : Shared) (H : Hp) (Ca : Addr) (cl : List (Str × Addr)) (fp : List Addr), SimG (X.blk s H scope (compEnvC scope cl Ca X.env) fp) tg t)
    (ht : ∀ (s : Shared) (H : Hp) (Ca : Addr) (cl : List (Str × Addr)) (fp : List Addr), SimC (X.blk s H scope (compEnvC scope cl Ca X.env) fp) C au ifs cond)
    (he : ∀ (s : Shared) (H : Hp) (Ca : Addr) (cl : List (Str × Addr)) (fp : List Addr), Sim (X.blk s H scope (compEnvC scope cl Ca X.env) fp) C ff au elt pe)
    (h0 : au.isSome = true → 0 ∉ own.map (·.2) ∧ 0 ∉ tgIx t) (hsub : ∀ i ∈ tgIx t, i ∈ own.map (·.2)) (hs : ∀ x, foldedSetIterable iter X.env x = pure x) :
    Sim X C ff au (.ListComp elt [⟨tg, iter, ifs, 0⟩] scope pos) (.comp pe t it cond (own.map (·.2))) :=
  ⟨L2.PE.imp (L2.pe_lc hc hN hi.t ok (fun s H Ca cl fp => (hg s H Ca cl fp).t) (fun s H Ca cl fp => (ht s H Ca cl fp).t) (fun s H Ca cl fp => (he s H Ca cl fp).pl) hs) fun σ H Q h => comp_imp h0 hsub h⟩
theorem simS_setLc {i : Nat} {elt tg iter : Expr} {ifs : List Expr} {scope : Scope} {own : List (Str × Nat)} {t : Tg} {it : I} {cond : Eo} {pe : E} {spos : Pos} (hc : X.calm = true) (hN : X.N.Nodup) (hy : X.N[i]? = some x) (hyl : X.env.scope.names.lookup x = some .local)
    (hsw : swapsWith (.ListComp elt [⟨tg, iter, ifs, 0⟩] scope pos) (some (.Name x pos2)) spos.line X.env = pure true) (hi : SimI X C au tg iter it) (ok : L2.BlkOk X.N X.env.scope scope own)
    (hg : ∀ (s : Shared) (H : Hp) (Ca : Addr) (cl : List (Str × Addr)) (fp : List Addr), SimG (X.blk s H scope (compEnvC scope cl Ca X.env) fp) tg t)
    (ht : ∀ (s : Shared) (H : Hp) (Ca : Addr) (cl : List (Str × Addr)) (fp : List Addr), SimC (X.blk s H scope (compEnvC scope cl Ca X.env) fp) C au ifs cond)
    (he : ∀ (s : Shared) (H : Hp) (Ca : Addr) (cl : List (Str × Addr)) (fp : List Addr), Sim (X.blk s H scope (compEnvC scope cl Ca X.env) fp) C ff au elt pe)
    (h0 : au.isSome = true → 0 ∉ own.map (·.2) ∧ 0 ∉ tgIx t) (h00 : au.isSome = true → i ≠ 0) (hsub : ∀ i ∈ tgIx t, i ∈ own.map (·.2)) (hs : ∀ x, foldedSetIterable iter X.env x = pure x) :
    SimS X C ff au fr (.Assign [.Name x pos2] (.ListComp elt [⟨tg, iter, ifs, 0⟩] scope pos) spos) (.set i (.comp pe t it cond (own.map (·.2)))) :=
  ⟨fun H0 F0 => (L2.ps_setLc hc hN hy hyl hsw hi.t ok (fun s H Ca cl fp => (hg s H Ca cl fp).t) (fun s H Ca cl fp => (ht s H Ca cl fp).t) (fun s H Ca cl fp => (he s H Ca cl fp).pl) hs).imp fun D σ H q =>
    comp_imp h0 hsub (set_core h00 q)⟩

/-! ### lists changed -/
theorem simS_setI {i : Nat} {o k : Expr} {pk : E} (he : Sim X C ff au e p) (ho : PE X o (L2.tVar i)) (hk : Sim X C ff au k pk)
    (h : ∀ {te ti : TE}, PE X e te → PE X k ti → PS X (.Assign [.Subscript o k pos2] e pos) (L2.tAsg te (L2.gSub (L2.tVar i) ti L2.rSetL))) :
    SimS X C ff au fr (.Assign [.Subscript o k pos2] e pos) (.setI i pk p) := ⟨fun H0 F0 => (h he.pl hk.pl).imp fun D σ H ⟨F, env, u, oo, R, ev, kk⟩ => by
  simp only [execS] at ev
  obtain ⟨⟨d, u1⟩, e1, ev⟩ := Option.bind_eq_some_iff.mp ev
  split at ev <;> first | contradiction | skip
  rename_i hn
  obtain ⟨⟨dk, u2⟩, e2, ev⟩ := Option.bind_eq_some_iff.mp ev
  split at ev <;> first | contradiction | skip
  rename_i ds n hi hdk
  simp only at hdk
  subst hdk
  obtain ⟨j, ej, ev⟩ := Option.bind_eq_some_iff.mp ev
  cases ev
  refine ⟨_, env, u, d, u1, R.at_ (fvE p), e1, fun v F1 H1 P1 r1 => ?_⟩
  have R1 := R.keep P1
  have d1 := R.keepV P1 r1 hn
  obtain ⟨q, vs, g1, g2, g3, g4, g5⟩ := R1.own i ds hi
  refine ⟨_, g1, _, env, u1, .int n, u2, R1.at_ (fvE pk), e2, fun v2 F2 H2 P2 r2 => ?_⟩
  have R2 := R1.keep P2
  have d2 := dp_sub (R1.subH P2) _ _ d1
  obtain ⟨q2, vs2, k1, k2, k3, k4, k5⟩ := R2.own i ds hi
  rw [g1] at k1
  cases k1
  refine ⟨q, vs2, n, j, rfl, dp_int r2, k2, ?_, kk _ _ _ (R2.mut hi g1 (dpAll_set j k5 d2))⟩
  rw [dpAll_len k5]
  exact ej⟩
theorem simS_setU {o k : Expr} {pk : E} (hau : au.isSome = true) (he : Sim X C ff au e p) (ho : PE X o (L2.tVar 0)) (hk : Sim X C ff au k pk)
    (h : ∀ {te ti : TE}, PE X e te → PE X k ti → PS X (.Assign [.Subscript o k pos2] e pos) (L2.tAsg te (L2.gSub (L2.tVar 0) ti L2.rSetL))) :
    SimS X C ff au fr (.Assign [.Subscript o k pos2] e pos) (.setU pk p) := ⟨fun H0 F0 => (h he.pl hk.pl).imp fun D σ H ⟨F, env, u, oo, R, ev, kk⟩ => by
  simp only [execS] at ev
  obtain ⟨⟨d, u1⟩, e1, ev⟩ := Option.bind_eq_some_iff.mp ev
  split at ev <;> first | contradiction | skip
  rename_i z hz
  simp only at hz
  subst hz
  obtain ⟨⟨dk, u2⟩, e2, ev⟩ := Option.bind_eq_some_iff.mp ev
  split at ev <;> first | contradiction | skip
  rename_i n hdk
  simp only at hdk
  subst hdk
  obtain ⟨j, ej, ev⟩ := Option.bind_eq_some_iff.mp ev
  cases ev
  obtain ⟨a, ha⟩ := Option.isSome_iff_exists.mp hau
  refine ⟨_, env, u, _, u1, R.at_ (fvE p), e1, fun v F1 H1 P1 r1 => ?_⟩
  have R1 := R.keep P1
  obtain rfl := dp_int r1
  refine ⟨_, R.s0 a ha, _, env, u1, .int n, u2, R1.at_ (fvE pk), e2, fun v2 F2 H2 P2 r2 => ?_⟩
  have R2 := R1.keep P2
  refine ⟨a, u2.map V.int, n, j, rfl, dp_int r2, (R2.urn a ha).1, ?_, ?_⟩
  · rw [List.length_map]; exact ej
  · have h := R2.urnSet ha (u2.set j z)
    rw [List.map_set] at h
    exact kk _ _ _ h⟩
theorem simS_app {i : Nat} (he : Sim X C ff au e p)
    (h : ∀ {te : TE}, PE X e te → PS X st (L2.tDrop (L2.tBM X.K "list" L2.rAppend (L2.tVar i) (L2.tCons te L2.tNil)))) : SimS X C ff au fr st (.app i p) :=
  ⟨fun H0 F0 => (h he.pl).imp fun D σ H ⟨F, env, u, oo, R, ev, kk⟩ => by
    simp only [execS] at ev
    obtain ⟨⟨d, u1⟩, e1, ev⟩ := Option.bind_eq_some_iff.mp ev
    simp only at ev
    split at ev <;> first | contradiction | skip
    rename_i ds hi
    split at ev <;> first | contradiction | skip
    rename_i hz
    cases ev
    have hi0 := own_of_after hi
    obtain ⟨q, vs, g1, g2, g3, g4, g5⟩ := R.own i ds hi0
    refine ⟨_, g1, .inl ⟨rfl, _, L2.SqL.of g2⟩, _, env, u, d, u1, R.at_ (fvE p), e1, fun v F1 H1 P1 r1 => ?_⟩
    obtain ⟨F2, R2, d2⟩ := R.aft P1 r1
    obtain ⟨q2, vs2, k1, k2, k3, k4, k5⟩ := R2.own i ds hi
    rw [g1] at k1
    cases k1
    exact ⟨q, vs2, v, rfl, rfl, k2, by rw [dpAll_len k5]; exact sizeLt_of hz, kk _ _ _ (R2.mut hi g1 (dpAll_append k5 (.cons d2 .nil)))⟩⟩
def rIns : V → List V → Hp → VK → Prop := fun x vs H Q => ∃ (l : Addr) (xs : List V) (i : Int) (y : V), x = .ref l ∧ vs = [.int i, y] ∧ H l = some (.lst xs) ∧ xs.length < sizeLine ∧ 0 ≤ i ∧ i < 2 ^ 63 ∧
    Q .non (upd H l (.lst (xs.take i.toNat ++ [y] ++ xs.drop i.toNat)))
theorem simS_ins {i : Nat} {k : Expr} {pk : E} (hk : Sim X C ff au k pk) (he : Sim X C ff au e p)
    (h : ∀ {ti te : TE}, PE X k ti → PE X e te → PS X st (L2.tDrop (L2.tBM X.K "list" rIns (L2.tVar i) (L2.tCons ti (L2.tCons te L2.tNil))))) : SimS X C ff au fr st (.ins i pk p) :=
  ⟨fun H0 F0 => (h hk.pl he.pl).imp fun D σ H ⟨F, env, u, oo, R, ev, kk⟩ => by
    simp only [execS] at ev
    obtain ⟨⟨dk, u1⟩, e1, ev⟩ := Option.bind_eq_some_iff.mp ev
    obtain ⟨⟨d, u2⟩, e2, ev⟩ := Option.bind_eq_some_iff.mp ev
    split at ev <;> first | contradiction | skip
    rename_i hn
    dsimp only at ev hn
    split at ev <;> first | contradiction | skip
    rename_i ds n hi hdk
    split at ev <;> first | contradiction | skip
    rename_i hz
    cases ev
    simp only [Bool.and_eq_true, decide_eq_true_eq] at hz
    obtain ⟨⟨z0, z1⟩, z2⟩ := hz
    obtain ⟨q, vs, g1, g2, g3, g4, g5⟩ := R.own i ds hi
    refine ⟨_, g1, .inl ⟨rfl, _, L2.SqL.of g2⟩, _, env, u, .int n, u1, R.at_ (fvE pk), e1, fun v F1 H1 P1 r1 => ?_⟩
    have R1 := R.keep P1
    refine ⟨_, env, u1, d, u2, R1.at_ (fvE p), e2, fun v2 F2 H2 P2 r2 => ?_⟩
    have R2 := R1.keep P2
    have d2 := R1.keepV P2 r2 hn
    obtain ⟨q2, vs2, k1, k2, k3, k4, k5⟩ := R2.own i ds hi
    rw [g1] at k1
    cases k1
    have hlen : ds.length ≤ 100000 := of_decide_eq_true z2
    have e3 : ds.take n.toNat ++ d :: ds.drop n.toNat = ds.take n.toNat ++ [d] ++ ds.drop n.toNat := by simp
    refine ⟨q, vs2, n, v2, rfl, by rw [dp_int r1], k2, by rw [dpAll_len k5]; exact sizeLt_of z2, z0, by omega, ?_⟩
    rw [show vs2.take n.toNat ++ [v2] ++ vs2.drop n.toNat = vs2.take n.toNat ++ v2 :: vs2.drop n.toNat by simp]
    exact kk _ _ _ (R2.mut hi g1 (dpAll_append (dpAll_take n.toNat k5) (.cons d2 (dpAll_drop n.toNat k5))))⟩
theorem simS_pop {i : Nat} (h : PS X st (L2.tDrop (L2.tBM0 X.K "list" L2.rPop (L2.tVar i)))) : SimS X C ff au fr st (.pop i) :=
  ⟨fun H0 F0 => h.imp fun D σ H ⟨F, env, u, oo, R, ev, kk⟩ => by
    simp only [execS] at ev
    split at ev <;> first | contradiction | skip
    rename_i ds hi
    split at ev <;> first | contradiction | skip
    rename_i hz
    cases ev
    obtain ⟨q, vs, g1, g2, g3, g4, g5⟩ := R.own i ds hi
    have hl := dpAll_len g5
    have hne : vs ≠ [] := fun z => hz (by rw [z] at hl; cases ds with | nil => rfl | cons _ _ => cases hl)
    refine ⟨_, g1, .inl ⟨rfl, _, L2.SqL.of g2⟩, q, vs, vs.getLast hne, rfl, rfl, g2, ?_, kk _ _ _ (R.mut hi g1 (dpAll_dropLast g5))⟩
    rw [← List.getLast?_eq_getElem?, List.getLast?_eq_getLast hne]⟩
end
end Pl

/-! PSound9: statements with parts; several values at once. -/
namespace Pl
open PySem
open L2 (V Hp HO St VK TE TT TA TS TI TG TGs Cx PE PT PW PA PS PSs PI PG PGs Inv SqL SqT upd upd_same upd_ne OpR UnR CallR R2 Vals RelV EP Gl Vis It Ends)

def runN {α β : Type} (step : α → Option (Sum α β)) : Nat → α → Option β
  | 0, _ => none
  | n + 1, a => match step a with
    | none => none
    | some (.inl a') => runN step n a'
    | some (.inr b) => some b
theorem whileO_runN {α β : Type} (step : α → Option (Sum α β)) (a : α) (b : β) (h : whileO step a = some b) : ∃ n, runN step n a = some b := by
  refine whileO.partial_correctness step (fun a b => ∃ n, runN step n a = some b) ?_ a b h
  intro f ih a r e
  split at e
  · cases e
  · rename_i a' q
    obtain ⟨n, hn⟩ := ih a' r e
    exact ⟨n + 1, by unfold runN; rw [q]; exact hn⟩
  · rename_i b' q
    exact ⟨1, by unfold runN; rw [q]; exact e⟩

/-- values of several expressions, new lists still new -/
def RrAll (ff : String → Bool) (K : PySem.W.Frag) (F' H' : Hp) : Hp → Es → List V → List D → Prop
  | _, .nil, [], [] => True
  | H, .cons e es, v :: vs, d :: ds => Rr (fk ff e) K H F' H' v d ∧ ∃ H1, (∀ a, H a ≠ none → H1 a ≠ none) ∧ (fk ff e = true → isL d = true → ∀ p, v = .ref p → H1 p ≠ none) ∧ RrAll ff K F' H' H1 es vs ds
  | _, _, _, _ => False
def wpEsR (ff : String → Bool) (K : PySem.W.Frag) (C : Ctx) (au : Option Addr) (p : Es) : TA := fun σ H Q =>
  ∃ F env u ds u', At K au σ H F env u (fvEs p) ∧ evalEs C p env u = some (ds, u') ∧ ∀ vs F' H', Post au F H F' H' u' → RrAll ff K F' H' H p vs ds → Q vs H'
structure SimAR (X : Cx) (C : Ctx) (ff : String → Bool) (au : Option Addr) (es : List Expr) (p : Es) : Prop where
  t : PA X es (wpEsR ff X.K C au p)

section
variable {X : Cx} {C : Ctx} {ff : String → Bool} {au : Option Addr} {fr : Bool} {e a b c : Expr} {es : List Expr} {p pa pb pc : E} {ps : Es} {pos : Pos} {x y z : Str} {pos2 : Pos} {K : PySem.W.Frag} {H0 F0 : Hp} {st : Stmt} {sts sts2 : List Stmt} {s : S} {ss ss2 : Ss}

theorem simAR_nil : SimAR X C ff au [] .nil := ⟨L2.PA.imp L2.pa_nil fun σ H Q ⟨F, env, u, d, u', A, ev, k⟩ => by
  simp only [evalEs, Option.some.injEq, Prod.mk.injEq] at ev
  obtain ⟨rfl, rfl⟩ := ev
  exact k [] F H A.post trivial⟩
theorem Rr.on {b : Bool} {au : Option Addr} {F H F' H' F'' H'' : Hp} {v : V} {d : D} {u' u'' : U} (r : Rr b K H F' H' v d) (P1 : Post au F H F' H' u') (P : Post au F' H' F'' H'' u'') (hh : ∀ a, au = some a → H a ≠ none) : Rr b K H F'' H'' v d := by
  have sF : Sub F' F'' := P.ext.sub P1.sub P1.urn.hu
  cases b with
  | false => exact dp_sub sF _ _ r
  | true =>
    cases d with
    | list ds =>
      obtain ⟨a, vs, rfl, h1, h2, h3, h4⟩ := r
      obtain ⟨e1, e2⟩ := P.ext a (fun q => hh a q.symm h1) (by rw [h3]; exact fun q => nomatch q)
      exact ⟨a, vs, rfl, h1, e2.trans h2, e1.trans h3, dpAll_sub sF _ _ h4⟩
    | _ => exact dp_sub sF _ _ r
theorem simAR_cons (ha : Sim X C ff au a pa) (hs : SimAR X C ff au es ps) (hst : starEach (a :: es) X.env = (false, eval a X.env) :: starEach es X.env) : SimAR X C ff au (a :: es) (.cons pa ps) :=
  ⟨L2.PA.imp (L2.pa_cons ha.raw hs.t hst) fun σ H Q ⟨F, env, u, d, u', A, ev, k⟩ => by
    simp only [evalEs] at ev
    obtain ⟨⟨da, u1⟩, e1, ev⟩ := Option.bind_eq_some_iff.mp ev
    obtain ⟨⟨ds, u2⟩, e2, ev⟩ := Option.bind_eq_some_iff.mp ev
    cases ev
    refine ⟨F, env, u, da, u1, A.l, e1, fun v F1 H1 P1 r1 => ?_⟩
    have A1 := A.step P1
    refine ⟨F1, env, u1, ds, u2, A1.r, e2, fun vs F2 H2 P2 r2 => ?_⟩
    refine k _ F2 H2 (P1.trans P2) ⟨r1.on P1 P2 A.urn.hh, H1, fun q hq => P1.grow hq, fun hk hl q hq => ?_, r2⟩
    rw [hk] at r1
    cases da <;> simp [isL] at hl
    obtain ⟨w, vs, rfl, h1, h2, h3, h4⟩ := r1
    cases hq
    rw [h3]
    exact fun z => nomatch z⟩
/-- the slots of several values, stored one by one -/
theorem putAll : ∀ {is : List Nat} {ps : Es} {ds : List D} {vs : List V} {sl : List Slot} {σ : St} {H F Hb : Hp} {env env' : Env} {u : U}, StR K au H0 F0 σ H F env u → RrAll ff K F H Hb ps vs ds → parSlots ff ps ds = some sl → setAll is sl env = some env' →
    (au.isSome = true → 0 ∉ is) → (∀ (j : Nat) ds' q, env[j]? = some (Slot.own ds') → σ[j]? = some (some (V.ref q)) → Hb q ≠ none) → (∀ q, H0 q ≠ none → Hb q ≠ none) → StR K au H0 F0 (Pl.setMany is vs σ) H F env' u
  | [], ps, ds, vs, [], σ, H, F, Hb, env, env', u, R, r, h1, h2, _, _, _ => by
    simp only [setAll, Option.some.injEq] at h2
    subst h2
    exact R
  | [], _, _, _, _ :: _, _, _, _, _, _, _, _, _, _, _, h2, _, _, _ => by simp [setAll] at h2
  | _ :: _, _, _, _, [], _, _, _, _, _, _, _, _, _, _, h2, _, _, _ => by simp [setAll] at h2
  | i :: is, .nil, [], vs, s :: sl, _, _, _, _, _, _, _, _, _, h1, _, _, _, _ => by simp [parSlots] at h1
  | i :: is, .nil, _ :: _, vs, s :: sl, _, _, _, _, _, _, _, _, _, h1, _, _, _, _ => by simp [parSlots] at h1
  | i :: is, .cons _ _, [], vs, s :: sl, _, _, _, _, _, _, _, _, _, h1, _, _, _, _ => by simp [parSlots] at h1
  | i :: is, .cons p ps, d :: ds, [], s :: sl, _, _, _, _, _, _, _, _, r, _, _, _, _, _ => by simp [RrAll] at r
  | i :: is, .cons p ps, d :: ds, v :: vs, s :: sl, σ, H, F, Hb, env, env', u, R, r, h1, h2, h0, hb, hz => by
    simp only [parSlots, Option.map_eq_some_iff] at h1
    obtain ⟨sl', h1, e⟩ := h1
    cases e
    simp only [setAll] at h2
    obtain ⟨r1, H1, g1, g2, r2⟩ := r
    have so : SlotOk K H0 F H env σ i v (slotOf ff p d) := by
      unfold slotOf
      by_cases hk : fk ff p = true
      · rw [if_pos hk]
        rw [hk] at r1
        cases d with
        | list xs =>
          obtain ⟨q, ws, rfl, k1, k2, k3, k4⟩ := r1
          refine ⟨q, ws, rfl, k3, k2, ?_, k4, fun j ds' hj _ e => hb j ds' q hj e k1⟩
          cases z : H0 q with
          | none => rfl
          | some o => exact absurd k1 (hz q (by rw [z]; exact fun z => nomatch z))
        | _ => exact r1
      · rw [if_neg hk]
        have hk' : fk ff p = false := by simpa using hk
        rw [hk'] at r1
        exact r1
    refine putAll (is := is) (R.put so fun q e => h0 q (by rw [e]; exact List.mem_cons_self)) r2 h1 h2 (fun q hm => h0 q (List.mem_cons_of_mem _ hm)) (fun j ds' q hj hq => ?_) fun q hq => g1 q (hz q hq)
    by_cases e : i = j
    · subst e
      by_cases hl : i < env.length
      · rw [List.getElem?_set_self hl] at hj
        rw [List.getElem?_set_self (by rw [← R.len]; exact hl)] at hq
        cases hq
        unfold slotOf at hj
        split at hj <;> first | (cases hj; done) | skip
        rename_i hk
        cases d <;> first | (cases hj; done) | skip
        exact g2 hk rfl q rfl
      · rw [List.getElem?_eq_none (by rw [List.length_set]; omega)] at hj
        cases hj
    · rw [List.getElem?_set_ne e] at hj hq
      exact g1 q (hb j ds' q hj hq)
theorem rrAll_noList {F F' H' Hb : Hp} (hT : ∀ a xs, SqT K F' a xs → SqT K F a xs) (hn : ∀ a, F' a = none → F a = none) : ∀ {ps : Es} {vs : List V} {ds : List D} {Hb : Hp}, parWithin ff ps ds = true → RrAll ff K F' H' Hb ps vs ds → RrAll ff K F H' Hb ps vs ds
  | .nil, [], [], _, _, _ => trivial
  | .nil, [], _ :: _, _, _, r => r
  | .nil, _ :: _, [], _, _, r => r
  | .nil, _ :: _, _ :: _, _, _, r => r
  | .cons _ _, [], [], _, _, r => r
  | .cons _ _, [], _ :: _, _, _, r => r
  | .cons _ _, _ :: _, [], _, _, r => r
  | .cons p ps, v :: vs, d :: ds, Hb, h, ⟨r, H1, g1, g2, r2⟩ => by
    simp only [parWithin, Bool.and_eq_true] at h
    refine ⟨?_, H1, g1, g2, rrAll_noList (Hb := Hb) hT hn h.2 r2⟩
    have hw := h.1
    unfold within at hw
    by_cases hk : fk ff p = true
    · rw [if_pos hk] at hw
      rw [hk] at r ⊢
      cases d with
      | list xs =>
        obtain ⟨q, ws, rfl, k1, k2, k3, k4⟩ := r
        exact ⟨q, ws, rfl, k1, hn _ k2, k3, dpAll_noList hT _ _ hw k4⟩
      | _ => exact dp_noList hT _ _ hw r
    · rw [if_neg hk] at hw
      have hk' : fk ff p = false := by simpa using hk
      rw [hk'] at r ⊢
      exact dp_noList hT _ _ hw r
theorem par_core {is : List Nat} {D : Ends} {σ : St} {H : Hp} (h0 : au.isSome = true → 0 ∉ is) (h : wpS fr C ff K au H0 F0 (.par is ps) D σ H) : wpEsR ff K C au ps σ H fun vs H1 => D.nx (Pl.setMany is vs σ) H1 := by
  obtain ⟨F, env, u, o, R, ev, k⟩ := h
  simp only [execS] at ev
  obtain ⟨⟨ds, u1⟩, e1, ev⟩ := Option.bind_eq_some_iff.mp ev
  obtain ⟨sl, e2, ev⟩ := Option.bind_eq_some_iff.mp ev
  obtain ⟨env', e3, ev⟩ := Option.bind_eq_some_iff.mp ev
  cases ev
  refine ⟨_, env, u, ds, u1, R.at_ (fvEs ps), e1, fun vs F1 H1 P r => ?_⟩
  have hH : ∀ q, H0 q ≠ none → H q ≠ none := fun q hq => by
    by_cases e : some q = au
    · exact R.urn.hh q e.symm
    · rw [(R.ext q e hq).1]; exact hq
  have hO : ∀ (env2 : Env), (∀ (j : Nat) ds', env2[j]? = some (Slot.own ds') → env[j]? = some (Slot.own ds')) → ∀ (j : Nat) ds' q, env2[j]? = some (Slot.own ds') → σ[j]? = some (some (V.ref q)) → H q ≠ none := fun env2 he j ds' q hj hq => by
    obtain ⟨q2, vs2, g1, g2, _⟩ := R.own j ds' (he j ds' hj)
    rw [hq] at g1
    cases g1
    rw [g2]; exact fun z => nomatch z
  by_cases hw : parWithin ff ps ds = true
  · rw [if_pos hw] at e3
    refine k _ _ _ (putAll (R.keep P) (rrAll_noList (H' := H1) (Hb := H) (fun _ _ q => R.noHeld P q) (fun a q => ?_) hw r) e2 e3 h0 (hO env fun _ _ h => h) hH)
    by_cases z : Held env σ (fvEs ps) a
    · exact hide_yes z
    · rw [hide_no z]; exact q
  · rw [if_neg hw] at e3
    refine k _ _ _ (putAll (R.frz P) r e2 e3 h0 (hO _ fun j ds' h => ?_) hH)
    rw [freeze_get] at h
    split at h
    · cases q : env[j]? with
      | none => rw [q] at h; cases h
      | some s => rw [q] at h; cases s <;> cases h
    · exact h
theorem simS_par2 {i j : Nat} (hs : SimAR X C ff au es ps) (h : PA X es (wpEsR ff X.K C au ps) → PS X st (L2.tPar i j (wpEsR ff X.K C au ps))) (hl : ∀ (vs : List V) (ds : List D) (F' H' Hb : Hp), RrAll ff X.K F' H' Hb ps vs ds → ∃ v w, vs = [v, w])
    (h0 : au.isSome = true → 0 ∉ [i, j]) : SimS X C ff au fr st (.par [i, j] ps) := ⟨fun H0 F0 => (h hs.t).imp fun D σ H q => by
  obtain ⟨F, env, u, ds, u', A, ev, k⟩ := par_core h0 q
  refine ⟨F, env, u, ds, u', A, ev, fun vs F' H' P r => ?_⟩
  obtain ⟨v, w, rfl⟩ := hl _ _ _ _ _ r
  exact ⟨v, w, rfl, k _ F' H' P r⟩⟩
theorem simS_par3 {i j l : Nat} (hs : SimAR X C ff au es ps) (h : PA X es (wpEsR ff X.K C au ps) → PS X st (L2.tPar3 i j l (wpEsR ff X.K C au ps))) (hl : ∀ (vs : List V) (ds : List D) (F' H' Hb : Hp), RrAll ff X.K F' H' Hb ps vs ds → ∃ u v w, vs = [u, v, w])
    (h0 : au.isSome = true → 0 ∉ [i, j, l]) : SimS X C ff au fr st (.par [i, j, l] ps) := ⟨fun H0 F0 => (h hs.t).imp fun D σ H q => by
  obtain ⟨F, env, u, ds, u', A, ev, k⟩ := par_core h0 q
  refine ⟨F, env, u, ds, u', A, ev, fun vs F' H' P r => ?_⟩
  obtain ⟨z, v, w, rfl⟩ := hl _ _ _ _ _ r
  exact ⟨z, v, w, rfl, k _ F' H' P r⟩⟩
theorem rrAll_cons {p : E} {vs : List V} {ds : List D} {F' H' Hb : Hp} (r : RrAll ff K F' H' Hb (.cons p ps) vs ds) : ∃ v ws es H1, vs = v :: ws ∧ RrAll ff K F' H' H1 ps ws es := by
  cases vs with
  | nil => cases ds <;> exact False.elim r
  | cons v ws =>
    cases ds with
    | nil => exact False.elim r
    | cons d es =>
      obtain ⟨_, H1, _, _, r2⟩ := r
      exact ⟨v, ws, es, H1, rfl, r2⟩
theorem rrAll_nil {vs : List V} {ds : List D} {F' H' Hb : Hp} (r : RrAll ff K F' H' Hb .nil vs ds) : vs = [] := by
  cases vs with
  | nil => rfl
  | cons v ws => cases ds <;> exact False.elim r
theorem rrAll_2 {pa pb : E} {vs : List V} {ds : List D} {F' H' Hb : Hp} (r : RrAll ff K F' H' Hb (.cons pa (.cons pb .nil)) vs ds) : ∃ v w, vs = [v, w] := by
  obtain ⟨v, ws, es, H1, rfl, r1⟩ := rrAll_cons r
  obtain ⟨w, ws, es, H2, rfl, r2⟩ := rrAll_cons r1
  rw [rrAll_nil r2]
  exact ⟨v, w, rfl⟩
theorem rrAll_3 {pa pb pc : E} {vs : List V} {ds : List D} {F' H' Hb : Hp} (r : RrAll ff K F' H' Hb (.cons pa (.cons pb (.cons pc .nil))) vs ds) : ∃ u v w, vs = [u, v, w] := by
  obtain ⟨v, ws, es, H1, rfl, r1⟩ := rrAll_cons r
  obtain ⟨w, ws, es, H2, rfl, r2⟩ := rrAll_cons r1
  obtain ⟨x, ws, es, H3, rfl, r3⟩ := rrAll_cons r2
  rw [rrAll_nil r3]
  exact ⟨v, w, x, rfl⟩

/-! ### if, while, for -/
theorem simS_ite {sta stb : List Stmt} {sa sb : Ss} (hc : SimT X C au c pc) (ha : SimSs X C ff au fr sta sa) (hb : SimSs X C ff au fr stb sb) : SimS X C ff au fr (.If c sta stb pos) (.ite pc sa sb) :=
  ⟨fun H0 F0 => (L2.ps_if hc.t (ha.t H0 F0) (hb.t H0 F0)).imp fun D σ H ⟨F, env, u, o, R, ev, k⟩ => by
    simp only [execS] at ev
    obtain ⟨⟨d, u1⟩, e1, ev⟩ := Option.bind_eq_some_iff.mp ev
    cases d <;> simp only at ev <;> first | contradiction | skip
    rename_i q
    refine ⟨_, env, u, q, u1, R.at_ (fvE pc), e1, fun F1 H1 P => ?_⟩
    have R1 := R.keep P
    cases q with
    | true => exact ⟨_, env, u1, o, R1, ev, k⟩
    | false => exact ⟨_, env, u1, o, R1, ev, k⟩⟩
theorem simS_whil {stb : List Stmt} {sb : Ss} (hp : PassesOwn (model X.prog X.w) X.A X.env X.xe) (hc : SimT X C au c pc) (hb : SimSs X C ff au fr stb sb) : SimS X C ff au fr (.While c stb [] pos) (.whil pc sb) :=
  ⟨fun H0 F0 => (L2.ps_while hp hc.t (hb.t H0 F0)).imp fun D σ H ⟨F, env, u, o, R, ev, k⟩ => by
    simp only [execS] at ev
    obtain ⟨n, ev⟩ := whileO_runN _ _ _ ev
    refine ⟨fun m σ H => ∃ F env u, StR X.K au H0 F0 σ H F env u ∧ runN (fun (q : Env × U) => (evalE C pc q.1 q.2).bind fun rc => match rc with
      | (.bool k, u1) => if k = true then (execSs C ff sb q.1 u1).bind fun o => (match o with
          | .nx env' u' => some (.inl (env', u'))
          | .ct env' u' => some (.inl (env', u'))
          | .bk env' u' => some (.inr (O.nx env' u'))
          | .rt d u' => some (.inr (O.rt d u'))) else some (.inr (O.nx q.1 u1))
      | _ => none) m (env, u) = some o, ⟨n, F, env, u, R, ev⟩, ?_⟩
    rintro m σ1 H1 ⟨F1, env1, u1, R1, ev1⟩
    cases m with
    | zero => simp [runN] at ev1
    | succ m =>
      unfold runN at ev1
      split at ev1
      · cases ev1
      · rename_i q hq
        obtain ⟨⟨d, u2⟩, e1, hq⟩ := Option.bind_eq_some_iff.mp hq
        cases d <;> simp only at hq <;> first | contradiction | skip
        rename_i bb
        refine ⟨_, env1, u1, bb, u2, R1.at_ (fvE pc), e1, fun F2 H2 P => ?_⟩
        have R2 := R1.keep P
        cases bb with
        | false => simp at hq
        | true =>
          simp only [if_true] at hq ⊢
          obtain ⟨o2, e2, hq⟩ := Option.bind_eq_some_iff.mp hq
          refine ⟨fun σ' H' => ∃ m', m' < m + 1 ∧ ∃ F env u, StR X.K au H0 F0 σ' H' F env u ∧ runN _ m' (env, u) = some o, fun _ _ h => h, _, env1, u2, o2, R2, e2, ?_⟩
          cases o2 <;> simp only [Option.some.injEq, Sum.inl.injEq, reduceCtorEq] at hq
          · subst hq
            exact fun σ' H' F' R' => ⟨m, Nat.lt_succ_self m, F', _, _, R', ev1⟩
          · subst hq
            exact fun σ' H' F' R' => ⟨m, Nat.lt_succ_self m, F', _, _, R', ev1⟩
      · rename_i q hq
        cases ev1
        obtain ⟨⟨d, u2⟩, e1, hq⟩ := Option.bind_eq_some_iff.mp hq
        cases d <;> simp only at hq <;> first | contradiction | skip
        rename_i bb
        refine ⟨_, env1, u1, bb, u2, R1.at_ (fvE pc), e1, fun F2 H2 P => ?_⟩
        have R2 := R1.keep P
        cases bb with
        | false =>
          simp only [Bool.false_eq_true, if_false, Option.some.injEq, Sum.inr.injEq] at hq ⊢
          subst hq
          exact k _ _ _ R2
        | true =>
          simp only [if_true] at hq ⊢
          obtain ⟨o2, e2, hq⟩ := Option.bind_eq_some_iff.mp hq
          refine ⟨fun σ' H' => False, fun _ _ h => h.elim, _, env1, u2, o2, R2, e2, ?_⟩
          cases o2 <;> simp only [Option.some.injEq, Sum.inr.injEq, reduceCtorEq] at hq
          · subst hq
            exact k
          · subst hq
            exact k⟩
theorem simS_for {tg iter : Expr} {t : Tg} {it : I} {stb : List Stmt} {sb : Ss} (hp : PassesOwn (model X.prog X.w) X.A X.env X.xe) (hc : X.calm = true) (hi : SimI X C au tg iter it) (hg : SimG X tg t) (hb : SimSs X C ff au fr stb sb) (h0 : au.isSome = true → 0 ∉ tgIx t)
    (hs : ∀ x, foldedSetIterable iter X.env x = pure x) : SimS X C ff au fr (.For tg iter stb [] pos) (.for_ t it sb) :=
  ⟨fun H0 F0 => by
    -- the loop's body over what stands still behind the row
    refine ⟨fun pins s σ H D I h => ?_⟩
    obtain ⟨F, env, u, o, R, ev, k⟩ := h
    simp only [execS] at ev
    obtain ⟨⟨ds, u1⟩, e1, ev⟩ := Option.bind_eq_some_iff.mp ev
    split at ev <;> first | contradiction | skip
    rename_i hz
    have key : ∀ J F1 H1, StR X.K au H0 F0 σ H1 F1 (if iterOk it then env else freeze env (fvI it)) u1 → Feeds X.K F1 J ds → ∃ W : Nat → Nat → St → Hp → Prop, (∃ m, W 0 m σ H1) ∧ ∀ i m σ H, W i m σ H →
        (J.stop i H ∧ D.nx σ H) ∨ (J.go i H ∧ ∃ N : St → Hp → Prop, (∀ σ' H', N σ' H' → ∃ m', m' < m ∧ W (i + 1) m' σ' H') ∧ ∀ x H', J.yld i H x H' → wpG X.K t x σ H' fun σ2 H2 =>
          (fun D σ H => ∃ H0 F0, wpSs fr C ff X.K au H0 F0 sb D σ H) { D with nx := N, ct := N, bk := D.nx } σ2 H2) := fun J F1 H1 R1 fd => by
      refine ⟨fun i m σ2 H2 => m = ds.length - i ∧ i ≤ ds.length ∧ ∃ F2 env2 u2, StR X.K au (base H0 F1) F1 σ2 H2 F2 env2 u2 ∧ forL (fun d env u => (bindT t d env).bind fun env' => execSs C ff sb env' u) (ds.drop i) env2 u2 = some o, ⟨_, rfl, Nat.zero_le _, F1, _, u1, R1.rebase, by rw [List.drop_zero]; exact ev⟩, ?_⟩
      rintro i m σ2 H2 ⟨rfl, hi, F2, env2, u2, R2, ev2⟩
      obtain ⟨hgo, hstop⟩ := fd F2 H2 (R1.subBase R2) R2.sub i
      by_cases hlt : i < ds.length
      · obtain ⟨go, yld⟩ := hgo _ (List.getElem?_eq_getElem hlt)
        rw [List.drop_eq_getElem_cons hlt] at ev2
        simp only [forL] at ev2
        obtain ⟨o2, e2, ev2⟩ := Option.bind_eq_some_iff.mp ev2
        obtain ⟨env3, e3, e2⟩ := Option.bind_eq_some_iff.mp e2
        refine .inr ⟨go, fun σ' H' => ∃ m', m' < ds.length - i ∧ (m' = ds.length - (i + 1) ∧ i + 1 ≤ ds.length ∧ ∃ F2 env2 u2, StR X.K au (base H0 F1) F1 σ' H' F2 env2 u2 ∧ forL (fun d env u => (bindT t d env).bind fun env' => execSs C ff sb env' u) (ds.drop (i + 1)) env2 u2 = some o), fun _ _ h => h, fun y H3 hy => ?_⟩
        obtain ⟨F3, x3, s3, dp3⟩ := yld y H3 hy
        have R3 := R2.step (Post.of R2.urn x3 s3)
        refine R3.bind dp3 e3 h0 fun σ4 R4 => ⟨_, _, F3, env3, u2, o2, R4, e2, ?_⟩
        cases o2 with
        | nx env5 u5 => exact fun σ5 H5 F5 R5 => ⟨_, by omega, rfl, hlt, F5, env5, u5, R5, ev2⟩
        | ct env5 u5 => exact fun σ5 H5 F5 R5 => ⟨_, by omega, rfl, hlt, F5, env5, u5, R5, ev2⟩
        | bk env5 u5 =>
          cases ev2
          exact fun σ5 H5 F5 R5 => k _ _ _ (R1.unbase R5)
        | rt d5 u5 =>
          cases ev2
          exact fun v5 F5 H5 r5 => k _ _ _ (RetR.unbase R1 r5)
      · have e : i = ds.length := by omega
        subst e
        rw [List.drop_length] at ev2
        simp only [forL, Option.some.injEq] at ev2
        subst ev2
        exact .inl ⟨hstop (Nat.le_refl _), k _ _ _ (R1.unbase R2)⟩
    have hb' : PSs X stb (fun D σ H => ∃ H0 F0, wpSs fr C ff X.K au H0 F0 sb D σ H) := ⟨fun pins s σ H D I ⟨H0, F0, h⟩ => (hb.t H0 F0).run pins s σ H D I h⟩
    refine (L2.ps_for (pos := pos) hp hc hi.t hg.t hb' hs).run pins s σ H D I ⟨_, env, u, ds, u1, R.at_ (fvI it), e1, fun J F1 H1 P fd fd2 => ?_⟩
    by_cases hk : iterOk it = true
    · exact key J _ H1 (by rw [if_pos hk]; exact R.keep P) (fd2 hk _)
    · exact key J F1 H1 (by rw [if_neg hk]; exact R.frz P) fd⟩
end
end Pl

/-! PSound10: defs and their calls (with the marks of repr known to be none). -/
namespace Pl
open PySem PyProof.Rows
open L2 (V Hp HO VK XK TE TT TA TS Cx PE PA PS PSs Inv SqL SqT Dp DpAll Vals RelV EP Gl Vis Ends Sp FnScope Env0 CE CR CX0 Room Fun Binds KBinds PK)

structure RoomG (k : Nat) (A : Around) : Prop where
  rm : Room k A
  gd : A.guards = some []
theorem RoomG.deeper {k : Nat} {A : Around} (r : RoomG (k + 1) A) (env : PySem.Env) : RoomG k (A.deeper env) := ⟨r.rm.deeper env, r.gd⟩
theorem RoomG.mono {j k : Nat} {A : Around} (r : RoomG k A) (h : j ≤ k) : RoomG j A := ⟨r.rm.mono h, r.gd⟩

section
variable {P : Program} {w : World} {K : PySem.W.Frag} {mg : Str → Option Value} {bas : Heap} {k : Nat} {f : Addr} {fd : FuncData} {ps : List Str} {sp : Sp}
structure FnG (P : Program) (w : World) (K : PySem.W.Frag) (mg : Str → Option Value) (bas : Heap) (k : Nat) (f : Addr) (fd : FuncData) (ps : List Str) (sp : Sp) : Prop where
  len : ∀ vs H Q E, sp vs H Q E → vs.length = ps.length
  go : ∀ (A : Around), RoomG k A → ∀ (outer : List PySem.Env) (s : Shared) (H : Hp), Env0 P w K mg bas A outer s H →
    ∀ (args : Args) (us : List Value) (vs : List V), BindsTo s fd args (ps.zip us) → Vals vs us →
    ∀ (Q : VK) (E : XK), sp vs H Q E → codeAny (model P w) A (.call (.ref f) args) (CR CX0 outer P w H s Q E) s

/-- a def keeps its promise if its body does -/
theorem fnG_of {x qual : Str} {st : Stmt} {N : List Str} (hf : Fun K x qual st f fd) (S : FnScope N ps (L2.defScope st)) (len : ∀ vs H Q E, sp vs H Q E → vs.length = ps.length)
    (body : ∀ (cdv : Value) (A : Around) (outer : List PySem.Env) (s : Shared) (H : Hp) (vs : List V) (Q : VK) (E : XK), RoomG k (A.deeper (envOfC qual (L2.defScope st) s.heap.objs.size f cdv)) → sp vs H Q E →
      ∃ t, PSs (L2.cxOf CX0 P w K mg bas N qual (L2.defScope st) f cdv A outer s H E).nox (L2.defBody st) t ∧ t { nx := fun _ H' => Q .non H', rt := Q } (L2.start N vs) H) :
    FnG P w K mg bas (k + 1) f fd ps sp := by
  obtain ⟨oc, od, kV, doc, pm, an, cdv, ct, osl, rfl, lk, hcd⟩ := hf.ex
  constructor
  · exact len
  intro A rg outer s H e0 args us vs hb rv Q E hsp
  have lenV := len _ _ _ _ hsp
  have inK : K.In s.heap := e0.mod.kin.keeps fun b o e => (e0.bs b o e).1
  have noL : s.heap.NoLimit := e0.mod.nolimit.keeps fun b o e => (e0.bs b o e).1
  refine codeAny_call_function rg.rm.depth (inK _ _ lk) rfl S.co S.gen rfl
    (PySem.W.codeRec_of inK hcd) (hb _ _ _ _ ?_)
  refine wpAny_newFunctionEnv_cells S.kind
    (fun ⟨n, v⟩ hy => (S.par n (List.of_mem_zip hy).1).elim .inl fun q => .inr ⟨q, PySem.W.cellsFrom_some _ _ _ (.inl q)⟩)
    fun env he s1 ic => ?_
  subst he
  refine ⟨noL.keeps ic.toInCall.keep, codeAny_func ?_⟩
  obtain ⟨t, ht, hq⟩ := body cdv A outer s H vs Q E (rg.deeper _) hsp
  have I0 := L2.inv_start (CX := CX0) (E := E) S rg.rm.hd e0 lenV rv ic
  refine wpAny_mono (ht.nox.run [] s1 _ H _ I0 hq) (fun fl s' hs => ?_) fun e s' hs => hs
  cases fl with
  | brk => obtain ⟨_, _, _, q⟩ := hs; exact q.elim
  | cont => obtain ⟨_, _, _, q⟩ := hs; exact q.elim
  | next => obtain ⟨σ', H', J, q⟩ := hs; exact ⟨V.non, H', J.os, J.bare, J.base, J.hok, rfl, q⟩
  | ret u => obtain ⟨v, σ', H', J, rv', q⟩ := hs; exact ⟨v, H', J.os, J.bare, J.base, J.hok, rv', q⟩
end

section
variable {X : Cx} {k : Nat} {f : Addr} {fd : FuncData} {ps ks : List Str} {sp : Sp} {x : Str} {p pos : Pos} {e : Expr} {es : List Expr} {kws : List Keyword} {t tk : TA} {g : List Value → List Value → List Value} {gV : List V → List V → List V} {E : XK}
theorem fnG_run {pins : List (Addr × Obj)} {σ : L2.St} {H : Hp} {s : Shared} {Q : VK} {us ws : List Value} {vs zs : List V} (F : FnG X.prog X.w X.K X.mg X.base k f fd ps sp) (rg : RoomG k X.A) (hb : KBinds X.K fd ps ks g gV)
    (I : Inv X pins σ H s) (r : Vals vs us) (rz : Vals zs ws) (h : sp (gV vs zs) H Q E) : wpAny (model X.prog X.w) X.A (call (.ref f) us (ks.zip ws)) (EP X pins σ Q) X.xe s := by
  have rb := hb.rel r rz
  have lenB : (g us ws).length = ps.length := rb.length.symm.trans (F.len _ _ _ _ h)
  refine wpAny_call (codeAny_mono (F.go X.A rg X.stack s H I.env0 ⟨us, ks.zip ws⟩ (g us ws) (gV vs zs) (hb.to s us ws I.kIn lenB) rb Q E h) fun r s' q => ?_)
  match r, q with
  | .ok (.ret u), q => exact I.after q
theorem pe_callG (F : FnG X.prog X.w X.K X.mg X.base k f fd ps sp) (rg : RoomG k X.A) (hg : Gl X x) (hm : X.mg x = some (.ref f)) (hk : PySem.W.keepIn X.K (.ref f) = true) (hb : Binds X.K fd ps [])
    (ha : PA X (e :: es) t) (hdb : (x == ("__debug__" : Str)) = false) (he : starEach (e :: es) X.env = (false, eval e X.env) :: starEach es X.env) (hpl : (backTo pos (starEach es X.env)).any (·.1) = false) :
    PE X (.Call (.Name x p) (e :: es) [] pos) (fun σ H Q => t σ H fun vs H1 => sp vs H1 Q E) := ⟨fun pins s σ H Q I h => by
  refine wpAny_Call_Name_kw (L2.ld_glob I hg hm ?_ hdb)
  refine PySem.W.callWith_K (h₀ := X.base) I.ok.mod.kin hk (L2.thn (ha.run pos pins s σ H _ I h) fun us s1 ⟨vs, H1, I1, r, q⟩ => ⟨I1.kIn, ?_⟩) he hpl
  exact fnG_run (ks := []) (g := fun us _ => us) (gV := fun vs _ => vs) (zs := []) (ws := []) F rg ⟨fun s us ws h1 h2 => by
    have h := hb s us h1 (by rw [List.append_nil]; exact h2)
    rw [List.append_nil] at h
    exact h, fun r _ => r⟩ I1 r .nil q⟩
theorem pe_callKG (F : FnG X.prog X.w X.K X.mg X.base k f fd ps sp) (rg : RoomG k X.A) (hg : Gl X x) (hm : X.mg x = some (.ref f)) (hk : PySem.W.keepIn X.K (.ref f) = true) (hb : KBinds X.K fd ps ks g gV)
    (ha : PA X (e :: es) t) (hkw : PK X kws tk) (hall : (backToKw pos (keywordEach kws X.env)).all (·.1.isSome) = true) (hks : (backToKw pos (keywordEach kws X.env)).filterMap (·.1) = ks)
    (hdb : (x == ("__debug__" : Str)) = false) (he : starEach (e :: es) X.env = (false, eval e X.env) :: starEach es X.env)
    (hpl : ((backTo pos (starEach (e :: es) X.env)).any (·.1) || (backToKw pos (keywordEach kws X.env)).any (·.1.isNone)) = false) :
    PE X (.Call (.Name x p) (e :: es) kws pos) (fun σ H Q => t σ H fun vs H1 => tk σ H1 fun zs H2 => sp (gV vs zs) H2 Q E) := ⟨fun pins s σ H Q I h => by
  refine wpAny_Call_Name_kw (L2.ld_glob I hg hm ?_ hdb)
  refine PySem.W.callWith_KW (h₀ := X.base) I.ok.mod.kin hk hall (L2.thn (ha.run pos pins s σ H _ I h) fun us s1 ⟨vs, H1, I1, r, q⟩ => ?_) hpl he
  refine L2.thn (hkw.run pos pins s1 σ H1 _ I1 q) fun ws s2 ⟨zs, H2, I2, rz, q2⟩ => ⟨I2.kIn, ?_⟩
  subst hks
  exact fnG_run F rg hb I2 r rz q2⟩
end

/-! ### the law's own call -/
theorem law_callG {P : Program} {w : World} {K : PySem.W.Frag} {mg mb : Str → Option Value} {k : Nat} {fa a : Addr} {fd : FuncData} {x : Str} {sp : Sp} {s₁ : Shared} {vs : List Value} {ns : List Int}
    (kIn : K.In s₁.heap) (nG : s₁.heap.Ns mainGlobals mg) (nB : s₁.heap.Ns builtinsNs mb) (nBB : ∀ x : Str, x ≠ "__name__" → mb x = bootBuiltins x) (lim : s₁.heap.NoLimit) (gens : s₁.gens = #[])
    (isL : s₁.heap.get? a = some { cls := .type "list", data := .seq vs.toArray }) (isI : IntsAre vs ns) (short : ns.length ≤ sizeLine) (room : Room k callerA)
    (F : ∀ bas : Heap, K.In bas → bas.Ns mainGlobals mg → FnG P w K mg bas k fa fd [x] sp) (bind : ∀ (s : Shared) (u : Value), BindsTo s fd ⟨[u], []⟩ [(x, u)])
    (promise : ∀ H : Hp, L2.Only H → SqL K H a (ns.map V.int) → sp [.ref a] H (fun v _ => v = .bl true) L2.E0) :
    codeAny (model P w) callerA (.call (.ref fa) ⟨[.ref a], []⟩) (fun r s' => r = .ok (.ret (.bool true)) ∧ OldK s₁.heap s'.heap ∧ s'.os = s₁.os ∧ AllBare s'.gens) s₁ := by
  have vals := L2.vals_ints isI
  -- H: what is tracked; nothing, or the script as an object of its own
  have main : ∀ H : Hp, L2.Only H → SqL K H a (ns.map V.int) → L2.HOk P w H s₁.heap → (∀ b, b ≠ a → H b = none) → (∀ o, K.lookup a = some o → H a = none) →
      codeAny (model P w) callerA (.call (.ref fa) ⟨[.ref a], []⟩) (fun r s' => r = .ok (.ret (.bool true)) ∧ OldK s₁.heap s'.heap ∧ s'.os = s₁.os ∧ AllBare s'.gens) s₁ := fun H only sq hok away own => by
    have see : ∀ {b : Addr} {o : Obj}, s₁.heap.get? b = some o → H b = none → (L2.hidT s₁.heap H).get? b = some o := fun e n => L2.hidT_get e n
    have ns' : ∀ {b : Addr} {m : Str → Option Value}, s₁.heap.Ns b m → (L2.hidT s₁.heap H).Ns b m := fun {b m} ⟨o, es, ep, e, d, r⟩ => by
      refine ⟨o, es, ep, see e (away b fun q => ?_), d, r⟩
      subst q
      rw [isL] at e
      cases e
      cases (show Data.seq vs.toArray _ = Data.dict es ep from d)
    have kIn' : K.In (L2.hidT s₁.heap H) := fun b o e => see (kIn b o e) (by
      by_cases q : b = a
      · subst q; exact own o e
      · exact away b q)
    have mod : L2.Mod K mg (L2.hidT s₁.heap H) := by
      obtain ⟨mc, l1, l2⟩ := lim
      exact ⟨kIn', ns' nG, ⟨mb, ns' nB, nBB⟩, ⟨mc, ns' l1, l2⟩⟩
    have env0 : Env0 P w K mg (L2.hidT s₁.heap H) callerA [] s₁ H := {
      frames := rfl
      mod := mod
      bs := fun b o e => L2.of_hidT e
      bsz := Nat.le_of_eq (L2.hidT_size _ _)
      funs := trivial
      frf := fun b hb => absurd (show b ∈ ([] : List Addr) from hb) (by simp)
      hok := hok
      bare := .of_eq gens }
    have run := (F _ kIn' (ns' nG)).go callerA ⟨room, rfl⟩ [] s₁ H env0 ⟨[.ref a], []⟩ [.ref a] [.ref a] (bind s₁ (.ref a)) (.cons rfl .nil) _ _ (promise H only sq)
    refine codeAny_mono run fun r s' h => ?_
    match r, h with
    | .ok (.ret u), ⟨v, H', os, bare, un, hok', rel, (q : v = .bl true)⟩ =>
      subst q
      obtain rfl : u = Value.bool true := rel
      refine ⟨rfl, OldK.of_keep fun b o e => ?_, os, bare⟩
      have no : ∀ {b : Addr}, b ∈ L2.frs [] → False := fun {b} z => by cases z
      rcases only b with z | ⟨ob, xs, z⟩
      · exact un.keep b o e z (fun m => no m) (by simp)
      · obtain ⟨e1, _⟩ := hok b _ z
        obtain ⟨e2, _⟩ := hok' b _ (un.frzs b ob _ z)
        rw [e] at e1
        cases e1
        exact e2
  have lenI := isI.length
  cases inMod : K.lookup a with
  | some o =>
    have e := kIn a o inMod
    rw [isL] at e
    cases e
    refine main (fun _ => none) (fun _ => .inl rfl) (.inr ⟨_, vs.toArray, _, inMod, rfl, rfl, rfl, ?_, ?_⟩) (fun b u z => nomatch (show (none : Option HO) = some u from z)) (fun _ _ => rfl) fun _ _ => rfl
    · rw [List.size_toArray, lenI]; exact short
    · simpa using vals
  | none =>
    let H : Hp := fun b => if b = a then some (.frz { cls := .type "list", data := .seq vs.toArray } (.lst (ns.map V.int))) else none
    have hs : H a = some (.frz { cls := .type "list", data := .seq vs.toArray } (.lst (ns.map V.int))) := if_pos rfl
    have hn : ∀ b, b ≠ a → H b = none := fun b q => if_neg q
    refine main H (fun b => ?_) (.inl (.inr ⟨_, hs⟩)) (fun b u z => ?_) hn fun o q => by rw [inMod] at q; cases q
    · by_cases q : b = a
      · exact .inr ⟨_, _, by rw [q]; exact hs⟩
      · exact .inl (hn b q)
    · by_cases q : b = a
      · subst q
        rw [hs] at z
        cases z
        exact ⟨isL, by rw [List.length_map]; exact short, vs, _, vals, isL⟩
      · rw [hn b q] at z; cases z
theorem walk_ofG {l : PySem.W.OpenLaw} {n k : Nat} {q : Program} {loose : List Str} {XP : (Str → Option Value) → Heap → Prop} {YP : World → Heap → Prop} {d : DefRec} {K : Params → PySem.W.Frag} {sp : PySem.W.Frag → Sp} {x : Str}
    (most : l.most = some n) (few : n ≤ sizeLine) (plain : d.params.defaults = []) (room : Room k callerA) (hY : ∀ (w : World) (h : Heap), YP w h → (K w.params).In h)
    (F : ∀ (w : World) (mg : Str → Option Value) (fa : Addr) (h : Heap), (K w.params).In h → h.Ns mainGlobals mg → mg d.name = some (.ref fa) →
      ∃ fd : FuncData, (∀ (s : Shared) (u : Value), BindsTo s fd ⟨[u], []⟩ [(x, u)]) ∧
        ∀ bas : Heap, (K w.params).In bas → bas.Ns mainGlobals mg → FnG l.prog w (K w.params) mg bas k fa fd [x] (sp (K w.params)))
    (promise : ∀ (K : PySem.W.Frag) (H : Hp) (a : Addr) (ns : List Int), ns.length ≤ n → SqL K H a (ns.map V.int) → sp K [.ref a] H (fun v _ => v = .bl true) L2.E0) :
    PySem.W.WalkO q loose XP YP l.row.toRowW d [] (fun f vs => PySem.call f vs) := by
  refine Att.attach_call most plain fun w s₀ s₁ mg mb fa o pm cd doc a vs ns G Y ho hd hcd hmg hobj hints hlen hg => ?_
  have kIn := hY w _ Y
  obtain ⟨fd, hb, hF⟩ := F w mg fa _ kIn G.T.g hmg
  exact law_callG kIn G.T.g G.T.b G.T.builtins G.T.nolimit hg hobj hints (Nat.le_trans hlen few) room hF hb fun H _ sq => promise _ H a ns hlen sq
end Pl

/-! PSound11: what a def of PLang promises; calls. -/
namespace Pl
open PySem PyProof.Rows
open L2 (V Hp HO VK XK TE TT TA TS Cx PE PA PS PSs Inv SqL SqT Dp DpAll Vals RelV EP Gl Vis Ends Sp FnScope Env0 CE CR CX0 Room Fun Binds KBinds PK)

def auV : Option Addr → List V | none => [] | some a => [.ref a]
def spF (K : PySem.W.Frag) (p : PFun) (c : List D → U → Option (D × U)) : Sp := fun vs H Q _ => ∃ au ws ds F u d u', au.isSome = p.urn ∧ vs = auV au ++ ws ∧ Sub F H ∧ UrnR au u F H ∧ (au = none → u = []) ∧ DpAll K F ws ds ∧ ds.length + (if p.urn then 1 else 0) = p.np ∧
  c ds u = some (d, u') ∧ ∀ v F' H', Post au F H F' H' u' → Rr p.fresh K H F' H' v d → Q v H'

section
variable {K : PySem.W.Frag} {F H : Hp}
theorem rep_own {m i : Nat} {ds : List D} : ¬ (List.replicate m Slot.no)[i]? = some (Slot.own ds) := fun h => by
  rw [List.getElem?_replicate] at h
  split at h <;> cases h
theorem rep_imm {m i : Nat} {d : D} : ¬ (List.replicate m Slot.no)[i]? = some (Slot.imm d) := fun h => by
  rw [List.getElem?_replicate] at h
  split at h <;> cases h
theorem argsOwn : ∀ {ds es : List D} {m i : Nat}, ¬ (ds.map Slot.imm ++ List.replicate m Slot.no)[i]? = some (Slot.own es)
  | [], _, _, _, h => rep_own h
  | _ :: _, _, _, 0, h => by simp at h
  | _ :: _, _, m, i + 1, h => argsOwn (m := m) (i := i) (by simpa using h)
theorem argsImm : ∀ {ds : List D} {ws : List V} {m m' i : Nat} {d : D}, DpAll K F ws ds → (ds.map Slot.imm ++ List.replicate m Slot.no)[i]? = some (Slot.imm d) → ∃ v, (ws.map some ++ List.replicate m' none)[i]? = some (some v) ∧ Dp K F v d
  | _, _, _, _, _, _, .nil, h => (rep_imm h).elim
  | _, _, _, _, 0, _, .cons a t, h => by
    simp at h
    subst h
    exact ⟨_, by simp, a⟩
  | _, _, m, m', i + 1, d, .cons a t, h => by
    obtain ⟨v, h1, h2⟩ := argsImm (m := m) (m' := m') (i := i) t (by simpa using h)
    exact ⟨v, by simpa using h1, h2⟩
theorem start_ok {p : PFun} {N : List Str} {au : Option Addr} {ws : List V} {ds : List D} {u : U} (hau : au.isSome = p.urn) (s : Sub F H) (r : UrnR au u F H) (a : DpAll K F ws ds) (hn : ds.length + (if p.urn then 1 else 0) = p.np) (hN : N.length = p.ns) :
    StR K au H F (L2.start N (auV au ++ ws)) H F (mkEnv p ds) u := by
  have la := dpAll_len a
  have lauV : (auV au).length = if p.urn then 1 else 0 := by
    rw [← hau]
    cases au <;> rfl
  unfold L2.start mkEnv
  rw [List.length_append, la, lauV, hN, ← hn]
  refine ⟨s, r, fun b hb => ?_, ?_, Ext.refl _ _ _, r.hh, fun i d hi => ?_, fun i es hi => ?_, fun i j es es' q hi _ _ _ => ?_⟩
  · subst hb; simp [auV]
  · rw [List.length_append, List.length_append, List.length_append, List.length_map, List.length_map, List.length_replicate, List.length_replicate, List.length_append, la, lauV]
    cases p.urn <;> simp
    omega
  · cases au with
    | none =>
      rw [show p.urn = false from hau.symm] at hi ⊢
      exact argsImm a (by simpa using hi)
    | some b =>
      rw [show p.urn = true from hau.symm] at hi ⊢
      cases i with
      | zero => simp at hi
      | succ i =>
        obtain ⟨v, h1, h2⟩ := argsImm (m' := p.ns - (1 + ds.length)) a (i := i) (by simpa using hi)
        refine ⟨v, ?_, h2⟩
        simp only [auV, List.singleton_append, List.map_cons, List.cons_append, List.getElem?_cons_succ, if_true]
        exact h1
  · cases au with
    | none =>
      rw [show p.urn = false from hau.symm] at hi
      exact (argsOwn (by simpa using hi)).elim
    | some b =>
      rw [show p.urn = true from hau.symm] at hi
      cases i with
      | zero => simp at hi
      | succ i => exact (argsOwn (by simpa using hi)).elim
  · cases au with
    | none =>
      rw [show p.urn = false from hau.symm] at hi
      exact (argsOwn (by simpa using hi)).elim
    | some b =>
      rw [show p.urn = true from hau.symm] at hi
      cases i with
      | zero => simp at hi
      | succ i => exact (argsOwn (by simpa using hi)).elim
end

theorem fnG_body {P : Program} {w : World} {K : PySem.W.Frag} {mg : Str → Option Value} {bas : Heap} {k : Nat} {f : Addr} {fd : FuncData} {ps : List Str} {x qual : Str} {st : Stmt} {N : List Str} {C : Ctx} {ff : String → Bool} {p : PFun}
    (hf : Fun K x qual st f fd) (S : FnScope N ps (L2.defScope st)) (hps : ps.length = p.np) (hN : N.length = p.ns)
    (sim : ∀ (cdv : Value) (A : Around) (outer : List PySem.Env) (s : Shared) (H : Hp) (E : XK) (au : Option Addr), au.isSome = p.urn → RoomG k (A.deeper (envOfC qual (L2.defScope st) s.heap.objs.size f cdv)) →
      SimSs (L2.cxOf CX0 P w K mg bas N qual (L2.defScope st) f cdv A outer s H E).nox C ff au p.fresh (L2.defBody st) p.body) :
    FnG P w K mg bas (k + 1) f fd ps (spF K p (runF C ff p)) := by
  refine fnG_of hf S (fun vs H Q E h => ?_) fun cdv A outer s H vs Q E rg h => ?_
  · obtain ⟨au, ws, ds, F, u, d, u', h1, rfl, _, _, _, h6, h7, _⟩ := h
    rw [hps, ← h7, List.length_append, dpAll_len h6, ← h1]
    cases au <;> simp [auV] <;> omega
  · obtain ⟨au, ws, ds, F, u, d, u', h1, rfl, h3, h4, h5, h6, h7, h8, h9⟩ := h
    refine ⟨_, (sim cdv A outer s H E au h1 rg).t H F, F, mkEnv p ds, u, ?_⟩
    unfold runF at h8
    rw [if_pos h7] at h8
    split at h8 <;> first | contradiction | skip
    · rename_i d1 u1 e
      cases h8
      exact ⟨_, start_ok h1 h3 h4 h6 h7 hN, e, fun v F' H' r => h9 v F' H' r.1 r.2⟩
    · rename_i env1 u1 e
      split at h8 <;> first | contradiction | skip
      rename_i hfr
      cases h8
      refine ⟨_, start_ok h1 h3 h4 h6 h7 hN, e, fun σ' H' F' R' => h9 _ F' H' ⟨R'.ext, R'.sub, R'.urn⟩ ?_⟩
      have hf' : p.fresh = false := by simpa using hfr
      rw [hf']
      exact Dp.non

section
variable {X : Cx} {C : Ctx} {ff : String → Bool} {au : Option Addr} {e a : Expr} {es : List Expr} {pa : E} {ps : Es} {pos pos2 : Pos} {fn : String} {p : PFun} {c : List D → U → Option (D × U)} {x : Str}

def esLen : Es → Nat | .nil => 0 | .cons _ es => esLen es + 1
theorem evalEs_len : ∀ {ps : Es} {env : Env} {u : U} {ds : List D} {u' : U}, evalEs C ps env u = some (ds, u') → ds.length = esLen ps
  | .nil, _, _, _, _, h => by simp only [evalEs, Option.some.injEq, Prod.mk.injEq] at h; rw [← h.1]; rfl
  | .cons e es, env, u, ds, u', h => by
    simp only [evalEs] at h
    obtain ⟨⟨d, u1⟩, _, h⟩ := Option.bind_eq_some_iff.mp h
    obtain ⟨⟨r, u2⟩, h2, h⟩ := Option.bind_eq_some_iff.mp h
    cases h
    exact congrArg Nat.succ (evalEs_len h2)
theorem pick_len {ds : List D} : ∀ {is : List Nat} {rs : List D}, pick ds is = some rs → rs.length = is.length
  | [], _, h => by simp only [pick, Option.some.injEq] at h; rw [← h]; rfl
  | i :: is, _, h => by
    simp only [pick] at h
    obtain ⟨d, _, h⟩ := Option.bind_eq_some_iff.mp h
    obtain ⟨r, h2, h⟩ := Option.bind_eq_some_iff.mp h
    cases h
    exact congrArg Nat.succ (pick_len h2)
theorem pick_range (ds : List D) : ∀ (m i : Nat), i + m = ds.length → pick ds (List.range' i m) = some (ds.drop i)
  | 0, i, h => by rw [List.drop_eq_nil_of_le (by omega)]; rfl
  | m + 1, i, h => by
    have hl : i < ds.length := by omega
    show (do let d ← ds[i]?; let r ← pick ds (List.range' (i + 1) m); some (d :: r)) = _
    rw [pick_range ds m (i + 1) (by omega), List.getElem?_eq_getElem hl, List.drop_eq_getElem_cons hl]
    rfl
/-- a def called with values; t: how the arguments come -/
theorem sim_callV {t : TA} {perm : List Nat} (hC : ∀ ds, C.fn fn ds = (c ds []).map (·.1)) (hu : p.urn = false) (hff : ff fn = p.fresh) (hnp : perm.length = p.np)
    (ht : ∀ σ H (Q : List V → Hp → Prop), (∃ F env u ds u' ds', At X.K au σ H F env u (fvEs ps) ∧ evalEs C ps env u = some (ds, u') ∧ pick ds perm = some ds' ∧ ∀ vs F' H', Post au F H F' H' u' → DpAll X.K F' vs ds' → Q vs H') → t σ H Q)
    (h : PE X e (fun σ H Q => t σ H fun vs H1 => spF X.K p c vs H1 Q L2.E0)) : Sim X C ff au e (.call fn ps perm) := ⟨h.imp fun σ H Q ⟨F, env, u, d, u', A, ev, k⟩ => by
  simp only [evalE] at ev
  obtain ⟨⟨ds, u1⟩, e1, ev⟩ := Option.bind_eq_some_iff.mp ev
  obtain ⟨ds', e2, ev⟩ := Option.bind_eq_some_iff.mp ev
  obtain ⟨d1, e3, ev⟩ := Option.bind_eq_some_iff.mp ev
  cases ev
  rw [hC, Option.map_eq_some_iff] at e3
  obtain ⟨⟨d2, u2⟩, e3, rfl⟩ := e3
  refine ht _ _ _ ⟨F, env, u, ds, _, ds', A, e1, e2, fun vs F1 H1 P1 r1 => ?_⟩
  have hlen : ds'.length = p.np := by
    rw [← hnp]
    exact pick_len e2
  refine ⟨none, vs, ds', F1, [], d2, u2, hu.symm, rfl, P1.sub, UrnR.no, fun _ => rfl, r1, by rw [hu]; exact hlen, e3, fun v F2 H2 P2 r2 => ?_⟩
  have P : Post au F1 H1 F2 H2 u1 := Post.of P1.urn P2.ext P2.sub
  refine k v F2 H2 (P1.trans P) ?_
  show Rr (ff fn) X.K H F2 H2 v d2
  rw [hff]
  exact r2.back fun q hq => P1.grow hq⟩
theorem sim_ucall {t : TE} (hC : ∀ ds u, C.ufn fn ds u = c ds u) (hau : au.isSome = true) (hu : p.urn = true) (hff : ff fn = p.fresh) (hnp : esLen ps + 1 = p.np)
    (ht : ∀ σ H Q, (∃ a, au = some a ∧ σ[0]? = some (some (V.ref a)) ∧ wpEs X.K C au ps σ H fun vs H1 => spF X.K p c (.ref a :: vs) H1 Q L2.E0) → t σ H Q)
    (h : PE X e t) : Sim X C ff au e (.ucall fn ps) := ⟨h.imp fun σ H Q ⟨F, env, u, d, u', A, ev, k⟩ => by
  simp only [evalE] at ev
  obtain ⟨⟨ds, u1⟩, e1, ev⟩ := Option.bind_eq_some_iff.mp ev
  rw [hC] at ev
  obtain ⟨a, ha⟩ := Option.isSome_iff_exists.mp hau
  refine ht _ _ _ ⟨a, ha, A.s0 a ha, F, env, u, ds, _, A, e1, fun vs F1 H1 P1 r1 => ?_⟩
  refine ⟨au, vs, ds, F1, u1, d, u', hau.trans hu.symm, by rw [ha]; rfl, P1.sub, P1.urn, (fun z => by rw [ha] at z; cases z), r1, ?_, ev, fun v F2 H2 P2 r2 => ?_⟩
  · rw [hu, evalEs_len e1]; exact hnp
  refine k v F2 H2 (P1.trans P2) ?_
  show Rr (ff fn) X.K H F2 H2 v d
  rw [hff]
  exact r2.back fun q hq => P1.grow hq⟩
theorem sim_ncall {t : TE} (hC : ∀ ds u, C.ufn fn ds u = c ds u) (hu : p.urn = true) (hff : ff fn = p.fresh) (hnp : esLen ps + 1 = p.np) (hk : fk ff pa = true)
    (ht : ∀ σ H Q, wpE true X.K C au pa σ H (fun x H1 => wpEs X.K C au ps σ H1 fun vs H2 => spF X.K p c (x :: vs) H2 Q L2.E0) → t σ H Q)
    (h : PE X e t) : Sim X C ff au e (.ncall fn pa ps) := ⟨h.imp fun σ H Q ⟨F, env, u, d, u', A, ev, k⟩ => by
  simp only [evalE] at ev
  obtain ⟨⟨da, u1⟩, e1, ev⟩ := Option.bind_eq_some_iff.mp ev
  obtain ⟨⟨ds, u2⟩, e2, ev⟩ := Option.bind_eq_some_iff.mp ev
  cases da <;> simp only at ev <;> first | contradiction | skip
  rename_i xs
  obtain ⟨ns, e3, ev⟩ := Option.bind_eq_some_iff.mp ev
  obtain ⟨⟨d2, u3⟩, e4, ev⟩ := Option.bind_eq_some_iff.mp ev
  cases ev
  rw [hC] at e4
  refine ht _ _ _ ⟨F, env, u, _, u1, A.l, e1, fun v F1 H1 P1 r1 => ?_⟩
  obtain ⟨q, vs, rfl, q1, q2, q3, q4⟩ := r1
  have A1 := A.step P1
  refine ⟨F1, env, u1, ds, _, A1.r, e2, fun ws F2 H2 P2 r2 => ?_⟩
  have hqa : some q ≠ au := fun z => A.urn.hh q z.symm q1
  obtain ⟨k1, k2⟩ := P2.ext q hqa (by rw [q3]; exact fun z => nomatch z)
  refine ⟨some q, ws, ds, F2, ns, d2, u3, hu.symm, rfl, P2.sub, fun b hb => ?_, (fun z => nomatch z), r2, ?_, e4, fun v F3 H3 P3 r3 => ?_⟩
  · cases hb
    refine ⟨?_, k2.trans q2⟩
    rw [k1, q3, dpAll_ints q4 e3]
  · rw [hu, evalEs_len e2]; exact hnp
  have P12 := P1.trans P2
  refine k v F3 H3 ⟨fun b hb hn => ?_, P3.sub, fun b hb => ?_⟩ ?_
  · obtain ⟨g1, g2⟩ := P12.ext b hb hn
    obtain ⟨g3, g4⟩ := P3.ext b (fun z => hn (by cases z; exact q1)) (by rw [g1]; exact hn)
    exact ⟨g3.trans g1, g4.trans g2⟩
  · obtain ⟨g1, g2⟩ := P12.urn b hb
    obtain ⟨g3, g4⟩ := P3.ext b (fun z => hqa (by rw [hb]; exact z.symm)) (by rw [g1]; exact fun z => nomatch z)
    exact ⟨g3.trans g1, g4.trans g2⟩
  · show Rr (ff fn) X.K H F3 H3 v d2
    rw [hff]
    exact r3.back fun q hq => P12.grow hq⟩
/-- an expression that PLang has no value for -/
theorem sim_never (h : ∀ env u, evalE C pa env u = none) (he : PE X e (fun _ _ _ => False)) : Sim X C ff au e pa := ⟨he.imp fun σ H Q ⟨F, env, u, d, u', A, ev, k⟩ => by rw [h] at ev; cases ev⟩
theorem pe_never {X : Cx} {e : Expr} : PE X e (fun _ _ _ => False) := ⟨fun _ _ _ _ _ _ h => h.elim⟩
end
end Pl

/-! PSound12: the checker (a def's text against its term): what it is, first lemmas. -/
namespace Pl
open PySem PyProof.Rows
open L2 (V Hp HO VK XK TE TT TA TS TG TGs Cx PE PT PW PA PS PSs PG PGs PI Inv SqL SqT Dp DpAll Vals RelV EP Gl Vis Ends Sp FnScope Env0 CE CR CX0 Room Fun Binds KBinds PK)

/-- a def of the text -/
structure Entry where
  name : String
  qual : Str
  st : Stmt
  N : List Str
  ps : List Str
  fn : PFun
  kws : List (Nat × List Str × List Nat)
/-- the checker's context -/
structure CK where
  N : List Str
  sc : Scope
  cells : Option Scope
  urn : Bool
  bl : List Str
  gcd : Bool
  T : String → Option Entry
  G : Prog

def CK.kindB (c : CK) (x : Str) (k : NameKind) : Bool := decide (c.sc.names.lookup x = some k)
def CK.vis (c : CK) (x : Str) : Bool := c.kindB x .local || c.kindB x .cell || c.kindB x .free
def CK.loc (c : CK) (x : Str) : Bool := c.kindB x .local || c.kindB x .cell
def CK.gl (c : CK) (x : Str) : Bool := c.kindB x .globalImplicit && !(x == ("__debug__" : Str))
def CK.fnB (c : CK) (x : Str) : Bool := c.kindB x .local || (match c.cells with | none => true | some s => decide (s.names.lookup x = some .cell))
def CK.at_ (c : CK) (x : Str) (i : Nat) : Bool := decide (c.N[i]? = some x)
def CK.var (c : CK) (x : Str) (i : Nat) : Bool := c.at_ x i && c.vis x && !(x == ("__debug__" : Str)) && !(x == ("__classdict__" : Str))
def CK.tgt (c : CK) (x : Str) (i : Nat) : Bool := c.at_ x i && c.loc x && c.fnB x && (!c.urn || !(i == 0))
def CK.bltn (c : CK) (x : Str) : Bool := c.gl x && c.bl.contains x && !(x == ("__name__" : Str))
def CK.blk (c : CK) (s : Scope) : CK := { c with
  sc := { s with names := s.names.map fun (n, k) => if (k == .free && c.sc.kind == .function && c.sc.names.lookup n == some .cell) then (n, .cell) else (n, k) }
  cells := some s }

def notStar : Expr → Bool | .Starred _ _ => false | _ => true
def notSlice : Expr → Bool | .Slice _ _ _ _ => false | _ => true
def notComp : Expr → Bool | .ListComp .. | .SetComp .. | .DictComp .. => false | _ => true
def notSet : Expr → Bool | .Set .. => false | _ => true
def notTup : Expr → Bool | .Tuple .. => false | _ => true
def starsB (es : List Expr) : Bool := es.all notStar
def kwsB (ks : List Keyword) : Bool := ks.all fun k => k.1.isSome
def kwNames (ks : List Keyword) : List Str := ks.filterMap (·.1)

section
variable {env : PySem.Env}
theorem star_cons {a : Expr} {es : List Expr} (h : notStar a = true) : starEach (a :: es) env = (false, eval a env) :: starEach es env := by
  cases a <;> first | rfl | (simp [notStar] at h)
theorem star_any {pos : Pos} : ∀ {es : List Expr}, starsB es = true → (backTo pos (starEach es env)).any (·.1) = false
  | [], _ => rfl
  | a :: es, h => by
    simp only [starsB, List.all_cons, Bool.and_eq_true] at h
    rw [star_cons h.1]
    show (false || (backTo pos (starEach es env)).any (·.1)) = false
    rw [star_any (es := es) h.2]
    rfl
theorem kw_all {pos : Pos} : ∀ {ks : List Keyword}, kwsB ks = true → (backToKw pos (keywordEach ks env)).all (·.1.isSome) = true
  | [], _ => rfl
  | ⟨n, e, p⟩ :: ks, h => by
    simp only [kwsB, List.all_cons, Bool.and_eq_true] at h
    show (n.isSome && (backToKw pos (keywordEach ks env)).all (·.1.isSome)) = true
    rw [kw_all (ks := ks) h.2, h.1]
    rfl
theorem kw_any {pos : Pos} : ∀ {ks : List Keyword}, kwsB ks = true → (backToKw pos (keywordEach ks env)).any (·.1.isNone) = false
  | [], _ => rfl
  | ⟨n, e, p⟩ :: ks, h => by
    simp only [kwsB, List.all_cons, Bool.and_eq_true] at h
    show (n.isNone || (backToKw pos (keywordEach ks env)).any (·.1.isNone)) = false
    rw [kw_any (ks := ks) h.2]
    cases n with
    | none => cases h.1
    | some _ => rfl
theorem kw_names {pos : Pos} : ∀ {ks : List Keyword}, (backToKw pos (keywordEach ks env)).filterMap (·.1) = kwNames ks
  | [] => rfl
  | ⟨n, e, p⟩ :: ks => by
    cases n with
    | none => exact kw_names (ks := ks)
    | some n => exact congrArg (n :: ·) (kw_names (ks := ks))
theorem plainIx_of {b : Expr} (h : notSlice b = true) : L2.PlainIx b := fun o i => by
  cases b <;> first | rfl | (simp [notSlice] at h)
theorem swaps_no {e : Expr} {t : Option Expr} {l : Nat} (h : notComp e = true) : swapsWith e t l env = pure false := by
  cases e <;> first | rfl | (simp [notComp] at h)
theorem swapsSole_no {t e : Expr} {l : Nat} (h : notComp e = true) : swapsWithSole [t] e l env = pure false := swaps_no h
theorem folded_no {e : Expr} {x : Value} (h : notSet e = true) : foldedSetIterable e env x = pure x := by
  cases e <;> first | rfl | (simp [notSet] at h)
theorem isTrue_ix {a b : Expr} {pos : Pos} (whole : Sem Value) : isTrue (.Subscript a b pos) env whole = (do let v ← whole; standAt pos; holding [v] (truthy v)) := rfl
end

section
variable {X : Cx}
/-- the rule of an if-expression as a test -/
theorem pt_ite {c a b : Expr} {pos : Pos} {tc ta tb t : TT} (hc : PT X c tc) (ha : PT X a ta) (hb : PT X b tb) (h : ∀ σ H Q, t σ H Q → tc σ H fun k H1 => if k = true then ta σ H1 Q else tb σ H1 Q) : PT X (.IfExp c a b pos) t := ⟨fun pins s σ H Q I hq => by
  refine isTrue_IfExp (L2.thn (hc.run pins s σ H _ I (h σ H Q hq)) fun k s1 ⟨H1, I1, q⟩ => ?_)
  cases k with
  | true => exact ha.run pins s1 σ H1 Q I1 q
  | false => exact hb.run pins s1 σ H1 Q I1 q⟩
theorem pt_never {e : Expr} : PT X e (fun _ _ _ => False) := ⟨fun _ _ _ _ _ _ h => h.elim⟩
theorem pw_never {e : Expr} : PW X e (fun _ _ _ => False) := ⟨fun _ _ _ _ _ _ _ h => h.elim⟩
end
end Pl

/-! PSound13: the checker. -/
namespace Pl
open PySem PyProof.Rows

def litB (k : Const) : Bool := match k with | .none => true | .bool _ => true | .int _ => true | .str _ => true | _ => false
def neverB (a : E) : Bool := match a with | .lit .none => true | _ => false
def namesB (c : CK) : List Nat → List Expr → Bool
  | [], [] => true
  | i :: is, .Name x _ :: es => c.tgt x i && namesB c is es
  | _, _ => false
def chkG (c : CK) : Tg → Expr → Bool
  | .one i, .Name x _ => c.tgt x i
  | .many is, .Tuple es _ _ => namesB c is es
  | _, _ => false
def ownL (c : CK) (own : List Nat) : List (Str × Nat) := own.map fun i => (c.N.getD i ("" : Str), i)
def ownB (c : CK) (t : Tg) (own : List Nat) : Bool := (!c.urn || (!own.contains 0 && !(tgIx t).contains 0)) && (tgIx t).all fun i => own.contains i
def isTy (b : BI) : Option Str := match b with | .isInt => some "int" | .isBool => some "bool" | .isTuple => some "tuple" | .isList => some "list" | .isStr => some "str" | _ => none
def biName (b : BI) : Option Str := match b with
  | .len => some "len" | .abs => some "abs" | .int => some "int" | .tuple => some "tuple" | .list => some "list" | .all => some "all" | .any => some "any" | .sum => some "sum"
  | .max2 => some "max" | .min2 => some "min" | .divmod => some "divmod" | .repr => some "repr" | .sorted => some "sorted" | .max1 => some "max" | .min1 => some "min" | _ => none

mutual
def chkE : CK → E → Expr → Bool
  | c, .var i, e => match e with | .Name x _ => c.var x i | _ => false
  | c, .lit k, e => match e with | .Constant k' _ _ => litB k && decide (k' = k) | _ => false
  | c, .glob g, e => match e with | .Name x _ => c.gl x && decide (x = Str.ofString g) | _ => false
  | c, .neg a, e => match e with | .UnaryOp .USub o _ => chkE c a o | _ => false
  | c, .not a, e => match e with | .UnaryOp .Not o _ => chkE c a o | _ => false
  | c, .bin o a b, e => match e with | .BinOp l op r _ => decide (op = toOp o) && chkE c a l && chkE c b r | _ => false
  | c, .cmp o a b, e => match e with | .Compare l [op] [r] _ => decide (op = toCmp o) && chkE c a l && chkE c b r && !behindInMarks (toCmp o) r | _ => false
  | c, .chain o1 o2 a b d, e => match e with
    | .Compare l [p1, p2] [m, r] _ => decide (p1 = toCmp o1) && decide (p2 = toCmp o2) && chkE c a l && chkE c b m && chkE c d r && !lastMarks [toCmp o1, toCmp o2] [m, r]
    | _ => false
  | c, .and a b, e => match e with
    | .BoolOp .And (x :: es) pos => chkE c a x && (match es with
      | [] => false
      | [y] => chkE c b y && !fk c.G.ff b
      | y :: z :: r => chkE c b (.BoolOp .And (y :: z :: r) pos))
    | _ => false
  | c, .or a b, e => match e with
    | .BoolOp .Or (x :: es) pos => chkE c a x && (match es with
      | [] => false
      | [y] => chkE c b y && !fk c.G.ff b
      | y :: z :: r => chkE c b (.BoolOp .Or (y :: z :: r) pos))
    | _ => false
  | c, .ite t a b, e => match e with | .IfExp t' a' b' _ => chkE c t t' && chkE c a a' && chkE c b b' | _ => false
  | c, .tup es, e => match e with | .Tuple xs _ _ => starsB xs && chkEs c es xs | _ => false
  | c, .trng a b, e => match e with
    | .Call (.Name y _) [.Call (.Name x _) [a', b'] [] _] [] _ => decide (y = ("tuple" : Str)) && c.bltn y && decide (x = ("range" : Str)) && c.bltn x && notStar a' && notStar b' && chkE c a a' && chkE c b b'
    | _ => false
  | c, .dict0, e => match e with | .Dict [] [] _ => true | _ => false
  | c, .lst es, e => match e with | .List xs _ => starsB xs && chkEs c es xs | _ => false
  | c, .rep es n, e => match e with | .BinOp (.List xs _) .Mult r _ => starsB xs && chkEs c es xs && chkE c n r | _ => false
  | c, .idx a i, e => match e with | .Subscript v s _ => chkE c a v && chkE c i s && notSlice s | _ => false
  | c, .sli a lo hi, e => match e with | .Subscript v (.Slice l h none _) _ => chkE c a v && chkEo c lo l && chkEo c hi h | _ => false
  | c, .rev a, e => neverB a || (match e with | .Subscript v (.Slice none none (some (.UnaryOp .USub (.Constant (.int 1) _ _) _)) _) _ => chkE c a v | _ => false)
  | c, .rvt a, e => match e with | .Subscript v (.Slice none (some (.Constant (.int 0) _ _)) (some (.UnaryOp .USub (.Constant (.int 1) _ _) _)) _) _ => chkE c a v | _ => false
  | c, .uidx k, e => match e with | .Subscript (.Name x _) s _ => c.urn && c.var x 0 && chkE c k s && notSlice s | _ => false
  | c, .call f es perm, e => match e with
    | .Call (.Name x _) args kws _ => c.gl x && decide (x = Str.ofString f) && starsB args && kwsB kws && chkA c es args kws && (match c.T f with
      | some en => !en.fn.urn && decide (perm.length = en.fn.np) && (if kws.isEmpty then !args.isEmpty && decide (perm = List.range' 0 perm.length) && decide (esLen es = perm.length) else en.kws.contains (args.length, kwNames kws, perm))
      | none => false)
    | _ => false
  | c, .ucall f es, e => match e with
    | .Call (.Name x _) (.Name y _ :: args) [] _ => c.gl x && decide (x = Str.ofString f) && starsB args && c.urn && c.var y 0 && chkEs c es args && (match c.T f with
      | some en => en.fn.urn && decide (esLen es + 1 = en.fn.np)
      | none => false)
    | _ => false
  | c, .ncall f a es, e => match e with
    | .Call (.Name x _) (a0 :: args) [] _ => c.gl x && decide (x = Str.ofString f) && starsB (a0 :: args) && fk c.G.ff a && chkE c a a0 && chkEs c es args && (match c.T f with
      | some en => en.fn.urn && decide (esLen es + 1 = en.fn.np)
      | none => false)
    | _ => false
  | c, .bi b es, e => match e with
    | .Call (.Name x _) (a0 :: args) [] _ => starsB (a0 :: args) && (match isTy b with
      | some ty => decide (x = ("isinstance" : Str)) && c.bltn x && (match args with
        | [.Name y _] => decide (y = ty) && c.bltn y && chkEs c es [a0] && (match es with | .cons _ .nil => true | _ => false)
        | _ => false)
      | none => (match b with
        | .gcd => chkEs c es (a0 :: args) && (c.gcd && c.gl x && decide (x = ("gcd" : Str)))
        | .sortedSet => (match es, a0, args with
          | .cons p .nil, .Call (.Name y _) [a] [] _, [] => decide (y = ("set" : Str)) && c.bltn y && notStar a && chkE c p a && (c.bltn x && decide (x = ("sorted" : Str)))
          | _, _, _ => false)
        | _ => chkEs c es (a0 :: args) && (c.bltn x && decide (biName b = some x))))
    | _ => false
  | c, .comp elt t it cond own, e => match e with
    | .ListComp elt' [⟨tg, iter, ifs, 0⟩] scope _ => chkI c it tg iter && notSet iter && L2.blkC c.N c.sc scope (ownL c own) && ownB c t own && chkG (c.blk scope) t tg && chkC (c.blk scope) cond ifs && chkE (c.blk scope) elt elt'
    | _ => false
def chkEs : CK → Es → List Expr → Bool
  | _, .nil, l => l.isEmpty
  | c, .cons p ps, l => match l with | e :: es => chkE c p e && chkEs c ps es | [] => false
/-- the arguments by place, then those by name -/
def chkA : CK → Es → List Expr → List Keyword → Bool
  | _, .nil, l, ks => l.isEmpty && ks.isEmpty
  | c, .cons p ps, l, ks => match l, ks with
    | e :: es, ks => chkE c p e && chkA c ps es ks
    | [], k :: ks => chkE c p k.2 && chkA c ps [] ks
    | [], [] => false
def chkEo : CK → Eo → Option Expr → Bool
  | _, .no, o => o.isNone
  | c, .yes p, o => match o with | some e => chkE c p e | none => false
def chkC : CK → Eo → List Expr → Bool
  | _, .no, l => l.isEmpty
  | c, .yes p, l => match l with | [e] => chkE c p e | _ => false
def chkI : CK → I → Expr → Expr → Bool
  | c, .seq p, _, e => chkE c p e
  | c, .range1 a, _, e => match e with | .Call (.Name x _) [a'] [] _ => decide (x = ("range" : Str)) && c.bltn x && notStar a' && chkE c a a' | _ => false
  | c, .range2 a b, _, e => match e with | .Call (.Name x _) [a', b'] [] _ => decide (x = ("range" : Str)) && c.bltn x && notStar a' && notStar b' && chkE c a a' && chkE c b b' | _ => false
  | _, .range3 _ _ _, _, _ => false
  | c, .revRange1 a, _, e => match e with
    | .Call (.Name y _) [.Call (.Name x _) [a'] [] _] [] _ => decide (y = ("reversed" : Str)) && c.bltn y && decide (x = ("range" : Str)) && c.bltn x && notStar a' && chkE c a a'
    | _ => false
  | c, .enum a, tg, e => !notTup tg && (match e with | .Call (.Name x _) [a'] [] _ => decide (x = ("enumerate" : Str)) && c.bltn x && notStar a' && chkE c a a' | _ => false)
  | c, .zip a b, tg, e => !notTup tg && (match e with | .Call (.Name x _) [a', b'] [] _ => decide (x = ("zip" : Str)) && c.bltn x && notStar a' && notStar b' && chkE c a a' && chkE c b b' | _ => false)
  | c, .zip3 a b d, tg, e => !notTup tg && (match e with | .Call (.Name x _) [a', b', d'] [] _ => decide (x = ("zip" : Str)) && c.bltn x && notStar a' && notStar b' && notStar d' && chkE c a a' && chkE c b b' && chkE c d d' | _ => false)
  | c, .rev a, _, e => match e with | .Call (.Name x _) [a'] [] _ => decide (x = ("reversed" : Str)) && c.bltn x && notStar a' && chkE c a a' | _ => false
end

def tuB (c : CK) : List Tu → List Expr → Bool
  | [], [] => true
  | .nm i :: ts, .Name x _ :: es => c.tgt x i && tuB c ts es
  | .pl k :: ts, .Subscript (.Name x _) (.Constant (.int z) _ _) _ :: es => c.urn && c.var x 0 && decide (z = (k : Int)) && tuB c ts es
  | _, _ => false
def lineOf : Expr → Option Nat | .Name _ p => some p.line | _ => none
/-- the names of a stored pair, where the model stores it from the stack -/
def parB (c : CK) (ts vs : List Expr) : Bool := decide (c.sc.kind = .function) && (match ts with
  | [.Name x px, .Name y py] => c.kindB x .local && c.kindB y .local && decide (py.line = px.line) && !(x == y)
  | [.Name x px, .Name y py, .Name z pz] => c.kindB x .local && c.kindB y .local && c.kindB z .local && decide (py.line = px.line) && decide (pz.line = px.line) && !(x == y) && !(x == z) && !(y == z)
  | _ => false) && decide (vs.length = ts.length) && starsB vs && !(vs.all (foldedForSure 8)) && !(vs.all (constantsAlone 8))
/-- .. and where it makes the tuple -/
def unpB (c : CK) (ts : List Expr) (v : Expr) : Bool := match v with
  | .Tuple vs _ _ => !(decide (ts.length = 2) || decide (ts.length = 3)) || vs.all (foldedForSure 8) || (match ts with
      | .Name x _ :: _ => !(c.kindB x .local)
      | _ => true) || (match ts with
      | _ :: .Name x _ :: _ => !(c.kindB x .local)
      | _ => true)
  | _ => true
def isVarB : E → Bool | .var _ => true | _ => false
mutual
def chkS : CK → Bool → S → Stmt → Bool
  | c, _, .set i p, st => match st with
    | .Assign [.Name x px] e pos => c.tgt x i && chkE c p e && (notComp e || (match e with
      | .ListComp _ _ scope p2 => c.kindB x .local && decide (c.sc.kind = .function) && (px.line == p2.line) && decide (p2.line = p2.line) && !(scope.names.any fun (n, k) => n == x && (k == .local || k == .cell))
      | _ => false) || (match e with
      | .ListComp _ _ _ _ => c.kindB x .cell
      | _ => false))
    | _ => false
  | c, _, .set2 i j p, st => match st with | .Assign [.Name x _, .Name y _] e _ => c.tgt x i && c.tgt y j && chkE c p e && notTup e && notComp e | _ => false
  | c, _, .par is es, st => match st with | .Assign [.Tuple ts _ _] (.Tuple vs _ _) _ => namesB c is ts && parB c ts vs && chkEs c es vs && decide (is.Nodup) | _ => false
  | c, _, .unp us p, st => match st with | .Assign [.Tuple ts _ _] e _ => tuB c us ts && unpB c ts e && notComp e && chkE c p e | _ => false
  | c, _, .setI i k p, st => match st with | .Assign [.Subscript (.Name x _) s _] e _ => c.var x i && chkE c k s && chkE c p e && notComp e && notSlice s | _ => false
  | c, _, .setU k p, st => match st with | .Assign [.Subscript (.Name x _) s _] e _ => c.urn && c.var x 0 && chkE c k s && chkE c p e && notComp e && notSlice s | _ => false
  | c, _, .app i p, st => match st with | .Expr (.Call (.Attribute (.Name x _) m ap) [a] [] cp) _ => c.var x i && decide (m = ("append" : Str)) && (ap.endLine == cp.line) && notStar a && chkE c p a | _ => false
  | c, _, .pop i, st => match st with | .Expr (.Call (.Attribute (.Name x _) m ap) [] [] cp) _ => c.var x i && decide (m = ("pop" : Str)) && (ap.endLine == cp.line) | _ => false
  | c, _, .ins i k p, st => match st with | .Expr (.Call (.Attribute (.Name x _) m ap) [b, a] [] cp) _ => c.var x i && decide (m = ("insert" : Str)) && (ap.endLine == cp.line) && notStar b && notStar a && chkE c k b && chkE c p a | _ => false
  | c, _, .drop p, st => match st with | .Expr e _ => chkE c p e && notComp e | _ => false
  | c, fr, .ite t a b, st => match st with | .If t' a' b' _ => chkE c t t' && chkSs c fr a a' && chkSs c fr b b' | _ => false
  | c, fr, .whil t b, st => match st with | .While t' b' [] _ => chkE c t t' && chkSs c fr b b' | _ => false
  | c, fr, .for_ t it b, st => match st with | .For tg iter b' [] _ => chkI c it tg iter && notSet iter && chkG c t tg && chkSs c fr b b' | _ => false
  | c, fr, .ret p, st => !fr && (match st with
    | .Return (some e) _ => chkE c p e
    | .Return none _ => neverB p
    | _ => false)
  | c, fr, .retF p, st => fr && (match st with | .Return (some e) _ => chkE c p e | _ => false)
  | _, _, .brk, st => match st with | .Break _ => true | _ => false
  | _, _, .cont, st => match st with | .Continue _ => true | _ => false
  | _, _, .pass, st => match st with | .Pass _ => true | _ => false
  | _, _, .raise, _ => true
def chkSs : CK → Bool → Ss → List Stmt → Bool
  | _, _, .nil, l => l.isEmpty
  | c, fr, .cons s ss, l => match l with | st :: sts => chkS c fr s st && chkSs c fr ss sts | [] => false
end
end Pl

/-! PSound14: what the checker lets is right: expressions. -/
namespace Pl
open PySem PyProof.Rows
open L2 (V Hp HO VK XK TE TT TA TS TG TGs Cx PE PT PW PA PS PSs PG PGs PI PK Inv SqL SqT Dp DpAll Vals RelV EP Gl Vis Ends Sp FnScope Env0 CE CR CX0 Room Fun Binds KBinds)

def gK {α : Type} (np nk : Nat) (perm : List Nat) (us ws : List α) : List α := if us.length = np ∧ ws.length = nk then perm.filterMap (fun i => (us ++ ws)[i]?) else []
structure Callable (X : Cx) (G : Prog) (n : Nat) (f : String) (en : Entry) : Prop where
  ex : ∃ fa fd, X.mg (Str.ofString f) = some (.ref fa) ∧ PySem.W.keepIn X.K (.ref fa) = true ∧ Binds X.K fd en.ps [] ∧
    (∀ q ∈ en.kws, KBinds X.K fd en.ps q.2.1 (gK q.1 q.2.1.length q.2.2) (gK q.1 q.2.1.length q.2.2)) ∧ FnG X.prog X.w X.K X.mg X.base n fa fd en.ps (spF X.K en.fn (callU G n f))
structure Okx (X : Cx) (c : CK) (G : Prog) (n : Nat) (au : Option Addr) : Prop where
  hG : c.G = G
  hN : X.N = c.N
  nd : c.N.Nodup
  sc : X.env.scope = c.sc
  calm : X.calm = true
  fn : ∀ x, c.fnB x = true → X.fn x = true ∨ X.env.scope.names.lookup x = some .local
  own : PassesOwn (model X.prog X.w) X.A X.env X.xe
  rg : RoomG n X.A
  au : au.isSome = c.urn
  blt : ∀ x ∈ c.bl, X.mg x = none
  gcd : c.gcd = true → X.mg "gcd" = some (.builtin "math.gcd")
  fns : ∀ f en, c.T f = some en → Callable X G n f en
  glb : ∀ g d, G.glob g = some d → ∃ v u, X.mg (Str.ofString g) = some u ∧ RelV v u ∧ ∀ F, Dp X.K F v d
  tab : ∀ f, G.T f = (c.T f).map (·.fn)

section
variable {X : Cx} {c : CK} {G : Prog} {n : Nat} {au : Option Addr}
theorem Okx.kind (o : Okx X c G n au) {x : Str} {k : NameKind} (h : c.kindB x k = true) : X.env.scope.names.lookup x = some k := by
  rw [o.sc]; exact of_decide_eq_true h
theorem Okx.gl (o : Okx X c G n au) {x : Str} (h : c.gl x = true) : Gl X x ∧ (x == ("__debug__" : Str)) = false := by
  unfold CK.gl at h
  simp only [Bool.and_eq_true, Bool.not_eq_true'] at h
  exact ⟨o.kind h.1, h.2⟩
theorem Okx.bltn (o : Okx X c G n au) {x : Str} (h : c.bltn x = true) : Gl X x ∧ X.mg x = none ∧ x ≠ "__name__" ∧ (x == ("__debug__" : Str)) = false := by
  unfold CK.bltn at h
  simp only [Bool.and_eq_true, Bool.not_eq_true', List.contains_iff_mem] at h
  obtain ⟨⟨h1, h2⟩, h3⟩ := h
  obtain ⟨q1, q2⟩ := o.gl h1
  exact ⟨q1, o.blt x h2, by simpa using h3, q2⟩
theorem Okx.var (o : Okx X c G n au) {x : Str} {i : Nat} {pos : Pos} (h : c.var x i = true) : PE X (.Name x pos) (L2.tVar i) := by
  unfold CK.var CK.vis at h
  simp only [Bool.and_eq_true, Bool.not_eq_true', Bool.or_eq_true] at h
  obtain ⟨⟨⟨h1, h2⟩, h3⟩, h4⟩ := h
  refine L2.pe_var (by rw [o.hN]; exact of_decide_eq_true h1) ?_ h3 h4
  rcases h2 with (h2 | h2) | h2
  · exact .inl (o.kind h2)
  · exact .inr (.inl (o.kind h2))
  · exact .inr (.inr (o.kind h2))
theorem Okx.tgt (o : Okx X c G n au) {x : Str} {i : Nat} {pos : Pos} (h : c.tgt x i = true) : PG X (.Name x pos) (L2.gName i) ∧ (au.isSome = true → i ≠ 0) ∧ X.N[i]? = some x ∧ L2.Loc X.env.scope x ∧ (X.fn x = true ∨ X.env.scope.names.lookup x = some .local) := by
  unfold CK.tgt CK.loc at h
  simp only [Bool.and_eq_true, Bool.not_eq_true', Bool.or_eq_true] at h
  obtain ⟨⟨⟨h1, h2⟩, h3⟩, h4⟩ := h
  have hi : X.N[i]? = some x := by rw [o.hN]; exact of_decide_eq_true h1
  have hl : L2.Loc X.env.scope x := h2.elim (fun q => .inl (o.kind q)) fun q => .inr (o.kind q)
  refine ⟨L2.pg_name (by rw [o.hN]; exact o.nd) hi hl (o.fn x h3), fun ha e => ?_, hi, hl, o.fn x h3⟩
  rw [o.au] at ha
  subst e
  rw [ha] at h4
  simp at h4
theorem Okx.un (o : Okx X c G n au) : X.A.units + 66 < cLine := by have := o.rg.rm.un; omega
theorem Okx.blk (o : Okx X c G n au) (s : Shared) (H : Hp) (scope : Scope) (cl : List (Str × Addr)) (Ca : Addr) (fp : List Addr) : Okx (X.blk s H scope (compEnvC scope cl Ca X.env) fp) (c.blk scope) G n au where
  hG := o.hG
  hN := o.hN
  nd := o.nd
  sc := by
    show relabel scope X.env = _
    unfold relabel CK.blk Env.kindOf
    rw [o.sc]
  calm := o.calm
  fn := fun x h => by
    unfold CK.fnB at h
    simp only [Bool.or_eq_true] at h
    rcases h with h | h
    · refine .inr ?_
      show (relabel scope X.env).names.lookup x = _
      have e : relabel scope X.env = (c.blk scope).sc := by
        unfold relabel CK.blk Env.kindOf
        rw [o.sc]
      rw [e]
      exact of_decide_eq_true h
    · refine .inl ?_
      show (scope.names.lookup x == some NameKind.cell) = true
      have h' : scope.names.lookup x = some .cell := of_decide_eq_true h
      rw [h']
      rfl
  own := PassesOwn.never
  rg := o.rg
  au := o.au
  blt := o.blt
  gcd := o.gcd
  fns := fun f en h => ⟨(o.fns f en h).ex⟩
  glb := o.glb
  tab := o.tab
theorem Okx.cfn (o : Okx X c G n au) {f : String} {en : Entry} (h : c.T f = some en) : (ctxN G n).fn f = (fun ds => if en.fn.urn then none else (callU G n f ds []).map (·.1)) ∧ (ctxN G n).ufn f = (fun ds u => if en.fn.urn then callU G n f ds u else none) ∧ G.ff f = en.fn.fresh := by
  have hT : G.T f = some en.fn := by rw [o.tab, h]; rfl
  refine ⟨?_, ?_, ?_⟩
  · funext ds; unfold ctxN ctxOf; simp only [hT]
  · funext ds u; unfold ctxN ctxOf; simp only [hT]
  · unfold Prog.ff; rw [hT]
theorem namesB_ok (o : Okx X c G n au) : ∀ {is : List Nat} {es : List Expr}, namesB c is es = true → PGs X es (gMany is) ∧ (assignEach es X.env).length = is.length ∧ (assignEach es X.env).findIdx? (·.1) = none ∧ (au.isSome = true → 0 ∉ is) ∧ es.length = is.length
  | [], [], _ => ⟨L2.pgs_nil, rfl, rfl, fun _ => by simp, rfl⟩
  | [], _ :: _, h => by simp [namesB] at h
  | _ :: _, [], h => by simp [namesB] at h
  | i :: is, e :: es, h => by
    cases e <;> try (simp [namesB] at h; done)
    rename_i x p
    simp only [namesB, Bool.and_eq_true] at h
    obtain ⟨g1, g2, _⟩ := o.tgt (pos := p) h.1
    obtain ⟨k1, k2, k3, k4, k5⟩ := namesB_ok o h.2
    refine ⟨L2.pgs_cons g1 k1 rfl, congrArg Nat.succ k2, ?_, fun ha hm => ?_, congrArg Nat.succ k5⟩
    · show ((false, assign (.Name x p) X.env) :: assignEach es X.env).findIdx? (·.1) = none
      rw [List.findIdx?_cons, k3]
      rfl
    · rcases List.mem_cons.mp hm with e | e
      · exact g2 ha e.symm
      · exact k4 ha e
theorem chkG_ok (o : Okx X c G n au) {t : Tg} {tg : Expr} (h : chkG c t tg = true) : SimG X tg t ∧ (au.isSome = true → 0 ∉ tgIx t) := by
  unfold chkG at h
  split at h <;> first | contradiction | skip
  · obtain ⟨g1, g2, _⟩ := o.tgt (pos := ‹Pos›) h
    exact ⟨simG_one g1, fun ha hm => g2 ha (List.mem_singleton.mp hm).symm⟩
  · obtain ⟨k1, k2, k3, k4, _⟩ := namesB_ok o h
    exact ⟨simG_many o.calm k1 k2 k3, k4⟩
end

/-- an expression is what its term says, as a value and as a test -/
structure OkE (X : Cx) (C : Ctx) (ff : String → Bool) (au : Option Addr) (e : Expr) (p : E) : Prop where
  s : Sim X C ff au e p
  t : SimT X C au e p
  w : ∀ op es pos, e = .BoolOp op es pos → SimW X C au e p
theorem okE_of {X : Cx} {C : Ctx} {ff : String → Bool} {au : Option Addr} {e : Expr} {p : E} (h : Sim X C ff au e p) (he : ∀ whole, isTrue e X.env whole = (do let v ← whole; standAt e.pos; holding [v] (truthy v))) (hb : ∀ op es pos, e ≠ .BoolOp op es pos) : OkE X C ff au e p :=
  ⟨h, simT_of h he, fun op es pos z => absurd z (hb op es pos)⟩
theorem okE_bi {X : Cx} {C : Ctx} {ff : String → Bool} {au : Option Addr} {e : Expr} {p : E} (h : Sim X C ff au e p) (t : SimT X C au e p) (hb : ∀ op es pos, e ≠ .BoolOp op es pos) : OkE X C ff au e p := ⟨h, t, fun op es pos z => absurd z (hb op es pos)⟩
theorem okE_never {X : Cx} {C : Ctx} {ff : String → Bool} {au : Option Addr} {e : Expr} {p : E} (h : ∀ env u, evalE C p env u = none) : OkE X C ff au e p :=
  ⟨sim_never h pe_never, ⟨L2.PT.imp pt_never fun σ H Q ⟨F, env, u, d, u', A, ev, k⟩ => by rw [h] at ev; cases ev⟩, fun _ _ _ _ => ⟨L2.PW.imp pw_never fun σ H Q ⟨F, env, u, d, u', A, ev, k⟩ => by rw [h] at ev; cases ev⟩⟩
structure SimK (X : Cx) (C : Ctx) (au : Option Addr) (kws : List Keyword) (p : Es) : Prop where
  t : PK X kws (wpEs X.K C au p)
def esApp : Es → Es → Es | .nil, q => q | .cons e es, q => .cons e (esApp es q)
section
variable {X : Cx} {C : Ctx} {ff : String → Bool} {au : Option Addr} {K : PySem.W.Frag}
theorem simK_nil : SimK X C au [] .nil := ⟨⟨fun pos pins s σ H Q I ⟨F, env, u, d, u', A, ev, k⟩ => by
  simp only [evalEs, Option.some.injEq, Prod.mk.injEq] at ev
  obtain ⟨rfl, rfl⟩ := ev
  exact L2.pk_nil.run pos pins s σ H Q I (k [] F H A.post .nil)⟩⟩
theorem simK_cons {a : Expr} {pa : E} {ps : Es} {kws : List Keyword} {nm : Option Str} {kpos : Pos} (ha : Sim X C ff au a pa) (hs : SimK X C au kws ps) : SimK X C au (⟨nm, a, kpos⟩ :: kws) (.cons pa ps) :=
  ⟨⟨fun pos pins s σ H Q I ⟨F, env, u, d, u', A, ev, k⟩ => by
    simp only [evalEs] at ev
    obtain ⟨⟨da, u1⟩, e1, ev⟩ := Option.bind_eq_some_iff.mp ev
    obtain ⟨⟨ds, u2⟩, e2, ev⟩ := Option.bind_eq_some_iff.mp ev
    cases ev
    refine (L2.pk_cons ha.pl hs.t).run pos pins s σ H Q I ⟨F, env, u, da, u1, A.l, e1, fun v F1 H1 P1 r1 => ?_⟩
    have A1 := A.step P1
    refine ⟨F1, env, u1, ds, u2, A1.r, e2, fun vs F2 H2 P2 r2 => ?_⟩
    exact k _ F2 H2 (P1.trans P2) (.cons (dp_sub (A1.subF P2) _ _ r1) r2)⟩⟩
theorem fvEs_app : ∀ (p q : Es), fvEs (esApp p q) = fvEs p ++ fvEs q
  | .nil, q => rfl
  | .cons e es, q => by show fvE e ++ fvEs (esApp es q) = _; rw [fvEs_app es q, ← List.append_assoc]; rfl
theorem evalEs_app : ∀ {p q : Es} {env : Env} {u u' : U} {ds : List D}, evalEs C (esApp p q) env u = some (ds, u') → ∃ d1 u1 d2, evalEs C p env u = some (d1, u1) ∧ evalEs C q env u1 = some (d2, u') ∧ ds = d1 ++ d2
  | .nil, q, env, u, u', ds, h => ⟨[], u, ds, rfl, h, rfl⟩
  | .cons e es, q, env, u, u', ds, h => by
    simp only [esApp, evalEs] at h
    obtain ⟨⟨d, u1⟩, h1, h⟩ := Option.bind_eq_some_iff.mp h
    obtain ⟨⟨r, u2⟩, h2, h⟩ := Option.bind_eq_some_iff.mp h
    cases h
    obtain ⟨d1, u3, d2, g1, g2, g3⟩ := evalEs_app h2
    refine ⟨d :: d1, u3, d2, ?_, g2, by rw [g3]; rfl⟩
    simp only [evalEs, h1, Option.bind_some, g1]
theorem wpEs_app {p q : Es} {σ : L2.St} {H : Hp} {Q : List V → Hp → Prop} (h : wpEs K C au (esApp p q) σ H Q) : wpEs K C au p σ H fun vs H1 => wpEs K C au q σ H1 fun zs H2 => Q (vs ++ zs) H2 := by
  obtain ⟨F, env, u, ds, u', A, ev, k⟩ := h
  rw [fvEs_app] at A
  obtain ⟨d1, u1, d2, g1, g2, rfl⟩ := evalEs_app ev
  refine ⟨F, env, u, d1, u1, A.l, g1, fun vs F1 H1 P1 r1 => ⟨F1, env, u1, d2, u', (A.step P1).r, g2, fun zs F2 H2 P2 r2 => ?_⟩⟩
  exact k _ F2 H2 (P1.trans P2) (dpAll_append (dpAll_sub ((A.step P1).subF P2) _ _ r1) r2)
end
end Pl

/-! PSound15: the checker is right: expressions. -/
namespace Pl
open PySem PyProof.Rows
open L2 (V Hp HO VK XK TE TT TA TS TG TGs Cx PE PT PW PA PS PSs PG PGs PI PK Inv SqL SqT Dp DpAll Vals RelV EP Gl Vis Ends Sp FnScope Env0 CE CR CX0 Room Fun Binds KBinds)

section
variable {X : Cx} {c : CK} {G : Prog} {n : Nat} {au : Option Addr} {C : Ctx} {ff : String → Bool} {e a : Expr} {es args : List Expr} {pa : E} {ps : Es} {pos pos2 : Pos} {f : String} {x : Str}
/-- f(k = v, ..), no argument by place -/
theorem pe_callKG0 {k : Nat} {fa : Addr} {fd : FuncData} {ps ks : List Str} {sp : Sp} {kws : List Keyword} {tk : TA} {g : List Value → List Value → List Value} {gV : List V → List V → List V} {E : XK} (F : FnG X.prog X.w X.K X.mg X.base k fa fd ps sp) (rg : RoomG k X.A) (hg : Gl X x) (hm : X.mg x = some (.ref fa)) (hk : PySem.W.keepIn X.K (.ref fa) = true) (hb : KBinds X.K fd ps ks g gV)
    (hkw : PK X kws tk) (hall : (backToKw pos (keywordEach kws X.env)).all (·.1.isSome) = true) (hks : (backToKw pos (keywordEach kws X.env)).filterMap (·.1) = ks)
    (hdb : (x == ("__debug__" : Str)) = false) (hpl : ((backTo pos (starEach [] X.env)).any (·.1) || (backToKw pos (keywordEach kws X.env)).any (·.1.isNone)) = false) :
    PE X (.Call (.Name x pos2) [] kws pos) (fun σ H Q => tk σ H fun zs H2 => sp (gV [] zs) H2 Q E) := ⟨fun pins s σ H Q I h => by
  refine wpAny_Call_Name_kw (L2.ld_glob I hg hm ?_ hdb)
  refine PySem.W.callWith_KW0 (h₀ := X.base) I.ok.mod.kin hk hall (L2.thn (hkw.run pos pins s σ H _ I h) fun ws s2 ⟨zs, H2, I2, rz, q2⟩ => ⟨I2.kIn, ?_⟩) hpl
  subst hks
  exact fnG_run (us := []) F rg hb I2 .nil rz q2⟩
theorem gK_pick {np nk : Nat} {perm : List Nat} {ds ds' : List D} {vs zs : List V} {K : PySem.W.Frag} {F : Hp} (h : DpAll K F (vs ++ zs) ds) (e : pick ds perm = some ds') (h1 : vs.length = np) (h2 : zs.length = nk) : DpAll K F (gK np nk perm vs zs) ds' := by
  unfold gK
  rw [if_pos ⟨h1, h2⟩]
  clear h1 h2
  induction perm generalizing ds' with
  | nil => simp only [pick, Option.some.injEq] at e; subst e; exact .nil
  | cons i is ih =>
    simp only [pick] at e
    obtain ⟨d, q1, e⟩ := Option.bind_eq_some_iff.mp e
    obtain ⟨r, q2, e⟩ := Option.bind_eq_some_iff.mp e
    cases e
    obtain ⟨v, g1, g2⟩ := dpAll_get h q1
    rw [List.filterMap_cons, g1]
    exact .cons g2 (ih q2)
theorem esApp_nil : ∀ (p : Es), esApp p .nil = p
  | .nil => rfl
  | .cons e es => congrArg (Es.cons e) (esApp_nil es)
theorem esApp_len : ∀ (p q : Es), esLen (esApp p q) = esLen p + esLen q
  | .nil, q => by simp [esApp, esLen]
  | .cons e es, q => by simp only [esApp, esLen]; rw [esApp_len es q]; omega
theorem wpEs_len {K : PySem.W.Frag} {σ : L2.St} {H : Hp} {Q : List V → Hp → Prop} (h : wpEs K C au ps σ H fun vs H1 => vs.length = esLen ps → Q vs H1) : wpEs K C au ps σ H Q := by
  obtain ⟨F, env, u, ds, u', A, ev, k⟩ := h
  exact ⟨F, env, u, ds, u', A, ev, fun vs F' H' P r => k vs F' H' P r (by rw [dpAll_len r, evalEs_len ev])⟩
/-- a call of a def with values -/
theorem okx_call {en : Entry} {perm : List Nat} {kws : List Keyword} {p1 p2 : Es} (o : Okx X c G n au) (hT : c.T f = some en) (hu : en.fn.urn = false) (hnp : perm.length = en.fn.np) (hg : c.gl x = true) (hx : x = Str.ofString f) (hst : starsB args = true) (hkw : kwsB kws = true)
    (h1 : SimA X (ctxN G n) au args p1) (h2 : SimK X (ctxN G n) au kws p2) (l1 : esLen p1 = args.length) (l2 : esLen p2 = (kwNames kws).length)
    (h : if kws.isEmpty then (!args.isEmpty && decide (perm = List.range' 0 perm.length) && decide (esLen (esApp p1 p2) = perm.length)) = true else en.kws.contains (args.length, kwNames kws, perm) = true) :
    Sim X (ctxN G n) G.ff au (.Call (.Name x pos2) args kws pos) (.call f (esApp p1 p2) perm) := by
  obtain ⟨q1, q2⟩ := o.gl hg
  obtain ⟨fa, fd, m1, m2, m3, m4, m5⟩ := (o.fns f en hT).ex
  obtain ⟨c1, c2, c3⟩ := o.cfn hT
  have hC : ∀ ds, (ctxN G n).fn f ds = (callU G n f ds []).map (·.1) := fun ds => by rw [c1]; simp only [hu, Bool.false_eq_true, if_false]
  subst hx
  by_cases hk : kws.isEmpty = true
  · rw [if_pos hk] at h
    simp only [Bool.and_eq_true, Bool.not_eq_true', decide_eq_true_eq] at h
    obtain ⟨⟨g1, g2⟩, g3⟩ := h
    have hkn : kws = [] := List.isEmpty_iff.mp hk
    subst hkn
    cases args with
    | nil => simp at g1
    | cons a0 args =>
      have p2n : p2 = .nil := by
        cases p2 with
        | nil => rfl
        | cons _ _ => simp [esLen, kwNames] at l2
      subst p2n
      have hs := hst
      simp only [starsB, List.all_cons, Bool.and_eq_true] at hs
      refine sim_callV (p := en.fn) hC hu c3 hnp (t := wpEs X.K (ctxN G n) au p1) ?_ (pe_callG m5 o.rg q1 m1 m2 m3 h1.t q2 (star_cons hs.1) (star_any hs.2))
      rintro σ H Q ⟨F, env, u, ds, u', ds', A, ev, hp, k⟩
      rw [esApp_nil] at A ev g3
      have hl : perm.length = ds.length := by rw [evalEs_len ev, g3]
      rw [g2, hl, pick_range ds ds.length 0 (by omega)] at hp
      cases hp
      exact ⟨F, env, u, ds, u', A, ev, k⟩
  · rw [if_neg hk] at h
    have hmem : (args.length, kwNames kws, perm) ∈ en.kws := by simpa using h
    have hb := m4 _ hmem
    cases args with
    | nil =>
      refine sim_callV (p := en.fn) hC hu c3 hnp (t := fun σ H Q => wpEs X.K (ctxN G n) au p2 σ H fun zs H2 => Q (gK 0 (kwNames kws).length perm [] zs) H2) ?_ (pe_callKG0 m5 o.rg q1 m1 m2 hb h2.t (kw_all hkw) kw_names q2 (by rw [kw_any hkw]; rfl))
      rintro σ H Q ⟨F, env, u, ds, u', ds', A, ev, hp, k⟩
      have p1n : p1 = .nil := by
        cases p1 with
        | nil => rfl
        | cons _ _ => simp [esLen] at l1
      subst p1n
      exact wpEs_len ⟨F, env, u, ds, u', A, ev, fun vs F' H' P r hl => k _ F' H' P (gK_pick (by simpa using r) hp rfl (by rw [hl, l2]))⟩
    | cons a0 args =>
      have hs := hst
      simp only [starsB, List.all_cons, Bool.and_eq_true] at hs
      refine sim_callV (p := en.fn) hC hu c3 hnp (t := fun σ H Q => wpEs X.K (ctxN G n) au p1 σ H fun vs H1 => wpEs X.K (ctxN G n) au p2 σ H1 fun zs H2 => Q (gK (a0 :: args).length (kwNames kws).length perm vs zs) H2) ?_
        (pe_callKG m5 o.rg q1 m1 m2 hb h1.t h2.t (kw_all hkw) kw_names q2 (star_cons hs.1) (by rw [kw_any hkw, star_any hst]; rfl))
      rintro σ H Q ⟨F, env, u, ds, u', ds', A, ev, hp, k⟩
      obtain ⟨d1, u1, d2, g1, g2, rfl⟩ := evalEs_app ev
      rw [fvEs_app] at A
      refine ⟨F, env, u, d1, u1, A.l, g1, fun vs F1 H1 P1 r1 => ⟨F1, env, u1, d2, u', (A.step P1).r, g2, fun zs F2 H2 P2 r2 => ?_⟩⟩
      refine k _ F2 H2 (P1.trans P2) (gK_pick (dpAll_append (dpAll_sub ((A.step P1).subF P2) _ _ r1) r2) hp ?_ ?_)
      · rw [dpAll_len r1, evalEs_len g1, l1]
      · rw [dpAll_len r2, evalEs_len g2, l2]
end
end Pl

set_option maxHeartbeats 2000000
/-! PSound16: the checker is right: expressions. -/
namespace Pl
open PySem PyProof.Rows
open L2 (V Hp HO VK XK TE TT TA TS TG TGs Cx PE PT PW PA PS PSs PG PGs PI PK Inv SqL SqT Dp DpAll Vals RelV EP Gl Vis Ends Sp FnScope Env0 CE CR CX0 Room Fun Binds KBinds)

section
variable {X : Cx} {c : CK} {G : Prog} {n : Nat} {au : Option Addr} {C : Ctx} {ff : String → Bool} {e a : Expr} {es args : List Expr} {pa : E} {ps : Es} {pos pos2 : Pos} {f : String} {x : Str}

theorem okx_lit {k : Const} {j : Nat} (h : litB k = true) : OkE X C ff au (.Constant k j pos) (.lit k) := by
  refine okE_of ?_ (fun _ => rfl) (fun _ _ _ => nofun)
  cases k <;> first | exact sim_none | exact sim_bool | exact sim_int | exact sim_str | (simp [litB] at h)
theorem okx_glob (o : Okx X c G n au) (hg : c.gl x = true) (hx : x = Str.ofString f) : OkE X (ctxN G n) ff au (.Name x pos) (.glob f) := by
  subst hx
  obtain ⟨q1, q2⟩ := o.gl hg
  have hC : (ctxN G n).glob f = G.glob f := rfl
  cases hd : G.glob f with
  | none => exact okE_never fun env u => by simp [evalE, hC, hd]
  | some d =>
    obtain ⟨v, u, m, r, dp⟩ := o.glb f d hd
    exact okE_of (sim_glob (L2.pe_glob q1 m r q2) (hC.trans hd) dp) (fun _ => rfl) (fun _ _ _ => nofun)
theorem okx_ucall {en : Entry} {y : Str} {p3 : Pos} (o : Okx X c G n au) (hT : c.T f = some en) (hu : en.fn.urn = true) (hnp : esLen ps + 1 = en.fn.np) (hg : c.gl x = true) (hx : x = Str.ofString f) (hst : starsB args = true) (hurn : c.urn = true) (hy : c.var y 0 = true)
    (h1 : SimA X (ctxN G n) au args ps) : Sim X (ctxN G n) G.ff au (.Call (.Name x pos2) (.Name y p3 :: args) [] pos) (.ucall f ps) := by
  obtain ⟨q1, q2⟩ := o.gl hg
  obtain ⟨fa, fd, m1, m2, m3, m4, m5⟩ := (o.fns f en hT).ex
  obtain ⟨c1, c2, c3⟩ := o.cfn hT
  subst hx
  refine sim_ucall (p := en.fn) (c := callU G n f) (fun ds u => by rw [c2]; simp only [hu, if_true]) (o.au.trans hurn) hu c3 hnp (t := fun σ H Q => L2.tCons (L2.tVar 0) (wpEs X.K (ctxN G n) au ps) σ H fun vs H1 => spF X.K en.fn (callU G n f) vs H1 Q L2.E0)
    (fun σ H Q ⟨a, ha, hs, h⟩ => ⟨_, hs, h⟩) (pe_callG m5 o.rg q1 m1 m2 m3 (L2.pa_cons (o.var hy) h1.t rfl) q2 rfl (star_any hst))
theorem okx_ncall {en : Entry} {a0 : Expr} (o : Okx X c G n au) (hT : c.T f = some en) (hu : en.fn.urn = true) (hnp : esLen ps + 1 = en.fn.np) (hg : c.gl x = true) (hx : x = Str.ofString f) (hst : starsB (a0 :: args) = true) (hk : fk G.ff pa = true)
    (h0 : Sim X (ctxN G n) G.ff au a0 pa) (h1 : SimA X (ctxN G n) au args ps) : Sim X (ctxN G n) G.ff au (.Call (.Name x pos2) (a0 :: args) [] pos) (.ncall f pa ps) := by
  obtain ⟨q1, q2⟩ := o.gl hg
  obtain ⟨fa, fd, m1, m2, m3, m4, m5⟩ := (o.fns f en hT).ex
  obtain ⟨c1, c2, c3⟩ := o.cfn hT
  subst hx
  simp only [starsB, List.all_cons, Bool.and_eq_true] at hst
  have h0' := h0.raw
  rw [hk] at h0'
  refine sim_ncall (p := en.fn) (c := callU G n f) (fun ds u => by rw [c2]; simp only [hu, if_true]) hu c3 hnp hk (t := fun σ H Q => L2.tCons (wpE true X.K (ctxN G n) au pa) (wpEs X.K (ctxN G n) au ps) σ H fun vs H1 => spF X.K en.fn (callU G n f) vs H1 Q L2.E0)
    (fun σ H Q h => h) (pe_callG m5 o.rg q1 m1 m2 m3 (L2.pa_cons h0' h1.t (star_cons hst.1)) q2 (star_cons hst.1) (star_any hst.2))
theorem okx_isi {b : BI} {ty y : Str} {p3 : Pos} {q : E} {a0 : Expr} (o : Okx X c G n au) (hb : isTy b = some ty) (hg : c.bltn ("isinstance" : Str) = true) (hy : c.bltn y = true) (hty : y = ty) (hst : notStar a0 = true) (h : Sim X (ctxN G n) G.ff au a0 q) :
    Sim X (ctxN G n) G.ff au (.Call (.Name "isinstance" pos2) [a0, .Name y p3] [] pos) (.bi b (.cons q .nil)) := by
  obtain ⟨g1, g2, g3, g4⟩ := o.bltn hg
  obtain ⟨k1, k2, k3, k4⟩ := o.bltn hy
  subst hty
  cases b <;> simp only [isTy, Option.some.injEq, reduceCtorEq] at hb <;> subst hb
  · exact sim_isi .isInt isi_int (fun d d' e => by simp only [biV, Option.some.injEq] at e; exact ⟨_, e.symm⟩) rfl g1 g2 h k1 k2 (by decide +kernel) k3 k4 (star_cons hst)
  · exact sim_isi .isBool isi_bool (fun d d' e => by simp only [biV, Option.some.injEq] at e; exact ⟨_, e.symm⟩) rfl g1 g2 h k1 k2 (by decide +kernel) k3 k4 (star_cons hst)
  · exact sim_isi .isTuple isi_tuple (fun d d' e => by simp only [biV, Option.some.injEq] at e; exact ⟨_, e.symm⟩) rfl g1 g2 h k1 k2 (by decide +kernel) k3 k4 (star_cons hst)
  · exact sim_isi .isList isi_list (fun d d' e => by simp only [biV, Option.some.injEq] at e; exact ⟨_, e.symm⟩) rfl g1 g2 h k1 k2 (by decide +kernel) k3 k4 (star_cons hst)
  · exact sim_isi .isStr isi_str (fun d d' e => by simp only [biV, Option.some.injEq] at e; exact ⟨_, e.symm⟩) rfl g1 g2 h k1 k2 (by decide +kernel) k3 k4 (star_cons hst)
theorem okx_bi {b : BI} {a0 : Expr} (o : Okx X c G n au) (hst : starsB (a0 :: args) = true) (hg : c.bltn x = true) (hn : biName b = some x) (h : SimA X (ctxN G n) au (a0 :: args) ps) :
    Sim X (ctxN G n) G.ff au (.Call (.Name x pos2) (a0 :: args) [] pos) (.bi b ps) := by
  obtain ⟨g1, g2, g3, g4⟩ := o.bltn hg
  simp only [starsB, List.all_cons, Bool.and_eq_true] at hst
  have s1 := star_cons (env := X.env) (es := args) hst.1
  have s2 := star_any (env := X.env) (pos := pos) hst.2
  cases b <;> simp only [biName, Option.some.injEq, reduceCtorEq] at hn <;> subst hn
  · exact sim_biB .len bi_len (by decide) (by decide) (by decide) g1 g2 (by decide +kernel) h g3 g4 s1 s2
  · exact sim_biB .abs bi_abs (by decide) (by decide) (by decide) g1 g2 (by decide +kernel) h g3 g4 s1 s2
  · exact sim_biT .int bi_int (by decide) (by decide) (by decide) g1 g2 (by decide +kernel) h g3 g4 s1 s2
  · exact sim_biT .tuple bi_tuple (by decide) (by decide) (by decide) g1 g2 (by decide +kernel) h g3 g4 s1 s2
  · exact sim_list g1 g2 h s1 s2
  · exact sim_biB .all (bi_all o.calm) (by decide) (by decide) (by decide) g1 g2 (by decide +kernel) h g3 g4 s1 s2
  · exact sim_biB .any (bi_any o.calm) (by decide) (by decide) (by decide) g1 g2 (by decide +kernel) h g3 g4 s1 s2
  · exact sim_biB .sum (bi_sum o.calm) (by decide) (by decide) (by decide) g1 g2 (by decide +kernel) h g3 g4 s1 s2
  · exact sim_biB .max2 (bi_max2 o.calm) (by decide) (by decide) (by decide) g1 g2 (by decide +kernel) h g3 g4 s1 s2
  · exact sim_biB .min2 (bi_min2 o.calm) (by decide) (by decide) (by decide) g1 g2 (by decide +kernel) h g3 g4 s1 s2
  · exact sim_biB .divmod bi_divmod (by decide) (by decide) (by decide) g1 g2 (by decide +kernel) h g3 g4 s1 s2
  · exact sim_biB .repr (bi_repr o.rg.gd o.un) (by decide) (by decide) (by decide) g1 g2 (by decide +kernel) h g3 g4 s1 s2
  · exact sim_sorted g1 g2 h s1 s2
  · exact sim_biB .max1 (bi_max1 o.calm) (by decide) (by decide) (by decide) g1 g2 (by decide +kernel) h g3 g4 s1 s2
  · exact sim_biB .min1 (bi_min1 o.calm) (by decide) (by decide) (by decide) g1 g2 (by decide +kernel) h g3 g4 s1 s2
theorem ownL_map {own : List Nat} : (ownL c own).map (·.2) = own := by
  unfold ownL
  rw [List.map_map]
  exact List.map_id own
theorem ownB_ok (o : Okx X c G n au) {t : Tg} {own : List Nat} (h : ownB c t own = true) : (au.isSome = true → 0 ∉ own ∧ 0 ∉ tgIx t) ∧ ∀ i ∈ tgIx t, i ∈ own := by
  unfold ownB at h
  simp only [Bool.and_eq_true, List.all_eq_true] at h
  refine ⟨fun ha => ?_, fun i hi => by simpa using h.2 i hi⟩
  rw [o.au] at ha
  have := h.1
  rw [ha] at this
  simpa using this
end

mutual
theorem okE {X : Cx} {c : CK} {G : Prog} {n : Nat} {au : Option Addr} (o : Okx X c G n au) : ∀ (p : E) (e : Expr), chkE c p e = true → OkE X (ctxN G n) G.ff au e p
  | .var i, e, h => by
    unfold chkE at h
    split at h <;> first | contradiction | skip
    exact okE_of (sim_var (o.var h)) (fun _ => rfl) (fun _ _ _ => nofun)
  | .lit k, e, h => by
    unfold chkE at h
    split at h <;> first | contradiction | skip
    simp only [Bool.and_eq_true, decide_eq_true_eq] at h
    obtain ⟨h1, rfl⟩ := h
    exact okx_lit h1
  | .glob g, e, h => by
    unfold chkE at h
    split at h <;> first | contradiction | skip
    simp only [Bool.and_eq_true, decide_eq_true_eq] at h
    exact okx_glob o h.1 h.2
  | .neg a, e, h => by
    unfold chkE at h
    split at h <;> first | contradiction | skip
    exact okE_of (sim_neg (okE o a _ h).s) (fun _ => rfl) (fun _ _ _ => nofun)
  | .not a, e, h => by
    unfold chkE at h
    split at h <;> first | contradiction | skip
    exact okE_bi (sim_not (okE o a _ h).s) (simT_not (okE o a _ h).t) (fun _ _ _ => nofun)
  | .bin op a b, e, h => by
    unfold chkE at h
    split at h <;> first | contradiction | skip
    simp only [Bool.and_eq_true, decide_eq_true_eq] at h
    obtain ⟨⟨rfl, ha⟩, hb⟩ := h
    have ia := (okE o a _ ha).s
    have ib := (okE o b _ hb).s
    refine okE_of ?_ (fun _ => rfl) (fun _ _ _ => nofun)
    cases op
    · exact sim_add ia ib
    · exact sim_sub ia ib
    · exact sim_mul ia ib
    · exact sim_fdiv ia ib
    · exact sim_mod ia ib
    · exact sim_pow ia ib
  | .cmp op a b, e, h => by
    unfold chkE at h
    split at h <;> first | contradiction | skip
    simp only [Bool.and_eq_true, decide_eq_true_eq, Bool.not_eq_true'] at h
    obtain ⟨⟨⟨rfl, ha⟩, hb⟩, hm⟩ := h
    exact okE_bi (sim_cmp op o.un (okE o a _ ha).s (okE o b _ hb).s hm) (simT_cmp (ff := G.ff) op o.un (okE o a _ ha).s (okE o b _ hb).s hm) (fun _ _ _ => nofun)
  | .chain p1 p2 a b d, e, h => by
    unfold chkE at h
    split at h <;> first | contradiction | skip
    simp only [Bool.and_eq_true, decide_eq_true_eq, Bool.not_eq_true'] at h
    obtain ⟨⟨⟨⟨⟨rfl, rfl⟩, ha⟩, hb⟩, hd⟩, hm⟩ := h
    exact okE_bi (sim_chain p1 p2 o.un (okE o a _ ha).s (okE o b _ hb).s (okE o d _ hd).s hm) (simT_chain (ff := G.ff) p1 p2 o.un (okE o a _ ha).s (okE o b _ hb).s (okE o d _ hd).s hm) (fun _ _ _ => nofun)
  | .and a b, e, h => by
    unfold chkE at h
    split at h <;> first | contradiction | skip
    simp only [Bool.and_eq_true] at h
    obtain ⟨ha, h⟩ := h
    have ia := okE o a _ ha
    split at h <;> first | contradiction | skip
    · simp only [Bool.and_eq_true, Bool.not_eq_true'] at h
      rw [o.hG] at h
      have ib := okE o b _ h.1
      have w := simW_and ia.t (simW_and1 (pos := ‹Pos›) ib.t)
      exact ⟨sim_and ia.s (sim_one ib.s h.2), simT_W w, fun _ _ _ z => w⟩
    · have ib := okE o b _ h
      have w := simW_and ia.t (ib.w _ _ _ rfl)
      exact ⟨sim_and ia.s ib.s, simT_W w, fun _ _ _ z => w⟩
  | .or a b, e, h => by
    unfold chkE at h
    split at h <;> first | contradiction | skip
    simp only [Bool.and_eq_true] at h
    obtain ⟨ha, h⟩ := h
    have ia := okE o a _ ha
    split at h <;> first | contradiction | skip
    · simp only [Bool.and_eq_true, Bool.not_eq_true'] at h
      rw [o.hG] at h
      have ib := okE o b _ h.1
      have w := simW_or ia.t (simW_or1 (pos := ‹Pos›) ib.t)
      exact ⟨sim_or ia.s (sim_one ib.s h.2), simT_W w, fun _ _ _ z => w⟩
    · have ib := okE o b _ h
      have w := simW_or ia.t (ib.w _ _ _ rfl)
      exact ⟨sim_or ia.s ib.s, simT_W w, fun _ _ _ z => w⟩
  | .ite t a b, e, h => by
    unfold chkE at h
    split at h <;> first | contradiction | skip
    simp only [Bool.and_eq_true] at h
    obtain ⟨⟨ht, ha⟩, hb⟩ := h
    have it := okE o t _ ht
    have ia := okE o a _ ha
    have ib := okE o b _ hb
    exact okE_bi (sim_ite it.t ia.s ib.s) (simT_ite it.t ia.t ib.t fun hh => pt_ite it.t.t ia.t.t ib.t.t hh) (fun _ _ _ => nofun)
  | .tup es, e, h => by
    unfold chkE at h
    split at h <;> first | contradiction | skip
    simp only [Bool.and_eq_true] at h
    exact okE_of (sim_tup (okEs o es _ h.1 h.2).1) (fun _ => rfl) (fun _ _ _ => nofun)
  | .trng a b, e, h => by
    unfold chkE at h
    split at h <;> first | contradiction | skip
    simp only [Bool.and_eq_true, decide_eq_true_eq] at h
    obtain ⟨⟨⟨⟨⟨⟨⟨rfl, h1⟩, rfl⟩, h2⟩, h3⟩, h4⟩, h5⟩, h6⟩ := h
    obtain ⟨g1, g2, _⟩ := o.bltn h1
    obtain ⟨k1, k2, _⟩ := o.bltn h2
    exact okE_of (sim_trng o.calm k1 k2 g1 g2 (okE o a _ h5).s (okE o b _ h6).s (star_cons h3) (star_cons h4) (star_any (by simp [starsB, h4]))) (fun _ => rfl) (fun _ _ _ => nofun)
  | .dict0, e, h => by
    unfold chkE at h
    split at h <;> first | contradiction | skip
    exact okE_of sim_dict0 (fun _ => rfl) (fun _ _ _ => nofun)
  | .lst es, e, h => by
    unfold chkE at h
    split at h <;> first | contradiction | skip
    simp only [Bool.and_eq_true] at h
    exact okE_of (sim_lst (okEs o es _ h.1 h.2).1) (fun _ => rfl) (fun _ _ _ => nofun)
  | .rep es k, e, h => by
    unfold chkE at h
    split at h <;> first | contradiction | skip
    simp only [Bool.and_eq_true] at h
    exact okE_of (sim_rep (okEs o es _ h.1.1 h.1.2).1 (okE o k _ h.2).s) (fun _ => rfl) (fun _ _ _ => nofun)
  | .idx a i, e, h => by
    unfold chkE at h
    split at h <;> first | contradiction | skip
    simp only [Bool.and_eq_true] at h
    exact okE_of (sim_idx (okE o a _ h.1.1).s (okE o i _ h.1.2).s (plainIx_of h.2)) (fun _ => rfl) (fun _ _ _ => nofun)
  | .sli a lo hi, e, h => by
    unfold chkE at h
    split at h <;> first | contradiction | skip
    simp only [Bool.and_eq_true] at h
    exact okE_of (sim_sli (okE o a _ h.1.1).s (okEo o lo _ h.1.2) (okEo o hi _ h.2)) (fun _ => rfl) (fun _ _ _ => nofun)
  | .rev a, e, h => by
    unfold chkE at h
    by_cases hn : neverB a = true
    · refine okE_never fun env u => ?_
      unfold neverB at hn
      split at hn <;> first | contradiction | skip
      rfl
    · simp only [hn, Bool.false_or] at h
      split at h <;> first | contradiction | skip
      exact okE_of (sim_rev (okE o a _ h).s) (fun _ => rfl) (fun _ _ _ => nofun)
  | .rvt a, e, h => by
    unfold chkE at h
    split at h <;> first | contradiction | skip
    exact okE_of (sim_rvt (okE o a _ h).s) (fun _ => rfl) (fun _ _ _ => nofun)
  | .uidx k, e, h => by
    unfold chkE at h
    split at h <;> first | contradiction | skip
    simp only [Bool.and_eq_true] at h
    exact okE_of (sim_uidx (o.var h.1.1.2) (o.au.trans h.1.1.1) (okE o k _ h.1.2).s (plainIx_of h.2)) (fun _ => rfl) (fun _ _ _ => nofun)
  | .call f es perm, e, h => by
    unfold chkE at h
    split at h <;> first | contradiction | skip
    simp only [Bool.and_eq_true, decide_eq_true_eq] at h
    obtain ⟨⟨⟨⟨⟨h1, h2⟩, h3⟩, h4⟩, h5⟩, h6⟩ := h
    split at h6 <;> first | contradiction | skip
    rename_i en hT
    simp only [Bool.and_eq_true, decide_eq_true_eq, Bool.not_eq_true'] at h6
    obtain ⟨⟨h6, h7⟩, h8⟩ := h6
    obtain ⟨p1, p2, rfl, g1, g2, g3, g4⟩ := okA o es _ _ h3 h4 h5
    exact okE_of (okx_call o hT h6 h7 h1 h2 h3 h4 g1 g2 g3 g4 (by split at h8 <;> simp_all)) (fun _ => rfl) (fun _ _ _ => nofun)
  | .ucall f es, e, h => by
    unfold chkE at h
    split at h <;> first | contradiction | skip
    simp only [Bool.and_eq_true, decide_eq_true_eq] at h
    obtain ⟨⟨⟨⟨⟨⟨h1, h2⟩, h3⟩, h4⟩, h5⟩, h6⟩, h7⟩ := h
    split at h7 <;> first | contradiction | skip
    rename_i en hT
    simp only [Bool.and_eq_true, decide_eq_true_eq] at h7
    exact okE_of (okx_ucall o hT h7.1 h7.2 h1 h2 h3 h4 h5 (okEs o es _ h3 h6).1) (fun _ => rfl) (fun _ _ _ => nofun)
  | .ncall f a es, e, h => by
    unfold chkE at h
    split at h <;> first | contradiction | skip
    simp only [Bool.and_eq_true, decide_eq_true_eq] at h
    obtain ⟨⟨⟨⟨⟨⟨h1, h2⟩, h3⟩, h4⟩, h5⟩, h6⟩, h7⟩ := h
    split at h7 <;> first | contradiction | skip
    rename_i en hT
    simp only [Bool.and_eq_true, decide_eq_true_eq] at h7
    rw [o.hG] at h4
    exact okE_of (okx_ncall o hT h7.1 h7.2 h1 h2 h3 h4 (okE o a _ h5).s (okEs o es _ (by simp only [starsB, List.all_cons, Bool.and_eq_true] at h3; exact h3.2) h6).1) (fun _ => rfl) (fun _ _ _ => nofun)
  | .bi b es, e, h => by
    unfold chkE at h
    split at h <;> first | contradiction | skip
    simp only [Bool.and_eq_true] at h
    obtain ⟨h1, h⟩ := h
    refine okE_of ?_ (fun _ => rfl) (fun _ _ _ => nofun)
    have h1' := h1
    simp only [starsB, List.all_cons, Bool.and_eq_true] at h1'
    split at h
    · rename_i ty hty
      simp only [Bool.and_eq_true, decide_eq_true_eq] at h
      obtain ⟨⟨rfl, h2⟩, h⟩ := h
      split at h <;> first | contradiction | skip
      simp only [Bool.and_eq_true, decide_eq_true_eq] at h
      obtain ⟨⟨⟨h3, h4⟩, h5⟩, h6⟩ := h
      have ie := (okEs o es _ (by simp [starsB, h1'.1]) h5).2
      split at h6 <;> first | contradiction | skip
      exact okx_isi o hty h2 h4 h3 h1'.1 (ie _ _ rfl _ _ rfl)
    · split at h
      · simp only [Bool.and_eq_true, decide_eq_true_eq] at h
        obtain ⟨h2, ⟨g1, g2⟩, rfl⟩ := h
        exact sim_gcd (o.gl g2).1 (o.gcd g1) (okEs o es _ h1 h2).1 (star_cons h1'.1) (star_any h1'.2)
      · split at h <;> first | contradiction | skip
        simp only [Bool.and_eq_true, decide_eq_true_eq] at h
        obtain ⟨⟨⟨⟨rfl, k1⟩, k2⟩, k3⟩, k4, rfl⟩ := h
        obtain ⟨s1, s2, _⟩ := o.bltn k1
        obtain ⟨s3, s4, _⟩ := o.bltn k4
        exact sim_sortedSet o.calm (by have := o.un; omega) s3 s4 s1 s2 (okE o _ _ k3).s (star_cons k2)
      · simp only [Bool.and_eq_true, decide_eq_true_eq] at h
        exact okx_bi o h1 h.2.1 h.2.2 (okEs o es _ h1 h.1).1
  | .comp elt t it cond own, e, h => by
    unfold chkE at h
    split at h <;> first | contradiction | skip
    simp only [Bool.and_eq_true] at h
    obtain ⟨⟨⟨⟨⟨⟨h1, h2⟩, h3⟩, h4⟩, h5⟩, h6⟩, h7⟩ := h
    obtain ⟨k1, k2⟩ := ownB_ok o h4
    refine okE_of ?_ (fun _ => rfl) (fun _ _ _ => nofun)
    have hS := sim_comp (own := ownL c own) (pos := ‹Pos›) (ff := G.ff) o.calm (by rw [o.hN]; exact o.nd) (okI o it _ _ h1) (L2.blkOk_by (by rw [o.hN, o.sc]; exact h3)) (fun s H Ca cl fp => (chkG_ok (o.blk s H _ cl Ca fp) h5).1)
      (fun s H Ca cl fp => okC (o.blk s H _ cl Ca fp) cond _ h6) (fun s H Ca cl fp => (okE (o.blk s H _ cl Ca fp) elt _ h7).s) (by rw [ownL_map]; exact k1) (by rw [ownL_map]; exact k2) (fun x => folded_no h2)
    rw [ownL_map] at hS
    exact hS
theorem okEs {X : Cx} {c : CK} {G : Prog} {n : Nat} {au : Option Addr} (o : Okx X c G n au) : ∀ (p : Es) (es : List Expr), starsB es = true → chkEs c p es = true → SimA X (ctxN G n) au es p ∧ ∀ q qs, p = .cons q qs → ∀ e r, es = e :: r → Sim X (ctxN G n) G.ff au e q
  | .nil, es, _, h => by
    unfold chkEs at h
    obtain rfl := List.isEmpty_iff.mp h
    exact ⟨simA_nil, fun _ _ => nofun⟩
  | .cons q qs, es, hs, h => by
    unfold chkEs at h
    split at h <;> first | contradiction | skip
    simp only [Bool.and_eq_true] at h
    simp only [starsB, List.all_cons, Bool.and_eq_true] at hs
    have ih := okE o q _ h.1
    refine ⟨simA_cons ih.s (okEs o qs _ hs.2 h.2).1 (star_cons hs.1), fun q' qs' e1 e' r' e2 => ?_⟩
    cases e1
    cases e2
    exact ih.s
theorem okA {X : Cx} {c : CK} {G : Prog} {n : Nat} {au : Option Addr} (o : Okx X c G n au) : ∀ (p : Es) (es : List Expr) (ks : List Keyword), starsB es = true → kwsB ks = true → chkA c p es ks = true → ∃ p1 p2, p = esApp p1 p2 ∧ SimA X (ctxN G n) au es p1 ∧ SimK X (ctxN G n) au ks p2 ∧ esLen p1 = es.length ∧ esLen p2 = (kwNames ks).length
  | .nil, es, ks, _, _, h => by
    unfold chkA at h
    simp only [Bool.and_eq_true] at h
    obtain rfl := List.isEmpty_iff.mp h.1
    obtain rfl := List.isEmpty_iff.mp h.2
    exact ⟨.nil, .nil, rfl, simA_nil, simK_nil, rfl, rfl⟩
  | .cons q qs, es, ks, hs, hk, h => by
    unfold chkA at h
    split at h <;> first | contradiction | skip
    · simp only [Bool.and_eq_true] at h
      simp only [starsB, List.all_cons, Bool.and_eq_true] at hs
      obtain ⟨p1, p2, rfl, g1, g2, g3, g4⟩ := okA o qs _ _ hs.2 hk h.2
      exact ⟨.cons q p1, p2, rfl, simA_cons (okE o q _ h.1).s g1 (star_cons hs.1), g2, congrArg Nat.succ g3, g4⟩
    · rename_i k ks'
      simp only [Bool.and_eq_true] at h
      obtain ⟨nm, kv, kp⟩ := k
      simp only [kwsB, List.all_cons, Bool.and_eq_true] at hk
      obtain ⟨p1, p2, rfl, g1, g2, g3, g4⟩ := okA o qs _ _ rfl hk.2 h.2
      have p1n : p1 = .nil := by
        cases p1 with
        | nil => rfl
        | cons _ _ => simp [esLen] at g3
      subst p1n
      cases nm with
      | none => cases hk.1
      | some nm => exact ⟨.nil, .cons q p2, rfl, simA_nil, simK_cons (okE o q _ h.1).s g2, rfl, congrArg Nat.succ g4⟩
theorem okEo {X : Cx} {c : CK} {G : Prog} {n : Nat} {au : Option Addr} (o : Okx X c G n au) : ∀ (p : Eo) (e : Option Expr), chkEo c p e = true → SimO X (ctxN G n) au e p
  | .no, e, h => by
    unfold chkEo at h
    obtain rfl := Option.isNone_iff_eq_none.mp h
    exact simO_no
  | .yes p, e, h => by
    unfold chkEo at h
    split at h <;> first | contradiction | skip
    exact simO_yes (okE o p _ h).s
theorem okC {X : Cx} {c : CK} {G : Prog} {n : Nat} {au : Option Addr} (o : Okx X c G n au) : ∀ (p : Eo) (es : List Expr), chkC c p es = true → SimC X (ctxN G n) au es p
  | .no, es, h => by
    unfold chkC at h
    obtain rfl := List.isEmpty_iff.mp h
    exact simC_no
  | .yes p, es, h => by
    unfold chkC at h
    split at h <;> first | contradiction | skip
    exact simC_yes (okE o p _ h).t
theorem okI {X : Cx} {c : CK} {G : Prog} {n : Nat} {au : Option Addr} (o : Okx X c G n au) : ∀ (p : I) (tg e : Expr), chkI c p tg e = true → SimI X (ctxN G n) au tg e p
  | .seq p, tg, e, h => simI_seq (okE o p _ (by unfold chkI at h; exact h)).s
  | .range1 a, tg, e, h => by
    unfold chkI at h
    split at h <;> first | contradiction | skip
    simp only [Bool.and_eq_true, decide_eq_true_eq] at h
    obtain ⟨⟨⟨rfl, h1⟩, h2⟩, h3⟩ := h
    obtain ⟨g1, g2, _⟩ := o.bltn h1
    exact simI_range1 g1 g2 (simA_cons (okE o a _ h3).s simA_nil (star_cons h2)) (star_cons h2)
  | .range2 a b, tg, e, h => by
    unfold chkI at h
    split at h <;> first | contradiction | skip
    simp only [Bool.and_eq_true, decide_eq_true_eq] at h
    obtain ⟨⟨⟨⟨⟨rfl, h1⟩, h2⟩, h3⟩, h4⟩, h5⟩ := h
    obtain ⟨g1, g2, _⟩ := o.bltn h1
    have s2 : ∀ b : Expr, notStar b = true → starEach [b] X.env = [(false, eval b X.env)] := fun b hb => star_cons hb
    exact simI_range2 g1 g2 (simA_cons (okE o a _ h4).s (simA_cons (okE o b _ h5).s simA_nil (star_cons h3)) (star_cons h2)) ((star_cons h2).trans (congrArg _ (s2 _ h3))) (s2 _ h3)
  | .range3 _ _ _, tg, e, h => by unfold chkI at h; cases h
  | .revRange1 a, tg, e, h => by
    unfold chkI at h
    split at h <;> first | contradiction | skip
    simp only [Bool.and_eq_true, decide_eq_true_eq] at h
    obtain ⟨⟨⟨⟨⟨rfl, h1⟩, rfl⟩, h2⟩, h3⟩, h4⟩ := h
    obtain ⟨g1, g2, _⟩ := o.bltn h1
    obtain ⟨k1, k2, _⟩ := o.bltn h2
    exact simI_revRange1 k1 k2 g1 g2 (okE o a _ h4).s (star_cons h3)
  | .enum a, tg, e, h => by
    unfold chkI at h
    simp only [Bool.and_eq_true, Bool.not_eq_true'] at h
    obtain ⟨ht, h⟩ := h
    split at h <;> first | contradiction | skip
    simp only [Bool.and_eq_true, decide_eq_true_eq] at h
    obtain ⟨⟨⟨rfl, h1⟩, h2⟩, h3⟩ := h
    obtain ⟨g1, g2, _⟩ := o.bltn h1
    cases tg <;> first | (simp [notTup] at ht; done) | skip
    exact simI_enum g1 g2 (simA_cons (okE o a _ h3).s simA_nil (star_cons h2)) (star_cons h2)
  | .zip a b, tg, e, h => by
    unfold chkI at h
    simp only [Bool.and_eq_true, Bool.not_eq_true'] at h
    obtain ⟨ht, h⟩ := h
    split at h <;> first | contradiction | skip
    simp only [Bool.and_eq_true, decide_eq_true_eq] at h
    obtain ⟨⟨⟨⟨⟨rfl, h1⟩, h2⟩, h3⟩, h4⟩, h5⟩ := h
    obtain ⟨g1, g2, _⟩ := o.bltn h1
    cases tg <;> first | (simp [notTup] at ht; done) | skip
    exact simI_zip g1 g2 (simA_cons (okE o a _ h4).s (simA_cons (okE o b _ h5).s simA_nil (star_cons h3)) (star_cons h2)) (star_cons h2) (star_any (by simp [starsB, h3]))
  | .zip3 a b d, tg, e, h => by
    unfold chkI at h
    simp only [Bool.and_eq_true, Bool.not_eq_true'] at h
    obtain ⟨ht, h⟩ := h
    split at h <;> first | contradiction | skip
    simp only [Bool.and_eq_true, decide_eq_true_eq] at h
    obtain ⟨⟨⟨⟨⟨⟨⟨rfl, h1⟩, h2⟩, h3⟩, h4⟩, h5⟩, h6⟩, h7⟩ := h
    obtain ⟨g1, g2, _⟩ := o.bltn h1
    cases tg <;> first | (simp [notTup] at ht; done) | skip
    exact simI_zip3 g1 g2 (simA_cons (okE o a _ h5).s (simA_cons (okE o b _ h6).s (simA_cons (okE o d _ h7).s simA_nil (star_cons h4)) (star_cons h3)) (star_cons h2)) (star_cons h2) (star_any (by simp [starsB, h3, h4]))
  | .rev a, tg, e, h => by
    unfold chkI at h
    split at h <;> first | contradiction | skip
    simp only [Bool.and_eq_true, decide_eq_true_eq] at h
    obtain ⟨⟨⟨rfl, h1⟩, h2⟩, h3⟩ := h
    obtain ⟨g1, g2, _⟩ := o.bltn h1
    exact simI_rev g1 g2 (okE o a _ h3).s (star_cons h2)
end
end Pl

set_option maxHeartbeats 2000000
/-! PSound17: the checker is right: statements. -/
namespace Pl
open PySem PyProof.Rows
open L2 (V Hp HO VK XK TE TT TA TS TG TGs Cx PE PT PW PA PS PSs PG PGs PI PK Inv SqL SqT Dp DpAll Vals RelV EP Gl Vis Ends Sp FnScope Env0 CE CR CX0 Room Fun Binds KBinds upd)

/-! ### unpacking -/
def gTu : Tu → TG
  | .nm i => L2.gName i
  | .pl k => L2.gSub (L2.tVar 0) (L2.tC (.int k)) L2.rSetL
def gTus : List Tu → TGs
  | [] => L2.gNil
  | t :: ts => L2.gCons (gTu t) (gTus ts)
section
variable {K : PySem.W.Frag} {au : Option Addr} {H0 F0 : Hp}
theorem tus_go : ∀ {ts : List Tu} {ds : List D} {vs : List V} {σ : L2.St} {H F : Hp} {env env' : Env} {u u' : U} {Q : L2.St → Hp → Prop}, StR K au H0 F0 σ H F env u → DpAll K F vs ds → bindTu ts ds env u = some (env', u') →
    (∀ t ∈ ts, match t with | .nm i => (au.isSome = true → i ≠ 0) | .pl _ => au.isSome = true) → (∀ σ' H' F', StR K au H0 F0 σ' H' F' env' u' → Q σ' H') → gTus ts vs σ H Q
  | [], [], _, σ, H, F, env, env', u, u', Q, R, .nil, e, h0, k => by
    simp only [bindTu, Option.some.injEq, Prod.mk.injEq] at e
    obtain ⟨rfl, rfl⟩ := e
    exact ⟨rfl, k _ _ _ R⟩
  | [], _ :: _, _, σ, H, F, env, env', u, u', Q, R, r, e, h0, k => by simp [bindTu] at e
  | .nm _ :: _, [], _, σ, H, F, env, env', u, u', Q, R, r, e, h0, k => by simp [bindTu] at e
  | .pl _ :: _, [], _, σ, H, F, env, env', u, u', Q, R, r, e, h0, k => by simp [bindTu] at e
  | .nm i :: ts, d :: ds, _, σ, H, F, env, env', u, u', Q, R, .cons a t, e, h0, k => by
    simp only [bindTu] at e
    exact ⟨_, _, rfl, tus_go (ts := ts) (R.put (s := .imm d) a (h0 (.nm i) List.mem_cons_self)) t e (fun t ht => h0 t (List.mem_cons_of_mem _ ht)) k⟩
  | .pl j :: ts, .int z :: ds, _, σ, H, F, env, env', u, u', Q, R, .cons a t, e, h0, k => by
    simp only [bindTu] at e
    split at e <;> first | contradiction | skip
    rename_i hl
    obtain ⟨p, hp⟩ := Option.isSome_iff_exists.mp (h0 (.pl j) List.mem_cons_self)
    refine ⟨_, _, rfl, _, R.s0 p hp, p, u.map V.int, j, j, rfl, rfl, (R.urn p hp).1, ?_, ?_⟩
    · rw [List.length_map]
      unfold L2.ixN
      rw [if_pos (Int.natCast_nonneg j), if_pos (by exact_mod_cast hl)]
      simp
    · have R2 := R.urnSet hp (u.set j z)
      rw [List.map_set] at R2
      obtain rfl := dp_int a
      exact tus_go (ts := ts) R2 t e (fun t ht => h0 t (List.mem_cons_of_mem _ ht)) k
  | .pl j :: ts, .none :: ds, _, σ, H, F, env, env', u, u', Q, R, r, e, h0, k => by simp [bindTu] at e
  | .pl j :: ts, .bool _ :: ds, _, σ, H, F, env, env', u, u', Q, R, r, e, h0, k => by simp [bindTu] at e
  | .pl j :: ts, .str _ :: ds, _, σ, H, F, env, env', u, u', Q, R, r, e, h0, k => by simp [bindTu] at e
  | .pl j :: ts, .list _ :: ds, _, σ, H, F, env, env', u, u', Q, R, r, e, h0, k => by simp [bindTu] at e
  | .pl j :: ts, .tuple _ :: ds, _, σ, H, F, env, env', u, u', Q, R, r, e, h0, k => by simp [bindTu] at e
  | .pl j :: ts, .dict _ :: ds, _, σ, H, F, env, env', u, u', Q, R, r, e, h0, k => by simp [bindTu] at e
theorem bindTu_len : ∀ {ts : List Tu} {ds : List D} {env env' : Env} {u u' : U}, bindTu ts ds env u = some (env', u') → ds.length = ts.length
  | [], [], _, _, _, _, _ => rfl
  | [], _ :: _, _, _, _, _, h => by simp [bindTu] at h
  | .nm _ :: _, [], _, _, _, _, h => by simp [bindTu] at h
  | .pl _ :: _, [], _, _, _, _, h => by simp [bindTu] at h
  | .nm _ :: ts, _ :: ds, _, _, _, _, h => by simp only [bindTu] at h; exact congrArg Nat.succ (bindTu_len h)
  | .pl _ :: ts, d :: ds, _, _, _, _, h => by
    cases d <;> simp only [bindTu] at h <;> first | contradiction | skip
    split at h <;> first | contradiction | skip
    exact congrArg Nat.succ (bindTu_len h)
end

section
variable {X : Cx} {c : CK} {G : Prog} {n : Nat} {au : Option Addr} {C : Ctx} {ff : String → Bool} {fr : Bool}
theorem simS_unp {e : Expr} {p : E} {ts : List Tu} {st : Stmt} (he : Sim X C ff au e p) (h0 : ∀ t ∈ ts, match t with | .nm i => (au.isSome = true → i ≠ 0) | .pl _ => au.isSome = true)
    (h : ∀ {te : TE}, PE X e te → PS X st (L2.tAsg te (L2.gTup X.K ts.length (gTus ts)))) : SimS X C ff au fr st (.unp ts p) :=
  ⟨fun H0 F0 => (h he.pl).imp fun D σ H ⟨F, env, u, oo, R, ev, kk⟩ => by
    simp only [execS] at ev
    obtain ⟨⟨d, u1⟩, e1, ev⟩ := Option.bind_eq_some_iff.mp ev
    cases d <;> simp only at ev <;> first | contradiction | skip
    rename_i ds
    obtain ⟨⟨env2, u2⟩, e2, ev⟩ := Option.bind_eq_some_iff.mp ev
    cases ev
    refine ⟨_, env, u, _, u1, R.at_ (fvE p), e1, fun v F1 H1 P1 r1 => ?_⟩
    obtain ⟨F2, R2, d2⟩ := R.aft P1 r1
    obtain ⟨a, xs, rfl, q1, q2⟩ := dp_tuple d2
    exact ⟨a, xs, rfl, sqT_sub R2.sub q1, by rw [dpAll_len q2, bindTu_len e2], tus_go R2 q2 e2 h0 fun σ' H' F' R' => kk _ _ _ R'⟩⟩
theorem tuB_ok (o : Okx X c G n au) : ∀ {ts : List Tu} {es : List Expr}, tuB c ts es = true → PGs X es (gTus ts) ∧ (assignEach es X.env).length = ts.length ∧ (assignEach es X.env).findIdx? (·.1) = none ∧ (∀ t ∈ ts, match t with | .nm i => (au.isSome = true → i ≠ 0) | .pl _ => au.isSome = true)
  | [], [], _ => ⟨L2.pgs_nil, rfl, rfl, fun _ h => by cases h⟩
  | [], _ :: _, h => by simp [tuB] at h
  | .nm _ :: _, [], h => by simp [tuB] at h
  | .pl _ :: _, [], h => by simp [tuB] at h
  | .nm i :: ts, e :: es, h => by
    unfold tuB at h
    split at h <;> first | contradiction | skip
    rotate_left
    · rename_i e1 e2; cases e1
    · rename_i e1 e2
      cases e1
      cases e2
      simp only [Bool.and_eq_true] at h
      obtain ⟨g1, g2, _⟩ := o.tgt (pos := ‹Pos›) h.1
      obtain ⟨k1, k2, k3, k4⟩ := tuB_ok o h.2
      refine ⟨L2.pgs_cons g1 k1 rfl, congrArg Nat.succ k2, ?_, fun t ht => ?_⟩
      · show ((false, _) :: assignEach es X.env).findIdx? (·.1) = none
        rw [List.findIdx?_cons, k3]
        rfl
      · rcases List.mem_cons.mp ht with e | e
        · subst e; exact g2
        · exact k4 t e
  | .pl i :: ts, e :: es, h => by
    unfold tuB at h
    split at h <;> first | contradiction | skip
    · rename_i e1 e2; cases e1
    · rename_i e1 e2
      cases e1
      cases e2
      simp only [Bool.and_eq_true, decide_eq_true_eq] at h
      obtain ⟨⟨⟨h1, h2⟩, rfl⟩, h4⟩ := h
      obtain ⟨k1, k2, k3, k4⟩ := tuB_ok o h4
      refine ⟨L2.pgs_cons (L2.pg_sub (o.var h2) L2.pe_int L2.set_list (fun _ => rfl)) k1 rfl, congrArg Nat.succ k2, ?_, fun t ht => ?_⟩
      · show ((false, _) :: assignEach es X.env).findIdx? (·.1) = none
        rw [List.findIdx?_cons, k3]
        rfl
      · rcases List.mem_cons.mp ht with e | e
        · subst e; exact o.au.trans h1
        · exact k4 t e

/-! ### stores of pairs -/
theorem blockKind_fn (o : Okx X c G n au) (h : c.sc.kind = .function) : X.env.blockKind = .function := by
  unfold Env.blockKind
  rw [o.sc, h]
  rfl
theorem stars_any {vs : List Expr} (h : starsB vs = true) : (vs.any fun | .Starred .. => true | _ => false) = false := by
  rw [List.any_eq_false]
  intro v hv
  have := List.all_eq_true.mp h v hv
  cases v <;> simp_all [notStar]
def isStar (v : Expr) : Bool := match v with | .Starred _ _ => true | _ => false
theorem star_m {v : Expr} (h : notStar v = true) : isStar v = false := by
  cases v <;> first | rfl | (simp [notStar] at h)
theorem swapped_none1 {t e : Expr} {env : PySem.Env} (h : notTup e = true) : swappedStores [t] e env = pure none := by
  cases e <;> first | (simp [notTup] at h; done) | (cases t <;> rfl)
theorem par2_ok (o : Okx X c G n au) {x y : Str} {px py pt pv : Pos} {kt kv : Nat} {a b : Expr} (h : parB c [.Name x px, .Name y py] [a, b] = true) :
    swappedStores [.Tuple [.Name x px, .Name y py] kt pt] (.Tuple [a, b] kv pv) X.env = pure (some [x, y]) ∧ X.env.scope.names.lookup x = some .local ∧ X.env.scope.names.lookup y = some .local := by
  unfold parB at h
  simp only [Bool.and_eq_true, decide_eq_true_eq, Bool.not_eq_true'] at h
  obtain ⟨⟨⟨⟨⟨h1, ⟨⟨h2, h3⟩, h4⟩, h5⟩, _⟩, h6⟩, h7⟩, h8⟩ := h
  have kx := o.kind h2
  have ky := o.kind h3
  refine ⟨?_, kx, ky⟩
  have nx : X.env.kindOf x = some .local := kx
  have ny : X.env.kindOf y = some .local := ky
  have hd : ([x, y] : List Str).eraseDups = [x, y] := by
    have e1 : (y == x) = false := by
      rw [beq_eq_false_iff_ne] at h5 ⊢
      exact fun z => h5 z.symm
    simp [List.eraseDups_cons, e1]
  unfold swappedStores
  simp [blockKind_fn o h1, h7, h8, nx, ny, h4, Expr.pos, hd]
  simp only [starsB, List.all_cons, Bool.and_eq_true] at h6
  rintro (hh | hh)
  · exact Bool.noConfusion ((star_m h6.1).symm.trans (show isStar _ = true from hh))
  · exact Bool.noConfusion ((star_m h6.2.1).symm.trans (show isStar _ = true from hh))
theorem par3_ok (o : Okx X c G n au) {x y z : Str} {px py pz pt pv : Pos} {kt kv : Nat} {a b d : Expr} (h : parB c [.Name x px, .Name y py, .Name z pz] [a, b, d] = true) :
    swappedStores [.Tuple [.Name x px, .Name y py, .Name z pz] kt pt] (.Tuple [a, b, d] kv pv) X.env = pure (some [x, y, z]) ∧ X.env.scope.names.lookup x = some .local ∧ X.env.scope.names.lookup y = some .local ∧ X.env.scope.names.lookup z = some .local := by
  unfold parB at h
  simp only [Bool.and_eq_true, decide_eq_true_eq, Bool.not_eq_true'] at h
  obtain ⟨⟨⟨⟨⟨h1, ⟨⟨⟨⟨⟨⟨h2, h3⟩, h3'⟩, h4⟩, h4'⟩, h5⟩, h5'⟩, h5''⟩, _⟩, h6⟩, h7⟩, h8⟩ := h
  have kx := o.kind h2
  have ky := o.kind h3
  have kz := o.kind h3'
  refine ⟨?_, kx, ky, kz⟩
  have nx : X.env.kindOf x = some .local := kx
  have ny : X.env.kindOf y = some .local := ky
  have nz : X.env.kindOf z = some .local := kz
  have flip : ∀ {x y : Str}, (x == y) = false → (y == x) = false := fun {x y} h => by
    rw [beq_eq_false_iff_ne] at h ⊢
    exact fun z => h z.symm
  have hd : ([x, y, z] : List Str).eraseDups = [x, y, z] := by
    simp [List.eraseDups_cons, flip h5, flip h5', flip h5'']
  unfold swappedStores
  simp [blockKind_fn o h1, h7, h8, nx, ny, nz, h4, h4', Expr.pos, hd]
  simp only [starsB, List.all_cons, Bool.and_eq_true] at h6
  rintro (hh | hh | hh)
  · exact Bool.noConfusion ((star_m h6.1).symm.trans (show isStar _ = true from hh))
  · exact Bool.noConfusion ((star_m h6.2.1).symm.trans (show isStar _ = true from hh))
  · exact Bool.noConfusion ((star_m h6.2.2.1).symm.trans (show isStar _ = true from hh))
end
end Pl

set_option maxHeartbeats 2000000
/-! PSound18: the checker is right: statements. -/
namespace Pl
open PySem PyProof.Rows
open L2 (V Hp HO VK XK TE TT TA TS TG TGs Cx PE PT PW PA PS PSs PG PGs PI PK Inv SqL SqT Dp DpAll Vals RelV EP Gl Vis Ends Sp FnScope Env0 CE CR CX0 Room Fun Binds KBinds upd)

section
variable {X : Cx} {c : CK} {G : Prog} {n : Nat} {au : Option Addr} {C : Ctx} {ff : String → Bool} {fr : Bool}
theorem fm1 {f : Expr → Option Str} {t : Expr} {ts : List Expr} (h : f t = none) : (List.filterMap f (t :: ts)).length ≠ (t :: ts).length := by
  rw [List.filterMap_cons, h]
  have := List.length_filterMap_le f ts
  simp only [List.length_cons]
  omega
theorem fm2 {f : Expr → Option Str} {t t2 : Expr} {ts : List Expr} (h : f t2 = none) : (List.filterMap f (t :: t2 :: ts)).length ≠ (t :: t2 :: ts).length := by
  have := List.length_filterMap_le f ts
  rw [List.filterMap_cons, List.filterMap_cons, h]
  split <;> simp only [List.length_cons] <;> omega
theorem unp_ok (o : Okx X c G n au) {ts : List Expr} {e : Expr} {kt : Nat} {pt : Pos} (h : unpB c ts e = true) : swappedStores [.Tuple ts kt pt] e X.env = pure none := by
  cases e <;> first | rfl | skip
  rename_i vs kv pv
  unfold unpB at h
  simp only [Bool.or_eq_true, Bool.not_eq_true', Bool.or_eq_false_iff, decide_eq_false_iff_not] at h
  have nm : ∀ {x : Str}, c.kindB x .local = false → (X.env.kindOf x == some .local) = false := fun {x} q => by
    have q2 : ¬ c.sc.names.lookup x = some .local := of_decide_eq_false q
    rw [beq_eq_false_iff_ne]
    show X.env.scope.names.lookup x ≠ some .local
    rw [o.sc]
    exact q2
  unfold swappedStores
  simp only [pure_bind]
  split
  · rfl
  rename_i g1
  split
  · rfl
  rename_i g2
  split
  · rfl
  rename_i g3
  split
  · rfl
  rename_i g4
  exfalso
  rcases h with ((h | h) | h) | h
  · simp only [Bool.or_eq_true, Bool.not_eq_true', Bool.or_eq_false_iff, not_or, beq_eq_false_iff_ne] at g1
    exact g1.1.1 h
  · exact g4 h
  · cases ts with
    | nil => simp at g1
    | cons t ts =>
      simp only [Bool.or_eq_true, not_or] at g3
      refine g3.1 ?_
      rw [bne_iff_ne]
      refine fm1 ?_
      cases t <;> first | rfl | skip
      have q := nm (by simpa using h)
      simp [q]
  · match ts, h, g1, g3 with
    | [], h, g1, g3 => simp at g1
    | [_], h, g1, g3 => simp at g1
    | t :: t2 :: ts, h, g1, g3 =>
      simp only [Bool.or_eq_true, not_or] at g3
      refine g3.1 ?_
      rw [bne_iff_ne]
      refine fm2 ?_
      cases t2 <;> first | rfl | skip
      have q := nm (by simpa using h)
      simp [q]
theorem sub_assign {x i : Expr} {pos : Pos} {env : PySem.Env} {v : Value} (h : notSlice i = true) : assign (.Subscript x i pos) env v = (do
      let ov ← holding [v] (eval x env)
      let iv ← holding [v, ov] (eval i env)
      standAt pos
      holding [v, ov, iv] (setItem ov iv v)
      release [v, ov, iv] []) := by
  cases i <;> first | rfl | (simp [notSlice] at h)
theorem sub_swapped {x i : Expr} {pos : Pos} {env : PySem.Env} (e : Expr) : swappedStores [.Subscript x i pos] e env = pure none := by
  cases e <;> rfl
theorem few_ok {a : Expr} {cpos : Pos} {env : PySem.Env} (h : notStar a = true) : ((backTo cpos (starEach [a] env)).all (fun x => !x.1) && (backToKw cpos (keywordEach [] env)).all (fun x => x.1.isSome)
      && decide (([a] : List Expr).length + ([] : List Keyword).length + (if ([] : List Keyword).isEmpty then 0 else 1) < 30)) = true := by
  rw [star_cons h]
  rfl
theorem few_ok2 {a b : Expr} {cpos : Pos} {env : PySem.Env} (h : notStar a = true) (h' : notStar b = true) : ((backTo cpos (starEach [a, b] env)).all (fun x => !x.1) && (backToKw cpos (keywordEach [] env)).all (fun x => x.1.isSome)
      && decide (([a, b] : List Expr).length + ([] : List Keyword).length + (if ([] : List Keyword).isEmpty then 0 else 1) < 30)) = true := by
  rw [star_cons h, star_cons h']
  rfl
theorem simS_none {st : Stmt} {s : S} (h : ∀ env u, execS C ff s env u = none) : SimS X C ff au fr st s := ⟨fun H0 F0 => L2.ps_never.imp fun D σ H ⟨F, env, u, o, R, ev, k⟩ => by rw [h] at ev; cases ev⟩
theorem never_ev {p : E} {st : Expr} (h : chkE c p st = true) (hl : notComp st = false) : (∃ elt t it cond own, p = .comp elt t it cond own) ∨ ∀ env u, evalE C p env u = none := by
  cases st <;> first | (simp [notComp] at hl; done) | skip
  all_goals (cases p <;> first | exact (Bool.false_ne_true h).elim | exact .inl ⟨_, _, _, _, _, rfl⟩ | skip)
  all_goals
    refine .inr fun env u => ?_
    unfold chkE at h
    rename_i a
    have hn : neverB a = true := by simpa using h
    unfold neverB at hn
    split at hn <;> first | contradiction | rfl

end

theorem swaps_cell {elt : Expr} {gs : List Comprehension} {scope : Scope} {pos py : Pos} {y : Str} {l : Nat} {env : PySem.Env} (hy : env.scope.names.lookup y = some .cell) : swapsWith (.ListComp elt gs scope pos) (some (.Name y py)) l env = pure false := by
  have ky : env.kindOf y = some .cell := hy
  unfold swapsWith
  simp only [ky]
  have : ((some NameKind.cell : Option NameKind) == some NameKind.local) = false := by decide
  simp [this]
mutual
theorem okS {X : Cx} {c : CK} {G : Prog} {n : Nat} {au : Option Addr} (o : Okx X c G n au) {fr : Bool} : ∀ (s : S) (st : Stmt), chkS c fr s st = true → SimS X (ctxN G n) G.ff au fr st s
  | .set i p, st, h => by
    unfold chkS at h
    split at h <;> first | contradiction | skip
    rename_i x px e pos
    simp only [Bool.and_eq_true, Bool.or_eq_true] at h
    obtain ⟨⟨h1, h2⟩, h3⟩ := h
    obtain ⟨g1, g2, g3, g4, g5⟩ := o.tgt (pos := px) h1
    have nd : X.N.Nodup := by rw [o.hN]; exact o.nd
    by_cases hc : notComp e = true
    · exact simS_set (fun he => L2.ps_set nd g3 g4 he (swaps_no hc) g5) (okE o p _ h2).s g2
    · have hc' : notComp e = false := by simpa using hc
      rcases h3 with h3 | h3
      rotate_left
      · split at h3 <;> first | contradiction | skip
        exact simS_set (fun he => L2.ps_set nd g3 g4 he (swaps_cell (o.kind h3)) g5) (okE o p _ h2).s g2
      rcases never_ev (C := ctxN G n) h2 hc' with ⟨elt, t, it, cond, own, rfl⟩ | hv
      · unfold chkE at h2
        split at h2 <;> first | contradiction | skip
        simp only [hc', Bool.false_eq_true, false_or, Bool.and_eq_true, Bool.not_eq_true'] at h3
        obtain ⟨⟨⟨⟨k1, k2⟩, k3⟩, _⟩, k5⟩ := h3
        simp only [Bool.and_eq_true] at h2
        obtain ⟨⟨⟨⟨⟨⟨h1, h2⟩, h3⟩, h4⟩, h5⟩, h6⟩, h7⟩ := h2
        obtain ⟨q1, q2⟩ := ownB_ok o h4
        have kk : X.env.scope.kind = .function := by rw [o.sc]; exact of_decide_eq_true k2
        have hS := simS_setLc (own := ownL c own) (pos := ‹Pos›) (pos2 := px) (spos := pos) (ff := G.ff) (fr := fr) o.calm nd g3 (o.kind k1) (L2.sw_true kk (o.kind k1) k3 k5) (okI o it _ _ h1) (L2.blkOk_by (by rw [o.hN, o.sc]; exact h3))
          (fun s H Ca cl fp => (chkG_ok (o.blk s H _ cl Ca fp) h5).1) (fun s H Ca cl fp => okC (o.blk s H _ cl Ca fp) cond _ h6) (fun s H Ca cl fp => (okE (o.blk s H _ cl Ca fp) elt _ h7).s)
          (by rw [ownL_map]; exact q1) g2 (by rw [ownL_map]; exact q2) (fun x => folded_no h2)
        rw [ownL_map] at hS
        exact hS
      · exact simS_none fun env u => by simp [execS, hv]
  | .set2 i j p, st, h => by
    unfold chkS at h
    split at h <;> first | contradiction | skip
    simp only [Bool.and_eq_true] at h
    obtain ⟨⟨⟨⟨h1, h2⟩, h3⟩, h4⟩, h5⟩ := h
    rename_i x px y py e pos
    obtain ⟨g1, g2, _⟩ := o.tgt (pos := px) h1
    obtain ⟨k1, k2, _⟩ := o.tgt (pos := py) h2
    exact simS_set2 g1 k1 rfl rfl (okE o p _ h3).s fun ha => ⟨g2 ha, k2 ha⟩
  | .par is es, st, h => by
    unfold chkS at h
    split at h <;> first | contradiction | skip
    rename_i ts kt pt vs kv pv pos
    simp only [Bool.and_eq_true, decide_eq_true_eq] at h
    obtain ⟨⟨⟨h1, h2⟩, h3⟩, h4⟩ := h
    have nd : X.N.Nodup := by rw [o.hN]; exact o.nd
    have h2' := h2
    unfold parB at h2
    simp only [Bool.and_eq_true, decide_eq_true_eq, Bool.not_eq_true'] at h2
    obtain ⟨⟨⟨⟨⟨_, b2⟩, b3⟩, b4⟩, _⟩, _⟩ := h2
    split at b2 <;> first | contradiction | skip
    · rename_i x px y py
      match vs, b3 with
      | [a, b], _ =>
        match is, h1, h4 with
        | [i, j], h1, h4 =>
          obtain ⟨w1, w2, w3⟩ := par2_ok (pt := pt) (pv := pv) (kt := kt) (kv := kv) o h2'
          simp only [namesB, Bool.and_eq_true] at h1
          obtain ⟨_, g2, g3, _⟩ := o.tgt (pos := px) h1.1
          obtain ⟨_, k2, k3, _⟩ := o.tgt (pos := py) h1.2.1
          have hij : i ≠ j := by simpa using h4
          match es, h3 with
          | .cons pa (.cons pb .nil), h3 =>
            simp only [chkEs, Bool.and_eq_true] at h3
            simp only [starsB, List.all_cons, Bool.and_eq_true] at b4
            refine simS_par2 (simAR_cons (okE o pa _ h3.1).s (simAR_cons (okE o pb _ h3.2.1).s simAR_nil (star_cons b4.2.1)) (star_cons b4.1)) (fun ha => L2.ps_par o.calm nd g3 k3 hij w2 w3 ha w1 (swapsSole_no rfl)) (fun vs ds F' H' Hb r => rrAll_2 r) fun ha hm => ?_
            simp only [List.mem_cons, List.not_mem_nil, or_false] at hm
            rcases hm with e | e
            · exact g2 ha e.symm
            · exact k2 ha e.symm
          | .nil, h3 => simp [chkEs] at h3
          | .cons _ .nil, h3 => simp [chkEs] at h3
          | .cons _ (.cons _ (.cons _ _)), h3 => simp [chkEs] at h3
        | [], h1, _ => simp [namesB] at h1
        | [_], h1, _ => simp [namesB] at h1
        | _ :: _ :: _ :: _, h1, _ => simp [namesB] at h1
    · rename_i x px y py z pz
      match vs, b3 with
      | [a, b, d], _ =>
        match is, h1, h4 with
        | [i, j, l], h1, h4 =>
          obtain ⟨w1, w2, w3, w4⟩ := par3_ok (pt := pt) (pv := pv) (kt := kt) (kv := kv) o h2'
          simp only [namesB, Bool.and_eq_true] at h1
          obtain ⟨_, g2, g3, _⟩ := o.tgt (pos := px) h1.1
          obtain ⟨_, k2, k3, _⟩ := o.tgt (pos := py) h1.2.1
          obtain ⟨_, m2, m3, _⟩ := o.tgt (pos := pz) h1.2.2.1
          have hd : i ≠ j ∧ i ≠ l ∧ j ≠ l := by
            simp only [List.nodup_cons, List.mem_cons, List.not_mem_nil, or_false, not_or] at h4
            exact ⟨h4.1.1, h4.1.2, h4.2.1⟩
          match es, h3 with
          | .cons pa (.cons pb (.cons pd .nil)), h3 =>
            simp only [chkEs, Bool.and_eq_true] at h3
            simp only [starsB, List.all_cons, Bool.and_eq_true] at b4
            refine simS_par3 (simAR_cons (okE o pa _ h3.1).s (simAR_cons (okE o pb _ h3.2.1).s (simAR_cons (okE o pd _ h3.2.2.1).s simAR_nil (star_cons b4.2.2.1)) (star_cons b4.2.1)) (star_cons b4.1)) (fun ha => L2.ps_par3 o.calm nd g3 k3 m3 hd.1 hd.2.1 hd.2.2 w2 w3 w4 ha w1 (swapsSole_no rfl)) (fun vs ds F' H' Hb r => rrAll_3 r) fun ha hm => ?_
            simp only [List.mem_cons, List.not_mem_nil, or_false] at hm
            rcases hm with e | e | e
            · exact g2 ha e.symm
            · exact k2 ha e.symm
            · exact m2 ha e.symm
          | .nil, h3 => simp [chkEs] at h3
          | .cons _ .nil, h3 => simp [chkEs] at h3
          | .cons _ (.cons _ .nil), h3 => simp [chkEs] at h3
          | .cons _ (.cons _ (.cons _ (.cons _ _))), h3 => simp [chkEs] at h3
        | [], h1, _ => simp [namesB] at h1
        | [_], h1, _ => simp [namesB] at h1
        | [_, _], h1, _ => simp [namesB] at h1
        | _ :: _ :: _ :: _ :: _, h1, _ => simp [namesB] at h1
  | .unp us p, st, h => by
    unfold chkS at h
    split at h <;> first | contradiction | skip
    simp only [Bool.and_eq_true] at h
    rename_i ts kt pt e pos
    obtain ⟨⟨⟨h1, h2⟩, h3⟩, h4⟩ := h
    obtain ⟨k1, k2, k3, k4⟩ := tuB_ok o h1
    exact simS_unp (okE o p _ h4).s k4 fun he => L2.ps_asg he (L2.pg_tup o.calm k1 k2 k3) (swapsSole_no h3) (unp_ok o h2) rfl
  | .setI i k p, st, h => by
    unfold chkS at h
    split at h <;> first | contradiction | skip
    simp only [Bool.and_eq_true] at h
    obtain ⟨⟨⟨⟨h1, h2⟩, h3⟩, h4⟩, h5⟩ := h
    exact simS_setI (okE o p _ h3).s (o.var h1) (okE o k _ h2).s fun he hk => L2.ps_asg he (L2.pg_sub (o.var h1) hk L2.set_list (fun v => sub_assign h5)) (swapsSole_no h4) (sub_swapped _) rfl
  | .setU k p, st, h => by
    unfold chkS at h
    split at h <;> first | contradiction | skip
    simp only [Bool.and_eq_true] at h
    obtain ⟨⟨⟨⟨⟨h0, h1⟩, h2⟩, h3⟩, h4⟩, h5⟩ := h
    exact simS_setU (o.au.trans h0) (okE o p _ h3).s (o.var h1) (okE o k _ h2).s fun he hk => L2.ps_asg he (L2.pg_sub (o.var h1) hk L2.set_list (fun v => sub_assign h5)) (swapsSole_no h4) (sub_swapped _) rfl
  | .app i p, st, h => by
    unfold chkS at h
    split at h <;> first | contradiction | skip
    simp only [Bool.and_eq_true, decide_eq_true_eq] at h
    obtain ⟨⟨⟨⟨h1, rfl⟩, h2⟩, h3⟩, h4⟩ := h
    exact simS_app (okE o p _ h4).s fun he => L2.ps_expr (L2.pe_bm PySem.F.plainAttrs_list PySem.F.slot_list_append PySem.F.type_list_append L2.mt_append (o.var h1) (L2.pa_cons he L2.pa_nil (star_cons h3)) rfl (few_ok h3) h2 (star_cons h3) rfl) rfl
  | .pop i, st, h => by
    unfold chkS at h
    split at h <;> first | contradiction | skip
    simp only [Bool.and_eq_true, decide_eq_true_eq] at h
    obtain ⟨⟨h1, rfl⟩, h2⟩ := h
    exact simS_pop (L2.ps_expr (L2.pe_bm0 PySem.F.plainAttrs_list PySem.F.slot_list_pop PySem.F.type_list_pop L2.mt_pop (o.var h1) rfl h2) rfl)
  | .ins i k p, st, h => by
    unfold chkS at h
    split at h <;> first | contradiction | skip
    simp only [Bool.and_eq_true, decide_eq_true_eq] at h
    obtain ⟨⟨⟨⟨⟨⟨h1, rfl⟩, h2⟩, h3⟩, h4⟩, h5⟩, h6⟩ := h
    exact simS_ins (okE o k _ h5).s (okE o p _ h6).s fun hk he => L2.ps_expr (L2.pe_bm PySem.F.plainAttrs_list PySem.F.slot_list_insert PySem.F.type_list_insert L2.mt_insert (o.var h1) (L2.pa_cons hk (L2.pa_cons he L2.pa_nil (star_cons h4)) (star_cons h3)) rfl (few_ok2 h3 h4) h2 (star_cons h3) (star_any (by simp [starsB, h4]))) rfl
  | .drop p, st, h => by
    unfold chkS at h
    split at h <;> first | contradiction | skip
    simp only [Bool.and_eq_true] at h
    exact simS_drop (okE o p _ h.1).s (swaps_no h.2)
  | .ite t a b, st, h => by
    unfold chkS at h
    split at h <;> first | contradiction | skip
    simp only [Bool.and_eq_true] at h
    exact simS_ite (okE o t _ h.1.1).t (okSs o a _ h.1.2) (okSs o b _ h.2)
  | .whil t b, st, h => by
    unfold chkS at h
    split at h <;> first | contradiction | skip
    simp only [Bool.and_eq_true] at h
    exact simS_whil o.own (okE o t _ h.1).t (okSs o b _ h.2)
  | .for_ t it b, st, h => by
    unfold chkS at h
    split at h <;> first | contradiction | skip
    simp only [Bool.and_eq_true] at h
    obtain ⟨⟨⟨h1, h2⟩, h3⟩, h4⟩ := h
    obtain ⟨g1, g2⟩ := chkG_ok o h3
    exact simS_for o.own o.calm (okI o it _ _ h1) g1 (okSs o b _ h4) g2 fun x => folded_no h2
  | .ret p, st, h => by
    unfold chkS at h
    simp only [Bool.and_eq_true, Bool.not_eq_true'] at h
    obtain ⟨rfl, h⟩ := h
    split at h <;> first | contradiction | skip
    · exact simS_ret (okE o p _ h).s
    · unfold neverB at h
      split at h <;> first | contradiction | skip
      exact simS_retN
  | .retF p, st, h => by
    unfold chkS at h
    simp only [Bool.and_eq_true] at h
    obtain ⟨rfl, h⟩ := h
    split at h <;> first | contradiction | skip
    rename_i e pos
    by_cases hv : ∃ i, p = .var i
    · obtain ⟨i, rfl⟩ := hv
      unfold chkE at h
      split at h <;> first | contradiction | skip
      exact simS_retFV (o.var h)
    · exact simS_retF (fun i e => hv ⟨i, e⟩) (okE o p _ h).s
  | .brk, st, h => by
    unfold chkS at h
    split at h <;> first | contradiction | skip
    exact simS_brk
  | .cont, st, h => by
    unfold chkS at h
    split at h <;> first | contradiction | skip
    exact simS_cont
  | .pass, st, h => by
    unfold chkS at h
    split at h <;> first | contradiction | skip
    exact simS_pass
  | .raise, st, h => simS_raise
theorem okSs {X : Cx} {c : CK} {G : Prog} {n : Nat} {au : Option Addr} (o : Okx X c G n au) {fr : Bool} : ∀ (s : Ss) (st : List Stmt), chkSs c fr s st = true → SimSs X (ctxN G n) G.ff au fr st s
  | .nil, st, h => by
    unfold chkSs at h
    obtain rfl := List.isEmpty_iff.mp h
    exact simSs_nil
  | .cons s ss, st, h => by
    unfold chkSs at h
    split at h <;> first | contradiction | skip
    simp only [Bool.and_eq_true] at h
    exact simSs_cons (okS o s _ h.1) (okSs o ss _ h.2)
end
end Pl

set_option maxHeartbeats 2000000
/-! PSound19: the table of defs, all of it right; the law's walk. -/
namespace Pl
open PySem PyProof.Rows
open L2 (V Hp HO VK XK TE TT TA TS Cx PE PA PS PSs Inv SqL SqT Dp DpAll Vals RelV EP Gl Vis Ends Sp FnScope Env0 CE CR CX0 Room Fun Binds KBinds PK)

/-- a module's constants and built-ins, its table -/
structure Pack where
  T : String → Option Entry
  glob : String → Option D
  bl : List Str
  gcd : Bool
def Pack.G (p : Pack) : Prog := ⟨fun f => (p.T f).map (·.fn), p.glob⟩
def Entry.ck (p : Pack) (e : Entry) : CK := { N := e.N, sc := L2.defScope e.st, cells := none, urn := e.fn.urn, bl := p.bl, gcd := p.gcd, T := p.T, G := p.G }
def scopeB (N ps : List Str) (sc : Scope) : Bool := decide (sc.kind = .function) && decide (sc.isCoroutine = false) && decide (sc.isGenerator = false) && decide N.Nodup && decide (N.take ps.length = ps) &&
  ps.all (fun x => decide (sc.names.lookup x = some .local) || decide (sc.names.lookup x = some .cell)) && sc.names.all fun y => decide (y.2 ≠ .free)
theorem scopeB_ok {N ps : List Str} {sc : Scope} (h : scopeB N ps sc = true) : FnScope N ps sc := by
  unfold scopeB at h
  simp only [Bool.and_eq_true, decide_eq_true_eq, List.all_eq_true, Bool.or_eq_true] at h
  obtain ⟨⟨⟨⟨⟨⟨h1, h2⟩, h3⟩, h4⟩, h5⟩, h6⟩, h7⟩ := h
  exact ⟨h1, h2, h3, h4, h5, h6, h7⟩
def chkEntry (p : Pack) (e : Entry) : Bool := chkSs (e.ck p) e.fn.fresh e.fn.body (L2.defBody e.st) && scopeB e.N e.ps (L2.defScope e.st) && decide (e.ps.length = e.fn.np) && decide (e.N.length = e.fn.ns)

/-- what is known of a def's object -/
structure Has (K : PySem.W.Frag) (mg : Str → Option Value) (f : String) (e : Entry) : Prop where
  ex : ∃ fa fd, mg (Str.ofString f) = some (.ref fa) ∧ Fun K (Str.ofString f) e.qual e.st fa fd ∧ Binds K fd e.ps [] ∧ (∀ q ∈ e.kws, KBinds K fd e.ps q.2.1 (gK q.1 q.2.1.length q.2.2) (gK q.1 q.2.1.length q.2.2))
structure Facts (K : PySem.W.Frag) (mg : Str → Option Value) (p : Pack) : Prop where
  has : ∀ f e, p.T f = some e → Has K mg f e
  blt : ∀ x ∈ p.bl, mg x = none
  gcd : p.gcd = true → mg "gcd" = some (.builtin "math.gcd")
  glb : ∀ g d, p.glob g = some d → ∃ v u, mg (Str.ofString g) = some u ∧ RelV v u ∧ ∀ F, Dp K F v d

theorem gK_rel {np nk : Nat} {perm : List Nat} {vs zs : List V} {us ws : List Value} (r : Vals vs us) (rz : Vals zs ws) : Vals (gK np nk perm vs zs) (gK np nk perm us ws) := by
  unfold gK
  rw [r.length, rz.length]
  split
  · have ra := r.append rz
    clear r rz
    induction perm with
    | nil => exact .nil
    | cons i is ih =>
      rw [List.filterMap_cons, List.filterMap_cons]
      cases q : (us ++ ws)[i]? with
      | none =>
        have : (vs ++ zs)[i]? = none := by
          rw [List.getElem?_eq_none_iff] at q ⊢
          rw [ra.length]; exact q
        rw [this]
        exact ih
      | some u =>
        obtain ⟨v, hv⟩ : ∃ v, (vs ++ zs)[i]? = some v := by
          have := (List.getElem?_eq_some_iff.mp q).1
          rw [← ra.length] at this
          exact ⟨_, List.getElem?_eq_getElem this⟩
        rw [hv]
        obtain ⟨u', hu, ru⟩ := ra.get hv
        rw [q] at hu
        cases hu
        exact .cons ru ih
  · exact .nil
/-- how a def's arguments are bound, of the parameters alone -/
structure BindOk (f : String) (e : Entry) : Prop where
  pos : ∀ (kV doc pm : Value) (an : Option Addr) (cdv ct : Value) (us : List Value), us.length = e.ps.length → bindArgs (PySem.W.fnOf (Str.ofString f) e.qual (L2.defArgs e.st) (L2.defBody e.st) (L2.defScope e.st) .none kV doc pm an cdv ct) ⟨us, []⟩ = pure (e.ps.zip us)
  kw : ∀ q ∈ e.kws, ∀ (kV doc pm : Value) (an : Option Addr) (cdv ct : Value) (us ws : List Value), us.length = q.1 → ws.length = q.2.1.length →
    bindArgs (PySem.W.fnOf (Str.ofString f) e.qual (L2.defArgs e.st) (L2.defBody e.st) (L2.defScope e.st) .none kV doc pm an cdv ct) ⟨us, q.2.1.zip ws⟩ = pure (e.ps.zip (q.2.2.filterMap fun i => (us ++ ws)[i]?))
theorem has_of {K : PySem.W.Frag} {mg : Str → Option Value} {f : String} {e : Entry} {fa : Addr} {fd : FuncData} (m : mg (Str.ofString f) = some (.ref fa)) (F : Fun K (Str.ofString f) e.qual e.st fa fd) (b : BindOk f e) (h0 : 0 < e.ps.length) : Has K mg f e := by
  refine ⟨fa, fd, m, F, ?_, fun q hq => ⟨fun s us ws hK hl => ?_, fun r rz => gK_rel r rz⟩⟩
  · exact F.binds b.pos
  · obtain ⟨oc, od, kV, doc, pm, an, cdv, ct, osl, rfl, lk, hcd⟩ := F.ex
    unfold gK at hl ⊢
    split at hl
    · rename_i hh
      rw [if_pos hh]
      exact .of_eq (b.kw q hq kV doc pm an cdv ct us ws hh.1 hh.2)
    · simp only [List.length_nil] at hl
      omega

theorem all_ok {P : Program} {w : World} {K : PySem.W.Frag} {mg : Str → Option Value} {bas : Heap} {p : Pack} (facts : Facts K mg p) (chk : ∀ f e, p.T f = some e → chkEntry p e = true) :
    ∀ n f e, p.T f = some e → ∀ fa fd, Fun K (Str.ofString f) e.qual e.st fa fd → FnG P w K mg bas n fa fd e.ps (spF K e.fn (callU p.G n f))
  | 0, f, e, hT, fa, fd, F => by
    have no : ∀ {vs H Q E}, ¬ spF K e.fn (callU p.G 0 f) vs H Q E := fun {vs H Q E} ⟨au, ws, ds, F, u, d, u', _, _, _, _, _, _, _, h, _⟩ => by cases h
    exact ⟨fun _ _ _ _ h => (no h).elim, fun _ _ _ _ _ _ _ _ _ _ _ _ _ h => (no h).elim⟩
  | n + 1, f, e, hT, fa, fd, F => by
    have hc := chk f e hT
    unfold chkEntry at hc
    simp only [Bool.and_eq_true, decide_eq_true_eq] at hc
    obtain ⟨⟨⟨h1, h2⟩, h3⟩, h4⟩ := hc
    have S := scopeB_ok h2
    have hcall : callU p.G (n + 1) f = runF (ctxN p.G n) p.G.ff e.fn := by
      funext ds u
      show (match p.G.T f with | some q => runF (ctxOf p.G (callU p.G n)) p.G.ff q ds u | none => none) = _
      have : p.G.T f = some e.fn := by
        show (p.T f).map (·.fn) = _
        rw [hT]; rfl
      rw [this]
      rfl
    rw [hcall]
    refine fnG_body F S h3 h4 fun cdv A outer s H E au hau rg => ?_
    refine okSs (c := e.ck p) (G := p.G) (n := n) ?_ e.fn.body _ h1
    exact {
      hG := rfl
      hN := rfl
      nd := S.nd
      sc := rfl
      calm := rfl
      fn := fun x _ => .inl rfl
      own := PassesOwn.never
      rg := rg
      au := hau
      blt := facts.blt
      gcd := facts.gcd
      fns := fun f' e' hT' => by
        obtain ⟨fa', fd', m1, m2, m3, m4⟩ := (facts.has f' e' hT').ex
        exact ⟨fa', fd', m1, m2.kp, m3, m4, all_ok facts chk n f' e' hT' fa' fd' m2⟩
      glb := facts.glb
      tab := fun f => rfl }

/-- the law keeps its promise -/
theorem law_walk {l : PySem.W.OpenLaw} {m n : Nat} {q : Program} {loose : List Str} {XP : (Str → Option Value) → Heap → Prop} {YP : World → Heap → Prop} {d : DefRec} {K : Params → PySem.W.Frag} {x : Str} {p : Pack} {e : Entry}
    (most : l.most = some m) (few : m ≤ sizeLine) (plain : d.params.defaults = []) (room : Room n callerA) (hY : ∀ (w : World) (h : Heap), YP w h → (K w.params).In h)
    (hT : p.T "law" = some e) (hp : e.ps = [x]) (hu : e.fn.urn = false) (hf : e.fn.fresh = false) (hnp : e.fn.np = 1) (chk : ∀ f e, p.T f = some e → chkEntry p e = true)
    (F : ∀ (w : World) (mg : Str → Option Value) (fa : Addr) (h : Heap), (K w.params).In h → h.Ns mainGlobals mg → mg d.name = some (.ref fa) →
      ∃ fd : FuncData, (∀ (s : Shared) (u : Value), BindsTo s fd ⟨[u], []⟩ [(x, u)]) ∧ Facts (K w.params) mg p ∧ Fun (K w.params) (Str.ofString "law") e.qual e.st fa fd)
    (law : ∀ ns : List Int, ns.length ≤ m → ∃ u', callU p.G n "law" [.list (ns.map .int)] [] = some (.bool true, u')) :
    PySem.W.WalkO q loose XP YP l.row.toRowW d [] (fun f vs => PySem.call f vs) := by
  refine walk_ofG (x := x) (k := n) (sp := fun K => spF K e.fn (callU p.G n "law")) most few plain room hY (fun w mg fa h kIn nG hmg => ?_) fun K H a ns hl sq => ?_
  · obtain ⟨fd, b, facts, hF⟩ := F w mg fa h kIn nG hmg
    refine ⟨fd, b, fun bas _ _ => ?_⟩
    rw [← hp]
    exact all_ok facts chk n "law" e hT fa fd hF
  · obtain ⟨u', hu'⟩ := law ns hl
    refine ⟨none, [.ref a], [.list (ns.map .int)], H, [], _, u', hu.symm, rfl, Sub.refl _, UrnR.no, fun _ => rfl, .cons (.lst sq (dpAll_of_ints ns)) .nil, by rw [hu, hnp]; rfl, hu', fun v F' H' P r => ?_⟩
    rw [hf] at r
    exact dp_bool r
end Pl

/-! PSound20: small ends. -/
namespace Pl
open PySem PyProof.Rows
theorem lookup_all {l : List (String × Entry)} {Q : String → Entry → Prop} (h : ∀ q ∈ l, Q q.1 q.2) : ∀ f e, l.lookup f = some e → Q f e := by
  intro f e hl
  induction l with
  | nil => cases hl
  | cons q l ih =>
    rw [List.lookup_cons] at hl
    split at hl
    · rename_i hq
      cases hl
      have : f = q.1 := by simpa using hq
      rw [this]
      exact h q List.mem_cons_self
    · exact ih (fun q hq => h q (List.mem_cons_of_mem _ hq)) hl
theorem glob_all {l : List (String × D)} {Q : String → D → Prop} (h : ∀ q ∈ l, Q q.1 q.2) : ∀ f e, l.lookup f = some e → Q f e := by
  intro f e hl
  induction l with
  | nil => cases hl
  | cons q l ih =>
    rw [List.lookup_cons] at hl
    split at hl
    · rename_i hq
      cases hl
      have : f = q.1 := by simpa using hq
      rw [this]
      exact h q List.mem_cons_self
    · exact ih (fun q hq => h q (List.mem_cons_of_mem _ hq)) hl
theorem fin_of {K : PySem.W.Frag} {mg : Str → Option Value} {p : Pack} {x qual : Str} {st : Stmt} {f fa : Addr} {fd : FuncData} (h : Facts K mg p ∧ L2.Fun K x qual st f fd ∧ mg "law" = some (.ref f)) (hm : mg "law" = some (.ref fa)) :
    Facts K mg p ∧ L2.Fun K x qual st fa fd := by
  obtain ⟨h1, h2, h3⟩ := h
  rw [h3] at hm
  cases hm
  exact ⟨h1, h2⟩
end Pl

namespace Pl
def p__law_add : PFun := { np := 2, ns := 2, urn := false, fresh := false, body := (.cons (.ret (.call "_law_frac" (.cons (.bin .add (.bin .mul (.idx (.var 0) (.lit (.int 0))) (.idx (.var 1) (.lit (.int 1)))) (.bin .mul (.idx (.var 1) (.lit (.int 0))) (.idx (.var 0) (.lit (.int 1))))) (.cons (.bin .mul (.idx (.var 0) (.lit (.int 1))) (.idx (.var 1) (.lit (.int 1)))) .nil)) [0, 1])) .nil) }
def p__law_aim : PFun := { np := 1, ns := 3, urn := true, fresh := false, body := (.cons (.set 1 (.ucall "_law_any" (.cons (.lst (.cons (.lit (.int 1)) (.cons (.lit (.int 1)) (.cons (.lit (.int 2)) (.cons (.lit (.int 5)) (.cons (.lit (.int 9)) .nil)))))) .nil))) (.cons (.set 2 (.tup (.cons (.ucall "_law_num" (.cons (.var 1) .nil)) (.cons (.ucall "_law_num" (.cons (.var 1) .nil)) .nil)))) (.cons (.ret (.ite (.cmp .ne (.var 2) (.tup (.cons (.lit (.int 0)) (.cons (.lit (.int 0)) .nil)))) (.call "_law_thin" (.cons (.var 2) .nil) [0]) (.ucall "_law_any" (.cons (.lst (.cons (.tup (.cons (.lit (.int 0)) (.cons (.lit (.int 1)) .nil))) (.cons (.tup (.cons (.lit (.int 1)) (.cons (.lit (.int 0)) .nil))) (.cons (.tup (.cons (.lit (.int 0)) (.cons (.neg (.lit (.int 1))) .nil))) (.cons (.tup (.cons (.neg (.lit (.int 1))) (.cons (.lit (.int 0)) .nil))) .nil))))) .nil)))) .nil))) }
def p__law_any : PFun := { np := 2, ns := 2, urn := true, fresh := false, body := (.cons (.ret (.idx (.var 1) (.ucall "_law_pull" (.cons (.bi .len (.cons (.var 1) .nil)) .nil)))) .nil) }
def p__law_are_whole : PFun := { np := 2, ns := 3, urn := false, fresh := false, body := (.cons (.ret (.and (.bi .isTuple (.cons (.var 0) .nil)) (.and (.cmp .eq (.bi .len (.cons (.var 0) .nil)) (.var 1)) (.cmp .eq (.comp (.var 2) (.one 2) (.seq (.var 0)) (.yes (.not (.call "_law_is_whole" (.cons (.var 2) .nil) [0]))) [2]) (.lst .nil))))) .nil) }
def p__law_at : PFun := { np := 2, ns := 2, urn := false, fresh := false, body := (.cons (.ret (.call "_law_on" (.cons (.idx (.var 0) (.idx (.var 1) (.lit (.int 0)))) (.cons (.call "_law_by" (.cons (.call "_law_edge" (.cons (.var 0) (.cons (.idx (.var 1) (.lit (.int 0))) .nil)) [0, 1]) (.cons (.idx (.var 1) (.lit (.int 1))) .nil)) [0, 1]) .nil)) [0, 1])) .nil) }
def p__law_before : PFun := { np := 2, ns := 3, urn := false, fresh := false, body := (.cons (.set 2 (.call "_law_way" (.cons (.var 0) (.cons (.var 1) .nil)) [0, 1])) (.cons (.ret (.or (.cmp .gt (.idx (.var 2) (.lit (.int 0))) (.lit (.int 0))) (.and (.cmp .eq (.idx (.var 2) (.lit (.int 0))) (.lit (.int 0))) (.cmp .gt (.idx (.var 2) (.lit (.int 1))) (.lit (.int 0)))))) .nil)) }
def p__law_below : PFun := { np := 2, ns := 2, urn := false, fresh := false, body := (.cons (.ret (.call "_law_middle" (.cons (.call "_law_wet" (.cons (.var 0) (.cons (.var 1) .nil)) [0, 1]) .nil) [0])) .nil) }
def p__law_by : PFun := { np := 2, ns := 2, urn := false, fresh := false, body := (.cons (.ret (.call "_law_spot" (.cons (.bin .mul (.idx (.var 0) (.lit (.int 0))) (.idx (.var 1) (.lit (.int 0)))) (.cons (.bin .mul (.idx (.var 0) (.lit (.int 1))) (.idx (.var 1) (.lit (.int 0)))) (.cons (.bin .mul (.idx (.var 0) (.lit (.int 2))) (.idx (.var 1) (.lit (.int 1)))) .nil))) [0, 1, 2])) .nil) }
def p__law_chord : PFun := { np := 2, ns := 2, urn := false, fresh := false, body := (.cons (.ret (.call "_law_way" (.cons (.call "_law_at" (.cons (.var 0) (.cons (.idx (.var 1) (.lit (.int 0))) .nil)) [0, 1]) (.cons (.call "_law_at" (.cons (.var 0) (.cons (.idx (.var 1) (.lit (.int 1))) .nil)) [0, 1]) .nil)) [0, 1])) .nil) }
def p__law_cmp : PFun := { np := 2, ns := 3, urn := false, fresh := false, body := (.cons (.set 2 (.bin .sub (.bin .mul (.idx (.var 0) (.lit (.int 0))) (.idx (.var 1) (.lit (.int 1)))) (.bin .mul (.idx (.var 1) (.lit (.int 0))) (.idx (.var 0) (.lit (.int 1)))))) (.cons (.ret (.bin .sub (.bi .int (.cons (.cmp .gt (.var 2) (.lit (.int 0))) .nil)) (.bi .int (.cons (.cmp .lt (.var 2) (.lit (.int 0))) .nil)))) .nil)) }
def p__law_cross__a : PFun := { np := 2, ns := 2, urn := false, fresh := false, body := (.cons (.ret (.call "_law_frac" (.cons (.bin .sub (.bin .mul (.idx (.var 0) (.lit (.int 0))) (.idx (.var 1) (.lit (.int 1)))) (.bin .mul (.idx (.var 0) (.lit (.int 1))) (.idx (.var 1) (.lit (.int 0))))) (.cons (.bin .mul (.idx (.var 0) (.lit (.int 2))) (.idx (.var 1) (.lit (.int 2)))) .nil)) [0, 1])) .nil) }
def p__law_div : PFun := { np := 2, ns := 2, urn := false, fresh := false, body := (.cons (.ret (.call "_law_frac" (.cons (.bin .mul (.idx (.var 0) (.lit (.int 0))) (.idx (.var 1) (.lit (.int 1)))) (.cons (.bin .mul (.idx (.var 0) (.lit (.int 1))) (.idx (.var 1) (.lit (.int 0)))) .nil)) [0, 1])) .nil) }
def p__law_dot__a : PFun := { np := 2, ns := 2, urn := false, fresh := false, body := (.cons (.ret (.call "_law_frac" (.cons (.bin .add (.bin .mul (.idx (.var 0) (.lit (.int 0))) (.idx (.var 1) (.lit (.int 0)))) (.bin .mul (.idx (.var 0) (.lit (.int 1))) (.idx (.var 1) (.lit (.int 1))))) (.cons (.bin .mul (.idx (.var 0) (.lit (.int 2))) (.idx (.var 1) (.lit (.int 2)))) .nil)) [0, 1])) .nil) }
def p__law_draught : PFun := { np := 2, ns := 3, urn := true, fresh := false, body := (.cons (.ite (.cmp .eq (.ucall "_law_pull" (.cons (.lit (.int 3)) .nil)) (.lit (.int 0))) (.cons (.ret (.call "_law_size" (.cons (.call "_law_wet" (.cons (.var 1) (.cons (.ucall "_law_line" (.cons (.var 1) .nil)) .nil)) [0, 1]) .nil) [0])) .nil) .nil) (.cons (.set 2 (.ucall "_law_any" (.cons (.lst (.cons (.lit (.int 2)) (.cons (.lit (.int 2)) (.cons (.lit (.int 3)) (.cons (.lit (.int 4)) (.cons (.lit (.int 5)) (.cons (.lit (.int 9)) .nil))))))) .nil))) (.cons (.ret (.call "_law_mul" (.cons (.call "_law_size" (.cons (.var 1) .nil) [0]) (.cons (.tup (.cons (.bin .add (.lit (.int 1)) (.ucall "_law_pull" (.cons (.bin .sub (.var 2) (.lit (.int 1))) .nil))) (.cons (.var 2) .nil))) .nil)) [0, 1])) .nil))) }
def p__law_draw : PFun := { np := 2, ns := 4, urn := true, fresh := false, body := (.cons (.ite (.cmp .gt (.uidx (.lit (.int 0))) (.lit (.int 0))) (.cons (.unp [.pl 0, .nm 2] (.bi .divmod (.cons (.uidx (.lit (.int 0))) (.cons (.var 1) .nil)))) (.cons (.ret (.var 2)) .nil)) .nil) (.cons (.setU (.lit (.int 2)) (.bin .add (.uidx (.lit (.int 2))) (.lit (.int 1)))) (.cons (.set 3 (.bin .add (.bin .mod (.bi .int (.cons (.uidx (.lit (.int 1))) .nil)) (.lit (.int 25013))) (.lit (.int 17011)))) (.cons (.setU (.lit (.int 1)) (.bin .mod (.bi .int (.cons (.bin .add (.bin .add (.bin .mul (.uidx (.lit (.int 1))) (.var 3)) (.bin .mul (.lit (.int 80021)) (.uidx (.lit (.int 2))))) (.lit (.int 9))) .nil)) (.lit (.int 2147483587)))) (.cons (.ret (.bin .mod (.bi .int (.cons (.bin .fdiv (.uidx (.lit (.int 1))) (.lit (.int 67))) .nil)) (.var 1))) .nil))))) }
def p__law_edge : PFun := { np := 2, ns := 2, urn := false, fresh := false, body := (.cons (.ret (.call "_law_way" (.cons (.idx (.var 0) (.var 1)) (.cons (.idx (.var 0) (.call "_law_next" (.cons (.var 0) (.cons (.var 1) .nil)) [0, 1])) .nil)) [0, 1])) .nil) }
def p__law_end : PFun := { np := 2, ns := 2, urn := true, fresh := false, body := (.cons (.ret (.tup (.cons (.ucall "_law_pull" (.cons (.bi .len (.cons (.var 1) .nil)) .nil)) (.cons (.ucall "_law_part" .nil) .nil)))) .nil) }
def p__law_far : PFun := { np := 3, ns := 8, urn := false, fresh := false, body := (.cons (.par [3, 4, 5] (.cons (.call "_law_at" (.cons (.var 0) (.cons (.var 2) .nil)) [0, 1]) (.cons (.idx (.var 2) (.lit (.int 0))) (.cons (.var 1) .nil)))) (.cons (.for_ (.one 6) (.range1 (.bi .len (.cons (.var 0) .nil))) (.cons (.set 4 (.call "_law_next" (.cons (.var 0) (.cons (.var 4) .nil)) [0, 1])) (.cons (.set 7 (.call "_law_size" (.cons (.tup (.cons (.var 3) (.cons (.idx (.var 0) (.var 4)) (.cons (.idx (.var 0) (.call "_law_next" (.cons (.var 0) (.cons (.var 4) .nil)) [0, 1])) .nil)))) .nil) [0])) (.cons (.ite (.cmp .lt (.call "_law_cmp" (.cons (.var 5) (.cons (.var 7) .nil)) [0, 1]) (.lit (.int 0))) (.cons .brk .nil) .nil) (.cons (.set 5 (.call "_law_sub" (.cons (.var 5) (.cons (.var 7) .nil)) [0, 1])) .nil))))) (.cons (.ret (.tup (.cons (.var 4) (.cons (.call "_law_div" (.cons (.var 5) (.cons (.var 7) .nil)) [0, 1]) .nil)))) .nil))) }
def p__law_for : PFun := { np := 3, ns := 5, urn := false, fresh := false, body := (.cons (.set 3 (.call "_law_quarter" (.cons (.call "_law_chord" (.cons (.var 0) (.cons (.var 1) .nil)) [0, 1]) .nil) [0])) (.cons (.set 4 (.call "_law_div" (.cons (.tup (.cons (.neg (.idx (.var 2) (.lit (.int 0)))) (.cons (.idx (.var 2) (.lit (.int 1))) .nil))) (.cons (.call "_law_dot" (.cons (.var 3) (.cons (.var 3) .nil)) [0, 1]) .nil)) [0, 1])) (.cons (.ret (.call "_law_on" (.cons (.call "_law_meta" (.cons (.var 0) (.cons (.var 1) .nil)) [0, 1]) (.cons (.call "_law_by" (.cons (.var 3) (.cons (.var 4) .nil)) [0, 1]) .nil)) [0, 1])) .nil))) }
def p__law_frac : PFun := { np := 2, ns := 3, urn := false, fresh := false, body := (.cons (.set 2 (.call "_law_thin" (.cons (.tup (.cons (.var 0) (.cons (.var 1) .nil))) .nil) [0])) (.cons (.ret (.ite (.cmp .gt (.idx (.var 2) (.lit (.int 1))) (.lit (.int 0))) (.var 2) (.tup (.cons (.neg (.idx (.var 2) (.lit (.int 0)))) (.cons (.neg (.idx (.var 2) (.lit (.int 1)))) .nil))))) .nil)) }
def p__law_from : PFun := { np := 3, ns := 3, urn := true, fresh := false, body := (.cons (.ret (.bin .add (.var 1) (.ucall "_law_draw" (.cons (.bin .add (.bin .sub (.var 2) (.var 1)) (.lit (.int 1))) .nil)))) .nil) }
def p__law_gcd__a : PFun := { np := 2, ns := 3, urn := false, fresh := false, body := (.cons (.for_ (.one 2) (.range1 (.lit (.int 20000))) (.cons (.ite (.cmp .eq (.var 1) (.lit (.int 0))) (.cons .brk .nil) .nil) (.cons (.par [0, 1] (.cons (.var 1) (.cons (.bin .mod (.bi .int (.cons (.var 0) .nil)) (.var 1)) .nil))) .nil))) (.cons (.ret (.var 0)) .nil)) }
def p__law_hull__a : PFun := { np := 1, ns := 6, urn := false, fresh := false, body := (.cons (.set 1 (.call "_law_sorted" (.cons (.var 0) .nil) [0])) (.cons (.ite (.cmp .lt (.bi .len (.cons (.var 1) .nil)) (.lit (.int 3))) (.cons (.ret (.bi .tuple (.cons (.var 1) .nil))) .nil) .nil) (.cons (.set 2 (.lst .nil)) (.cons (.for_ (.one 3) (.seq (.lst (.cons (.var 1) (.cons (.rev (.var 1)) .nil)))) (.cons (.set 4 (.lst .nil)) (.cons (.for_ (.one 5) (.seq (.var 3)) (.cons (.whil (.and (.cmp .gt (.bi .len (.cons (.var 4) .nil)) (.lit (.int 1))) (.cmp .le (.call "_law_side" (.cons (.idx (.var 4) (.neg (.lit (.int 2)))) (.cons (.idx (.var 4) (.neg (.lit (.int 1)))) (.cons (.var 5) .nil))) [0, 1, 2]) (.lit (.int 0)))) (.cons (.pop 4) .nil)) (.cons (.app 4 (.var 5)) .nil))) (.cons (.set 2 (.bin .add (.var 2) (.sli (.var 4) .no (.yes (.neg (.lit (.int 1))))))) .nil)))) (.cons (.ret (.bi .tuple (.cons (.var 2) .nil))) .nil))))) }
def p__law_is_line : PFun := { np := 2, ns := 3, urn := false, fresh := false, body := (.cons (.ret (.cmp .eq (.comp (.var 2) (.one 2) (.seq (.call "_law_touched" (.cons (.var 0) (.cons (.idx (.var 1) (.lit (.int 0))) .nil)) [0, 1])) (.yes (.cmp .isin (.var 2) (.call "_law_touched" (.cons (.var 0) (.cons (.idx (.var 1) (.lit (.int 1))) .nil)) [0, 1]))) [2]) (.lst .nil))) .nil) }
def p__law_is_spot : PFun := { np := 1, ns := 1, urn := false, fresh := false, body := (.cons (.ret (.and (.call "_law_are_whole" (.cons (.var 0) (.cons (.lit (.int 3)) .nil)) [0, 1]) (.and (.cmp .gt (.idx (.var 0) (.lit (.int 2))) (.lit (.int 0))) (.cmp .eq (.call "_law_thin" (.cons (.var 0) .nil) [0]) (.var 0))))) .nil) }
def p__law_is_whole : PFun := { np := 1, ns := 1, urn := false, fresh := false, body := (.cons (.ret (.and (.bi .isInt (.cons (.var 0) .nil)) (.not (.bi .isBool (.cons (.var 0) .nil))))) .nil) }
def p__law_laps : PFun := { np := 1, ns := 1, urn := false, fresh := false, body := (.cons (.ret (.bi .max2 (.cons (.lit (.int 2)) (.cons (.bi .min2 (.cons (.bi .len (.cons (.var 0) .nil)) (.cons (.lit (.int 3)) .nil))) .nil)))) .nil) }
def p__law_line__a : PFun := { np := 2, ns := 4, urn := true, fresh := false, body := (.cons (.for_ (.one 2) (.range1 (.lit (.int 6))) (.cons (.set 3 (.tup (.cons (.ucall "_law_end" (.cons (.var 1) .nil)) (.cons (.ucall "_law_end" (.cons (.var 1) .nil)) .nil)))) (.cons (.ite (.call "_law_is_line" (.cons (.var 1) (.cons (.var 3) .nil)) [0, 1]) (.cons (.ret (.var 3)) .nil) .nil) .nil))) (.cons (.ret (.tup (.cons (.tup (.cons (.lit (.int 0)) (.cons (.tup (.cons (.lit (.int 1)) (.cons (.lit (.int 2)) .nil))) .nil))) (.cons (.tup (.cons (.lit (.int 1)) (.cons (.tup (.cons (.lit (.int 1)) (.cons (.lit (.int 2)) .nil))) .nil))) .nil)))) .nil)) }
def p__law_mass : PFun := { np := 2, ns := 4, urn := true, fresh := false, body := (.cons (.set 2 (.ucall "_law_pull" (.cons (.lit (.int 4)) .nil))) (.cons (.ite (.cmp .eq (.var 2) (.lit (.int 0))) (.cons (.ret (.call "_law_middle" (.cons (.var 1) .nil) [0])) .nil) .nil) (.cons (.set 3 (.call "_law_spot" (.cons (.ucall "_law_num" (.cons (.lit (.int 5)) .nil)) (.cons (.ucall "_law_num" (.cons (.lit (.int 5)) .nil)) (.cons (.bin .add (.lit (.int 1)) (.ucall "_law_pull" (.cons (.lit (.int 4)) .nil))) .nil))) [0, 1, 2])) (.cons (.ret (.ite (.cmp .eq (.var 2) (.lit (.int 1))) (.call "_law_on" (.cons (.call "_law_middle" (.cons (.var 1) .nil) [0]) (.cons (.var 3) .nil)) [0, 1]) (.var 3))) .nil)))) }
def p__law_meta__a : PFun := { np := 2, ns := 5, urn := false, fresh := false, body := (.cons (.par [2, 3] (.cons (.call "_law_chord" (.cons (.var 0) (.cons (.var 1) .nil)) [0, 1]) (.cons (.call "_law_size" (.cons (.call "_law_wet" (.cons (.var 0) (.cons (.var 1) .nil)) [0, 1]) .nil) [0]) .nil))) (.cons (.set 4 (.call "_law_div" (.cons (.call "_law_dot" (.cons (.var 2) (.cons (.var 2) .nil)) [0, 1]) (.cons (.call "_law_mul" (.cons (.var 3) (.cons (.tup (.cons (.lit (.int 12)) (.cons (.lit (.int 1)) .nil))) .nil)) [0, 1]) .nil)) [0, 1])) (.cons (.ret (.call "_law_on" (.cons (.call "_law_below" (.cons (.var 0) (.cons (.var 1) .nil)) [0, 1]) (.cons (.call "_law_by" (.cons (.call "_law_quarter" (.cons (.var 2) .nil) [0]) (.cons (.var 4) .nil)) [0, 1]) .nil)) [0, 1])) .nil))) }
def p__law_middle__b : PFun := { np := 1, ns := 7, urn := false, fresh := false, body := (.cons (.unp [.nm 1, .nm 2] (.tup (.cons (.tup (.cons (.lit (.int 0)) (.cons (.lit (.int 1)) .nil))) (.cons (.tup (.cons (.lit (.int 0)) (.cons (.lit (.int 0)) (.cons (.lit (.int 1)) .nil)))) .nil)))) (.cons (.for_ (.one 3) (.range2 (.lit (.int 1)) (.bin .sub (.bi .len (.cons (.var 0) .nil)) (.lit (.int 1)))) (.cons (.par [4, 5] (.cons (.call "_law_way" (.cons (.idx (.var 0) (.lit (.int 0))) (.cons (.idx (.var 0) (.var 3)) .nil)) [0, 1]) (.cons (.call "_law_way" (.cons (.idx (.var 0) (.lit (.int 0))) (.cons (.idx (.var 0) (.bin .add (.var 3) (.lit (.int 1)))) .nil)) [0, 1]) .nil))) (.cons (.set 6 (.call "_law_cross" (.cons (.var 4) (.cons (.var 5) .nil)) [0, 1])) (.cons (.set 1 (.call "_law_add" (.cons (.var 1) (.cons (.var 6) .nil)) [0, 1])) (.cons (.set 2 (.call "_law_on" (.cons (.var 2) (.cons (.call "_law_by" (.cons (.call "_law_on" (.cons (.var 4) (.cons (.var 5) .nil)) [0, 1]) (.cons (.var 6) .nil)) [0, 1]) .nil)) [0, 1])) .nil))))) (.cons (.ret (.call "_law_on" (.cons (.idx (.var 0) (.lit (.int 0))) (.cons (.call "_law_by" (.cons (.var 2) (.cons (.call "_law_frac" (.cons (.idx (.var 1) (.lit (.int 1))) (.cons (.bin .mul (.lit (.int 3)) (.idx (.var 1) (.lit (.int 0)))) .nil)) [0, 1]) .nil)) [0, 1]) .nil)) [0, 1])) .nil))) }
def p__law_mul__a : PFun := { np := 2, ns := 2, urn := false, fresh := false, body := (.cons (.ret (.call "_law_frac" (.cons (.bin .mul (.idx (.var 0) (.lit (.int 0))) (.idx (.var 1) (.lit (.int 0)))) (.cons (.bin .mul (.idx (.var 0) (.lit (.int 1))) (.idx (.var 1) (.lit (.int 1)))) .nil)) [0, 1])) .nil) }
def p__law_next : PFun := { np := 2, ns := 2, urn := false, fresh := false, body := (.cons (.ret (.bin .mod (.bi .int (.cons (.bin .add (.var 1) (.lit (.int 1))) .nil)) (.bi .len (.cons (.var 0) .nil)))) .nil) }
def p__law_num : PFun := { np := 2, ns := 2, urn := true, fresh := false, body := (.cons (.ret (.bin .sub (.ucall "_law_pull" (.cons (.bin .add (.bin .mul (.lit (.int 2)) (.var 1)) (.lit (.int 1))) .nil)) (.var 1))) .nil) }
def p__law_on : PFun := { np := 2, ns := 2, urn := false, fresh := false, body := (.cons (.ret (.call "_law_spot" (.cons (.bin .add (.bin .mul (.idx (.var 0) (.lit (.int 0))) (.idx (.var 1) (.lit (.int 2)))) (.bin .mul (.idx (.var 1) (.lit (.int 0))) (.idx (.var 0) (.lit (.int 2))))) (.cons (.bin .add (.bin .mul (.idx (.var 0) (.lit (.int 1))) (.idx (.var 1) (.lit (.int 2)))) (.bin .mul (.idx (.var 1) (.lit (.int 1))) (.idx (.var 0) (.lit (.int 2))))) (.cons (.bin .mul (.idx (.var 0) (.lit (.int 2))) (.idx (.var 1) (.lit (.int 2)))) .nil))) [0, 1, 2])) .nil) }
def p__law_part__b : PFun := { np := 1, ns := 2, urn := true, fresh := false, body := (.cons (.set 1 (.ucall "_law_any" (.cons (.lst (.cons (.lit (.int 1)) (.cons (.lit (.int 2)) (.cons (.lit (.int 2)) (.cons (.lit (.int 3)) (.cons (.lit (.int 4)) (.cons (.lit (.int 7)) (.cons (.lit (.int 10)) .nil)))))))) .nil))) (.cons (.ret (.call "_law_frac" (.cons (.ucall "_law_pull" (.cons (.var 1) .nil)) (.cons (.var 1) .nil)) [0, 1])) .nil)) }
def p__law_plate : PFun := { np := 1, ns := 13, urn := true, fresh := false, body := (.cons (.unp [.nm 1, .nm 2] (.tup (.cons (.ucall "_law_pull" (.cons (.lit (.int 5)) .nil)) (.cons (.ucall "_law_any" (.cons (.lst (.cons (.lit (.int 1)) (.cons (.lit (.int 1)) (.cons (.lit (.int 1)) (.cons (.lit (.int 2)) (.cons (.lit (.int 3)) (.cons (.lit (.int 5)) .nil))))))) .nil)) .nil)))) (.cons (.ite (.cmp .eq (.var 1) (.lit (.int 0))) (.cons (.set 3 (.lst (.cons (.tup (.cons (.lit (.int 0)) (.cons (.lit (.int 0)) .nil))) (.cons (.tup (.cons (.bin .add (.lit (.int 1)) (.ucall "_law_pull" (.cons (.lit (.int 4)) .nil))) (.cons (.lit (.int 0)) .nil))) (.cons (.tup (.cons (.lit (.int 0)) (.cons (.bin .add (.lit (.int 1)) (.ucall "_law_pull" (.cons (.lit (.int 4)) .nil))) .nil))) .nil))))) (.cons (.set 3 (.ite (.cmp .gt (.ucall "_law_pull" (.cons (.lit (.int 3)) .nil)) (.lit (.int 0))) (.bin .add (.var 3) (.lst (.cons (.tup (.cons (.idx (.idx (.var 3) (.lit (.int 1))) (.lit (.int 0))) (.cons (.idx (.idx (.var 3) (.lit (.int 2))) (.lit (.int 1))) .nil))) .nil))) (.var 3))) .nil)) (.cons (.ite (.cmp .eq (.var 1) (.lit (.int 1))) (.cons (.unp [.nm 4, .nm 5] (.tup (.cons (.ucall "_law_num" (.cons (.lit (.int 2)) .nil)) (.cons (.ucall "_law_any" (.cons (.lst (.cons (.lit (.int 1)) (.cons (.lit (.int 1)) (.cons (.lit (.int 2)) .nil)))) .nil)) .nil)))) (.cons (.set 6 (.comp (.ucall "_law_pull" (.cons (.lit (.int 4)) .nil)) (.one 7) (.range1 (.lit (.int 9))) .no [7])) (.cons (.set 3 (.sli (.comp (.tup (.cons (.bin .sub (.var 8) (.lit (.int 4))) (.cons (.bin .add (.bin .mul (.bin .mul (.var 5) (.bin .sub (.var 8) (.lit (.int 4)))) (.bin .sub (.var 8) (.lit (.int 4)))) (.bin .mul (.var 4) (.bin .sub (.var 8) (.lit (.int 4))))) .nil))) (.one 8) (.range1 (.lit (.int 9))) (.yes (.cmp .gt (.idx (.var 6) (.var 8)) (.lit (.int 0)))) [8]) .no (.yes (.lit (.int 8))))) .nil))) (.cons (.set 9 (.ucall "_law_any" (.cons (.lst (.cons (.lit (.int 1)) (.cons (.lit (.int 2)) (.cons (.lit (.int 3)) (.cons (.lit (.int 5)) (.cons (.lit (.int 9)) .nil)))))) .nil))) (.cons (.set 3 (.comp (.tup (.cons (.ucall "_law_num" (.cons (.var 9) .nil)) (.cons (.ucall "_law_num" (.cons (.var 9) .nil)) .nil))) (.one 7) (.range1 (.bin .add (.lit (.int 3)) (.ucall "_law_pull" (.cons (.lit (.int 6)) .nil)))) .no [7])) .nil))) .nil)) (.cons (.ite (.cmp .gt (.var 1) (.lit (.int 3))) (.cons (.set 3 (.sli (.bin .add (.var 3) (.comp (.tup (.cons (.neg (.var 10)) (.cons (.neg (.var 11)) .nil))) (.many [10, 11]) (.seq (.var 3)) .no [10, 11])) .no (.yes (.lit (.int 8))))) .nil) .nil) (.cons (.set 12 (.call "_law_hull" (.cons (.comp (.call "_law_spot" (.cons (.var 10) (.cons (.var 11) (.cons (.var 2) .nil))) [0, 1, 2]) (.many [10, 11]) (.seq (.var 3)) .no [10, 11]) .nil) [0])) (.cons (.ret (.ite (.cmp .gt (.bi .len (.cons (.var 12) .nil)) (.lit (.int 2))) (.var 12) (.tup (.cons (.tup (.cons (.lit (.int 0)) (.cons (.lit (.int 0)) (.cons (.lit (.int 1)) .nil)))) (.cons (.tup (.cons (.lit (.int 2)) (.cons (.lit (.int 0)) (.cons (.lit (.int 1)) .nil)))) (.cons (.tup (.cons (.lit (.int 1)) (.cons (.lit (.int 1)) (.cons (.lit (.int 1)) .nil)))) .nil)))))) .nil))))) }
def p__law_pull : PFun := { np := 2, ns := 3, urn := true, fresh := false, body := (.cons (.ite (.cmp .gt (.uidx (.lit (.int 0))) (.lit (.int 0))) (.cons (.unp [.pl 0, .nm 2] (.bi .divmod (.cons (.uidx (.lit (.int 0))) (.cons (.var 1) .nil)))) (.cons (.ret (.var 2)) .nil)) .nil) (.cons (.setU (.lit (.int 1)) (.bin .mod (.bi .int (.cons (.bin .add (.bin .mul (.uidx (.lit (.int 1))) (.lit (.int 37199))) (.lit (.int 1201))) .nil)) (.lit (.int 2147483629)))) (.cons (.setU (.lit (.int 2)) (.bin .mod (.bi .int (.cons (.bin .add (.bin .mul (.uidx (.lit (.int 2))) (.lit (.int 29443))) (.uidx (.lit (.int 1)))) .nil)) (.lit (.int 2147483587)))) (.cons (.ret (.bin .mod (.bi .int (.cons (.bin .fdiv (.uidx (.lit (.int 2))) (.lit (.int 269))) .nil)) (.var 1))) .nil)))) }
def p__law_quarter__a : PFun := { np := 1, ns := 1, urn := false, fresh := false, body := (.cons (.ret (.tup (.cons (.neg (.idx (.var 0) (.lit (.int 1)))) (.cons (.idx (.var 0) (.lit (.int 0))) (.cons (.idx (.var 0) (.lit (.int 2))) .nil))))) .nil) }
def p__law_side : PFun := { np := 3, ns := 3, urn := false, fresh := false, body := (.cons (.ret (.call "_law_sign" (.cons (.idx (.call "_law_cross" (.cons (.call "_law_way" (.cons (.var 0) (.cons (.var 1) .nil)) [0, 1]) (.cons (.call "_law_way" (.cons (.var 0) (.cons (.var 2) .nil)) [0, 1]) .nil)) [0, 1]) (.lit (.int 0))) .nil) [0])) .nil) }
def p__law_sign__a : PFun := { np := 1, ns := 1, urn := false, fresh := false, body := (.cons (.ret (.bin .sub (.bi .int (.cons (.cmp .gt (.var 0) (.lit (.int 0))) .nil)) (.bi .int (.cons (.cmp .lt (.var 0) (.lit (.int 0))) .nil)))) .nil) }
def p__law_size__a : PFun := { np := 1, ns := 3, urn := false, fresh := false, body := (.cons (.set 1 (.tup (.cons (.lit (.int 0)) (.cons (.lit (.int 1)) .nil)))) (.cons (.for_ (.one 2) (.range2 (.lit (.int 1)) (.bin .sub (.bi .len (.cons (.var 0) .nil)) (.lit (.int 1)))) (.cons (.set 1 (.call "_law_add" (.cons (.var 1) (.cons (.call "_law_cross" (.cons (.call "_law_way" (.cons (.idx (.var 0) (.lit (.int 0))) (.cons (.idx (.var 0) (.var 2)) .nil)) [0, 1]) (.cons (.call "_law_way" (.cons (.idx (.var 0) (.lit (.int 0))) (.cons (.idx (.var 0) (.bin .add (.var 2) (.lit (.int 1)))) .nil)) [0, 1]) .nil)) [0, 1]) .nil)) [0, 1])) .nil)) (.cons (.ret (.call "_law_frac" (.cons (.idx (.var 1) (.lit (.int 0))) (.cons (.bin .mul (.lit (.int 2)) (.idx (.var 1) (.lit (.int 1)))) .nil)) [0, 1])) .nil))) }
def p__law_sorted : PFun := { np := 1, ns := 4, urn := false, fresh := false, body := (.cons (.set 1 (.lst .nil)) (.cons (.for_ (.one 2) (.seq (.var 0)) (.cons (.ite (.cmp .notin (.var 2) (.var 1)) (.cons (.ins 1 (.bi .len (.cons (.comp (.var 3) (.one 3) (.seq (.var 1)) (.yes (.call "_law_before" (.cons (.var 3) (.cons (.var 2) .nil)) [0, 1])) [3]) .nil)) (.var 2)) .nil) .nil) .nil)) (.cons (.ret (.var 1)) .nil))) }
def p__law_spot__a : PFun := { np := 3, ns := 3, urn := false, fresh := false, body := (.cons (.ret (.call "_law_thin" (.cons (.tup (.cons (.var 0) (.cons (.var 1) (.cons (.var 2) .nil)))) .nil) [0])) .nil) }
def p__law_sub : PFun := { np := 2, ns := 2, urn := false, fresh := false, body := (.cons (.ret (.call "_law_frac" (.cons (.bin .sub (.bin .mul (.idx (.var 0) (.lit (.int 0))) (.idx (.var 1) (.lit (.int 1)))) (.bin .mul (.idx (.var 1) (.lit (.int 0))) (.idx (.var 0) (.lit (.int 1))))) (.cons (.bin .mul (.idx (.var 0) (.lit (.int 1))) (.idx (.var 1) (.lit (.int 1)))) .nil)) [0, 1])) .nil) }
def p__law_thin : PFun := { np := 1, ns := 3, urn := false, fresh := false, body := (.cons (.set 1 (.lit (.int 0))) (.cons (.for_ (.one 2) (.seq (.var 0)) (.cons (.set 1 (.call "_law_gcd" (.cons (.var 1) (.cons (.bi .abs (.cons (.var 2) .nil)) .nil)) [0, 1])) .nil)) (.cons (.ret (.ite (.cmp .lt (.var 1) (.lit (.int 2))) (.bi .tuple (.cons (.var 0) .nil)) (.bi .tuple (.cons (.comp (.bin .fdiv (.var 2) (.var 1)) (.one 2) (.seq (.var 0)) .no [2]) .nil)))) .nil))) }
def p__law_touched : PFun := { np := 2, ns := 2, urn := false, fresh := false, body := (.cons (.ret (.ite (.cmp .eq (.idx (.idx (.var 1) (.lit (.int 1))) (.lit (.int 0))) (.lit (.int 0))) (.lst (.cons (.idx (.var 1) (.lit (.int 0))) (.cons (.bin .mod (.bi .int (.cons (.bin .sub (.idx (.var 1) (.lit (.int 0))) (.lit (.int 1))) .nil)) (.bi .len (.cons (.var 0) .nil))) .nil))) (.lst (.cons (.idx (.var 1) (.lit (.int 0))) .nil)))) .nil) }
def p__law_urn : PFun := { np := 2, ns := 5, urn := false, fresh := true, body := (.cons (.set 2 (.bin .add (.lit (.int 60427)) (.bin .mul (.lit (.int 7001)) (.var 1)))) (.cons (.for_ (.one 3) (.seq (.sli (.var 0) .no (.yes (.lit (.int 63))))) (.cons (.set 2 (.bin .mod (.bi .int (.cons (.bin .add (.bin .add (.bin .mul (.var 2) (.lit (.int 47701))) (.bin .mod (.bi .int (.cons (.var 3) .nil)) (.lit (.int 2147483549)))) (.lit (.int 53))) .nil)) (.lit (.int 2147483549)))) .nil)) (.cons (.set 4 (.ite (.cmp .lt (.var 1) (.bi .len (.cons (.var 0) .nil))) (.bi .abs (.cons (.bi .int (.cons (.idx (.var 0) (.var 1)) .nil)) .nil)) (.lit (.int 0)))) (.cons (.retF (.lst (.cons (.ite (.cmp .ge (.var 4) (.bin .pow (.lit (.int 10)) (.lit (.int 18)))) (.var 4) (.lit (.int 0))) (.cons (.bin .mod (.bi .int (.cons (.bin .add (.bin .add (.bin .mul (.var 2) (.lit (.int 41203))) (.bin .mod (.bi .int (.cons (.var 4) .nil)) (.lit (.int 2147483563)))) (.lit (.int 5))) .nil)) (.lit (.int 2147483563))) (.cons (.bin .add (.var 2) (.lit (.int 3))) .nil))))) .nil)))) }
def p__law_way__a : PFun := { np := 2, ns := 2, urn := false, fresh := false, body := (.cons (.ret (.call "_law_spot" (.cons (.bin .sub (.bin .mul (.idx (.var 1) (.lit (.int 0))) (.idx (.var 0) (.lit (.int 2)))) (.bin .mul (.idx (.var 0) (.lit (.int 0))) (.idx (.var 1) (.lit (.int 2))))) (.cons (.bin .sub (.bin .mul (.idx (.var 1) (.lit (.int 1))) (.idx (.var 0) (.lit (.int 2)))) (.bin .mul (.idx (.var 0) (.lit (.int 1))) (.idx (.var 1) (.lit (.int 2))))) (.cons (.bin .mul (.idx (.var 0) (.lit (.int 2))) (.idx (.var 1) (.lit (.int 2)))) .nil))) [0, 1, 2])) .nil) }
def p__law_wet : PFun := { np := 2, ns := 6, urn := false, fresh := false, body := (.cons (.par [2, 3] (.cons (.lst (.cons (.call "_law_at" (.cons (.var 0) (.cons (.idx (.var 1) (.lit (.int 0))) .nil)) [0, 1]) .nil)) (.cons (.idx (.idx (.var 1) (.lit (.int 0))) (.lit (.int 0))) .nil))) (.cons (.for_ (.one 4) (.range1 (.bi .len (.cons (.var 0) .nil))) (.cons (.ite (.and (.cmp .eq (.var 3) (.idx (.idx (.var 1) (.lit (.int 1))) (.lit (.int 0)))) (.or (.cmp .gt (.var 4) (.lit (.int 0))) (.cmp .lt (.call "_law_cmp" (.cons (.idx (.idx (.var 1) (.lit (.int 0))) (.lit (.int 1))) (.cons (.idx (.idx (.var 1) (.lit (.int 1))) (.lit (.int 1))) .nil)) [0, 1]) (.lit (.int 0))))) (.cons .brk .nil) .nil) (.cons (.set 3 (.call "_law_next" (.cons (.var 0) (.cons (.var 3) .nil)) [0, 1])) (.cons (.app 2 (.idx (.var 0) (.var 3))) .nil)))) (.cons (.set 5 (.call "_law_at" (.cons (.var 0) (.cons (.idx (.var 1) (.lit (.int 1))) .nil)) [0, 1])) (.cons (.ret (.ite (.cmp .eq (.idx (.var 2) (.neg (.lit (.int 1)))) (.var 5)) (.var 2) (.bin .add (.var 2) (.lst (.cons (.var 5) .nil))))) .nil)))) }
def p_are_wholes : PFun := { np := 2, ns := 3, urn := false, fresh := false, body := (.cons (.ret (.and (.bi .isTuple (.cons (.var 0) .nil)) (.and (.cmp .eq (.bi .len (.cons (.var 0) .nil)) (.var 1)) (.bi .all (.cons (.comp (.call "is_whole" (.cons (.var 2) .nil) [0]) (.one 2) (.seq (.var 0)) .no [2]) .nil))))) .nil) }
def p_area_of : PFun := { np := 1, ns := 1, urn := false, fresh := false, body := (.cons (.drop (.call "check_polygon" (.cons (.var 0) .nil) [0])) (.cons (.ret (.ite (.cmp .gt (.bi .len (.cons (.var 0) .nil)) (.lit (.int 2))) (.call "plate_area" (.cons (.var 0) .nil) [0]) (.glob "ZERO"))) .nil)) }
def p_bend_chain : PFun := { np := 1, ns := 3, urn := false, fresh := false, body := (.cons (.set 1 (.lst .nil)) (.cons (.for_ (.one 2) (.seq (.var 0)) (.cons (.whil (.and (.cmp .gt (.bi .len (.cons (.var 1) .nil)) (.lit (.int 1))) (.not (.call "bends_left" (.cons (.idx (.var 1) (.neg (.lit (.int 2)))) (.cons (.idx (.var 1) (.neg (.lit (.int 1)))) (.cons (.var 2) .nil))) [0, 1, 2]))) (.cons (.pop 1) .nil)) (.cons (.app 1 (.var 2)) .nil))) (.cons (.ret (.var 1)) .nil))) }
def p_bends_left : PFun := { np := 3, ns := 3, urn := false, fresh := false, body := (.cons (.ret (.cmp .gt (.bin .mul (.bin .sub (.idx (.var 1) (.lit (.int 0))) (.idx (.var 0) (.lit (.int 0)))) (.bin .sub (.idx (.var 2) (.lit (.int 1))) (.idx (.var 0) (.lit (.int 1))))) (.bin .mul (.bin .sub (.idx (.var 1) (.lit (.int 1))) (.idx (.var 0) (.lit (.int 1)))) (.bin .sub (.idx (.var 2) (.lit (.int 0))) (.idx (.var 0) (.lit (.int 0))))))) .nil) }
def p_check_area : PFun := { np := 2, ns := 2, urn := false, fresh := false, body := (.cons (.ite (.not (.call "is_wet_area" (.cons (.var 0) (.cons (.var 1) .nil)) [0, 1])) (.cons .raise .nil) .nil) .nil) }
def p_check_balance : PFun := { np := 3, ns := 3, urn := false, fresh := false, body := (.cons (.drop (.call "check_section" (.cons (.var 0) .nil) [0])) (.cons (.drop (.call "check_point" (.cons (.var 1) .nil) [0])) (.cons (.drop (.call "check_stand" (.cons (.var 0) (.cons (.var 2) .nil)) [0, 1])) .nil))) }
def p_check_point : PFun := { np := 1, ns := 1, urn := false, fresh := false, body := (.cons (.ite (.not (.call "is_vector" (.cons (.var 0) .nil) [0])) (.cons .raise .nil) .nil) .nil) }
def p_check_polygon : PFun := { np := 1, ns := 1, urn := false, fresh := false, body := (.cons (.ite (.not (.call "is_lot" (.cons (.var 0) .nil) [0])) (.cons .raise .nil) .nil) .nil) }
def p_check_rim : PFun := { np := 2, ns := 2, urn := false, fresh := false, body := (.cons (.ite (.not (.call "is_rim" (.cons (.var 0) (.cons (.var 1) .nil)) [0, 1])) (.cons .raise .nil) .nil) .nil) }
def p_check_section : PFun := { np := 1, ns := 1, urn := false, fresh := false, body := (.cons (.ite (.not (.call "is_plate" (.cons (.var 0) .nil) [0])) (.cons .raise .nil) .nil) .nil) }
def p_check_stand : PFun := { np := 2, ns := 2, urn := false, fresh := false, body := (.cons (.ite (.not (.call "is_line" (.cons (.var 0) (.cons (.var 1) .nil)) [0, 1])) (.cons .raise .nil) .nil) .nil) }
def p_check_up : PFun := { np := 1, ns := 1, urn := false, fresh := false, body := (.cons (.ite (.not (.call "is_pointing" (.cons (.var 0) .nil) [0])) (.cons .raise .nil) .nil) .nil) }
def p_chord_ends : PFun := { np := 2, ns := 2, urn := false, fresh := false, body := (.cons (.ret (.tup (.cons (.call "rim_point" (.cons (.var 0) (.cons (.idx (.var 1) (.lit (.int 0))) .nil)) [0, 1]) (.cons (.call "rim_point" (.cons (.var 0) (.cons (.idx (.var 1) (.lit (.int 1))) .nil)) [0, 1]) .nil)))) .nil) }
def p_chord_way : PFun := { np := 2, ns := 4, urn := false, fresh := false, body := (.cons (.unp [.nm 2, .nm 3] (.call "chord_ends" (.cons (.var 0) (.cons (.var 1) .nil)) [0, 1])) (.cons (.ret (.call "vector_less" (.cons (.var 3) (.cons (.var 2) .nil)) [0, 1])) .nil)) }
def p_compare : PFun := { np := 4, ns := 6, urn := false, fresh := false, body := (.cons (.drop (.call "check_balance" (.cons (.var 0) (.cons (.var 1) (.cons (.var 2) .nil))) [0, 1, 2])) (.cons (.drop (.call "check_stand" (.cons (.var 0) (.cons (.var 3) .nil)) [0, 1])) (.cons (.set 4 (.call "ratio_product" (.cons (.call "signed_square" (.cons (.call "rise_of" (.cons (.var 0) (.cons (.var 1) (.cons (.var 2) .nil))) [0, 1, 2]) .nil) [0]) (.cons (.call "span_of" (.cons (.var 0) (.cons (.var 3) .nil)) [0, 1]) .nil)) [0, 1])) (.cons (.set 5 (.call "ratio_product" (.cons (.call "signed_square" (.cons (.call "rise_of" (.cons (.var 0) (.cons (.var 1) (.cons (.var 3) .nil))) [0, 1, 2]) .nil) [0]) (.cons (.call "span_of" (.cons (.var 0) (.cons (.var 2) .nil)) [0, 1]) .nil)) [0, 1])) (.cons (.ret (.ite (.call "is_lower" (.cons (.var 4) (.cons (.var 5) .nil)) [0, 1]) (.lit (.str (PySem.Str.ofString "lower"))) (.ite (.call "is_lower" (.cons (.var 5) (.cons (.var 4) .nil)) [0, 1]) (.lit (.str (PySem.Str.ofString "higher"))) (.lit (.str (PySem.Str.ofString "same")))))) .nil))))) }
def p_cross_of : PFun := { np := 2, ns := 2, urn := false, fresh := false, body := (.cons (.ret (.call "ratio" (.cons (.bin .sub (.bin .mul (.idx (.var 0) (.lit (.int 0))) (.idx (.var 1) (.lit (.int 1)))) (.bin .mul (.idx (.var 0) (.lit (.int 1))) (.idx (.var 1) (.lit (.int 0))))) (.cons (.bin .mul (.idx (.var 0) (.lit (.int 2))) (.idx (.var 1) (.lit (.int 2)))) .nil)) [0, 1])) .nil) }
def p_crosses : PFun := { np := 1, ns := 3, urn := false, fresh := false, body := (.cons (.ret (.comp (.bin .sub (.bin .mul (.idx (.var 1) (.lit (.int 0))) (.idx (.var 2) (.lit (.int 1)))) (.bin .mul (.idx (.var 1) (.lit (.int 1))) (.idx (.var 2) (.lit (.int 0))))) (.many [1, 2]) (.zip (.var 0) (.bin .add (.sli (.var 0) (.yes (.lit (.int 1))) .no) (.sli (.var 0) .no (.yes (.lit (.int 1)))))) .no [1, 2])) .nil) }
def p_divisor_of : PFun := { np := 1, ns := 3, urn := false, fresh := false, body := (.cons (.set 1 (.lit (.int 0))) (.cons (.for_ (.one 2) (.seq (.var 0)) (.cons (.set 1 (.bi .gcd (.cons (.var 1) (.cons (.var 2) .nil)))) .nil)) (.cons (.ret (.var 1)) .nil))) }
def p_edges_at : PFun := { np := 2, ns := 2, urn := false, fresh := false, body := (.cons (.ret (.ite (.cmp .eq (.idx (.var 1) (.lit (.int 1))) (.glob "ZERO")) (.tup (.cons (.idx (.var 1) (.lit (.int 0))) (.cons (.bin .mod (.bin .sub (.idx (.var 1) (.lit (.int 0))) (.lit (.int 1))) (.bi .len (.cons (.var 0) .nil))) .nil))) (.tup (.cons (.idx (.var 1) (.lit (.int 0))) .nil)))) .nil) }
def p_firmness_of : PFun := { np := 3, ns := 3, urn := false, fresh := false, body := (.cons (.ret (.call "inner_of" (.cons (.call "quartered" (.cons (.call "chord_way" (.cons (.var 0) (.cons (.var 2) .nil)) [0, 1]) .nil) [0]) (.cons (.call "vector_less" (.cons (.call "metacentre_of" (.cons (.var 0) (.cons (.var 2) .nil)) [0, 1]) (.cons (.var 1) .nil)) [0, 1]) .nil)) [0, 1])) .nil) }
def p_float_from : PFun := { np := 3, ns := 7, urn := false, fresh := false, body := (.cons (.par [3, 4, 5] (.cons (.call "rim_point" (.cons (.var 0) (.cons (.var 2) .nil)) [0, 1]) (.cons (.bin .mod (.bin .add (.idx (.var 2) (.lit (.int 0))) (.lit (.int 1))) (.bi .len (.cons (.var 0) .nil))) (.cons (.var 1) .nil)))) (.cons (.whil (.lit (.bool true)) (.cons (.set 6 (.call "plate_area" (.cons (.lst (.cons (.var 3) (.cons (.idx (.var 0) (.var 4)) (.cons (.idx (.var 0) (.bin .mod (.bin .add (.var 4) (.lit (.int 1))) (.bi .len (.cons (.var 0) .nil)))) .nil)))) .nil) [0])) (.cons (.ite (.call "is_lower" (.cons (.var 5) (.cons (.var 6) .nil)) [0, 1]) (.cons (.ret (.tup (.cons (.var 2) (.cons (.tup (.cons (.var 4) (.cons (.call "ratio_over" (.cons (.var 5) (.cons (.var 6) .nil)) [0, 1]) .nil))) .nil)))) .nil) .nil) (.cons (.set 5 (.call "ratio_less" (.cons (.var 5) (.cons (.var 6) .nil)) [0, 1])) (.cons (.set 4 (.bin .mod (.bin .add (.var 4) (.lit (.int 1))) (.bi .len (.cons (.var 0) .nil)))) .nil))))) .nil)) }
def p_has : PFun := { np := 2, ns := 4, urn := false, fresh := false, body := (.cons (.ite (.cmp .eq (.bi .len (.cons (.var 0) .nil)) (.lit (.int 1))) (.cons (.ret (.cmp .eq (.idx (.var 0) (.lit (.int 0))) (.var 1))) .nil) .nil) (.cons (.ite (.cmp .eq (.bi .len (.cons (.var 0) .nil)) (.lit (.int 2))) (.cons (.ret (.and (.cmp .eq (.call "turn_of" (.cons (.idx (.var 0) (.lit (.int 0))) (.cons (.idx (.var 0) (.lit (.int 1))) (.cons (.var 1) .nil))) [0, 1, 2]) (.lit (.int 0))) (.cmp .eq (.call "hull" (.cons (.lst (.cons (.idx (.var 0) (.lit (.int 0))) (.cons (.idx (.var 0) (.lit (.int 1))) (.cons (.var 1) .nil)))) .nil) [0]) (.var 0)))) .nil) .nil) (.cons (.ret (.bi .all (.cons (.comp (.cmp .ge (.call "turn_of" (.cons (.var 3) (.cons (.call "next_corner" (.cons (.var 0) (.cons (.var 2) .nil)) [0, 1]) (.cons (.var 1) .nil))) [0, 1, 2]) (.lit (.int 0))) (.many [2, 3]) (.enum (.var 0)) .no [2, 3]) .nil))) .nil))) }
def p_hull : PFun := { np := 1, ns := 7, urn := false, fresh := false, body := (.cons (.unp [.nm 1, .nm 2] (.call "on_grid" (.cons (.var 0) .nil) [0])) (.cons (.set 3 (.bi .sortedSet (.cons (.var 1) .nil))) (.cons (.set 4 (.ite (.cmp .eq (.bi .len (.cons (.var 3) .nil)) (.lit (.int 1))) (.var 3) (.bin .add (.sli (.call "bend_chain" (.cons (.var 3) .nil) [0]) .no (.yes (.neg (.lit (.int 1))))) (.sli (.call "bend_chain" (.cons (.rev (.var 3)) .nil) [0]) .no (.yes (.neg (.lit (.int 1)))))))) (.cons (.ret (.bi .tuple (.cons (.comp (.call "vector" (.cons (.var 5) (.cons (.var 6) (.cons (.var 2) .nil))) [0, 1, 2]) (.many [5, 6]) (.seq (.var 4)) .no [5, 6]) .nil))) .nil)))) }
def p_inner_of : PFun := { np := 2, ns := 2, urn := false, fresh := false, body := (.cons (.ret (.call "ratio" (.cons (.bin .add (.bin .mul (.idx (.var 0) (.lit (.int 0))) (.idx (.var 1) (.lit (.int 0)))) (.bin .mul (.idx (.var 0) (.lit (.int 1))) (.idx (.var 1) (.lit (.int 1))))) (.cons (.bin .mul (.idx (.var 0) (.lit (.int 2))) (.idx (.var 1) (.lit (.int 2)))) .nil)) [0, 1])) .nil) }
def p_is_between : PFun := { np := 3, ns := 3, urn := false, fresh := false, body := (.cons (.ret (.and (.call "is_whole" (.cons (.var 0) .nil) [0]) (.chain .le .le (.var 1) (.var 0) (.var 2)))) .nil) }
def p_is_line : PFun := { np := 2, ns := 3, urn := false, fresh := false, body := (.cons (.ite (.or (.not (.bi .isTuple (.cons (.var 1) .nil))) (.cmp .ne (.bi .len (.cons (.var 1) .nil)) (.lit (.int 2)))) (.cons (.ret (.lit (.bool false))) .nil) .nil) (.cons (.ite (.or (.not (.call "is_rim" (.cons (.var 0) (.cons (.idx (.var 1) (.lit (.int 0))) .nil)) [0, 1])) (.not (.call "is_rim" (.cons (.var 0) (.cons (.idx (.var 1) (.lit (.int 1))) .nil)) [0, 1]))) (.cons (.ret (.lit (.bool false))) .nil) .nil) (.cons (.ret (.not (.bi .any (.cons (.comp (.cmp .isin (.var 2) (.call "edges_at" (.cons (.var 0) (.cons (.idx (.var 1) (.lit (.int 1))) .nil)) [0, 1])) (.one 2) (.seq (.call "edges_at" (.cons (.var 0) (.cons (.idx (.var 1) (.lit (.int 0))) .nil)) [0, 1])) .no [2]) .nil)))) .nil))) }
def p_is_lot : PFun := { np := 1, ns := 1, urn := false, fresh := false, body := (.cons (.ret (.call "is_shape" (.cons (.var 0) .nil) [0])) .nil) }
def p_is_lower : PFun := { np := 2, ns := 2, urn := false, fresh := false, body := (.cons (.ret (.cmp .lt (.bin .mul (.idx (.var 0) (.lit (.int 0))) (.idx (.var 1) (.lit (.int 1)))) (.bin .mul (.idx (.var 1) (.lit (.int 0))) (.idx (.var 0) (.lit (.int 1)))))) .nil) }
def p_is_plate : PFun := { np := 1, ns := 1, urn := false, fresh := false, body := (.cons (.ret (.and (.call "is_shape" (.cons (.var 0) .nil) [0]) (.chain .le .le (.lit (.int 3)) (.bi .len (.cons (.var 0) .nil)) (.glob "MOST_EDGES")))) .nil) }
def p_is_pointing : PFun := { np := 1, ns := 1, urn := false, fresh := false, body := (.cons (.ret (.and (.call "are_wholes" (.cons (.var 0) (.cons (.lit (.int 2)) .nil)) [0, 1]) (.call "is_reduced" (.cons (.var 0) .nil) [0]))) .nil) }
def p_is_ratio : PFun := { np := 1, ns := 1, urn := false, fresh := false, body := (.cons (.ret (.and (.call "are_wholes" (.cons (.var 0) (.cons (.lit (.int 2)) .nil)) [0, 1]) (.and (.cmp .gt (.idx (.var 0) (.lit (.int 1))) (.lit (.int 0))) (.call "is_reduced" (.cons (.var 0) .nil) [0])))) .nil) }
def p_is_reduced : PFun := { np := 1, ns := 1, urn := false, fresh := false, body := (.cons (.ret (.cmp .eq (.call "divisor_of" (.cons (.var 0) .nil) [0]) (.lit (.int 1)))) .nil) }
def p_is_rim : PFun := { np := 2, ns := 2, urn := false, fresh := false, body := (.cons (.ite (.or (.not (.bi .isTuple (.cons (.var 1) .nil))) (.cmp .ne (.bi .len (.cons (.var 1) .nil)) (.lit (.int 2)))) (.cons (.ret (.lit (.bool false))) .nil) .nil) (.cons (.ret (.and (.call "is_between" (.cons (.idx (.var 1) (.lit (.int 0))) (.cons (.lit (.int 0)) (.cons (.bin .sub (.bi .len (.cons (.var 0) .nil)) (.lit (.int 1))) .nil))) [0, 1, 2]) (.call "is_share" (.cons (.idx (.var 1) (.lit (.int 1))) .nil) [0]))) .nil)) }
def p_is_shape : PFun := { np := 1, ns := 2, urn := false, fresh := false, body := (.cons (.ite (.or (.not (.bi .isTuple (.cons (.var 0) .nil))) (.or (.cmp .eq (.var 0) (.tup .nil)) (.not (.bi .all (.cons (.comp (.call "is_vector" (.cons (.var 1) .nil) [0]) (.one 1) (.seq (.var 0)) .no [1]) .nil))))) (.cons (.ret (.lit (.bool false))) .nil) .nil) (.cons (.ret (.cmp .eq (.call "hull" (.cons (.var 0) .nil) [0]) (.var 0))) .nil)) }
def p_is_share : PFun := { np := 1, ns := 1, urn := false, fresh := false, body := (.cons (.ret (.and (.call "is_ratio" (.cons (.var 0) .nil) [0]) (.chain .le .lt (.lit (.int 0)) (.idx (.var 0) (.lit (.int 0))) (.idx (.var 0) (.lit (.int 1)))))) .nil) }
def p_is_vector : PFun := { np := 1, ns := 1, urn := false, fresh := false, body := (.cons (.ret (.and (.call "are_wholes" (.cons (.var 0) (.cons (.lit (.int 3)) .nil)) [0, 1]) (.and (.cmp .gt (.idx (.var 0) (.lit (.int 2))) (.lit (.int 0))) (.call "is_reduced" (.cons (.var 0) .nil) [0])))) .nil) }
def p_is_wet_area : PFun := { np := 2, ns := 2, urn := false, fresh := false, body := (.cons (.ret (.and (.call "is_ratio" (.cons (.var 1) .nil) [0]) (.and (.call "is_lower" (.cons (.glob "ZERO") (.cons (.var 1) .nil)) [0, 1]) (.call "is_lower" (.cons (.var 1) (.cons (.call "plate_area" (.cons (.var 0) .nil) [0]) .nil)) [0, 1])))) .nil) }
def p_is_whole : PFun := { np := 1, ns := 1, urn := false, fresh := false, body := (.cons (.ret (.and (.bi .isInt (.cons (.var 0) .nil)) (.not (.bi .isBool (.cons (.var 0) .nil))))) .nil) }
def p_level_of : PFun := { np := 2, ns := 2, urn := false, fresh := false, body := (.cons (.ret (.call "ratio" (.cons (.bin .add (.bin .mul (.idx (.var 0) (.lit (.int 0))) (.idx (.var 1) (.lit (.int 0)))) (.bin .mul (.idx (.var 0) (.lit (.int 1))) (.idx (.var 1) (.lit (.int 1))))) (.cons (.idx (.var 1) (.lit (.int 2))) .nil)) [0, 1])) .nil) }
def p_lever_of : PFun := { np := 3, ns := 3, urn := false, fresh := false, body := (.cons (.ret (.call "inner_of" (.cons (.call "chord_way" (.cons (.var 0) (.cons (.var 2) .nil)) [0, 1]) (.cons (.call "vector_less" (.cons (.call "wet_middle" (.cons (.var 0) (.cons (.var 2) .nil)) [0, 1]) (.cons (.var 1) .nil)) [0, 1]) .nil)) [0, 1])) .nil) }
def p_metacentre_of : PFun := { np := 2, ns := 5, urn := false, fresh := false, body := (.cons (.par [2, 3] (.cons (.call "span_of" (.cons (.var 0) (.cons (.var 1) .nil)) [0, 1]) (.cons (.call "stand_area" (.cons (.var 0) (.cons (.var 1) .nil)) [0, 1]) .nil))) (.cons (.set 4 (.call "vector_times" (.cons (.call "quartered" (.cons (.call "chord_way" (.cons (.var 0) (.cons (.var 1) .nil)) [0, 1]) .nil) [0]) (.cons (.tup (.cons (.bin .mul (.idx (.var 2) (.lit (.int 0))) (.idx (.var 3) (.lit (.int 1)))) (.cons (.bin .mul (.bin .mul (.idx (.var 2) (.lit (.int 1))) (.idx (.var 3) (.lit (.int 0)))) (.lit (.int 12))) .nil))) .nil)) [0, 1])) (.cons (.ret (.call "vector_sum" (.cons (.call "wet_middle" (.cons (.var 0) (.cons (.var 1) .nil)) [0, 1]) (.cons (.var 4) .nil)) [0, 1])) .nil))) }
def p_middle : PFun := { np := 1, ns := 10, urn := false, fresh := false, body := (.cons (.unp [.nm 1, .nm 2] (.call "on_grid" (.cons (.var 0) .nil) [0])) (.cons (.set 3 (.call "crosses" (.cons (.var 1) .nil) [0])) (.cons (.set 4 (.bin .add (.sli (.var 1) (.yes (.lit (.int 1))) .no) (.sli (.var 1) .no (.yes (.lit (.int 1)))))) (.cons (.set 5 (.bi .sum (.cons (.comp (.bin .mul (.bin .add (.idx (.var 6) (.lit (.int 0))) (.idx (.var 7) (.lit (.int 0)))) (.var 8)) (.many [6, 7, 8]) (.zip3 (.var 1) (.var 4) (.var 3)) .no [6, 7, 8]) .nil))) (.cons (.set 9 (.bi .sum (.cons (.comp (.bin .mul (.bin .add (.idx (.var 6) (.lit (.int 1))) (.idx (.var 7) (.lit (.int 1)))) (.var 8)) (.many [6, 7, 8]) (.zip3 (.var 1) (.var 4) (.var 3)) .no [6, 7, 8]) .nil))) (.cons (.ret (.call "vector" (.cons (.var 5) (.cons (.var 9) (.cons (.bin .mul (.bin .mul (.lit (.int 3)) (.var 2)) (.bi .sum (.cons (.var 3) .nil))) .nil))) [0, 1, 2])) .nil)))))) }
def p_multiple_of : PFun := { np := 2, ns := 2, urn := false, fresh := false, body := (.cons (.ret (.bin .mul (.bin .fdiv (.var 0) (.call "divisor_of" (.cons (.tup (.cons (.var 0) (.cons (.var 1) .nil))) .nil) [0])) (.var 1))) .nil) }
def p_next_corner : PFun := { np := 2, ns := 2, urn := false, fresh := false, body := (.cons (.ret (.idx (.var 0) (.bin .mod (.bin .add (.var 1) (.lit (.int 1))) (.bi .len (.cons (.var 0) .nil))))) .nil) }
def p_on_grid : PFun := { np := 1, ns := 6, urn := false, fresh := false, body := (.cons (.set 1 (.lit (.int 1))) (.cons (.for_ (.one 2) (.seq (.var 0)) (.cons (.set 1 (.call "multiple_of" (.cons (.var 1) (.cons (.idx (.var 2) (.lit (.int 2))) .nil)) [0, 1])) .nil)) (.cons (.ret (.tup (.cons (.comp (.tup (.cons (.bin .mul (.var 3) (.bin .fdiv (.var 1) (.var 5))) (.cons (.bin .mul (.var 4) (.bin .fdiv (.var 1) (.var 5))) .nil))) (.many [3, 4, 5]) (.seq (.var 0)) .no [3, 4, 5]) (.cons (.var 1) .nil)))) .nil))) }
def p_passed_corners : PFun := { np := 2, ns := 5, urn := false, fresh := false, body := (.cons (.par [2, 3] (.cons (.idx (.idx (.var 1) (.lit (.int 0))) (.lit (.int 0))) (.cons (.idx (.idx (.var 1) (.lit (.int 1))) (.lit (.int 0))) .nil))) (.cons (.set 4 (.lst .nil)) (.cons (.whil (.cmp .ne (.var 2) (.var 3)) (.cons (.set 2 (.bin .mod (.bin .add (.var 2) (.lit (.int 1))) (.bi .len (.cons (.var 0) .nil)))) (.cons (.app 4 (.var 2)) .nil))) (.cons (.ret (.ite (.cmp .eq (.idx (.idx (.var 1) (.lit (.int 1))) (.lit (.int 1))) (.glob "ZERO")) (.sli (.var 4) .no (.yes (.neg (.lit (.int 1))))) (.var 4))) .nil)))) }
def p_plate_area : PFun := { np := 1, ns := 3, urn := false, fresh := false, body := (.cons (.unp [.nm 1, .nm 2] (.call "on_grid" (.cons (.var 0) .nil) [0])) (.cons (.ret (.call "ratio" (.cons (.bi .sum (.cons (.call "crosses" (.cons (.var 1) .nil) [0]) .nil)) (.cons (.bin .mul (.bin .mul (.lit (.int 2)) (.var 2)) (.var 2)) .nil)) [0, 1])) .nil)) }
def p_points_below : PFun := { np := 2, ns := 5, urn := false, fresh := false, body := (.cons (.unp [.nm 2, .nm 3] (.call "chord_ends" (.cons (.var 0) (.cons (.var 1) .nil)) [0, 1])) (.cons (.ret (.bin .add (.bin .add (.lst (.cons (.var 2) .nil)) (.comp (.idx (.var 0) (.var 4)) (.one 4) (.seq (.call "passed_corners" (.cons (.var 0) (.cons (.var 1) .nil)) [0, 1])) .no [4])) (.lst (.cons (.var 3) .nil)))) .nil)) }
def p_quartered : PFun := { np := 1, ns := 1, urn := false, fresh := false, body := (.cons (.ret (.tup (.cons (.neg (.idx (.var 0) (.lit (.int 1)))) (.cons (.idx (.var 0) (.lit (.int 0))) (.cons (.idx (.var 0) (.lit (.int 2))) .nil))))) .nil) }
def p_ratio : PFun := { np := 2, ns := 3, urn := false, fresh := false, body := (.cons (.set 2 (.call "divisor_of" (.cons (.tup (.cons (.var 0) (.cons (.var 1) .nil))) .nil) [0])) (.cons (.set 2 (.ite (.cmp .gt (.var 1) (.lit (.int 0))) (.var 2) (.neg (.var 2)))) (.cons (.ret (.tup (.cons (.bin .fdiv (.var 0) (.var 2)) (.cons (.bin .fdiv (.var 1) (.var 2)) .nil)))) .nil))) }
def p_ratio_less : PFun := { np := 2, ns := 2, urn := false, fresh := false, body := (.cons (.ret (.call "ratio" (.cons (.bin .sub (.bin .mul (.idx (.var 0) (.lit (.int 0))) (.idx (.var 1) (.lit (.int 1)))) (.bin .mul (.idx (.var 1) (.lit (.int 0))) (.idx (.var 0) (.lit (.int 1))))) (.cons (.bin .mul (.idx (.var 0) (.lit (.int 1))) (.idx (.var 1) (.lit (.int 1)))) .nil)) [0, 1])) .nil) }
def p_ratio_over : PFun := { np := 2, ns := 2, urn := false, fresh := false, body := (.cons (.ret (.call "ratio" (.cons (.bin .mul (.idx (.var 0) (.lit (.int 0))) (.idx (.var 1) (.lit (.int 1)))) (.cons (.bin .mul (.idx (.var 0) (.lit (.int 1))) (.idx (.var 1) (.lit (.int 0)))) .nil)) [0, 1])) .nil) }
def p_ratio_product : PFun := { np := 2, ns := 2, urn := false, fresh := false, body := (.cons (.ret (.call "ratio" (.cons (.bin .mul (.idx (.var 0) (.lit (.int 0))) (.idx (.var 1) (.lit (.int 0)))) (.cons (.bin .mul (.idx (.var 0) (.lit (.int 1))) (.idx (.var 1) (.lit (.int 1)))) .nil)) [0, 1])) .nil) }
def p_rim_point : PFun := { np := 2, ns := 2, urn := false, fresh := false, body := (.cons (.ite (.cmp .eq (.idx (.var 1) (.lit (.int 1))) (.glob "ZERO")) (.cons (.ret (.idx (.var 0) (.idx (.var 1) (.lit (.int 0))))) .nil) .nil) (.cons (.ret (.call "vector_between" (.cons (.idx (.var 0) (.idx (.var 1) (.lit (.int 0)))) (.cons (.idx (.var 0) (.bin .mod (.bin .add (.idx (.var 1) (.lit (.int 0))) (.lit (.int 1))) (.bi .len (.cons (.var 0) .nil)))) (.cons (.idx (.var 1) (.lit (.int 1))) .nil))) [0, 1, 2])) .nil)) }
def p_rise : PFun := { np := 3, ns := 3, urn := false, fresh := false, body := (.cons (.drop (.call "check_balance" (.cons (.var 0) (.cons (.var 1) (.cons (.var 2) .nil))) [0, 1, 2])) (.cons (.ret (.call "rise_of" (.cons (.var 0) (.cons (.var 1) (.cons (.var 2) .nil))) [0, 1, 2])) .nil)) }
def p_rise_of : PFun := { np := 3, ns := 3, urn := false, fresh := false, body := (.cons (.ret (.call "inner_of" (.cons (.call "quartered" (.cons (.call "chord_way" (.cons (.var 0) (.cons (.var 2) .nil)) [0, 1]) .nil) [0]) (.cons (.call "vector_less" (.cons (.var 1) (.cons (.call "wet_middle" (.cons (.var 0) (.cons (.var 2) .nil)) [0, 1]) .nil)) [0, 1]) .nil)) [0, 1])) .nil) }
def p_shortened : PFun := { np := 1, ns := 3, urn := false, fresh := false, body := (.cons (.set 1 (.call "divisor_of" (.cons (.var 0) .nil) [0])) (.cons (.ret (.ite (.cmp .gt (.var 1) (.lit (.int 1))) (.bi .tuple (.cons (.comp (.bin .fdiv (.var 2) (.var 1)) (.one 2) (.seq (.var 0)) .no [2]) .nil)) (.bi .tuple (.cons (.var 0) .nil)))) .nil)) }
def p_sign_of : PFun := { np := 1, ns := 1, urn := false, fresh := false, body := (.cons (.ret (.ite (.cmp .gt (.var 0) (.lit (.int 0))) (.lit (.int 1)) (.ite (.cmp .lt (.var 0) (.lit (.int 0))) (.neg (.lit (.int 1))) (.lit (.int 0))))) .nil) }
def p_signed_square : PFun := { np := 1, ns := 2, urn := false, fresh := false, body := (.cons (.set 1 (.call "ratio_product" (.cons (.var 0) (.cons (.var 0) .nil)) [0, 1])) (.cons (.ret (.ite (.cmp .gt (.idx (.var 0) (.lit (.int 0))) (.lit (.int 0))) (.var 1) (.call "ratio_less" (.cons (.glob "ZERO") (.cons (.var 1) .nil)) [0, 1]))) .nil)) }
def p_span_of : PFun := { np := 2, ns := 3, urn := false, fresh := false, body := (.cons (.set 2 (.call "chord_way" (.cons (.var 0) (.cons (.var 1) .nil)) [0, 1])) (.cons (.ret (.call "inner_of" (.cons (.var 2) (.cons (.var 2) .nil)) [0, 1])) .nil)) }
def p_stand_area : PFun := { np := 2, ns := 2, urn := false, fresh := false, body := (.cons (.ret (.call "plate_area" (.cons (.call "points_below" (.cons (.var 0) (.cons (.var 1) .nil)) [0, 1]) .nil) [0])) .nil) }
def p_trimmed : PFun := { np := 1, ns := 2, urn := false, fresh := false, body := (.cons (.set 1 (.bi .list (.cons (.var 0) .nil))) (.cons (.whil (.and (.cmp .ne (.var 1) (.lst .nil)) (.cmp .eq (.idx (.var 1) (.neg (.lit (.int 1)))) (.lit (.int 0)))) (.cons (.pop 1) .nil)) (.cons (.ret (.bi .tuple (.cons (.var 1) .nil))) .nil))) }
def p_turn_of : PFun := { np := 3, ns := 12, urn := false, fresh := false, body := (.cons (.unp [.nm 3, .nm 4, .nm 5] (.var 0)) (.cons (.unp [.nm 6, .nm 7, .nm 8] (.var 1)) (.cons (.unp [.nm 9, .nm 10, .nm 11] (.var 2)) (.cons (.ret (.call "sign_of" (.cons (.bin .add (.bin .sub (.bin .mul (.var 3) (.bin .sub (.bin .mul (.var 7) (.var 11)) (.bin .mul (.var 10) (.var 8)))) (.bin .mul (.var 4) (.bin .sub (.bin .mul (.var 6) (.var 11)) (.bin .mul (.var 9) (.var 8))))) (.bin .mul (.var 5) (.bin .sub (.bin .mul (.var 6) (.var 10)) (.bin .mul (.var 9) (.var 7))))) .nil) [0])) .nil)))) }
def p_vector : PFun := { np := 3, ns := 4, urn := false, fresh := false, body := (.cons (.set 3 (.call "divisor_of" (.cons (.tup (.cons (.var 0) (.cons (.var 1) (.cons (.var 2) .nil)))) .nil) [0])) (.cons (.set 3 (.ite (.cmp .gt (.var 2) (.lit (.int 0))) (.var 3) (.neg (.var 3)))) (.cons (.ret (.tup (.cons (.bin .fdiv (.var 0) (.var 3)) (.cons (.bin .fdiv (.var 1) (.var 3)) (.cons (.bin .fdiv (.var 2) (.var 3)) .nil))))) .nil))) }
def p_vector_between : PFun := { np := 3, ns := 3, urn := false, fresh := false, body := (.cons (.ret (.call "vector_sum" (.cons (.var 0) (.cons (.call "vector_times" (.cons (.call "vector_less" (.cons (.var 1) (.cons (.var 0) .nil)) [0, 1]) (.cons (.var 2) .nil)) [0, 1]) .nil)) [0, 1])) .nil) }
def p_vector_less : PFun := { np := 2, ns := 2, urn := false, fresh := false, body := (.cons (.ret (.call "vector" (.cons (.bin .sub (.bin .mul (.idx (.var 0) (.lit (.int 0))) (.idx (.var 1) (.lit (.int 2)))) (.bin .mul (.idx (.var 1) (.lit (.int 0))) (.idx (.var 0) (.lit (.int 2))))) (.cons (.bin .sub (.bin .mul (.idx (.var 0) (.lit (.int 1))) (.idx (.var 1) (.lit (.int 2)))) (.bin .mul (.idx (.var 1) (.lit (.int 1))) (.idx (.var 0) (.lit (.int 2))))) (.cons (.bin .mul (.idx (.var 0) (.lit (.int 2))) (.idx (.var 1) (.lit (.int 2)))) .nil))) [0, 1, 2])) .nil) }
def p_vector_sum : PFun := { np := 2, ns := 2, urn := false, fresh := false, body := (.cons (.ret (.call "vector" (.cons (.bin .add (.bin .mul (.idx (.var 0) (.lit (.int 0))) (.idx (.var 1) (.lit (.int 2)))) (.bin .mul (.idx (.var 1) (.lit (.int 0))) (.idx (.var 0) (.lit (.int 2))))) (.cons (.bin .add (.bin .mul (.idx (.var 0) (.lit (.int 1))) (.idx (.var 1) (.lit (.int 2)))) (.bin .mul (.idx (.var 1) (.lit (.int 1))) (.idx (.var 0) (.lit (.int 2))))) (.cons (.bin .mul (.idx (.var 0) (.lit (.int 2))) (.idx (.var 1) (.lit (.int 2)))) .nil))) [0, 1, 2])) .nil) }
def p_vector_times : PFun := { np := 2, ns := 2, urn := false, fresh := false, body := (.cons (.ret (.call "vector" (.cons (.bin .mul (.idx (.var 0) (.lit (.int 0))) (.idx (.var 1) (.lit (.int 0)))) (.cons (.bin .mul (.idx (.var 0) (.lit (.int 1))) (.idx (.var 1) (.lit (.int 0)))) (.cons (.bin .mul (.idx (.var 0) (.lit (.int 2))) (.idx (.var 1) (.lit (.int 1)))) .nil))) [0, 1, 2])) .nil) }
def p_wet_middle : PFun := { np := 2, ns := 2, urn := false, fresh := false, body := (.cons (.ret (.call "middle" (.cons (.call "points_below" (.cons (.var 0) (.cons (.var 1) .nil)) [0, 1]) .nil) [0])) .nil) }
end Pl
/-! PLib1: to reckon with the evaluator. -/
namespace Pl
open PySem (PyData Str)

theorem callU_eq {G : Prog} {f : String} {p : PFun} (h : G.T f = some p) (n : Nat) (ds : List D) (u : U) : callU G (n + 1) f ds u = runF (ctxN G n) G.ff p ds u := by
  show (match G.T f with | some q => runF (ctxOf G (callU G n)) G.ff q ds u | none => none) = _
  rw [h]; rfl
theorem ctx_fn {G : Prog} {f : String} {p : PFun} (h : G.T f = some p) (hu : p.urn = false) (n : Nat) (ds : List D) : (ctxN G n).fn f ds = (callU G n f ds []).map (·.1) := by
  unfold ctxN ctxOf
  simp only [h, hu, Bool.false_eq_true, if_false]
theorem ctx_ufn {G : Prog} {f : String} {p : PFun} (h : G.T f = some p) (hu : p.urn = true) (n : Nat) (ds : List D) (u : U) : (ctxN G n).ufn f ds u = callU G n f ds u := by
  unfold ctxN ctxOf
  simp only [h, hu, if_true]
theorem ff_eq {G : Prog} {f : String} {p : PFun} (h : G.T f = some p) : G.ff f = p.fresh := by
  unfold Prog.ff
  rw [h]

@[simp] theorem wipe_nil (env : Env) : wipe env [] = env := rfl
@[simp] theorem wipe_cons (env : Env) (v : Nat) (vs : List Nat) : wipe env (v :: vs) = (wipe env vs).set v .no := rfl
@[simp] theorem shaped_int (i : Int) : PySem.SeqAt.shaped (.int i) = true := by simp [PySem.SeqAt.shaped, PyData.canLay0, PyData.depth]
@[simp] theorem shaped_bool (i : Bool) : PySem.SeqAt.shaped (.bool i) = true := by simp [PySem.SeqAt.shaped, PyData.canLay0, PyData.depth]
@[simp] theorem eqD_int (i j : Int) : eqD (.int i) (.int j) = some (decide (i = j)) := by
  simp [eqD, PyData.eqv]
  rfl
@[simp] theorem eqD_str (i j : Str) : eqD (.str i) (.str j) = some (decide (i = j)) := rfl
@[simp] theorem atI_nat {α : Type} (xs : List α) (n : Nat) : atI xs (n : Int) = xs[n]? := by
  unfold atI
  rw [if_pos (Int.natCast_nonneg n)]
  rfl
@[simp] theorem atI_0 {α : Type} (xs : List α) : atI xs 0 = xs[0]? := rfl
@[simp] theorem atI_2 {α : Type} (xs : List α) : atI xs 2 = xs[2]? := rfl
@[simp] theorem atI_3 {α : Type} (xs : List α) : atI xs 3 = xs[3]? := rfl
@[simp] theorem atI_4 {α : Type} (xs : List α) : atI xs 4 = xs[4]? := rfl
@[simp] theorem atI_5 {α : Type} (xs : List α) : atI xs 5 = xs[5]? := rfl
@[simp] theorem atI_6 {α : Type} (xs : List α) : atI xs 6 = xs[6]? := rfl
@[simp] theorem atI_7 {α : Type} (xs : List α) : atI xs 7 = xs[7]? := rfl
@[simp] theorem atI_8 {α : Type} (xs : List α) : atI xs 8 = xs[8]? := rfl
@[simp] theorem atI_9 {α : Type} (xs : List α) : atI xs 9 = xs[9]? := rfl
@[simp] theorem atI_1 {α : Type} (xs : List α) : atI xs 1 = xs[1]? := rfl
@[simp] theorem ixN_nat (n m : Nat) : ixN m (n : Int) = if n < m then some n else none := by
  unfold ixN
  rw [if_pos (Int.natCast_nonneg n)]
  simp
@[simp] theorem ixN_0 (m : Nat) : ixN m 0 = if 0 < m then some 0 else none := ixN_nat 0 m
@[simp] theorem ixN_1 (m : Nat) : ixN m 1 = if 1 < m then some 1 else none := ixN_nat 1 m
@[simp] theorem ixN_2 (m : Nat) : ixN m 2 = if 2 < m then some 2 else none := ixN_nat 2 m
@[simp] theorem ixN_3 (m : Nat) : ixN m 3 = if 3 < m then some 3 else none := ixN_nat 3 m
@[simp] theorem sizeOk_lit (n : Nat) : sizeOk n = decide (n ≤ 100000) := rfl

theorem ff_no {G : Prog} {f : String} {p : PFun} (h : G.T f = some p) (hf : p.fresh = false) : G.ff f = false := (ff_eq h).trans hf
theorem slotOf_nl {ff : String → Bool} {e : E} {d : D} (h : isL d = false) : slotOf ff e d = .imm d := by
  unfold slotOf
  cases d <;> simp [isL] at h ⊢
@[simp] theorem slotOf_int {ff : String → Bool} {e : E} {i : Int} : slotOf ff e (.int i) = .imm (.int i) := slotOf_nl rfl
@[simp] theorem slotOf_bool {ff : String → Bool} {e : E} {i : Bool} : slotOf ff e (.bool i) = .imm (.bool i) := slotOf_nl rfl
@[simp] theorem slotOf_none {ff : String → Bool} {e : E} : slotOf ff e .none = .imm .none := slotOf_nl rfl
@[simp] theorem slotOf_str {ff : String → Bool} {e : E} {i : Str} : slotOf ff e (.str i) = .imm (.str i) := slotOf_nl rfl
@[simp] theorem slotOf_tuple {ff : String → Bool} {e : E} {i : List D} : slotOf ff e (.tuple i) = .imm (.tuple i) := slotOf_nl rfl
@[simp] theorem slotOf_list_t {ff : String → Bool} {e : E} {i : List D} (h : fk ff e = true) : slotOf ff e (.list i) = .own i := by unfold slotOf; rw [if_pos h]
@[simp] theorem slotOf_list_f {ff : String → Bool} {e : E} {i : List D} (h : fk ff e = false) : slotOf ff e (.list i) = .imm (.list i) := by unfold slotOf; rw [h]; rfl
theorem within_nl {ff : String → Bool} {e : E} {d : D} (h : noList d = true) : within ff e d = true := by
  unfold within
  cases d <;> simp [noList] at h ⊢ <;> exact h
@[simp] theorem within_int {ff : String → Bool} {e : E} {i : Int} : within ff e (.int i) = true := within_nl rfl
@[simp] theorem within_bool {ff : String → Bool} {e : E} {i : Bool} : within ff e (.bool i) = true := within_nl rfl
@[simp] theorem within_none {ff : String → Bool} {e : E} : within ff e .none = true := within_nl rfl
@[simp] theorem within_str {ff : String → Bool} {e : E} {i : Str} : within ff e (.str i) = true := within_nl rfl
@[simp] theorem within_tuple {ff : String → Bool} {e : E} {i : List D} : within ff e (.tuple i) = noListAll i := by unfold within; split <;> rfl
@[simp] theorem within_list_t {ff : String → Bool} {e : E} {i : List D} (h : fk ff e = true) : within ff e (.list i) = noListAll i := by unfold within; rw [if_pos h]
@[simp] theorem within_list_f {ff : String → Bool} {e : E} {i : List D} (h : fk ff e = false) : within ff e (.list i) = false := by unfold within; rw [h]; rfl
@[simp] theorem after_t {ff : String → Bool} {env : Env} {e : E} {d : D} (h : within ff e d = true) : after ff env e d = env := by unfold after; rw [if_pos h]
@[simp] theorem after_f {ff : String → Bool} {env : Env} {e : E} {d : D} (h : within ff e d = false) : after ff env e d = freeze env (fvE e) := by unfold after; rw [h]; rfl

/-- whole numbers below 2 ^ k -/
def Sm (k : Nat) (i : Int) : Prop := i.natAbs < 2 ^ k
theorem Sm.mono {j k : Nat} {i : Int} (h : Sm j i) (q : j ≤ k) : Sm k i := Nat.lt_of_lt_of_le h (Nat.pow_le_pow_right (by decide) q)
theorem Sm.mul {j k : Nat} {a b : Int} (h : Sm j a) (q : Sm k b) : Sm (j + k) (a * b) := by
  unfold Sm at *
  rw [Int.natAbs_mul, Nat.pow_add]
  exact Nat.mul_lt_mul'' h q
theorem Sm.add {j k : Nat} {a b : Int} (h : Sm j a) (q : Sm k b) : Sm (max j k + 1) (a + b) := by
  have h1 := h.mono (Nat.le_max_left j k)
  have h2 := q.mono (Nat.le_max_right j k)
  unfold Sm at *
  rw [Nat.pow_succ]
  omega
theorem Sm.neg {k : Nat} {a : Int} (h : Sm k a) : Sm k (-a) := by unfold Sm at *; rw [Int.natAbs_neg]; exact h
theorem Sm.sub {j k : Nat} {a b : Int} (h : Sm j a) (q : Sm k b) : Sm (max j k + 1) (a - b) := by
  rw [Int.sub_eq_add_neg]
  exact h.add q.neg
theorem log2_lt {n k : Nat} (h : n < 2 ^ k) (hk : 0 < k) : n.log2 < k := by
  by_cases hn : n = 0
  · subst hn; simpa using hk
  · exact (Nat.log2_lt hn).mpr h
theorem mulOk_of {j k : Nat} {a b : Int} (h : Sm j a) (q : Sm k b) (hj : j < 400000) (hk : k < 400000) : mulOk a b = true := by
  unfold mulOk
  have h1 := log2_lt (h.mono (Nat.le_succ j)) (Nat.succ_pos j)
  have h2 := log2_lt (q.mono (Nat.le_succ k)) (Nat.succ_pos k)
  exact decide_eq_true (by omega)
theorem divOk_of {k : Nat} {b : Int} (h : Sm k b) (hb : b ≠ 0) (hk : k < 8999) : divOk b = true := by
  unfold divOk
  have h1 := log2_lt (h.mono (Nat.le_succ k)) (Nat.succ_pos k)
  exact decide_eq_true ⟨hb, by omega⟩
theorem Sm.ofDvd {k : Nat} {a p b : Int} (h : Sm k a) (e : a = p * b) (hp : p ≠ 0) : Sm k b := by
  unfold Sm at *
  refine Nat.lt_of_le_of_lt ?_ h
  rw [e, Int.natAbs_mul]
  exact Nat.le_mul_of_pos_left _ (Int.natAbs_pos.mpr hp)

/-- a point, a way: three whole numbers -/
abbrev T3 (x y w : Int) : D := .tuple [.int x, .int y, .int w]
abbrev T2 (x y : Int) : D := .tuple [.int x, .int y]

theorem c_is_whole {G : Prog} (h : G.T "is_whole" = some p_is_whole) (n : Nat) (i : Int) : callU G (n + 1) "is_whole" [.int i] [] = some (.bool true, []) := by
  rw [callU_eq h]
  simp [runF, p_is_whole, mkEnv]
theorem c_are_wholes3 {G : Prog} (h0 : G.T "is_whole" = some p_is_whole) (h : G.T "are_wholes" = some p_are_wholes) (n : Nat) (x y w : Int) : callU G (n + 2) "are_wholes" [T3 x y w, .int 3] [] = some (.bool true, []) := by
  rw [callU_eq h]
  simp [runF, p_are_wholes, mkEnv, ctx_fn h0 rfl, c_is_whole h0]
def g3 (x y w : Int) : Int := (Nat.gcd (Nat.gcd x.natAbs y.natAbs) w.natAbs : Nat)
def g2 (x y : Int) : Int := (Nat.gcd x.natAbs y.natAbs : Nat)
theorem c_divisor_of3 {G : Prog} (h : G.T "divisor_of" = some p_divisor_of) (n : Nat) (x y w : Int) : callU G (n + 1) "divisor_of" [T3 x y w] [] = some (.int (g3 x y w), []) := by
  rw [callU_eq h]
  simp [runF, p_divisor_of, mkEnv, g3]
theorem c_divisor_of2 {G : Prog} (h : G.T "divisor_of" = some p_divisor_of) (n : Nat) (x y : Int) : callU G (n + 1) "divisor_of" [T2 x y] [] = some (.int (g2 x y), []) := by
  rw [callU_eq h]
  simp [runF, p_divisor_of, mkEnv, g2]
end Pl

/-! PLib2: points and fractions of the program. -/
namespace Pl
open PySem (PyData Str)

/-! ### normal forms -/
def nx3 (x y w : Int) : Int := Int.fdiv x (g3 x y w)
def ny3 (x y w : Int) : Int := Int.fdiv y (g3 x y w)
def nw3 (x y w : Int) : Int := Int.fdiv w (g3 x y w)
abbrev nv3 (x y w : Int) : D := T3 (nx3 x y w) (ny3 x y w) (nw3 x y w)
theorem fdiv_mul {g a : Int} (h : g ≠ 0) : Int.fdiv (g * a) g = a := Int.mul_fdiv_cancel_left a h
theorem g3_dvd (x y w : Int) : (g3 x y w ∣ x) ∧ (g3 x y w ∣ y) ∧ (g3 x y w ∣ w) := by
  unfold g3
  refine ⟨?_, ?_, ?_⟩ <;> rw [Int.ofNat_dvd_left]
  · exact Nat.dvd_trans (Nat.gcd_dvd_left _ _) (Nat.gcd_dvd_left _ _)
  · exact Nat.dvd_trans (Nat.gcd_dvd_left _ _) (Nat.gcd_dvd_right _ _)
  · exact Nat.gcd_dvd_right _ _
theorem g3_pos {x y w : Int} (h : w ≠ 0) : 0 < g3 x y w := by
  unfold g3
  exact_mod_cast Nat.gcd_pos_of_pos_right _ (Int.natAbs_pos.mpr h)
theorem n3_eq {x y w : Int} (h : w ≠ 0) : x = g3 x y w * nx3 x y w ∧ y = g3 x y w * ny3 x y w ∧ w = g3 x y w * nw3 x y w := by
  have hp := Int.ne_of_gt (g3_pos (x := x) (y := y) h)
  obtain ⟨⟨a, ha⟩, ⟨b, hb⟩, ⟨c, hc⟩⟩ := g3_dvd x y w
  refine ⟨?_, ?_, ?_⟩
  · unfold nx3
    conv => rhs; rhs; lhs; rw [ha]
    rw [fdiv_mul hp]; exact ha
  · unfold ny3
    conv => rhs; rhs; lhs; rw [hb]
    rw [fdiv_mul hp]; exact hb
  · unfold nw3
    conv => rhs; rhs; lhs; rw [hc]
    rw [fdiv_mul hp]; exact hc
theorem pos_of {g a b : Int} (h : 0 < b) (hg : 0 < g) (e : b = g * a) : 0 < a := by
  rcases Int.lt_or_le 0 a with q | q
  · exact q
  · have := Int.mul_le_mul_of_nonneg_left q (Int.le_of_lt hg)
    rw [← e, Int.mul_zero] at this
    omega
theorem nw3_pos {x y w : Int} (h : 0 < w) : 0 < nw3 x y w := by
  exact pos_of h (g3_pos (x := x) (y := y) (Int.ne_of_gt h)) (n3_eq (x := x) (y := y) (Int.ne_of_gt h)).2.2
theorem g3_mul (k x y w : Int) : g3 (k * x) (k * y) (k * w) = k.natAbs * g3 x y w := by
  unfold g3
  rw [Int.natAbs_mul, Int.natAbs_mul, Int.natAbs_mul, Nat.gcd_mul_left, Nat.gcd_mul_left]
  push_cast
  rfl
theorem g3_n {x y w : Int} (h : w ≠ 0) : g3 (nx3 x y w) (ny3 x y w) (nw3 x y w) = 1 := by
  obtain ⟨h1, h2, h3⟩ := n3_eq (x := x) (y := y) h
  have hp := g3_pos (x := x) (y := y) h
  have e := g3_mul (g3 x y w) (nx3 x y w) (ny3 x y w) (nw3 x y w)
  rw [← h1, ← h2, ← h3] at e
  have e2 : ((g3 x y w).natAbs : Int) = g3 x y w := Int.natAbs_of_nonneg (Int.le_of_lt hp)
  rw [e2] at e
  have e3 : g3 x y w * 1 = g3 x y w * g3 (nx3 x y w) (ny3 x y w) (nw3 x y w) := by rw [Int.mul_one]; exact e
  exact (Int.eq_of_mul_eq_mul_left (Int.ne_of_gt hp) e3).symm
/-- a reduced point is its own normal form -/
theorem n3_self {x y w : Int} (h : g3 x y w = 1) : nx3 x y w = x ∧ ny3 x y w = y ∧ nw3 x y w = w := by
  unfold nx3 ny3 nw3
  rw [h]
  simp
theorem n3_scale {k x y w : Int} (hk : 0 < k) (hw : w ≠ 0) : nx3 (k * x) (k * y) (k * w) = nx3 x y w ∧ ny3 (k * x) (k * y) (k * w) = ny3 x y w ∧ nw3 (k * x) (k * y) (k * w) = nw3 x y w := by
  obtain ⟨h1, h2, h3⟩ := n3_eq (x := x) (y := y) hw
  have hp := g3_pos (x := x) (y := y) hw
  have e : g3 (k * x) (k * y) (k * w) = k * g3 x y w := by
    rw [g3_mul, Int.natAbs_of_nonneg (Int.le_of_lt hk)]
  have hkp : k * g3 x y w ≠ 0 := Int.ne_of_gt (Int.mul_pos hk hp)
  unfold nx3 ny3 nw3
  rw [e]
  refine ⟨?_, ?_, ?_⟩
  · show Int.fdiv (k * x) (k * g3 x y w) = nx3 x y w
    conv => lhs; lhs; rw [h1, ← Int.mul_assoc]
    exact fdiv_mul hkp
  · show Int.fdiv (k * y) (k * g3 x y w) = ny3 x y w
    conv => lhs; lhs; rw [h2, ← Int.mul_assoc]
    exact fdiv_mul hkp
  · show Int.fdiv (k * w) (k * g3 x y w) = nw3 x y w
    conv => lhs; lhs; rw [h3, ← Int.mul_assoc]
    exact fdiv_mul hkp
def n1 (x y : Int) : Int := Int.fdiv x (g2 x y)
def n2 (x y : Int) : Int := Int.fdiv y (g2 x y)
abbrev nv2 (x y : Int) : D := T2 (n1 x y) (n2 x y)
theorem g2_dvd (x y : Int) : (g2 x y ∣ x) ∧ (g2 x y ∣ y) := by
  unfold g2
  refine ⟨?_, ?_⟩ <;> rw [Int.ofNat_dvd_left]
  · exact Nat.gcd_dvd_left _ _
  · exact Nat.gcd_dvd_right _ _
theorem g2_pos {x y : Int} (h : y ≠ 0) : 0 < g2 x y := by
  unfold g2
  exact_mod_cast Nat.gcd_pos_of_pos_right _ (Int.natAbs_pos.mpr h)
theorem n2_eq {x y : Int} (h : y ≠ 0) : x = g2 x y * n1 x y ∧ y = g2 x y * n2 x y := by
  have hp := Int.ne_of_gt (g2_pos (x := x) h)
  obtain ⟨⟨a, ha⟩, ⟨b, hb⟩⟩ := g2_dvd x y
  refine ⟨?_, ?_⟩
  · unfold n1
    conv => rhs; rhs; lhs; rw [ha]
    rw [fdiv_mul hp]; exact ha
  · unfold n2
    conv => rhs; rhs; lhs; rw [hb]
    rw [fdiv_mul hp]; exact hb
theorem n2_pos {x y : Int} (h : 0 < y) : 0 < n2 x y := pos_of h (g2_pos (Int.ne_of_gt h)) (n2_eq (Int.ne_of_gt h)).2
theorem g2_mul (k x y : Int) : g2 (k * x) (k * y) = k.natAbs * g2 x y := by
  unfold g2
  rw [Int.natAbs_mul, Int.natAbs_mul, Nat.gcd_mul_left]
  push_cast
  rfl
theorem g2_n {x y : Int} (h : y ≠ 0) : g2 (n1 x y) (n2 x y) = 1 := by
  obtain ⟨h1, h2⟩ := n2_eq (x := x) h
  have hp := g2_pos (x := x) h
  have e := g2_mul (g2 x y) (n1 x y) (n2 x y)
  rw [← h1, ← h2] at e
  have e2 : ((g2 x y).natAbs : Int) = g2 x y := Int.natAbs_of_nonneg (Int.le_of_lt hp)
  rw [e2] at e
  have e3 : g2 x y * 1 = g2 x y * g2 (n1 x y) (n2 x y) := by rw [Int.mul_one]; exact e
  exact (Int.eq_of_mul_eq_mul_left (Int.ne_of_gt hp) e3).symm
end Pl

/-! PLib3: the program's vectors and fractions, reckoned. -/
namespace Pl
open PySem (PyData Str)

structure KnVb (G : Prog) : Prop where
  is_whole : G.T "is_whole" = some p_is_whole
  are_wholes : G.T "are_wholes" = some p_are_wholes
  divisor_of : G.T "divisor_of" = some p_divisor_of
  is_reduced : G.T "is_reduced" = some p_is_reduced
  is_vector : G.T "is_vector" = some p_is_vector
  vector : G.T "vector" = some p_vector
structure KnV (G : Prog) : Prop extends KnVb G where
  ratio : G.T "ratio" = some p_ratio
instance {G : Prog} : Coe (KnV G) (KnVb G) := ⟨KnV.toKnVb⟩
section
variable {G : Prog} (K : KnVb G)
include K
theorem c_is_reduced3 (n : Nat) (x y w : Int) : callU G (n + 2) "is_reduced" [T3 x y w] [] = some (.bool (decide (g3 x y w = 1)), []) := by
  rw [callU_eq K.is_reduced]
  simp [runF, p_is_reduced, mkEnv, ctx_fn K.divisor_of rfl, c_divisor_of3 K.divisor_of]
theorem c_is_vector (n : Nat) {x y w : Int} (hw : 0 < w) (hg : g3 x y w = 1) : callU G (n + 3) "is_vector" [T3 x y w] [] = some (.bool true, []) := by
  rw [callU_eq K.is_vector]
  simp [runF, p_is_vector, mkEnv, ctx_fn K.are_wholes rfl, ctx_fn K.is_reduced rfl, c_are_wholes3 K.is_whole K.are_wholes, c_is_reduced3 K, hw, hg]
theorem c_vector (n : Nat) {x y w : Int} (hw : 0 < w) (hd : divOk (g3 x y w) = true) : callU G (n + 2) "vector" [.int x, .int y, .int w] [] = some (nv3 x y w, []) := by
  rw [callU_eq K.vector]
  simp [runF, p_vector, mkEnv, ctx_fn K.divisor_of rfl, c_divisor_of3 K.divisor_of, hw, hd, nx3, ny3, nw3]
end
theorem sm_g3 {k : Nat} {x y w : Int} (hw : w ≠ 0) (h : Sm k w) : Sm k (g3 x y w) := by
  obtain ⟨h1, h2, h3⟩ := n3_eq (x := x) (y := y) hw
  refine h.ofDvd (p := nw3 x y w) (by rw [Int.mul_comm]; exact h3) fun z => ?_
  rw [z, Int.mul_zero] at h3
  exact hw h3
theorem sm_g2 {k : Nat} {x y : Int} (hw : y ≠ 0) (h : Sm k y) : Sm k (g2 x y) := by
  obtain ⟨h1, h3⟩ := n2_eq (x := x) hw
  refine h.ofDvd (p := n2 x y) (by rw [Int.mul_comm]; exact h3) fun z => ?_
  rw [z, Int.mul_zero] at h3
  exact hw h3
theorem dv3 {k : Nat} {x y w : Int} (hw : 0 < w) (h : Sm k w) (hk : k < 8999) : divOk (g3 x y w) = true :=
  divOk_of (sm_g3 (Int.ne_of_gt hw) h) (Int.ne_of_gt (g3_pos (Int.ne_of_gt hw))) hk
/-- a reduced point with small numbers -/
structure Pt (k : Nat) (x y w : Int) : Prop where
  pos : 0 < w
  red : g3 x y w = 1
  x : Sm k x
  y : Sm k y
  w : Sm k w
structure Fr (k : Nat) (x y : Int) : Prop where
  pos : 0 < y
  red : g2 x y = 1
  x : Sm k x
  y : Sm k y
theorem pt_n {k : Nat} {x y w : Int} (hw : 0 < w) (h1 : Sm k x) (h2 : Sm k y) (h3 : Sm k w) : Pt k (nx3 x y w) (ny3 x y w) (nw3 x y w) := by
  obtain ⟨e1, e2, e3⟩ := n3_eq (x := x) (y := y) (Int.ne_of_gt hw)
  have hp := Int.ne_of_gt (g3_pos (x := x) (y := y) (Int.ne_of_gt hw))
  exact ⟨nw3_pos hw, g3_n (Int.ne_of_gt hw), h1.ofDvd e1 hp, h2.ofDvd e2 hp, h3.ofDvd e3 hp⟩
theorem fr_n {k : Nat} {x y : Int} (hw : 0 < y) (h1 : Sm k x) (h2 : Sm k y) : Fr k (n1 x y) (n2 x y) := by
  obtain ⟨e1, e2⟩ := n2_eq (x := x) (Int.ne_of_gt hw)
  have hp := Int.ne_of_gt (g2_pos (x := x) (Int.ne_of_gt hw))
  exact ⟨n2_pos hw, g2_n (Int.ne_of_gt hw), h1.ofDvd e1 hp, h2.ofDvd e2 hp⟩
theorem Sm.c {k : Nat} {a b c d : Int} {j : Nat} (h1 : Sm k a) (h2 : Sm k b) (h3 : Sm k c) (h4 : Sm k d) (hj : k + k + 1 ≤ j) : Sm j (a * b + c * d) ∧ Sm j (a * b - c * d) := by
  have q1 := (h1.mul h2).add (h3.mul h4)
  have q2 := (h1.mul h2).sub (h3.mul h4)
  rw [Nat.max_self] at q1 q2
  exact ⟨q1.mono hj, q2.mono hj⟩

structure KnP (G : Prog) : Prop extends KnV G where
  sign_of : G.T "sign_of" = some p_sign_of
  vector_sum : G.T "vector_sum" = some p_vector_sum
  vector_less : G.T "vector_less" = some p_vector_less
  vector_times : G.T "vector_times" = some p_vector_times
  vector_between : G.T "vector_between" = some p_vector_between
  inner_of : G.T "inner_of" = some p_inner_of
  cross_of : G.T "cross_of" = some p_cross_of
  quartered : G.T "quartered" = some p_quartered
  turn_of : G.T "turn_of" = some p_turn_of
section
variable {G : Prog} (K : KnP G) {k : Nat} {a b c x y w : Int}
include K
end
end Pl

/-! PLib4: the laws' own draws. -/
namespace Pl
open PySem (PyData Str)

theorem forL_inv {step : D → Env → U → Option O} {I : Env → U → Prop} : ∀ {ds : List D} {env : Env} {u : U}, (∀ d ∈ ds, ∀ env u, I env u → ∃ env' u', step d env u = some (.nx env' u') ∧ I env' u') → I env u → ∃ env' u', forL step ds env u = some (.nx env' u') ∧ I env' u'
  | [], env, u, _, h => ⟨env, u, rfl, h⟩
  | d :: ds, env, u, hs, h => by
    obtain ⟨env1, u1, e1, h1⟩ := hs d List.mem_cons_self env u h
    obtain ⟨env2, u2, e2, h2⟩ := forL_inv (ds := ds) (fun d hd => hs d (List.mem_cons_of_mem _ hd)) h1
    refine ⟨env2, u2, ?_, h2⟩
    simp only [forL, e1, Option.bind_some]
    exact e2

section
variable {C : Ctx} {ff : String → Bool}
theorem runF_of {p : PFun} {ds : List D} {u u' : U} {d : D} (hn : ds.length + (if p.urn then 1 else 0) = p.np) (h : execSs C ff p.body (mkEnv p ds) u = some (.rt d u')) : runF C ff p ds u = some (d, u') := by
  unfold runF
  rw [if_pos hn, h]
theorem run_cons {s : S} {ss : Ss} {env env1 : Env} {u u1 : U} {o : Option O} (h : execS C ff s env u = some (.nx env1 u1)) (h2 : execSs C ff ss env1 u1 = o) : execSs C ff (.cons s ss) env u = o := by
  rw [execSs, h]
  exact h2
theorem run_last {s : S} {ss : Ss} {env : Env} {u u1 : U} {d : D} (h : execS C ff s env u = some (.rt d u1)) : execSs C ff (.cons s ss) env u = some (.rt d u1) := by
  rw [execSs, h]
  rfl
theorem run_for {t : Tg} {it : I} {b : Ss} {env : Env} {u u1 : U} {ds : List D} {o : Option O} (h1 : evalI C it env u = some (ds, u1)) (hz : ds.length ≤ 100000)
    (h2 : forL (fun d env u => (bindT t d env).bind fun env' => execSs C ff b env' u) ds (if iterOk it then env else freeze env (fvI it)) u1 = o) : execS C ff (.for_ t it b) env u = o := by
  simp only [execS, h1, Option.bind_some]
  rw [if_pos (show sizeOk ds.length = true from decide_eq_true hz)]
  exact h2
end
structure KnU (G : Prog) : Prop where
  urn : G.T "_law_urn" = some p__law_urn
  pull : G.T "_law_pull" = some p__law_pull
  any : G.T "_law_any" = some p__law_any
  num : G.T "_law_num" = some p__law_num
  laps : G.T "_law_laps" = some p__law_laps
/-- a pot of draws -/
def Pot (u : U) : Prop := ∃ z0 z1 z2, u = [z0, z1, z2] ∧ Sm 40 z1 ∧ Sm 40 z2
theorem sm_fmod {a m : Int} {k : Nat} (h : 0 < m) (hm : Sm k m) : Sm k (Int.fmod a m) := by
  have h1 := Int.fmod_nonneg_of_pos a h
  have h2 := Int.fmod_lt_of_pos a h
  unfold Sm at *
  omega
theorem sm_lit {k : Nat} {i : Int} (h : decide (i.natAbs < 2 ^ k) = true) : Sm k i := by unfold Sm; exact of_decide_eq_true h
section
variable {G : Prog} (K : KnU G)
include K
theorem c_pull (n : Nat) {u : U} {m : Int} (hu : Pot u) (hm : 0 < m) (sm : Sm 64 m) : ∃ d u', callU G (n + 1) "_law_pull" [.int m] u = some (.int d, u') ∧ 0 ≤ d ∧ d < m ∧ Pot u' := by
  obtain ⟨z0, z1, z2, rfl, s1, s2⟩ := hu
  have hd : divOk m = true := divOk_of sm (by omega) (by decide)
  by_cases hz : 0 < z0
  · refine ⟨Int.fmod z0 m, [Int.fdiv z0 m, z1, z2], ?_, Int.fmod_nonneg_of_pos _ hm, Int.fmod_lt_of_pos _ hm, _, _, _, rfl, s1, s2⟩
    rw [callU_eq K.pull]
    simp [runF, p__law_pull, mkEnv, hz, hd]
  · have m1 : mulOk z1 37199 = true := mulOk_of (k := 20) s1 (sm_lit (by decide)) (by decide) (by decide)
    have m2 : mulOk z2 29443 = true := mulOk_of (k := 20) s2 (sm_lit (by decide)) (by decide) (by decide)
    have d1 : divOk 269 = true := divOk_of (k := 20) (sm_lit (by decide)) (by decide) (by decide)
    have q1 : Sm 40 (Int.fmod (z1 * 37199 + 1201) 2147483629) := sm_fmod (by decide) (sm_lit (by decide))
    have q2 : Sm 40 (Int.fmod (z2 * 29443 + Int.fmod (z1 * 37199 + 1201) 2147483629) 2147483587) := sm_fmod (by decide) (sm_lit (by decide))
    refine ⟨Int.fmod (Int.fdiv (Int.fmod (z2 * 29443 + Int.fmod (z1 * 37199 + 1201) 2147483629) 2147483587) 269) m, [z0, _, _], ?_, Int.fmod_nonneg_of_pos _ hm, Int.fmod_lt_of_pos _ hm, _, _, _, rfl, q1, q2⟩
    rw [callU_eq K.pull]
    have hm0 : m ≠ 0 := by omega
    simp [runF, p__law_pull, mkEnv, hz, hd, m1, m2, d1, hm0]
theorem c_any (n : Nat) {u : U} {xs : List D} (hu : Pot u) (h0 : xs ≠ []) (hl : xs.length ≤ 100000) : ∃ x u', callU G (n + 2) "_law_any" [.list xs] u = some (x, u') ∧ x ∈ xs ∧ Pot u' := by
  have hp : 0 < xs.length := List.length_pos_iff.mpr h0
  obtain ⟨d, u', e, h1, h2, h3⟩ := c_pull K n hu (m := (xs.length : Int)) (by omega) (by unfold Sm; omega)
  obtain ⟨i, rfl⟩ := Int.eq_ofNat_of_zero_le h1
  have hi : i < xs.length := by omega
  refine ⟨xs[i], u', ?_, List.getElem_mem hi, h3⟩
  rw [callU_eq K.any]
  simp [runF, p__law_any, mkEnv, ctx_ufn K.pull rfl, ff_no K.pull rfl, e, hi]
theorem c_num (n : Nat) {u : U} {h : Int} (hu : Pot u) (h0 : 0 ≤ h) (sm : Sm 60 h) : ∃ z u', callU G (n + 2) "_law_num" [.int h] u = some (.int z, u') ∧ -h ≤ z ∧ z ≤ h ∧ Pot u' := by
  obtain ⟨d, u', e, h1, h2, h3⟩ := c_pull K n hu (m := 2 * h + 1) (by omega) (by unfold Sm at *; omega)
  refine ⟨d - h, u', ?_, by omega, by omega, h3⟩
  have m1 : mulOk 2 h = true := mulOk_of (j := 20) (sm_lit (by decide)) sm (by decide) (by decide)
  rw [callU_eq K.num]
  simp [runF, p__law_num, mkEnv, ctx_ufn K.pull rfl, ff_no K.pull rfl, e, m1]
theorem c_laps (n : Nat) (xs : List D) : ∃ k : Int, callU G (n + 1) "_law_laps" [.list xs] [] = some (.int k, []) ∧ 2 ≤ k ∧ k ≤ 3 := by
  rw [callU_eq K.laps]
  simp [runF, p__law_laps, mkEnv]
  split <;> split <;> first | omega | skip
end
end Pl

/-! PLib5: the pot at a law's begin; own fractions (dialect a). -/
namespace Pl
open PySem (PyData Str)
/-- the body of a def's first for, its walk -/
def forBody : Ss → Ss
  | .nil => .nil
  | .cons (.for_ _ _ b) _ => b
  | .cons _ ss => forBody ss
theorem cut63 {α : Type} (xs : List α) : cut xs none (some 63) = xs.take 63 := by
  unfold cut sIx
  simp
section
variable {G : Prog} (K : KnU G)
include K
theorem c_urn (n : Nat) (ns : List Int) (lap : Int) (h0 : 0 ≤ lap) (hl : lap ≤ 3) (hn : ns.length ≤ 63) : ∃ z0 z1 z2, callU G (n + 1) "_law_urn" [.list (ns.map .int), .int lap] [] = some (.list [.int z0, .int z1, .int z2], []) ∧ Sm 40 z1 ∧ Sm 40 z2 := by
  have lapS : Sm 2 lap := by unfold Sm; omega
  have m0 : mulOk 7001 lap = true := mulOk_of (j := 20) (sm_lit (by decide)) lapS (by decide) (by decide)
  obtain ⟨env', u', hf, seed, d3, rfl, rfl, hs⟩ := forL_inv (step := fun d env u => (bindT (.one 3) d env).bind fun env' => execSs (ctxN G n) G.ff (forBody p__law_urn.body) env' u)
    (I := fun env u => ∃ seed d3, env = [.imm (.list (ns.map .int)), .imm (.int lap), .imm (.int seed), d3, .no] ∧ u = [] ∧ Sm 39 seed) (ds := (ns.map PyData.int).take 63) (env := [.imm (.list (ns.map .int)), .imm (.int lap), .imm (.int (60427 + 7001 * lap)), .no, .no]) (u := [])
    (fun d hd env u ⟨seed, d3, e1, e2, hs⟩ => by
      subst e1 e2
      obtain ⟨c, rfl⟩ : ∃ c, d = .int c := by
        have := List.mem_of_mem_take hd
        obtain ⟨c, _, rfl⟩ := List.mem_map.mp this
        exact ⟨c, rfl⟩
      have m1 : mulOk seed 47701 = true := mulOk_of (k := 20) hs (sm_lit (by decide)) (by decide) (by decide)
      refine ⟨_, _, by simp [forBody, p__law_urn, m1]; exact ⟨rfl, rfl⟩, _, _, rfl, rfl, sm_fmod (by decide) (sm_lit (by decide))⟩)
    ⟨_, _, rfl, rfl, by unfold Sm at *; omega⟩
  have m2 : mulOk seed 41203 = true := mulOk_of (k := 20) hs (sm_lit (by decide)) (by decide) (by decide)
  have own : ∃ w : Int, (if lap < (ns.length : Int) then (atI (ns.map PyData.int) lap).bind fun d => (biV .int [d]).bind fun d => biV .abs [d] else some (.int 0)) = some (.int w) := by
    by_cases hlt : lap < (ns.length : Int)
    · obtain ⟨i, rfl⟩ := Int.eq_ofNat_of_zero_le h0
      have hi : i < ns.length := by omega
      refine ⟨if ns[i] < 0 then -ns[i] else ns[i], ?_⟩
      simp [hi]
    · exact ⟨0, by rw [if_neg hlt]⟩
  obtain ⟨w, hw⟩ := own
  have p18 : (10 : Int) ^ (Int.toNat 18) = 1000000000000000000 := by decide
  refine ⟨if 1000000000000000000 ≤ w then w else 0, Int.fmod (seed * 41203 + Int.fmod w 2147483563 + 5) 2147483563, seed + 3, ?_, sm_fmod (by decide) (sm_lit (by decide)), ?_⟩
  rotate_left
  · exact (hs.add (b := 3) (sm_lit (k := 39) (by decide)))
  rw [callU_eq K.urn]
  refine runF_of rfl (run_cons (env1 := [.imm (.list (ns.map .int)), .imm (.int lap), .imm (.int (60427 + 7001 * lap)), .no, .no]) (u1 := []) ?_ (run_cons (run_for (ds := (ns.map PyData.int).take 63) (u1 := []) ?_ ?_ hf) ?_))
  · simp [mkEnv, p__law_urn, m0]
  · simp [cut63]
  · simp; omega
  by_cases hlt : lap < (ns.length : Int)
  · rw [if_pos hlt] at hw
    obtain ⟨i, rfl⟩ := Int.eq_ofNat_of_zero_le h0
    have hi : i < ns.length := by omega
    simp [hi] at hw
    refine run_cons (env1 := [.imm (.list (ns.map .int)), .imm (.int i), .imm (.int seed), d3, .imm (.int w)]) (u1 := []) ?_ (run_last ?_)
    · simp [hi, hw]
    · by_cases hb : 1000000000000000000 ≤ w
      · simp [hb, m2]
      · simp [hb, m2]
  · rw [if_neg hlt] at hw
    cases hw
    refine run_cons (env1 := [.imm (.list (ns.map .int)), .imm (.int lap), .imm (.int seed), d3, .imm (.int 0)]) (u1 := []) ?_ (run_last ?_)
    · simp [hlt]
    · simp [m2]
end
end Pl

/-! PLib6: own fractions and points of the laws (dialect a). -/
namespace Pl
open PySem (PyData Str)
section
variable {C : Ctx} {ff : String → Bool}
abbrev gStep (C : Ctx) (ff : String → Bool) : D → Env → U → Option O := fun d env u => (bindT (.one 2) d env).bind fun env' => execSs C ff (forBody p__law_gcd__a.body) env' u
theorem gStep_0 (d : D) (a : Int) (s : Slot) (u : U) : gStep C ff d [.imm (.int a), .imm (.int 0), s] u = some (.bk [.imm (.int a), .imm (.int 0), .imm d] u) := by
  simp [gStep, forBody, p__law_gcd__a]
theorem gStep_1 (d : D) (a b : Int) (hb : b ≠ 0) (s : Slot) (u : U) : gStep C ff d [.imm (.int a), .imm (.int b), s] u = some (.nx [.imm (.int b), .imm (.int (Int.fmod a b)), .imm d] u) := by
  simp [gStep, forBody, p__law_gcd__a, hb]
theorem fmod_nat (a b : Nat) : Int.fmod (a : Int) (b : Int) = ((a % b : Nat) : Int) := by
  rw [Int.fmod_eq_emod_of_nonneg _ (Int.natCast_nonneg b)]
  rfl
theorem gcd_loop (u : U) : ∀ (k a b : Nat) (s : Slot) (ds : List D), b < 2 ^ k → 2 * k + 1 ≤ ds.length → ∃ s', forL (gStep C ff) ds [.imm (.int a), .imm (.int b), s] u = some (.nx [.imm (.int (Nat.gcd a b : Nat)), .imm (.int 0), s'] u)
  | k, a, b, s, [], hb, hl => by simp at hl
  | 0, a, b, s, d :: ds, hb, hl => by
    have : b = 0 := by simpa using hb
    subst this
    refine ⟨.imm d, ?_⟩
    have e := gStep_0 (C := C) (ff := ff) d (a : Int) s u
    simp only [forL]
    rw [show ((0 : Nat) : Int) = 0 from rfl, e]
    simp
  | k + 1, a, b, s, d :: [], hb, hl => by simp at hl
  | k + 1, a, b, s, d :: d2 :: ds, hb, hl => by
    by_cases h0 : b = 0
    · subst h0
      refine ⟨.imm d, ?_⟩
      have e := gStep_0 (C := C) (ff := ff) d (a : Int) s u
      simp only [forL]
      rw [show ((0 : Nat) : Int) = 0 from rfl, e]
      simp
    have e1 := gStep_1 (C := C) (ff := ff) d (a : Int) (b : Int) (by exact_mod_cast h0) s u
    rw [fmod_nat] at e1
    by_cases h1 : a % b = 0
    · refine ⟨.imm d2, ?_⟩
      rw [h1] at e1
      have e2 := gStep_0 (C := C) (ff := ff) d2 (b : Int) (.imm d) u
      simp only [forL, e1, Option.bind_some]
      rw [show ((0 : Nat) : Int) = 0 from rfl, e2]
      have hg : Nat.gcd a b = b := by
        rw [Nat.gcd_comm, Nat.gcd_rec, h1, Nat.gcd_zero_left]
      simp [hg]
    · have e2 := gStep_1 (C := C) (ff := ff) d2 (b : Int) ((a % b : Nat) : Int) (by exact_mod_cast h1) (.imm d) u
      rw [fmod_nat] at e2
      have lt1 : a % b < b := Nat.mod_lt _ (Nat.pos_of_ne_zero h0)
      have lt2 : b % (a % b) < a % b := Nat.mod_lt _ (Nat.pos_of_ne_zero h1)
      have ge : a % b + b % (a % b) ≤ b := by
        have := Nat.div_add_mod b (a % b)
        have hq : 0 < b / (a % b) := Nat.div_pos (Nat.le_of_lt lt1) (Nat.pos_of_ne_zero h1)
        have : a % b * 1 ≤ a % b * (b / (a % b)) := Nat.mul_le_mul_left _ hq
        omega
      have hk : b % (a % b) < 2 ^ k := by rw [Nat.pow_succ] at hb; omega
      obtain ⟨s', e3⟩ := gcd_loop u k (a % b) (b % (a % b)) (.imm d2) ds hk (by simp at hl; omega)
      refine ⟨s', ?_⟩
      simp only [forL, e1, e2, Option.bind_some]
      rw [e3]
      have hg : Nat.gcd (a % b) (b % (a % b)) = Nat.gcd a b := by
        conv => rhs; rw [Nat.gcd_comm, Nat.gcd_rec]
        rw [Nat.gcd_comm, ← Nat.gcd_rec]
      rw [hg]
end
theorem na_abs (x : Int) : (if x < 0 then -x else x).natAbs = x.natAbs := by split <;> omega
theorem abs_nn (x : Int) : 0 ≤ (if x < 0 then -x else x) := by split <;> omega
theorem sm_abs {k : Nat} {x : Int} (h : Sm k x) : Sm k (if x < 0 then -x else x) := by unfold Sm at *; rw [na_abs]; exact h
theorem g2_nn (x y : Int) : 0 ≤ g2 x y := by unfold g2; exact Int.natCast_nonneg _
theorem g2_abs (a x : Int) : g2 a (if x < 0 then -x else x) = g2 a x := by unfold g2; rw [na_abs]
theorem g3_g2 (x y w : Int) : g2 (g2 (g2 0 x) y) w = g3 x y w := by unfold g3 g2; simp
structure KnF (G : Prog) : Prop where
  gcd : G.T "_law_gcd" = some p__law_gcd__a
  thin : G.T "_law_thin" = some p__law_thin
  frac : G.T "_law_frac" = some p__law_frac
  spot : G.T "_law_spot" = some p__law_spot__a
section
variable {G : Prog} (K : KnF G)
include K
theorem c_gcd (n : Nat) {a b : Int} {k : Nat} (ha : 0 ≤ a) (hb : 0 ≤ b) (sb : Sm k b) (hk : k ≤ 9000) : callU G (n + 1) "_law_gcd" [.int a, .int b] [] = some (.int (g2 a b), []) := by
  obtain ⟨x, rfl⟩ := Int.eq_ofNat_of_zero_le ha
  obtain ⟨y, rfl⟩ := Int.eq_ofNat_of_zero_le hb
  obtain ⟨s', e⟩ := gcd_loop (C := ctxN G n) (ff := G.ff) [] k x y .no (rangeL 0 20000) (by unfold Sm at sb; simpa using sb) (by simp [rangeL]; omega)
  rw [callU_eq K.gcd]
  refine runF_of rfl (run_cons (run_for (ds := rangeL 0 20000) (u1 := []) ?_ ?_ e) (run_last ?_))
  · simp [intOk]
  · simp [rangeL]
  · simp [g2]
theorem c_thin3 (n : Nat) {x y w : Int} {k : Nat} (hw : w ≠ 0) (sx : Sm k x) (sy : Sm k y) (sw : Sm k w) (hk : k < 8990) : callU G (n + 2) "_law_thin" [T3 x y w] [] = some (nv3 x y w, []) := by
  have e1 := c_gcd K n (a := 0) (Int.le_refl 0) (abs_nn x) (sm_abs sx) (by omega)
  have e2 := c_gcd K n (a := g2 0 x) (g2_nn _ _) (abs_nn y) (sm_abs sy) (by omega)
  have e3 := c_gcd K n (a := g2 (g2 0 x) y) (g2_nn _ _) (abs_nn w) (sm_abs sw) (by omega)
  rw [g2_abs] at e1 e2 e3
  rw [g3_g2] at e3
  have hp := g3_pos (x := x) (y := y) hw
  have hd : divOk (g3 x y w) = true := divOk_of (sm_g3 hw sw) (Int.ne_of_gt hp) (by omega)
  rw [callU_eq K.thin]
  by_cases hc : g3 x y w < 2
  · have h1 : g3 x y w = 1 := by omega
    obtain ⟨q1, q2, q3⟩ := n3_self h1
    simp [runF, p__law_thin, mkEnv, ctx_fn K.gcd rfl, e1, e2, e3, hc, q1, q2, q3]
  · simp [runF, p__law_thin, mkEnv, ctx_fn K.gcd rfl, e1, e2, e3, hc, hd, nx3, ny3, nw3]
theorem c_thin2 (n : Nat) {x y : Int} {k : Nat} (hw : y ≠ 0) (sx : Sm k x) (sy : Sm k y) (hk : k < 8990) : callU G (n + 2) "_law_thin" [T2 x y] [] = some (nv2 x y, []) := by
  have e1 := c_gcd K n (a := 0) (Int.le_refl 0) (abs_nn x) (sm_abs sx) (by omega)
  have e2 := c_gcd K n (a := g2 0 x) (g2_nn _ _) (abs_nn y) (sm_abs sy) (by omega)
  rw [g2_abs] at e1 e2
  have e0 : g2 (g2 0 x) y = g2 x y := by unfold g2; simp
  rw [e0] at e2
  have hp := g2_pos (x := x) hw
  have hd : divOk (g2 x y) = true := divOk_of (sm_g2 hw sy) (Int.ne_of_gt hp) (by omega)
  rw [callU_eq K.thin]
  by_cases hc : g2 x y < 2
  · have h1 : g2 x y = 1 := by omega
    have q1 : n1 x y = x := by unfold n1; rw [h1]; simp
    have q2 : n2 x y = y := by unfold n2; rw [h1]; simp
    simp [runF, p__law_thin, mkEnv, ctx_fn K.gcd rfl, e1, e2, hc, q1, q2]
  · simp [runF, p__law_thin, mkEnv, ctx_fn K.gcd rfl, e1, e2, hc, hd, n1, n2]
theorem c_frac (n : Nat) {x y : Int} {k : Nat} (hw : 0 < y) (sx : Sm k x) (sy : Sm k y) (hk : k < 8990) : callU G (n + 3) "_law_frac" [.int x, .int y] [] = some (nv2 x y, []) := by
  have e := c_thin2 K n (Int.ne_of_gt hw) sx sy hk
  rw [callU_eq K.frac]
  simp [runF, p__law_frac, mkEnv, ctx_fn K.thin rfl, e, n2_pos hw]
theorem c_spot (n : Nat) {x y w : Int} {k : Nat} (hw : w ≠ 0) (sx : Sm k x) (sy : Sm k y) (sw : Sm k w) (hk : k < 8990) : callU G (n + 3) "_law_spot" [.int x, .int y, .int w] [] = some (nv3 x y w, []) := by
  have e := c_thin3 K n hw sx sy sw hk
  rw [callU_eq K.spot]
  simp [runF, p__law_spot__a, mkEnv, ctx_fn K.thin rfl, e]
end
end Pl

/-! PLib7: the other pot of draws (_law_pot, _law_draw, _law_of, _law_from). -/
namespace Pl
open PySem (PyData Str)
/-- a pot after at most m draws -/
def PotN (m : Nat) (u : U) : Prop := ∃ z0 z1 z2, u = [z0, z1, z2] ∧ Sm 40 z1 ∧ 0 ≤ z2 ∧ z2 ≤ (m : Int)
structure KnD (G : Prog) : Prop where
  draw : G.T "_law_draw" = some p__law_draw
  from_ : G.T "_law_from" = some p__law_from
section
variable {G : Prog} (K : KnD G)
include K
end
end Pl

/-! PLib8: rows of whole numbers, in plain Lean: ends cut off, divisors, products, division. -/
namespace Pl
def co (xs : List Int) (i : Nat) : Int := xs.getD i 0
@[simp] theorem co_nil (i : Nat) : co [] i = 0 := rfl
@[simp] theorem co_zero (x : Int) (xs : List Int) : co (x :: xs) 0 = x := rfl
@[simp] theorem co_succ (x : Int) (xs : List Int) (i : Nat) : co (x :: xs) (i + 1) = co xs i := rfl
theorem co_get {xs : List Int} {i : Nat} (h : i < xs.length) : xs[i]? = some (co xs i) := by
  unfold co
  rw [List.getD_eq_getElem?_getD, List.getElem?_eq_getElem h]
  rfl
/-- without the noughts at the end -/
def trimZ : List Int → List Int
  | [] => []
  | x :: xs => if trimZ xs = [] ∧ x = 0 then [] else x :: trimZ xs
/-! ### the greatest common divisor -/
def gN : List Int → Nat
  | [] => 0
  | x :: xs => Nat.gcd x.natAbs (gN xs)
theorem gN_fold : ∀ (xs : List Int) (g : Nat), xs.foldl (fun (g : Int) x => ((Nat.gcd g.natAbs x.natAbs : Nat) : Int)) (g : Int) = ((Nat.gcd g (gN xs) : Nat) : Int)
  | [], g => by simp [gN]
  | x :: xs, g => by
    rw [List.foldl_cons, gN, ← Nat.gcd_assoc]
    exact gN_fold xs (Nat.gcd g x.natAbs)
theorem gN_dvd : ∀ {xs : List Int} {x : Int}, x ∈ xs → gN xs ∣ x.natAbs
  | y :: ys, x, h => by
    rcases List.mem_cons.mp h with rfl | h
    · exact Nat.gcd_dvd_left _ _
    · exact Nat.dvd_trans (Nat.gcd_dvd_right _ _) (gN_dvd h)
theorem gN_zero : ∀ {xs : List Int}, gN xs = 0 → ∀ x ∈ xs, x = 0
  | y :: ys, h, x, hx => by
    have h1 := Nat.gcd_eq_zero_iff.mp h
    rcases List.mem_cons.mp hx with rfl | hx
    · exact Int.natAbs_eq_zero.mp h1.1
    · exact gN_zero h1.2 x hx
/-- without a common divisor -/
def shortZ (xs : List Int) : List Int := if 1 < gN xs then xs.map (fun x => x.fdiv (gN xs : Nat)) else xs
/-- the shortest row -/
def sZ (xs : List Int) : List Int := (trimZ xs).map (fun x => x.fdiv ((max 1 (gN xs) : Nat) : Int))
/-! ### products -/
def cv (b : Nat → Int) : Nat → (Nat → Int) → Nat → Int
  | 0, _, _ => 0
  | m + 1, a, i => cv b m a i + b m * (if m ≤ i then a (i - m) else 0)
/-! ### a step of a division -/
end Pl

/-! PLib9: loops told by an index, by a measure; rows in the evaluator. -/
namespace Pl
open PySem (PyData Str)
theorem forL_ix' {step : D → Env → U → Option O} {I : Nat → Env → U → Prop} : ∀ {ds : List D} {k : Nat} {env : Env} {u : U}, (∀ i d, ds[i]? = some d → ∀ env u, I (k + i) env u → ∃ env' u', step d env u = some (.nx env' u') ∧ I (k + i + 1) env' u') → I k env u → ∃ env' u', forL step ds env u = some (.nx env' u') ∧ I (k + ds.length) env' u'
  | [], k, env, u, _, h => ⟨env, u, rfl, h⟩
  | d :: ds, k, env, u, hs, h => by
    obtain ⟨env1, u1, e1, h1⟩ := hs 0 d rfl env u h
    obtain ⟨env2, u2, e2, h2⟩ := forL_ix' (I := I) (ds := ds) (k := k + 1) (fun i d hd env u hi => by
      have := hs (i + 1) d (by simpa using hd) env u (by rw [show k + (i + 1) = k + 1 + i by omega]; exact hi)
      rw [show k + (i + 1) + 1 = k + 1 + i + 1 by omega] at this
      exact this) h1
    refine ⟨env2, u2, ?_, ?_⟩
    · simp only [forL, e1, Option.bind_some]
      exact e2
    · rw [List.length_cons, show k + (ds.length + 1) = k + 1 + ds.length by omega]
      exact h2
/-- a for, its state told by the number of turns -/
theorem forL_ix {step : D → Env → U → Option O} (I : Nat → Env → U → Prop) {ds : List D} {env : Env} {u : U} (hs : ∀ i d, ds[i]? = some d → ∀ env u, I i env u → ∃ env' u', step d env u = some (.nx env' u') ∧ I (i + 1) env' u') (h : I 0 env u) : ∃ env' u', forL step ds env u = some (.nx env' u') ∧ I ds.length env' u' := by
  have := forL_ix' (step := step) (I := I) (ds := ds) (k := 0) (env := env) (u := u) (fun i d hd env u hi => by
    rw [Nat.zero_add] at hi ⊢
    exact hs i d hd env u hi) h
  rwa [Nat.zero_add] at this
theorem compL_map {step : D → U → Option (Option D × U)} {f : D → D} {u : U} : ∀ {ds : List D}, (∀ d ∈ ds, step d u = some (some (f d), u)) → compL step ds u = some (ds.map f, u)
  | [], _ => rfl
  | d :: ds, h => by
    unfold compL
    rw [h d List.mem_cons_self]
    show (compL step ds u).bind _ = _
    rw [compL_map fun e he => h e (List.mem_cons_of_mem _ he)]
    rfl
theorem compL_ints {step : D → U → Option (Option D × U)} {f : Int → Int} {u : U} {xs : List Int} (h : ∀ x ∈ xs, step (.int x) u = some (some (.int (f x)), u)) : compL step (xs.map .int) u = some ((xs.map f).map .int, u) := by
  rw [compL_map (f := fun d => match d with | .int x => .int (f x) | d => d)]
  · rw [List.map_map, List.map_map]; rfl
  · intro d hd
    obtain ⟨x, hx, rfl⟩ := List.mem_map.mp hd
    exact h x hx
/-! ### rows -/
abbrev Lz (xs : List Int) : D := .list (xs.map .int)
abbrev Tz (xs : List Int) : D := .tuple (xs.map .int)
@[simp] theorem noListAll_ints (xs : List Int) : noListAll (xs.map .int) = true := by
  induction xs with
  | nil => rfl
  | cons x xs ih => simp [ih]
@[simp] theorem intsOf_ints (xs : List Int) : intsOf (xs.map .int) = some xs := by
  induction xs with
  | nil => rfl
  | cons x xs ih => simp [ih]
theorem canLay_ints (xs : List Int) : PyData.canLayAll0 (xs.map .int) = true := by
  induction xs with
  | nil => rfl
  | cons x xs ih => simp [PyData.canLayAll0, PyData.canLay0, ih]
theorem depth_ints (xs : List Int) : PyData.depthAll (xs.map .int) ≤ 1 := by
  induction xs with
  | nil => simp [PyData.depthAll]
  | cons x xs ih => simp [PyData.depthAll, PyData.depth]; omega
@[simp] theorem shaped_Tz (xs : List Int) : PySem.SeqAt.shaped (.tuple (xs.map .int)) = true := by
  have := depth_ints xs
  simp [PySem.SeqAt.shaped, PyData.canLay0, canLay_ints, PyData.depth]
  omega
@[simp] theorem shaped_Lz (xs : List Int) : PySem.SeqAt.shaped (.list (xs.map .int)) = true := by
  have := depth_ints xs
  simp [PySem.SeqAt.shaped, PyData.canLay0, canLay_ints, PyData.depth]
  omega
theorem eqvAll_ints : ∀ (xs ys : List Int), PyData.eqvAll (xs.map .int) (ys.map .int) = decide (xs = ys)
  | [], [] => rfl
  | [], y :: ys => by simp [PyData.eqvAll]
  | x :: xs, [] => by simp [PyData.eqvAll]
  | x :: xs, y :: ys => by
    rw [List.map_cons, List.map_cons, PyData.eqvAll, eqvAll_ints xs ys]
    by_cases h : x = y
    · subst h; simp [PyData.eqv]
    · simp [PyData.eqv, h]
@[simp] theorem eqD_Tz (xs ys : List Int) : eqD (.tuple (xs.map .int)) (.tuple (ys.map .int)) = some (decide (xs = ys)) := by
  simp only [eqD, shaped_Tz, Bool.and_self, if_true, PyData.eqv, eqvAll_ints]
@[simp] theorem eqD_Lz (xs ys : List Int) : eqD (.list (xs.map .int)) (.list (ys.map .int)) = some (decide (xs = ys)) := by
  simp only [eqD, shaped_Lz, Bool.and_self, if_true, PyData.eqv, eqvAll_ints]
@[simp] theorem eqD_Tz0 (xs : List Int) : eqD (.tuple (xs.map .int)) (.tuple []) = some (decide (xs = [])) := eqD_Tz xs []
@[simp] theorem eqD_Lz0 (xs : List Int) : eqD (.list (xs.map .int)) (.list []) = some (decide (xs = [])) := eqD_Lz xs []
@[simp] theorem eqD_T00 : eqD (.tuple []) (.tuple []) = some true := eqD_Tz [] []
@[simp] theorem eqD_L00 : eqD (.list []) (.list []) = some true := eqD_Lz [] []
theorem atI_last {xs : List Int} (h : xs ≠ []) : atI (xs.map PyData.int) (-1) = some (.int (co xs (xs.length - 1))) := by
  have hl : 0 < xs.length := List.length_pos_iff.mpr h
  unfold atI
  rw [if_neg (by decide), if_pos (by simp; omega), List.length_map, show ((-1 : Int) + (xs.length : Int)).toNat = xs.length - 1 by omega, List.getElem?_map, co_get (by omega)]
  rfl
section
variable {C : Ctx} {ff : String → Bool}
theorem eval_comp {elt : E} {t : Tg} {it : I} {cond : Eo} {own : List Nat} {env : Env} {u u1 u2 : U} {ds rs : List D} (h1 : evalI C it env u = some (ds, u1)) (hz : ds.length ≤ 100000)
    (h2 : compL (fun d u => (bindT t d (wipe env own)).bind fun env' => (evalC C cond env' u).bind fun rc =>
        if rc.1 = true then (evalE C elt env' rc.2).bind fun re => some (some re.1, re.2) else some (none, rc.2)) ds u1 = some (rs, u2)) : evalE C (.comp elt t it cond own) env u = some (.list rs, u2) := by
  rw [evalE, h1, Option.bind_some, h2, Option.bind_some, if_pos (show sizeOk ds.length = true from decide_eq_true hz)]
theorem run_set {i : Nat} {e : E} {env : Env} {u u' : U} {d : D} (h : evalE C e env u = some (d, u')) : execS C ff (.set i e) env u = some (.nx ((after ff env e d).set i (slotOf ff e d)) u') := by
  rw [execS, h, Option.bind_some]
end
theorem intOk_nat (L : Nat) (h : L ≤ 100000) : intOk (L : Int) = true := by
  unfold intOk
  refine decide_eq_true ⟨?_, ?_⟩ <;> omega
end Pl

/-! PLib10: the program's rows: divisor, ends cut off, shortened. -/
namespace Pl
open PySem (PyData Str)
def RowD (d : D) (xs : List Int) : Prop := d = Lz xs ∨ d = Tz xs
theorem RowD.len {d : D} {xs : List Int} (h : RowD d xs) : biV .len [d] = some (.int xs.length) := by rcases h with rfl | rfl <;> simp
theorem RowD.it {d : D} {xs : List Int} (h : RowD d xs) : items d = some (xs.map .int) := by rcases h with rfl | rfl <;> rfl
structure KnR (G : Prog) : Prop where
  divisor_of : G.T "divisor_of" = some p_divisor_of
  trimmed : G.T "trimmed" = some p_trimmed
  shortened : G.T "shortened" = some p_shortened
theorem gN_sm {k : Nat} {xs : List Int} (h : ∀ x ∈ xs, Sm k x) (h1 : 0 < gN xs) : Sm k (gN xs : Nat) := by
  have : ∃ x ∈ xs, x ≠ 0 := Classical.byContradiction fun q => by
    have : ∀ x ∈ xs, x = 0 := fun x hx => Classical.byContradiction fun r => q ⟨x, hx, r⟩
    have : gN xs = 0 := by
      clear h h1 q
      induction xs with
      | nil => rfl
      | cons x xs ih => rw [gN, ih (fun y hy => this y (List.mem_cons_of_mem _ hy)), this x List.mem_cons_self]; rfl
    omega
  obtain ⟨x, hx, h0⟩ := this
  have h2 := Nat.le_of_dvd (Int.natAbs_pos.mpr h0) (gN_dvd hx)
  have h3 := h x hx
  unfold Sm at *
  omega
theorem c_divisorZ0 {G : Prog} (hk : G.T "divisor_of" = some p_divisor_of) (n : Nat) (xs : List Int) (hl : xs.length ≤ 100000) : callU G (n + 1) "divisor_of" [Tz xs] [] = some (.int (gN xs : Nat), []) := by
  obtain ⟨env', u', hf, s, rfl, rfl⟩ := forL_ix (step := fun d env u => (bindT (.one 2) d env).bind fun env' => execSs (ctxN G n) G.ff (forBody p_divisor_of.body) env' u)
    (fun i env u => ∃ s, env = [.imm (Tz xs), .imm (.int ((xs.take i).foldl (fun (g : Int) x => ((Nat.gcd g.natAbs x.natAbs : Nat) : Int)) ((0 : Nat) : Int))), s] ∧ u = []) (ds := xs.map .int) (env := [.imm (Tz xs), .imm (.int 0), .no]) (u := [])
    (fun i d hd env u ⟨s, e1, e2⟩ => by
      subst e1 e2
      rw [List.getElem?_map] at hd
      obtain ⟨x, hx, rfl⟩ := Option.map_eq_some_iff.mp hd
      refine ⟨_, _, by simp [forBody, p_divisor_of]; rfl, .imm (.int x), ?_, rfl⟩
      rw [List.take_add_one, hx, Option.toList_some, List.foldl_append]
      rfl)
    ⟨_, rfl, rfl⟩
  rw [List.length_map, List.take_length, gN_fold, Nat.gcd_zero_left] at hf
  rw [callU_eq hk]
  refine runF_of rfl (run_cons (env1 := [.imm (Tz xs), .imm (.int 0), .no]) (u1 := []) ?_ (run_cons (run_for (ds := xs.map .int) (u1 := []) ?_ ?_ hf) (run_last ?_)))
  · simp [mkEnv, p_divisor_of]
  · simp
  · simpa using hl
  · simp
section
variable {G : Prog} (K : KnR G)
include K
end
end Pl

/-! PR1: ways and turns over the fractions. -/
namespace Pl
abbrev Q2 := Rat × Rat
theorem rneg {a b : Rat} (h : a < 0) (k : 0 < b) : a * b < 0 := by
  have := Rat.mul_pos (a := -a) (b := b) (by grind) k
  grind
theorem rpos_of {a b : Rat} (k : 0 < b) (h : 0 < a * b) : 0 < a := by
  by_cases q : 0 < a
  · exact q
  · exfalso
    have := Rat.mul_nonneg (a := -a) (b := b) (by grind) (by grind)
    grind
theorem rzero {a b : Rat} (h : a * b = 0) : a = 0 ∨ b = 0 := Rat.mul_eq_zero.mp h
def crs (u v : Q2) : Rat := u.1 * v.2 - u.2 * v.1
def LP (v : Q2) : Prop := 0 < v.1 ∨ (v.1 = 0 ∧ 0 < v.2)
theorem crs_plane (r y x : Q2) : crs r x * y.1 = crs r y * x.1 + crs y x * r.1 ∧ crs r x * y.2 = crs r y * x.2 + crs y x * r.2 := by
  unfold crs
  constructor <;> grind
theorem crs_trans {r y x : Q2} (hr : LP r) (hy : LP y) (hx : LP x) (h1 : 0 ≤ crs r y) (h2 : 0 ≤ crs y x) : 0 ≤ crs r x := by
  obtain ⟨e1, e2⟩ := crs_plane r y x
  by_cases q : crs r x < 0
  · exfalso
    have r1 : 0 ≤ r.1 := by rcases hr with h | h <;> grind
    have x1 : 0 ≤ x.1 := by rcases hx with h | h <;> grind
    have a1 := Rat.mul_nonneg h1 x1
    have a2 := Rat.mul_nonneg h2 r1
    rcases hy with h | ⟨h, h'⟩
    · have := rneg q h
      grind
    · have b0 : crs r x * y.1 = 0 := by rw [h]; grind
      have c1 : crs r y * x.1 = 0 := by grind
      have c2 : crs y x * r.1 = 0 := by grind
      have b1 := rneg q h'
      have d1 : 0 ≤ crs r y * x.2 := by
        rcases rzero c1 with z | z
        · rw [z]; grind
        · rcases hx with g | ⟨g, g'⟩
          · grind
          · exact Rat.mul_nonneg h1 (by grind)
      have d2 : 0 ≤ crs y x * r.2 := by
        rcases rzero c2 with z | z
        · rw [z]; grind
        · rcases hr with g | ⟨g, g'⟩
          · grind
          · exact Rat.mul_nonneg h2 (by grind)
      grind
  · grind
theorem crs_strict {r y x : Q2} (hr : LP r) (hy : LP y) (hx : LP x) (h1 : 0 ≤ crs r y) (h2 : 0 ≤ crs y x) (h : 0 < crs r y ∨ 0 < crs y x) : 0 < crs r x := by
  have h0 := crs_trans hr hy hx h1 h2
  by_cases q : 0 < crs r x
  · exact q
  · exfalso
    have q : crs r x = 0 := by grind
    obtain ⟨e1, e2⟩ := crs_plane r y x
    rw [q] at e1 e2
    have r1 : 0 ≤ r.1 := by rcases hr with h | h <;> grind
    have x1 : 0 ≤ x.1 := by rcases hx with h | h <;> grind
    have a1 := Rat.mul_nonneg h1 x1
    have a2 := Rat.mul_nonneg h2 r1
    have c1 : crs r y * x.1 = 0 := by grind
    have c2 : crs y x * r.1 = 0 := by grind
    have d1 : 0 ≤ crs r y * x.2 := by
      rcases rzero c1 with z | z
      · rw [z]; grind
      · rcases hx with g | ⟨g, g'⟩
        · grind
        · exact Rat.mul_nonneg h1 (by grind)
    have d2 : 0 ≤ crs y x * r.2 := by
      rcases rzero c2 with z | z
      · rw [z]; grind
      · rcases hr with g | ⟨g, g'⟩
        · grind
        · exact Rat.mul_nonneg h2 (by grind)
    have f1 : crs r y * x.2 = 0 := by grind
    have f2 : crs y x * r.2 = 0 := by grind
    rcases h with g | g
    · rcases rzero c1 with z | z
      · grind
      · rcases rzero f1 with z' | z'
        · grind
        · rcases hx with k | ⟨k, k'⟩ <;> grind
    · rcases rzero c2 with z | z
      · grind
      · rcases rzero f2 with z' | z'
        · grind
        · rcases hr with k | ⟨k, k'⟩ <;> grind
def sub2 (a b : Q2) : Q2 := (a.1 - b.1, a.2 - b.2)
/-- a before b -/
def Lt2 (a b : Q2) : Prop := LP (sub2 b a)
theorem Lt2.iff {a b : Q2} : Lt2 a b ↔ a.1 < b.1 ∨ (a.1 = b.1 ∧ a.2 < b.2) := by
  unfold Lt2 LP sub2
  simp only
  constructor
  · rintro (h | ⟨h, k⟩)
    · left; grind
    · right; grind
  · rintro (h | ⟨h, k⟩)
    · left; grind
    · right; grind
instance (a b : Q2) : Decidable (Lt2 a b) := decidable_of_iff _ Lt2.iff.symm
/-- the way from a by b to c: above 0 to the left -/
def ori (a b c : Q2) : Rat := crs (sub2 b a) (sub2 c a)
theorem Lt2.trans {a b c : Q2} (h : Lt2 a b) (k : Lt2 b c) : Lt2 a c := by
  rw [Lt2.iff] at *
  grind
theorem Lt2.irr {a : Q2} (h : Lt2 a a) : False := by
  rw [Lt2.iff] at h
  grind
theorem ori_swap (a b c : Q2) : ori a c b = -ori a b c := by
  unfold ori crs sub2
  simp only
  grind
theorem ori_rot (a b c : Q2) : ori b c a = ori a b c := by
  unfold ori crs sub2
  simp only
  grind
theorem ori_bc (a b c : Q2) : crs (sub2 b a) (sub2 c b) = ori a b c := by
  unfold ori crs sub2
  simp only
  grind
/-- b falls out between a and p: what lay above a b and b p lies above a p -/
theorem ori_pop1 {a b p q : Q2} (h1 : Lt2 a q) (h2 : Lt2 q b) (h3 : Lt2 b p) (h : 0 ≤ ori a b q) (hp : ori a b p ≤ 0) : 0 ≤ ori a p q := by
  have := crs_trans (r := sub2 p a) (y := sub2 b a) (x := sub2 q a) ((h1.trans h2).trans h3) (h1.trans h2) h1 (by
    have := ori_swap a b p
    show 0 ≤ ori a p b
    grind) h
  exact this
theorem ori_pop2 {a b p q : Q2} (h1 : Lt2 a b) (h2 : Lt2 b q) (h3 : Lt2 q p) (h : 0 ≤ ori b p q) (hp : ori a b p ≤ 0) : 0 ≤ ori a p q := by
  have k1 : 0 ≤ crs (sub2 p q) (sub2 p b) := by
    have : crs (sub2 p q) (sub2 p b) = ori b p q := by unfold ori crs sub2; simp only; grind
    grind
  have k2 : 0 ≤ crs (sub2 p b) (sub2 b a) := by
    have : crs (sub2 p b) (sub2 b a) = -ori a b p := by unfold ori crs sub2; simp only; grind
    grind
  have k3 := crs_trans (r := sub2 p q) (y := sub2 p b) (x := sub2 b a) h3 (h2.trans h3) h1 k1 k2
  have : ori a p q = ori b p q + crs (sub2 p q) (sub2 b a) := by unfold ori crs sub2; simp only; grind
  grind
theorem Lt2.tri (a b : Q2) : Lt2 a b ∨ a = b ∨ Lt2 b a := by
  rw [Lt2.iff, Lt2.iff]
  by_cases h : a.1 = b.1
  · by_cases k : a.2 = b.2
    · exact .inr (.inl (Prod.ext h k))
    · grind
  · grind
end Pl

/-! PR2: the chain of points at which a way bends to the left is one alone. -/
namespace Pl
def popS : List Q2 → Q2 → List Q2
  | b :: a :: s, p => if 0 < ori a b p then b :: a :: s else popS (a :: s) p
  | s, _ => s
def chainS (s : List Q2) : List Q2 → List Q2
  | [] => s
  | p :: ps => chainS (p :: popS s p) ps
/-- a chain over the points Q, its end first -/
def Chn (Q : Q2 → Prop) : List Q2 → Prop
  | b :: a :: s => Lt2 a b ∧ (∀ q, Q q → Lt2 a q → Lt2 q b → 0 ≤ ori a b q) ∧ (match s with | c :: _ => 0 < ori c a b | [] => True) ∧ Chn Q (a :: s)
  | _ => True
theorem chn_pop {Q : Q2 → Prop} : ∀ {s : List Q2} {b p : Q2} {t : List Q2}, s = b :: t → Chn Q s → Lt2 b p → (∀ q, Q q → Lt2 b q → Lt2 q p → 0 ≤ ori b p q) → Chn Q (p :: popS s p)
  | [], _, _, _, e, _, _, _ => by cases e
  | [b'], b, p, t, e, h, hl, hq => by
    cases e
    exact ⟨hl, hq, trivial, trivial⟩
  | b' :: a :: s, b, p, t, e, h, hl, hq => by
    cases e
    unfold popS
    by_cases ho : 0 < ori a b' p
    · rw [if_pos ho]
      exact ⟨hl, hq, ho, h⟩
    · rw [if_neg ho]
      obtain ⟨h1, h2, h3, h4⟩ := h
      refine chn_pop rfl h4 (h1.trans hl) fun q hQ k1 k2 => ?_
      rcases Lt2.tri q b' with z | z | z
      · exact ori_pop1 k1 z hl (h2 q hQ k1 z) (by grind)
      · rw [z, ori_swap]; grind
      · exact ori_pop2 h1 z k2 (hq q hQ z k2) (by grind)
theorem popS_ne : ∀ {s : List Q2} {p : Q2}, s ≠ [] → popS s p ≠ []
  | [], _, h => absurd rfl h
  | [b], _, _ => by simp [popS]
  | b :: a :: s, p, _ => by
    unfold popS
    split
    · simp
    · exact popS_ne (by simp)
theorem popS_last : ∀ {s : List Q2} {p : Q2}, (popS s p).getLast? = s.getLast?
  | [], _ => rfl
  | [b], _ => rfl
  | b :: a :: s, p => by
    unfold popS
    split
    · rfl
    · rw [popS_last]; simp
theorem popS_sub : ∀ {s : List Q2} {p x : Q2}, x ∈ popS s p → x ∈ s
  | [], _, _, h => h
  | [b], _, _, h => h
  | b :: a :: s, p, x, h => by
    unfold popS at h
    split at h
    · exact h
    · exact List.mem_cons_of_mem _ (popS_sub h)
/-- the chain of points in order -/
theorem chain_spec {Q : Q2 → Prop} : ∀ {l : List Q2} {b : Q2} {t : List Q2}, Chn Q (b :: t) → (b :: l).Pairwise Lt2 → (∀ q, Q q → Lt2 b q → q ∈ l) → Chn Q (chainS (b :: t) l) ∧ (chainS (b :: t) l).getLast? = (b :: t).getLast? ∧ (chainS (b :: t) l).head? = (b :: l).getLast? ∧ ∀ x ∈ chainS (b :: t) l, x ∈ b :: t ∨ x ∈ l
  | [], b, t, h, _, _ => ⟨h, rfl, rfl, fun x hx => .inl hx⟩
  | p :: ps, b, t, h, hp, hq => by
    rw [List.pairwise_cons] at hp
    have hbp := hp.1 p List.mem_cons_self
    have hpp := hp.2
    rw [List.pairwise_cons] at hpp
    have h1 := chn_pop (Q := Q) (p := p) rfl h hbp fun q hQ k1 k2 => by
      exfalso
      rcases List.mem_cons.mp (hq q hQ k1) with e | e
      · rw [e] at k2; exact k2.irr
      · exact ((hpp.1 q e).trans k2).irr
    obtain ⟨a1, a2, a3, a4⟩ := chain_spec (l := ps) (b := p) (t := popS (b :: t) p) h1 hp.2 fun q hQ k => by
      rcases List.mem_cons.mp (hq q hQ (hbp.trans k)) with e | e
      · rw [e] at k; exact absurd k.irr id
      · exact e
    refine ⟨a1, ?_, ?_, fun x hx => ?_⟩
    · show (chainS (p :: popS (b :: t) p) ps).getLast? = _
      rw [a2]
      have hne : popS (b :: t) p ≠ [] := popS_ne (by simp)
      rw [List.getLast?_cons_of_ne_nil hne, popS_last]
    · show (chainS (p :: popS (b :: t) p) ps).head? = _
      rw [a3]
      simp
    · rcases a4 x hx with e | e
      · rcases List.mem_cons.mp e with e | e
        · exact .inr (e ▸ List.mem_cons_self)
        · exact .inl (popS_sub e)
      · exact .inr (List.mem_cons_of_mem _ e)
/-- points before a chain's last edge lie to its left -/
theorem chn_left {Q : Q2 → Prop} {q : Q2} (hQ : Q q) : ∀ {t : List Q2} {a b : Q2}, Chn Q (b :: a :: t) → Lt2 q a → (∀ z, (a :: t).getLast? = some z → z = q ∨ Lt2 z q) → 0 < ori q a b
  | [], a, b, h, hl, hz => by
    exfalso
    rcases hz a rfl with e | e
    · rw [e] at hl; exact hl.irr
    · exact (e.trans hl).irr
  | c :: t, a, b, h, hl, hz => by
    obtain ⟨h1, h2, h3, h4⟩ := h
    have h3' : 0 < ori c a b := h3
    obtain ⟨k1, k2, k3, k4⟩ := id h4
    have e2 : crs (sub2 a c) (sub2 b a) = ori c a b := ori_bc c a b
    rcases Lt2.tri q c with z | z | z
    · have ih := chn_left hQ h4 z (fun w hw => hz w (by rw [List.getLast?_cons_cons]; exact hw))
      have e1 : crs (sub2 c q) (sub2 a c) = ori q c a := ori_bc q c a
      have := crs_strict (r := sub2 c q) (y := sub2 a c) (x := sub2 b a) z k1 h1 (by grind) (by grind) (.inl (by grind))
      have e3 : ori q a b = crs (sub2 c q) (sub2 b a) + crs (sub2 a c) (sub2 b a) := by unfold ori crs sub2; simp only; grind
      grind
    · rw [z]; exact h3'
    · have k := k2 q hQ z hl
      have e1 : crs (sub2 a q) (sub2 a c) = ori c a q := by unfold ori crs sub2; simp only; grind
      have := crs_strict (r := sub2 a q) (y := sub2 a c) (x := sub2 b a) hl k1 h1 (by grind) (by grind) (.inr (by grind))
      rw [← ori_bc]
      exact this
/-- fewer points, the same chain -/
theorem Chn.sub {Q R : Q2 → Prop} (hR : ∀ q, R q → Q q) : ∀ {s : List Q2}, Chn Q s → Chn R s
  | [], _ => trivial
  | [_], _ => trivial
  | b :: a :: s, h => ⟨h.1, fun q hq => h.2.1 q (hR q hq), h.2.2.1, Chn.sub hR h.2.2.2⟩
end Pl

/-! PR3: the hull of a hull's corners is the hull. -/
namespace Pl
def ng (p : Q2) : Q2 := (-p.1, -p.2)
theorem ng_ng (p : Q2) : ng (ng p) = p := by unfold ng; exact Prod.ext (by grind) (by grind)
theorem ng_inj {p q : Q2} (h : ng p = ng q) : p = q := by rw [← ng_ng p, h, ng_ng]
theorem ori_ng (a b c : Q2) : ori (ng a) (ng b) (ng c) = ori a b c := by
  unfold ori crs sub2 ng
  simp only
  grind
theorem lt_ng {a b : Q2} : Lt2 (ng a) (ng b) ↔ Lt2 b a := by
  rw [Lt2.iff, Lt2.iff]
  unfold ng
  simp only
  grind
theorem popS_ng : ∀ (s : List Q2) (p : Q2), popS (s.map ng) (ng p) = (popS s p).map ng
  | [], _ => rfl
  | [b], _ => rfl
  | b :: a :: s, p => by
    have ih := popS_ng (a :: s) p
    rw [List.map_cons, List.map_cons, popS, popS, ori_ng]
    split
    · rfl
    · rw [← List.map_cons]; exact ih
theorem chainS_ng : ∀ (l s : List Q2), chainS (s.map ng) (l.map ng) = (chainS s l).map ng
  | [], _ => rfl
  | p :: l, s => by
    rw [List.map_cons, chainS, chainS, popS_ng, ← List.map_cons, chainS_ng l]
/-- the chain of a row of points, its end first -/
def chainL : List Q2 → List Q2
  | [] => []
  | p :: ps => chainS [p] ps
theorem chainL_ng (l : List Q2) : chainL (l.map ng) = (chainL l).map ng := by
  cases l with
  | nil => rfl
  | cons p ps => exact chainS_ng ps [p]
/-- of points in order: their chain -/
theorem chainL_spec {l : List Q2} (h : l.Pairwise Lt2) (hne : l ≠ []) : Chn (· ∈ l) (chainL l) ∧ (chainL l).getLast? = l.head? ∧ (chainL l).head? = l.getLast? ∧ ∀ x ∈ chainL l, x ∈ l := by
  cases l with
  | nil => exact absurd rfl hne
  | cons p ps =>
    obtain ⟨a1, a2, a3, a4⟩ := chain_spec (Q := (· ∈ p :: ps)) (l := ps) (b := p) (t := []) trivial h (fun q hq k => by
      rcases List.mem_cons.mp hq with e | e
      · rw [e] at k; exact absurd k.irr id
      · exact e)
    refine ⟨a1, by rw [show chainL (p :: ps) = chainS [p] ps from rfl, a2]; rfl, a3, fun x hx => ?_⟩
    rcases a4 x hx with e | e
    · rw [List.mem_singleton] at e; rw [e]; exact List.mem_cons_self
    · exact List.mem_cons_of_mem _ e
/-- the hull of points in order, counterclockwise from the first -/
def hullL (l : List Q2) : List Q2 := (chainL l).reverse.dropLast ++ (chainL l.reverse).reverse.dropLast
theorem pw_ng {l : List Q2} (h : l.Pairwise Lt2) : (l.reverse.map ng).Pairwise Lt2 := by
  rw [List.pairwise_map, List.pairwise_reverse]
  exact h.imp fun {a b} k => lt_ng.mpr k
end Pl

/-! PR4: polygons: each edge has the other corners to its left; what is such is its own hull. -/
namespace Pl
/-- all triples in order turn left -/
def Cv : List Q2 → Prop
  | [] => True
  | a :: t => t.Pairwise (fun b c => 0 < ori a b c) ∧ Cv t
theorem plucker (d x y z : Q2) : crs d y * crs x z = crs d x * crs y z + crs x y * crs d z := by
  unfold crs
  grind
theorem half_trans {d x y z : Q2} (hx : 0 < crs d x) (hy : 0 < crs d y) (hz : 0 < crs d z) (h1 : 0 < crs x y) (h2 : 0 < crs y z) : 0 < crs x z := by
  have e := plucker d x y z
  have p1 := Rat.mul_pos hx h2
  have p2 := Rat.mul_pos h1 hz
  refine rpos_of hy ?_
  rw [Rat.mul_comm]
  grind
theorem cv_snoc {a : Q2} : ∀ {t : List Q2}, Cv (t ++ [a]) ↔ Cv t ∧ t.Pairwise (fun b c => 0 < ori b c a)
  | [] => by simp [Cv]
  | b :: t => by
    rw [List.cons_append]
    unfold Cv
    rw [cv_snoc, List.pairwise_append]
    simp only [List.mem_singleton, List.pairwise_singleton, true_and, forall_eq]
    constructor
    · rintro ⟨⟨h1, h2⟩, h3, h4⟩; exact ⟨⟨h1, h3⟩, List.pairwise_cons.mpr ⟨h2, h4⟩⟩
    · rintro ⟨⟨h1, h3⟩, h2⟩; exact ⟨⟨h1, (List.pairwise_cons.mp h2).1⟩, h3, (List.pairwise_cons.mp h2).2⟩
theorem cv_rot {a : Q2} {t : List Q2} (h : Cv (a :: t)) : Cv (t ++ [a]) := by
  rw [cv_snoc]
  exact ⟨h.2, h.1.imp fun {b c} k => by rw [← ori_rot] at k; exact k⟩
theorem cv_rots : ∀ {s t : List Q2}, Cv (s ++ t) → Cv (t ++ s)
  | [], t, h => by simpa using h
  | a :: s, t, h => by
    have h1 : Cv ((s ++ t) ++ [a]) := cv_rot h
    rw [List.append_assoc] at h1
    have h2 := cv_rots h1
    rw [List.append_assoc] at h2
    exact h2
/-- two that follow one another in a row -/
def Nx (L : List Q2) (a b : Q2) : Prop := ∃ u v, L = u ++ a :: b :: v
/-- the edges of a closed row -/
def Eg (P : List Q2) (a b : Q2) : Prop := ∃ f t, P = f :: t ∧ Nx (P ++ [f]) a b
theorem nx_split {A B : List Q2} {x a b : Q2} (h : Nx (A ++ x :: B) a b) : Nx (A ++ [x]) a b ∨ Nx (x :: B) a b := by
  obtain ⟨u, v, e⟩ := h
  rcases List.append_eq_append_iff.mp e with ⟨w, e1, e2⟩ | ⟨w, e1, e2⟩
  · -- u = A ++ w, x :: B = w ++ a :: b :: v
    exact .inr ⟨w, v, e2⟩
  · -- A = u ++ w, w ++ x :: B = a :: b :: v
    cases w with
    | nil => exact .inr ⟨[], v, by simpa using e2.symm⟩
    | cons c w =>
      rw [List.cons_append] at e2
      obtain ⟨ea, e2⟩ := List.cons.inj e2
      cases w with
      | nil =>
        obtain ⟨eb, e2⟩ := List.cons.inj e2
        exact .inl ⟨u, [], by rw [e1, ea, eb]; simp⟩
      | cons d w =>
        rw [List.cons_append] at e2
        obtain ⟨eb, e2⟩ := List.cons.inj e2
        exact .inl ⟨u, w ++ [x], by rw [e1, ea, eb]; simp⟩
theorem nx_rev {L : List Q2} {a b : Q2} (h : Nx L a b) : Nx L.reverse b a := by
  obtain ⟨u, v, rfl⟩ := h
  exact ⟨v.reverse, u.reverse, by simp⟩
theorem nx_cons {L : List Q2} {x a b : Q2} (h : Nx L a b) : Nx (x :: L) a b := by
  obtain ⟨u, v, rfl⟩ := h
  exact ⟨x :: u, v, rfl⟩
/-! ### chains -/
theorem chn_tail {Q : Q2 → Prop} : ∀ {u s : List Q2}, Chn Q (u ++ s) → Chn Q s
  | [], _, h => h
  | [b], [], _ => trivial
  | [b], a :: s, h => h.2.2.2
  | b :: a :: u, s, h => chn_tail (u := a :: u) h.2.2.2
theorem chn_mono {Q : Q2 → Prop} {u v : List Q2} {a b : Q2} (h : Chn Q (u ++ b :: a :: v)) : Lt2 a b := (chn_tail h).1
/-- points behind an edge of a chain lie to its left -/
theorem chn_right {Q : Q2 → Prop} {q : Q2} (hQ : Q q) : ∀ (n : Nat) {u v : List Q2} {a b : Q2}, u.length = n → Chn Q (u ++ b :: a :: v) → Lt2 b q → (∀ z, (u ++ [b]).head? = some z → z = q ∨ Lt2 q z) → 0 < ori a b q
  | 0, u, v, a, b, hn, h, hl, hz => by
    exfalso
    rw [List.length_eq_zero_iff] at hn
    subst hn
    rcases hz b rfl with e | e
    · rw [e] at hl; exact hl.irr
    · exact (e.trans hl).irr
  | n + 1, u, v, a, b, hn, h, hl, hz => by
    obtain ⟨u', c, rfl⟩ : ∃ u' c, u = u' ++ [c] := by
      rcases List.eq_nil_or_concat u with e | ⟨u', c, e⟩
      · rw [e] at hn; cases hn
      · exact ⟨u', c, by simpa using e⟩
    have h' : Chn Q (u' ++ c :: b :: a :: v) := by simpa using h
    obtain ⟨k1, k2, k3, k4⟩ := chn_tail h'
    have k3' : 0 < ori a b c := k3
    have e0 : crs (sub2 b a) (sub2 c b) = ori a b c := ori_bc a b c
    have ab : Lt2 a b := k4.1
    rcases Lt2.tri q c with z | z | z
    · have k := k2 q hQ hl z
      have e1 : ori b c q = crs (sub2 c b) (sub2 q b) := rfl
      have := crs_strict (r := sub2 b a) (y := sub2 c b) (x := sub2 q b) ab k1 hl (by grind) (by grind) (.inl (by grind))
      rw [← ori_bc]
      exact this
    · rw [z]; exact k3'
    · have k := chn_right hQ n (u := u') (v := a :: v) (a := b) (b := c) (by simp at hn; exact hn) h' z (fun w hw => hz w (by
        cases u' with
        | nil => simpa using hw
        | cons x u' => simpa using hw))
      have e1 : ori b c q = crs (sub2 c b) (sub2 q b) := rfl
      have := crs_strict (r := sub2 b a) (y := sub2 c b) (x := sub2 q b) ab k1 hl (by grind) (by grind) (.inl (by grind))
      rw [← ori_bc]
      exact this
/-- what an edge of the chain of points in order sees -/
theorem chain_edge {l : List Q2} (h : l.Pairwise Lt2) (hne : l ≠ []) {a b : Q2} (e : Nx (chainL l).reverse a b) : Lt2 a b ∧ a ∈ l ∧ b ∈ l ∧ (∀ q ∈ l, Lt2 q a → 0 < ori a b q) ∧ (∀ q ∈ l, Lt2 b q → 0 < ori a b q) ∧ ∀ q ∈ l, Lt2 a q → Lt2 q b → 0 ≤ ori a b q := by
  obtain ⟨c1, c2, c3, c4⟩ := chainL_spec h hne
  obtain ⟨v, u, e⟩ := nx_rev e
  rw [List.reverse_reverse] at e
  rw [e] at c1 c2 c3 c4
  refine ⟨chn_mono c1, c4 a (by simp), c4 b (by simp), fun q hq k => ?_, fun q hq k => ?_, fun q hq k1 k2 => ?_⟩
  · have := chn_left hq (chn_tail c1) k (fun z hz => by
      have : l.head? = some z := by
        rw [← c2]
        cases u with
        | nil => simpa using hz
        | cons x u => simpa [List.getLast?_append, List.getLast?_cons] using hz
      cases hl : l with
      | nil => exact absurd hl hne
      | cons p ps =>
        rw [hl] at this hq h
        cases this
        rcases List.mem_cons.mp hq with e | e
        · exact .inl e.symm
        · exact .inr ((List.pairwise_cons.mp h).1 q e))
    rw [← ori_rot] at this
    exact this
  · refine chn_right hq v.length rfl c1 k fun z hz => ?_
    have : l.getLast? = some z := by
      rw [← c3]
      cases v with
      | nil => simpa using hz
      | cons x v => simpa using hz
    obtain ⟨t, ht⟩ := List.getLast?_eq_some_iff.mp this
    rw [ht] at h hq
    rw [List.pairwise_append] at h
    rcases List.mem_append.mp hq with e | e
    · exact .inr (h.2.2 q e z (by simp))
    · exact .inl (List.mem_singleton.mp e).symm
  · exact (chn_tail c1).2.1 q hq k1 k2
theorem chain_edge_up {l : List Q2} (h : l.Pairwise Lt2) (hne : l ≠ []) {a b : Q2} (e : Nx (chainL l.reverse).reverse a b) : Lt2 b a ∧ a ∈ l ∧ b ∈ l ∧ (∀ q ∈ l, Lt2 q b → 0 < ori a b q) ∧ (∀ q ∈ l, Lt2 a q → 0 < ori a b q) ∧ ∀ q ∈ l, Lt2 b q → Lt2 q a → 0 ≤ ori a b q := by
  have e2 : Nx (chainL (l.reverse.map ng)).reverse (ng a) (ng b) := by
    obtain ⟨u, v, e⟩ := e
    refine ⟨u.map ng, v.map ng, ?_⟩
    rw [chainL_ng, ← List.map_reverse, e, List.map_append]
    rfl
  have mem : ∀ q, q ∈ l → ng q ∈ l.reverse.map ng := fun q hq => List.mem_map.mpr ⟨q, List.mem_reverse.mpr hq, rfl⟩
  have mem' : ∀ q, ng q ∈ l.reverse.map ng → q ∈ l := fun q hq => by
    obtain ⟨y, hy, e⟩ := List.mem_map.mp hq
    rw [← ng_inj e]
    exact List.mem_reverse.mp hy
  obtain ⟨k1, k2, k3, k4, k5, k6⟩ := chain_edge (pw_ng h) (by simpa using hne) e2
  refine ⟨lt_ng.mp k1, mem' _ k2, mem' _ k3, fun q hq z => ?_, fun q hq z => ?_, fun q hq z z' => ?_⟩
  · rw [← ori_ng]; exact k5 _ (mem q hq) (lt_ng.mpr z)
  · rw [← ori_ng]; exact k4 _ (mem q hq) (lt_ng.mpr z)
  · rw [← ori_ng]; exact k6 _ (mem q hq) (lt_ng.mpr z') (lt_ng.mpr z)
end Pl

/-! PR5: hulls are polygons, polygons are their own hulls. -/
namespace Pl
theorem ori_self1 (a b : Q2) : ori a b a = 0 := by unfold ori crs sub2; simp only; grind
theorem ori_self2 (a b : Q2) : ori a b b = 0 := by unfold ori crs sub2; simp only; grind
theorem ori_self0 (a b : Q2) : ori a a b = 0 := by unfold ori crs sub2; simp only; grind
theorem chn_pw {Q : Q2 → Prop} : ∀ {s : List Q2}, Chn Q s → s.Pairwise (fun a b => Lt2 b a)
  | [], _ => .nil
  | [b], _ => by simp
  | b :: a :: s, h => by
    have ih := chn_pw (s := a :: s) h.2.2.2
    refine List.pairwise_cons.mpr ⟨fun x hx => ?_, ih⟩
    rcases List.mem_cons.mp hx with e | e
    · rw [e]; exact h.1
    · exact ((List.pairwise_cons.mp ih).1 x e).trans h.1
theorem nx_mem {L : List Q2} {a b : Q2} (h : Nx L a b) : a ∈ L ∧ b ∈ L := by
  obtain ⟨u, v, rfl⟩ := h
  constructor <;> simp
theorem nx_prev {x q : Q2} {L : List Q2} (hq : q ∈ x :: L) (hne : q ≠ x) : ∃ p, Nx (x :: L) p q := by
  obtain ⟨u, v, e⟩ := List.append_of_mem hq
  rcases List.eq_nil_or_concat u with z | ⟨u', p, z⟩
  · rw [z] at e
    exact absurd (List.cons.inj e).1.symm hne
  · refine ⟨p, u', v, ?_⟩
    rw [e, z]
    simp
theorem nx_between {L : List Q2} (h : L.Pairwise Lt2) {a b q : Q2} (e : Nx L a b) (hq : q ∈ L) (k1 : Lt2 a q) (k2 : Lt2 q b) : False := by
  obtain ⟨u, v, rfl⟩ := e
  rw [List.pairwise_append, List.pairwise_cons, List.pairwise_cons] at h
  obtain ⟨h1, ⟨h2, h3, h4⟩, h5⟩ := h
  rcases List.mem_append.mp hq with z | z
  · exact ((h5 q z a List.mem_cons_self).trans k1).irr
  · rcases List.mem_cons.mp z with z | z
    · rw [z] at k1; exact k1.irr
    · rcases List.mem_cons.mp z with z | z
      · rw [z] at k2; exact k2.irr
      · exact ((h3 q z).trans k2).irr
/-- parallel ways in the upper half plane have one direction -/
theorem lp_par {d x y : Q2} (hx : LP x) (hy : LP y) (h : crs x y = 0) (h1 : crs d x < 0) (h2 : 0 ≤ crs d y) : False := by
  have e1 : x.1 * crs d y = y.1 * crs d x := by unfold crs at *; grind
  have e2 : x.2 * crs d y = y.2 * crs d x := by unfold crs at *; grind
  have x1 : 0 ≤ x.1 := by rcases hx with h | h <;> grind
  have y1 : 0 ≤ y.1 := by rcases hy with h | h <;> grind
  have p1 := Rat.mul_nonneg x1 h2
  rcases hy with k | ⟨k, k'⟩
  · have := rneg h1 k
    rw [Rat.mul_comm] at this
    grind
  · rcases hx with g | ⟨g, g'⟩
    · have : x.1 * y.2 = 0 := by unfold crs at h; rw [k] at h; grind
      have := Rat.mul_pos g k'
      grind
    · have p2 := Rat.mul_nonneg (Rat.le_of_lt g') h2
      have := rneg h1 k'
      rw [Rat.mul_comm] at this
      grind
section
variable {l : List Q2}
/-- the two chains of a row in order -/
theorem chains_at (h : l.Pairwise Lt2) (hl : 2 ≤ l.length) : ∃ p q R S, l.head? = some p ∧ l.getLast? = some q ∧ Lt2 p q ∧ chainL l = q :: R ∧ chainL l.reverse = p :: S ∧ (q :: R).getLast? = some p ∧ (p :: S).getLast? = some q := by
  have hne : l ≠ [] := fun z => by rw [z] at hl; simp at hl
  obtain ⟨a1, a2, a3, a4⟩ := chainL_spec h hne
  have hr : (chainL l.reverse).map ng = chainL (l.reverse.map ng) := (chainL_ng _).symm
  obtain ⟨b1, b2, b3, b4⟩ := chainL_spec (pw_ng h) (by simpa using hne)
  rw [← hr] at b2 b3
  rw [List.getLast?_map, List.head?_map, List.head?_reverse] at b2
  rw [List.head?_map, List.getLast?_map, List.getLast?_reverse] at b3
  have b2' : (chainL l.reverse).getLast? = l.getLast? := by
    cases h1 : (chainL l.reverse).getLast? <;> cases h2 : l.getLast? <;> rw [h1, h2] at b2 <;> simp at b2 ⊢
    exact ng_inj b2
  have b3' : (chainL l.reverse).head? = l.head? := by
    cases h1 : (chainL l.reverse).head? <;> cases h2 : l.head? <;> rw [h1, h2] at b3 <;> simp at b3 ⊢
    exact ng_inj b3
  cases hc : l with
  | nil => exact absurd hc hne
  | cons p t =>
    rw [hc] at h hl a2 a3 b2' b3'
    have ht : t ≠ [] := fun z => by rw [z] at hl; simp at hl
    obtain ⟨q, hq⟩ : ∃ q, t.getLast? = some q := by
      rcases Option.eq_none_or_eq_some t.getLast? with z | ⟨q, z⟩
      · rw [List.getLast?_eq_none_iff] at z; exact absurd z ht
      · exact ⟨q, z⟩
    have hq' : (p :: t).getLast? = some q := by rw [List.getLast?_cons_of_ne_nil ht, hq]
    rw [hq'] at a3 b2'
    cases hR : chainL (p :: t) with
    | nil => rw [hR] at a3; cases a3
    | cons x R =>
      rw [hR] at a2 a3
      cases a3
      cases hS : chainL (p :: t).reverse with
      | nil => rw [hS] at b3'; cases b3'
      | cons y S =>
        rw [hS] at b2' b3'
        cases b3'
        exact ⟨p, _, R, S, rfl, hq', (List.pairwise_cons.mp h).1 _ (List.mem_of_getLast? hq), rfl, rfl, a2, b2'⟩
theorem hullL_at {p q : Q2} {R S : List Q2} (e1 : chainL l = q :: R) (e2 : chainL l.reverse = p :: S) : hullL l = R.reverse ++ S.reverse := by
  unfold hullL
  rw [e1, e2]
  simp
theorem rev_head {p q : Q2} {R : List Q2} (h : (q :: R).getLast? = some p) (hne : p ≠ q) : ∃ T, R.reverse = p :: T := by
  cases R with
  | nil => simp at h; exact absurd h.symm hne
  | cons x R =>
    rw [List.getLast?_cons_cons] at h
    have : (x :: R).reverse.head? = some p := by rw [List.head?_reverse, h]
    cases hr : (x :: R).reverse with
    | nil => rw [hr] at this; cases this
    | cons y T =>
      rw [hr] at this
      cases this
      exact ⟨T, rfl⟩
theorem ne_of_lt2 {p q : Q2} (h : Lt2 p q) : p ≠ q := fun e => by rw [e] at h; exact h.irr
theorem low_pw (h : l.Pairwise Lt2) (hne : l ≠ []) : (chainL l).reverse.Pairwise Lt2 := by
  rw [List.pairwise_reverse]
  exact chn_pw (chainL_spec h hne).1
theorem up_pw (h : l.Pairwise Lt2) (hne : l ≠ []) : (chainL l.reverse).Pairwise Lt2 := by
  have := chn_pw (chainL_spec (pw_ng h) (by simpa using hne)).1
  rw [chainL_ng] at this
  exact (List.pairwise_map.mp this).imp fun {a b} k => lt_ng.mp k
theorem hull_edges (h : l.Pairwise Lt2) (hl : 2 ≤ l.length) {a b : Q2} (e : Eg (hullL l) a b) : Nx (chainL l).reverse a b ∨ Nx (chainL l.reverse).reverse a b := by
  obtain ⟨p, q, R, S, h1, h2, h3, e1, e2, g1, g2⟩ := chains_at h hl
  obtain ⟨T, hT⟩ := rev_head g1 (ne_of_lt2 h3)
  obtain ⟨T', hT'⟩ := rev_head g2 (ne_of_lt2 h3).symm
  obtain ⟨f, t, ef, en⟩ := e
  rw [hullL_at e1 e2] at ef en
  have ef' : f = p := by rw [hT, List.cons_append] at ef; exact (List.cons.inj ef).1.symm
  subst ef'
  rw [hT', List.append_assoc, List.cons_append] at en
  rw [e1, e2, List.reverse_cons, List.reverse_cons, hT', List.cons_append]
  exact nx_split en
theorem low_sup (h : l.Pairwise Lt2) (hne : l ≠ []) {a b : Q2} (e : Nx (chainL l).reverse a b) : ∀ q ∈ l, 0 ≤ ori a b q := fun q hq => by
  obtain ⟨k1, k2, k3, k4, k5, k6⟩ := chain_edge h hne e
  rcases Lt2.tri q a with z | z | z
  · exact Rat.le_of_lt (k4 q hq z)
  · rw [z, ori_self1]; exact Rat.le_refl
  · rcases Lt2.tri q b with y | y | y
    · exact k6 q hq z y
    · rw [y, ori_self2]; exact Rat.le_refl
    · exact Rat.le_of_lt (k5 q hq y)
theorem up_sup (h : l.Pairwise Lt2) (hne : l ≠ []) {a b : Q2} (e : Nx (chainL l.reverse).reverse a b) : ∀ q ∈ l, 0 ≤ ori a b q := fun q hq => by
  obtain ⟨k1, k2, k3, k4, k5, k6⟩ := chain_edge_up h hne e
  rcases Lt2.tri q b with z | z | z
  · exact Rat.le_of_lt (k4 q hq z)
  · rw [z, ori_self2]; exact Rat.le_refl
  · rcases Lt2.tri q a with y | y | y
    · exact k6 q hq z y
    · rw [y, ori_self1]; exact Rat.le_refl
    · exact Rat.le_of_lt (k5 q hq y)
/-- all points lie to the left of all edges, or on them -/
theorem hull_sup0 (h : l.Pairwise Lt2) (hl : 2 ≤ l.length) {a b : Q2} (e : Eg (hullL l) a b) : ∀ q ∈ l, 0 ≤ ori a b q := by
  have hne : l ≠ [] := fun z => by rw [z] at hl; simp at hl
  rcases hull_edges h hl e with e | e
  · exact low_sup h hne e
  · exact up_sup h hne e
/-- a corner of the upper side is not on an edge of the lower one -/
theorem low_strict (h : l.Pairwise Lt2) (hl : 2 ≤ l.length) {a b c : Q2} (e : Nx (chainL l).reverse a b) (hc : c ∈ chainL l.reverse) (k1 : Lt2 a c) (k2 : Lt2 c b) : 0 < ori a b c := by
  have hne : l ≠ [] := fun z => by rw [z] at hl; simp at hl
  obtain ⟨m1, m2, m3, m4, m5, m6⟩ := chain_edge h hne e
  have pw := up_pw h hne
  obtain ⟨p, q, R, S, h1, h2, h3, e1, e2, g1, g2⟩ := chains_at h hl
  -- c is not the greatest point
  have hcq : c ≠ q := fun z => by
    rw [z] at k2
    obtain ⟨t, ht⟩ := List.getLast?_eq_some_iff.mp h2
    rw [ht] at h m3
    rw [List.pairwise_append] at h
    rcases List.mem_append.mp m3 with y | y
    · exact ((h.2.2 b y q (by simp)).trans k2).irr
    · rw [List.mem_singleton.mp y] at k2; exact k2.irr
  obtain ⟨T', hT'⟩ := rev_head g2 (ne_of_lt2 h3).symm
  have hr : (chainL l.reverse).reverse = q :: (T' ++ [p]) := by rw [e2, List.reverse_cons, hT']; rfl
  have hc' : c ∈ q :: (T' ++ [p]) := by rw [← hr]; exact List.mem_reverse.mpr hc
  obtain ⟨r, hr2⟩ := nx_prev hc' hcq
  rw [← hr] at hr2
  obtain ⟨n1, n2, n3, n4, n5, n6⟩ := chain_edge_up h hne hr2
  have s1 := n4 a m2 k1
  have s2 := up_sup h hne hr2 b m3
  have s0 := m6 c n3 k1 k2
  by_cases q0 : 0 < ori a b c
  · exact q0
  · exfalso
    have z0 : ori a b c = 0 := by grind
    refine lp_par (d := sub2 c r) (x := sub2 c a) (y := sub2 b c) k1 k2 ?_ ?_ ?_
    · rw [ori_bc, ori_swap, z0]; grind
    · have : crs (sub2 c r) (sub2 c a) = - ori r c a := by unfold ori crs sub2; simp only; grind
      rw [this]; grind
    · have : crs (sub2 c r) (sub2 b c) = ori r c b := ori_bc _ _ _
      rw [this]; exact s2
theorem up_strict (h : l.Pairwise Lt2) (hl : 2 ≤ l.length) {a b c : Q2} (e : Nx (chainL l.reverse).reverse a b) (hc : c ∈ chainL l) (k1 : Lt2 b c) (k2 : Lt2 c a) : 0 < ori a b c := by
  have e2 : Nx (chainL (l.reverse.map ng)).reverse (ng a) (ng b) := by
    obtain ⟨u, v, e⟩ := e
    refine ⟨u.map ng, v.map ng, ?_⟩
    rw [chainL_ng, ← List.map_reverse, e, List.map_append]
    rfl
  rw [← ori_ng]
  refine low_strict (pw_ng h) (by simpa using hl) e2 ?_ (lt_ng.mpr k2) (lt_ng.mpr k1)
  rw [← List.map_reverse, List.reverse_reverse, chainL_ng]
  exact List.mem_map.mpr ⟨c, hc, rfl⟩
theorem hull_mem_or {q : Q2} (hq : q ∈ hullL l) : q ∈ chainL l ∨ q ∈ chainL l.reverse := by
  unfold hullL at hq
  rcases List.mem_append.mp hq with e | e
  · exact .inl (List.mem_reverse.mp (List.dropLast_subset _ e))
  · exact .inr (List.mem_reverse.mp (List.dropLast_subset _ e))
theorem up_mem (h : l.Pairwise Lt2) (hne : l ≠ []) : ∀ x ∈ chainL l.reverse, x ∈ l := fun x hx => by
  have hr : (chainL l.reverse).map ng = chainL (l.reverse.map ng) := (chainL_ng _).symm
  have := (chainL_spec (pw_ng h) (by simpa using hne)).2.2.2 (ng x) (by rw [← hr]; exact List.mem_map.mpr ⟨x, hx, rfl⟩)
  obtain ⟨y, hy, e⟩ := List.mem_map.mp this
  rw [← ng_inj e]
  exact List.mem_reverse.mp hy
theorem hull_mem (h : l.Pairwise Lt2) (hne : l ≠ []) {q : Q2} (hq : q ∈ hullL l) : q ∈ l := by
  rcases hull_mem_or hq with e | e
  · exact (chainL_spec h hne).2.2.2 q e
  · exact up_mem h hne q e
def Sup (P : List Q2) : Prop := ∀ a b, Eg P a b → ∀ q ∈ P, q ≠ a → q ≠ b → 0 < ori a b q
theorem hull_sup (h : l.Pairwise Lt2) (hl : 2 ≤ l.length) : Sup (hullL l) := fun a b e c hc na nb => by
  have hne : l ≠ [] := fun z => by rw [z] at hl; simp at hl
  have hcl := hull_mem h hne hc
  rcases hull_edges h hl e with e | e
  · obtain ⟨m1, m2, m3, m4, m5, m6⟩ := chain_edge h hne e
    rcases Lt2.tri c a with z | z | z
    · exact m4 c hcl z
    · exact absurd z na
    · rcases Lt2.tri c b with y | y | y
      · rcases hull_mem_or hc with k | k
        · exact (nx_between (low_pw h hne) e (List.mem_reverse.mpr k) z y).elim
        · exact low_strict h hl e k z y
      · exact absurd y nb
      · exact m5 c hcl y
  · obtain ⟨m1, m2, m3, m4, m5, m6⟩ := chain_edge_up h hne e
    rcases Lt2.tri c b with z | z | z
    · exact m4 c hcl z
    · exact absurd z nb
    · rcases Lt2.tri c a with y | y | y
      · rcases hull_mem_or hc with k | k
        · exact up_strict h hl e k z y
        · have e' : Nx (chainL l.reverse) b a := by have := nx_rev e; rwa [List.reverse_reverse] at this
          exact (nx_between (up_pw h hne) e' k z y).elim
      · exact absurd y na
      · exact m5 c hcl y
theorem hull_nodup (h : l.Pairwise Lt2) (hl : 2 ≤ l.length) : (hullL l).Nodup := by
  have hne : l ≠ [] := fun z => by rw [z] at hl; simp at hl
  obtain ⟨p, q, R, S, h1, h2, h3, e1, e2, g1, g2⟩ := chains_at h hl
  rw [hullL_at e1 e2]
  have p1 := low_pw h hne
  have p2 := up_pw h hne
  have hlow : (chainL l).reverse = R.reverse ++ [q] := by rw [e1, List.reverse_cons]
  have hup : (chainL l.reverse).reverse = S.reverse ++ [p] := by rw [e2, List.reverse_cons]
  rw [e1, List.reverse_cons, List.pairwise_append] at p1
  rw [e2, List.pairwise_cons] at p2
  unfold List.Nodup
  rw [List.pairwise_append]
  refine ⟨p1.1.imp fun {a b} k => ne_of_lt2 k, ?_, fun x hx y hy exy => ?_⟩
  · rw [List.pairwise_reverse]
    exact p2.2.imp fun {a b} k => (ne_of_lt2 k).symm
  · subst exy
    -- inner of both sides
    have xq : x ≠ q := fun z => by rw [z] at hx; exact (p1.2.2 q hx q (by simp)).irr
    have xp : x ≠ p := fun z => by rw [z] at hy; exact (p2.1 p (List.mem_reverse.mp hy)).irr
    obtain ⟨T, hT⟩ := rev_head g1 (ne_of_lt2 h3)
    obtain ⟨T', hT'⟩ := rev_head g2 (ne_of_lt2 h3).symm
    obtain ⟨a, ha⟩ := nx_prev (L := T ++ [q]) (x := p) (q := x) (by rw [← List.cons_append, ← hT]; exact List.mem_append_left _ hx) xp
    obtain ⟨r, hr⟩ := nx_prev (L := T' ++ [p]) (x := q) (q := x) (by rw [← List.cons_append, ← hT']; exact List.mem_append_left _ hy) xq
    rw [← List.cons_append, ← hT, ← hlow] at ha
    rw [← List.cons_append, ← hT', ← hup] at hr
    obtain ⟨m1, m2, m3, m4, m5, m6⟩ := chain_edge h hne ha
    obtain ⟨n1, n2, n3, n4, n5, n6⟩ := chain_edge_up h hne hr
    have s1 := m5 r n2 n1
    have s2 := n4 a m2 m1
    have s3 : ori r x a = - ori a x r := by unfold ori crs sub2; simp only; grind
    grind
theorem hull_head (h : l.Pairwise Lt2) (hl : 2 ≤ l.length) : ∃ p T q, hullL l = p :: T ∧ l.head? = some p ∧ l.getLast? = some q ∧ q ∈ T := by
  obtain ⟨p, q, R, S, h1, h2, h3, e1, e2, g1, g2⟩ := chains_at h hl
  obtain ⟨T, hT⟩ := rev_head g1 (ne_of_lt2 h3)
  obtain ⟨T', hT'⟩ := rev_head g2 (ne_of_lt2 h3).symm
  exact ⟨p, T ++ S.reverse, q, by rw [hullL_at e1 e2, hT, List.cons_append], h1, h2, by rw [hT']; simp⟩
end
/-! ### triples -/
theorem fan_tr {a d : Q2} : ∀ {L : List Q2} {y : Q2}, (∀ x ∈ y :: L, 0 < crs d (sub2 x a)) → (∀ u v, Nx (y :: L) u v → 0 < ori a u v) → ∀ z ∈ L, 0 < ori a y z
  | [], _, _, _, _, hz => by cases hz
  | w :: L, y, hd, hn, z, hz => by
    have h1 := hn y w ⟨[], L, rfl⟩
    rcases List.mem_cons.mp hz with e | e
    · rw [e]; exact h1
    · have h2 := fan_tr (y := w) (fun x hx => hd x (List.mem_cons_of_mem _ hx)) (fun u v k => hn u v (nx_cons k)) z e
      exact half_trans (hd y (by simp)) (hd w (by simp)) (hd z (by simp [e])) h1 h2
theorem fan_pw {a d : Q2} : ∀ {L : List Q2}, (∀ x ∈ L, 0 < crs d (sub2 x a)) → (∀ u v, Nx L u v → 0 < ori a u v) → L.Pairwise (fun b c => 0 < ori a b c)
  | [], _, _ => .nil
  | y :: L, hd, hn => List.pairwise_cons.mpr ⟨fun z hz => fan_tr hd hn z hz, fan_pw (fun x hx => hd x (List.mem_cons_of_mem _ hx)) fun u v k => hn u v (nx_cons k)⟩
theorem nx_app {A B : List Q2} {a b : Q2} (h : Nx B a b) (A : List Q2) (C : List Q2) : Nx (A ++ B ++ C) a b := by
  obtain ⟨u, v, rfl⟩ := h
  exact ⟨A ++ u, v ++ C, by simp⟩
theorem cv_of_sup {P : List Q2} (nd : P.Nodup) (h : Sup P) : Cv P := by
  cases hP : P with
  | nil => trivial
  | cons f t0 =>
    have key : ∀ (s w : List Q2), P = w ++ s → Cv s := by
      intro s
      induction s with
      | nil => intro _ _; trivial
      | cons a t ih =>
        intro w e
        refine ⟨?_, ih (w ++ [a]) (by rw [e]; simp)⟩
        have nd' := nd
        rw [e] at nd'
        unfold List.Nodup at nd'
        rw [List.pairwise_append, List.pairwise_cons] at nd'
        obtain ⟨_, ⟨na, nt⟩, _⟩ := nd'
        have eg : ∀ u v, Nx (a :: t) u v → Eg P u v := fun u v k => ⟨f, t0, hP, by rw [e]; exact nx_app (A := []) k _ _⟩
        cases t with
        | nil => exact .nil
        | cons d L =>
          have hd : ∀ x ∈ L, 0 < ori a d x := fun x hx => h a d (eg a d ⟨[], L, rfl⟩) x (by rw [e]; simp [hx]) (fun z => na x (by simp [hx]) z.symm) (fun z => (List.pairwise_cons.mp nt).1 x hx z.symm)
          have hc : ∀ u v, Nx (d :: L) u v → 0 < ori a u v := fun u v k => by
            have hm := nx_mem k
            have := h u v (eg u v (nx_cons k)) a (by rw [e]; simp) (fun z => na u hm.1 z) (fun z => na v hm.2 z)
            rw [← ori_rot]
            exact this
          exact List.pairwise_cons.mpr ⟨fun x hx => hd x hx, fan_pw (d := sub2 d a) hd fun u v k => hc u v (nx_cons k)⟩
    rw [← hP]
    exact key P [] rfl
theorem cv_triple {x n e : Q2} {B : List Q2} : ∀ {A : List Q2}, Cv (A ++ x :: B) → e ∈ A → n ∈ B → 0 < ori e x n
  | [], _, he, _ => by cases he
  | a :: A, h, he, hn => by
    rcases List.mem_cons.mp he with z | z
    · rw [z]
      have h1 := h.1
      rw [List.append_eq, List.pairwise_append, List.pairwise_cons] at h1
      exact h1.2.1.1 n hn
    · exact cv_triple h.2 z hn
/-- rows in one order with the same things are one -/
theorem asym_one {ρ : Q2 → Q2 → Prop} (as : ∀ a b, ρ a b → ρ b a → False) : ∀ {l m : List Q2}, l.Pairwise ρ → m.Pairwise ρ → (∀ x, x ∈ l ↔ x ∈ m) → l = m
  | [], [], _, _, _ => rfl
  | [], q :: m, _, _, h => absurd ((h q).mpr List.mem_cons_self) (by simp)
  | p :: l, [], _, _, h => absurd ((h p).mp List.mem_cons_self) (by simp)
  | p :: l, q :: m, h1, h2, h => by
    rw [List.pairwise_cons] at h1 h2
    have e : p = q := by
      rcases List.mem_cons.mp ((h p).mp List.mem_cons_self) with e | e
      · exact e
      · rcases List.mem_cons.mp ((h q).mpr List.mem_cons_self) with e' | e'
        · exact e'.symm
        · exact (as _ _ (h1.1 q e') (h2.1 p e)).elim
    subst e
    rw [asym_one as h1.2 h2.2 fun x => ?_]
    constructor
    · intro hx
      rcases List.mem_cons.mp ((h x).mp (List.mem_cons_of_mem _ hx)) with e | e
      · subst e; exact (as _ _ (h1.1 x hx) (h1.1 x hx)).elim
      · exact e
    · intro hx
      rcases List.mem_cons.mp ((h x).mpr (List.mem_cons_of_mem _ hx)) with e | e
      · subst e; exact (as _ _ (h2.1 x hx) (h2.1 x hx)).elim
      · exact e
/-- a row with a sign that changes but once -/
theorem parted {g : Q2 → Bool} : ∀ {s : List Q2}, s.Pairwise (fun y z => g z = true → g y = true) → ∃ s1 s2, s = s1 ++ s2 ∧ (∀ y ∈ s1, g y = true) ∧ ∀ z ∈ s2, g z = false
  | [], _ => ⟨[], [], rfl, by simp, by simp⟩
  | y :: s, h => by
    rw [List.pairwise_cons] at h
    obtain ⟨s1, s2, e, h1, h2⟩ := parted h.2
    by_cases k : g y = true
    · refine ⟨y :: s1, s2, by rw [e]; rfl, fun z hz => ?_, h2⟩
      rcases List.mem_cons.mp hz with r | r
      · rw [r]; exact k
      · exact h1 z r
    · refine ⟨[], y :: s, rfl, by simp, fun z hz => ?_⟩
      rcases List.mem_cons.mp hz with r | r
      · rw [r]; simpa using k
      · cases q : g z with
        | false => rfl
        | true => exact absurd (h.1 z r q) k
/-- a polygon that begins with its least corner is the hull of its corners -/
theorem hull_unique {P l : List Q2} (hl : l.Pairwise Lt2) (hm : ∀ x, x ∈ l ↔ x ∈ P) (hc : Cv P) (h2 : 2 ≤ l.length) {f : Q2} {t : List Q2} (hP : P = f :: t) (hf : ∀ x ∈ t, Lt2 f x) : hullL l = P := by
  have hne : l ≠ [] := fun z => by rw [z] at h2; simp at h2
  obtain ⟨p, s, q, e1, e2, e3, e4⟩ := hull_head hl h2
  have nd := hull_nodup hl h2
  have cH := cv_of_sup nd (hull_sup hl h2)
  -- the least one
  have epf : p = f := by
    have hp : p ∈ P := (hm p).mp (List.mem_of_head? e2)
    rw [hP] at hp
    rcases List.mem_cons.mp hp with z | z
    · exact z
    · exfalso
      have hfl : f ∈ l := (hm f).mpr (by rw [hP]; simp)
      cases hll : l with
      | nil => exact hne hll
      | cons a l' =>
        rw [hll] at e2 hfl hl
        cases e2
        rcases List.mem_cons.mp hfl with y | y
        · have := hf p z; rw [y] at this; exact this.irr
        · exact ((hf p z).trans ((List.pairwise_cons.mp hl).1 f y)).irr
  subst epf
  rw [e1, hP]
  congr 1
  rw [e1] at nd cH
  rw [hP] at hc
  have ps : s.Pairwise (fun b c => 0 < ori p b c) := cH.1
  have pt : t.Pairwise (fun b c => 0 < ori p b c) := hc.1
  have st : ∀ x ∈ s, x ∈ t := fun x hx => by
    have : x ∈ P := (hm x).mp (hull_mem hl hne (by rw [e1]; simp [hx]))
    rw [hP] at this
    rcases List.mem_cons.mp this with z | z
    · rw [z] at hx; exact absurd hx (List.nodup_cons.mp nd).1
    · exact z
  have as : ∀ a b, 0 < ori p a b → 0 < ori p b a → False := fun a b h1 h2 => by
    have := ori_swap p a b
    grind
  refine asym_one as ps pt fun x => ⟨st x, fun hx => ?_⟩
  by_cases hxs : x ∈ s
  · exact hxs
  exfalso
  obtain ⟨t1, t2, ht⟩ := List.append_of_mem hx
  have pt' := pt
  rw [ht, List.pairwise_append, List.pairwise_cons] at pt'
  obtain ⟨q1, ⟨q2, q3⟩, q4⟩ := pt'
  -- each corner of the hull comes ahead of x or behind it
  have side : ∀ y ∈ s, (y ∈ t1 ∧ 0 < ori p y x) ∨ (y ∈ t2 ∧ 0 < ori p x y) := fun y hy => by
    have := st y hy
    rw [ht] at this
    rcases List.mem_append.mp this with z | z
    · exact .inl ⟨z, q4 y z x (by simp)⟩
    · rcases List.mem_cons.mp z with z | z
      · rw [z] at hy; exact absurd hy hxs
      · exact .inr ⟨z, q2 y z⟩
  obtain ⟨s1, s2, hs, g1, g2⟩ := parted (g := fun y => decide (0 < ori p y x)) (s := s) (by
    refine List.Pairwise.imp_of_mem (fun {y z} hy hz k => ?_) ps
    intro gz
    have gz := of_decide_eq_true gz
    refine decide_eq_true ?_
    rcases side y hy with ⟨_, k1⟩ | ⟨y2, k1⟩
    · exact k1
    · exfalso
      rcases side z hz with ⟨z1, _⟩ | ⟨_, k2⟩
      · exact as _ _ k (q4 z z1 y (by simp [y2]))
      · exact as _ _ gz k2)
  have mem1 : ∀ y ∈ s1, y ∈ t1 ∧ 0 < ori p y x := fun y hy => by
    rcases side y (by rw [hs]; simp [hy]) with k | k
    · exact k
    · exact (as _ _ (of_decide_eq_true (g1 y hy)) k.2).elim
  have mem2 : ∀ y ∈ s2, y ∈ t2 ∧ 0 < ori p x y := fun y hy => by
    rcases side y (by rw [hs]; simp [hy]) with k | k
    · have := g2 y hy
      exact absurd k.2 (of_decide_eq_false this)
    · exact k
  have hxl : x ∈ l := (hm x).mpr (by rw [hP]; simp [hx])
  -- the edge over x
  have edge : ∀ e n, Nx (p :: (s1 ++ s2) ++ [p]) e n → 0 ≤ ori e n x := fun e n k => hull_sup0 hl h2 (a := e) (b := n) ⟨p, s, e1, by rw [e1, hs]; exact k⟩ x hxl
  have tr : ∀ e ∈ t1, ∀ n ∈ t2, 0 < ori e x n := fun e he n hn => by
    have := hc.2
    rw [ht] at this
    exact cv_triple this he hn
  have fin : ∀ e n, 0 < ori e x n → 0 ≤ ori e n x → False := fun e n h1 h2 => by
    have := ori_swap e n x
    grind
  rcases List.eq_nil_or_concat s1 with z1 | ⟨s1', e, z1⟩
  · subst z1
    cases s2 with
    | nil =>
      rw [hs] at e4
      simp at e4
    | cons n s2 =>
      refine fin p n (mem2 n (by simp)).2 (edge p n ⟨[], s2 ++ [p], by simp⟩)
  · have he := mem1 e (by rw [z1]; simp)
    cases s2 with
    | nil =>
      refine fin e p ?_ (edge e p ⟨p :: s1', [], by rw [z1]; simp⟩)
      rw [ori_rot]
      exact he.2
    | cons n s2 =>
      exact fin e n (tr e he.1 n (mem2 n (by simp)).1) (edge e n ⟨p :: s1', s2 ++ [p], by rw [z1]; simp⟩)
end Pl

/-! PR6: hulls of any points. -/
namespace Pl
def insQ (p : Q2) : List Q2 → List Q2
  | [] => [p]
  | q :: r => if Lt2 p q then p :: q :: r else if p = q then q :: r else q :: insQ p r
def sortQ (l : List Q2) : List Q2 := l.foldr insQ []
theorem insQ_mem {p x : Q2} : ∀ {l : List Q2}, x ∈ insQ p l ↔ x = p ∨ x ∈ l
  | [] => by simp [insQ]
  | q :: r => by
    unfold insQ
    split
    · simp
    · split
      · rename_i e; subst e; simp
      · rw [List.mem_cons, insQ_mem, List.mem_cons]
        constructor
        · rintro (h | h | h)
          · exact .inr (.inl h)
          · exact .inl h
          · exact .inr (.inr h)
        · rintro (h | h | h)
          · exact .inr (.inl h)
          · exact .inl h
          · exact .inr (.inr h)
theorem insQ_sorted {p : Q2} : ∀ {l : List Q2}, l.Pairwise Lt2 → (insQ p l).Pairwise Lt2
  | [], _ => by simp [insQ]
  | q :: r, h => by
    unfold insQ
    have h' := h
    rw [List.pairwise_cons] at h
    split
    · rename_i hl
      refine List.pairwise_cons.mpr ⟨fun x hx => ?_, h'⟩
      rcases List.mem_cons.mp hx with rfl | hx
      · exact hl
      · exact hl.trans (h.1 x hx)
    · rename_i hl
      split
      · exact h'
      · rename_i hne
        refine List.pairwise_cons.mpr ⟨fun x hx => ?_, insQ_sorted h.2⟩
        rcases insQ_mem.mp hx with rfl | hx
        · rcases Lt2.tri x q with z | z | z
          · exact absurd z hl
          · exact absurd z hne
          · exact z
        · exact h.1 x hx
theorem sortQ_mem {x : Q2} : ∀ {l : List Q2}, x ∈ sortQ l ↔ x ∈ l
  | [] => by simp [sortQ]
  | p :: l => by
    show x ∈ insQ p (sortQ l) ↔ _
    rw [insQ_mem, sortQ_mem, List.mem_cons]
theorem sortQ_sorted : ∀ (l : List Q2), (sortQ l).Pairwise Lt2
  | [] => .nil
  | p :: l => insQ_sorted (sortQ_sorted l)
theorem lt2_asym (a b : Q2) (h : Lt2 a b) (k : Lt2 b a) : False := (h.trans k).irr
theorem sortQ_congr {l m : List Q2} (h : ∀ x, x ∈ l ↔ x ∈ m) : sortQ l = sortQ m :=
  asym_one lt2_asym (sortQ_sorted l) (sortQ_sorted m) fun x => by rw [sortQ_mem, sortQ_mem, h]
theorem sortQ_ne {l : List Q2} (h : l ≠ []) : sortQ l ≠ [] := fun z => by
  cases l with
  | nil => exact h rfl
  | cons p l =>
    have : p ∈ sortQ (p :: l) := sortQ_mem.mpr List.mem_cons_self
    rw [z] at this
    cases this
def hullQ (l : List Q2) : List Q2 := if (sortQ l).length < 2 then sortQ l else hullL (sortQ l)
theorem hullQ_congr {l m : List Q2} (h : ∀ x, x ∈ l ↔ x ∈ m) : hullQ l = hullQ m := by unfold hullQ; rw [sortQ_congr h]
/-- a polygon: three corners in order turn left, the first one is the least -/
structure Poly (P : List Q2) : Prop where
  cv : Cv P
  least : ∀ f t, P = f :: t → ∀ x ∈ t, Lt2 f x
  ne : P ≠ []
theorem Poly.nodup {P : List Q2} (h : Poly P) : P.Nodup := by
  cases hP : P with
  | nil => exact .nil
  | cons f t =>
    have h1 := h.least f t hP
    have h2 := h.cv
    rw [hP] at h2
    refine List.nodup_cons.mpr ⟨fun z => (h1 f z).irr, h2.1.imp fun {a b} k e => ?_⟩
    rw [e, ori_self2] at k
    exact Rat.lt_irrefl k
theorem hullQ_mem {l : List Q2} {x : Q2} (h : x ∈ hullQ l) : x ∈ l := by
  unfold hullQ at h
  split at h
  · exact sortQ_mem.mp h
  · rename_i k
    exact sortQ_mem.mp (hull_mem (sortQ_sorted l) (fun z => by rw [z] at k; exact k (by simp)) h)
theorem hullQ_poly {l : List Q2} (hne : l ≠ []) : Poly (hullQ l) := by
  have hs := sortQ_sorted l
  have hn := sortQ_ne hne
  unfold hullQ
  split
  · rename_i k
    cases hl : sortQ l with
    | nil => exact absurd hl hn
    | cons a t =>
      cases t with
      | nil => exact ⟨⟨.nil, trivial⟩, fun f t e x hx => (by cases e; cases hx), by simp⟩
      | cons b t => rw [hl] at k; simp at k; omega
  · rename_i k
    have h2 : 2 ≤ (sortQ l).length := by omega
    obtain ⟨p, T, q, e1, e2, e3, e4⟩ := hull_head hs h2
    have nd := hull_nodup hs h2
    refine ⟨cv_of_sup nd (hull_sup hs h2), fun f t e x hx => ?_, by rw [e1]; simp⟩
    rw [e1] at e
    cases e
    have hxl := hull_mem hs hn (q := x) (by rw [e1]; simp [hx])
    cases hll : sortQ l with
    | nil => exact absurd hll hn
    | cons a l' =>
      rw [hll] at e2 hxl hs
      cases e2
      rcases List.mem_cons.mp hxl with z | z
      · rw [e1] at nd
        rw [z] at hx
        exact absurd hx (List.nodup_cons.mp nd).1
      · exact (List.pairwise_cons.mp hs).1 x z
theorem hullQ_self {P : List Q2} (h : Poly P) : hullQ P = P := by
  cases hP : P with
  | nil => exact absurd hP h.ne
  | cons f t =>
    have hl := h.least f t hP
    have hc := h.cv
    rw [hP] at hc
    cases t with
    | nil => rfl
    | cons b t =>
      have hs := sortQ_sorted (f :: b :: t)
      have h2 : 2 ≤ (sortQ (f :: b :: t)).length := by
        have m1 : f ∈ sortQ (f :: b :: t) := sortQ_mem.mpr (by simp)
        have m2 : b ∈ sortQ (f :: b :: t) := sortQ_mem.mpr (by simp)
        have hne : f ≠ b := ne_of_lt2 (hl b (by simp))
        cases hll : sortQ (f :: b :: t) with
        | nil => rw [hll] at m1; cases m1
        | cons x l' =>
          cases l' with
          | nil =>
            rw [hll] at m1 m2
            exact absurd ((List.mem_singleton.mp m1).trans (List.mem_singleton.mp m2).symm) hne
          | cons y l' => simp
      unfold hullQ
      rw [if_neg (by omega)]
      exact hull_unique hs (fun x => sortQ_mem) hc h2 rfl hl
end Pl

/-! PR7: fractions and points as the program tells them. -/
namespace Pl
open PySem (PyData Str)
theorem rpos_int {w : Int} (h : 0 < w) : (0 : Rat) < (w : Rat) := by
  have := Rat.intCast_lt_intCast (a := 0) (b := w)
  exact this.mpr h
theorem rne_int {w : Int} (h : w ≠ 0) : (w : Rat) ≠ 0 := fun e => h (Rat.intCast_inj.mp e)
theorem rne_pos {w : Int} (h : 0 < w) : (w : Rat) ≠ 0 := rne_int (by omega)
/-- equal fractions, equal normal forms -/
theorem n3_cross {x y w x' y' w' : Int} (h : 0 < w) (h' : 0 < w') (ex : x * w' = x' * w) (ey : y * w' = y' * w) : nx3 x y w = nx3 x' y' w' ∧ ny3 x y w = ny3 x' y' w' ∧ nw3 x y w = nw3 x' y' w' := by
  obtain ⟨a1, a2, a3⟩ := n3_scale (k := w') (x := x) (y := y) (w := w) h' (Int.ne_of_gt h)
  obtain ⟨b1, b2, b3⟩ := n3_scale (k := w) (x := x') (y := y') (w := w') h (Int.ne_of_gt h')
  rw [show w' * x = w * x' by rw [Int.mul_comm, ex, Int.mul_comm], show w' * y = w * y' by rw [Int.mul_comm, ey, Int.mul_comm], show w' * w = w * w' by rw [Int.mul_comm]] at a1 a2 a3
  exact ⟨a1.symm.trans b1, a2.symm.trans b2, a3.symm.trans b3⟩
theorem n2_cross {x w x' w' : Int} (h : 0 < w) (h' : 0 < w') (ex : x * w' = x' * w) : n1 x w = n1 x' w' ∧ n2 x w = n2 x' w' := by
  have sc : ∀ {k x w : Int}, 0 < k → 0 < w → n1 (k * x) (k * w) = n1 x w ∧ n2 (k * x) (k * w) = n2 x w := fun {k x w} hk hw => by
    obtain ⟨h1, h2⟩ := n2_eq (x := x) (Int.ne_of_gt hw)
    have hp := g2_pos (x := x) (Int.ne_of_gt hw)
    have e : g2 (k * x) (k * w) = k * g2 x w := by rw [g2_mul, Int.natAbs_of_nonneg (Int.le_of_lt hk)]
    have hkp : k * g2 x w ≠ 0 := Int.ne_of_gt (Int.mul_pos hk hp)
    unfold n1 n2
    rw [e]
    constructor
    · show Int.fdiv (k * x) (k * g2 x w) = n1 x w
      conv => lhs; lhs; rw [h1, ← Int.mul_assoc]
      exact fdiv_mul hkp
    · show Int.fdiv (k * w) (k * g2 x w) = n2 x w
      conv => lhs; lhs; rw [h2, ← Int.mul_assoc]
      exact fdiv_mul hkp
  obtain ⟨a1, a2⟩ := sc (k := w') (x := x) h' h
  obtain ⟨b1, b2⟩ := sc (k := w) (x := x') h h'
  rw [show w' * x = w * x' by rw [Int.mul_comm, ex, Int.mul_comm], show w' * w = w * w' by rw [Int.mul_comm]] at a1 a2
  exact ⟨a1.symm.trans b1, a2.symm.trans b2⟩
/-! ### fractions -/
abbrev fr (q : Rat) : D := T2 q.num q.den
theorem den_pos (q : Rat) : (0 : Int) < q.den := by have := q.den_pos; omega
theorem num_den (q : Rat) : (q.num : Rat) = q * (q.den : Int) := by
  have h := Rat.num_divInt_den q
  rw [Rat.divInt_eq_div] at h
  have := rne_pos (den_pos q)
  grind
theorem n2_rat {x y : Int} (h : 0 < y) : n1 x y = ((x : Rat) / (y : Rat)).num ∧ n2 x y = (((x : Rat) / (y : Rat)).den : Int) := by
  generalize hq : (x : Rat) / (y : Rat) = q
  have hd := den_pos q
  have e := num_den q
  have hy := rne_pos h
  have hr : g2 q.num q.den = 1 := by
    unfold g2
    have := q.reduced
    rw [Nat.Coprime] at this
    show ((Nat.gcd q.num.natAbs q.den : Nat) : Int) = 1
    rw [this]; rfl
  have ex : x * (q.den : Int) = q.num * y := by
    have : ((x * (q.den : Int) : Int) : Rat) = ((q.num * y : Int) : Rat) := by
      rw [Rat.intCast_mul, Rat.intCast_mul, e, ← hq]
      grind
    exact Rat.intCast_inj.mp this
  obtain ⟨a, b⟩ := n2_cross h hd ex
  rw [a, b]
  unfold n1 n2
  rw [hr]
  simp
/-- what a fraction of whole numbers comes to -/
theorem nv2_fr {x y : Int} {q : Rat} (h : 0 < y) (e : (x : Rat) = q * (y : Rat)) : nv2 x y = fr q := by
  have hy := rne_pos h
  have : q = (x : Rat) / (y : Rat) := by grind
  obtain ⟨a, b⟩ := n2_rat (x := x) h
  unfold fr nv2
  rw [a, b, ← this]
abbrev SzF (k : Nat) (q : Rat) : Prop := Fr k q.num q.den
theorem szF_of {k : Nat} {x y : Int} {q : Rat} (h : 0 < y) (e : (x : Rat) = q * (y : Rat)) (sx : Sm k x) (sy : Sm k y) : SzF k q := by
  have hy := rne_pos h
  have : q = (x : Rat) / (y : Rat) := by grind
  obtain ⟨a, b⟩ := n2_rat (x := x) h
  rw [this, SzF, ← a, ← b]
  exact fr_n h sx sy
/-! ### points -/
def X (p : Q2) : Int := nx3 (p.1.num * p.2.den) (p.2.num * p.1.den) (p.1.den * p.2.den)
def Y (p : Q2) : Int := ny3 (p.1.num * p.2.den) (p.2.num * p.1.den) (p.1.den * p.2.den)
def W (p : Q2) : Int := nw3 (p.1.num * p.2.den) (p.2.num * p.1.den) (p.1.den * p.2.den)
abbrev pt (p : Q2) : D := T3 (X p) (Y p) (W p)
theorem den2_pos (p : Q2) : (0 : Int) < (p.1.den : Int) * p.2.den := Int.mul_pos (den_pos _) (den_pos _)
theorem W_pos (p : Q2) : 0 < W p := nw3_pos (den2_pos p)
theorem pt_red (p : Q2) : g3 (X p) (Y p) (W p) = 1 := g3_n (Int.ne_of_gt (den2_pos p))
theorem pt_val (p : Q2) : (X p : Rat) = p.1 * (W p : Rat) ∧ (Y p : Rat) = p.2 * (W p : Rat) := by
  obtain ⟨e1, e2, e3⟩ := n3_eq (x := p.1.num * p.2.den) (y := p.2.num * p.1.den) (w := p.1.den * p.2.den) (Int.ne_of_gt (den2_pos p))
  have hg := g3_pos (x := p.1.num * p.2.den) (y := p.2.num * p.1.den) (w := p.1.den * p.2.den) (Int.ne_of_gt (den2_pos p))
  have hg' := rne_pos hg
  have r1 := congrArg (fun i : Int => (i : Rat)) e1
  have r2 := congrArg (fun i : Int => (i : Rat)) e2
  have r3 := congrArg (fun i : Int => (i : Rat)) e3
  simp only [Rat.intCast_mul] at r1 r2 r3
  have n1 := num_den p.1
  have n2 := num_den p.2
  have d1 := rne_pos (den_pos p.1)
  have d2 := rne_pos (den_pos p.2)
  unfold X Y W
  rw [n1] at r1
  rw [n2] at r2
  constructor
  · have : (g3 (p.1.num * p.2.den) (p.2.num * p.1.den) (p.1.den * p.2.den) : Rat) * (nx3 (p.1.num * p.2.den) (p.2.num * p.1.den) (p.1.den * p.2.den) : Rat) = (g3 (p.1.num * p.2.den) (p.2.num * p.1.den) (p.1.den * p.2.den) : Rat) * (p.1 * (nw3 (p.1.num * p.2.den) (p.2.num * p.1.den) (p.1.den * p.2.den) : Rat)) := by
      rw [← r1]; grind
    grind
  · have : (g3 (p.1.num * p.2.den) (p.2.num * p.1.den) (p.1.den * p.2.den) : Rat) * (ny3 (p.1.num * p.2.den) (p.2.num * p.1.den) (p.1.den * p.2.den) : Rat) = (g3 (p.1.num * p.2.den) (p.2.num * p.1.den) (p.1.den * p.2.den) : Rat) * (p.2 * (nw3 (p.1.num * p.2.den) (p.2.num * p.1.den) (p.1.den * p.2.den) : Rat)) := by
      rw [← r2]; grind
    grind
/-- whole numbers that tell a point -/
theorem n3_pt {x y w : Int} {p : Q2} (h : 0 < w) (ex : (x : Rat) = p.1 * (w : Rat)) (ey : (y : Rat) = p.2 * (w : Rat)) : nx3 x y w = X p ∧ ny3 x y w = Y p ∧ nw3 x y w = W p := by
  obtain ⟨v1, v2⟩ := pt_val p
  have c1 : x * W p = X p * w := by
    have : ((x * W p : Int) : Rat) = ((X p * w : Int) : Rat) := by rw [Rat.intCast_mul, Rat.intCast_mul, ex, v1]; grind
    exact Rat.intCast_inj.mp this
  have c2 : y * W p = Y p * w := by
    have : ((y * W p : Int) : Rat) = ((Y p * w : Int) : Rat) := by rw [Rat.intCast_mul, Rat.intCast_mul, ey, v2]; grind
    exact Rat.intCast_inj.mp this
  obtain ⟨a, b, c⟩ := n3_cross h (W_pos p) c1 c2
  obtain ⟨d, e, f⟩ := n3_self (pt_red p)
  rw [a, b, c, d, e, f]
  exact ⟨rfl, rfl, rfl⟩
theorem nv3_pt {x y w : Int} {p : Q2} (h : 0 < w) (ex : (x : Rat) = p.1 * (w : Rat)) (ey : (y : Rat) = p.2 * (w : Rat)) : nv3 x y w = pt p := by
  obtain ⟨a, b, c⟩ := n3_pt h ex ey
  unfold pt nv3
  rw [a, b, c]
abbrev SzP (k : Nat) (p : Q2) : Prop := Pt k (X p) (Y p) (W p)
theorem szP_of {k : Nat} {x y w : Int} {p : Q2} (h : 0 < w) (ex : (x : Rat) = p.1 * (w : Rat)) (ey : (y : Rat) = p.2 * (w : Rat)) (sx : Sm k x) (sy : Sm k y) (sw : Sm k w) : SzP k p := by
  obtain ⟨a, b, c⟩ := n3_pt h ex ey
  rw [SzP, ← a, ← b, ← c]
  exact pt_n h sx sy sw
theorem Pt.mono {j k : Nat} {x y w : Int} (h : Pt j x y w) (q : j ≤ k) : Pt k x y w := ⟨h.pos, h.red, h.x.mono q, h.y.mono q, h.w.mono q⟩
theorem Fr.mono {j k : Nat} {x y : Int} (h : Fr j x y) (q : j ≤ k) : Fr k x y := ⟨h.pos, h.red, h.x.mono q, h.y.mono q⟩
theorem pt_inj {p q : Q2} (h : pt p = pt q) : p = q := by
  simp only [pt, T3, PyData.tuple.injEq, List.cons.injEq, PyData.int.injEq, and_true] at h
  obtain ⟨h1, h2, h3⟩ := h
  obtain ⟨v1, v2⟩ := pt_val p
  obtain ⟨u1, u2⟩ := pt_val q
  have hw := rne_pos (W_pos q)
  rw [h1, h3] at v1
  rw [h2, h3] at v2
  exact Prod.ext (by grind) (by grind)
/-! ### ways -/
def add2 (a b : Q2) : Q2 := (a.1 + b.1, a.2 + b.2)
def smul (r : Rat) (a : Q2) : Q2 := (r * a.1, r * a.2)
def dot (a b : Q2) : Rat := a.1 * b.1 + a.2 * b.2
def qtr (a : Q2) : Q2 := (-a.2, a.1)
theorem qtr_pt (p : Q2) : X (qtr p) = -Y p ∧ Y (qtr p) = X p ∧ W (qtr p) = W p := by
  obtain ⟨v1, v2⟩ := pt_val p
  obtain ⟨a, b, c⟩ := n3_pt (x := -Y p) (y := X p) (w := W p) (p := qtr p) (W_pos p) (by rw [Rat.intCast_neg, v2]; unfold qtr; grind) (by rw [v1]; rfl)
  have hr : g3 (-Y p) (X p) (W p) = 1 := by
    have := pt_red p
    unfold g3 at this ⊢
    rw [Int.natAbs_neg, Nat.gcd_comm (Y p).natAbs]
    exact this
  obtain ⟨d, e, f⟩ := n3_self hr
  rw [← a, ← b, ← c]
  exact ⟨d, e, f⟩
section
variable {k : Nat} {p q : Q2} {r s : Rat}
theorem add_num (A : SzP k p) (B : SzP k q) : 0 < W p * W q ∧ ((X p * W q + X q * W p : Int) : Rat) = (add2 p q).1 * ((W p * W q : Int) : Rat) ∧ ((Y p * W q + Y q * W p : Int) : Rat) = (add2 p q).2 * ((W p * W q : Int) : Rat) ∧
    Sm (k + k + 1) (X p * W q + X q * W p) ∧ Sm (k + k + 1) (Y p * W q + Y q * W p) ∧ Sm (k + k + 1) (W p * W q) := by
  obtain ⟨v1, v2⟩ := pt_val p
  obtain ⟨u1, u2⟩ := pt_val q
  refine ⟨Int.mul_pos A.pos B.pos, ?_, ?_, (Sm.c A.x B.w B.x A.w (Nat.le_refl _)).1, (Sm.c A.y B.w B.y A.w (Nat.le_refl _)).1, (A.w.mul B.w).mono (Nat.le_succ _)⟩
  · simp only [Rat.intCast_add, Rat.intCast_mul, v1, u1, add2]; grind
  · simp only [Rat.intCast_add, Rat.intCast_mul, v2, u2, add2]; grind
theorem sub_num (A : SzP k p) (B : SzP k q) : 0 < W p * W q ∧ ((X p * W q - X q * W p : Int) : Rat) = (sub2 p q).1 * ((W p * W q : Int) : Rat) ∧ ((Y p * W q - Y q * W p : Int) : Rat) = (sub2 p q).2 * ((W p * W q : Int) : Rat) ∧
    Sm (k + k + 1) (X p * W q - X q * W p) ∧ Sm (k + k + 1) (Y p * W q - Y q * W p) ∧ Sm (k + k + 1) (W p * W q) := by
  obtain ⟨v1, v2⟩ := pt_val p
  obtain ⟨u1, u2⟩ := pt_val q
  refine ⟨Int.mul_pos A.pos B.pos, ?_, ?_, (Sm.c A.x B.w B.x A.w (Nat.le_refl _)).2, (Sm.c A.y B.w B.y A.w (Nat.le_refl _)).2, (A.w.mul B.w).mono (Nat.le_succ _)⟩
  · simp only [Rat.intCast_sub, Rat.intCast_mul, v1, u1, sub2]; grind
  · simp only [Rat.intCast_sub, Rat.intCast_mul, v2, u2, sub2]; grind
theorem smul_num (A : SzP k p) (B : SzF k r) : 0 < W p * r.den ∧ ((X p * r.num : Int) : Rat) = (smul r p).1 * ((W p * r.den : Int) : Rat) ∧ ((Y p * r.num : Int) : Rat) = (smul r p).2 * ((W p * r.den : Int) : Rat) ∧
    Sm (k + k) (X p * r.num) ∧ Sm (k + k) (Y p * r.num) ∧ Sm (k + k) (W p * r.den) := by
  obtain ⟨v1, v2⟩ := pt_val p
  have n := num_den r
  refine ⟨Int.mul_pos A.pos B.pos, ?_, ?_, A.x.mul B.x, A.y.mul B.x, A.w.mul B.y⟩
  · simp only [Rat.intCast_mul, v1, n, smul]; grind
  · simp only [Rat.intCast_mul, v2, n, smul]; grind
theorem crs_num (A : SzP k p) (B : SzP k q) : 0 < W p * W q ∧ ((X p * Y q - Y p * X q : Int) : Rat) = crs p q * ((W p * W q : Int) : Rat) ∧ Sm (k + k + 1) (X p * Y q - Y p * X q) ∧ Sm (k + k + 1) (W p * W q) := by
  obtain ⟨v1, v2⟩ := pt_val p
  obtain ⟨u1, u2⟩ := pt_val q
  refine ⟨Int.mul_pos A.pos B.pos, ?_, (Sm.c A.x B.y A.y B.x (Nat.le_refl _)).2, (A.w.mul B.w).mono (Nat.le_succ _)⟩
  simp only [Rat.intCast_sub, Rat.intCast_mul, v1, u1, v2, u2, crs]; grind
theorem fadd_num (A : SzF k r) (B : SzF k s) : (0 : Int) < r.den * s.den ∧ ((r.num * s.den + s.num * r.den : Int) : Rat) = (r + s) * ((r.den * s.den : Int) : Rat) ∧ Sm (k + k + 1) (r.num * s.den + s.num * r.den) ∧ Sm (k + k + 1) ((r.den : Int) * s.den) := by
  have n := num_den r
  have m := num_den s
  refine ⟨Int.mul_pos A.pos B.pos, ?_, (Sm.c A.x B.y B.x A.y (Nat.le_refl _)).1, (A.y.mul B.y).mono (Nat.le_succ _)⟩
  simp only [Rat.intCast_add, Rat.intCast_mul, n, m]; grind
theorem szP_sub (A : SzP k p) (B : SzP k q) : SzP (k + k + 1) (sub2 p q) := by
  obtain ⟨h, e1, e2, s1, s2, s3⟩ := sub_num A B
  exact szP_of h e1 e2 s1 s2 s3
theorem szP_smul (A : SzP k p) (B : SzF k r) : SzP (k + k) (smul r p) := by
  obtain ⟨h, e1, e2, s1, s2, s3⟩ := smul_num A B
  exact szP_of h e1 e2 s1 s2 s3
theorem szP_qtr (A : SzP k p) : SzP k (qtr p) := by
  obtain ⟨a, b, c⟩ := qtr_pt p
  refine ⟨W_pos _, pt_red _, ?_, ?_, ?_⟩
  · rw [a]; exact A.y.neg
  · rw [b]; exact A.x
  · rw [c]; exact A.w
end
end Pl

/-! PR8: the program's points over one number, chains, hulls. -/
namespace Pl
open PySem (PyData Str)
/-! ### walks -/
theorem compL_of {α : Type} {g h : α → D} {step : D → U → Option (Option D × U)} {u : U} : ∀ {l : List α}, (∀ a ∈ l, step (g a) u = some (some (h a), u)) → compL step (l.map g) u = some (l.map h, u)
  | [], _ => rfl
  | a :: l, hs => by
    rw [List.map_cons]
    unfold compL
    rw [hs a List.mem_cons_self]
    show (compL step (l.map g) u).bind _ = _
    rw [compL_of fun b hb => hs b (List.mem_cons_of_mem _ hb)]
    rfl
theorem compL_filt {α : Type} {g h : α → D} {c : α → Bool} {step : D → U → Option (Option D × U)} {u : U} : ∀ {l : List α}, (∀ a ∈ l, step (g a) u = some (if c a = true then some (h a) else none, u)) → compL step (l.map g) u = some ((l.filter c).map h, u)
  | [], _ => rfl
  | a :: l, hs => by
    rw [List.map_cons]
    unfold compL
    rw [hs a List.mem_cons_self]
    show (compL step (l.map g) u).bind _ = _
    rw [compL_filt fun b hb => hs b (List.mem_cons_of_mem _ hb)]
    cases hc : c a
    · rw [List.filter_cons_of_neg (by simp [hc])]; rfl
    · rw [List.filter_cons_of_pos hc]; rfl
/-! ### chains of things that tell points -/
section
variable {α : Type} (v : α → Q2)
def popG : List α → α → List α
  | b :: a :: s, p => if 0 < ori (v a) (v b) (v p) then b :: a :: s else popG (a :: s) p
  | s, _ => s
def chainG (s : List α) : List α → List α
  | [] => s
  | p :: ps => chainG (p :: popG v s p) ps
theorem popG_map : ∀ (s : List α) (p : α), (popG v s p).map v = popS (s.map v) (v p)
  | [], _ => rfl
  | [b], _ => rfl
  | b :: a :: s, p => by
    have ih := popG_map (a :: s) p
    rw [List.map_cons, List.map_cons, popS, popG]
    split
    · rfl
    · rw [ih]; rfl
theorem chainG_map : ∀ (l s : List α), (chainG v s l).map v = chainS (s.map v) (l.map v)
  | [], _ => rfl
  | p :: l, s => by
    rw [List.map_cons, chainS, chainG, chainG_map l, List.map_cons, popG_map]
theorem popG_sub {x : α} : ∀ {s : List α} {p : α}, x ∈ popG v s p → x ∈ s
  | [], _, h => h
  | [b], _, h => h
  | b :: a :: s, p, h => by
    unfold popG at h
    split at h
    · exact h
    · exact List.mem_cons_of_mem _ (popG_sub h)
/-- from nothing on -/
theorem chainG_nil : ∀ (l : List α), (chainG v [] l).map v = chainL (l.map v)
  | [] => rfl
  | p :: l => by
    show (chainG v (p :: popG v [] p) l).map v = _
    rw [chainG_map]
    rfl
end
abbrev Z2 := Int × Int
def toQ (a : Z2) : Q2 := ((a.1 : Rat), (a.2 : Rat))
abbrev pr (a : Z2) : D := T2 a.1 a.2
theorem toQ_inj {a b : Z2} (h : toQ a = toQ b) : a = b := by
  unfold toQ at h
  exact Prod.ext (Rat.intCast_inj.mp (congrArg Prod.fst h)) (Rat.intCast_inj.mp (congrArg Prod.snd h))
theorem toQ_ori (a b c : Z2) : ori (toQ a) (toQ b) (toQ c) = (((b.1 - a.1) * (c.2 - a.2) - (b.2 - a.2) * (c.1 - a.1) : Int) : Rat) := by
  unfold ori crs sub2 toQ
  simp only [Rat.intCast_sub, Rat.intCast_mul]
theorem toQ_ori_pos (a b c : Z2) : 0 < ori (toQ a) (toQ b) (toQ c) ↔ (b.2 - a.2) * (c.1 - a.1) < (b.1 - a.1) * (c.2 - a.2) := by
  rw [toQ_ori]
  have := Rat.intCast_lt_intCast (a := 0) (b := (b.1 - a.1) * (c.2 - a.2) - (b.2 - a.2) * (c.1 - a.1))
  constructor
  · intro h; have := this.mp h; omega
  · intro h; exact this.mpr (by omega)
structure SmZ (k : Nat) (a : Z2) : Prop where
  x : Sm k a.1
  y : Sm k a.2
theorem c_bends_left {G : Prog} (h : G.T "bends_left" = some p_bends_left) (n : Nat) {a b c : Z2} {k : Nat} (A : SmZ k a) (B : SmZ k b) (C : SmZ k c) (hk : k < 390000) :
    callU G (n + 1) "bends_left" [pr a, pr b, pr c] [] = some (.bool (decide (0 < ori (toQ a) (toQ b) (toQ c))), []) := by
  have m1 : mulOk (b.1 - a.1) (c.2 - a.2) = true := mulOk_of (B.x.sub A.x) (C.y.sub A.y) (by simp; omega) (by simp; omega)
  have m2 : mulOk (b.2 - a.2) (c.1 - a.1) = true := mulOk_of (B.y.sub A.y) (C.x.sub A.x) (by simp; omega) (by simp; omega)
  rw [callU_eq h, show decide (0 < ori (toQ a) (toQ b) (toQ c)) = decide ((b.2 - a.2) * (c.1 - a.1) < (b.1 - a.1) * (c.2 - a.2)) from decide_eq_decide.mpr (toQ_ori_pos a b c)]
  simp [runF, p_bends_left, mkEnv, m1, m2]
theorem atI_rev1 {b : D} {s : List D} : atI ((b :: s).reverse) (-1) = some b := by
  unfold atI
  rw [if_neg (by decide), if_pos (by simp; omega)]
  have : ((-1 : Int) + ((b :: s).reverse.length : Int)).toNat = s.reverse.length := by simp; omega
  rw [this, List.reverse_cons]
  simp
theorem atI_rev2 {a b : D} {s : List D} : atI ((b :: a :: s).reverse) (-2) = some a := by
  unfold atI
  rw [if_neg (by decide), if_pos (by simp; omega)]
  have : ((-2 : Int) + ((b :: a :: s).reverse.length : Int)).toNat = s.reverse.length := by simp; omega
  rw [this, List.reverse_cons, List.reverse_cons]
  simp
@[simp] theorem noListAll_pr (l : List Z2) : noListAll (l.map pr) = true := by
  induction l with
  | nil => rfl
  | cons x l ih => simp [ih]
@[simp] theorem noListAll_pt (l : List Q2) : noListAll (l.map pt) = true := by
  induction l with
  | nil => rfl
  | cons x l ih => simp [ih]
section
variable {C : Ctx} {ff : String → Bool} {c : E} {b : Ss} {env env' : Env} {u u1 u' : U}
theorem while_go (h1 : evalE C c env u = some (.bool true, u1)) (h2 : execSs C ff b env u1 = some (.nx env' u')) : execS C ff (.whil c b) env u = execS C ff (.whil c b) env' u' := by
  simp only [execS]
  conv => lhs; rw [whileO]
  simp only [h1, h2, Option.bind_some, if_true]
theorem while_end (h1 : evalE C c env u = some (.bool false, u1)) : execS C ff (.whil c b) env u = some (.nx env u1) := by
  simp only [execS]
  rw [whileO]
  simp only [h1, Option.bind_some, Bool.false_eq_true, if_false]
end
structure KnC (G : Prog) : Prop where
  bends_left : G.T "bends_left" = some p_bends_left
  bend_chain : G.T "bend_chain" = some p_bend_chain
abbrev bwC : E := .and (.cmp .gt (.bi .len (.cons (.var 1) .nil)) (.lit (.int 1))) (.not (.call "bends_left" (.cons (.idx (.var 1) (.neg (.lit (.int 2)))) (.cons (.idx (.var 1) (.neg (.lit (.int 1)))) (.cons (.var 2) .nil))) [0, 1, 2]))
abbrev bwB : Ss := .cons (.pop 1) .nil
section
variable {G : Prog} (K : KnC G)
include K
theorem bend_while (n : Nat) {k : Nat} (hk : k < 390000) {d : D} {p : Z2} (hp : SmZ k p) : ∀ {s : List Z2}, (∀ x ∈ s, SmZ k x) →
    execS (ctxN G (n + 1)) G.ff (.whil bwC bwB) [.imm d, .own ((s.map pr).reverse), .imm (pr p)] [] = some (.nx [.imm d, .own (((popG toQ s p).map pr).reverse), .imm (pr p)] [])
  | [], _ => while_end (by simp)
  | [b], _ => while_end (by simp)
  | b :: a :: s, hs => by
    have hb := c_bends_left K.bends_left n (a := a) (b := b) (c := p) (hs a (by simp)) (hs b (by simp)) hp hk
    have e1 : atI ((pr b :: pr a :: s.map pr).reverse) (-1) = some (pr b) := atI_rev1
    have e2 : atI ((pr b :: pr a :: s.map pr).reverse) (-2) = some (pr a) := atI_rev2
    rw [List.map_cons, List.map_cons]
    have hlen : (1 : Int) < (((pr b :: pr a :: s.map pr).reverse).length : Int) := by simp; omega
    have hne : ((pr b :: pr a :: s.map pr).reverse).isEmpty = false := by simp
    have hdl : ((pr b :: pr a :: s.map pr).reverse).dropLast = ((a :: s).map pr).reverse := by
      rw [List.reverse_cons (a := pr b), List.dropLast_concat, List.map_cons]
    generalize hL : (pr b :: pr a :: s.map pr).reverse = L at *
    by_cases ho : 0 < ori (toQ a) (toQ b) (toQ p)
    · rw [while_end (u1 := [])]
      · unfold popG
        rw [if_pos ho, List.map_cons, List.map_cons, hL]
      · simp [ctx_fn K.bends_left rfl, hlen, e1, e2, hb, ho]
    · rw [while_go (u1 := []) (env' := [.imm d, .own ((((a :: s)).map pr).reverse), .imm (pr p)]) (u' := []), bend_while n hk hp fun x hx => hs x (List.mem_cons_of_mem _ hx)]
      · conv => rhs; unfold popG
        rw [if_neg ho]
      · simp [ctx_fn K.bends_left rfl, hlen, e1, e2, hb, ho]
      · simp [hne]
        rw [hdl]; simp
theorem bend_for (n : Nat) {k : Nat} (hk : k < 390000) {d : D} : ∀ {l s : List Z2} {x : Slot}, (∀ x ∈ s, SmZ k x) → (∀ x ∈ l, SmZ k x) → s.length + l.length ≤ 100000 → ∃ x',
    forL (fun d env u => (bindT (.one 2) d env).bind fun env' => execSs (ctxN G (n + 1)) G.ff (.cons (.whil bwC bwB) (.cons (.app 1 (.var 2)) .nil)) env' u) (l.map pr) [.imm d, .own ((s.map pr).reverse), x] [] =
      some (.nx [.imm d, .own (((chainG toQ s l).map pr).reverse), x'] [])
  | [], s, x, _, _, _ => ⟨x, rfl⟩
  | p :: l, s, x, hs, hl, hz => by
    have hp := hl p List.mem_cons_self
    have e := bend_while K n hk (d := d) hp hs
    have hpop : ∀ y ∈ p :: popG toQ s p, SmZ k y := fun y hy => by
      rcases List.mem_cons.mp hy with z | z
      · rw [z]; exact hp
      · exact hs y (popG_sub toQ z)
    have hpl : ∀ {s : List Z2}, (popG toQ s p).length ≤ s.length := by
      intro s
      induction s with
      | nil => exact Nat.le_refl _
      | cons b s ih =>
        cases s with
        | nil => exact Nat.le_refl _
        | cons a s =>
          unfold popG
          split
          · exact Nat.le_refl _
          · exact Nat.le_trans ih (by simp)
    have hl2 := hpl (s := s)
    obtain ⟨x', ih⟩ := bend_for n hk (d := d) (l := l) (s := p :: popG toQ s p) (x := .imm (pr p)) hpop (fun y hy => hl y (List.mem_cons_of_mem _ hy)) (by simp at hz ⊢; omega)
    refine ⟨x', ?_⟩
    have hstep : ((bindT (.one 2) (pr p) [.imm d, .own ((s.map pr).reverse), x]).bind fun env' => execSs (ctxN G (n + 1)) G.ff (.cons (.whil bwC bwB) (.cons (.app 1 (.var 2)) .nil)) env' []) =
        some (.nx [.imm d, .own (((p :: popG toQ s p).map pr).reverse), .imm (pr p)] []) := by
      rw [show bindT (.one 2) (pr p) [.imm d, .own ((s.map pr).reverse), x] = some [.imm d, .own ((s.map pr).reverse), .imm (pr p)] from rfl, Option.bind_some]
      refine run_cons e ?_
      have hsz : (popG toQ s p).length ≤ 100000 := by simp at hz; omega
      simp [hsz]
    rw [List.map_cons]
    simp only [forL]
    rw [hstep]
    exact ih
theorem c_bend_chain (n : Nat) {k : Nat} (hk : k < 390000) {l : List Z2} (hl : ∀ x ∈ l, SmZ k x) (hz : l.length ≤ 100000) : callU G (n + 2) "bend_chain" [.list (l.map pr)] [] = some (.list (((chainG toQ [] l).map pr).reverse), []) := by
  obtain ⟨x', e⟩ := bend_for K n hk (d := .list (l.map pr)) (l := l) (s := []) (x := .no) (by simp) hl (by simpa using hz)
  rw [callU_eq K.bend_chain]
  refine runF_of rfl (run_cons (env1 := [.imm (.list (l.map pr)), .own [], .no]) (u1 := []) ?_ (run_cons (run_for (ds := l.map pr) (u1 := []) ?_ (by simpa using hz) e) (run_last ?_)))
  · simp [mkEnv, p_bend_chain]; rfl
  · simp
  · simp
end
end Pl

/-! PR9: the program's hull is the hull. -/
namespace Pl
open PySem (PyData Str)
/-! ### steps of the evaluator, one by one -/
section
variable {C : Ctx} {ff : String → Bool} {env env1 : Env} {u u1 u2 u3 : U}
theorem xe_var {i : Nat} {d : D} (h : getV env i = some d) : evalE C (.var i) env u = some (d, u) := by simp only [evalE, h, Option.bind_some]
theorem xe_int {i : Int} : evalE C (.lit (.int i)) env u = some (.int i, u) := rfl
theorem xes_nil : evalEs C .nil env u = some ([], u) := rfl
theorem xes_cons {e : E} {es : Es} {d : D} {ds : List D} (h : evalE C e env u = some (d, u1)) (k : evalEs C es env u1 = some (ds, u2)) : evalEs C (.cons e es) env u = some (d :: ds, u2) := by simp only [evalEs, h, k, Option.bind_some]
theorem xe_tup {es : Es} {ds : List D} (h : evalEs C es env u = some (ds, u1)) (hz : ds.length ≤ 100000) : evalE C (.tup es) env u = some (.tuple ds, u1) := by
  simp only [evalE, h, Option.bind_some]
  rw [if_pos (show sizeOk ds.length = true from decide_eq_true hz)]
theorem xe_lst {es : Es} {ds : List D} (h : evalEs C es env u = some (ds, u1)) (hz : ds.length ≤ 100000) : evalE C (.lst es) env u = some (.list ds, u1) := by
  simp only [evalE, h, Option.bind_some]
  rw [if_pos (show sizeOk ds.length = true from decide_eq_true hz)]
theorem xe_call {f : String} {es : Es} {perm : List Nat} {rs ds : List D} {d : D} (h : evalEs C es env u = some (rs, u1)) (hp : pick rs perm = some ds) (hf : C.fn f ds = some d) : evalE C (.call f es perm) env u = some (d, u1) := by
  simp only [evalE, h, hp, hf, Option.bind_some]
theorem xe_ucall {f : String} {es : Es} {rs : List D} {d : D} (h : evalEs C es env u = some (rs, u1)) (hf : C.ufn f rs u1 = some (d, u2)) : evalE C (.ucall f es) env u = some (d, u2) := by
  simp only [evalE, h, hf, Option.bind_some]
theorem xe_bi {b : BI} {es : Es} {rs : List D} {d : D} (h : evalEs C es env u = some (rs, u1)) (hf : biV b rs = some d) : evalE C (.bi b es) env u = some (d, u1) := by
  simp only [evalE, h, hf, Option.bind_some]
theorem xe_bin {o : BOp} {a b : E} {x y d : D} (h : evalE C a env u = some (x, u1)) (k : evalE C b env u1 = some (y, u2)) (hd : binV o x y = some d) : evalE C (.bin o a b) env u = some (d, u2) := by
  simp only [evalE, h, k, hd, Option.bind_some]
theorem xe_cmp {o : COp} {a b : E} {x y : D} {d : Bool} (h : evalE C a env u = some (x, u1)) (k : evalE C b env u1 = some (y, u2)) (hd : cmpV o x y = some d) : evalE C (.cmp o a b) env u = some (.bool d, u2) := by
  simp only [evalE, h, k, hd, Option.bind_some]
theorem xe_not {a : E} {b : Bool} (h : evalE C a env u = some (.bool b, u1)) : evalE C (.not a) env u = some (.bool (!b), u1) := by
  simp only [evalE, h, Option.bind_some]
theorem xe_and_t {a b : E} {d : Bool} (h : evalE C a env u = some (.bool true, u1)) (k : evalE C b env u1 = some (.bool d, u2)) : evalE C (.and a b) env u = some (.bool d, u2) := by
  simp only [evalE, h, k, Option.bind_some, if_true]
theorem xe_and_f {a b : E} (h : evalE C a env u = some (.bool false, u1)) : evalE C (.and a b) env u = some (.bool false, u1) := by
  simp only [evalE, h, Option.bind_some, Bool.false_eq_true, if_false]
theorem xe_or_t {a b : E} (h : evalE C a env u = some (.bool true, u1)) : evalE C (.or a b) env u = some (.bool true, u1) := by
  simp only [evalE, h, Option.bind_some, if_true]
theorem xe_or_f {a b : E} {d : Bool} (h : evalE C a env u = some (.bool false, u1)) (k : evalE C b env u1 = some (.bool d, u2)) : evalE C (.or a b) env u = some (.bool d, u2) := by
  simp only [evalE, h, k, Option.bind_some, Bool.false_eq_true, if_false]
theorem xe_ite_t {c a b : E} {r : Option (D × U)} (h : evalE C c env u = some (.bool true, u1)) (k : evalE C a env u1 = r) : evalE C (.ite c a b) env u = r := by
  simp only [evalE, h, Option.bind_some, if_true]; exact k
theorem xe_ite_f {c a b : E} {r : Option (D × U)} (h : evalE C c env u = some (.bool false, u1)) (k : evalE C b env u1 = r) : evalE C (.ite c a b) env u = r := by
  simp only [evalE, h, Option.bind_some, Bool.false_eq_true, if_false]; exact k
theorem xe_idx {a i : E} {x y d : D} (h : evalE C a env u = some (x, u1)) (k : evalE C i env u1 = some (y, u2)) (hd : idxV x y = some d) : evalE C (.idx a i) env u = some (d, u2) := by
  simp only [evalE, h, k, hd, Option.bind_some]
theorem xe_sli {a : E} {lo hi : Eo} {x d : D} {i j : Option Int} (h : evalE C a env u = some (x, u1)) (k : evalEo C lo env u1 = some (i, u2)) (m : evalEo C hi env u2 = some (j, u3)) (hd : sliV x i j = some d) : evalE C (.sli a lo hi) env u = some (d, u3) := by
  simp only [evalE, h, k, m, hd, Option.bind_some]
theorem xo_no : evalEo C .no env u = some (none, u) := rfl
theorem xo_int {i : Int} : evalEo C (.yes (.lit (.int i))) env u = some (some i, u) := rfl
theorem xo_neg {i : Int} : evalEo C (.yes (.neg (.lit (.int i)))) env u = some (some (-i), u) := rfl
theorem xe_rev_l {a : E} {xs : List D} (h : evalE C a env u = some (.list xs, u1)) : evalE C (.rev a) env u = some (.list xs.reverse, u1) := by
  simp only [evalE, h, Option.bind_some]
theorem xe_rev_t {a : E} {xs : List D} (h : evalE C a env u = some (.tuple xs, u1)) : evalE C (.rev a) env u = some (.tuple xs.reverse, u1) := by
  simp only [evalE, h, Option.bind_some]
theorem xi_seq {e : E} {d : D} {xs : List D} (h : evalE C e env u = some (d, u1)) (k : items d = some xs) : evalI C (.seq e) env u = some (xs, u1) := by
  simp only [evalI, h, k, Option.bind_some]
theorem xi_range1 {e : E} {j : Int} (h : evalE C e env u = some (.int j, u1)) (k : intOk j = true) : evalI C (.range1 e) env u = some (rangeL 0 j, u1) := by
  simp only [evalI, h, Option.bind_some, k, if_true]
theorem xs_ret {e : E} {d : D} (h : evalE C e env u = some (d, u1)) : execS C ff (.ret e) env u = some (.rt d u1) := by simp only [execS, h, Option.bind_some]
theorem xs_set {i : Nat} {e : E} {d : D} (h : evalE C e env u = some (d, u1)) (ha : after ff env e d = env) : execS C ff (.set i e) env u = some (.nx (env.set i (slotOf ff e d)) u1) := by
  simp only [execS, h, Option.bind_some, ha]
theorem xs_ite_t {c : E} {a b : Ss} {r : Option O} (h : evalE C c env u = some (.bool true, u1)) (k : execSs C ff a env u1 = r) : execS C ff (.ite c a b) env u = r := by
  simp only [execS, h, Option.bind_some, if_true]; exact k
theorem xs_ite_f {c : E} {a b : Ss} {r : Option O} (h : evalE C c env u = some (.bool false, u1)) (k : execSs C ff b env u1 = r) : execS C ff (.ite c a b) env u = r := by
  simp only [execS, h, Option.bind_some, Bool.false_eq_true, if_false]; exact k
theorem xs_drop {e : E} {d : D} (h : evalE C e env u = some (d, u1)) : execS C ff (.drop e) env u = some (.nx env u1) := by simp only [execS, h, Option.bind_some]
theorem xss_nil : execSs C ff .nil env u = some (.nx env u) := rfl
theorem xss_go {s : S} {ss : Ss} {o : Option O} (h : execS C ff s env u = some (.nx env1 u1)) (k : execSs C ff ss env1 u1 = o) : execSs C ff (.cons s ss) env u = o := run_cons h k
theorem xc_no : evalC C .no env u = some (true, u) := rfl
end
def mulOf (a b : Int) : Int := Int.fdiv a (g2 a b) * b
theorem mulOf_ok {a b : Int} (ha : 0 < a) (hb : 0 < b) : 0 < mulOf a b ∧ a ∣ mulOf a b ∧ b ∣ mulOf a b := by
  obtain ⟨⟨x, hx⟩, ⟨y, hy⟩⟩ := g2_dvd a b
  have hg := g2_pos (x := a) (y := b) (by omega)
  have e : Int.fdiv a (g2 a b) = x := by
    conv => lhs; lhs; rw [hx]
    exact fdiv_mul (Int.ne_of_gt hg)
  unfold mulOf
  rw [e]
  have hx0 : 0 < x := pos_of ha hg hx
  refine ⟨Int.mul_pos hx0 hb, ⟨y, ?_⟩, ⟨x, by rw [Int.mul_comm]⟩⟩
  conv => lhs; rw [hy]
  conv => rhs; lhs; rw [hx]
  grind
theorem mulOf_sm {a b : Int} {j k : Nat} (ha : 0 < a) (sa : Sm j a) (sb : Sm k b) : Sm (j + k) (mulOf a b) := by
  unfold mulOf
  refine Sm.mul ?_ sb
  obtain ⟨⟨x, hx⟩, _⟩ := g2_dvd a b
  have hg : g2 a b ≠ 0 := fun z => by rw [z] at hx; simp at hx; omega
  have e : Int.fdiv a (g2 a b) = x := by
    conv => lhs; lhs; rw [hx]
    exact fdiv_mul hg
  rw [e]
  exact sa.ofDvd hx hg
def gridU (u : Int) (l : List Q2) : Int := l.foldl (fun u p => mulOf u (W p)) u
theorem gridU_ok : ∀ {l : List Q2} {u : Int}, 0 < u → 0 < gridU u l ∧ u ∣ gridU u l ∧ ∀ p ∈ l, W p ∣ gridU u l
  | [], u, h => ⟨h, ⟨1, by simp [gridU]⟩, by simp⟩
  | p :: l, u, h => by
    obtain ⟨m1, m2, m3⟩ := mulOf_ok h (W_pos p)
    obtain ⟨a, b, c⟩ := gridU_ok (l := l) m1
    refine ⟨a, Int.dvd_trans m2 b, fun q hq => ?_⟩
    rcases List.mem_cons.mp hq with z | z
    · rw [z]; exact Int.dvd_trans m3 b
    · exact c q z
theorem gridU_sm {k : Nat} : ∀ {l : List Q2} {u : Int} {j : Nat}, 0 < u → Sm j u → (∀ p ∈ l, SzP k p) → Sm (j + l.length * k) (gridU u l)
  | [], u, j, _, h, _ => by simpa [gridU] using h
  | p :: l, u, j, h0, h, hs => by
    have := gridU_sm (l := l) (mulOf_ok h0 (W_pos p)).1 (mulOf_sm h0 h (hs p List.mem_cons_self).w) fun q hq => hs q (List.mem_cons_of_mem _ hq)
    refine this.mono ?_
    rw [List.length_cons, Nat.add_mul]
    omega
def gr (u : Int) (p : Q2) : Z2 := (X p * Int.fdiv u (W p), Y p * Int.fdiv u (W p))
theorem gr_val {u : Int} {p : Q2} (h : W p ∣ u) : toQ (gr u p) = smul (u : Rat) p := by
  obtain ⟨z, hz⟩ := h
  have e : Int.fdiv u (W p) = z := by rw [hz]; exact fdiv_mul (Int.ne_of_gt (W_pos p))
  obtain ⟨v1, v2⟩ := pt_val p
  have hu : (u : Rat) = (W p : Rat) * (z : Rat) := by rw [hz, Rat.intCast_mul]
  unfold toQ gr smul
  rw [e]
  simp only [Rat.intCast_mul, v1, v2, hu]
  exact Prod.ext (by grind) (by grind)
theorem gr_sm {u : Int} {p : Q2} {j k : Nat} (h : W p ∣ u) (hu : Sm j u) (hp : SzP k p) : SmZ (k + j) (gr u p) := by
  obtain ⟨z, hz⟩ := h
  have e : Int.fdiv u (W p) = z := by rw [hz]; exact fdiv_mul (Int.ne_of_gt (W_pos p))
  have sz : Sm j z := hu.ofDvd hz (Int.ne_of_gt (W_pos p))
  unfold gr
  rw [e]
  exact ⟨hp.x.mul sz, hp.y.mul sz⟩
/-! ### lengthening keeps what a hull looks at -/
theorem rne0 {u : Rat} (h : 0 < u) : u ≠ 0 := fun e => by rw [e] at h; exact Rat.lt_irrefl h
theorem rcancel {u x y : Rat} (hu : u ≠ 0) (h : u * x = u * y) : x = y := by grind
theorem ori_smul (u : Rat) (a b c : Q2) : ori (smul u a) (smul u b) (smul u c) = u * u * ori a b c := by
  unfold ori crs sub2 smul
  simp only
  grind
theorem ori_smul_pos {u : Rat} (hu : 0 < u) (a b c : Q2) : 0 < ori (smul u a) (smul u b) (smul u c) ↔ 0 < ori a b c := by
  rw [ori_smul]
  have h2 := Rat.mul_pos hu hu
  constructor
  · intro h
    rw [Rat.mul_comm] at h
    exact rpos_of h2 h
  · exact fun h => Rat.mul_pos h2 h
theorem lt_smul {u : Rat} (hu : 0 < u) {a b : Q2} : Lt2 (smul u a) (smul u b) ↔ Lt2 a b := by
  rw [Lt2.iff, Lt2.iff]
  unfold smul
  simp only
  have e1 : ∀ x y : Rat, u * x < u * y ↔ x < y := fun x y => Rat.mul_lt_mul_left hu
  have e2 : ∀ x y : Rat, u * x = u * y ↔ x = y := fun x y => ⟨fun h => rcancel (rne0 hu) h, fun h => by rw [h]⟩
  rw [e1, e1, e2]
theorem smul_inj {u : Rat} (hu : 0 < u) {a b : Q2} (h : smul u a = smul u b) : a = b := by
  have h1 := congrArg Prod.fst h
  have h2 := congrArg Prod.snd h
  simp only [smul] at h1 h2
  exact Prod.ext (rcancel (rne0 hu) h1) (rcancel (rne0 hu) h2)
theorem popS_smul {u : Rat} (hu : 0 < u) : ∀ (s : List Q2) (p : Q2), popS (s.map (smul u)) (smul u p) = (popS s p).map (smul u)
  | [], _ => rfl
  | [b], _ => rfl
  | b :: a :: s, p => by
    have ih := popS_smul hu (a :: s) p
    rw [List.map_cons, List.map_cons, popS, popS]
    by_cases h : 0 < ori a b p
    · rw [if_pos h, if_pos ((ori_smul_pos hu a b p).mpr h)]; rfl
    · rw [if_neg h, if_neg (fun q => h ((ori_smul_pos hu a b p).mp q)), ← List.map_cons]; exact ih
theorem chainS_smul {u : Rat} (hu : 0 < u) : ∀ (l s : List Q2), chainS (s.map (smul u)) (l.map (smul u)) = (chainS s l).map (smul u)
  | [], _ => rfl
  | p :: l, s => by
    rw [List.map_cons, chainS, chainS, popS_smul hu, ← List.map_cons, chainS_smul hu l]
theorem chainL_smul {u : Rat} (hu : 0 < u) (l : List Q2) : chainL (l.map (smul u)) = (chainL l).map (smul u) := by
  cases l with
  | nil => rfl
  | cons p ps => exact chainS_smul hu ps [p]
/-! ### sorted pairs -/
theorem ltP_toQ {a b : Z2} : ltP a b = true ↔ Lt2 (toQ a) (toQ b) := by
  rw [Lt2.iff]
  unfold ltP toQ
  simp only [decide_eq_true_eq, Rat.intCast_lt_intCast, Rat.intCast_inj]
theorem insP_toQ (p : Z2) : ∀ (l : List Z2), (insP p l).map toQ = insQ (toQ p) (l.map toQ)
  | [] => rfl
  | q :: l => by
    rw [List.map_cons, insP, insQ]
    by_cases h : ltP p q = true
    · rw [if_pos h, if_pos (ltP_toQ.mp h)]; rfl
    · rw [if_neg h, if_neg (fun z => h (ltP_toQ.mpr z))]
      by_cases k : p = q
      · rw [if_pos k, if_pos (by rw [k])]; rfl
      · rw [if_neg k, if_neg (fun z => k (toQ_inj z)), List.map_cons, insP_toQ p l]
theorem sortP_toQ : ∀ (l : List Z2), (sortP l).map toQ = sortQ (l.map toQ)
  | [] => rfl
  | p :: l => by
    show (insP p (sortP l)).map toQ = insQ (toQ p) (sortQ (l.map toQ))
    rw [insP_toQ, sortP_toQ l]
theorem insQ_smul {u : Rat} (hu : 0 < u) (p : Q2) : ∀ (l : List Q2), insQ (smul u p) (l.map (smul u)) = (insQ p l).map (smul u)
  | [] => rfl
  | q :: l => by
    rw [List.map_cons, insQ, insQ]
    by_cases h : Lt2 p q
    · rw [if_pos h, if_pos ((lt_smul hu).mpr h)]; rfl
    · rw [if_neg h, if_neg (fun z => h ((lt_smul hu).mp z))]
      by_cases k : p = q
      · rw [if_pos k, if_pos (by rw [k])]; rfl
      · rw [if_neg k, if_neg (fun z => k (smul_inj hu z)), List.map_cons, insQ_smul hu p l]
theorem sortQ_smul {u : Rat} (hu : 0 < u) : ∀ (l : List Q2), sortQ (l.map (smul u)) = (sortQ l).map (smul u)
  | [] => rfl
  | p :: l => by
    show insQ (smul u p) (sortQ (l.map (smul u))) = (insQ p (sortQ l)).map (smul u)
    rw [sortQ_smul hu l, insQ_smul hu]
theorem hullQ_smul {u : Rat} (hu : 0 < u) (l : List Q2) : hullQ (l.map (smul u)) = (hullQ l).map (smul u) := by
  unfold hullQ hullL
  rw [sortQ_smul hu, List.length_map]
  split
  · rfl
  · rw [← List.map_reverse, chainL_smul hu, chainL_smul hu, List.map_append, ← List.map_reverse, ← List.map_reverse, List.map_dropLast, List.map_dropLast]
/-- the program's hull, of pairs over one number -/
def hullZ (ps : List Z2) : List Z2 := if (sortP ps).length = 1 then sortP ps else (chainG toQ [] (sortP ps)).reverse.dropLast ++ (chainG toQ [] (sortP ps).reverse).reverse.dropLast
theorem hullZ_toQ (ps : List Z2) : (hullZ ps).map toQ = hullQ (ps.map toQ) := by
  unfold hullZ hullQ
  rw [← sortP_toQ, List.length_map]
  cases hs : sortP ps with
  | nil => rfl
  | cons a t =>
    cases t with
    | nil => rfl
    | cons b t =>
      rw [if_neg (by simp), if_neg (by simp), List.map_append, List.map_dropLast, List.map_dropLast, List.map_reverse, List.map_reverse, chainG_nil, chainG_nil, List.map_reverse]
      rfl
theorem hull_len {l : List Q2} : (hullQ l).length ≤ l.length := by
  by_cases h : l = []
  · rw [h]; exact Nat.le_refl _
  · exact (hullQ_poly h).nodup.length_le_of_subset fun x hx => hullQ_mem hx
theorem items_or {d : D} {xs : List D} (h : items d = some xs) : d = .list xs ∨ d = .tuple xs := by
  cases d <;> simp [items] at h
  · exact .inl (by rw [h])
  · exact .inr (by rw [h])
theorem sortP_in {z : Z2} {l : List Z2} (h : z ∈ sortP l) : z ∈ l := by
  have h1 : toQ z ∈ (sortP l).map toQ := List.mem_map.mpr ⟨z, h, rfl⟩
  rw [sortP_toQ] at h1
  obtain ⟨y, hy, e⟩ := List.mem_map.mp (sortQ_mem.mp h1)
  rw [← toQ_inj e]
  exact hy
theorem sortQ_len (m : List Q2) : (sortQ m).length ≤ m.length := List.Nodup.length_le_of_subset ((sortQ_sorted m).imp fun {a b} h => ne_of_lt2 h) fun x hx => sortQ_mem.mp hx
structure KnH (G : Prog) : Prop extends KnVb G, KnC G where
  multiple_of : G.T "multiple_of" = some p_multiple_of
  on_grid : G.T "on_grid" = some p_on_grid
  hull : G.T "hull" = some p_hull
section
variable {G : Prog} (K : KnH G)
include K
theorem c_multiple_of (n : Nat) {a b : Int} {j k : Nat} (ha : 0 < a) (hb : 0 < b) (sa : Sm j a) (sb : Sm k b) (hj : j < 300000) (hk : k < 8999) : callU G (n + 2) "multiple_of" [.int a, .int b] [] = some (.int (mulOf a b), []) := by
  have e := c_divisor_of2 K.divisor_of n a b
  have d1 : divOk (g2 a b) = true := divOk_of (sm_g2 (Int.ne_of_gt hb) sb) (Int.ne_of_gt (g2_pos (by omega))) hk
  have hg : Sm j (Int.fdiv a (g2 a b)) := by
    obtain ⟨⟨x, hx⟩, _⟩ := g2_dvd a b
    have hg : g2 a b ≠ 0 := Int.ne_of_gt (g2_pos (by omega))
    have e : Int.fdiv a (g2 a b) = x := by
      conv => lhs; lhs; rw [hx]
      exact fdiv_mul hg
    rw [e]
    exact sa.ofDvd hx hg
  have m1 : mulOk (Int.fdiv a (g2 a b)) b = true := mulOk_of hg sb (by omega) (by omega)
  rw [callU_eq K.multiple_of]
  simp [runF, p_multiple_of, mkEnv, ctx_fn K.divisor_of rfl, e, d1, m1, mulOf]
theorem grid_for (n : Nat) {k : Nat} (hk : k < 8999) {d : D} : ∀ {l : List Q2} {u : Int} {j : Nat} {x a b c : Slot}, (∀ p ∈ l, SzP k p) → 0 < u → Sm j u → j + l.length * k < 300000 → ∃ x',
    forL (fun d env u => (bindT (.one 2) d env).bind fun env' => execSs (ctxN G (n + 2)) G.ff (forBody p_on_grid.body) env' u) (l.map pt) [.imm d, .imm (.int u), x, a, b, c] [] = some (.nx [.imm d, .imm (.int (gridU u l)), x', a, b, c] [])
  | [], u, j, x, a, b, c, _, _, _, _ => ⟨x, rfl⟩
  | p :: l, u, j, x, a, b, c, hs, h0, hu, hz => by
    have hp := hs p List.mem_cons_self
    rw [List.length_cons, Nat.add_mul] at hz
    obtain ⟨x', ih⟩ := grid_for n hk (d := d) (l := l) (u := mulOf u (W p)) (j := j + k) (x := .imm (pt p)) (a := a) (b := b) (c := c) (fun q hq => hs q (List.mem_cons_of_mem _ hq)) (mulOf_ok h0 (W_pos p)).1 (mulOf_sm h0 hu hp.w) (by omega)
    refine ⟨x', ?_⟩
    have e := c_multiple_of K n h0 (W_pos p) hu hp.w (by omega) hk
    rw [List.map_cons]
    simp only [forL]
    rw [show ((bindT (.one 2) (pt p) [.imm d, .imm (.int u), x, a, b, c]).bind fun env' => execSs (ctxN G (n + 2)) G.ff (forBody p_on_grid.body) env' []) = some (.nx [.imm d, .imm (.int (mulOf u (W p))), .imm (pt p), a, b, c] []) by
      simp [forBody, p_on_grid, ctx_fn K.multiple_of rfl, e]]
    exact ih
theorem c_on_grid_g (n : Nat) {l : List Q2} {k j : Nat} (hs : ∀ p ∈ l, SzP k p) (hz0 : 1 + l.length * k < 300000) (sU : Sm j (gridU 1 l)) (hk : j < 8900) (hk1 : k < 8900) (hl : l.length ≤ 1000) {d : D} (hd : items d = some (l.map pt)) :
    callU G (n + 3) "on_grid" [d] [] = some (.tuple [.list ((l.map (gr (gridU 1 l))).map pr), .int (gridU 1 l)], []) := by
  have hd' := items_or hd
  by_cases hk0 : l = []
  · subst hk0
    rw [callU_eq K.on_grid]
    rcases hd' with rfl | rfl <;> simp [runF, p_on_grid, mkEnv, gridU]
  have s1 : Sm 1 (1 : Int) := sm_lit (by decide)
  obtain ⟨x', e⟩ := grid_for K n (k := k) (by omega) (d := d) (l := l) (u := 1) (j := 1) (x := .no) (a := .no) (b := .no) (c := .no) hs (by decide) s1 (by omega)
  obtain ⟨g1, g2, g3⟩ := gridU_ok (l := l) (u := 1) (by decide)
  have hz : (l.map pt).length ≤ 100000 := by simp; omega
  have hfz : freeze [Slot.imm d, .imm (.int 1), .no, .no, .no, .no] [0] = [Slot.imm d, .imm (.int 1), .no, .no, .no, .no] := rfl
  rw [callU_eq K.on_grid]
  refine runF_of rfl (run_cons (env1 := [.imm d, .imm (.int 1), .no, .no, .no, .no]) (u1 := []) ?_ (run_cons (run_for (ds := l.map pt) (u1 := []) ?_ hz e) (run_last ?_)))
  · simp [mkEnv, p_on_grid]
  · rcases hd' with rfl | rfl <;> simp
  · have hcomp := eval_comp (C := ctxN G (n + 2)) (elt := (.tup (.cons (.bin .mul (.var 3) (.bin .fdiv (.var 1) (.var 5))) (.cons (.bin .mul (.var 4) (.bin .fdiv (.var 1) (.var 5))) .nil)))) (t := .many [3, 4, 5]) (it := .seq (.var 0)) (cond := .no) (own := [3, 4, 5])
      (env := [.imm d, .imm (.int (gridU 1 l)), x', .no, .no, .no]) (u := []) (u1 := []) (u2 := []) (ds := l.map pt) (rs := l.map fun p => pr (gr (gridU 1 l) p)) (by rcases hd' with rfl | rfl <;> simp) hz
      (compL_of fun p hp => by
        have hp' := hs p hp
        obtain ⟨z, hz⟩ := g3 p hp
        have ez : Int.fdiv (gridU 1 l) (W p) = z := by rw [hz]; exact fdiv_mul (Int.ne_of_gt (W_pos p))
        have sz : Sm j z := sU.ofDvd hz (Int.ne_of_gt (W_pos p))
        have d1 : divOk (W p) = true := divOk_of hp'.w (Int.ne_of_gt (W_pos p)) (by omega)
        have m1 : mulOk (X p) z = true := mulOk_of hp'.x sz (by omega) (by omega)
        have m2 : mulOk (Y p) z = true := mulOk_of hp'.y sz (by omega) (by omega)
        simp [d1, ez, m1, m2, gr])
    refine (xs_ret (xe_tup (xes_cons hcomp (xes_cons (xe_var rfl) xes_nil)) (by simp))).trans ?_
    rw [List.map_map]
    rfl
theorem c_on_grid (n : Nat) {l : List Q2} {k j : Nat} (hs : ∀ p ∈ l, SzP k p) (hj : 1 + l.length * k ≤ j) (hk : j < 8900) (hl : l.length ≤ 1000) {d : D} (hd : items d = some (l.map pt)) :
    callU G (n + 3) "on_grid" [d] [] = some (.tuple [.list ((l.map (gr (gridU 1 l))).map pr), .int (gridU 1 l)], []) := by
  by_cases hk0 : l = []
  · subst hk0
    exact c_on_grid_g K n (k := 0) (j := j) (fun p hp => by cases hp) (by simp) ((sm_lit (by decide) : Sm 1 (1 : Int)).mono (by omega)) hk (by decide) hl hd
  have hk1 : k < 8900 := by
    have : 1 ≤ l.length := List.length_pos_iff.mpr hk0
    have : 1 * k ≤ l.length * k := Nat.mul_le_mul_right _ this
    omega
  exact c_on_grid_g K n hs (by omega) ((gridU_sm (l := l) (j := 1) (by decide) (sm_lit (by decide)) hs).mono (by omega)) hk hk1 hl hd
/-- the program's hull -/
theorem c_hull (n : Nat) {l : List Q2} {k j : Nat} (hs : ∀ p ∈ l, SzP k p) (hj : 1 + l.length * k ≤ j) (hk : j < 8900) (hl : l.length < 64) (hne : l ≠ []) {d : D} (hd : items d = some (l.map pt)) :
    callU G (n + 4) "hull" [d] [] = some (.tuple ((hullQ l).map pt), []) := by
  have e0 := c_on_grid K n hs hj hk (by omega) hd
  have hk1 : k < 8900 := by
    have : 1 ≤ l.length := List.length_pos_iff.mpr hne
    have : 1 * k ≤ l.length * k := Nat.mul_le_mul_right _ this
    omega
  obtain ⟨g1, g2, g3⟩ := gridU_ok (l := l) (u := 1) (by decide)
  have sU : Sm j (gridU 1 l) := (gridU_sm (l := l) (j := 1) (by decide) (sm_lit (by decide)) hs).mono (by omega)
  generalize hU : gridU 1 l = u at e0 g1 g2 g3 sU
  have hps : pairsOf ((l.map (gr u)).map pr) = some (l.map (gr u)) := by
    generalize l.map (gr u) = zs
    induction zs with
    | nil => rfl
    | cons z zs ih => simp [pairsOf, ih]
  have hsz : ∀ z ∈ l.map (gr u), SmZ (k + j) z := fun z hz => by
    obtain ⟨p, hp, rfl⟩ := List.mem_map.mp hz
    exact gr_sm (g3 p hp) sU (hs p hp)
  have hss : ∀ z ∈ sortP (l.map (gr u)), SmZ (k + j) z := fun z hz => hsz z (sortP_in hz)
  have hvals : (l.map (gr u)).map toQ = l.map (smul (u : Rat)) := by
    rw [List.map_map]
    exact List.map_congr_left fun p hp => gr_val (g3 p hp)
  have hlen : (sortP (l.map (gr u))).length ≤ 100000 := by
    have h2 := sortQ_len ((l.map (gr u)).map toQ)
    rw [← sortP_toQ, List.length_map, List.length_map, List.length_map] at h2
    omega
  have e1 := c_bend_chain K.toKnC (n + 1) (k := k + j) (by omega) hss hlen
  have e2 := c_bend_chain K.toKnC (n + 1) (k := k + j) (l := (sortP (l.map (gr u))).reverse) (by omega) (fun z hz => hss z (List.mem_reverse.mp hz)) (by simpa using hlen)
  have u0 := rpos_int g1
  have hfin : (hullZ (l.map (gr u))).map (fun z => pt ((toQ z).1 / u, (toQ z).2 / u)) = (hullQ l).map pt := by
    have h1 := hullZ_toQ (l.map (gr u))
    rw [hvals, hullQ_smul u0] at h1
    have h2 := congrArg (List.map fun q : Q2 => pt (q.1 / u, q.2 / u)) h1
    rw [List.map_map, List.map_map] at h2
    refine h2.trans (List.map_congr_left fun p _ => ?_)
    show pt ((smul u p).1 / u, (smul u p).2 / u) = pt p
    have hu := rne_pos g1
    congr 1
    unfold smul
    exact Prod.ext (by grind) (by grind)
  have ev : ∀ z : Z2, callU G (n + 3) "vector" [.int z.1, .int z.2, .int u] [] = some (pt ((toQ z).1 / u, (toQ z).2 / u), []) := fun z => by
    have hu := rne_pos g1
    rw [c_vector K.toKnVb (n + 1) g1 (dv3 g1 sU (by omega)), nv3_pt (p := ((toQ z).1 / u, (toQ z).2 / u)) g1 (by unfold toQ; grind) (by unfold toQ; grind)]
  have hlz : (hullZ (l.map (gr u))).length ≤ 100000 := by
    have : (hullZ (l.map (gr u))).length = (hullQ ((l.map (gr u)).map toQ)).length := by rw [← hullZ_toQ, List.length_map]
    have h2 := hull_len (l := (l.map (gr u)).map toQ)
    rw [List.length_map, List.length_map] at h2
    omega
  have hcomp := eval_comp (C := ctxN G (n + 3)) (elt := (.call "vector" (.cons (.var 5) (.cons (.var 6) (.cons (.var 2) .nil))) [0, 1, 2])) (t := .many [5, 6]) (it := .seq (.var 4)) (cond := .no) (own := [5, 6])
    (env := [.imm d, .imm (.list ((l.map (gr u)).map pr)), .imm (.int u), .imm (.list ((sortP (l.map (gr u))).map pr)), .imm (.list ((hullZ (l.map (gr u))).map pr)), .no, .no]) (u := []) (u1 := []) (u2 := []) (ds := (hullZ (l.map (gr u))).map pr) (rs := (hullZ (l.map (gr u))).map (fun z => pt ((toQ z).1 / u, (toQ z).2 / u))) (by simp) (by simpa using hlz)
    (compL_of fun z _ => by simp [ctx_fn K.vector rfl, ev z])
  have hl64 : ((l.map (gr u)).map pr).length < 64 := by simpa using hl
  have hne2 : sortP (l.map (gr u)) ≠ [] := fun z => by
    have h1 := sortP_toQ (l.map (gr u))
    rw [z] at h1
    exact sortQ_ne (l := (l.map (gr u)).map toQ) (by simpa using hne) h1.symm
  have hrows : biV .sortedSet [.list ((l.map (gr u)).map pr)] = some (.list ((sortP (l.map (gr u))).map pr)) := by
    simp only [biV]
    rw [if_pos hl64, hps]
    rfl
  rw [callU_eq K.hull]
  refine runF_of rfl (run_cons (env1 := [.imm d, .imm (.list ((l.map (gr u)).map pr)), .imm (.int u), .no, .no, .no, .no]) (u1 := []) ?_ (run_cons (env1 := [.imm d, .imm (.list ((l.map (gr u)).map pr)), .imm (.int u), .own ((sortP (l.map (gr u))).map pr), .no, .no, .no]) (u1 := []) ?_
    (run_cons (env1 := [.imm d, .imm (.list ((l.map (gr u)).map pr)), .imm (.int u), .imm (.list ((sortP (l.map (gr u))).map pr)), .imm (.list ((hullZ (l.map (gr u))).map pr)), .no, .no]) (u1 := []) ?_ (run_last ?_))))
  · have hfz : freeze [Slot.imm d, .no, .no, .no, .no, .no, .no] [0] = [Slot.imm d, .no, .no, .no, .no, .no, .no] := rfl
    simp [mkEnv, p_hull, ctx_fn K.on_grid rfl, e0, hfz]
  · refine (xs_set (xe_bi (xes_cons (xe_var rfl) xes_nil) hrows) ?_).trans ?_
    · exact after_t (by rw [within_list_t rfl]; exact noListAll_pr _)
    · rw [slotOf_list_t rfl]; rfl
  · have hcond : evalE (ctxN G (n + 3)) (.cmp .eq (.bi .len (.cons (.var 3) .nil)) (.lit (.int 1))) [.imm d, .imm (.list ((l.map (gr u)).map pr)), .imm (.int u), .own ((sortP (l.map (gr u))).map pr), .no, .no, .no] [] = some (.bool (decide ((sortP (l.map (gr u))).length = 1)), []) := by
      simp
      omega
    have hz : evalE (ctxN G (n + 3)) (.ite (.cmp .eq (.bi .len (.cons (.var 3) .nil)) (.lit (.int 1))) (.var 3) (.bin .add (.sli (.call "bend_chain" (.cons (.var 3) .nil) [0]) .no (.yes (.neg (.lit (.int 1))))) (.sli (.call "bend_chain" (.cons (.rev (.var 3)) .nil) [0]) .no (.yes (.neg (.lit (.int 1)))))))
        [.imm d, .imm (.list ((l.map (gr u)).map pr)), .imm (.int u), .own ((sortP (l.map (gr u))).map pr), .no, .no, .no] [] = some (.list ((hullZ (l.map (gr u))).map pr), []) := by
      unfold hullZ
      by_cases h1 : (sortP (l.map (gr u))).length = 1
      · rw [if_pos h1]
        rw [decide_eq_true h1] at hcond
        exact xe_ite_t hcond (xe_var rfl)
      · rw [if_neg h1]
        rw [decide_eq_false h1] at hcond
        have drop1 : ∀ L : List D, cut L none (some (-1)) = L.dropLast := fun L => by
          unfold cut sIx
          cases L with
          | nil => rfl
          | cons a L =>
            simp only [List.drop_zero, Nat.sub_zero]
            rw [if_pos (by decide), List.dropLast_eq_take]
            congr 1
            simp
            omega
        refine xe_ite_f hcond (xe_bin (xe_sli (xe_call (xes_cons (xe_var rfl) xes_nil) rfl (d := .list (((chainG toQ [] (sortP (l.map (gr u)))).map pr).reverse)) ?_) xo_no xo_neg (d := .list (((chainG toQ [] (sortP (l.map (gr u)))).map pr).reverse.dropLast)) ?_)
          (xe_sli (xe_call (xes_cons (xe_rev_l (xe_var rfl)) xes_nil) rfl (d := .list (((chainG toQ [] (sortP (l.map (gr u))).reverse).map pr).reverse)) ?_) xo_no xo_neg (d := .list (((chainG toQ [] (sortP (l.map (gr u))).reverse).map pr).reverse.dropLast)) ?_) ?_)
        · rw [ctx_fn K.bend_chain rfl, e1]; rfl
        · simp only [sliV]; rw [drop1]
        · rw [ctx_fn K.bend_chain rfl, ← List.map_reverse, e2]; rfl
        · simp only [sliV]; rw [drop1]
        · simp only [binV]
          rw [if_pos]
          · rw [List.map_append, List.map_dropLast, List.map_dropLast, List.map_reverse, List.map_reverse]
          · have h3 := hlz
            unfold hullZ at h3
            rw [if_neg h1] at h3
            refine decide_eq_true ?_
            rw [List.length_append] at h3
            simpa using h3
    rw [run_set hz, after_f (within_list_f rfl), slotOf_list_f rfl]
    rfl
  · refine (xs_ret (xe_bi (xes_cons hcomp xes_nil) (d := .tuple ((hullQ l).map pt)) ?_)).trans rfl
    simp only [biV]
    rw [hfin]
end
end Pl

/-! PR10: the program's vectors, polygons, areas, middles. -/
namespace Pl
open PySem (PyData Str)
section
variable {G : Prog} (K : KnP G) {k : Nat} {p q : Q2} {r : Rat}
include K
end
section
variable {G : Prog} (K : KnVb G) {k : Nat} {p : Q2} {r : Rat}
include K
theorem q_is_vector (n : Nat) (p : Q2) : callU G (n + 3) "is_vector" [pt p] [] = some (.bool true, []) := c_is_vector K n (W_pos p) (pt_red p)
end
/-! ### rows of points, compared -/
theorem eqv_pt (p q : Q2) : PyData.eqv (pt p) (pt q) = decide (p = q) := by
  have h : PyData.eqv (pt p) (pt q) = decide ([X p, Y p, W p] = [X q, Y q, W q]) := by
    show PyData.eqv (.tuple ([X p, Y p, W p].map .int)) (.tuple ([X q, Y q, W q].map .int)) = _
    rw [PyData.eqv, eqvAll_ints]
  rw [h]
  refine decide_eq_decide.mpr ⟨fun e => pt_inj ?_, fun e => by rw [e]⟩
  simp only [List.cons.injEq, and_true] at e
  unfold pt T3
  rw [e.1, e.2.1, e.2.2]
theorem eqvAll_pt : ∀ (l m : List Q2), PyData.eqvAll (l.map pt) (m.map pt) = decide (l = m)
  | [], [] => rfl
  | [], q :: m => by simp [PyData.eqvAll]
  | p :: l, [] => by simp [PyData.eqvAll]
  | p :: l, q :: m => by
    rw [List.map_cons, List.map_cons, PyData.eqvAll, eqvAll_pt l m, eqv_pt]
    by_cases h : p = q
    · subst h; simp
    · simp [h]
theorem shaped_pt (p : Q2) : PySem.SeqAt.shaped (pt p) = true := shaped_Tz [X p, Y p, W p]
theorem canLay_pts : ∀ (l : List Q2), PyData.canLayAll0 (l.map pt) = true
  | [] => rfl
  | p :: l => by
    rw [List.map_cons, PyData.canLayAll0, canLay_pts l, Bool.and_true]
    show PyData.canLay0 (.tuple ([X p, Y p, W p].map .int)) = true
    rw [PyData.canLay0, canLay_ints]
theorem depth_pts : ∀ (l : List Q2), PyData.depthAll (l.map pt) ≤ 2
  | [] => by simp [PyData.depthAll]
  | p :: l => by
    have h1 := depth_pts l
    have h2 : PyData.depth (pt p) ≤ 2 := by
      have := depth_ints [X p, Y p, W p]
      show PyData.depth (.tuple ([X p, Y p, W p].map .int)) ≤ 2
      rw [PyData.depth]
      omega
    rw [List.map_cons, PyData.depthAll]
    omega
theorem shaped_tpts (l : List Q2) : PySem.SeqAt.shaped (.tuple (l.map pt)) = true := by
  have := depth_pts l
  simp [PySem.SeqAt.shaped, PyData.canLay0, canLay_pts, PyData.depth]
  omega
theorem eqD_tpts (l m : List Q2) : eqD (.tuple (l.map pt)) (.tuple (m.map pt)) = some (decide (l = m)) := by
  simp only [eqD, shaped_tpts, Bool.and_self, if_true, PyData.eqv, eqvAll_pt]
/-! ### what is a polygon -/
structure KnS (G : Prog) : Prop extends KnH G where
  is_shape : G.T "is_shape" = some p_is_shape
section
variable {G : Prog} (K : KnS G)
include K
theorem c_is_shape (n : Nat) {P : List Q2} {k j : Nat} (hs : ∀ p ∈ P, SzP k p) (hj : 1 + P.length * k ≤ j) (hk : j < 8900) (hl : P.length < 64) (hne : P ≠ []) :
    callU G (n + 5) "is_shape" [.tuple (P.map pt)] [] = some (.bool (decide (hullQ P = P)), []) := by
  have e := c_hull K.toKnH n (d := .tuple (P.map pt)) hs hj hk hl hne rfl
  have ev := q_is_vector K.toKnVb (n + 1)
  have h0 : eqD (.tuple (P.map pt)) (.tuple []) = some false := by
    have := eqD_tpts P []
    rw [decide_eq_false hne] at this
    exact this
  have hcomp := eval_comp (C := ctxN G (n + 4)) (elt := (.call "is_vector" (.cons (.var 1) .nil) [0])) (t := .one 1) (it := .seq (.var 0)) (cond := .no) (own := [1])
    (env := [.imm (.tuple (P.map pt)), .no]) (u := []) (u1 := []) (u2 := []) (ds := P.map pt) (rs := P.map fun _ => .bool true) (by simp) (by simp; omega)
    (compL_of fun p _ => by simp [ctx_fn K.is_vector rfl, ev p])
  have hb : boolsOf (P.map fun _ => PyData.bool true) = some (P.map fun _ => true) := by
    generalize P = Q
    induction Q with
    | nil => rfl
    | cons a Q ih => simp [boolsOf, ih]
  have hall : ((P.map fun _ => true).all id) = true := by simp
  rw [callU_eq K.is_shape]
  refine runF_of rfl (run_cons (env1 := [.imm (.tuple (P.map pt)), .no]) (u1 := []) (xs_ite_f (u1 := []) ?_ xss_nil) (run_last (xs_ret (xe_cmp (xe_call (d := .tuple ((hullQ P).map pt)) (xes_cons (xe_var rfl) xes_nil) rfl ?_) (xe_var rfl) ?_))))
  · refine xe_or_f (xe_not (b := true) (xe_bi (xes_cons (xe_var rfl) xes_nil) rfl)) (xe_or_f (xe_cmp (xe_var rfl) (xe_tup xes_nil (by simp)) (d := false) h0) (xe_not (b := true) (xe_bi (xes_cons hcomp xes_nil) ?_)))
    simp only [biV, hb, Option.map_some, hall]
  · rw [ctx_fn K.hull rfl, e]; rfl
  · exact eqD_tpts _ _
end
structure KnPl (G : Prog) : Prop extends KnS G where
  is_plate : G.T "is_plate" = some p_is_plate
  check_section : G.T "check_section" = some p_check_section
  most : G.glob "MOST_EDGES" = some (.int 8)
section
variable {G : Prog} (K : KnPl G)
include K
end
/-! ### sums round a polygon -/
/-- the sum of a measure of each two that follow one another, the last one with f -/
def cyc (g : Q2 → Q2 → Rat) (f : Q2) : List Q2 → Rat
  | [] => 0
  | [a] => g a f
  | a :: b :: t => g a b + cyc g f (b :: t)
def path (g : Q2 → Q2 → Rat) : List Q2 → Rat
  | [] => 0
  | [_] => 0
  | a :: b :: t => g a b + path g (b :: t)
def shoe : List Q2 → Rat
  | [] => 0
  | f :: t => cyc crs f (f :: t)
def momx (a b : Q2) : Rat := (a.1 + b.1) * crs a b
def momy (a b : Q2) : Rat := (a.2 + b.2) * crs a b
def mom (g : Q2 → Q2 → Rat) : List Q2 → Rat
  | [] => 0
  | f :: t => cyc g f (f :: t)
def fanC (f : Q2) (a b : Q2) : Rat := crs (sub2 a f) (sub2 b f)
def fanX (f : Q2) (a b : Q2) : Rat := (f.1 + a.1 + b.1) * fanC f a b
def fanY (f : Q2) (a b : Q2) : Rat := (f.2 + a.2 + b.2) * fanC f a b
theorem cyc_fan (f : Q2) : ∀ (t : List Q2) (b : Q2), cyc crs f (b :: t) = path (fanC f) (b :: t) - crs f b
  | [], b => by simp only [cyc, path]; unfold crs; grind
  | c :: t, b => by
    simp only [cyc, path]
    rw [cyc_fan f t c]
    unfold fanC crs sub2
    simp only
    grind
theorem shoe_fan (f : Q2) (t : List Q2) : shoe (f :: t) = path (fanC f) t := by
  cases t with
  | nil => simp only [shoe, cyc, path]; unfold crs; grind
  | cons b t =>
    simp only [shoe, cyc]
    rw [cyc_fan]
    grind
theorem cyc_fanx (f : Q2) : ∀ (t : List Q2) (b : Q2), cyc momx f (b :: t) = path (fanX f) (b :: t) - (f.1 + b.1) * crs f b
  | [], b => by simp only [cyc, path]; unfold momx crs; grind
  | c :: t, b => by
    simp only [cyc, path]
    rw [cyc_fanx f t c]
    unfold fanX fanC momx crs sub2
    simp only
    grind
theorem cyc_fany (f : Q2) : ∀ (t : List Q2) (b : Q2), cyc momy f (b :: t) = path (fanY f) (b :: t) - (f.2 + b.2) * crs f b
  | [], b => by simp only [cyc, path]; unfold momy crs; grind
  | c :: t, b => by
    simp only [cyc, path]
    rw [cyc_fany f t c]
    unfold fanY fanC momy crs sub2
    simp only
    grind
theorem momx_fan (f : Q2) (t : List Q2) : mom momx (f :: t) = path (fanX f) t := by
  cases t with
  | nil => simp only [mom, cyc, path]; unfold momx crs; grind
  | cons b t =>
    simp only [mom, cyc]
    rw [cyc_fanx]
    unfold momx
    grind
theorem momy_fan (f : Q2) (t : List Q2) : mom momy (f :: t) = path (fanY f) t := by
  cases t with
  | nil => simp only [mom, cyc, path]; unfold momy crs; grind
  | cons b t =>
    simp only [mom, cyc]
    rw [cyc_fany]
    unfold momy
    grind
/-- an area above 0 -/
theorem shoe_pos {P : List Q2} (h : Cv P) (h3 : 3 ≤ P.length) : 0 < shoe P := by
  match P, h, h3 with
  | f :: a :: b :: t, h, _ =>
    rw [shoe_fan]
    have h1 := h.1
    have pos : ∀ (l : List Q2) (c : Q2), (c :: l).Pairwise (fun b c => 0 < ori f b c) → 0 ≤ path (fanC f) (c :: l) := by
      intro l
      induction l with
      | nil => intro c _; exact Rat.le_refl
      | cons d l ih =>
        intro c hp
        have h2 := ih d (List.pairwise_cons.mp hp).2
        have h3 : 0 < ori f c d := (List.pairwise_cons.mp hp).1 d (by simp)
        have e : fanC f c d = ori f c d := rfl
        simp only [path]
        grind
    have h2 := pos t b (List.pairwise_cons.mp h1).2
    have h3 : 0 < ori f a b := (List.pairwise_cons.mp h1).1 b (by simp)
    have e : fanC f a b = ori f a b := rfl
    simp only [path]
    grind
def midQ (P : List Q2) : Q2 := (mom momx P / (3 * shoe P), mom momy P / (3 * shoe P))
end Pl

/-! PR11: the program's areas and middles. -/
namespace Pl
open PySem (PyData Str)
def cz (a b : Z2) : Int := a.1 * b.2 - a.2 * b.1
/-- a row from its second element on, the first one behind -/
def rot1 {α : Type} (l : List α) : List α := l.drop 1 ++ l.take 1
theorem shoe_mom (l : List Q2) : shoe l = mom crs l := by cases l <;> rfl
structure KnA0 (G : Prog) : Prop extends KnH G where
  crosses : G.T "crosses" = some p_crosses
structure KnA (G : Prog) : Prop extends KnA0 G where
  ratio : G.T "ratio" = some p_ratio
  plate_area : G.T "plate_area" = some p_plate_area
theorem KnA.v {G : Prog} (K : KnA G) : KnV G := ⟨K.toKnVb, K.ratio⟩
section
variable {G : Prog} (K : KnA0 G)
include K
end
section
variable {G : Prog} (K : KnA G)
include K
end
structure KnM (G : Prog) : Prop extends KnA0 G where
  middle : G.T "middle" = some p_middle
section
variable {G : Prog} (K : KnM G)
include K
end
end Pl

/-! PR12: the laws' own fractions, ways (dialect a) on fractions; sizes over one number. -/
namespace Pl
open PySem (PyData Str)
/-! ### sizes over one number -/
def Bq (k : Nat) (d : Int) (q : Rat) : Prop := ∃ z : Int, Sm k z ∧ (z : Rat) = q * (d : Rat)
structure Bp (k : Nat) (d : Int) (p : Q2) : Prop where
  x : Bq k d p.1
  y : Bq k d p.2
theorem Bq.mono {j k : Nat} {d : Int} {q : Rat} (h : Bq j d q) (hk : j ≤ k) : Bq k d q := let ⟨z, s, e⟩ := h; ⟨z, s.mono hk, e⟩
theorem Bp.mono {j k : Nat} {d : Int} {q : Q2} (h : Bp j d q) (hk : j ≤ k) : Bp k d q := ⟨h.x.mono hk, h.y.mono hk⟩
theorem Bq.add {j k : Nat} {d : Int} {q r : Rat} (h : Bq j d q) (g : Bq k d r) : Bq (max j k + 1) d (q + r) := by
  obtain ⟨z, s, e⟩ := h
  obtain ⟨y, t, f⟩ := g
  exact ⟨z + y, s.add t, by rw [Rat.intCast_add, e, f]; grind⟩
theorem Bq.sub {j k : Nat} {d : Int} {q r : Rat} (h : Bq j d q) (g : Bq k d r) : Bq (max j k + 1) d (q - r) := by
  obtain ⟨z, s, e⟩ := h
  obtain ⟨y, t, f⟩ := g
  exact ⟨z - y, s.sub t, by rw [Rat.intCast_sub, e, f]; grind⟩
theorem Bq.neg {k : Nat} {d : Int} {q : Rat} (h : Bq k d q) : Bq k d (-q) := by
  obtain ⟨z, s, e⟩ := h
  exact ⟨-z, s.neg, by rw [Rat.intCast_neg, e]; grind⟩
theorem Bq.mul {j k : Nat} {d c : Int} {q r : Rat} (h : Bq j d q) (g : Bq k c r) : Bq (j + k) (d * c) (q * r) := by
  obtain ⟨z, s, e⟩ := h
  obtain ⟨y, t, f⟩ := g
  exact ⟨z * y, s.mul t, by rw [Rat.intCast_mul, e, f, Rat.intCast_mul]; grind⟩
theorem Bq.zero (k : Nat) (d : Int) : Bq k d 0 := ⟨0, by unfold Sm; exact Nat.pow_pos (by decide), by grind⟩
theorem Bq.szF {k e : Nat} {d : Int} {q : Rat} (h : Bq k d q) (hd : 0 < d) (sd : Sm e d) : SzF (max k e) q := by
  obtain ⟨z, s, f⟩ := h
  exact szF_of hd f (s.mono (Nat.le_max_left _ _)) (sd.mono (Nat.le_max_right _ _))
theorem Bp.szP {k e : Nat} {d : Int} {p : Q2} (h : Bp k d p) (hd : 0 < d) (sd : Sm e d) : SzP (max k e) p := by
  obtain ⟨z, s, f⟩ := h.x
  obtain ⟨y, t, g⟩ := h.y
  exact szP_of hd f g (s.mono (Nat.le_max_left _ _)) (t.mono (Nat.le_max_left _ _)) (sd.mono (Nat.le_max_right _ _))
theorem Bp.sub {k : Nat} {d : Int} {p q : Q2} (h : Bp k d p) (g : Bp k d q) : Bp (k + 1) d (sub2 p q) := ⟨by have := h.x.sub g.x; rw [Nat.max_self] at this; exact this, by have := h.y.sub g.y; rw [Nat.max_self] at this; exact this⟩
theorem Bp.add {k : Nat} {d : Int} {p q : Q2} (h : Bp k d p) (g : Bp k d q) : Bp (k + 1) d (add2 p q) := ⟨by have := h.x.add g.x; rw [Nat.max_self] at this; exact this, by have := h.y.add g.y; rw [Nat.max_self] at this; exact this⟩
theorem Bp.crs {k : Nat} {d : Int} {p q : Q2} (h : Bp k d p) (g : Bp k d q) : Bq (k + k + 1) (d * d) (crs p q) := by
  have := (h.x.mul g.y).sub (h.y.mul g.x)
  rw [Nat.max_self] at this
  exact this
theorem Bp.smul {j k : Nat} {d c : Int} {p : Q2} {r : Rat} (h : Bp k d p) (g : Bq j c r) : Bp (j + k) (c * d) (smul r p) := ⟨g.mul h.x, g.mul h.y⟩
theorem Bp.qtr {k : Nat} {d : Int} {p : Q2} (h : Bp k d p) : Bp k d (qtr p) := ⟨h.y.neg, h.x⟩
/-- signs -/
def sg (q : Rat) : Int := if 0 < q then 1 else if q < 0 then -1 else 0
theorem num_pos {q : Rat} : 0 < q.num ↔ 0 < q := by
  have e := num_den q
  have hd := rpos_int (den_pos q)
  have h := Rat.intCast_lt_intCast (a := 0) (b := q.num)
  constructor
  · intro k
    have k' := h.mpr k
    rw [e] at k'
    exact rpos_of hd k'
  · intro k
    refine h.mp ?_
    rw [e]
    exact Rat.mul_pos k hd
theorem X_pos {p : Q2} : 0 < X p ↔ 0 < p.1 := by
  obtain ⟨v1, v2⟩ := pt_val p
  have hd := rpos_int (W_pos p)
  have h := Rat.intCast_lt_intCast (a := 0) (b := X p)
  constructor
  · intro k
    have k' := h.mpr k
    rw [v1] at k'
    exact rpos_of hd k'
  · intro k
    refine h.mp ?_
    rw [v1]
    exact Rat.mul_pos k hd
theorem X_zero {p : Q2} : X p = 0 ↔ p.1 = 0 := by
  obtain ⟨v1, v2⟩ := pt_val p
  have hd := rne_pos (W_pos p)
  constructor
  · intro k
    rw [k] at v1
    rcases rzero v1.symm with z | z
    · exact z
    · exact absurd z hd
  · intro k
    rw [k] at v1
    exact Rat.intCast_inj.mp (by rw [v1]; grind)
theorem Y_pos {p : Q2} : 0 < Y p ↔ 0 < p.2 := by
  obtain ⟨v1, v2⟩ := pt_val p
  have hd := rpos_int (W_pos p)
  have h := Rat.intCast_lt_intCast (a := 0) (b := Y p)
  constructor
  · intro k
    have k' := h.mpr k
    rw [v2] at k'
    exact rpos_of hd k'
  · intro k
    refine h.mp ?_
    rw [v2]
    exact Rat.mul_pos k hd
/-! ### the laws' own -/
structure KnW (G : Prog) : Prop extends KnF G where
  way : G.T "_law_way" = some p__law_way__a
  cross : G.T "_law_cross" = some p__law_cross__a
section
variable {G : Prog} (K : KnF G)
include K
theorem l_frac (n : Nat) {x y : Int} {k : Nat} {q : Rat} (hw : 0 < y) (e : (x : Rat) = q * (y : Rat)) (sx : Sm k x) (sy : Sm k y) (hk : k < 8990) : callU G (n + 3) "_law_frac" [.int x, .int y] [] = some (fr q, []) := by
  rw [c_frac K n hw sx sy hk, nv2_fr hw e]
theorem l_spot (n : Nat) {x y w : Int} {k : Nat} {p : Q2} (hw : 0 < w) (ex : (x : Rat) = p.1 * (w : Rat)) (ey : (y : Rat) = p.2 * (w : Rat)) (sx : Sm k x) (sy : Sm k y) (sw : Sm k w) (hk : k < 8990) :
    callU G (n + 3) "_law_spot" [.int x, .int y, .int w] [] = some (pt p, []) := by
  rw [c_spot K n (Int.ne_of_gt hw) sx sy sw hk, nv3_pt hw ex ey]
variable {k : Nat} {p q : Q2} {r s : Rat}
theorem l_add (h : G.T "_law_add" = some p__law_add) (n : Nat) (A : SzF k r) (B : SzF k s) (hk : k < 4400) : callU G (n + 4) "_law_add" [fr r, fr s] [] = some (fr (r + s), []) := by
  obtain ⟨h0, e, s1, s2⟩ := fadd_num A B
  have ev := l_frac K n h0 e s1 s2 (by omega)
  have mo : ∀ {i j : Int}, Sm k i → Sm k j → mulOk i j = true := fun h q => mulOk_of h q (by omega) (by omega)
  rw [callU_eq h]
  simp [runF, p__law_add, mkEnv, mo A.x B.y, mo B.x A.y, mo A.y B.y, ctx_fn K.frac rfl, ev]
theorem l_on (h : G.T "_law_on" = some p__law_on) (n : Nat) (A : SzP k p) (B : SzP k q) (hk : k < 4400) : callU G (n + 4) "_law_on" [pt p, pt q] [] = some (pt (add2 p q), []) := by
  obtain ⟨h0, e1, e2, s1, s2, s3⟩ := add_num A B
  have ev := l_spot K n h0 e1 e2 s1 s2 s3 (by omega)
  have mo : ∀ {i j : Int}, Sm k i → Sm k j → mulOk i j = true := fun h q => mulOk_of h q (by omega) (by omega)
  rw [callU_eq h]
  simp [runF, p__law_on, mkEnv, mo A.x B.w, mo B.x A.w, mo A.y B.w, mo B.y A.w, mo A.w B.w, ctx_fn K.spot rfl, ev]
theorem l_by (h : G.T "_law_by" = some p__law_by) (n : Nat) (A : SzP k p) (B : SzF k r) (hk : k < 4400) : callU G (n + 4) "_law_by" [pt p, fr r] [] = some (pt (smul r p), []) := by
  obtain ⟨h0, e1, e2, s1, s2, s3⟩ := smul_num A B
  have ev := l_spot K n h0 e1 e2 s1 s2 s3 (by omega)
  have mo : ∀ {i j : Int}, Sm k i → Sm k j → mulOk i j = true := fun h q => mulOk_of h q (by omega) (by omega)
  rw [callU_eq h]
  simp [runF, p__law_by, mkEnv, mo A.x B.x, mo A.y B.x, mo A.w B.y, ctx_fn K.spot rfl, ev]
theorem l_sign (h : G.T "_law_sign" = some p__law_sign__a) (n : Nat) (x : Int) : callU G (n + 1) "_law_sign" [.int x] [] = some (.int x.sign, []) := by
  rw [callU_eq h]
  rcases Int.lt_trichotomy x 0 with q | q | q
  · simp [runF, p__law_sign__a, mkEnv, Int.sign_eq_neg_one_of_neg q, q, Int.not_lt.mpr (Int.le_of_lt q)]
  · subst q; simp [runF, p__law_sign__a, mkEnv]
  · simp [runF, p__law_sign__a, mkEnv, Int.sign_eq_one_of_pos q, q, Int.not_lt.mpr (Int.le_of_lt q)]
end
section
variable {G : Prog} (K : KnW G) {k : Nat} {p q : Q2}
include K
theorem l_way (n : Nat) (A : SzP k p) (B : SzP k q) (hk : k < 4400) : callU G (n + 4) "_law_way" [pt p, pt q] [] = some (pt (sub2 q p), []) := by
  obtain ⟨h0, e1, e2, s1, s2, s3⟩ := sub_num B A
  rw [Int.mul_comm (W q) (W p)] at h0 e1 e2 s3
  have ev := l_spot K.toKnF n h0 e1 e2 s1 s2 s3 (by omega)
  have mo : ∀ {i j : Int}, Sm k i → Sm k j → mulOk i j = true := fun h q => mulOk_of h q (by omega) (by omega)
  rw [callU_eq K.way]
  simp [runF, p__law_way__a, mkEnv, mo A.x B.w, mo B.x A.w, mo A.y B.w, mo B.y A.w, mo A.w B.w, ctx_fn K.spot rfl, ev]
theorem l_cross (n : Nat) (A : SzP k p) (B : SzP k q) (hk : k < 4400) : callU G (n + 4) "_law_cross" [pt p, pt q] [] = some (fr (crs p q), []) := by
  obtain ⟨h0, e1, s1, s2⟩ := crs_num A B
  have ev := l_frac K.toKnF n h0 e1 s1 s2 (by omega)
  have mo : ∀ {i j : Int}, Sm k i → Sm k j → mulOk i j = true := fun h q => mulOk_of h q (by omega) (by omega)
  rw [callU_eq K.cross]
  simp [runF, p__law_cross__a, mkEnv, mo A.x B.y, mo A.y B.x, mo A.w B.w, ctx_fn K.frac rfl, ev]
end
end Pl

/-! PR13: the laws' own hull (dialect a). -/
namespace Pl
open PySem (PyData Str)
structure KnO (G : Prog) : Prop extends KnW G where
  sign : G.T "_law_sign" = some p__law_sign__a
  side : G.T "_law_side" = some p__law_side
  before : G.T "_law_before" = some p__law_before
  sorted : G.T "_law_sorted" = some p__law_sorted
  hull : G.T "_law_hull" = some p__law_hull__a
theorem sign_le {x : Int} : (x.sign ≤ 0) ↔ ¬ 0 < x := by
  rcases Int.lt_trichotomy x 0 with q | q | q
  · rw [Int.sign_eq_neg_one_of_neg q]; omega
  · subst q; simp
  · rw [Int.sign_eq_one_of_pos q]; omega
theorem inV_pts (neg : Bool) (p : Q2) (l : List Q2) : inV neg (pt p) (.list (l.map pt)) = some (if neg then !decide (p ∈ l) else decide (p ∈ l)) := by
  have h1 := shaped_pt p
  have h2 := canLay_pts l
  have h3 : ((l.map pt).any fun y => PyData.eqv y (pt p)) = decide (p ∈ l) := by
    rw [List.any_map]
    by_cases h : p ∈ l
    · rw [decide_eq_true h, List.any_eq_true]
      exact ⟨p, h, by simp [eqv_pt]⟩
    · rw [decide_eq_false h]
      rw [List.any_eq_false]
      intro x hx e
      simp only [Function.comp, eqv_pt, decide_eq_true_eq] at e
      rw [e] at hx
      exact h hx
  unfold inV
  rw [show items (.list (l.map pt)) = some (l.map pt) from rfl, Option.bind_some, h1, h2, h3]
  rfl
/-- put in behind all that come before it -/
theorem ins_at {p : Q2} : ∀ {r : List Q2}, r.Pairwise Lt2 → p ∉ r → (r.take (r.filter fun q => decide (Lt2 q p)).length ++ p :: r.drop (r.filter fun q => decide (Lt2 q p)).length) = insQ p r
  | [], _, _ => rfl
  | q :: r, h, hn => by
    rw [List.pairwise_cons] at h
    have hne : p ≠ q := fun e => hn (by rw [e]; exact List.mem_cons_self)
    have hn' : p ∉ r := fun e => hn (List.mem_cons_of_mem _ e)
    unfold insQ
    by_cases hpq : Lt2 p q
    · have hf : ((q :: r).filter fun q => decide (Lt2 q p)) = [] := by
        rw [List.filter_eq_nil_iff]
        intro x hx e
        have e := of_decide_eq_true e
        rcases List.mem_cons.mp hx with z | z
        · rw [z] at e; exact lt2_asym _ _ hpq e
        · exact lt2_asym _ _ (hpq.trans (h.1 x z)) e
      rw [hf, if_pos hpq]
      rfl
    · have hqp : Lt2 q p := by
        rcases Lt2.tri p q with z | z | z
        · exact absurd z hpq
        · exact absurd z hne
        · exact z
      rw [List.filter_cons_of_pos (by simpa using hqp), if_neg hpq, if_neg hne, List.length_cons, List.take_succ_cons, List.drop_succ_cons, List.cons_append, ins_at h.2 hn']
section
variable {G : Prog} (K : KnO G)
include K
theorem l_side (n : Nat) {a b c : Q2} {k : Nat} (A : SzP k a) (B : SzP k b) (C : SzP k c) (hk : k < 2000) : callU G (n + 5) "_law_side" [pt a, pt b, pt c] [] = some (.int (ori a b c).num.sign, []) := by
  have e1 := l_way K.toKnW n A B (by omega)
  have e2 := l_way K.toKnW n A C (by omega)
  have e3 := l_cross K.toKnW n (szP_sub B A) (szP_sub C A) (by omega)
  have e4 := l_sign K.toKnF K.sign (n + 3) (ori a b c).num
  rw [callU_eq K.side]
  refine runF_of rfl (run_last (xs_ret (xe_call (rs := [.int (ori a b c).num]) (ds := [.int (ori a b c).num]) (xes_cons (xe_idx (x := fr (ori a b c)) (xe_call (rs := [pt (sub2 b a), pt (sub2 c a)]) (ds := [pt (sub2 b a), pt (sub2 c a)]) (xes_cons (xe_call (rs := [pt a, pt b]) (ds := [pt a, pt b]) (xes_cons (xe_var rfl) (xes_cons (xe_var rfl) xes_nil)) rfl ?_)
    (xes_cons (xe_call (rs := [pt a, pt c]) (ds := [pt a, pt c]) (xes_cons (xe_var rfl) (xes_cons (xe_var rfl) xes_nil)) rfl ?_) xes_nil)) rfl ?_) xe_int rfl) xes_nil) rfl ?_)))
  · rw [ctx_fn K.way rfl, e1]; rfl
  · rw [ctx_fn K.way rfl, e2]; rfl
  · rw [ctx_fn K.cross rfl, e3]; rfl
  · rw [ctx_fn K.sign rfl, e4]; rfl
theorem l_before (n : Nat) {a b : Q2} {k : Nat} (A : SzP k a) (B : SzP k b) (hk : k < 4000) : callU G (n + 5) "_law_before" [pt a, pt b] [] = some (.bool (decide (Lt2 a b)), []) := by
  have e1 := l_way K.toKnW n A B (by omega)
  have hd : decide (Lt2 a b) = (decide (0 < X (sub2 b a)) || (decide (X (sub2 b a) = 0) && decide (0 < Y (sub2 b a)))) := by
    rw [Bool.eq_iff_iff]
    simp only [decide_eq_true_eq, Bool.or_eq_true, Bool.and_eq_true, X_pos, X_zero, Y_pos]
    exact Iff.rfl
  rw [callU_eq K.before, hd]
  by_cases h1 : 0 < X (sub2 b a)
  · simp [runF, p__law_before, mkEnv, ctx_fn K.way rfl, e1, h1]
  · by_cases h2 : X (sub2 b a) = 0
    · simp [runF, p__law_before, mkEnv, ctx_fn K.way rfl, e1, h2]
    · simp [runF, p__law_before, mkEnv, ctx_fn K.way rfl, e1, h1, h2]
/-- one point put in -/
theorem sorted_step (n : Nat) {k : Nat} (hk : k < 4000) {d : D} {p : Q2} {r : List Q2} {x : Slot} (hp : SzP k p) (hr : ∀ q ∈ r, SzP k q) (hs : r.Pairwise Lt2) (hl : r.length ≤ 90000) :
    ((bindT (.one 2) (pt p) [.imm d, .own (r.map pt), x, .no]).bind fun env' => execSs (ctxN G (n + 5)) G.ff (forBody p__law_sorted.body) env' []) = some (.nx [.imm d, .own ((insQ p r).map pt), .imm (pt p), .no] []) := by
  rw [show bindT (.one 2) (pt p) [.imm d, .own (r.map pt), x, .no] = some [.imm d, .own (r.map pt), .imm (pt p), .no] from rfl, Option.bind_some]
  have hin : cmpV .notin (pt p) (.list (r.map pt)) = some (!decide (p ∈ r)) := by
    simp only [cmpV]
    exact inV_pts true p r
  by_cases hm : p ∈ r
  · rw [decide_eq_true hm] at hin
    refine (xss_go (xs_ite_f (u1 := []) (xe_cmp (xe_var rfl) (xe_var rfl) (d := false) hin) xss_nil) xss_nil).trans ?_
    have : insQ p r = r := by
      refine asym_one lt2_asym (insQ_sorted hs) hs fun y => ?_
      rw [insQ_mem]
      exact ⟨fun h => h.elim (fun e => e ▸ hm) id, .inr⟩
    rw [this]
  · rw [decide_eq_false hm] at hin
    have hcomp := eval_comp (C := ctxN G (n + 5)) (elt := .var 3) (t := .one 3) (it := .seq (.var 1)) (cond := .yes (.call "_law_before" (.cons (.var 3) (.cons (.var 2) .nil)) [0, 1])) (own := [3])
      (env := [.imm d, .own (r.map pt), .imm (pt p), .no]) (u := []) (u1 := []) (u2 := []) (ds := r.map pt) (rs := (r.filter fun q => decide (Lt2 q p)).map pt) (by simp) (by simp; omega)
      (compL_filt fun q hq => by
        have e := l_before K n (hr q hq) hp hk
        by_cases hlt : Lt2 q p
        · simp [ctx_fn K.before rfl, e, hlt]
        · simp [ctx_fn K.before rfl, e, hlt])
    have hlf : ((r.filter fun q => decide (Lt2 q p)).length : Int) ≤ r.length := by
      have := List.length_filter_le (fun q => decide (Lt2 q p)) r
      omega
    refine (xss_go (xs_ite_t (u1 := []) (xe_cmp (xe_var rfl) (xe_var rfl) (d := true) hin) (xss_go (env1 := [.imm d, .own ((insQ p r).map pt), .imm (pt p), .no]) (u1 := []) ?_ xss_nil)) xss_nil).trans rfl
    have hk1 : evalE (ctxN G (n + 5)) (.bi .len (.cons (.comp (.var 3) (.one 3) (.seq (.var 1)) (.yes (.call "_law_before" (.cons (.var 3) (.cons (.var 2) .nil)) [0, 1])) [3]) .nil)) [.imm d, .own (r.map pt), .imm (pt p), .no] [] = some (.int ((r.filter fun q => decide (Lt2 q p)).length : Nat), []) := by
      refine xe_bi (xes_cons hcomp xes_nil) ?_
      simp only [biV, List.length_map]
    have hk2 : evalE (ctxN G (n + 5)) (.var 2) [.imm d, .own (r.map pt), .imm (pt p), .no] [] = some (pt p, []) := xe_var rfl
    simp only [execS, hk1, hk2, Option.bind_some]
    rw [if_pos (show noList (pt p) = true from rfl)]
    simp only [List.getElem?_cons_succ, List.getElem?_cons_zero]
    rw [if_pos (by
      rw [Bool.and_eq_true]
      refine ⟨decide_eq_true ⟨by omega, ?_⟩, decide_eq_true ?_⟩
      · rw [List.length_map]; exact hlf
      · rw [List.length_map]; omega)]
    rw [Int.toNat_natCast, ← List.map_take, ← List.map_drop, ← List.map_cons, ← List.map_append, ins_at hs hm]
    rfl
theorem sorted_for (n : Nat) {k : Nat} (hk : k < 4000) {d : D} : ∀ {l r : List Q2} {x : Slot}, (∀ q ∈ l, SzP k q) → (∀ q ∈ r, SzP k q) → r.Pairwise Lt2 → r.length + l.length ≤ 90000 → ∃ (r' : List Q2) (x' : Slot),
    forL (fun d env u => (bindT (.one 2) d env).bind fun env' => execSs (ctxN G (n + 5)) G.ff (forBody p__law_sorted.body) env' u) (l.map pt) [.imm d, .own (r.map pt), x, .no] [] = some (.nx [.imm d, .own (r'.map pt), x', .no] []) ∧
      r'.Pairwise Lt2 ∧ ∀ y, y ∈ r' ↔ y ∈ r ∨ y ∈ l
  | [], r, x, _, _, hs, _ => ⟨r, x, rfl, hs, fun y => by simp⟩
  | p :: l, r, x, hl, hr, hs, hz => by
    have hp := hl p List.mem_cons_self
    have e := sorted_step K n hk (d := d) (x := x) hp hr hs (by omega)
    have hlen : (insQ p r).length ≤ r.length + 1 := by
      have : ∀ r : List Q2, (insQ p r).length ≤ r.length + 1 := fun r => by
        induction r with
        | nil => exact Nat.le_refl _
        | cons q r ih =>
          unfold insQ
          split
          · simp
          · split
            · simp
            · simp; exact ih
      exact this r
    obtain ⟨r', x', e', s', m'⟩ := sorted_for n hk (d := d) (l := l) (r := insQ p r) (x := .imm (pt p)) (fun q hq => hl q (List.mem_cons_of_mem _ hq)) (fun q hq => by
      rcases insQ_mem.mp hq with z | z
      · rw [z]; exact hp
      · exact hr q z) (insQ_sorted hs) (by simp at hz; omega)
    refine ⟨r', x', ?_, s', fun y => ?_⟩
    · rw [List.map_cons]
      simp only [forL]
      rw [e]
      exact e'
    · rw [m', insQ_mem, List.mem_cons]
      constructor
      · rintro ((h | h) | h)
        · exact .inr (.inl h)
        · exact .inl h
        · exact .inr (.inr h)
      · rintro (h | h | h)
        · exact .inl (.inr h)
        · exact .inl (.inl h)
        · exact .inr h
theorem l_sorted (n : Nat) {k : Nat} (hk : k < 4000) {l : List Q2} (hl : ∀ q ∈ l, SzP k q) (hz : l.length ≤ 90000) {d : D} (hd : items d = some (l.map pt)) : callU G (n + 6) "_law_sorted" [d] [] = some (.list ((sortQ l).map pt), []) := by
  obtain ⟨r', x', e, s', m'⟩ := sorted_for K n hk (d := d) (l := l) (r := []) (x := .no) hl (by simp) .nil (by simpa using hz)
  have hr : r' = sortQ l := asym_one lt2_asym s' (sortQ_sorted l) fun y => by rw [m', sortQ_mem]; simp
  subst hr
  have hd' := items_or hd
  rw [callU_eq K.sorted]
  refine runF_of rfl (run_cons (env1 := [.imm d, .own [], .no, .no]) (u1 := []) ?_ (run_cons (run_for (ds := l.map pt) (u1 := []) (xi_seq (xe_var rfl) hd) (by simp; omega) e) (run_last (xs_ret (xe_var rfl)))))
  rw [run_set (d := .list []) (u' := []) (xe_lst xes_nil (by simp)), after_t (by rw [within_list_t rfl]; rfl), slotOf_list_t rfl]
  rfl
end
abbrev lwC : E := .and (.cmp .gt (.bi .len (.cons (.var 4) .nil)) (.lit (.int 1))) (.cmp .le (.call "_law_side" (.cons (.idx (.var 4) (.neg (.lit (.int 2)))) (.cons (.idx (.var 4) (.neg (.lit (.int 1)))) (.cons (.var 5) .nil))) [0, 1, 2]) (.lit (.int 0)))
abbrev lwB : Ss := .cons (.pop 4) .nil
section
variable {G : Prog} (K : KnO G)
include K
theorem hull_while (n : Nat) {k : Nat} (hk : k < 2000) {s0 s1 s2 s3 : Slot} {p : Q2} (hp : SzP k p) : ∀ {s : List Q2}, (∀ x ∈ s, SzP k x) →
    execS (ctxN G (n + 5)) G.ff (.whil lwC lwB) [s0, s1, s2, s3, .own ((s.map pt).reverse), .imm (pt p)] [] = some (.nx [s0, s1, s2, s3, .own (((popS s p).map pt).reverse), .imm (pt p)] [])
  | [], _ => while_end (by simp)
  | [b], _ => while_end (by simp)
  | b :: a :: s, hs => by
    have hb := l_side K n (a := a) (b := b) (c := p) (hs a (by simp)) (hs b (by simp)) hp hk
    have e1 : atI ((pt b :: pt a :: s.map pt).reverse) (-1) = some (pt b) := atI_rev1
    have e2 : atI ((pt b :: pt a :: s.map pt).reverse) (-2) = some (pt a) := atI_rev2
    rw [List.map_cons, List.map_cons]
    have hlen : (1 : Int) < (((pt b :: pt a :: s.map pt).reverse).length : Int) := by simp; omega
    have hne : ((pt b :: pt a :: s.map pt).reverse).isEmpty = false := by simp
    have hdl : ((pt b :: pt a :: s.map pt).reverse).dropLast = ((a :: s).map pt).reverse := by
      rw [List.reverse_cons (a := pt b), List.dropLast_concat, List.map_cons]
    generalize hL : (pt b :: pt a :: s.map pt).reverse = L at *
    have hcond : ∀ (c : Bool), decide ((ori a b p).num.sign ≤ 0) = c → evalE (ctxN G (n + 5)) lwC [s0, s1, s2, s3, .own L, .imm (pt p)] [] = some (.bool c, []) := fun c hc => by
      refine xe_and_t (xe_cmp (xe_bi (xes_cons (xe_var rfl) xes_nil) rfl) xe_int (d := true) ?_) (xe_cmp (x := .int (ori a b p).num.sign) (xe_call (rs := [pt a, pt b, pt p]) (ds := [pt a, pt b, pt p]) (xes_cons (xe_idx (x := .list L) (y := .int (-2)) (xe_var rfl) rfl e2) (xes_cons (xe_idx (x := .list L) (y := .int (-1)) (xe_var rfl) rfl e1) (xes_cons (xe_var rfl) xes_nil))) rfl ?_) xe_int ?_)
      · simp only [cmpV]; rw [decide_eq_true hlen]
      · rw [ctx_fn K.side rfl, hb]; rfl
      · simp only [cmpV, hc]
    by_cases ho : 0 < ori a b p
    · rw [while_end (u1 := []) (hcond false (decide_eq_false (by rw [sign_le]; exact fun z => z (num_pos.mpr ho))))]
      unfold popS
      rw [if_pos ho, List.map_cons, List.map_cons, hL]
    · rw [while_go (u1 := []) (env' := [s0, s1, s2, s3, .own ((((a :: s)).map pt).reverse), .imm (pt p)]) (u' := []) (hcond true (decide_eq_true (by rw [sign_le]; exact fun z => ho (num_pos.mp z)))), hull_while n hk hp fun x hx => hs x (List.mem_cons_of_mem _ hx)]
      · conv => rhs; unfold popS
        rw [if_neg ho]
      · simp [hne]
        rw [hdl]; simp
theorem hull_for (n : Nat) {k : Nat} (hk : k < 2000) {s0 s1 s2 s3 : Slot} : ∀ {l s : List Q2} {x : Slot}, (∀ x ∈ s, SzP k x) → (∀ x ∈ l, SzP k x) → s.length + l.length ≤ 100000 → ∃ x',
    forL (fun d env u => (bindT (.one 5) d env).bind fun env' => execSs (ctxN G (n + 5)) G.ff (.cons (.whil lwC lwB) (.cons (.app 4 (.var 5)) .nil)) env' u) (l.map pt) [s0, s1, s2, s3, .own ((s.map pt).reverse), x] [] =
      some (.nx [s0, s1, s2, s3, .own (((chainG id s l).map pt).reverse), x'] [])
  | [], s, x, _, _, _ => ⟨x, rfl⟩
  | p :: l, s, x, hs, hl, hz => by
    have hp := hl p List.mem_cons_self
    have e := hull_while K n hk (s0 := s0) (s1 := s1) (s2 := s2) (s3 := s3) hp hs
    have hgs : ∀ (s : List Q2), popG id s p = popS s p := fun s => by
      have := popG_map id s p
      simpa using this
    have hpop : ∀ y ∈ p :: popG id s p, SzP k y := fun y hy => by
      rcases List.mem_cons.mp hy with z | z
      · rw [z]; exact hp
      · exact hs y (popG_sub id z)
    have hpl : (popS s p).length ≤ s.length := by
      have : ∀ s : List Q2, (popS s p).length ≤ s.length := fun s => by
        induction s with
        | nil => exact Nat.le_refl _
        | cons b s ih =>
          cases s with
          | nil => exact Nat.le_refl _
          | cons a s =>
            unfold popS
            split
            · exact Nat.le_refl _
            · exact Nat.le_trans ih (by simp)
      exact this s
    obtain ⟨x', ih⟩ := hull_for n hk (s0 := s0) (s1 := s1) (s2 := s2) (s3 := s3) (l := l) (s := p :: popG id s p) (x := .imm (pt p)) hpop (fun y hy => hl y (List.mem_cons_of_mem _ hy)) (by rw [hgs]; simp at hz ⊢; omega)
    refine ⟨x', ?_⟩
    have hstep : ((bindT (.one 5) (pt p) [s0, s1, s2, s3, .own ((s.map pt).reverse), x]).bind fun env' => execSs (ctxN G (n + 5)) G.ff (.cons (.whil lwC lwB) (.cons (.app 4 (.var 5)) .nil)) env' []) =
        some (.nx [s0, s1, s2, s3, .own (((p :: popG id s p).map pt).reverse), .imm (pt p)] []) := by
      rw [show bindT (.one 5) (pt p) [s0, s1, s2, s3, .own ((s.map pt).reverse), x] = some [s0, s1, s2, s3, .own ((s.map pt).reverse), .imm (pt p)] from rfl, Option.bind_some]
      refine run_cons e ?_
      have hsz : (popS s p).length ≤ 100000 := by simp at hz; omega
      rw [hgs]
      simp [hsz]
    rw [List.map_cons]
    simp only [forL]
    rw [hstep]
    exact ih
/-- one side's walk: the chain made, its last point left out, put to what is found -/
theorem hull_turn (n : Nat) {k : Nat} (hk : k < 2000) {s0 s1 s3 s4 s5 : Slot} {f l : List Q2} (hl : ∀ x ∈ l, SzP k x) (hz : l.length ≤ 1000) (hf : f.length ≤ 1000) : ∃ s4' s5',
    ((bindT (.one 3) (.list (l.map pt)) [s0, s1, .own (f.map pt), s3, s4, s5]).bind fun env' => execSs (ctxN G (n + 5)) G.ff (forBody p__law_hull__a.body) env' []) = some (.nx [s0, s1, .own ((f ++ (chainL l).reverse.dropLast).map pt), .imm (.list (l.map pt)), s4', s5'] []) := by
  obtain ⟨x', e⟩ := hull_for K n hk (s0 := s0) (s1 := s1) (s2 := .own (f.map pt)) (s3 := .imm (.list (l.map pt))) (l := l) (s := []) (x := s5) (by simp) hl (by simp; omega)
  have hch : chainG id [] l = chainL l := by
    have := chainG_nil id l
    simpa using this
  rw [hch] at e
  have hcl : (chainL l).length ≤ l.length := by
    have : ∀ (l s : List Q2), (chainS s l).length ≤ s.length + l.length := fun l => by
      induction l with
      | nil => intro s; exact Nat.le_refl _
      | cons p l ih =>
        intro s
        have hpl : ∀ s : List Q2, (popS s p).length ≤ s.length := fun s => by
          induction s with
          | nil => exact Nat.le_refl _
          | cons b s ih =>
            cases s with
            | nil => exact Nat.le_refl _
            | cons a s =>
              unfold popS
              split
              · exact Nat.le_refl _
              · exact Nat.le_trans ih (by simp)
        have h1 := ih (p :: popS s p)
        have h2 := hpl s
        show (chainS (p :: popS s p) l).length ≤ _
        simp at h1 ⊢
        omega
    cases l with
    | nil => exact Nat.le_refl _
    | cons p l => have := this l [p]; simp at this ⊢; show (chainS [p] l).length ≤ _; omega
  refine ⟨.own (((chainL l).map pt).reverse), x', ?_⟩
  rw [show bindT (.one 3) (.list (l.map pt)) [s0, s1, .own (f.map pt), s3, s4, s5] = some [s0, s1, .own (f.map pt), .imm (.list (l.map pt)), s4, s5] from rfl, Option.bind_some]
  refine run_cons (env1 := [s0, s1, .own (f.map pt), .imm (.list (l.map pt)), .own [], s5]) (u1 := []) ?_ (run_cons (run_for (ds := l.map pt) (u1 := []) (xi_seq (d := .list (l.map pt)) (xe_var rfl) rfl) (by simp; omega) e) (run_cons ?_ xss_nil))
  · rw [run_set (d := .list []) (u' := []) (xe_lst xes_nil (by simp)), after_t (by rw [within_list_t rfl]; rfl), slotOf_list_t rfl]
    rfl
  · have drop1 : ∀ L : List D, cut L none (some (-1)) = L.dropLast := fun L => by
      unfold cut sIx
      cases L with
      | nil => rfl
      | cons a L =>
        simp only [List.drop_zero, Nat.sub_zero]
        rw [if_pos (by decide), List.dropLast_eq_take]
        congr 1
        simp
        omega
    have hv : evalE (ctxN G (n + 5)) (.bin .add (.var 2) (.sli (.var 4) .no (.yes (.neg (.lit (.int 1)))))) [s0, s1, .own (f.map pt), .imm (.list (l.map pt)), .own (((chainL l).map pt).reverse), x'] [] = some (.list ((f ++ (chainL l).reverse.dropLast).map pt), []) := by
      refine xe_bin (x := .list (f.map pt)) (xe_var rfl) (xe_sli (x := .list (((chainL l).map pt).reverse)) (xe_var rfl) xo_no xo_neg (d := .list ((chainL l).reverse.dropLast.map pt)) ?_) ?_
      · simp only [sliV]; rw [drop1, ← List.map_reverse, ← List.map_dropLast]
      · simp only [binV]
        rw [if_pos (show sizeOk _ = true from decide_eq_true (by simp only [List.length_map, List.length_dropLast, List.length_reverse]; omega)), ← List.map_append]
    rw [run_set hv, after_t (by rw [within_list_t rfl]; exact noListAll_pt _), slotOf_list_t rfl]
    rfl
/-- the laws' own hull -/
theorem l_hull (n : Nat) {k : Nat} (hk : k < 2000) {l : List Q2} (hl : ∀ q ∈ l, SzP k q) (hz : l.length ≤ 400) {d : D} (hd : items d = some (l.map pt)) : callU G (n + 7) "_law_hull" [d] [] = some (.tuple ((hullQ l).map pt), []) := by
  have e0 := l_sorted K n (by omega) hl (by omega) hd
  have hsl := sortQ_len l
  have hss : ∀ q ∈ sortQ l, SzP k q := fun q hq => hl q (sortQ_mem.mp hq)
  have hset : execS (ctxN G (n + 6)) G.ff (.set 1 (.call "_law_sorted" (.cons (.var 0) .nil) [0])) [.imm d, .no, .no, .no, .no, .no] [] = some (.nx [.imm d, .imm (.list ((sortQ l).map pt)), .no, .no, .no, .no] []) := by
    have hff : fk G.ff (.call "_law_sorted" (.cons (.var 0) .nil) [0]) = false := ff_no K.sorted rfl
    rw [run_set (d := .list ((sortQ l).map pt)) (u' := []) (xe_call (xes_cons (xe_var rfl) xes_nil) rfl (by rw [ctx_fn K.sorted rfl, e0]; rfl)), after_f (within_list_f hff), slotOf_list_f hff]
    rfl
  have hcond : ∀ (c : Bool), decide ((sortQ l).length < 3) = c → evalE (ctxN G (n + 6)) (.cmp .lt (.bi .len (.cons (.var 1) .nil)) (.lit (.int 3))) [.imm d, .imm (.list ((sortQ l).map pt)), .no, .no, .no, .no] [] = some (.bool c, []) := fun c hc => by
    refine xe_cmp (xe_bi (xes_cons (xe_var rfl) xes_nil) rfl) xe_int ?_
    simp only [cmpV, List.length_map]
    rw [← hc]
    congr 1
    exact decide_eq_decide.mpr (by omega)
  rw [callU_eq K.hull]
  by_cases h3 : (sortQ l).length < 3
  · refine runF_of rfl (run_cons hset (run_last (xs_ite_t (hcond true (decide_eq_true h3)) (run_last (xs_ret (xe_bi (xes_cons (xe_var rfl) xes_nil) ?_))))))
    have hq : hullQ l = sortQ l := by
      unfold hullQ
      split
      · rfl
      · rename_i h2
        cases hs : sortQ l with
        | nil => rfl
        | cons a t =>
          cases t with
          | nil => rw [hs] at h2; exact absurd (by simp) h2
          | cons b t =>
            cases t with
            | nil => rfl
            | cons c t => rw [hs] at h3; simp at h3; omega
    rw [hq]
    rfl
  · obtain ⟨a4, a5, t1⟩ := hull_turn K (n + 1) hk (s0 := .imm d) (s1 := .imm (.list ((sortQ l).map pt))) (s3 := .no) (s4 := .no) (s5 := .no) (f := []) (l := sortQ l) hss (by omega) (by simp)
    have hlow : ((chainL (sortQ l)).reverse.dropLast).length ≤ 1000 := by
      have : ((chainL (sortQ l)).reverse.dropLast).length ≤ (hullQ l).length := by
        unfold hullQ hullL
        rw [if_neg (by omega), List.length_append]
        omega
      have h2 := hull_len (l := l)
      omega
    obtain ⟨b4, b5, t2⟩ := hull_turn K (n + 1) hk (s0 := .imm d) (s1 := .imm (.list ((sortQ l).map pt))) (s3 := .imm (.list ((sortQ l).map pt))) (s4 := a4) (s5 := a5) (f := [] ++ (chainL (sortQ l)).reverse.dropLast) (l := (sortQ l).reverse) (fun x hx => hss x (List.mem_reverse.mp hx)) (by simp; omega) (by simpa using hlow)
    have hq : hullQ l = ([] ++ (chainL (sortQ l)).reverse.dropLast) ++ (chainL (sortQ l).reverse).reverse.dropLast := by
      unfold hullQ hullL
      rw [if_neg (by omega)]
      rfl
    refine runF_of rfl (run_cons hset (run_cons (xs_ite_f (hcond false (decide_eq_false h3)) xss_nil) (run_cons (env1 := [.imm d, .imm (.list ((sortQ l).map pt)), .own [], .no, .no, .no]) (u1 := []) ?_
      (run_cons (env1 := [.imm d, .imm (.list ((sortQ l).map pt)), .own ((hullQ l).map pt), .imm (.list ((sortQ l).reverse.map pt)), b4, b5]) (u1 := []) (run_for (ds := [.list ((sortQ l).map pt), .list ((sortQ l).reverse.map pt)]) (u1 := []) ?_ (by simp) ?_) (run_last (xs_ret (xe_bi (xes_cons (xe_var rfl) xes_nil) rfl)))))))
    · rw [run_set (d := .list []) (u' := []) (xe_lst xes_nil (by simp)), after_t (by rw [within_list_t rfl]; rfl), slotOf_list_t rfl]
      rfl
    · rw [List.map_reverse]
      refine xi_seq (d := .list [.list ((sortQ l).map pt), .list ((sortQ l).map pt).reverse]) (xe_lst (xes_cons (xe_var rfl) (xes_cons (xe_rev_l (xs := (sortQ l).map pt) (xe_var rfl)) xes_nil)) (by simp)) rfl
    · simp only [forL]
      have hfz : (if iterOk (I.seq (E.lst (Es.cons (E.var 1) (Es.cons (E.var 1).rev Es.nil)))) = true then [Slot.imm d, .imm (.list ((sortQ l).map pt)), .own [], .no, .no, .no] else freeze [Slot.imm d, .imm (.list ((sortQ l).map pt)), .own [], .no, .no, .no] (fvI (I.seq (E.lst (Es.cons (E.var 1) (Es.cons (E.var 1).rev Es.nil)))))) = [Slot.imm d, .imm (.list ((sortQ l).map pt)), .own ([].map pt), .no, .no, .no] := rfl
      rw [hfz]
      refine Eq.trans (congrArg (fun o : Option O => o.bind _) t1) ?_
      simp only [Option.bind_some]
      refine Eq.trans (congrArg (fun o : Option O => o.bind _) t2) ?_
      simp only [Option.bind_some, ← hq]
end
end Pl

/-! PR14: the laws' own areas and middles (dialect a). -/
namespace Pl
open PySem (PyData Str)
theorem rng_get {lo hi : Int} {i : Nat} {d : D} (h : (rangeL lo hi)[i]? = some d) : i < (hi - lo).toNat ∧ d = .int (lo + (i : Int)) := by
  unfold rangeL at h
  rw [List.getElem?_map] at h
  obtain ⟨j, h1, h2⟩ := Option.map_eq_some_iff.mp h
  obtain ⟨h3, h4⟩ := List.getElem?_eq_some_iff.mp h1
  rw [List.getElem_range] at h4
  rw [List.length_range] at h3
  subst h4
  exact ⟨h3, h2.symm⟩
theorem rng_len (lo hi : Int) : (rangeL lo hi).length = (hi - lo).toNat := by unfold rangeL; rw [List.length_map, List.length_range]
theorem path_take {g : Q2 → Q2 → Rat} : ∀ {t : List Q2} {i : Nat} {a b : Q2}, t[i]? = some a → t[i + 1]? = some b → path g (t.take (i + 2)) = path g (t.take (i + 1)) + g a b
  | [], i, a, b, h, _ => by simp at h
  | [x], 0, a, b, h, k => by simp at k
  | x :: y :: t, 0, a, b, h, k => by
    simp at h k
    subst h k
    simp only [List.take_succ_cons, List.take_zero, path]
    grind
  | [x], i + 1, a, b, h, k => by simp at h
  | x :: y :: t, i + 1, a, b, h, k => by
    have ih := path_take (g := g) (t := y :: t) (i := i) (a := a) (b := b) (by simpa using h) (by simpa using k)
    rw [List.take_succ_cons, List.take_succ_cons, List.take_succ_cons, List.take_succ_cons]
    rw [List.take_succ_cons, List.take_succ_cons] at ih
    simp only [path]
    rw [ih]
    grind
theorem path_bq {g : Q2 → Q2 → Rat} {c : Nat} {d : Int} : ∀ {l : List Q2}, (∀ a ∈ l, ∀ b ∈ l, Bq c d (g a b)) → Bq (c + l.length) d (path g l)
  | [], _ => Bq.zero _ _
  | [a], _ => Bq.zero _ _
  | a :: b :: t, h => by
    have ih := path_bq (l := b :: t) fun x hx y hy => h x (List.mem_cons_of_mem _ hx) y (List.mem_cons_of_mem _ hy)
    have h1 := h a (by simp) b (by simp)
    simp only [path]
    exact ((h1.mono (Nat.le_add_right c (b :: t).length)).add ih).mono (by simp only [List.length_cons]; omega)
theorem path_lin {g h : Q2 → Q2 → Rat} {c : Rat} : ∀ (l : List Q2), path (fun a b => g a b + c * h a b) l = path g l + c * path h l
  | [] => by simp only [path]; grind
  | [a] => by simp only [path]; grind
  | a :: b :: t => by
    have ih := path_lin (g := g) (h := h) (c := c) (b :: t)
    simp only [path] at ih ⊢
    rw [ih]
    grind
def stX (f a b : Q2) : Rat := fanC f a b * (add2 (sub2 a f) (sub2 b f)).1
def stY (f a b : Q2) : Rat := fanC f a b * (add2 (sub2 a f) (sub2 b f)).2
theorem fanX_st (f : Q2) (l : List Q2) : path (fanX f) l = path (stX f) l + 3 * f.1 * path (fanC f) l := by
  rw [← path_lin]
  congr 1
  funext a b
  unfold fanX stX add2 sub2
  grind
theorem fanY_st (f : Q2) (l : List Q2) : path (fanY f) l = path (stY f) l + 3 * f.2 * path (fanC f) l := by
  rw [← path_lin]
  congr 1
  funext a b
  unfold fanY stY add2 sub2
  grind
theorem atI_pts {l : List Q2} {i : Nat} {a : Q2} (h : l[i]? = some a) : atI (l.map pt) (i : Int) = some (pt a) := by
  rw [atI_nat, List.getElem?_map, h]
  rfl
structure KnSz (G : Prog) : Prop extends KnW G where
  add : G.T "_law_add" = some p__law_add
structure KnMid (G : Prog) : Prop extends KnSz G where
  on : G.T "_law_on" = some p__law_on
  by_ : G.T "_law_by" = some p__law_by
  mid : G.T "_law_middle" = some p__law_middle__b
section
variable {G : Prog}
abbrev T3x (P : List Q2) : D := .tuple (P.map pt)
theorem fan_bq {k : Nat} {d : Int} {f a b : Q2} (hf : Bp k d f) (ha : Bp k d a) (hb : Bp k d b) : Bq (2 * k + 3) (d * d) (fanC f a b) :=
  ((ha.sub hf).crs (hb.sub hf)).mono (by omega)
theorem st_bp {k : Nat} {d : Int} {f a b : Q2} (hf : Bp k d f) (ha : Bp k d a) (hb : Bp k d b) : Bq (3 * k + 5) (d * d * d) (stX f a b) ∧ Bq (3 * k + 5) (d * d * d) (stY f a b) := by
  have h1 := fan_bq hf ha hb
  have h2 := (ha.sub hf).add (hb.sub hf)
  exact ⟨(h1.mul h2.x).mono (by omega), (h1.mul h2.y).mono (by omega)⟩
end
end Pl

/-! PR15: the laws' own middles (dialect a). -/
namespace Pl
open PySem (PyData Str)
section
variable {G : Prog}
theorem zero_pt : (T3 0 0 1 : D) = pt (0, 0) := by
  have h := n3_pt (x := 0) (y := 0) (w := 1) (p := (0, 0)) (by decide) (by simp) (by simp)
  obtain ⟨a, b, c⟩ := h
  unfold pt
  rw [← a, ← b, ← c]
  rfl
theorem l_middle (K : KnMid G) (n : Nat) {P : List Q2} {k : Nat} {d : Int} (hb : ∀ p ∈ P, Bp k d p) (h0 : 0 < d) (sd : Sm k d) (hk : k ≤ 300) (hl : P.length ≤ 30) (ha : 0 < shoe P) :
    callU G (n + 5) "_law_middle" [.tuple (P.map pt)] [] = some (pt (midQ P), []) := by
  cases P with
  | nil => exact absurd ha Rat.lt_irrefl
  | cons f t =>
  have hf := hb f List.mem_cons_self
  have ht : ∀ p ∈ t, Bp k d p := fun p hp => hb p (List.mem_cons_of_mem _ hp)
  have sz : ∀ p ∈ f :: t, SzP k p := fun p hp => by have := (hb p hp).szP h0 sd; rwa [Nat.max_self] at this
  have dd : 0 < d * d := Int.mul_pos h0 h0
  have sdd : Sm (k + k) (d * d) := sd.mul sd
  have ddd : 0 < d * d * d := Int.mul_pos dd h0
  have sddd : Sm (k + k + k) (d * d * d) := sdd.mul sd
  have hlt : ∀ i, (t.take i).length ≤ t.length := fun i => List.length_take_le' _ _
  have hpath : ∀ i, SzF (3 * k + 40) (path (fanC f) (t.take i)) := fun i => by
    have h1 := path_bq (g := fanC f) (c := 2 * k + 3) (d := d * d) (l := t.take i) fun a ha b hb' => fan_bq hf (ht a (List.mem_of_mem_take ha)) (ht b (List.mem_of_mem_take hb'))
    have h2 := hlt i
    exact (h1.szF dd sdd).mono (by simp at hl; omega)
  have hstep : ∀ i, SzP (3 * k + 40) (path (stX f) (t.take i), path (stY f) (t.take i)) := fun i => by
    have h1 := path_bq (g := stX f) (c := 3 * k + 5) (d := d * d * d) (l := t.take i) fun a ha b hb' => (st_bp hf (ht a (List.mem_of_mem_take ha)) (ht b (List.mem_of_mem_take hb'))).1
    have h1' := path_bq (g := stY f) (c := 3 * k + 5) (d := d * d * d) (l := t.take i) fun a ha b hb' => (st_bp hf (ht a (List.mem_of_mem_take ha)) (ht b (List.mem_of_mem_take hb'))).2
    have h2 := hlt i
    exact ((Bp.mk h1 h1').szP ddd sddd).mono (by simp at hl; omega)
  obtain ⟨env', u', hfor, x3, x4, x5, x6, e1, e2⟩ := forL_ix (step := fun dd env u => (bindT (.one 3) dd env).bind fun env' => execSs (ctxN G (n + 4)) G.ff (forBody p__law_middle__b.body) env' u)
    (I := fun i env u => ∃ x3 x4 x5 x6, env = [.imm (.tuple ((f :: t).map pt)), .imm (fr (path (fanC f) (t.take (i + 1)))), .imm (pt (path (stX f) (t.take (i + 1)), path (stY f) (t.take (i + 1)))), x3, x4, x5, x6] ∧ u = []) (ds := rangeL 1 (((f :: t).length : Int) - 1))
    (env := [.imm (.tuple ((f :: t).map pt)), .imm (fr 0), .imm (pt (0, 0)), .no, .no, .no, .no]) (u := [])
    (fun i dd hd env u ⟨x3, x4, x5, x6, h1, h2⟩ => by
      subst h1 h2
      obtain ⟨hi, rfl⟩ := rng_get hd
      have hi2 : i + 1 < t.length := by simp at hi; omega
      obtain ⟨a, ha⟩ : ∃ a, t[i]? = some a := ⟨_, List.getElem?_eq_getElem (by omega)⟩
      obtain ⟨b, hb'⟩ : ∃ b, t[i + 1]? = some b := ⟨_, List.getElem?_eq_getElem hi2⟩
      have am : a ∈ f :: t := List.mem_cons_of_mem _ (List.mem_of_getElem? ha)
      have bm : b ∈ f :: t := List.mem_cons_of_mem _ (List.mem_of_getElem? hb')
      have g0 : atI ((f :: t).map pt) 0 = some (pt f) := rfl
      have g1 : atI ((f :: t).map pt) (1 + (i : Int)) = some (pt a) := by
        rw [show (1 + (i : Int)) = ((i + 1 : Nat) : Int) by omega]
        exact atI_pts (by simpa using ha)
      have g2 : atI ((f :: t).map pt) (1 + (i : Int) + 1) = some (pt b) := by
        rw [show (1 + (i : Int) + 1) = ((i + 2 : Nat) : Int) by omega]
        exact atI_pts (by simpa using hb')
      have w1 := l_way K.toKnW n (sz f (by simp)) (sz a am) (by omega)
      have w2 := l_way K.toKnW n (sz f (by simp)) (sz b bm) (by omega)
      have sa := szP_sub (sz a am) (sz f (by simp))
      have sb := szP_sub (sz b bm) (sz f (by simp))
      have c1 := l_cross K.toKnW n sa sb (by omega)
      have fz : SzF (3 * k + 40) (fanC f a b) := ((fan_bq hf (hb a am) (hb b bm)).szF dd sdd).mono (by omega)
      have a1 := l_add K.toKnF K.add n (hpath (i + 1)) fz (by omega)
      have o1 := l_on K.toKnF K.on n sa sb (by omega)
      have so : SzP (3 * k + 40) (add2 (sub2 a f) (sub2 b f)) := (((((hb a am).sub hf).add ((hb b bm).sub hf)).szP h0 sd)).mono (by omega)
      have b1 := l_by K.toKnF K.by_ n so fz (by omega)
      have sst : SzP (3 * k + 40) (smul (fanC f a b) (add2 (sub2 a f) (sub2 b f))) := by
        obtain ⟨h1, h2⟩ := st_bp hf (hb a am) (hb b bm)
        exact ((Bp.mk (p := smul (fanC f a b) (add2 (sub2 a f) (sub2 b f))) h1 h2).szP ddd sddd).mono (by omega)
      have o2 := l_on K.toKnF K.on n (hstep (i + 1)) sst (by omega)
      rw [show crs (sub2 a f) (sub2 b f) = fanC f a b from rfl] at c1
      rw [← path_take ha hb'] at a1
      have hadd : add2 (path (stX f) (t.take (i + 1)), path (stY f) (t.take (i + 1))) (smul (fanC f a b) (add2 (sub2 a f) (sub2 b f))) = (path (stX f) (t.take (i + 2)), path (stY f) (t.take (i + 2))) := by
        rw [path_take ha hb', path_take ha hb']
        rfl
      rw [hadd] at o2
      generalize hP : ((f :: t).map pt) = L at *
      generalize hc0 : path (fanC f) (t.take (i + 1)) = c0 at *
      generalize hs0 : (path (stX f) (t.take (i + 1)), path (stY f) (t.take (i + 1))) = st0 at *
      generalize hs1 : (path (stX f) (t.take (i + 2)), path (stY f) (t.take (i + 2))) = st1 at *
      refine ⟨[.imm (.tuple L), .imm (fr (path (fanC f) (t.take (i + 2)))), .imm (pt st1), .imm (.int (1 + (i : Int))), .imm (pt (sub2 a f)), .imm (pt (sub2 b f)), .imm (fr (fanC f a b))], [], ?_, _, _, _, _, rfl, rfl⟩
      rw [show bindT (.one 3) (.int (1 + (i : Int))) [.imm (.tuple L), .imm (fr c0), .imm (pt st0), x3, x4, x5, x6] = some [.imm (.tuple L), .imm (fr c0), .imm (pt st0), .imm (.int (1 + (i : Int))), x4, x5, x6] from rfl, Option.bind_some]
      simp [forBody, p__law_middle__b, g0, g1, g2, ctx_fn K.way rfl, ctx_fn K.cross rfl, ctx_fn K.add rfl, ctx_fn K.on rfl, ctx_fn K.by_ rfl, w1, w2, c1, a1, o1, b1, o2])
    ⟨.no, .no, .no, .no, by
      rw [show path (fanC f) (t.take (0 + 1)) = 0 by cases t <;> simp [path], show path (stX f) (t.take (0 + 1)) = 0 by cases t <;> simp [path], show path (stY f) (t.take (0 + 1)) = 0 by cases t <;> simp [path]], rfl⟩
  subst e1 e2
  have hfin : t.take ((rangeL 1 (((f :: t).length : Int) - 1)).length + 1) = t := by
    rw [rng_len]
    apply List.take_of_length_le
    simp
    omega
  rw [hfin] at hfor
  have hS : path (fanC f) t = shoe (f :: t) := (shoe_fan f t).symm
  have sS : SzF (3 * k + 40) (shoe (f :: t)) := by rw [← hS]; have := hpath t.length; rwa [List.take_length] at this
  have sT : SzP (3 * k + 40) (path (stX f) t, path (stY f) t) := by have := hstep t.length; rwa [List.take_length] at this
  have hmid : midQ (f :: t) = add2 f (smul (1 / (3 * shoe (f :: t))) (path (stX f) t, path (stY f) t)) := by
    have hs := rne0 ha
    unfold midQ add2 smul
    rw [momx_fan, momy_fan, fanX_st, fanY_st, hS]
    have h3 : (3 : Rat) * shoe (f :: t) ≠ 0 := by grind
    exact Prod.ext (by grind) (by grind)
  rw [hS] at hfor
  generalize hq : shoe (f :: t) = q at *
  generalize hst : (path (stX f) t, path (stY f) t) = st at *
  have nd := num_den q
  have np : 0 < q.num := num_pos.mpr ha
  have three : ((3 : Int) : Rat) = 3 := rfl
  have hs := rne0 ha
  have s3 : Sm (2 + (3 * k + 40)) (3 * q.num) := Sm.mul (j := 2) (sm_lit (by decide)) sS.x
  have p3 : 0 < 3 * q.num := Int.mul_pos (by decide) np
  have e3 : ((q.den : Int) : Rat) = (1 / (3 * q)) * ((3 * q.num : Int) : Rat) := by
    rw [Rat.intCast_mul, nd, three]
    have h3 : (3 : Rat) * q ≠ 0 := by grind
    grind
  have efr := l_frac K.toKnF (n + 1) (x := (q.den : Int)) (y := 3 * q.num) (q := 1 / (3 * q)) (k := 3 * k + 42) p3 e3 (sS.y.mono (by omega)) (s3.mono (by omega)) (by omega)
  have sF : SzF (3 * k + 42) (1 / (3 * q)) := szF_of p3 e3 (sS.y.mono (by omega)) (s3.mono (by omega))
  have b1 := l_by K.toKnF K.by_ n (sT.mono (show 3 * k + 40 ≤ 3 * k + 42 by omega)) sF (by omega)
  have o1 := l_on K.toKnF K.on n (k := 3 * k + 42 + (3 * k + 42)) ((sz f (by simp)).mono (by omega)) (szP_smul (sT.mono (show 3 * k + 40 ≤ 3 * k + 42 by omega)) sF) (by omega)
  rw [← hmid] at o1
  have m2 : mulOk 3 q.num = true := mulOk_of (j := 20) (sm_lit (by decide)) sS.x (by decide) (by omega)
  have g0 : atI ((f :: t).map pt) 0 = some (pt f) := rfl
  rw [callU_eq K.mid]
  refine runF_of rfl (run_cons (env1 := [.imm (.tuple ((f :: t).map pt)), .imm (fr 0), .imm (pt (0, 0)), .no, .no, .no, .no]) (u1 := []) ?_ (run_cons (run_for (ds := rangeL 1 (((f :: t).length : Int) - 1)) (u1 := []) ?_ ?_ hfor) (run_last ?_)))
  · rw [← zero_pt]
    rfl
  · have hl2 : evalE (ctxN G (n + 4)) (.bin .sub (.bi .len (.cons (.var 0) .nil)) (.lit (.int 1))) [.imm (.tuple ((f :: t).map pt)), .imm (fr 0), .imm (pt (0, 0)), .no, .no, .no, .no] [] = some (.int (((f :: t).length : Int) - 1), []) := by simp
    have h1 : evalE (ctxN G (n + 4)) (.lit (.int 1)) [.imm (.tuple ((f :: t).map pt)), .imm (fr 0), .imm (pt (0, 0)), .no, .no, .no, .no] [] = some (.int 1, []) := rfl
    simp only [evalI, h1, hl2, Option.bind_some, rng2]
    rw [if_pos (by simp only [intOk, Bool.and_eq_true, decide_eq_true_eq]; omega)]
    rfl
  · rw [rng_len]; omega
  · generalize ((f :: t).map pt) = L at *
    simp [g0, ctx_fn K.frac rfl, ctx_fn K.by_ rfl, ctx_fn K.on rfl, efr, b1, o1, m2]
end
end Pl

/-! PR16: the laws' drawn sections (dialect a). -/
namespace Pl
open PySem (PyData Str)
theorem compL_any {α : Type} {g : α → D} {step : D → U → Option (Option D × U)} {P : α → Prop} : ∀ {ds : List D} {u : U}, (∀ d ∈ ds, ∀ u, Pot u → ∃ a u', step d u = some (some (g a), u') ∧ P a ∧ Pot u') → Pot u → ∃ (as : List α) (u' : U), compL step ds u = some (as.map g, u') ∧ as.length = ds.length ∧ (∀ a ∈ as, P a) ∧ Pot u'
  | [], u, _, h => ⟨[], u, rfl, rfl, by simp, h⟩
  | d :: ds, u, hs, h => by
    obtain ⟨a, u1, e1, p1, h1⟩ := hs d List.mem_cons_self u h
    obtain ⟨as, u2, e2, hl, p2, h2⟩ := compL_any (ds := ds) (fun d hd => hs d (List.mem_cons_of_mem _ hd)) h1
    refine ⟨a :: as, u2, ?_, by simp [hl], fun b hb => ?_, h2⟩
    · unfold compL
      rw [e1]
      show (compL step ds u1).bind _ = _
      rw [e2]
      rfl
    · rcases List.mem_cons.mp hb with rfl | hb
      · exact p1
      · exact p2 b hb
section
variable {G : Prog} (K : KnU G)
include K
end
/-- pairs that stand in a slot -/
def HoldsZ (s : Slot) (zs : List Z2) : Prop := s = .own (zs.map pr) ∨ s = .imm (.list (zs.map pr))
theorem HoldsZ.get {s : Slot} {zs : List Z2} (h : HoldsZ s zs) : (match (some s : Option Slot) with | some (.imm d) => some d | some (.own ds) => some (PyData.list ds) | _ => none) = some (.list (zs.map pr)) := by
  rcases h with h | h <;> subst h <;> rfl
structure KnPlt (G : Prog) : Prop extends KnO G, KnU G where
  plate : G.T "_law_plate" = some p__law_plate
def SmallZ (zs : List Z2) : Prop := ∀ z ∈ zs, SmZ 6 z
theorem sm6 {x : Int} (h : -40 ≤ x) (k : x ≤ 40) : Sm 6 x := by unfold Sm; omega
abbrev pS (i : Nat) : S := match i, p__law_plate.body with
  | 0, .cons s _ => s
  | 1, .cons _ (.cons s _) => s
  | 2, .cons _ (.cons _ (.cons s _)) => s
  | 3, .cons _ (.cons _ (.cons _ (.cons s _))) => s
  | _, _ => .pass
/-- the branches of an if -/
def thenOf : S → Ss | .ite _ a _ => a | _ => .nil
def elseOf : S → Ss | .ite _ _ b => b | _ => .nil
def headOf : Ss → S | .cons s _ => s | .nil => .pass
section
variable {G : Prog} (K : KnPlt G)
include K
theorem plate_0 (N : Nat) {kd ov : Int} {u : U} (hu : Pot u) : ∃ zs S3 u', execSs (ctxN G (N + 2)) G.ff (thenOf (pS 1)) [.no, .imm (.int kd), .imm (.int ov), .no, .no, .no, .no, .no, .no, .no, .no, .no, .no] u = some (.nx [.no, .imm (.int kd), .imm (.int ov), S3, .no, .no, .no, .no, .no, .no, .no, .no, .no] u') ∧ HoldsZ S3 zs ∧ SmallZ zs ∧ zs.length ≤ 8 ∧ Pot u' := by
  obtain ⟨a, u1, e1, a1, a2, h1⟩ := c_pull K.toKnU (N + 1) hu (m := 4) (by decide) (sm_lit (by decide))
  obtain ⟨b, u2, e2, b1, b2, h2⟩ := c_pull K.toKnU (N + 1) h1 (m := 4) (by decide) (sm_lit (by decide))
  obtain ⟨c, u3, e3, c1, c2, h3⟩ := c_pull K.toKnU (N + 1) h2 (m := 3) (by decide) (sm_lit (by decide))
  have small : SmallZ [(0, 0), (1 + a, 0), (0, 1 + b), (1 + a, 1 + b)] := fun z hz => by
    simp only [List.mem_cons, List.not_mem_nil, or_false] at hz
    rcases hz with rfl | rfl | rfl | rfl <;> exact ⟨sm6 (by simp <;> omega) (by simp <;> omega), sm6 (by simp <;> omega) (by simp <;> omega)⟩
  by_cases hc : 0 < c
  · refine ⟨[(0, 0), (1 + a, 0), (0, 1 + b), (1 + a, 1 + b)], .imm (.list ([(0, 0), (1 + a, 0), (0, 1 + b), (1 + a, 1 + b)].map pr)), u3, ?_, .inr rfl, small, by simp, h3⟩
    refine run_cons (env1 := [.no, .imm (.int kd), .imm (.int ov), .own ([(0, 0), (1 + a, 0), (0, 1 + b)].map pr), .no, .no, .no, .no, .no, .no, .no, .no, .no]) (u1 := u2) ?_ (run_cons ?_ xss_nil)
    · simp [ctx_ufn K.pull rfl, e1, e2] <;> rfl
    · simp [ctx_ufn K.pull rfl, e3, hc] <;> rfl
  · refine ⟨[(0, 0), (1 + a, 0), (0, 1 + b)], .imm (.list ([(0, 0), (1 + a, 0), (0, 1 + b)].map pr)), u3, ?_, .inr rfl, fun z hz => small z (by simp at hz ⊢; rcases hz with h | h | h <;> simp [h]), by simp, h3⟩
    refine run_cons (env1 := [.no, .imm (.int kd), .imm (.int ov), .own ([(0, 0), (1 + a, 0), (0, 1 + b)].map pr), .no, .no, .no, .no, .no, .no, .no, .no, .no]) (u1 := u2) ?_ (run_cons ?_ xss_nil)
    · simp [ctx_ufn K.pull rfl, e1, e2] <;> rfl
    · simp [ctx_ufn K.pull rfl, e3, hc] <;> rfl
theorem plate_1 (N : Nat) {kd ov : Int} {u : U} (hu : Pot u) : ∃ zs S3 s4 s5 s6 u', execSs (ctxN G (N + 2)) G.ff (thenOf (headOf (elseOf (pS 1)))) [.no, .imm (.int kd), .imm (.int ov), .no, .no, .no, .no, .no, .no, .no, .no, .no, .no] u = some (.nx [.no, .imm (.int kd), .imm (.int ov), S3, s4, s5, s6, .no, .no, .no, .no, .no, .no] u') ∧ HoldsZ S3 zs ∧ SmallZ zs ∧ zs.length ≤ 8 ∧ Pot u' := by
  obtain ⟨a, u1, e1, a1, a2, h1⟩ := c_num K.toKnU N hu (h := 2) (by decide) (sm_lit (by decide))
  obtain ⟨x, u2, e2, hx, h2⟩ := c_any K.toKnU N (xs := [.int 1, .int 1, .int 2]) h1 (by simp) (by simp)
  obtain ⟨b, rfl, b1, b2⟩ : ∃ b : Int, x = .int b ∧ 1 ≤ b ∧ b ≤ 2 := by
    simp at hx
    rcases hx with h | h <;> exact ⟨_, h, by decide, by decide⟩
  obtain ⟨bits, u3, e3, l3, p3, h3⟩ := compL_any (α := Int) (g := .int) (P := fun _ => True) (ds := rangeL 0 9)
    (step := fun d u => (bindT (.one 7) d (wipe [.no, .imm (.int kd), .imm (.int ov), .no, .imm (.int a), .imm (.int b), .no, .no, .no, .no, .no, .no, .no] [7])).bind fun env' => (evalC (ctxN G (N + 2)) .no env' u).bind fun rc =>
        if rc.1 = true then (evalE (ctxN G (N + 2)) (.ucall "_law_pull" (.cons (.lit (.int 4)) .nil)) env' rc.2).bind fun re => some (some re.1, re.2) else some (none, rc.2))
    (fun d _ u hu => by
      obtain ⟨c, u', e, _, _, hp⟩ := c_pull K.toKnU (N + 1) hu (m := 4) (by decide) (sm_lit (by decide))
      exact ⟨c, u', by simp [ctx_ufn K.pull rfl, e], trivial, hp⟩) h2
  have l9 : bits.length = 9 := by rw [l3]; rfl
  have hcomp1 := eval_comp (C := ctxN G (N + 2)) (elt := .ucall "_law_pull" (.cons (.lit (.int 4)) .nil)) (t := .one 7) (it := .range1 (.lit (.int 9))) (cond := .no) (own := [7])
    (env := [.no, .imm (.int kd), .imm (.int ov), .no, .imm (.int a), .imm (.int b), .no, .no, .no, .no, .no, .no, .no]) (u := u2) (u1 := u2) (u2 := u3) (ds := rangeL 0 9) (rs := bits.map .int) (xi_range1 xe_int (by decide)) (by decide) e3
  have hget : ∀ i < 9, ∃ c : Int, bits[i]? = some c := fun i hi => ⟨_, List.getElem?_eq_getElem (by omega)⟩
  let cnd : Nat → Bool := fun i => decide (0 < (bits[i]?).getD 0)
  let fz : Nat → Z2 := fun i => ((i : Int) - 4, b * ((i : Int) - 4) * ((i : Int) - 4) + a * ((i : Int) - 4))
  have hfz : ∀ i < 9, SmZ 6 (fz i) := fun i hi => by
    have : i = 0 ∨ i = 1 ∨ i = 2 ∨ i = 3 ∨ i = 4 ∨ i = 5 ∨ i = 6 ∨ i = 7 ∨ i = 8 := by omega
    rcases this with rfl | rfl | rfl | rfl | rfl | rfl | rfl | rfl | rfl <;> exact ⟨sm6 (by simp [fz] <;> omega) (by simp [fz] <;> omega), sm6 (by simp [fz] <;> omega) (by simp [fz] <;> omega)⟩
  have hr9 : rangeL 0 9 = (List.range 9).map fun (i : Nat) => PyData.int (0 + (i : Int)) := rfl
  have hcomp2 := eval_comp (C := ctxN G (N + 2)) (elt := (.tup (.cons (.bin .sub (.var 8) (.lit (.int 4))) (.cons (.bin .add (.bin .mul (.bin .mul (.var 5) (.bin .sub (.var 8) (.lit (.int 4)))) (.bin .sub (.var 8) (.lit (.int 4)))) (.bin .mul (.var 4) (.bin .sub (.var 8) (.lit (.int 4))))) .nil)))) (t := .one 8) (it := .range1 (.lit (.int 9)))
    (cond := .yes (.cmp .gt (.idx (.var 6) (.var 8)) (.lit (.int 0)))) (own := [8])
    (env := [.no, .imm (.int kd), .imm (.int ov), .no, .imm (.int a), .imm (.int b), .own (bits.map .int), .no, .no, .no, .no, .no, .no]) (u := u3) (u1 := u3) (u2 := u3) (ds := rangeL 0 9) (rs := ((List.range 9).filter cnd).map fun i => pr (fz i)) (xi_range1 xe_int (by decide)) (by decide)
    (by
      rw [hr9]
      refine compL_filt fun i hi => ?_
      have hi9 : i < 9 := List.mem_range.mp hi
      obtain ⟨c, hc⟩ := hget i hi9
      have s4 : Sm 5 ((i : Int) - 4) := by unfold Sm; omega
      have sb : Sm 5 b := by unfold Sm; omega
      have sa : Sm 5 a := by unfold Sm; omega
      have m1 : mulOk b ((i : Int) - 4) = true := mulOk_of sb s4 (by decide) (by decide)
      have m2 : mulOk (b * ((i : Int) - 4)) ((i : Int) - 4) = true := mulOk_of (sb.mul s4) s4 (by decide) (by decide)
      have m3 : mulOk a ((i : Int) - 4) = true := mulOk_of sa s4 (by decide) (by decide)
      by_cases h0 : 0 < c
      · simp [cnd, fz, hc, h0, m1, m2, m3]
      · simp [cnd, fz, hc, h0])
  have hcut : ∀ L : List D, cut L none (some 8) = L.take 8 := fun L => by
    have e : sIx L.length L.length (some 8) = min 8 L.length := by
      show (if (8 : Int) < 0 then ((8 : Int) + L.length).toNat else min (8 : Int).toNat L.length) = _
      rw [if_neg (by decide)]
      rfl
    have e2 : sIx L.length 0 none = 0 := rfl
    unfold cut
    rw [e, e2, List.drop_zero, Nat.sub_zero]
    by_cases h : L.length ≤ 8
    · rw [Nat.min_eq_right h, List.take_length, List.take_of_length_le h]
    · rw [Nat.min_eq_left (by omega)]
  refine ⟨(((List.range 9).filter cnd).map fz).take 8, .own (((((List.range 9).filter cnd).map fz).take 8).map pr), .imm (.int a), .imm (.int b), .own (bits.map .int), u3, ?_, .inl rfl, fun z hz => ?_, List.length_take_le _ _, h3⟩
  · refine run_cons (env1 := [.no, .imm (.int kd), .imm (.int ov), .no, .imm (.int a), .imm (.int b), .no, .no, .no, .no, .no, .no, .no]) (u1 := u2) ?_ (run_cons (env1 := [.no, .imm (.int kd), .imm (.int ov), .no, .imm (.int a), .imm (.int b), .own (bits.map .int), .no, .no, .no, .no, .no, .no]) (u1 := u3) ?_ (run_cons ?_ xss_nil))
    · simp [ctx_ufn K.num rfl, ctx_ufn K.any rfl, e1, e2]
    · rw [run_set hcomp1, after_t (by rw [within_list_t rfl]; exact noListAll_ints _), slotOf_list_t rfl]
      rfl
    · have hs := xe_sli (lo := .no) (hi := .yes (.lit (.int 8))) hcomp2 xo_no xo_int (d := .list (((((List.range 9).filter cnd).map fz).take 8).map pr)) (by
        simp only [sliV]
        rw [hcut, List.map_take, List.map_map]
        rfl)
      rw [run_set hs, after_t (by rw [within_list_t rfl]; exact noListAll_pr _), slotOf_list_t rfl]
      rfl
  · obtain ⟨i, hi, rfl⟩ := List.mem_map.mp (List.mem_of_mem_take hz)
    exact hfz i (List.mem_range.mp (List.mem_filter.mp hi).1)
theorem plate_2 (N : Nat) {kd ov : Int} {u : U} (hu : Pot u) : ∃ zs S3 s9 u', execSs (ctxN G (N + 2)) G.ff (elseOf (headOf (elseOf (pS 1)))) [.no, .imm (.int kd), .imm (.int ov), .no, .no, .no, .no, .no, .no, .no, .no, .no, .no] u = some (.nx [.no, .imm (.int kd), .imm (.int ov), S3, .no, .no, .no, .no, .no, s9, .no, .no, .no] u') ∧ HoldsZ S3 zs ∧ SmallZ zs ∧ zs.length ≤ 8 ∧ Pot u' := by
  obtain ⟨x, u1, e1, hx, h1⟩ := c_any K.toKnU N (xs := [.int 1, .int 2, .int 3, .int 5, .int 9]) hu (by simp) (by simp)
  obtain ⟨b, rfl, b1, b2⟩ : ∃ b : Int, x = .int b ∧ 1 ≤ b ∧ b ≤ 9 := by
    simp at hx
    rcases hx with h | h | h | h | h <;> exact ⟨_, h, by decide, by decide⟩
  obtain ⟨m, u2, e2, m1, m2, h2⟩ := c_pull K.toKnU (N + 1) h1 (m := 6) (by decide) (sm_lit (by decide))
  obtain ⟨zs, u3, e3, l3, p3, h3⟩ := compL_any (α := Z2) (g := pr) (P := SmZ 6) (ds := rangeL 0 (3 + m))
    (step := fun d u => (bindT (.one 7) d (wipe [.no, .imm (.int kd), .imm (.int ov), .no, .no, .no, .no, .no, .no, .imm (.int b), .no, .no, .no] [7])).bind fun env' => (evalC (ctxN G (N + 2)) .no env' u).bind fun rc =>
        if rc.1 = true then (evalE (ctxN G (N + 2)) (.tup (.cons (.ucall "_law_num" (.cons (.var 9) .nil)) (.cons (.ucall "_law_num" (.cons (.var 9) .nil)) .nil))) env' rc.2).bind fun re => some (some re.1, re.2) else some (none, rc.2))
    (fun d _ u hu => by
      obtain ⟨y, u', e, y1, y2, hp⟩ := c_num K.toKnU N hu (h := b) (by omega) (by unfold Sm; omega)
      obtain ⟨z, u'', e', z1, z2, hp'⟩ := c_num K.toKnU N hp (h := b) (by omega) (by unfold Sm; omega)
      exact ⟨(y, z), u'', by simp [ctx_ufn K.num rfl, e, e'], ⟨sm6 (by simp; omega) (by simp; omega), sm6 (by simp; omega) (by simp; omega)⟩, hp'⟩) h2
  have hn : zs.length ≤ 8 := by rw [l3, rng_len]; omega
  have hcomp := eval_comp (C := ctxN G (N + 2)) (elt := (.tup (.cons (.ucall "_law_num" (.cons (.var 9) .nil)) (.cons (.ucall "_law_num" (.cons (.var 9) .nil)) .nil)))) (t := .one 7) (it := .range1 (.bin .add (.lit (.int 3)) (.ucall "_law_pull" (.cons (.lit (.int 6)) .nil)))) (cond := .no) (own := [7])
    (env := [.no, .imm (.int kd), .imm (.int ov), .no, .no, .no, .no, .no, .no, .imm (.int b), .no, .no, .no]) (u := u1) (u1 := u2) (u2 := u3) (ds := rangeL 0 (3 + m)) (rs := zs.map pr)
    (xi_range1 (xe_bin xe_int (xe_ucall (xes_cons xe_int xes_nil) (by rw [ctx_ufn K.pull rfl, e2])) rfl) (by simp only [intOk, decide_eq_true_eq]; omega)) (by rw [rng_len]; omega) e3
  refine ⟨zs, .own (zs.map pr), .imm (.int b), u3, ?_, .inl rfl, p3, hn, h3⟩
  refine run_cons (env1 := [.no, .imm (.int kd), .imm (.int ov), .no, .no, .no, .no, .no, .no, .imm (.int b), .no, .no, .no]) (u1 := u1) ?_ (run_cons ?_ xss_nil)
  · simp [ctx_ufn K.any rfl, e1]
  · rw [run_set hcomp, after_t (by rw [within_list_t rfl]; exact noListAll_pr _), slotOf_list_t rfl]
    rfl
/-- a drawn section: a polygon of three to eight corners over a number up to five -/
structure Plate (P : List Q2) : Prop where
  poly : Poly P
  l3 : 3 ≤ P.length
  l8 : P.length ≤ 8
  sz : ∃ w : Int, 0 < w ∧ w ≤ 5 ∧ ∀ p ∈ P, Bp 6 w p
theorem poly_tri : Poly [(0, 0), (2, 0), (1, 1)] := by
  refine ⟨⟨?_, ⟨by simp, ⟨by simp, trivial⟩⟩⟩, fun f t e x hx => ?_, by simp⟩
  · refine List.pairwise_cons.mpr ⟨fun x hx => ?_, by simp⟩
    rw [List.mem_singleton.mp hx]
    unfold ori crs sub2
    simp only
    grind
  · cases e
    simp only [List.mem_cons, List.not_mem_nil, or_false] at hx
    rcases hx with rfl | rfl <;> (rw [Lt2.iff]; left; grind)
theorem pt_whole (x y : Int) : (T3 x y 1 : D) = pt ((x : Rat), (y : Rat)) := by
  have h := n3_pt (x := x) (y := y) (w := 1) (p := ((x : Rat), (y : Rat))) (by decide) (by simp) (by simp)
  obtain ⟨a, b, c⟩ := h
  have g : g3 x y 1 = 1 := by unfold g3; simp
  obtain ⟨d, e, f⟩ := n3_self g
  unfold pt
  rw [← a, ← b, ← c, d, e, f]
theorem l_plate (n : Nat) {u : U} (hu : Pot u) : ∃ P u', callU G (n + 8) "_law_plate" [] u = some (.tuple (P.map pt), u') ∧ Pot u' ∧ Plate P := by
  obtain ⟨kd, u1, e1, k1, k2, h1⟩ := c_pull K.toKnU (n + 6) hu (m := 5) (by decide) (sm_lit (by decide))
  obtain ⟨x, u2, e2, hx, h2⟩ := c_any K.toKnU (n + 5) (xs := [.int 1, .int 1, .int 1, .int 2, .int 3, .int 5]) h1 (by simp) (by simp)
  obtain ⟨ov, rfl, o1, o2⟩ : ∃ b : Int, x = .int b ∧ 0 < b ∧ b ≤ 5 := by
    simp at hx
    rcases hx with h | h | h | h <;> exact ⟨_, h, by decide, by decide⟩
  have hs1 : execS (ctxN G (n + 7)) G.ff (pS 0) (mkEnv p__law_plate []) u = some (.nx [.no, .imm (.int kd), .imm (.int ov), .no, .no, .no, .no, .no, .no, .no, .no, .no, .no] u2) := by
    simp [pS, p__law_plate, mkEnv, ctx_ufn K.pull rfl, ctx_ufn K.any rfl, e1, e2]
  -- the points
  have hs2 : ∃ zs S3 s4 s5 s6 s9 u3, execS (ctxN G (n + 7)) G.ff (pS 1) [.no, .imm (.int kd), .imm (.int ov), .no, .no, .no, .no, .no, .no, .no, .no, .no, .no] u2 = some (.nx [.no, .imm (.int kd), .imm (.int ov), S3, s4, s5, s6, .no, .no, s9, .no, .no, .no] u3) ∧ HoldsZ S3 zs ∧ SmallZ zs ∧ zs.length ≤ 8 ∧ Pot u3 := by
    have c0 : ∀ c, decide (kd = 0) = c → evalE (ctxN G (n + 7)) (.cmp .eq (.var 1) (.lit (.int 0))) [.no, .imm (.int kd), .imm (.int ov), .no, .no, .no, .no, .no, .no, .no, .no, .no, .no] u2 = some (.bool c, u2) := fun c hc => xe_cmp (xe_var rfl) xe_int (by simp [hc])
    have c1 : ∀ c, decide (kd = 1) = c → evalE (ctxN G (n + 7)) (.cmp .eq (.var 1) (.lit (.int 1))) [.no, .imm (.int kd), .imm (.int ov), .no, .no, .no, .no, .no, .no, .no, .no, .no, .no] u2 = some (.bool c, u2) := fun c hc => xe_cmp (xe_var rfl) xe_int (by simp [hc])
    by_cases q0 : kd = 0
    · obtain ⟨zs, S3, u3, e, r⟩ := plate_0 K (n + 5) (kd := kd) (ov := ov) h2
      exact ⟨zs, S3, _, _, _, _, u3, xs_ite_t (c0 true (decide_eq_true q0)) e, r⟩
    · by_cases q1 : kd = 1
      · obtain ⟨zs, S3, s4, s5, s6, u3, e, r⟩ := plate_1 K (n + 5) (kd := kd) (ov := ov) h2
        exact ⟨zs, S3, _, _, _, _, u3, xs_ite_f (c0 false (decide_eq_false q0)) (run_cons (xs_ite_t (c1 true (decide_eq_true q1)) e) xss_nil), r⟩
      · obtain ⟨zs, S3, s9, u3, e, r⟩ := plate_2 K (n + 5) (kd := kd) (ov := ov) h2
        exact ⟨zs, S3, _, _, _, _, u3, xs_ite_f (c0 false (decide_eq_false q0)) (run_cons (xs_ite_f (c1 false (decide_eq_false q1)) e) xss_nil), r⟩
  obtain ⟨zs, S3, s4, s5, s6, s9, u3, es2, hz, hsm, hlen, h3⟩ := hs2
  -- a second half
  have hcut : ∀ L : List D, cut L none (some 8) = L.take 8 := fun L => by
    have e : sIx L.length L.length (some 8) = min 8 L.length := by
      show (if (8 : Int) < 0 then ((8 : Int) + L.length).toNat else min (8 : Int).toNat L.length) = _
      rw [if_neg (by decide)]
      rfl
    have e2 : sIx L.length 0 none = 0 := rfl
    unfold cut
    rw [e, e2, List.drop_zero, Nat.sub_zero]
    by_cases h : L.length ≤ 8
    · rw [Nat.min_eq_right h, List.take_length, List.take_of_length_le h]
    · rw [Nat.min_eq_left (by omega)]
  have hs3 : ∃ zs' S3', execS (ctxN G (n + 7)) G.ff (pS 2) [.no, .imm (.int kd), .imm (.int ov), S3, s4, s5, s6, .no, .no, s9, .no, .no, .no] u3 = some (.nx [.no, .imm (.int kd), .imm (.int ov), S3', s4, s5, s6, .no, .no, s9, .no, .no, .no] u3) ∧ HoldsZ S3' zs' ∧ SmallZ zs' ∧ zs'.length ≤ 8 := by
    have c3 : ∀ c, decide (3 < kd) = c → evalE (ctxN G (n + 7)) (.cmp .gt (.var 1) (.lit (.int 3))) [.no, .imm (.int kd), .imm (.int ov), S3, s4, s5, s6, .no, .no, s9, .no, .no, .no] u3 = some (.bool c, u3) := fun c hc => xe_cmp (xe_var rfl) xe_int (by simp [hc])
    by_cases q3 : 3 < kd
    · have hv : getV [.no, .imm (.int kd), .imm (.int ov), S3, s4, s5, s6, .no, .no, s9, .no, .no, .no] 3 = some (.list (zs.map pr)) := hz.get
      have hcomp := eval_comp (C := ctxN G (n + 7)) (elt := (.tup (.cons (.neg (.var 10)) (.cons (.neg (.var 11)) .nil)))) (t := .many [10, 11]) (it := .seq (.var 3)) (cond := .no) (own := [10, 11])
        (env := [.no, .imm (.int kd), .imm (.int ov), S3, s4, s5, s6, .no, .no, s9, .no, .no, .no]) (u := u3) (u1 := u3) (u2 := u3) (ds := zs.map pr) (rs := zs.map fun z => pr (-z.1, -z.2)) (xi_seq (xe_var hv) rfl) (by simp; omega)
        (compL_of fun z _ => by simp)
      have hs := xe_sli (lo := .no) (hi := .yes (.lit (.int 8))) (xe_bin (o := .add) (xe_var (C := ctxN G (n + 7)) (u := u3) hv) hcomp (d := .list ((zs ++ zs.map fun z => (-z.1, -z.2)).map pr)) (by
        simp only [binV]
        rw [if_pos (show sizeOk _ = true from decide_eq_true (by simp; omega)), List.map_append, List.map_map]
        rfl)) xo_no xo_int (d := .list (((zs ++ zs.map fun z => (-z.1, -z.2)).take 8).map pr)) (by
        simp only [sliV]
        rw [hcut, List.map_take])
      refine ⟨(zs ++ zs.map fun z => (-z.1, -z.2)).take 8, .own (((zs ++ zs.map fun z => (-z.1, -z.2)).take 8).map pr), xs_ite_t (c3 true (decide_eq_true q3)) (run_cons ?_ xss_nil), .inl rfl, fun z hz => ?_, List.length_take_le _ _⟩
      · rw [run_set hs, after_t (by rw [within_list_t rfl]; exact noListAll_pr _), slotOf_list_t rfl]
        rfl
      · rcases List.mem_append.mp (List.mem_of_mem_take hz) with h | h
        · exact hsm z h
        · obtain ⟨y, hy, rfl⟩ := List.mem_map.mp h
          exact ⟨(hsm y hy).x.neg, (hsm y hy).y.neg⟩
    · exact ⟨zs, S3, xs_ite_f (c3 false (decide_eq_false q3)) xss_nil, hz, hsm, hlen⟩
  obtain ⟨zs', S3', es3, hz', hsm', hlen'⟩ := hs3
  -- the hull
  have sov : Sm 3 ov := by unfold Sm; omega
  let vz : Z2 → Q2 := fun z => ((z.1 : Rat) / (ov : Rat), (z.2 : Rat) / (ov : Rat))
  have ovne := rne_pos o1
  have hvz : ∀ z : Z2, (z.1 : Rat) = (vz z).1 * (ov : Rat) ∧ (z.2 : Rat) = (vz z).2 * (ov : Rat) := fun z => ⟨by simp only [vz]; grind, by simp only [vz]; grind⟩
  have hbp : ∀ z ∈ zs', Bp 6 ov (vz z) := fun z hz => ⟨⟨z.1, (hsm' z hz).x, (hvz z).1⟩, ⟨z.2, (hsm' z hz).y, (hvz z).2⟩⟩
  have hv : getV [.no, .imm (.int kd), .imm (.int ov), S3', s4, s5, s6, .no, .no, s9, .no, .no, .no] 3 = some (.list (zs'.map pr)) := hz'.get
  have hcomp := eval_comp (C := ctxN G (n + 7)) (elt := (.call "_law_spot" (.cons (.var 10) (.cons (.var 11) (.cons (.var 2) .nil))) [0, 1, 2])) (t := .many [10, 11]) (it := .seq (.var 3)) (cond := .no) (own := [10, 11])
    (env := [.no, .imm (.int kd), .imm (.int ov), S3', s4, s5, s6, .no, .no, s9, .no, .no, .no]) (u := u3) (u1 := u3) (u2 := u3) (ds := zs'.map pr) (rs := zs'.map fun z => pt (vz z)) (xi_seq (xe_var hv) rfl) (by simp; omega)
    (compL_of fun z hz => by
      have es := l_spot K.toKnF (n + 4) (p := vz z) o1 (hvz z).1 (hvz z).2 (hsm' z hz).x (hsm' z hz).y (sov.mono (by decide)) (by decide)
      simp [ctx_fn K.spot rfl, es])
  have hsz : ∀ p ∈ zs'.map vz, SzP 6 p := fun p hp => by
    obtain ⟨z, hz, rfl⟩ := List.mem_map.mp hp
    exact ((hbp z hz).szP o1 sov).mono (by decide)
  have eh := l_hull K.toKnO n (by decide) hsz (by simp; omega) (d := .list (zs'.map fun z => pt (vz z))) (by rw [show items (.list (zs'.map fun z => pt (vz z))) = some (zs'.map fun z => pt (vz z)) from rfl, List.map_map]; rfl)
  generalize hl : zs'.map vz = l at *
  have hset : execS (ctxN G (n + 7)) G.ff (pS 3) [.no, .imm (.int kd), .imm (.int ov), S3', s4, s5, s6, .no, .no, s9, .no, .no, .no] u3 = some (.nx [.no, .imm (.int kd), .imm (.int ov), S3', s4, s5, s6, .no, .no, s9, .no, .no, .imm (.tuple ((hullQ l).map pt))] u3) := by
    refine (xs_set (d := .tuple ((hullQ l).map pt)) (xe_call (xes_cons hcomp xes_nil) rfl (by rw [ctx_fn K.hull rfl, eh]; rfl)) ?_).trans ?_
    · exact after_t (by rw [within_tuple]; exact noListAll_pt _)
    · rw [slotOf_tuple]; rfl
  have cl : ∀ c, decide (2 < (hullQ l).length) = c → evalE (ctxN G (n + 7)) (.cmp .gt (.bi .len (.cons (.var 12) .nil)) (.lit (.int 2))) [.no, .imm (.int kd), .imm (.int ov), S3', s4, s5, s6, .no, .no, s9, .no, .no, .imm (.tuple ((hullQ l).map pt))] u3 = some (.bool c, u3) := fun c hc => by
    refine xe_cmp (xe_bi (xes_cons (xe_var rfl) xes_nil) rfl) xe_int ?_
    simp only [cmpV, List.length_map]
    rw [← hc]
    congr 1
    exact decide_eq_decide.mpr (by omega)
  rw [callU_eq K.plate]
  by_cases h2l : 2 < (hullQ l).length
  · refine ⟨hullQ l, u3, runF_of rfl (run_cons hs1 (run_cons es2 (run_cons es3 (run_cons hset (run_last (xs_ret (xe_ite_t (cl true (decide_eq_true h2l)) (xe_var rfl)))))))), h3, ⟨hullQ_poly (fun z => by rw [z] at h2l; simp [hullQ, sortQ] at h2l), by omega, ?_, ov, o1, o2, fun p hp => ?_⟩⟩
    · have h4 := hull_len (l := l)
      have h5 : l.length ≤ 8 := by rw [← hl, List.length_map]; exact hlen'
      omega
    · have hp2 := hullQ_mem hp
      rw [← hl] at hp2
      obtain ⟨z, hz, rfl⟩ := List.mem_map.mp hp2
      exact hbp z hz
  · refine ⟨[(0, 0), (2, 0), (1, 1)], u3, runF_of rfl (run_cons hs1 (run_cons es2 (run_cons es3 (run_cons hset (run_last (xs_ret (xe_ite_f (cl false (decide_eq_false h2l)) ?_))))))), h3, ⟨poly_tri K, by decide, by decide, 1, by decide, by decide, fun p hp => ?_⟩⟩
    · have t0 : pt (0, 0) = T3 0 0 1 := zero_pt.symm
      have t1 : pt (2, 0) = T3 2 0 1 := (pt_whole K 2 0).symm
      have t2 : pt (1, 1) = T3 1 1 1 := (pt_whole K 1 1).symm
      rw [List.map_cons, List.map_cons, List.map_cons, List.map_nil, t0, t1, t2]
      rfl
    · simp only [List.mem_cons, List.not_mem_nil, or_false] at hp
      rcases hp with rfl | rfl | rfl
      · exact ⟨⟨0, sm_lit (by decide), by simp⟩, ⟨0, sm_lit (by decide), by simp⟩⟩
      · exact ⟨⟨2, sm_lit (by decide), by simp⟩, ⟨0, sm_lit (by decide), by simp⟩⟩
      · exact ⟨⟨1, sm_lit (by decide), by simp⟩, ⟨1, sm_lit (by decide), by simp⟩⟩
end
end Pl

/-! PR17: what repr tells; middles' sizes; the laws' ballast and ups; the program's levels. -/
namespace Pl
open PySem (PyData Str)
structure Shc (m c : Nat) (d : D) : Prop where
  s : d.showable = true
  h : d.hasDict = false
  dep : d.depth ≤ m
  c : cw d ≤ c
theorem Shc.mono {m m' c c' : Nat} {d : D} (h : Shc m c d) (h1 : m ≤ m') (h2 : c ≤ c') : Shc m' c' d := ⟨h.s, h.h, Nat.le_trans h.dep h1, Nat.le_trans h.c h2⟩
theorem shc_int {k : Nat} {i : Int} (h : Sm k i) (hk : k < 1900) : Shc 0 1921 (.int i) := by
  have : i.natAbs.log2 < 1920 := by
    have := log2_lt (h.mono (Nat.le_succ k)) (Nat.succ_pos k)
    omega
  exact ⟨by simp [PyData.showable, this], by simp [PyData.hasDict], by simp [PyData.depth], by simp [cw]⟩
theorem shc_bool (b : Bool) : Shc 0 5 (.bool b) := ⟨by simp [PyData.showable], by simp [PyData.hasDict], by simp [PyData.depth], by simp [cw]⟩
theorem shc_none : Shc 0 4 .none := ⟨by simp [PyData.showable], by simp [PyData.hasDict], by simp [PyData.depth], by simp [cw]⟩
theorem shc_all {m c : Nat} : ∀ {ds : List D}, (∀ d ∈ ds, Shc m c d) → PyData.showableAll ds = true ∧ PyData.hasDictAll ds = false ∧ PyData.depthAll ds ≤ m ∧ cwAll ds ≤ (c + 2) * ds.length
  | [], _ => ⟨rfl, rfl, Nat.zero_le _, Nat.zero_le _⟩
  | d :: ds, h => by
    obtain ⟨h1, h2, h3, h4⟩ := shc_all fun d hd => h d (List.mem_cons_of_mem _ hd)
    have hd := h d List.mem_cons_self
    refine ⟨by simp [PyData.showableAll, hd.s, h1], by simp [PyData.hasDictAll, hd.h, h2], ?_, ?_⟩
    · simp only [PyData.depthAll]
      have := hd.dep
      omega
    · simp only [cwAll, List.length_cons, Nat.mul_succ]
      have := hd.c
      omega
theorem shc_lst {m c : Nat} {ds : List D} (h : ∀ d ∈ ds, Shc m c d) : Shc (m + 1) ((c + 2) * ds.length + 3) (.list ds) := by
  obtain ⟨h1, h2, h3, h4⟩ := shc_all h
  refine ⟨by simp [PyData.showable, h1], by simp [PyData.hasDict, h2], ?_, ?_⟩
  · simp only [PyData.depth]; omega
  · simp only [cw]; omega
section
variable {C : Ctx} {env : Env} {u u1 u2 : U}
theorem xe_repr {e : E} {d : D} {m c : Nat} (h : evalE C e env u = some (d, u1)) (s : Shc m c d) (hm : m ≤ 60) (hc : c ≤ 4000000) : evalE C (.bi .repr (.cons e .nil)) env u = some (.str (PyData.shown d), u1) := by
  refine xe_bi (xes_cons h xes_nil) ?_
  have h1 : PyData.depth d ≤ 60 := Nat.le_trans s.dep hm
  have h2 : cw d ≤ PySem.sizeLine := Nat.le_trans (Nat.le_trans s.c hc) (by decide)
  simp only [biV, s.s, s.h, h1, h2]
  simp
/-- two that tell the same are not unlike -/
theorem xe_reprs {e e' : E} {d : D} {m c : Nat} (h : evalE C e env u = some (d, u1)) (h' : evalE C e' env u1 = some (d, u2)) (s : Shc m c d) (hm : m ≤ 60) (hc : c ≤ 4000000) :
    evalE C (.cmp .ne (.bi .repr (.cons e .nil)) (.bi .repr (.cons e' .nil))) env u = some (.bool false, u2) := by
  refine xe_cmp (xe_repr h s hm hc) (xe_repr h' s hm hc) ?_
  simp [eqD]
theorem xe_reprs_eq {e e' : E} {d : D} {m c : Nat} (h : evalE C e env u = some (d, u1)) (h' : evalE C e' env u1 = some (d, u2)) (s : Shc m c d) (hm : m ≤ 60) (hc : c ≤ 4000000) :
    evalE C (.cmp .eq (.bi .repr (.cons e .nil)) (.bi .repr (.cons e' .nil))) env u = some (.bool true, u2) := by
  refine xe_cmp (xe_repr h s hm hc) (xe_repr h' s hm hc) ?_
  simp [eqD]
end
/-! ### middles -/
theorem mom_bq {g : Q2 → Q2 → Rat} {c : Nat} {d : Int} {P : List Q2} (h : ∀ a ∈ P, ∀ b ∈ P, Bq c d (g a b)) : Bq (c + P.length) d (mom g P) := by
  cases P with
  | nil => exact Bq.zero _ _
  | cons f t =>
    have : ∀ (l : List Q2), (∀ a ∈ l, a ∈ f :: t) → Bq (c + l.length) d (cyc g f l) := by
      intro l
      induction l with
      | nil => intro _; exact Bq.zero _ _
      | cons a l ih =>
        intro hl
        cases l with
        | nil => exact (h a (hl a (by simp)) f (by simp)).mono (Nat.le_add_right _ _)
        | cons b l =>
          have h1 := ih fun x hx => hl x (List.mem_cons_of_mem _ hx)
          have h2 := h a (hl a (by simp)) b (hl b (by simp))
          simp only [cyc]
          exact ((h2.mono (Nat.le_add_right c (b :: l).length)).add h1).mono (by simp only [List.length_cons]; omega)
    exact this (f :: t) fun a ha => ha
theorem shoe_bq {k : Nat} {d : Int} {P : List Q2} (h : ∀ p ∈ P, Bp k d p) : Bq (2 * k + 1 + P.length) (d * d) (shoe P) := by
  rw [shoe_mom]
  exact (mom_bq (c := k + k + 1) fun a ha b hb => (h a ha).crs (h b hb)).mono (by omega)
theorem szP_mid {k : Nat} {d : Int} {P : List Q2} (h : ∀ p ∈ P, Bp k d p) (h0 : 0 < d) (sd : Sm k d) (ha : 0 < shoe P) : SzP (3 * k + 4 + P.length) (midQ P) := by
  obtain ⟨z, sz, ez⟩ := shoe_bq h
  obtain ⟨x, sx, ex⟩ := mom_bq (g := momx) (c := 3 * k + 2) (d := d * (d * d)) fun a ha b hb => ((((h a ha).add (h b hb)).x.mul ((h a ha).crs (h b hb))).mono (by omega) : Bq (3 * k + 2) _ _)
  obtain ⟨y, sy, ey⟩ := mom_bq (g := momy) (c := 3 * k + 2) (d := d * (d * d)) fun a ha b hb => ((((h a ha).add (h b hb)).y.mul ((h a ha).crs (h b hb))).mono (by omega) : Bq (3 * k + 2) _ _)
  have hd := rpos_int h0
  have z0 : 0 < z := by
    have : (0 : Rat) < (z : Rat) := by
      rw [ez, Rat.intCast_mul]
      exact Rat.mul_pos ha (Rat.mul_pos hd hd)
    exact Rat.intCast_lt_intCast.mp this
  have w0 : 0 < 3 * z * d := Int.mul_pos (Int.mul_pos (by decide) z0) h0
  have hs := rne0 ha
  have hdn := rne0 hd
  have three : ((3 : Int) : Rat) = 3 := rfl
  have f3 : (3 : Rat) * shoe P ≠ 0 := by grind
  simp only [Rat.intCast_mul] at ez ex ey
  refine szP_of (x := x) (y := y) (w := 3 * z * d) w0 ?_ ?_ (sx.mono (by omega)) (sy.mono (by omega)) (((Sm.mul (j := 2) (k := 2 * k + 1 + P.length) (sm_lit (by decide)) sz).mul sd).mono (by omega))
  · unfold midQ
    simp only [Rat.intCast_mul, ez, ex, three]
    grind
  · unfold midQ
    simp only [Rat.intCast_mul, ez, ey, three]
    grind
theorem Plate.shoe {P : List Q2} (h : Plate P) : 0 < shoe P := shoe_pos h.poly.cv h.l3
theorem Plate.szP {P : List Q2} (h : Plate P) : ∀ p ∈ P, SzP 6 p := fun p hp => by
  obtain ⟨w, w0, w5, hb⟩ := h.sz
  have := (hb p hp).szP w0 (e := 3) (by unfold Sm; omega)
  exact this.mono (by decide)
theorem Plate.mid {P : List Q2} (h : Plate P) : SzP 30 (midQ P) := by
  obtain ⟨w, w0, w5, hb⟩ := h.sz
  exact (szP_mid hb w0 (by unfold Sm; omega) h.shoe).mono (by have := h.l8; omega)
/-! ### drawn ballast, drawn ups -/
structure KnMs (G : Prog) : Prop extends KnPlt G, KnMid G where
  mass : G.T "_law_mass" = some p__law_mass
section
variable {G : Prog} (K : KnMs G)
include K
end
/-- a direction of small numbers -/
structure Dir (k : Nat) (a b : Int) : Prop where
  red : g2 a b = 1
  x : Sm k a
  y : Sm k b
section
variable {G : Prog} (K : KnF G)
include K
end
structure KnAim (G : Prog) : Prop extends KnF G, KnU G where
  aim : G.T "_law_aim" = some p__law_aim
section
variable {G : Prog} (K : KnAim G)
include K
end
/-- the height of a point along an up -/
def hgt (a b : Int) (p : Q2) : Rat := (a : Rat) * p.1 + (b : Rat) * p.2
theorem Dir.mono {j k : Nat} {a b : Int} (h : Dir j a b) (q : j ≤ k) : Dir k a b := ⟨h.red, h.x.mono q, h.y.mono q⟩
structure KnUp (G : Prog) : Prop extends KnV G where
  is_pointing : G.T "is_pointing" = some p_is_pointing
  check_up : G.T "check_up" = some p_check_up
  level_of : G.T "level_of" = some p_level_of
section
variable {G : Prog} (K : KnUp G)
include K
end
section
variable {G : Prog} (K : KnF G)
include K
end
theorem xe_neg {C : Ctx} {env : Env} {u u1 : U} {a : E} {i : Int} (h : evalE C a env u = some (.int i, u1)) : evalE C (.neg a) env u = some (.int (-i), u1) := by simp only [evalE, h, Option.bind_some]
end Pl

/-! PR18: a law of two or three rounds. -/
namespace Pl
open PySem (PyData Str)
def p_laps : PFun := { np := 1, ns := 2, urn := false, fresh := false, body := (.cons (.for_ (.one 1) (.range1 (.call "_law_laps" (.cons (.var 0) .nil) [0])) (.cons (.ite (.not (.ncall "_law_right" (.call "_law_urn" (.cons (.var 0) (.cons (.var 1) .nil)) [0, 1]) .nil)) (.cons (.ret (.lit (.bool false))) .nil) .nil) .nil)) (.cons (.ret (.lit (.bool true))) .nil)) }
theorem l_laps {G : Prog} (K : KnU G) {pr : PFun} (hlaw : G.T "law" = some p_laps) (hright : G.T "_law_right" = some pr) (hu : pr.urn = true) (n : Nat) (hr : ∀ u, Pot u → ∃ u', callU G (n + 1) "_law_right" [] u = some (.bool true, u')) (ns : List Int) (hn : ns.length ≤ 63) :
    ∃ u', callU G (n + 2) "law" [.list (ns.map .int)] [] = some (.bool true, u') := by
  obtain ⟨k, e1, k1, k2⟩ := c_laps K n (ns.map PyData.int)
  obtain ⟨env', u', hf, d3, rfl, rfl⟩ := forL_inv (step := fun d env u => (bindT (.one 1) d env).bind fun env' => execSs (ctxN G (n + 1)) G.ff (forBody p_laps.body) env' u)
    (I := fun env u => ∃ d3, env = [.imm (.list (ns.map .int)), d3] ∧ u = []) (ds := rangeL 0 k) (env := [.imm (.list (ns.map .int)), .no]) (u := [])
    (fun d hd env u ⟨d3, e1, e2⟩ => by
      subst e1 e2
      unfold rangeL at hd
      obtain ⟨i, hi, rfl⟩ := List.mem_map.mp hd
      have hi' := List.mem_range.mp hi
      obtain ⟨z0, z1, z2, eu, s1, s2⟩ := c_urn K n ns (0 + (i : Int)) (by omega) (by omega) hn
      obtain ⟨u2, er⟩ := hr [z0, z1, z2] ⟨_, _, _, rfl, s1, s2⟩
      refine ⟨[.imm (.list (ns.map .int)), .imm (.int (0 + (i : Int)))], [], ?_, .imm (.int (0 + (i : Int))), rfl, rfl⟩
      simp only [Int.zero_add] at eu ⊢
      simp [forBody, p_laps, ctx_fn K.urn rfl, ctx_ufn hright hu, eu, er])
    ⟨_, rfl, rfl⟩
  refine ⟨[], ?_⟩
  rw [callU_eq hlaw]
  refine runF_of rfl (run_cons (run_for (ds := rangeL 0 k) (u1 := []) ?_ ?_ hf) (run_last ?_))
  · simp [mkEnv, p_laps, ctx_fn K.laps rfl, e1, intOk]
    omega
  · simp [rangeL]; omega
  · simp
end Pl

/-! PR19: closed rows turned round, led along, the other way round. -/
namespace Pl
/-- the edges of a closed row, the last one to f -/
def prs (f : Q2) : List Q2 → List (Q2 × Q2)
  | [] => []
  | [a] => [(a, f)]
  | a :: b :: t => (a, b) :: prs f (b :: t)
def edges : List Q2 → List (Q2 × Q2)
  | [] => []
  | f :: t => prs f (f :: t)
/-! ### sums -/
theorem path_snoc (g : Q2 → Q2 → Rat) (a b : Q2) : ∀ (l : List Q2), path g (l ++ [a, b]) = path g (l ++ [a]) + g a b
  | [] => by simp only [List.nil_append, path]; grind
  | [c] => by simp only [List.cons_append, List.nil_append, path]; grind
  | c :: d :: t => by
    have := path_snoc g a b (d :: t)
    simp only [List.cons_append, path] at this ⊢
    rw [this]
    grind
theorem cyc_path (g : Q2 → Q2 → Rat) (f : Q2) : ∀ (l : List Q2), cyc g f l = path g (l ++ [f])
  | [] => rfl
  | [a] => by simp only [cyc, List.cons_append, List.nil_append, path]; grind
  | a :: b :: t => by
    have := cyc_path g f (b :: t)
    simp only [cyc, List.cons_append, path] at this ⊢
    rw [this]
theorem mom_rot (g : Q2 → Q2 → Rat) (f : Q2) (t : List Q2) : mom g (t ++ [f]) = mom g (f :: t) := by
  cases t with
  | nil => rfl
  | cons b t =>
    show cyc g b ((b :: t) ++ [f]) = g f b + cyc g f (b :: t)
    rw [cyc_path, cyc_path, List.append_assoc, List.singleton_append, path_snoc]
    grind
theorem mom_rots (g : Q2 → Q2 → Rat) : ∀ (s t : List Q2), mom g (t ++ s) = mom g (s ++ t)
  | [], t => by simp
  | f :: s, t => by
    have h1 := mom_rot g f (s ++ t)
    have h2 := mom_rots g s (t ++ [f])
    rw [List.append_assoc, List.singleton_append] at h2
    rw [h2, ← List.append_assoc, h1]
    rfl
theorem crs_as (a b : Q2) : crs b a = -crs a b := by unfold crs; grind
/-! ### polygons led along -/
/-- a row that turns left is its hull's, from another corner on -/
theorem hull_rot {L : List Q2} (hc : Cv L) (nd : L.Nodup) (hne : L ≠ []) : ∃ u v, L = u ++ v ∧ hullQ L = v ++ u := by
  cases hs : sortQ L with
  | nil => exact absurd hs (sortQ_ne hne)
  | cons a s =>
    have ha : a ∈ L := sortQ_mem.mp (by rw [hs]; simp)
    obtain ⟨u, v, e⟩ := List.append_of_mem ha
    refine ⟨u, a :: v, e, ?_⟩
    have hl : ∀ x ∈ v ++ u, Lt2 a x := fun x hx => by
      have hx' : x ∈ L := by rw [e]; rcases List.mem_append.mp hx with z | z <;> simp [z]
      have : x ∈ sortQ L := sortQ_mem.mpr hx'
      rw [hs] at this
      rcases List.mem_cons.mp this with z | z
      · exfalso
        rw [e] at nd
        unfold List.Nodup at nd
        rw [List.pairwise_append, List.pairwise_cons] at nd
        rcases List.mem_append.mp hx with y | y
        · exact nd.2.1.1 x y z.symm
        · exact nd.2.2 x y a (by simp) z
      · have hso := sortQ_sorted L
        rw [hs] at hso
        exact (List.pairwise_cons.mp hso).1 x z
    have hcv : Cv (a :: v ++ u) := cv_rots (by rw [← e]; exact hc)
    have hp : Poly (a :: v ++ u) := ⟨hcv, fun f t ef x hx => by cases ef; exact hl x hx, by simp⟩
    rw [← hullQ_self hp]
    refine hullQ_congr fun x => ?_
    rw [e]
    simp only [List.mem_append, List.mem_cons, List.cons_append]
    constructor
    · rintro (h | h | h)
      · exact .inr (.inr h)
      · exact .inl h
      · exact .inr (.inl h)
    · rintro (h | h | h)
      · exact .inr (.inl h)
      · exact .inr (.inr h)
      · exact .inl h
def mir (p : Q2) : Q2 := (-p.1, p.2)
/-- within a polygon, its edges counted -/
def hasB (P : List Q2) (q : Q2) : Bool := (edges P).all fun ab => decide (0 ≤ ori ab.1 ab.2 q)
/-- what a led polygon comes to: u times the area, the middle led along, what is within led along -/
structure Led (P T : List Q2) (g : Q2 → Q2) (c : Rat) : Prop where
  area : shoe T = c * shoe P
  mid : shoe P ≠ 0 → midQ T = g (midQ P)
  has : ∀ q, hasB T (g q) = hasB P q
  len : T.length = P.length
  mem : ∀ x, x ∈ T ↔ x ∈ P.map g
  poly : Poly T
end Pl

/-! PR20: the program's sections: what they hold, moved, turned, mirrored, grown. -/
namespace Pl
open PySem (PyData Str)
structure KnTurn (G : Prog) : Prop where
  sign_of : G.T "sign_of" = some p_sign_of
  turn_of : G.T "turn_of" = some p_turn_of
/-- the corner behind one -/
def nxt (P : List Q2) (i : Nat) : Q2 := P.getD ((i + 1) % P.length) (0, 0)
structure KnHas (G : Prog) : Prop extends KnTurn G where
  next_corner : G.T "next_corner" = some p_next_corner
  has : G.T "has" = some p_has
section
variable {G : Prog} (K : KnHas G)
include K
end
structure KnPgb (G : Prog) : Prop extends KnPl G where
  is_lot : G.T "is_lot" = some p_is_lot
  check_polygon : G.T "check_polygon" = some p_check_polygon
structure KnPg (G : Prog) : Prop extends KnPgb G where
  zero : G.glob "ZERO" = some (.tuple [.int 0, .int 1])
  area_of : G.T "area_of" = some p_area_of
section
variable {G : Prog} (K : KnPg G)
include K
end
end Pl

/-! PT1: rim points and stands, in plain Lean: what is under water is a polygon; both parts make up the whole. -/
namespace Pl
/-- the corner of a number, round -/
def cn (P : List Q2) (i : Nat) : Q2 := P.getD (i % P.length) (0, 0)
def lerp (a b : Q2) (s : Rat) : Q2 := add2 a (smul s (sub2 b a))
abbrev Rm := Nat × Rat
structure Rim (P : List Q2) (r : Rm) : Prop where
  lt : r.1 < P.length
  ge : 0 ≤ r.2
  l1 : r.2 < 1
def rp (P : List Q2) (r : Rm) : Q2 := lerp (cn P r.1) (cn P (r.1 + 1)) r.2
def touch (n : Nat) (r : Rm) : List Nat := if r.2 = 0 then [r.1, (r.1 + n - 1) % n] else [r.1]
structure Line (P : List Q2) (l r : Rm) : Prop where
  rl : Rim P l
  rr : Rim P r
  ap : ∀ k ∈ touch P.length l, k ∉ touch P.length r
theorem Line.flip {P : List Q2} {l r : Rm} (h : Line P l r) : Line P r l := ⟨h.rr, h.rl, fun k h1 h2 => h.ap k h2 h1⟩
def gapN (n : Nat) (l r : Rm) : Nat := (r.1 + n - l.1) % n
def passN (n : Nat) (l r : Rm) : Nat := gapN n l r - (if r.2 = 0 then 1 else 0)
theorem cn_add (P : List Q2) (i : Nat) : cn P (i + P.length) = cn P i := by unfold cn; rw [Nat.add_mod_right]
theorem cn_mod (P : List Q2) (i : Nat) : cn P (i % P.length) = cn P i := by unfold cn; rw [Nat.mod_mod]
theorem cn_lt {P : List Q2} {i : Nat} (h : i < P.length) : P[i]? = some (cn P i) := by
  unfold cn
  rw [Nat.mod_eq_of_lt h, List.getD_eq_getElem?_getD, List.getElem?_eq_getElem h]
  rfl
theorem cn_mem {P : List Q2} (h : P ≠ []) (i : Nat) : cn P i ∈ P := by
  have : i % P.length < P.length := Nat.mod_lt _ (List.length_pos_iff.mpr h)
  rw [← cn_mod]
  exact List.mem_of_getElem? (cn_lt this)
theorem cn_map (P : List Q2) : (List.range P.length).map (cn P) = P := by
  refine List.ext_getElem? fun i => ?_
  rw [List.getElem?_map]
  by_cases h : i < P.length
  · rw [List.getElem?_range h, cn_lt h]; rfl
  · rw [List.getElem?_eq_none (by rw [List.length_range]; omega), List.getElem?_eq_none (by omega)]; rfl
section
variable {P : List Q2} {l r : Rm}
theorem touch_self (n : Nat) (r : Rm) : r.1 ∈ touch n r := by unfold touch; split <;> simp
theorem Line.gap (h : Line P l r) : 1 ≤ gapN P.length l r ∧ gapN P.length l r < P.length ∧ (l.1 + gapN P.length l r) % P.length = r.1 ∧ gapN P.length r l = P.length - gapN P.length l r := by
  have a := h.rl.lt
  have b := h.rr.lt
  have hne : l.1 ≠ r.1 := fun e => h.ap l.1 (touch_self _ l) (by rw [e]; exact touch_self _ r)
  unfold gapN
  by_cases c : l.1 < r.1
  · have e1 : (r.1 + P.length - l.1) % P.length = r.1 - l.1 := by
      rw [show r.1 + P.length - l.1 = (r.1 - l.1) + P.length by omega, Nat.add_mod_right, Nat.mod_eq_of_lt (by omega)]
    have e2 : (l.1 + P.length - r.1) % P.length = P.length - (r.1 - l.1) := by
      rw [Nat.mod_eq_of_lt (by omega)]; omega
    rw [e1, e2, show l.1 + (r.1 - l.1) = r.1 by omega, Nat.mod_eq_of_lt b]
    omega
  · have e1 : (r.1 + P.length - l.1) % P.length = r.1 + P.length - l.1 := Nat.mod_eq_of_lt (by omega)
    have e2 : (l.1 + P.length - r.1) % P.length = l.1 - r.1 := by
      rw [show l.1 + P.length - r.1 = (l.1 - r.1) + P.length by omega, Nat.add_mod_right, Nat.mod_eq_of_lt (by omega)]
    rw [e1, e2, show l.1 + (r.1 + P.length - l.1) = r.1 + P.length by omega, Nat.add_mod_right, Nat.mod_eq_of_lt b]
    omega
theorem Line.gap2 (h : Line P l r) (e : r.2 = 0) : 2 ≤ gapN P.length l r := by
  obtain ⟨g1, g2, g3, g4⟩ := h.gap
  refine Nat.lt_of_le_of_ne g1 fun z => ?_
  rw [← z] at g3
  refine h.ap l.1 (touch_self _ l) ?_
  unfold touch
  rw [if_pos e]
  have a := h.rl.lt
  have : (r.1 + P.length - 1) % P.length = l.1 := by
    by_cases c : l.1 + 1 < P.length
    · rw [Nat.mod_eq_of_lt c] at g3
      rw [show r.1 + P.length - 1 = l.1 + P.length by omega, Nat.add_mod_right, Nat.mod_eq_of_lt a]
    · rw [show l.1 + 1 = P.length by omega, Nat.mod_self] at g3
      rw [Nat.mod_eq_of_lt (by omega)]; omega
  simp [this]
theorem Line.gap3 (h : Line P l r) (e : l.2 = 0) : gapN P.length l r + 2 ≤ P.length := by
  have a := h.gap
  have b := h.flip.gap2 e
  omega
theorem Line.pass1 (h : Line P l r) : 1 ≤ passN P.length l r := by
  unfold passN
  split
  · have := h.gap2 (by assumption); omega
  · have := h.gap; omega
end
/-- the corners of what is under water -/
def wet (P : List Q2) (l r : Rm) : List Q2 := rp P l :: (List.range (passN P.length l r)).map (fun x => cn P (l.1 + 1 + x)) ++ [rp P r]
def wetF (P : List Q2) (l r : Rm) (x : Nat) : Q2 := if x = 0 then rp P l else if x ≤ passN P.length l r then cn P (l.1 + x) else rp P r
theorem wet_len (P : List Q2) (l r : Rm) : (wet P l r).length = passN P.length l r + 2 := by simp [wet]
theorem wet_map (P : List Q2) (l r : Rm) : wet P l r = (List.range (passN P.length l r + 2)).map (wetF P l r) := by
  refine List.ext_getElem? fun i => ?_
  unfold wet
  by_cases h : i < passN P.length l r + 2
  · rw [List.getElem?_map, List.getElem?_range h]
    cases i with
    | zero => simp [wetF]
    | succ i =>
      rw [List.cons_append, List.getElem?_cons_succ]
      by_cases c : i < passN P.length l r
      · rw [List.getElem?_append_left (by simp; omega), List.getElem?_map, List.getElem?_range c]
        simp [wetF, show i + 1 ≤ passN P.length l r by omega, show l.1 + 1 + i = l.1 + (i + 1) by omega]
      · rw [List.getElem?_append_right (by simp; omega)]
        simp [wetF, show i - passN P.length l r = 0 by omega, show ¬ i + 1 ≤ passN P.length l r by omega]
  · rw [List.getElem?_eq_none (by simp; omega), List.getElem?_eq_none (by simp; omega)]
/-! ### triples -/
theorem ori_cyc (a b c : Q2) : ori b c a = ori a b c := by unfold ori crs sub2; simp only; grind
theorem cv_ix : ∀ {L : List Q2}, Cv L → ∀ {i j k : Nat} {a b c : Q2}, i < j → j < k → L[i]? = some a → L[j]? = some b → L[k]? = some c → 0 < ori a b c
  | [], _, i, j, k, a, b, c, _, _, h, _, _ => by simp at h
  | x :: t, h, i, j, k, a, b, c, ij, jk, e1, e2, e3 => by
    obtain ⟨j, rfl⟩ : ∃ j', j = j' + 1 := ⟨j - 1, by omega⟩
    obtain ⟨k, rfl⟩ : ∃ k', k = k' + 1 := ⟨k - 1, by omega⟩
    rw [List.getElem?_cons_succ] at e2 e3
    cases i with
    | zero =>
      rw [List.getElem?_cons_zero] at e1
      injection e1 with e1
      subst e1
      obtain ⟨hj, rfl⟩ := List.getElem?_eq_some_iff.mp e2
      obtain ⟨hk, rfl⟩ := List.getElem?_eq_some_iff.mp e3
      exact List.pairwise_iff_getElem.mp h.1 j k hj hk (by omega)
    | succ i =>
      rw [List.getElem?_cons_succ] at e1
      exact cv_ix h.2 (by omega) (by omega) e1 e2 e3
theorem cv_of_ix : ∀ {L : List Q2}, (∀ (i j k : Nat) (a b c : Q2), i < j → j < k → L[i]? = some a → L[j]? = some b → L[k]? = some c → 0 < ori a b c) → Cv L
  | [], _ => trivial
  | x :: t, h => ⟨List.pairwise_iff_getElem.mpr fun i j hi hj ij => h 0 (i + 1) (j + 1) x t[i] t[j] (by omega) (by omega) rfl (by rw [List.getElem?_cons_succ, List.getElem?_eq_getElem hi]) (by rw [List.getElem?_cons_succ, List.getElem?_eq_getElem hj]),
      cv_of_ix fun i j k a b c ij jk e1 e2 e3 => h (i + 1) (j + 1) (k + 1) a b c (by omega) (by omega) (by rw [List.getElem?_cons_succ]; exact e1) (by rw [List.getElem?_cons_succ]; exact e2) (by rw [List.getElem?_cons_succ]; exact e3)⟩
section
variable {P : List Q2}
theorem tri0 (h : Cv P) {i j k : Nat} (ij : i < j) (jk : j < k) (hk : k < P.length) : 0 < ori (cn P i) (cn P j) (cn P k) :=
  cv_ix h ij jk (cn_lt (by omega)) (cn_lt (by omega)) (cn_lt hk)
theorem tri1 (h : Cv P) {a b c : Nat} (ab : a < b) (bc : b < c) (ha : a < P.length) (hc : c < a + P.length) : 0 < ori (cn P a) (cn P b) (cn P c) := by
  by_cases c1 : c < P.length
  · exact tri0 h ab bc c1
  · have ec : cn P c = cn P (c - P.length) := by rw [← cn_add P (c - P.length), show c - P.length + P.length = c by omega]
    by_cases b1 : b < P.length
    · rw [ec, ori_cyc (cn P (c - P.length)), ]
      exact tri0 h (i := c - P.length) (j := a) (k := b) (by omega) (by omega) (by omega)
    · have eb : cn P b = cn P (b - P.length) := by rw [← cn_add P (b - P.length), show b - P.length + P.length = b by omega]
      rw [ec, eb, ← ori_cyc (cn P a)]
      exact tri0 h (i := b - P.length) (j := c - P.length) (k := a) (by omega) (by omega) (by omega)
theorem cn_mul (P : List Q2) (i : Nat) : ∀ q : Nat, cn P (i + P.length * q) = cn P i
  | 0 => rfl
  | q + 1 => by rw [show i + P.length * (q + 1) = (i + P.length * q) + P.length by rw [Nat.mul_succ, Nat.add_assoc], cn_add, cn_mul P i q]
theorem tri (h : Cv P) (h0 : P ≠ []) {a b c : Nat} (ab : a < b) (bc : b < c) (hc : c < a + P.length) : 0 < ori (cn P a) (cn P b) (cn P c) := by
  have hn : 0 < P.length := List.length_pos_iff.mpr h0
  have e := Nat.mod_add_div a P.length
  have l := Nat.mod_lt a hn
  generalize hq : P.length * (a / P.length) = Q at e
  have ea : cn P a = cn P (a - Q) := by rw [← cn_mul P (a - Q) (a / P.length), hq, show a - Q + Q = a by omega]
  have eb : cn P b = cn P (b - Q) := by rw [← cn_mul P (b - Q) (a / P.length), hq, show b - Q + Q = b by omega]
  have ec : cn P c = cn P (c - Q) := by rw [← cn_mul P (c - Q) (a / P.length), hq, show c - Q + Q = c by omega]
  rw [ea, eb, ec]
  exact tri1 h (by omega) (by omega) (by omega) (by omega)
theorem triw (h : Cv P) (h0 : P ≠ []) {a b c : Nat} (ab : a ≤ b) (bc : b ≤ c) (hc : c ≤ a + P.length) : 0 ≤ ori (cn P a) (cn P b) (cn P c) := by
  by_cases c1 : a = b
  · rw [c1, ori_self0]; exact Rat.le_refl
  by_cases c2 : b = c
  · rw [c2, ori_self2]; exact Rat.le_refl
  by_cases c3 : c = a + P.length
  · rw [c3, cn_add, ori_self1]; exact Rat.le_refl
  exact Rat.le_of_lt (tri h h0 (by omega) (by omega) (by omega))
end
theorem ori_l1 (a b y z : Q2) (s : Rat) : ori (lerp a b s) y z = (1 - s) * ori a y z + s * ori b y z := by unfold lerp ori crs sub2 add2 smul; simp only; grind
theorem ori_l3 (a b y z : Q2) (s : Rat) : ori y z (lerp a b s) = (1 - s) * ori y z a + s * ori y z b := by unfold lerp ori crs sub2 add2 smul; simp only; grind
theorem mix_pos {s a b : Rat} (h0 : 0 ≤ s) (h1 : s < 1) (ha : 0 ≤ a) (hb : 0 ≤ b) (h : 0 < a ∨ (0 < s ∧ 0 < b)) : 0 < (1 - s) * a + s * b := by
  have w : 0 < 1 - s := by grind
  have p1 := Rat.mul_nonneg (Rat.le_of_lt w) ha
  have p2 := Rat.mul_nonneg h0 hb
  rcases h with h | ⟨h, k⟩
  · have := Rat.mul_pos w h; grind
  · have := Rat.mul_pos h k; grind
theorem mix_ge {s a b : Rat} (h0 : 0 ≤ s) (h1 : s < 1) (ha : 0 ≤ a) (hb : 0 ≤ b) : 0 ≤ (1 - s) * a + s * b := by
  have w : 0 < 1 - s := by grind
  have p1 := Rat.mul_nonneg (Rat.le_of_lt w) ha
  have p2 := Rat.mul_nonneg h0 hb
  grind
theorem rpos_ne {t : Rat} (h : 0 ≤ t) (k : t ≠ 0) : 0 < t := by
  grind
section
variable {P : List Q2} {l r : Rm}
/-- what is under water is a polygon -/
theorem wet_cv (hP : Cv P) (h0 : P ≠ []) (h3 : 3 ≤ P.length) (h : Line P l r) : Cv (wet P l r) := by
  obtain ⟨g1, g2, g3, g4⟩ := h.gap
  have g5 := h.gap2
  have g6 := h.gap3
  have s0 := h.rl.ge
  have s1 := h.rl.l1
  have t0 := h.rr.ge
  have t1 := h.rr.l1
  have eB : rp P r = lerp (cn P (l.1 + gapN P.length l r)) (cn P (l.1 + gapN P.length l r + 1)) r.2 := by
    unfold rp
    rw [← g3, cn_mod]
    congr 1
    unfold cn
    rw [Nat.add_mod, Nat.mod_mod, ← Nat.add_mod]
  have hp : passN P.length l r = gapN P.length l r - (if r.2 = 0 then 1 else 0) := rfl
  generalize hpp : passN P.length l r = p at *
  generalize hm : gapN P.length l r = m at *
  rw [wet_map, hpp]
  refine cv_of_ix fun x y z a b c xy yz e1 e2 e3 => ?_
  have hz : z < p + 2 := by
    obtain ⟨q, _⟩ := List.getElem?_eq_some_iff.mp e3
    rwa [List.length_map, List.length_range] at q
  have hg : ∀ {i : Nat} {d : Q2}, i < p + 2 → ((List.range (p + 2)).map (wetF P l r))[i]? = some d → d = wetF P l r i := fun hi e => by
    rw [List.getElem?_map, List.getElem?_range hi] at e
    injection e with e
    exact e.symm
  rw [hg (by omega) e1, hg (by omega) e2, hg hz e3]
  have hmid : ∀ {i : Nat}, 0 < i → i ≤ p → wetF P l r i = cn P (l.1 + i) := fun i1 i2 => by
    unfold wetF
    rw [if_neg (by omega), hpp, if_pos i2]
  have hB : wetF P l r (p + 1) = rp P r := by
    unfold wetF
    rw [if_neg (by omega), hpp, if_neg (by omega)]
  have hA : wetF P l r 0 = rp P l := rfl
  rw [hmid (i := y) (by omega) (by omega)]
  have hpm : p ≤ m := by rw [hp]; split <;> omega
  by_cases x0 : x = 0
  · subst x0
    rw [hA]
    unfold rp
    rw [ori_l1]
    by_cases z1 : z = p + 1
    · subst z1
      rw [hB, eB, ori_l3, ori_l3]
      have O1 := triw hP h0 (a := l.1) (b := l.1 + y) (c := l.1 + m) (by omega) (by omega) (by omega)
      have O2 := triw hP h0 (a := l.1) (b := l.1 + y) (c := l.1 + m + 1) (by omega) (by omega) (by omega)
      have O3 := triw hP h0 (a := l.1 + 1) (b := l.1 + y) (c := l.1 + m) (by omega) (by omega) (by omega)
      have O4 := triw hP h0 (a := l.1 + 1) (b := l.1 + y) (c := l.1 + m + 1) (by omega) (by omega) (by omega)
      by_cases tz : r.2 = 0
      · have k1 : p = m - 1 := by rw [hp, if_pos tz]
        have := tri hP h0 (a := l.1) (b := l.1 + y) (c := l.1 + m) (by omega) (by omega) (by omega)
        exact mix_pos s0 s1 (mix_ge t0 t1 O1 O2) (mix_ge t0 t1 O3 O4) (.inl (mix_pos t0 t1 O1 O2 (.inl this)))
      · have tp := rpos_ne t0 tz
        by_cases mn : m + 1 < P.length
        · have := tri hP h0 (a := l.1) (b := l.1 + y) (c := l.1 + m + 1) (by omega) (by omega) (by omega)
          exact mix_pos s0 s1 (mix_ge t0 t1 O1 O2) (mix_ge t0 t1 O3 O4) (.inl (mix_pos t0 t1 O1 O2 (.inr ⟨tp, this⟩)))
        · have sp := rpos_ne s0 (fun e => by have := g6 e; omega)
          by_cases y1 : y = 1
          · by_cases m1 : m = 1
            · omega
            · have := tri hP h0 (a := l.1) (b := l.1 + y) (c := l.1 + m) (by omega) (by omega) (by omega)
              exact mix_pos s0 s1 (mix_ge t0 t1 O1 O2) (mix_ge t0 t1 O3 O4) (.inl (mix_pos t0 t1 O1 O2 (.inl this)))
          · have := tri hP h0 (a := l.1 + 1) (b := l.1 + y) (c := l.1 + m + 1) (by omega) (by omega) (by omega)
            exact mix_pos s0 s1 (mix_ge t0 t1 O1 O2) (mix_ge t0 t1 O3 O4) (.inr ⟨sp, mix_pos t0 t1 O3 O4 (.inr ⟨tp, this⟩)⟩)
    · rw [hmid (i := z) (by omega) (by omega)]
      exact mix_pos s0 s1 (triw hP h0 (by omega) (by omega) (by omega)) (triw hP h0 (by omega) (by omega) (by omega)) (.inl (tri hP h0 (by omega) (by omega) (by omega)))
  · rw [hmid (i := x) (by omega) (by omega)]
    by_cases z1 : z = p + 1
    · subst z1
      rw [hB, eB, ori_l3]
      refine mix_pos t0 t1 (triw hP h0 (by omega) (by omega) (by omega)) (triw hP h0 (by omega) (by omega) (by omega)) ?_
      by_cases tz : r.2 = 0
      · have k1 : p = m - 1 := by rw [hp, if_pos tz]
        exact .inl (tri hP h0 (by omega) (by omega) (by omega))
      · exact .inr ⟨rpos_ne t0 tz, tri hP h0 (by omega) (by omega) (by omega)⟩
    · rw [hmid (i := z) (by omega) (by omega)]
      exact tri hP h0 (by omega) (by omega) (by omega)
end
end Pl

/-! PT2: the areas and middles of both parts make up the whole. -/
namespace Pl
def psum (g : Q2 → Q2 → Rat) (f : Nat → Q2) : Nat → Rat
  | 0 => 0
  | k + 1 => psum g f k + g (f k) (f (k + 1))
theorem path_psum (g : Q2 → Q2 → Rat) (f : Nat → Q2) : ∀ k : Nat, path g ((List.range (k + 1)).map f) = psum g f k
  | 0 => by simp [path, psum]
  | k + 1 => by
    rw [List.range_succ, List.range_succ, List.map_append, List.map_append, List.append_assoc]
    have := path_snoc g (f k) (f (k + 1)) ((List.range k).map f)
    simp only [List.map_cons, List.map_nil, List.cons_append, List.nil_append] at this ⊢
    rw [this]
    have e := path_psum g f k
    rw [List.range_succ, List.map_append, List.map_cons, List.map_nil] at e
    rw [e, psum]
theorem psum_add (g : Q2 → Q2 → Rat) (f : Nat → Q2) (a : Nat) : ∀ b : Nat, psum g f (a + b) = psum g f a + psum g (fun x => f (a + x)) b
  | 0 => by simp [psum]; grind
  | b + 1 => by
    rw [← Nat.add_assoc, psum, psum_add g f a b, psum, Nat.add_assoc]
    grind
theorem psum_congr {g : Q2 → Q2 → Rat} {f h : Nat → Q2} : ∀ {k : Nat}, (∀ x, x ≤ k → f x = h x) → psum g f k = psum g h k
  | 0, _ => rfl
  | k + 1, e => by rw [psum, psum, psum_congr fun x hx => e x (by omega), e k (by omega), e (k + 1) (by omega)]
theorem mom_psum (g : Q2 → Q2 → Rat) (f : Nat → Q2) (k : Nat) : mom g ((List.range (k + 1)).map f) = psum g f k + g (f k) (f 0) := by
  have e : (List.range (k + 1)).map f = f 0 :: (List.range k).map (fun x => f (x + 1)) := by
    rw [List.range_succ_eq_map, List.map_cons, List.map_map]; rfl
  have e2 : mom g ((List.range (k + 1)).map f) = path g ((List.range (k + 1)).map f ++ [f 0]) := by
    rw [e]
    exact cyc_path g (f 0) _
  rw [e2, List.range_succ, List.map_append, List.map_cons, List.map_nil, List.append_assoc]
  have := path_snoc g (f k) (f 0) ((List.range k).map f)
  simp only [List.cons_append, List.nil_append] at this ⊢
  rw [this]
  have e := path_psum g f k
  rw [List.range_succ, List.map_append, List.map_cons, List.map_nil] at e
  rw [e]
section
variable {g : Q2 → Q2 → Rat} {P : List Q2} {l r : Rm}
theorem mom_cn (h0 : P ≠ []) : mom g P = psum g (cn P) P.length := by
  have hn : 0 < P.length := List.length_pos_iff.mpr h0
  obtain ⟨k, hk⟩ : ∃ k, P.length = k + 1 := ⟨P.length - 1, by omega⟩
  have e : mom g P = mom g ((List.range (k + 1)).map (cn P)) := by rw [← hk, cn_map]
  rw [e, mom_psum, hk, psum, ← hk, show cn P P.length = cn P 0 by rw [← cn_add P 0, Nat.zero_add]]
theorem mom_at (h0 : P ≠ []) (i : Nat) : psum g (fun x => cn P (i + x)) P.length = mom g P := by
  rw [mom_cn h0]
  have e1 := psum_add g (cn P) i P.length
  have e2 := psum_add g (cn P) P.length i
  have e3 : psum g (fun x => cn P (P.length + x)) i = psum g (cn P) i := psum_congr fun x _ => by rw [Nat.add_comm, cn_add]
  rw [Nat.add_comm, e2, e3] at e1
  grind
/-- what is asked of a measure -/
structure Meas (g : Q2 → Q2 → Rat) : Prop where
  self : ∀ a, g a a = 0
  as : ∀ a b, g b a = -g a b
  split : ∀ a b s, g a (lerp a b s) + g (lerp a b s) b = g a b
theorem meas_crs : Meas crs := ⟨fun a => by unfold crs; grind, crs_as, fun a b s => by unfold lerp crs add2 smul sub2; simp only; grind⟩
theorem rp_at (h : Line P l r) : rp P r = lerp (cn P (l.1 + gapN P.length l r)) (cn P (l.1 + gapN P.length l r + 1)) r.2 := by
  obtain ⟨g1, g2, g3, g4⟩ := h.gap
  unfold rp
  rw [← g3, cn_mod]
  congr 1
  unfold cn
  rw [Nat.add_mod, Nat.mod_mod, ← Nat.add_mod]
theorem lerp0 (a b : Q2) : lerp a b 0 = a := by unfold lerp add2 smul sub2; exact Prod.ext (by simp only; grind) (by simp only; grind)
theorem wet_mom (M : Meas g) (h : Line P l r) : mom g (wet P l r) = g (rp P l) (cn P (l.1 + 1)) + psum g (fun x => cn P (l.1 + 1 + x)) (gapN P.length l r - 1) + g (cn P (l.1 + gapN P.length l r)) (rp P r) + g (rp P r) (rp P l) := by
  obtain ⟨g1, g2, g3, g4⟩ := h.gap
  have hp1 := h.pass1
  have g5 := h.gap2
  have eB := rp_at h
  have hp : passN P.length l r = gapN P.length l r - (if r.2 = 0 then 1 else 0) := rfl
  generalize hpp : passN P.length l r = p at *
  generalize hm : gapN P.length l r = m at *
  rw [wet_map, hpp, mom_psum]
  have hmid : ∀ {i : Nat}, 0 < i → i ≤ p → wetF P l r i = cn P (l.1 + i) := fun i1 i2 => by
    unfold wetF
    rw [if_neg (by omega), hpp, if_pos i2]
  have hB : wetF P l r (p + 1) = rp P r := by
    unfold wetF
    rw [if_neg (by omega), hpp, if_neg (by omega)]
  have hA : wetF P l r 0 = rp P l := rfl
  rw [hB, hA, psum, hB, hmid (i := p) (by omega) (by omega)]
  have e1 : psum g (wetF P l r) p = g (rp P l) (cn P (l.1 + 1)) + psum g (fun x => cn P (l.1 + 1 + x)) (p - 1) := by
    have := psum_add g (wetF P l r) 1 (p - 1)
    rw [show 1 + (p - 1) = p by omega] at this
    rw [this, psum, psum, hA, hmid (i := 0 + 1) (by omega) (by omega)]
    rw [psum_congr (h := fun x => cn P (l.1 + 1 + x)) fun x hx => by
      show wetF P l r (1 + x) = _
      rw [hmid (by omega) (by omega), Nat.add_assoc]]
    grind
  rw [e1]
  by_cases tz : r.2 = 0
  · rw [if_pos tz] at hp
    have e2 : rp P r = cn P (l.1 + m) := by rw [eB, tz, lerp0]
    have e3 : psum g (fun x => cn P (l.1 + 1 + x)) (m - 1) = psum g (fun x => cn P (l.1 + 1 + x)) (p - 1) + g (cn P (l.1 + p)) (rp P r) := by
      rw [show m - 1 = (p - 1) + 1 by have := g5 tz; omega, psum, e2, show l.1 + 1 + (p - 1) = l.1 + p by omega, show l.1 + 1 + (p - 1 + 1) = l.1 + m by omega]
    rw [e3, ← e2, M.self]
    grind
  · rw [if_neg tz] at hp
    rw [show p = m by omega]
/-- both parts make up the whole -/
theorem wet_both (M : Meas g) (h0 : P ≠ []) (h : Line P l r) : mom g (wet P l r) + mom g (wet P r l) = mom g P := by
  obtain ⟨g1, g2, g3, g4⟩ := h.gap
  rw [wet_mom M h, wet_mom M h.flip, g4]
  have eB := rp_at h
  have eA : rp P l = lerp (cn P l.1) (cn P (l.1 + 1)) l.2 := rfl
  have hc : ∀ x, cn P (r.1 + x) = cn P (l.1 + gapN P.length l r + x) := fun x => by
    rw [← g3]
    unfold cn
    rw [Nat.add_mod, Nat.mod_mod, ← Nat.add_mod]
  rw [hc 1, show (fun x => cn P (r.1 + 1 + x)) = (fun x => cn P (l.1 + (gapN P.length l r + 1 + x))) from funext fun x => by rw [Nat.add_assoc, hc]; congr 1; omega, hc, M.as (rp P r) (rp P l)]
  generalize gapN P.length l r = m at *
  have s1 := M.split (cn P l.1) (cn P (l.1 + 1)) l.2
  rw [← eA] at s1
  have s2 := M.split (cn P (l.1 + m)) (cn P (l.1 + m + 1)) r.2
  rw [← eB] at s2
  have e0 := mom_at (g := g) h0 l.1
  have e1 := psum_add g (fun x => cn P (l.1 + x)) 1 (P.length - 1)
  rw [show 1 + (P.length - 1) = P.length by omega, e0] at e1
  have e2 := psum_add g (fun x => cn P (l.1 + (1 + x))) (m - 1) (P.length - m)
  rw [show m - 1 + (P.length - m) = P.length - 1 by omega] at e2
  have e3 := psum_add g (fun x => cn P (l.1 + (1 + (m - 1 + x)))) 1 (P.length - m - 1)
  rw [show 1 + (P.length - m - 1) = P.length - m by omega] at e3
  have e4 : psum g (fun x => cn P (l.1 + x)) 1 = g (cn P l.1) (cn P (l.1 + 1)) := by
    simp only [psum, Nat.add_zero, Nat.zero_add]; grind
  have e5 : psum g (fun x => cn P (l.1 + (1 + (m - 1 + x)))) 1 = g (cn P (l.1 + m)) (cn P (l.1 + m + 1)) := by
    simp only [psum, Nat.add_zero, Nat.zero_add]
    rw [show l.1 + (1 + (m - 1)) = l.1 + m by omega, show l.1 + (1 + (m - 1 + 1)) = l.1 + m + 1 by omega]; grind
  have e6 : psum g (fun x => cn P (l.1 + 1 + x)) (m - 1) = psum g (fun x => cn P (l.1 + (1 + x))) (m - 1) := psum_congr fun x _ => by rw [Nat.add_assoc]
  have e7 : psum g (fun x => cn P (l.1 + (1 + (m - 1 + (1 + x))))) (P.length - m - 1) = psum g (fun x => cn P (l.1 + (m + 1 + x))) (P.length - m - 1) := psum_congr fun x _ => by rw [show l.1 + (1 + (m - 1 + (1 + x))) = l.1 + (m + 1 + x) by omega]
  have e8 : cn P (l.1 + m + (P.length - m)) = cn P l.1 := by rw [show l.1 + m + (P.length - m) = l.1 + P.length by omega, cn_add]
  rw [e6, e8]
  rw [e4] at e1
  rw [e5, e7] at e3
  grind
end
end Pl

/-! PT3: the law's rim points and stands. -/
namespace Pl
open PySem (PyData Str)
abbrev rimD (r : Rm) : D := .tuple [.int (r.1 : Int), fr r.2]
abbrev lineD (l r : Rm) : D := .tuple [rimD l, rimD r]
/-! ### sizes -/
structure Shr (k : Nat) (b : Int) (t : Rat) : Prop where
  pos : 0 < b
  sm : Sm k b
  bq : Bq k b t
theorem Shr.mono {j k : Nat} {b : Int} {t : Rat} (h : Shr j b t) (q : j ≤ k) : Shr k b t := ⟨h.pos, h.sm.mono q, h.bq.mono q⟩
theorem Shr.szF {k : Nat} {b : Int} {t : Rat} (h : Shr k b t) : SzF k t := by
  have := h.bq.szF h.pos h.sm
  rwa [Nat.max_self] at this
theorem Bq.scale {j k : Nat} {d c : Int} {q : Rat} (h : Bq k d q) (sc : Sm j c) : Bq (j + k) (c * d) q := by
  obtain ⟨z, s, e⟩ := h
  exact ⟨c * z, sc.mul s, by rw [Rat.intCast_mul, e, Rat.intCast_mul]; grind⟩
theorem Bp.scale {j k : Nat} {d c : Int} {p : Q2} (h : Bp k d p) (sc : Sm j c) : Bp (j + k) (c * d) p := ⟨h.x.scale sc, h.y.scale sc⟩
theorem lerp_bp {j k : Nat} {d b : Int} {p q : Q2} {t : Rat} (hp : Bp k d p) (hq : Bp k d q) (ht : Shr j b t) : Bp (j + k + 2) (b * d) (lerp p q t) := by
  unfold lerp
  exact ((hp.scale ht.sm).mono (k := j + (k + 1)) (by omega)).add (((hq.sub hp).smul ht.bq).mono (by omega)) |>.mono (by omega)
section
variable {G : Prog} {P : List Q2}
structure KnRim0 (G : Prog) : Prop extends KnW G where
  on : G.T "_law_on" = some p__law_on
  by_ : G.T "_law_by" = some p__law_by
  next : G.T "_law_next" = some p__law_next
  edge : G.T "_law_edge" = some p__law_edge
structure KnRim (G : Prog) : Prop extends KnRim0 G where
  at_ : G.T "_law_at" = some p__law_at
theorem cn_at {i : Nat} (h : i < P.length) : atI (P.map pt) (i : Int) = some (pt (cn P i)) := atI_pts (cn_lt h)
theorem l_next (h : G.T "_law_next" = some p__law_next) (n : Nat) {i : Nat} (hi : i < P.length) (hl : P.length ≤ 1000) : callU G (n + 1) "_law_next" [.tuple (P.map pt), .int (i : Int)] [] = some (.int (((i + 1) % P.length : Nat) : Int), []) := by
  rw [callU_eq h]
  have hok : intOk ((i : Int) + 1) = true := by simp [intOk]; omega
  have hn : P ≠ [] := fun e => by rw [e] at hi; simp at hi
  have hf : ((i : Int) + 1).fmod (P.length : Int) = ((i : Int) + 1) % (P.length : Int) := Int.fmod_eq_emod_of_nonneg _ (by omega)
  simp [runF, p__law_next, mkEnv, hok, hn, hf]
section
variable (K : KnRim0 G)
include K
theorem l_edge0 (n : Nat) {k : Nat} (hs : ∀ p ∈ P, SzP k p) (hk : k < 4000) {i : Nat} (hi : i < P.length) (hl : P.length ≤ 1000) :
    callU G (n + 5) "_law_edge" [.tuple (P.map pt), .int (i : Int)] [] = some (pt (sub2 (cn P (i + 1)) (cn P i)), []) := by
  have hn : P ≠ [] := fun e => by rw [e] at hi; simp at hi
  have e1 := l_next K.next (n + 3) hi hl
  have hj : (i + 1) % P.length < P.length := Nat.mod_lt _ (by omega)
  have a1 := cn_at (P := P) hi
  have a2 := cn_at (P := P) hj
  rw [cn_mod] at a2
  have e2 := l_way K.toKnW n (hs _ (cn_mem hn i)) (hs _ (cn_mem hn (i + 1))) (by omega)
  rw [callU_eq K.edge]
  refine runF_of rfl (run_last (xs_ret (xe_call (xes_cons (xe_idx (x := .tuple (P.map pt)) (y := .int (i : Int)) (xe_var rfl) (xe_var rfl) a1) (xes_cons (xe_idx (x := .tuple (P.map pt)) (y := .int (((i + 1) % P.length : Nat) : Int)) (xe_var rfl) (xe_call (xes_cons (xe_var rfl) (xes_cons (xe_var rfl) xes_nil)) rfl (by rw [ctx_fn K.next rfl, e1]; rfl)) a2) xes_nil)) rfl (by rw [ctx_fn K.toKnW.way rfl, e2]; rfl))))
end
section
variable (K : KnRim G)
include K
end
/-! ### drawn stands -/
structure KnPrt (G : Prog) : Prop extends KnF G, KnU G where
  part : G.T "_law_part" = some p__law_part__b
section
variable (K : KnPrt G)
include K
end
structure KnLine (G : Prog) : Prop extends KnRim G, KnU G where
  part : G.T "_law_part" = some p__law_part__b
  end_ : G.T "_law_end" = some p__law_end
  touched : G.T "_law_touched" = some p__law_touched
  is_line : G.T "_law_is_line" = some p__law_is_line
  line : G.T "_law_line" = some p__law_line__a
section
variable (K : KnLine G)
include K
/-- a drawn stand with its sizes -/
structure LineS (P : List Q2) (l r : Rm) : Prop where
  line : Line P l r
  sl : ∃ b : Int, Shr 4 b l.2 ∧ b ≤ 10
  sr : ∃ b : Int, Shr 4 b r.2 ∧ b ≤ 10
end
/-! ### what is under water -/
section
variable {l r : Rm}
structure KnWet (G : Prog) : Prop extends KnRim G where
  wet : G.T "_law_wet" = some p__law_wet
def tailOf : Ss → Ss | .cons _ s => s | .nil => .nil
abbrev wetB : Ss := forBody (tailOf p__law_wet.body)
def spots (P : List Q2) (l : Rm) (x : Nat) : List Q2 := rp P l :: (List.range x).map fun y => cn P (l.1 + 1 + y)
end
end
end Pl

/-! PT4: what is known of the parts of a drawn section. -/
namespace Pl
open PySem (PyData Str)
theorem cv_nodup {L : List Q2} (h : Cv L) (h3 : 3 ≤ L.length) : L.Nodup := by
  refine List.pairwise_iff_getElem.mpr fun i j hi hj ij e => ?_
  have g : ∀ {x : Nat} (hx : x < L.length), L[x]? = some L[x] := fun hx => List.getElem?_eq_getElem hx
  by_cases c : j + 1 < L.length
  · have := cv_ix h (i := i) (j := j) (k := j + 1) ij (by omega) (g hi) (g hj) (g c)
    rw [e, ori_self0] at this
    exact Rat.lt_irrefl this
  · by_cases c2 : 0 < i
    · have := cv_ix h (i := 0) (j := i) (k := j) c2 ij (g (by omega)) (g hi) (g hj)
      rw [e, ori_self2] at this
      exact Rat.lt_irrefl this
    · have := cv_ix h (i := i) (j := i + 1) (k := j) (by omega) (by omega) (g hi) (g (by omega)) (g hj)
      rw [e, ori_self1] at this
      exact Rat.lt_irrefl this
/-- a part in its order -/
structure Part (L H : List Q2) : Prop where
  poly : Poly H
  len : H.length = L.length
  mem : ∀ x, x ∈ H ↔ x ∈ L
  mom : ∀ g : Q2 → Q2 → Rat, mom g H = mom g L
  l3 : 3 ≤ H.length
theorem part_of {L : List Q2} (h : Cv L) (h3 : 3 ≤ L.length) : Part L (hullQ L) := by
  have hne : L ≠ [] := fun e => by rw [e] at h3; simp at h3
  obtain ⟨u, v, e1, e2⟩ := hull_rot h (cv_nodup h h3) hne
  have hl : (hullQ L).length = L.length := by rw [e2, e1]; simp; omega
  exact ⟨hullQ_poly hne, hl, fun x => by rw [e2, e1]; simp [or_comm], fun g => by rw [e2, e1, mom_rots], by omega⟩
theorem Part.shoe {L H : List Q2} (h : Part L H) : shoe H = shoe L := by rw [shoe_mom, shoe_mom, h.mom]
theorem Part.pos {L H : List Q2} (h : Part L H) : 0 < Pl.shoe H := shoe_pos h.poly.cv h.l3
theorem Part.mid {L H : List Q2} (h : Part L H) : midQ H = midQ L := by unfold midQ; rw [h.mom, h.mom, h.shoe]
section
variable {P : List Q2} {l r : Rm}
theorem wet_part (hP : Cv P) (h3 : 3 ≤ P.length) (h : Line P l r) : Part (wet P l r) (hullQ (wet P l r)) :=
  part_of (wet_cv hP (fun e => by rw [e] at h3; simp at h3) h3 h) (by rw [wet_len]; have := h.pass1; omega)
theorem wet_both_shoe (h0 : P ≠ []) (h : Line P l r) : shoe (wet P l r) + shoe (wet P r l) = shoe P := by
  rw [shoe_mom, shoe_mom, shoe_mom]; exact wet_both meas_crs h0 h
theorem wet_lt (h : Line P l r) : (wet P l r).length ≤ P.length + 1 := by
  rw [wet_len]
  have := h.gap
  unfold passN
  omega
/-- the sizes of all points of both parts, over one number -/
theorem LineS.bp (h : LineS P l r) (hP : Plate P) : ∃ d : Int, 0 < d ∧ Sm 11 d ∧ (∀ p ∈ P, Bp 16 d p) ∧ Bp 20 d (rp P l) ∧ Bp 20 d (rp P r) := by
  obtain ⟨w, w0, w5, hb⟩ := hP.sz
  obtain ⟨bl, sl, _⟩ := h.sl
  obtain ⟨br, sr, _⟩ := h.sr
  have h0 := hP.poly.ne
  have sw : Sm 3 w := by unfold Sm; omega
  refine ⟨bl * (br * w), Int.mul_pos sl.pos (Int.mul_pos sr.pos w0), sl.sm.mul (sr.sm.mul sw), fun p hp => (((hb p hp).scale sr.sm).scale sl.sm).mono (by decide), ?_, ?_⟩
  · have := (lerp_bp (hb _ (cn_mem h0 l.1)) (hb _ (cn_mem h0 (l.1 + 1))) sl).scale sr.sm
    rw [← Int.mul_assoc, Int.mul_comm br bl, Int.mul_assoc] at this
    exact this.mono (by decide)
  · exact ((lerp_bp (hb _ (cn_mem h0 r.1)) (hb _ (cn_mem h0 (r.1 + 1))) sr).scale sl.sm).mono (by decide)
theorem wet_mem {x : Q2} (h0 : P ≠ []) (h : x ∈ wet P l r) : x = rp P l ∨ x = rp P r ∨ x ∈ P := by
  unfold wet at h
  simp only [List.cons_append, List.mem_cons, List.mem_append, List.mem_map, List.mem_range, List.not_mem_nil, or_false] at h
  rcases h with h | ⟨i, _, rfl⟩ | h
  · exact .inl h
  · exact .inr (.inr (cn_mem h0 _))
  · exact .inr (.inl h)
end
theorem area_szF {k : Nat} {d : Int} {P : List Q2} (h : ∀ p ∈ P, Bp k d p) (h0 : 0 < d) (sd : Sm k d) : SzF (2 * k + 2 + P.length) (shoe P / 2) := by
  obtain ⟨z, sz, ez⟩ := shoe_bq h
  refine szF_of (x := z) (y := 2 * (d * d)) (Int.mul_pos (by decide) (Int.mul_pos h0 h0)) ?_ (sz.mono (by omega)) (((Sm.mul (j := 2) (sm_lit (by decide)) (sd.mul sd))).mono (by omega))
  rw [ez, Rat.intCast_mul 2]
  have : ((2 : Int) : Rat) = 2 := rfl
  rw [this]
  grind
end Pl

/-! PT5: the law's size and middle of a list of points (PR14, PR15, turned to lists). -/
namespace Pl
open PySem (PyData Str)
section
variable {G : Prog}
end
end Pl

/-! PT6: the program's rim points and stands. -/
namespace Pl
open PySem (PyData Str)
section
variable {G : Prog} (K : KnVb G) {k : Nat} {p q : Q2} {r : Rat}
include K
end
theorem xe_glob {G : Prog} {n : Nat} {x : String} {d : D} {env : Env} {u : U} (h : G.glob x = some d) : evalE (ctxN G n) (.glob x) env u = some (d, u) := by
  have : (ctxN G n).glob x = some d := h
  simp only [evalE, this, Option.bind_some]
structure KnRi (G : Prog) : Prop extends KnVb G where
  is_ratio : G.T "is_ratio" = some p_is_ratio
  is_between : G.T "is_between" = some p_is_between
  is_share : G.T "is_share" = some p_is_share
  is_rim : G.T "is_rim" = some p_is_rim
structure KnRimP (G : Prog) : Prop extends KnRi G where
  vector_sum : G.T "vector_sum" = some p_vector_sum
  vector_less : G.T "vector_less" = some p_vector_less
  vector_times : G.T "vector_times" = some p_vector_times
  vector_between : G.T "vector_between" = some p_vector_between
  edges_at : G.T "edges_at" = some p_edges_at
  is_line : G.T "is_line" = some p_is_line
  check_stand : G.T "check_stand" = some p_check_stand
  rim_point : G.T "rim_point" = some p_rim_point
  chord_ends : G.T "chord_ends" = some p_chord_ends
  zero : G.glob "ZERO" = some (.tuple [.int 0, .int 1])
instance {G : Prog} : Coe (KnRimP G) (KnRi G) := ⟨KnRimP.toKnRi⟩
section
variable {G : Prog} (K : KnRi G) {P : List Q2} {l r : Rm}
include K
end
section
variable {G : Prog} (K : KnRimP G) {P : List Q2} {l r : Rm}
include K
structure SzL (k : Nat) (P : List Q2) (l r : Rm) : Prop where
  p : ∀ p ∈ P, SzP k p
  l : SzF k l.2
  r : SzF k r.2
end
end Pl

/-! PT7: what the program reckons of what is under water. -/
namespace Pl
open PySem (PyData Str)
structure KnChord (G : Prog) : Prop extends KnRimP G where
  passed : G.T "passed_corners" = some p_passed_corners
  below : G.T "points_below" = some p_points_below
abbrev pcW : E := .cmp .ne (.var 2) (.var 3)
abbrev pcB : Ss := .cons (.set 2 (.bin .mod (.bin .add (.var 2) (.lit (.int 1))) (.bi .len (.cons (.var 0) .nil)))) (.cons (.app 4 (.var 2)) .nil)
section
variable {G : Prog} (K : KnChord G) {P : List Q2} {l r : Rm}
def pcs (n : Nat) (l : Rm) (m : Nat) : List D := (List.range m).map fun x => .int (((l.1 + 1 + x) % n : Nat) : Int)
include K
end
end Pl

/-! PT8: a drawn stand: sizes, middles, levers, by the program and by the law. -/
namespace Pl
open PySem (PyData Str)
/-- a drawn section with a drawn stand -/
structure Dr (P : List Q2) (l r : Rm) : Prop where
  pl : Plate P
  ln : LineS P l r
section
variable {P : List Q2} {l r : Rm} (h : Dr P l r)
include h
theorem Dr.flip : Dr P r l := ⟨h.pl, h.ln.line.flip, h.ln.sr, h.ln.sl⟩
theorem Dr.len : P.length ≤ 1000 := by have := h.pl.l8; omega
theorem Dr.bp : ∃ d : Int, 0 < d ∧ Sm 20 d ∧ (∀ p ∈ P, Bp 20 d p) ∧ ∀ p ∈ wet P l r, Bp 20 d p := by
  obtain ⟨d, d0, sd, b, bl, br⟩ := h.ln.bp h.pl
  refine ⟨d, d0, sd.mono (by decide), fun p hp => (b p hp).mono (by decide), fun p hp => ?_⟩
  rcases wet_mem h.pl.poly.ne hp with e | e | e
  · rw [e]; exact bl
  · rw [e]; exact br
  · exact (b p e).mono (by decide)
theorem Dr.wet20 : ∀ p ∈ wet P l r, SzP 20 p := fun p hp => by
  obtain ⟨d, d0, sd, _, b⟩ := h.bp
  have := (b p hp).szP d0 sd
  rwa [Nat.max_self] at this
theorem Dr.rl : SzP 20 (rp P l) := h.wet20 _ (by unfold wet; simp)
theorem Dr.rr : SzP 20 (rp P r) := h.wet20 _ (by unfold wet; simp)
theorem Dr.way : SzP 41 (sub2 (rp P r) (rp P l)) := szP_sub h.rr h.rl
theorem Dr.part : Part (wet P l r) (hullQ (wet P l r)) := wet_part h.pl.poly.cv h.pl.l3 h.ln.line
theorem Dr.pos : 0 < shoe (wet P l r) := by rw [← h.part.shoe]; exact h.part.pos
theorem Dr.wlen : (wet P l r).length ≤ 9 := by have := wet_lt h.ln.line; have := h.pl.l8; omega
theorem Dr.mid : SzP 80 (midQ (wet P l r)) := by
  obtain ⟨d, d0, sd, _, b⟩ := h.bp
  exact (szP_mid b d0 sd h.pos).mono (by have := h.wlen; omega)
theorem Dr.area : SzF 60 (shoe (wet P l r) / 2) := by
  obtain ⟨d, d0, sd, _, b⟩ := h.bp
  exact (area_szF b d0 sd).mono (by have := h.wlen; omega)
theorem Dr.sum : shoe (wet P l r) + shoe (wet P r l) = shoe P := wet_both_shoe h.pl.poly.ne h.ln.line
end
structure KnWm (G : Prog) : Prop extends KnChord G, KnM G, KnPl G where
  wet_middle : G.T "wet_middle" = some p_wet_middle
structure KnBal (G : Prog) : Prop extends KnWm G where
  chord_way : G.T "chord_way" = some p_chord_way
  check_point : G.T "check_point" = some p_check_point
  check_balance : G.T "check_balance" = some p_check_balance
  inner_of : G.T "inner_of" = some p_inner_of
  ratio : G.T "ratio" = some p_ratio
theorem KnBal.v {G : Prog} (K : KnBal G) : KnV G := ⟨K.toKnVb, K.ratio⟩
structure KnLev (G : Prog) : Prop extends KnBal G where
  lever_of : G.T "lever_of" = some p_lever_of
section
variable {G : Prog} {P : List Q2} {l r : Rm}
def levQ (P : List Q2) (l r : Rm) (m : Q2) : Rat := dot (sub2 (rp P r) (rp P l)) (sub2 (midQ (wet P l r)) m)
/-- the word of a number -/
def wordQ (q : Rat) : Str := if 0 < q.num then PySem.Str.ofString "left" else if q.num < 0 then PySem.Str.ofString "right" else PySem.Str.ofString "rest"
/-! ### the law's -/
end
end Pl

/-! PT9: metacentres, firmnesses. -/
namespace Pl
open PySem (PyData Str)
/-! ### sizes, each its own -/
section
variable {j k : Nat} {p q : Q2} {r s : Rat}
theorem szP_add2 (A : SzP j p) (B : SzP k q) : SzP (j + k + 1) (add2 p q) := by
  obtain ⟨h, e1, e2, _⟩ := add_num (A.mono (Nat.le_max_left j k)) (B.mono (Nat.le_max_right j k))
  exact szP_of h e1 e2 (((A.x.mul B.w).add ((B.x.mul A.w).mono (by omega : k + j ≤ j + k))).mono (by omega)) (((A.y.mul B.w).add ((B.y.mul A.w).mono (by omega : k + j ≤ j + k))).mono (by omega)) ((A.w.mul B.w).mono (by omega))
theorem szP_sub2 (A : SzP j p) (B : SzP k q) : SzP (j + k + 1) (sub2 p q) := by
  obtain ⟨h, e1, e2, _⟩ := sub_num (A.mono (Nat.le_max_left j k)) (B.mono (Nat.le_max_right j k))
  exact szP_of h e1 e2 (((A.x.mul B.w).sub ((B.x.mul A.w).mono (by omega : k + j ≤ j + k))).mono (by omega)) (((A.y.mul B.w).sub ((B.y.mul A.w).mono (by omega : k + j ≤ j + k))).mono (by omega)) ((A.w.mul B.w).mono (by omega))
theorem szP_smul2 (A : SzP j p) (B : SzF k r) : SzP (j + k) (smul r p) := by
  obtain ⟨h, e1, e2, _⟩ := smul_num (A.mono (Nat.le_max_left j k)) (B.mono (Nat.le_max_right j k))
  exact szP_of h e1 e2 (A.x.mul B.x) (A.y.mul B.x) (A.w.mul B.y)
end
/-! ### the law's fractions -/
/-! ### what they reckon -/
def wayQ (P : List Q2) (l r : Rm) : Q2 := sub2 (rp P r) (rp P l)
def spanQ (P : List Q2) (l r : Rm) : Rat := dot (wayQ P l r) (wayQ P l r)
def areaQ (P : List Q2) (l r : Rm) : Rat := shoe (wet P l r) / 2
def metaQ (P : List Q2) (l r : Rm) : Q2 := add2 (midQ (wet P l r)) (smul (spanQ P l r / (areaQ P l r * 12)) (qtr (wayQ P l r)))
def firmQ (P : List Q2) (l r : Rm) (m : Q2) : Rat := dot (qtr (wayQ P l r)) (sub2 (metaQ P l r) m)
def forQ (P : List Q2) (l r : Rm) (f : Rat) : Q2 := sub2 (metaQ P l r) (smul (f / spanQ P l r) (qtr (wayQ P l r)))
section
variable {P : List Q2} {l r : Rm} (h : Dr P l r)
include h
theorem Dr.ends : rp P l ≠ rp P r := fun e => by
  have hc := wet_cv h.pl.poly.cv h.pl.poly.ne h.pl.l3 h.ln.line
  have hp := h.ln.line.pass1
  have hlen := wet_len P l r
  have a0 : (wet P l r)[0]? = some (rp P l) := by unfold wet; rfl
  have a1 : (wet P l r)[passN P.length l r + 1]? = some (rp P r) := by
    unfold wet
    rw [List.getElem?_append_right (by simp)]
    simp
  obtain ⟨b, hb⟩ : ∃ b, (wet P l r)[1]? = some b := ⟨_, List.getElem?_eq_getElem (by omega)⟩
  have := cv_ix hc (i := 0) (j := 1) (k := passN P.length l r + 1) (by omega) (by omega) a0 hb a1
  rw [e, ori_self1] at this
  exact Rat.lt_irrefl this
theorem Dr.up : SzP 41 (qtr (wayQ P l r)) := szP_qtr h.way
end
end Pl

/-! PT10: metacentres, firmnesses, by the program and by the law. -/
namespace Pl
open PySem (PyData Str)
structure KnMeta (G : Prog) : Prop extends KnLev G, KnA G where
  stand_area : G.T "stand_area" = some p_stand_area
  quartered : G.T "quartered" = some p_quartered
  span_of : G.T "span_of" = some p_span_of
  metacentre_of : G.T "metacentre_of" = some p_metacentre_of
structure KnFirm (G : Prog) : Prop extends KnMeta G where
  firmness_of : G.T "firmness_of" = some p_firmness_of
section
variable {G : Prog} {P : List Q2} {l r : Rm}
/-! ### the law's -/
structure KnLm (G : Prog) : Prop where
  wt : KnWet G
  md : KnMid G
  size : G.T "_law_size" = some p__law_size__a
  below : G.T "_law_below" = some p__law_below
  chord : G.T "_law_chord" = some p__law_chord
  dot : G.T "_law_dot" = some p__law_dot__a
  mul : G.T "_law_mul" = some p__law_mul__a
  div : G.T "_law_div" = some p__law_div
  quarter : G.T "_law_quarter" = some p__law_quarter__a
  mt : G.T "_law_meta" = some p__law_meta__a
  for_ : G.T "_law_for" = some p__law_for
end
end Pl

/-! PT18: is_line of any two rim points. -/
namespace Pl
open PySem (PyData Str)
section
variable {G : Prog} (K : KnRimP G) {P : List Q2} {l r : Rm}
include K
end
end Pl

/-! PT19: the up of a stand. -/
namespace Pl
open PySem (PyData Str)
end Pl

/-! PV: steps of the evaluation, found by the form of the term. -/
namespace Pl
open PySem (PyData Str)
section
variable {G : Prog} {m : Nat} {C : Ctx} {ff : String → Bool} {env env1 : Env} {u u1 u2 : U}
/-- a call of a def, as the context has it -/
theorem fnE {f : String} {p : PFun} {ds : List D} {d : D} {us : U} (h : G.T f = some p) (hu : p.urn = false) (e : callU G m f ds [] = some (d, us)) : (ctxN G m).fn f ds = some d := by
  rw [ctx_fn h hu, e]; rfl
theorem ufnE {f : String} {p : PFun} {ds : List D} {r : D × U} (h : G.T f = some p) (hu : p.urn = true) (e : callU G m f ds u = some r) : (ctxN G m).ufn f ds u = some r := by
  rw [ctx_ufn h hu, e]
theorem bi_len_t {α : Type} {f : α → D} {l : List α} : biV .len [.tuple (l.map f)] = some (.int (l.length : Int)) := by simp [biV]
theorem bi_len_l {α : Type} {f : α → D} {l : List α} : biV .len [.list (l.map f)] = some (.int (l.length : Int)) := by simp [biV]
theorem cmp_eq_int {a b : Int} : cmpV .eq (.int a) (.int b) = some (decide (a = b)) := by simp only [cmpV, eqD_int]
theorem cmp_ne_int {a b : Int} : cmpV .ne (.int a) (.int b) = some (!decide (a = b)) := by simp only [cmpV, eqD_int]; rfl
theorem cmp_ne_str {s : Str} : cmpV .ne (.str s) (.str s) = some false := by simp [eqD]
theorem cmp_eq_str {s : Str} : cmpV .eq (.str s) (.str s) = some true := by simp [eqD]
theorem xe_true {b : Bool} : evalE C (.lit (.bool b)) env u = some (.bool b, u) := rfl
theorem xe_none : evalE C (.lit .none) env u = some (.none, u) := rfl
theorem xe_str {s : Str} : evalE C (.lit (.str s)) env u = some (.str s, u) := rfl
/-- a name is set: the value holds no list -/
theorem xss_set {i : Nat} {e : E} {d : D} {ss : Ss} {o : Option O} (h : evalE C e env u = some (d, u1)) (hn : noList d = true) (k : execSs C ff ss (env.set i (.imm d)) u1 = o) : execSs C ff (.cons (.set i e) ss) env u = o := by
  have a : after ff env e d = env := by
    unfold after within
    have hl : ∀ xs, d ≠ .list xs := fun xs q => by rw [q] at hn; cases hn
    cases d <;> simp_all
  have b : slotOf ff e d = .imm d := by
    unfold slotOf
    cases d <;> simp_all
  refine run_cons (xs_set h a) ?_
  rw [b]
  exact k
theorem xss_ret {e : E} {d : D} {ss : Ss} (h : evalE C e env u = some (d, u1)) : execSs C ff (.cons (.ret e) ss) env u = some (.rt d u1) := run_last (xs_ret h)
theorem xss_drop {e : E} {d : D} {ss : Ss} {o : Option O} (h : evalE C e env u = some (d, u1)) (k : execSs C ff ss env u1 = o) : execSs C ff (.cons (.drop e) ss) env u = o := run_cons (xs_drop h) k
/-- a test that fails, with nothing else -/
theorem xss_if_no {c : E} {a ss : Ss} {o : Option O} (h : evalE C c env u = some (.bool false, u1)) (k : execSs C ff ss env u1 = o) : execSs C ff (.cons (.ite c a .nil) ss) env u = o := run_cons (xs_ite_f h xss_nil) k
theorem xss_if_ret {c e : E} {a b ss : Ss} {d : D} (h : evalE C c env u = some (.bool true, u1)) (k : evalE C e env u1 = some (d, u2)) : execSs C ff (.cons (.ite c (.cons (.ret e) a) b) ss) env u = some (.rt d u2) := run_last (xs_ite_t h (run_last (xs_ret k)))
/-- two and three names at once -/
theorem xss_par2 {i j : Nat} {e1 e2 : E} {x y : D} {ss : Ss} {o : Option O} (h : evalE C e1 env u = some (x, u1)) (h2 : evalE C e2 env u1 = some (y, u2)) (hx : noList x = true) (hy : noList y = true) (k : execSs C ff ss ((env.set i (.imm x)).set j (.imm y)) u2 = o) : execSs C ff (.cons (.par [i, j] (.cons e1 (.cons e2 .nil))) ss) env u = o := by
  have a : ∀ {e : E} {d : D}, noList d = true → slotOf ff e d = .imm d := fun {e d} hn => by
    unfold slotOf
    cases d <;> simp_all
  have b : ∀ {e : E} {d : D}, noList d = true → within ff e d = true := fun {e d} hn => by
    unfold within
    cases d <;> simp_all
  refine run_cons (env1 := (env.set i (.imm x)).set j (.imm y)) (u1 := u2) ?_ k
  simp only [execS, evalEs, h, h2, Option.bind_some, parSlots, Option.map_some, a hx, a hy, setAll, parWithin, b hx, b hy, Bool.and_true, if_true]
theorem xss_par3 {i j l : Nat} {e1 e2 e3 : E} {u3 : U} {x y z : D} {ss : Ss} {o : Option O} (h : evalE C e1 env u = some (x, u1)) (h2 : evalE C e2 env u1 = some (y, u2)) (h3 : evalE C e3 env u2 = some (z, u3)) (hx : noList x = true) (hy : noList y = true) (hz : noList z = true) (k : execSs C ff ss (((env.set i (.imm x)).set j (.imm y)).set l (.imm z)) u3 = o) : execSs C ff (.cons (.par [i, j, l] (.cons e1 (.cons e2 (.cons e3 .nil)))) ss) env u = o := by
  have a : ∀ {e : E} {d : D}, noList d = true → slotOf ff e d = .imm d := fun {e d} hn => by
    unfold slotOf
    cases d <;> simp_all
  have b : ∀ {e : E} {d : D}, noList d = true → within ff e d = true := fun {e d} hn => by
    unfold within
    cases d <;> simp_all
  refine run_cons (env1 := ((env.set i (.imm x)).set j (.imm y)).set l (.imm z)) (u1 := u3) ?_ k
  simp only [execS, evalEs, h, h2, h3, Option.bind_some, parSlots, Option.map_some, a hx, a hy, a hz, setAll, parWithin, b hx, b hy, b hz, Bool.and_true, if_true]
/-- a new list of things without lists -/
theorem xss_setL {i : Nat} {e : E} {ds : List D} {ss : Ss} {o : Option O} (h : evalE C e env u = some (.list ds, u1)) (hf : fk ff e = true) (hn : noListAll ds = true) (k : execSs C ff ss (env.set i (.own ds)) u1 = o) : execSs C ff (.cons (.set i e) ss) env u = o := by
  refine run_cons (xs_set h (after_t (by unfold within; rw [if_pos hf]; exact hn))) ?_
  rw [slotOf_list_t hf]
  exact k
/-- a list that a call hands back (not new) -/
theorem xss_setLi {i : Nat} {e : E} {ds : List D} {env2 : Env} {ss : Ss} {o : Option O} (h : evalE C e env u = some (.list ds, u1)) (hf : fk ff e = false) (he : freeze env (fvE e) = env2) (k : execSs C ff ss (env2.set i (.imm (.list ds))) u1 = o) : execSs C ff (.cons (.set i e) ss) env u = o := by
  refine run_cons (env1 := env2.set i (.imm (.list ds))) (u1 := u1) ?_ k
  simp only [execS, h, Option.bind_some]
  have a : after ff env e (.list ds) = env2 := by
    unfold after within
    rw [hf]
    simp only [Bool.false_eq_true, if_false, noList]
    exact he
  have b : slotOf ff e (.list ds) = .imm (.list ds) := by
    unfold slotOf
    rw [hf]
    rfl
  rw [a, b]
theorem xss_setLi2 {i : Nat} {e : E} {ds : List D} {ss : Ss} {o : Option O} (h : evalE C e env u = some (.list ds, u1)) (hf : fk ff e = false) (k : execSs C ff ss ((freeze env (fvE e)).set i (.imm (.list ds))) u1 = o) : execSs C ff (.cons (.set i e) ss) env u = o := xss_setLi h hf rfl k
theorem xss_unp2 {i j : Nat} {e : E} {x y : D} {ss : Ss} {o : Option O} (h : evalE C e env u = some (.tuple [x, y], u1)) (hx : noList x = true) (hy : noList y = true) (k : execSs C ff ss ((env.set i (.imm x)).set j (.imm y)) u1 = o) : execSs C ff (.cons (.unp [.nm i, .nm j] e) ss) env u = o := by
  refine run_cons (env1 := (env.set i (.imm x)).set j (.imm y)) (u1 := u1) ?_ k
  simp only [execS, h, Option.bind_some, noListAll, hx, hy, Bool.and_self, if_true, bindTu]
theorem xss_if_t {c : E} {a b ss : Ss} {o : Option O} (h : evalE C c env u = some (.bool true, u1)) (k : execSs C ff a env u1 = some (.nx env1 u2)) (m : execSs C ff ss env1 u2 = o) : execSs C ff (.cons (.ite c a b) ss) env u = o := run_cons (xs_ite_t h k) m
theorem xss_if_f {c : E} {a b ss : Ss} {o : Option O} (h : evalE C c env u = some (.bool false, u1)) (k : execSs C ff b env u1 = some (.nx env1 u2)) (m : execSs C ff ss env1 u2 = o) : execSs C ff (.cons (.ite c a b) ss) env u = o := run_cons (xs_ite_f h k) m
theorem xss_setLx {i : Nat} {e : E} {ds : List D} {ss : Ss} {o : Option O} (h : evalE C e env u = some (.list ds, u1)) (hf : fk ff e = true) (hw : noListAll ds = false) (k : execSs C ff ss ((freeze env (fvE e)).set i (.own ds)) u1 = o) : execSs C ff (.cons (.set i e) ss) env u = o := by
  refine run_cons (env1 := (freeze env (fvE e)).set i (.own ds)) (u1 := u1) ?_ k
  simp only [execS, h, Option.bind_some]
  have a : after ff env e (.list ds) = freeze env (fvE e) := by
    unfold after within
    rw [if_pos hf]
    simp only [hw, Bool.false_eq_true, if_false]
  rw [a, slotOf_list_t hf]
theorem xe_dict0 : evalE C .dict0 env u = some (.dict [], u) := rfl
theorem xe_rep3 {a : E} {d : D} (h : evalE C a env u = some (d, u1)) : evalE C (.rep (.cons a .nil) (.lit (.int 3))) env u = some (.list [d, d, d], u1) := by
  simp only [evalE, evalEs, h, Option.bind_some, litV]
  rfl
theorem xe_rep2 {a : E} {d : D} (h : evalE C a env u = some (d, u1)) : evalE C (.rep (.cons a .nil) (.lit (.int 2))) env u = some (.list [d, d], u1) := by
  simp only [evalE, evalEs, h, Option.bind_some, litV]
  rfl
theorem xe_not_t {a : E} (h : evalE C a env u = some (.bool true, u1)) : evalE C (.not a) env u = some (.bool false, u1) := xe_not h
theorem xe_not_f {a : E} (h : evalE C a env u = some (.bool false, u1)) : evalE C (.not a) env u = some (.bool true, u1) := xe_not h
theorem xe_rev_line {a : E} {l r : Rm} (h : evalE C a env u = some (lineD l r, u1)) : evalE C (.rev a) env u = some (lineD r l, u1) := xe_rev_t h
theorem xe_rev2 {a : E} {x y : D} (h : evalE C a env u = some (.tuple [x, y], u1)) : evalE C (.rev a) env u = some (.tuple [y, x], u1) := xe_rev_t h
theorem xss_asm {s : S} {ss : Ss} {o : Option O} (h : execS C ff s env u = some (.nx env1 u1)) (k : execSs C ff ss env1 u1 = o) : execSs C ff (.cons s ss) env u = o := run_cons h k
theorem xss_asm_rt {s : S} {ss : Ss} {d : D} (h : execS C ff s env u = some (.rt d u1)) : execSs C ff (.cons s ss) env u = some (.rt d u1) := run_last h
theorem xss_app {i : Nat} {e : E} {d : D} {ds : List D} {ss : Ss} {o : Option O} (h : evalE C e env u = some (d, u1)) (hn : noList d = true) (hi : env[i]? = some (.own ds)) (hz : ds.length ≤ 100000) (k : execSs C ff ss (env.set i (.own (ds ++ [d]))) u1 = o) : execSs C ff (.cons (.app i e) ss) env u = o := by
  refine run_cons (env1 := env.set i (.own (ds ++ [d]))) (u1 := u1) ?_ k
  simp only [execS, h, Option.bind_some, hn, if_true, hi]
  rw [if_pos (show sizeOk ds.length = true from decide_eq_true hz)]
theorem xss_pass {ss : Ss} {o : Option O} (k : execSs C ff ss env u = o) : execSs C ff (.cons .pass ss) env u = o := run_cons rfl k
end
section
variable {C : Ctx} {env : Env} {u u1 : U}
/-- a row made of another one -/
theorem xe_comp_map {α : Type} {g h : α → D} {l : List α} {elt : E} {t : Tg} {it : I} {own : List Nat} (h1 : evalI C it env u = some (l.map g, u1)) (hz : l.length ≤ 100000) (hb : ∀ a ∈ l, ∃ env', bindT t (g a) (wipe env own) = some env' ∧ evalE C elt env' u1 = some (h a, u1)) : evalE C (.comp elt t it .no own) env u = some (.list (l.map h), u1) :=
  eval_comp h1 (by rw [List.length_map]; exact hz) (compL_of fun a ha => by
    obtain ⟨env', e1, e2⟩ := hb a ha
    rw [e1, Option.bind_some, xc_no, Option.bind_some]
    show (if true = true then (evalE C elt env' u1).bind _ else _) = _
    rw [if_pos rfl, e2]
    rfl)
end
theorem rng_nat (n : Nat) : rangeL 0 (n : Int) = (List.range n).map fun (i : Nat) => PyData.int (i : Int) := by
  unfold rangeL
  simp
/-! ### what is shown -/
structure ShcL (m c : Nat) (ds : List D) : Prop where
  s : PyData.showableAll ds = true
  h : PyData.hasDictAll ds = false
  d : PyData.depthAll ds ≤ m
  c : cwAll ds ≤ c
theorem shcs_nil : ShcL 0 0 [] := ⟨by simp [PyData.showableAll], by simp [PyData.hasDictAll], by simp [PyData.depthAll], by simp [cwAll]⟩
theorem shcs_cons {m c m' c' : Nat} {d : D} {ds : List D} (h : Shc m c d) (k : ShcL m' c' ds) : ShcL (max m m') (c + 2 + c') (d :: ds) := by
  obtain ⟨h1, h2, h3, h4⟩ := h
  obtain ⟨k1, k2, k3, k4⟩ := k
  refine ⟨by simp [PyData.showableAll, h1, k1], by simp [PyData.hasDictAll, h2, k2], ?_, ?_⟩
  · simp only [PyData.depthAll]; omega
  · simp only [cwAll]; omega
theorem shc_tupL {m c : Nat} {ds : List D} (h : ShcL m c ds) : Shc (m + 1) (c + 3) (.tuple ds) := by
  obtain ⟨k1, k2, k3, k4⟩ := h
  exact ⟨by simp [PyData.showable, k1], by simp [PyData.hasDict, k2], by simp only [PyData.depth]; omega, by simp only [cw]; omega⟩
theorem shc_lstL {m c : Nat} {ds : List D} (h : ShcL m c ds) : Shc (m + 1) (c + 3) (.list ds) := by
  obtain ⟨k1, k2, k3, k4⟩ := h
  exact ⟨by simp [PyData.showable, k1], by simp [PyData.hasDict, k2], by simp only [PyData.depth]; omega, by simp only [cw]; omega⟩
theorem shc_int0 {i : Int} (h : i.natAbs < 1000000) : Shc 0 1921 (.int i) := shc_int (k := 20) (by unfold Sm; omega) (by decide)
local macro_rules | `(tactic| walk_at "shc") => `(tactic| first
  | with_reducible assumption
  | with_reducible exact shcs_nil
  | with_reducible exact shc_bool _
  | with_reducible exact shc_none
  | ((with_reducible refine' shcs_cons ?h ?k); (case h => walk_at "shc"); (case k => walk_at "shc"))
  | ((with_reducible refine' shc_tupL ?h); (case h => walk_at "shc"))
  | ((with_reducible refine' shc_lstL ?h); (case h => walk_at "shc"))
  | ((with_reducible refine' shc_int0 ?h); (case h => first | decide | omega)))
theorem nl_tx {P : List Q2} : noList (.tuple (P.map pt)) = true := by rw [noList]; exact noListAll_pt _
local macro_rules | `(tactic| walk_at "fact") => `(tactic| first | with_reducible assumption | assumption)
local macro_rules | `(tactic| walk_at "nl") => `(tactic| first | with_reducible assumption | with_reducible exact nl_tx | exact rfl | (simp only [noList, noListAll, noListAll_pt, Bool.and_true, Bool.true_and]; done))
local macro_rules | `(tactic| walk_at "val") => `(tactic| first | with_reducible assumption | with_reducible exact cmp_eq_int | with_reducible exact cmp_ne_int | with_reducible exact cmp_ne_str | with_reducible exact cmp_eq_str | with_reducible exact bi_len_t | with_reducible exact bi_len_l | exact rfl)
local macro_rules | `(tactic| walk_at "ev") => `(tactic| first
  | with_reducible exact xe_int
  | with_reducible exact xes_nil
  | with_reducible assumption
  | ((with_reducible refine' xe_var ?h); (case h => exact rfl))
  | with_reducible exact xe_true
  | with_reducible exact xe_none
  | with_reducible exact xe_str
  | ((with_reducible refine' xes_cons ?h ?k); (case h => walk_at "ev"); (case k => walk_at "ev"))
  | ((with_reducible refine' xe_call ?h ?k ?m); (case h => walk_at "ev"); (case k => exact rfl); (case m => walk_at "fact"))
  | ((with_reducible refine' xe_ucall ?h ?m); (case h => walk_at "ev"); (case m => walk_at "fact"))
  | ((with_reducible refine' xe_idx ?h ?k ?m); (case h => walk_at "ev"); (case k => walk_at "ev"); (case m => walk_at "val"))
  | ((with_reducible refine' xe_tup ?h ?k); (case h => walk_at "ev"); (case k => first | decide | (simp only [List.length_cons, List.length_nil]; decide)))
  | ((with_reducible refine' xe_lst ?h ?k); (case h => walk_at "ev"); (case k => first | decide | (simp only [List.length_cons, List.length_nil]; decide)))
  | ((with_reducible refine' xe_bin ?h ?k ?m); (case h => walk_at "ev"); (case k => walk_at "ev"); (case m => walk_at "val"))
  | ((with_reducible refine' xe_reprs ?h ?k ?s ?m ?c); (case h => walk_at "ev"); (case k => walk_at "ev"); (case s => walk_at "shc"); (case m => decide); (case c => decide))
  | ((with_reducible refine' xe_reprs_eq ?h ?k ?s ?m ?c); (case h => walk_at "ev"); (case k => walk_at "ev"); (case s => walk_at "shc"); (case m => decide); (case c => decide))
  | ((with_reducible refine' xe_cmp ?h ?k ?m); (case h => walk_at "ev"); (case k => walk_at "ev"); (case m => walk_at "val"))
  | ((with_reducible refine' xe_bi ?h ?m); (case h => walk_at "ev"); (case m => walk_at "val"))
  | ((with_reducible refine' xe_neg ?h); (case h => walk_at "ev"))
  | ((with_reducible refine' xe_not_t ?h); (case h => walk_at "ev"))
  | ((with_reducible refine' xe_not_f ?h); (case h => walk_at "ev"))
  | ((with_reducible refine' xe_not ?h); (case h => walk_at "ev"))
  | ((with_reducible refine' xe_rev_line ?h); (case h => walk_at "ev"))
  | ((with_reducible refine' xe_rev2 ?h); (case h => walk_at "ev"))
  | ((with_reducible refine' xe_rev_t ?h); (case h => walk_at "ev"))
  | ((with_reducible refine' xe_rev_l ?h); (case h => walk_at "ev"))
  | ((with_reducible refine' xe_sli ?h ?k ?l ?m); (case h => walk_at "ev"); (case k => walk_at "ev"); (case l => walk_at "ev"); (case m => walk_at "val"))
  | with_reducible exact xo_no
  | with_reducible exact xo_int
  | with_reducible exact xo_neg
  | ((with_reducible refine' xe_ite_t ?h ?k); (case h => walk_at "ev"); (case k => walk_at "ev"))
  | ((with_reducible refine' xe_ite_f ?h ?k); (case h => walk_at "ev"); (case k => walk_at "ev"))
  | ((with_reducible refine' xe_and_t ?h ?k); (case h => walk_at "ev"); (case k => walk_at "ev"))
  | ((with_reducible refine' xe_and_f ?h); (case h => walk_at "ev"))
  | ((with_reducible refine' xe_or_t ?h); (case h => walk_at "ev"))
  | ((with_reducible refine' xe_or_f ?h ?k); (case h => walk_at "ev"); (case k => walk_at "ev"))
  | with_reducible exact xe_dict0
  | ((with_reducible refine' xe_rep3 ?h); (case h => walk_at "ev"))
  | ((with_reducible refine' xe_rep2 ?h); (case h => walk_at "ev"))
  | ((with_reducible refine' xe_glob ?h); (case h => with_reducible assumption)))
local macro_rules | `(tactic| walk_at "ex") => `(tactic| first
  | ((with_reducible refine' xss_asm ?h ?k); (case h => with_reducible assumption); (case k => walk_at "ex"))
  | ((with_reducible refine' xss_asm_rt ?h); (case h => with_reducible assumption))
  | ((with_reducible refine' xss_ret ?h); (case h => walk_at "ev"))
  | ((with_reducible refine' xss_drop ?h ?k); (case h => walk_at "ev"); (case k => walk_at "ex"))
  | ((with_reducible refine' xss_set ?h ?n ?k); (case h => walk_at "ev"); (case n => walk_at "nl"); (case k => ((try dsimp only [List.set]); walk_at "ex")))
  | (with_reducible exact xss_nil)
  | ((with_reducible refine' xss_if_no ?h ?k); (case h => walk_at "ev"); (case k => walk_at "ex"))
  | ((with_reducible refine' xss_if_ret ?h ?k); (case h => walk_at "ev"); (case k => walk_at "ev"))
  | ((with_reducible refine' xss_par2 ?h ?h2 ?x ?y ?k); (case h => walk_at "ev"); (case h2 => walk_at "ev"); (case x => walk_at "nl"); (case y => walk_at "nl"); (case k => ((try dsimp only [List.set]); walk_at "ex")))
  | ((with_reducible refine' xss_par3 ?h ?h2 ?h3 ?x ?y ?z ?k); (case h => walk_at "ev"); (case h2 => walk_at "ev"); (case h3 => walk_at "ev"); (case x => walk_at "nl"); (case y => walk_at "nl"); (case z => walk_at "nl"); (case k => ((try dsimp only [List.set]); walk_at "ex")))
  | ((with_reducible refine' xss_setL ?h ?f ?n ?k); (case h => walk_at "ev"); (case f => exact rfl); (case n => walk_at "nl"); (case k => ((try dsimp only [List.set]); walk_at "ex")))
  | ((with_reducible refine' xss_setLx ?h ?f ?w ?k); (case h => walk_at "ev"); (case f => exact rfl); (case w => first | with_reducible assumption | exact rfl); (case k => ((dsimp only [fvE, fvEs, fvEo, fvI, freeze, frz, List.modify_cons, List.modify_nil, List.set, List.append_nil, List.nil_append, List.cons_append, List.modify, List.modifyTailIdx, List.modifyTailIdx.go, List.modifyHead]); walk_at "ex")))
  | ((with_reducible refine' xss_app ?h ?n ?i ?z ?k); (case h => walk_at "ev"); (case n => walk_at "nl"); (case i => exact rfl); (case z => first | decide | (simp only [List.length_cons, List.length_nil]; decide)); (case k => ((try dsimp only [List.set, List.cons_append, List.nil_append]); walk_at "ex")))
  | ((with_reducible refine' xss_unp2 ?h ?x ?y ?k); (case h => walk_at "ev"); (case x => walk_at "nl"); (case y => walk_at "nl"); (case k => ((try dsimp only [List.set]); walk_at "ex")))
  | ((with_reducible refine' xss_setLi2 ?h ?f ?k); (case h => walk_at "ev"); (case f => first | with_reducible assumption | exact rfl); (case k => ((dsimp only [fvE, fvEs, fvEo, fvI, freeze, frz, List.modify_cons, List.modify_nil, List.set, List.append_nil, List.nil_append, List.cons_append, List.modify, List.modifyTailIdx, List.modifyTailIdx.go, List.modifyHead]); walk_at "ex")))
  | ((with_reducible refine' xss_if_t ?h ?k ?m); (case h => walk_at "ev"); (case k => walk_at "ex"); (case m => walk_at "ex"))
  | ((with_reducible refine' xss_if_f ?h ?k ?m); (case h => walk_at "ev"); (case k => walk_at "ex"); (case m => walk_at "ex"))
  | ((with_reducible refine' xss_pass ?k); (case k => walk_at "ex"))
  )
local macro_rules | `(tactic| walk_at "exd") => `(tactic| first
  | ((with_reducible refine' xss_asm ?h ?k); (case h => with_reducible assumption); (try walk_at "exd"))
  | ((with_reducible refine' xss_asm_rt ?h); (case h => with_reducible assumption))
  | ((with_reducible refine' xss_ret ?h); (case h => walk_at "ev"))
  | ((with_reducible refine' xss_drop ?h ?k); (case h => walk_at "ev"); (try walk_at "exd"))
  | ((with_reducible refine' xss_set ?h ?n ?k); (case h => walk_at "ev"); (case n => walk_at "nl"); (try dsimp only [List.set]); (try walk_at "exd"))
  | (with_reducible exact xss_nil)
  | ((with_reducible refine' xss_if_no ?h ?k); (case h => walk_at "ev"); (try walk_at "exd"))
  | ((with_reducible refine' xss_if_ret ?h ?k); (case h => walk_at "ev"); (case k => walk_at "ev"))
  | ((with_reducible refine' xss_par2 ?h ?h2 ?x ?y ?k); (case h => walk_at "ev"); (case h2 => walk_at "ev"); (case x => walk_at "nl"); (case y => walk_at "nl"); (try dsimp only [List.set]); (try walk_at "exd"))
  | ((with_reducible refine' xss_par3 ?h ?h2 ?h3 ?x ?y ?z ?k); (case h => walk_at "ev"); (case h2 => walk_at "ev"); (case h3 => walk_at "ev"); (case x => walk_at "nl"); (case y => walk_at "nl"); (case z => walk_at "nl"); (try dsimp only [List.set]); (try walk_at "exd"))
  | ((with_reducible refine' xss_setL ?h ?f ?n ?k); (case h => walk_at "ev"); (case f => exact rfl); (case n => walk_at "nl"); (try dsimp only [List.set]); (try walk_at "exd"))
  | ((with_reducible refine' xss_setLx ?h ?f ?w ?k); (case h => walk_at "ev"); (case f => exact rfl); (case w => first | with_reducible assumption | exact rfl); (dsimp only [fvE, fvEs, fvEo, fvI, freeze, frz, List.modify_cons, List.modify_nil, List.set, List.append_nil, List.nil_append, List.cons_append, List.modify, List.modifyTailIdx, List.modifyTailIdx.go, List.modifyHead]); (try walk_at "exd"))
  | ((with_reducible refine' xss_app ?h ?n ?i ?z ?k); (case h => walk_at "ev"); (case n => walk_at "nl"); (case i => exact rfl); (case z => first | decide | (simp only [List.length_cons, List.length_nil]; decide)); (try dsimp only [List.set, List.cons_append, List.nil_append]); (try walk_at "exd"))
  | ((with_reducible refine' xss_unp2 ?h ?x ?y ?k); (case h => walk_at "ev"); (case x => walk_at "nl"); (case y => walk_at "nl"); (try dsimp only [List.set]); (try walk_at "exd"))
  | ((with_reducible refine' xss_setLi2 ?h ?f ?k); (case h => walk_at "ev"); (case f => first | with_reducible assumption | exact rfl); (dsimp only [fvE, fvEs, fvEo, fvI, freeze, frz, List.modify_cons, List.modify_nil, List.set, List.append_nil, List.nil_append, List.cons_append, List.modify, List.modifyTailIdx, List.modifyTailIdx.go, List.modifyHead]); (try walk_at "exd"))
  | ((with_reducible refine' xss_if_t ?h ?k ?m); (case h => walk_at "ev"); (case k => walk_at "exd"); (case m => walk_at "exd"))
  | ((with_reducible refine' xss_if_f ?h ?k ?m); (case h => walk_at "ev"); (case k => walk_at "exd"); (case m => walk_at "exd"))
  | ((with_reducible refine' xss_pass ?k); (try walk_at "exd"))
  | skip)
local macro_rules | `(tactic| walk_at "run") => `(tactic| ((try refine runF_of rfl ?_); simp only [mkEnv, Bool.false_eq_true, if_false, if_true, List.map_cons, List.map_nil, List.nil_append, List.cons_append, Nat.reduceSub, List.replicate_succ, List.replicate_zero]; walk_at "ex"))
local macro_rules | `(tactic| walk_at "rund") => `(tactic| ((try refine runF_of rfl ?_); simp only [mkEnv, Bool.false_eq_true, if_false, if_true, List.map_cons, List.map_nil, List.nil_append, List.cons_append, Nat.reduceSub, List.replicate_succ, List.replicate_zero]; walk_at "exd"))
local macro_rules | `(tactic| walk_at "run") => `(tactic| ((try refine runF_of rfl ?_); (simp only [mkEnv, Bool.false_eq_true, if_false, if_true, List.map_cons, List.map_nil, List.nil_append, List.cons_append, Nat.reduceSub, List.replicate_succ, List.replicate_zero]); walk_at "ex"))
example {G : Prog} (n : Nat) (h1 : G.T "rise" = some p_rise) (a b c d : D) (q1 : (ctxN G n).fn "check_balance" [a, b, c] = some .none) (q2 : (ctxN G n).fn "rise_of" [a, b, c] = some d) : callU G (n + 1) "rise" [a, b, c] [] = some (d, []) := by
  rw [callU_eq h1]
  unfold p_rise
  walk_at "run"
end Pl

/-! PT11: the rim point up to which a part has an area, in plain Lean. -/
namespace Pl
section
variable {P : List Q2} {l r : Rm}
/-- twice the area of the part is the sum of a fan -/
theorem wet_fan (h : Line P l r) : shoe (wet P l r) = psum (fanC (rp P l)) (fun x => cn P (l.1 + 1 + x)) (gapN P.length l r - 1) + r.2 * fanC (rp P l) (cn P (l.1 + gapN P.length l r)) (cn P (l.1 + gapN P.length l r + 1)) := by
  obtain ⟨g1, g2, g3, g4⟩ := h.gap
  have hp1 := h.pass1
  have g5 := h.gap2
  have eB := rp_at h
  have hp : passN P.length l r = gapN P.length l r - (if r.2 = 0 then 1 else 0) := rfl
  unfold wet
  rw [List.cons_append, shoe_fan]
  generalize hpp : passN P.length l r = p at *
  generalize hm : gapN P.length l r = m at *
  generalize rp P l = A at *
  obtain ⟨p', rfl⟩ : ∃ p', p = p' + 1 := ⟨p - 1, by omega⟩
  have e1 : path (fanC A) ((List.range (p' + 1)).map (fun x => cn P (l.1 + 1 + x)) ++ [rp P r]) = psum (fanC A) (fun x => cn P (l.1 + 1 + x)) p' + fanC A (cn P (l.1 + 1 + p')) (rp P r) := by
    rw [List.range_succ, List.map_append, List.map_cons, List.map_nil, List.append_assoc]
    have := path_snoc (fanC A) (cn P (l.1 + 1 + p')) (rp P r) ((List.range p').map fun x => cn P (l.1 + 1 + x))
    simp only [List.cons_append, List.nil_append] at this ⊢
    rw [this]
    have e := path_psum (fanC A) (fun x => cn P (l.1 + 1 + x)) p'
    rw [List.range_succ, List.map_append, List.map_cons, List.map_nil] at e
    rw [e]
  rw [e1]
  have hl : ∀ a b s, fanC A a (lerp a b s) = s * fanC A a b := fun a b s => by
    unfold fanC lerp crs sub2 add2 smul
    simp only
    grind
  by_cases tz : r.2 = 0
  · rw [if_pos tz] at hp
    have e2 : rp P r = cn P (l.1 + m) := by rw [eB, tz, lerp0]
    have := g5 tz
    rw [e2, tz, show m - 1 = p' + 1 by omega, psum, show l.1 + 1 + (p' + 1) = l.1 + m by omega]
    grind
  · rw [if_neg tz] at hp
    rw [eB, show l.1 + 1 + p' = l.1 + m by omega, hl, show m - 1 = p' by omega]
/-- a third of a fan -/
def tr (P : List Q2) (A : Q2) (k : Nat) : Rat := fanC A (cn P k) (cn P (k + 1)) / 2
def trs (P : List Q2) (A : Q2) (k : Nat) : Nat → Rat
  | 0 => 0
  | f + 1 => tr P A k + trs P A (k + 1) f
def farL (P : List Q2) (A : Q2) : Nat → Nat → Rat → Nat × Rat
  | 0, k, _ => (k, 0)
  | f + 1, k, left => if left < tr P A k then (k, left / tr P A k) else farL P A f (k + 1) (left - tr P A k)
theorem farL_spec {A : Q2} : ∀ {f k : Nat} {left : Rat}, 0 ≤ left → left < trs P A k f → ∃ x t, x < f ∧ farL P A f k left = (k + x, t) ∧ 0 ≤ t ∧ t < 1 ∧ 0 < tr P A (k + x) ∧ left = trs P A k x + t * tr P A (k + x) ∧ (∀ y, y < x → ¬ left - trs P A k y < tr P A (k + y)) ∧ left - trs P A k x < tr P A (k + x)
  | 0, k, left, h0, h1 => by
    exfalso
    simp only [trs] at h1
    grind
  | f + 1, k, left, h0, h1 => by
    by_cases c : left < tr P A k
    · have tp : 0 < tr P A k := by grind
      refine ⟨0, left / tr P A k, by omega, by rw [farL, if_pos c, Nat.add_zero], ?_, ?_, by rw [Nat.add_zero]; exact tp, ?_, fun y hy => absurd hy (by omega), ?_⟩
      · rw [← Rat.not_lt, Rat.div_lt_iff tp]; grind
      · rw [Rat.div_lt_iff tp]; grind
      · have := rne0 tp
        rw [Nat.add_zero, trs]
        grind
      · rw [Nat.add_zero, trs]
        grind
    · obtain ⟨x, t, hx, e, t0, t1, tp, el, hy, hl⟩ := farL_spec (A := A) (f := f) (k := k + 1) (left := left - tr P A k) (by grind) (by rw [trs] at h1; grind)
      refine ⟨x + 1, t, by omega, ?_, t0, t1, ?_, ?_, fun y hy' => ?_, ?_⟩
      · rw [farL, if_neg c, e, show k + 1 + x = k + (x + 1) by omega]
      · rw [show k + (x + 1) = k + 1 + x by omega]; exact tp
      · rw [trs, show k + (x + 1) = k + 1 + x by omega]
        grind
      · cases y with
        | zero => rw [Nat.add_zero, trs]; grind
        | succ y =>
          have := hy y (by omega)
          rw [trs, show k + (y + 1) = k + 1 + y by omega]
          grind
      · rw [trs, show k + (x + 1) = k + 1 + x by omega]
        grind
theorem trs_psum (A : Q2) : ∀ (f k : Nat), trs P A k f = psum (fanC A) (fun x => cn P (k + x)) f / 2
  | 0, k => by simp only [trs, psum]; grind
  | f + 1, k => by
    rw [trs, trs_psum A f (k + 1)]
    have := psum_add (fanC A) (fun x => cn P (k + x)) 1 f
    rw [show 1 + f = f + 1 by omega] at this
    rw [this]
    have e : psum (fanC A) (fun x => cn P (k + (1 + x))) f = psum (fanC A) (fun x => cn P (k + 1 + x)) f := psum_congr fun x _ => by rw [Nat.add_assoc]
    rw [e]
    simp only [psum, Nat.add_zero, Nat.zero_add]
    unfold tr
    grind
def farQ (P : List Q2) (e : Rm) (size : Rat) : Rm := ((farL P (rp P e) P.length (e.1 + 1) size).1 % P.length, (farL P (rp P e) P.length (e.1 + 1) size).2)
theorem fan_meas (A : Q2) (a b : Q2) : fanC A a b = crs a b - crs a A - crs A b := by
  unfold fanC crs sub2
  grind
/-- the whole fan is the section's area -/
theorem fan_all (h0 : P ≠ []) (A : Q2) (k : Nat) : psum (fanC A) (fun x => cn P (k + x)) P.length = shoe P := by
  have h1 := mom_at (g := crs) h0 k
  rw [shoe_mom, ← h1]
  have : ∀ n, psum (fanC A) (fun x => cn P (k + x)) n = psum crs (fun x => cn P (k + x)) n - crs (cn P k) A + crs (cn P (k + n)) A := fun n => by
    induction n with
    | zero => simp only [psum, Nat.add_zero]; grind
    | succ n ih =>
      rw [psum, psum, ih, fan_meas, show k + (n + 1) = (k + n) + 1 by omega, crs_as (cn P (k + n + 1)) A]
      have e : (fun x => cn P (k + x)) (n + 1) = cn P (k + n + 1) := rfl
      grind
  rw [this, cn_add]
  grind
end
end Pl

/-! PT12: the stand of an area from a left end. -/
namespace Pl
section
variable {P : List Q2}
theorem mod2 {a n : Nat} (h : a < 2 * n) : a % n = if a < n then a else a - n := by
  split
  · exact Nat.mod_eq_of_lt (by assumption)
  · rw [Nat.mod_eq_sub_mod (by omega), Nat.mod_eq_of_lt (by omega)]
theorem fan_edge (c d : Q2) (s : Rat) : fanC (lerp c d s) c d = 0 := by
  unfold fanC lerp crs sub2 add2 smul
  simp only
  grind
theorem fan_end (a b : Q2) : fanC a b a = 0 := by
  unfold fanC crs sub2
  simp only
  grind
/-- what the far end of a stand of an area is -/
structure Far (P : List Q2) (e : Rm) (size : Rat) (r : Rm) : Prop where
  line : Line P e r
  area : shoe (wet P e r) / 2 = size
theorem far_ok (h3 : 3 ≤ P.length) {e : Rm} (he : Rim P e) {size : Rat} (s0 : 0 < size) (s1 : size < shoe P / 2) : Far P e size (farQ P e size) ∧ ∃ x, x < P.length ∧ (farL P (rp P e) P.length (e.1 + 1) size).1 = e.1 + 1 + x ∧ 0 < tr P (rp P e) (e.1 + 1 + x) ∧ (farL P (rp P e) P.length (e.1 + 1) size).2 = (size - trs P (rp P e) (e.1 + 1) x) / tr P (rp P e) (e.1 + 1 + x) ∧ (∀ y, y < x → ¬ size - trs P (rp P e) (e.1 + 1) y < tr P (rp P e) (e.1 + 1 + y)) ∧ size - trs P (rp P e) (e.1 + 1) x < tr P (rp P e) (e.1 + 1 + x) := by
  have h0 : P ≠ [] := fun e => by rw [e] at h3; simp at h3
  have hall := fan_all h0 (rp P e) (e.1 + 1)
  have htr := trs_psum (P := P) (rp P e) P.length (e.1 + 1)
  rw [hall] at htr
  obtain ⟨x, t, hx, ef, t0, t1, tp, el, hys, hls⟩ := farL_spec (P := P) (A := rp P e) (f := P.length) (k := e.1 + 1) (left := size) (Rat.le_of_lt s0) (by rw [htr]; exact s1)
  have hA : rp P e = lerp (cn P e.1) (cn P (e.1 + 1)) e.2 := rfl
  have hi := he.lt
  have x1 : x + 1 ≠ P.length := fun q => by
    unfold tr at tp
    rw [show e.1 + 1 + x = e.1 + P.length by omega, cn_add, show e.1 + P.length + 1 = (e.1 + 1) + P.length by omega, cn_add, hA, fan_edge] at tp
    exact absurd tp (by decide +kernel)
  have x2 : e.2 = 0 → x + 2 ≠ P.length := fun z q => by
    unfold tr at tp
    rw [hA, z, lerp0, show e.1 + 1 + x + 1 = e.1 + P.length by omega, cn_add, fan_end] at tp
    exact absurd tp (by decide +kernel)
  have x3 : t = 0 → x ≠ 0 := fun z q => by
    rw [z, q] at el
    simp only [trs] at el
    grind
  have hk : farQ P e size = ((e.1 + 1 + x) % P.length, t) := by unfold farQ; rw [ef]
  have hr : Rim P (farQ P e size) := by rw [hk]; exact ⟨Nat.mod_lt _ (by omega), t0, t1⟩
  have hline : Line P e (farQ P e size) := by
    refine ⟨he, hr, ?_⟩
    rw [hk]
    unfold touch
    have m1 := mod2 (a := e.1 + 1 + x) (n := P.length) (by omega)
    have m2 := mod2 (a := e.1 + P.length - 1) (n := P.length) (by omega)
    have m3 := mod2 (a := (e.1 + 1 + x) % P.length + P.length - 1) (n := P.length) (by have := Nat.mod_lt (e.1 + 1 + x) (show 0 < P.length by omega); omega)
    have hlt := Nat.mod_lt (e.1 + 1 + x) (show 0 < P.length by omega)
    generalize (e.1 + 1 + x) % P.length = k at *
    generalize (e.1 + P.length - 1) % P.length = i' at *
    intro y hy1 hy2
    split at hy1 <;> split at hy2 <;> simp only [List.mem_cons, List.not_mem_nil, or_false] at hy1 hy2
    · have a := x2 (by assumption)
      have b := x3 (by assumption)
      generalize (k + P.length - 1) % P.length = k' at *
      split at m1 <;> split at m2 <;> split at m3 <;> omega
    · have a := x2 (by assumption)
      split at m1 <;> split at m2 <;> omega
    · have b := x3 (by assumption)
      generalize (k + P.length - 1) % P.length = k' at *
      split at m1 <;> split at m2 <;> split at m3 <;> omega
    · split at m1 <;> split at m2 <;> omega
  have hg : gapN P.length e (farQ P e size) = x + 1 := by
    rw [hk]
    unfold gapN
    show ((e.1 + 1 + x) % P.length + P.length - e.1) % P.length = x + 1
    have m1 := mod2 (a := e.1 + 1 + x) (n := P.length) (by omega)
    rw [m1]
    split
    · rw [mod2 (by omega)]; split <;> omega
    · rw [mod2 (by omega)]; split <;> omega
  refine ⟨⟨hline, ?_⟩, x, hx, by rw [ef], tp, ?_, hys, hls⟩
  · rw [wet_fan hline, hg, hk]
    have e1 := trs_psum (P := P) (rp P e) x (e.1 + 1)
    show (psum _ _ (x + 1 - 1) + t * fanC (rp P e) (cn P (e.1 + (x + 1))) (cn P (e.1 + (x + 1) + 1))) / 2 = size
    rw [show x + 1 - 1 = x by omega, show e.1 + (x + 1) = e.1 + 1 + x by omega]
    unfold tr at el
    rw [e1] at el
    rw [el]
    grind
  · rw [ef, el]
    have := rne0 tp
    show t = _
    grind
end
end Pl

/-! PT13: the stand of an area from a left end is one alone. -/
namespace Pl
section
variable {P : List Q2}
end
end Pl

/-! PT14: the far end of an area, by the law and by the program. -/
namespace Pl
open PySem (PyData Str)
/-! ### sizes -/
/-- a section with a rim point and an area -/
structure Fa (P : List Q2) (e : Rm) (k : Nat) (b : Int) (size : Rat) (ks : Nat) (bs : Int) : Prop where
  pl : Plate P
  rim : Rim P e
  sb : Shr k b e.2
  ss : Shr ks bs size
  s0 : 0 < size
  s1 : size < shoe P / 2
  hk : k ≤ 200
  hks : ks ≤ 100
section
variable {P : List Q2} {e : Rm} {k ks : Nat} {b bs : Int} {size : Rat} (F : Fa P e k b size ks bs)
include F
theorem Fa.bp : ∃ d : Int, 0 < d ∧ Sm (k + 3) d ∧ (∀ p ∈ P, Bp (k + 8) d p) ∧ Bp (k + 8) d (rp P e) := by
  obtain ⟨w, w0, w5, hb⟩ := F.pl.sz
  have h0 := F.pl.poly.ne
  have sw : Sm 3 w := by unfold Sm; omega
  refine ⟨b * w, Int.mul_pos F.sb.pos w0, F.sb.sm.mul sw, fun p hp => ((hb p hp).scale F.sb.sm).mono (by omega), ?_⟩
  exact (lerp_bp (hb _ (cn_mem h0 e.1)) (hb _ (cn_mem h0 (e.1 + 1))) F.sb).mono (by omega)
theorem Fa.A : SzP (k + 8) (rp P e) := by
  obtain ⟨d, d0, sd, _, h⟩ := F.bp
  have := h.szP d0 sd
  rwa [Nat.max_eq_left (by omega)] at this
theorem Fa.left_bq : ∃ D : Int, 0 < D ∧ Sm (2 * k + ks + 8) D ∧ ∀ x, x ≤ 10 → Bq (2 * k + ks + 41 + x) D (size - trs P (rp P e) (e.1 + 1) x) ∧ Bq (2 * k + ks + 40) D (tr P (rp P e) (e.1 + 1 + x)) := by
  obtain ⟨d, d0, sd, hb, hA⟩ := F.bp
  have h0 := F.pl.poly.ne
  have tb : ∀ j, Bq (2 * k + 21) (2 * (d * d)) (tr P (rp P e) j) := fun j => by
    have a := ((hb _ (cn_mem h0 j)).sub hA).crs ((hb _ (cn_mem h0 (j + 1))).sub hA)
    obtain ⟨z, sz, ez⟩ := a
    refine ⟨z, sz.mono (by omega), ?_⟩
    unfold tr fanC
    rw [Rat.intCast_mul, ez]
    have : ((2 : Int) : Rat) = 2 := rfl
    rw [this]
    grind
  have D0 : 0 < bs * (2 * (d * d)) := Int.mul_pos F.ss.pos (Int.mul_pos (by decide) (Int.mul_pos d0 d0))
  have tb' : ∀ j, Bq (2 * k + ks + 21) (bs * (2 * (d * d))) (tr P (rp P e) j) := fun j => ((tb j).scale F.ss.sm).mono (by omega)
  have s2 : Sm (2 + (k + 3 + (k + 3))) (2 * (d * d)) := Sm.mul (sm_lit (by decide)) (sd.mul sd)
  have sb' : Bq (2 * k + ks + 40) (bs * (2 * (d * d))) size := by
    have := F.ss.bq.scale s2
    rw [Int.mul_comm] at this
    exact this.mono (by omega)
  have tsb : ∀ x j, Bq (2 * k + ks + 30 + x) (bs * (2 * (d * d))) (trs P (rp P e) j x) := by
    intro x
    induction x with
    | zero => intro j; exact Bq.zero _ _
    | succ x ih => intro j; exact (((tb' j).mono (show 2 * k + ks + 21 ≤ 2 * k + ks + 30 + x by omega)).add (ih (j + 1))).mono (by omega)
  refine ⟨_, D0, (F.ss.sm.mul s2).mono (by omega), fun x hx => ⟨?_, (tb' _).mono (by omega)⟩⟩
  exact ((sb'.sub (tsb x (e.1 + 1)))).mono (by omega)
theorem Fa.left {x : Nat} (hx : x ≤ 10) : SzF 600 (size - trs P (rp P e) (e.1 + 1) x) ∧ SzF 600 (tr P (rp P e) (e.1 + 1 + x)) := by
  obtain ⟨D, D0, sD, h⟩ := F.left_bq
  have a := F.hk
  have c := F.hks
  exact ⟨((h x hx).1.szF D0 sD).mono (by omega), ((h x hx).2.szF D0 sD).mono (by omega)⟩
/-- a third of the fan is an own triangle -/
theorem Fa.three (j : Nat) : shoe [rp P e, cn P j, cn P (j + 1)] / 2 = tr P (rp P e) j := by
  rw [shoe_fan]
  simp only [path]
  unfold tr
  grind
end
structure KnFar (G : Prog) : Prop extends KnRim G where
  add : G.T "_law_add" = some p__law_add
  size : G.T "_law_size" = some p__law_size__a
  cmp : G.T "_law_cmp" = some p__law_cmp
  sub : G.T "_law_sub" = some p__law_sub
  div : G.T "_law_div" = some p__law_div
  far : G.T "_law_far" = some p__law_far
abbrev fb : Ss := forBody p__law_far.body
section
variable {G : Prog} {P : List Q2} {e : Rm} {k ks : Nat} {b bs : Int} {size : Rat}
end
end Pl

/-! PT15: the program's stands of an area. -/
namespace Pl
open PySem (PyData Str)
section
variable {G : Prog}
end
structure KnFloat (G : Prog) : Prop extends KnRimP G, KnA G where
  is_lower : G.T "is_lower" = some p_is_lower
  ratio_over : G.T "ratio_over" = some p_ratio_over
  ratio_less : G.T "ratio_less" = some p_ratio_less
  float_from : G.T "float_from" = some p_float_from
def whileBody : Ss → Ss | .cons (.whil _ b) _ => b | .cons _ s => whileBody s | .nil => .nil
abbrev ffB : Ss := whileBody p_float_from.body
section
variable {G : Prog} {P : List Q2} {e : Rm} {k ks : Nat} {b bs : Int} {size : Rat}
end
end Pl

/-! PT16: stands of an area by one end, by the program and by the law. -/
namespace Pl
open PySem (PyData Str)
section
variable {P : List Q2} {e : Rm} {k ks : Nat} {b bs : Int} {size : Rat}
theorem plate_area_bq (hP : Plate P) : ∃ D : Int, Shr 25 D (shoe P / 2) := by
  obtain ⟨w, w0, w5, hb⟩ := hP.sz
  have sw : Sm 3 w := by unfold Sm; omega
  have h8 := hP.l8
  obtain ⟨z, sz, ez⟩ := shoe_bq hb
  refine ⟨2 * (w * w), Int.mul_pos (by decide) (Int.mul_pos w0 w0), (Sm.mul (j := 2) (sm_lit (by decide)) (sw.mul sw)).mono (by decide), z, sz.mono (by omega), ?_⟩
  rw [ez, Rat.intCast_mul 2]
  have : ((2 : Int) : Rat) = 2 := rfl
  rw [this]
  grind
/-- the rest of an area -/
theorem rest_shr (hP : Plate P) (ss : Shr ks bs size) : ∃ D : Int, Shr (ks + 30) D (shoe P / 2 - size) := by
  obtain ⟨D, h⟩ := plate_area_bq hP
  have a := h.bq.scale ss.sm
  have c := ss.bq.scale h.sm
  rw [Int.mul_comm] at c
  exact ⟨bs * D, Int.mul_pos ss.pos h.pos, (ss.sm.mul h.sm).mono (by omega), ((a.mono (show ks + 25 ≤ ks + 25 by omega)).sub (c.mono (show 25 + ks ≤ ks + 25 by omega))).mono (by omega)⟩
theorem Fa.rest (F : Fa P e k b size ks bs) (h : ks ≤ 70) : ∃ D, Fa P e k b (shoe P / 2 - size) (ks + 30) D := by
  obtain ⟨D, s⟩ := rest_shr F.pl F.ss
  have a := F.s0
  have c := F.s1
  exact ⟨D, F.pl, F.rim, F.sb, s, by grind, by grind, F.hk, by omega⟩
/-- the stand from an end -/
theorem Fa.far (F : Fa P e k b size ks bs) : Far P e size (farQ P e size) := (far_ok F.pl.l3 F.rim F.s0 F.s1).1
end
structure KnArea (G : Prog) : Prop extends KnFloat G, KnPl G where
  is_wet_area : G.T "is_wet_area" = some p_is_wet_area
  check_area : G.T "check_area" = some p_check_area
  check_rim : G.T "check_rim" = some p_check_rim
section
variable {G : Prog} {P : List Q2} {e : Rm} {k ks : Nat} {b bs : Int} {size : Rat}
/-! ### the law's -/
end
end Pl

/-! PT17: the area of any stand; drawn areas. -/
namespace Pl
open PySem (PyData Str)
/-- a stand whose ends' shares are of any size -/
structure Da (P : List Q2) (l r : Rm) (k : Nat) (b1 b2 : Int) : Prop where
  pl : Plate P
  ln : Line P l r
  sl : Shr k b1 l.2
  sr : Shr k b2 r.2
  hk : k ≤ 200
section
variable {P : List Q2} {l r : Rm} {k : Nat} {b1 b2 : Int}
theorem rim_sz (hP : Plate P) {e : Rm} {b : Int} (h : Shr k b e.2) : SzP (k + 8) (rp P e) := by
  obtain ⟨w, w0, w5, hb⟩ := hP.sz
  have sw : Sm 3 w := by unfold Sm; omega
  have h0 := hP.poly.ne
  have a := (lerp_bp (hb _ (cn_mem h0 e.1)) (hb _ (cn_mem h0 (e.1 + 1))) h).szP (Int.mul_pos h.pos w0) (h.sm.mul sw)
  exact a.mono (by omega)
theorem Da.wet (h : Da P l r k b1 b2) : ∀ p ∈ wet P l r, SzP 208 p := fun p hp => by
  have a := h.hk
  rcases wet_mem h.pl.poly.ne hp with e | e | e
  · rw [e]; exact (rim_sz h.pl h.sl).mono (by omega)
  · rw [e]; exact (rim_sz h.pl h.sr).mono (by omega)
  · exact (h.pl.szP p e).mono (by decide)
end
/-! ### drawn areas -/
structure KnDr (G : Prog) : Prop extends KnLine G, KnWet G where
  add : G.T "_law_add" = some p__law_add
  size : G.T "_law_size" = some p__law_size__a
  mul : G.T "_law_mul" = some p__law_mul__a
  draught : G.T "_law_draught" = some p__law_draught
end Pl

/-! PT20: stands with points over one number of any size: middles, ways, levers, rises. -/
namespace Pl
open PySem (PyData Str)
--MB
local macro_rules | `(tactic| walk_at "shc") => `(tactic| first
  | with_reducible assumption
  | with_reducible exact shcs_nil
  | with_reducible exact shc_bool _
  | with_reducible exact shc_none
  | ((with_reducible refine' shcs_cons ?h ?k); (case h => walk_at "shc"); (case k => walk_at "shc"))
  | ((with_reducible refine' shc_tupL ?h); (case h => walk_at "shc"))
  | ((with_reducible refine' shc_lstL ?h); (case h => walk_at "shc"))
  | ((with_reducible refine' shc_int0 ?h); (case h => first | decide | omega)))
local macro_rules | `(tactic| walk_at "fact") => `(tactic| first | with_reducible assumption | assumption)
local macro_rules | `(tactic| walk_at "nl") => `(tactic| first | with_reducible assumption | with_reducible exact nl_tx | exact rfl | (simp only [noList, noListAll, noListAll_pt, Bool.and_true, Bool.true_and]; done))
local macro_rules | `(tactic| walk_at "val") => `(tactic| first | with_reducible assumption | with_reducible exact cmp_eq_int | with_reducible exact cmp_ne_int | with_reducible exact cmp_ne_str | with_reducible exact cmp_eq_str | with_reducible exact bi_len_t | with_reducible exact bi_len_l | exact rfl)
local macro_rules | `(tactic| walk_at "ev") => `(tactic| first
  | with_reducible exact xe_int
  | with_reducible exact xes_nil
  | with_reducible assumption
  | ((with_reducible refine' xe_var ?h); (case h => exact rfl))
  | with_reducible exact xe_true
  | with_reducible exact xe_none
  | with_reducible exact xe_str
  | ((with_reducible refine' xes_cons ?h ?k); (case h => walk_at "ev"); (case k => walk_at "ev"))
  | ((with_reducible refine' xe_call ?h ?k ?m); (case h => walk_at "ev"); (case k => exact rfl); (case m => walk_at "fact"))
  | ((with_reducible refine' xe_ucall ?h ?m); (case h => walk_at "ev"); (case m => walk_at "fact"))
  | ((with_reducible refine' xe_idx ?h ?k ?m); (case h => walk_at "ev"); (case k => walk_at "ev"); (case m => walk_at "val"))
  | ((with_reducible refine' xe_tup ?h ?k); (case h => walk_at "ev"); (case k => first | decide | (simp only [List.length_cons, List.length_nil]; decide)))
  | ((with_reducible refine' xe_lst ?h ?k); (case h => walk_at "ev"); (case k => first | decide | (simp only [List.length_cons, List.length_nil]; decide)))
  | ((with_reducible refine' xe_bin ?h ?k ?m); (case h => walk_at "ev"); (case k => walk_at "ev"); (case m => walk_at "val"))
  | ((with_reducible refine' xe_reprs ?h ?k ?s ?m ?c); (case h => walk_at "ev"); (case k => walk_at "ev"); (case s => walk_at "shc"); (case m => decide); (case c => decide))
  | ((with_reducible refine' xe_reprs_eq ?h ?k ?s ?m ?c); (case h => walk_at "ev"); (case k => walk_at "ev"); (case s => walk_at "shc"); (case m => decide); (case c => decide))
  | ((with_reducible refine' xe_cmp ?h ?k ?m); (case h => walk_at "ev"); (case k => walk_at "ev"); (case m => walk_at "val"))
  | ((with_reducible refine' xe_bi ?h ?m); (case h => walk_at "ev"); (case m => walk_at "val"))
  | ((with_reducible refine' xe_neg ?h); (case h => walk_at "ev"))
  | ((with_reducible refine' xe_not_t ?h); (case h => walk_at "ev"))
  | ((with_reducible refine' xe_not_f ?h); (case h => walk_at "ev"))
  | ((with_reducible refine' xe_not ?h); (case h => walk_at "ev"))
  | ((with_reducible refine' xe_rev_line ?h); (case h => walk_at "ev"))
  | ((with_reducible refine' xe_rev2 ?h); (case h => walk_at "ev"))
  | ((with_reducible refine' xe_rev_t ?h); (case h => walk_at "ev"))
  | ((with_reducible refine' xe_rev_l ?h); (case h => walk_at "ev"))
  | ((with_reducible refine' xe_sli ?h ?k ?l ?m); (case h => walk_at "ev"); (case k => walk_at "ev"); (case l => walk_at "ev"); (case m => walk_at "val"))
  | with_reducible exact xo_no
  | with_reducible exact xo_int
  | with_reducible exact xo_neg
  | ((with_reducible refine' xe_ite_t ?h ?k); (case h => walk_at "ev"); (case k => walk_at "ev"))
  | ((with_reducible refine' xe_ite_f ?h ?k); (case h => walk_at "ev"); (case k => walk_at "ev"))
  | ((with_reducible refine' xe_and_t ?h ?k); (case h => walk_at "ev"); (case k => walk_at "ev"))
  | ((with_reducible refine' xe_and_f ?h); (case h => walk_at "ev"))
  | ((with_reducible refine' xe_or_t ?h); (case h => walk_at "ev"))
  | ((with_reducible refine' xe_or_f ?h ?k); (case h => walk_at "ev"); (case k => walk_at "ev"))
  | with_reducible exact xe_dict0
  | ((with_reducible refine' xe_rep3 ?h); (case h => walk_at "ev"))
  | ((with_reducible refine' xe_rep2 ?h); (case h => walk_at "ev"))
  | ((with_reducible refine' xe_glob ?h); (case h => with_reducible assumption)))
local macro_rules | `(tactic| walk_at "ex") => `(tactic| first
  | ((with_reducible refine' xss_asm ?h ?k); (case h => with_reducible assumption); (case k => walk_at "ex"))
  | ((with_reducible refine' xss_asm_rt ?h); (case h => with_reducible assumption))
  | ((with_reducible refine' xss_ret ?h); (case h => walk_at "ev"))
  | ((with_reducible refine' xss_drop ?h ?k); (case h => walk_at "ev"); (case k => walk_at "ex"))
  | ((with_reducible refine' xss_set ?h ?n ?k); (case h => walk_at "ev"); (case n => walk_at "nl"); (case k => ((try dsimp only [List.set]); walk_at "ex")))
  | (with_reducible exact xss_nil)
  | ((with_reducible refine' xss_if_no ?h ?k); (case h => walk_at "ev"); (case k => walk_at "ex"))
  | ((with_reducible refine' xss_if_ret ?h ?k); (case h => walk_at "ev"); (case k => walk_at "ev"))
  | ((with_reducible refine' xss_par2 ?h ?h2 ?x ?y ?k); (case h => walk_at "ev"); (case h2 => walk_at "ev"); (case x => walk_at "nl"); (case y => walk_at "nl"); (case k => ((try dsimp only [List.set]); walk_at "ex")))
  | ((with_reducible refine' xss_par3 ?h ?h2 ?h3 ?x ?y ?z ?k); (case h => walk_at "ev"); (case h2 => walk_at "ev"); (case h3 => walk_at "ev"); (case x => walk_at "nl"); (case y => walk_at "nl"); (case z => walk_at "nl"); (case k => ((try dsimp only [List.set]); walk_at "ex")))
  | ((with_reducible refine' xss_setL ?h ?f ?n ?k); (case h => walk_at "ev"); (case f => exact rfl); (case n => walk_at "nl"); (case k => ((try dsimp only [List.set]); walk_at "ex")))
  | ((with_reducible refine' xss_setLx ?h ?f ?w ?k); (case h => walk_at "ev"); (case f => exact rfl); (case w => first | with_reducible assumption | exact rfl); (case k => ((dsimp only [fvE, fvEs, fvEo, fvI, freeze, frz, List.modify_cons, List.modify_nil, List.set, List.append_nil, List.nil_append, List.cons_append, List.modify, List.modifyTailIdx, List.modifyTailIdx.go, List.modifyHead]); walk_at "ex")))
  | ((with_reducible refine' xss_app ?h ?n ?i ?z ?k); (case h => walk_at "ev"); (case n => walk_at "nl"); (case i => exact rfl); (case z => first | decide | (simp only [List.length_cons, List.length_nil]; decide)); (case k => ((try dsimp only [List.set, List.cons_append, List.nil_append]); walk_at "ex")))
  | ((with_reducible refine' xss_if_t ?h ?k ?m); (case h => walk_at "ev"); (case k => walk_at "ex"); (case m => walk_at "ex"))
  | ((with_reducible refine' xss_if_f ?h ?k ?m); (case h => walk_at "ev"); (case k => walk_at "ex"); (case m => walk_at "ex"))
  | ((with_reducible refine' xss_pass ?k); (case k => walk_at "ex"))
  )
local macro_rules | `(tactic| walk_at "exd") => `(tactic| first
  | ((with_reducible refine' xss_asm ?h ?k); (case h => with_reducible assumption); (try walk_at "exd"))
  | ((with_reducible refine' xss_asm_rt ?h); (case h => with_reducible assumption))
  | ((with_reducible refine' xss_ret ?h); (case h => walk_at "ev"))
  | ((with_reducible refine' xss_drop ?h ?k); (case h => walk_at "ev"); (try walk_at "exd"))
  | ((with_reducible refine' xss_set ?h ?n ?k); (case h => walk_at "ev"); (case n => walk_at "nl"); (try dsimp only [List.set]); (try walk_at "exd"))
  | (with_reducible exact xss_nil)
  | ((with_reducible refine' xss_if_no ?h ?k); (case h => walk_at "ev"); (try walk_at "exd"))
  | ((with_reducible refine' xss_if_ret ?h ?k); (case h => walk_at "ev"); (case k => walk_at "ev"))
  | ((with_reducible refine' xss_par2 ?h ?h2 ?x ?y ?k); (case h => walk_at "ev"); (case h2 => walk_at "ev"); (case x => walk_at "nl"); (case y => walk_at "nl"); (try dsimp only [List.set]); (try walk_at "exd"))
  | ((with_reducible refine' xss_par3 ?h ?h2 ?h3 ?x ?y ?z ?k); (case h => walk_at "ev"); (case h2 => walk_at "ev"); (case h3 => walk_at "ev"); (case x => walk_at "nl"); (case y => walk_at "nl"); (case z => walk_at "nl"); (try dsimp only [List.set]); (try walk_at "exd"))
  | ((with_reducible refine' xss_setL ?h ?f ?n ?k); (case h => walk_at "ev"); (case f => exact rfl); (case n => walk_at "nl"); (try dsimp only [List.set]); (try walk_at "exd"))
  | ((with_reducible refine' xss_setLx ?h ?f ?w ?k); (case h => walk_at "ev"); (case f => exact rfl); (case w => first | with_reducible assumption | exact rfl); (dsimp only [fvE, fvEs, fvEo, fvI, freeze, frz, List.modify_cons, List.modify_nil, List.set, List.append_nil, List.nil_append, List.cons_append, List.modify, List.modifyTailIdx, List.modifyTailIdx.go, List.modifyHead]); (try walk_at "exd"))
  | ((with_reducible refine' xss_app ?h ?n ?i ?z ?k); (case h => walk_at "ev"); (case n => walk_at "nl"); (case i => exact rfl); (case z => first | decide | (simp only [List.length_cons, List.length_nil]; decide)); (try dsimp only [List.set, List.cons_append, List.nil_append]); (try walk_at "exd"))
  | ((with_reducible refine' xss_if_t ?h ?k ?m); (case h => walk_at "ev"); (case k => walk_at "exd"); (case m => walk_at "exd"))
  | ((with_reducible refine' xss_if_f ?h ?k ?m); (case h => walk_at "ev"); (case k => walk_at "exd"); (case m => walk_at "exd"))
  | ((with_reducible refine' xss_pass ?k); (try walk_at "exd"))
  | skip)
local macro_rules | `(tactic| walk_at "run") => `(tactic| ((try refine runF_of rfl ?_); simp only [mkEnv, Bool.false_eq_true, if_false, if_true, List.map_cons, List.map_nil, List.nil_append, List.cons_append, Nat.reduceSub, List.replicate_succ, List.replicate_zero]; walk_at "ex"))
local macro_rules | `(tactic| walk_at "rund") => `(tactic| ((try refine runF_of rfl ?_); simp only [mkEnv, Bool.false_eq_true, if_false, if_true, List.map_cons, List.map_nil, List.nil_append, List.cons_append, Nat.reduceSub, List.replicate_succ, List.replicate_zero]; walk_at "exd"))
local macro_rules | `(tactic| walk_at "run") => `(tactic| ((try refine runF_of rfl ?_); (simp only [mkEnv, Bool.false_eq_true, if_false, if_true, List.map_cons, List.map_nil, List.nil_append, List.cons_append, Nat.reduceSub, List.replicate_succ, List.replicate_zero]); walk_at "ex"))
--ME
/-- a section with a stand, the points over one number -/
structure Ds (P : List Q2) (l r : Rm) (k : Nat) : Prop where
  pl : Plate P
  ln : Line P l r
  sl : SzF k l.2
  sr : SzF k r.2
  com : ∃ d : Int, 0 < d ∧ Sm k d ∧ (∀ p ∈ P, Bp k d p) ∧ Bp k d (rp P l) ∧ Bp k d (rp P r)
  hk : k ≤ 300
  k6 : 6 ≤ k
theorem ds_of {P : List Q2} {l r : Rm} {j k m : Nat} {b1 b2 : Int} (hP : Plate P) (h : Line P l r) (s1 : Shr j b1 l.2) (s2 : Shr k b2 r.2) (hm : j + k + 12 ≤ m) (hk : m ≤ 300) : Ds P l r m := by
  refine ⟨hP, h, s1.szF.mono (by omega), s2.szF.mono (by omega), ?_, hk, by omega⟩
  obtain ⟨w, w0, w5, hb⟩ := hP.sz
  have h0 := hP.poly.ne
  have sw : Sm 3 w := by unfold Sm; omega
  refine ⟨b1 * (b2 * w), Int.mul_pos s1.pos (Int.mul_pos s2.pos w0), (s1.sm.mul (s2.sm.mul sw)).mono (by omega), fun p hp => (((hb p hp).scale s2.sm).scale s1.sm).mono (by omega), ?_, ?_⟩
  · have := (lerp_bp (hb _ (cn_mem h0 l.1)) (hb _ (cn_mem h0 (l.1 + 1))) s1).scale s2.sm
    rw [← Int.mul_assoc, Int.mul_comm b2 b1, Int.mul_assoc] at this
    exact this.mono (by omega)
  · exact ((lerp_bp (hb _ (cn_mem h0 r.1)) (hb _ (cn_mem h0 (r.1 + 1))) s2).scale s1.sm).mono (by omega)
section
variable {P : List Q2} {l r : Rm} {k : Nat}
theorem Dr.ds (h : Dr P l r) : Ds P l r 20 := by
  obtain ⟨b1, s1, _⟩ := h.ln.sl
  obtain ⟨b2, s2, _⟩ := h.ln.sr
  exact ds_of h.pl h.ln.line s1 s2 (by decide) (by decide)
variable (h : Ds P l r k)
include h
theorem Ds.flip : Ds P r l k := by
  obtain ⟨d, a, b, c, e, f⟩ := h.com
  exact ⟨h.pl, h.ln.flip, h.sr, h.sl, ⟨d, a, b, c, f, e⟩, h.hk, h.k6⟩
theorem Ds.len : P.length ≤ 1000 := by have := h.pl.l8; omega
theorem Ds.bp : ∃ d : Int, 0 < d ∧ Sm k d ∧ (∀ p ∈ P, Bp k d p) ∧ ∀ p ∈ wet P l r, Bp k d p := by
  obtain ⟨d, a, b, c, e, f⟩ := h.com
  refine ⟨d, a, b, c, fun p hp => ?_⟩
  rcases wet_mem h.pl.poly.ne hp with q | q | q
  · rw [q]; exact e
  · rw [q]; exact f
  · exact c p q
theorem Ds.wetS : ∀ p ∈ wet P l r, SzP k p := fun p hp => by
  obtain ⟨d, d0, sd, _, b⟩ := h.bp
  have := (b p hp).szP d0 sd
  rwa [Nat.max_self] at this
theorem Ds.rl : SzP k (rp P l) := h.wetS _ (by unfold wet; simp)
theorem Ds.rr : SzP k (rp P r) := h.wetS _ (by unfold wet; simp)
theorem Ds.way : SzP (k + 1) (wayQ P l r) := by
  obtain ⟨d, a, b, c, e, f⟩ := h.com
  have := (f.sub e).szP a b
  exact this.mono (by omega)
theorem Ds.part : Part (wet P l r) (hullQ (wet P l r)) := wet_part h.pl.poly.cv h.pl.l3 h.ln
theorem Ds.pos : 0 < shoe (wet P l r) := by rw [← h.part.shoe]; exact h.part.pos
theorem Ds.wlen : (wet P l r).length ≤ 9 := by have := wet_lt h.ln; have := h.pl.l8; omega
theorem Ds.mid : SzP (3 * k + 13) (midQ (wet P l r)) := by
  obtain ⟨d, d0, sd, _, b⟩ := h.bp
  exact (szP_mid b d0 sd h.pos).mono (by have := h.wlen; omega)
theorem Ds.ends : rp P l ≠ rp P r := fun e => by
  have hc := wet_cv h.pl.poly.cv h.pl.poly.ne h.pl.l3 h.ln
  have hp := h.ln.pass1
  have hlen := wet_len P l r
  have a0 : (wet P l r)[0]? = some (rp P l) := by unfold wet; rfl
  have a1 : (wet P l r)[passN P.length l r + 1]? = some (rp P r) := by
    unfold wet
    rw [List.getElem?_append_right (by simp)]
    simp
  obtain ⟨b, hb⟩ : ∃ b, (wet P l r)[1]? = some b := ⟨_, List.getElem?_eq_getElem (by omega)⟩
  have := cv_ix hc (i := 0) (j := 1) (k := passN P.length l r + 1) (by omega) (by omega) a0 hb a1
  rw [e, ori_self1] at this
  exact Rat.lt_irrefl this
end
section
variable {G : Prog} {P : List Q2} {l r : Rm} {k : Nat}
/-- the rise -/
def riseQ (P : List Q2) (l r : Rm) (m : Q2) : Rat := dot (qtr (wayQ P l r)) (sub2 m (midQ (wet P l r)))
structure KnRise (G : Prog) : Prop extends KnBal G where
  quartered : G.T "quartered" = some p_quartered
  rise_of : G.T "rise_of" = some p_rise_of
/-- a square with the sign -/
def ssq (q : Rat) : Rat := if 0 < q then q * q else -(q * q)
/-- the words of two heights -/
abbrev lowerS : Str := PySem.Str.ofString "lower"
abbrev higherS : Str := PySem.Str.ofString "higher"
abbrev sameS : Str := PySem.Str.ofString "same"
def cmpW (a b : Rat) : Str := if a < b then lowerS else if b < a then higherS else sameS
structure KnCmp (G : Prog) : Prop extends KnRise G where
  span_of : G.T "span_of" = some p_span_of
  ratio_product : G.T "ratio_product" = some p_ratio_product
  ratio_less : G.T "ratio_less" = some p_ratio_less
  is_lower : G.T "is_lower" = some p_is_lower
  signed_square : G.T "signed_square" = some p_signed_square
  compare : G.T "compare" = some p_compare
def upQ (P : List Q2) (l r l' r' : Rm) (m : Q2) : Rat := ssq (riseQ P l r m) * spanQ P l' r'
end
end Pl

/-! PO3: values of any kind: what is a point, a polygon. -/
namespace Pl
open PySem (PyData Str)
structure KnAny (G : Prog) : Prop where
  divisor_of : G.T "divisor_of" = some p_divisor_of
  is_whole : G.T "is_whole" = some p_is_whole
  are_wholes : G.T "are_wholes" = some p_are_wholes
  is_reduced : G.T "is_reduced" = some p_is_reduced
  is_vector : G.T "is_vector" = some p_is_vector
  gcd : G.T "_law_gcd" = some p__law_gcd__a
  thin : G.T "_law_thin" = some p__law_thin
  lis_whole : G.T "_law_is_whole" = some p__law_is_whole
  lare_whole : G.T "_law_are_whole" = some p__law_are_whole
  is_spot : G.T "_law_is_spot" = some p__law_is_spot
def isI : D → Bool | .int _ => true | _ => false
def whN (d : D) (n : Nat) : Bool := match d with | .tuple ds => decide (ds.length = n) && ds.all isI | _ => false
theorem allI : ∀ {ds : List D}, ds.all isI = true → ∃ xs : List Int, ds = xs.map .int
  | [], _ => ⟨[], rfl⟩
  | d :: ds, h => by
    simp only [List.all_cons, Bool.and_eq_true] at h
    obtain ⟨xs, rfl⟩ := allI h.2
    cases d <;> simp only [isI, Bool.false_eq_true] at h <;> first | exact ⟨_ :: xs, rfl⟩ | exact absurd h.1 (by simp)
theorem whN_ints {d : D} {n : Nat} (h : whN d n = true) : ∃ xs : List Int, d = Tz xs ∧ xs.length = n := by
  cases d <;> simp only [whN, Bool.false_eq_true, Bool.and_eq_true, decide_eq_true_eq] at h
  obtain ⟨xs, rfl⟩ := allI h.2
  exact ⟨xs, rfl, by simpa using h.1⟩
/-- a drawn value -/
def Gd (d : D) : Prop := ∀ ds, d = .tuple ds → ds.length ≤ 100 ∧ ∀ e ∈ ds, PyData.canLay0 e = true ∧ PyData.depth e ≤ 5 ∧ ∀ i, e = .int i → Sm 60 i
theorem boolsOf_map {α : Type} (l : List α) (f : α → Bool) : boolsOf (l.map fun e => PyData.bool (f e)) = some (l.map f) := by
  induction l with
  | nil => rfl
  | cons x l ih => rw [List.map_cons, boolsOf, ih]; rfl
theorem compL_filter {step : D → U → Option (Option D × U)} {p : D → Bool} {u : U} : ∀ {ds : List D}, (∀ d ∈ ds, step d u = some (if p d = true then some d else none, u)) → compL step ds u = some (ds.filter p, u)
  | [], _ => rfl
  | d :: ds, h => by
    unfold compL
    rw [h d List.mem_cons_self]
    show (compL step ds u).bind _ = _
    rw [compL_filter fun e he => h e (List.mem_cons_of_mem _ he), Option.bind_some]
    by_cases q : p d = true
    · rw [if_pos q, List.filter_cons_of_pos q]
    · rw [if_neg q, List.filter_cons_of_neg q]
theorem lay_filter (p : D → Bool) : ∀ {ds : List D}, (∀ e ∈ ds, PyData.canLay0 e = true ∧ PyData.depth e ≤ 5) → PyData.canLayAll0 (ds.filter p) = true ∧ PyData.depthAll (ds.filter p) ≤ 5
  | [], _ => ⟨rfl, Nat.zero_le _⟩
  | d :: ds, h => by
    obtain ⟨h1, h2⟩ := lay_filter p (ds := ds) fun e he => h e (List.mem_cons_of_mem _ he)
    obtain ⟨h3, h4⟩ := h d List.mem_cons_self
    by_cases q : p d = true
    · rw [List.filter_cons_of_pos q]
      exact ⟨by simp [PyData.canLayAll0, h1, h3], by simp [PyData.depthAll]; omega⟩
    · rw [List.filter_cons_of_neg q]
      exact ⟨h1, h2⟩
theorem eqD_filter (p : D → Bool) {ds : List D} (h : ∀ e ∈ ds, PyData.canLay0 e = true ∧ PyData.depth e ≤ 5) : eqD (.list (ds.filter p)) (.list []) = some (decide (ds.filter p = [])) := by
  obtain ⟨h1, h2⟩ := lay_filter p h
  have s1 : PySem.SeqAt.shaped (.list (ds.filter p)) = true := by
    simp [PySem.SeqAt.shaped, PyData.canLay0, h1, PyData.depth]; omega
  have s2 : PySem.SeqAt.shaped (.list []) = true := shaped_Lz []
  simp only [eqD, s1, s2, Bool.and_self, if_true, PyData.eqv]
  cases ds.filter p <;> rfl
theorem filter_notI : ∀ (ds : List D), decide (ds.filter (fun e => !isI e) = []) = ds.all isI
  | [] => rfl
  | d :: ds => by
    have := filter_notI ds
    cases h : isI d
    · rw [List.filter_cons_of_pos (by simp [h])]; simp [h]
    · rw [List.filter_cons_of_neg (by simp [h]), this]; simp [h]
section
variable {G : Prog} (K : KnAny G)
include K
theorem c02_is_whole (n : Nat) (e : D) : callU G (n + 1) "is_whole" [e] [] = some (.bool (isI e), []) := by
  rw [callU_eq K.is_whole]
  cases e <;> simp [runF, p_is_whole, mkEnv, isI]
theorem l02_is_whole (n : Nat) (e : D) : callU G (n + 1) "_law_is_whole" [e] [] = some (.bool (isI e), []) := by
  rw [callU_eq K.lis_whole]
  cases e <;> simp [runF, p__law_is_whole, mkEnv, isI]
theorem c02_are_wholes (n : Nat) (d : D) (m : Nat) (hd : Gd d) : callU G (n + 2) "are_wholes" [d, .int m] [] = some (.bool (whN d m), []) := by
  rw [callU_eq K.are_wholes]
  cases d with
  | tuple ds =>
    obtain ⟨hl, hg⟩ := hd ds rfl
    have hc := compL_map (step := fun d u => (bindT (.one 2) d (wipe [.imm (.tuple ds), .imm (.int m), .no] [2])).bind fun env' => (evalC (ctxN G (n + 1)) .no env' u).bind fun rc =>
        if rc.1 = true then (evalE (ctxN G (n + 1)) (.call "is_whole" (.cons (.var 2) .nil) [0]) env' rc.2).bind fun re => some (some re.1, re.2) else some (none, rc.2)) (f := fun e => .bool (isI e)) (u := []) (ds := ds) (fun e _ => by
      simp [ctx_fn K.is_whole rfl, c02_is_whole K n e])
    have hcc := eval_comp (C := ctxN G (n + 1)) (it := .seq (.var 0)) (u := []) (u1 := []) (ds := ds) (by simp) (by omega) hc
    have e1 : evalEs (ctxN G (n + 1)) (.cons (.comp (.call "is_whole" (.cons (.var 2) .nil) [0]) (.one 2) (.seq (.var 0)) .no [2]) .nil) [.imm (.tuple ds), .imm (.int m), .no] [] = some ([.list (ds.map fun e => .bool (isI e))], []) := by
      rw [evalEs, hcc]; rfl
    have ea : evalE (ctxN G (n + 1)) (.bi .all (.cons (.comp (.call "is_whole" (.cons (.var 2) .nil) [0]) (.one 2) (.seq (.var 0)) .no [2]) .nil)) [.imm (.tuple ds), .imm (.int m), .no] [] = some (.bool (ds.all isI), []) := by
      rw [evalE, e1, Option.bind_some]
      show (((boolsOf (ds.map fun e => PyData.bool (isI e))).map _).bind _) = _
      rw [boolsOf_map]
      simp
    have eb : evalE (ctxN G (n + 1)) (.cmp .eq (.bi .len (.cons (.var 0) .nil)) (.var 1)) [.imm (.tuple ds), .imm (.int m), .no] [] = some (.bool (decide (ds.length = m)), []) := by
      simp
      omega
    have ec : evalE (ctxN G (n + 1)) (.bi .isTuple (.cons (.var 0) .nil)) [.imm (.tuple ds), .imm (.int m), .no] [] = some (.bool true, []) := by simp
    refine runF_of rfl (run_last ?_)
    show execS _ _ (.ret (.and _ (.and _ _))) _ _ = _
    rw [execS, evalE]
    show ((evalE (ctxN G (n + 1)) _ [.imm (.tuple ds), .imm (.int m), .no] []).bind _).bind _ = _
    rw [ec]
    show (((evalE (ctxN G (n + 1)) _ [.imm (.tuple ds), .imm (.int m), .no] []).bind _)).bind _ = _
    rw [evalE, eb]
    by_cases h : ds.length = m
    · rw [decide_eq_true h]
      show (((((evalE (ctxN G (n + 1)) _ [.imm (.tuple ds), .imm (.int m), .no] []).bind _)).bind _)).bind _ = _
      rw [ea]
      simp [whN, h]
    · rw [decide_eq_false h]
      simp [whN, h]
  | _ => simp [runF, p_are_wholes, mkEnv, whN]
theorem l02_are_whole (n : Nat) (d : D) (m : Nat) (hd : Gd d) : callU G (n + 2) "_law_are_whole" [d, .int m] [] = some (.bool (whN d m), []) := by
  rw [callU_eq K.lare_whole]
  cases d with
  | tuple ds =>
    obtain ⟨hl, hg⟩ := hd ds rfl
    have hc := compL_filter (step := fun d u => (bindT (.one 2) d (wipe [.imm (.tuple ds), .imm (.int m), .no] [2])).bind fun env' => (evalC (ctxN G (n + 1)) (.yes (.not (.call "_law_is_whole" (.cons (.var 2) .nil) [0]))) env' u).bind fun rc =>
        if rc.1 = true then (evalE (ctxN G (n + 1)) (.var 2) env' rc.2).bind fun re => some (some re.1, re.2) else some (none, rc.2)) (p := fun e => !isI e) (u := []) (ds := ds) (fun e _ => by
      cases h : isI e <;> simp [ctx_fn K.lis_whole rfl, l02_is_whole K n e, h])
    have hcc := eval_comp (C := ctxN G (n + 1)) (it := .seq (.var 0)) (u := []) (u1 := []) (ds := ds) (by simp) (by omega) hc
    have ea : evalE (ctxN G (n + 1)) (.cmp .eq (.comp (.var 2) (.one 2) (.seq (.var 0)) (.yes (.not (.call "_law_is_whole" (.cons (.var 2) .nil) [0]))) [2]) (.lst .nil)) [.imm (.tuple ds), .imm (.int m), .no] [] = some (.bool (ds.all isI), []) := by
      rw [evalE, hcc, Option.bind_some]
      show ((some (PyData.list [], ([] : U))).bind fun rb => (eqD (.list (ds.filter fun e => !isI e)) rb.1).bind _) = _
      rw [Option.bind_some, eqD_filter _ (fun e he => ⟨(hg e he).1, (hg e he).2.1⟩), filter_notI]
      rfl
    have eb : evalE (ctxN G (n + 1)) (.cmp .eq (.bi .len (.cons (.var 0) .nil)) (.var 1)) [.imm (.tuple ds), .imm (.int m), .no] [] = some (.bool (decide (ds.length = m)), []) := by
      simp
      omega
    have ec : evalE (ctxN G (n + 1)) (.bi .isTuple (.cons (.var 0) .nil)) [.imm (.tuple ds), .imm (.int m), .no] [] = some (.bool true, []) := by simp
    refine runF_of rfl (run_last ?_)
    show execS _ _ (.ret (.and _ (.and _ _))) _ _ = _
    rw [execS, evalE]
    show ((evalE (ctxN G (n + 1)) _ [.imm (.tuple ds), .imm (.int m), .no] []).bind _).bind _ = _
    rw [ec]
    show (((evalE (ctxN G (n + 1)) _ [.imm (.tuple ds), .imm (.int m), .no] []).bind _)).bind _ = _
    rw [evalE, eb]
    by_cases h : ds.length = m
    · rw [decide_eq_true h]
      show (((((evalE (ctxN G (n + 1)) _ [.imm (.tuple ds), .imm (.int m), .no] []).bind _)).bind _)).bind _ = _
      rw [ea]
      simp [whN, h]
    · rw [decide_eq_false h]
      simp [whN, h]
  | _ => simp [runF, p__law_are_whole, mkEnv, whN]
theorem c02_gcd (n : Nat) {a b : Int} {k : Nat} (ha : 0 ≤ a) (hb : 0 ≤ b) (sb : Sm k b) (hk : k ≤ 9000) : callU G (n + 1) "_law_gcd" [.int a, .int b] [] = some (.int (g2 a b), []) := by
  obtain ⟨x, rfl⟩ := Int.eq_ofNat_of_zero_le ha
  obtain ⟨y, rfl⟩ := Int.eq_ofNat_of_zero_le hb
  obtain ⟨s', e⟩ := gcd_loop (C := ctxN G n) (ff := G.ff) [] k x y .no (rangeL 0 20000) (by unfold Sm at sb; simpa using sb) (by simp [rangeL]; omega)
  rw [callU_eq K.gcd]
  refine runF_of rfl (run_cons (run_for (ds := rangeL 0 20000) (u1 := []) ?_ ?_ e) (run_last ?_))
  · simp [intOk]
  · simp [rangeL]
  · simp [g2]
theorem l02_thin (n : Nat) {xs : List Int} (hl : xs.length ≤ 100) (hs : ∀ x ∈ xs, Sm 60 x) : callU G (n + 2) "_law_thin" [Tz xs] [] = some (Tz (shortZ xs), []) := by
  obtain ⟨env', u', hf, s, rfl, rfl⟩ := forL_ix (step := fun d env u => (bindT (.one 2) d env).bind fun env' => execSs (ctxN G (n + 1)) G.ff (forBody p__law_thin.body) env' u)
    (fun i env u => ∃ s, env = [.imm (Tz xs), .imm (.int ((xs.take i).foldl (fun (g : Int) x => ((Nat.gcd g.natAbs x.natAbs : Nat) : Int)) ((0 : Nat) : Int))), s] ∧ u = []) (ds := xs.map .int) (env := [.imm (Tz xs), .imm (.int 0), .no]) (u := [])
    (fun i d hd env u ⟨s, e1, e2⟩ => by
      subst e1 e2
      rw [List.getElem?_map] at hd
      obtain ⟨x, hx, rfl⟩ := Option.map_eq_some_iff.mp hd
      rw [gN_fold, Nat.gcd_zero_left]
      have hm : x ∈ xs := List.mem_of_getElem? hx
      have hab : (if x < 0 then -x else x) = (x.natAbs : Int) := by split <;> omega
      have hg := c02_gcd K n (a := ((gN (xs.take i) : Nat) : Int)) (b := ((x.natAbs : Nat) : Int)) (k := 60) (by omega) (by omega) (by have := hs x hm; unfold Sm at *; omega) (by decide)
      have hg2 : g2 ((gN (xs.take i) : Nat) : Int) ((x.natAbs : Nat) : Int) = ((Nat.gcd (gN (xs.take i)) x.natAbs : Nat) : Int) := by simp [g2]
      rw [hg2] at hg
      refine ⟨[.imm (Tz xs), .imm (.int (Nat.gcd (gN (xs.take i)) x.natAbs : Nat)), .imm (.int x)], [], ?_, .imm (.int x), ?_, rfl⟩
      · simp [forBody, p__law_thin, ctx_fn K.gcd rfl, hab, hg]
      · rw [List.take_add_one, hx, Option.toList_some, List.foldl_append, gN_fold, Nat.gcd_zero_left]
        rfl)
    ⟨_, rfl, rfl⟩
  rw [List.length_map, List.take_length, gN_fold, Nat.gcd_zero_left] at hf
  rw [callU_eq K.thin]
  refine runF_of rfl (run_cons (env1 := [.imm (Tz xs), .imm (.int 0), .no]) (u1 := []) ?_ (run_cons (run_for (ds := xs.map .int) (u1 := []) ?_ ?_ hf) (run_last ?_)))
  · simp [mkEnv, p__law_thin]
  · simp
  · simp; omega
  · unfold shortZ
    by_cases h : 1 < gN xs
    · have hd : divOk ((gN xs : Nat) : Int) = true := divOk_of (gN_sm hs (by omega)) (by omega) (by decide)
      have hc : compL (fun d u => (bindT (.one 2) d (wipe [.imm (Tz xs), .imm (.int (gN xs : Nat)), s] [2])).bind fun env' => (evalC (ctxN G (n + 1)) .no env' u).bind fun rc =>
        if rc.1 = true then (evalE (ctxN G (n + 1)) (.bin .fdiv (.var 2) (.var 1)) env' rc.2).bind fun re => some (some re.1, re.2) else some (none, rc.2)) (xs.map .int) [] = some ((xs.map fun x => x.fdiv (gN xs : Nat)).map .int, []) :=
        compL_ints fun x _ => by simp [hd]
      have hcc := eval_comp (C := ctxN G (n + 1)) (it := .seq (.var 0)) (u := []) (u1 := []) (ds := xs.map .int) (by simp) (by simp; omega) hc
      have e1 : evalEs (ctxN G (n + 1)) (.cons (.comp (.bin .fdiv (.var 2) (.var 1)) (.one 2) (.seq (.var 0)) .no [2]) .nil) [.imm (Tz xs), .imm (.int (gN xs : Nat)), s] [] = some ([.list ((xs.map fun x => x.fdiv (gN xs : Nat)).map .int)], []) := by
        rw [evalEs, hcc]; rfl
      have hg : ¬ ((gN xs : Nat) : Int) < 2 := by omega
      have et : evalE (ctxN G (n + 1)) (.cmp .lt (.var 1) (.lit (.int 2))) [.imm (Tz xs), .imm (.int (gN xs : Nat)), s] [] = some (.bool false, []) := by simp [hg]
      rw [if_pos h, execS, evalE, et, Option.bind_some]
      show ((evalE (ctxN G (n + 1)) (.bi .tuple _) [.imm (Tz xs), .imm (.int (gN xs : Nat)), s] []).bind _) = _
      rw [evalE, e1]
      rfl
    · have hg : ((gN xs : Nat) : Int) < 2 := by omega
      rw [if_neg h]
      simp [hg]
theorem shortZ_eq {xs : List Int} : (shortZ xs = xs) ↔ ¬ 1 < gN xs := by
  unfold shortZ
  by_cases h : 1 < gN xs
  · rw [if_pos h]
    refine ⟨fun e => ?_, fun q => absurd h q⟩
    have hx : ∀ x ∈ xs, x = 0 := fun x hx => by
      obtain ⟨i, hi, ei⟩ := List.getElem_of_mem hx
      have e2 : (xs.map fun x => x.fdiv (gN xs : Nat))[i]? = xs[i]? := by rw [e]
      rw [List.getElem?_map, List.getElem?_eq_getElem hi, ei] at e2
      have e3 : x.fdiv (gN xs : Nat) = x := by simpa using e2
      obtain ⟨q, hq⟩ := Int.ofNat_dvd_left.mpr (gN_dvd hx)
      have hg : ((gN xs : Nat) : Int) ≠ 0 := by omega
      have e4 : q = x := by
        rw [hq, Int.mul_fdiv_cancel_left _ hg] at e3
        rw [← hq] at e3
        exact e3
      rw [e4] at hq
      have : (((gN xs : Nat) : Int) - 1) * x = 0 := by grind
      rcases Int.mul_eq_zero.mp this with q | q
      · omega
      · exact q
    have h0 : gN xs = 0 := by
      clear e h
      induction xs with
      | nil => rfl
      | cons x xs ih => rw [gN, ih (fun y hy => hx y (List.mem_cons_of_mem _ hy)), hx x List.mem_cons_self]; rfl
    omega
  · rw [if_neg h]
    exact ⟨fun _ => h, fun _ => rfl⟩
theorem c02_reduced (n : Nat) {xs : List Int} (hl : xs.length ≤ 100) : callU G (n + 2) "is_reduced" [Tz xs] [] = some (.bool (decide (gN xs = 1)), []) := by
  have := c_divisorZ0 K.divisor_of n xs (by omega)
  rw [callU_eq K.is_reduced]
  simp [runF, p_is_reduced, mkEnv, ctx_fn K.divisor_of rfl, this]
  omega
end
theorem Gd.two {d : D} {n : Nat} (hd : Gd d) {xs : List Int} (e : d = Tz xs) : xs.length ≤ 100 ∧ ∀ x ∈ xs, Sm 60 x := by
  obtain ⟨h1, h2⟩ := hd _ e
  exact ⟨by simpa using h1, fun x hx => (h2 (.int x) (List.mem_map.mpr ⟨x, hx, rfl⟩)).2.2 x rfl⟩
/-- whether a value is a point -/
def oVec (d : D) : Bool := match d with | .tuple [.int x, .int y, .int w] => decide (0 < w) && decide (gN [x, y, w] = 1) | _ => false
theorem oVec_no {d : D} (h : whN d 3 = false) : oVec d = false := by
  unfold oVec
  split
  · simp [whN, isI] at h
  · rfl
section
variable {G : Prog} (K : KnAny G)
include K
theorem t3_spot (n : Nat) {d : D} (hd : Gd d) : callU G (n + 3) "is_vector" [d] [] = some (.bool (oVec d), []) ∧ callU G (n + 4) "_law_is_spot" [d] [] = some (.bool (oVec d), []) := by
  have w1 := c02_are_wholes K n d 3 hd
  have w2 := l02_are_whole K (n + 1) d 3 hd
  have w1' : callU G (n + 2) "are_wholes" [d, .int 3] [] = some (.bool (whN d 3), []) := w1
  have w2' : callU G (n + 3) "_law_are_whole" [d, .int 3] [] = some (.bool (whN d 3), []) := w2
  cases h : whN d 3
  · rw [h] at w1' w2'
    rw [oVec_no h]
    refine ⟨?_, ?_⟩
    · rw [callU_eq K.is_vector]
      simp [runF, p_is_vector, mkEnv, ctx_fn K.are_wholes rfl, w1']
    · rw [callU_eq K.is_spot]
      simp [runF, p__law_is_spot, mkEnv, ctx_fn K.lare_whole rfl, w2']
  · rw [h] at w1' w2'
    obtain ⟨xs, rfl, hl⟩ := whN_ints h
    obtain ⟨hl2, hs⟩ := hd.two (n := 3) rfl
    obtain ⟨x, y, w, rfl⟩ : ∃ x y w, xs = [x, y, w] := by
      match xs, hl with
      | [x, y, w], _ => exact ⟨x, y, w, rfl⟩
    have r1 := c02_reduced K n (xs := [x, y, w]) (by simp)
    have r2 := l02_thin K (n + 1) (xs := [x, y, w]) (by simp) hs
    have w1'' : callU G (n + 2) "are_wholes" [T3 x y w, .int 3] [] = some (.bool true, []) := w1'
    have w2'' : callU G (n + 3) "_law_are_whole" [T3 x y w, .int 3] [] = some (.bool true, []) := w2'
    have r1' : callU G (n + 2) "is_reduced" [T3 x y w] [] = some (.bool (decide (gN [x, y, w] = 1)), []) := r1
    have r2' : callU G (n + 3) "_law_thin" [T3 x y w] [] = some (Tz (shortZ [x, y, w]), []) := r2
    by_cases hy : 0 < w
    · have eq1 : eqD (Tz (shortZ [x, y, w])) (T3 x y w) = some (decide (gN [x, y, w] = 1)) := by
        rw [show T3 x y w = Tz [x, y, w] from rfl, eqD_Tz]
        congr 1
        rw [decide_eq_decide, shortZ_eq K]
        have : gN [x, y, w] ≠ 0 := fun z => by
          have := gN_zero z w (by simp)
          omega
        omega
      have ov : oVec (Tz [x, y, w]) = decide (gN [x, y, w] = 1) := by
        show (decide (0 < w) && decide (gN [x, y, w] = 1)) = _
        rw [decide_eq_true hy, Bool.true_and]
      rw [ov]
      refine ⟨?_, ?_⟩
      · show callU G _ _ [T3 x y w] _ = _
        rw [callU_eq K.is_vector]
        simp [runF, p_is_vector, mkEnv, ctx_fn K.are_wholes rfl, w1'', hy, ctx_fn K.is_reduced rfl, r1']
      · show callU G _ _ [T3 x y w] _ = _
        rw [callU_eq K.is_spot]
        simp [runF, p__law_is_spot, mkEnv, ctx_fn K.lare_whole rfl, w2'', hy, ctx_fn K.thin rfl, r2', eq1]
    · have ov : oVec (Tz [x, y, w]) = false := by
        show (decide (0 < w) && decide (gN [x, y, w] = 1)) = _
        rw [decide_eq_false hy, Bool.false_and]
      rw [ov]
      refine ⟨?_, ?_⟩
      · show callU G _ _ [T3 x y w] _ = _
        rw [callU_eq K.is_vector]
        simp [runF, p_is_vector, mkEnv, ctx_fn K.are_wholes rfl, w1'', hy]
      · show callU G _ _ [T3 x y w] _ = _
        rw [callU_eq K.is_spot]
        simp [runF, p__law_is_spot, mkEnv, ctx_fn K.lare_whole rfl, w2'', hy]
end
theorem g3_gN (x y w : Int) : g3 x y w = ((gN [x, y, w] : Nat) : Int) := by
  unfold g3
  simp [gN, Nat.gcd_assoc]
theorem oVec_pt {d : D} (h : oVec d = true) (hd : Gd d) : ∃ p, d = pt p ∧ SzP 60 p := by
  unfold oVec at h
  split at h
  · rename_i x y w
    simp only [Bool.and_eq_true, decide_eq_true_eq] at h
    obtain ⟨h0, h1⟩ := h
    have wne := rne_pos h0
    have ex : (x : Rat) = (x : Rat) / (w : Rat) * (w : Rat) := by grind
    have ey : (y : Rat) = (y : Rat) / (w : Rat) * (w : Rat) := by grind
    obtain ⟨a, b, c⟩ := n3_pt (p := ((x : Rat) / (w : Rat), (y : Rat) / (w : Rat))) h0 ex ey
    obtain ⟨a', b', c'⟩ := n3_self (x := x) (y := y) (w := w) (by rw [g3_gN, h1]; rfl)
    rw [a'] at a
    rw [b'] at b
    rw [c'] at c
    obtain ⟨_, hg⟩ := hd _ rfl
    refine ⟨((x : Rat) / (w : Rat), (y : Rat) / (w : Rat)), ?_, ?_⟩
    · unfold pt
      rw [← a, ← b, ← c]
    · exact szP_of (p := ((x : Rat) / (w : Rat), (y : Rat) / (w : Rat))) h0 ex ey ((hg (.int x) (by simp)).2.2 x rfl) ((hg (.int y) (by simp)).2.2 y rfl) ((hg (.int w) (by simp)).2.2 w rfl)
  · cases h
theorem vecs_pt : ∀ {ds : List D}, ds.all oVec = true → (∀ e ∈ ds, Gd e) → ∃ l : List Q2, ds = l.map pt ∧ ∀ p ∈ l, SzP 60 p
  | [], _, _ => ⟨[], rfl, fun p hp => (by cases hp)⟩
  | e :: ds, h, hg => by
    simp only [List.all_cons, Bool.and_eq_true] at h
    obtain ⟨l, rfl, hl⟩ := vecs_pt h.2 fun x hx => hg x (List.mem_cons_of_mem _ hx)
    obtain ⟨p, rfl, sp⟩ := oVec_pt h.1 (hg e List.mem_cons_self)
    exact ⟨p :: l, rfl, fun x hx => by rcases List.mem_cons.mp hx with rfl | hx; exact sp; exact hl x hx⟩
theorem filter_notB (f : D → Bool) : ∀ (ds : List D), decide (ds.filter (fun e => !f e) = []) = ds.all f
  | [] => rfl
  | d :: ds => by
    have := filter_notB f ds
    cases h : f d
    · rw [List.filter_cons_of_pos (by simp [h])]; simp [h]
    · rw [List.filter_cons_of_neg (by simp [h]), this]; simp [h]
/-- a value of any kind, small enough -/
def Gs (d : D) : Prop := ∀ ds, d = .tuple ds → ds.length ≤ 40 ∧ PySem.SeqAt.shaped d = true ∧ ∀ e ∈ ds, Gd e ∧ PyData.canLay0 e = true ∧ PyData.depth e ≤ 5
def p05_is_shape : PFun := { np := 1, ns := 2, urn := false, fresh := false, body := (.cons (.ite (.or (.not (.bi .isTuple (.cons (.var 0) .nil))) (.or (.cmp .eq (.var 0) (.tup .nil)) (.cmp .ne (.comp (.var 1) (.one 1) (.seq (.var 0)) (.yes (.not (.call "_law_is_spot" (.cons (.var 1) .nil) [0]))) [1]) (.lst .nil)))) (.cons (.ret (.lit (.bool false))) .nil) .nil) (.cons (.ret (.cmp .eq (.call "_law_hull" (.cons (.var 0) .nil) [0]) (.var 0))) .nil)) }
section
variable {G : Prog} (K : KnAny G) (KS : KnS G) (KO : KnO G) (hs : G.T "_law_is_shape" = some p05_is_shape)
include K KS KO hs
theorem o3_shapeU {d : D} (hd : Gs d) : ∃ b : Bool, (∀ n, callU G (n + 9) "is_shape" [d] [] = some (.bool b, [])) ∧ (∀ n, callU G (n + 9) "_law_is_shape" [d] [] = some (.bool b, [])) ∧ (b = true → ∃ l : List Q2, d = .tuple (l.map pt)) := by
  have no : (∀ ds, d ≠ .tuple ds) → ∃ b : Bool, (∀ n, callU G (n + 9) "is_shape" [d] [] = some (.bool b, [])) ∧ (∀ n, callU G (n + 9) "_law_is_shape" [d] [] = some (.bool b, [])) ∧ (b = true → ∃ l : List Q2, d = .tuple (l.map pt)) := fun h => by
    have ht : biV .isTuple [d] = some (.bool false) := by
      cases d with
      | tuple ds => exact absurd rfl (h ds)
      | _ => rfl
    refine ⟨false, ?_, ?_, fun z => by cases z⟩
    · intro n; rw [callU_eq KS.is_shape]
      exact runF_of rfl (run_last (xs_ite_t (xe_or_t (xe_not (b := false) (xe_bi (xes_cons (xe_var rfl) xes_nil) ht))) (run_last (xs_ret xe_true))))
    · intro n; rw [callU_eq hs]
      exact runF_of rfl (run_last (xs_ite_t (xe_or_t (xe_not (b := false) (xe_bi (xes_cons (xe_var rfl) xes_nil) ht))) (run_last (xs_ret xe_true))))
  by_cases hT : ∃ ds, d = .tuple ds
  · obtain ⟨ds, rfl⟩ := hT
    obtain ⟨hl, hsh, hg⟩ := hd ds rfl
    have ht : biV .isTuple [.tuple ds] = some (.bool true) := rfl
    have h0 : eqD (.tuple ds) (.tuple []) = some (decide (ds = [])) := by
      show (if (PySem.SeqAt.shaped (.tuple ds) && PySem.SeqAt.shaped (.tuple [])) = true then some (PyData.eqv (.tuple ds) (.tuple [])) else none) = _
      rw [hsh, show PySem.SeqAt.shaped (.tuple []) = true by simp [PySem.SeqAt.shaped, PyData.canLay0, PyData.canLayAll0, PyData.depth, PyData.depthAll]]
      cases ds <;> rfl
    by_cases hn : ds = []
    · subst hn
      refine ⟨false, ?_, ?_, fun z => by cases z⟩
      · intro n; rw [callU_eq KS.is_shape]
        exact runF_of rfl (run_last (xs_ite_t (xe_or_f (xe_not (b := true) (xe_bi (xes_cons (xe_var rfl) xes_nil) ht)) (xe_or_t (xe_cmp (x := .tuple []) (xe_var rfl) (xe_tup xes_nil (by simp)) h0))) (run_last (xs_ret xe_true))))
      · intro n; rw [callU_eq hs]
        exact runF_of rfl (run_last (xs_ite_t (xe_or_f (xe_not (b := true) (xe_bi (xes_cons (xe_var rfl) xes_nil) ht)) (xe_or_t (xe_cmp (x := .tuple []) (xe_var rfl) (xe_tup xes_nil (by simp)) h0))) (run_last (xs_ret xe_true))))
    · rw [decide_eq_false hn] at h0
      have hc1 := fun n => eval_comp (C := ctxN G (n + 8)) (elt := (.call "is_vector" (.cons (.var 1) .nil) [0])) (t := .one 1) (it := .seq (.var 0)) (cond := .no) (own := [1])
        (env := [.imm (.tuple ds), .no]) (u := []) (u1 := []) (u2 := []) (ds := ds) (rs := ds.map fun e => .bool (oVec e)) (by simp) (by omega)
        (by
          refine compL_map (f := fun e => PyData.bool (oVec e)) fun e he => ?_
          have := (t3_spot K (n + 5) (hg e he).1).1
          simp [ctx_fn K.is_vector rfl, this])
      have va : biV .all [.list (ds.map fun e => .bool (oVec e))] = some (.bool (ds.all oVec)) := by
        show ((boolsOf (ds.map fun e => PyData.bool (oVec e))).map _) = _
        rw [boolsOf_map]
        simp
      have hc2 := fun n => eval_comp (C := ctxN G (n + 8)) (elt := .var 1) (t := .one 1) (it := .seq (.var 0)) (cond := (.yes (.not (.call "_law_is_spot" (.cons (.var 1) .nil) [0])))) (own := [1])
        (env := [.imm (.tuple ds), .no]) (u := []) (u1 := []) (u2 := []) (ds := ds) (rs := ds.filter fun e => !oVec e) (by simp) (by omega)
        (compL_filter (p := fun e => !oVec e) fun e he => by
          have := (t3_spot K (n + 4) (hg e he).1).2
          cases h : oVec e <;> rw [h] at this <;> simp [ctx_fn K.is_spot rfl, this])
      have vn : cmpV .ne (.list (ds.filter fun e => !oVec e)) (.list []) = some (!ds.all oVec) := by
        simp only [cmpV]
        rw [eqD_filter _ (fun e he => (hg e he).2), filter_notB]
        rfl
      cases hall : ds.all oVec with
      | false =>
        rw [hall] at va vn
        refine ⟨false, ?_, ?_, fun z => by cases z⟩
        · intro n; rw [callU_eq KS.is_shape]
          exact runF_of rfl (run_last (xs_ite_t (xe_or_f (xe_not (b := true) (xe_bi (xes_cons (xe_var rfl) xes_nil) ht)) (xe_or_f (xe_cmp (x := .tuple ds) (xe_var rfl) (xe_tup xes_nil (by simp)) h0) (xe_not (b := false) (xe_bi (xes_cons (hc1 n) xes_nil) va)))) (run_last (xs_ret xe_true))))
        · intro n; rw [callU_eq hs]
          exact runF_of rfl (run_last (xs_ite_t (xe_or_f (xe_not (b := true) (xe_bi (xes_cons (xe_var rfl) xes_nil) ht)) (xe_or_f (xe_cmp (x := .tuple ds) (xe_var rfl) (xe_tup xes_nil (by simp)) h0) (xe_cmp (hc2 n) (xe_lst xes_nil (by simp)) vn))) (run_last (xs_ret xe_true))))
      | true =>
        obtain ⟨l, rfl, sl⟩ := vecs_pt hall fun e he => (hg e he).1
        rw [List.length_map] at hl
        have hne : l ≠ [] := fun z => hn (by rw [z]; rfl)
        refine ⟨decide (hullQ l = l), fun n => c_is_shape KS (n + 4) sl (j := 1 + l.length * 60) (Nat.le_refl _) (by omega) (by omega) hne, ?_, fun _ => ⟨l, rfl⟩⟩
        rw [hall] at vn
        intro n
        have e := fnE (m := n + 8) KO.hull rfl (l_hull KO (n + 1) (k := 60) (by decide) sl (by omega) (d := .tuple (l.map pt)) rfl)
        rw [callU_eq hs]
        exact runF_of rfl (run_cons (xs_ite_f (xe_or_f (xe_not (b := true) (xe_bi (xes_cons (xe_var rfl) xes_nil) ht)) (xe_or_f (xe_cmp (x := .tuple (l.map pt)) (xe_var rfl) (xe_tup xes_nil (by simp)) h0) (xe_cmp (hc2 n) (xe_lst xes_nil (by simp)) vn))) xss_nil) (run_last (xs_ret (xe_cmp (x := .tuple ((hullQ l).map pt)) (xe_call (xes_cons (xe_var rfl) xes_nil) rfl e) (xe_var rfl) (by simp only [cmpV]; exact eqD_tpts _ _)))))
  · exact no fun ds h => hT ⟨ds, h⟩
end
end Pl

/-! PT24: points of a section below and above a water line. -/
namespace Pl
open PySem (PyData Str)
section
variable {P : List Q2} {l r : Rm}
end
end Pl

/-! PT25: points that a section has. -/
namespace Pl
open PySem (PyData Str)
section
variable {P : List Q2}
end
end Pl

/-! Plain05: sections and polygons told. -/
namespace Pl
open PySem (PyData Str)
--MB
local macro_rules | `(tactic| walk_at "shc") => `(tactic| first
  | with_reducible assumption
  | with_reducible exact shcs_nil
  | with_reducible exact shc_bool _
  | with_reducible exact shc_none
  | ((with_reducible refine' shcs_cons ?h ?k); (case h => walk_at "shc"); (case k => walk_at "shc"))
  | ((with_reducible refine' shc_tupL ?h); (case h => walk_at "shc"))
  | ((with_reducible refine' shc_lstL ?h); (case h => walk_at "shc"))
  | ((with_reducible refine' shc_int0 ?h); (case h => first | decide | omega)))
local macro_rules | `(tactic| walk_at "fact") => `(tactic| first | with_reducible assumption | assumption)
local macro_rules | `(tactic| walk_at "nl") => `(tactic| first | with_reducible assumption | with_reducible exact nl_tx | exact rfl | (simp only [noList, noListAll, noListAll_pt, Bool.and_true, Bool.true_and]; done))
local macro_rules | `(tactic| walk_at "val") => `(tactic| first | with_reducible assumption | with_reducible exact cmp_eq_int | with_reducible exact cmp_ne_int | with_reducible exact cmp_ne_str | with_reducible exact cmp_eq_str | with_reducible exact bi_len_t | with_reducible exact bi_len_l | exact rfl)
local macro_rules | `(tactic| walk_at "ev") => `(tactic| first
  | with_reducible exact xe_int
  | with_reducible exact xes_nil
  | with_reducible assumption
  | ((with_reducible refine' xe_var ?h); (case h => exact rfl))
  | with_reducible exact xe_true
  | with_reducible exact xe_none
  | with_reducible exact xe_str
  | ((with_reducible refine' xes_cons ?h ?k); (case h => walk_at "ev"); (case k => walk_at "ev"))
  | ((with_reducible refine' xe_call ?h ?k ?m); (case h => walk_at "ev"); (case k => exact rfl); (case m => walk_at "fact"))
  | ((with_reducible refine' xe_ucall ?h ?m); (case h => walk_at "ev"); (case m => walk_at "fact"))
  | ((with_reducible refine' xe_idx ?h ?k ?m); (case h => walk_at "ev"); (case k => walk_at "ev"); (case m => walk_at "val"))
  | ((with_reducible refine' xe_tup ?h ?k); (case h => walk_at "ev"); (case k => first | decide | (simp only [List.length_cons, List.length_nil]; decide)))
  | ((with_reducible refine' xe_lst ?h ?k); (case h => walk_at "ev"); (case k => first | decide | (simp only [List.length_cons, List.length_nil]; decide)))
  | ((with_reducible refine' xe_bin ?h ?k ?m); (case h => walk_at "ev"); (case k => walk_at "ev"); (case m => walk_at "val"))
  | ((with_reducible refine' xe_reprs ?h ?k ?s ?m ?c); (case h => walk_at "ev"); (case k => walk_at "ev"); (case s => walk_at "shc"); (case m => decide); (case c => decide))
  | ((with_reducible refine' xe_reprs_eq ?h ?k ?s ?m ?c); (case h => walk_at "ev"); (case k => walk_at "ev"); (case s => walk_at "shc"); (case m => decide); (case c => decide))
  | ((with_reducible refine' xe_cmp ?h ?k ?m); (case h => walk_at "ev"); (case k => walk_at "ev"); (case m => walk_at "val"))
  | ((with_reducible refine' xe_bi ?h ?m); (case h => walk_at "ev"); (case m => walk_at "val"))
  | ((with_reducible refine' xe_neg ?h); (case h => walk_at "ev"))
  | ((with_reducible refine' xe_not_t ?h); (case h => walk_at "ev"))
  | ((with_reducible refine' xe_not_f ?h); (case h => walk_at "ev"))
  | ((with_reducible refine' xe_not ?h); (case h => walk_at "ev"))
  | ((with_reducible refine' xe_rev_line ?h); (case h => walk_at "ev"))
  | ((with_reducible refine' xe_rev2 ?h); (case h => walk_at "ev"))
  | ((with_reducible refine' xe_rev_t ?h); (case h => walk_at "ev"))
  | ((with_reducible refine' xe_rev_l ?h); (case h => walk_at "ev"))
  | ((with_reducible refine' xe_sli ?h ?k ?l ?m); (case h => walk_at "ev"); (case k => walk_at "ev"); (case l => walk_at "ev"); (case m => walk_at "val"))
  | with_reducible exact xo_no
  | with_reducible exact xo_int
  | with_reducible exact xo_neg
  | ((with_reducible refine' xe_ite_t ?h ?k); (case h => walk_at "ev"); (case k => walk_at "ev"))
  | ((with_reducible refine' xe_ite_f ?h ?k); (case h => walk_at "ev"); (case k => walk_at "ev"))
  | ((with_reducible refine' xe_and_t ?h ?k); (case h => walk_at "ev"); (case k => walk_at "ev"))
  | ((with_reducible refine' xe_and_f ?h); (case h => walk_at "ev"))
  | ((with_reducible refine' xe_or_t ?h); (case h => walk_at "ev"))
  | ((with_reducible refine' xe_or_f ?h ?k); (case h => walk_at "ev"); (case k => walk_at "ev"))
  | with_reducible exact xe_dict0
  | ((with_reducible refine' xe_rep3 ?h); (case h => walk_at "ev"))
  | ((with_reducible refine' xe_rep2 ?h); (case h => walk_at "ev"))
  | ((with_reducible refine' xe_glob ?h); (case h => with_reducible assumption)))
local macro_rules | `(tactic| walk_at "ex") => `(tactic| first
  | ((with_reducible refine' xss_asm ?h ?k); (case h => with_reducible assumption); (case k => walk_at "ex"))
  | ((with_reducible refine' xss_asm_rt ?h); (case h => with_reducible assumption))
  | ((with_reducible refine' xss_ret ?h); (case h => walk_at "ev"))
  | ((with_reducible refine' xss_drop ?h ?k); (case h => walk_at "ev"); (case k => walk_at "ex"))
  | ((with_reducible refine' xss_set ?h ?n ?k); (case h => walk_at "ev"); (case n => walk_at "nl"); (case k => ((try dsimp only [List.set]); walk_at "ex")))
  | (with_reducible exact xss_nil)
  | ((with_reducible refine' xss_if_no ?h ?k); (case h => walk_at "ev"); (case k => walk_at "ex"))
  | ((with_reducible refine' xss_if_ret ?h ?k); (case h => walk_at "ev"); (case k => walk_at "ev"))
  | ((with_reducible refine' xss_par2 ?h ?h2 ?x ?y ?k); (case h => walk_at "ev"); (case h2 => walk_at "ev"); (case x => walk_at "nl"); (case y => walk_at "nl"); (case k => ((try dsimp only [List.set]); walk_at "ex")))
  | ((with_reducible refine' xss_par3 ?h ?h2 ?h3 ?x ?y ?z ?k); (case h => walk_at "ev"); (case h2 => walk_at "ev"); (case h3 => walk_at "ev"); (case x => walk_at "nl"); (case y => walk_at "nl"); (case z => walk_at "nl"); (case k => ((try dsimp only [List.set]); walk_at "ex")))
  | ((with_reducible refine' xss_setL ?h ?f ?n ?k); (case h => walk_at "ev"); (case f => exact rfl); (case n => walk_at "nl"); (case k => ((try dsimp only [List.set]); walk_at "ex")))
  | ((with_reducible refine' xss_setLx ?h ?f ?w ?k); (case h => walk_at "ev"); (case f => exact rfl); (case w => first | with_reducible assumption | exact rfl); (case k => ((dsimp only [fvE, fvEs, fvEo, fvI, freeze, frz, List.modify_cons, List.modify_nil, List.set, List.append_nil, List.nil_append, List.cons_append, List.modify, List.modifyTailIdx, List.modifyTailIdx.go, List.modifyHead]); walk_at "ex")))
  | ((with_reducible refine' xss_app ?h ?n ?i ?z ?k); (case h => walk_at "ev"); (case n => walk_at "nl"); (case i => exact rfl); (case z => first | decide | (simp only [List.length_cons, List.length_nil]; decide)); (case k => ((try dsimp only [List.set, List.cons_append, List.nil_append]); walk_at "ex")))
  | ((with_reducible refine' xss_unp2 ?h ?x ?y ?k); (case h => walk_at "ev"); (case x => walk_at "nl"); (case y => walk_at "nl"); (case k => ((try dsimp only [List.set]); walk_at "ex")))
  | ((with_reducible refine' xss_setLi2 ?h ?f ?k); (case h => walk_at "ev"); (case f => first | with_reducible assumption | exact rfl); (case k => ((dsimp only [fvE, fvEs, fvEo, fvI, freeze, frz, List.modify_cons, List.modify_nil, List.set, List.append_nil, List.nil_append, List.cons_append, List.modify, List.modifyTailIdx, List.modifyTailIdx.go, List.modifyHead]); walk_at "ex")))
  | ((with_reducible refine' xss_if_t ?h ?k ?m); (case h => walk_at "ev"); (case k => walk_at "ex"); (case m => walk_at "ex"))
  | ((with_reducible refine' xss_if_f ?h ?k ?m); (case h => walk_at "ev"); (case k => walk_at "ex"); (case m => walk_at "ex"))
  | ((with_reducible refine' xss_pass ?k); (case k => walk_at "ex"))
  )
local macro_rules | `(tactic| walk_at "exd") => `(tactic| first
  | ((with_reducible refine' xss_asm ?h ?k); (case h => with_reducible assumption); (try walk_at "exd"))
  | ((with_reducible refine' xss_asm_rt ?h); (case h => with_reducible assumption))
  | ((with_reducible refine' xss_ret ?h); (case h => walk_at "ev"))
  | ((with_reducible refine' xss_drop ?h ?k); (case h => walk_at "ev"); (try walk_at "exd"))
  | ((with_reducible refine' xss_set ?h ?n ?k); (case h => walk_at "ev"); (case n => walk_at "nl"); (try dsimp only [List.set]); (try walk_at "exd"))
  | (with_reducible exact xss_nil)
  | ((with_reducible refine' xss_if_no ?h ?k); (case h => walk_at "ev"); (try walk_at "exd"))
  | ((with_reducible refine' xss_if_ret ?h ?k); (case h => walk_at "ev"); (case k => walk_at "ev"))
  | ((with_reducible refine' xss_par2 ?h ?h2 ?x ?y ?k); (case h => walk_at "ev"); (case h2 => walk_at "ev"); (case x => walk_at "nl"); (case y => walk_at "nl"); (try dsimp only [List.set]); (try walk_at "exd"))
  | ((with_reducible refine' xss_par3 ?h ?h2 ?h3 ?x ?y ?z ?k); (case h => walk_at "ev"); (case h2 => walk_at "ev"); (case h3 => walk_at "ev"); (case x => walk_at "nl"); (case y => walk_at "nl"); (case z => walk_at "nl"); (try dsimp only [List.set]); (try walk_at "exd"))
  | ((with_reducible refine' xss_setL ?h ?f ?n ?k); (case h => walk_at "ev"); (case f => exact rfl); (case n => walk_at "nl"); (try dsimp only [List.set]); (try walk_at "exd"))
  | ((with_reducible refine' xss_setLx ?h ?f ?w ?k); (case h => walk_at "ev"); (case f => exact rfl); (case w => first | with_reducible assumption | exact rfl); (dsimp only [fvE, fvEs, fvEo, fvI, freeze, frz, List.modify_cons, List.modify_nil, List.set, List.append_nil, List.nil_append, List.cons_append, List.modify, List.modifyTailIdx, List.modifyTailIdx.go, List.modifyHead]); (try walk_at "exd"))
  | ((with_reducible refine' xss_app ?h ?n ?i ?z ?k); (case h => walk_at "ev"); (case n => walk_at "nl"); (case i => exact rfl); (case z => first | decide | (simp only [List.length_cons, List.length_nil]; decide)); (try dsimp only [List.set, List.cons_append, List.nil_append]); (try walk_at "exd"))
  | ((with_reducible refine' xss_unp2 ?h ?x ?y ?k); (case h => walk_at "ev"); (case x => walk_at "nl"); (case y => walk_at "nl"); (try dsimp only [List.set]); (try walk_at "exd"))
  | ((with_reducible refine' xss_setLi2 ?h ?f ?k); (case h => walk_at "ev"); (case f => first | with_reducible assumption | exact rfl); (dsimp only [fvE, fvEs, fvEo, fvI, freeze, frz, List.modify_cons, List.modify_nil, List.set, List.append_nil, List.nil_append, List.cons_append, List.modify, List.modifyTailIdx, List.modifyTailIdx.go, List.modifyHead]); (try walk_at "exd"))
  | ((with_reducible refine' xss_if_t ?h ?k ?m); (case h => walk_at "ev"); (case k => walk_at "exd"); (case m => walk_at "exd"))
  | ((with_reducible refine' xss_if_f ?h ?k ?m); (case h => walk_at "ev"); (case k => walk_at "exd"); (case m => walk_at "exd"))
  | ((with_reducible refine' xss_pass ?k); (try walk_at "exd"))
  | skip)
local macro_rules | `(tactic| walk_at "run") => `(tactic| ((try refine runF_of rfl ?_); simp only [mkEnv, Bool.false_eq_true, if_false, if_true, List.map_cons, List.map_nil, List.nil_append, List.cons_append, Nat.reduceSub, List.replicate_succ, List.replicate_zero]; walk_at "ex"))
local macro_rules | `(tactic| walk_at "run") => `(tactic| ((try refine runF_of rfl ?_); simp only [mkEnv, Bool.false_eq_true, if_false, if_true, List.map_cons, List.map_nil, List.nil_append, List.cons_append, Nat.reduceSub, List.replicate_succ, List.replicate_zero]; walk_at "exd"))
local macro_rules | `(tactic| walk_at "run") => `(tactic| ((try refine runF_of rfl ?_); (simp only [mkEnv, Bool.false_eq_true, if_false, if_true, List.map_cons, List.map_nil, List.nil_append, List.cons_append, Nat.reduceSub, List.replicate_succ, List.replicate_zero]); walk_at "ex"))
--ME
def p05_bent : PFun := { np := 2, ns := 8, urn := true, fresh := false, body := (.cons (.par [2, 3] (.cons (.ucall "_law_pull" (.cons (.bi .len (.cons (.var 1) .nil)) .nil)) (.cons (.bi .len (.cons (.var 1) .nil)) .nil))) (.cons (.set 4 (.call "_law_on" (.cons (.idx (.var 1) (.var 2)) (.cons (.call "_law_by" (.cons (.call "_law_edge" (.cons (.var 1) (.cons (.var 2) .nil)) [0, 1]) (.cons (.tup (.cons (.lit (.int 1)) (.cons (.lit (.int 2)) .nil))) .nil)) [0, 1]) .nil)) [0, 1])) (.cons (.set 5 (.call "_law_on" (.cons (.idx (.var 1) (.var 2)) (.cons (.call "_law_by" (.cons (.call "_law_way" (.cons (.idx (.var 1) (.var 2)) (.cons (.call "_law_middle" (.cons (.var 1) .nil) [0]) .nil)) [0, 1]) (.cons (.ucall "_law_any" (.cons (.lst (.cons (.tup (.cons (.lit (.int 1)) (.cons (.lit (.int 2)) .nil))) (.cons (.tup (.cons (.lit (.int 1)) (.cons (.lit (.int 9)) .nil))) (.cons (.tup (.cons (.lit (.int 1)) (.cons (.lit (.int 1)) .nil))) (.cons (.tup (.cons (.neg (.lit (.int 1))) (.cons (.lit (.int 5)) .nil))) .nil))))) .nil)) .nil)) [0, 1]) .nil)) [0, 1])) (.cons (.set 6 (.lst (.cons (.bin .add (.sli (.var 1) (.yes (.var 2)) .no) (.sli (.var 1) .no (.yes (.var 2)))) (.cons (.rev (.var 1)) (.cons (.bin .add (.sli (.var 1) .no (.yes (.lit (.int 1)))) (.rvt (.var 1))) .nil))))) (.cons (.app 6 (.bin .add (.bin .add (.sli (.var 1) .no (.yes (.bin .add (.var 2) (.lit (.int 1))))) (.tup (.cons (.var 4) .nil))) (.sli (.var 1) (.yes (.bin .add (.var 2) (.lit (.int 1)))) .no))) (.cons (.app 6 (.bin .add (.bin .add (.sli (.var 1) .no (.yes (.var 2))) (.bin .mul (.sli (.var 1) (.yes (.var 2)) (.yes (.bin .add (.var 2) (.lit (.int 1))))) (.lit (.int 2)))) (.sli (.var 1) (.yes (.bin .add (.var 2) (.lit (.int 1)))) .no))) (.cons (.app 6 (.bin .add (.bin .add (.sli (.var 1) .no (.yes (.var 2))) (.tup (.cons (.var 5) .nil))) (.sli (.var 1) (.yes (.bin .add (.var 2) (.lit (.int 1)))) .no))) (.cons (.app 6 (.bin .add (.bin .add (.sli (.var 1) .no (.yes (.var 2))) (.tup (.cons (.ucall "_law_odd" (.cons (.idx (.var 1) (.var 2)) .nil)) .nil))) (.sli (.var 1) (.yes (.bin .add (.var 2) (.lit (.int 1)))) .no))) (.cons (.set 6 (.bin .add (.var 6) (.lst (.cons (.bi .list (.cons (.var 1) .nil)) (.cons (.sli (.var 1) .no (.yes (.lit (.int 1)))) (.cons (.sli (.var 1) .no (.yes (.lit (.int 2)))) (.cons (.idx (.var 1) (.var 2)) (.cons (.tup (.cons (.var 1) .nil)) (.cons (.bin .add (.var 1) (.var 1)) (.cons (.bin .add (.sli (.var 1) .no (.yes (.var 2))) (.sli (.var 1) (.yes (.bin .add (.var 2) (.lit (.int 1)))) .no)) .nil)))))))))) (.cons (.ret (.bin .add (.var 6) (.lst (.cons (.bi .tuple (.cons (.comp (.sli (.var 7) .no (.yes (.lit (.int 2)))) (.one 7) (.seq (.var 1)) .no [7]) .nil)) (.cons (.rev (.sli (.var 1) .no (.yes (.lit (.int 2))))) (.cons (.tup (.cons (.idx (.var 1) (.var 2)) (.cons (.idx (.var 1) (.bin .mod (.bi .int (.cons (.bin .add (.var 2) (.lit (.int 2))) .nil)) (.var 3))) .nil))) .nil)))))) .nil)))))))))) }
def p05_odd : PFun := { np := 2, ns := 3, urn := true, fresh := false, body := (.cons (.set 2 (.lst (.cons (.tup (.cons (.bin .mul (.lit (.int 2)) (.idx (.var 1) (.lit (.int 0)))) (.cons (.bin .mul (.lit (.int 2)) (.idx (.var 1) (.lit (.int 1)))) (.cons (.bin .mul (.lit (.int 2)) (.idx (.var 1) (.lit (.int 2)))) .nil)))) (.cons (.tup (.cons (.idx (.var 1) (.lit (.int 0))) (.cons (.idx (.var 1) (.lit (.int 1))) (.cons (.neg (.idx (.var 1) (.lit (.int 2)))) .nil)))) (.cons (.tup (.cons (.idx (.var 1) (.lit (.int 0))) (.cons (.idx (.var 1) (.lit (.int 1))) (.cons (.lit (.int 0)) .nil)))) .nil))))) (.cons (.ret (.ucall "_law_any" (.cons (.bin .add (.var 2) (.lst (.cons (.bi .list (.cons (.var 1) .nil)) (.cons (.lit .none) (.cons (.lit (.int 7)) (.cons (.sli (.var 1) .no (.yes (.lit (.int 2)))) .nil)))))) .nil))) .nil)) }
def p05_right : PFun := { np := 1, ns := 11, urn := true, fresh := false, body := (.cons (.set 1 (.ucall "_law_plate" .nil)) (.cons (.set 2 (.comp (.bi .tuple (.cons (.comp (.call "_law_spot" (.cons (.ucall "_law_num" (.cons (.lit (.int 3)) .nil)) (.cons (.ucall "_law_num" (.cons (.lit (.int 3)) .nil)) (.cons (.lit (.int 1)) .nil))) [0, 1, 2]) (.one 3) (.range1 (.ucall "_law_pull" (.cons (.lit (.int 10)) .nil))) .no [3]) .nil)) (.one 4) (.range1 (.lit (.int 3))) .no [4])) (.cons (.set 5 (.comp (.bi .tuple (.cons (.comp (.tup (.cons (.var 6) (.cons (.bin .mul (.var 6) (.var 6)) (.cons (.lit (.int 1)) .nil)))) (.one 6) (.range2 (.neg (.lit (.int 4))) (.var 7)) .no [6]) .nil)) (.one 7) (.seq (.tup (.cons (.lit (.int 4)) (.cons (.lit (.int 5)) (.cons (.lit (.int 6)) .nil))))) .no [7])) (.cons (.set 8 (.bin .add (.bin .add (.bin .add (.bin .add (.lst (.cons (.var 1) .nil)) (.ucall "_law_bent" (.cons (.var 1) .nil))) (.var 2)) (.var 5)) (.lst (.cons (.tup .nil) (.cons (.lit .none) (.cons (.lit (.bool true)) (.cons (.lit (.str (PySem.Str.ofString "polygon"))) (.cons .dict0 (.cons (.tup (.cons (.lit (.int 1)) (.cons (.lit (.int 2)) (.cons (.lit (.int 3)) .nil)))) (.cons (.tup (.cons (.tup (.cons (.lit (.int 0)) (.cons (.lit (.int 0)) (.cons (.lit (.int 1)) .nil)))) (.cons (.lit .none) .nil))) (.cons (.lit (.int 5)) .nil))))))))))) (.cons (.set 9 (.comp (.call "_law_is_shape" (.cons (.var 10) .nil) [0]) (.one 10) (.seq (.var 8)) .no [10])) (.cons (.ite (.or (.cmp .ne (.bi .repr (.cons (.comp (.call "is_polygon" (.cons (.var 10) .nil) [0]) (.one 10) (.seq (.var 8)) .no [10]) .nil)) (.bi .repr (.cons (.var 9) .nil))) (.cmp .ne (.bi .repr (.cons (.comp (.call "is_polygon" (.cons (.var 10) .nil) [0]) (.one 10) (.seq (.var 8)) .no [10]) .nil)) (.bi .repr (.cons (.var 9) .nil)))) (.cons (.ret (.lit (.bool false))) .nil) .nil) (.cons (.set 9 (.comp (.and (.idx (.var 9) (.var 6)) (.chain .lt .lt (.lit (.int 2)) (.bi .len (.cons (.idx (.var 8) (.var 6)) .nil)) (.lit (.int 9)))) (.one 6) (.range1 (.bi .len (.cons (.var 8) .nil))) .no [6])) (.cons (.ret (.and (.idx (.var 9) (.lit (.int 0))) (.chain .eq .eq (.bi .repr (.cons (.comp (.call "is_section" (.cons (.var 10) .nil) [0]) (.one 10) (.seq (.var 8)) .no [10]) .nil)) (.bi .repr (.cons (.var 9) .nil)) (.bi .repr (.cons (.comp (.call "is_section" (.cons (.var 10) .nil) [0]) (.one 10) (.seq (.var 8)) .no [10]) .nil))))) .nil)))))))) }
def p05_is_section : PFun := { np := 1, ns := 1, urn := false, fresh := false, body := (.cons (.ret (.call "is_plate" (.cons (.var 0) .nil) [0])) .nil) }
def p05_is_polygon : PFun := { np := 1, ns := 1, urn := false, fresh := false, body := (.cons (.ret (.call "is_lot" (.cons (.var 0) .nil) [0])) .nil) }
structure Kn05 (G : Prog) : Prop where
  pl : KnPlt G
  md : KnMid G
  rim : KnRim0 G
  kp : KnS G
  is_plate : G.T "is_plate" = some p_is_plate
  most : G.glob "MOST_EDGES" = some (.int 8)
  any_ : KnAny G
  is_lot : G.T "is_lot" = some p_is_lot
  is_section : G.T "is_section" = some p05_is_section
  is_polygon : G.T "is_polygon" = some p05_is_polygon
  lis_shape : G.T "_law_is_shape" = some p05_is_shape
  odd : G.T "_law_odd" = some p05_odd
  bent : G.T "_law_bent" = some p05_bent
  right : G.T "_law_right" = some p05_right
  law : G.T "law" = some p_laps
theorem xo_yes {C : Ctx} {env : Env} {u u1 : U} {e : E} {i : Int} (h : evalE C e env u = some (.int i, u1)) : evalEo C (.yes e) env u = some (some i, u1) := by
  simp only [evalEo, h, Option.bind_some]
/-- an element of a small tuple -/
def Ok1 (e : D) : Prop := Gd e ∧ PyData.canLay0 e = true ∧ PyData.depth e ≤ 5
theorem gs_tuple {ds : List D} (hl : ds.length ≤ 40) (h : ∀ e ∈ ds, Ok1 e) : Gs (.tuple ds) := fun es q => by
  cases q
  have := lay_filter (fun _ => true) (ds := ds) fun e he => (h e he).2
  rw [List.filter_eq_self.mpr fun _ _ => rfl] at this
  refine ⟨hl, ?_, h⟩
  have h2 := this.2
  unfold PySem.SeqAt.shaped
  rw [show PyData.canLay0 (.tuple ds) = true by simp only [PyData.canLay0]; exact this.1, Bool.true_and, decide_eq_true_eq]
  simp only [PyData.depth]
  omega
theorem gs_no {d : D} (h : ∀ ds, d ≠ .tuple ds) : Gs d := fun ds e => absurd e (h ds)
theorem ok_int {i : Int} (h : Sm 60 i) : Ok1 (.int i) := ⟨fun ds e => (by cases e), rfl, by simp [PyData.depth]⟩
theorem ok_ints {xs : List Int} (hl : xs.length ≤ 100) (h : ∀ x ∈ xs, Sm 60 x) : Ok1 (.tuple (xs.map .int)) := by
  have hc : ∀ ys : List Int, PyData.canLayAll0 (ys.map .int) = true ∧ PyData.depthAll (ys.map .int) ≤ 1 := fun ys => by
    induction ys with
    | nil => simp [PyData.canLayAll0, PyData.depthAll]
    | cons y ys ih => simp [PyData.canLayAll0, PyData.depthAll, PyData.canLay0, PyData.depth, ih]
  refine ⟨fun ds e => ?_, ?_, ?_⟩
  · cases e
    refine ⟨by simpa using hl, fun e he => ?_⟩
    obtain ⟨x, hx, rfl⟩ := List.mem_map.mp he
    exact ⟨rfl, by simp [PyData.depth], fun i q => by cases q; exact h x hx⟩
  · simp only [PyData.canLay0]; exact (hc xs).1
  · simp only [PyData.depth]
    have := (hc xs).2
    omega
theorem ok_pt {p : Q2} (h : SzP 60 p) : Ok1 (pt p) := ok_ints (xs := [X p, Y p, W p]) (by simp) fun x hx => by
  simp only [List.mem_cons, List.not_mem_nil, or_false] at hx
  rcases hx with rfl | rfl | rfl
  · exact h.x
  · exact h.y
  · exact h.w
theorem cut_mem {α : Type} {xs : List α} {lo hi : Option Int} {x : α} (h : x ∈ cut xs lo hi) : x ∈ xs := by
  unfold cut at h
  exact List.mem_of_mem_drop (List.mem_of_mem_take h)
theorem cut_len {α : Type} (xs : List α) (lo hi : Option Int) : (cut xs lo hi).length ≤ xs.length := by
  unfold cut
  rw [List.length_take, List.length_drop]
  omega
section
variable {C : Ctx} {ff : String → Bool} {env : Env} {u u1 : U}
/-- append, of things with or without lists -/
theorem xss_app2 {i : Nat} {e : E} {d : D} {ds : List D} {ss : Ss} {o : Option O} (h : evalE C e env u = some (d, u1)) (hf : freeze env (fvE e) = env) (hi : env[i]? = some (.own ds)) (hz : ds.length ≤ 100000) (k : execSs C ff ss (env.set i (.own (ds ++ [d]))) u1 = o) : execSs C ff (.cons (.app i e) ss) env u = o := by
  refine run_cons (env1 := env.set i (.own (ds ++ [d]))) (u1 := u1) ?_ k
  simp only [execS, h, Option.bind_some, hf, ite_self, hi]
  rw [if_pos (show sizeOk ds.length = true from decide_eq_true hz)]
/-- a new list, of things with or without lists -/
theorem xss_setL2 {i : Nat} {e : E} {ds : List D} {ss : Ss} {o : Option O} (h : evalE C e env u = some (.list ds, u1)) (hf : fk ff e = true) (hw : (freeze env (fvE e)).set i (.own ds) = env.set i (.own ds)) (k : execSs C ff ss (env.set i (.own ds)) u1 = o) : execSs C ff (.cons (.set i e) ss) env u = o := by
  cases hn : noListAll ds with
  | true => exact xss_setL h hf hn k
  | false => exact xss_setLx h hf hn (by rw [hw]; exact k)
end
theorem lay_pts : ∀ l : List Q2, PyData.canLayAll0 (l.map pt) = true ∧ PyData.depthAll (l.map pt) ≤ 2
  | [] => by simp [PyData.canLayAll0, PyData.depthAll]
  | a :: l => by
    have ih := lay_pts l
    refine ⟨by simp [PyData.canLayAll0, PyData.canLay0, ih.1], ?_⟩
    simp only [List.map_cons, PyData.depthAll, PyData.depth]
    omega
theorem xe_rvt {C : Ctx} {env : Env} {u u1 : U} {a : E} {x : D} {xs : List D} (h : evalE C a env u = some (.tuple (x :: xs), u1)) : evalE C (.rvt a) env u = some (.tuple xs.reverse, u1) := by
  simp only [evalE, h, Option.bind_some]
theorem cut_one {α : Type} {xs : List α} {k : Nat} (h : k < xs.length) : (cut xs (some (k : Int)) (some ((k : Int) + 1))).length = 1 := by
  unfold cut sIx
  simp only [List.length_take, List.length_drop]
  have a : ¬ ((k : Int) < 0) := by omega
  have b : ¬ ((k : Int) + 1 < 0) := by omega
  simp only [a, b, if_false]
  omega
section
variable {G : Prog} (K : Kn05 G) {P : List Q2}
include K
theorem l05_odd (n : Nat) {p : Q2} (hp : SzP 30 p) {u : U} (hu : Pot u) : ∃ d u', callU G (n + 3) "_law_odd" [pt p] u = some (d, u') ∧ Ok1 d ∧ Pot u' := by
  have mo : ∀ {j : Int}, Sm 30 j → mulOk 2 j = true := fun h => mulOk_of (sm_lit (by decide) : Sm 2 (2 : Int)) h (by decide) (by decide)
  have m1 : binV .mul (.int 2) (.int (X p)) = some (.int (2 * X p)) := by simp [binV, mo hp.x]
  have m2 : binV .mul (.int 2) (.int (Y p)) = some (.int (2 * Y p)) := by simp [binV, mo hp.y]
  have m3 : binV .mul (.int 2) (.int (W p)) = some (.int (2 * W p)) := by simp [binV, mo hp.w]
  have i0 : idxV (pt p) (.int 0) = some (.int (X p)) := rfl
  have i1 : idxV (pt p) (.int 1) = some (.int (Y p)) := rfl
  have i2 : idxV (pt p) (.int 2) = some (.int (W p)) := rfl
  have s2 : sliV (pt p) none (some 2) = some (.tuple [.int (X p), .int (Y p)]) := rfl
  have li : biV .list [pt p] = some (.list [.int (X p), .int (Y p), .int (W p)]) := rfl
  let O : List D := [.tuple [.int (2 * X p), .int (2 * Y p), .int (2 * W p)], .tuple [.int (X p), .int (Y p), .int (-W p)], .tuple [.int (X p), .int (Y p), .int 0], .list [.int (X p), .int (Y p), .int (W p)], .none, .int 7, .tuple [.int (X p), .int (Y p)]]
  have b1 : binV .add (.list [.tuple [.int (2 * X p), .int (2 * Y p), .int (2 * W p)], .tuple [.int (X p), .int (Y p), .int (-W p)], .tuple [.int (X p), .int (Y p), .int 0]]) (.list [.list [.int (X p), .int (Y p), .int (W p)], .none, .int 7, .tuple [.int (X p), .int (Y p)]]) = some (.list O) := rfl
  have n1 : noListAll [.tuple [.int (2 * X p), .int (2 * Y p), .int (2 * W p)], .tuple [.int (X p), .int (Y p), .int (-W p)], .tuple [.int (X p), .int (Y p), .int 0]] = true := rfl
  obtain ⟨d, u1, e1, hd, h1⟩ := c_any K.pl.toKnU n (xs := O) hu (by simp [O]) (by simp [O])
  have e1 := ufnE (m := n + 2) K.pl.any rfl e1
  have dbl : ∀ {x : Int}, Sm 30 x → Sm 60 (2 * x) := fun h => ((sm_lit (by decide) : Sm 2 (2 : Int)).mul h).mono (by decide)
  have up : ∀ {x : Int}, Sm 30 x → Sm 60 x := fun h => h.mono (by decide)
  refine ⟨d, u1, ?_, ?_, h1⟩
  · rw [callU_eq K.odd]
    unfold p05_odd
    generalize O = O' at *
    walk_at "run"
  · simp only [O, List.mem_cons, List.not_mem_nil, or_false] at hd
    rcases hd with rfl | rfl | rfl | rfl | rfl | rfl | rfl
    · exact ok_ints (xs := [2 * X p, 2 * Y p, 2 * W p]) (by simp) fun x hx => by
        simp only [List.mem_cons, List.not_mem_nil, or_false] at hx
        rcases hx with rfl | rfl | rfl
        · exact dbl hp.x
        · exact dbl hp.y
        · exact dbl hp.w
    · exact ok_ints (xs := [X p, Y p, -W p]) (by simp) fun x hx => by
        simp only [List.mem_cons, List.not_mem_nil, or_false] at hx
        rcases hx with rfl | rfl | rfl
        · exact up hp.x
        · exact up hp.y
        · exact (up hp.w).neg
    · exact ok_ints (xs := [X p, Y p, 0]) (by simp) fun x hx => by
        simp only [List.mem_cons, List.not_mem_nil, or_false] at hx
        rcases hx with rfl | rfl | rfl
        · exact up hp.x
        · exact up hp.y
        · exact sm_lit (by decide)
    · exact ⟨fun ds e => (by cases e), rfl, by simp [PyData.depth, PyData.depthAll]⟩
    · exact ⟨fun ds e => (by cases e), rfl, by simp [PyData.depth]⟩
    · exact ok_int (sm_lit (by decide))
    · exact ok_ints (xs := [X p, Y p]) (by simp) fun x hx => by
        simp only [List.mem_cons, List.not_mem_nil, or_false] at hx
        rcases hx with rfl | rfl
        · exact up hp.x
        · exact up hp.y
theorem l05_bent (n : Nat) (hP : Plate P) {u : U} (hu : Pot u) : ∃ (B : List D) (u' : U), callU G (n + 9) "_law_bent" [.tuple (P.map pt)] u = some (.list B, u') ∧ B.length ≤ 20 ∧ (∀ d ∈ B, Gs d) ∧ Pot u' := by
  have hl : P.length ≤ 8 := hP.l8
  have h3 := hP.l3
  have hne := hP.poly.ne
  obtain ⟨i, u1, e1, i1, i2, h1⟩ := c_pull K.pl.toKnU (n + 7) hu (m := (P.length : Int)) (by omega) (by unfold Sm; omega)
  have e1 := ufnE (m := n + 8) K.pl.pull rfl e1
  obtain ⟨k, rfl⟩ := Int.eq_ofNat_of_zero_le i1
  have hk : k < P.length := by omega
  have sp : ∀ p ∈ P, SzP 6 p := hP.szP
  have sk := sp _ (cn_mem hne k)
  have sE := szP_sub2 (sp _ (cn_mem hne (k + 1))) sk
  have len : biV .len [.tuple (P.map pt)] = some (.int (P.length : Int)) := bi_len_t
  have vk : idxV (.tuple (P.map pt)) (.int (k : Int)) = some (pt (cn P k)) := cn_at hk
  have f1 : (.tuple [.int 1, .int 2] : D) = fr (1/2) := by unfold fr; rw [show (1/2 : Rat).num = 1 by decide +kernel, show (1/2 : Rat).den = 2 by decide +kernel]; rfl
  have z1 : SzF 8 (1/2 : Rat) := szF_of (x := 1) (y := 2) (by decide) (by decide +kernel) (sm_lit (by decide)) (sm_lit (by decide))
  have e2 := fnE (m := n + 8) K.rim.edge rfl (l_edge0 K.rim (n + 3) sp (by decide) hk (by omega))
  have e3 := fnE (m := n + 8) K.rim.by_ rfl (l_by K.rim.toKnF K.rim.by_ (n + 4) sE (z1.mono (by decide)) (by decide))
  rw [← f1] at e3
  have s3 := szP_smul2 sE z1
  have e4 := fnE (m := n + 8) K.rim.on rfl (l_on K.rim.toKnF K.rim.on (n + 4) (sk.mono (show 6 ≤ 21 by decide)) s3 (by decide))
  have s4 := szP_add2 sk s3
  generalize add2 (cn P k) (smul (1/2) (sub2 (cn P (k + 1)) (cn P k))) = half at *
  obtain ⟨w, w0, w5, hb⟩ := hP.sz
  have e5 := fnE (m := n + 8) K.md.mid rfl (l_middle K.md (n + 3) hb w0 (by unfold Sm; omega) (by decide) (by omega) hP.shoe)
  have sm := hP.mid
  have e6 := fnE (m := n + 8) K.rim.way rfl (l_way K.rim.toKnW (n + 4) (sk.mono (by decide)) sm (by decide))
  have s6 := szP_sub2 sm sk
  obtain ⟨y, u2, e7, hy, h2⟩ := c_any K.pl.toKnU (n + 6) (xs := [.tuple [.int 1, .int 2], .tuple [.int 1, .int 9], .tuple [.int 1, .int 1], .tuple [.int (-1), .int 5]]) h1 (by simp) (by simp)
  have e7 := ufnE (m := n + 8) K.pl.any rfl e7
  have lit : ∀ (a : Int) (b : Nat) (q : Rat), q.num = a → q.den = b → (.tuple [.int a, .int (b : Int)] : D) = fr q := fun a b q h1 h2 => by unfold fr; rw [h1, h2]
  obtain ⟨t, rfl, st⟩ : ∃ q : Rat, y = fr q ∧ SzF 8 q := by
    simp only [List.mem_cons, List.not_mem_nil, or_false] at hy
    rcases hy with rfl | rfl | rfl | rfl
    · exact ⟨1/2, lit 1 2 _ (by decide +kernel) (by decide +kernel), z1⟩
    · exact ⟨1/9, lit 1 9 _ (by decide +kernel) (by decide +kernel), szF_of (x := 1) (y := 9) (by decide) (by decide +kernel) (sm_lit (by decide)) (sm_lit (by decide))⟩
    · exact ⟨1, lit 1 1 _ (by decide +kernel) (by decide +kernel), szF_of (x := 1) (y := 1) (by decide) (by decide +kernel) (sm_lit (by decide)) (sm_lit (by decide))⟩
    · exact ⟨-1/5, lit (-1) 5 _ (by decide +kernel) (by decide +kernel), szF_of (x := -1) (y := 5) (by decide) (by decide +kernel) (sm_lit (by decide)) (sm_lit (by decide))⟩
  have e8 := fnE (m := n + 8) K.rim.by_ rfl (l_by K.rim.toKnF K.rim.by_ (n + 4) s6 (st.mono (by decide)) (by decide))
  have s8 := szP_smul2 s6 st
  have e9 := fnE (m := n + 8) K.rim.on rfl (l_on K.rim.toKnF K.rim.on (n + 4) (sk.mono (show 6 ≤ 45 by decide)) s8 (by decide))
  have s9 := szP_add2 sk s8
  generalize add2 (cn P k) (smul t (sub2 (midQ P) (cn P k))) = inw at *
  obtain ⟨od, u3, e10, ho, h3'⟩ := l05_odd K (n + 5) (sk.mono (by decide)) h2
  have e10 := ufnE (m := n + 8) K.odd rfl e10
  -- parts of the section
  have oP : ∀ e ∈ P.map pt, Ok1 e := fun e he => by
    obtain ⟨p, hp, rfl⟩ := List.mem_map.mp he
    exact ok_pt ((sp p hp).mono (by decide))
  have oC : ∀ lo hi, ∀ e ∈ cut (P.map pt) lo hi, Ok1 e := fun lo hi e he => oP e (cut_mem he)
  have lC : ∀ lo hi, (cut (P.map pt) lo hi).length ≤ 8 := fun lo hi => by
    have := cut_len (P.map pt) lo hi
    rw [List.length_map] at this
    omega
  have hsz : ∀ m : Nat, m ≤ 100 → sizeOk m = true := fun m hm => decide_eq_true (by omega)
  have bt : ∀ {a b : List D}, a.length ≤ 40 → b.length ≤ 40 → binV .add (.tuple a) (.tuple b) = some (.tuple (a ++ b)) := fun ha hb => by
    simp only [binV]
    rw [if_pos (hsz _ (by omega))]
  obtain ⟨x0, t0, hcons⟩ : ∃ x0 t0, P.map pt = x0 :: t0 := by
    cases hPc : P with
    | nil => exact absurd hPc hne
    | cons f t => exact ⟨_, _, rfl⟩
  have ot : ∀ e ∈ t0.reverse, Ok1 e := fun e he => oP e (by rw [hcons]; exact List.mem_cons_of_mem _ (List.mem_reverse.mp he))
  have lt0 : t0.length ≤ 8 := by
    have := congrArg List.length hcons
    rw [List.length_map, List.length_cons] at this
    omega
  have lP : (P.map pt).length ≤ 8 := by rw [List.length_map]; exact hl
  have c1 := cut_one (xs := P.map pt) (k := k) (by rw [List.length_map]; exact hk)
  have mt : binV .mul (.tuple (cut (P.map pt) (some (k : Int)) (some ((k : Int) + 1)))) (.int 2) = some (.tuple (List.replicate 2 (cut (P.map pt) (some (k : Int)) (some ((k : Int) + 1)))).flatten) := by
    simp only [binV]
    rw [if_pos (decide_eq_true (by omega))]
    rfl
  have sl : ∀ (env : Env) (u : U) (lo hi : Eo) (a b : Option Int), getV env 1 = some (.tuple (P.map pt)) → evalEo (ctxN G (n + 8)) lo env u = some (a, u) → evalEo (ctxN G (n + 8)) hi env u = some (b, u) → evalE (ctxN G (n + 8)) (.sli (.var 1) lo hi) env u = some (.tuple (cut (P.map pt) a b), u) := fun env u lo hi a b h0 h1 h2 => xe_sli (xe_var h0) h1 h2 rfl
  have ap : ∀ {a b : List D}, (∀ e ∈ a, Ok1 e) → (∀ e ∈ b, Ok1 e) → ∀ e ∈ a ++ b, Ok1 e := fun h1 h2 e he => by
    rcases List.mem_append.mp he with h | h
    · exact h1 e h
    · exact h2 e h
  have o1 : ∀ {d : D}, Ok1 d → ∀ e ∈ [d], Ok1 e := fun h e he => by rw [List.mem_singleton.mp he]; exact h
  have l40 : ∀ lo hi, (cut (P.map pt) lo hi).length ≤ 8 := lC
  have kE : ∀ (s6 s7 : Slot) (u : U), evalEo (ctxN G (n + 8)) (.yes (.var 2)) [.no, .imm (.tuple (P.map pt)), .imm (.int (k : Int)), .imm (.int (P.length : Int)), .imm (pt half), .imm (pt inw), s6, s7] u = some (some (k : Int), u) := fun s6 s7 u => xo_yes (xe_var rfl)
  have k1E : ∀ (s6 s7 : Slot) (u : U), evalEo (ctxN G (n + 8)) (.yes (.bin .add (.var 2) (.lit (.int 1)))) [.no, .imm (.tuple (P.map pt)), .imm (.int (k : Int)), .imm (.int (P.length : Int)), .imm (pt half), .imm (pt inw), s6, s7] u = some (some ((k : Int) + 1), u) := fun s6 s7 u => xo_yes (xe_bin (xe_var rfl) xe_int rfl)
  have q1 : ∀ (s6 s7 : Slot) (u : U), evalE (ctxN G (n + 8)) (.bin .add (.sli (.var 1) (.yes (.var 2)) .no) (.sli (.var 1) .no (.yes (.var 2)))) [.no, .imm (.tuple (P.map pt)), .imm (.int (k : Int)), .imm (.int (P.length : Int)), .imm (pt half), .imm (pt inw), s6, s7] u = some (.tuple ((cut (P.map pt) (some (k : Int)) none) ++ (cut (P.map pt) none (some (k : Int)))), u) := fun s6 s7 u =>
    xe_bin (sl _ _ _ _ _ _ rfl (kE s6 s7 u) xo_no) (sl _ _ _ _ _ _ rfl xo_no (kE s6 s7 u)) (bt (by have := l40 (some (k : Int)) none; omega) (by have := l40 none (some (k : Int)); omega))
  have q3 : ∀ (s6 s7 : Slot) (u : U), evalE (ctxN G (n + 8)) (.bin .add (.sli (.var 1) .no (.yes (.lit (.int 1)))) (.rvt (.var 1))) [.no, .imm (.tuple (P.map pt)), .imm (.int (k : Int)), .imm (.int (P.length : Int)), .imm (pt half), .imm (pt inw), s6, s7] u = some (.tuple ((cut (P.map pt) none (some 1)) ++ t0.reverse), u) := fun s6 s7 u =>
    xe_bin (sl _ _ _ _ _ _ rfl xo_no xo_int) (xe_rvt (x := x0) (xs := t0) (by rw [← hcons]; exact xe_var rfl)) (bt (by have := l40 none (some 1); omega) (by rw [List.length_reverse]; omega))
  have mid : ∀ (s6 s7 : Slot) (u u' : U) (lo hi : Eo) (a b : Option Int) (e : E) (ds : List D), ds.length ≤ 16 → evalEo (ctxN G (n + 8)) lo [.no, .imm (.tuple (P.map pt)), .imm (.int (k : Int)), .imm (.int (P.length : Int)), .imm (pt half), .imm (pt inw), s6, s7] u = some (a, u) → evalEo (ctxN G (n + 8)) hi [.no, .imm (.tuple (P.map pt)), .imm (.int (k : Int)), .imm (.int (P.length : Int)), .imm (pt half), .imm (pt inw), s6, s7] u' = some (b, u') → evalE (ctxN G (n + 8)) e [.no, .imm (.tuple (P.map pt)), .imm (.int (k : Int)), .imm (.int (P.length : Int)), .imm (pt half), .imm (pt inw), s6, s7] u = some (.tuple ds, u') →
      evalE (ctxN G (n + 8)) (.bin .add (.bin .add (.sli (.var 1) .no lo) e) (.sli (.var 1) hi .no)) [.no, .imm (.tuple (P.map pt)), .imm (.int (k : Int)), .imm (.int (P.length : Int)), .imm (pt half), .imm (pt inw), s6, s7] u = some (.tuple ((cut (P.map pt) none a ++ ds) ++ cut (P.map pt) b none), u') := fun s6 s7 u u' lo hi a b e ds hds h1 h2 h3 =>
    xe_bin (xe_bin (sl _ _ _ _ _ _ rfl xo_no h1) h3 (bt (by have := l40 none a; omega) (by omega))) (sl _ _ _ _ _ _ rfl h2 xo_no) (bt (by rw [List.length_append]; have := l40 none a; omega) (by have := l40 b none; omega))
  have oM : ∀ (a b : Option Int) (ds : List D), ds.length ≤ 16 → (∀ e ∈ ds, Ok1 e) → Gs (.tuple ((cut (P.map pt) none a ++ ds) ++ cut (P.map pt) b none)) := fun a b ds hd h => gs_tuple (by simp only [List.length_append]; have := l40 none a; have := l40 b none; omega) (ap (ap (oC none a) h) (oC b none))
  have q4 : ∀ (s6 s7 : Slot) (u : U), _ := fun s6 s7 u => mid s6 s7 u u _ _ _ _ _ [pt half] (by simp) (k1E s6 s7 u) (k1E s6 s7 u) (xe_tup (xes_cons (xe_var (i := 4) rfl) xes_nil) (by simp))
  have q5 : ∀ (s6 s7 : Slot) (u : U), _ := fun s6 s7 u => mid s6 s7 u u _ _ _ _ _ (List.replicate 2 (cut (P.map pt) (some (k : Int)) (some ((k : Int) + 1)))).flatten (by simp [c1]) (kE s6 s7 u) (k1E s6 s7 u) (xe_bin (sl _ _ _ _ _ _ rfl (kE s6 s7 u) (k1E s6 s7 u)) xe_int mt)
  have q6 : ∀ (s6 s7 : Slot) (u : U), _ := fun s6 s7 u => mid s6 s7 u u _ _ _ _ _ [pt inw] (by simp) (kE s6 s7 u) (k1E s6 s7 u) (xe_tup (xes_cons (xe_var (i := 5) rfl) xes_nil) (by simp))
  have q7 : ∀ (s6 s7 : Slot), _ := fun s6 s7 => mid s6 s7 u2 u3 _ _ _ _ _ [od] (by simp) (kE s6 s7 u2) (k1E s6 s7 u3) (xe_tup (xes_cons (xe_ucall (xes_cons (xe_idx (xe_var (i := 1) rfl) (xe_var (i := 2) rfl) vk) xes_nil) e10) xes_nil) (by simp))
  have o5 : ∀ e ∈ (List.replicate 2 (cut (P.map pt) (some (k : Int)) (some ((k : Int) + 1)))).flatten, Ok1 e := fun e he => by
    obtain ⟨l, hl, he⟩ := List.mem_flatten.mp he
    rw [List.eq_of_mem_replicate hl] at he
    exact oC _ _ e he
  have q14 : ∀ (s6 s7 : Slot) (u : U), evalE (ctxN G (n + 8)) (.bin .add (.sli (.var 1) .no (.yes (.var 2))) (.sli (.var 1) (.yes (.bin .add (.var 2) (.lit (.int 1)))) .no)) [.no, .imm (.tuple (P.map pt)), .imm (.int (k : Int)), .imm (.int (P.length : Int)), .imm (pt half), .imm (pt inw), s6, s7] u = some (.tuple ((cut (P.map pt) none (some (k : Int))) ++ (cut (P.map pt) (some ((k : Int) + 1)) none)), u) := fun s6 s7 u =>
    xe_bin (sl _ _ _ _ _ _ rfl xo_no (kE s6 s7 u)) (sl _ _ _ _ _ _ rfl (k1E s6 s7 u) xo_no) (bt (by have := l40 none (some (k : Int)); omega) (by have := l40 (some ((k : Int) + 1)) none; omega))
  have hmk : idxV (.tuple (P.map pt)) (.int (((k + 2) % P.length : Nat) : Int)) = some (pt (cn P ((k + 2) % P.length))) := cn_at (Nat.mod_lt _ (by omega))
  have q17 : ∀ (s6 s7 : Slot) (u : U), evalE (ctxN G (n + 8)) (.idx (.var 1) (.bin .mod (.bi .int (.cons (.bin .add (.var 2) (.lit (.int 2))) .nil)) (.var 3))) [.no, .imm (.tuple (P.map pt)), .imm (.int (k : Int)), .imm (.int (P.length : Int)), .imm (pt half), .imm (pt inw), s6, s7] u = some (pt (cn P ((k + 2) % P.length)), u) := fun s6 s7 u => by
    have b2 : binV .mod (.int ((k : Int) + 2)) (.int (P.length : Int)) = some (.int (((k + 2) % P.length : Nat) : Int)) := by
      have hf : ((k : Int) + 2).fmod (P.length : Int) = (((k + 2) % P.length : Nat) : Int) := by
        rw [Int.fmod_eq_emod_of_nonneg _ (by omega)]; rfl
      simp [binV, hf, hne]
    exact xe_idx (xe_var rfl) (xe_bin (xe_bi (xes_cons (xe_bin (x := .int (k : Int)) (y := .int 2) (d := .int ((k : Int) + 2)) (xe_var rfl) xe_int rfl) xes_nil) (d := .int ((k : Int) + 2)) (by rfl)) (xe_var rfl) b2) hmk
  have q15 : ∀ (s6 : Slot) (u : U), evalE (ctxN G (n + 8)) (.comp (.sli (.var 7) .no (.yes (.lit (.int 2)))) (.one 7) (.seq (.var 1)) .no [7]) [.no, .imm (.tuple (P.map pt)), .imm (.int (k : Int)), .imm (.int (P.length : Int)), .imm (pt half), .imm (pt inw), s6, .no] u = some (.list (P.map fun p => .tuple [.int (X p), .int (Y p)]), u) := fun s6 u =>
    xe_comp_map (g := pt) (xi_seq (xe_var rfl) rfl) (by omega) fun p hp => ⟨_, rfl, xe_sli (x := pt p) (xe_var rfl) xo_no xo_int rfl⟩
  have bl : ∀ {a b : List D}, a.length ≤ 40 → b.length ≤ 40 → binV .add (.list a) (.list b) = some (.list (a ++ b)) := fun ha hb => by
    simp only [binV]
    rw [if_pos (hsz _ (by omega))]
  have pk := sp _ (cn_mem hne k)
  have o2 : ∀ {d e : D}, Ok1 d → Ok1 e → ∀ x ∈ [d, e], Ok1 x := fun h1 h2 x hx => by
    simp only [List.mem_cons, List.not_mem_nil, or_false] at hx
    rcases hx with rfl | rfl <;> assumption
  have oXY : ∀ e ∈ P.map (fun p => (.tuple [.int (X p), .int (Y p)] : D)), Ok1 e := fun e he => by
    obtain ⟨p, hp, rfl⟩ := List.mem_map.mp he
    have s := (sp p hp).mono (show 6 ≤ 60 by decide)
    exact ok_ints (xs := [X p, Y p]) (by simp) fun x hx => by
      simp only [List.mem_cons, List.not_mem_nil, or_false] at hx
      rcases hx with rfl | rfl
      · exact s.x
      · exact s.y
  have oPP : Ok1 (.tuple (P.map pt)) := by
    have lay := lay_pts
    refine ⟨fun ds e => ?_, ?_, ?_⟩
    · cases e
      refine ⟨by omega, fun e he => ⟨(oP e he).2.1, (oP e he).2.2, fun i q => ?_⟩⟩
      obtain ⟨p, hp, rfl⟩ := List.mem_map.mp he
      cases q
    · simp only [PyData.canLay0]; exact (lay P).1
    · simp only [PyData.depth]
      have := (lay P).2
      omega
  refine ⟨((((([.tuple ((cut (P.map pt) (some (k : Int)) none) ++ (cut (P.map pt) none (some (k : Int)))), .tuple (P.map pt).reverse, .tuple ((cut (P.map pt) none (some 1)) ++ t0.reverse)] ++ [.tuple ((cut (P.map pt) none (some ((k : Int) + 1)) ++ [pt half]) ++ cut (P.map pt) (some ((k : Int) + 1)) none)]) ++ [.tuple ((cut (P.map pt) none (some (k : Int)) ++ (List.replicate 2 (cut (P.map pt) (some (k : Int)) (some ((k : Int) + 1)))).flatten) ++ cut (P.map pt) (some ((k : Int) + 1)) none)]) ++ [.tuple ((cut (P.map pt) none (some (k : Int)) ++ [pt inw]) ++ cut (P.map pt) (some ((k : Int) + 1)) none)]) ++ [.tuple ((cut (P.map pt) none (some (k : Int)) ++ [od]) ++ cut (P.map pt) (some ((k : Int) + 1)) none)]) ++ [.list (P.map pt), .tuple (cut (P.map pt) none (some 1)), .tuple (cut (P.map pt) none (some 2)), pt (cn P k), .tuple [.tuple (P.map pt)], .tuple (P.map pt ++ P.map pt), .tuple ((cut (P.map pt) none (some (k : Int))) ++ (cut (P.map pt) (some ((k : Int) + 1)) none))]) ++ [.tuple (P.map fun p => .tuple [.int (X p), .int (Y p)]), .tuple (cut (P.map pt) none (some 2)).reverse, .tuple [pt (cn P k), pt (cn P ((k + 2) % P.length))]], u3, ?_, by simp, fun d hd => ?_, h3'⟩
  · rw [callU_eq K.bent]
    unfold p05_bent
    refine runF_of rfl ?_
    simp only [mkEnv, Bool.false_eq_true, if_false, if_true, List.map_cons, List.map_nil, List.nil_append, List.cons_append, Nat.reduceSub, List.replicate_succ, List.replicate_zero]
    refine xss_par2 (x := .int (k : Int)) (y := .int (P.length : Int)) (xe_ucall (xes_cons (xe_bi (xes_cons (xe_var rfl) xes_nil) len) xes_nil) e1) (xe_bi (xes_cons (xe_var rfl) xes_nil) len) rfl rfl ?_
    refine xss_set (d := pt half) (u1 := u1) (xe_call (xes_cons (xe_idx (x := .tuple (P.map pt)) (y := .int (k : Int)) (xe_var rfl) (xe_var rfl) vk) (xes_cons (xe_call (xes_cons (xe_call (xes_cons (xe_var rfl) (xes_cons (xe_var rfl) xes_nil)) rfl e2) (xes_cons (xe_tup (xes_cons xe_int (xes_cons xe_int xes_nil)) (by simp)) xes_nil)) rfl e3) xes_nil)) rfl e4) rfl ?_
    refine xss_set (d := pt inw) (u1 := u2) (xe_call (xes_cons (xe_idx (x := .tuple (P.map pt)) (y := .int (k : Int)) (xe_var rfl) (xe_var rfl) vk) (xes_cons (xe_call (xes_cons (xe_call (xes_cons (xe_idx (x := .tuple (P.map pt)) (y := .int (k : Int)) (xe_var rfl) (xe_var rfl) vk) (xes_cons (xe_call (xes_cons (xe_var rfl) xes_nil) rfl e5) xes_nil)) rfl e6) (xes_cons (xe_ucall (rs := [.list [.tuple [.int 1, .int 2], .tuple [.int 1, .int 9], .tuple [.int 1, .int 1], .tuple [.int (-1), .int 5]]]) (xes_cons (by walk_at "ev") xes_nil) e7) xes_nil)) rfl e8) xes_nil)) rfl e9) rfl ?_
    refine xss_setL2 (ds := [.tuple ((cut (P.map pt) (some (k : Int)) none) ++ (cut (P.map pt) none (some (k : Int)))), .tuple (P.map pt).reverse, .tuple ((cut (P.map pt) none (some 1)) ++ t0.reverse)]) (u1 := u2) (xe_lst (xes_cons (q1 _ _ _) (xes_cons (xe_rev_t (xe_var rfl)) (xes_cons (q3 _ _ _) xes_nil))) (by simp)) rfl rfl ?_
    refine xss_app2 (q4 _ _ _) rfl rfl (by simp) ?_
    refine xss_app2 (q5 _ _ _) rfl rfl (by simp) ?_
    refine xss_app2 (q6 _ _ _) rfl rfl (by simp) ?_
    refine xss_app2 (q7 _ _) rfl rfl (by simp) ?_
    refine xss_setL2 (ds := (((([.tuple ((cut (P.map pt) (some (k : Int)) none) ++ (cut (P.map pt) none (some (k : Int)))), .tuple (P.map pt).reverse, .tuple ((cut (P.map pt) none (some 1)) ++ t0.reverse)] ++ [.tuple ((cut (P.map pt) none (some ((k : Int) + 1)) ++ [pt half]) ++ cut (P.map pt) (some ((k : Int) + 1)) none)]) ++ [.tuple ((cut (P.map pt) none (some (k : Int)) ++ (List.replicate 2 (cut (P.map pt) (some (k : Int)) (some ((k : Int) + 1)))).flatten) ++ cut (P.map pt) (some ((k : Int) + 1)) none)]) ++ [.tuple ((cut (P.map pt) none (some (k : Int)) ++ [pt inw]) ++ cut (P.map pt) (some ((k : Int) + 1)) none)]) ++ [.tuple ((cut (P.map pt) none (some (k : Int)) ++ [od]) ++ cut (P.map pt) (some ((k : Int) + 1)) none)]) ++ [.list (P.map pt), .tuple (cut (P.map pt) none (some 1)), .tuple (cut (P.map pt) none (some 2)), pt (cn P k), .tuple [.tuple (P.map pt)], .tuple (P.map pt ++ P.map pt), .tuple ((cut (P.map pt) none (some (k : Int))) ++ (cut (P.map pt) (some ((k : Int) + 1)) none))]) (u1 := u3) (xe_bin (x := .list (((([.tuple ((cut (P.map pt) (some (k : Int)) none) ++ (cut (P.map pt) none (some (k : Int)))), .tuple (P.map pt).reverse, .tuple ((cut (P.map pt) none (some 1)) ++ t0.reverse)] ++ [.tuple ((cut (P.map pt) none (some ((k : Int) + 1)) ++ [pt half]) ++ cut (P.map pt) (some ((k : Int) + 1)) none)]) ++ [.tuple ((cut (P.map pt) none (some (k : Int)) ++ (List.replicate 2 (cut (P.map pt) (some (k : Int)) (some ((k : Int) + 1)))).flatten) ++ cut (P.map pt) (some ((k : Int) + 1)) none)]) ++ [.tuple ((cut (P.map pt) none (some (k : Int)) ++ [pt inw]) ++ cut (P.map pt) (some ((k : Int) + 1)) none)]) ++ [.tuple ((cut (P.map pt) none (some (k : Int)) ++ [od]) ++ cut (P.map pt) (some ((k : Int) + 1)) none)])) (y := .list [.list (P.map pt), .tuple (cut (P.map pt) none (some 1)), .tuple (cut (P.map pt) none (some 2)), pt (cn P k), .tuple [.tuple (P.map pt)], .tuple (P.map pt ++ P.map pt), .tuple ((cut (P.map pt) none (some (k : Int))) ++ (cut (P.map pt) (some ((k : Int) + 1)) none))]) (xe_var rfl) (xe_lst (xes_cons (xe_bi (xes_cons (xe_var rfl) xes_nil) rfl) (xes_cons (sl _ _ _ _ _ _ rfl xo_no xo_int) (xes_cons (sl _ _ _ _ _ _ rfl xo_no xo_int) (xes_cons (xe_idx (x := .tuple (P.map pt)) (y := .int (k : Int)) (xe_var rfl) (xe_var rfl) vk) (xes_cons (xe_tup (xes_cons (xe_var rfl) xes_nil) (by simp)) (xes_cons (xe_bin (x := .tuple (P.map pt)) (y := .tuple (P.map pt)) (xe_var rfl) (xe_var rfl) (bt (by omega) (by omega))) (xes_cons (q14 _ _ _) xes_nil))))))) (by simp)) (bl (by simp) (by simp))) rfl rfl ?_
    refine xss_ret (xe_bin (x := .list ((((([.tuple ((cut (P.map pt) (some (k : Int)) none) ++ (cut (P.map pt) none (some (k : Int)))), .tuple (P.map pt).reverse, .tuple ((cut (P.map pt) none (some 1)) ++ t0.reverse)] ++ [.tuple ((cut (P.map pt) none (some ((k : Int) + 1)) ++ [pt half]) ++ cut (P.map pt) (some ((k : Int) + 1)) none)]) ++ [.tuple ((cut (P.map pt) none (some (k : Int)) ++ (List.replicate 2 (cut (P.map pt) (some (k : Int)) (some ((k : Int) + 1)))).flatten) ++ cut (P.map pt) (some ((k : Int) + 1)) none)]) ++ [.tuple ((cut (P.map pt) none (some (k : Int)) ++ [pt inw]) ++ cut (P.map pt) (some ((k : Int) + 1)) none)]) ++ [.tuple ((cut (P.map pt) none (some (k : Int)) ++ [od]) ++ cut (P.map pt) (some ((k : Int) + 1)) none)]) ++ [.list (P.map pt), .tuple (cut (P.map pt) none (some 1)), .tuple (cut (P.map pt) none (some 2)), pt (cn P k), .tuple [.tuple (P.map pt)], .tuple (P.map pt ++ P.map pt), .tuple ((cut (P.map pt) none (some (k : Int))) ++ (cut (P.map pt) (some ((k : Int) + 1)) none))])) (y := .list [.tuple (P.map fun p => .tuple [.int (X p), .int (Y p)]), .tuple (cut (P.map pt) none (some 2)).reverse, .tuple [pt (cn P k), pt (cn P ((k + 2) % P.length))]]) (xe_var rfl) (xe_lst (xes_cons (xe_bi (xes_cons (q15 _ _) xes_nil) rfl) (xes_cons (xe_rev_t (sl _ _ _ _ _ _ rfl xo_no xo_int)) (xes_cons (xe_tup (xes_cons (xe_idx (x := .tuple (P.map pt)) (y := .int (k : Int)) (xe_var rfl) (xe_var rfl) vk) (xes_cons (q17 _ _ _) xes_nil)) (by simp)) xes_nil))) (by simp)) (bl (by simp) (by simp)))
  · simp only [List.mem_append, List.mem_cons, List.not_mem_nil, or_false, false_or] at hd
    rcases hd with ((((((h | h | h) | h) | h) | h) | h) | h | h | h | h | h | h | h) | h | h | h <;> rw [h]
    · exact gs_tuple (by rw [List.length_append]; have := l40 (some (k : Int)) none; have := l40 none (some (k : Int)); omega) (ap (oC _ _) (oC _ _))
    · exact gs_tuple (by rw [List.length_reverse]; omega) fun e he => oP e (List.mem_reverse.mp he)
    · exact gs_tuple (by rw [List.length_append, List.length_reverse]; have := l40 none (some 1); omega) (ap (oC _ _) ot)
    · exact oM _ _ _ (by simp) (o1 (ok_pt (s4.mono (by decide))))
    · exact oM _ _ _ (by simp [c1]) o5
    · exact oM _ _ _ (by simp) (o1 (ok_pt (s9.mono (by decide))))
    · exact oM _ _ _ (by simp) (o1 ho)
    · exact gs_no fun ds => by simp
    · exact gs_tuple (by have := l40 none (some 1); omega) (oC _ _)
    · exact gs_tuple (by have := l40 none (some 2); omega) (oC _ _)
    · exact gs_tuple (ds := [.int (X (cn P k)), .int (Y (cn P k)), .int (W (cn P k))]) (by simp) fun e he => by
        simp only [List.mem_cons, List.not_mem_nil, or_false] at he
        rcases he with rfl | rfl | rfl
        · exact ok_int (pk.x.mono (by decide))
        · exact ok_int (pk.y.mono (by decide))
        · exact ok_int (pk.w.mono (by decide))
    · exact gs_tuple (by simp) (o1 oPP)
    · exact gs_tuple (by rw [List.length_append]; omega) (ap oP oP)
    · exact gs_tuple (by rw [List.length_append]; have := l40 none (some (k : Int)); have := l40 (some ((k : Int) + 1)) none; omega) (ap (oC _ _) (oC _ _))
    · exact gs_tuple (by rw [List.length_map]; omega) oXY
    · exact gs_tuple (by rw [List.length_reverse]; have := l40 none (some 2); omega) fun e he => oC _ _ e (List.mem_reverse.mp he)
    · exact gs_tuple (by simp) (o2 (ok_pt (pk.mono (by decide))) (ok_pt ((sp _ (cn_mem hne _)).mono (by decide))))
theorem o5_lot (n : Nat) {d : D} {b : Bool} (h : callU G (n + 9) "is_shape" [d] [] = some (.bool b, [])) : callU G (n + 11) "is_polygon" [d] [] = some (.bool b, []) := by
  have e1 := fnE (m := n + 9) K.kp.is_shape rfl h
  have e2 : callU G (n + 10) "is_lot" [d] [] = some (.bool b, []) := by
    have e1 := fnE (m := n + 9) K.kp.is_shape rfl h
    rw [callU_eq K.is_lot]
    unfold p_is_lot
    walk_at "run"
  have e2 := fnE (m := n + 10) K.is_lot rfl e2
  rw [callU_eq K.is_polygon]
  unfold p05_is_polygon
  walk_at "run"
/-- whether a polygon is a section -/
def secB (d : D) (b : Bool) : Bool := match d with | .tuple ds => b && decide (2 < ds.length) && decide (ds.length < 9) | _ => false
theorem o5_section (n : Nat) {d : D} {b : Bool} (h : callU G (n + 9) "is_shape" [d] [] = some (.bool b, [])) (hb : b = true → ∃ l : List Q2, d = .tuple (l.map pt)) : callU G (n + 11) "is_section" [d] [] = some (.bool (secB d b), []) := by
  have e1 := fnE (m := n + 9) K.kp.is_shape rfl h
  have hm : (ctxN G (n + 9)).glob "MOST_EDGES" = some (.int 8) := K.most
  have e2 : callU G (n + 10) "is_plate" [d] [] = some (.bool (secB d b), []) := by
    rw [callU_eq K.is_plate]
    cases b with
    | false =>
      have : secB d false = false := by cases d <;> rfl
      rw [this]
      exact runF_of rfl (run_last (xs_ret (xe_and_f (xe_call (xes_cons (xe_var rfl) xes_nil) rfl e1))))
    | true =>
      obtain ⟨l, rfl⟩ := hb rfl
      by_cases h3 : 3 ≤ l.length
      · have h3' : (3 : Int) ≤ (l.length : Int) := by omega
        have a : 2 < l.length := by omega
        by_cases h8 : l.length ≤ 8
        · have h8' : (l.length : Int) ≤ 8 := by omega
          have b : l.length < 9 := by omega
          simp [runF, p_is_plate, mkEnv, ctx_fn K.kp.is_shape rfl, h, hm, h3', h8', secB, a, b]
        · have h8' : ¬ (l.length : Int) ≤ 8 := by omega
          have b : ¬ l.length < 9 := by omega
          simp [runF, p_is_plate, mkEnv, ctx_fn K.kp.is_shape rfl, h, hm, h3', h8', secB, a, b]
      · have h3' : ¬ (3 : Int) ≤ (l.length : Int) := by omega
        have a : ¬ 2 < l.length := by omega
        simp [runF, p_is_plate, mkEnv, ctx_fn K.kp.is_shape rfl, h, hm, h3', secB, a]
  have e2 := fnE (m := n + 10) K.is_plate rfl e2
  rw [callU_eq K.is_section]
  unfold p05_is_section
  walk_at "run"
omit K in
theorem compL_drawB {α : Type} {g : α → D} {I : α → Prop} {step : D → U → Option (Option D × U)} : ∀ {ds : List D} {u : U}, (∀ d ∈ ds, ∀ u, Pot u → ∃ q u', step d u = some (some (g q), u') ∧ I q ∧ Pot u') → Pot u → ∃ (L : List α) (u' : U), compL step ds u = some (L.map g, u') ∧ L.length = ds.length ∧ (∀ q ∈ L, I q) ∧ Pot u'
  | [], u, _, hu => ⟨[], u, rfl, rfl, fun q hq => (by cases hq), hu⟩
  | d :: ds, u, h, hu => by
    obtain ⟨q, u1, e1, s1, h1⟩ := h d List.mem_cons_self u hu
    obtain ⟨L, u2, e2, l2, s2, h2⟩ := compL_drawB (ds := ds) (fun d hd => h d (List.mem_cons_of_mem _ hd)) h1
    refine ⟨q :: L, u2, ?_, by simp [l2], fun x hx => ?_, h2⟩
    · unfold compL
      rw [e1]
      show (compL step ds u1).bind _ = _
      rw [e2]
      rfl
    · rcases List.mem_cons.mp hx with rfl | hx
      · exact s1
      · exact s2 x hx
theorem l05_row (n : Nat) (d4 : Slot) {u : U} (hu : Pot u) : ∃ (L : List Q2) (u' : U), evalE (ctxN G (n + 8)) (.comp (.call "_law_spot" (.cons (.ucall "_law_num" (.cons (.lit (.int 3)) .nil)) (.cons (.ucall "_law_num" (.cons (.lit (.int 3)) .nil)) (.cons (.lit (.int 1)) .nil))) [0, 1, 2]) (.one 3) (.range1 (.ucall "_law_pull" (.cons (.lit (.int 10)) .nil))) .no [3]) [.no, .imm (.tuple (P.map pt)), .no, .no, d4, .no, .no, .no, .no, .no, .no] u = some (.list (L.map pt), u') ∧ L.length ≤ 10 ∧ (∀ q ∈ L, SzP 60 q) ∧ Pot u' := by
  obtain ⟨i, u1, e1, i1, i2, h1⟩ := c_pull K.pl.toKnU (n + 7) hu (m := 10) (by decide) (sm_lit (by decide))
  have e1 := ufnE (m := n + 8) K.pl.pull rfl e1
  obtain ⟨k, rfl⟩ := Int.eq_ofNat_of_zero_le i1
  have hr := rng_nat k
  obtain ⟨L, u2, e2, l2, s2, h2⟩ := compL_drawB (g := pt) (I := SzP 60) (step := fun d u => (bindT (.one 3) d (wipe [.no, .imm (.tuple (P.map pt)), .no, .no, d4, .no, .no, .no, .no, .no, .no] [3])).bind fun env' => (evalC (ctxN G (n + 8)) .no env' u).bind fun rc => if rc.1 = true then (evalE (ctxN G (n + 8)) (.call "_law_spot" (.cons (.ucall "_law_num" (.cons (.lit (.int 3)) .nil)) (.cons (.ucall "_law_num" (.cons (.lit (.int 3)) .nil)) (.cons (.lit (.int 1)) .nil))) [0, 1, 2]) env' rc.2).bind fun re => some (some re.1, re.2) else some (none, rc.2)) (ds := rangeL 0 (k : Int)) (u := u1) (fun d hd u hu => by
    obtain ⟨x, v1, a1, x1, x2, k1⟩ := c_num K.pl.toKnU (n + 6) hu (h := 3) (by decide) (sm_lit (by decide))
    obtain ⟨y, v2, a2, y1, y2, k2⟩ := c_num K.pl.toKnU (n + 6) k1 (h := 3) (by decide) (sm_lit (by decide))
    have a1 := ufnE (m := n + 8) K.pl.num rfl a1
    have a2 := ufnE (m := n + 8) K.pl.num rfl a2
    have sx : Sm 6 x := by unfold Sm; omega
    have sy : Sm 6 y := by unfold Sm; omega
    have ex : (x : Rat) = (x : Rat) * ((1 : Int) : Rat) := by rw [show ((1 : Int) : Rat) = 1 from rfl, Rat.mul_one]
    have ey : (y : Rat) = (y : Rat) * ((1 : Int) : Rat) := by rw [show ((1 : Int) : Rat) = 1 from rfl, Rat.mul_one]
    have a4 := fnE (m := n + 8) K.md.spot rfl (l_spot K.md.toKnF (n + 5) (p := ((x : Rat), (y : Rat))) (by decide : (0 : Int) < 1) ex ey sx sy ((sm_lit (by decide) : Sm 1 (1 : Int)).mono (by decide)) (by decide))
    refine ⟨((x : Rat), (y : Rat)), v2, ?_, (szP_of (p := ((x : Rat), (y : Rat))) (by decide : (0 : Int) < 1) ex ey sx sy ((sm_lit (by decide) : Sm 1 (1 : Int)).mono (by decide))).mono (by decide), k2⟩
    rw [show bindT (.one 3) d (wipe [.no, .imm (.tuple (P.map pt)), .no, .no, d4, .no, .no, .no, .no, .no, .no] [3]) = some [.no, .imm (.tuple (P.map pt)), .no, .imm d, d4, .no, .no, .no, .no, .no, .no] from rfl, Option.bind_some, xc_no, Option.bind_some]
    show (if true = true then (evalE (ctxN G (n + 8)) _ _ u).bind _ else _) = _
    rw [if_pos rfl]
    rw [xe_call (C := ctxN G (n + 8)) (rs := [.int x, .int y, .int 1]) (xes_cons (xe_ucall (xes_cons xe_int xes_nil) a1) (xes_cons (xe_ucall (xes_cons xe_int xes_nil) a2) (xes_cons xe_int xes_nil))) rfl a4]
    rfl) h1
  have hlen : (rangeL 0 (k : Int)).length = k := by rw [hr]; simp
  refine ⟨L, u2, eval_comp (u1 := u1) (xi_range1 (xe_ucall (xes_cons xe_int xes_nil) e1) (intOk_nat _ (by omega))) (by omega) e2, by omega, s2, h2⟩
theorem l05_rows (n : Nat) {u : U} (hu : Pot u) : ∃ (R : List (List Q2)) (u' : U), evalE (ctxN G (n + 8)) (.comp (.bi .tuple (.cons (.comp (.call "_law_spot" (.cons (.ucall "_law_num" (.cons (.lit (.int 3)) .nil)) (.cons (.ucall "_law_num" (.cons (.lit (.int 3)) .nil)) (.cons (.lit (.int 1)) .nil))) [0, 1, 2]) (.one 3) (.range1 (.ucall "_law_pull" (.cons (.lit (.int 10)) .nil))) .no [3]) .nil)) (.one 4) (.range1 (.lit (.int 3))) .no [4]) [.no, .imm (.tuple (P.map pt)), .no, .no, .no, .no, .no, .no, .no, .no, .no] u = some (.list (R.map fun L => .tuple (L.map pt)), u') ∧ R.length = 3 ∧ (∀ L ∈ R, L.length ≤ 10 ∧ ∀ q ∈ L, SzP 60 q) ∧ Pot u' := by
  obtain ⟨R, u2, e2, l2, s2, h2⟩ := compL_drawB (g := fun L : List Q2 => (PyData.tuple (L.map pt))) (I := fun L => L.length ≤ 10 ∧ ∀ q ∈ L, SzP 60 q) (step := fun d u => (bindT (.one 4) d (wipe [.no, .imm (.tuple (P.map pt)), .no, .no, .no, .no, .no, .no, .no, .no, .no] [4])).bind fun env' => (evalC (ctxN G (n + 8)) .no env' u).bind fun rc => if rc.1 = true then (evalE (ctxN G (n + 8)) (.bi .tuple (.cons (.comp (.call "_law_spot" (.cons (.ucall "_law_num" (.cons (.lit (.int 3)) .nil)) (.cons (.ucall "_law_num" (.cons (.lit (.int 3)) .nil)) (.cons (.lit (.int 1)) .nil))) [0, 1, 2]) (.one 3) (.range1 (.ucall "_law_pull" (.cons (.lit (.int 10)) .nil))) .no [3]) .nil)) env' rc.2).bind fun re => some (some re.1, re.2) else some (none, rc.2)) (ds := rangeL 0 3) (u := u) (fun d hd u hu => by
    obtain ⟨L, u', e, l1, s1, h1⟩ := l05_row K (P := P) n (.imm d) hu
    refine ⟨L, u', ?_, ⟨l1, s1⟩, h1⟩
    rw [show bindT (.one 4) d (wipe [.no, .imm (.tuple (P.map pt)), .no, .no, .no, .no, .no, .no, .no, .no, .no] [4]) = some [.no, .imm (.tuple (P.map pt)), .no, .no, .imm d, .no, .no, .no, .no, .no, .no] from rfl, Option.bind_some, xc_no, Option.bind_some]
    show (if true = true then (evalE (ctxN G (n + 8)) _ _ u).bind _ else _) = _
    rw [if_pos rfl]
    rw [xe_bi (C := ctxN G (n + 8)) (b := .tuple) (rs := [.list (L.map pt)]) (d := .tuple (L.map pt)) (xes_cons e xes_nil) rfl]
    rfl) hu
  exact ⟨R, u2, eval_comp (u1 := u) (xi_range1 xe_int (by decide)) (by decide) e2, l2, s2, h2⟩
end
end Pl

/-! Plain05b: whole sections and polygons: a round. -/
namespace Pl
open PySem (PyData Str)
--MB
local macro_rules | `(tactic| walk_at "shc") => `(tactic| first
  | with_reducible assumption
  | with_reducible exact shcs_nil
  | with_reducible exact shc_bool _
  | with_reducible exact shc_none
  | ((with_reducible refine' shcs_cons ?h ?k); (case h => walk_at "shc"); (case k => walk_at "shc"))
  | ((with_reducible refine' shc_tupL ?h); (case h => walk_at "shc"))
  | ((with_reducible refine' shc_lstL ?h); (case h => walk_at "shc"))
  | ((with_reducible refine' shc_int0 ?h); (case h => first | decide | omega)))
local macro_rules | `(tactic| walk_at "fact") => `(tactic| first | with_reducible assumption | assumption)
local macro_rules | `(tactic| walk_at "nl") => `(tactic| first | with_reducible assumption | with_reducible exact nl_tx | exact rfl | (simp only [noList, noListAll, noListAll_pt, Bool.and_true, Bool.true_and]; done))
local macro_rules | `(tactic| walk_at "val") => `(tactic| first | with_reducible assumption | with_reducible exact cmp_eq_int | with_reducible exact cmp_ne_int | with_reducible exact cmp_ne_str | with_reducible exact cmp_eq_str | with_reducible exact bi_len_t | with_reducible exact bi_len_l | exact rfl)
local macro_rules | `(tactic| walk_at "ev") => `(tactic| first
  | with_reducible exact xe_int
  | with_reducible exact xes_nil
  | with_reducible assumption
  | ((with_reducible refine' xe_var ?h); (case h => exact rfl))
  | with_reducible exact xe_true
  | with_reducible exact xe_none
  | with_reducible exact xe_str
  | ((with_reducible refine' xes_cons ?h ?k); (case h => walk_at "ev"); (case k => walk_at "ev"))
  | ((with_reducible refine' xe_call ?h ?k ?m); (case h => walk_at "ev"); (case k => exact rfl); (case m => walk_at "fact"))
  | ((with_reducible refine' xe_ucall ?h ?m); (case h => walk_at "ev"); (case m => walk_at "fact"))
  | ((with_reducible refine' xe_idx ?h ?k ?m); (case h => walk_at "ev"); (case k => walk_at "ev"); (case m => walk_at "val"))
  | ((with_reducible refine' xe_tup ?h ?k); (case h => walk_at "ev"); (case k => first | decide | (simp only [List.length_cons, List.length_nil]; decide)))
  | ((with_reducible refine' xe_lst ?h ?k); (case h => walk_at "ev"); (case k => first | decide | (simp only [List.length_cons, List.length_nil]; decide)))
  | ((with_reducible refine' xe_bin ?h ?k ?m); (case h => walk_at "ev"); (case k => walk_at "ev"); (case m => walk_at "val"))
  | ((with_reducible refine' xe_reprs ?h ?k ?s ?m ?c); (case h => walk_at "ev"); (case k => walk_at "ev"); (case s => walk_at "shc"); (case m => decide); (case c => decide))
  | ((with_reducible refine' xe_reprs_eq ?h ?k ?s ?m ?c); (case h => walk_at "ev"); (case k => walk_at "ev"); (case s => walk_at "shc"); (case m => decide); (case c => decide))
  | ((with_reducible refine' xe_cmp ?h ?k ?m); (case h => walk_at "ev"); (case k => walk_at "ev"); (case m => walk_at "val"))
  | ((with_reducible refine' xe_bi ?h ?m); (case h => walk_at "ev"); (case m => walk_at "val"))
  | ((with_reducible refine' xe_neg ?h); (case h => walk_at "ev"))
  | ((with_reducible refine' xe_not_t ?h); (case h => walk_at "ev"))
  | ((with_reducible refine' xe_not_f ?h); (case h => walk_at "ev"))
  | ((with_reducible refine' xe_not ?h); (case h => walk_at "ev"))
  | ((with_reducible refine' xe_rev_line ?h); (case h => walk_at "ev"))
  | ((with_reducible refine' xe_rev2 ?h); (case h => walk_at "ev"))
  | ((with_reducible refine' xe_rev_t ?h); (case h => walk_at "ev"))
  | ((with_reducible refine' xe_rev_l ?h); (case h => walk_at "ev"))
  | ((with_reducible refine' xe_sli ?h ?k ?l ?m); (case h => walk_at "ev"); (case k => walk_at "ev"); (case l => walk_at "ev"); (case m => walk_at "val"))
  | with_reducible exact xo_no
  | with_reducible exact xo_int
  | with_reducible exact xo_neg
  | ((with_reducible refine' xe_ite_t ?h ?k); (case h => walk_at "ev"); (case k => walk_at "ev"))
  | ((with_reducible refine' xe_ite_f ?h ?k); (case h => walk_at "ev"); (case k => walk_at "ev"))
  | ((with_reducible refine' xe_and_t ?h ?k); (case h => walk_at "ev"); (case k => walk_at "ev"))
  | ((with_reducible refine' xe_and_f ?h); (case h => walk_at "ev"))
  | ((with_reducible refine' xe_or_t ?h); (case h => walk_at "ev"))
  | ((with_reducible refine' xe_or_f ?h ?k); (case h => walk_at "ev"); (case k => walk_at "ev"))
  | with_reducible exact xe_dict0
  | ((with_reducible refine' xe_rep3 ?h); (case h => walk_at "ev"))
  | ((with_reducible refine' xe_rep2 ?h); (case h => walk_at "ev"))
  | ((with_reducible refine' xe_glob ?h); (case h => with_reducible assumption)))
local macro_rules | `(tactic| walk_at "ex") => `(tactic| first
  | ((with_reducible refine' xss_asm ?h ?k); (case h => with_reducible assumption); (case k => walk_at "ex"))
  | ((with_reducible refine' xss_asm_rt ?h); (case h => with_reducible assumption))
  | ((with_reducible refine' xss_ret ?h); (case h => walk_at "ev"))
  | ((with_reducible refine' xss_drop ?h ?k); (case h => walk_at "ev"); (case k => walk_at "ex"))
  | ((with_reducible refine' xss_set ?h ?n ?k); (case h => walk_at "ev"); (case n => walk_at "nl"); (case k => ((try dsimp only [List.set]); walk_at "ex")))
  | (with_reducible exact xss_nil)
  | ((with_reducible refine' xss_if_no ?h ?k); (case h => walk_at "ev"); (case k => walk_at "ex"))
  | ((with_reducible refine' xss_if_ret ?h ?k); (case h => walk_at "ev"); (case k => walk_at "ev"))
  | ((with_reducible refine' xss_par2 ?h ?h2 ?x ?y ?k); (case h => walk_at "ev"); (case h2 => walk_at "ev"); (case x => walk_at "nl"); (case y => walk_at "nl"); (case k => ((try dsimp only [List.set]); walk_at "ex")))
  | ((with_reducible refine' xss_par3 ?h ?h2 ?h3 ?x ?y ?z ?k); (case h => walk_at "ev"); (case h2 => walk_at "ev"); (case h3 => walk_at "ev"); (case x => walk_at "nl"); (case y => walk_at "nl"); (case z => walk_at "nl"); (case k => ((try dsimp only [List.set]); walk_at "ex")))
  | ((with_reducible refine' xss_setL ?h ?f ?n ?k); (case h => walk_at "ev"); (case f => exact rfl); (case n => walk_at "nl"); (case k => ((try dsimp only [List.set]); walk_at "ex")))
  | ((with_reducible refine' xss_setLx ?h ?f ?w ?k); (case h => walk_at "ev"); (case f => exact rfl); (case w => first | with_reducible assumption | exact rfl); (case k => ((dsimp only [fvE, fvEs, fvEo, fvI, freeze, frz, List.modify_cons, List.modify_nil, List.set, List.append_nil, List.nil_append, List.cons_append, List.modify, List.modifyTailIdx, List.modifyTailIdx.go, List.modifyHead]); walk_at "ex")))
  | ((with_reducible refine' xss_app ?h ?n ?i ?z ?k); (case h => walk_at "ev"); (case n => walk_at "nl"); (case i => exact rfl); (case z => first | decide | (simp only [List.length_cons, List.length_nil]; decide)); (case k => ((try dsimp only [List.set, List.cons_append, List.nil_append]); walk_at "ex")))
  | ((with_reducible refine' xss_unp2 ?h ?x ?y ?k); (case h => walk_at "ev"); (case x => walk_at "nl"); (case y => walk_at "nl"); (case k => ((try dsimp only [List.set]); walk_at "ex")))
  | ((with_reducible refine' xss_setLi2 ?h ?f ?k); (case h => walk_at "ev"); (case f => first | with_reducible assumption | exact rfl); (case k => ((dsimp only [fvE, fvEs, fvEo, fvI, freeze, frz, List.modify_cons, List.modify_nil, List.set, List.append_nil, List.nil_append, List.cons_append, List.modify, List.modifyTailIdx, List.modifyTailIdx.go, List.modifyHead]); walk_at "ex")))
  | ((with_reducible refine' xss_if_t ?h ?k ?m); (case h => walk_at "ev"); (case k => walk_at "ex"); (case m => walk_at "ex"))
  | ((with_reducible refine' xss_if_f ?h ?k ?m); (case h => walk_at "ev"); (case k => walk_at "ex"); (case m => walk_at "ex"))
  | ((with_reducible refine' xss_pass ?k); (case k => walk_at "ex"))
  )
local macro_rules | `(tactic| walk_at "exd") => `(tactic| first
  | ((with_reducible refine' xss_asm ?h ?k); (case h => with_reducible assumption); (try walk_at "exd"))
  | ((with_reducible refine' xss_asm_rt ?h); (case h => with_reducible assumption))
  | ((with_reducible refine' xss_ret ?h); (case h => walk_at "ev"))
  | ((with_reducible refine' xss_drop ?h ?k); (case h => walk_at "ev"); (try walk_at "exd"))
  | ((with_reducible refine' xss_set ?h ?n ?k); (case h => walk_at "ev"); (case n => walk_at "nl"); (try dsimp only [List.set]); (try walk_at "exd"))
  | (with_reducible exact xss_nil)
  | ((with_reducible refine' xss_if_no ?h ?k); (case h => walk_at "ev"); (try walk_at "exd"))
  | ((with_reducible refine' xss_if_ret ?h ?k); (case h => walk_at "ev"); (case k => walk_at "ev"))
  | ((with_reducible refine' xss_par2 ?h ?h2 ?x ?y ?k); (case h => walk_at "ev"); (case h2 => walk_at "ev"); (case x => walk_at "nl"); (case y => walk_at "nl"); (try dsimp only [List.set]); (try walk_at "exd"))
  | ((with_reducible refine' xss_par3 ?h ?h2 ?h3 ?x ?y ?z ?k); (case h => walk_at "ev"); (case h2 => walk_at "ev"); (case h3 => walk_at "ev"); (case x => walk_at "nl"); (case y => walk_at "nl"); (case z => walk_at "nl"); (try dsimp only [List.set]); (try walk_at "exd"))
  | ((with_reducible refine' xss_setL ?h ?f ?n ?k); (case h => walk_at "ev"); (case f => exact rfl); (case n => walk_at "nl"); (try dsimp only [List.set]); (try walk_at "exd"))
  | ((with_reducible refine' xss_setLx ?h ?f ?w ?k); (case h => walk_at "ev"); (case f => exact rfl); (case w => first | with_reducible assumption | exact rfl); (dsimp only [fvE, fvEs, fvEo, fvI, freeze, frz, List.modify_cons, List.modify_nil, List.set, List.append_nil, List.nil_append, List.cons_append, List.modify, List.modifyTailIdx, List.modifyTailIdx.go, List.modifyHead]); (try walk_at "exd"))
  | ((with_reducible refine' xss_app ?h ?n ?i ?z ?k); (case h => walk_at "ev"); (case n => walk_at "nl"); (case i => exact rfl); (case z => first | decide | (simp only [List.length_cons, List.length_nil]; decide)); (try dsimp only [List.set, List.cons_append, List.nil_append]); (try walk_at "exd"))
  | ((with_reducible refine' xss_unp2 ?h ?x ?y ?k); (case h => walk_at "ev"); (case x => walk_at "nl"); (case y => walk_at "nl"); (try dsimp only [List.set]); (try walk_at "exd"))
  | ((with_reducible refine' xss_setLi2 ?h ?f ?k); (case h => walk_at "ev"); (case f => first | with_reducible assumption | exact rfl); (dsimp only [fvE, fvEs, fvEo, fvI, freeze, frz, List.modify_cons, List.modify_nil, List.set, List.append_nil, List.nil_append, List.cons_append, List.modify, List.modifyTailIdx, List.modifyTailIdx.go, List.modifyHead]); (try walk_at "exd"))
  | ((with_reducible refine' xss_if_t ?h ?k ?m); (case h => walk_at "ev"); (case k => walk_at "exd"); (case m => walk_at "exd"))
  | ((with_reducible refine' xss_if_f ?h ?k ?m); (case h => walk_at "ev"); (case k => walk_at "exd"); (case m => walk_at "exd"))
  | ((with_reducible refine' xss_pass ?k); (try walk_at "exd"))
  | skip)
local macro_rules | `(tactic| walk_at "run") => `(tactic| ((try refine runF_of rfl ?_); simp only [mkEnv, Bool.false_eq_true, if_false, if_true, List.map_cons, List.map_nil, List.nil_append, List.cons_append, Nat.reduceSub, List.replicate_succ, List.replicate_zero]; walk_at "ex"))
local macro_rules | `(tactic| walk_at "rund") => `(tactic| ((try refine runF_of rfl ?_); simp only [mkEnv, Bool.false_eq_true, if_false, if_true, List.map_cons, List.map_nil, List.nil_append, List.cons_append, Nat.reduceSub, List.replicate_succ, List.replicate_zero]; walk_at "exd"))
local macro_rules | `(tactic| walk_at "run") => `(tactic| ((try refine runF_of rfl ?_); (simp only [mkEnv, Bool.false_eq_true, if_false, if_true, List.map_cons, List.map_nil, List.nil_append, List.cons_append, Nat.reduceSub, List.replicate_succ, List.replicate_zero]); walk_at "ex"))
--ME
section
variable {C : Ctx} {ff : String → Bool} {env : Env} {u u1 u2 u3 : U}
theorem xss_setL3 {i : Nat} {e : E} {ds : List D} {ss : Ss} {o : Option O} (h : evalE C e env u = some (.list ds, u1)) (hf : fk ff e = true) (k : ∀ env', env' = env ∨ env' = freeze env (fvE e) → execSs C ff ss (env'.set i (.own ds)) u1 = o) : execSs C ff (.cons (.set i e) ss) env u = o := by
  cases hn : noListAll ds with
  | true => exact xss_setL h hf hn (k env (.inl rfl))
  | false => exact xss_setLx h hf hn (k _ (.inr rfl))
theorem xi_range2 {a b : E} {i j : Int} (h1 : evalE C a env u = some (.int i, u1)) (h2 : evalE C b env u1 = some (.int j, u2)) (q1 : intOk i = true) (q2 : intOk j = true) : evalI C (.range2 a b) env u = some (rangeL i j, u2) := by
  simp only [evalI, h1, h2, Option.bind_some, rng2, q1, q2, Bool.and_self, if_true]
theorem xe_chain_t {o1 o2 : COp} {a b c : E} {x y z : D} {d : Bool} (h1 : evalE C a env u = some (x, u1)) (h2 : evalE C b env u1 = some (y, u2)) (hd : cmpV o1 x y = some true) (h3 : evalE C c env u2 = some (z, u3)) (hd2 : cmpV o2 y z = some d) : evalE C (.chain o1 o2 a b c) env u = some (.bool d, u3) := by
  simp only [evalE, h1, h2, hd, Option.bind_some, if_true, h3, hd2]
theorem xe_chain_f {o1 o2 : COp} {a b c : E} {x y : D} (h1 : evalE C a env u = some (x, u1)) (h2 : evalE C b env u1 = some (y, u2)) (hd : cmpV o1 x y = some false) : evalE C (.chain o1 o2 a b c) env u = some (.bool false, u2) := by
  simp only [evalE, h1, h2, hd, Option.bind_some]
  rfl
end
def wide05 (j : Nat) : D := .tuple ((List.range (j + 4)).map fun (i : Nat) => .tuple [.int (-4 + (i : Int)), .int ((-4 + (i : Int)) * (-4 + (i : Int))), .int 1])
theorem rng_m4 (j : Nat) : rangeL (-4) (j : Int) = (List.range (j + 4)).map fun (i : Nat) => PyData.int (-4 + (i : Int)) := by
  unfold rangeL
  rw [show ((j : Int) - -4).toNat = j + 4 by omega]
theorem gs_wide {j : Nat} (h : j ≤ 6) : Gs (wide05 j) := gs_tuple (by simp; omega) fun e he => by
  obtain ⟨i, hi, rfl⟩ := List.mem_map.mp he
  have hi := List.mem_range.mp hi
  refine ok_ints (xs := [-4 + (i : Int), (-4 + (i : Int)) * (-4 + (i : Int)), 1]) (by simp) fun x hx => ?_
  have s : Sm 6 (-4 + (i : Int)) := by unfold Sm; omega
  simp only [List.mem_cons, List.not_mem_nil, or_false] at hx
  rcases hx with rfl | rfl | rfl
  · exact s.mono (by decide)
  · exact (s.mul s).mono (by decide)
  · exact sm_lit (by decide)
theorem gs_plate {P : List Q2} (hl : P.length ≤ 40) (hs : ∀ p ∈ P, SzP 60 p) : Gs (.tuple (P.map pt)) := gs_tuple (by simpa using hl) fun e he => by
  obtain ⟨p, hp, rfl⟩ := List.mem_map.mp he
  exact ok_pt (hs p hp)
abbrev tail05 : List D := [.tuple [], .none, .bool true, .str (PySem.Str.ofString "polygon"), .dict [], .tuple [.int 1, .int 2, .int 3], .tuple [.tuple [.int 0, .int 0, .int 1], .none], .int 5]
theorem gs_tail : ∀ d ∈ tail05, Gs d := fun d hd => by
  simp only [tail05, List.mem_cons, List.not_mem_nil, or_false] at hd
  rcases hd with rfl | rfl | rfl | rfl | rfl | rfl | rfl | rfl
  · exact gs_tuple (by simp) fun e he => by cases he
  · exact gs_no fun ds => by simp
  · exact gs_no fun ds => by simp
  · exact gs_no fun ds => by simp
  · exact gs_no fun ds => by simp
  · exact gs_tuple (by simp) fun e he => by
      simp only [List.mem_cons, List.not_mem_nil, or_false] at he
      rcases he with rfl | rfl | rfl <;> exact ok_int (sm_lit (by decide))
  · refine gs_tuple (by simp) fun e he => ?_
    simp only [List.mem_cons, List.not_mem_nil, or_false] at he
    rcases he with rfl | rfl
    · exact ok_ints (xs := [0, 0, 1]) (by simp) fun x hx => by
        simp only [List.mem_cons, List.not_mem_nil, or_false] at hx
        rcases hx with rfl | rfl | rfl <;> exact sm_lit (by decide)
    · exact ⟨fun ds e => (by cases e), rfl, by simp [PyData.depth]⟩
  · exact gs_no fun ds => by simp
theorem shc_bools {α : Type} {l : List α} {f : α → Bool} (hl : l.length ≤ 1000) : Shc 1 8000 (.list (l.map fun a => .bool (f a))) :=
  (shc_lst (m := 0) (c := 5) fun d hd => by
    obtain ⟨a, ha, rfl⟩ := List.mem_map.mp hd
    exact shc_bool _).mono (by decide) (by simp; omega)
theorem nl_bools {α : Type} (f : α → Bool) : ∀ l : List α, noListAll (l.map fun a => .bool (f a)) = true
  | [] => rfl
  | a :: l => by simp only [List.map_cons, noListAll, noList, Bool.true_and]; exact nl_bools f l
abbrev t05 : Ss := tailOf (tailOf (tailOf (tailOf p05_right.body)))
section
variable {G : Prog} (K : Kn05 G)
include K
theorem t05_end (n : Nat) {V : List D} (hV : ∀ d ∈ V, Gs d) (hl : V.length ≤ 100) {P : List Q2} (hP : Plate P) (h0 : V[0]? = some (.tuple (P.map pt))) (s2 s5 : Slot) (u : U) :
    execSs (ctxN G (n + 12)) G.ff t05 [.no, .imm (.tuple (P.map pt)), s2, .no, .no, s5, .no, .no, .own V, .no, .no] u = some (.rt (.bool true) u) := by
  classical
  let bf : D → Bool := fun d => if h : Gs d then Classical.choose (o3_shapeU K.any_ K.kp K.pl.toKnO K.lis_shape h) else false
  have hb : ∀ d ∈ V, (∀ n, callU G (n + 9) "is_shape" [d] [] = some (.bool (bf d), [])) ∧ (∀ n, callU G (n + 9) "_law_is_shape" [d] [] = some (.bool (bf d), [])) ∧ (bf d = true → ∃ l : List Q2, d = .tuple (l.map pt)) := fun d hd => by
    have e : bf d = Classical.choose (o3_shapeU K.any_ K.kp K.pl.toKnO K.lis_shape (hV d hd)) := dif_pos (hV d hd)
    rw [e]
    exact Classical.choose_spec (o3_shapeU K.any_ K.kp K.pl.toKnO K.lis_shape (hV d hd))
  have hP0 : bf (.tuple (P.map pt)) = true := by
    have a := (hb _ (List.mem_of_getElem? h0)).1 0
    have hl8 := hP.l8
    have b := c_is_shape K.kp 4 (P := P) (k := 6) (j := 1 + P.length * 6) hP.szP (Nat.le_refl _) (by omega) (by omega) hP.poly.ne
    rw [hullQ_self hP.poly, decide_eq_true rfl] at b
    rw [b] at a
    injection a with a
    injection a with a
    injection a with a
    exact a.symm
  generalize bf = bf' at hb hP0
  clear bf
  have hid : V.map (fun d => d) = V := List.map_id' V
  have c1 : ∀ (env : Env) (hg : getV env 8 = some (.list V)) (hs : ∀ d : D, getV ((wipe env [10]).set 10 (.imm d)) 10 = some d), evalE (ctxN G (n + 12)) (.comp (.call "_law_is_shape" (.cons (.var 10) .nil) [0]) (.one 10) (.seq (.var 8)) .no [10]) env u = some (.list (V.map fun d => .bool (bf' d)), u) := fun env hg hs =>
    xe_comp_map (g := fun d => d) (xi_seq (xe_var hg) (by simp [items])) (by omega) fun d hd => ⟨_, rfl, xe_call (xes_cons (xe_var (hs d)) xes_nil) rfl (fnE (m := n + 12) K.lis_shape rfl ((hb d hd).2.1 (n + 3)))⟩
  have c2 : ∀ (env : Env) (hg : getV env 8 = some (.list V)) (hs : ∀ d : D, getV ((wipe env [10]).set 10 (.imm d)) 10 = some d), evalE (ctxN G (n + 12)) (.comp (.call "is_polygon" (.cons (.var 10) .nil) [0]) (.one 10) (.seq (.var 8)) .no [10]) env u = some (.list (V.map fun d => .bool (bf' d)), u) := fun env hg hs =>
    xe_comp_map (g := fun d => d) (xi_seq (xe_var hg) (by simp [items])) (by omega) fun d hd => ⟨_, rfl, xe_call (xes_cons (xe_var (hs d)) xes_nil) rfl (fnE (m := n + 12) K.is_polygon rfl (o5_lot K (n + 1) ((hb d hd).1 (n + 1))))⟩
  have c3 : ∀ (env : Env) (hg : getV env 8 = some (.list V)) (hs : ∀ d : D, getV ((wipe env [10]).set 10 (.imm d)) 10 = some d), evalE (ctxN G (n + 12)) (.comp (.call "is_section" (.cons (.var 10) .nil) [0]) (.one 10) (.seq (.var 8)) .no [10]) env u = some (.list (V.map fun d => .bool (secB d (bf' d))), u) := fun env hg hs =>
    xe_comp_map (g := fun d => d) (xi_seq (xe_var hg) (by simp [items])) (by omega) fun d hd => ⟨_, rfl, xe_call (xes_cons (xe_var (hs d)) xes_nil) rfl (fnE (m := n + 12) K.is_section rfl (o5_section K (n + 1) ((hb d hd).1 (n + 1)) (hb d hd).2.2))⟩
  have sb : Shc 1 8000 (.list (V.map fun d => .bool (bf' d))) := shc_bools (by omega)
  have sc : Shc 1 8000 (.list (V.map fun d => .bool (secB d (bf' d)))) := shc_bools (by omega)
  have r1 : evalE (ctxN G (n + 12)) (.bi .repr (.cons (.comp (.call "is_polygon" (.cons (.var 10) .nil) [0]) (.one 10) (.seq (.var 8)) .no [10]) .nil)) [.no, .imm (.tuple (P.map pt)), s2, .no, .no, s5, .no, .no, .own V, .own (V.map fun d => .bool (bf' d)), .no] u = some (.str (PyData.shown (.list (V.map fun d => .bool (bf' d)))), u) :=
    xe_repr (c2 _ rfl fun _ => rfl) sb (by decide) (by decide)
  have r2 : evalE (ctxN G (n + 12)) (.bi .repr (.cons (.var 9) .nil)) [.no, .imm (.tuple (P.map pt)), s2, .no, .no, s5, .no, .no, .own V, .own (V.map fun d => .bool (bf' d)), .no] u = some (.str (PyData.shown (.list (V.map fun d => .bool (bf' d)))), u) :=
    xe_repr (xe_var rfl) sb (by decide) (by decide)
  have hne := xe_cmp (o := .ne) r1 r2 cmp_ne_str
  -- the second row of due ones
  have len : biV .len [.list V] = some (.int (V.length : Int)) := rfl
  have hat : ∀ k, k < V.length → V[k]? = some (V.getD k .none) := fun k hk => by rw [List.getD_eq_getElem?_getD, List.getElem?_eq_getElem hk]; rfl
  have hc : evalE (ctxN G (n + 12)) (.comp (.and (.idx (.var 9) (.var 6)) (.chain .lt .lt (.lit (.int 2)) (.bi .len (.cons (.idx (.var 8) (.var 6)) .nil)) (.lit (.int 9)))) (.one 6) (.range1 (.bi .len (.cons (.var 8) .nil))) .no [6]) [.no, .imm (.tuple (P.map pt)), s2, .no, .no, s5, .no, .no, .own V, .own (V.map fun d => .bool (bf' d)), .no] u = some (.list (V.map fun d => .bool (secB d (bf' d))), u) := by
    have : (V.map fun d => PyData.bool (secB d (bf' d))) = (List.range V.length).map fun k => .bool (secB (V.getD k .none) (bf' (V.getD k .none))) := by
      refine List.ext_getElem? fun i => ?_
      rw [List.getElem?_map, List.getElem?_map]
      by_cases h : i < V.length
      · rw [List.getElem?_range h, hat i h]; rfl
      · rw [List.getElem?_eq_none (by omega), List.getElem?_eq_none (by rw [List.length_range]; omega)]; rfl
    rw [this]
    refine xe_comp_map (g := fun (k : Nat) => PyData.int (k : Int)) (by rw [← rng_nat]; exact xi_range1 (xe_bi (xes_cons (xe_var rfl) xes_nil) len) (intOk_nat _ (by omega))) (by rw [List.length_range]; omega) fun k hk => ⟨_, rfl, ?_⟩
    have hk := List.mem_range.mp hk
    have i9 : idxV (.list (V.map fun d => .bool (bf' d))) (.int (k : Int)) = some (.bool (bf' (V.getD k .none))) := by
      show atI _ _ = _
      unfold atI
      rw [if_pos (by omega), Int.toNat_natCast, List.getElem?_map, hat k hk]; rfl
    have i8 : idxV (.list V) (.int (k : Int)) = some (V.getD k .none) := by
      show atI _ _ = _
      unfold atI
      rw [if_pos (by omega), Int.toNat_natCast, hat k hk]
    have e9 := xe_idx (C := ctxN G (n + 12)) (env := [.no, .imm (.tuple (P.map pt)), s2, .no, .no, s5, .imm (.int (k : Int)), .no, .own V, .own (V.map fun d => .bool (bf' d)), .no]) (u := u) (u1 := u) (u2 := u) (a := .var 9) (i := .var 6) (xe_var rfl) (xe_var rfl) i9
    have e8 := xe_idx (C := ctxN G (n + 12)) (env := [.no, .imm (.tuple (P.map pt)), s2, .no, .no, s5, .imm (.int (k : Int)), .no, .own V, .own (V.map fun d => .bool (bf' d)), .no]) (u := u) (u1 := u) (u2 := u) (a := .var 8) (i := .var 6) (xe_var rfl) (xe_var rfl) i8
    cases hbk : bf' (V.getD k .none) with
    | false =>
      rw [hbk] at e9
      have : secB (V.getD k .none) false = false := by cases V.getD k .none <;> rfl
      rw [this]
      exact xe_and_f e9
    | true =>
      rw [hbk] at e9
      obtain ⟨l, hd⟩ := (hb _ (List.mem_of_getElem? (hat k hk))).2.2 hbk
      rw [hd] at e8 ⊢
      have ll : biV .len [.tuple (l.map pt)] = some (.int (l.length : Int)) := bi_len_t
      have e8 := xe_bi (C := ctxN G (n + 12)) (b := .len) (xes_cons e8 xes_nil) ll
      refine xe_and_t e9 ?_
      by_cases h3 : 2 < l.length
      · have := xe_chain_t (C := ctxN G (n + 12)) (o1 := .lt) (o2 := .lt) (a := .lit (.int 2)) (c := .lit (.int 9)) (d := decide (l.length < 9)) xe_int e8 (show cmpV .lt (.int 2) (.int (l.length : Int)) = some true by simp only [cmpV]; rw [decide_eq_true (by omega)]) xe_int (show cmpV .lt (.int (l.length : Int)) (.int 9) = some (decide (l.length < 9)) by simp only [cmpV]; congr 1; exact decide_eq_decide.mpr (by omega))
        exact this.trans (by simp [secB, h3])
      · have := xe_chain_f (C := ctxN G (n + 12)) (o1 := .lt) (o2 := .lt) (a := .lit (.int 2)) (c := .lit (.int 9)) xe_int e8 (show cmpV .lt (.int 2) (.int (l.length : Int)) = some false by simp only [cmpV]; rw [decide_eq_false (by omega)])
        exact this.trans (by simp [secB, h3])
  have r3 : evalE (ctxN G (n + 12)) (.bi .repr (.cons (.comp (.call "is_section" (.cons (.var 10) .nil) [0]) (.one 10) (.seq (.var 8)) .no [10]) .nil)) [.no, .imm (.tuple (P.map pt)), s2, .no, .no, s5, .no, .no, .own V, .own (V.map fun d => .bool (secB d (bf' d))), .no] u = some (.str (PyData.shown (.list (V.map fun d => .bool (secB d (bf' d))))), u) :=
    xe_repr (c3 _ rfl fun _ => rfl) sc (by decide) (by decide)
  have r4 : evalE (ctxN G (n + 12)) (.bi .repr (.cons (.var 9) .nil)) [.no, .imm (.tuple (P.map pt)), s2, .no, .no, s5, .no, .no, .own V, .own (V.map fun d => .bool (secB d (bf' d))), .no] u = some (.str (PyData.shown (.list (V.map fun d => .bool (secB d (bf' d))))), u) :=
    xe_repr (xe_var rfl) sc (by decide) (by decide)
  have i0 : idxV (.list (V.map fun d => .bool (secB d (bf' d)))) (.int 0) = some (.bool true) := by
    show atI _ _ = _
    unfold atI
    rw [if_pos (by omega)]
    show (V.map _)[0]? = _
    rw [List.getElem?_map, h0]
    show some (PyData.bool (secB _ _)) = _
    rw [hP0]
    have := hP.l3
    have := hP.l8
    simp [secB]
    omega
  refine xss_setL (c1 _ rfl fun _ => rfl) rfl (nl_bools bf' V) ?_
  refine xss_if_no (xe_or_f hne hne) ?_
  refine xss_setL hc rfl (nl_bools (fun d => secB d (bf' d)) V) ?_
  exact xss_ret (xe_and_t (xe_idx (xe_var rfl) xe_int i0) (xe_chain_t r3 r4 cmp_eq_str r3 cmp_eq_str))
theorem l05_wide (n : Nat) (a b c d e f g h i j k : Slot) (u : U) :
    evalE (ctxN G n) (.comp (.bi .tuple (.cons (.comp (.tup (.cons (.var 6) (.cons (.bin .mul (.var 6) (.var 6)) (.cons (.lit (.int 1)) .nil)))) (.one 6) (.range2 (.neg (.lit (.int 4))) (.var 7)) .no [6]) .nil)) (.one 7) (.seq (.tup (.cons (.lit (.int 4)) (.cons (.lit (.int 5)) (.cons (.lit (.int 6)) .nil))))) .no [7]) [a, b, c, d, e, f, g, h, i, j, k] u = some (.list ([4, 5, 6].map wide05), u) := by
  refine xe_comp_map (g := fun (j : Nat) => PyData.int (j : Int)) (l := [4, 5, 6]) (xi_seq (xe_tup (xes_cons xe_int (xes_cons xe_int (xes_cons xe_int xes_nil))) (by simp)) rfl) (by simp) fun j hj => ⟨_, rfl, ?_⟩
  have j6 : j ≤ 6 := by
    simp only [List.mem_cons, List.not_mem_nil, or_false] at hj
    omega
  refine xe_bi (rs := [.list ((List.range (j + 4)).map fun (i : Nat) => .tuple [.int (-4 + (i : Int)), .int ((-4 + (i : Int)) * (-4 + (i : Int))), .int 1])]) (xes_cons ?_ xes_nil) rfl
  refine xe_comp_map (g := fun (i : Nat) => PyData.int (-4 + (i : Int))) (l := List.range (j + 4)) (by rw [← rng_m4]; exact xi_range2 (xe_neg xe_int) (xe_var rfl) (by decide) (intOk_nat _ (by omega))) (by rw [List.length_range]; omega) fun i hi => ⟨_, rfl, ?_⟩
  have hi := List.mem_range.mp hi
  have s6 : Sm 6 (-4 + (i : Int)) := by unfold Sm; omega
  have m : binV .mul (.int (-4 + (i : Int))) (.int (-4 + (i : Int))) = some (.int ((-4 + (i : Int)) * (-4 + (i : Int)))) := by
    simp only [binV]
    rw [if_pos (mulOk_of s6 s6 (by decide) (by decide))]
  exact xe_tup (xes_cons (xe_var rfl) (xes_cons (xe_bin (xe_var rfl) (xe_var rfl) m) (xes_cons xe_int xes_nil))) (by simp)
theorem l05_right (n : Nat) {u : U} (hu : Pot u) : ∃ u', callU G (n + 13) "_law_right" [] u = some (.bool true, u') := by
  obtain ⟨P, u1, e1, h1, hP⟩ := l_plate K.pl (n + 4) hu
  have e1 := ufnE (m := n + 12) K.pl.plate rfl e1
  have hl8 := hP.l8
  obtain ⟨R, u2, e2, lR, hR, h2⟩ := l05_rows K (n + 4) (P := P) h1
  obtain ⟨B, u3, e3, lB, hB, h3⟩ := l05_bent K (n + 3) hP h2
  have e3 := ufnE (m := n + 12) K.bent rfl e3
  have nR : noListAll (R.map fun L => .tuple (L.map pt)) = true := by
    clear e2 lR hR
    induction R with
    | nil => rfl
    | cons L R ih => simp only [List.map_cons, noListAll, noList, noListAll_pt, Bool.true_and]; exact ih
  have nW : noListAll ([4, 5, 6].map wide05) = true := by
    have : ∀ j, noList (wide05 j) = true := fun j => by
      unfold wide05
      rw [noList]
      induction (List.range (j + 4)) with
      | nil => rfl
      | cons i l ih => simp only [List.map_cons, noListAll, noList, Bool.true_and]; exact ih
    simp only [List.map_cons, List.map_nil, noListAll, this, Bool.and_self]
  have e5 : evalE (ctxN G (n + 12)) (.comp (.bi .tuple (.cons (.comp (.tup (.cons (.var 6) (.cons (.bin .mul (.var 6) (.var 6)) (.cons (.lit (.int 1)) .nil)))) (.one 6) (.range2 (.neg (.lit (.int 4))) (.var 7)) .no [6]) .nil)) (.one 7) (.seq (.tup (.cons (.lit (.int 4)) (.cons (.lit (.int 5)) (.cons (.lit (.int 6)) .nil))))) .no [7]) [.no, .imm (.tuple (P.map pt)), .own (R.map fun L => .tuple (L.map pt)), .no, .no, .no, .no, .no, .no, .no, .no] u2 = some (.list ([4, 5, 6].map wide05), u2) := l05_wide K (n + 12) _ _ _ _ _ _ _ _ _ _ _ _
  let V : List D := ((([.tuple (P.map pt)] ++ B) ++ (R.map fun L => .tuple (L.map pt))) ++ ([4, 5, 6].map wide05)) ++ tail05
  have hV : ∀ d ∈ V, Gs d := fun d hd => by
    simp only [V, List.mem_append, List.mem_singleton] at hd
    rcases hd with (((rfl | h) | h) | h) | h
    · exact gs_plate (by omega) fun p hp => (hP.szP p hp).mono (by decide)
    · exact hB d h
    · obtain ⟨L, hL, rfl⟩ := List.mem_map.mp h
      exact gs_plate (by have := (hR L hL).1; omega) (hR L hL).2
    · obtain ⟨j, hj, rfl⟩ := List.mem_map.mp h
      exact gs_wide (by simp only [List.mem_cons, List.not_mem_nil, or_false] at hj; omega)
    · exact gs_tail d h
  have lV : V.length ≤ 100 := by simp [V, lR]; omega
  have fin := fun s2 s5 => t05_end K n hV lV hP rfl s2 s5 u3
  have e8 : evalE (ctxN G (n + 12)) (.bin .add (.bin .add (.bin .add (.bin .add (.lst (.cons (.var 1) .nil)) (.ucall "_law_bent" (.cons (.var 1) .nil))) (.var 2)) (.var 5)) (.lst (.cons (.tup .nil) (.cons (.lit .none) (.cons (.lit (.bool true)) (.cons (.lit (.str (PySem.Str.ofString "polygon"))) (.cons .dict0 (.cons (.tup (.cons (.lit (.int 1)) (.cons (.lit (.int 2)) (.cons (.lit (.int 3)) .nil)))) (.cons (.tup (.cons (.tup (.cons (.lit (.int 0)) (.cons (.lit (.int 0)) (.cons (.lit (.int 1)) .nil)))) (.cons (.lit .none) .nil))) (.cons (.lit (.int 5)) .nil)))))))))) [.no, .imm (.tuple (P.map pt)), .own (R.map fun L => .tuple (L.map pt)), .no, .no, .own ([4, 5, 6].map wide05), .no, .no, .no, .no, .no] u2 = some (.list V, u3) := by
    have bl : ∀ a b : List D, a.length + b.length ≤ 100 → binV .add (.list a) (.list b) = some (.list (a ++ b)) := fun a b h => by
      simp only [binV]
      rw [if_pos (show sizeOk (a.length + b.length) = true from decide_eq_true (by omega))]
    refine xe_bin (xe_bin (xe_bin (xe_bin (xe_lst (xes_cons (xe_var rfl) xes_nil) (by simp)) (xe_ucall (xes_cons (xe_var rfl) xes_nil) e3) (bl _ _ (by simp; omega))) (xe_var rfl) (bl _ _ (by simp [lR]; omega))) (xe_var rfl) (bl _ _ (by simp [lR]; omega)))
      (xe_lst (xes_cons (xe_tup xes_nil (by simp)) (xes_cons xe_none (xes_cons xe_true (xes_cons xe_str (xes_cons xe_dict0 (xes_cons (xe_tup (xes_cons xe_int (xes_cons xe_int (xes_cons xe_int xes_nil))) (by simp)) (xes_cons (xe_tup (xes_cons (xe_tup (xes_cons xe_int (xes_cons xe_int (xes_cons xe_int xes_nil))) (by simp)) (xes_cons xe_none xes_nil)) (by simp)) (xes_cons xe_int xes_nil)))))))) (by simp)) (bl _ _ (by simp [lR]; omega))
  generalize V = V' at fin e8
  clear V hV lV
  refine ⟨u3, ?_⟩
  rw [callU_eq K.right]
  refine runF_of rfl ?_
  show execSs (ctxN G (n + 12)) G.ff (.cons (.set 1 (.ucall "_law_plate" .nil)) (.cons (.set 2 _) (.cons (.set 5 _) (.cons (.set 8 _) t05)))) [.no, .no, .no, .no, .no, .no, .no, .no, .no, .no, .no] u = _
  refine xss_set (xe_ucall xes_nil e1) nl_tx ?_
  refine xss_setL e2 rfl nR ?_
  refine xss_setL e5 rfl nW ?_
  refine xss_setL3 e8 rfl fun env' h => ?_
  rcases h with rfl | rfl
  · exact fin _ _
  · exact fin _ _
theorem l05_law (n : Nat) (ns : List Int) (hn : ns.length ≤ 63) : ∃ u, callU G (n + 14) "law" [.list (ns.map .int)] [] = some (.bool true, u) :=
  l_laps K.pl.toKnU K.law K.right rfl (n + 12) (fun u hu => l05_right K n hu) ns hn
end
end Pl

namespace Law
open PySem Pl
def top (i : Nat) : Stmt := PySem.Challenge.pw_hullrests_k05_whole_sections_and_polygon.main.body.getD i (.Pass ⟨0, 0, 0, 0⟩)
def e_is_whole : Pl.Entry := { name := "is_whole", qual := "is_whole", st := top 2, N := ["value"], ps := ["value"], fn := Pl.p_is_whole, kws := [] }
def e_are_wholes : Pl.Entry := { name := "are_wholes", qual := "are_wholes", st := top 3, N := ["value", "many", "number"], ps := ["value", "many"], fn := Pl.p_are_wholes, kws := [] }
def e_divisor_of : Pl.Entry := { name := "divisor_of", qual := "divisor_of", st := top 4, N := ["numbers", "found", "number"], ps := ["numbers"], fn := Pl.p_divisor_of, kws := [] }
def e_is_reduced : Pl.Entry := { name := "is_reduced", qual := "is_reduced", st := top 5, N := ["numbers"], ps := ["numbers"], fn := Pl.p_is_reduced, kws := [] }
def e_multiple_of : Pl.Entry := { name := "multiple_of", qual := "multiple_of", st := top 6, N := ["one", "two"], ps := ["one", "two"], fn := Pl.p_multiple_of, kws := [] }
def e_is_vector : Pl.Entry := { name := "is_vector", qual := "is_vector", st := top 8, N := ["value"], ps := ["value"], fn := Pl.p_is_vector, kws := [] }
def e_vector : Pl.Entry := { name := "vector", qual := "vector", st := top 9, N := ["x", "y", "w", "part"], ps := ["x", "y", "w"], fn := Pl.p_vector, kws := [] }
def e_on_grid : Pl.Entry := { name := "on_grid", qual := "on_grid", st := top 12, N := ["points", "under", "point", "x", "y", "w"], ps := ["points"], fn := Pl.p_on_grid, kws := [] }
def e_bends_left : Pl.Entry := { name := "bends_left", qual := "bends_left", st := top 13, N := ["one", "two", "three"], ps := ["one", "two", "three"], fn := Pl.p_bends_left, kws := [] }
def e_bend_chain : Pl.Entry := { name := "bend_chain", qual := "bend_chain", st := top 14, N := ["pairs", "found", "pair"], ps := ["pairs"], fn := Pl.p_bend_chain, kws := [] }
def e_hull : Pl.Entry := { name := "hull", qual := "hull", st := top 15, N := ["points", "pairs", "under", "rows", "found", "x", "y"], ps := ["points"], fn := Pl.p_hull, kws := [] }
def e_is_shape : Pl.Entry := { name := "is_shape", qual := "is_shape", st := top 16, N := ["value", "corner"], ps := ["value"], fn := Pl.p_is_shape, kws := [] }
def e_is_lot : Pl.Entry := { name := "is_lot", qual := "is_lot", st := top 17, N := ["value"], ps := ["value"], fn := Pl.p_is_lot, kws := [] }
def e_is_plate : Pl.Entry := { name := "is_plate", qual := "is_plate", st := top 18, N := ["value"], ps := ["value"], fn := Pl.p_is_plate, kws := [] }
def p_is_section : PFun := { np := 1, ns := 1, urn := false, fresh := false, body := (.cons (.ret (.call "is_plate" (.cons (.var 0) .nil) [0])) .nil) }
def e_is_section : Pl.Entry := { name := "is_section", qual := "is_section", st := top 20, N := ["value"], ps := ["value"], fn := p_is_section, kws := [(0, ["value"], [0])] }
def p_is_polygon : PFun := { np := 1, ns := 1, urn := false, fresh := false, body := (.cons (.ret (.call "is_lot" (.cons (.var 0) .nil) [0])) .nil) }
def e_is_polygon : Pl.Entry := { name := "is_polygon", qual := "is_polygon", st := top 21, N := ["value"], ps := ["value"], fn := p_is_polygon, kws := [(0, ["value"], [0])] }
def e__law_urn : Pl.Entry := { name := "_law_urn", qual := "_law_urn", st := top 23, N := ["_law_script", "_law_lap", "_law_seed", "_law_cell", "_law_own"], ps := ["_law_script", "_law_lap"], fn := Pl.p__law_urn, kws := [] }
def e__law_pull : Pl.Entry := { name := "_law_pull", qual := "_law_pull", st := top 24, N := ["_law_urn_here", "_law_many", "_law_digit"], ps := ["_law_urn_here", "_law_many"], fn := Pl.p__law_pull, kws := [] }
def e__law_any : Pl.Entry := { name := "_law_any", qual := "_law_any", st := top 25, N := ["_law_urn_here", "_law_some"], ps := ["_law_urn_here", "_law_some"], fn := Pl.p__law_any, kws := [] }
def e__law_num : Pl.Entry := { name := "_law_num", qual := "_law_num", st := top 26, N := ["_law_urn_here", "_law_high"], ps := ["_law_urn_here", "_law_high"], fn := Pl.p__law_num, kws := [] }
def e__law_laps : Pl.Entry := { name := "_law_laps", qual := "_law_laps", st := top 27, N := ["_law_script"], ps := ["_law_script"], fn := Pl.p__law_laps, kws := [] }
def e__law_gcd : Pl.Entry := { name := "_law_gcd", qual := "_law_gcd", st := top 28, N := ["_law_one", "_law_two", "_law_step"], ps := ["_law_one", "_law_two"], fn := Pl.p__law_gcd__a, kws := [] }
def e__law_thin : Pl.Entry := { name := "_law_thin", qual := "_law_thin", st := top 29, N := ["_law_row", "_law_common", "_law_number"], ps := ["_law_row"], fn := Pl.p__law_thin, kws := [] }
def e__law_frac : Pl.Entry := { name := "_law_frac", qual := "_law_frac", st := top 30, N := ["_law_top", "_law_bottom", "_law_low"], ps := ["_law_top", "_law_bottom"], fn := Pl.p__law_frac, kws := [] }
def e__law_add : Pl.Entry := { name := "_law_add", qual := "_law_add", st := top 31, N := ["_law_one", "_law_two"], ps := ["_law_one", "_law_two"], fn := Pl.p__law_add, kws := [] }
def e__law_sign : Pl.Entry := { name := "_law_sign", qual := "_law_sign", st := top 32, N := ["_law_number"], ps := ["_law_number"], fn := Pl.p__law_sign__a, kws := [] }
def e__law_spot : Pl.Entry := { name := "_law_spot", qual := "_law_spot", st := top 33, N := ["_law_x", "_law_y", "_law_w"], ps := ["_law_x", "_law_y", "_law_w"], fn := Pl.p__law_spot__a, kws := [] }
def e__law_way : Pl.Entry := { name := "_law_way", qual := "_law_way", st := top 34, N := ["_law_spot_here", "_law_goal"], ps := ["_law_spot_here", "_law_goal"], fn := Pl.p__law_way__a, kws := [] }
def e__law_on : Pl.Entry := { name := "_law_on", qual := "_law_on", st := top 35, N := ["_law_spot_here", "_law_step"], ps := ["_law_spot_here", "_law_step"], fn := Pl.p__law_on, kws := [] }
def e__law_by : Pl.Entry := { name := "_law_by", qual := "_law_by", st := top 36, N := ["_law_step", "_law_part"], ps := ["_law_step", "_law_part"], fn := Pl.p__law_by, kws := [] }
def e__law_cross : Pl.Entry := { name := "_law_cross", qual := "_law_cross", st := top 37, N := ["_law_step", "_law_goal"], ps := ["_law_step", "_law_goal"], fn := Pl.p__law_cross__a, kws := [] }
def e__law_side : Pl.Entry := { name := "_law_side", qual := "_law_side", st := top 38, N := ["_law_spot_here", "_law_goal", "_law_mate"], ps := ["_law_spot_here", "_law_goal", "_law_mate"], fn := Pl.p__law_side, kws := [] }
def e__law_is_whole : Pl.Entry := { name := "_law_is_whole", qual := "_law_is_whole", st := top 39, N := ["_law_number"], ps := ["_law_number"], fn := Pl.p__law_is_whole, kws := [] }
def e__law_are_whole : Pl.Entry := { name := "_law_are_whole", qual := "_law_are_whole", st := top 40, N := ["_law_row", "_law_many", "_law_number"], ps := ["_law_row", "_law_many"], fn := Pl.p__law_are_whole, kws := [] }
def e__law_is_spot : Pl.Entry := { name := "_law_is_spot", qual := "_law_is_spot", st := top 41, N := ["_law_thing"], ps := ["_law_thing"], fn := Pl.p__law_is_spot, kws := [] }
def e__law_before : Pl.Entry := { name := "_law_before", qual := "_law_before", st := top 42, N := ["_law_spot_here", "_law_goal", "_law_gap"], ps := ["_law_spot_here", "_law_goal"], fn := Pl.p__law_before, kws := [] }
def e__law_sorted : Pl.Entry := { name := "_law_sorted", qual := "_law_sorted", st := top 43, N := ["_law_spots", "_law_row", "_law_spot_here", "_law_mate"], ps := ["_law_spots"], fn := Pl.p__law_sorted, kws := [] }
def e__law_hull : Pl.Entry := { name := "_law_hull", qual := "_law_hull", st := top 44, N := ["_law_spots", "_law_row", "_law_found", "_law_side_here", "_law_chain", "_law_spot_here"], ps := ["_law_spots"], fn := Pl.p__law_hull__a, kws := [] }
def e__law_middle : Pl.Entry := { name := "_law_middle", qual := "_law_middle", st := top 45, N := ["_law_spots", "_law_total", "_law_step", "_law_k", "_law_one", "_law_two", "_law_part"], ps := ["_law_spots"], fn := Pl.p__law_middle__b, kws := [] }
def e__law_plate : Pl.Entry := { name := "_law_plate", qual := "_law_plate", st := top 46, N := ["_law_urn_here", "_law_kind", "_law_over", "_law_spots", "_law_lean", "_law_tall", "_law_bits", "_law_step", "_law_k", "_law_high", "_law_x", "_law_y", "_law_found"], ps := ["_law_urn_here"], fn := Pl.p__law_plate, kws := [] }
def e__law_next : Pl.Entry := { name := "_law_next", qual := "_law_next", st := top 47, N := ["_law_plate_here", "_law_k"], ps := ["_law_plate_here", "_law_k"], fn := Pl.p__law_next, kws := [] }
def e__law_edge : Pl.Entry := { name := "_law_edge", qual := "_law_edge", st := top 48, N := ["_law_plate_here", "_law_k"], ps := ["_law_plate_here", "_law_k"], fn := Pl.p__law_edge, kws := [] }
def p__law_is_shape : PFun := { np := 1, ns := 2, urn := false, fresh := false, body := (.cons (.ite (.or (.not (.bi .isTuple (.cons (.var 0) .nil))) (.or (.cmp .eq (.var 0) (.tup .nil)) (.cmp .ne (.comp (.var 1) (.one 1) (.seq (.var 0)) (.yes (.not (.call "_law_is_spot" (.cons (.var 1) .nil) [0]))) [1]) (.lst .nil)))) (.cons (.ret (.lit (.bool false))) .nil) .nil) (.cons (.ret (.cmp .eq (.call "_law_hull" (.cons (.var 0) .nil) [0]) (.var 0))) .nil)) }
def e__law_is_shape : Pl.Entry := { name := "_law_is_shape", qual := "_law_is_shape", st := top 49, N := ["_law_thing", "_law_spot_here"], ps := ["_law_thing"], fn := p__law_is_shape, kws := [] }
def p__law_bent : PFun := { np := 2, ns := 8, urn := true, fresh := false, body := (.cons (.par [2, 3] (.cons (.ucall "_law_pull" (.cons (.bi .len (.cons (.var 1) .nil)) .nil)) (.cons (.bi .len (.cons (.var 1) .nil)) .nil))) (.cons (.set 4 (.call "_law_on" (.cons (.idx (.var 1) (.var 2)) (.cons (.call "_law_by" (.cons (.call "_law_edge" (.cons (.var 1) (.cons (.var 2) .nil)) [0, 1]) (.cons (.tup (.cons (.lit (.int 1)) (.cons (.lit (.int 2)) .nil))) .nil)) [0, 1]) .nil)) [0, 1])) (.cons (.set 5 (.call "_law_on" (.cons (.idx (.var 1) (.var 2)) (.cons (.call "_law_by" (.cons (.call "_law_way" (.cons (.idx (.var 1) (.var 2)) (.cons (.call "_law_middle" (.cons (.var 1) .nil) [0]) .nil)) [0, 1]) (.cons (.ucall "_law_any" (.cons (.lst (.cons (.tup (.cons (.lit (.int 1)) (.cons (.lit (.int 2)) .nil))) (.cons (.tup (.cons (.lit (.int 1)) (.cons (.lit (.int 9)) .nil))) (.cons (.tup (.cons (.lit (.int 1)) (.cons (.lit (.int 1)) .nil))) (.cons (.tup (.cons (.neg (.lit (.int 1))) (.cons (.lit (.int 5)) .nil))) .nil))))) .nil)) .nil)) [0, 1]) .nil)) [0, 1])) (.cons (.set 6 (.lst (.cons (.bin .add (.sli (.var 1) (.yes (.var 2)) .no) (.sli (.var 1) .no (.yes (.var 2)))) (.cons (.rev (.var 1)) (.cons (.bin .add (.sli (.var 1) .no (.yes (.lit (.int 1)))) (.rvt (.var 1))) .nil))))) (.cons (.app 6 (.bin .add (.bin .add (.sli (.var 1) .no (.yes (.bin .add (.var 2) (.lit (.int 1))))) (.tup (.cons (.var 4) .nil))) (.sli (.var 1) (.yes (.bin .add (.var 2) (.lit (.int 1)))) .no))) (.cons (.app 6 (.bin .add (.bin .add (.sli (.var 1) .no (.yes (.var 2))) (.bin .mul (.sli (.var 1) (.yes (.var 2)) (.yes (.bin .add (.var 2) (.lit (.int 1))))) (.lit (.int 2)))) (.sli (.var 1) (.yes (.bin .add (.var 2) (.lit (.int 1)))) .no))) (.cons (.app 6 (.bin .add (.bin .add (.sli (.var 1) .no (.yes (.var 2))) (.tup (.cons (.var 5) .nil))) (.sli (.var 1) (.yes (.bin .add (.var 2) (.lit (.int 1)))) .no))) (.cons (.app 6 (.bin .add (.bin .add (.sli (.var 1) .no (.yes (.var 2))) (.tup (.cons (.ucall "_law_odd" (.cons (.idx (.var 1) (.var 2)) .nil)) .nil))) (.sli (.var 1) (.yes (.bin .add (.var 2) (.lit (.int 1)))) .no))) (.cons (.set 6 (.bin .add (.var 6) (.lst (.cons (.bi .list (.cons (.var 1) .nil)) (.cons (.sli (.var 1) .no (.yes (.lit (.int 1)))) (.cons (.sli (.var 1) .no (.yes (.lit (.int 2)))) (.cons (.idx (.var 1) (.var 2)) (.cons (.tup (.cons (.var 1) .nil)) (.cons (.bin .add (.var 1) (.var 1)) (.cons (.bin .add (.sli (.var 1) .no (.yes (.var 2))) (.sli (.var 1) (.yes (.bin .add (.var 2) (.lit (.int 1)))) .no)) .nil)))))))))) (.cons (.ret (.bin .add (.var 6) (.lst (.cons (.bi .tuple (.cons (.comp (.sli (.var 7) .no (.yes (.lit (.int 2)))) (.one 7) (.seq (.var 1)) .no [7]) .nil)) (.cons (.rev (.sli (.var 1) .no (.yes (.lit (.int 2))))) (.cons (.tup (.cons (.idx (.var 1) (.var 2)) (.cons (.idx (.var 1) (.bin .mod (.bi .int (.cons (.bin .add (.var 2) (.lit (.int 2))) .nil)) (.var 3))) .nil))) .nil)))))) .nil)))))))))) }
def e__law_bent : Pl.Entry := { name := "_law_bent", qual := "_law_bent", st := top 50, N := ["_law_urn_here", "_law_plate_here", "_law_k", "_law_many", "_law_halfway", "_law_inward", "_law_some", "_law_spot_here"], ps := ["_law_urn_here", "_law_plate_here"], fn := p__law_bent, kws := [] }
def p__law_odd : PFun := { np := 2, ns := 3, urn := true, fresh := false, body := (.cons (.set 2 (.lst (.cons (.tup (.cons (.bin .mul (.lit (.int 2)) (.idx (.var 1) (.lit (.int 0)))) (.cons (.bin .mul (.lit (.int 2)) (.idx (.var 1) (.lit (.int 1)))) (.cons (.bin .mul (.lit (.int 2)) (.idx (.var 1) (.lit (.int 2)))) .nil)))) (.cons (.tup (.cons (.idx (.var 1) (.lit (.int 0))) (.cons (.idx (.var 1) (.lit (.int 1))) (.cons (.neg (.idx (.var 1) (.lit (.int 2)))) .nil)))) (.cons (.tup (.cons (.idx (.var 1) (.lit (.int 0))) (.cons (.idx (.var 1) (.lit (.int 1))) (.cons (.lit (.int 0)) .nil)))) .nil))))) (.cons (.ret (.ucall "_law_any" (.cons (.bin .add (.var 2) (.lst (.cons (.bi .list (.cons (.var 1) .nil)) (.cons (.lit .none) (.cons (.lit (.int 7)) (.cons (.sli (.var 1) .no (.yes (.lit (.int 2)))) .nil)))))) .nil))) .nil)) }
def e__law_odd : Pl.Entry := { name := "_law_odd", qual := "_law_odd", st := top 51, N := ["_law_urn_here", "_law_spot_here", "_law_some"], ps := ["_law_urn_here", "_law_spot_here"], fn := p__law_odd, kws := [] }
def p__law_right : PFun := { np := 1, ns := 11, urn := true, fresh := false, body := (.cons (.set 1 (.ucall "_law_plate" .nil)) (.cons (.set 2 (.comp (.bi .tuple (.cons (.comp (.call "_law_spot" (.cons (.ucall "_law_num" (.cons (.lit (.int 3)) .nil)) (.cons (.ucall "_law_num" (.cons (.lit (.int 3)) .nil)) (.cons (.lit (.int 1)) .nil))) [0, 1, 2]) (.one 3) (.range1 (.ucall "_law_pull" (.cons (.lit (.int 10)) .nil))) .no [3]) .nil)) (.one 4) (.range1 (.lit (.int 3))) .no [4])) (.cons (.set 5 (.comp (.bi .tuple (.cons (.comp (.tup (.cons (.var 6) (.cons (.bin .mul (.var 6) (.var 6)) (.cons (.lit (.int 1)) .nil)))) (.one 6) (.range2 (.neg (.lit (.int 4))) (.var 7)) .no [6]) .nil)) (.one 7) (.seq (.tup (.cons (.lit (.int 4)) (.cons (.lit (.int 5)) (.cons (.lit (.int 6)) .nil))))) .no [7])) (.cons (.set 8 (.bin .add (.bin .add (.bin .add (.bin .add (.lst (.cons (.var 1) .nil)) (.ucall "_law_bent" (.cons (.var 1) .nil))) (.var 2)) (.var 5)) (.lst (.cons (.tup .nil) (.cons (.lit .none) (.cons (.lit (.bool true)) (.cons (.lit (.str (PySem.Str.ofString "polygon"))) (.cons .dict0 (.cons (.tup (.cons (.lit (.int 1)) (.cons (.lit (.int 2)) (.cons (.lit (.int 3)) .nil)))) (.cons (.tup (.cons (.tup (.cons (.lit (.int 0)) (.cons (.lit (.int 0)) (.cons (.lit (.int 1)) .nil)))) (.cons (.lit .none) .nil))) (.cons (.lit (.int 5)) .nil))))))))))) (.cons (.set 9 (.comp (.call "_law_is_shape" (.cons (.var 10) .nil) [0]) (.one 10) (.seq (.var 8)) .no [10])) (.cons (.ite (.or (.cmp .ne (.bi .repr (.cons (.comp (.call "is_polygon" (.cons (.var 10) .nil) [0]) (.one 10) (.seq (.var 8)) .no [10]) .nil)) (.bi .repr (.cons (.var 9) .nil))) (.cmp .ne (.bi .repr (.cons (.comp (.call "is_polygon" (.cons (.var 10) .nil) [0]) (.one 10) (.seq (.var 8)) .no [10]) .nil)) (.bi .repr (.cons (.var 9) .nil)))) (.cons (.ret (.lit (.bool false))) .nil) .nil) (.cons (.set 9 (.comp (.and (.idx (.var 9) (.var 6)) (.chain .lt .lt (.lit (.int 2)) (.bi .len (.cons (.idx (.var 8) (.var 6)) .nil)) (.lit (.int 9)))) (.one 6) (.range1 (.bi .len (.cons (.var 8) .nil))) .no [6])) (.cons (.ret (.and (.idx (.var 9) (.lit (.int 0))) (.chain .eq .eq (.bi .repr (.cons (.comp (.call "is_section" (.cons (.var 10) .nil) [0]) (.one 10) (.seq (.var 8)) .no [10]) .nil)) (.bi .repr (.cons (.var 9) .nil)) (.bi .repr (.cons (.comp (.call "is_section" (.cons (.var 10) .nil) [0]) (.one 10) (.seq (.var 8)) .no [10]) .nil))))) .nil)))))))) }
def e__law_right : Pl.Entry := { name := "_law_right", qual := "_law_right", st := top 52, N := ["_law_urn_here", "_law_plate_here", "_law_rows", "_law_step", "_law_lap", "_law_wide", "_law_k", "_law_many", "_law_some", "_law_due", "_law_thing"], ps := ["_law_urn_here"], fn := p__law_right, kws := [] }
def p_law : PFun := { np := 1, ns := 2, urn := false, fresh := false, body := (.cons (.for_ (.one 1) (.range1 (.call "_law_laps" (.cons (.var 0) .nil) [0])) (.cons (.ite (.not (.ncall "_law_right" (.call "_law_urn" (.cons (.var 0) (.cons (.var 1) .nil)) [0, 1]) .nil)) (.cons (.ret (.lit (.bool false))) .nil) .nil) .nil)) (.cons (.ret (.lit (.bool true))) .nil)) }
def e_law : Pl.Entry := { name := "law", qual := "law", st := top 53, N := ["_law_script", "_law_lap"], ps := ["_law_script"], fn := p_law, kws := [] }
def tab : List (String × Pl.Entry) := [("is_whole", e_is_whole), ("are_wholes", e_are_wholes), ("divisor_of", e_divisor_of), ("is_reduced", e_is_reduced), ("multiple_of", e_multiple_of), ("is_vector", e_is_vector), ("vector", e_vector), ("on_grid", e_on_grid), ("bends_left", e_bends_left), ("bend_chain", e_bend_chain), ("hull", e_hull), ("is_shape", e_is_shape), ("is_lot", e_is_lot), ("is_plate", e_is_plate), ("is_section", e_is_section), ("is_polygon", e_is_polygon), ("_law_urn", e__law_urn), ("_law_pull", e__law_pull), ("_law_any", e__law_any), ("_law_num", e__law_num), ("_law_laps", e__law_laps), ("_law_gcd", e__law_gcd), ("_law_thin", e__law_thin), ("_law_frac", e__law_frac), ("_law_add", e__law_add), ("_law_sign", e__law_sign), ("_law_spot", e__law_spot), ("_law_way", e__law_way), ("_law_on", e__law_on), ("_law_by", e__law_by), ("_law_cross", e__law_cross), ("_law_side", e__law_side), ("_law_is_whole", e__law_is_whole), ("_law_are_whole", e__law_are_whole), ("_law_is_spot", e__law_is_spot), ("_law_before", e__law_before), ("_law_sorted", e__law_sorted), ("_law_hull", e__law_hull), ("_law_middle", e__law_middle), ("_law_plate", e__law_plate), ("_law_next", e__law_next), ("_law_edge", e__law_edge), ("_law_is_shape", e__law_is_shape), ("_law_bent", e__law_bent), ("_law_odd", e__law_odd), ("_law_right", e__law_right), ("law", e_law)]
def globs : List (String × D) := [("MOST_EDGES", .int 8)]
def pk : Pl.Pack := { T := fun f => tab.lookup f, glob := fun x => globs.lookup x, bl := ["abs", "all", "bool", "divmod", "int", "isinstance", "len", "list", "max", "min", "range", "repr", "set", "sorted", "tuple"], gcd := true }
theorem chk_is_whole : chkEntry pk e_is_whole = true := by decide +kernel
theorem chk_are_wholes : chkEntry pk e_are_wholes = true := by decide +kernel
theorem chk_divisor_of : chkEntry pk e_divisor_of = true := by decide +kernel
theorem chk_is_reduced : chkEntry pk e_is_reduced = true := by decide +kernel
theorem chk_multiple_of : chkEntry pk e_multiple_of = true := by decide +kernel
theorem chk_is_vector : chkEntry pk e_is_vector = true := by decide +kernel
theorem chk_vector : chkEntry pk e_vector = true := by decide +kernel
theorem chk_on_grid : chkEntry pk e_on_grid = true := by decide +kernel
theorem chk_bends_left : chkEntry pk e_bends_left = true := by decide +kernel
theorem chk_bend_chain : chkEntry pk e_bend_chain = true := by decide +kernel
theorem chk_hull : chkEntry pk e_hull = true := by decide +kernel
theorem chk_is_shape : chkEntry pk e_is_shape = true := by decide +kernel
theorem chk_is_lot : chkEntry pk e_is_lot = true := by decide +kernel
theorem chk_is_plate : chkEntry pk e_is_plate = true := by decide +kernel
theorem chk_is_section : chkEntry pk e_is_section = true := by decide +kernel
theorem chk_is_polygon : chkEntry pk e_is_polygon = true := by decide +kernel
theorem chk__law_urn : chkEntry pk e__law_urn = true := by decide +kernel
theorem chk__law_pull : chkEntry pk e__law_pull = true := by decide +kernel
theorem chk__law_any : chkEntry pk e__law_any = true := by decide +kernel
theorem chk__law_num : chkEntry pk e__law_num = true := by decide +kernel
theorem chk__law_laps : chkEntry pk e__law_laps = true := by decide +kernel
theorem chk__law_gcd : chkEntry pk e__law_gcd = true := by decide +kernel
theorem chk__law_thin : chkEntry pk e__law_thin = true := by decide +kernel
theorem chk__law_frac : chkEntry pk e__law_frac = true := by decide +kernel
theorem chk__law_add : chkEntry pk e__law_add = true := by decide +kernel
theorem chk__law_sign : chkEntry pk e__law_sign = true := by decide +kernel
theorem chk__law_spot : chkEntry pk e__law_spot = true := by decide +kernel
theorem chk__law_way : chkEntry pk e__law_way = true := by decide +kernel
theorem chk__law_on : chkEntry pk e__law_on = true := by decide +kernel
theorem chk__law_by : chkEntry pk e__law_by = true := by decide +kernel
theorem chk__law_cross : chkEntry pk e__law_cross = true := by decide +kernel
theorem chk__law_side : chkEntry pk e__law_side = true := by decide +kernel
theorem chk__law_is_whole : chkEntry pk e__law_is_whole = true := by decide +kernel
theorem chk__law_are_whole : chkEntry pk e__law_are_whole = true := by decide +kernel
theorem chk__law_is_spot : chkEntry pk e__law_is_spot = true := by decide +kernel
theorem chk__law_before : chkEntry pk e__law_before = true := by decide +kernel
theorem chk__law_sorted : chkEntry pk e__law_sorted = true := by decide +kernel
theorem chk__law_hull : chkEntry pk e__law_hull = true := by decide +kernel
theorem chk__law_middle : chkEntry pk e__law_middle = true := by decide +kernel
theorem chk__law_plate : chkEntry pk e__law_plate = true := by decide +kernel
theorem chk__law_next : chkEntry pk e__law_next = true := by decide +kernel
theorem chk__law_edge : chkEntry pk e__law_edge = true := by decide +kernel
theorem chk__law_is_shape : chkEntry pk e__law_is_shape = true := by decide +kernel
theorem chk__law_bent : chkEntry pk e__law_bent = true := by decide +kernel
theorem chk__law_odd : chkEntry pk e__law_odd = true := by decide +kernel
theorem chk__law_right : chkEntry pk e__law_right = true := by decide +kernel
theorem chk_law : chkEntry pk e_law = true := by decide +kernel
theorem tab_ok {Q : String → Pl.Entry → Prop} (h_is_whole : Q "is_whole" e_is_whole) (h_are_wholes : Q "are_wholes" e_are_wholes) (h_divisor_of : Q "divisor_of" e_divisor_of) (h_is_reduced : Q "is_reduced" e_is_reduced) (h_multiple_of : Q "multiple_of" e_multiple_of) (h_is_vector : Q "is_vector" e_is_vector) (h_vector : Q "vector" e_vector) (h_on_grid : Q "on_grid" e_on_grid) (h_bends_left : Q "bends_left" e_bends_left) (h_bend_chain : Q "bend_chain" e_bend_chain) (h_hull : Q "hull" e_hull) (h_is_shape : Q "is_shape" e_is_shape) (h_is_lot : Q "is_lot" e_is_lot) (h_is_plate : Q "is_plate" e_is_plate) (h_is_section : Q "is_section" e_is_section) (h_is_polygon : Q "is_polygon" e_is_polygon) (h__law_urn : Q "_law_urn" e__law_urn) (h__law_pull : Q "_law_pull" e__law_pull) (h__law_any : Q "_law_any" e__law_any) (h__law_num : Q "_law_num" e__law_num) (h__law_laps : Q "_law_laps" e__law_laps) (h__law_gcd : Q "_law_gcd" e__law_gcd) (h__law_thin : Q "_law_thin" e__law_thin) (h__law_frac : Q "_law_frac" e__law_frac) (h__law_add : Q "_law_add" e__law_add) (h__law_sign : Q "_law_sign" e__law_sign) (h__law_spot : Q "_law_spot" e__law_spot) (h__law_way : Q "_law_way" e__law_way) (h__law_on : Q "_law_on" e__law_on) (h__law_by : Q "_law_by" e__law_by) (h__law_cross : Q "_law_cross" e__law_cross) (h__law_side : Q "_law_side" e__law_side) (h__law_is_whole : Q "_law_is_whole" e__law_is_whole) (h__law_are_whole : Q "_law_are_whole" e__law_are_whole) (h__law_is_spot : Q "_law_is_spot" e__law_is_spot) (h__law_before : Q "_law_before" e__law_before) (h__law_sorted : Q "_law_sorted" e__law_sorted) (h__law_hull : Q "_law_hull" e__law_hull) (h__law_middle : Q "_law_middle" e__law_middle) (h__law_plate : Q "_law_plate" e__law_plate) (h__law_next : Q "_law_next" e__law_next) (h__law_edge : Q "_law_edge" e__law_edge) (h__law_is_shape : Q "_law_is_shape" e__law_is_shape) (h__law_bent : Q "_law_bent" e__law_bent) (h__law_odd : Q "_law_odd" e__law_odd) (h__law_right : Q "_law_right" e__law_right) (h_law : Q "law" e_law) : ∀ f e, pk.T f = some e → Q f e := by
  intro f e h
  exact lookup_all (l := tab) (by
    unfold tab
    simp only [List.forall_mem_cons, List.not_mem_nil, false_implies, implies_true, and_true]
    exact ⟨h_is_whole, h_are_wholes, h_divisor_of, h_is_reduced, h_multiple_of, h_is_vector, h_vector, h_on_grid, h_bends_left, h_bend_chain, h_hull, h_is_shape, h_is_lot, h_is_plate, h_is_section, h_is_polygon, h__law_urn, h__law_pull, h__law_any, h__law_num, h__law_laps, h__law_gcd, h__law_thin, h__law_frac, h__law_add, h__law_sign, h__law_spot, h__law_way, h__law_on, h__law_by, h__law_cross, h__law_side, h__law_is_whole, h__law_are_whole, h__law_is_spot, h__law_before, h__law_sorted, h__law_hull, h__law_middle, h__law_plate, h__law_next, h__law_edge, h__law_is_shape, h__law_bent, h__law_odd, h__law_right, h_law⟩) f e h
theorem chk_all : ∀ f e, pk.T f = some e → chkEntry pk e = true := tab_ok (Q := fun _ e => chkEntry pk e = true) chk_is_whole chk_are_wholes chk_divisor_of chk_is_reduced chk_multiple_of chk_is_vector chk_vector chk_on_grid chk_bends_left chk_bend_chain chk_hull chk_is_shape chk_is_lot chk_is_plate chk_is_section chk_is_polygon chk__law_urn chk__law_pull chk__law_any chk__law_num chk__law_laps chk__law_gcd chk__law_thin chk__law_frac chk__law_add chk__law_sign chk__law_spot chk__law_way chk__law_on chk__law_by chk__law_cross chk__law_side chk__law_is_whole chk__law_are_whole chk__law_is_spot chk__law_before chk__law_sorted chk__law_hull chk__law_middle chk__law_plate chk__law_next chk__law_edge chk__law_is_shape chk__law_bent chk__law_odd chk__law_right chk_law
theorem bind_is_whole : BindOk "is_whole" e_is_whole where
  pos := fun _ _ _ _ _ _ us hl => match us, hl with | [_], _ => rfl
  kw := fun q hq => by cases hq
theorem bind_are_wholes : BindOk "are_wholes" e_are_wholes where
  pos := fun _ _ _ _ _ _ us hl => match us, hl with | [_, _], _ => rfl
  kw := fun q hq => by cases hq
theorem bind_divisor_of : BindOk "divisor_of" e_divisor_of where
  pos := fun _ _ _ _ _ _ us hl => match us, hl with | [_], _ => rfl
  kw := fun q hq => by cases hq
theorem bind_is_reduced : BindOk "is_reduced" e_is_reduced where
  pos := fun _ _ _ _ _ _ us hl => match us, hl with | [_], _ => rfl
  kw := fun q hq => by cases hq
theorem bind_multiple_of : BindOk "multiple_of" e_multiple_of where
  pos := fun _ _ _ _ _ _ us hl => match us, hl with | [_, _], _ => rfl
  kw := fun q hq => by cases hq
theorem bind_is_vector : BindOk "is_vector" e_is_vector where
  pos := fun _ _ _ _ _ _ us hl => match us, hl with | [_], _ => rfl
  kw := fun q hq => by cases hq
theorem bind_vector : BindOk "vector" e_vector where
  pos := fun _ _ _ _ _ _ us hl => match us, hl with | [_, _, _], _ => rfl
  kw := fun q hq => by cases hq
theorem bind_on_grid : BindOk "on_grid" e_on_grid where
  pos := fun _ _ _ _ _ _ us hl => match us, hl with | [_], _ => rfl
  kw := fun q hq => by cases hq
theorem bind_bends_left : BindOk "bends_left" e_bends_left where
  pos := fun _ _ _ _ _ _ us hl => match us, hl with | [_, _, _], _ => rfl
  kw := fun q hq => by cases hq
theorem bind_bend_chain : BindOk "bend_chain" e_bend_chain where
  pos := fun _ _ _ _ _ _ us hl => match us, hl with | [_], _ => rfl
  kw := fun q hq => by cases hq
theorem bind_hull : BindOk "hull" e_hull where
  pos := fun _ _ _ _ _ _ us hl => match us, hl with | [_], _ => rfl
  kw := fun q hq => by cases hq
theorem bind_is_shape : BindOk "is_shape" e_is_shape where
  pos := fun _ _ _ _ _ _ us hl => match us, hl with | [_], _ => rfl
  kw := fun q hq => by cases hq
theorem bind_is_lot : BindOk "is_lot" e_is_lot where
  pos := fun _ _ _ _ _ _ us hl => match us, hl with | [_], _ => rfl
  kw := fun q hq => by cases hq
theorem bind_is_plate : BindOk "is_plate" e_is_plate where
  pos := fun _ _ _ _ _ _ us hl => match us, hl with | [_], _ => rfl
  kw := fun q hq => by cases hq
theorem bind_is_section : BindOk "is_section" e_is_section where
  pos := fun _ _ _ _ _ _ us hl => match us, hl with | [_], _ => rfl
  kw := fun q hq => by
    simp only [e_is_section, List.mem_cons, List.not_mem_nil, or_false] at hq
    subst hq
    · exact fun _ _ _ _ _ _ us ws h1 h2 => match us, ws, h1, h2 with | [], [_], _, _ => rfl
theorem bind_is_polygon : BindOk "is_polygon" e_is_polygon where
  pos := fun _ _ _ _ _ _ us hl => match us, hl with | [_], _ => rfl
  kw := fun q hq => by
    simp only [e_is_polygon, List.mem_cons, List.not_mem_nil, or_false] at hq
    subst hq
    · exact fun _ _ _ _ _ _ us ws h1 h2 => match us, ws, h1, h2 with | [], [_], _, _ => rfl
theorem bind__law_urn : BindOk "_law_urn" e__law_urn where
  pos := fun _ _ _ _ _ _ us hl => match us, hl with | [_, _], _ => rfl
  kw := fun q hq => by cases hq
theorem bind__law_pull : BindOk "_law_pull" e__law_pull where
  pos := fun _ _ _ _ _ _ us hl => match us, hl with | [_, _], _ => rfl
  kw := fun q hq => by cases hq
theorem bind__law_any : BindOk "_law_any" e__law_any where
  pos := fun _ _ _ _ _ _ us hl => match us, hl with | [_, _], _ => rfl
  kw := fun q hq => by cases hq
theorem bind__law_num : BindOk "_law_num" e__law_num where
  pos := fun _ _ _ _ _ _ us hl => match us, hl with | [_, _], _ => rfl
  kw := fun q hq => by cases hq
theorem bind__law_laps : BindOk "_law_laps" e__law_laps where
  pos := fun _ _ _ _ _ _ us hl => match us, hl with | [_], _ => rfl
  kw := fun q hq => by cases hq
theorem bind__law_gcd : BindOk "_law_gcd" e__law_gcd where
  pos := fun _ _ _ _ _ _ us hl => match us, hl with | [_, _], _ => rfl
  kw := fun q hq => by cases hq
theorem bind__law_thin : BindOk "_law_thin" e__law_thin where
  pos := fun _ _ _ _ _ _ us hl => match us, hl with | [_], _ => rfl
  kw := fun q hq => by cases hq
theorem bind__law_frac : BindOk "_law_frac" e__law_frac where
  pos := fun _ _ _ _ _ _ us hl => match us, hl with | [_, _], _ => rfl
  kw := fun q hq => by cases hq
theorem bind__law_add : BindOk "_law_add" e__law_add where
  pos := fun _ _ _ _ _ _ us hl => match us, hl with | [_, _], _ => rfl
  kw := fun q hq => by cases hq
theorem bind__law_sign : BindOk "_law_sign" e__law_sign where
  pos := fun _ _ _ _ _ _ us hl => match us, hl with | [_], _ => rfl
  kw := fun q hq => by cases hq
theorem bind__law_spot : BindOk "_law_spot" e__law_spot where
  pos := fun _ _ _ _ _ _ us hl => match us, hl with | [_, _, _], _ => rfl
  kw := fun q hq => by cases hq
theorem bind__law_way : BindOk "_law_way" e__law_way where
  pos := fun _ _ _ _ _ _ us hl => match us, hl with | [_, _], _ => rfl
  kw := fun q hq => by cases hq
theorem bind__law_on : BindOk "_law_on" e__law_on where
  pos := fun _ _ _ _ _ _ us hl => match us, hl with | [_, _], _ => rfl
  kw := fun q hq => by cases hq
theorem bind__law_by : BindOk "_law_by" e__law_by where
  pos := fun _ _ _ _ _ _ us hl => match us, hl with | [_, _], _ => rfl
  kw := fun q hq => by cases hq
theorem bind__law_cross : BindOk "_law_cross" e__law_cross where
  pos := fun _ _ _ _ _ _ us hl => match us, hl with | [_, _], _ => rfl
  kw := fun q hq => by cases hq
theorem bind__law_side : BindOk "_law_side" e__law_side where
  pos := fun _ _ _ _ _ _ us hl => match us, hl with | [_, _, _], _ => rfl
  kw := fun q hq => by cases hq
theorem bind__law_is_whole : BindOk "_law_is_whole" e__law_is_whole where
  pos := fun _ _ _ _ _ _ us hl => match us, hl with | [_], _ => rfl
  kw := fun q hq => by cases hq
theorem bind__law_are_whole : BindOk "_law_are_whole" e__law_are_whole where
  pos := fun _ _ _ _ _ _ us hl => match us, hl with | [_, _], _ => rfl
  kw := fun q hq => by cases hq
theorem bind__law_is_spot : BindOk "_law_is_spot" e__law_is_spot where
  pos := fun _ _ _ _ _ _ us hl => match us, hl with | [_], _ => rfl
  kw := fun q hq => by cases hq
theorem bind__law_before : BindOk "_law_before" e__law_before where
  pos := fun _ _ _ _ _ _ us hl => match us, hl with | [_, _], _ => rfl
  kw := fun q hq => by cases hq
theorem bind__law_sorted : BindOk "_law_sorted" e__law_sorted where
  pos := fun _ _ _ _ _ _ us hl => match us, hl with | [_], _ => rfl
  kw := fun q hq => by cases hq
theorem bind__law_hull : BindOk "_law_hull" e__law_hull where
  pos := fun _ _ _ _ _ _ us hl => match us, hl with | [_], _ => rfl
  kw := fun q hq => by cases hq
theorem bind__law_middle : BindOk "_law_middle" e__law_middle where
  pos := fun _ _ _ _ _ _ us hl => match us, hl with | [_], _ => rfl
  kw := fun q hq => by cases hq
theorem bind__law_plate : BindOk "_law_plate" e__law_plate where
  pos := fun _ _ _ _ _ _ us hl => match us, hl with | [_], _ => rfl
  kw := fun q hq => by cases hq
theorem bind__law_next : BindOk "_law_next" e__law_next where
  pos := fun _ _ _ _ _ _ us hl => match us, hl with | [_, _], _ => rfl
  kw := fun q hq => by cases hq
theorem bind__law_edge : BindOk "_law_edge" e__law_edge where
  pos := fun _ _ _ _ _ _ us hl => match us, hl with | [_, _], _ => rfl
  kw := fun q hq => by cases hq
theorem bind__law_is_shape : BindOk "_law_is_shape" e__law_is_shape where
  pos := fun _ _ _ _ _ _ us hl => match us, hl with | [_], _ => rfl
  kw := fun q hq => by cases hq
theorem bind__law_bent : BindOk "_law_bent" e__law_bent where
  pos := fun _ _ _ _ _ _ us hl => match us, hl with | [_, _], _ => rfl
  kw := fun q hq => by cases hq
theorem bind__law_odd : BindOk "_law_odd" e__law_odd where
  pos := fun _ _ _ _ _ _ us hl => match us, hl with | [_, _], _ => rfl
  kw := fun q hq => by cases hq
theorem bind__law_right : BindOk "_law_right" e__law_right where
  pos := fun _ _ _ _ _ _ us hl => match us, hl with | [_], _ => rfl
  kw := fun q hq => by cases hq
theorem bind_law : BindOk "law" e_law where
  pos := fun _ _ _ _ _ _ us hl => match us, hl with | [_], _ => rfl
  kw := fun q hq => by cases hq
section
open PySem.W
theorem facts {K : PySem.W.Frag} {h : Heap} {mg : Str → Option Value} (X : K.In h) (G : h.Ns mainGlobals mg)
    {f0 f1 f2 f3 f4 f5 f6 f7 f8 f9 f10 f11 f12 f13 f14 f15 f16 f17 f18 f19 f20 f21 f22 f23 f24 f25 f26 f27 f28 f29 f30 f31 f32 f33 f34 f35 f36 f37 f38 f39 f40 f41 f42 f43 f44 f45 f46 : Addr} {od0 an0 od1 an1 od2 an2 od3 an3 od4 an4 od5 an5 od6 an6 od7 an7 od8 an8 od9 an9 od10 an10 od11 an11 od12 an12 od13 an13 od14 an14 od15 an15 od16 an16 od17 an17 od18 an18 od19 an19 od20 an20 od21 an21 od22 an22 od23 an23 od24 an24 od25 an25 od26 an26 od27 an27 od28 an28 od29 an29 od30 an30 od31 an31 od32 an32 od33 an33 od34 an34 od35 an35 od36 an36 od37 an37 od38 an38 od39 an39 od40 an40 od41 an41 od42 an42 od43 an43 od44 an44 od45 an45 od46 an46 : Option Addr} {sl0 sl1 sl2 sl3 sl4 sl5 sl6 sl7 sl8 sl9 sl10 sl11 sl12 sl13 sl14 sl15 sl16 sl17 sl18 sl19 sl20 sl21 sl22 sl23 sl24 sl25 sl26 sl27 sl28 sl29 sl30 sl31 sl32 sl33 sl34 sl35 sl36 sl37 sl38 sl39 sl40 sl41 sl42 sl43 sl44 sl45 sl46 : Array (Option Value)} {oc0 kV0 dc0 pm0 cd0 ct0 oc1 kV1 dc1 pm1 cd1 ct1 oc2 kV2 dc2 pm2 cd2 ct2 oc3 kV3 dc3 pm3 cd3 ct3 oc4 kV4 dc4 pm4 cd4 ct4 oc5 kV5 dc5 pm5 cd5 ct5 oc6 kV6 dc6 pm6 cd6 ct6 oc7 kV7 dc7 pm7 cd7 ct7 oc8 kV8 dc8 pm8 cd8 ct8 oc9 kV9 dc9 pm9 cd9 ct9 oc10 kV10 dc10 pm10 cd10 ct10 oc11 kV11 dc11 pm11 cd11 ct11 oc12 kV12 dc12 pm12 cd12 ct12 oc13 kV13 dc13 pm13 cd13 ct13 oc14 kV14 dc14 pm14 cd14 ct14 oc15 kV15 dc15 pm15 cd15 ct15 oc16 kV16 dc16 pm16 cd16 ct16 oc17 kV17 dc17 pm17 cd17 ct17 oc18 kV18 dc18 pm18 cd18 ct18 oc19 kV19 dc19 pm19 cd19 ct19 oc20 kV20 dc20 pm20 cd20 ct20 oc21 kV21 dc21 pm21 cd21 ct21 oc22 kV22 dc22 pm22 cd22 ct22 oc23 kV23 dc23 pm23 cd23 ct23 oc24 kV24 dc24 pm24 cd24 ct24 oc25 kV25 dc25 pm25 cd25 ct25 oc26 kV26 dc26 pm26 cd26 ct26 oc27 kV27 dc27 pm27 cd27 ct27 oc28 kV28 dc28 pm28 cd28 ct28 oc29 kV29 dc29 pm29 cd29 ct29 oc30 kV30 dc30 pm30 cd30 ct30 oc31 kV31 dc31 pm31 cd31 ct31 oc32 kV32 dc32 pm32 cd32 ct32 oc33 kV33 dc33 pm33 cd33 ct33 oc34 kV34 dc34 pm34 cd34 ct34 oc35 kV35 dc35 pm35 cd35 ct35 oc36 kV36 dc36 pm36 cd36 ct36 oc37 kV37 dc37 pm37 cd37 ct37 oc38 kV38 dc38 pm38 cd38 ct38 oc39 kV39 dc39 pm39 cd39 ct39 oc40 kV40 dc40 pm40 cd40 ct40 oc41 kV41 dc41 pm41 cd41 ct41 oc42 kV42 dc42 pm42 cd42 ct42 oc43 kV43 dc43 pm43 cd43 ct43 oc44 kV44 dc44 pm44 cd44 ct44 oc45 kV45 dc45 pm45 cd45 ct45 oc46 kV46 dc46 pm46 cd46 ct46 : Value}
    (a0 : PySem.W.nsIn K mainGlobals "is_whole" = some (some (.ref f0))) (l0 : K.lookup f0 = some ⟨oc0, od0, .func (PySem.W.fnOf "is_whole" "is_whole" (L2.defArgs (top 2)) (L2.defBody (top 2)) (L2.defScope (top 2)) .none kV0 dc0 pm0 an0 cd0 ct0), sl0⟩) (c0 : PySem.W.codeIn K cd0 "is_whole" = true) (k0 : PySem.W.keepIn K (.ref f0) = true)
    (a1 : PySem.W.nsIn K mainGlobals "are_wholes" = some (some (.ref f1))) (l1 : K.lookup f1 = some ⟨oc1, od1, .func (PySem.W.fnOf "are_wholes" "are_wholes" (L2.defArgs (top 3)) (L2.defBody (top 3)) (L2.defScope (top 3)) .none kV1 dc1 pm1 an1 cd1 ct1), sl1⟩) (c1 : PySem.W.codeIn K cd1 "are_wholes" = true) (k1 : PySem.W.keepIn K (.ref f1) = true)
    (a2 : PySem.W.nsIn K mainGlobals "divisor_of" = some (some (.ref f2))) (l2 : K.lookup f2 = some ⟨oc2, od2, .func (PySem.W.fnOf "divisor_of" "divisor_of" (L2.defArgs (top 4)) (L2.defBody (top 4)) (L2.defScope (top 4)) .none kV2 dc2 pm2 an2 cd2 ct2), sl2⟩) (c2 : PySem.W.codeIn K cd2 "divisor_of" = true) (k2 : PySem.W.keepIn K (.ref f2) = true)
    (a3 : PySem.W.nsIn K mainGlobals "is_reduced" = some (some (.ref f3))) (l3 : K.lookup f3 = some ⟨oc3, od3, .func (PySem.W.fnOf "is_reduced" "is_reduced" (L2.defArgs (top 5)) (L2.defBody (top 5)) (L2.defScope (top 5)) .none kV3 dc3 pm3 an3 cd3 ct3), sl3⟩) (c3 : PySem.W.codeIn K cd3 "is_reduced" = true) (k3 : PySem.W.keepIn K (.ref f3) = true)
    (a4 : PySem.W.nsIn K mainGlobals "multiple_of" = some (some (.ref f4))) (l4 : K.lookup f4 = some ⟨oc4, od4, .func (PySem.W.fnOf "multiple_of" "multiple_of" (L2.defArgs (top 6)) (L2.defBody (top 6)) (L2.defScope (top 6)) .none kV4 dc4 pm4 an4 cd4 ct4), sl4⟩) (c4 : PySem.W.codeIn K cd4 "multiple_of" = true) (k4 : PySem.W.keepIn K (.ref f4) = true)
    (a5 : PySem.W.nsIn K mainGlobals "is_vector" = some (some (.ref f5))) (l5 : K.lookup f5 = some ⟨oc5, od5, .func (PySem.W.fnOf "is_vector" "is_vector" (L2.defArgs (top 8)) (L2.defBody (top 8)) (L2.defScope (top 8)) .none kV5 dc5 pm5 an5 cd5 ct5), sl5⟩) (c5 : PySem.W.codeIn K cd5 "is_vector" = true) (k5 : PySem.W.keepIn K (.ref f5) = true)
    (a6 : PySem.W.nsIn K mainGlobals "vector" = some (some (.ref f6))) (l6 : K.lookup f6 = some ⟨oc6, od6, .func (PySem.W.fnOf "vector" "vector" (L2.defArgs (top 9)) (L2.defBody (top 9)) (L2.defScope (top 9)) .none kV6 dc6 pm6 an6 cd6 ct6), sl6⟩) (c6 : PySem.W.codeIn K cd6 "vector" = true) (k6 : PySem.W.keepIn K (.ref f6) = true)
    (a7 : PySem.W.nsIn K mainGlobals "on_grid" = some (some (.ref f7))) (l7 : K.lookup f7 = some ⟨oc7, od7, .func (PySem.W.fnOf "on_grid" "on_grid" (L2.defArgs (top 12)) (L2.defBody (top 12)) (L2.defScope (top 12)) .none kV7 dc7 pm7 an7 cd7 ct7), sl7⟩) (c7 : PySem.W.codeIn K cd7 "on_grid" = true) (k7 : PySem.W.keepIn K (.ref f7) = true)
    (a8 : PySem.W.nsIn K mainGlobals "bends_left" = some (some (.ref f8))) (l8 : K.lookup f8 = some ⟨oc8, od8, .func (PySem.W.fnOf "bends_left" "bends_left" (L2.defArgs (top 13)) (L2.defBody (top 13)) (L2.defScope (top 13)) .none kV8 dc8 pm8 an8 cd8 ct8), sl8⟩) (c8 : PySem.W.codeIn K cd8 "bends_left" = true) (k8 : PySem.W.keepIn K (.ref f8) = true)
    (a9 : PySem.W.nsIn K mainGlobals "bend_chain" = some (some (.ref f9))) (l9 : K.lookup f9 = some ⟨oc9, od9, .func (PySem.W.fnOf "bend_chain" "bend_chain" (L2.defArgs (top 14)) (L2.defBody (top 14)) (L2.defScope (top 14)) .none kV9 dc9 pm9 an9 cd9 ct9), sl9⟩) (c9 : PySem.W.codeIn K cd9 "bend_chain" = true) (k9 : PySem.W.keepIn K (.ref f9) = true)
    (a10 : PySem.W.nsIn K mainGlobals "hull" = some (some (.ref f10))) (l10 : K.lookup f10 = some ⟨oc10, od10, .func (PySem.W.fnOf "hull" "hull" (L2.defArgs (top 15)) (L2.defBody (top 15)) (L2.defScope (top 15)) .none kV10 dc10 pm10 an10 cd10 ct10), sl10⟩) (c10 : PySem.W.codeIn K cd10 "hull" = true) (k10 : PySem.W.keepIn K (.ref f10) = true)
    (a11 : PySem.W.nsIn K mainGlobals "is_shape" = some (some (.ref f11))) (l11 : K.lookup f11 = some ⟨oc11, od11, .func (PySem.W.fnOf "is_shape" "is_shape" (L2.defArgs (top 16)) (L2.defBody (top 16)) (L2.defScope (top 16)) .none kV11 dc11 pm11 an11 cd11 ct11), sl11⟩) (c11 : PySem.W.codeIn K cd11 "is_shape" = true) (k11 : PySem.W.keepIn K (.ref f11) = true)
    (a12 : PySem.W.nsIn K mainGlobals "is_lot" = some (some (.ref f12))) (l12 : K.lookup f12 = some ⟨oc12, od12, .func (PySem.W.fnOf "is_lot" "is_lot" (L2.defArgs (top 17)) (L2.defBody (top 17)) (L2.defScope (top 17)) .none kV12 dc12 pm12 an12 cd12 ct12), sl12⟩) (c12 : PySem.W.codeIn K cd12 "is_lot" = true) (k12 : PySem.W.keepIn K (.ref f12) = true)
    (a13 : PySem.W.nsIn K mainGlobals "is_plate" = some (some (.ref f13))) (l13 : K.lookup f13 = some ⟨oc13, od13, .func (PySem.W.fnOf "is_plate" "is_plate" (L2.defArgs (top 18)) (L2.defBody (top 18)) (L2.defScope (top 18)) .none kV13 dc13 pm13 an13 cd13 ct13), sl13⟩) (c13 : PySem.W.codeIn K cd13 "is_plate" = true) (k13 : PySem.W.keepIn K (.ref f13) = true)
    (a14 : PySem.W.nsIn K mainGlobals "is_section" = some (some (.ref f14))) (l14 : K.lookup f14 = some ⟨oc14, od14, .func (PySem.W.fnOf "is_section" "is_section" (L2.defArgs (top 20)) (L2.defBody (top 20)) (L2.defScope (top 20)) .none kV14 dc14 pm14 an14 cd14 ct14), sl14⟩) (c14 : PySem.W.codeIn K cd14 "is_section" = true) (k14 : PySem.W.keepIn K (.ref f14) = true)
    (a15 : PySem.W.nsIn K mainGlobals "is_polygon" = some (some (.ref f15))) (l15 : K.lookup f15 = some ⟨oc15, od15, .func (PySem.W.fnOf "is_polygon" "is_polygon" (L2.defArgs (top 21)) (L2.defBody (top 21)) (L2.defScope (top 21)) .none kV15 dc15 pm15 an15 cd15 ct15), sl15⟩) (c15 : PySem.W.codeIn K cd15 "is_polygon" = true) (k15 : PySem.W.keepIn K (.ref f15) = true)
    (a16 : PySem.W.nsIn K mainGlobals "_law_urn" = some (some (.ref f16))) (l16 : K.lookup f16 = some ⟨oc16, od16, .func (PySem.W.fnOf "_law_urn" "_law_urn" (L2.defArgs (top 23)) (L2.defBody (top 23)) (L2.defScope (top 23)) .none kV16 dc16 pm16 an16 cd16 ct16), sl16⟩) (c16 : PySem.W.codeIn K cd16 "_law_urn" = true) (k16 : PySem.W.keepIn K (.ref f16) = true)
    (a17 : PySem.W.nsIn K mainGlobals "_law_pull" = some (some (.ref f17))) (l17 : K.lookup f17 = some ⟨oc17, od17, .func (PySem.W.fnOf "_law_pull" "_law_pull" (L2.defArgs (top 24)) (L2.defBody (top 24)) (L2.defScope (top 24)) .none kV17 dc17 pm17 an17 cd17 ct17), sl17⟩) (c17 : PySem.W.codeIn K cd17 "_law_pull" = true) (k17 : PySem.W.keepIn K (.ref f17) = true)
    (a18 : PySem.W.nsIn K mainGlobals "_law_any" = some (some (.ref f18))) (l18 : K.lookup f18 = some ⟨oc18, od18, .func (PySem.W.fnOf "_law_any" "_law_any" (L2.defArgs (top 25)) (L2.defBody (top 25)) (L2.defScope (top 25)) .none kV18 dc18 pm18 an18 cd18 ct18), sl18⟩) (c18 : PySem.W.codeIn K cd18 "_law_any" = true) (k18 : PySem.W.keepIn K (.ref f18) = true)
    (a19 : PySem.W.nsIn K mainGlobals "_law_num" = some (some (.ref f19))) (l19 : K.lookup f19 = some ⟨oc19, od19, .func (PySem.W.fnOf "_law_num" "_law_num" (L2.defArgs (top 26)) (L2.defBody (top 26)) (L2.defScope (top 26)) .none kV19 dc19 pm19 an19 cd19 ct19), sl19⟩) (c19 : PySem.W.codeIn K cd19 "_law_num" = true) (k19 : PySem.W.keepIn K (.ref f19) = true)
    (a20 : PySem.W.nsIn K mainGlobals "_law_laps" = some (some (.ref f20))) (l20 : K.lookup f20 = some ⟨oc20, od20, .func (PySem.W.fnOf "_law_laps" "_law_laps" (L2.defArgs (top 27)) (L2.defBody (top 27)) (L2.defScope (top 27)) .none kV20 dc20 pm20 an20 cd20 ct20), sl20⟩) (c20 : PySem.W.codeIn K cd20 "_law_laps" = true) (k20 : PySem.W.keepIn K (.ref f20) = true)
    (a21 : PySem.W.nsIn K mainGlobals "_law_gcd" = some (some (.ref f21))) (l21 : K.lookup f21 = some ⟨oc21, od21, .func (PySem.W.fnOf "_law_gcd" "_law_gcd" (L2.defArgs (top 28)) (L2.defBody (top 28)) (L2.defScope (top 28)) .none kV21 dc21 pm21 an21 cd21 ct21), sl21⟩) (c21 : PySem.W.codeIn K cd21 "_law_gcd" = true) (k21 : PySem.W.keepIn K (.ref f21) = true)
    (a22 : PySem.W.nsIn K mainGlobals "_law_thin" = some (some (.ref f22))) (l22 : K.lookup f22 = some ⟨oc22, od22, .func (PySem.W.fnOf "_law_thin" "_law_thin" (L2.defArgs (top 29)) (L2.defBody (top 29)) (L2.defScope (top 29)) .none kV22 dc22 pm22 an22 cd22 ct22), sl22⟩) (c22 : PySem.W.codeIn K cd22 "_law_thin" = true) (k22 : PySem.W.keepIn K (.ref f22) = true)
    (a23 : PySem.W.nsIn K mainGlobals "_law_frac" = some (some (.ref f23))) (l23 : K.lookup f23 = some ⟨oc23, od23, .func (PySem.W.fnOf "_law_frac" "_law_frac" (L2.defArgs (top 30)) (L2.defBody (top 30)) (L2.defScope (top 30)) .none kV23 dc23 pm23 an23 cd23 ct23), sl23⟩) (c23 : PySem.W.codeIn K cd23 "_law_frac" = true) (k23 : PySem.W.keepIn K (.ref f23) = true)
    (a24 : PySem.W.nsIn K mainGlobals "_law_add" = some (some (.ref f24))) (l24 : K.lookup f24 = some ⟨oc24, od24, .func (PySem.W.fnOf "_law_add" "_law_add" (L2.defArgs (top 31)) (L2.defBody (top 31)) (L2.defScope (top 31)) .none kV24 dc24 pm24 an24 cd24 ct24), sl24⟩) (c24 : PySem.W.codeIn K cd24 "_law_add" = true) (k24 : PySem.W.keepIn K (.ref f24) = true)
    (a25 : PySem.W.nsIn K mainGlobals "_law_sign" = some (some (.ref f25))) (l25 : K.lookup f25 = some ⟨oc25, od25, .func (PySem.W.fnOf "_law_sign" "_law_sign" (L2.defArgs (top 32)) (L2.defBody (top 32)) (L2.defScope (top 32)) .none kV25 dc25 pm25 an25 cd25 ct25), sl25⟩) (c25 : PySem.W.codeIn K cd25 "_law_sign" = true) (k25 : PySem.W.keepIn K (.ref f25) = true)
    (a26 : PySem.W.nsIn K mainGlobals "_law_spot" = some (some (.ref f26))) (l26 : K.lookup f26 = some ⟨oc26, od26, .func (PySem.W.fnOf "_law_spot" "_law_spot" (L2.defArgs (top 33)) (L2.defBody (top 33)) (L2.defScope (top 33)) .none kV26 dc26 pm26 an26 cd26 ct26), sl26⟩) (c26 : PySem.W.codeIn K cd26 "_law_spot" = true) (k26 : PySem.W.keepIn K (.ref f26) = true)
    (a27 : PySem.W.nsIn K mainGlobals "_law_way" = some (some (.ref f27))) (l27 : K.lookup f27 = some ⟨oc27, od27, .func (PySem.W.fnOf "_law_way" "_law_way" (L2.defArgs (top 34)) (L2.defBody (top 34)) (L2.defScope (top 34)) .none kV27 dc27 pm27 an27 cd27 ct27), sl27⟩) (c27 : PySem.W.codeIn K cd27 "_law_way" = true) (k27 : PySem.W.keepIn K (.ref f27) = true)
    (a28 : PySem.W.nsIn K mainGlobals "_law_on" = some (some (.ref f28))) (l28 : K.lookup f28 = some ⟨oc28, od28, .func (PySem.W.fnOf "_law_on" "_law_on" (L2.defArgs (top 35)) (L2.defBody (top 35)) (L2.defScope (top 35)) .none kV28 dc28 pm28 an28 cd28 ct28), sl28⟩) (c28 : PySem.W.codeIn K cd28 "_law_on" = true) (k28 : PySem.W.keepIn K (.ref f28) = true)
    (a29 : PySem.W.nsIn K mainGlobals "_law_by" = some (some (.ref f29))) (l29 : K.lookup f29 = some ⟨oc29, od29, .func (PySem.W.fnOf "_law_by" "_law_by" (L2.defArgs (top 36)) (L2.defBody (top 36)) (L2.defScope (top 36)) .none kV29 dc29 pm29 an29 cd29 ct29), sl29⟩) (c29 : PySem.W.codeIn K cd29 "_law_by" = true) (k29 : PySem.W.keepIn K (.ref f29) = true)
    (a30 : PySem.W.nsIn K mainGlobals "_law_cross" = some (some (.ref f30))) (l30 : K.lookup f30 = some ⟨oc30, od30, .func (PySem.W.fnOf "_law_cross" "_law_cross" (L2.defArgs (top 37)) (L2.defBody (top 37)) (L2.defScope (top 37)) .none kV30 dc30 pm30 an30 cd30 ct30), sl30⟩) (c30 : PySem.W.codeIn K cd30 "_law_cross" = true) (k30 : PySem.W.keepIn K (.ref f30) = true)
    (a31 : PySem.W.nsIn K mainGlobals "_law_side" = some (some (.ref f31))) (l31 : K.lookup f31 = some ⟨oc31, od31, .func (PySem.W.fnOf "_law_side" "_law_side" (L2.defArgs (top 38)) (L2.defBody (top 38)) (L2.defScope (top 38)) .none kV31 dc31 pm31 an31 cd31 ct31), sl31⟩) (c31 : PySem.W.codeIn K cd31 "_law_side" = true) (k31 : PySem.W.keepIn K (.ref f31) = true)
    (a32 : PySem.W.nsIn K mainGlobals "_law_is_whole" = some (some (.ref f32))) (l32 : K.lookup f32 = some ⟨oc32, od32, .func (PySem.W.fnOf "_law_is_whole" "_law_is_whole" (L2.defArgs (top 39)) (L2.defBody (top 39)) (L2.defScope (top 39)) .none kV32 dc32 pm32 an32 cd32 ct32), sl32⟩) (c32 : PySem.W.codeIn K cd32 "_law_is_whole" = true) (k32 : PySem.W.keepIn K (.ref f32) = true)
    (a33 : PySem.W.nsIn K mainGlobals "_law_are_whole" = some (some (.ref f33))) (l33 : K.lookup f33 = some ⟨oc33, od33, .func (PySem.W.fnOf "_law_are_whole" "_law_are_whole" (L2.defArgs (top 40)) (L2.defBody (top 40)) (L2.defScope (top 40)) .none kV33 dc33 pm33 an33 cd33 ct33), sl33⟩) (c33 : PySem.W.codeIn K cd33 "_law_are_whole" = true) (k33 : PySem.W.keepIn K (.ref f33) = true)
    (a34 : PySem.W.nsIn K mainGlobals "_law_is_spot" = some (some (.ref f34))) (l34 : K.lookup f34 = some ⟨oc34, od34, .func (PySem.W.fnOf "_law_is_spot" "_law_is_spot" (L2.defArgs (top 41)) (L2.defBody (top 41)) (L2.defScope (top 41)) .none kV34 dc34 pm34 an34 cd34 ct34), sl34⟩) (c34 : PySem.W.codeIn K cd34 "_law_is_spot" = true) (k34 : PySem.W.keepIn K (.ref f34) = true)
    (a35 : PySem.W.nsIn K mainGlobals "_law_before" = some (some (.ref f35))) (l35 : K.lookup f35 = some ⟨oc35, od35, .func (PySem.W.fnOf "_law_before" "_law_before" (L2.defArgs (top 42)) (L2.defBody (top 42)) (L2.defScope (top 42)) .none kV35 dc35 pm35 an35 cd35 ct35), sl35⟩) (c35 : PySem.W.codeIn K cd35 "_law_before" = true) (k35 : PySem.W.keepIn K (.ref f35) = true)
    (a36 : PySem.W.nsIn K mainGlobals "_law_sorted" = some (some (.ref f36))) (l36 : K.lookup f36 = some ⟨oc36, od36, .func (PySem.W.fnOf "_law_sorted" "_law_sorted" (L2.defArgs (top 43)) (L2.defBody (top 43)) (L2.defScope (top 43)) .none kV36 dc36 pm36 an36 cd36 ct36), sl36⟩) (c36 : PySem.W.codeIn K cd36 "_law_sorted" = true) (k36 : PySem.W.keepIn K (.ref f36) = true)
    (a37 : PySem.W.nsIn K mainGlobals "_law_hull" = some (some (.ref f37))) (l37 : K.lookup f37 = some ⟨oc37, od37, .func (PySem.W.fnOf "_law_hull" "_law_hull" (L2.defArgs (top 44)) (L2.defBody (top 44)) (L2.defScope (top 44)) .none kV37 dc37 pm37 an37 cd37 ct37), sl37⟩) (c37 : PySem.W.codeIn K cd37 "_law_hull" = true) (k37 : PySem.W.keepIn K (.ref f37) = true)
    (a38 : PySem.W.nsIn K mainGlobals "_law_middle" = some (some (.ref f38))) (l38 : K.lookup f38 = some ⟨oc38, od38, .func (PySem.W.fnOf "_law_middle" "_law_middle" (L2.defArgs (top 45)) (L2.defBody (top 45)) (L2.defScope (top 45)) .none kV38 dc38 pm38 an38 cd38 ct38), sl38⟩) (c38 : PySem.W.codeIn K cd38 "_law_middle" = true) (k38 : PySem.W.keepIn K (.ref f38) = true)
    (a39 : PySem.W.nsIn K mainGlobals "_law_plate" = some (some (.ref f39))) (l39 : K.lookup f39 = some ⟨oc39, od39, .func (PySem.W.fnOf "_law_plate" "_law_plate" (L2.defArgs (top 46)) (L2.defBody (top 46)) (L2.defScope (top 46)) .none kV39 dc39 pm39 an39 cd39 ct39), sl39⟩) (c39 : PySem.W.codeIn K cd39 "_law_plate" = true) (k39 : PySem.W.keepIn K (.ref f39) = true)
    (a40 : PySem.W.nsIn K mainGlobals "_law_next" = some (some (.ref f40))) (l40 : K.lookup f40 = some ⟨oc40, od40, .func (PySem.W.fnOf "_law_next" "_law_next" (L2.defArgs (top 47)) (L2.defBody (top 47)) (L2.defScope (top 47)) .none kV40 dc40 pm40 an40 cd40 ct40), sl40⟩) (c40 : PySem.W.codeIn K cd40 "_law_next" = true) (k40 : PySem.W.keepIn K (.ref f40) = true)
    (a41 : PySem.W.nsIn K mainGlobals "_law_edge" = some (some (.ref f41))) (l41 : K.lookup f41 = some ⟨oc41, od41, .func (PySem.W.fnOf "_law_edge" "_law_edge" (L2.defArgs (top 48)) (L2.defBody (top 48)) (L2.defScope (top 48)) .none kV41 dc41 pm41 an41 cd41 ct41), sl41⟩) (c41 : PySem.W.codeIn K cd41 "_law_edge" = true) (k41 : PySem.W.keepIn K (.ref f41) = true)
    (a42 : PySem.W.nsIn K mainGlobals "_law_is_shape" = some (some (.ref f42))) (l42 : K.lookup f42 = some ⟨oc42, od42, .func (PySem.W.fnOf "_law_is_shape" "_law_is_shape" (L2.defArgs (top 49)) (L2.defBody (top 49)) (L2.defScope (top 49)) .none kV42 dc42 pm42 an42 cd42 ct42), sl42⟩) (c42 : PySem.W.codeIn K cd42 "_law_is_shape" = true) (k42 : PySem.W.keepIn K (.ref f42) = true)
    (a43 : PySem.W.nsIn K mainGlobals "_law_bent" = some (some (.ref f43))) (l43 : K.lookup f43 = some ⟨oc43, od43, .func (PySem.W.fnOf "_law_bent" "_law_bent" (L2.defArgs (top 50)) (L2.defBody (top 50)) (L2.defScope (top 50)) .none kV43 dc43 pm43 an43 cd43 ct43), sl43⟩) (c43 : PySem.W.codeIn K cd43 "_law_bent" = true) (k43 : PySem.W.keepIn K (.ref f43) = true)
    (a44 : PySem.W.nsIn K mainGlobals "_law_odd" = some (some (.ref f44))) (l44 : K.lookup f44 = some ⟨oc44, od44, .func (PySem.W.fnOf "_law_odd" "_law_odd" (L2.defArgs (top 51)) (L2.defBody (top 51)) (L2.defScope (top 51)) .none kV44 dc44 pm44 an44 cd44 ct44), sl44⟩) (c44 : PySem.W.codeIn K cd44 "_law_odd" = true) (k44 : PySem.W.keepIn K (.ref f44) = true)
    (a45 : PySem.W.nsIn K mainGlobals "_law_right" = some (some (.ref f45))) (l45 : K.lookup f45 = some ⟨oc45, od45, .func (PySem.W.fnOf "_law_right" "_law_right" (L2.defArgs (top 52)) (L2.defBody (top 52)) (L2.defScope (top 52)) .none kV45 dc45 pm45 an45 cd45 ct45), sl45⟩) (c45 : PySem.W.codeIn K cd45 "_law_right" = true) (k45 : PySem.W.keepIn K (.ref f45) = true)
    (a46 : PySem.W.nsIn K mainGlobals "law" = some (some (.ref f46))) (l46 : K.lookup f46 = some ⟨oc46, od46, .func (PySem.W.fnOf "law" "law" (L2.defArgs (top 53)) (L2.defBody (top 53)) (L2.defScope (top 53)) .none kV46 dc46 pm46 an46 cd46 ct46), sl46⟩) (c46 : PySem.W.codeIn K cd46 "law" = true) (k46 : PySem.W.keepIn K (.ref f46) = true)
    (z_abs : PySem.W.nsIn K mainGlobals "abs" = some none)
    (z_all : PySem.W.nsIn K mainGlobals "all" = some none)
    (z_bool : PySem.W.nsIn K mainGlobals "bool" = some none)
    (z_divmod : PySem.W.nsIn K mainGlobals "divmod" = some none)
    (z_int : PySem.W.nsIn K mainGlobals "int" = some none)
    (z_isinstance : PySem.W.nsIn K mainGlobals "isinstance" = some none)
    (z_len : PySem.W.nsIn K mainGlobals "len" = some none)
    (z_list : PySem.W.nsIn K mainGlobals "list" = some none)
    (z_max : PySem.W.nsIn K mainGlobals "max" = some none)
    (z_min : PySem.W.nsIn K mainGlobals "min" = some none)
    (z_range : PySem.W.nsIn K mainGlobals "range" = some none)
    (z_repr : PySem.W.nsIn K mainGlobals "repr" = some none)
    (z_set : PySem.W.nsIn K mainGlobals "set" = some none)
    (z_sorted : PySem.W.nsIn K mainGlobals "sorted" = some none)
    (z_tuple : PySem.W.nsIn K mainGlobals "tuple" = some none)
    (zg : PySem.W.nsIn K mainGlobals "gcd" = some (some (.builtin "math.gcd")))
    {t_MOST_EDGES : Tok} (zc_MOST_EDGES : PySem.W.nsIn K mainGlobals "MOST_EDGES" = some (some (.int 8 t_MOST_EDGES)))
    : Pl.Facts K mg pk ∧ L2.Fun K (Str.ofString "law") "law" (top 53) f46 (PySem.W.fnOf "law" "law" (L2.defArgs (top 53)) (L2.defBody (top 53)) (L2.defScope (top 53)) .none kV46 dc46 pm46 an46 cd46 ct46) ∧ mg "law" = some (.ref f46) := by
  refine ⟨⟨?_, ?_, ?_, ?_⟩, L2.fun_mk l46 c46 k46, PySem.W.mg_of X G a46⟩
  · exact tab_ok (Q := fun f e => Has K mg f e) (has_of (PySem.W.mg_of X G a0) (L2.fun_mk (st := top 2) l0 c0 k0) bind_is_whole (by decide)) (has_of (PySem.W.mg_of X G a1) (L2.fun_mk (st := top 3) l1 c1 k1) bind_are_wholes (by decide)) (has_of (PySem.W.mg_of X G a2) (L2.fun_mk (st := top 4) l2 c2 k2) bind_divisor_of (by decide)) (has_of (PySem.W.mg_of X G a3) (L2.fun_mk (st := top 5) l3 c3 k3) bind_is_reduced (by decide)) (has_of (PySem.W.mg_of X G a4) (L2.fun_mk (st := top 6) l4 c4 k4) bind_multiple_of (by decide)) (has_of (PySem.W.mg_of X G a5) (L2.fun_mk (st := top 8) l5 c5 k5) bind_is_vector (by decide)) (has_of (PySem.W.mg_of X G a6) (L2.fun_mk (st := top 9) l6 c6 k6) bind_vector (by decide)) (has_of (PySem.W.mg_of X G a7) (L2.fun_mk (st := top 12) l7 c7 k7) bind_on_grid (by decide)) (has_of (PySem.W.mg_of X G a8) (L2.fun_mk (st := top 13) l8 c8 k8) bind_bends_left (by decide)) (has_of (PySem.W.mg_of X G a9) (L2.fun_mk (st := top 14) l9 c9 k9) bind_bend_chain (by decide)) (has_of (PySem.W.mg_of X G a10) (L2.fun_mk (st := top 15) l10 c10 k10) bind_hull (by decide)) (has_of (PySem.W.mg_of X G a11) (L2.fun_mk (st := top 16) l11 c11 k11) bind_is_shape (by decide)) (has_of (PySem.W.mg_of X G a12) (L2.fun_mk (st := top 17) l12 c12 k12) bind_is_lot (by decide)) (has_of (PySem.W.mg_of X G a13) (L2.fun_mk (st := top 18) l13 c13 k13) bind_is_plate (by decide)) (has_of (PySem.W.mg_of X G a14) (L2.fun_mk (st := top 20) l14 c14 k14) bind_is_section (by decide)) (has_of (PySem.W.mg_of X G a15) (L2.fun_mk (st := top 21) l15 c15 k15) bind_is_polygon (by decide)) (has_of (PySem.W.mg_of X G a16) (L2.fun_mk (st := top 23) l16 c16 k16) bind__law_urn (by decide)) (has_of (PySem.W.mg_of X G a17) (L2.fun_mk (st := top 24) l17 c17 k17) bind__law_pull (by decide)) (has_of (PySem.W.mg_of X G a18) (L2.fun_mk (st := top 25) l18 c18 k18) bind__law_any (by decide)) (has_of (PySem.W.mg_of X G a19) (L2.fun_mk (st := top 26) l19 c19 k19) bind__law_num (by decide)) (has_of (PySem.W.mg_of X G a20) (L2.fun_mk (st := top 27) l20 c20 k20) bind__law_laps (by decide)) (has_of (PySem.W.mg_of X G a21) (L2.fun_mk (st := top 28) l21 c21 k21) bind__law_gcd (by decide)) (has_of (PySem.W.mg_of X G a22) (L2.fun_mk (st := top 29) l22 c22 k22) bind__law_thin (by decide)) (has_of (PySem.W.mg_of X G a23) (L2.fun_mk (st := top 30) l23 c23 k23) bind__law_frac (by decide)) (has_of (PySem.W.mg_of X G a24) (L2.fun_mk (st := top 31) l24 c24 k24) bind__law_add (by decide)) (has_of (PySem.W.mg_of X G a25) (L2.fun_mk (st := top 32) l25 c25 k25) bind__law_sign (by decide)) (has_of (PySem.W.mg_of X G a26) (L2.fun_mk (st := top 33) l26 c26 k26) bind__law_spot (by decide)) (has_of (PySem.W.mg_of X G a27) (L2.fun_mk (st := top 34) l27 c27 k27) bind__law_way (by decide)) (has_of (PySem.W.mg_of X G a28) (L2.fun_mk (st := top 35) l28 c28 k28) bind__law_on (by decide)) (has_of (PySem.W.mg_of X G a29) (L2.fun_mk (st := top 36) l29 c29 k29) bind__law_by (by decide)) (has_of (PySem.W.mg_of X G a30) (L2.fun_mk (st := top 37) l30 c30 k30) bind__law_cross (by decide)) (has_of (PySem.W.mg_of X G a31) (L2.fun_mk (st := top 38) l31 c31 k31) bind__law_side (by decide)) (has_of (PySem.W.mg_of X G a32) (L2.fun_mk (st := top 39) l32 c32 k32) bind__law_is_whole (by decide)) (has_of (PySem.W.mg_of X G a33) (L2.fun_mk (st := top 40) l33 c33 k33) bind__law_are_whole (by decide)) (has_of (PySem.W.mg_of X G a34) (L2.fun_mk (st := top 41) l34 c34 k34) bind__law_is_spot (by decide)) (has_of (PySem.W.mg_of X G a35) (L2.fun_mk (st := top 42) l35 c35 k35) bind__law_before (by decide)) (has_of (PySem.W.mg_of X G a36) (L2.fun_mk (st := top 43) l36 c36 k36) bind__law_sorted (by decide)) (has_of (PySem.W.mg_of X G a37) (L2.fun_mk (st := top 44) l37 c37 k37) bind__law_hull (by decide)) (has_of (PySem.W.mg_of X G a38) (L2.fun_mk (st := top 45) l38 c38 k38) bind__law_middle (by decide)) (has_of (PySem.W.mg_of X G a39) (L2.fun_mk (st := top 46) l39 c39 k39) bind__law_plate (by decide)) (has_of (PySem.W.mg_of X G a40) (L2.fun_mk (st := top 47) l40 c40 k40) bind__law_next (by decide)) (has_of (PySem.W.mg_of X G a41) (L2.fun_mk (st := top 48) l41 c41 k41) bind__law_edge (by decide)) (has_of (PySem.W.mg_of X G a42) (L2.fun_mk (st := top 49) l42 c42 k42) bind__law_is_shape (by decide)) (has_of (PySem.W.mg_of X G a43) (L2.fun_mk (st := top 50) l43 c43 k43) bind__law_bent (by decide)) (has_of (PySem.W.mg_of X G a44) (L2.fun_mk (st := top 51) l44 c44 k44) bind__law_odd (by decide)) (has_of (PySem.W.mg_of X G a45) (L2.fun_mk (st := top 52) l45 c45 k45) bind__law_right (by decide)) (has_of (PySem.W.mg_of X G a46) (L2.fun_mk (st := top 53) l46 c46 k46) bind_law (by decide))
  · intro x hx
    simp only [pk, List.mem_cons, List.not_mem_nil, or_false] at hx
    rcases hx with rfl | rfl | rfl | rfl | rfl | rfl | rfl | rfl | rfl | rfl | rfl | rfl | rfl | rfl | rfl
    · exact PySem.W.mg_none_of X G z_abs
    · exact PySem.W.mg_none_of X G z_all
    · exact PySem.W.mg_none_of X G z_bool
    · exact PySem.W.mg_none_of X G z_divmod
    · exact PySem.W.mg_none_of X G z_int
    · exact PySem.W.mg_none_of X G z_isinstance
    · exact PySem.W.mg_none_of X G z_len
    · exact PySem.W.mg_none_of X G z_list
    · exact PySem.W.mg_none_of X G z_max
    · exact PySem.W.mg_none_of X G z_min
    · exact PySem.W.mg_none_of X G z_range
    · exact PySem.W.mg_none_of X G z_repr
    · exact PySem.W.mg_none_of X G z_set
    · exact PySem.W.mg_none_of X G z_sorted
    · exact PySem.W.mg_none_of X G z_tuple
  · exact fun _ => PySem.W.mg_of X G zg
  · exact glob_all (l := globs) (by
      unfold globs
      simp only [List.forall_mem_cons, List.not_mem_nil, false_implies, implies_true, and_true]
      exact ⟨.int 8, _, PySem.W.mg_of X G zc_MOST_EDGES, ⟨_, rfl⟩, fun F => .int 8⟩)
end
theorem kn : Pl.Kn05 pk.G := by repeat' (first | rfl | constructor)
theorem plain : ∀ ns : List Int, ns.length ≤ 63 → ∃ u, callU pk.G 40 "law" [.list (ns.map .int)] [] = some (.bool true, u) := fun ns hn => Pl.l05_law kn 26 ns hn

theorem walk {q : Program} {loose : List Str} {XP : (Str → Option Value) → Heap → Prop} {YP : World → Heap → Prop} {d : DefRec} {K : Params → PySem.W.Frag} (hdf : d.params.defaults = []) (hY : ∀ (w : World) (h : Heap), YP w h → (K w.params).In h)
    (F : ∀ (w : World) (mg : Str → Option Value) (fa : Addr) (h : Heap), (K w.params).In h → h.Ns mainGlobals mg → mg d.name = some (.ref fa) →
      ∃ fd : FuncData, (∀ (s : Shared) (u : Value), BindsTo s fd ⟨[u], []⟩ [("_law_script", u)]) ∧ Pl.Facts (K w.params) mg pk ∧ L2.Fun (K w.params) (Str.ofString "law") "law" (top 53) fa fd) :
    PySem.W.WalkO q loose XP YP PySem.Challenge.rw_hullrests_k05_whole_sections_and_polygon.row.toRowW d [] (fun f vs => PySem.call f vs) :=
  law_walk (l := PySem.Challenge.rw_hullrests_k05_whole_sections_and_polygon) (m := 63) (n := 40) (p := pk) (e := e_law) rfl (by decide) hdf ⟨rfl, by decide, by decide⟩ hY rfl rfl rfl rfl rfl chk_all F plain
end Law
open PySem PySem.W PyProof.Rows
set_option maxRecDepth 100000 in
set_option maxHeartbeats 0 in
theorem PySem.Challenge.cw_hullrests_k05_whole_sections_and_polygon_holds : PySem.Challenge.rw_hullrests_k05_whole_sections_and_polygon.Holds := by
  w_on; o_law; k_head; (case hw => w_witness2)
  k_fill
  refine Law.walk rfl (fun w h Y => PySem.W.kIn_of Y) ?F
  case F =>
    as_aux_lemma =>
    intro w mg fa h KX G hmg
    refine' Exists.intro _ (And.intro (fun _ _ => .of_eq rfl) (Pl.fin_of (Law.facts KX G ?a0 ?l0 ?c0 ?k0 ?a1 ?l1 ?c1 ?k1 ?a2 ?l2 ?c2 ?k2 ?a3 ?l3 ?c3 ?k3 ?a4 ?l4 ?c4 ?k4 ?a5 ?l5 ?c5 ?k5 ?a6 ?l6 ?c6 ?k6 ?a7 ?l7 ?c7 ?k7 ?a8 ?l8 ?c8 ?k8 ?a9 ?l9 ?c9 ?k9 ?a10 ?l10 ?c10 ?k10 ?a11 ?l11 ?c11 ?k11 ?a12 ?l12 ?c12 ?k12 ?a13 ?l13 ?c13 ?k13 ?a14 ?l14 ?c14 ?k14 ?a15 ?l15 ?c15 ?k15 ?a16 ?l16 ?c16 ?k16 ?a17 ?l17 ?c17 ?k17 ?a18 ?l18 ?c18 ?k18 ?a19 ?l19 ?c19 ?k19 ?a20 ?l20 ?c20 ?k20 ?a21 ?l21 ?c21 ?k21 ?a22 ?l22 ?c22 ?k22 ?a23 ?l23 ?c23 ?k23 ?a24 ?l24 ?c24 ?k24 ?a25 ?l25 ?c25 ?k25 ?a26 ?l26 ?c26 ?k26 ?a27 ?l27 ?c27 ?k27 ?a28 ?l28 ?c28 ?k28 ?a29 ?l29 ?c29 ?k29 ?a30 ?l30 ?c30 ?k30 ?a31 ?l31 ?c31 ?k31 ?a32 ?l32 ?c32 ?k32 ?a33 ?l33 ?c33 ?k33 ?a34 ?l34 ?c34 ?k34 ?a35 ?l35 ?c35 ?k35 ?a36 ?l36 ?c36 ?k36 ?a37 ?l37 ?c37 ?k37 ?a38 ?l38 ?c38 ?k38 ?a39 ?l39 ?c39 ?k39 ?a40 ?l40 ?c40 ?k40 ?a41 ?l41 ?c41 ?k41 ?a42 ?l42 ?c42 ?k42 ?a43 ?l43 ?c43 ?k43 ?a44 ?l44 ?c44 ?k44 ?a45 ?l45 ?c45 ?k45 ?a46 ?l46 ?c46 ?k46 ?z_abs ?z_all ?z_bool ?z_divmod ?z_int ?z_isinstance ?z_len ?z_list ?z_max ?z_min ?z_range ?z_repr ?z_set ?z_sorted ?z_tuple ?zg ?zc_MOST_EDGES) hmg))
    (case a0 => k_is)
    (case l0 => k_is)
    (case c0 => k_is)
    (case k0 => k_is)
    (case a1 => k_is)
    (case l1 => k_is)
    (case c1 => k_is)
    (case k1 => k_is)
    (case a2 => k_is)
    (case l2 => k_is)
    (case c2 => k_is)
    (case k2 => k_is)
    (case a3 => k_is)
    (case l3 => k_is)
    (case c3 => k_is)
    (case k3 => k_is)
    (case a4 => k_is)
    (case l4 => k_is)
    (case c4 => k_is)
    (case k4 => k_is)
    (case a5 => k_is)
    (case l5 => k_is)
    (case c5 => k_is)
    (case k5 => k_is)
    (case a6 => k_is)
    (case l6 => k_is)
    (case c6 => k_is)
    (case k6 => k_is)
    (case a7 => k_is)
    (case l7 => k_is)
    (case c7 => k_is)
    (case k7 => k_is)
    (case a8 => k_is)
    (case l8 => k_is)
    (case c8 => k_is)
    (case k8 => k_is)
    (case a9 => k_is)
    (case l9 => k_is)
    (case c9 => k_is)
    (case k9 => k_is)
    (case a10 => k_is)
    (case l10 => k_is)
    (case c10 => k_is)
    (case k10 => k_is)
    (case a11 => k_is)
    (case l11 => k_is)
    (case c11 => k_is)
    (case k11 => k_is)
    (case a12 => k_is)
    (case l12 => k_is)
    (case c12 => k_is)
    (case k12 => k_is)
    (case a13 => k_is)
    (case l13 => k_is)
    (case c13 => k_is)
    (case k13 => k_is)
    (case a14 => k_is)
    (case l14 => k_is)
    (case c14 => k_is)
    (case k14 => k_is)
    (case a15 => k_is)
    (case l15 => k_is)
    (case c15 => k_is)
    (case k15 => k_is)
    (case a16 => k_is)
    (case l16 => k_is)
    (case c16 => k_is)
    (case k16 => k_is)
    (case a17 => k_is)
    (case l17 => k_is)
    (case c17 => k_is)
    (case k17 => k_is)
    (case a18 => k_is)
    (case l18 => k_is)
    (case c18 => k_is)
    (case k18 => k_is)
    (case a19 => k_is)
    (case l19 => k_is)
    (case c19 => k_is)
    (case k19 => k_is)
    (case a20 => k_is)
    (case l20 => k_is)
    (case c20 => k_is)
    (case k20 => k_is)
    (case a21 => k_is)
    (case l21 => k_is)
    (case c21 => k_is)
    (case k21 => k_is)
    (case a22 => k_is)
    (case l22 => k_is)
    (case c22 => k_is)
    (case k22 => k_is)
    (case a23 => k_is)
    (case l23 => k_is)
    (case c23 => k_is)
    (case k23 => k_is)
    (case a24 => k_is)
    (case l24 => k_is)
    (case c24 => k_is)
    (case k24 => k_is)
    (case a25 => k_is)
    (case l25 => k_is)
    (case c25 => k_is)
    (case k25 => k_is)
    (case a26 => k_is)
    (case l26 => k_is)
    (case c26 => k_is)
    (case k26 => k_is)
    (case a27 => k_is)
    (case l27 => k_is)
    (case c27 => k_is)
    (case k27 => k_is)
    (case a28 => k_is)
    (case l28 => k_is)
    (case c28 => k_is)
    (case k28 => k_is)
    (case a29 => k_is)
    (case l29 => k_is)
    (case c29 => k_is)
    (case k29 => k_is)
    (case a30 => k_is)
    (case l30 => k_is)
    (case c30 => k_is)
    (case k30 => k_is)
    (case a31 => k_is)
    (case l31 => k_is)
    (case c31 => k_is)
    (case k31 => k_is)
    (case a32 => k_is)
    (case l32 => k_is)
    (case c32 => k_is)
    (case k32 => k_is)
    (case a33 => k_is)
    (case l33 => k_is)
    (case c33 => k_is)
    (case k33 => k_is)
    (case a34 => k_is)
    (case l34 => k_is)
    (case c34 => k_is)
    (case k34 => k_is)
    (case a35 => k_is)
    (case l35 => k_is)
    (case c35 => k_is)
    (case k35 => k_is)
    (case a36 => k_is)
    (case l36 => k_is)
    (case c36 => k_is)
    (case k36 => k_is)
    (case a37 => k_is)
    (case l37 => k_is)
    (case c37 => k_is)
    (case k37 => k_is)
    (case a38 => k_is)
    (case l38 => k_is)
    (case c38 => k_is)
    (case k38 => k_is)
    (case a39 => k_is)
    (case l39 => k_is)
    (case c39 => k_is)
    (case k39 => k_is)
    (case a40 => k_is)
    (case l40 => k_is)
    (case c40 => k_is)
    (case k40 => k_is)
    (case a41 => k_is)
    (case l41 => k_is)
    (case c41 => k_is)
    (case k41 => k_is)
    (case a42 => k_is)
    (case l42 => k_is)
    (case c42 => k_is)
    (case k42 => k_is)
    (case a43 => k_is)
    (case l43 => k_is)
    (case c43 => k_is)
    (case k43 => k_is)
    (case a44 => k_is)
    (case l44 => k_is)
    (case c44 => k_is)
    (case k44 => k_is)
    (case a45 => k_is)
    (case l45 => k_is)
    (case c45 => k_is)
    (case k45 => k_is)
    (case a46 => k_is)
    (case l46 => k_is)
    (case c46 => k_is)
    (case k46 => k_is)
    (case z_abs => k_is)
    (case z_all => k_is)
    (case z_bool => k_is)
    (case z_divmod => k_is)
    (case z_int => k_is)
    (case z_isinstance => k_is)
    (case z_len => k_is)
    (case z_list => k_is)
    (case z_max => k_is)
    (case z_min => k_is)
    (case z_range => k_is)
    (case z_repr => k_is)
    (case z_set => k_is)
    (case z_sorted => k_is)
    (case z_tuple => k_is)
    (case zg => k_is)
    (case zc_MOST_EDGES => k_is)
#print axioms PySem.Challenge.cw_hullrests_k05_whole_sections_and_polygon_holds
