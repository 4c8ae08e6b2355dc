import PyProof.Rows.All
import Wide.All
import OpenK.AllK
import Wide.FinOn
import HandS.Base
import HandS.Call
import HandS.List
import HandS.Iter
import HandS.Zip
import HandS.TupLe
import HandS.TupAny
import HandS.Style
import KE.GoesMore
import KE.GoesEnum
import HandS.ForMost
import HandS.Wide
import HandS.Gcd
import HandS.IsInst
import HandS.Deep
import HandS.Rev
import HandS.RevRange
import HandS.More
import HandS.Flow
import PySem.Challenge.RW_hullrests_k36_whole_common_factors
set_option Elab.async false
set_option linter.all false
set_option autoImplicit false
set_option maxRecDepth 100000
/-! PLang: a small language for what defs of intsOf, texts, tuples and lists reckon, and its evaluation in Option. -/
namespace Pl
open PySem (PyData Str)

abbrev D := PyData
/-- the content of the one list that a def may change for its caller -/
abbrev U := List Int

inductive BOp where | add | sub | mul | fdiv | mod | pow
  deriving DecidableEq, Repr
inductive COp where | eq | ne | lt | le | gt | ge | isin | notin | isN | notN
  deriving DecidableEq, Repr
inductive BI where
  | len | abs | int | tuple | list | all | any | sum | max2 | min2 | divmod | gcd | repr | isInt | isBool | isTuple | isList | isStr | sorted | sortedSet | max1 | min1
  deriving DecidableEq, Repr
inductive Tg where
  | one (i : Nat) | many (is : List Nat)
  deriving DecidableEq, Repr
/-- an unpacking target: a name, or a place of the lent list -/
inductive Tu where
  | nm (i : Nat) | pl (k : Nat)
  deriving DecidableEq, Repr

mutual
inductive E where
  | var (i : Nat)
  | lit (d : PySem.Const)
  | glob (x : String)
  | neg (a : E) | not (a : E)
  | bin (o : BOp) (a b : E)
  | cmp (o : COp) (a b : E)
  | chain (o1 o2 : COp) (a b c : E)
  | and (a b : E) | or (a b : E)
  | ite (c a b : E)
  | tup (es : Es) | lst (es : Es) | rep (es : Es) (n : E)
  | idx (a i : E) | sli (a : E) (lo hi : Eo) | rev (a : E)
  | uidx (k : E)
  | call (f : String) (es : Es) (perm : List Nat)
  | ucall (f : String) (es : Es)
  | ncall (f : String) (a : E) (es : Es)
  | bi (b : BI) (es : Es)
  | comp (elt : E) (t : Tg) (it : I) (cond : Eo) (own : List Nat)
  | dict0
  | trng (a b : E)
inductive Es where
  | nil | cons (e : E) (es : Es)
inductive Eo where
  | no | yes (e : E)
inductive I where
  | seq (e : E) | range1 (a : E) | range2 (a b : E) | range3 (a b c : E) | revRange1 (a : E) | enum (e : E) | zip (a b : E) | zip3 (a b c : E) | rev (e : E)
end

mutual
inductive S where
  | set (i : Nat) (e : E)
  | set2 (i j : Nat) (e : E)
  | par (is : List Nat) (es : Es)
  | unp (ts : List Tu) (e : E)
  | setI (i : Nat) (k : E) (e : E)
  | setU (k : E) (e : E)
  | app (i : Nat) (e : E) | pop (i : Nat) | ins (i : Nat) (k e : E)
  | drop (e : E)
  | ite (c : E) (a b : Ss)
  | whil (c : E) (b : Ss)
  | for_ (t : Tg) (it : I) (b : Ss)
  | ret (e : E) | retF (e : E) | brk | cont | pass | raise
inductive Ss where
  | nil | cons (s : S) (ss : Ss)
end
structure PFun where
  np : Nat
  ns : Nat
  urn : Bool
  fresh : Bool
  body : Ss

inductive Slot where
  | no | imm (d : D) | own (ds : List D)
abbrev Env := List Slot

/-! ### values -/
mutual
@[simp] def noList : D → Bool
  | .none | .bool _ | .int _ | .str _ => true
  | .list _ => false
  | .tuple xs => noListAll xs
  | .dict _ => false
@[simp] def noListAll : List D → Bool
  | [] => true
  | x :: xs => noList x && noListAll xs
end
@[simp] def isDict : D → Bool | .dict _ => true | _ => false
@[simp] def isL : D → Bool | .list _ => true | _ => false
@[simp] def items : D → Option (List D) | .list xs => some xs | .tuple xs => some xs | _ => none
@[simp] def listOf : D → Option (List D) | .list xs => some xs | _ => none
@[simp] def intsOf : List D → Option (List Int)
  | [] => some []
  | .int i :: r => (intsOf r).map (i :: ·)
  | _ => none
@[simp] def boolsOf : List D → Option (List Bool)
  | [] => some []
  | .bool b :: r => (boolsOf r).map (b :: ·)
  | _ => none
def bigOk (n : Int) (k : Nat) : Bool := decide (n.natAbs < 2 ^ k)

def atI {α : Type} (xs : List α) (i : Int) : Option α := if 0 ≤ i then xs[i.toNat]? else if 0 ≤ i + xs.length then xs[(i + xs.length).toNat]? else none
def ixN (n : Nat) (i : Int) : Option Nat := if 0 ≤ i then (if i < n then some i.toNat else none) else if -(n : Int) ≤ i then some (i + n).toNat else none
def sIx (n d : Nat) : Option Int → Nat
  | none => d
  | some i => if i < 0 then (i + n).toNat else min i.toNat n
def cut {α : Type} (xs : List α) (lo hi : Option Int) : List α := (xs.drop (sIx xs.length 0 lo)).take (sIx xs.length xs.length hi - sIx xs.length 0 lo)
def rangeL (lo hi : Int) : List D := (List.range (hi - lo).toNat).map fun (i : Nat) => PyData.int (lo + (i : Int))
def sizeOk (n : Nat) : Bool := decide (n ≤ 100000)
def intOk (n : Int) : Bool := decide (-(2 ^ 60) ≤ n ∧ n < 2 ^ 60)

@[simp] def rng2 : D → D → Option (List D)
  | .int i, .int j => if intOk i && intOk j then some (rangeL i j) else none
  | _, _ => none

def mulOk (i j : Int) : Bool := decide (i.natAbs.log2 + j.natAbs.log2 < 1000000)
def divOk (j : Int) : Bool := decide (j ≠ 0 ∧ j.natAbs.log2 < 9000)

@[simp] def binV : BOp → D → D → Option D
  | .add, .int i, .int j => some (.int (i + j))
  | .sub, .int i, .int j => some (.int (i - j))
  | .mul, .int i, .int j => if mulOk i j then some (.int (i * j)) else none
  | .fdiv, .int i, .int j => if divOk j then some (.int (Int.fdiv i j)) else none
  | .mod, .int i, .int j => if j = 0 then none else some (.int (Int.fmod i j))
  | .pow, .int i, .int j => if decide (0 ≤ j ∧ j ≤ 1000000 ∧ i.natAbs < 2 ^ 64) then some (.int (i ^ j.toNat)) else none
  | .add, .list a, .list b => if sizeOk (a.length + b.length) then some (.list (a ++ b)) else none
  | .add, .tuple a, .tuple b => if sizeOk (a.length + b.length) then some (.tuple (a ++ b)) else none
  | _, _, _ => none
@[simp] def isNone : D → Bool | .none => true | _ => false
def inV (neg : Bool) (a b : D) : Option Bool := (items b).bind fun xs => if PySem.SeqAt.shaped a && PyData.canLayAll0 xs then some (if neg then !(xs.any fun y => PyData.eqv y a) else xs.any fun y => PyData.eqv y a) else none
def eqD (a b : D) : Option Bool := match a, b with
  | .str x, .str y => some (decide (x = y))
  | a, b => if PySem.SeqAt.shaped a && PySem.SeqAt.shaped b then some (PyData.eqv a b) else none
@[simp] def cmpV : COp → D → D → Option Bool
  | .lt, .int i, .int j => some (decide (i < j))
  | .le, .int i, .int j => some (decide (i ≤ j))
  | .gt, .int i, .int j => some (decide (j < i))
  | .ge, .int i, .int j => some (decide (j ≤ i))
  | .eq, a, b => eqD a b
  | .ne, a, b => (eqD a b).map (!·)
  | .isN, a, .none => some (isNone a)
  | .isN, .bool a, .bool b => some (decide (a = b))
  | .notN, a, .none => some (!isNone a)
  | .notN, .bool a, .bool b => some (!decide (a = b))
  | .isin, a, b => inV false a b
  | .notin, a, b => inV true a b
  | _, _, _ => none
@[simp] def litV : PySem.Const → Option D
  | .none => some .none
  | .bool b => some (.bool b)
  | .int i => some (.int i)
  | .str s => some (.str s)
  | _ => none
@[simp] def idxV : D → D → Option D
  | .list xs, .int i => atI xs i
  | .tuple xs, .int i => atI xs i
  | _, _ => none
@[simp] def sliV : D → Option Int → Option Int → Option D
  | .list xs, lo, hi => some (.list (cut xs lo hi))
  | .tuple xs, lo, hi => some (.tuple (cut xs lo hi))
  | _, _, _ => none
mutual
/-- at least as much as a datum's text is long -/
def cw : D → Nat
  | .none => 4
  | .bool _ => 5
  | .int _ => 1921
  | .str x => (PyData.shown (.str x)).length
  | .list xs => cwAll xs + 2
  | .tuple xs => cwAll xs + 3
  | .dict _ => 0
def cwAll : List D → Nat
  | [] => 0
  | x :: xs => cw x + 2 + cwAll xs
end
@[simp] def biV : BI → List D → Option D
  | .len, [.list xs] => some (.int xs.length)
  | .len, [.tuple xs] => some (.int xs.length)
  | .abs, [.int i] => some (.int (if i < 0 then -i else i))
  | .int, [.int i] => some (.int i)
  | .int, [.bool b] => some (.int (if b then 1 else 0))
  | .tuple, [.list xs] => some (.tuple xs)
  | .tuple, [.tuple xs] => some (.tuple xs)
  | .list, [.list xs] => some (.list xs)
  | .list, [.tuple xs] => some (.list xs)
  | .all, [.list xs] => (boolsOf xs).map fun bs => .bool (bs.all id)
  | .any, [.list xs] => (boolsOf xs).map fun bs => .bool (bs.any id)
  | .sum, [.list xs] => (intsOf xs).map fun ns => .int ns.sum
  | .max2, [.int i, .int j] => some (.int (if j > i then j else i))
  | .min2, [.int i, .int j] => some (.int (if j < i then j else i))
  | .divmod, [.int i, .int j] => if divOk j then some (.tuple [.int (Int.fdiv i j), .int (Int.fmod i j)]) else none
  | .gcd, [.int i, .int j] => some (.int ((Nat.gcd i.natAbs j.natAbs : Nat) : Int))
  | .repr, [d] => if d.showable && !d.hasDict && decide (d.depth ≤ 60) && decide (cw d ≤ PySem.sizeLine) then some (.str d.shown) else none
  | .isInt, [d] => some (.bool (match d with | .int _ => true | .bool _ => true | _ => false))
  | .isBool, [d] => some (.bool (match d with | .bool _ => true | _ => false))
  | .isTuple, [d] => some (.bool (match d with | .tuple _ => true | _ => false))
  | .isList, [d] => some (.bool (match d with | .list _ => true | _ => false))
  | .isStr, [d] => some (.bool (match d with | .str _ => true | _ => false))
  | _, _ => none
def zipL : List D → List D → List D
  | x :: xs, y :: ys => .tuple [x, y] :: zipL xs ys
  | _, _ => []
@[simp] def zipD : D → D → Option (List D)
  | .list xs, .list ys => some (zipL xs ys)
  | .tuple xs, .tuple ys => some (zipL xs ys)
  | _, _ => none
def zipL3 : List D → List D → List D → List D
  | x :: xs, y :: ys, z :: zs => .tuple [x, y, z] :: zipL3 xs ys zs
  | _, _, _ => []
def enumL (i : Nat) : List D → List D
  | [] => []
  | x :: xs => .tuple [.int (i : Int), x] :: enumL (i + 1) xs

/-! ### environments -/
@[simp] def getV (env : Env) (i : Nat) : Option D := match env[i]? with
  | some (.imm d) => some d
  | some (.own ds) => some (.list ds)
  | _ => none
def wipe (env : Env) : List Nat → Env
  | [] => env
  | v :: vs => (wipe env vs).set v .no
@[simp] def bindMany : List Nat → List D → Env → Option Env
  | [], [], env => some env
  | i :: is, d :: ds, env => bindMany is ds (env.set i (.imm d))
  | _, _, _ => none
@[simp] def bindT : Tg → D → Env → Option Env
  | .one i, d, env => some (env.set i (.imm d))
  | .many is, .tuple ds, env => bindMany is ds env
  | .many _, _, _ => none
@[simp] def pick (ds : List D) : List Nat → Option (List D)
  | [] => some []
  | i :: is => do
    let d ← ds[i]?
    let r ← pick ds is
    some (d :: r)
@[simp] def compL (step : D → U → Option (Option D × U)) : List D → U → Option (List D × U)
  | [], u => some ([], u)
  | d :: ds, u => do
    let (o, u1) ← step d u
    let (r, u2) ← compL step ds u1
    match o with
    | some x => some (x :: r, u2)
    | none => some (r, u2)

/-- what a name of the module means: a constant, a def -/
structure Ctx where
  glob : String → Option D
  fn : String → List D → Option D
  ufn : String → List D → U → Option (D × U)

section
variable (C : Ctx)
mutual
@[simp] def evalE : E → Env → U → Option (D × U)
  | .var i, env, u => (getV env i).bind fun d => some (d, u)
  | .dict0, _, u => some (.dict [], u)
  | .trng a b, env, u => (evalE a env u).bind fun ra => (evalE b env ra.2).bind fun rb => (rng2 ra.1 rb.1).bind fun xs => if sizeOk xs.length then some (.tuple xs, rb.2) else none
  | .lit c, _, u => (litV c).bind fun d => some (d, u)
  | .glob x, _, u => (C.glob x).bind fun d => some (d, u)
  | .neg a, env, u => (evalE a env u).bind fun r => match r with
    | (.int i, u1) => some (.int (-i), u1)
    | _ => none
  | .not a, env, u => (evalE a env u).bind fun r => match r with
    | (.bool b, u1) => some (.bool (!b), u1)
    | _ => none
  | .bin o a b, env, u => (evalE a env u).bind fun ra => (evalE b env ra.2).bind fun rb => (binV o ra.1 rb.1).bind fun d => some (d, rb.2)
  | .cmp o a b, env, u => (evalE a env u).bind fun ra => (evalE b env ra.2).bind fun rb => (cmpV o ra.1 rb.1).bind fun d => some (.bool d, rb.2)
  | .chain o1 o2 a b c, env, u => (evalE a env u).bind fun ra => (evalE b env ra.2).bind fun rb => (cmpV o1 ra.1 rb.1).bind fun d =>
      if d = true then (evalE c env rb.2).bind fun rc => (cmpV o2 rb.1 rc.1).bind fun d2 => some (.bool d2, rc.2) else some (.bool false, rb.2)
  | .and a b, env, u => (evalE a env u).bind fun ra => match ra with
    | (.bool c, u1) => if c = true then (evalE b env u1).bind fun rb => (match rb with | (.bool c2, u2) => some (.bool c2, u2) | _ => none) else some (.bool false, u1)
    | _ => none
  | .or a b, env, u => (evalE a env u).bind fun ra => match ra with
    | (.bool c, u1) => if c = true then some (.bool true, u1) else (evalE b env u1).bind fun rb => (match rb with | (.bool c2, u2) => some (.bool c2, u2) | _ => none)
    | _ => none
  | .ite c a b, env, u => (evalE c env u).bind fun rc => match rc with
    | (.bool k, u1) => if k = true then evalE a env u1 else evalE b env u1
    | _ => none
  | .tup es, env, u => (evalEs es env u).bind fun r => if sizeOk r.1.length then some (.tuple r.1, r.2) else none
  | .lst es, env, u => (evalEs es env u).bind fun r => if sizeOk r.1.length then some (.list r.1, r.2) else none
  | .rep es n, env, u => (evalEs es env u).bind fun r => (evalE n env r.2).bind fun rn => match rn.1 with
    | .int k => if decide (-(2 ^ 60) ≤ k ∧ k < 2 ^ 60) && sizeOk r.1.length && sizeOk (r.1.length * k.toNat) then some (.list (List.replicate k.toNat r.1).flatten, rn.2) else none
    | _ => none
  | .idx a i, env, u => (evalE a env u).bind fun ra => (evalE i env ra.2).bind fun rb => (idxV ra.1 rb.1).bind fun d => some (d, rb.2)
  | .sli a lo hi, env, u => (evalE a env u).bind fun ra => (evalEo lo env ra.2).bind fun rl => (evalEo hi env rl.2).bind fun rh => (sliV ra.1 rl.1 rh.1).bind fun d => some (d, rh.2)
  | .rev a, env, u => (evalE a env u).bind fun ra => match ra with
    | (.list xs, u1) => some (.list xs.reverse, u1)
    | (.tuple xs, u1) => some (.tuple xs.reverse, u1)
    | _ => none
  | .uidx k, env, u => (evalE k env u).bind fun rk => match rk with
    | (.int i, u1) => (atI u1 i).bind fun n => some (.int n, u1)
    | _ => none
  | .call f es perm, env, u => (evalEs es env u).bind fun r => (pick r.1 perm).bind fun ds => (C.fn f ds).bind fun d => some (d, r.2)
  | .ucall f es, env, u => (evalEs es env u).bind fun r => C.ufn f r.1 r.2
  | .ncall f a es, env, u => (evalE a env u).bind fun ra => (evalEs es env ra.2).bind fun r => match ra.1 with
    | .list xs => (intsOf xs).bind fun ns => (C.ufn f r.1 ns).bind fun q => some (q.1, r.2)
    | _ => none
  | .bi b es, env, u => (evalEs es env u).bind fun r => (biV b r.1).bind fun d => some (d, r.2)
  | .comp elt t it cond own, env, u => (evalI it env u).bind fun ri =>
      (compL (fun d u => (bindT t d (wipe env own)).bind fun env' => (evalC cond env' u).bind fun rc =>
        if rc.1 = true then (evalE elt env' rc.2).bind fun re => some (some re.1, re.2) else some (none, rc.2)) ri.1 ri.2).bind fun r => if sizeOk ri.1.length then some (.list r.1, r.2) else none
@[simp] def evalEs : Es → Env → U → Option (List D × U)
  | .nil, _, u => some ([], u)
  | .cons e es, env, u => (evalE e env u).bind fun r => (evalEs es env r.2).bind fun rs => some (r.1 :: rs.1, rs.2)
/-- a bound of a slice -/
@[simp] def evalEo : Eo → Env → U → Option (Option Int × U)
  | .no, _, u => some (none, u)
  | .yes e, env, u => (evalE e env u).bind fun r => match r with
    | (.int i, u1) => some (some i, u1)
    | _ => none
/-- a comprehension's test -/
@[simp] def evalC : Eo → Env → U → Option (Bool × U)
  | .no, _, u => some (true, u)
  | .yes e, env, u => (evalE e env u).bind fun r => match r with
    | (.bool b, u1) => some (b, u1)
    | _ => none
@[simp] def evalI : I → Env → U → Option (List D × U)
  | .seq e, env, u => (evalE e env u).bind fun r => (items r.1).bind fun xs => some (xs, r.2)
  | .range1 a, env, u => (evalE a env u).bind fun r => match r with
    | (.int j, u1) => if intOk j then some (rangeL 0 j, u1) else none
    | _ => none
  | .range2 a b, env, u => (evalE a env u).bind fun ra => (evalE b env ra.2).bind fun rb => (rng2 ra.1 rb.1).bind fun xs => some (xs, rb.2)
  | .range3 a b c, env, u => none
  | .revRange1 a, env, u => (evalE a env u).bind fun r => match r with
    | (.int j, u1) => if intOk j then some ((rangeL 0 j).reverse, u1) else none
    | _ => none
  | .enum e, env, u => (evalE e env u).bind fun r => (items r.1).bind fun xs => some (enumL 0 xs, r.2)
  | .zip a b, env, u => (evalE a env u).bind fun ra => (evalE b env ra.2).bind fun rb => (zipD ra.1 rb.1).bind fun xs => some (xs, rb.2)
  | .zip3 a b c, env, u => none
  | .rev e, env, u => (evalE e env u).bind fun r => (items r.1).bind fun xs => some (xs.reverse, r.2)
end

end

/-! ### which names an expression reads; what makes a new list -/
mutual
@[simp] def fvE : E → List Nat
  | .var i => [i]
  | .lit _ | .glob _ | .dict0 => []
  | .neg a | .not a | .rev a | .uidx a => fvE a
  | .bin _ a b | .cmp _ a b | .and a b | .or a b | .idx a b | .trng a b => fvE a ++ fvE b
  | .chain _ _ a b c | .ite a b c => fvE a ++ (fvE b ++ fvE c)
  | .tup es | .lst es | .call _ es _ | .ucall _ es | .bi _ es => fvEs es
  | .ncall _ a es => fvE a ++ fvEs es
  | .rep es n => fvEs es ++ fvE n
  | .sli a lo hi => fvE a ++ (fvEo lo ++ fvEo hi)
  | .comp elt _ it cond _ => fvI it ++ (fvEo cond ++ fvE elt)
@[simp] def fvEs : Es → List Nat
  | .nil => []
  | .cons e es => fvE e ++ fvEs es
@[simp] def fvEo : Eo → List Nat
  | .no => []
  | .yes e => fvE e
@[simp] def fvI : I → List Nat
  | .seq e | .range1 e | .revRange1 e | .enum e | .rev e => fvE e
  | .range2 a b | .zip a b => fvE a ++ fvE b
  | .range3 a b c | .zip3 a b c => fvE a ++ (fvE b ++ fvE c)
end
/-- may hand back a new list (ff: the defs that do) -/
@[simp] def fk (ff : String → Bool) : E → Bool
  | .lst _ => true
  | .comp _ _ _ _ _ => true
  | .bin .add _ _ => true
  | .rep _ _ => true
  | .sli _ _ _ => true
  | .rev _ => true
  | .bi .list _ => true
  | .bi .sorted _ => true
  | .bi .sortedSet _ => true
  | .call f _ _ => ff f
  | .ucall f _ => ff f
  | .ncall f _ _ => ff f
  | .ite _ a b => fk ff a && fk ff b
  | _ => false
@[simp] def frz : Slot → Slot
  | .own ds => .imm (.list ds)
  | s => s
@[simp] def freeze (env : Env) : List Nat → Env
  | [] => env
  | i :: is => (freeze env is).modify i frz
/-- a value is stored: what it makes of its name, and of the lists that it may have taken in -/
def slotOf (ff : String → Bool) (e : E) (d : D) : Slot := if fk ff e then (match d with | .list ds => .own ds | _ => .imm d) else .imm d
def within (ff : String → Bool) (e : E) (d : D) : Bool := if fk ff e then (match d with | .list ds => noListAll ds | _ => noList d) else noList d
def after (ff : String → Bool) (env : Env) (e : E) (d : D) : Env := if within ff e d then env else freeze env (fvE e)

inductive O where
  | nx (env : Env) (u : U) | rt (d : D) (u : U) | bk (env : Env) (u : U) | ct (env : Env) (u : U)

def whileO {α β : Type} (step : α → Option (Sum α β)) (a : α) : Option β :=
  match step a with
  | none => none
  | some (.inl a') => whileO step a'
  | some (.inr b) => some b partial_fixpoint

@[simp] def forL (step : D → Env → U → Option O) : List D → Env → U → Option O
  | [], env, u => some (.nx env u)
  | d :: ds, env, u => (step d env u).bind fun o => match o with
    | .nx env' u' => forL step ds env' u'
    | .ct env' u' => forL step ds env' u'
    | .bk env' u' => some (.nx env' u')
    | .rt d u' => some (.rt d u')
@[simp] def bindTu : List Tu → List D → Env → U → Option (Env × U)
  | [], [], env, u => some (env, u)
  | .nm i :: ts, d :: ds, env, u => bindTu ts ds (env.set i (.imm d)) u
  | .pl k :: ts, .int n :: ds, env, u => if k < u.length then bindTu ts ds env (u.set k n) else none
  | _, _, _, _ => none
/-- the slots of several values stored at once -/
@[simp] def parSlots (ff : String → Bool) : Es → List D → Option (List Slot)
  | .nil, [] => some []
  | .cons e es, d :: ds => (parSlots ff es ds).map (slotOf ff e d :: ·)
  | _, _ => none
@[simp] def parWithin (ff : String → Bool) : Es → List D → Bool
  | .cons e es, d :: ds => within ff e d && parWithin ff es ds
  | _, _ => true
@[simp] def setAll : List Nat → List Slot → Env → Option Env
  | [], [], env => some env
  | i :: is, s :: ss, env => setAll is ss (env.set i s)
  | _, _, _ => none
@[simp] def iterOk : I → Bool
  | .range1 _ | .range2 _ _ | .range3 _ _ _ | .revRange1 _ => true
  | _ => false
@[simp] def ownVar (env : Env) : E → Bool
  | .var i => match env[i]? with | some (.own _) => true | _ => false
  | _ => false

section
variable (C : Ctx) (ff : String → Bool)
mutual
@[simp] def execS : S → Env → U → Option O
  | .set i e, env, u => (evalE C e env u).bind fun r => some (.nx ((after ff env e r.1).set i (slotOf ff e r.1)) r.2)
  | .set2 i j e, env, u => (evalE C e env u).bind fun r => if noList r.1 then some (.nx ((env.set i (.imm r.1)).set j (.imm r.1)) r.2) else none
  | .par is es, env, u => (evalEs C es env u).bind fun r => (parSlots ff es r.1).bind fun ss => (setAll is ss (if parWithin ff es r.1 then env else freeze env (fvEs es))).bind fun env' => some (.nx env' r.2)
  | .unp ts e, env, u => (evalE C e env u).bind fun r => match r.1 with
    | .tuple ds => (bindTu ts ds (if noListAll ds then env else freeze env (fvE e)) r.2).bind fun q => some (.nx q.1 q.2)
    | _ => none
  | .setI i k e, env, u => (evalE C e env u).bind fun r => if noList r.1 then (evalE C k env r.2).bind fun rk => match env[i]?, rk.1 with
    | some (.own ds), .int n => (ixN ds.length n).bind fun j => some (.nx (env.set i (.own (ds.set j r.1))) rk.2)
    | _, _ => none else none
  | .setU k e, env, u => (evalE C e env u).bind fun r => match r.1 with
    | .int z => (evalE C k env r.2).bind fun rk => (match rk.1 with
      | .int n => (ixN rk.2.length n).bind fun j => some (.nx env (rk.2.set j z))
      | _ => none)
    | _ => none
  | .app i e, env, u => (evalE C e env u).bind fun r => match (if noList r.1 then env else freeze env (fvE e))[i]? with
    | some (.own ds) => if sizeOk ds.length then some (.nx ((if noList r.1 then env else freeze env (fvE e)).set i (.own (ds ++ [r.1]))) r.2) else none
    | _ => none
  | .pop i, env, u => match env[i]? with
    | some (.own ds) => if ds.isEmpty then none else some (.nx (env.set i (.own ds.dropLast)) u)
    | _ => none
  | .ins i k e, env, u => (evalE C k env u).bind fun rk => (evalE C e env rk.2).bind fun r => if noList r.1 then match env[i]?, rk.1 with
    | some (.own ds), .int n => if decide (0 ≤ n ∧ n ≤ ds.length) && sizeOk ds.length then some (.nx (env.set i (.own (ds.take n.toNat ++ r.1 :: ds.drop n.toNat))) r.2) else none
    | _, _ => none else none
  | .drop e, env, u => (evalE C e env u).bind fun r => some (.nx env r.2)
  | .ite c a b, env, u => (evalE C c env u).bind fun rc => match rc with
    | (.bool k, u1) => if k = true then execSs a env u1 else execSs b env u1
    | _ => none
  | .whil c b, env, u => whileO (fun (q : Env × U) => (evalE C c q.1 q.2).bind fun rc => match rc with
    | (.bool k, u1) => if k = true then (execSs b q.1 u1).bind fun o => (match o with
        | .nx env' u' => some (.inl (env', u'))
        | .ct env' u' => some (.inl (env', u'))
        | .bk env' u' => some (.inr (O.nx env' u'))
        | .rt d u' => some (.inr (O.rt d u'))) else some (.inr (O.nx q.1 u1))
    | _ => none) (env, u)
  | .for_ t it b, env, u => (evalI C it env u).bind fun ri => if sizeOk ri.1.length then
      forL (fun d env u => (bindT t d env).bind fun env' => execSs b env' u) ri.1 (if iterOk it then env else freeze env (fvI it)) ri.2 else none
  | .ret e, env, u => (evalE C e env u).bind fun r => some (.rt r.1 r.2)
  | .retF e, env, u => (evalE C e env u).bind fun r => if fk ff e || ownVar env e || noList r.1 then some (.rt r.1 r.2) else none
  | .brk, env, u => some (.bk env u)
  | .cont, env, u => some (.ct env u)
  | .pass, env, u => some (.nx env u)
  | .raise, _, _ => none
@[simp] def execSs : Ss → Env → U → Option O
  | .nil, env, u => some (.nx env u)
  | .cons s ss, env, u => (execS s env u).bind fun o => match o with
    | .nx env' u' => execSs ss env' u'
    | o => some o
end
end

/-! ### a table of defs -/
structure Prog where
  T : String → Option PFun
  glob : String → Option D
def Prog.ff (G : Prog) (f : String) : Bool := match G.T f with | some p => p.fresh | none => false
def mkEnv (p : PFun) (ds : List D) : Env := (if p.urn then [Slot.no] else []) ++ ds.map Slot.imm ++ List.replicate (p.ns - p.np) Slot.no
def runF (C : Ctx) (ff : String → Bool) (p : PFun) (ds : List D) (u : U) : Option (D × U) :=
  if ds.length + (if p.urn then 1 else 0) = p.np then
    match execSs C ff p.body (mkEnv p ds) u with
    | some (.rt d u') => some (d, u')
    | some (.nx _ u') => if p.fresh then none else some (.none, u')
    | _ => none
  else none
def ctxOf (G : Prog) (c : String → List D → U → Option (D × U)) : Ctx where
  glob := G.glob
  fn := fun f ds => match G.T f with
    | some p => if p.urn then none else (c f ds []).map (·.1)
    | none => none
  ufn := fun f ds u => match G.T f with
    | some p => if p.urn then c f ds u else none
    | none => none
def callU (G : Prog) : Nat → String → List D → U → Option (D × U)
  | 0 => fun _ _ _ => none
  | n + 1 => fun f ds u => match G.T f with
    | some p => runF (ctxOf G (callU G n)) G.ff p ds u
    | none => none
def ctxN (G : Prog) (n : Nat) : Ctx := ctxOf G (callU G n)
end Pl

set_option maxHeartbeats 4000000
/-! PSound0: enumerate over a tuple. -/
namespace PlE
open PySem PySem.Spec PyProof.Rows L2
set_option maxHeartbeats 1000000 in
theorem meets_newT (l : Addr) (items : Array Value) (n : Nat) (dct : Option Addr) (sl : Array (Option Value)) :
    Meets (Builtin.«enumerate.__new__» ⟨[.type "enumerate", .ref l], []⟩) (fun _ R s => s.heap.get? l = some { cls := .type "tuple", dict := dct, data := .seq items n, slots := sl } ∧
      R (.ok (.ret (.ref (s.heap.push { cls := .type "tuple_iterator", data := .fields #[.ref l, .int 0 0] }).objs.size)))
        { s with heap := (s.heap.push { cls := .type "tuple_iterator", data := .fields #[.ref l, .int 0 0] }).push { cls := .type "enumerate", data := .fields #[.none, .bool false, .ref s.heap.objs.size, rawInt 0, .none, .none] } }) :=
  .of_wp fun prog w A R s h => by
    obtain ⟨hp, g, d, tk, os⟩ := s; obtain ⟨hl, h⟩ := h
    have hsub := sub_enumerate
    have hL : Heap.IsTuple (Shared.heap ⟨hp, g, d, tk, os⟩) l items := ⟨_, hl, rfl, n, rfl⟩
    wp_walk using AutoSeq1.wpAny_loadPart' hl
    refine wpAny_stack_any fun st => wpAny_pure ?_
    split
    · rename_i c _ _ _ _ _
      cases (c == Value.type "enumerate")
      · wp_walk using AutoSeq1.wpAny_loadPart' hl, wpAny_pyIter_tuple hL
        exact ⟨_, rfl, h⟩
      · wp_walk using AutoSeq1.wpAny_loadPart' hl, wpAny_pyIter_tuple hL
        exact ⟨_, rfl, h⟩
    · wp_walk using AutoSeq1.wpAny_loadPart' hl, wpAny_pyIter_tuple hL
      exact ⟨_, rfl, h⟩
section
variable {prog : Program} {w : World} {A : Around} {E : Value → Shared → Prop} {s : Shared}
theorem call_enumerate_tuple {l : Addr} {items : Array Value} {Q : Value → Shared → Prop} (hL : s.heap.IsTuple l items)
    (h : ∀ h', IsEnum h' (s.heap.objs.size + 1) s.heap.objs.size 0 .none → h'.IsTupleIter s.heap.objs.size l 0 → h'.objs.size = s.heap.objs.size + 2 →
      (∀ b o, s.heap.get? b = some o → h'.get? b = some o) → Q (.ref (s.heap.objs.size + 1)) { s with heap := h' }) :
    wpAny (model prog w) A (call (.type "enumerate") [.ref l]) Q E s := by
  obtain ⟨⟨c, dct, dt, sl⟩, hl, hc, n, hd⟩ := hL
  replace hc : c = .type "tuple" := hc
  replace hd : dt = .seq items n := hd
  subst hc hd
  refine callType_new F.called_enumerate (by decide) (F.typeCall_enumerate_1 _) (F.newCall_enumerate_1 _) (fun obj => F.args_object_init_2 obj _) F.entry_enumerate_new
    (meets_newT l items n dct sl) ⟨hl, ?_⟩
  have hz : (s.heap.push { cls := .type "tuple_iterator", data := .fields #[.ref l, .int 0 0] }).objs.size = s.heap.objs.size + 1 := Heap.size_push ..
  show _ ∧ _
  rw [hz]
  have he : IsEnum ((s.heap.push { cls := .type "tuple_iterator", data := .fields #[.ref l, .int 0 0] }).push
      { cls := .type "enumerate", data := .fields #[.none, .bool false, .ref s.heap.objs.size, rawInt 0, .none, .none] }) (s.heap.objs.size + 1) s.heap.objs.size 0 .none := by
    have := Heap.get?_push_size (s.heap.push { cls := .type "tuple_iterator", data := .fields #[.ref l, .int 0 0] })
      (o := { cls := .type "enumerate", data := .fields #[.none, .bool false, .ref s.heap.objs.size, rawInt 0, .none, .none] }) rfl
    rw [hz] at this; exact this
  refine ⟨⟨_, he, rfl⟩, h _ he ⟨_, Heap.get?_push_of_some _ (Heap.get?_push_size _ rfl), rfl, rfl⟩ (by rw [Heap.size_push, hz]) fun b o x => Heap.get?_push_of_some _ (Heap.get?_push_of_some _ x)⟩
end
section
variable {prog : Program} {w : World} {A : Around} {E : Value → Shared → Prop} {s : Shared}
theorem pyNext_enumT_end {e it l : Addr} {i : Nat} {items : Array Value} {old : Value} {Q : Option Value → Shared → Prop} (hh : A.handled = none)
    (he : IsEnum s.heap e it i old) (hit : s.heap.IsTupleIter it l i) (hl : s.heap.IsTuple l items) (hx : items[i]? = none)
    (hQ : ∀ h', Heap.ExtBut it s.heap h' → Q none { s with heap := h' }) : wpAny (model prog w) A (pyNext (.ref e)) Q E s := by
  have hT : s.TypeIs (.ref e) "enumerate" := ⟨_, he, rfl⟩
  unfold pyNext
  refine wpAny_bind (wpAny_attempt (wpAny_callSpecial?_slot (name := Str.ofString "__next__") hT F.slot_enumerate_next
    (wpAny_call_entry F.slot_enumerate_next hT F.entry_enumerate_next ?_ (F.args_enumerate_next_1 _))))
  show wpAny _ _ (field (.ref e) 2 >>= _) _ _ _
  refine wpAny_bind (wpAny_field he rfl (x := .ref it) rfl ?_)
  refine wpAny_bind (wpAny_nextOf_tuple_end hh hit hl hx fun h' x he' hx' => ?_)
  obtain ⟨o, ho, hc⟩ := hx'
  refine wpAny_bind (wpAny_isInstance (T := "StopIteration") (b := true) ⟨o, ho, hc⟩ isSubtype_stop ?_)
  exact wpAny_pure (hQ _ he')
end
/-- the tuple at a, each item in a new pair -/
def Itet (K : PySem.W.Frag) (a : Addr) : It :=
  ⟨fun i H => ∃ (xs : List V) (x : V), SqT K H a xs ∧ xs[i]? = some x, fun i H v H' => ∃ T x, v = .ref T ∧ H T = none ∧ H' = upd H T (.tup [.int (i : Nat), x]) ∧ ∀ xs, SqT K H a xs → xs[i]? = some x, fun i H => ∃ xs : List V, SqT K H a xs ∧ xs.length ≤ i⟩
theorem turn_enumT {P : Program} {w : World} {K : PySem.W.Frag} {elts : List Expr} {kk : Nat} {tpos : Pos} (a e it : Addr) :
    Turn P w K (.Tuple elts kk tpos) (Itet K a) [e, it] e (fun i h => (∃ old, IsEnum h e it ((i : Nat) : Int) old) ∧ h.IsTupleIter it a i ∧ e ≠ it ∧ e ≠ a ∧ a ≠ it) where
  mem := by simp
  obj := fun i h st b hb => by
    obtain ⟨⟨old, he⟩, ⟨o, ho, hc, hd⟩, _⟩ := st
    have e' : b = e ∨ b = it := by simpa using hb
    rcases e' with z | z
    · rw [z]; exact ⟨_, he, fun v q => nomatch q⟩
    · rw [z]; exact ⟨o, ho, fun v q => by rw [hd] at q; cases q⟩
  keep := fun i h h' st k => let ⟨⟨old, he⟩, hi, hne⟩ := st; ⟨⟨old, k e (by simp) _ he⟩, hi.at fun o q => k it (by simp) o q, hne⟩
  item := by
    intro X hP hw hK hc i pins s σ H E I hf st hg
    subst hP hw hK
    obtain ⟨⟨old, he⟩, hit, hne, hea, hai⟩ := st
    obtain ⟨xs, x, hq, hx⟩ := hg
    obtain ⟨its, rv, p, hz⟩ := I.tuple hq
    obtain ⟨u, hu, ru⟩ := rv.get hx
    have hel : e < s.heap.objs.size := Heap.lt_size he
    have hil : it < s.heap.objs.size := by obtain ⟨_, q, _⟩ := hit; exact Heap.lt_size q
    have hlt : i < its.toArray.size := by
      have := (List.getElem?_eq_some_iff.mp hu).1
      simpa using this
    refine wpAny_pyNext_enum_itemD (Draws.tuple (by first | rfl | exact I.ok.hd hc) it a hai its.toArray) he ⟨hit, p⟩ hlt hne (by simp [hne, hea]) fun y h' tk hy ho hit' hT hsz hk => ?_
    have hy' : y = u := by
      simp only [List.getElem?_toArray] at hy
      rw [hu] at hy
      exact (Option.some.inj hy).symm
    subst hy'
    refine ⟨_, rfl, wpAny_letOwnedTupleGo_enum (s := { s with heap := h', toks := tk + 1 }) ho fun h'' he' sb => ?_⟩
    have hT2 : h''.get? s.heap.objs.size = some { cls := .type "tuple", data := .seq #[.int i tk, y] } := (sb.2 _ (Nat.ne_of_gt hel)).trans hT
    have new : ObjOk X.prog X.w (upd H s.heap.objs.size (.tup [.int (i : Nat), x])) h'' s.heap.objs.size (.tup [.int (i : Nat), x]) :=
      ⟨by show 2 ≤ sizeLine; decide, [.int i tk, y], .cons ⟨_, rfl⟩ (.cons ru .nil), ⟨_, hT2, rfl, _, rfl⟩⟩
    have I1 : Inv X pins σ (upd H s.heap.objs.size (.tup [.int (i : Nat), x])) { s with heap := h'', toks := tk + 1 } :=
      I.turnedNew (t' := tk + 1) (ch := [e, it]) (fun b ob hb q => (sb.2 b (fun z => hb (by simp [z]))).trans (hk b ob (fun z => hb (by simp [z])) (fun z => hb (by simp [z])) q)) hf (Nat.le_refl _) new
    refine ⟨.ref s.heap.objs.size, _, I1, rfl, ⟨_, x, rfl, I.hok.fresh (Nat.le_refl _), rfl, fun ys hy => by rw [I.tuple_inj hy hq]; exact hx⟩, ⟨⟨y, ?_⟩, hit'.1.at fun o q => (sb.2 it (Ne.symm hne)).trans q, hne, hea, hai⟩, fun b hb => ?_⟩
    · have e1 : ((i + 1 : Nat) : Int) = (i : Int) + 1 := by omega
      rw [e1]; exact he'
    · have hb' : b < s.heap.objs.size := by
        have e' : b = e ∨ b = it := by simpa using hb
        rcases e' with z | z
        · rw [z]; exact hel
        · rw [z]; exact hil
      rw [upd_ne (Nat.ne_of_lt hb')]
      exact (hf b hb).1
  done := by
    intro X hP hw hK hc i pins s σ H E I hf st hg
    subst hP hw hK
    obtain ⟨⟨old, he⟩, hit, hne, hea, hai⟩ := st
    obtain ⟨xs, hq, hx⟩ := hg
    obtain ⟨its, rv, p, hz⟩ := I.tuple hq
    obtain ⟨f0, f1, f2, f3, f4, f5⟩ := hf it (by simp)
    have hl := rv.length
    exact pyNext_enumT_end (I.ok.hd hc) he hit p (by simp; omega) fun h' eb => ⟨rfl, I.turned (t' := s.toks) (fun b o hb q => eb b o hb q) f0 f1 f3 f4 f5⟩
  self := fun A i s Q E st h => let ⟨⟨_, he⟩, _⟩ := st; wpAny_pyIter_enum he h
/-- enumerate over a list or a tuple -/
def iEnumA (K : PySem.W.Frag) (ta : TA) : TI := fun σ H R => ta σ H fun vs H1 => ∃ a, vs = [.ref a] ∧ ((∃ xs, SqL K H1 a xs ∧ R (Ite K a) H1) ∨ (∃ xs, SqT K H1 a xs ∧ R (Itet K a) H1))
theorem pi_enumA {X : Cx} {e : Expr} {ta : TA} {p pos tpos : Pos} {elts : List Expr} {kk : Nat} (hg : Gl X "enumerate") (hm : X.mg "enumerate" = none) (ha : PA X [e] ta) (hs : starEach [e] X.env = [(false, eval e X.env)] := by rfl) :
    PI X (.Tuple elts kk tpos) (.Call (.Name "enumerate" p) [e] [] pos) (iEnumA X.K ta) := by
  refine ⟨fun pins s σ H R I h => ?_⟩
  refine Call_ (ld_blt I hg hm boot_enumerate (PyProof.Rows.callWith_type1 (thn (ha.run pos pins s σ H _ I h) fun us s1 ⟨vs, H1, I1, r1, q1⟩ => ?_) hs rfl))
  obtain ⟨a, ex, q⟩ := q1
  subst ex
  cases r1 with
  | cons r rr =>
    cases rr
    cases r
    rcases q with ⟨xs, hq, q⟩ | ⟨xs, hq, q⟩
    · obtain ⟨its, rv, p', hz⟩ := I1.list hq
      refine call_enumerate_list p'.isList fun h' he hit hsz hk => wpAny_pyIter_enum he ?_
      have I2 : Inv X pins σ H1 { s1 with heap := h' } := I1.kept (t' := s1.toks) hk
      refine ⟨s1.heap.objs.size + 1, [s1.heap.objs.size + 1, s1.heap.objs.size], _, _, H1, rfl, I2, turn_enum a (s1.heap.objs.size + 1) s1.heap.objs.size, ⟨⟨.none, he⟩, hit, Nat.succ_ne_self _⟩, fun b hb => ?_, q⟩
      have e' : b = s1.heap.objs.size + 1 ∨ b = s1.heap.objs.size := by simpa using hb
      have hle : s1.heap.objs.size ≤ b := by
        rcases e' with z | z
        · rw [z]; exact Nat.le_add_right _ _
        · rw [z]; exact Nat.le_refl _
      exact I1.fpOk hle (I1.hok.fresh hle)
    · obtain ⟨its, rv, p', hz⟩ := I1.tuple hq
      have hal : a < s1.heap.objs.size := by obtain ⟨_, q', _⟩ := p'; exact Heap.lt_size q'
      refine call_enumerate_tuple p' fun h' he hit hsz hk => wpAny_pyIter_enum he ?_
      have I2 : Inv X pins σ H1 { s1 with heap := h' } := I1.kept (t' := s1.toks) hk
      refine ⟨s1.heap.objs.size + 1, [s1.heap.objs.size + 1, s1.heap.objs.size], _, _, H1, rfl, I2, turn_enumT a (s1.heap.objs.size + 1) s1.heap.objs.size, ⟨⟨.none, he⟩, hit, Nat.succ_ne_self _, Nat.ne_of_gt (Nat.lt_succ_of_lt hal), Nat.ne_of_lt hal⟩, fun b hb => ?_, q⟩
      have e' : b = s1.heap.objs.size + 1 ∨ b = s1.heap.objs.size := by simpa using hb
      have hle : s1.heap.objs.size ≤ b := by
        rcases e' with z | z
        · rw [z]; exact Nat.le_add_right _ _
        · rw [z]; exact Nat.le_refl _
      exact I1.fpOk hle (I1.hok.fresh hle)
/-! ### t[::-1] of a tuple -/
section
variable {prog : Program} {w : World} {A : Around} {E : Value → Shared → Prop} {s : Shared}
theorem adjust_rev (n : Nat) : Builtin.Slice.sliceAdjust none none (-1) (n : Int) = ((n : Int) - 1, -1) := by
  unfold Builtin.Slice.sliceAdjust
  simp
theorem places_rev (n : Nat) : Builtin.Slice.slicePlaces ((n : Int) - 1) (-1) (-1) = n := by
  unfold Builtin.Slice.slicePlaces
  have h1 : ¬ ((-1 : Int) > 0) := by omega
  have h2 : (-(-1) : Int) = 1 := by decide
  simp only [h1, if_false, h2, Int.ediv_one]
  split <;> omega
theorem sliceApplied_rev {sl : Addr} {vl vu vs : Value} {n : Nat} {Q : Int × Int × Nat → Shared → Prop} (hs : s.heap.IsSliceOf sl vl vu vs) (pl : IsPart vl none) (pu : IsPart vu none) (ps : IsPart vs (some (-1)))
    (h : Q ((n : Int) - 1, -1, n) s) : wpAny (model prog w) A (Builtin.Slice.sliceApplied (.ref sl) (pure (n : Int))) Q E s := by
  obtain ⟨os, hos, hcs, hds⟩ := id hs
  unfold Builtin.Slice.sliceApplied Builtin.Slice.sliceFields
  refine wpAny_bind (wpAny_bind (wpAny_field hos hds (x := vl) rfl (wpAny_bind (wpAny_field hos hds (x := vu) rfl (wpAny_bind (wpAny_field hos hds (x := vs) rfl (wpAny_pure ?_)))))))
  refine wpAny_bind (HT.slicePart_ ps ?_)
  show wpAny _ _ (if ((-1 : Int) == 0) = true then _ else _) _ _ s
  rw [if_neg (by decide)]
  refine wpAny_bind (HT.slicePart_ pl (wpAny_bind (HT.slicePart_ pu (wpAny_bind (wpAny_pure ?_)))))
  show wpAny _ _ (match Builtin.Slice.sliceAdjust none none (-1) (n : Int) with | (lo, hi) => pure (lo, (-1 : Int), Builtin.Slice.slicePlaces lo hi (-1))) _ _ s
  rw [adjust_rev]
  show wpAny _ _ (pure ((n : Int) - 1, (-1 : Int), Builtin.Slice.slicePlaces ((n : Int) - 1) (-1) (-1))) _ _ s
  rw [places_rev]
  exact wpAny_pure h
theorem pick_rev (xs : Array Value) : ((List.range xs.size).filterMap fun (m : Nat) => xs[(((xs.size : Int) - 1) + (m : Int) * (-1)).toNat]?).toArray = xs.toList.reverse.toArray := by
  congr 1
  refine List.ext_getElem? fun i => ?_
  have e : (List.range xs.size).filterMap (fun (m : Nat) => xs[(((xs.size : Int) - 1) + (m : Int) * (-1)).toNat]?) = (List.range xs.size).map fun m => xs.toList.reverse.getD m .none := by
    have : ∀ l : List Nat, (∀ m ∈ l, m < xs.size) → l.filterMap (fun (m : Nat) => xs[(((xs.size : Int) - 1) + (m : Int) * (-1)).toNat]?) = l.map fun m => xs.toList.reverse.getD m .none := by
      intro l
      induction l with
      | nil => intro _; rfl
      | cons m l ih =>
        intro h
        have hm := h m List.mem_cons_self
        have e1 : (((xs.size : Int) - 1) + (m : Int) * (-1)).toNat = xs.size - 1 - m := by omega
        have e2 : xs[xs.size - 1 - m]? = some (xs.toList.reverse.getD m .none) := by
          have h1 : m < xs.toList.reverse.length := by simpa using hm
          rw [List.getD_eq_getElem?_getD, List.getElem?_eq_getElem h1, List.getElem_reverse]
          rw [Array.getElem?_eq_getElem (by omega)]
          simp
        rw [List.filterMap_cons, e1, e2, List.map_cons, ih fun k hk => h k (List.mem_cons_of_mem _ hk)]
    exact this _ fun m hm => List.mem_range.mp hm
  rw [e, List.getElem?_map]
  by_cases hi : i < xs.size
  · rw [List.getElem?_range hi]
    have h1 : i < xs.toList.reverse.length := by simpa using hi
    rw [List.getElem?_eq_getElem h1]
    simp only [Option.map_some, List.getD_eq_getElem?_getD, List.getElem?_eq_getElem h1, Option.getD_some]
  · rw [List.getElem?_eq_none (by simpa using hi), List.getElem?_eq_none (by simpa using hi)]
    rfl
theorem getItem_tuple_rev {t sl : Addr} {items : Array Value} {vl vu vs : Value} {Q : Value → Shared → Prop} (ht : IsTup s.heap t items) (hs : s.heap.IsSliceOf sl vl vu vs) (pl : IsPart vl none) (pu : IsPart vu none) (ps : IsPart vs (some (-1)))
    (h : Q (.ref s.heap.objs.size) { s with heap := s.heap.push { cls := .type "tuple", data := .seq items.toList.reverse.toArray } }) (hsz : items.size ≤ sizeLine) : wpAny (model prog w) A (getItem (.ref t) (.ref sl)) Q E s := by
  have htake : sizeOk (.seq items.toList.reverse.toArray) := by
    show items.toList.reverse.toArray.size ≤ sizeLine
    rw [List.size_toArray, List.length_reverse, Array.length_toList]
    exact hsz
  obtain ⟨os, hos, hcs, hds⟩ := id hs
  have hTs : s.TypeIs (.ref sl) "slice" := ⟨os, hos, hcs⟩
  unfold getItem
  try with_reducible refine wpAny_holding ?_
  first | refine wpAny_bind (wpAny_pure ?_) | skip
  refine wpAny_bind (wpAny_sequenceKey ht.typeIs (by decide) ?_)
  refine wpAny_bind (wpAny_callSpecial?_slot (name := Str.ofString "__getitem__") ht.typeIs PyProof.Rows.slot_tuple_getitem
    (wpAny_call_entry PyProof.Rows.slot_tuple_getitem ht.typeIs entry_tuple_getitem ?_ (args_tuple_getitem _ _)))
  show wpAny _ _ (Builtin.Tuple.tupleItemsOf (.ref t) >>= _) _ _ s
  refine wpAny_bind (tupleItemsOf_ ht ?_)
  refine wpAny_bind (wpAny_typeOf hTs ?_)
  rw [if_pos (by decide)]
  refine wpAny_bind (sliceApplied_rev (n := items.size) hs pl pu ps ?_)
  have hno : ¬ ((((items.size : Int) - 1) == 0 && (-1 : Int) == 1 && items.size == items.size) = true) := by
    intro q
    rw [Bool.and_eq_true, Bool.and_eq_true] at q
    exact absurd q.1.2 (by decide)
  show wpAny _ _ (if (((items.size : Int) - 1) == 0 && (-1 : Int) == 1 && items.size == items.size) = true then _ else _) _ _ s
  rw [if_neg hno, pick_rev]
  first
    | exact wpAny_bind (m := Builtin.Tuple.tupleExact _) (wpAny_newObj_type (wpAny_pure ⟨_, rfl, wpAny_pure h⟩) htake)
    | exact wpAny_bind (m := Builtin.Tuple.tupleExact _) (wpAny_newObj_type (wpAny_bind (wpAny_pure (wpAny_pure ⟨_, rfl, wpAny_pure h⟩))) htake)
end
def tRevT (K : PySem.W.Frag) (te : TE) : TE := fun σ H Q => te σ H fun x H1 => ∃ a xs, x = .ref a ∧ ((SqL K H1 a xs ∧ ∀ p, H1 p = none → Q (.ref p) (upd H1 p (.lst xs.reverse))) ∨ (SqT K H1 a xs ∧ ∀ p, H1 p = none → Q (.ref p) (upd H1 p (.tup xs.reverse))))
theorem pe_revT {X : Cx} {e : Expr} {te : TE} {k : Nat} {p1 p2 p3 pos : Pos} (he : PE X e te) : PE X (.Subscript e (.Slice none none (some (.UnaryOp .USub (.Constant (.int 1) k p1) p2)) p3) pos) (tRevT X.K te) := by
  refine ⟨fun pins s σ H Q I h => ?_⟩
  refine Subscript_ (thn (he.run pins s σ H _ I h) fun v s1 ⟨x, H1, I1, r1, q1⟩ => ?_)
  obtain ⟨a, xs, ex, hxq⟩ := q1
  subst ex
  cases r1
  have hst : PO X (some (.UnaryOp .USub (.Constant (.int 1) k p1) p2)) (tPart (tUn (rU fun i => .int (-i)) (tC (.int 1)))) := po_some (pe_un un_neg pe_int)
  refine wpAny_Slice (thn (po_none.run pins s1 σ H1 (fun o H2 => o = none ∧ H2 = H1) I1 ⟨rfl, rfl⟩) fun vl s2 ⟨l, H2, I2, pl, el, e2⟩ => ?_)
  subst el e2
  refine thn (po_none.run pins s2 σ H2 (fun o H3 => o = none ∧ H3 = H2) I2 ⟨rfl, rfl⟩) fun vu s3 ⟨u, H3, I3, pu, eu, e3⟩ => ?_
  subst eu e3
  refine thn (hst.run pins s3 σ H3 (fun o H4 => o = some (-1) ∧ H4 = H3) I3 ⟨1, rfl, -1, rfl, rfl, rfl⟩) fun vs s4 ⟨o, H4, I4, ps, eo, e4⟩ => ?_
  subst eo e4
  have I5 : Inv X pins σ H4 { s4 with heap := s4.heap.push { cls := .type "slice", data := .fields #[vl, vu, vs] } } := I4.kept (t' := s4.toks) fun b ob q => Heap.get?_push_of_some _ q
  show wpAny (model X.prog X.w) X.A (subscriptTail e (.Slice none none (some (.UnaryOp .USub (.Constant (.int 1) k p1) p2)) p3) (.ref a) (.ref s4.heap.objs.size)) (EP X pins σ Q) X.xe { s4 with heap := s4.heap.push { cls := .type "slice", data := .fields #[vl, vu, vs] } }
  rcases hxq with ⟨hx, q⟩ | ⟨hx, q⟩
  · obtain ⟨its, r, ht, hz⟩ := I5.list hx
    have hlen := r.length
    refine tail_any (ops := [.ref a, .ref s4.heap.objs.size]) ht.isList.typeIs (PySem.slot_list_getitem.lookup) ?_ (by with_unfolding_all rfl)
    refine wpAny_getItem_list_slice ht.isList (Heap.IsSliceOf.new _ vl vu vs) pl pu ps (by decide) ?_ (by rw [List.size_toArray]; omega)
    rw [PySem.W.krv_pick]
    refine ⟨.ref _, _, I5.laid (t' := s4.toks) (o := .lst xs.reverse) (fun b ob q => Heap.get?_push_of_some _ q) (Nat.le_refl _) ?_, rfl, q _ (I5.hok.fresh (Nat.le_refl _))⟩
    exact ⟨by rw [List.length_reverse]; exact hz, _, 0, r.reverse, Heap.get?_push_size _ rfl⟩
  · obtain ⟨its, r, ht, hz⟩ := I5.tuple hx
    have hlen := r.length
    refine tail_any (ops := [.ref a, .ref s4.heap.objs.size]) ht.typeIs (PyProof.Rows.slot_tuple_getitem.lookup) ?_ (by with_unfolding_all rfl)
    refine getItem_tuple_rev ht (Heap.IsSliceOf.new _ vl vu vs) pl pu ps ?_ (by rw [List.size_toArray]; omega)
    refine ⟨.ref _, _, I5.laid (t' := s4.toks) (o := .tup xs.reverse) (fun b ob q => Heap.get?_push_of_some _ q) (Nat.le_refl _) ?_, rfl, q _ (I5.hok.fresh (Nat.le_refl _))⟩
    exact ⟨by rw [List.length_reverse]; exact hz, _, r.reverse, IsTup.new _ _⟩
end PlE

/-! PSound1: how the values of PLang lie in the hand layer's heap; the operations. -/
namespace Pl
open PySem PyProof.Rows
open L2 (V Hp HO St VK TE TT TA TS TI TG Cx PE PT PW PA PS PSs PI PG Inv SqL SqT upd upd_same upd_ne OpR UnR CallR R2 Vals RelV EP)

/-! ### data over a heap: as the library has it, and new dicts with nothing in them -/
mutual
inductive Dp (K : PySem.W.Frag) (H : Hp) : V → PyData → Prop
  | non : Dp K H .non .none
  | bl (b : Bool) : Dp K H (.bl b) (.bool b)
  | int (i : Int) : Dp K H (.int i) (.int i)
  | str (x : Str) : Dp K H (.str x) (.str x)
  | lst {a : Addr} {xs : List V} {ds : List PyData} : SqL K H a xs → DpAll K H xs ds → Dp K H (.ref a) (.list ds)
  | tup {a : Addr} {xs : List V} {ds : List PyData} : SqT K H a xs → DpAll K H xs ds → Dp K H (.ref a) (.tuple ds)
  | dct {a : Addr} : H a = some (.dT []) → Dp K H (.ref a) (.dict [])
inductive DpAll (K : PySem.W.Frag) (H : Hp) : List V → List PyData → Prop
  | nil : DpAll K H [] []
  | cons {v : V} {vs : List V} {d : PyData} {ds : List PyData} : Dp K H v d → DpAll K H vs ds → DpAll K H (v :: vs) (d :: ds)
end
mutual
theorem Dp.lib {K : PySem.W.Frag} {H : Hp} : ∀ (d : D) (v : V), PyData.hasDict d = false → Dp K H v d → L2.Dp K H v d
  | .none, _, _, .non => .non
  | .bool _, _, _, .bl b => .bl b
  | .int _, _, _, .int i => .int i
  | .str _, _, _, .str x => .str x
  | .list ds, _, n, .lst h a => .lst h (DpAll.lib ds _ (by simpa only [PyData.hasDict] using n) a)
  | .tuple ds, _, n, .tup h a => .tup h (DpAll.lib ds _ (by simpa only [PyData.hasDict] using n) a)
  | .dict [], _, n, .dct h => by simp [PyData.hasDict] at n
theorem DpAll.lib {K : PySem.W.Frag} {H : Hp} : ∀ (ds : List D) (vs : List V), PyData.hasDictAll ds = false → DpAll K H vs ds → L2.DpAll K H vs ds
  | [], _, _, .nil => .nil
  | d :: ds, _, n, .cons h t => by
    simp only [PyData.hasDictAll, Bool.or_eq_false_iff] at n
    exact .cons (Dp.lib d _ n.1 h) (DpAll.lib ds _ n.2 t)
end
mutual
theorem noDict_of_lay : ∀ d : D, PyData.canLay0 d = true → PyData.hasDict d = false
  | .none, _ => rfl
  | .bool _, _ => rfl
  | .int _, _ => rfl
  | .str _, _ => rfl
  | .list ds, h => by rw [PyData.hasDict]; exact noDict_of_layAll ds (by simpa only [PyData.canLay0] using h)
  | .tuple ds, h => by rw [PyData.hasDict]; exact noDict_of_layAll ds (by simpa only [PyData.canLay0] using h)
  | .dict _, h => by simp [PyData.canLay0] at h
theorem noDict_of_layAll : ∀ ds : List D, PyData.canLayAll0 ds = true → PyData.hasDictAll ds = false
  | [], _ => rfl
  | d :: ds, h => by
    simp only [PyData.canLayAll0, Bool.and_eq_true] at h
    rw [PyData.hasDictAll, noDict_of_lay d h.1, noDict_of_layAll ds h.2]
    rfl
end
theorem noDict_of_shaped {d : D} (h : PySem.SeqAt.shaped d = true) : PyData.hasDict d = false := by
  unfold PySem.SeqAt.shaped at h
  rw [Bool.and_eq_true] at h
  exact noDict_of_lay d h.1

/-! ### the heap: F what stands still, H what is tracked -/
def Sub (F H : Hp) : Prop := ∀ a o, F a = some o → H a = some o
/-- all that is tracked is as it was, but the lent list -/
def Ext (au : Option Addr) (F H F' H' : Hp) : Prop := ∀ a, some a ≠ au → H a ≠ none → H' a = H a ∧ F' a = F a
def UrnR (au : Option Addr) (u : U) (F H : Hp) : Prop := ∀ a, au = some a → H a = some (.lst (u.map V.int)) ∧ F a = none

theorem Sub.refl (F : Hp) : Sub F F := fun _ _ h => h
theorem Sub.trans {F G H : Hp} (a : Sub F G) (b : Sub G H) : Sub F H := fun x o h => b x o (a x o h)
theorem Ext.refl (au : Option Addr) (F H : Hp) : Ext au F H F H := fun _ _ _ => ⟨rfl, rfl⟩
theorem Ext.trans {au : Option Addr} {F H F1 H1 F2 H2 : Hp} (a : Ext au F H F1 H1) (b : Ext au F1 H1 F2 H2) : Ext au F H F2 H2 := fun x hx hn => by
  obtain ⟨h1, h2⟩ := a x hx hn
  obtain ⟨h3, h4⟩ := b x hx (by rw [h1]; exact hn)
  exact ⟨h3.trans h1, h4.trans h2⟩
theorem Ext.wk {au : Option Addr} {F H F' H' : Hp} (a : Ext none F H F' H') : Ext au F H F' H' := fun x _ hn => a x (fun h => nomatch h) hn
theorem Ext.sub {au : Option Addr} {F H F' H' : Hp} (e : Ext au F H F' H') (s : Sub F H) (hu : ∀ a, au = some a → F a = none) : Sub F F' := fun a o h => by
  have hn : some a ≠ au := fun q => by rw [hu a q.symm] at h; cases h
  rw [(e a hn (by rw [s a o h]; exact fun q => nomatch q)).2]
  exact h
theorem UrnR.step {au : Option Addr} {u : U} {F H F' H' : Hp} (r : UrnR au u F H) (e : Ext none F H F' H') : UrnR au u F' H' := fun a ha => by
  obtain ⟨h1, h2⟩ := r a ha
  obtain ⟨h3, h4⟩ := e a (fun h => nomatch h) (by rw [h1]; exact fun q => nomatch q)
  exact ⟨h3.trans h1, h4.trans h2⟩
theorem UrnR.no {u : U} {F H : Hp} : UrnR none u F H := fun _ h => nomatch h

/-- a new object, seen by H alone -/
theorem ext_newH {F H : Hp} {p : Addr} {o : HO} (hp : H p = none) : Ext none F H F (upd H p o) := fun a _ hn =>
  ⟨upd_ne fun e => hn (e ▸ hp), rfl⟩
/-- a new object that stands still -/
theorem ext_newF {F H : Hp} {p : Addr} {o : HO} (hp : H p = none) : Ext none F H (upd F p o) (upd H p o) := fun a _ hn =>
  ⟨upd_ne fun e => hn (e ▸ hp), upd_ne fun e => hn (e ▸ hp)⟩
theorem Sub.free {F H : Hp} (s : Sub F H) {p : Addr} (hp : H p = none) : F p = none := by
  cases h : F p with
  | none => rfl
  | some o => rw [s p o h] at hp; cases hp
theorem sub_newH {F H : Hp} {p : Addr} {o : HO} (s : Sub F H) (hp : H p = none) : Sub F (upd H p o) := fun a u h => by
  rw [upd_ne fun e => by rw [e, s.free hp] at h; cases h]
  exact s a u h
theorem sub_newF {F H : Hp} {p : Addr} {o : HO} (s : Sub F H) : Sub (upd F p o) (upd H p o) := fun a u h => by
  by_cases e : a = p
  · subst e; rw [upd_same] at h ⊢; exact h
  · rw [upd_ne e] at h ⊢; exact s a u h
theorem sub_new {F : Hp} {p : Addr} {o : HO} (hp : F p = none) : Sub F (upd F p o) := fun a u h => by
  rw [upd_ne fun e => by rw [e, hp] at h; cases h]
  exact h

section
variable {K : PySem.W.Frag} {F F' H H' : Hp}
theorem sqL_sub (s : Sub F F') {a : Addr} {xs : List V} (h : SqL K F a xs) : SqL K F' a xs := by
  rcases h with (h | ⟨o, h⟩) | h
  · exact .inl (.inl (s _ _ h))
  · exact .inl (.inr ⟨o, s _ _ h⟩)
  · exact .inr h
theorem sqT_sub (s : Sub F F') {a : Addr} {xs : List V} (h : SqT K F a xs) : SqT K F' a xs := by
  rcases h with (h | ⟨o, h⟩) | h
  · exact .inl (.inl (s _ _ h))
  · exact .inl (.inr ⟨o, s _ _ h⟩)
  · exact .inr h
mutual
theorem dp_sub (s : Sub F F') : ∀ (d : D) (v : V), Dp K F v d → Dp K F' v d
  | .none, _, .non => .non
  | .bool _, _, .bl b => .bl b
  | .int _, _, .int i => .int i
  | .str _, _, .str x => .str x
  | .list ds, _, .lst h a => .lst (sqL_sub s h) (dpAll_sub s ds _ a)
  | .tuple ds, _, .tup h a => .tup (sqT_sub s h) (dpAll_sub s ds _ a)
  | .dict [], _, .dct h => .dct (s _ _ h)
theorem dpAll_sub (s : Sub F F') : ∀ (ds : List D) (vs : List V), DpAll K F vs ds → DpAll K F' vs ds
  | [], _, .nil => .nil
  | d :: ds, _, .cons h t => .cons (dp_sub s d _ h) (dpAll_sub s ds _ t)
end
theorem dpAll_len : ∀ {ds : List D} {vs : List V}, DpAll K F vs ds → vs.length = ds.length
  | _, _, .nil => rfl
  | _, _, .cons _ t => congrArg Nat.succ (dpAll_len t)
theorem dpAll_get : ∀ {ds : List D} {vs : List V} {i : Nat} {d : D}, DpAll K F vs ds → ds[i]? = some d → ∃ v, vs[i]? = some v ∧ Dp K F v d
  | _, _, i, d, .nil, h => by simp at h
  | _, _, 0, d, .cons a t, h => by simp at h; subst h; exact ⟨_, rfl, a⟩
  | _, _, i + 1, d, .cons a t, h => by
    obtain ⟨v, h1, h2⟩ := dpAll_get (i := i) t (by simpa using h)
    exact ⟨v, by simpa using h1, h2⟩
theorem dpAll_append : ∀ {ds es : List D} {vs ws : List V}, DpAll K F vs ds → DpAll K F ws es → DpAll K F (vs ++ ws) (ds ++ es)
  | _, _, _, _, .nil, h => h
  | _, _, _, _, .cons a t, h => .cons a (dpAll_append t h)
theorem dpAll_take : ∀ {ds : List D} {vs : List V} (n : Nat), DpAll K F vs ds → DpAll K F (vs.take n) (ds.take n)
  | _, _, 0, _ => .nil
  | _, _, n + 1, .nil => .nil
  | _, _, n + 1, .cons a t => .cons a (dpAll_take n t)
theorem dpAll_drop : ∀ {ds : List D} {vs : List V} (n : Nat), DpAll K F vs ds → DpAll K F (vs.drop n) (ds.drop n)
  | _, _, 0, h => h
  | _, _, n + 1, .nil => .nil
  | _, _, n + 1, .cons a t => dpAll_drop n t
theorem dpAll_set : ∀ {ds : List D} {vs : List V} {v : V} {d : D} (j : Nat), DpAll K F vs ds → Dp K F v d → DpAll K F (vs.set j v) (ds.set j d)
  | _, _, _, _, _, .nil, _ => .nil
  | _, _, _, _, 0, .cons a t, h => .cons h t
  | _, _, _, _, j + 1, .cons a t, h => .cons a (dpAll_set j t h)
theorem dpAll_rev {ds : List D} {vs : List V} (h : DpAll K F vs ds) : DpAll K F vs.reverse ds.reverse := by
  induction ds generalizing vs with
  | nil => cases h; exact .nil
  | cons d ds ih =>
    cases h with
    | cons a t => rw [List.reverse_cons, List.reverse_cons]; exact dpAll_append (ih t) (.cons a .nil)
theorem dpAll_rep {ds : List D} {vs : List V} (h : DpAll K F vs ds) : ∀ k : Nat, DpAll K F (List.replicate k vs).flatten (List.replicate k ds).flatten
  | 0 => .nil
  | k + 1 => by
    rw [List.replicate_succ, List.replicate_succ, List.flatten_cons, List.flatten_cons]
    exact dpAll_append h (dpAll_rep h k)
theorem dpAll_dropLast {ds : List D} {vs : List V} (h : DpAll K F vs ds) : DpAll K F vs.dropLast ds.dropLast := by
  rw [List.dropLast_eq_take, List.dropLast_eq_take, dpAll_len h]
  exact dpAll_take _ h
theorem dpAll_ints : ∀ {ds : List D} {vs : List V} {ns : List Int}, DpAll K F vs ds → intsOf ds = some ns → vs = ns.map V.int
  | _, _, ns, .nil, h => by simp [intsOf] at h; subst h; rfl
  | .int i :: ds, _, ns, .cons a t, h => by
    cases a
    simp only [intsOf, Option.map_eq_some_iff] at h
    obtain ⟨ms, h, rfl⟩ := h
    rw [dpAll_ints t h]; rfl
  | .none :: ds, _, ns, .cons a t, h => by simp [intsOf] at h
  | .bool _ :: ds, _, ns, .cons a t, h => by simp [intsOf] at h
  | .str _ :: ds, _, ns, .cons a t, h => by simp [intsOf] at h
  | .list _ :: ds, _, ns, .cons a t, h => by simp [intsOf] at h
  | .tuple _ :: ds, _, ns, .cons a t, h => by simp [intsOf] at h
  | .dict _ :: ds, _, ns, .cons a t, h => by simp [intsOf] at h
theorem dpAll_bools : ∀ {ds : List D} {vs : List V} {ns : List Bool}, DpAll K F vs ds → boolsOf ds = some ns → vs = ns.map V.bl
  | _, _, ns, .nil, h => by simp [boolsOf] at h; subst h; rfl
  | .bool i :: ds, _, ns, .cons a t, h => by
    cases a
    simp only [boolsOf, Option.map_eq_some_iff] at h
    obtain ⟨ms, h, rfl⟩ := h
    rw [dpAll_bools t h]; rfl
  | .none :: ds, _, ns, .cons a t, h => by simp [boolsOf] at h
  | .int _ :: ds, _, ns, .cons a t, h => by simp [boolsOf] at h
  | .str _ :: ds, _, ns, .cons a t, h => by simp [boolsOf] at h
  | .list _ :: ds, _, ns, .cons a t, h => by simp [boolsOf] at h
  | .tuple _ :: ds, _, ns, .cons a t, h => by simp [boolsOf] at h
  | .dict _ :: ds, _, ns, .cons a t, h => by simp [boolsOf] at h
theorem dp_int {v : V} {i : Int} (h : Dp K F v (.int i)) : v = .int i := by cases h; rfl
theorem dp_bool {v : V} {b : Bool} (h : Dp K F v (.bool b)) : v = .bl b := by cases h; rfl
theorem dp_list {v : V} {ds : List D} (h : Dp K F v (.list ds)) : ∃ a xs, v = .ref a ∧ SqL K F a xs ∧ DpAll K F xs ds := by
  cases h with
  | lst h a => exact ⟨_, _, rfl, h, a⟩
theorem dp_tuple {v : V} {ds : List D} (h : Dp K F v (.tuple ds)) : ∃ a xs, v = .ref a ∧ SqT K F a xs ∧ DpAll K F xs ds := by
  cases h with
  | tup h a => exact ⟨_, _, rfl, h, a⟩
theorem dpAll_of_ints (ns : List Int) : DpAll K F (ns.map V.int) (ns.map PyData.int) := by
  induction ns with
  | nil => exact .nil
  | cons n ns ih => exact .cons (.int n) ih


mutual
theorem dp_noList (hT : ∀ a xs, SqT K F a xs → SqT K F' a xs) : ∀ (d : D) (v : V), noList d = true → Dp K F v d → Dp K F' v d
  | .none, _, _, .non => .non
  | .bool _, _, _, .bl b => .bl b
  | .int _, _, _, .int i => .int i
  | .str _, _, _, .str x => .str x
  | .list ds, _, h, _ => by simp [noList] at h
  | .tuple ds, _, h, .tup q a => .tup (hT _ _ q) (dpAll_noList hT ds _ (by simpa [noList] using h) a)
theorem dpAll_noList (hT : ∀ a xs, SqT K F a xs → SqT K F' a xs) : ∀ (ds : List D) (vs : List V), noListAll ds = true → DpAll K F vs ds → DpAll K F' vs ds
  | [], _, _, .nil => .nil
  | d :: ds, _, h, .cons a t => by
    simp only [noListAll, Bool.and_eq_true] at h
    exact .cons (dp_noList hT d _ h.1 a) (dpAll_noList hT ds _ h.2 t)
end
end

/-- a result that may be a new list: the list is new, nothing else holds it -/
def Rn (K : PySem.W.Frag) (H F' H' : Hp) (v : V) : D → Prop
  | .list ds => ∃ a vs, v = .ref a ∧ H a = none ∧ F' a = none ∧ H' a = some (.lst vs) ∧ DpAll K F' vs ds
  | d => Dp K F' v d
def Rr (b : Bool) (K : PySem.W.Frag) (H F' H' : Hp) (v : V) (d : D) : Prop := if b then Rn K H F' H' v d else Dp K F' v d
theorem Rn.of {K : PySem.W.Frag} {H F' H' : Hp} {v : V} {d : D} (h : Dp K F' v d) (n : isL d = false) : Rn K H F' H' v d := by
  cases d <;> first | exact h | (simp [isL] at n)
theorem Rr.of {b : Bool} {K : PySem.W.Frag} {H F' H' : Hp} {v : V} {d : D} (h : Dp K F' v d) (n : isL d = false) : Rr b K H F' H' v d := by
  cases b
  · exact h
  · exact Rn.of h n

/-- the new list is put to what stands still -/
theorem Rr.settle {au : Option Addr} {b : Bool} {K : PySem.W.Frag} {u : U} {F H F' H' : Hp} {v : V} {d : D} (r : Rr b K H F' H' v d) (e : Ext au F H F' H') (s : Sub F' H') (hu : UrnR au u F' H')
    (h0 : ∀ a, au = some a → H a ≠ none) : ∃ F'', Ext au F H F'' H' ∧ Sub F'' H' ∧ UrnR au u F'' H' ∧ Dp K F'' v d ∧ Sub F' F'' := by
  by_cases hb : b = true ∧ isL d = true
  · obtain ⟨rfl, hl⟩ := hb
    cases d with
    | list ds =>
      obtain ⟨a, vs, rfl, h1, h2, h3, h4⟩ := r
      have sF : Sub F' (upd F' a (.lst vs)) := sub_new h2
      refine ⟨upd F' a (.lst vs), fun x hx hn => ?_, fun x o h => ?_, fun x hx => ?_, .lst (.inl (.inl upd_same)) (dpAll_sub sF _ _ h4), sF⟩
      · obtain ⟨q1, q2⟩ := e x hx hn
        exact ⟨q1, (upd_ne fun (z : x = a) => hn (by rw [z]; exact h1)).trans q2⟩
      · by_cases z : x = a
        · subst z; rw [upd_same] at h; rw [h3]; exact h
        · rw [upd_ne z] at h; exact s x o h
      · obtain ⟨q1, q2⟩ := hu x hx
        exact ⟨q1, (upd_ne fun (z : x = a) => h0 x hx (by rw [z]; exact h1)).trans q2⟩
    | _ => simp [isL] at hl
  · refine ⟨F', e, s, hu, ?_, Sub.refl _⟩
    cases b with
    | false => exact r
    | true =>
      have hn : isL d = false := by
        cases q : isL d with
        | false => rfl
        | true => exact absurd ⟨rfl, q⟩ hb
      cases d <;> first | exact r | (simp [isL] at hn)
end Pl

/-! PSound2: the operations. -/
namespace Pl
open PySem PyProof.Rows
open L2 (V Hp HO St VK TE TT TA TS TI TG Cx PE PT PW PA PS PSs PI PG Inv SqL SqT upd upd_same upd_ne OpR UnR CallR R2 Vals RelV EP)

def toOp : BOp → Operator
  | .add => .Add | .sub => .Sub | .mul => .Mult | .fdiv => .FloorDiv | .mod => .Mod | .pow => .Pow
def toCmp : COp → CmpOp
  | .eq => .Eq | .ne => .NotEq | .lt => .Lt | .le => .LtE | .gt => .Gt | .ge => .GtE | .isin => .In | .notin => .NotIn | .isN => .Is | .notN => .IsNot

/-- what an operation's answer is to be: d, over what stands still -/
def Ans (K : PySem.W.Frag) (F H : Hp) (d : D) (Q : VK) : Prop := ∀ v F' H', Ext none F H F' H' → Sub F' H' → Rn K H F' H' v d → Q v H'
theorem Ans.same {K : PySem.W.Frag} {F H : Hp} {d : D} {Q : VK} {v : V} (h : Ans K F H d Q) (s : Sub F H) (r : Dp K F v d) (n : isL d = false) : Q v H := h v F H (Ext.refl _ _ _) s (Rn.of r n)
theorem Ans.newL {K : PySem.W.Frag} {F H : Hp} {ds : List D} {Q : VK} {vs : List V} {p : Addr} (h : Ans K F H (.list ds) Q) (s : Sub F H) (r : DpAll K F vs ds) (hp : H p = none) : Q (.ref p) (upd H p (.lst vs)) :=
  h _ F _ (ext_newH hp) (sub_newH s hp) ⟨p, vs, rfl, hp, s.free hp, upd_same, r⟩
theorem Ans.newT {K : PySem.W.Frag} {F H : Hp} {ds : List D} {Q : VK} {vs : List V} {p : Addr} (h : Ans K F H (.tuple ds) Q) (s : Sub F H) (r : DpAll K F vs ds) (hp : H p = none) : Q (.ref p) (upd H p (.tup vs)) :=
  h _ (upd F p (.tup vs)) _ (ext_newF hp) (sub_newF s) (Dp.tup (.inl (.inl upd_same)) (dpAll_sub (sub_new (s.free hp)) _ _ r))
theorem Ans.newD {K : PySem.W.Frag} {F H : Hp} {Q : VK} {p : Addr} (h : Ans K F H (.dict []) Q) (s : Sub F H) (hp : H p = none) : Q (.ref p) (upd H p (.dT [])) :=
  h _ (upd F p (.dT [])) _ (ext_newF hp) (sub_newF s) (Dp.dct upd_same)
theorem sizeLine_of {n : Nat} (h : sizeOk n = true) : n ≤ sizeLine := Nat.le_trans (of_decide_eq_true h) (by decide)
theorem sizeLt_of {n : Nat} (h : sizeOk n = true) : n < sizeLine := Nat.lt_of_le_of_lt (of_decide_eq_true h) (by decide)

section
variable {X : Cx}
/-- list + list, whatever they stand in -/
theorem op_catS : OpR X (binaryOp .Add) (fun x y H Q => ∃ l b xs zs, x = .ref l ∧ y = .ref b ∧ SqL X.K H l xs ∧ SqL X.K H b zs ∧ xs.length + zs.length ≤ sizeLine ∧ ∀ p, H p = none → Q (.ref p) (upd H p (.lst (xs ++ zs)))) := by
  intro pins s σ H x y v u Q I rx ry h
  obtain ⟨l, b, xs, zs, rfl, rfl, hH, hB, hz, q⟩ := h
  cases rx
  cases ry
  obtain ⟨its, r, ⟨o, n, e, c, dd, d⟩, z⟩ := I.list hH
  obtain ⟨its2, r2, ⟨o2, n2, e2, c2, dd2, d2⟩, z2⟩ := I.list hB
  obtain ⟨oc, od, dt, sl⟩ := o
  obtain ⟨oc2, od2, dt2, sl2⟩ := o2
  simp only at c dd d c2 dd2 d2
  subst c dd d c2 dd2 d2
  have hl := r.length
  have hl2 := r2.length
  refine concat_meets ⟨_, e, rfl⟩ ⟨_, e2, rfl⟩ noFill_list_add seq_list_add PySem.F.slot_list_add PySem.F.entry_list_add (PySem.F.args_list_add_2 _ _) (list_addW l b its.toArray its2.toArray n n2 _ _ sl sl2 (by simp only [List.size_toArray]; omega)) ⟨e, e2, ?_⟩
  have ea : its.toArray ++ its2.toArray = (its ++ its2).toArray := by simp
  rw [ea]
  exact ⟨.ref _, _, I.lnew (t' := s.toks) (r.append r2) (by rw [List.length_append]; omega), rfl, q _ I.fresh⟩
theorem op_fdivS : OpR X (binaryOp .FloorDiv) (L2.rI (fun _ j => j ≠ 0 ∧ j.natAbs.log2 < 9000) fun i j => .int (i.fdiv j)) := L2.opI fun _ _ _ _ _ _ _ hc q => floordiv_int hc.1 q (.inl (PyProof.noPylong_of_log2 hc.2))
theorem call_divmodS : CallR X (.builtin "divmod") (fun xs H Q => ∃ i j, xs = [.int i, .int j] ∧ (j ≠ 0 ∧ j.natAbs.log2 < 9000) ∧ ∀ p, H p = none → Q (.ref p) (upd H p (.tup [.int (i.fdiv j), .int (i.fmod j)]))) := by
  intro pins s σ H xs us Q I r h
  obtain ⟨i, j, rfl, ⟨h1, h2⟩, q⟩ := h
  obtain ⟨u, w', rfl, ⟨t, rfl⟩, ⟨t', rfl⟩⟩ := L2.vals2 r
  refine divmod_int h1 ?_ (.inl (PyProof.noPylong_of_log2 h2))
  have hn : H s.heap.objs.size = none := I.hok.fresh (Nat.le_refl _)
  refine ⟨.ref s.heap.objs.size, _, ?_, rfl, q _ hn⟩
  refine I.laid (fun b o e => Heap.get?_push_of_some _ e) (Nat.le_refl _) ⟨by simp only [List.length_cons, List.length_nil]; rw [sizeLine_eq]; decide, [.int (i.fdiv j) s.toks, .int (i.fmod j) (s.toks + 1)], .cons ⟨_, rfl⟩ (.cons ⟨_, rfl⟩ .nil), ?_⟩
  exact ⟨_, Heap.get?_push_size s.heap rfl, rfl, 0, rfl⟩

def rB (K : PySem.W.Frag) (o : BOp) : R2 := fun x y H Q => ∃ F dx dy d, Sub F H ∧ Dp K F x dx ∧ Dp K F y dy ∧ binV o dx dy = some d ∧ Ans K F H d Q
theorem op_bin (o : BOp) : OpR X (binaryOp (toOp o)) (rB X.K o) := by
  intro pins s σ H x y v u Q I rx ry h
  obtain ⟨F, dx, dy, d, sb, hx, hy, hd, q⟩ := h
  have ii : ∀ {i j z : Int}, dx = .int i → dy = .int j → d = .int z → x = .int i ∧ y = .int j ∧ Q (.int z) H := fun {i j z} e1 e2 e3 => by
    subst e1 e2 e3
    exact ⟨dp_int hx, dp_int hy, q.same sb (.int z) rfl⟩
  cases o <;> cases dx <;> cases dy <;> simp only [binV] at hd <;> first | contradiction | skip
  · -- int + int
    cases hd
    obtain ⟨rfl, rfl, q'⟩ := ii rfl rfl rfl
    exact L2.op_add pins s σ H _ _ _ _ Q I rx ry ⟨_, _, rfl, rfl, q'⟩
  · -- list + list
    split at hd <;> first | contradiction | skip
    rename_i hz
    cases hd
    obtain ⟨a, xs, rfl, h1, h2⟩ := dp_list hx
    obtain ⟨b, ys, rfl, h3, h4⟩ := dp_list hy
    exact op_catS pins s σ H _ _ _ _ Q I rx ry ⟨a, b, xs, ys, rfl, rfl, sqL_sub sb h1, sqL_sub sb h3, by rw [dpAll_len h2, dpAll_len h4]; exact sizeLine_of hz, fun p hp => q.newL sb (dpAll_append h2 h4) hp⟩
  · -- tuple + tuple
    split at hd <;> first | contradiction | skip
    rename_i hz
    cases hd
    obtain ⟨a, xs, rfl, h1, h2⟩ := dp_tuple hx
    obtain ⟨b, ys, rfl, h3, h4⟩ := dp_tuple hy
    refine L2.op_catA pins s σ H _ _ _ _ Q I rx ry ⟨a, b, xs, ys, rfl, rfl, sqT_sub sb h1, sqT_sub sb h3, by rw [dpAll_len h2, dpAll_len h4]; exact sizeLine_of hz, fun z => ?_, fun z z2 => ?_, fun _ _ p hp => q.newT sb (dpAll_append h2 h4) hp⟩
    · subst z; cases h2; exact q.same sb hy rfl
    · subst z2; cases h4; rw [List.append_nil] at q; exact q.same sb hx rfl
  · -- int - int
    cases hd
    obtain ⟨rfl, rfl, q'⟩ := ii rfl rfl rfl
    exact L2.op_sub pins s σ H _ _ _ _ Q I rx ry ⟨_, _, rfl, rfl, q'⟩
  · -- int * int
    split at hd <;> first | contradiction | skip
    rename_i hz
    cases hd
    obtain ⟨rfl, rfl, q'⟩ := ii rfl rfl rfl
    exact L2.op_mulW pins s σ H _ _ _ _ Q I rx ry ⟨_, _, rfl, rfl, by simpa [mulOk, divOk, L2.CMulW, L2.CPow] using hz, q'⟩
  · -- int // int
    split at hd <;> first | contradiction | skip
    rename_i hz
    cases hd
    obtain ⟨rfl, rfl, q'⟩ := ii rfl rfl rfl
    exact op_fdivS pins s σ H _ _ _ _ Q I rx ry ⟨_, _, rfl, rfl, by simpa [mulOk, divOk, L2.CMulW, L2.CPow] using hz, q'⟩
  · -- int % int
    split at hd <;> first | contradiction | skip
    rename_i hz
    cases hd
    obtain ⟨rfl, rfl, q'⟩ := ii rfl rfl rfl
    exact L2.op_modN pins s σ H _ _ _ _ Q I rx ry ⟨_, _, rfl, rfl, hz, q'⟩
  · -- int ** int
    split at hd <;> first | contradiction | skip
    rename_i hz
    cases hd
    obtain ⟨rfl, rfl, q'⟩ := ii rfl rfl rfl
    exact L2.op_pow pins s σ H _ _ _ _ Q I rx ry ⟨_, _, rfl, rfl, by simpa [mulOk, divOk, L2.CMulW, L2.CPow] using hz, q'⟩

/-! ### comparisons -/
/-- a flat answer -/
def AnsB (H : Hp) (b : Bool) (Q : VK) : Prop := Q (.bl b) H
def rC (K : PySem.W.Frag) (o : COp) : R2 := fun x y H Q => ∃ F dx dy b, Sub F H ∧ Dp K F x dx ∧ Dp K F y dy ∧ cmpV o dx dy = some b ∧ Q (.bl b) H
theorem items_list {d : D} {xs : List D} (h : items d = some xs) : d = .list xs ∨ d = .tuple xs := by
  cases d <;> simp [items] at h
  · exact .inl (by rw [h])
  · exact .inr (by rw [h])
theorem dp_none_iff {K : PySem.W.Frag} {F : Hp} {v : V} {d : D} (h : Dp K F v d) : decide (v = .non) = isNone d := by
  cases h <;> rfl
theorem room_in {A : Around} {d : D} {n : Nat} (h : PySem.SeqAt.shaped d = true) (hu : A.units + 66 < cLine) : A.units + 1 + min n d.depth < cLine := by
  have h1 := PySem.SeqAt.depth_of_shaped h
  have h2 : min n d.depth ≤ d.depth := Nat.min_le_right _ _
  omega
theorem op_cmp (o : COp) (hu : X.A.units + 66 < cLine) : OpR X (compareOp (toCmp o)) (rC X.K o) := by
  intro pins s σ H x y v u Q I rx ry h
  obtain ⟨F, dx, dy, b, sb, hx, hy, hd, q⟩ := h
  have hX := dp_sub sb _ _ hx
  have hY := dp_sub sb _ _ hy
  cases o
  case eq =>
    have hd : eqD dx dy = some b := by simpa only [cmpV] using hd
    unfold eqD at hd
    split at hd
    · cases hd
      cases hX
      cases hY
      exact L2.op_eq pins s σ H _ _ _ _ Q I rx ry ⟨rfl, by simpa using q⟩
    · split at hd <;> first | contradiction | skip
      rename_i hz
      cases hd
      rw [Bool.and_eq_true] at hz
      exact L2.op_eqD (by omega) pins s σ H _ _ _ _ Q I rx ry ⟨dx, dy, Dp.lib _ _ (noDict_of_shaped hz.1) hX, Dp.lib _ _ (noDict_of_shaped hz.2) hY, hz.1, hz.2, q⟩
  case ne =>
    have hq : (eqD dx dy).map (!·) = some b := by simpa only [cmpV] using hd
    rw [Option.map_eq_some_iff] at hq
    obtain ⟨b0, hq, e⟩ := hq
    subst e
    unfold eqD at hq
    split at hq
    · cases hq
      cases hX
      cases hY
      exact L2.op_ne pins s σ H _ _ _ _ Q I rx ry ⟨rfl, by simpa using q⟩
    · split at hq <;> first | contradiction | skip
      rename_i hz
      cases hq
      rw [Bool.and_eq_true] at hz
      exact L2.op_neD (by omega) pins s σ H _ _ _ _ Q I rx ry ⟨dx, dy, Dp.lib _ _ (noDict_of_shaped hz.1) hX, Dp.lib _ _ (noDict_of_shaped hz.2) hY, hz.1, hz.2, q⟩
  case lt =>
    cases dx <;> cases dy <;> simp only [cmpV] at hd <;> first | contradiction | skip
    cases hd; obtain rfl := dp_int hx; obtain rfl := dp_int hy
    exact L2.op_lt pins s σ H _ _ _ _ Q I rx ry ⟨_, _, rfl, rfl, q⟩
  case le =>
    cases dx <;> cases dy <;> simp only [cmpV] at hd <;> first | contradiction | skip
    cases hd; obtain rfl := dp_int hx; obtain rfl := dp_int hy
    exact L2.op_le pins s σ H _ _ _ _ Q I rx ry ⟨_, _, rfl, rfl, q⟩
  case gt =>
    cases dx <;> cases dy <;> simp only [cmpV] at hd <;> first | contradiction | skip
    cases hd; obtain rfl := dp_int hx; obtain rfl := dp_int hy
    exact L2.op_gt pins s σ H _ _ _ _ Q I rx ry ⟨_, _, rfl, rfl, q⟩
  case ge =>
    cases dx <;> cases dy <;> simp only [cmpV] at hd <;> first | contradiction | skip
    cases hd; obtain rfl := dp_int hx; obtain rfl := dp_int hy
    exact L2.op_ge pins s σ H _ _ _ _ Q I rx ry ⟨_, _, rfl, rfl, q⟩
  case isN =>
    have hdy : dy = .none ∨ ∃ p q, dx = .bool p ∧ dy = .bool q := by
      cases dy <;> first | exact .inl rfl | (cases dx <;> simp only [cmpV] at hd <;> first | contradiction | exact .inr ⟨_, _, rfl, rfl⟩)
    rcases hdy with rfl | ⟨p, p', rfl, rfl⟩
    rotate_left
    · simp only [cmpV] at hd
      cases hd
      cases hx; cases hy
      exact L2.op_is_bl pins s σ H _ _ _ _ Q I rx ry ⟨_, _, rfl, rfl, q⟩
    simp only [cmpV] at hd
    cases hd
    have e := dp_none_iff hx
    cases hy
    exact L2.op_isN pins s σ H _ _ _ _ Q I rx ry ⟨rfl, by rw [e]; exact q⟩
  case notN =>
    have hdy : dy = .none ∨ ∃ p q, dx = .bool p ∧ dy = .bool q := by
      cases dy <;> first | exact .inl rfl | (cases dx <;> simp only [cmpV] at hd <;> first | contradiction | exact .inr ⟨_, _, rfl, rfl⟩)
    rcases hdy with rfl | ⟨p, p', rfl, rfl⟩
    rotate_left
    · simp only [cmpV] at hd
      cases hd
      cases hx; cases hy
      exact L2.op_isnot_bl pins s σ H _ _ _ _ Q I rx ry ⟨_, _, rfl, rfl, q⟩
    simp only [cmpV] at hd
    cases hd
    have e := dp_none_iff hx
    cases hy
    exact L2.op_notN pins s σ H _ _ _ _ Q I rx ry ⟨rfl, by rw [e]; exact q⟩
  case isin =>
    have hd : inV false dx dy = some b := by simpa only [cmpV] using hd
    obtain ⟨xs, hi, hd⟩ := Option.bind_eq_some_iff.mp hd
    split at hd <;> first | contradiction | skip
    rename_i hz
    cases hd
    rw [Bool.and_eq_true] at hz
    obtain ⟨as, r1⟩ := L2.Dp.reads I dx x v (Dp.lib _ _ (noDict_of_shaped hz.1) hX) rx
    obtain ⟨bs, r2⟩ := L2.Dp.reads I dy y u (Dp.lib _ _ (by cases dy <;> simp only [items, Option.some.injEq] at hi <;> first | contradiction | (subst hi; rw [PyData.hasDict]; exact noDict_of_layAll _ hz.2)) hY) ry
    rcases items_list hi with e | e <;> subst e
    · exact SeqAt.in_list_reads r2 r1 hz.2 (SeqAt.canLay_of_shaped hz.1) (room_in hz.1 hu) ⟨.bl _, H, I, rfl, q⟩
    · exact SeqAt.in_tuple_reads r2 r1 hz.2 (SeqAt.canLay_of_shaped hz.1) (room_in hz.1 hu) ⟨.bl _, H, I, rfl, q⟩
  case notin =>
    have hd : inV true dx dy = some b := by simpa only [cmpV] using hd
    obtain ⟨xs, hi, hd⟩ := Option.bind_eq_some_iff.mp hd
    split at hd <;> first | contradiction | skip
    rename_i hz
    cases hd
    rw [Bool.and_eq_true] at hz
    obtain ⟨as, r1⟩ := L2.Dp.reads I dx x v (Dp.lib _ _ (noDict_of_shaped hz.1) hX) rx
    obtain ⟨bs, r2⟩ := L2.Dp.reads I dy y u (Dp.lib _ _ (by cases dy <;> simp only [items, Option.some.injEq] at hi <;> first | contradiction | (subst hi; rw [PyData.hasDict]; exact noDict_of_layAll _ hz.2)) hY) ry
    rcases items_list hi with e | e <;> subst e
    · exact SeqAt.notIn_list_reads r2 r1 hz.2 (SeqAt.canLay_of_shaped hz.1) (room_in hz.1 hu) ⟨.bl _, H, I, rfl, q⟩
    · exact SeqAt.notIn_tuple_reads r2 r1 hz.2 (SeqAt.canLay_of_shaped hz.1) (room_in hz.1 hu) ⟨.bl _, H, I, rfl, q⟩

/-! ### subscripts, slices -/
theorem atI_eq {α : Type} {xs : List α} {i : Int} {x : α} (h : atI xs i = some x) : L2.atI xs i = some x := by
  unfold atI at h
  unfold L2.atI L2.ixN
  by_cases h0 : 0 ≤ i
  · rw [if_pos h0] at h ⊢
    have hl := (List.getElem?_eq_some_iff.mp h).1
    rw [if_pos (by omega)]
    exact h
  · rw [if_neg h0] at h ⊢
    split at h <;> first | contradiction | skip
    rename_i h1
    rw [if_pos (by omega)]
    exact h
theorem atI_dp {K : PySem.W.Frag} {F : Hp} {xs : List D} {vs : List V} {i : Int} {d : D} (r : DpAll K F vs xs) (h : atI xs i = some d) : ∃ v, L2.atI vs i = some v ∧ Dp K F v d := by
  have hl := dpAll_len r
  unfold atI at h
  by_cases h0 : 0 ≤ i
  · rw [if_pos h0] at h
    obtain ⟨v, h1, h2⟩ := dpAll_get r h
    exact ⟨v, atI_eq (by unfold atI; rw [if_pos h0]; exact h1), h2⟩
  · rw [if_neg h0] at h
    split at h <;> first | contradiction | skip
    rename_i h1
    obtain ⟨v, h3, h2⟩ := dpAll_get r h
    exact ⟨v, atI_eq (by unfold atI; rw [if_neg h0, hl, if_pos h1]; exact h3), h2⟩
def rIx (K : PySem.W.Frag) : R2 := fun x y H Q => ∃ F dx dy d, Sub F H ∧ Dp K F x dx ∧ Dp K F y dy ∧ idxV dx dy = some d ∧ ∀ v, Dp K F v d → Q v H
theorem ix_any : L2.IxR X (rIx X.K) := by
  intro value slice pins s σ H x y v u Q I rx ry h hs
  obtain ⟨F, dx, dy, d, sb, hx, hy, hd, q⟩ := h
  cases dx <;> cases dy <;> simp only [idxV] at hd <;> first | contradiction | skip
  · obtain ⟨a, xs, rfl, h1, h2⟩ := dp_list hx
    obtain rfl := dp_int hy
    obtain ⟨w, h3, h4⟩ := atI_dp h2 hd
    exact L2.ix_list value slice pins s σ H _ _ _ _ Q I rx ry ⟨a, xs, _, w, rfl, rfl, sqL_sub sb h1, h3, q w h4⟩ hs
  · obtain ⟨a, xs, rfl, h1, h2⟩ := dp_tuple hx
    obtain rfl := dp_int hy
    obtain ⟨w, h3, h4⟩ := atI_dp h2 hd
    exact L2.ix_tup value slice pins s σ H _ _ _ _ Q I rx ry ⟨a, xs, _, w, rfl, rfl, sqT_sub sb h1, h3, q w h4⟩ hs
theorem sIx_eq (n d : Nat) (o : Option Int) : sIx n d o = HT.sIx n d o := by
  cases o with
  | none => rfl
  | some i => rfl
theorem cutV_dp {K : PySem.W.Frag} {F : Hp} {xs : List D} {vs : List V} {lo hi : Option Int} (r : DpAll K F vs xs) : DpAll K F (L2.cutV vs lo hi) (cut xs lo hi) := by
  unfold L2.cutV cut
  rw [sIx_eq, sIx_eq, dpAll_len r]
  exact dpAll_take _ (dpAll_drop _ r)
def rSl (K : PySem.W.Frag) : V → Option Int → Option Int → Hp → VK → Prop := fun x lo hi H Q => ∃ F dx d, Sub F H ∧ Dp K F x dx ∧ sliV dx lo hi = some d ∧ Ans K F H d Q
theorem sl_any : L2.SlR X (rSl X.K) := by
  intro pins s σ H x v vl vu lo hi sl Q I rx hs pl pu h
  obtain ⟨F, dx, d, sb, hx, hd, q⟩ := h
  cases dx <;> simp only [sliV] at hd <;> first | contradiction | skip
  · cases hd
    obtain ⟨a, xs, rfl, h1, h2⟩ := dp_list hx
    exact L2.sl_list pins s σ H _ _ _ _ _ _ _ Q I rx hs pl pu ⟨a, xs, rfl, sqL_sub sb h1, fun p hp => q.newL sb (cutV_dp h2) hp⟩
  · cases hd
    rename_i ds0
    obtain ⟨a, xs, rfl, h1, h2⟩ := dp_tuple hx
    refine L2.sl_tupA pins s σ H _ _ _ _ _ _ _ Q I rx hs pl pu ⟨a, xs, rfl, sqT_sub sb h1, fun z => ?_, fun _ p hp => q.newT sb (cutV_dp h2) hp⟩
    have e : cut ds0 lo hi = ds0 := by
      unfold cut
      rw [sIx_eq, sIx_eq, ← dpAll_len h2, z.1, z.2, List.drop_zero, Nat.sub_zero, dpAll_len h2, List.take_length]
    rw [e] at q
    exact q.same sb hx rfl
end
end Pl

/-! PSound3: built-in functions by values. -/
namespace Pl
open PySem PyProof.Rows
open L2 (V Hp HO St VK TE TT TA TS TI TG Cx PE PT PW PA PS PSs PI PG Inv SqL SqT upd upd_same upd_ne OpR UnR CallR R2 Vals RelV EP)

def rBi (K : PySem.W.Frag) (b : BI) : List V → Hp → VK → Prop := fun vs H Q => ∃ F ds d, Sub F H ∧ DpAll K F vs ds ∧ biV b ds = some d ∧ Ans K F H d Q
section
variable {X : Cx}
theorem dpAll1 {K : PySem.W.Frag} {F : Hp} {vs : List V} {d : D} (h : DpAll K F vs [d]) : ∃ v, vs = [v] ∧ Dp K F v d := by
  cases h with
  | cons a t => cases t; exact ⟨_, rfl, a⟩
theorem dpAll2 {K : PySem.W.Frag} {F : Hp} {vs : List V} {d e : D} (h : DpAll K F vs [d, e]) : ∃ v w, vs = [v, w] ∧ Dp K F v d ∧ Dp K F w e := by
  cases h with
  | cons a t => cases t with | cons b t => cases t; exact ⟨_, _, rfl, a, b⟩
theorem bi_len : CallR X (.builtin "len") (rBi X.K .len) := by
  intro pins s σ H xs us Q I r h
  obtain ⟨F, ds, d, sb, hx, hd, q⟩ := h
  unfold biV at hd
  split at hd <;> first | contradiction | skip
  all_goals cases hd
  · obtain ⟨v, rfl, hv⟩ := dpAll1 hx
    obtain ⟨a, xs, rfl, h1, h2⟩ := dp_list hv
    refine L2.call_len_seq pins s σ H _ _ Q I r ⟨a, xs, rfl, .inl (sqL_sub sb h1), ?_⟩
    rw [dpAll_len h2]
    exact q.same sb (.int _) rfl
  · obtain ⟨v, rfl, hv⟩ := dpAll1 hx
    obtain ⟨a, xs, rfl, h1, h2⟩ := dp_tuple hv
    refine L2.call_len_seq pins s σ H _ _ Q I r ⟨a, xs, rfl, .inr (sqT_sub sb h1), ?_⟩
    rw [dpAll_len h2]
    exact q.same sb (.int _) rfl
theorem bi_abs : CallR X (.builtin "abs") (rBi X.K .abs) := by
  intro pins s σ H xs us Q I r h
  obtain ⟨F, ds, d, sb, hx, hd, q⟩ := h
  unfold biV at hd
  split at hd <;> first | contradiction | skip
  cases hd
  obtain ⟨v, rfl, hv⟩ := dpAll1 hx
  obtain rfl := dp_int hv
  exact L2.call_abs pins s σ H _ _ Q I r ⟨_, rfl, q.same sb (.int _) rfl⟩
theorem bi_int : CallR X (.type "int") (rBi X.K .int) := by
  intro pins s σ H xs us Q I r h
  obtain ⟨F, ds, d, sb, hx, hd, q⟩ := h
  unfold biV at hd
  split at hd <;> first | contradiction | skip
  all_goals cases hd
  · obtain ⟨v, rfl, hv⟩ := dpAll1 hx
    obtain rfl := dp_int hv
    exact L2.call_int1 pins s σ H _ _ Q I r (.inl ⟨_, rfl, q.same sb (.int _) rfl⟩)
  · obtain ⟨v, rfl, hv⟩ := dpAll1 hx
    obtain rfl := dp_bool hv
    exact L2.call_int1 pins s σ H _ _ Q I r (.inr ⟨_, rfl, q.same sb (.int _) rfl⟩)
theorem bi_tuple : CallR X (.type "tuple") (rBi X.K .tuple) := by
  intro pins s σ H xs us Q I r h
  obtain ⟨F, ds, d, sb, hx, hd, q⟩ := h
  unfold biV at hd
  split at hd <;> first | contradiction | skip
  all_goals cases hd
  · obtain ⟨v, rfl, hv⟩ := dpAll1 hx
    obtain ⟨a, xs, rfl, h1, h2⟩ := dp_list hv
    exact L2.call_tuple_of pins s σ H _ _ Q I r ⟨a, xs, rfl, .inl ⟨sqL_sub sb h1, fun p hp => q.newT sb h2 hp⟩⟩
  · obtain ⟨v, rfl, hv⟩ := dpAll1 hx
    obtain ⟨a, xs, rfl, h1, h2⟩ := dp_tuple hv
    exact L2.call_tuple_of pins s σ H _ _ Q I r ⟨a, xs, rfl, .inr ⟨sqT_sub sb h1, q.same sb (.tup h1 h2) rfl⟩⟩
theorem bi_list : CallR X (.type "list") (rBi X.K .list) := by
  intro pins s σ H xs us Q I r h
  obtain ⟨F, ds, d, sb, hx, hd, q⟩ := h
  unfold biV at hd
  split at hd <;> first | contradiction | skip
  all_goals cases hd
  · obtain ⟨v, rfl, hv⟩ := dpAll1 hx
    obtain ⟨a, xs, rfl, h1, h2⟩ := dp_list hv
    exact L2.call_list_of pins s σ H _ _ Q I r ⟨a, xs, rfl, .inl (sqL_sub sb h1), fun p hp => q.newL sb h2 hp⟩
  · obtain ⟨v, rfl, hv⟩ := dpAll1 hx
    obtain ⟨a, xs, rfl, h1, h2⟩ := dp_tuple hv
    exact L2.call_list_of pins s σ H _ _ Q I r ⟨a, xs, rfl, .inr (sqT_sub sb h1), fun p hp => q.newL sb h2 hp⟩
theorem bi_all (hc : X.calm = true) : CallR X (.builtin "all") (rBi X.K .all) := by
  intro pins s σ H xs us Q I r h
  obtain ⟨F, ds, d, sb, hx, hd, q⟩ := h
  unfold biV at hd
  split at hd <;> first | contradiction | skip
  simp only [Option.map_eq_some_iff] at hd
  obtain ⟨bs, hb, rfl⟩ := hd
  obtain ⟨v, rfl, hv⟩ := dpAll1 hx
  obtain ⟨a, xs, rfl, h1, h2⟩ := dp_list hv
  obtain rfl := dpAll_bools h2 hb
  exact L2.cr_all hc pins s σ H _ _ Q I r ⟨a, bs, rfl, sqL_sub sb h1, q.same sb (.bl _) rfl⟩
theorem bi_any (hc : X.calm = true) : CallR X (.builtin "any") (rBi X.K .any) := by
  intro pins s σ H xs us Q I r h
  obtain ⟨F, ds, d, sb, hx, hd, q⟩ := h
  unfold biV at hd
  split at hd <;> first | contradiction | skip
  simp only [Option.map_eq_some_iff] at hd
  obtain ⟨bs, hb, rfl⟩ := hd
  obtain ⟨v, rfl, hv⟩ := dpAll1 hx
  obtain ⟨a, xs, rfl, h1, h2⟩ := dp_list hv
  obtain rfl := dpAll_bools h2 hb
  exact L2.cr_any hc pins s σ H _ _ Q I r ⟨a, bs, rfl, sqL_sub sb h1, q.same sb (.bl _) rfl⟩
theorem bi_sum (hc : X.calm = true) : CallR X (.builtin "sum") (rBi X.K .sum) := by
  intro pins s σ H xs us Q I r h
  obtain ⟨F, ds, d, sb, hx, hd, q⟩ := h
  unfold biV at hd
  split at hd <;> first | contradiction | skip
  simp only [Option.map_eq_some_iff] at hd
  obtain ⟨bs, hb, rfl⟩ := hd
  obtain ⟨v, rfl, hv⟩ := dpAll1 hx
  obtain ⟨a, xs, rfl, h1, h2⟩ := dp_list hv
  obtain rfl := dpAll_ints h2 hb
  exact L2.cr_sum hc pins s σ H _ _ Q I r ⟨a, bs, rfl, sqL_sub sb h1, q.same sb (.int _) rfl⟩
theorem bi_max2 (hc : X.calm = true) : CallR X (.builtin "max") (rBi X.K .max2) := by
  intro pins s σ H xs us Q I r h
  obtain ⟨F, ds, d, sb, hx, hd, q⟩ := h
  unfold biV at hd
  split at hd <;> first | contradiction | skip
  cases hd
  obtain ⟨v, w, rfl, hv, hw⟩ := dpAll2 hx
  obtain rfl := dp_int hv
  obtain rfl := dp_int hw
  exact L2.call_max2 hc pins s σ H _ _ Q I r ⟨_, _, rfl, q.same sb (.int _) rfl⟩
theorem bi_min2 (hc : X.calm = true) : CallR X (.builtin "min") (rBi X.K .min2) := by
  intro pins s σ H xs us Q I r h
  obtain ⟨F, ds, d, sb, hx, hd, q⟩ := h
  unfold biV at hd
  split at hd <;> first | contradiction | skip
  cases hd
  obtain ⟨v, w, rfl, hv, hw⟩ := dpAll2 hx
  obtain rfl := dp_int hv
  obtain rfl := dp_int hw
  exact L2.call_min2 hc pins s σ H _ _ Q I r ⟨_, _, rfl, q.same sb (.int _) rfl⟩
theorem bi_divmod : CallR X (.builtin "divmod") (rBi X.K .divmod) := by
  intro pins s σ H xs us Q I r h
  obtain ⟨F, ds, d, sb, hx, hd, q⟩ := h
  unfold biV at hd
  split at hd <;> first | contradiction | skip
  split at hd <;> first | contradiction | skip
  rename_i hz
  cases hd
  obtain ⟨v, w, rfl, hv, hw⟩ := dpAll2 hx
  obtain rfl := dp_int hv
  obtain rfl := dp_int hw
  exact call_divmodS pins s σ H _ _ Q I r ⟨_, _, rfl, of_decide_eq_true hz, fun p hp => q.newT sb (.cons (.int _) (.cons (.int _) .nil)) hp⟩
theorem bi_gcd : CallR X (.builtin "math.gcd") (rBi X.K .gcd) := by
  intro pins s σ H xs us Q I r h
  obtain ⟨F, ds, d, sb, hx, hd, q⟩ := h
  unfold biV at hd
  split at hd <;> first | contradiction | skip
  cases hd
  obtain ⟨v, w, rfl, hv, hw⟩ := dpAll2 hx
  obtain rfl := dp_int hv
  obtain rfl := dp_int hw
  exact L2.cr_gcd pins s σ H _ _ Q I r ⟨_, _, rfl, q.same sb (.int _) rfl⟩
theorem join_le : ∀ ts : List Str, (Str.join ", " ts).length ≤ piled ts
  | [] => Nat.zero_le _
  | t :: ts => by have := join_length_add (t :: ts) (by simp); omega
theorem textFrom_le : ∀ (ts : List Str) (k : Nat) (acc : Str), (textFrom k acc ts).length ≤ acc.length + piled ts
  | [], k, acc => Nat.le_add_right _ _
  | t :: ts, k, acc => by
    unfold textFrom
    refine Nat.le_trans (textFrom_le ts (k + 1) _) ?_
    rw [strLen_append, strLen_append, piled_cons]
    have : (((if k > 0 then ", " else "" : String) : Str)).length ≤ 2 := by split <;> decide
    omega
theorem len_tuple (ts : List Str) : (tupleText ts).length ≤ piled ts + 3 := by
  unfold tupleText
  rw [strLen_append, strLen_append]
  have e1 : ((("(" : String) : Str)).length = 1 := rfl
  have e3 : (((if ts.length == 1 then ",)" else ")" : String) : Str)).length ≤ 2 := by split <;> decide
  have := join_le ts
  omega
theorem len_list (ts : List Str) : (listText ts).length ≤ piled ts + 2 := by
  unfold listText
  rw [strLen_append]
  have e1 : ((("]" : String) : Str)).length = 1 := rfl
  have e2 : ((("[" : String) : Str)).length = 1 := rfl
  have := textFrom_le ts 0 "["
  omega
mutual
theorem shown_len : ∀ d : D, d.showable = true → d.hasDict = false → d.shown.length ≤ cw d
  | .none, _, _ => by show ((("None" : String) : Str)).length ≤ 4; decide
  | .bool b, _, _ => by cases b <;> (show (((_ : String) : Str)).length ≤ 5; decide)
  | .int i, h, _ => by
    simp only [PyData.showable, decide_eq_true_eq] at h
    simp only [PyData.shown, cw]
    exact int_text_len_1921 h
  | .str x, _, _ => Nat.le_refl _
  | .list xs, h, k => by
    simp only [PyData.shown, cw]
    have := shownAll_len xs (by simpa only [PyData.showable] using h) (by simpa only [PyData.hasDict] using k)
    have := len_list (PyData.shownAll xs)
    omega
  | .tuple xs, h, k => by
    simp only [PyData.shown, cw]
    have := shownAll_len xs (by simpa only [PyData.showable] using h) (by simpa only [PyData.hasDict] using k)
    have := len_tuple (PyData.shownAll xs)
    omega
  | .dict _, _, k => by simp [PyData.hasDict] at k
theorem shownAll_len : ∀ ds : List D, PyData.showableAll ds = true → PyData.hasDictAll ds = false → piled (PyData.shownAll ds) ≤ cwAll ds
  | [], _, _ => Nat.le_refl _
  | d :: ds, h, k => by
    simp only [PyData.showableAll, Bool.and_eq_true] at h
    simp only [PyData.hasDictAll, Bool.or_eq_false_iff] at k
    simp only [PyData.shownAll, cwAll]
    rw [piled_cons]
    have := shown_len d h.1 k.1
    have := shownAll_len ds h.2 k.2
    omega
end
theorem bi_repr (hg : X.A.guards = some []) (hu : X.A.units + 66 < cLine) : CallR X (.builtin "repr") (rBi X.K .repr) := by
  intro pins s σ H xs us Q I r h
  obtain ⟨F, ds, d, sb, hx, hd, q⟩ := h
  unfold biV at hd
  split at hd <;> first | contradiction | skip
  rename_i d0 _
  split at hd <;> first | contradiction | skip
  rename_i hz
  cases hd
  simp only [Bool.and_eq_true, decide_eq_true_eq, Bool.not_eq_true'] at hz
  obtain ⟨⟨⟨z1, z2⟩, z3⟩, z40⟩ := hz
  have z4 : d0.shown.length ≤ sizeLine := Nat.le_trans (shown_len d0 z1 z2) z40
  obtain ⟨v, rfl, hv⟩ := dpAll1 hx
  obtain ⟨u, rfl, ru⟩ := L2.vals1 r
  have q' := q.same sb (.str d0.shown) rfl
  obtain ⟨as, rd⟩ := L2.Dp.reads I d0 v u (Dp.lib _ _ z2 (dp_sub sb _ _ hv)) ru
  have big : ∀ a, u = .ref a → wpAny (model X.prog X.w) X.A (call (.builtin "repr") [u]) (EP X pins σ Q) X.xe s := fun a e => by
    subst e
    exact repr_of_reads' rd z1 (PyData.noDict_hsm z2) hg (by omega) (fun _ _ e => e) (fun h' u tk hk => ⟨.str _, H, I.kept hk, ⟨_, rfl⟩, q'⟩) z4
  cases hv with
  | non => cases ru; exact PySem.P.repr_of_none ⟨.str _, H, I.tok _, ⟨_, rfl⟩, q'⟩
  | bl b => cases ru; exact PySem.P.repr_of_bool ⟨.str _, H, I.tok _, ⟨_, rfl⟩, q'⟩
  | int i =>
    obtain ⟨t, rfl⟩ := ru
    exact PySem.P.repr_of_int (by simpa [PyData.showable] using z1) ⟨.str _, H, I.tok _, ⟨_, rfl⟩, q'⟩
  | str x =>
    obtain ⟨t, rfl⟩ := ru
    exact PySem.P.repr_of_str ⟨.str _, H, I.tok _, ⟨_, rfl⟩, q'⟩ (by simpa only [PyData.shown] using z4)
  | lst h1 h2 => exact big _ ru
  | tup h1 h2 => exact big _ ru
  | dct h1 => simp [PyData.hasDict] at z2

/-! ### isinstance(x, T) -/
def tyName : D → String
  | .none => "NoneType" | .bool _ => "bool" | .int _ => "int" | .str _ => "str" | .list _ => "list" | .tuple _ => "tuple" | .dict _ => "dict"
theorem tyX_list {K : PySem.W.Frag} {H : Hp} {a : Addr} {xs : List V} (h : SqL K H a xs) : L2.TyX K H (.ref a) (.type "list") := by
  rcases h with (h | ⟨o, h⟩) | ⟨o, its, n, h, c, _⟩
  · exact .base (.lst h)
  · exact .base (.frz h)
  · exact .kList h c
theorem tyX_tuple {K : PySem.W.Frag} {H : Hp} {a : Addr} {xs : List V} (h : SqT K H a xs) : L2.TyX K H (.ref a) (.type "tuple") := by
  rcases h with (h | ⟨o, h⟩) | ⟨o, its, n, h, c, _⟩
  · exact .base (.tup h)
  · exact .fTuple h
  · exact .kTuple h c
theorem tyX_dp {K : PySem.W.Frag} {H : Hp} {v : V} {d : D} (h : Dp K H v d) : L2.TyX K H v (.type (tyName d)) := by
  cases h with
  | non => exact .base .non
  | bl b => exact .base (.bl b)
  | int i => exact .base (.int i)
  | str x => exact .base (.str x)
  | lst h _ => exact tyX_list h
  | tup h _ => exact tyX_tuple h
  | dct h => exact .base (.dT h)
def rIsi (K : PySem.W.Frag) (T : String) (b : BI) : List V → Hp → VK → Prop := fun vs H Q => ∃ F v d z, Sub F H ∧ vs = [v, .ty T] ∧ Dp K F v d ∧ biV b [d] = some (.bool z) ∧ Q (.bl z) H
theorem isi_of (T : String) (b : BI) (k : ∀ (K : PySem.W.Frag) (d : D) (z : Bool), biV b [d] = some (.bool z) → PySem.W.kitOne K (.type (tyName d)) (.type T) = some z) : CallR X (.builtin "isinstance") (rIsi X.K T b) := by
  intro pins s σ H xs us Q I r h
  obtain ⟨F, v, d, z, sb, rfl, hv, hd, q⟩ := h
  exact L2.call_isi pins s σ H _ _ Q I r ⟨v, .ty T, _, _, z, rfl, .ty T, tyX_dp (dp_sub sb _ _ hv), k _ d z hd, q⟩
theorem isi_int : CallR X (.builtin "isinstance") (rIsi X.K "int" .isInt) := isi_of _ _ fun K d z h => by
  cases d <;> simp only [biV, Option.some.injEq, PyData.bool.injEq] at h <;> first | contradiction | (subst h; exact L2.kit_ty (by simp only [tyName]; decide +kernel))
theorem isi_bool : CallR X (.builtin "isinstance") (rIsi X.K "bool" .isBool) := isi_of _ _ fun K d z h => by
  cases d <;> simp only [biV, Option.some.injEq, PyData.bool.injEq] at h <;> first | contradiction | (subst h; exact L2.kit_ty (by simp only [tyName]; decide +kernel))
theorem isi_tuple : CallR X (.builtin "isinstance") (rIsi X.K "tuple" .isTuple) := isi_of _ _ fun K d z h => by
  cases d <;> simp only [biV, Option.some.injEq, PyData.bool.injEq] at h <;> first | contradiction | (subst h; exact L2.kit_ty (by simp only [tyName]; decide +kernel))
theorem isi_list : CallR X (.builtin "isinstance") (rIsi X.K "list" .isList) := isi_of _ _ fun K d z h => by
  cases d <;> simp only [biV, Option.some.injEq, PyData.bool.injEq] at h <;> first | contradiction | (subst h; exact L2.kit_ty (by simp only [tyName]; decide +kernel))
theorem isi_str : CallR X (.builtin "isinstance") (rIsi X.K "str" .isStr) := isi_of _ _ fun K d z h => by
  cases d <;> simp only [biV, Option.some.injEq, PyData.bool.injEq] at h <;> first | contradiction | (subst h; exact L2.kit_ty (by simp only [tyName]; decide +kernel))
end
end Pl

/-! PSound4: expressions. -/
namespace Pl
open PySem
open L2 (V Hp HO St VK TE TT TA TS TI TG Cx PE PT PW PA PS PSs PI PG Inv SqL SqT upd upd_same upd_ne OpR UnR CallR R2 Vals RelV EP Gl Vis)

structure At (K : PySem.W.Frag) (au : Option Addr) (σ : St) (H F : Hp) (env : Env) (u : U) (is : List Nat) : Prop where
  sub : Sub F H
  urn : UrnR au u F H
  s0 : ∀ a, au = some a → σ[0]? = some (some (.ref a))
  len : env.length = σ.length
  env : ∀ i ∈ is, ∀ d, getV env i = some d → ∃ v, σ[i]? = some (some v) ∧ Dp K F v d
structure Post (au : Option Addr) (F H F' H' : Hp) (u' : U) : Prop where
  ext : Ext au F H F' H'
  sub : Sub F' H'
  urn : UrnR au u' F' H'
section
variable {K : PySem.W.Frag} {au : Option Addr} {σ : St} {H F H1 F1 H2 F2 : Hp} {env : Env} {u u1 u2 : U} {is js : List Nat}
theorem UrnR.hu (r : UrnR au u F H) : ∀ a, au = some a → F a = none := fun a h => (r a h).2
theorem UrnR.hh (r : UrnR au u F H) : ∀ a, au = some a → H a ≠ none := fun a h => by rw [(r a h).1]; exact fun q => nomatch q
theorem At.subF (A : At K au σ H F env u is) (P : Post au F H F1 H1 u1) : Sub F F1 := P.ext.sub A.sub A.urn.hu
theorem At.step (A : At K au σ H F env u is) (P : Post au F H F1 H1 u1) : At K au σ H1 F1 env u1 is :=
  ⟨P.sub, P.urn, A.s0, A.len, fun i hi d h => by
    obtain ⟨v, h1, h2⟩ := A.env i hi d h
    exact ⟨v, h1, dp_sub (A.subF P) _ _ h2⟩⟩
theorem At.mono (A : At K au σ H F env u is) (h : ∀ i ∈ js, i ∈ is) : At K au σ H F env u js := ⟨A.sub, A.urn, A.s0, A.len, fun i hi => A.env i (h i hi)⟩
theorem At.l (A : At K au σ H F env u (is ++ js)) : At K au σ H F env u is := A.mono fun _ h => List.mem_append_left _ h
theorem At.r (A : At K au σ H F env u (is ++ js)) : At K au σ H F env u js := A.mono fun _ h => List.mem_append_right _ h
theorem Post.trans (a : Post au F H F1 H1 u1) (b : Post au F1 H1 F2 H2 u2) : Post au F H F2 H2 u2 := ⟨a.ext.trans b.ext, b.sub, b.urn⟩
theorem At.post (A : At K au σ H F env u is) : Post au F H F H u := ⟨Ext.refl _ _ _, A.sub, A.urn⟩
/-- behind an operation that leaves the lent list -/
theorem Post.of (r : UrnR au u F H) (e : Ext none F H F1 H1) (s : Sub F1 H1) : Post au F H F1 H1 u := ⟨e.wk, s, r.step e⟩
end

def wpE (b : Bool) (K : PySem.W.Frag) (C : Ctx) (au : Option Addr) (p : E) : TE := fun σ H Q =>
  ∃ F env u d u', At K au σ H F env u (fvE p) ∧ evalE C p env u = some (d, u') ∧ ∀ v F' H', Post au F H F' H' u' → Rr b K H F' H' v d → Q v H'
def wpT (K : PySem.W.Frag) (C : Ctx) (au : Option Addr) (p : E) : TT := fun σ H Q =>
  ∃ F env u b u', At K au σ H F env u (fvE p) ∧ evalE C p env u = some (.bool b, u') ∧ ∀ F' H', Post au F H F' H' u' → Q b H'
def wpEs (K : PySem.W.Frag) (C : Ctx) (au : Option Addr) (p : Es) : TA := fun σ H Q =>
  ∃ F env u ds u', At K au σ H F env u (fvEs p) ∧ evalEs C p env u = some (ds, u') ∧ ∀ vs F' H', Post au F H F' H' u' → DpAll K F' vs ds → Q vs H'
def wpO (K : PySem.W.Frag) (C : Ctx) (au : Option Addr) (p : Eo) : L2.TO := fun σ H Q =>
  ∃ F env u o u', At K au σ H F env u (fvEo p) ∧ evalEo C p env u = some (o, u') ∧ ∀ F' H', Post au F H F' H' u' → Q o H'

section
variable {X : Cx}
theorem _root_.L2.PE.imp {e : Expr} {t t' : TE} (h : PE X e t) (k : ∀ σ H Q, t' σ H Q → t σ H Q) : PE X e t' := ⟨fun pins s σ H Q I hw => h.run pins s σ H Q I (k _ _ _ hw)⟩
theorem _root_.L2.PT.imp {e : Expr} {t t' : TT} (h : PT X e t) (k : ∀ σ H Q, t' σ H Q → t σ H Q) : PT X e t' := ⟨fun pins s σ H Q I hw => h.run pins s σ H Q I (k _ _ _ hw)⟩
theorem _root_.L2.PW.imp {e : Expr} {t t' : TT} (h : PW X e t) (k : ∀ σ H Q, t' σ H Q → t σ H Q) : PW X e t' := ⟨fun wh pins s σ H Q I hw => h.run wh pins s σ H Q I (k _ _ _ hw)⟩
theorem _root_.L2.PA.imp {e : List Expr} {t t' : TA} (h : PA X e t) (k : ∀ σ H Q, t' σ H Q → t σ H Q) : PA X e t' := ⟨fun pos pins s σ H Q I hw => h.run pos pins s σ H Q I (k _ _ _ hw)⟩
theorem _root_.L2.PS.imp {e : Stmt} {t t' : TS} (h : PS X e t) (k : ∀ D σ H, t' D σ H → t D σ H) : PS X e t' := ⟨fun pins s σ H D I hw => h.run pins s σ H D I (k _ _ _ hw)⟩
theorem _root_.L2.PSs.imp {e : List Stmt} {t t' : TS} (h : PSs X e t) (k : ∀ D σ H, t' D σ H → t D σ H) : PSs X e t' := ⟨fun pins s σ H D I hw => h.run pins s σ H D I (k _ _ _ hw)⟩
theorem _root_.L2.PI.imp {tg e : Expr} {t t' : TI} (h : PI X tg e t) (k : ∀ σ H R, t' σ H R → t σ H R) : PI X tg e t' := ⟨fun pins s σ H R I hw => h.run pins s σ H R I (k _ _ _ hw)⟩
theorem _root_.L2.PO.imp {e : Option Expr} {t t' : L2.TO} (h : L2.PO X e t) (k : ∀ σ H Q, t' σ H Q → t σ H Q) : L2.PO X e t' := ⟨fun pins s σ H Q I hw => h.run pins s σ H Q I (k _ _ _ hw)⟩
end

/-- an expression and what it means; ff: the defs that hand back new lists; au: the lent list -/
structure Sim (X : Cx) (C : Ctx) (ff : String → Bool) (au : Option Addr) (e : Expr) (p : E) : Prop where
  raw : PE X e (wpE (fk ff p) X.K C au p)
structure SimT (X : Cx) (C : Ctx) (au : Option Addr) (e : Expr) (p : E) : Prop where
  t : PT X e (wpT X.K C au p)
structure SimW (X : Cx) (C : Ctx) (au : Option Addr) (e : Expr) (p : E) : Prop where
  t : PW X e (wpT X.K C au p)
structure SimA (X : Cx) (C : Ctx) (au : Option Addr) (es : List Expr) (p : Es) : Prop where
  t : PA X es (wpEs X.K C au p)
structure SimO (X : Cx) (C : Ctx) (au : Option Addr) (e : Option Expr) (p : Eo) : Prop where
  t : L2.PO X e (wpO X.K C au p)

section
variable {X : Cx} {C : Ctx} {ff : String → Bool} {au : Option Addr} {e a b c : Expr} {es : List Expr} {p pa pb pc : E} {ps : Es} {pos : Pos}
theorem Sim.pl (h : Sim X C ff au e p) : PE X e (wpE false X.K C au p) := h.raw.imp fun σ H Q ⟨F, env, u, d, u', A, ev, k⟩ => by
  refine ⟨F, env, u, d, u', A, ev, fun v F' H' P r => ?_⟩
  obtain ⟨F2, e2, s2, r2, dp, _⟩ := r.settle P.ext P.sub P.urn A.urn.hh
  exact k v F2 H' ⟨e2, s2, r2⟩ dp
/-- where nothing new is handed back -/
theorem sim_pl (hk : fk ff p = false) (h : PE X e (wpE false X.K C au p)) : Sim X C ff au e p := ⟨by rw [hk]; exact h⟩
/-- an expression's value, of its own ways -/
theorem Sim.bo (h : Sim X C ff au e p) : PE X e (fun σ H Q => ∃ F env u b u', At X.K au σ H F env u (fvE p) ∧ evalE C p env u = some (.bool b, u') ∧ ∀ F' H', Post au F H F' H' u' → Q (.bl b) H') :=
  h.pl.imp fun σ H Q ⟨F, env, u, b, u', A, ev, k⟩ => ⟨F, env, u, .bool b, u', A, ev, fun v F' H' P r => by
    obtain rfl := dp_bool r
    exact k F' H' P⟩
theorem simT_of (h : Sim X C ff au e p) (he : ∀ whole, isTrue e X.env whole = (do let v ← whole; standAt e.pos; holding [v] (truthy v))) : SimT X C au e p :=
  ⟨L2.PT.imp (L2.pt_val h.pl he) fun σ H Q ⟨F, env, u, b, u', A, ev, k⟩ => ⟨F, env, u, .bool b, u', A, ev, fun v F' H' P r => ⟨b, dp_bool r, k F' H' P⟩⟩⟩

/-! ### names, constants -/
theorem sim_var {i : Nat} {x : Str} (h : PE X (.Name x pos) (L2.tVar i)) : Sim X C ff au (.Name x pos) (.var i) := sim_pl rfl (h.imp fun σ H Q ⟨F, env, u, d, u', A, ev, k⟩ => by
  simp only [evalE] at ev
  obtain ⟨d0, e1, ev⟩ := Option.bind_eq_some_iff.mp ev
  cases ev
  obtain ⟨v, h1, h2⟩ := A.env i (by simp [fvE]) _ e1
  exact ⟨v, h1, k v F H A.post h2⟩)
theorem sim_int {i : Int} {j : Nat} : Sim X C ff au (.Constant (.int i) j pos) (.lit (.int i)) := sim_pl rfl (L2.pe_int.imp fun σ H Q ⟨F, env, u, d, u', A, ev, k⟩ => by
  simp only [evalE, litV, Option.bind_some, Option.some.injEq, Prod.mk.injEq] at ev
  obtain ⟨rfl, rfl⟩ := ev
  exact k _ F H A.post (.int i))
theorem sim_bool {i : Bool} {j : Nat} : Sim X C ff au (.Constant (.bool i) j pos) (.lit (.bool i)) := sim_pl rfl (L2.pe_bl.imp fun σ H Q ⟨F, env, u, d, u', A, ev, k⟩ => by
  simp only [evalE, litV, Option.bind_some, Option.some.injEq, Prod.mk.injEq] at ev
  obtain ⟨rfl, rfl⟩ := ev
  exact k _ F H A.post (.bl i))
theorem sim_none {j : Nat} : Sim X C ff au (.Constant .none j pos) (.lit .none) := sim_pl rfl (L2.pe_non.imp fun σ H Q ⟨F, env, u, d, u', A, ev, k⟩ => by
  simp only [evalE, litV, Option.bind_some, Option.some.injEq, Prod.mk.injEq] at ev
  obtain ⟨rfl, rfl⟩ := ev
  exact k _ F H A.post .non)
theorem sim_str {i : Str} {j : Nat} : Sim X C ff au (.Constant (.str i) j pos) (.lit (.str i)) := sim_pl rfl (L2.pe_str.imp fun σ H Q ⟨F, env, u, d, u', A, ev, k⟩ => by
  simp only [evalE, litV, Option.bind_some, Option.some.injEq, Prod.mk.injEq] at ev
  obtain ⟨rfl, rfl⟩ := ev
  exact k _ F H A.post (.str i))
/-- a constant of the module -/
theorem sim_glob {x : Str} {n : String} {v : V} {d : D} (h : PE X (.Name x pos) (L2.tC v)) (hc : C.glob n = some d) (hd : ∀ F, Dp X.K F v d) : Sim X C ff au (.Name x pos) (.glob n) := sim_pl rfl (h.imp fun σ H Q ⟨F, env, u, d, u', A, ev, k⟩ => by
  simp only [evalE, hc, Option.bind_some, Option.some.injEq, Prod.mk.injEq] at ev
  obtain ⟨rfl, rfl⟩ := ev
  exact k _ F H A.post (hd F))

/-! ### operations -/
theorem Post.grow {F H F2 H2 : Hp} {u2 : U} (P : Post au F H F2 H2 u2) {q : Addr} (hq : H q ≠ none) : H2 q ≠ none := by
  by_cases hz : some q = au
  · exact P.urn.hh q hz.symm
  · rw [(P.ext q hz hq).1]; exact hq
theorem Rn.back {K : PySem.W.Frag} {H H2 F' H' : Hp} {z : V} {d : D} (r : Rn K H2 F' H' z d) (g : ∀ q, H q ≠ none → H2 q ≠ none) : Rn K H F' H' z d := by
  cases d with
  | list ds =>
    obtain ⟨p, vs, h1, h2, h3⟩ := r
    refine ⟨p, vs, h1, ?_, h3⟩
    cases q : H p with
    | none => rfl
    | some o => exact absurd h2 (g p (by rw [q]; exact fun z => nomatch z))
  | _ => exact r
theorem Rr.back {b : Bool} {K : PySem.W.Frag} {H H2 F' H' : Hp} {z : V} {d : D} (r : Rr b K H2 F' H' z d) (g : ∀ q, H q ≠ none → H2 q ≠ none) : Rr b K H F' H' z d := by
  cases b with
  | false => exact r
  | true => exact Rn.back r g
/-- an answer of an operation, as an expression's -/
theorem ans_of {K : PySem.W.Frag} {F H F2 H2 : Hp} {u2 : U} {d : D} {Q : VK} (P : Post au F H F2 H2 u2) (k : ∀ v F' H', Post au F H F' H' u2 → Rr true K H F' H' v d → Q v H') : Ans K F2 H2 d Q := fun z F' H' e s r =>
  k z F' H' (P.trans (Post.of P.urn e s)) (Rn.back r fun _ hq => P.grow hq)

theorem sim_bin (o : BOp) (ha : Sim X C ff au a pa) (hb : Sim X C ff au b pb) : PE X (.BinOp a (toOp o) b pos) (wpE true X.K C au (.bin o pa pb)) :=
  (L2.pe_op (op_bin o) ha.pl hb.pl).imp fun σ H Q ⟨F, env, u, d, u', A, ev, k⟩ => by
    simp only [evalE] at ev
    obtain ⟨⟨da, u1⟩, e1, ev⟩ := Option.bind_eq_some_iff.mp ev
    obtain ⟨⟨db, u2⟩, e2, ev⟩ := Option.bind_eq_some_iff.mp ev
    obtain ⟨d0, e3, ev⟩ := Option.bind_eq_some_iff.mp ev
    cases ev
    refine ⟨F, env, u, da, u1, A.l, e1, fun v F1 H1 P1 r1 => ?_⟩
    have A1 := A.step P1
    refine ⟨F1, env, u1, db, u2, A1.r, e2, fun w F2 H2 P2 r2 => ?_⟩
    exact ⟨F2, da, db, d, P2.sub, dp_sub (A1.subF P2) _ _ r1, r2, e3, ans_of (P1.trans P2) k⟩
/-- of what no list comes -/
theorem down_of {e : Expr} {p : E} (h : PE X e (wpE true X.K C au p)) (hk : ∀ env u d u', evalE C p env u = some (d, u') → isL d = false) : PE X e (wpE false X.K C au p) := h.imp fun σ H Q ⟨F, env, u, d, u', A, ev, k⟩ =>
  ⟨F, env, u, d, u', A, ev, fun v F' H' P r => k v F' H' P (by
    have n := hk _ _ _ _ ev
    cases d <;> first | exact r | simp [isL] at n)⟩
theorem bin_noL {o : BOp} (h : o ≠ .add) : ∀ env u d u', evalE C (.bin o pa pb) env u = some (d, u') → isL d = false := by
  intro env u d u' ev
  simp only [evalE] at ev
  obtain ⟨⟨da, u1⟩, e1, ev⟩ := Option.bind_eq_some_iff.mp ev
  obtain ⟨⟨db, u2⟩, e2, ev⟩ := Option.bind_eq_some_iff.mp ev
  obtain ⟨d0, e3, ev⟩ := Option.bind_eq_some_iff.mp ev
  cases ev
  simp only at e3
  cases o <;> first | exact absurd rfl h | skip
  all_goals (cases da <;> cases db <;> simp only [binV] at e3 <;> first | contradiction | (cases e3; rfl) | (split at e3 <;> first | contradiction | (cases e3; rfl)))
theorem sim_add (ha : Sim X C ff au a pa) (hb : Sim X C ff au b pb) : Sim X C ff au (.BinOp a .Add b pos) (.bin .add pa pb) := ⟨sim_bin .add ha hb⟩
theorem sim_sub (ha : Sim X C ff au a pa) (hb : Sim X C ff au b pb) : Sim X C ff au (.BinOp a .Sub b pos) (.bin .sub pa pb) := sim_pl rfl (down_of (sim_bin .sub ha hb) (bin_noL (by decide)))
theorem sim_mul (ha : Sim X C ff au a pa) (hb : Sim X C ff au b pb) : Sim X C ff au (.BinOp a .Mult b pos) (.bin .mul pa pb) := sim_pl rfl (down_of (sim_bin .mul ha hb) (bin_noL (by decide)))
theorem sim_fdiv (ha : Sim X C ff au a pa) (hb : Sim X C ff au b pb) : Sim X C ff au (.BinOp a .FloorDiv b pos) (.bin .fdiv pa pb) := sim_pl rfl (down_of (sim_bin .fdiv ha hb) (bin_noL (by decide)))
theorem sim_mod (ha : Sim X C ff au a pa) (hb : Sim X C ff au b pb) : Sim X C ff au (.BinOp a .Mod b pos) (.bin .mod pa pb) := sim_pl rfl (down_of (sim_bin .mod ha hb) (bin_noL (by decide)))
theorem sim_pow (ha : Sim X C ff au a pa) (hb : Sim X C ff au b pb) : Sim X C ff au (.BinOp a .Pow b pos) (.bin .pow pa pb) := sim_pl rfl (down_of (sim_bin .pow ha hb) (bin_noL (by decide)))
theorem sim_neg (ha : Sim X C ff au a pa) : Sim X C ff au (.UnaryOp .USub a pos) (.neg pa) := sim_pl rfl ((L2.pe_un L2.un_neg ha.pl).imp fun σ H Q ⟨F, env, u, d, u', A, ev, k⟩ => by
  simp only [evalE] at ev
  obtain ⟨⟨da, u1⟩, e1, ev⟩ := Option.bind_eq_some_iff.mp ev
  refine ⟨F, env, u, da, u1, A, e1, fun v F1 H1 P1 r1 => ?_⟩
  cases da <;> simp only at ev <;> first | contradiction | skip
  cases ev
  obtain rfl := dp_int r1
  exact ⟨_, rfl, k _ F1 H1 P1 (.int _)⟩)

/-! ### comparisons -/
theorem cmp_imp {o : COp} {σ : St} {H : Hp} {Q : VK} (h : wpE false X.K C au (.cmp o pa pb) σ H Q) : L2.tOp (rC X.K o) (wpE false X.K C au pa) (wpE false X.K C au pb) σ H Q := by
  obtain ⟨F, env, u, d, u', A, ev, k⟩ := h
  simp only [evalE] at ev
  obtain ⟨⟨da, u1⟩, e1, ev⟩ := Option.bind_eq_some_iff.mp ev
  obtain ⟨⟨db, u2⟩, e2, ev⟩ := Option.bind_eq_some_iff.mp ev
  obtain ⟨d0, e3, ev⟩ := Option.bind_eq_some_iff.mp ev
  cases ev
  refine ⟨F, env, u, da, u1, A.l, e1, fun v F1 H1 P1 r1 => ?_⟩
  have A1 := A.step P1
  refine ⟨F1, env, u1, db, _, A1.r, e2, fun w F2 H2 P2 r2 => ?_⟩
  exact ⟨F2, da, db, d0, P2.sub, dp_sub (A1.subF P2) _ _ r1, r2, e3, k _ F2 H2 (P1.trans P2) (.bl _)⟩
theorem sim_cmp (o : COp) (hu : X.A.units + 66 < cLine) (ha : Sim X C ff au a pa) (hb : Sim X C ff au b pb) (hm : behindInMarks (toCmp o) b = false) : Sim X C ff au (.Compare a [toCmp o] [b] pos) (.cmp o pa pb) :=
  sim_pl rfl ((L2.pe_cmpR (op_cmp o hu) ha.pl hb.pl hm).imp fun _ _ _ h => cmp_imp h)
theorem simT_cmp (o : COp) (hu : X.A.units + 66 < cLine) (ha : Sim X C ff au a pa) (hb : Sim X C ff au b pb) (hm : behindInMarks (toCmp o) b = false) : SimT X C au (.Compare a [toCmp o] [b] pos) (.cmp o pa pb) :=
  ⟨L2.PT.imp (L2.pt_cmpR (op_cmp o hu) ha.pl hb.pl hm) fun σ H Q ⟨F, env, u, b, u', A, ev, k⟩ => cmp_imp ⟨F, env, u, .bool b, u', A, ev, fun v F' H' P r => ⟨b, dp_bool r, k F' H' P⟩⟩⟩
theorem chain_imp {o1 o2 : COp} {σ : St} {H : Hp} {Q : VK} (h : wpE false X.K C au (.chain o1 o2 pa pb pc) σ H Q) : L2.tChain (rC X.K o1) (rC X.K o2) (wpE false X.K C au pa) (wpE false X.K C au pb) (wpE false X.K C au pc) σ H Q := by
  obtain ⟨F, env, u, d, u', A, ev, k⟩ := h
  simp only [evalE] at ev
  obtain ⟨⟨da, u1⟩, e1, ev⟩ := Option.bind_eq_some_iff.mp ev
  obtain ⟨⟨db, u2⟩, e2, ev⟩ := Option.bind_eq_some_iff.mp ev
  obtain ⟨d0, e3, ev⟩ := Option.bind_eq_some_iff.mp ev
  refine ⟨F, env, u, da, u1, A.l, e1, fun v F1 H1 P1 r1 => ?_⟩
  have A1 := A.step P1
  refine ⟨F1, env, u1, db, u2, A1.r.l, e2, fun w F2 H2 P2 r2 => ?_⟩
  have A2 := A1.step P2
  refine ⟨F2, da, db, d0, P2.sub, dp_sub (A1.subF P2) _ _ r1, r2, e3, d0, rfl, ?_⟩
  cases d0 with
  | false =>
    rw [if_neg Bool.false_ne_true] at ev ⊢
    cases ev
    exact k _ F2 H2 (P1.trans P2) (.bl _)
  | true =>
    rw [if_pos rfl] at ev ⊢
    obtain ⟨⟨dc, u3⟩, e4, ev⟩ := Option.bind_eq_some_iff.mp ev
    obtain ⟨d2, e5, ev⟩ := Option.bind_eq_some_iff.mp ev
    cases ev
    refine ⟨F2, env, u2, dc, _, A2.r.r, e4, fun z F3 H3 P3 r3 => ?_⟩
    exact ⟨F3, db, dc, d2, P3.sub, dp_sub (A2.subF P3) _ _ r2, r3, e5, k _ F3 H3 ((P1.trans P2).trans P3) (.bl _)⟩
theorem sim_chain (o1 o2 : COp) (hu : X.A.units + 66 < cLine) (ha : Sim X C ff au a pa) (hb : Sim X C ff au b pb) (hc : Sim X C ff au c pc) (hm : lastMarks [toCmp o1, toCmp o2] [b, c] = false) : Sim X C ff au (.Compare a [toCmp o1, toCmp o2] [b, c] pos) (.chain o1 o2 pa pb pc) :=
  sim_pl rfl ((L2.pe_chain (op_cmp o1 hu) (op_cmp o2 hu) ha.pl hb.pl hc.pl hm).imp fun _ _ _ h => chain_imp h)
theorem simT_chain (o1 o2 : COp) (hu : X.A.units + 66 < cLine) (ha : Sim X C ff au a pa) (hb : Sim X C ff au b pb) (hc : Sim X C ff au c pc) (hm : lastMarks [toCmp o1, toCmp o2] [b, c] = false) : SimT X C au (.Compare a [toCmp o1, toCmp o2] [b, c] pos) (.chain o1 o2 pa pb pc) :=
  ⟨L2.PT.imp (L2.pt_chain (op_cmp o1 hu) (op_cmp o2 hu) ha.pl hb.pl hc.pl hm) fun σ H Q ⟨F, env, u, b, u', A, ev, k⟩ => chain_imp ⟨F, env, u, .bool b, u', A, ev, fun v F' H' P r => ⟨b, dp_bool r, k F' H' P⟩⟩⟩

/-! ### and, or, not, if -/
theorem simW_and1 (ha : SimT X C au a pa) : SimW X C au (.BoolOp .And [a] pos) pa := ⟨L2.pw_and1 ha.t⟩
theorem simW_or1 (ha : SimT X C au a pa) : SimW X C au (.BoolOp .Or [a] pos) pa := ⟨L2.pw_or1 ha.t⟩
theorem simT_W (h : SimW X C au e p) : SimT X C au e p := ⟨h.t.pt⟩
theorem simW_and (ha : SimT X C au a pa) (hb : SimW X C au (.BoolOp .And (b :: es) pos) pb) : SimW X C au (.BoolOp .And (a :: b :: es) pos) (.and pa pb) :=
  ⟨L2.PW.imp (L2.pw_and ha.t hb.t) fun σ H Q ⟨F, env, u, d, u', A, ev, k⟩ => by
    simp only [evalE] at ev
    obtain ⟨⟨da, u1⟩, e1, ev⟩ := Option.bind_eq_some_iff.mp ev
    cases da <;> simp only at ev <;> first | contradiction | skip
    rename_i c
    refine ⟨F, env, u, c, u1, A.l, e1, fun F1 H1 P1 => ?_⟩
    cases c with
    | false =>
      rw [if_neg Bool.false_ne_true] at ev ⊢
      cases ev
      exact k F1 H1 P1
    | true =>
      rw [if_pos rfl] at ev ⊢
      obtain ⟨⟨db, u2⟩, e2, ev⟩ := Option.bind_eq_some_iff.mp ev
      cases db <;> simp only at ev <;> first | contradiction | skip
      cases ev
      exact ⟨F1, env, u1, _, _, (A.step P1).r, e2, fun F2 H2 P2 => k F2 H2 (P1.trans P2)⟩⟩
theorem simW_or (ha : SimT X C au a pa) (hb : SimW X C au (.BoolOp .Or (b :: es) pos) pb) : SimW X C au (.BoolOp .Or (a :: b :: es) pos) (.or pa pb) :=
  ⟨L2.PW.imp (L2.pw_or ha.t hb.t) fun σ H Q ⟨F, env, u, d, u', A, ev, k⟩ => by
    simp only [evalE] at ev
    obtain ⟨⟨da, u1⟩, e1, ev⟩ := Option.bind_eq_some_iff.mp ev
    cases da <;> simp only at ev <;> first | contradiction | skip
    rename_i c
    refine ⟨F, env, u, c, u1, A.l, e1, fun F1 H1 P1 => ?_⟩
    cases c with
    | true =>
      rw [if_pos rfl] at ev ⊢
      cases ev
      exact k F1 H1 P1
    | false =>
      rw [if_neg Bool.false_ne_true] at ev ⊢
      obtain ⟨⟨db, u2⟩, e2, ev⟩ := Option.bind_eq_some_iff.mp ev
      cases db <;> simp only at ev <;> first | contradiction | skip
      cases ev
      exact ⟨F1, env, u1, _, _, (A.step P1).r, e2, fun F2 H2 P2 => k F2 H2 (P1.trans P2)⟩⟩
theorem simT_not (ha : SimT X C au a pa) : SimT X C au (.UnaryOp .Not a pos) (.not pa) :=
  ⟨L2.PT.imp (L2.pt_not ha.t) fun σ H Q ⟨F, env, u, d, u', A, ev, k⟩ => by
    simp only [evalE] at ev
    obtain ⟨⟨da, u1⟩, e1, ev⟩ := Option.bind_eq_some_iff.mp ev
    cases da <;> simp only at ev <;> first | contradiction | skip
    cases ev
    exact ⟨F, env, u, _, _, A, e1, fun F1 H1 P1 => k F1 H1 P1⟩⟩
theorem sim_not (ha : Sim X C ff au a pa) : Sim X C ff au (.UnaryOp .Not a pos) (.not pa) := sim_pl rfl ((L2.pe_not ha.bo).imp fun σ H Q ⟨F, env, u, d, u', A, ev, k⟩ => by
    simp only [evalE] at ev
    obtain ⟨⟨da, u1⟩, e1, ev⟩ := Option.bind_eq_some_iff.mp ev
    cases da <;> simp only at ev <;> first | contradiction | skip
    cases ev
    exact ⟨F, env, u, _, _, A, e1, fun F1 H1 P1 => ⟨_, rfl, k _ F1 H1 P1 (.bl _)⟩⟩)
theorem sim_one {op : BoolOp} (hb : Sim X C ff au b pb) (hk : fk ff pb = false) : Sim X C ff au (.BoolOp op [b] pos) pb := sim_pl hk (L2.pe_one hb.pl)
theorem sim_and (ha : Sim X C ff au a pa) (hb : Sim X C ff au (.BoolOp .And (b :: es) pos) pb) : Sim X C ff au (.BoolOp .And (a :: b :: es) pos) (.and pa pb) :=
  sim_pl rfl ((L2.pe_and ha.bo hb.bo).imp fun σ H Q ⟨F, env, u, d, u', A, ev, k⟩ => by
    simp only [evalE] at ev
    obtain ⟨⟨da, u1⟩, e1, ev⟩ := Option.bind_eq_some_iff.mp ev
    cases da <;> simp only at ev <;> first | contradiction | skip
    rename_i c
    refine ⟨F, env, u, c, u1, A.l, e1, fun F1 H1 P1 => ⟨c, rfl, ?_⟩⟩
    cases c with
    | false =>
      rw [if_neg Bool.false_ne_true] at ev ⊢
      cases ev
      exact k _ F1 H1 P1 (.bl _)
    | true =>
      rw [if_pos rfl] at ev ⊢
      obtain ⟨⟨db, u2⟩, e2, ev⟩ := Option.bind_eq_some_iff.mp ev
      cases db <;> simp only at ev <;> first | contradiction | skip
      cases ev
      exact ⟨F1, env, u1, _, _, (A.step P1).r, e2, fun F2 H2 P2 => k _ F2 H2 (P1.trans P2) (.bl _)⟩)
theorem sim_or (ha : Sim X C ff au a pa) (hb : Sim X C ff au (.BoolOp .Or (b :: es) pos) pb) : Sim X C ff au (.BoolOp .Or (a :: b :: es) pos) (.or pa pb) :=
  sim_pl rfl ((L2.pe_or ha.bo hb.bo).imp fun σ H Q ⟨F, env, u, d, u', A, ev, k⟩ => by
    simp only [evalE] at ev
    obtain ⟨⟨da, u1⟩, e1, ev⟩ := Option.bind_eq_some_iff.mp ev
    cases da <;> simp only at ev <;> first | contradiction | skip
    rename_i c
    refine ⟨F, env, u, c, u1, A.l, e1, fun F1 H1 P1 => ⟨c, rfl, ?_⟩⟩
    cases c with
    | true =>
      rw [if_pos rfl] at ev ⊢
      cases ev
      exact k _ F1 H1 P1 (.bl _)
    | false =>
      rw [if_neg Bool.false_ne_true] at ev ⊢
      obtain ⟨⟨db, u2⟩, e2, ev⟩ := Option.bind_eq_some_iff.mp ev
      cases db <;> simp only at ev <;> first | contradiction | skip
      cases ev
      exact ⟨F1, env, u1, _, _, (A.step P1).r, e2, fun F2 H2 P2 => k _ F2 H2 (P1.trans P2) (.bl _)⟩)
/-- at the wish b -/
theorem Sim.at_ (h : Sim X C ff au e p) (b : Bool) (hb : b = true → fk ff p = true) : PE X e (wpE b X.K C au p) := by
  cases b with
  | false => exact h.pl
  | true => rw [← hb rfl]; exact h.raw
theorem sim_ite (hc : SimT X C au c pc) (ha : Sim X C ff au a pa) (hb : Sim X C ff au b pb) : Sim X C ff au (.IfExp c a b pos) (.ite pc pa pb) :=
  ⟨(L2.pe_ifExp hc.t (ha.at_ (fk ff (.ite pc pa pb)) fun h => by simp only [fk, Bool.and_eq_true] at h; exact h.1) (hb.at_ (fk ff (.ite pc pa pb)) fun h => by simp only [fk, Bool.and_eq_true] at h; exact h.2)).imp fun σ H Q ⟨F, env, u, d, u', A, ev, k⟩ => by
    simp only [evalE] at ev
    obtain ⟨⟨da, u1⟩, e1, ev⟩ := Option.bind_eq_some_iff.mp ev
    cases da <;> simp only at ev <;> first | contradiction | skip
    rename_i c
    refine ⟨F, env, u, c, u1, A.l, e1, fun F1 H1 P1 => ?_⟩
    cases c with
    | true =>
      rw [if_pos rfl] at ev ⊢
      exact ⟨F1, env, u1, d, u', (A.step P1).r.l, ev, fun v F2 H2 P2 r => k v F2 H2 (P1.trans P2) (r.back fun _ hq => P1.grow hq)⟩
    | false =>
      rw [if_neg Bool.false_ne_true] at ev ⊢
      exact ⟨F1, env, u1, d, u', (A.step P1).r.r, ev, fun v F2 H2 P2 r => k v F2 H2 (P1.trans P2) (r.back fun _ hq => P1.grow hq)⟩⟩
theorem simT_ite (hc : SimT X C au c pc) (ha : SimT X C au a pa) (hb : SimT X C au b pb) (h : ∀ {t : TT}, (∀ σ H Q, t σ H Q → wpT X.K C au pc σ H fun k H1 => if k = true then wpT X.K C au pa σ H1 Q else wpT X.K C au pb σ H1 Q) → PT X (.IfExp c a b pos) t) : SimT X C au (.IfExp c a b pos) (.ite pc pa pb) :=
  ⟨h fun σ H Q ⟨F, env, u, d, u', A, ev, k⟩ => by
    simp only [evalE] at ev
    obtain ⟨⟨da, u1⟩, e1, ev⟩ := Option.bind_eq_some_iff.mp ev
    cases da <;> simp only at ev <;> first | contradiction | skip
    rename_i c
    refine ⟨F, env, u, c, u1, A.l, e1, fun F1 H1 P1 => ?_⟩
    cases c with
    | true =>
      rw [if_pos rfl] at ev ⊢
      exact ⟨F1, env, u1, d, u', (A.step P1).r.l, ev, fun F2 H2 P2 => k F2 H2 (P1.trans P2)⟩
    | false =>
      rw [if_neg Bool.false_ne_true] at ev ⊢
      exact ⟨F1, env, u1, d, u', (A.step P1).r.r, ev, fun F2 H2 P2 => k F2 H2 (P1.trans P2)⟩⟩

/-! ### displays, subscripts, slices -/
theorem simA_nil : SimA X C au [] .nil := ⟨L2.PA.imp L2.pa_nil fun σ H Q ⟨F, env, u, d, u', A, ev, k⟩ => by
  simp only [evalEs, Option.some.injEq, Prod.mk.injEq] at ev
  obtain ⟨rfl, rfl⟩ := ev
  exact k [] F H A.post .nil⟩
theorem simA_cons (ha : Sim X C ff au a pa) (hs : SimA X C au es ps) (hst : starEach (a :: es) X.env = (false, eval a X.env) :: starEach es X.env) : SimA X C au (a :: es) (.cons pa ps) :=
  ⟨L2.PA.imp (L2.pa_cons ha.pl hs.t hst) fun σ H Q ⟨F, env, u, d, u', A, ev, k⟩ => by
    simp only [evalEs] at ev
    obtain ⟨⟨da, u1⟩, e1, ev⟩ := Option.bind_eq_some_iff.mp ev
    obtain ⟨⟨ds, u2⟩, e2, ev⟩ := Option.bind_eq_some_iff.mp ev
    cases ev
    refine ⟨F, env, u, da, u1, A.l, e1, fun v F1 H1 P1 r1 => ?_⟩
    have A1 := A.step P1
    refine ⟨F1, env, u1, ds, u2, A1.r, e2, fun vs F2 H2 P2 r2 => ?_⟩
    exact k _ F2 H2 (P1.trans P2) (.cons (dp_sub (A1.subF P2) _ _ r1) r2)⟩
theorem sim_tup (hs : SimA X C au es ps) {j : Nat} : Sim X C ff au (.Tuple es j pos) (.tup ps) := sim_pl rfl ((L2.pe_tup hs.t).imp fun σ H Q ⟨F, env, u, d, u', A, ev, k⟩ => by
  simp only [evalE] at ev
  obtain ⟨⟨ds, u1⟩, e1, ev⟩ := Option.bind_eq_some_iff.mp ev
  split at ev <;> first | contradiction | skip
  rename_i hz
  cases ev
  refine ⟨F, env, u, ds, _, A, e1, fun vs F1 H1 P1 r1 => ⟨by rw [dpAll_len r1]; exact sizeLine_of hz, fun p hp => ?_⟩⟩
  exact (ans_of (K := X.K) (d := .tuple ds) P1 fun v F' H' P r => k v F' H' P r).newT P1.sub r1 hp)
theorem sim_dict0 : Sim X C ff au (.Dict [] [] pos) .dict0 := sim_pl rfl (L2.pe_dnewT.imp fun σ H Q ⟨F, env, u, d, u', A, ev, k⟩ => by
  simp only [evalE, Option.some.injEq, Prod.mk.injEq] at ev
  obtain ⟨rfl, rfl⟩ := ev
  exact fun p hp => (ans_of (K := X.K) (d := .dict []) A.post fun v F' H' P r => k v F' H' P r).newD A.sub hp)
theorem sim_lst (hs : SimA X C au es ps) : Sim X C ff au (.List es pos) (.lst ps) := ⟨(L2.pe_lst hs.t).imp fun σ H Q ⟨F, env, u, d, u', A, ev, k⟩ => by
  simp only [evalE] at ev
  obtain ⟨⟨ds, u1⟩, e1, ev⟩ := Option.bind_eq_some_iff.mp ev
  split at ev <;> first | contradiction | skip
  rename_i hz
  cases ev
  refine ⟨F, env, u, ds, _, A, e1, fun vs F1 H1 P1 r1 => ⟨by rw [dpAll_len r1]; exact sizeLine_of hz, fun p hp => ?_⟩⟩
  exact (ans_of P1 k).newL P1.sub r1 hp⟩
theorem sim_rep {pos2 : Pos} (hs : SimA X C au es ps) (hb : Sim X C ff au b pb) : Sim X C ff au (.BinOp (.List es pos2) .Mult b pos) (.rep ps pb) := ⟨(L2.pe_op L2.op_rep (L2.pe_lst hs.t) hb.pl).imp fun σ H Q ⟨F, env, u, d, u', A, ev, k⟩ => by
  simp only [evalE] at ev
  obtain ⟨⟨ds, u1⟩, e1, ev⟩ := Option.bind_eq_some_iff.mp ev
  obtain ⟨⟨dn, u2⟩, e2, ev⟩ := Option.bind_eq_some_iff.mp ev
  cases dn <;> simp only at ev <;> first | contradiction | skip
  split at ev <;> first | contradiction | skip
  rename_i hz
  cases ev
  simp only [Bool.and_eq_true, decide_eq_true_eq] at hz
  obtain ⟨⟨⟨z1, z2⟩, z3⟩, z4⟩ := hz
  refine ⟨F, env, u, ds, u1, A.l, e1, fun vs F1 H1 P1 r1 => ⟨by rw [dpAll_len r1]; exact sizeLine_of z3, fun p hp => ?_⟩⟩
  have A1 := A.step P1
  have hpa : ∀ a, au = some a → a ≠ p := fun a ha e => P1.urn.hh a ha (e ▸ hp)
  have A2 : At X.K au σ (upd H1 p (.lst vs)) F1 env u1 (fvEs ps ++ fvE pb) := ⟨sub_newH P1.sub hp, fun a ha => by rw [upd_ne (hpa a ha)]; exact P1.urn a ha, A1.s0, A1.len, A1.env⟩
  refine ⟨F1, env, u1, _, _, A2.r, e2, fun w F2 H2 P2 r2 => ?_⟩
  obtain rfl := dp_int r2
  have q2 := (P2.ext p (fun e => hpa p e.symm rfl) (by rw [upd_same]; exact fun z => nomatch z))
  rw [upd_same] at q2
  have P12 : Post au F H F2 H2 _ := P1.trans ⟨fun x hx hn => by
    have hxp : x ≠ p := fun e => hn (e ▸ hp)
    have := P2.ext x hx (by rw [upd_ne hxp]; exact hn)
    rw [upd_ne hxp] at this
    exact this, P2.sub, P2.urn⟩
  refine ⟨p, _, vs, rfl, rfl, q2.1, by omega, by omega, by rw [dpAll_len r1]; exact sizeLine_of z4, fun r hr => ?_⟩
  exact (ans_of P12 k).newL P12.sub (dpAll_rep (dpAll_sub (A2.subF P2) _ _ r1) _) hr⟩
theorem sim_idx (ha : Sim X C ff au a pa) (hb : Sim X C ff au b pb) (hs : L2.PlainIx b) : Sim X C ff au (.Subscript a b pos) (.idx pa pb) := sim_pl rfl ((L2.pe_ix ix_any ha.pl hb.pl hs).imp fun σ H Q ⟨F, env, u, d, u', A, ev, k⟩ => by
  simp only [evalE] at ev
  obtain ⟨⟨da, u1⟩, e1, ev⟩ := Option.bind_eq_some_iff.mp ev
  obtain ⟨⟨db, u2⟩, e2, ev⟩ := Option.bind_eq_some_iff.mp ev
  obtain ⟨d0, e3, ev⟩ := Option.bind_eq_some_iff.mp ev
  cases ev
  refine ⟨F, env, u, da, u1, A.l, e1, fun v F1 H1 P1 r1 => ?_⟩
  have A1 := A.step P1
  refine ⟨F1, env, u1, db, _, A1.r, e2, fun w F2 H2 P2 r2 => ?_⟩
  exact ⟨F2, da, db, d, P2.sub, dp_sub (A1.subF P2) _ _ r1, r2, e3, fun z hz => k z F2 H2 (P1.trans P2) hz⟩)
theorem simO_no : SimO X C au none .no := ⟨L2.PO.imp L2.po_none fun σ H Q ⟨F, env, u, d, u', A, ev, k⟩ => by
  simp only [evalEo, Option.some.injEq, Prod.mk.injEq] at ev
  obtain ⟨rfl, rfl⟩ := ev
  exact k F H A.post⟩
theorem simO_yes (ha : Sim X C ff au a pa) : SimO X C au (some a) (.yes pa) := ⟨L2.PO.imp (L2.po_some ha.pl) fun σ H Q ⟨F, env, u, d, u', A, ev, k⟩ => by
  simp only [evalEo] at ev
  obtain ⟨⟨da, u1⟩, e1, ev⟩ := Option.bind_eq_some_iff.mp ev
  cases da <;> simp only at ev <;> first | contradiction | skip
  cases ev
  exact ⟨F, env, u, _, _, A, e1, fun v F1 H1 P1 r1 => ⟨_, dp_int r1, k F1 H1 P1⟩⟩⟩
theorem sim_sli {lo hi : Option Expr} {pl ph : Eo} {p2 : Pos} (ha : Sim X C ff au a pa) (hl : SimO X C au lo pl) (hh : SimO X C au hi ph) : Sim X C ff au (.Subscript a (.Slice lo hi none p2) pos) (.sli pa pl ph) :=
  ⟨(L2.pe_slice sl_any ha.pl hl.t hh.t).imp fun σ H Q ⟨F, env, u, d, u', A, ev, k⟩ => by
    simp only [evalE] at ev
    obtain ⟨⟨da, u1⟩, e1, ev⟩ := Option.bind_eq_some_iff.mp ev
    obtain ⟨⟨ol, u2⟩, e2, ev⟩ := Option.bind_eq_some_iff.mp ev
    obtain ⟨⟨oh, u3⟩, e3, ev⟩ := Option.bind_eq_some_iff.mp ev
    obtain ⟨d0, e4, ev⟩ := Option.bind_eq_some_iff.mp ev
    cases ev
    refine ⟨F, env, u, da, u1, A.l, e1, fun v F1 H1 P1 r1 => ?_⟩
    have A1 := A.step P1
    refine ⟨F1, env, u1, ol, u2, A1.r.l, e2, fun F2 H2 P2 => ?_⟩
    have A2 := A1.step P2
    refine ⟨F2, env, u2, oh, u3, A2.r.r, e3, fun F3 H3 P3 => ?_⟩
    exact ⟨F3, da, d, P3.sub, dp_sub (A2.subF P3) _ _ (dp_sub (A1.subF P2) _ _ r1), e4, ans_of ((P1.trans P2).trans P3) k⟩⟩
theorem sim_rev {k : Nat} {p1 p2 p3 : Pos} (ha : Sim X C ff au a pa) : Sim X C ff au (.Subscript a (.Slice none none (some (.UnaryOp .USub (.Constant (.int 1) k p1) p2)) p3) pos) (.rev pa) :=
  ⟨(PlE.pe_revT ha.pl).imp fun σ H Q ⟨F, env, u, d, u', A, ev, k⟩ => by
    simp only [evalE] at ev
    obtain ⟨⟨da, u1⟩, e1, ev⟩ := Option.bind_eq_some_iff.mp ev
    cases da <;> simp only at ev <;> first | contradiction | skip
    · cases ev
      refine ⟨F, env, u, _, _, A, e1, fun v F1 H1 P1 r1 => ?_⟩
      obtain ⟨p, xs, rfl, h1, h2⟩ := dp_list r1
      exact ⟨p, xs, rfl, .inl ⟨sqL_sub P1.sub h1, fun q hq => (ans_of P1 k).newL P1.sub (dpAll_rev h2) hq⟩⟩
    · cases ev
      refine ⟨F, env, u, _, _, A, e1, fun v F1 H1 P1 r1 => ?_⟩
      obtain ⟨p, xs, rfl, h1, h2⟩ := dp_tuple r1
      exact ⟨p, xs, rfl, .inr ⟨sqT_sub P1.sub h1, fun q hq => (ans_of P1 k).newT P1.sub (dpAll_rev h2) hq⟩⟩⟩
theorem sim_uidx {x : Str} {pos2 : Pos} (h : PE X (.Name x pos2) (L2.tVar 0)) (hau : au.isSome = true) (hb : Sim X C ff au b pb) (hs : L2.PlainIx b) : Sim X C ff au (.Subscript (.Name x pos2) b pos) (.uidx pb) :=
  sim_pl rfl ((L2.pe_ix L2.ix_list h hb.pl hs).imp fun σ H Q ⟨F, env, u, d, u', A, ev, k⟩ => by
    simp only [evalE] at ev
    obtain ⟨⟨db, u1⟩, e1, ev⟩ := Option.bind_eq_some_iff.mp ev
    cases db <;> simp only at ev <;> first | contradiction | skip
    obtain ⟨n, e2, ev⟩ := Option.bind_eq_some_iff.mp ev
    cases ev
    obtain ⟨x, hx⟩ := Option.isSome_iff_exists.mp hau
    refine ⟨.ref x, A.s0 x hx, F, env, u, _, _, A, e1, fun v F1 H1 P1 r1 => ?_⟩
    obtain rfl := dp_int r1
    refine ⟨x, _, _, .int n, rfl, rfl, .inl (.inl (P1.urn x hx).1), ?_, k _ F1 H1 P1 (.int n)⟩
    refine atI_eq ?_
    unfold atI at e2 ⊢
    rw [List.length_map]
    split <;> rename_i h0
    · rw [if_pos h0] at e2
      rw [List.getElem?_map, e2]; rfl
    · rw [if_neg h0] at e2
      split <;> rename_i h3
      · rw [if_pos h3] at e2
        rw [List.getElem?_map, e2]; rfl
      · rw [if_neg h3] at e2; cases e2)
end
end Pl

/-! PSound5: calls of built-ins, what is walked, comprehensions. -/
namespace Pl
open PySem
open L2 (V Hp HO St VK TE TT TA TS TI TG Cx PE PT PW PA PS PSs PI PG Inv SqL SqT upd upd_same upd_ne OpR UnR CallR R2 Vals RelV EP Gl Vis It)

section
variable {X : Cx} {C : Ctx} {ff : String → Bool} {au : Option Addr} {e a b c : Expr} {es : List Expr} {p pa pb pc : E} {ps : Es} {pos : Pos} {x : Str} {pos2 : Pos}

/-! ### calls of built-ins -/
theorem bi_imp {bi : BI} {σ : St} {H : Hp} {Q : VK} (h : wpE true X.K C au (.bi bi ps) σ H Q) : L2.tCB (rBi X.K bi) (wpEs X.K C au ps) σ H Q := by
  obtain ⟨F, env, u, d, u', A, ev, k⟩ := h
  simp only [evalE] at ev
  obtain ⟨⟨ds, u1⟩, e1, ev⟩ := Option.bind_eq_some_iff.mp ev
  obtain ⟨d0, e2, ev⟩ := Option.bind_eq_some_iff.mp ev
  cases ev
  exact ⟨F, env, u, ds, _, A, e1, fun vs F1 H1 P1 r1 => ⟨F1, ds, d, P1.sub, r1, e2, ans_of P1 k⟩⟩
theorem bi_noL {bi : BI} (h1 : bi ≠ .list) (h2 : bi ≠ .sorted) (h3 : bi ≠ .sortedSet) : ∀ env u d u', evalE C (.bi bi ps) env u = some (d, u') → isL d = false := by
  intro env u d u' ev
  simp only [evalE] at ev
  obtain ⟨⟨ds, u1⟩, e1, ev⟩ := Option.bind_eq_some_iff.mp ev
  obtain ⟨d0, e2, ev⟩ := Option.bind_eq_some_iff.mp ev
  cases ev
  simp only at e2
  unfold biV at e2
  split at e2 <;> first
    | contradiction
    | exact absurd rfl h1
    | (cases e2; rfl)
    | (simp only [Option.map_eq_some_iff] at e2; obtain ⟨_, _, rfl⟩ := e2; rfl)
    | (split at e2 <;> first | contradiction | (cases e2; rfl))
theorem sim_biB {id : String} (bi : BI) (hr : CallR X (.builtin id) (rBi X.K bi)) (h1 : bi ≠ .list) (h2 : bi ≠ .sorted) (h3 : bi ≠ .sortedSet) (hg : Gl X x) (hm : X.mg x = none) (hv : bootBuiltins x = some (.builtin id)) (ha : SimA X C au (a :: es) ps) (hn : x ≠ "__name__") (hdb : (x == ("__debug__" : Str)) = false)
    (he : starEach (a :: es) X.env = (false, eval a X.env) :: starEach es X.env) (hpl : (backTo pos (starEach es X.env)).any (·.1) = false) : Sim X C ff au (.Call (.Name x pos2) (a :: es) [] pos) (.bi bi ps) :=
  sim_pl (by cases bi <;> first | rfl | exact absurd rfl h1 | exact absurd rfl h2 | exact absurd rfl h3) (down_of ((L2.pe_callB hr hg hm hv ha.t hn hdb he hpl).imp fun _ _ _ h => bi_imp h) (bi_noL h1 h2 h3))
theorem sim_biT {id : String} (bi : BI) (hr : CallR X (.type id) (rBi X.K bi)) (h1 : bi ≠ .list) (h2 : bi ≠ .sorted) (h3 : bi ≠ .sortedSet) (hg : Gl X x) (hm : X.mg x = none) (hv : bootBuiltins x = some (.type id)) (ha : SimA X C au (a :: es) ps) (hn : x ≠ "__name__") (hdb : (x == ("__debug__" : Str)) = false)
    (he : starEach (a :: es) X.env = (false, eval a X.env) :: starEach es X.env) (hpl : (backTo pos (starEach es X.env)).any (·.1) = false) : Sim X C ff au (.Call (.Name x pos2) (a :: es) [] pos) (.bi bi ps) :=
  sim_pl (by cases bi <;> first | rfl | exact absurd rfl h1 | exact absurd rfl h2 | exact absurd rfl h3) (down_of ((L2.pe_callTy hr hg hm hv ha.t hn hdb he hpl).imp fun _ _ _ h => bi_imp h) (bi_noL h1 h2 h3))
theorem sim_list (hg : Gl X "list") (hm : X.mg "list" = none) (ha : SimA X C au (a :: es) ps)
    (he : starEach (a :: es) X.env = (false, eval a X.env) :: starEach es X.env) (hpl : (backTo pos (starEach es X.env)).any (·.1) = false) : Sim X C ff au (.Call (.Name "list" pos2) (a :: es) [] pos) (.bi .list ps) :=
  ⟨(L2.pe_callTy bi_list hg hm (by decide +kernel) ha.t (by decide) (by decide) he hpl).imp fun _ _ _ h => bi_imp h⟩
theorem sim_gcd (hg : Gl X "gcd") (hm : X.mg "gcd" = some (.builtin "math.gcd")) (ha : SimA X C au (a :: es) ps)
    (he : starEach (a :: es) X.env = (false, eval a X.env) :: starEach es X.env) (hpl : (backTo pos (starEach es X.env)).any (·.1) = false) : Sim X C ff au (.Call (.Name "gcd" pos2) (a :: es) [] pos) (.bi .gcd ps) :=
  sim_pl rfl (down_of ((L2.pe_callBfun bi_gcd hg hm ha.t (by decide) he hpl).imp fun _ _ _ h => bi_imp h) (bi_noL (by decide) (by decide) (by decide)))
theorem sim_isi {T : String} {y : Str} {py : Pos} (bi : BI) (hr : CallR X (.builtin "isinstance") (rIsi X.K T bi)) (hz : ∀ d d', biV bi [d] = some d' → ∃ z, d' = .bool z) (hk : fk ff (.bi bi (.cons pa .nil)) = false) (hg : Gl X "isinstance") (hm : X.mg "isinstance" = none) (ha : Sim X C ff au a pa) (hgy : Gl X y) (hmy : X.mg y = none) (hvy : bootBuiltins y = some (.type T)) (hny : y ≠ "__name__") (hdy : (y == ("__debug__" : Str)) = false)
    (he : starEach [a, .Name y py] X.env = (false, eval a X.env) :: starEach [.Name y py] X.env) : Sim X C ff au (.Call (.Name "isinstance" pos2) [a, .Name y py] [] pos) (.bi bi (.cons pa .nil)) :=
  sim_pl hk ((L2.pe_callB hr hg hm (by decide +kernel) (L2.pa_cons ha.pl (L2.pa_cons (L2.pe_bltn (v := .ty T) hgy hmy hvy rfl hny hdy) L2.pa_nil rfl) he) (by decide) (by decide) he rfl).imp fun σ H Q ⟨F, env, u, d, u', A, ev, k⟩ => by
    simp only [evalE, evalEs] at ev
    obtain ⟨⟨ds, u1⟩, e1, ev⟩ := Option.bind_eq_some_iff.mp ev
    obtain ⟨⟨da, u2⟩, e2, e3⟩ := Option.bind_eq_some_iff.mp e1
    simp only [Option.bind_some, Option.some.injEq, Prod.mk.injEq] at e3
    obtain ⟨rfl, rfl⟩ := e3
    obtain ⟨d0, e4, ev⟩ := Option.bind_eq_some_iff.mp ev
    cases ev
    obtain ⟨z, rfl⟩ := hz _ _ e4
    exact ⟨F, env, u, da, _, by simpa [fvE, fvEs] using A, e2, fun v F1 H1 P1 r1 => ⟨F1, v, da, z, P1.sub, rfl, r1, e4, k _ F1 H1 P1 (.bl z)⟩⟩)

/-! ### what is walked -/
/-- the walk J hands out ds, while what stands still stands -/
def Feeds (K : PySem.W.Frag) (F0 : Hp) (J : It) (ds : List D) : Prop := ∀ F H, Sub F0 F → Sub F H → ∀ i : Nat,
  (∀ d, ds[i]? = some d → J.go i H ∧ ∀ y H', J.yld i H y H' → ∃ F', Ext none F H F' H' ∧ Sub F' H' ∧ Dp K F' y d) ∧ (ds.length ≤ i → J.stop i H)
def wpI (K : PySem.W.Frag) (C : Ctx) (au : Option Addr) (p : I) : TI := fun σ H R =>
  ∃ F env u ds u', At K au σ H F env u (fvI p) ∧ evalI C p env u = some (ds, u') ∧ ∀ J F' H', Post au F H F' H' u' → Feeds K F' J ds → (iterOk p = true → ∀ F0, Feeds K F0 J ds) → R J H'
structure SimI (X : Cx) (C : Ctx) (au : Option Addr) (tg e : Expr) (p : I) : Prop where
  t : PI X tg e (wpI X.K C au p)
def iSeq (K : PySem.W.Frag) (tl : TE) : TI := fun σ H R => tl σ H fun y H1 => ∃ q, y = .ref q ∧ ((∃ xs, SqL K H1 q xs ∧ R (L2.Itl K q) H1) ∨ (∃ xs, SqT K H1 q xs ∧ R (L2.Itt K q) H1))
theorem pi_seq {tg l : Expr} {tl : TE} (hl : PE X l tl) : PI X tg l (iSeq X.K tl) := by
  refine ⟨fun pins s σ H R I h => ?_⟩
  refine L2.thn (hl.run pins s σ H _ I h) fun v s1 ⟨y, H1, I1, r1, q1⟩ => ?_
  obtain ⟨q, e, q1⟩ := q1
  subst e
  cases r1
  rcases q1 with ⟨xs, hq, q1⟩ | ⟨xs, hq, q1⟩
  · obtain ⟨its, rv, p, hz⟩ := I1.list hq
    refine wpAny_pyIter_list p.isList ?_
    refine ⟨s1.heap.objs.size, [s1.heap.objs.size], _, _, H1, rfl, I1.kept (t' := s1.toks) fun b o e => Heap.get?_push_of_some _ e, L2.turn_list q _, ⟨_, Heap.get?_push_size _ rfl, rfl, rfl⟩, fun b hb => ?_, q1⟩
    have e : b = s1.heap.objs.size := by simpa using hb
    subst e
    exact I1.fpOk (Nat.le_refl _) (I1.hok.fresh (Nat.le_refl _))
  · obtain ⟨its, rv, p, hz⟩ := I1.tuple hq
    refine wpAny_pyIter_tuple (show s1.heap.IsTuple q its.toArray from p) ?_
    refine ⟨s1.heap.objs.size, [s1.heap.objs.size], _, _, H1, rfl, I1.kept (t' := s1.toks) fun b o e => Heap.get?_push_of_some _ e, L2.turn_tuple q _, ⟨_, Heap.get?_push_size _ rfl, rfl, rfl⟩, fun b hb => ?_, q1⟩
    have e : b = s1.heap.objs.size := by simpa using hb
    subst e
    exact I1.fpOk (Nat.le_refl _) (I1.hok.fresh (Nat.le_refl _))
theorem getD_lt {α : Type} {ds : List α} {i : Nat} {d : α} (h : ds[i]? = some d) : i < ds.length := (List.getElem?_eq_some_iff.mp h).1
theorem feeds_list {K : PySem.W.Frag} {F : Hp} {q : Addr} {xs : List V} {ds : List D} (h : SqL K F q xs) (r : DpAll K F xs ds) : Feeds K F (L2.Itl K q) ds := fun F2 H s1 s2 i => by
  have hq := sqL_sub s2 (sqL_sub s1 h)
  refine ⟨fun d hd => ?_, fun hl => ⟨xs, hq, by rw [dpAll_len r]; exact hl⟩⟩
  obtain ⟨v, h1, h2⟩ := dpAll_get r hd
  refine ⟨⟨xs, v, hq, h1⟩, fun y H' hy => ?_⟩
  obtain ⟨e, hy⟩ := hy
  subst e
  have := hy xs hq
  rw [h1] at this
  cases this
  exact ⟨F2, Ext.refl _ _ _, s2, dp_sub s1 _ _ h2⟩
theorem feeds_tuple {K : PySem.W.Frag} {F : Hp} {q : Addr} {xs : List V} {ds : List D} (h : SqT K F q xs) (r : DpAll K F xs ds) : Feeds K F (L2.Itt K q) ds := fun F2 H s1 s2 i => by
  have hq := sqT_sub s2 (sqT_sub s1 h)
  refine ⟨fun d hd => ?_, fun hl => ⟨xs, hq, by rw [dpAll_len r]; exact hl⟩⟩
  obtain ⟨v, h1, h2⟩ := dpAll_get r hd
  refine ⟨⟨xs, v, hq, h1⟩, fun y H' hy => ?_⟩
  obtain ⟨e, hy⟩ := hy
  subst e
  have := hy xs hq
  rw [h1] at this
  cases this
  exact ⟨F2, Ext.refl _ _ _, s2, dp_sub s1 _ _ h2⟩
theorem simI_seq {tg : Expr} (ha : Sim X C ff au a pa) : SimI X C au tg a (.seq pa) := ⟨L2.PI.imp (pi_seq ha.pl) fun σ H Q ⟨F, env, u, ds, u', A, ev, k⟩ => by
  simp only [evalI] at ev
  obtain ⟨⟨d, u1⟩, e1, ev⟩ := Option.bind_eq_some_iff.mp ev
  obtain ⟨xs, e2, ev⟩ := Option.bind_eq_some_iff.mp ev
  cases ev
  refine ⟨F, env, u, d, _, A, e1, fun v F1 H1 P1 r1 => ?_⟩
  rcases items_list e2 with e | e <;> simp only at e <;> subst e
  · obtain ⟨q, vs, rfl, h1, h2⟩ := dp_list r1
    exact ⟨q, rfl, .inl ⟨vs, sqL_sub P1.sub h1, k _ F1 H1 P1 (feeds_list h1 h2) (fun h => nomatch h)⟩⟩
  · obtain ⟨q, vs, rfl, h1, h2⟩ := dp_tuple r1
    exact ⟨q, rfl, .inr ⟨vs, sqT_sub P1.sub h1, k _ F1 H1 P1 (feeds_tuple h1 h2) (fun h => nomatch h)⟩⟩⟩
theorem rangeL_get {lo hi : Int} {i : Nat} {d : D} (h : (rangeL lo hi)[i]? = some d) : i < (hi - lo).toNat ∧ d = .int (lo + (i : Int)) := by
  unfold rangeL at h
  rw [List.getElem?_map] at h
  have hl : i < (hi - lo).toNat := by
    cases q : (List.range (hi - lo).toNat)[i]? with
    | none => rw [q] at h; cases h
    | some j => have := getD_lt q; rwa [List.length_range] at this
  rw [List.getElem?_range hl] at h
  exact ⟨hl, (Option.some.inj h).symm⟩
theorem rangeL_len (lo hi : Int) : (rangeL lo hi).length = (hi - lo).toNat := by unfold rangeL; rw [List.length_map, List.length_range]
theorem feeds_range {K : PySem.W.Frag} {F : Hp} {lo hi : Int} : Feeds K F (L2.Itr lo (hi - lo).toNat) (rangeL lo hi) := fun F2 H s1 s2 i => by
  refine ⟨fun d hd => ?_, fun hl => by rw [rangeL_len] at hl; exact hl⟩
  obtain ⟨h1, rfl⟩ := rangeL_get hd
  refine ⟨h1, fun y H' hy => ?_⟩
  obtain ⟨e, rfl⟩ := hy
  subst e
  exact ⟨F2, Ext.refl _ _ _, s2, .int _⟩
theorem intOk_of {j : Int} (h : intOk j = true) : -(2 ^ 62) ≤ j ∧ j < 2 ^ 62 := by
  have := of_decide_eq_true h
  omega
theorem rng2_some {d e : D} {xs : List D} (h : rng2 d e = some xs) : ∃ i j, d = .int i ∧ e = .int j ∧ (intOk i = true ∧ intOk j = true) ∧ xs = rangeL i j := by
  unfold rng2 at h
  split at h <;> first | contradiction | skip
  split at h <;> first | contradiction | skip
  rename_i hz
  cases h
  rw [Bool.and_eq_true] at hz
  exact ⟨_, _, rfl, rfl, hz, rfl⟩
theorem dpAll_rg {K : PySem.W.Frag} {F : Hp} (lo hi : Int) : DpAll K F (L2.rgV lo hi) (rangeL lo hi) := by
  unfold L2.rgV rangeL
  induction List.range (hi - lo).toNat with
  | nil => exact .nil
  | cons x xs ih => exact .cons (.int _) ih
theorem sim_trng {b : Expr} {pb : E} {pos3 pos4 : Pos} (hc : X.calm = true) (hg : Gl X "range") (hm : X.mg "range" = none) (hgr : Gl X "tuple") (hmr : X.mg "tuple" = none) (ha : Sim X C ff au a pa) (hb : Sim X C ff au b pb)
    (hs : starEach [a, b] X.env = (false, eval a X.env) :: starEach [b] X.env) (hs2 : starEach [b] X.env = (false, eval b X.env) :: starEach [] X.env) (hpl : (backTo pos4 (starEach [b] X.env)).any (·.1) = false) :
    Sim X C ff au (.Call (.Name "tuple" pos2) [.Call (.Name "range" pos3) [a, b] [] pos4] [] pos) (.trng pa pb) := sim_pl rfl ((L2.pe_tupRg hc hgr hmr (L2.prg_2 hg hm ha.pl hb.pl hs hs2 hpl) rfl).imp fun σ H Q ⟨F, env, u, d, u', A, ev, k⟩ => by
  simp only [evalE] at ev
  obtain ⟨⟨da, u1⟩, e1, ev⟩ := Option.bind_eq_some_iff.mp ev
  obtain ⟨⟨db, u2⟩, e2, ev⟩ := Option.bind_eq_some_iff.mp ev
  obtain ⟨xs, e3, ev⟩ := Option.bind_eq_some_iff.mp ev
  split at ev <;> first | contradiction | skip
  rename_i hz
  cases ev
  obtain ⟨i, j, ei, ej, ok, rfl⟩ := rng2_some e3
  simp only at ei ej
  subst ei ej
  refine ⟨F, env, u, _, u1, A.l, e1, fun v F1 H1 P1 r1 => ?_⟩
  have A1 := A.step P1
  refine ⟨F1, env, u1, _, u2, A1.r, e2, fun w F2 H2 P2 r2 => ?_⟩
  obtain rfl := dp_int r1
  obtain rfl := dp_int r2
  have q1 := intOk_of ok.1
  have q2 := intOk_of ok.2
  rw [rangeL_len] at hz
  refine ⟨i, j, rfl, rfl, ⟨q1.1, q1.2, q2.1, q2.2, sizeLine_of hz⟩, fun p hp => ?_⟩
  exact (ans_of (K := X.K) (d := .tuple (rangeL i j)) (P1.trans P2) fun v F' H' P r => k v F' H' P r).newT (P1.trans P2).sub (dpAll_rg i j) hp)
theorem simI_range1 {tg : Expr} (hg : Gl X "range") (hm : X.mg "range" = none) (ha : SimA X C au [a] (.cons pa .nil)) (hs : starEach [a] X.env = [(false, eval a X.env)]) : SimI X C au tg (.Call (.Name "range" pos2) [a] [] pos) (.range1 pa) :=
  ⟨L2.PI.imp (L2.pi_range1 hg hm ha.t hs) fun σ H Q ⟨F, env, u, ds, u', A, ev, k⟩ => by
    simp only [evalI] at ev
    obtain ⟨⟨d, u1⟩, e1, ev⟩ := Option.bind_eq_some_iff.mp ev
    cases d <;> simp only at ev <;> first | contradiction | skip
    rename_i j
    split at ev <;> first | contradiction | skip
    rename_i hz
    cases ev
    refine ⟨F, env, u, [.int j], u', by simpa [fvEs, fvI] using A, by simp [evalEs, e1], fun vs F1 H1 P1 r1 => ?_⟩
    obtain ⟨v, rfl, hv⟩ := dpAll1 r1
    obtain rfl := dp_int hv
    have := intOk_of hz
    refine ⟨j, rfl, this.1, this.2, ?_⟩
    have q := k (L2.Itr 0 (j - 0).toNat) F1 H1 P1 feeds_range (fun _ _ => feeds_range)
    rw [Int.sub_zero] at q
    exact q⟩
theorem simI_range2 {tg : Expr} (hg : Gl X "range") (hm : X.mg "range" = none) (ha : SimA X C au [a, b] (.cons pa (.cons pb .nil))) (hs : starEach [a, b] X.env = [(false, eval a X.env), (false, eval b X.env)]) (hs2 : starEach [b] X.env = [(false, eval b X.env)]) : SimI X C au tg (.Call (.Name "range" pos2) [a, b] [] pos) (.range2 pa pb) :=
  ⟨L2.PI.imp (L2.pi_range2 hg hm ha.t hs hs2) fun σ H Q ⟨F, env, u, ds, u', A, ev, k⟩ => by
    simp only [evalI] at ev
    obtain ⟨⟨d, u1⟩, e1, ev⟩ := Option.bind_eq_some_iff.mp ev
    obtain ⟨⟨d2, u2⟩, e2, ev⟩ := Option.bind_eq_some_iff.mp ev
    obtain ⟨xs, e3, ev⟩ := Option.bind_eq_some_iff.mp ev
    cases ev
    obtain ⟨i, j, rfl, rfl, hz, rfl⟩ := rng2_some e3
    refine ⟨F, env, u, [.int i, .int j], u2, by simpa [fvEs, fvI] using A, by simp [evalEs, e1, e2], fun vs F1 H1 P1 r1 => ?_⟩
    obtain ⟨v, w, rfl, hv, hw⟩ := dpAll2 r1
    obtain rfl := dp_int hv
    obtain rfl := dp_int hw
    have h1 := intOk_of hz.1
    have h2 := intOk_of hz.2
    exact ⟨i, j, rfl, ⟨h1.1, h1.2, h2.1, h2.2⟩, k _ F1 H1 P1 feeds_range (fun _ _ => feeds_range)⟩⟩
theorem feeds_revRange {K : PySem.W.Frag} {F : Hp} {j : Int} : Feeds K F (L2.Itc (0 + (((j - 0).toNat : Nat) : Int) - 1) (-1) (j - 0).toNat) (rangeL 0 j).reverse := fun F2 H s1 s2 i => by
  refine ⟨fun d hd => ?_, fun hl => by rw [List.length_reverse, rangeL_len] at hl; exact hl⟩
  have hl := getD_lt hd
  rw [List.length_reverse, rangeL_len] at hl
  rw [List.getElem?_reverse (by rw [rangeL_len]; exact hl), rangeL_len] at hd
  obtain ⟨h1, rfl⟩ := rangeL_get hd
  refine ⟨hl, fun y H' hy => ?_⟩
  obtain ⟨e, rfl⟩ := hy
  subst e
  refine ⟨F2, Ext.refl _ _ _, s2, ?_⟩
  have e : 0 + (((j - 0).toNat : Nat) : Int) - 1 + (i : Int) * (-1) = 0 + (((j - 0).toNat - 1 - i : Nat) : Int) := by omega
  rw [e]
  exact .int _
theorem simI_revRange1 {tg : Expr} {pos3 pos4 : Pos} (hg : Gl X "range") (hm : X.mg "range" = none) (hgr : Gl X "reversed") (hmr : X.mg "reversed" = none) (ha : Sim X C ff au a pa) (hs : starEach [a] X.env = (false, eval a X.env) :: starEach [] X.env) :
    SimI X C au tg (.Call (.Name "reversed" pos2) [.Call (.Name "range" pos3) [a] [] pos4] [] pos) (.revRange1 pa) :=
  ⟨L2.PI.imp (L2.pi_revR hgr hmr (L2.prg_1 hg hm ha.pl hs) rfl) fun σ H Q ⟨F, env, u, ds, u', A, ev, k⟩ => by
    simp only [evalI] at ev
    obtain ⟨⟨d, u1⟩, e1, ev⟩ := Option.bind_eq_some_iff.mp ev
    cases d <;> simp only at ev <;> first | contradiction | skip
    rename_i j
    split at ev <;> first | contradiction | skip
    rename_i hz
    cases ev
    refine ⟨F, env, u, _, _, A, e1, fun v F1 H1 P1 r1 => ?_⟩
    obtain rfl := dp_int r1
    have := intOk_of hz
    exact ⟨j, rfl, by decide, by decide, this.1, this.2, k _ F1 H1 P1 feeds_revRange (fun _ _ => feeds_revRange)⟩⟩
theorem enumL_get : ∀ {ds : List D} {k i : Nat} {d : D}, (enumL k ds)[i]? = some d → ∃ z, ds[i]? = some z ∧ d = .tuple [.int ((k + i : Nat) : Int), z]
  | [], _, _, _, h => by simp [enumL] at h
  | x :: xs, k, 0, d, h => by simp [enumL] at h; exact ⟨x, rfl, h.symm⟩
  | x :: xs, k, i + 1, d, h => by
    simp only [enumL, List.getElem?_cons_succ] at h
    obtain ⟨z, h1, h2⟩ := enumL_get h
    refine ⟨z, by simpa using h1, ?_⟩
    rw [h2]
    congr 3
    omega
theorem enumL_len : ∀ (ds : List D) (k : Nat), (enumL k ds).length = ds.length
  | [], _ => rfl
  | _ :: xs, k => congrArg Nat.succ (enumL_len xs (k + 1))
theorem feeds_enum {K : PySem.W.Frag} {F : Hp} {q : Addr} {xs : List V} {ds : List D} (h : SqL K F q xs) (r : DpAll K F xs ds) : Feeds K F (L2.Ite K q) (enumL 0 ds) := fun F2 H s1 s2 i => by
  have hq := sqL_sub s2 (sqL_sub s1 h)
  refine ⟨fun d hd => ?_, fun hl => ⟨xs, hq, by rw [dpAll_len r]; rw [enumL_len] at hl; exact hl⟩⟩
  obtain ⟨z, hz, rfl⟩ := enumL_get hd
  obtain ⟨v, h1, h2⟩ := dpAll_get r hz
  refine ⟨⟨xs, v, hq, h1⟩, fun y H' hy => ?_⟩
  obtain ⟨T, w, rfl, hT, e, hy⟩ := hy
  subst e
  have := hy xs hq
  rw [h1] at this
  cases this
  refine ⟨upd F2 T (.tup [.int (i : Nat), v]), ext_newF hT, sub_newF s2, .tup (.inl (.inl upd_same)) ?_⟩
  rw [Nat.zero_add]
  exact .cons (.int _) (.cons (dp_sub (s1.trans (sub_new (s2.free hT))) _ _ h2) .nil)
theorem feeds_enumT {K : PySem.W.Frag} {F : Hp} {q : Addr} {xs : List V} {ds : List D} (h : SqT K F q xs) (r : DpAll K F xs ds) : Feeds K F (PlE.Itet K q) (enumL 0 ds) := fun F2 H s1 s2 i => by
  have hq := sqT_sub s2 (sqT_sub s1 h)
  refine ⟨fun d hd => ?_, fun hl => ⟨xs, hq, by rw [dpAll_len r]; rw [enumL_len] at hl; exact hl⟩⟩
  obtain ⟨z, hz, rfl⟩ := enumL_get hd
  obtain ⟨v, h1, h2⟩ := dpAll_get r hz
  refine ⟨⟨xs, v, hq, h1⟩, fun y H' hy => ?_⟩
  obtain ⟨T, w, rfl, hT, e, hy⟩ := hy
  subst e
  have := hy xs hq
  rw [h1] at this
  cases this
  refine ⟨upd F2 T (.tup [.int (i : Nat), v]), ext_newF hT, sub_newF s2, .tup (.inl (.inl upd_same)) ?_⟩
  rw [Nat.zero_add]
  exact .cons (.int _) (.cons (dp_sub (s1.trans (sub_new (s2.free hT))) _ _ h2) .nil)
theorem items_eq {d : D} {xs : List D} (h : items d = some xs) : d = .list xs ∨ d = .tuple xs := by cases d <;> simp [items] at h <;> rw [h] <;> first | exact .inl rfl | exact .inr rfl
theorem simI_enum {elts : List Expr} {kk : Nat} {tpos : Pos} (hg : Gl X "enumerate") (hm : X.mg "enumerate" = none) (ha : SimA X C au [a] (.cons pa .nil)) (hs : starEach [a] X.env = [(false, eval a X.env)]) : SimI X C au (.Tuple elts kk tpos) (.Call (.Name "enumerate" pos2) [a] [] pos) (.enum pa) :=
  ⟨L2.PI.imp (PlE.pi_enumA hg hm ha.t hs) fun σ H Q ⟨F, env, u, ds, u', A, ev, k⟩ => by
    simp only [evalI] at ev
    obtain ⟨⟨d, u1⟩, e1, ev⟩ := Option.bind_eq_some_iff.mp ev
    obtain ⟨xs, e2, ev⟩ := Option.bind_eq_some_iff.mp ev
    cases ev
    simp only at e2
    refine ⟨F, env, u, [d], u1, by simpa [fvEs, fvI] using A, by simp [evalEs, e1], fun vs F1 H1 P1 r1 => ?_⟩
    obtain ⟨v, rfl, hv⟩ := dpAll1 r1
    rcases items_eq e2 with rfl | rfl
    · obtain ⟨q, vs, rfl, h1, h2⟩ := dp_list hv
      exact ⟨q, rfl, .inl ⟨vs, sqL_sub P1.sub h1, k _ F1 H1 P1 (feeds_enum h1 h2) (fun h => nomatch h)⟩⟩
    · obtain ⟨q, vs, rfl, h1, h2⟩ := dp_tuple hv
      exact ⟨q, rfl, .inr ⟨vs, sqT_sub P1.sub h1, k _ F1 H1 P1 (feeds_enumT h1 h2) (fun h => nomatch h)⟩⟩⟩
theorem zipL_get : ∀ {xs ys : List D} {i : Nat} {d : D}, (zipL xs ys)[i]? = some d → ∃ x y, xs[i]? = some x ∧ ys[i]? = some y ∧ d = .tuple [x, y]
  | [], _, _, _, h => by simp [zipL] at h
  | _ :: _, [], _, _, h => by simp [zipL] at h
  | x :: xs, y :: ys, 0, d, h => by simp [zipL] at h; exact ⟨x, y, rfl, rfl, h.symm⟩
  | x :: xs, y :: ys, i + 1, d, h => by
    simp only [zipL, List.getElem?_cons_succ] at h
    obtain ⟨a, b, h1, h2, h3⟩ := zipL_get h
    exact ⟨a, b, by simpa using h1, by simpa using h2, h3⟩
theorem zipL_len : ∀ (xs ys : List D), (zipL xs ys).length = min xs.length ys.length
  | [], _ => by simp [zipL]
  | _ :: _, [] => by simp [zipL]
  | _ :: xs, _ :: ys => by simp only [zipL, List.length_cons, zipL_len xs ys]; omega
theorem feeds_zip {K : PySem.W.Frag} {F : Hp} {q r : Addr} {xs ys : List V} {ds es : List D} (h : SqL K F q xs) (r1 : DpAll K F xs ds) (h' : SqL K F r ys) (r2 : DpAll K F ys es) : Feeds K F (L2.Itz K q r) (zipL ds es) := fun F2 H s1 s2 i => by
  have hq := sqL_sub s2 (sqL_sub s1 h)
  have hr := sqL_sub s2 (sqL_sub s1 h')
  refine ⟨fun d hd => ?_, fun hl => ⟨xs, ys, hq, hr, by rw [dpAll_len r1, dpAll_len r2]; rw [zipL_len] at hl; omega⟩⟩
  obtain ⟨z, z', hz, hz', rfl⟩ := zipL_get hd
  obtain ⟨v, h1, h2⟩ := dpAll_get r1 hz
  obtain ⟨v', h3, h4⟩ := dpAll_get r2 hz'
  refine ⟨⟨xs, ys, v, v', hq, hr, h1, h3⟩, fun y H' hy => ?_⟩
  obtain ⟨T, w, w', rfl, hT, e, hy, hy'⟩ := hy
  subst e
  have e1 := hy xs hq
  rw [h1] at e1
  cases e1
  have e2 := hy' ys hr
  rw [h3] at e2
  cases e2
  have sF := s1.trans (sub_new (o := .tup [v, v']) (s2.free hT))
  exact ⟨upd F2 T (.tup [v, v']), ext_newF hT, sub_newF s2, .tup (.inl (.inl upd_same)) (.cons (dp_sub sF _ _ h2) (.cons (dp_sub sF _ _ h4) .nil))⟩
theorem feeds_zipT {K : PySem.W.Frag} {F : Hp} {q r : Addr} {xs ys : List V} {ds es : List D} (h : SqT K F q xs) (r1 : DpAll K F xs ds) (h' : SqT K F r ys) (r2 : DpAll K F ys es) : Feeds K F (RZ.ItzT K q r) (zipL ds es) := fun F2 H s1 s2 i => by
  have hq := sqT_sub s2 (sqT_sub s1 h)
  have hr := sqT_sub s2 (sqT_sub s1 h')
  refine ⟨fun d hd => ?_, fun hl => ⟨xs, ys, hq, hr, by rw [dpAll_len r1, dpAll_len r2]; rw [zipL_len] at hl; omega⟩⟩
  obtain ⟨z, z', hz, hz', rfl⟩ := zipL_get hd
  obtain ⟨v, h1, h2⟩ := dpAll_get r1 hz
  obtain ⟨v', h3, h4⟩ := dpAll_get r2 hz'
  refine ⟨⟨xs, ys, v, v', hq, hr, h1, h3⟩, fun y H' hy => ?_⟩
  obtain ⟨T, w, w', rfl, hT, e, hy, hy'⟩ := hy
  subst e
  have e1 := hy xs hq
  rw [h1] at e1
  cases e1
  have e2 := hy' ys hr
  rw [h3] at e2
  cases e2
  have sF := s1.trans (sub_new (o := .tup [v, v']) (s2.free hT))
  exact ⟨upd F2 T (.tup [v, v']), ext_newF hT, sub_newF s2, .tup (.inl (.inl upd_same)) (.cons (dp_sub sF _ _ h2) (.cons (dp_sub sF _ _ h4) .nil))⟩
theorem simI_zip {elts : List Expr} {kk : Nat} {tpos : Pos} (hg : Gl X "zip") (hm : X.mg "zip" = none) (ha : SimA X C au [a, b] (.cons pa (.cons pb .nil)))
    (hs : starEach [a, b] X.env = (false, eval a X.env) :: starEach [b] X.env) (hpl : (backTo pos (starEach [b] X.env)).any (·.1) = false) : SimI X C au (.Tuple elts kk tpos) (.Call (.Name "zip" pos2) [a, b] [] pos) (.zip pa pb) :=
  ⟨L2.PI.imp (RZ.pi_zipA hg hm ha.t hs hpl) fun σ H Q ⟨F, env, u, ds, u', A, ev, k⟩ => by
    simp only [evalI] at ev
    obtain ⟨⟨d, u1⟩, e1, ev⟩ := Option.bind_eq_some_iff.mp ev
    obtain ⟨⟨d', u2⟩, e2, ev⟩ := Option.bind_eq_some_iff.mp ev
    obtain ⟨xs, e3, ev⟩ := Option.bind_eq_some_iff.mp ev
    cases ev
    simp only at e2 e3
    refine ⟨F, env, u, [d, d'], u2, by simpa [fvEs, fvI] using A, by simp [evalEs, e1, e2], fun vs F1 H1 P1 r1 => ?_⟩
    obtain ⟨v, w, rfl, hv, hw⟩ := dpAll2 r1
    cases d <;> cases d' <;> simp only [zipD] at e3 <;> first | contradiction | skip
    · cases e3
      obtain ⟨q, vs, rfl, h1, h2⟩ := dp_list hv
      obtain ⟨r, ws, rfl, h3, h4⟩ := dp_list hw
      exact ⟨q, r, vs, ws, rfl, .inl ⟨sqL_sub P1.sub h1, sqL_sub P1.sub h3, k _ F1 H1 P1 (feeds_zip h1 h2 h3 h4) (fun h => nomatch h)⟩⟩
    · cases e3
      obtain ⟨q, vs, rfl, h1, h2⟩ := dp_tuple hv
      obtain ⟨r, ws, rfl, h3, h4⟩ := dp_tuple hw
      exact ⟨q, r, vs, ws, rfl, .inr ⟨sqT_sub P1.sub h1, sqT_sub P1.sub h3, k _ F1 H1 P1 (feeds_zipT h1 h2 h3 h4) (fun h => nomatch h)⟩⟩⟩
theorem feeds_revL {K : PySem.W.Frag} {F : Hp} {q : Addr} {xs : List V} {ds : List D} (h : SqL K F q xs) (r : DpAll K F xs ds) : Feeds K F (L2.Itv K q xs.length) ds.reverse := fun F2 H s1 s2 i => by
  have hq := sqL_sub s2 (sqL_sub s1 h)
  have hn := dpAll_len r
  refine ⟨fun d hd => ?_, fun hl => ?_⟩
  · have hl := getD_lt hd
    rw [List.length_reverse] at hl
    rw [List.getElem?_reverse hl, ← hn] at hd
    obtain ⟨v, h1, h2⟩ := dpAll_get r hd
    refine ⟨⟨by omega, xs, v, hq, h1⟩, fun y H' hy => ?_⟩
    obtain ⟨e, hy⟩ := hy
    subst e
    have := hy xs hq
    rw [h1] at this
    cases this
    exact ⟨F2, Ext.refl _ _ _, s2, dp_sub s1 _ _ h2⟩
  · rw [List.length_reverse, ← hn] at hl
    exact hl
theorem feeds_revT {K : PySem.W.Frag} {F : Hp} {q : Addr} {xs : List V} {ds : List D} (h : SqT K F q xs) (r : DpAll K F xs ds) : Feeds K F (RT.ItvT K q xs.length) ds.reverse := fun F2 H s1 s2 i => by
  have hq := sqT_sub s2 (sqT_sub s1 h)
  have hn := dpAll_len r
  refine ⟨fun d hd => ?_, fun hl => ?_⟩
  · have hl := getD_lt hd
    rw [List.length_reverse] at hl
    rw [List.getElem?_reverse hl, ← hn] at hd
    obtain ⟨v, h1, h2⟩ := dpAll_get r hd
    refine ⟨⟨by omega, xs, v, hq, h1⟩, fun y H' hy => ?_⟩
    obtain ⟨e, hy⟩ := hy
    subst e
    have := hy xs hq
    rw [h1] at this
    cases this
    exact ⟨F2, Ext.refl _ _ _, s2, dp_sub s1 _ _ h2⟩
  · rw [List.length_reverse, ← hn] at hl
    exact hl
theorem simI_rev {tg : Expr} (hg : Gl X "reversed") (hm : X.mg "reversed" = none) (ha : Sim X C ff au a pa) (hs : starEach [a] X.env = (false, eval a X.env) :: starEach [] X.env) : SimI X C au tg (.Call (.Name "reversed" pos2) [a] [] pos) (.rev pa) :=
  ⟨L2.PI.imp (RT.pi_revA hg hm ha.pl hs) fun σ H Q ⟨F, env, u, ds, u', A, ev, k⟩ => by
    simp only [evalI] at ev
    obtain ⟨⟨d, u1⟩, e1, ev⟩ := Option.bind_eq_some_iff.mp ev
    obtain ⟨xs, e2, ev⟩ := Option.bind_eq_some_iff.mp ev
    cases ev
    refine ⟨F, env, u, d, _, A, e1, fun v F1 H1 P1 r1 => ?_⟩
    rcases items_list e2 with e | e <;> simp only at e <;> subst e
    · obtain ⟨q, vs, rfl, h1, h2⟩ := dp_list r1
      exact ⟨q, vs, rfl, .inl ⟨sqL_sub P1.sub h1, k _ F1 H1 P1 (feeds_revL h1 h2) (fun h => nomatch h)⟩⟩
    · obtain ⟨q, vs, rfl, h1, h2⟩ := dp_tuple r1
      exact ⟨q, vs, rfl, .inr ⟨sqT_sub P1.sub h1, k _ F1 H1 P1 (feeds_revT h1 h2) (fun h => nomatch h)⟩⟩⟩
end
end Pl

/-! PSound6: targets, comprehensions. -/
namespace Pl
open PySem
open L2 (V Hp HO St VK TE TT TA TS TI TG TGs Cx PE PT PW PA PS PSs PI PG PGs Inv SqL SqT upd upd_same upd_ne OpR UnR CallR R2 Vals RelV EP Gl Vis It)

def setMany : List Nat → List V → St → St
  | i :: is, v :: vs, σ => setMany is vs (σ.set i (some v))
  | _, _, σ => σ
def wpG (K : PySem.W.Frag) : Tg → TG
  | .one i => fun v σ H Q => Q (σ.set i (some v)) H
  | .many is => fun v σ H Q => ∃ a xs, v = .ref a ∧ SqT K H a xs ∧ xs.length = is.length ∧ Q (setMany is xs σ) H
def gMany : List Nat → TGs
  | [] => L2.gNil
  | i :: is => L2.gCons (L2.gName i) (gMany is)
def tgIx : Tg → List Nat
  | .one i => [i]
  | .many is => is
structure SimG (X : Cx) (tg : Expr) (t : Tg) : Prop where
  t : PG X tg (wpG X.K t)
section
variable {X : Cx}
theorem _root_.L2.PG.imp {tg : Expr} {t t' : TG} (h : PG X tg t) (k : ∀ v σ H Q, t' v σ H Q → t v σ H Q) : PG X tg t' := ⟨fun pins s σ H v u Q I r hw => h.run pins s σ H v u Q I r (k _ _ _ _ hw)⟩
theorem gMany_of : ∀ (is : List Nat) (xs : List V) (σ : St) (H : Hp) (Q : St → Hp → Prop), xs.length = is.length → Q (setMany is xs σ) H → gMany is xs σ H Q
  | [], [], _, _, _, _, q => ⟨rfl, q⟩
  | [], _ :: _, _, _, _, h, _ => by simp at h
  | _ :: _, [], _, _, _, h, _ => by simp at h
  | i :: is, v :: vs, σ, H, Q, h, q => ⟨v, vs, rfl, gMany_of is vs _ H Q (by simpa using h) q⟩
theorem simG_one {x : Str} {i : Nat} {pos : Pos} (h : PG X (.Name x pos) (L2.gName i)) : SimG X (.Name x pos) (.one i) := ⟨h⟩
theorem simG_many {es : List Expr} {is : List Nat} {k : Nat} {pos : Pos} (hc : X.calm = true) (h : PGs X es (gMany is)) (hn : (assignEach es X.env).length = is.length) (hst : (assignEach es X.env).findIdx? (·.1) = none) : SimG X (.Tuple es k pos) (.many is) :=
  ⟨L2.PG.imp (L2.pg_tup hc h hn hst) fun v σ H Q ⟨a, xs, e, hq, hl, q⟩ => ⟨a, xs, e, hq, hl, gMany_of is xs σ H Q hl q⟩⟩
end
section
variable {K : PySem.W.Frag} {au : Option Addr} {σ : St} {H F : Hp} {env : Env} {u : U} {is js : List Nat}
theorem getV_set_ne {env : Env} {i j : Nat} {s : Slot} (h : i ≠ j) : getV (env.set i s) j = getV env j := by unfold getV; rw [List.getElem?_set_ne h]
theorem At.set {i : Nat} {v : V} {d : D} (A : At K au σ H F env u is) (r : Dp K F v d) (h0 : au.isSome = true → i ≠ 0) : At K au (σ.set i (some v)) H F (env.set i (.imm d)) u is := by
  refine ⟨A.sub, A.urn, fun a ha => ?_, by rw [List.length_set, List.length_set]; exact A.len, fun j hj d' hd => ?_⟩
  · rw [List.getElem?_set_ne (h0 (by rw [ha]; rfl))]
    exact A.s0 a ha
  · by_cases e : i = j
    · subst e
      by_cases hl : i < env.length
      · unfold getV at hd
        rw [List.getElem?_set_self hl] at hd
        cases hd
        exact ⟨v, by rw [List.getElem?_set_self (by rw [← A.len]; exact hl)], r⟩
      · unfold getV at hd
        rw [List.getElem?_eq_none (by rw [List.length_set]; omega)] at hd
        cases hd
    · rw [getV_set_ne e] at hd
      obtain ⟨w, h1, h2⟩ := A.env j hj d' hd
      exact ⟨w, by rw [List.getElem?_set_ne e]; exact h1, h2⟩
theorem At.setMany : ∀ {is : List Nat} {ds : List D} {vs : List V} {σ : St} {env env' : Env}, At K au σ H F env u js → DpAll K F vs ds → bindMany is ds env = some env' → (au.isSome = true → 0 ∉ is) → At K au (Pl.setMany is vs σ) H F env' u js
  | [], [], _, σ, env, env', A, .nil, h, _ => by simp only [bindMany, Option.some.injEq] at h; subst h; exact A
  | [], _ :: _, _, σ, env, env', A, _, h, _ => by simp [bindMany] at h
  | _ :: _, [], _, σ, env, env', A, _, h, _ => by simp [bindMany] at h
  | i :: is, d :: ds, _, σ, env, env', A, .cons r rs, h, h0 => by
    simp only [bindMany] at h
    exact At.setMany (is := is) (σ := σ.set i (some _)) (A.set r fun z e => h0 z (by rw [e]; exact List.mem_cons_self)) rs h fun z hm => h0 z (List.mem_cons_of_mem _ hm)
theorem bindMany_len : ∀ {is : List Nat} {ds : List D} {env env' : Env}, bindMany is ds env = some env' → ds.length = is.length
  | [], [], _, _, _ => rfl
  | [], _ :: _, _, _, h => by simp [bindMany] at h
  | _ :: _, [], _, _, h => by simp [bindMany] at h
  | _ :: is, _ :: ds, _, _, h => by simp only [bindMany] at h; exact congrArg Nat.succ (bindMany_len h)
theorem At.bind {t : Tg} {v : V} {d : D} {env' : Env} (A : At K au σ H F env u js) (r : Dp K F v d) (h : bindT t d env = some env') (h0 : au.isSome = true → 0 ∉ tgIx t) {Q : St → Hp → Prop}
    (q : ∀ σ', At K au σ' H F env' u js → (∃ ws, σ' = Pl.setMany (tgIx t) ws σ) → Q σ' H) : wpG K t v σ H Q := by
  cases t with
  | one i =>
    simp only [bindT, Option.some.injEq] at h
    subst h
    exact q _ (A.set r fun z e => h0 z (by rw [e]; exact List.mem_singleton.mpr rfl)) ⟨[v], rfl⟩
  | many is =>
    cases d <;> simp only [bindT] at h <;> first | contradiction | skip
    obtain ⟨a, xs, rfl, h1, h2⟩ := dp_tuple r
    exact ⟨a, xs, rfl, sqT_sub A.sub h1, by rw [dpAll_len h2, bindMany_len h], q _ (A.setMany h2 h h0) ⟨xs, rfl⟩⟩

theorem lwipe_get (σ : St) (vs : List Nat) (j : Nat) : (L2.wipe σ vs)[j]? = if j ∈ vs then (σ[j]?).map (fun _ => none) else σ[j]? := by
  induction vs with
  | nil => simp [L2.wipe]
  | cons v vs ih =>
    unfold L2.wipe
    by_cases e : v = j
    · subst e
      rw [if_pos List.mem_cons_self]
      by_cases hl : v < (L2.wipe σ vs).length
      · rw [List.getElem?_set_self hl]
        rw [L2.wipe_length] at hl
        rw [List.getElem?_eq_getElem hl]; rfl
      · rw [List.getElem?_eq_none (by rw [List.length_set]; omega)]
        rw [L2.wipe_length] at hl
        rw [List.getElem?_eq_none (by omega)]; rfl
    · rw [List.getElem?_set_ne e, ih]
      have : (j ∈ v :: vs) ↔ j ∈ vs := by
        rw [List.mem_cons]
        exact ⟨fun h => h.resolve_left fun q => e q.symm, .inr⟩
      by_cases hm : j ∈ vs
      · rw [if_pos hm, if_pos (this.mpr hm)]
      · rw [if_neg hm, if_neg fun h => hm (this.mp h)]
theorem lwipe_set {σ : St} {vs : List Nat} {i : Nat} {x : Option V} (h : i ∈ vs) : L2.wipe (σ.set i x) vs = L2.wipe σ vs := by
  apply List.ext_getElem?
  intro j
  rw [lwipe_get, lwipe_get]
  by_cases hm : j ∈ vs
  · rw [if_pos hm, if_pos hm]
    by_cases e : i = j
    · subst e
      by_cases hl : i < σ.length
      · rw [List.getElem?_set_self hl, List.getElem?_eq_getElem hl]; rfl
      · rw [List.getElem?_eq_none (by rw [List.length_set]; omega), List.getElem?_eq_none (by omega)]
    · rw [List.getElem?_set_ne e]
  · rw [if_neg hm, if_neg hm, List.getElem?_set_ne fun (q : i = j) => hm (by rw [← q]; exact h)]
theorem lwipe_wipe {σ : St} {vs : List Nat} : L2.wipe (L2.wipe σ vs) vs = L2.wipe σ vs := by
  apply List.ext_getElem?
  intro j
  rw [lwipe_get]
  by_cases hm : j ∈ vs
  · rw [if_pos hm, lwipe_get, if_pos hm]
    cases σ[j]? <;> rfl
  · rw [if_neg hm]
theorem lwipe_setMany : ∀ {is : List Nat} {ws : List V} {σ : St} {vs : List Nat}, (∀ i ∈ is, i ∈ vs) → L2.wipe (setMany is ws σ) vs = L2.wipe σ vs
  | [], _, _, _, _ => by unfold setMany; rfl
  | _ :: _, [], _, _, _ => by unfold setMany; rfl
  | i :: is, w :: ws, σ, vs, h => by
    unfold setMany
    rw [lwipe_setMany fun j hj => h j (List.mem_cons_of_mem _ hj), lwipe_set (h i List.mem_cons_self)]
theorem wipe_len (env : Env) (vs : List Nat) : (wipe env vs).length = env.length := by
  induction vs with
  | nil => rfl
  | cons v vs ih => unfold wipe; rw [List.length_set]; exact ih
theorem getV_wipe {env : Env} {j : Nat} {d : D} : ∀ {vs : List Nat}, getV (wipe env vs) j = some d → j ∉ vs ∧ getV env j = some d
  | [], h => ⟨by simp, h⟩
  | v :: vs, h => by
    unfold wipe at h
    by_cases e : v = j
    · subst e
      unfold getV at h
      by_cases hl : v < (wipe env vs).length
      · rw [List.getElem?_set_self hl] at h; cases h
      · rw [List.getElem?_eq_none (by rw [List.length_set]; omega)] at h; cases h
    · rw [getV_set_ne e] at h
      obtain ⟨h1, h2⟩ := getV_wipe h
      exact ⟨by simp only [List.mem_cons, not_or]; exact ⟨fun z => e z.symm, h1⟩, h2⟩
theorem At.wipe {vs : List Nat} (A : At K au σ H F env u is) (h0 : au.isSome = true → 0 ∉ vs) : At K au (L2.wipe σ vs) H F (Pl.wipe env vs) u is := by
  refine ⟨A.sub, A.urn, fun a ha => ?_, by rw [wipe_len, L2.wipe_length]; exact A.len, fun j hj d hd => ?_⟩
  · rw [lwipe_get, if_neg (h0 (by rw [ha]; rfl))]
    exact A.s0 a ha
  · obtain ⟨h1, h2⟩ := getV_wipe hd
    obtain ⟨w, h3, h4⟩ := A.env j hj d h2
    exact ⟨w, by rw [lwipe_get, if_neg h1]; exact h3, h4⟩
end

def wpC (K : PySem.W.Frag) (C : Ctx) (au : Option Addr) (p : Eo) : TT := fun σ H Q =>
  ∃ F env u b u', At K au σ H F env u (fvEo p) ∧ evalC C p env u = some (b, u') ∧ ∀ F' H', Post au F H F' H' u' → Q b H'
structure SimC (X : Cx) (C : Ctx) (au : Option Addr) (ifs : List Expr) (p : Eo) : Prop where
  t : L2.PTs X ifs (wpC X.K C au p)
section
variable {X : Cx} {C : Ctx} {ff : String → Bool} {au : Option Addr} {e a : Expr} {pa pe : E} {pos : Pos}
theorem simC_no : SimC X C au [] .no := ⟨⟨fun pins s σ H Q I ⟨F, env, u, b, u', A, ev, k⟩ => by
  simp only [evalC, Option.some.injEq, Prod.mk.injEq] at ev
  obtain ⟨rfl, rfl⟩ := ev
  exact L2.pts_nil.run pins s σ H Q I (k F H A.post)⟩⟩
theorem simC_yes (ha : SimT X C au a pa) : SimC X C au [a] (.yes pa) := ⟨⟨fun pins s σ H Q I ⟨F, env, u, b, u', A, ev, k⟩ => by
  simp only [evalC] at ev
  obtain ⟨⟨da, u1⟩, e1, ev⟩ := Option.bind_eq_some_iff.mp ev
  cases da <;> simp only at ev <;> first | contradiction | skip
  cases ev
  exact (L2.pts_one ha.t).run pins s σ H Q I ⟨F, env, u, _, _, A, e1, k⟩⟩⟩

/-- a comprehension's meaning is its rule's -/
theorem comp_imp {t : Tg} {it : I} {cond : Eo} {own : List Nat} {σ : St} {H : Hp} {Q : VK} (h0 : au.isSome = true → 0 ∉ own ∧ 0 ∉ tgIx t) (hsub : ∀ i ∈ tgIx t, i ∈ own)
    (h : wpE true X.K C au (.comp pe t it cond own) σ H Q) : L2.tLc (wpI X.K C au it) (wpG X.K t) (wpC X.K C au cond) (wpE false X.K C au pe) own σ H Q := by
  obtain ⟨F, env, u, d, u', A, ev, k⟩ := h
  simp only [evalE] at ev
  obtain ⟨⟨ds, u1⟩, e1, ev⟩ := Option.bind_eq_some_iff.mp ev
  obtain ⟨⟨rs, u2⟩, e2, ev⟩ := Option.bind_eq_some_iff.mp ev
  split at ev <;> first | contradiction | skip
  rename_i hz
  cases ev
  refine ⟨F, env, u, ds, u1, A.l, e1, fun J F1 H1 P1 feeds _ D hD => ?_⟩
  have A1 := A.step P1
  have hDau : ∀ q, au = some q → q ≠ D := fun q hq e => P1.urn.hh q hq (e ▸ hD)
  -- the state at turn i
  refine ⟨fun i m H2 => m = ds.length - i ∧ i ≤ ds.length ∧ ∃ F2 v acc accD rest, Post au F1 H1 F2 H2 v ∧ H2 D = some (.lst acc) ∧ F2 D = none ∧ DpAll X.K F2 acc accD ∧ acc.length ≤ i ∧
    compL (fun d u => (bindT t d (wipe env own)).bind fun env' => (evalC C cond env' u).bind fun rc => if rc.1 = true then (evalE C pe env' rc.2).bind fun re => some (some re.1, re.2) else some (none, rc.2)) (ds.drop i) v = some (rest, u2) ∧ accD ++ rest = rs, ?_, ?_⟩
  · refine ⟨ds.length, by simp, Nat.zero_le _, F1, u1, [], [], rs, ⟨fun x hx hn => ⟨upd_ne fun e => hn (e ▸ hD), rfl⟩, sub_newH P1.sub hD, fun q hq => ⟨(upd_ne (hDau q hq)).trans (P1.urn q hq).1, (P1.urn q hq).2⟩⟩, upd_same, P1.sub.free hD, .nil, Nat.le_refl _, ?_, rfl⟩
    rw [List.drop_zero]
    exact e2
  rintro i m H2 ⟨rfl, hi, F2, v, acc, accD, rest, P2, hD2, hF2, hacc, hlen, ev, hres⟩
  have sF : Sub F1 F2 := P2.ext.sub P1.sub P1.urn.hu
  obtain ⟨hgo, hstop⟩ := feeds F2 H2 sF P2.sub i
  by_cases hlt : i < ds.length
  · have hd : ds[i]? = some ds[i] := List.getElem?_eq_getElem hlt
    obtain ⟨go, yld⟩ := hgo _ hd
    rw [List.drop_eq_getElem_cons hlt] at ev
    simp only [compL] at ev
    obtain ⟨⟨o, v1⟩, ev1, ev⟩ := Option.bind_eq_some_iff.mp ev
    obtain ⟨⟨rest1, v2⟩, ev2, ev⟩ := Option.bind_eq_some_iff.mp ev
    obtain ⟨env', eb, ev1⟩ := Option.bind_eq_some_iff.mp ev1
    obtain ⟨⟨b, vc⟩, ec, ev1⟩ := Option.bind_eq_some_iff.mp ev1
    refine .inr ⟨go, fun H3 => ∃ m', m' < ds.length - i ∧ (m' = ds.length - (i + 1) ∧ i + 1 ≤ ds.length ∧ ∃ F2 v acc accD rest, Post au F1 H1 F2 H3 v ∧ H3 D = some (.lst acc) ∧ F2 D = none ∧ DpAll X.K F2 acc accD ∧ acc.length ≤ i + 1 ∧
      compL (fun d u => (bindT t d (wipe env own)).bind fun env' => (evalC C cond env' u).bind fun rc => if rc.1 = true then (evalE C pe env' rc.2).bind fun re => some (some re.1, re.2) else some (none, rc.2)) (ds.drop (i + 1)) v = some (rest, u2) ∧ accD ++ rest = rs), fun _ h => h, fun y H3 hy => ?_⟩
    obtain ⟨F3, x3, s3, dp3⟩ := yld y H3 hy
    have P3 : Post au F2 H2 F3 H3 v := Post.of P2.urn x3 s3
    have keepD : ∀ {F4 H4 : Hp} {v4 : U}, Post au F2 H2 F4 H4 v4 → H4 D = some (.lst acc) ∧ F4 D = none := fun {F4 H4 v4} P4 => by
      obtain ⟨q1, q2⟩ := P4.ext D (fun e => hDau D e.symm rfl) (by rw [hD2]; exact fun z => nomatch z)
      exact ⟨q1.trans hD2, q2.trans hF2⟩
    have Aw : At X.K au (L2.wipe σ own) H3 F3 (wipe env own) v (fvEo cond ++ fvE pe) :=
      ((A1.r.step P2).step P3).wipe fun z => (h0 z).1
    refine Aw.bind dp3 eb (fun z => (h0 z).2) fun σ' A3 ⟨ws, hσ⟩ => ⟨by rw [hσ, lwipe_setMany hsub, lwipe_wipe], ?_⟩
    refine ⟨F3, env', v, b, vc, A3.l, ec, fun F4 H4 P4 => ?_⟩
    cases b with
    | true =>
      rw [if_pos rfl] at ev1 ⊢
      obtain ⟨⟨z, v5⟩, ee, ev1⟩ := Option.bind_eq_some_iff.mp ev1
      cases ev1
      refine ⟨F4, env', vc, z, v5, (A3.step P4).r, ee, fun w F5 H5 P5 r5 => ?_⟩
      have P25 := (P3.trans P4).trans P5
      obtain ⟨k1, k2⟩ := keepD P25
      refine ⟨acc, k1, Nat.lt_of_le_of_lt (Nat.le_trans hlen hi) (sizeLt_of hz), _, by omega, rfl, hlt, F5, v5, acc ++ [w], accD ++ [z], rest1, ?_, upd_same, k2, dpAll_append (dpAll_sub (P25.ext.sub P2.sub P2.urn.hu) _ _ hacc) (.cons r5 .nil), by rw [List.length_append]; exact Nat.succ_le_succ hlen, ?_, ?_⟩
      · have P5' := P2.trans P25
        refine ⟨fun x hx hn => ?_, fun x o ho => ?_, fun q hq => ⟨(upd_ne (hDau q hq)).trans (P5.urn q hq).1, (P5.urn q hq).2⟩⟩
        · rw [upd_ne fun (q : x = D) => hn (by rw [q]; exact hD)]
          exact P5'.ext x hx hn
        · rw [upd_ne fun (q : x = D) => by rw [q, k2] at ho; cases ho]
          exact P5.sub x o ho
      · simp only at ev
        cases ev
        exact ev2
      · simp only at ev
        cases ev
        rw [List.append_assoc]
        exact hres
    | false =>
      rw [if_neg Bool.false_ne_true] at ev1 ⊢
      cases ev1
      have P24 := P3.trans P4
      obtain ⟨k1, k2⟩ := keepD P24
      simp only at ev
      cases ev
      exact ⟨_, by omega, rfl, hlt, F4, vc, acc, accD, rest, P2.trans P24, k1, k2, dpAll_sub (P24.ext.sub P2.sub P2.urn.hu) _ _ hacc, Nat.le_succ_of_le hlen, ev2, hres⟩
  · have e : i = ds.length := by omega
    subst e
    rw [List.drop_length] at ev
    simp only [compL, Option.some.injEq, Prod.mk.injEq] at ev
    obtain ⟨rfl, rfl⟩ := ev
    rw [List.append_nil] at hres
    subst hres
    refine .inl ⟨hstop (Nat.le_refl _), k _ F2 H2 (P1.trans P2) ?_⟩
    refine ⟨D, acc, rfl, ?_, hF2, hD2, hacc⟩
    cases q : H D with
    | none => rfl
    | some o => exact absurd hD (P1.grow (by rw [q]; exact fun z => nomatch z))
end
end Pl

/-! PSound7: statements. -/
namespace Pl
open PySem
open L2 (V Hp HO St VK TE TT TA TS TI TG TGs Cx PE PT PW PA PS PSs PI PG PGs Inv SqL SqT upd upd_same upd_ne OpR UnR CallR R2 Vals RelV EP Gl Vis It Ends)

/-- a def's state: H0, F0 at its entry -/
structure StR (K : PySem.W.Frag) (au : Option Addr) (H0 F0 : Hp) (σ : St) (H F : Hp) (env : Env) (u : U) : Prop where
  sub : Sub F H
  urn : UrnR au u F H
  s0 : ∀ a, au = some a → σ[0]? = some (some (V.ref a))
  len : env.length = σ.length
  ext : Ext au F0 H0 F H
  u0 : ∀ a, au = some a → H0 a ≠ none
  imm : ∀ (i : Nat) d, env[i]? = some (Slot.imm d) → ∃ v, σ[i]? = some (some v) ∧ Dp K F v d
  own : ∀ (i : Nat) ds, env[i]? = some (Slot.own ds) → ∃ p vs, σ[i]? = some (some (V.ref p)) ∧ H p = some (.lst vs) ∧ F p = none ∧ H0 p = none ∧ DpAll K F vs ds
  dis : ∀ (i j : Nat) ds ds' p, env[i]? = some (Slot.own ds) → env[j]? = some (Slot.own ds') → σ[i]? = some (some (V.ref p)) → σ[j]? = some (some (V.ref p)) → i = j

section
variable {K : PySem.W.Frag} {au : Option Addr} {H0 F0 : Hp} {σ : St} {H F : Hp} {env : Env} {u : U}
/-- the own lists that is mentions -/
def Held (env : Env) (σ : St) (is : List Nat) (a : Addr) : Prop := ∃ i ∈ is, ∃ ds, env[i]? = some (Slot.own ds) ∧ σ[i]? = some (some (V.ref a))
open Classical in
noncomputable def thaw (env : Env) (σ : St) (is : List Nat) (H F : Hp) : Hp := fun a => if Held env σ is a then H a else F a
open Classical in
noncomputable def hide (env : Env) (σ : St) (is : List Nat) (F : Hp) : Hp := fun a => if Held env σ is a then none else F a
theorem StR.held (R : StR K au H0 F0 σ H F env u) {is : List Nat} {a : Addr} (h : Held env σ is a) : (∃ vs, H a = some (.lst vs)) ∧ F a = none ∧ H0 a = none := by
  obtain ⟨i, _, ds, h1, h2⟩ := h
  obtain ⟨p, vs, h3, h4, h5, h6, _⟩ := R.own i ds h1
  rw [h2] at h3
  cases h3
  exact ⟨⟨vs, h4⟩, h5, h6⟩
theorem StR.heldAu (R : StR K au H0 F0 σ H F env u) {is : List Nat} {a : Addr} (h : Held env σ is a) : some a ≠ au := fun e => R.u0 a e.symm (R.held h).2.2
theorem thaw_yes {is : List Nat} {a : Addr} (h : Held env σ is a) : thaw env σ is H F a = H a := by unfold thaw; rw [if_pos h]
theorem thaw_no {is : List Nat} {a : Addr} (h : ¬ Held env σ is a) : thaw env σ is H F a = F a := by unfold thaw; rw [if_neg h]
theorem hide_yes {is : List Nat} {a : Addr} (h : Held env σ is a) : hide env σ is F a = none := by unfold hide; rw [if_pos h]
theorem hide_no {is : List Nat} {a : Addr} (h : ¬ Held env σ is a) : hide env σ is F a = F a := by unfold hide; rw [if_neg h]
theorem StR.subT (R : StR K au H0 F0 σ H F env u) (is : List Nat) : Sub F (thaw env σ is H F) := fun a o h => by
  by_cases q : Held env σ is a
  · rw [(R.held q).2.1] at h; cases h
  · rw [thaw_no q]; exact h
/-- for an expression -/
theorem StR.at_ (R : StR K au H0 F0 σ H F env u) (is : List Nat) : At K au σ H (thaw env σ is H F) env u is := by
  refine ⟨fun a o h => ?_, fun a ha => ⟨(R.urn a ha).1, ?_⟩, R.s0, R.len, fun i hi d hd => ?_⟩
  · by_cases q : Held env σ is a
    · rwa [thaw_yes q] at h
    · rw [thaw_no q] at h; exact R.sub a o h
  · rw [thaw_no fun q => R.heldAu q ha.symm]
    exact (R.urn a ha).2
  · unfold getV at hd
    split at hd <;> first | contradiction | skip
    · rename_i d0 h1
      cases hd
      obtain ⟨v, h2, h3⟩ := R.imm i _ h1
      exact ⟨v, h2, dp_sub (R.subT is) _ _ h3⟩
    · rename_i ds h1
      cases hd
      obtain ⟨p, vs, h2, h3, h4, h5, h6⟩ := R.own i _ h1
      exact ⟨.ref p, h2, .lst (.inl (.inl (by rw [thaw_yes ⟨i, hi, ds, h1, h2⟩]; exact h3))) (dpAll_sub (R.subT is) _ _ h6)⟩
variable {F1 H1 : Hp} {u1 : U} {is : List Nat}
theorem StR.subH (R : StR K au H0 F0 σ H F env u) (P : Post au (thaw env σ is H F) H F1 H1 u1) : Sub F (hide env σ is F1) := fun a o h => by
  have q : ¬ Held env σ is a := fun q => by rw [(R.held q).2.1] at h; cases h
  rw [hide_no q]
  have ha : some a ≠ au := fun e => by rw [(R.urn a e.symm).2] at h; cases h
  rw [(P.ext a ha (by rw [R.sub a o h]; exact fun z => nomatch z)).2, thaw_no q]
  exact h
/-- behind it, the own lists still one's own -/
theorem StR.keep (R : StR K au H0 F0 σ H F env u) (P : Post au (thaw env σ is H F) H F1 H1 u1) : StR K au H0 F0 σ H1 (hide env σ is F1) env u1 := by
  have sF := R.subH P
  refine ⟨fun a o h => ?_, fun a ha => ⟨(P.urn a ha).1, ?_⟩, R.s0, R.len, fun a ha hn => ?_, R.u0, fun i d hi => ?_, fun i ds hi => ?_, R.dis⟩
  · by_cases q : Held env σ is a
    · rw [hide_yes q] at h; cases h
    · rw [hide_no q] at h; exact P.sub a o h
  · rw [hide_no fun q => R.heldAu q ha.symm]
    exact (P.urn a ha).2
  · have q : ¬ Held env σ is a := fun q => hn (R.held q).2.2
    obtain ⟨e1, e2⟩ := R.ext a ha hn
    obtain ⟨e3, e4⟩ := P.ext a ha (by rw [e1]; exact hn)
    exact ⟨e3.trans e1, (hide_no q).trans (e4.trans ((thaw_no q).trans e2))⟩
  · obtain ⟨v, h1, h2⟩ := R.imm i d hi
    exact ⟨v, h1, dp_sub sF _ _ h2⟩
  · obtain ⟨p, vs, h1, h2, h3, h4, h5⟩ := R.own i ds hi
    have hp : some p ≠ au := fun e => R.u0 p e.symm h4
    obtain ⟨e1, e2⟩ := P.ext p hp (by rw [h2]; exact fun z => nomatch z)
    refine ⟨p, vs, h1, e1.trans h2, ?_, h4, dpAll_sub sF _ _ h5⟩
    by_cases q : Held env σ is p
    · exact hide_yes q
    · exact (hide_no q).trans (e2.trans ((thaw_no q).trans h3))
theorem StR.noHeld (R : StR K au H0 F0 σ H F env u) (P : Post au (thaw env σ is H F) H F1 H1 u1) {a : Addr} {xs : List V} (h : SqT K F1 a xs) : SqT K (hide env σ is F1) a xs := by
  rcases h with (h | ⟨o, h⟩) | h
  · refine .inl (.inl ?_)
    rw [hide_no fun q => ?_]
    · exact h
    · obtain ⟨⟨vs, e⟩, _⟩ := R.held q
      rw [(P.ext a (R.heldAu q) (by rw [e]; exact fun z => nomatch z)).2, thaw_yes q, e] at h
      cases h
  · refine .inl (.inr ⟨o, ?_⟩)
    rw [hide_no fun q => ?_]
    · exact h
    · obtain ⟨⟨vs, e⟩, _⟩ := R.held q
      rw [(P.ext a (R.heldAu q) (by rw [e]; exact fun z => nomatch z)).2, thaw_yes q, e] at h
      cases h
  · exact .inr h
theorem StR.keepV (R : StR K au H0 F0 σ H F env u) (P : Post au (thaw env σ is H F) H F1 H1 u1) {v : V} {d : D} (h : Dp K F1 v d) (n : noList d = true) : Dp K (hide env σ is F1) v d := dp_noList (fun _ _ q => R.noHeld P q) d v n h
theorem freeze_get (env : Env) (j : Nat) : ∀ (is : List Nat), (freeze env is)[j]? = if j ∈ is then (env[j]?).map frz else env[j]?
  | [] => by simp [freeze]
  | i :: is => by
    unfold freeze
    rw [List.getElem?_modify]
    have ih := freeze_get env j is
    by_cases e : i = j
    · subst e
      simp only [if_true, ih]
      by_cases hm : i ∈ is
      · rw [if_pos hm, if_pos List.mem_cons_self]
        cases env[i]? with
        | none => rfl
        | some s => cases s <;> rfl
      · rw [if_neg hm, if_pos List.mem_cons_self]
        rfl
    · have hm : (j ∈ i :: is) ↔ j ∈ is := by
        rw [List.mem_cons]
        exact ⟨fun h => h.resolve_left fun q => e q.symm, .inr⟩
      simp only [e, if_false, ih, hm]
      by_cases hm2 : j ∈ is
      · rw [if_pos hm2]; cases env[j]? <;> rfl
      · rw [if_neg hm2]; cases env[j]? <;> rfl
theorem freeze_len (env : Env) : ∀ (is : List Nat), (freeze env is).length = env.length
  | [] => rfl
  | i :: is => by unfold freeze; rw [List.length_modify]; exact freeze_len env is
/-- .. or the own lists that it mentions given up -/
theorem StR.frz (R : StR K au H0 F0 σ H F env u) (P : Post au (thaw env σ is H F) H F1 H1 u1) : StR K au H0 F0 σ H1 F1 (freeze env is) u1 := by
  have sF : Sub F F1 := (R.subT is).trans (P.ext.sub (R.at_ is).sub (R.at_ is).urn.hu)
  have ownB : ∀ (j : Nat) ds, (freeze env is)[j]? = some (Slot.own ds) → env[j]? = some (.own ds) ∧ j ∉ is := fun j ds h => by
    rw [freeze_get] at h
    by_cases hm : j ∈ is
    · rw [if_pos hm] at h
      cases q : env[j]? with
      | none => rw [q] at h; cases h
      | some s => rw [q] at h; cases s <;> cases h
    · rw [if_neg hm] at h; exact ⟨h, hm⟩
  refine ⟨P.sub, P.urn, R.s0, by rw [freeze_len]; exact R.len, fun a ha hn => ?_, R.u0, fun i d hi => ?_, fun i ds hi => ?_, fun i j ds ds' p h1 h2 => R.dis i j ds ds' p (ownB _ _ h1).1 (ownB _ _ h2).1⟩
  · have q : ¬ Held env σ is a := fun q => hn (R.held q).2.2
    obtain ⟨e1, e2⟩ := R.ext a ha hn
    obtain ⟨e3, e4⟩ := P.ext a ha (by rw [e1]; exact hn)
    exact ⟨e3.trans e1, e4.trans ((thaw_no q).trans e2)⟩
  · rw [freeze_get] at hi
    by_cases hm : i ∈ is
    · rw [if_pos hm] at hi
      cases q : env[i]? with
      | none => rw [q] at hi; cases hi
      | some s =>
        rw [q] at hi
        cases s with
        | no => cases hi
        | imm d0 =>
          cases hi
          obtain ⟨v, h1, h2⟩ := R.imm i _ q
          exact ⟨v, h1, dp_sub sF _ _ h2⟩
        | own ds =>
          cases hi
          obtain ⟨p, vs, h1, h2, h3, h4, h5⟩ := R.own i ds q
          have hp : some p ≠ au := fun e => R.u0 p e.symm h4
          have e := (P.ext p hp (by rw [h2]; exact fun z => nomatch z)).2
          rw [thaw_yes ⟨i, hm, ds, q, h1⟩, h2] at e
          exact ⟨.ref p, h1, .lst (.inl (.inl e)) (dpAll_sub sF _ _ h5)⟩
    · rw [if_neg hm] at hi
      obtain ⟨v, h1, h2⟩ := R.imm i d hi
      exact ⟨v, h1, dp_sub sF _ _ h2⟩
  · obtain ⟨q, hm⟩ := ownB _ _ hi
    obtain ⟨p, vs, h1, h2, h3, h4, h5⟩ := R.own i ds q
    have hp : some p ≠ au := fun e => R.u0 p e.symm h4
    have hh : ¬ Held env σ is p := fun ⟨j, hj, ds', g1, g2⟩ => hm (by rw [R.dis i j ds ds' p q g1 h1 g2]; exact hj)
    obtain ⟨e1, e2⟩ := P.ext p hp (by rw [h2]; exact fun z => nomatch z)
    exact ⟨p, vs, h1, e1.trans h2, e2.trans ((thaw_no hh).trans h3), h4, dpAll_sub sF _ _ h5⟩

/-- what is stored in a slot -/
def SlotOk (K : PySem.W.Frag) (H0 F H : Hp) (env : Env) (σ : St) (i : Nat) (v : V) : Slot → Prop
  | .no => True
  | .imm d => Dp K F v d
  | .own ds => ∃ p vs, v = .ref p ∧ H p = some (.lst vs) ∧ F p = none ∧ H0 p = none ∧ DpAll K F vs ds ∧ ∀ (j : Nat) ds', env[j]? = some (Slot.own ds') → j ≠ i → σ[j]? ≠ some (some (V.ref p))
theorem StR.put (R : StR K au H0 F0 σ H F env u) {i : Nat} {v : V} {s : Slot} (h : SlotOk K H0 F H env σ i v s) (h0 : au.isSome = true → i ≠ 0) : StR K au H0 F0 (σ.set i (some v)) H F (env.set i s) u := by
  have get : ∀ (j : Nat) t, (env.set i s)[j]? = some t → (j = i ∧ t = s ∧ i < env.length) ∨ (j ≠ i ∧ env[j]? = some t) := fun j t hj => by
    by_cases e : i = j
    · subst e
      by_cases hl : i < env.length
      · rw [List.getElem?_set_self hl] at hj
        exact .inl ⟨rfl, (Option.some.inj hj).symm, hl⟩
      · rw [List.getElem?_eq_none (by rw [List.length_set]; omega)] at hj; cases hj
    · rw [List.getElem?_set_ne e] at hj
      exact .inr ⟨fun q => e q.symm, hj⟩
  have sg : i < env.length → (σ.set i (some v))[i]? = some (some v) := fun hl => List.getElem?_set_self (by rw [← R.len]; exact hl)
  have sn : ∀ {j}, j ≠ i → (σ.set i (some v))[j]? = σ[j]? := fun {j} e => List.getElem?_set_ne fun q => e q.symm
  refine ⟨R.sub, R.urn, fun a ha => ?_, by rw [List.length_set, List.length_set]; exact R.len, R.ext, R.u0, fun j d hj => ?_, fun j ds hj => ?_, fun j k ds ds' p hj hk h1 h2 => ?_⟩
  · rw [sn fun e => h0 (by rw [ha]; rfl) e.symm]
    exact R.s0 a ha
  · rcases get j _ hj with ⟨rfl, e, hl⟩ | ⟨ne, hj⟩
    · subst e
      exact ⟨v, sg hl, h⟩
    · obtain ⟨w, h1, h2⟩ := R.imm j d hj
      exact ⟨w, by rw [sn ne]; exact h1, h2⟩
  · rcases get j _ hj with ⟨rfl, e, hl⟩ | ⟨ne, hj⟩
    · subst e
      obtain ⟨p, vs, rfl, h1, h2, h3, h4, _⟩ := h
      exact ⟨p, vs, sg hl, h1, h2, h3, h4⟩
    · obtain ⟨p, vs, h1, h2⟩ := R.own j ds hj
      exact ⟨p, vs, by rw [sn ne]; exact h1, h2⟩
  · rcases get j _ hj with ⟨rfl, e, hl⟩ | ⟨ne, hj2⟩
    · rcases get k _ hk with ⟨rfl, e', _⟩ | ⟨ne', hk2⟩
      · rfl
      · subst e
        obtain ⟨q, vs, rfl, _, _, _, _, hd⟩ := h
        rw [sg hl] at h1
        cases h1
        rw [sn ne'] at h2
        exact absurd h2 (hd k ds' hk2 ne')
    · rcases get k _ hk with ⟨rfl, e', hl⟩ | ⟨ne', hk2⟩
      · subst e'
        obtain ⟨q, vs, rfl, _, _, _, _, hd⟩ := h
        rw [sg hl] at h2
        cases h2
        rw [sn ne] at h1
        exact absurd h1 (hd j ds hj2 ne)
      · rw [sn ne] at h1
        rw [sn ne'] at h2
        exact R.dis j k ds ds' p hj2 hk2 h1 h2
/-- a new list is nobody's -/
theorem StR.fresh (R : StR K au H0 F0 σ H F env u) {p : Addr} (hp : H p = none) : H0 p = none ∧ ∀ (j : Nat) ds', env[j]? = some (Slot.own ds') → σ[j]? ≠ some (some (V.ref p)) := by
  refine ⟨?_, fun j ds' hj e => ?_⟩
  · cases q : H0 p with
    | none => rfl
    | some o =>
      by_cases ha : some p = au
      · exact absurd hp (R.urn.hh p ha.symm)
      · rw [(R.ext p ha (by rw [q]; exact fun z => nomatch z)).1, q] at hp; cases hp
  · obtain ⟨q, vs, h1, h2, _⟩ := R.own j ds' hj
    rw [e] at h1
    cases h1
    rw [hp] at h2; cases h2
/-- a value, as it is stored -/
theorem StR.slot (R : StR K au H0 F0 σ H F env u) (ff : String → Bool) {e : E} (P : Post au (thaw env σ (fvE e) H F) H F1 H1 u1) {v : V} {d : D} (r : Rr (fk ff e) K H F1 H1 v d) (i : Nat) :
    ∃ F', StR K au H0 F0 σ H1 F' (after ff env e d) u1 ∧ SlotOk K H0 F' H1 (after ff env e d) σ i v (slotOf ff e d) := by
  have frs : ∀ {p : Addr}, H p = none → ∀ (env' : Pl.Env), (∀ (j : Nat) ds', env'[j]? = some (Slot.own ds') → env[j]? = some (Slot.own ds')) → H0 p = none ∧ ∀ (j : Nat) ds', env'[j]? = some (Slot.own ds') → j ≠ i → σ[j]? ≠ some (some (V.ref p)) := fun {p} hp env' he =>
    ⟨(R.fresh hp).1, fun j ds' hj _ => (R.fresh hp).2 j ds' (he j ds' hj)⟩
  have fz : ∀ (j : Nat) ds', (freeze env (fvE e))[j]? = some (Slot.own ds') → env[j]? = some (Slot.own ds') := fun j ds' h => by
    rw [freeze_get] at h
    split at h
    · cases q : env[j]? with
      | none => rw [q] at h; cases h
      | some s => rw [q] at h; cases s <;> cases h
    · exact h
  unfold after slotOf within
  by_cases hk : fk ff e = true
  · rw [if_pos hk]
    rw [hk] at r
    cases d with
    | list ds =>
      obtain ⟨p, vs, rfl, h1, h2, h3, h4⟩ := r
      simp only [hk, if_true]
      by_cases hn : noListAll ds = true
      · rw [if_pos hn]
        obtain ⟨q1, q2⟩ := frs h1 env fun _ _ h => h
        refine ⟨_, R.keep P, p, vs, rfl, h3, ?_, q1, dpAll_noList (fun _ _ q => R.noHeld P q) _ _ hn h4, q2⟩
        by_cases q : Held env σ (fvE e) p
        · exact hide_yes q
        · rw [hide_no q]; exact h2
      · rw [if_neg hn]
        obtain ⟨q1, q2⟩ := frs h1 _ fz
        exact ⟨_, R.frz P, p, vs, rfl, h3, h2, q1, h4, q2⟩
    | _ =>
      simp only [hk, if_true]
      split
      · rename_i hn
        exact ⟨_, R.keep P, R.keepV P r hn⟩
      · exact ⟨_, R.frz P, r⟩
  · have hk' : fk ff e = false := by simpa using hk
    rw [hk'] at r
    rw [if_neg hk]
    simp only [hk', Bool.false_eq_true, if_false]
    by_cases hn : noList d = true
    · rw [if_pos hn]; exact ⟨_, R.keep P, R.keepV P r hn⟩
    · rw [if_neg hn]; exact ⟨_, R.frz P, r⟩
end

/-! ### what a statement's end is to give -/
def RetR (fr : Bool) (K : PySem.W.Frag) (au : Option Addr) (H0 F0 : Hp) (v : V) (F H : Hp) (d : D) (u : U) : Prop := Post au F0 H0 F H u ∧ Rr fr K H0 F H v d
def Fin (fr : Bool) (K : PySem.W.Frag) (au : Option Addr) (H0 F0 : Hp) (D : Ends) : O → Prop
  | .nx env u => ∀ σ H F, StR K au H0 F0 σ H F env u → D.nx σ H
  | .bk env u => ∀ σ H F, StR K au H0 F0 σ H F env u → D.bk σ H
  | .ct env u => ∀ σ H F, StR K au H0 F0 σ H F env u → D.ct σ H
  | .rt d u => ∀ v F H, RetR fr K au H0 F0 v F H d u → D.rt v H
def wpS (fr : Bool) (C : Ctx) (ff : String → Bool) (K : PySem.W.Frag) (au : Option Addr) (H0 F0 : Hp) (p : S) : TS := fun D σ H =>
  ∃ F env u o, StR K au H0 F0 σ H F env u ∧ execS C ff p env u = some o ∧ Fin fr K au H0 F0 D o
def wpSs (fr : Bool) (C : Ctx) (ff : String → Bool) (K : PySem.W.Frag) (au : Option Addr) (H0 F0 : Hp) (p : Ss) : TS := fun D σ H =>
  ∃ F env u o, StR K au H0 F0 σ H F env u ∧ execSs C ff p env u = some o ∧ Fin fr K au H0 F0 D o
structure SimS (X : Cx) (C : Ctx) (ff : String → Bool) (au : Option Addr) (fr : Bool) (st : Stmt) (p : S) : Prop where
  t : ∀ H0 F0, PS X st (wpS fr C ff X.K au H0 F0 p)
structure SimSs (X : Cx) (C : Ctx) (ff : String → Bool) (au : Option Addr) (fr : Bool) (st : List Stmt) (p : Ss) : Prop where
  t : ∀ H0 F0, PSs X st (wpSs fr C ff X.K au H0 F0 p)

section
variable {X : Cx} {C : Ctx} {ff : String → Bool} {au : Option Addr} {fr : Bool} {e a b c : Expr} {es : List Expr} {p pa pb pc : E} {ps : Es} {pos : Pos} {x : Str} {pos2 : Pos} {K : PySem.W.Frag} {H0 F0 : Hp} {st : Stmt} {sts sts2 : List Stmt} {s : S} {ss ss2 : Ss}

theorem simSs_nil : SimSs X C ff au fr [] .nil := ⟨fun H0 F0 => L2.pss_nil.imp fun D σ H ⟨F, env, u, o, R, ev, k⟩ => by
  simp only [execSs, Option.some.injEq] at ev
  subst ev
  exact k σ H F R⟩
theorem simSs_cons (h1 : SimS X C ff au fr st s) (h2 : SimSs X C ff au fr sts ss) : SimSs X C ff au fr (st :: sts) (.cons s ss) := ⟨fun H0 F0 => (L2.pss_cons (h1.t H0 F0) (h2.t H0 F0)).imp fun D σ H ⟨F, env, u, o, R, ev, k⟩ => by
  simp only [execSs] at ev
  obtain ⟨o1, e1, ev⟩ := Option.bind_eq_some_iff.mp ev
  refine ⟨F, env, u, o1, R, e1, ?_⟩
  cases o1 with
  | nx env' u' => exact fun σ' H' F' R' => ⟨F', env', u', o, R', ev, k⟩
  | rt d u' => simp only [Option.some.injEq] at ev; subst ev; exact k
  | bk env' u' => simp only [Option.some.injEq] at ev; subst ev; exact k
  | ct env' u' => simp only [Option.some.injEq] at ev; subst ev; exact k⟩
theorem simS_pass : SimS X C ff au fr (.Pass pos) .pass := ⟨fun H0 F0 => L2.ps_pass.imp fun D σ H ⟨F, env, u, o, R, ev, k⟩ => by
  simp only [execS, Option.some.injEq] at ev
  subst ev
  exact k σ H F R⟩
theorem simS_brk : SimS X C ff au fr (.Break pos) .brk := ⟨fun H0 F0 => L2.ps_break.imp fun D σ H ⟨F, env, u, o, R, ev, k⟩ => by
  simp only [execS, Option.some.injEq] at ev
  subst ev
  exact k σ H F R⟩
theorem simS_cont : SimS X C ff au fr (.Continue pos) .cont := ⟨fun H0 F0 => L2.ps_continue.imp fun D σ H ⟨F, env, u, o, R, ev, k⟩ => by
  simp only [execS, Option.some.injEq] at ev
  subst ev
  exact k σ H F R⟩
theorem simS_raise : SimS X C ff au fr st .raise := ⟨fun H0 F0 => L2.ps_never.imp fun D σ H ⟨F, env, u, o, R, ev, k⟩ => by
  simp [execS] at ev⟩

/-! ### assignments -/
theorem set_core {i : Nat} {D : Ends} {σ : St} {H : Hp} (h0 : au.isSome = true → i ≠ 0) (h : wpS fr C ff K au H0 F0 (.set i p) D σ H) : wpE (fk ff p) K C au p σ H fun v H1 => D.nx (σ.set i (some v)) H1 := by
  obtain ⟨F, env, u, o, R, ev, k⟩ := h
  simp only [execS] at ev
  obtain ⟨⟨d, u1⟩, e1, ev⟩ := Option.bind_eq_some_iff.mp ev
  cases ev
  refine ⟨_, env, u, d, u1, R.at_ (fvE p), e1, fun v F1 H1 P r => ?_⟩
  obtain ⟨F', R', so⟩ := R.slot ff P r i
  exact k _ H1 F' (R'.put so h0)
theorem simS_set {i : Nat} (h : PE X e (wpE (fk ff p) X.K C au p) → PS X st (L2.tAsg (wpE (fk ff p) X.K C au p) (L2.gName i))) (he : Sim X C ff au e p) (h0 : au.isSome = true → i ≠ 0) : SimS X C ff au fr st (.set i p) :=
  ⟨fun H0 F0 => (h he.raw).imp fun D σ H q => set_core h0 q⟩
/-- x = e, e no comprehension -/
theorem simS_setN {i : Nat} (hN : X.N.Nodup) (hi : X.N[i]? = some x) (hx : L2.Loc X.env.scope x) (hf : X.fn x = true) (he : Sim X C ff au e p) (hs : swapsWith e (some (.Name x pos2)) pos.line X.env = pure false) (h0 : au.isSome = true → i ≠ 0) : SimS X C ff au fr (.Assign [.Name x pos2] e pos) (.set i p) :=
  simS_set (fun h => L2.ps_set hN hi hx h hs (.inl hf)) he h0
theorem simS_set2 {i j : Nat} {t1 t2 : Expr} (h1 : PG X t1 (L2.gName i)) (h2 : PG X t2 (L2.gName j)) (ha : (assignEach [t1, t2] X.env).map (·.2) = [assign t1 X.env, assign t2 X.env]) (hw : swappedStores [t1, t2] e X.env = pure none) (he : Sim X C ff au e p) (h0 : au.isSome = true → i ≠ 0 ∧ j ≠ 0) : SimS X C ff au fr (.Assign [t1, t2] e pos) (.set2 i j p) :=
  ⟨fun H0 F0 => (L2.ps_asg2 he.pl h1 h2 ha hw).imp fun D σ H ⟨F, env, u, o, R, ev, k⟩ => by
    simp only [execS] at ev
    obtain ⟨⟨d, u1⟩, e1, ev⟩ := Option.bind_eq_some_iff.mp ev
    split at ev <;> first | contradiction | skip
    rename_i hn
    cases ev
    refine ⟨_, env, u, d, u1, R.at_ (fvE p), e1, fun v F1 H1 P r => ?_⟩
    have R1 := R.keep P
    have r1 := R.keepV P r hn
    exact k _ H1 _ ((R1.put (s := .imm d) r1 fun z => (h0 z).1).put (s := .imm d) r1 fun z => (h0 z).2)⟩
theorem simS_drop (he : Sim X C ff au e p) (hs : swapsWith e none pos.line X.env = pure false) : SimS X C ff au fr (.Expr e pos) (.drop p) :=
  ⟨fun H0 F0 => (L2.ps_expr he.pl hs).imp fun D σ H ⟨F, env, u, o, R, ev, k⟩ => by
    simp only [execS] at ev
    obtain ⟨⟨d, u1⟩, e1, ev⟩ := Option.bind_eq_some_iff.mp ev
    cases ev
    exact ⟨_, env, u, d, u1, R.at_ (fvE p), e1, fun v F1 H1 P r => k _ H1 _ (R.keep P)⟩⟩
theorem StR.ret {σ : St} {H F : Hp} {env : Pl.Env} {u : U} (R : StR K au H0 F0 σ H F env u) {is : List Nat} {F1 H1 : Hp} {u1 : U} {v : V} {d : D} {bb : Bool} (P : Post au (thaw env σ is H F) H F1 H1 u1) (r : Rr bb K H F1 H1 v d) : RetR bb K au H0 F0 v F1 H1 d u1 := by
  refine ⟨⟨fun a ha hn => ?_, P.sub, P.urn⟩, r.back fun q hq => ?_⟩
  · have q : ¬ Held env σ is a := fun q => hn (R.held q).2.2
    obtain ⟨e1, e2⟩ := R.ext a ha hn
    obtain ⟨e3, e4⟩ := P.ext a ha (by rw [e1]; exact hn)
    exact ⟨e3.trans e1, e4.trans ((thaw_no q).trans e2)⟩
  · by_cases ha : some q = au
    · exact R.urn.hh q ha.symm
    · rw [(R.ext q ha hq).1]; exact hq
theorem simS_ret (he : Sim X C ff au e p) : SimS X C ff au false (.Return (some e) pos) (.ret p) :=
  ⟨fun H0 F0 => (L2.ps_ret he.pl).imp fun D σ H ⟨F, env, u, o, R, ev, k⟩ => by
    simp only [execS] at ev
    obtain ⟨⟨d, u1⟩, e1, ev⟩ := Option.bind_eq_some_iff.mp ev
    cases ev
    exact ⟨_, env, u, d, u1, R.at_ (fvE p), e1, fun v F1 H1 P r => k v F1 H1 (R.ret P r)⟩⟩
theorem simS_retN : SimS X C ff au false (.Return none pos) (.ret (.lit .none)) :=
  ⟨fun H0 F0 => L2.ps_retN.imp fun D σ H ⟨F, env, u, o, R, ev, k⟩ => by
    simp only [execS, evalE, litV, Option.bind_some, Option.some.injEq] at ev
    subst ev
    exact k _ _ H (R.ret (is := []) (R.at_ []).post Dp.non)⟩
theorem retF_core {D : Ends} {σ : St} {H : Hp} (hv : ∀ i, p ≠ .var i) (h : wpS true C ff K au H0 F0 (.retF p) D σ H) : wpE (fk ff p) K C au p σ H fun v H1 => D.rt v H1 := by
  obtain ⟨F, env, u, o, R, ev, k⟩ := h
  simp only [execS] at ev
  obtain ⟨⟨d, u1⟩, e1, ev⟩ := Option.bind_eq_some_iff.mp ev
  split at ev <;> first | contradiction | skip
  rename_i hz
  cases ev
  refine ⟨_, env, u, d, u1, R.at_ (fvE p), e1, fun v F1 H1 P r => ?_⟩
  by_cases hk : fk ff p = true
  · rw [hk] at r
    exact k v F1 H1 (R.ret P r)
  · have hk' : fk ff p = false := by simpa using hk
    rw [hk'] at r hz
    refine k v F1 H1 (R.ret P (.of r ?_))
    have hw : ownVar env p = false := by
      unfold ownVar
      split
      · rename_i i; exact absurd rfl (hv i)
      · rfl
    rw [hw] at hz
    cases d <;> simp [noList, isL] at hz ⊢
theorem simS_retF (hv : ∀ i, p ≠ .var i) (he : Sim X C ff au e p) : SimS X C ff au true (.Return (some e) pos) (.retF p) :=
  ⟨fun H0 F0 => (L2.ps_ret he.raw).imp fun D σ H q => retF_core hv q⟩
/-- one's own list is handed back -/
theorem simS_retFV {i : Nat} (he : PE X e (L2.tVar i)) : SimS X C ff au true (.Return (some e) pos) (.retF (.var i)) :=
  ⟨fun H0 F0 => (L2.ps_ret he).imp fun D σ H ⟨F, env, u, o, R, ev, k⟩ => by
    simp only [execS, evalE] at ev
    obtain ⟨⟨d, u1⟩, e1, ev⟩ := Option.bind_eq_some_iff.mp ev
    obtain ⟨d', e2, e1⟩ := Option.bind_eq_some_iff.mp e1
    cases e1
    split at ev <;> first | contradiction | skip
    rename_i hz
    cases ev
    unfold getV at e2
    split at e2 <;> first | contradiction | skip
    · rename_i d0 hi
      cases e2
      obtain ⟨v, h1, h2⟩ := R.imm i _ hi
      refine ⟨v, h1, k v F H ⟨⟨R.ext, R.sub, R.urn⟩, Rr.of h2 ?_⟩⟩
      have hw : ownVar env (.var i) = false := by unfold ownVar; simp [hi]
      rw [hw] at hz
      simp only [fk, Bool.false_or] at hz
      cases d <;> simp [noList, isL] at hz ⊢
    · rename_i ds hi
      cases e2
      obtain ⟨q, vs, h1, h3, h4, h5, h6⟩ := R.own i ds hi
      exact ⟨_, h1, k _ F H ⟨⟨R.ext, R.sub, R.urn⟩, q, vs, rfl, h5, h4, h3, h6⟩⟩⟩
end
end Pl

/-! PSound8: the other statements. -/
namespace Pl
open PySem
open L2 (V Hp HO St VK TE TT TA TS TI TG TGs Cx PE PT PW PA PS PSs PI PG PGs Inv SqL SqT upd upd_same upd_ne OpR UnR CallR R2 Vals RelV EP Gl Vis It Ends)

section
variable {K : PySem.W.Frag} {au : Option Addr} {H0 F0 : Hp} {σ : St} {H F H1 F1 : Hp} {env : Env} {u u1 : U} {is : List Nat}
/-- one's own list is changed -/
theorem StR.mut (R : StR K au H0 F0 σ H F env u) {i : Nat} {ds ds' : List D} {p : Addr} {vs' : List V} (hi : env[i]? = some (Slot.own ds)) (hp : σ[i]? = some (some (V.ref p))) (hd : DpAll K F vs' ds') :
    StR K au H0 F0 σ (upd H p (.lst vs')) F (env.set i (.own ds')) u := by
  obtain ⟨q, vs, e1, e2, e3, e4, e5⟩ := R.own i ds hi
  rw [hp] at e1
  cases e1
  have hl : i < env.length := (List.getElem?_eq_some_iff.mp hi).1
  have get : ∀ (j : Nat) t, (env.set i (.own ds'))[j]? = some t → (j = i ∧ t = .own ds') ∨ (j ≠ i ∧ env[j]? = some t) := fun j t hj => by
    by_cases e : i = j
    · subst e
      rw [List.getElem?_set_self hl] at hj
      exact .inl ⟨rfl, (Option.some.inj hj).symm⟩
    · rw [List.getElem?_set_ne e] at hj
      exact .inr ⟨fun q => e q.symm, hj⟩
  have back : ∀ (j : Nat) es, (env.set i (.own ds'))[j]? = some (Slot.own es) → ∃ es', env[j]? = some (Slot.own es') := fun j es hj => by
    rcases get j _ hj with ⟨rfl, _⟩ | ⟨_, h⟩
    · exact ⟨_, hi⟩
    · exact ⟨_, h⟩
  refine ⟨fun a o h => ?_, fun a ha => ⟨?_, (R.urn a ha).2⟩, R.s0, by rw [List.length_set]; exact R.len, fun a ha hn => ?_, R.u0, fun j d hj => ?_, fun j es hj => ?_, fun j k es es' q h1 h2 h3 h4 => ?_⟩
  · rw [upd_ne fun (z : a = p) => by rw [z, e3] at h; cases h]
    exact R.sub a o h
  · rw [upd_ne fun (z : a = p) => R.u0 a ha (by rw [z]; exact e4)]
    exact (R.urn a ha).1
  · rw [upd_ne fun (z : a = p) => hn (by rw [z]; exact e4)]
    exact R.ext a ha hn
  · rcases get j _ hj with ⟨_, h⟩ | ⟨_, h⟩
    · cases h
    · exact R.imm j d h
  · rcases get j _ hj with ⟨rfl, h⟩ | ⟨ne, h⟩
    · cases h
      exact ⟨p, vs', hp, upd_same, e3, e4, hd⟩
    · obtain ⟨q, ws, g1, g2, g3⟩ := R.own j es h
      exact ⟨q, ws, g1, by rw [upd_ne fun (z : q = p) => ne (R.dis j i es ds p h hi (by rw [g1, z]) hp)]; exact g2, g3⟩
  · obtain ⟨es1, h1⟩ := back j _ h1
    obtain ⟨es2, h2⟩ := back k _ h2
    exact R.dis j k es1 es2 q h1 h2 h3 h4
/-- the lent list is changed -/
theorem StR.urnSet (R : StR K au H0 F0 σ H F env u) {a : Addr} (ha : au = some a) (u' : U) : StR K au H0 F0 σ (upd H a (.lst (u'.map V.int))) F env u' := by
  refine ⟨fun b o h => ?_, fun b hb => ?_, R.s0, R.len, fun b hb hn => ?_, R.u0, R.imm, fun j es hj => ?_, R.dis⟩
  · rw [upd_ne fun (z : b = a) => by rw [z, (R.urn a ha).2] at h; cases h]
    exact R.sub b o h
  · rw [ha] at hb; cases hb
    exact ⟨upd_same, (R.urn a ha).2⟩
  · rw [upd_ne fun (z : b = a) => hb (by rw [z, ha])]
    exact R.ext b hb hn
  · obtain ⟨q, ws, g1, g2, g3, g4, g5⟩ := R.own j es hj
    exact ⟨q, ws, g1, by rw [upd_ne fun (z : q = a) => R.u0 a ha (by rw [← z]; exact g4)]; exact g2, g3, g4, g5⟩
/-- behind an expression whose value is taken in -/
theorem StR.aft (R : StR K au H0 F0 σ H F env u) (P : Post au (thaw env σ is H F) H F1 H1 u1) {v : V} {d : D} (h : Dp K F1 v d) :
    ∃ F', StR K au H0 F0 σ H1 F' (if noList d then env else freeze env is) u1 ∧ Dp K F' v d := by
  by_cases hn : noList d = true
  · rw [if_pos hn]; exact ⟨_, R.keep P, R.keepV P h hn⟩
  · rw [if_neg hn]; exact ⟨_, R.frz P, h⟩
theorem thaw_nil : thaw env σ [] H F = F := by
  funext a
  exact thaw_no fun ⟨_, h, _⟩ => by cases h
theorem hide_nil : hide env σ [] F = F := by
  funext a
  exact hide_no fun ⟨_, h, _⟩ => by cases h
theorem StR.step (R : StR K au H0 F0 σ H F env u) (P : Post au F H F1 H1 u1) : StR K au H0 F0 σ H1 F1 env u1 := by
  have h := R.keep (is := []) (by rw [thaw_nil]; exact P)
  rw [hide_nil] at h
  exact h
theorem own_of_after {env : Env} {d : D} {is : List Nat} {i : Nat} {ds : List D} (h : (if noList d then env else freeze env is)[i]? = some (Slot.own ds)) : env[i]? = some (Slot.own ds) := by
  split at h
  · exact h
  · rw [freeze_get] at h
    split at h
    · cases q : env[i]? with
      | none => rw [q] at h; cases h
      | some s => rw [q] at h; cases s <;> cases h
    · exact h

/-! ### what has come to stand still, for a loop -/
def base (H0 F1 : Hp) : Hp := fun a => match F1 a with | some o => some o | none => H0 a
theorem base_some {H0 F1 : Hp} {a : Addr} {o : HO} (h : F1 a = some o) : base H0 F1 a = some o := by unfold base; rw [h]
theorem base_none {H0 F1 : Hp} {a : Addr} (h : F1 a = none) : base H0 F1 a = H0 a := by unfold base; rw [h]
theorem base_ne {H0 F1 : Hp} {a : Addr} (h : H0 a ≠ none) : base H0 F1 a ≠ none := by
  cases q : F1 a with
  | none => rw [base_none q]; exact h
  | some o => rw [base_some q]; exact fun z => nomatch z
theorem StR.rebase (R : StR K au H0 F0 σ H F env u) : StR K au (base H0 F) F σ H F env u := by
  refine ⟨R.sub, R.urn, R.s0, R.len, fun a ha hn => ⟨?_, rfl⟩, fun a ha => base_ne (R.u0 a ha), R.imm, fun i ds hi => ?_, R.dis⟩
  · cases q : F a with
    | some o => rw [base_some q]; exact R.sub a o q
    | none => rw [base_none q] at hn ⊢; exact (R.ext a ha hn).1
  · obtain ⟨p, vs, h1, h2, h3, h4, h5⟩ := R.own i ds hi
    exact ⟨p, vs, h1, h2, h3, (base_none h3).trans h4, h5⟩
theorem ext_unbase {F2 H2 : Hp} (s : Sub F H) (hu : ∀ a, au = some a → F a = none) (e0 : Ext au F0 H0 F H) (e : Ext au F (base H0 F) F2 H2) : Ext au F0 H0 F2 H2 := fun a ha hn => by
  obtain ⟨h1, h2⟩ := e a ha (base_ne hn)
  obtain ⟨h3, h4⟩ := e0 a ha hn
  refine ⟨h1.trans ?_, h2.trans h4⟩
  cases q : F a with
  | none => rw [base_none q]
  | some o => rw [base_some q, ← h3, s a o q]
theorem StR.unbase {σ2 : St} {H2 F2 : Hp} {env2 : Env} {u2 : U} (R0 : StR K au H0 F0 σ H F env u) (R : StR K au (base H0 F) F σ2 H2 F2 env2 u2) : StR K au H0 F0 σ2 H2 F2 env2 u2 := by
  refine ⟨R.sub, R.urn, R.s0, R.len, ext_unbase R0.sub R0.urn.hu R0.ext R.ext, R0.u0, R.imm, fun i ds hi => ?_, R.dis⟩
  obtain ⟨p, vs, h1, h2, h3, h4, h5⟩ := R.own i ds hi
  refine ⟨p, vs, h1, h2, h3, ?_, h5⟩
  cases q : F p with
  | none => rw [base_none q] at h4; exact h4
  | some o => rw [base_some q] at h4; cases h4
theorem RetR.unbase {fr : Bool} {v : V} {F2 H2 : Hp} {d : D} {u2 : U} (R0 : StR K au H0 F0 σ H F env u) (r : RetR fr K au (base H0 F) F v F2 H2 d u2) : RetR fr K au H0 F0 v F2 H2 d u2 :=
  ⟨⟨ext_unbase R0.sub R0.urn.hu R0.ext r.1.ext, r.1.sub, r.1.urn⟩, r.2.back fun q hq => base_ne hq⟩
theorem StR.subBase {σ2 : St} {H2 F2 : Hp} {env2 : Env} {u2 : U} (R0 : StR K au H0 F0 σ H F env u) (R : StR K au (base H0 F) F σ2 H2 F2 env2 u2) : Sub F F2 := fun a o h => by
  have ha : some a ≠ au := fun e => by rw [R0.urn.hu a e.symm] at h; cases h
  rw [(R.ext a ha (by rw [base_some h]; exact fun z => nomatch z)).2]
  exact h
theorem StR.putMany : ∀ {is : List Nat} {ds : List D} {vs : List V} {σ : St} {env env' : Env}, StR K au H0 F0 σ H F env u → DpAll K F vs ds → bindMany is ds env = some env' → (au.isSome = true → 0 ∉ is) → StR K au H0 F0 (Pl.setMany is vs σ) H F env' u
  | [], [], _, σ, env, env', R, .nil, h, _ => by simp only [bindMany, Option.some.injEq] at h; subst h; exact R
  | [], _ :: _, _, σ, env, env', R, _, h, _ => by simp [bindMany] at h
  | _ :: _, [], _, σ, env, env', R, _, h, _ => by simp [bindMany] at h
  | i :: is, d :: ds, _, σ, env, env', R, .cons r rs, h, h0 => by
    simp only [bindMany] at h
    exact StR.putMany (is := is) (σ := σ.set i (some _)) (R.put (s := .imm d) r fun z e => h0 z (by rw [e]; exact List.mem_cons_self)) rs h fun z hm => h0 z (List.mem_cons_of_mem _ hm)
theorem StR.bind {t : Tg} {v : V} {d : D} {env' : Env} (R : StR K au H0 F0 σ H F env u) (r : Dp K F v d) (h : bindT t d env = some env') (h0 : au.isSome = true → 0 ∉ tgIx t) {Q : St → Hp → Prop}
    (q : ∀ σ', StR K au H0 F0 σ' H F env' u → Q σ' H) : wpG K t v σ H Q := by
  cases t with
  | one i =>
    simp only [bindT, Option.some.injEq] at h
    subst h
    exact q _ (R.put (s := .imm d) r fun z e => h0 z (by rw [e]; exact List.mem_singleton.mpr rfl))
  | many is =>
    cases d <;> simp only [bindT] at h <;> first | contradiction | skip
    obtain ⟨a, xs, rfl, h1, h2⟩ := dp_tuple r
    exact ⟨a, xs, rfl, sqT_sub R.sub h1, by rw [dpAll_len h2, bindMany_len h], q _ (R.putMany h2 h h0)⟩
end

section
variable {X : Cx} {C : Ctx} {ff : String → Bool} {au : Option Addr} {fr : Bool} {e a b c : Expr} {es : List Expr} {p pa pb pc : E} {ps : Es} {pos : Pos} {x : Str} {pos2 : Pos} {K : PySem.W.Frag} {H0 F0 : Hp} {st : Stmt} {sts sts2 : List Stmt} {s : S} {ss ss2 : Ss}

/-! ### comprehensions -/
theorem sim_comp {elt tg iter : Expr} {ifs : List Expr} {scope : Scope} {own : List (Str × Nat)} {t : Tg} {it : I} {cond : Eo} {pe : E} (hc : X.calm = true) (hN : X.N.Nodup) (hi : SimI X C au tg iter it) (ok : L2.BlkOk X.N X.env.scope scope own)
    (hg : ∀ (s : Shared) (H : Hp) (Ca : Addr) (cl : List (Str × Addr)) (fp : List Addr), SimG (X.blk s H scope (compEnvC scope cl Ca X.env) fp) tg t)
    (ht : ∀ (s : Shared) (H : Hp) (Ca : Addr) (cl : List (Str × Addr)) (fp : List Addr), SimC (X.blk s H scope (compEnvC scope cl Ca X.env) fp) C au ifs cond)
    (he : ∀ (s : Shared) (H : Hp) (Ca : Addr) (cl : List (Str × Addr)) (fp : List Addr), Sim (X.blk s H scope (compEnvC scope cl Ca X.env) fp) C ff au elt pe)
    (h0 : au.isSome = true → 0 ∉ own.map (·.2) ∧ 0 ∉ tgIx t) (hsub : ∀ i ∈ tgIx t, i ∈ own.map (·.2)) (hs : ∀ x, foldedSetIterable iter X.env x = pure x) :
    Sim X C ff au (.ListComp elt [⟨tg, iter, ifs, 0⟩] scope pos) (.comp pe t it cond (own.map (·.2))) :=
  ⟨L2.PE.imp (L2.pe_lc hc hN hi.t ok (fun s H Ca cl fp => (hg s H Ca cl fp).t) (fun s H Ca cl fp => (ht s H Ca cl fp).t) (fun s H Ca cl fp => (he s H Ca cl fp).pl) hs) fun σ H Q h => comp_imp h0 hsub h⟩
theorem simS_setLc {i : Nat} {elt tg iter : Expr} {ifs : List Expr} {scope : Scope} {own : List (Str × Nat)} {t : Tg} {it : I} {cond : Eo} {pe : E} {spos : Pos} (hc : X.calm = true) (hN : X.N.Nodup) (hy : X.N[i]? = some x) (hyl : X.env.scope.names.lookup x = some .local)
    (hsw : swapsWith (.ListComp elt [⟨tg, iter, ifs, 0⟩] scope pos) (some (.Name x pos2)) spos.line X.env = pure true) (hi : SimI X C au tg iter it) (ok : L2.BlkOk X.N X.env.scope scope own)
    (hg : ∀ (s : Shared) (H : Hp) (Ca : Addr) (cl : List (Str × Addr)) (fp : List Addr), SimG (X.blk s H scope (compEnvC scope cl Ca X.env) fp) tg t)
    (ht : ∀ (s : Shared) (H : Hp) (Ca : Addr) (cl : List (Str × Addr)) (fp : List Addr), SimC (X.blk s H scope (compEnvC scope cl Ca X.env) fp) C au ifs cond)
    (he : ∀ (s : Shared) (H : Hp) (Ca : Addr) (cl : List (Str × Addr)) (fp : List Addr), Sim (X.blk s H scope (compEnvC scope cl Ca X.env) fp) C ff au elt pe)
    (h0 : au.isSome = true → 0 ∉ own.map (·.2) ∧ 0 ∉ tgIx t) (h00 : au.isSome = true → i ≠ 0) (hsub : ∀ i ∈ tgIx t, i ∈ own.map (·.2)) (hs : ∀ x, foldedSetIterable iter X.env x = pure x) :
    SimS X C ff au fr (.Assign [.Name x pos2] (.ListComp elt [⟨tg, iter, ifs, 0⟩] scope pos) spos) (.set i (.comp pe t it cond (own.map (·.2)))) :=
  ⟨fun H0 F0 => (L2.ps_setLc hc hN hy hyl hsw hi.t ok (fun s H Ca cl fp => (hg s H Ca cl fp).t) (fun s H Ca cl fp => (ht s H Ca cl fp).t) (fun s H Ca cl fp => (he s H Ca cl fp).pl) hs).imp fun D σ H q =>
    comp_imp h0 hsub (set_core h00 q)⟩

/-! ### lists changed -/
theorem simS_setI {i : Nat} {o k : Expr} {pk : E} (he : Sim X C ff au e p) (ho : PE X o (L2.tVar i)) (hk : Sim X C ff au k pk)
    (h : ∀ {te ti : TE}, PE X e te → PE X k ti → PS X (.Assign [.Subscript o k pos2] e pos) (L2.tAsg te (L2.gSub (L2.tVar i) ti L2.rSetL))) :
    SimS X C ff au fr (.Assign [.Subscript o k pos2] e pos) (.setI i pk p) := ⟨fun H0 F0 => (h he.pl hk.pl).imp fun D σ H ⟨F, env, u, oo, R, ev, kk⟩ => by
  simp only [execS] at ev
  obtain ⟨⟨d, u1⟩, e1, ev⟩ := Option.bind_eq_some_iff.mp ev
  split at ev <;> first | contradiction | skip
  rename_i hn
  obtain ⟨⟨dk, u2⟩, e2, ev⟩ := Option.bind_eq_some_iff.mp ev
  split at ev <;> first | contradiction | skip
  rename_i ds n hi hdk
  simp only at hdk
  subst hdk
  obtain ⟨j, ej, ev⟩ := Option.bind_eq_some_iff.mp ev
  cases ev
  refine ⟨_, env, u, d, u1, R.at_ (fvE p), e1, fun v F1 H1 P1 r1 => ?_⟩
  have R1 := R.keep P1
  have d1 := R.keepV P1 r1 hn
  obtain ⟨q, vs, g1, g2, g3, g4, g5⟩ := R1.own i ds hi
  refine ⟨_, g1, _, env, u1, .int n, u2, R1.at_ (fvE pk), e2, fun v2 F2 H2 P2 r2 => ?_⟩
  have R2 := R1.keep P2
  have d2 := dp_sub (R1.subH P2) _ _ d1
  obtain ⟨q2, vs2, k1, k2, k3, k4, k5⟩ := R2.own i ds hi
  rw [g1] at k1
  cases k1
  refine ⟨q, vs2, n, j, rfl, dp_int r2, k2, ?_, kk _ _ _ (R2.mut hi g1 (dpAll_set j k5 d2))⟩
  rw [dpAll_len k5]
  exact ej⟩
theorem simS_setU {o k : Expr} {pk : E} (hau : au.isSome = true) (he : Sim X C ff au e p) (ho : PE X o (L2.tVar 0)) (hk : Sim X C ff au k pk)
    (h : ∀ {te ti : TE}, PE X e te → PE X k ti → PS X (.Assign [.Subscript o k pos2] e pos) (L2.tAsg te (L2.gSub (L2.tVar 0) ti L2.rSetL))) :
    SimS X C ff au fr (.Assign [.Subscript o k pos2] e pos) (.setU pk p) := ⟨fun H0 F0 => (h he.pl hk.pl).imp fun D σ H ⟨F, env, u, oo, R, ev, kk⟩ => by
  simp only [execS] at ev
  obtain ⟨⟨d, u1⟩, e1, ev⟩ := Option.bind_eq_some_iff.mp ev
  split at ev <;> first | contradiction | skip
  rename_i z hz
  simp only at hz
  subst hz
  obtain ⟨⟨dk, u2⟩, e2, ev⟩ := Option.bind_eq_some_iff.mp ev
  split at ev <;> first | contradiction | skip
  rename_i n hdk
  simp only at hdk
  subst hdk
  obtain ⟨j, ej, ev⟩ := Option.bind_eq_some_iff.mp ev
  cases ev
  obtain ⟨a, ha⟩ := Option.isSome_iff_exists.mp hau
  refine ⟨_, env, u, _, u1, R.at_ (fvE p), e1, fun v F1 H1 P1 r1 => ?_⟩
  have R1 := R.keep P1
  obtain rfl := dp_int r1
  refine ⟨_, R.s0 a ha, _, env, u1, .int n, u2, R1.at_ (fvE pk), e2, fun v2 F2 H2 P2 r2 => ?_⟩
  have R2 := R1.keep P2
  refine ⟨a, u2.map V.int, n, j, rfl, dp_int r2, (R2.urn a ha).1, ?_, ?_⟩
  · rw [List.length_map]; exact ej
  · have h := R2.urnSet ha (u2.set j z)
    rw [List.map_set] at h
    exact kk _ _ _ h⟩
theorem simS_app {i : Nat} (he : Sim X C ff au e p)
    (h : ∀ {te : TE}, PE X e te → PS X st (L2.tDrop (L2.tBM X.K "list" L2.rAppend (L2.tVar i) (L2.tCons te L2.tNil)))) : SimS X C ff au fr st (.app i p) :=
  ⟨fun H0 F0 => (h he.pl).imp fun D σ H ⟨F, env, u, oo, R, ev, kk⟩ => by
    simp only [execS] at ev
    obtain ⟨⟨d, u1⟩, e1, ev⟩ := Option.bind_eq_some_iff.mp ev
    simp only at ev
    split at ev <;> first | contradiction | skip
    rename_i ds hi
    split at ev <;> first | contradiction | skip
    rename_i hz
    cases ev
    have hi0 := own_of_after hi
    obtain ⟨q, vs, g1, g2, g3, g4, g5⟩ := R.own i ds hi0
    refine ⟨_, g1, .inl ⟨rfl, _, L2.SqL.of g2⟩, _, env, u, d, u1, R.at_ (fvE p), e1, fun v F1 H1 P1 r1 => ?_⟩
    obtain ⟨F2, R2, d2⟩ := R.aft P1 r1
    obtain ⟨q2, vs2, k1, k2, k3, k4, k5⟩ := R2.own i ds hi
    rw [g1] at k1
    cases k1
    exact ⟨q, vs2, v, rfl, rfl, k2, by rw [dpAll_len k5]; exact sizeLt_of hz, kk _ _ _ (R2.mut hi g1 (dpAll_append k5 (.cons d2 .nil)))⟩⟩
def rIns : V → List V → Hp → VK → Prop := fun x vs H Q => ∃ (l : Addr) (xs : List V) (i : Int) (y : V), x = .ref l ∧ vs = [.int i, y] ∧ H l = some (.lst xs) ∧ xs.length < sizeLine ∧ 0 ≤ i ∧ i < 2 ^ 63 ∧
    Q .non (upd H l (.lst (xs.take i.toNat ++ [y] ++ xs.drop i.toNat)))
theorem simS_ins {i : Nat} {k : Expr} {pk : E} (hk : Sim X C ff au k pk) (he : Sim X C ff au e p)
    (h : ∀ {ti te : TE}, PE X k ti → PE X e te → PS X st (L2.tDrop (L2.tBM X.K "list" rIns (L2.tVar i) (L2.tCons ti (L2.tCons te L2.tNil))))) : SimS X C ff au fr st (.ins i pk p) :=
  ⟨fun H0 F0 => (h hk.pl he.pl).imp fun D σ H ⟨F, env, u, oo, R, ev, kk⟩ => by
    simp only [execS] at ev
    obtain ⟨⟨dk, u1⟩, e1, ev⟩ := Option.bind_eq_some_iff.mp ev
    obtain ⟨⟨d, u2⟩, e2, ev⟩ := Option.bind_eq_some_iff.mp ev
    split at ev <;> first | contradiction | skip
    rename_i hn
    dsimp only at ev hn
    split at ev <;> first | contradiction | skip
    rename_i ds n hi hdk
    split at ev <;> first | contradiction | skip
    rename_i hz
    cases ev
    simp only [Bool.and_eq_true, decide_eq_true_eq] at hz
    obtain ⟨⟨z0, z1⟩, z2⟩ := hz
    obtain ⟨q, vs, g1, g2, g3, g4, g5⟩ := R.own i ds hi
    refine ⟨_, g1, .inl ⟨rfl, _, L2.SqL.of g2⟩, _, env, u, .int n, u1, R.at_ (fvE pk), e1, fun v F1 H1 P1 r1 => ?_⟩
    have R1 := R.keep P1
    refine ⟨_, env, u1, d, u2, R1.at_ (fvE p), e2, fun v2 F2 H2 P2 r2 => ?_⟩
    have R2 := R1.keep P2
    have d2 := R1.keepV P2 r2 hn
    obtain ⟨q2, vs2, k1, k2, k3, k4, k5⟩ := R2.own i ds hi
    rw [g1] at k1
    cases k1
    have hlen : ds.length ≤ 100000 := of_decide_eq_true z2
    have e3 : ds.take n.toNat ++ d :: ds.drop n.toNat = ds.take n.toNat ++ [d] ++ ds.drop n.toNat := by simp
    refine ⟨q, vs2, n, v2, rfl, by rw [dp_int r1], k2, by rw [dpAll_len k5]; exact sizeLt_of z2, z0, by omega, ?_⟩
    rw [show vs2.take n.toNat ++ [v2] ++ vs2.drop n.toNat = vs2.take n.toNat ++ v2 :: vs2.drop n.toNat by simp]
    exact kk _ _ _ (R2.mut hi g1 (dpAll_append (dpAll_take n.toNat k5) (.cons d2 (dpAll_drop n.toNat k5))))⟩
theorem simS_pop {i : Nat} (h : PS X st (L2.tDrop (L2.tBM0 X.K "list" L2.rPop (L2.tVar i)))) : SimS X C ff au fr st (.pop i) :=
  ⟨fun H0 F0 => h.imp fun D σ H ⟨F, env, u, oo, R, ev, kk⟩ => by
    simp only [execS] at ev
    split at ev <;> first | contradiction | skip
    rename_i ds hi
    split at ev <;> first | contradiction | skip
    rename_i hz
    cases ev
    obtain ⟨q, vs, g1, g2, g3, g4, g5⟩ := R.own i ds hi
    have hl := dpAll_len g5
    have hne : vs ≠ [] := fun z => hz (by rw [z] at hl; cases ds with | nil => rfl | cons _ _ => cases hl)
    refine ⟨_, g1, .inl ⟨rfl, _, L2.SqL.of g2⟩, q, vs, vs.getLast hne, rfl, rfl, g2, ?_, kk _ _ _ (R.mut hi g1 (dpAll_dropLast g5))⟩
    rw [← List.getLast?_eq_getElem?, List.getLast?_eq_getLast hne]⟩
end
end Pl

/-! PSound9: statements with parts; several values at once. -/
namespace Pl
open PySem
open L2 (V Hp HO St VK TE TT TA TS TI TG TGs Cx PE PT PW PA PS PSs PI PG PGs Inv SqL SqT upd upd_same upd_ne OpR UnR CallR R2 Vals RelV EP Gl Vis It Ends)

def runN {α β : Type} (step : α → Option (Sum α β)) : Nat → α → Option β
  | 0, _ => none
  | n + 1, a => match step a with
    | none => none
    | some (.inl a') => runN step n a'
    | some (.inr b) => some b
theorem whileO_runN {α β : Type} (step : α → Option (Sum α β)) (a : α) (b : β) (h : whileO step a = some b) : ∃ n, runN step n a = some b := by
  refine whileO.partial_correctness step (fun a b => ∃ n, runN step n a = some b) ?_ a b h
  intro f ih a r e
  split at e
  · cases e
  · rename_i a' q
    obtain ⟨n, hn⟩ := ih a' r e
    exact ⟨n + 1, by unfold runN; rw [q]; exact hn⟩
  · rename_i b' q
    exact ⟨1, by unfold runN; rw [q]; exact e⟩

/-- values of several expressions, new lists still new -/
def RrAll (ff : String → Bool) (K : PySem.W.Frag) (F' H' : Hp) : Hp → Es → List V → List D → Prop
  | _, .nil, [], [] => True
  | H, .cons e es, v :: vs, d :: ds => Rr (fk ff e) K H F' H' v d ∧ ∃ H1, (∀ a, H a ≠ none → H1 a ≠ none) ∧ (fk ff e = true → isL d = true → ∀ p, v = .ref p → H1 p ≠ none) ∧ RrAll ff K F' H' H1 es vs ds
  | _, _, _, _ => False
def wpEsR (ff : String → Bool) (K : PySem.W.Frag) (C : Ctx) (au : Option Addr) (p : Es) : TA := fun σ H Q =>
  ∃ F env u ds u', At K au σ H F env u (fvEs p) ∧ evalEs C p env u = some (ds, u') ∧ ∀ vs F' H', Post au F H F' H' u' → RrAll ff K F' H' H p vs ds → Q vs H'
structure SimAR (X : Cx) (C : Ctx) (ff : String → Bool) (au : Option Addr) (es : List Expr) (p : Es) : Prop where
  t : PA X es (wpEsR ff X.K C au p)

section
variable {X : Cx} {C : Ctx} {ff : String → Bool} {au : Option Addr} {fr : Bool} {e a b c : Expr} {es : List Expr} {p pa pb pc : E} {ps : Es} {pos : Pos} {x y z : Str} {pos2 : Pos} {K : PySem.W.Frag} {H0 F0 : Hp} {st : Stmt} {sts sts2 : List Stmt} {s : S} {ss ss2 : Ss}

theorem simAR_nil : SimAR X C ff au [] .nil := ⟨L2.PA.imp L2.pa_nil fun σ H Q ⟨F, env, u, d, u', A, ev, k⟩ => by
  simp only [evalEs, Option.some.injEq, Prod.mk.injEq] at ev
  obtain ⟨rfl, rfl⟩ := ev
  exact k [] F H A.post trivial⟩
theorem Rr.on {b : Bool} {au : Option Addr} {F H F' H' F'' H'' : Hp} {v : V} {d : D} {u' u'' : U} (r : Rr b K H F' H' v d) (P1 : Post au F H F' H' u') (P : Post au F' H' F'' H'' u'') (hh : ∀ a, au = some a → H a ≠ none) : Rr b K H F'' H'' v d := by
  have sF : Sub F' F'' := P.ext.sub P1.sub P1.urn.hu
  cases b with
  | false => exact dp_sub sF _ _ r
  | true =>
    cases d with
    | list ds =>
      obtain ⟨a, vs, rfl, h1, h2, h3, h4⟩ := r
      obtain ⟨e1, e2⟩ := P.ext a (fun q => hh a q.symm h1) (by rw [h3]; exact fun q => nomatch q)
      exact ⟨a, vs, rfl, h1, e2.trans h2, e1.trans h3, dpAll_sub sF _ _ h4⟩
    | _ => exact dp_sub sF _ _ r
theorem simAR_cons (ha : Sim X C ff au a pa) (hs : SimAR X C ff au es ps) (hst : starEach (a :: es) X.env = (false, eval a X.env) :: starEach es X.env) : SimAR X C ff au (a :: es) (.cons pa ps) :=
  ⟨L2.PA.imp (L2.pa_cons ha.raw hs.t hst) fun σ H Q ⟨F, env, u, d, u', A, ev, k⟩ => by
    simp only [evalEs] at ev
    obtain ⟨⟨da, u1⟩, e1, ev⟩ := Option.bind_eq_some_iff.mp ev
    obtain ⟨⟨ds, u2⟩, e2, ev⟩ := Option.bind_eq_some_iff.mp ev
    cases ev
    refine ⟨F, env, u, da, u1, A.l, e1, fun v F1 H1 P1 r1 => ?_⟩
    have A1 := A.step P1
    refine ⟨F1, env, u1, ds, u2, A1.r, e2, fun vs F2 H2 P2 r2 => ?_⟩
    refine k _ F2 H2 (P1.trans P2) ⟨r1.on P1 P2 A.urn.hh, H1, fun q hq => P1.grow hq, fun hk hl q hq => ?_, r2⟩
    rw [hk] at r1
    cases da <;> simp [isL] at hl
    obtain ⟨w, vs, rfl, h1, h2, h3, h4⟩ := r1
    cases hq
    rw [h3]
    exact fun z => nomatch z⟩
/-- the slots of several values, stored one by one -/
theorem putAll : ∀ {is : List Nat} {ps : Es} {ds : List D} {vs : List V} {sl : List Slot} {σ : St} {H F Hb : Hp} {env env' : Env} {u : U}, StR K au H0 F0 σ H F env u → RrAll ff K F H Hb ps vs ds → parSlots ff ps ds = some sl → setAll is sl env = some env' →
    (au.isSome = true → 0 ∉ is) → (∀ (j : Nat) ds' q, env[j]? = some (Slot.own ds') → σ[j]? = some (some (V.ref q)) → Hb q ≠ none) → (∀ q, H0 q ≠ none → Hb q ≠ none) → StR K au H0 F0 (Pl.setMany is vs σ) H F env' u
  | [], ps, ds, vs, [], σ, H, F, Hb, env, env', u, R, r, h1, h2, _, _, _ => by
    simp only [setAll, Option.some.injEq] at h2
    subst h2
    exact R
  | [], _, _, _, _ :: _, _, _, _, _, _, _, _, _, _, _, h2, _, _, _ => by simp [setAll] at h2
  | _ :: _, _, _, _, [], _, _, _, _, _, _, _, _, _, _, h2, _, _, _ => by simp [setAll] at h2
  | i :: is, .nil, [], vs, s :: sl, _, _, _, _, _, _, _, _, _, h1, _, _, _, _ => by simp [parSlots] at h1
  | i :: is, .nil, _ :: _, vs, s :: sl, _, _, _, _, _, _, _, _, _, h1, _, _, _, _ => by simp [parSlots] at h1
  | i :: is, .cons _ _, [], vs, s :: sl, _, _, _, _, _, _, _, _, _, h1, _, _, _, _ => by simp [parSlots] at h1
  | i :: is, .cons p ps, d :: ds, [], s :: sl, _, _, _, _, _, _, _, _, r, _, _, _, _, _ => by simp [RrAll] at r
  | i :: is, .cons p ps, d :: ds, v :: vs, s :: sl, σ, H, F, Hb, env, env', u, R, r, h1, h2, h0, hb, hz => by
    simp only [parSlots, Option.map_eq_some_iff] at h1
    obtain ⟨sl', h1, e⟩ := h1
    cases e
    simp only [setAll] at h2
    obtain ⟨r1, H1, g1, g2, r2⟩ := r
    have so : SlotOk K H0 F H env σ i v (slotOf ff p d) := by
      unfold slotOf
      by_cases hk : fk ff p = true
      · rw [if_pos hk]
        rw [hk] at r1
        cases d with
        | list xs =>
          obtain ⟨q, ws, rfl, k1, k2, k3, k4⟩ := r1
          refine ⟨q, ws, rfl, k3, k2, ?_, k4, fun j ds' hj _ e => hb j ds' q hj e k1⟩
          cases z : H0 q with
          | none => rfl
          | some o => exact absurd k1 (hz q (by rw [z]; exact fun z => nomatch z))
        | _ => exact r1
      · rw [if_neg hk]
        have hk' : fk ff p = false := by simpa using hk
        rw [hk'] at r1
        exact r1
    refine putAll (is := is) (R.put so fun q e => h0 q (by rw [e]; exact List.mem_cons_self)) r2 h1 h2 (fun q hm => h0 q (List.mem_cons_of_mem _ hm)) (fun j ds' q hj hq => ?_) fun q hq => g1 q (hz q hq)
    by_cases e : i = j
    · subst e
      by_cases hl : i < env.length
      · rw [List.getElem?_set_self hl] at hj
        rw [List.getElem?_set_self (by rw [← R.len]; exact hl)] at hq
        cases hq
        unfold slotOf at hj
        split at hj <;> first | (cases hj; done) | skip
        rename_i hk
        cases d <;> first | (cases hj; done) | skip
        exact g2 hk rfl q rfl
      · rw [List.getElem?_eq_none (by rw [List.length_set]; omega)] at hj
        cases hj
    · rw [List.getElem?_set_ne e] at hj hq
      exact g1 q (hb j ds' q hj hq)
theorem rrAll_noList {F F' H' Hb : Hp} (hT : ∀ a xs, SqT K F' a xs → SqT K F a xs) (hn : ∀ a, F' a = none → F a = none) : ∀ {ps : Es} {vs : List V} {ds : List D} {Hb : Hp}, parWithin ff ps ds = true → RrAll ff K F' H' Hb ps vs ds → RrAll ff K F H' Hb ps vs ds
  | .nil, [], [], _, _, _ => trivial
  | .nil, [], _ :: _, _, _, r => r
  | .nil, _ :: _, [], _, _, r => r
  | .nil, _ :: _, _ :: _, _, _, r => r
  | .cons _ _, [], [], _, _, r => r
  | .cons _ _, [], _ :: _, _, _, r => r
  | .cons _ _, _ :: _, [], _, _, r => r
  | .cons p ps, v :: vs, d :: ds, Hb, h, ⟨r, H1, g1, g2, r2⟩ => by
    simp only [parWithin, Bool.and_eq_true] at h
    refine ⟨?_, H1, g1, g2, rrAll_noList (Hb := Hb) hT hn h.2 r2⟩
    have hw := h.1
    unfold within at hw
    by_cases hk : fk ff p = true
    · rw [if_pos hk] at hw
      rw [hk] at r ⊢
      cases d with
      | list xs =>
        obtain ⟨q, ws, rfl, k1, k2, k3, k4⟩ := r
        exact ⟨q, ws, rfl, k1, hn _ k2, k3, dpAll_noList hT _ _ hw k4⟩
      | _ => exact dp_noList hT _ _ hw r
    · rw [if_neg hk] at hw
      have hk' : fk ff p = false := by simpa using hk
      rw [hk'] at r ⊢
      exact dp_noList hT _ _ hw r
theorem par_core {is : List Nat} {D : Ends} {σ : St} {H : Hp} (h0 : au.isSome = true → 0 ∉ is) (h : wpS fr C ff K au H0 F0 (.par is ps) D σ H) : wpEsR ff K C au ps σ H fun vs H1 => D.nx (Pl.setMany is vs σ) H1 := by
  obtain ⟨F, env, u, o, R, ev, k⟩ := h
  simp only [execS] at ev
  obtain ⟨⟨ds, u1⟩, e1, ev⟩ := Option.bind_eq_some_iff.mp ev
  obtain ⟨sl, e2, ev⟩ := Option.bind_eq_some_iff.mp ev
  obtain ⟨env', e3, ev⟩ := Option.bind_eq_some_iff.mp ev
  cases ev
  refine ⟨_, env, u, ds, u1, R.at_ (fvEs ps), e1, fun vs F1 H1 P r => ?_⟩
  have hH : ∀ q, H0 q ≠ none → H q ≠ none := fun q hq => by
    by_cases e : some q = au
    · exact R.urn.hh q e.symm
    · rw [(R.ext q e hq).1]; exact hq
  have hO : ∀ (env2 : Env), (∀ (j : Nat) ds', env2[j]? = some (Slot.own ds') → env[j]? = some (Slot.own ds')) → ∀ (j : Nat) ds' q, env2[j]? = some (Slot.own ds') → σ[j]? = some (some (V.ref q)) → H q ≠ none := fun env2 he j ds' q hj hq => by
    obtain ⟨q2, vs2, g1, g2, _⟩ := R.own j ds' (he j ds' hj)
    rw [hq] at g1
    cases g1
    rw [g2]; exact fun z => nomatch z
  by_cases hw : parWithin ff ps ds = true
  · rw [if_pos hw] at e3
    refine k _ _ _ (putAll (R.keep P) (rrAll_noList (H' := H1) (Hb := H) (fun _ _ q => R.noHeld P q) (fun a q => ?_) hw r) e2 e3 h0 (hO env fun _ _ h => h) hH)
    by_cases z : Held env σ (fvEs ps) a
    · exact hide_yes z
    · rw [hide_no z]; exact q
  · rw [if_neg hw] at e3
    refine k _ _ _ (putAll (R.frz P) r e2 e3 h0 (hO _ fun j ds' h => ?_) hH)
    rw [freeze_get] at h
    split at h
    · cases q : env[j]? with
      | none => rw [q] at h; cases h
      | some s => rw [q] at h; cases s <;> cases h
    · exact h
theorem simS_par2 {i j : Nat} (hs : SimAR X C ff au es ps) (h : PA X es (wpEsR ff X.K C au ps) → PS X st (L2.tPar i j (wpEsR ff X.K C au ps))) (hl : ∀ (vs : List V) (ds : List D) (F' H' Hb : Hp), RrAll ff X.K F' H' Hb ps vs ds → ∃ v w, vs = [v, w])
    (h0 : au.isSome = true → 0 ∉ [i, j]) : SimS X C ff au fr st (.par [i, j] ps) := ⟨fun H0 F0 => (h hs.t).imp fun D σ H q => by
  obtain ⟨F, env, u, ds, u', A, ev, k⟩ := par_core h0 q
  refine ⟨F, env, u, ds, u', A, ev, fun vs F' H' P r => ?_⟩
  obtain ⟨v, w, rfl⟩ := hl _ _ _ _ _ r
  exact ⟨v, w, rfl, k _ F' H' P r⟩⟩
theorem simS_par3 {i j l : Nat} (hs : SimAR X C ff au es ps) (h : PA X es (wpEsR ff X.K C au ps) → PS X st (L2.tPar3 i j l (wpEsR ff X.K C au ps))) (hl : ∀ (vs : List V) (ds : List D) (F' H' Hb : Hp), RrAll ff X.K F' H' Hb ps vs ds → ∃ u v w, vs = [u, v, w])
    (h0 : au.isSome = true → 0 ∉ [i, j, l]) : SimS X C ff au fr st (.par [i, j, l] ps) := ⟨fun H0 F0 => (h hs.t).imp fun D σ H q => by
  obtain ⟨F, env, u, ds, u', A, ev, k⟩ := par_core h0 q
  refine ⟨F, env, u, ds, u', A, ev, fun vs F' H' P r => ?_⟩
  obtain ⟨z, v, w, rfl⟩ := hl _ _ _ _ _ r
  exact ⟨z, v, w, rfl, k _ F' H' P r⟩⟩
theorem rrAll_cons {p : E} {vs : List V} {ds : List D} {F' H' Hb : Hp} (r : RrAll ff K F' H' Hb (.cons p ps) vs ds) : ∃ v ws es H1, vs = v :: ws ∧ RrAll ff K F' H' H1 ps ws es := by
  cases vs with
  | nil => cases ds <;> exact False.elim r
  | cons v ws =>
    cases ds with
    | nil => exact False.elim r
    | cons d es =>
      obtain ⟨_, H1, _, _, r2⟩ := r
      exact ⟨v, ws, es, H1, rfl, r2⟩
theorem rrAll_nil {vs : List V} {ds : List D} {F' H' Hb : Hp} (r : RrAll ff K F' H' Hb .nil vs ds) : vs = [] := by
  cases vs with
  | nil => rfl
  | cons v ws => cases ds <;> exact False.elim r
theorem rrAll_2 {pa pb : E} {vs : List V} {ds : List D} {F' H' Hb : Hp} (r : RrAll ff K F' H' Hb (.cons pa (.cons pb .nil)) vs ds) : ∃ v w, vs = [v, w] := by
  obtain ⟨v, ws, es, H1, rfl, r1⟩ := rrAll_cons r
  obtain ⟨w, ws, es, H2, rfl, r2⟩ := rrAll_cons r1
  rw [rrAll_nil r2]
  exact ⟨v, w, rfl⟩
theorem rrAll_3 {pa pb pc : E} {vs : List V} {ds : List D} {F' H' Hb : Hp} (r : RrAll ff K F' H' Hb (.cons pa (.cons pb (.cons pc .nil))) vs ds) : ∃ u v w, vs = [u, v, w] := by
  obtain ⟨v, ws, es, H1, rfl, r1⟩ := rrAll_cons r
  obtain ⟨w, ws, es, H2, rfl, r2⟩ := rrAll_cons r1
  obtain ⟨x, ws, es, H3, rfl, r3⟩ := rrAll_cons r2
  rw [rrAll_nil r3]
  exact ⟨v, w, x, rfl⟩

/-! ### if, while, for -/
theorem simS_ite {sta stb : List Stmt} {sa sb : Ss} (hc : SimT X C au c pc) (ha : SimSs X C ff au fr sta sa) (hb : SimSs X C ff au fr stb sb) : SimS X C ff au fr (.If c sta stb pos) (.ite pc sa sb) :=
  ⟨fun H0 F0 => (L2.ps_if hc.t (ha.t H0 F0) (hb.t H0 F0)).imp fun D σ H ⟨F, env, u, o, R, ev, k⟩ => by
    simp only [execS] at ev
    obtain ⟨⟨d, u1⟩, e1, ev⟩ := Option.bind_eq_some_iff.mp ev
    cases d <;> simp only at ev <;> first | contradiction | skip
    rename_i q
    refine ⟨_, env, u, q, u1, R.at_ (fvE pc), e1, fun F1 H1 P => ?_⟩
    have R1 := R.keep P
    cases q with
    | true => exact ⟨_, env, u1, o, R1, ev, k⟩
    | false => exact ⟨_, env, u1, o, R1, ev, k⟩⟩
theorem simS_whil {stb : List Stmt} {sb : Ss} (hp : PassesOwn (model X.prog X.w) X.A X.env X.xe) (hc : SimT X C au c pc) (hb : SimSs X C ff au fr stb sb) : SimS X C ff au fr (.While c stb [] pos) (.whil pc sb) :=
  ⟨fun H0 F0 => (L2.ps_while hp hc.t (hb.t H0 F0)).imp fun D σ H ⟨F, env, u, o, R, ev, k⟩ => by
    simp only [execS] at ev
    obtain ⟨n, ev⟩ := whileO_runN _ _ _ ev
    refine ⟨fun m σ H => ∃ F env u, StR X.K au H0 F0 σ H F env u ∧ runN (fun (q : Env × U) => (evalE C pc q.1 q.2).bind fun rc => match rc with
      | (.bool k, u1) => if k = true then (execSs C ff sb q.1 u1).bind fun o => (match o with
          | .nx env' u' => some (.inl (env', u'))
          | .ct env' u' => some (.inl (env', u'))
          | .bk env' u' => some (.inr (O.nx env' u'))
          | .rt d u' => some (.inr (O.rt d u'))) else some (.inr (O.nx q.1 u1))
      | _ => none) m (env, u) = some o, ⟨n, F, env, u, R, ev⟩, ?_⟩
    rintro m σ1 H1 ⟨F1, env1, u1, R1, ev1⟩
    cases m with
    | zero => simp [runN] at ev1
    | succ m =>
      unfold runN at ev1
      split at ev1
      · cases ev1
      · rename_i q hq
        obtain ⟨⟨d, u2⟩, e1, hq⟩ := Option.bind_eq_some_iff.mp hq
        cases d <;> simp only at hq <;> first | contradiction | skip
        rename_i bb
        refine ⟨_, env1, u1, bb, u2, R1.at_ (fvE pc), e1, fun F2 H2 P => ?_⟩
        have R2 := R1.keep P
        cases bb with
        | false => simp at hq
        | true =>
          simp only [if_true] at hq ⊢
          obtain ⟨o2, e2, hq⟩ := Option.bind_eq_some_iff.mp hq
          refine ⟨fun σ' H' => ∃ m', m' < m + 1 ∧ ∃ F env u, StR X.K au H0 F0 σ' H' F env u ∧ runN _ m' (env, u) = some o, fun _ _ h => h, _, env1, u2, o2, R2, e2, ?_⟩
          cases o2 <;> simp only [Option.some.injEq, Sum.inl.injEq, reduceCtorEq] at hq
          · subst hq
            exact fun σ' H' F' R' => ⟨m, Nat.lt_succ_self m, F', _, _, R', ev1⟩
          · subst hq
            exact fun σ' H' F' R' => ⟨m, Nat.lt_succ_self m, F', _, _, R', ev1⟩
      · rename_i q hq
        cases ev1
        obtain ⟨⟨d, u2⟩, e1, hq⟩ := Option.bind_eq_some_iff.mp hq
        cases d <;> simp only at hq <;> first | contradiction | skip
        rename_i bb
        refine ⟨_, env1, u1, bb, u2, R1.at_ (fvE pc), e1, fun F2 H2 P => ?_⟩
        have R2 := R1.keep P
        cases bb with
        | false =>
          simp only [Bool.false_eq_true, if_false, Option.some.injEq, Sum.inr.injEq] at hq ⊢
          subst hq
          exact k _ _ _ R2
        | true =>
          simp only [if_true] at hq ⊢
          obtain ⟨o2, e2, hq⟩ := Option.bind_eq_some_iff.mp hq
          refine ⟨fun σ' H' => False, fun _ _ h => h.elim, _, env1, u2, o2, R2, e2, ?_⟩
          cases o2 <;> simp only [Option.some.injEq, Sum.inr.injEq, reduceCtorEq] at hq
          · subst hq
            exact k
          · subst hq
            exact k⟩
theorem simS_for {tg iter : Expr} {t : Tg} {it : I} {stb : List Stmt} {sb : Ss} (hp : PassesOwn (model X.prog X.w) X.A X.env X.xe) (hc : X.calm = true) (hi : SimI X C au tg iter it) (hg : SimG X tg t) (hb : SimSs X C ff au fr stb sb) (h0 : au.isSome = true → 0 ∉ tgIx t)
    (hs : ∀ x, foldedSetIterable iter X.env x = pure x) : SimS X C ff au fr (.For tg iter stb [] pos) (.for_ t it sb) :=
  ⟨fun H0 F0 => by
    -- the loop's body over what stands still behind the row
    refine ⟨fun pins s σ H D I h => ?_⟩
    obtain ⟨F, env, u, o, R, ev, k⟩ := h
    simp only [execS] at ev
    obtain ⟨⟨ds, u1⟩, e1, ev⟩ := Option.bind_eq_some_iff.mp ev
    split at ev <;> first | contradiction | skip
    rename_i hz
    have key : ∀ J F1 H1, StR X.K au H0 F0 σ H1 F1 (if iterOk it then env else freeze env (fvI it)) u1 → Feeds X.K F1 J ds → ∃ W : Nat → Nat → St → Hp → Prop, (∃ m, W 0 m σ H1) ∧ ∀ i m σ H, W i m σ H →
        (J.stop i H ∧ D.nx σ H) ∨ (J.go i H ∧ ∃ N : St → Hp → Prop, (∀ σ' H', N σ' H' → ∃ m', m' < m ∧ W (i + 1) m' σ' H') ∧ ∀ x H', J.yld i H x H' → wpG X.K t x σ H' fun σ2 H2 =>
          (fun D σ H => ∃ H0 F0, wpSs fr C ff X.K au H0 F0 sb D σ H) { D with nx := N, ct := N, bk := D.nx } σ2 H2) := fun J F1 H1 R1 fd => by
      refine ⟨fun i m σ2 H2 => m = ds.length - i ∧ i ≤ ds.length ∧ ∃ F2 env2 u2, StR X.K au (base H0 F1) F1 σ2 H2 F2 env2 u2 ∧ forL (fun d env u => (bindT t d env).bind fun env' => execSs C ff sb env' u) (ds.drop i) env2 u2 = some o, ⟨_, rfl, Nat.zero_le _, F1, _, u1, R1.rebase, by rw [List.drop_zero]; exact ev⟩, ?_⟩
      rintro i m σ2 H2 ⟨rfl, hi, F2, env2, u2, R2, ev2⟩
      obtain ⟨hgo, hstop⟩ := fd F2 H2 (R1.subBase R2) R2.sub i
      by_cases hlt : i < ds.length
      · obtain ⟨go, yld⟩ := hgo _ (List.getElem?_eq_getElem hlt)
        rw [List.drop_eq_getElem_cons hlt] at ev2
        simp only [forL] at ev2
        obtain ⟨o2, e2, ev2⟩ := Option.bind_eq_some_iff.mp ev2
        obtain ⟨env3, e3, e2⟩ := Option.bind_eq_some_iff.mp e2
        refine .inr ⟨go, fun σ' H' => ∃ m', m' < ds.length - i ∧ (m' = ds.length - (i + 1) ∧ i + 1 ≤ ds.length ∧ ∃ F2 env2 u2, StR X.K au (base H0 F1) F1 σ' H' F2 env2 u2 ∧ forL (fun d env u => (bindT t d env).bind fun env' => execSs C ff sb env' u) (ds.drop (i + 1)) env2 u2 = some o), fun _ _ h => h, fun y H3 hy => ?_⟩
        obtain ⟨F3, x3, s3, dp3⟩ := yld y H3 hy
        have R3 := R2.step (Post.of R2.urn x3 s3)
        refine R3.bind dp3 e3 h0 fun σ4 R4 => ⟨_, _, F3, env3, u2, o2, R4, e2, ?_⟩
        cases o2 with
        | nx env5 u5 => exact fun σ5 H5 F5 R5 => ⟨_, by omega, rfl, hlt, F5, env5, u5, R5, ev2⟩
        | ct env5 u5 => exact fun σ5 H5 F5 R5 => ⟨_, by omega, rfl, hlt, F5, env5, u5, R5, ev2⟩
        | bk env5 u5 =>
          cases ev2
          exact fun σ5 H5 F5 R5 => k _ _ _ (R1.unbase R5)
        | rt d5 u5 =>
          cases ev2
          exact fun v5 F5 H5 r5 => k _ _ _ (RetR.unbase R1 r5)
      · have e : i = ds.length := by omega
        subst e
        rw [List.drop_length] at ev2
        simp only [forL, Option.some.injEq] at ev2
        subst ev2
        exact .inl ⟨hstop (Nat.le_refl _), k _ _ _ (R1.unbase R2)⟩
    have hb' : PSs X stb (fun D σ H => ∃ H0 F0, wpSs fr C ff X.K au H0 F0 sb D σ H) := ⟨fun pins s σ H D I ⟨H0, F0, h⟩ => (hb.t H0 F0).run pins s σ H D I h⟩
    refine (L2.ps_for (pos := pos) hp hc hi.t hg.t hb' hs).run pins s σ H D I ⟨_, env, u, ds, u1, R.at_ (fvI it), e1, fun J F1 H1 P fd fd2 => ?_⟩
    by_cases hk : iterOk it = true
    · exact key J _ H1 (by rw [if_pos hk]; exact R.keep P) (fd2 hk _)
    · exact key J F1 H1 (by rw [if_neg hk]; exact R.frz P) fd⟩
end
end Pl

/-! PSound10: defs and their calls (with the marks of repr known to be none). -/
namespace Pl
open PySem PyProof.Rows
open L2 (V Hp HO VK XK TE TT TA TS Cx PE PA PS PSs Inv SqL SqT Dp DpAll Vals RelV EP Gl Vis Ends Sp FnScope Env0 CE CR CX0 Room Fun Binds KBinds PK)

structure RoomG (k : Nat) (A : Around) : Prop where
  rm : Room k A
  gd : A.guards = some []
theorem RoomG.deeper {k : Nat} {A : Around} (r : RoomG (k + 1) A) (env : PySem.Env) : RoomG k (A.deeper env) := ⟨r.rm.deeper env, r.gd⟩
theorem RoomG.mono {j k : Nat} {A : Around} (r : RoomG k A) (h : j ≤ k) : RoomG j A := ⟨r.rm.mono h, r.gd⟩

section
variable {P : Program} {w : World} {K : PySem.W.Frag} {mg : Str → Option Value} {bas : Heap} {k : Nat} {f : Addr} {fd : FuncData} {ps : List Str} {sp : Sp}
structure FnG (P : Program) (w : World) (K : PySem.W.Frag) (mg : Str → Option Value) (bas : Heap) (k : Nat) (f : Addr) (fd : FuncData) (ps : List Str) (sp : Sp) : Prop where
  len : ∀ vs H Q E, sp vs H Q E → vs.length = ps.length
  go : ∀ (A : Around), RoomG k A → ∀ (outer : List PySem.Env) (s : Shared) (H : Hp), Env0 P w K mg bas A outer s H →
    ∀ (args : Args) (us : List Value) (vs : List V), BindsTo s fd args (ps.zip us) → Vals vs us →
    ∀ (Q : VK) (E : XK), sp vs H Q E → codeAny (model P w) A (.call (.ref f) args) (CR CX0 outer P w H s Q E) s

/-- a def keeps its promise if its body does -/
theorem fnG_of {x qual : Str} {st : Stmt} {N : List Str} (hf : Fun K x qual st f fd) (S : FnScope N ps (L2.defScope st)) (len : ∀ vs H Q E, sp vs H Q E → vs.length = ps.length)
    (body : ∀ (cdv : Value) (A : Around) (outer : List PySem.Env) (s : Shared) (H : Hp) (vs : List V) (Q : VK) (E : XK), RoomG k (A.deeper (envOfC qual (L2.defScope st) s.heap.objs.size f cdv)) → sp vs H Q E →
      ∃ t, PSs (L2.cxOf CX0 P w K mg bas N qual (L2.defScope st) f cdv A outer s H E).nox (L2.defBody st) t ∧ t { nx := fun _ H' => Q .non H', rt := Q } (L2.start N vs) H) :
    FnG P w K mg bas (k + 1) f fd ps sp := by
  obtain ⟨oc, od, kV, doc, pm, an, cdv, ct, osl, rfl, lk, hcd⟩ := hf.ex
  constructor
  · exact len
  intro A rg outer s H e0 args us vs hb rv Q E hsp
  have lenV := len _ _ _ _ hsp
  have inK : K.In s.heap := e0.mod.kin.keeps fun b o e => (e0.bs b o e).1
  have noL : s.heap.NoLimit := e0.mod.nolimit.keeps fun b o e => (e0.bs b o e).1
  refine codeAny_call_function rg.rm.depth (inK _ _ lk) rfl S.co S.gen rfl
    (PySem.W.codeRec_of inK hcd) (hb _ _ _ _ ?_)
  refine wpAny_newFunctionEnv_cells S.kind
    (fun ⟨n, v⟩ hy => (S.par n (List.of_mem_zip hy).1).elim .inl fun q => .inr ⟨q, PySem.W.cellsFrom_some _ _ _ (.inl q)⟩)
    fun env he s1 ic => ?_
  subst he
  refine ⟨noL.keeps ic.toInCall.keep, codeAny_func ?_⟩
  obtain ⟨t, ht, hq⟩ := body cdv A outer s H vs Q E (rg.deeper _) hsp
  have I0 := L2.inv_start (CX := CX0) (E := E) S rg.rm.hd e0 lenV rv ic
  refine wpAny_mono (ht.nox.run [] s1 _ H _ I0 hq) (fun fl s' hs => ?_) fun e s' hs => hs
  cases fl with
  | brk => obtain ⟨_, _, _, q⟩ := hs; exact q.elim
  | cont => obtain ⟨_, _, _, q⟩ := hs; exact q.elim
  | next => obtain ⟨σ', H', J, q⟩ := hs; exact ⟨V.non, H', J.os, J.bare, J.base, J.hok, rfl, q⟩
  | ret u => obtain ⟨v, σ', H', J, rv', q⟩ := hs; exact ⟨v, H', J.os, J.bare, J.base, J.hok, rv', q⟩
end

section
variable {X : Cx} {k : Nat} {f : Addr} {fd : FuncData} {ps ks : List Str} {sp : Sp} {x : Str} {p pos : Pos} {e : Expr} {es : List Expr} {kws : List Keyword} {t tk : TA} {g : List Value → List Value → List Value} {gV : List V → List V → List V} {E : XK}
theorem fnG_run {pins : List (Addr × Obj)} {σ : L2.St} {H : Hp} {s : Shared} {Q : VK} {us ws : List Value} {vs zs : List V} (F : FnG X.prog X.w X.K X.mg X.base k f fd ps sp) (rg : RoomG k X.A) (hb : KBinds X.K fd ps ks g gV)
    (I : Inv X pins σ H s) (r : Vals vs us) (rz : Vals zs ws) (h : sp (gV vs zs) H Q E) : wpAny (model X.prog X.w) X.A (call (.ref f) us (ks.zip ws)) (EP X pins σ Q) X.xe s := by
  have rb := hb.rel r rz
  have lenB : (g us ws).length = ps.length := rb.length.symm.trans (F.len _ _ _ _ h)
  refine wpAny_call (codeAny_mono (F.go X.A rg X.stack s H I.env0 ⟨us, ks.zip ws⟩ (g us ws) (gV vs zs) (hb.to s us ws I.kIn lenB) rb Q E h) fun r s' q => ?_)
  match r, q with
  | .ok (.ret u), q => exact I.after q
theorem pe_callG (F : FnG X.prog X.w X.K X.mg X.base k f fd ps sp) (rg : RoomG k X.A) (hg : Gl X x) (hm : X.mg x = some (.ref f)) (hk : PySem.W.keepIn X.K (.ref f) = true) (hb : Binds X.K fd ps [])
    (ha : PA X (e :: es) t) (hdb : (x == ("__debug__" : Str)) = false) (he : starEach (e :: es) X.env = (false, eval e X.env) :: starEach es X.env) (hpl : (backTo pos (starEach es X.env)).any (·.1) = false) :
    PE X (.Call (.Name x p) (e :: es) [] pos) (fun σ H Q => t σ H fun vs H1 => sp vs H1 Q E) := ⟨fun pins s σ H Q I h => by
  refine wpAny_Call_Name_kw (L2.ld_glob I hg hm ?_ hdb)
  refine PySem.W.callWith_K (h₀ := X.base) I.ok.mod.kin hk (L2.thn (ha.run pos pins s σ H _ I h) fun us s1 ⟨vs, H1, I1, r, q⟩ => ⟨I1.kIn, ?_⟩) he hpl
  exact fnG_run (ks := []) (g := fun us _ => us) (gV := fun vs _ => vs) (zs := []) (ws := []) F rg ⟨fun s us ws h1 h2 => by
    have h := hb s us h1 (by rw [List.append_nil]; exact h2)
    rw [List.append_nil] at h
    exact h, fun r _ => r⟩ I1 r .nil q⟩
theorem pe_callKG (F : FnG X.prog X.w X.K X.mg X.base k f fd ps sp) (rg : RoomG k X.A) (hg : Gl X x) (hm : X.mg x = some (.ref f)) (hk : PySem.W.keepIn X.K (.ref f) = true) (hb : KBinds X.K fd ps ks g gV)
    (ha : PA X (e :: es) t) (hkw : PK X kws tk) (hall : (backToKw pos (keywordEach kws X.env)).all (·.1.isSome) = true) (hks : (backToKw pos (keywordEach kws X.env)).filterMap (·.1) = ks)
    (hdb : (x == ("__debug__" : Str)) = false) (he : starEach (e :: es) X.env = (false, eval e X.env) :: starEach es X.env)
    (hpl : ((backTo pos (starEach (e :: es) X.env)).any (·.1) || (backToKw pos (keywordEach kws X.env)).any (·.1.isNone)) = false) :
    PE X (.Call (.Name x p) (e :: es) kws pos) (fun σ H Q => t σ H fun vs H1 => tk σ H1 fun zs H2 => sp (gV vs zs) H2 Q E) := ⟨fun pins s σ H Q I h => by
  refine wpAny_Call_Name_kw (L2.ld_glob I hg hm ?_ hdb)
  refine PySem.W.callWith_KW (h₀ := X.base) I.ok.mod.kin hk hall (L2.thn (ha.run pos pins s σ H _ I h) fun us s1 ⟨vs, H1, I1, r, q⟩ => ?_) hpl he
  refine L2.thn (hkw.run pos pins s1 σ H1 _ I1 q) fun ws s2 ⟨zs, H2, I2, rz, q2⟩ => ⟨I2.kIn, ?_⟩
  subst hks
  exact fnG_run F rg hb I2 r rz q2⟩
end

/-! ### the law's own call -/
theorem law_callG {P : Program} {w : World} {K : PySem.W.Frag} {mg mb : Str → Option Value} {k : Nat} {fa a : Addr} {fd : FuncData} {x : Str} {sp : Sp} {s₁ : Shared} {vs : List Value} {ns : List Int}
    (kIn : K.In s₁.heap) (nG : s₁.heap.Ns mainGlobals mg) (nB : s₁.heap.Ns builtinsNs mb) (nBB : ∀ x : Str, x ≠ "__name__" → mb x = bootBuiltins x) (lim : s₁.heap.NoLimit) (gens : s₁.gens = #[])
    (isL : s₁.heap.get? a = some { cls := .type "list", data := .seq vs.toArray }) (isI : IntsAre vs ns) (short : ns.length ≤ sizeLine) (room : Room k callerA)
    (F : ∀ bas : Heap, K.In bas → bas.Ns mainGlobals mg → FnG P w K mg bas k fa fd [x] sp) (bind : ∀ (s : Shared) (u : Value), BindsTo s fd ⟨[u], []⟩ [(x, u)])
    (promise : ∀ H : Hp, L2.Only H → SqL K H a (ns.map V.int) → sp [.ref a] H (fun v _ => v = .bl true) L2.E0) :
    codeAny (model P w) callerA (.call (.ref fa) ⟨[.ref a], []⟩) (fun r s' => r = .ok (.ret (.bool true)) ∧ OldK s₁.heap s'.heap ∧ s'.os = s₁.os ∧ AllBare s'.gens) s₁ := by
  have vals := L2.vals_ints isI
  -- H: what is tracked; nothing, or the script as an object of its own
  have main : ∀ H : Hp, L2.Only H → SqL K H a (ns.map V.int) → L2.HOk P w H s₁.heap → (∀ b, b ≠ a → H b = none) → (∀ o, K.lookup a = some o → H a = none) →
      codeAny (model P w) callerA (.call (.ref fa) ⟨[.ref a], []⟩) (fun r s' => r = .ok (.ret (.bool true)) ∧ OldK s₁.heap s'.heap ∧ s'.os = s₁.os ∧ AllBare s'.gens) s₁ := fun H only sq hok away own => by
    have see : ∀ {b : Addr} {o : Obj}, s₁.heap.get? b = some o → H b = none → (L2.hidT s₁.heap H).get? b = some o := fun e n => L2.hidT_get e n
    have ns' : ∀ {b : Addr} {m : Str → Option Value}, s₁.heap.Ns b m → (L2.hidT s₁.heap H).Ns b m := fun {b m} ⟨o, es, ep, e, d, r⟩ => by
      refine ⟨o, es, ep, see e (away b fun q => ?_), d, r⟩
      subst q
      rw [isL] at e
      cases e
      cases (show Data.seq vs.toArray _ = Data.dict es ep from d)
    have kIn' : K.In (L2.hidT s₁.heap H) := fun b o e => see (kIn b o e) (by
      by_cases q : b = a
      · subst q; exact own o e
      · exact away b q)
    have mod : L2.Mod K mg (L2.hidT s₁.heap H) := by
      obtain ⟨mc, l1, l2⟩ := lim
      exact ⟨kIn', ns' nG, ⟨mb, ns' nB, nBB⟩, ⟨mc, ns' l1, l2⟩⟩
    have env0 : Env0 P w K mg (L2.hidT s₁.heap H) callerA [] s₁ H := {
      frames := rfl
      mod := mod
      bs := fun b o e => L2.of_hidT e
      bsz := Nat.le_of_eq (L2.hidT_size _ _)
      funs := trivial
      frf := fun b hb => absurd (show b ∈ ([] : List Addr) from hb) (by simp)
      hok := hok
      bare := .of_eq gens }
    have run := (F _ kIn' (ns' nG)).go callerA ⟨room, rfl⟩ [] s₁ H env0 ⟨[.ref a], []⟩ [.ref a] [.ref a] (bind s₁ (.ref a)) (.cons rfl .nil) _ _ (promise H only sq)
    refine codeAny_mono run fun r s' h => ?_
    match r, h with
    | .ok (.ret u), ⟨v, H', os, bare, un, hok', rel, (q : v = .bl true)⟩ =>
      subst q
      obtain rfl : u = Value.bool true := rel
      refine ⟨rfl, OldK.of_keep fun b o e => ?_, os, bare⟩
      have no : ∀ {b : Addr}, b ∈ L2.frs [] → False := fun {b} z => by cases z
      rcases only b with z | ⟨ob, xs, z⟩
      · exact un.keep b o e z (fun m => no m) (by simp)
      · obtain ⟨e1, _⟩ := hok b _ z
        obtain ⟨e2, _⟩ := hok' b _ (un.frzs b ob _ z)
        rw [e] at e1
        cases e1
        exact e2
  have lenI := isI.length
  cases inMod : K.lookup a with
  | some o =>
    have e := kIn a o inMod
    rw [isL] at e
    cases e
    refine main (fun _ => none) (fun _ => .inl rfl) (.inr ⟨_, vs.toArray, _, inMod, rfl, rfl, rfl, ?_, ?_⟩) (fun b u z => nomatch (show (none : Option HO) = some u from z)) (fun _ _ => rfl) fun _ _ => rfl
    · rw [List.size_toArray, lenI]; exact short
    · simpa using vals
  | none =>
    let H : Hp := fun b => if b = a then some (.frz { cls := .type "list", data := .seq vs.toArray } (.lst (ns.map V.int))) else none
    have hs : H a = some (.frz { cls := .type "list", data := .seq vs.toArray } (.lst (ns.map V.int))) := if_pos rfl
    have hn : ∀ b, b ≠ a → H b = none := fun b q => if_neg q
    refine main H (fun b => ?_) (.inl (.inr ⟨_, hs⟩)) (fun b u z => ?_) hn fun o q => by rw [inMod] at q; cases q
    · by_cases q : b = a
      · exact .inr ⟨_, _, by rw [q]; exact hs⟩
      · exact .inl (hn b q)
    · by_cases q : b = a
      · subst q
        rw [hs] at z
        cases z
        exact ⟨isL, by rw [List.length_map]; exact short, vs, _, vals, isL⟩
      · rw [hn b q] at z; cases z
theorem walk_ofG {l : PySem.W.OpenLaw} {n k : Nat} {q : Program} {loose : List Str} {XP : (Str → Option Value) → Heap → Prop} {YP : World → Heap → Prop} {d : DefRec} {K : Params → PySem.W.Frag} {sp : PySem.W.Frag → Sp} {x : Str}
    (most : l.most = some n) (few : n ≤ sizeLine) (plain : d.params.defaults = []) (room : Room k callerA) (hY : ∀ (w : World) (h : Heap), YP w h → (K w.params).In h)
    (F : ∀ (w : World) (mg : Str → Option Value) (fa : Addr) (h : Heap), (K w.params).In h → h.Ns mainGlobals mg → mg d.name = some (.ref fa) →
      ∃ fd : FuncData, (∀ (s : Shared) (u : Value), BindsTo s fd ⟨[u], []⟩ [(x, u)]) ∧
        ∀ bas : Heap, (K w.params).In bas → bas.Ns mainGlobals mg → FnG l.prog w (K w.params) mg bas k fa fd [x] (sp (K w.params)))
    (promise : ∀ (K : PySem.W.Frag) (H : Hp) (a : Addr) (ns : List Int), ns.length ≤ n → SqL K H a (ns.map V.int) → sp K [.ref a] H (fun v _ => v = .bl true) L2.E0) :
    PySem.W.WalkO q loose XP YP l.row.toRowW d [] (fun f vs => PySem.call f vs) := by
  refine Att.attach_call most plain fun w s₀ s₁ mg mb fa o pm cd doc a vs ns G Y ho hd hcd hmg hobj hints hlen hg => ?_
  have kIn := hY w _ Y
  obtain ⟨fd, hb, hF⟩ := F w mg fa _ kIn G.T.g hmg
  exact law_callG kIn G.T.g G.T.b G.T.builtins G.T.nolimit hg hobj hints (Nat.le_trans hlen few) room hF hb fun H _ sq => promise _ H a ns hlen sq
end Pl

/-! PSound11: what a def of PLang promises; calls. -/
namespace Pl
open PySem PyProof.Rows
open L2 (V Hp HO VK XK TE TT TA TS Cx PE PA PS PSs Inv SqL SqT Dp DpAll Vals RelV EP Gl Vis Ends Sp FnScope Env0 CE CR CX0 Room Fun Binds KBinds PK)

def auV : Option Addr → List V | none => [] | some a => [.ref a]
def spF (K : PySem.W.Frag) (p : PFun) (c : List D → U → Option (D × U)) : Sp := fun vs H Q _ => ∃ au ws ds F u d u', au.isSome = p.urn ∧ vs = auV au ++ ws ∧ Sub F H ∧ UrnR au u F H ∧ (au = none → u = []) ∧ DpAll K F ws ds ∧ ds.length + (if p.urn then 1 else 0) = p.np ∧
  c ds u = some (d, u') ∧ ∀ v F' H', Post au F H F' H' u' → Rr p.fresh K H F' H' v d → Q v H'

section
variable {K : PySem.W.Frag} {F H : Hp}
theorem rep_own {m i : Nat} {ds : List D} : ¬ (List.replicate m Slot.no)[i]? = some (Slot.own ds) := fun h => by
  rw [List.getElem?_replicate] at h
  split at h <;> cases h
theorem rep_imm {m i : Nat} {d : D} : ¬ (List.replicate m Slot.no)[i]? = some (Slot.imm d) := fun h => by
  rw [List.getElem?_replicate] at h
  split at h <;> cases h
theorem argsOwn : ∀ {ds es : List D} {m i : Nat}, ¬ (ds.map Slot.imm ++ List.replicate m Slot.no)[i]? = some (Slot.own es)
  | [], _, _, _, h => rep_own h
  | _ :: _, _, _, 0, h => by simp at h
  | _ :: _, _, m, i + 1, h => argsOwn (m := m) (i := i) (by simpa using h)
theorem argsImm : ∀ {ds : List D} {ws : List V} {m m' i : Nat} {d : D}, DpAll K F ws ds → (ds.map Slot.imm ++ List.replicate m Slot.no)[i]? = some (Slot.imm d) → ∃ v, (ws.map some ++ List.replicate m' none)[i]? = some (some v) ∧ Dp K F v d
  | _, _, _, _, _, _, .nil, h => (rep_imm h).elim
  | _, _, _, _, 0, _, .cons a t, h => by
    simp at h
    subst h
    exact ⟨_, by simp, a⟩
  | _, _, m, m', i + 1, d, .cons a t, h => by
    obtain ⟨v, h1, h2⟩ := argsImm (m := m) (m' := m') (i := i) t (by simpa using h)
    exact ⟨v, by simpa using h1, h2⟩
theorem start_ok {p : PFun} {N : List Str} {au : Option Addr} {ws : List V} {ds : List D} {u : U} (hau : au.isSome = p.urn) (s : Sub F H) (r : UrnR au u F H) (a : DpAll K F ws ds) (hn : ds.length + (if p.urn then 1 else 0) = p.np) (hN : N.length = p.ns) :
    StR K au H F (L2.start N (auV au ++ ws)) H F (mkEnv p ds) u := by
  have la := dpAll_len a
  have lauV : (auV au).length = if p.urn then 1 else 0 := by
    rw [← hau]
    cases au <;> rfl
  unfold L2.start mkEnv
  rw [List.length_append, la, lauV, hN, ← hn]
  refine ⟨s, r, fun b hb => ?_, ?_, Ext.refl _ _ _, r.hh, fun i d hi => ?_, fun i es hi => ?_, fun i j es es' q hi _ _ _ => ?_⟩
  · subst hb; simp [auV]
  · rw [List.length_append, List.length_append, List.length_append, List.length_map, List.length_map, List.length_replicate, List.length_replicate, List.length_append, la, lauV]
    cases p.urn <;> simp
    omega
  · cases au with
    | none =>
      rw [show p.urn = false from hau.symm] at hi ⊢
      exact argsImm a (by simpa using hi)
    | some b =>
      rw [show p.urn = true from hau.symm] at hi ⊢
      cases i with
      | zero => simp at hi
      | succ i =>
        obtain ⟨v, h1, h2⟩ := argsImm (m' := p.ns - (1 + ds.length)) a (i := i) (by simpa using hi)
        refine ⟨v, ?_, h2⟩
        simp only [auV, List.singleton_append, List.map_cons, List.cons_append, List.getElem?_cons_succ, if_true]
        exact h1
  · cases au with
    | none =>
      rw [show p.urn = false from hau.symm] at hi
      exact (argsOwn (by simpa using hi)).elim
    | some b =>
      rw [show p.urn = true from hau.symm] at hi
      cases i with
      | zero => simp at hi
      | succ i => exact (argsOwn (by simpa using hi)).elim
  · cases au with
    | none =>
      rw [show p.urn = false from hau.symm] at hi
      exact (argsOwn (by simpa using hi)).elim
    | some b =>
      rw [show p.urn = true from hau.symm] at hi
      cases i with
      | zero => simp at hi
      | succ i => exact (argsOwn (by simpa using hi)).elim
end

theorem fnG_body {P : Program} {w : World} {K : PySem.W.Frag} {mg : Str → Option Value} {bas : Heap} {k : Nat} {f : Addr} {fd : FuncData} {ps : List Str} {x qual : Str} {st : Stmt} {N : List Str} {C : Ctx} {ff : String → Bool} {p : PFun}
    (hf : Fun K x qual st f fd) (S : FnScope N ps (L2.defScope st)) (hps : ps.length = p.np) (hN : N.length = p.ns)
    (sim : ∀ (cdv : Value) (A : Around) (outer : List PySem.Env) (s : Shared) (H : Hp) (E : XK) (au : Option Addr), au.isSome = p.urn → RoomG k (A.deeper (envOfC qual (L2.defScope st) s.heap.objs.size f cdv)) →
      SimSs (L2.cxOf CX0 P w K mg bas N qual (L2.defScope st) f cdv A outer s H E).nox C ff au p.fresh (L2.defBody st) p.body) :
    FnG P w K mg bas (k + 1) f fd ps (spF K p (runF C ff p)) := by
  refine fnG_of hf S (fun vs H Q E h => ?_) fun cdv A outer s H vs Q E rg h => ?_
  · obtain ⟨au, ws, ds, F, u, d, u', h1, rfl, _, _, _, h6, h7, _⟩ := h
    rw [hps, ← h7, List.length_append, dpAll_len h6, ← h1]
    cases au <;> simp [auV] <;> omega
  · obtain ⟨au, ws, ds, F, u, d, u', h1, rfl, h3, h4, h5, h6, h7, h8, h9⟩ := h
    refine ⟨_, (sim cdv A outer s H E au h1 rg).t H F, F, mkEnv p ds, u, ?_⟩
    unfold runF at h8
    rw [if_pos h7] at h8
    split at h8 <;> first | contradiction | skip
    · rename_i d1 u1 e
      cases h8
      exact ⟨_, start_ok h1 h3 h4 h6 h7 hN, e, fun v F' H' r => h9 v F' H' r.1 r.2⟩
    · rename_i env1 u1 e
      split at h8 <;> first | contradiction | skip
      rename_i hfr
      cases h8
      refine ⟨_, start_ok h1 h3 h4 h6 h7 hN, e, fun σ' H' F' R' => h9 _ F' H' ⟨R'.ext, R'.sub, R'.urn⟩ ?_⟩
      have hf' : p.fresh = false := by simpa using hfr
      rw [hf']
      exact Dp.non

section
variable {X : Cx} {C : Ctx} {ff : String → Bool} {au : Option Addr} {e a : Expr} {es : List Expr} {pa : E} {ps : Es} {pos pos2 : Pos} {fn : String} {p : PFun} {c : List D → U → Option (D × U)} {x : Str}

def esLen : Es → Nat | .nil => 0 | .cons _ es => esLen es + 1
theorem evalEs_len : ∀ {ps : Es} {env : Env} {u : U} {ds : List D} {u' : U}, evalEs C ps env u = some (ds, u') → ds.length = esLen ps
  | .nil, _, _, _, _, h => by simp only [evalEs, Option.some.injEq, Prod.mk.injEq] at h; rw [← h.1]; rfl
  | .cons e es, env, u, ds, u', h => by
    simp only [evalEs] at h
    obtain ⟨⟨d, u1⟩, _, h⟩ := Option.bind_eq_some_iff.mp h
    obtain ⟨⟨r, u2⟩, h2, h⟩ := Option.bind_eq_some_iff.mp h
    cases h
    exact congrArg Nat.succ (evalEs_len h2)
theorem pick_len {ds : List D} : ∀ {is : List Nat} {rs : List D}, pick ds is = some rs → rs.length = is.length
  | [], _, h => by simp only [pick, Option.some.injEq] at h; rw [← h]; rfl
  | i :: is, _, h => by
    simp only [pick] at h
    obtain ⟨d, _, h⟩ := Option.bind_eq_some_iff.mp h
    obtain ⟨r, h2, h⟩ := Option.bind_eq_some_iff.mp h
    cases h
    exact congrArg Nat.succ (pick_len h2)
theorem pick_range (ds : List D) : ∀ (m i : Nat), i + m = ds.length → pick ds (List.range' i m) = some (ds.drop i)
  | 0, i, h => by rw [List.drop_eq_nil_of_le (by omega)]; rfl
  | m + 1, i, h => by
    have hl : i < ds.length := by omega
    show (do let d ← ds[i]?; let r ← pick ds (List.range' (i + 1) m); some (d :: r)) = _
    rw [pick_range ds m (i + 1) (by omega), List.getElem?_eq_getElem hl, List.drop_eq_getElem_cons hl]
    rfl
/-- a def called with values; t: how the arguments come -/
theorem sim_callV {t : TA} {perm : List Nat} (hC : ∀ ds, C.fn fn ds = (c ds []).map (·.1)) (hu : p.urn = false) (hff : ff fn = p.fresh) (hnp : perm.length = p.np)
    (ht : ∀ σ H (Q : List V → Hp → Prop), (∃ F env u ds u' ds', At X.K au σ H F env u (fvEs ps) ∧ evalEs C ps env u = some (ds, u') ∧ pick ds perm = some ds' ∧ ∀ vs F' H', Post au F H F' H' u' → DpAll X.K F' vs ds' → Q vs H') → t σ H Q)
    (h : PE X e (fun σ H Q => t σ H fun vs H1 => spF X.K p c vs H1 Q L2.E0)) : Sim X C ff au e (.call fn ps perm) := ⟨h.imp fun σ H Q ⟨F, env, u, d, u', A, ev, k⟩ => by
  simp only [evalE] at ev
  obtain ⟨⟨ds, u1⟩, e1, ev⟩ := Option.bind_eq_some_iff.mp ev
  obtain ⟨ds', e2, ev⟩ := Option.bind_eq_some_iff.mp ev
  obtain ⟨d1, e3, ev⟩ := Option.bind_eq_some_iff.mp ev
  cases ev
  rw [hC, Option.map_eq_some_iff] at e3
  obtain ⟨⟨d2, u2⟩, e3, rfl⟩ := e3
  refine ht _ _ _ ⟨F, env, u, ds, _, ds', A, e1, e2, fun vs F1 H1 P1 r1 => ?_⟩
  have hlen : ds'.length = p.np := by
    rw [← hnp]
    exact pick_len e2
  refine ⟨none, vs, ds', F1, [], d2, u2, hu.symm, rfl, P1.sub, UrnR.no, fun _ => rfl, r1, by rw [hu]; exact hlen, e3, fun v F2 H2 P2 r2 => ?_⟩
  have P : Post au F1 H1 F2 H2 u1 := Post.of P1.urn P2.ext P2.sub
  refine k v F2 H2 (P1.trans P) ?_
  show Rr (ff fn) X.K H F2 H2 v d2
  rw [hff]
  exact r2.back fun q hq => P1.grow hq⟩
theorem sim_ucall {t : TE} (hC : ∀ ds u, C.ufn fn ds u = c ds u) (hau : au.isSome = true) (hu : p.urn = true) (hff : ff fn = p.fresh) (hnp : esLen ps + 1 = p.np)
    (ht : ∀ σ H Q, (∃ a, au = some a ∧ σ[0]? = some (some (V.ref a)) ∧ wpEs X.K C au ps σ H fun vs H1 => spF X.K p c (.ref a :: vs) H1 Q L2.E0) → t σ H Q)
    (h : PE X e t) : Sim X C ff au e (.ucall fn ps) := ⟨h.imp fun σ H Q ⟨F, env, u, d, u', A, ev, k⟩ => by
  simp only [evalE] at ev
  obtain ⟨⟨ds, u1⟩, e1, ev⟩ := Option.bind_eq_some_iff.mp ev
  rw [hC] at ev
  obtain ⟨a, ha⟩ := Option.isSome_iff_exists.mp hau
  refine ht _ _ _ ⟨a, ha, A.s0 a ha, F, env, u, ds, _, A, e1, fun vs F1 H1 P1 r1 => ?_⟩
  refine ⟨au, vs, ds, F1, u1, d, u', hau.trans hu.symm, by rw [ha]; rfl, P1.sub, P1.urn, (fun z => by rw [ha] at z; cases z), r1, ?_, ev, fun v F2 H2 P2 r2 => ?_⟩
  · rw [hu, evalEs_len e1]; exact hnp
  refine k v F2 H2 (P1.trans P2) ?_
  show Rr (ff fn) X.K H F2 H2 v d
  rw [hff]
  exact r2.back fun q hq => P1.grow hq⟩
theorem sim_ncall {t : TE} (hC : ∀ ds u, C.ufn fn ds u = c ds u) (hu : p.urn = true) (hff : ff fn = p.fresh) (hnp : esLen ps + 1 = p.np) (hk : fk ff pa = true)
    (ht : ∀ σ H Q, wpE true X.K C au pa σ H (fun x H1 => wpEs X.K C au ps σ H1 fun vs H2 => spF X.K p c (x :: vs) H2 Q L2.E0) → t σ H Q)
    (h : PE X e t) : Sim X C ff au e (.ncall fn pa ps) := ⟨h.imp fun σ H Q ⟨F, env, u, d, u', A, ev, k⟩ => by
  simp only [evalE] at ev
  obtain ⟨⟨da, u1⟩, e1, ev⟩ := Option.bind_eq_some_iff.mp ev
  obtain ⟨⟨ds, u2⟩, e2, ev⟩ := Option.bind_eq_some_iff.mp ev
  cases da <;> simp only at ev <;> first | contradiction | skip
  rename_i xs
  obtain ⟨ns, e3, ev⟩ := Option.bind_eq_some_iff.mp ev
  obtain ⟨⟨d2, u3⟩, e4, ev⟩ := Option.bind_eq_some_iff.mp ev
  cases ev
  rw [hC] at e4
  refine ht _ _ _ ⟨F, env, u, _, u1, A.l, e1, fun v F1 H1 P1 r1 => ?_⟩
  obtain ⟨q, vs, rfl, q1, q2, q3, q4⟩ := r1
  have A1 := A.step P1
  refine ⟨F1, env, u1, ds, _, A1.r, e2, fun ws F2 H2 P2 r2 => ?_⟩
  have hqa : some q ≠ au := fun z => A.urn.hh q z.symm q1
  obtain ⟨k1, k2⟩ := P2.ext q hqa (by rw [q3]; exact fun z => nomatch z)
  refine ⟨some q, ws, ds, F2, ns, d2, u3, hu.symm, rfl, P2.sub, fun b hb => ?_, (fun z => nomatch z), r2, ?_, e4, fun v F3 H3 P3 r3 => ?_⟩
  · cases hb
    refine ⟨?_, k2.trans q2⟩
    rw [k1, q3, dpAll_ints q4 e3]
  · rw [hu, evalEs_len e2]; exact hnp
  have P12 := P1.trans P2
  refine k v F3 H3 ⟨fun b hb hn => ?_, P3.sub, fun b hb => ?_⟩ ?_
  · obtain ⟨g1, g2⟩ := P12.ext b hb hn
    obtain ⟨g3, g4⟩ := P3.ext b (fun z => hn (by cases z; exact q1)) (by rw [g1]; exact hn)
    exact ⟨g3.trans g1, g4.trans g2⟩
  · obtain ⟨g1, g2⟩ := P12.urn b hb
    obtain ⟨g3, g4⟩ := P3.ext b (fun z => hqa (by rw [hb]; exact z.symm)) (by rw [g1]; exact fun z => nomatch z)
    exact ⟨g3.trans g1, g4.trans g2⟩
  · show Rr (ff fn) X.K H F3 H3 v d2
    rw [hff]
    exact r3.back fun q hq => P12.grow hq⟩
/-- an expression that PLang has no value for -/
theorem sim_never (h : ∀ env u, evalE C pa env u = none) (he : PE X e (fun _ _ _ => False)) : Sim X C ff au e pa := ⟨he.imp fun σ H Q ⟨F, env, u, d, u', A, ev, k⟩ => by rw [h] at ev; cases ev⟩
theorem pe_never {X : Cx} {e : Expr} : PE X e (fun _ _ _ => False) := ⟨fun _ _ _ _ _ _ h => h.elim⟩
end
end Pl

/-! PSound12: the checker (a def's text against its term): what it is, first lemmas. -/
namespace Pl
open PySem PyProof.Rows
open L2 (V Hp HO VK XK TE TT TA TS TG TGs Cx PE PT PW PA PS PSs PG PGs PI Inv SqL SqT Dp DpAll Vals RelV EP Gl Vis Ends Sp FnScope Env0 CE CR CX0 Room Fun Binds KBinds PK)

/-- a def of the text -/
structure Entry where
  name : String
  qual : Str
  st : Stmt
  N : List Str
  ps : List Str
  fn : PFun
  kws : List (Nat × List Str × List Nat)
/-- the checker's context -/
structure CK where
  N : List Str
  sc : Scope
  cells : Option Scope
  urn : Bool
  bl : List Str
  gcd : Bool
  T : String → Option Entry
  G : Prog

def CK.kindB (c : CK) (x : Str) (k : NameKind) : Bool := decide (c.sc.names.lookup x = some k)
def CK.vis (c : CK) (x : Str) : Bool := c.kindB x .local || c.kindB x .cell || c.kindB x .free
def CK.loc (c : CK) (x : Str) : Bool := c.kindB x .local || c.kindB x .cell
def CK.gl (c : CK) (x : Str) : Bool := c.kindB x .globalImplicit && !(x == ("__debug__" : Str))
def CK.fnB (c : CK) (x : Str) : Bool := c.kindB x .local || (match c.cells with | none => true | some s => decide (s.names.lookup x = some .cell))
def CK.at_ (c : CK) (x : Str) (i : Nat) : Bool := decide (c.N[i]? = some x)
def CK.var (c : CK) (x : Str) (i : Nat) : Bool := c.at_ x i && c.vis x && !(x == ("__debug__" : Str)) && !(x == ("__classdict__" : Str))
def CK.tgt (c : CK) (x : Str) (i : Nat) : Bool := c.at_ x i && c.loc x && c.fnB x && (!c.urn || !(i == 0))
def CK.bltn (c : CK) (x : Str) : Bool := c.gl x && c.bl.contains x && !(x == ("__name__" : Str))
def CK.blk (c : CK) (s : Scope) : CK := { c with
  sc := { s with names := s.names.map fun (n, k) => if (k == .free && c.sc.kind == .function && c.sc.names.lookup n == some .cell) then (n, .cell) else (n, k) }
  cells := some s }

def notStar : Expr → Bool | .Starred _ _ => false | _ => true
def notSlice : Expr → Bool | .Slice _ _ _ _ => false | _ => true
def notComp : Expr → Bool | .ListComp .. | .SetComp .. | .DictComp .. => false | _ => true
def notSet : Expr → Bool | .Set .. => false | _ => true
def notTup : Expr → Bool | .Tuple .. => false | _ => true
def starsB (es : List Expr) : Bool := es.all notStar
def kwsB (ks : List Keyword) : Bool := ks.all fun k => k.1.isSome
def kwNames (ks : List Keyword) : List Str := ks.filterMap (·.1)

section
variable {env : PySem.Env}
theorem star_cons {a : Expr} {es : List Expr} (h : notStar a = true) : starEach (a :: es) env = (false, eval a env) :: starEach es env := by
  cases a <;> first | rfl | (simp [notStar] at h)
theorem star_any {pos : Pos} : ∀ {es : List Expr}, starsB es = true → (backTo pos (starEach es env)).any (·.1) = false
  | [], _ => rfl
  | a :: es, h => by
    simp only [starsB, List.all_cons, Bool.and_eq_true] at h
    rw [star_cons h.1]
    show (false || (backTo pos (starEach es env)).any (·.1)) = false
    rw [star_any (es := es) h.2]
    rfl
theorem kw_all {pos : Pos} : ∀ {ks : List Keyword}, kwsB ks = true → (backToKw pos (keywordEach ks env)).all (·.1.isSome) = true
  | [], _ => rfl
  | ⟨n, e, p⟩ :: ks, h => by
    simp only [kwsB, List.all_cons, Bool.and_eq_true] at h
    show (n.isSome && (backToKw pos (keywordEach ks env)).all (·.1.isSome)) = true
    rw [kw_all (ks := ks) h.2, h.1]
    rfl
theorem kw_any {pos : Pos} : ∀ {ks : List Keyword}, kwsB ks = true → (backToKw pos (keywordEach ks env)).any (·.1.isNone) = false
  | [], _ => rfl
  | ⟨n, e, p⟩ :: ks, h => by
    simp only [kwsB, List.all_cons, Bool.and_eq_true] at h
    show (n.isNone || (backToKw pos (keywordEach ks env)).any (·.1.isNone)) = false
    rw [kw_any (ks := ks) h.2]
    cases n with
    | none => cases h.1
    | some _ => rfl
theorem kw_names {pos : Pos} : ∀ {ks : List Keyword}, (backToKw pos (keywordEach ks env)).filterMap (·.1) = kwNames ks
  | [] => rfl
  | ⟨n, e, p⟩ :: ks => by
    cases n with
    | none => exact kw_names (ks := ks)
    | some n => exact congrArg (n :: ·) (kw_names (ks := ks))
theorem plainIx_of {b : Expr} (h : notSlice b = true) : L2.PlainIx b := fun o i => by
  cases b <;> first | rfl | (simp [notSlice] at h)
theorem swaps_no {e : Expr} {t : Option Expr} {l : Nat} (h : notComp e = true) : swapsWith e t l env = pure false := by
  cases e <;> first | rfl | (simp [notComp] at h)
theorem swapsSole_no {t e : Expr} {l : Nat} (h : notComp e = true) : swapsWithSole [t] e l env = pure false := swaps_no h
theorem folded_no {e : Expr} {x : Value} (h : notSet e = true) : foldedSetIterable e env x = pure x := by
  cases e <;> first | rfl | (simp [notSet] at h)
theorem isTrue_ix {a b : Expr} {pos : Pos} (whole : Sem Value) : isTrue (.Subscript a b pos) env whole = (do let v ← whole; standAt pos; holding [v] (truthy v)) := rfl
end

section
variable {X : Cx}
/-- the rule of an if-expression as a test -/
theorem pt_ite {c a b : Expr} {pos : Pos} {tc ta tb t : TT} (hc : PT X c tc) (ha : PT X a ta) (hb : PT X b tb) (h : ∀ σ H Q, t σ H Q → tc σ H fun k H1 => if k = true then ta σ H1 Q else tb σ H1 Q) : PT X (.IfExp c a b pos) t := ⟨fun pins s σ H Q I hq => by
  refine isTrue_IfExp (L2.thn (hc.run pins s σ H _ I (h σ H Q hq)) fun k s1 ⟨H1, I1, q⟩ => ?_)
  cases k with
  | true => exact ha.run pins s1 σ H1 Q I1 q
  | false => exact hb.run pins s1 σ H1 Q I1 q⟩
theorem pt_never {e : Expr} : PT X e (fun _ _ _ => False) := ⟨fun _ _ _ _ _ _ h => h.elim⟩
theorem pw_never {e : Expr} : PW X e (fun _ _ _ => False) := ⟨fun _ _ _ _ _ _ _ h => h.elim⟩
end
end Pl

/-! PSound13: the checker. -/
namespace Pl
open PySem PyProof.Rows

def litB (k : Const) : Bool := match k with | .none => true | .bool _ => true | .int _ => true | .str _ => true | _ => false
def neverB (a : E) : Bool := match a with | .lit .none => true | _ => false
def namesB (c : CK) : List Nat → List Expr → Bool
  | [], [] => true
  | i :: is, .Name x _ :: es => c.tgt x i && namesB c is es
  | _, _ => false
def chkG (c : CK) : Tg → Expr → Bool
  | .one i, .Name x _ => c.tgt x i
  | .many is, .Tuple es _ _ => namesB c is es
  | _, _ => false
def ownL (c : CK) (own : List Nat) : List (Str × Nat) := own.map fun i => (c.N.getD i ("" : Str), i)
def ownB (c : CK) (t : Tg) (own : List Nat) : Bool := (!c.urn || (!own.contains 0 && !(tgIx t).contains 0)) && (tgIx t).all fun i => own.contains i
def isTy (b : BI) : Option Str := match b with | .isInt => some "int" | .isBool => some "bool" | .isTuple => some "tuple" | .isList => some "list" | .isStr => some "str" | _ => none
def biName (b : BI) : Option Str := match b with
  | .len => some "len" | .abs => some "abs" | .int => some "int" | .tuple => some "tuple" | .list => some "list" | .all => some "all" | .any => some "any" | .sum => some "sum"
  | .max2 => some "max" | .min2 => some "min" | .divmod => some "divmod" | .repr => some "repr" | _ => none

mutual
def chkE : CK → E → Expr → Bool
  | c, .var i, e => match e with | .Name x _ => c.var x i | _ => false
  | c, .lit k, e => match e with | .Constant k' _ _ => litB k && decide (k' = k) | _ => false
  | c, .glob g, e => match e with | .Name x _ => c.gl x && decide (x = Str.ofString g) | _ => false
  | c, .neg a, e => match e with | .UnaryOp .USub o _ => chkE c a o | _ => false
  | c, .not a, e => match e with | .UnaryOp .Not o _ => chkE c a o | _ => false
  | c, .bin o a b, e => match e with | .BinOp l op r _ => decide (op = toOp o) && chkE c a l && chkE c b r | _ => false
  | c, .cmp o a b, e => match e with | .Compare l [op] [r] _ => decide (op = toCmp o) && chkE c a l && chkE c b r && !behindInMarks (toCmp o) r | _ => false
  | c, .chain o1 o2 a b d, e => match e with
    | .Compare l [p1, p2] [m, r] _ => decide (p1 = toCmp o1) && decide (p2 = toCmp o2) && chkE c a l && chkE c b m && chkE c d r && !lastMarks [toCmp o1, toCmp o2] [m, r]
    | _ => false
  | c, .and a b, e => match e with
    | .BoolOp .And (x :: es) pos => chkE c a x && (match es with
      | [] => false
      | [y] => chkE c b y && !fk c.G.ff b
      | y :: z :: r => chkE c b (.BoolOp .And (y :: z :: r) pos))
    | _ => false
  | c, .or a b, e => match e with
    | .BoolOp .Or (x :: es) pos => chkE c a x && (match es with
      | [] => false
      | [y] => chkE c b y && !fk c.G.ff b
      | y :: z :: r => chkE c b (.BoolOp .Or (y :: z :: r) pos))
    | _ => false
  | c, .ite t a b, e => match e with | .IfExp t' a' b' _ => chkE c t t' && chkE c a a' && chkE c b b' | _ => false
  | c, .tup es, e => match e with | .Tuple xs _ _ => starsB xs && chkEs c es xs | _ => false
  | c, .trng a b, e => match e with
    | .Call (.Name y _) [.Call (.Name x _) [a', b'] [] _] [] _ => decide (y = ("tuple" : Str)) && c.bltn y && decide (x = ("range" : Str)) && c.bltn x && notStar a' && notStar b' && chkE c a a' && chkE c b b'
    | _ => false
  | c, .dict0, e => match e with | .Dict [] [] _ => true | _ => false
  | c, .lst es, e => match e with | .List xs _ => starsB xs && chkEs c es xs | _ => false
  | c, .rep es n, e => match e with | .BinOp (.List xs _) .Mult r _ => starsB xs && chkEs c es xs && chkE c n r | _ => false
  | c, .idx a i, e => match e with | .Subscript v s _ => chkE c a v && chkE c i s && notSlice s | _ => false
  | c, .sli a lo hi, e => match e with | .Subscript v (.Slice l h none _) _ => chkE c a v && chkEo c lo l && chkEo c hi h | _ => false
  | c, .rev a, e => neverB a || (match e with | .Subscript v (.Slice none none (some (.UnaryOp .USub (.Constant (.int 1) _ _) _)) _) _ => chkE c a v | _ => false)
  | c, .uidx k, e => match e with | .Subscript (.Name x _) s _ => c.urn && c.var x 0 && chkE c k s && notSlice s | _ => false
  | c, .call f es perm, e => match e with
    | .Call (.Name x _) args kws _ => c.gl x && decide (x = Str.ofString f) && starsB args && kwsB kws && chkA c es args kws && (match c.T f with
      | some en => !en.fn.urn && decide (perm.length = en.fn.np) && (if kws.isEmpty then !args.isEmpty && decide (perm = List.range' 0 perm.length) && decide (esLen es = perm.length) else en.kws.contains (args.length, kwNames kws, perm))
      | none => false)
    | _ => false
  | c, .ucall f es, e => match e with
    | .Call (.Name x _) (.Name y _ :: args) [] _ => c.gl x && decide (x = Str.ofString f) && starsB args && c.urn && c.var y 0 && chkEs c es args && (match c.T f with
      | some en => en.fn.urn && decide (esLen es + 1 = en.fn.np)
      | none => false)
    | _ => false
  | c, .ncall f a es, e => match e with
    | .Call (.Name x _) (a0 :: args) [] _ => c.gl x && decide (x = Str.ofString f) && starsB (a0 :: args) && fk c.G.ff a && chkE c a a0 && chkEs c es args && (match c.T f with
      | some en => en.fn.urn && decide (esLen es + 1 = en.fn.np)
      | none => false)
    | _ => false
  | c, .bi b es, e => match e with
    | .Call (.Name x _) (a0 :: args) [] _ => starsB (a0 :: args) && (match isTy b with
      | some ty => decide (x = ("isinstance" : Str)) && c.bltn x && (match args with
        | [.Name y _] => decide (y = ty) && c.bltn y && chkEs c es [a0] && (match es with | .cons _ .nil => true | _ => false)
        | _ => false)
      | none => chkEs c es (a0 :: args) && (match b with
        | .gcd => c.gcd && c.gl x && decide (x = ("gcd" : Str))
        | _ => c.bltn x && decide (biName b = some x)))
    | _ => false
  | c, .comp elt t it cond own, e => match e with
    | .ListComp elt' [⟨tg, iter, ifs, 0⟩] scope _ => chkI c it tg iter && notSet iter && L2.blkC c.N c.sc scope (ownL c own) && ownB c t own && chkG (c.blk scope) t tg && chkC (c.blk scope) cond ifs && chkE (c.blk scope) elt elt'
    | _ => false
def chkEs : CK → Es → List Expr → Bool
  | _, .nil, l => l.isEmpty
  | c, .cons p ps, l => match l with | e :: es => chkE c p e && chkEs c ps es | [] => false
/-- the arguments by place, then those by name -/
def chkA : CK → Es → List Expr → List Keyword → Bool
  | _, .nil, l, ks => l.isEmpty && ks.isEmpty
  | c, .cons p ps, l, ks => match l, ks with
    | e :: es, ks => chkE c p e && chkA c ps es ks
    | [], k :: ks => chkE c p k.2 && chkA c ps [] ks
    | [], [] => false
def chkEo : CK → Eo → Option Expr → Bool
  | _, .no, o => o.isNone
  | c, .yes p, o => match o with | some e => chkE c p e | none => false
def chkC : CK → Eo → List Expr → Bool
  | _, .no, l => l.isEmpty
  | c, .yes p, l => match l with | [e] => chkE c p e | _ => false
def chkI : CK → I → Expr → Expr → Bool
  | c, .seq p, _, e => chkE c p e
  | c, .range1 a, _, e => match e with | .Call (.Name x _) [a'] [] _ => decide (x = ("range" : Str)) && c.bltn x && notStar a' && chkE c a a' | _ => false
  | c, .range2 a b, _, e => match e with | .Call (.Name x _) [a', b'] [] _ => decide (x = ("range" : Str)) && c.bltn x && notStar a' && notStar b' && chkE c a a' && chkE c b b' | _ => false
  | _, .range3 _ _ _, _, _ => false
  | c, .revRange1 a, _, e => match e with
    | .Call (.Name y _) [.Call (.Name x _) [a'] [] _] [] _ => decide (y = ("reversed" : Str)) && c.bltn y && decide (x = ("range" : Str)) && c.bltn x && notStar a' && chkE c a a'
    | _ => false
  | c, .enum a, tg, e => !notTup tg && (match e with | .Call (.Name x _) [a'] [] _ => decide (x = ("enumerate" : Str)) && c.bltn x && notStar a' && chkE c a a' | _ => false)
  | c, .zip a b, tg, e => !notTup tg && (match e with | .Call (.Name x _) [a', b'] [] _ => decide (x = ("zip" : Str)) && c.bltn x && notStar a' && notStar b' && chkE c a a' && chkE c b b' | _ => false)
  | _, .zip3 _ _ _, _, _ => false
  | c, .rev a, _, e => match e with | .Call (.Name x _) [a'] [] _ => decide (x = ("reversed" : Str)) && c.bltn x && notStar a' && chkE c a a' | _ => false
end

def tuB (c : CK) : List Tu → List Expr → Bool
  | [], [] => true
  | .nm i :: ts, .Name x _ :: es => c.tgt x i && tuB c ts es
  | .pl k :: ts, .Subscript (.Name x _) (.Constant (.int z) _ _) _ :: es => c.urn && c.var x 0 && decide (z = (k : Int)) && tuB c ts es
  | _, _ => false
def lineOf : Expr → Option Nat | .Name _ p => some p.line | _ => none
/-- the names of a stored pair, where the model stores it from the stack -/
def parB (c : CK) (ts vs : List Expr) : Bool := decide (c.sc.kind = .function) && (match ts with
  | [.Name x px, .Name y py] => c.kindB x .local && c.kindB y .local && decide (py.line = px.line) && !(x == y)
  | [.Name x px, .Name y py, .Name z pz] => c.kindB x .local && c.kindB y .local && c.kindB z .local && decide (py.line = px.line) && decide (pz.line = px.line) && !(x == y) && !(x == z) && !(y == z)
  | _ => false) && decide (vs.length = ts.length) && starsB vs && !(vs.all (foldedForSure 8)) && !(vs.all (constantsAlone 8))
/-- .. and where it makes the tuple -/
def unpB (c : CK) (ts : List Expr) (v : Expr) : Bool := match v with
  | .Tuple vs _ _ => !(decide (ts.length = 2) || decide (ts.length = 3)) || vs.all (foldedForSure 8) || (match ts with
      | .Name x _ :: _ => !(c.kindB x .local)
      | _ => true) || (match ts with
      | _ :: .Name x _ :: _ => !(c.kindB x .local)
      | _ => true)
  | _ => true
def isVarB : E → Bool | .var _ => true | _ => false
mutual
def chkS : CK → Bool → S → Stmt → Bool
  | c, _, .set i p, st => match st with
    | .Assign [.Name x px] e pos => c.tgt x i && chkE c p e && (notComp e || (match e with
      | .ListComp _ _ scope p2 => c.kindB x .local && decide (c.sc.kind = .function) && (px.line == p2.line) && decide (p2.line = p2.line) && !(scope.names.any fun (n, k) => n == x && (k == .local || k == .cell))
      | _ => false))
    | _ => false
  | c, _, .set2 i j p, st => match st with | .Assign [.Name x _, .Name y _] e _ => c.tgt x i && c.tgt y j && chkE c p e && notTup e && notComp e | _ => false
  | c, _, .par is es, st => match st with | .Assign [.Tuple ts _ _] (.Tuple vs _ _) _ => namesB c is ts && parB c ts vs && chkEs c es vs && decide (is.Nodup) | _ => false
  | c, _, .unp us p, st => match st with | .Assign [.Tuple ts _ _] e _ => tuB c us ts && unpB c ts e && notComp e && chkE c p e | _ => false
  | c, _, .setI i k p, st => match st with | .Assign [.Subscript (.Name x _) s _] e _ => c.var x i && chkE c k s && chkE c p e && notComp e && notSlice s | _ => false
  | c, _, .setU k p, st => match st with | .Assign [.Subscript (.Name x _) s _] e _ => c.urn && c.var x 0 && chkE c k s && chkE c p e && notComp e && notSlice s | _ => false
  | c, _, .app i p, st => match st with | .Expr (.Call (.Attribute (.Name x _) m ap) [a] [] cp) _ => c.var x i && decide (m = ("append" : Str)) && (ap.endLine == cp.line) && notStar a && chkE c p a | _ => false
  | c, _, .pop i, st => match st with | .Expr (.Call (.Attribute (.Name x _) m ap) [] [] cp) _ => c.var x i && decide (m = ("pop" : Str)) && (ap.endLine == cp.line) | _ => false
  | c, _, .ins i k p, st => match st with | .Expr (.Call (.Attribute (.Name x _) m ap) [b, a] [] cp) _ => c.var x i && decide (m = ("insert" : Str)) && (ap.endLine == cp.line) && notStar b && notStar a && chkE c k b && chkE c p a | _ => false
  | c, _, .drop p, st => match st with | .Expr e _ => chkE c p e && notComp e | _ => false
  | c, fr, .ite t a b, st => match st with | .If t' a' b' _ => chkE c t t' && chkSs c fr a a' && chkSs c fr b b' | _ => false
  | c, fr, .whil t b, st => match st with | .While t' b' [] _ => chkE c t t' && chkSs c fr b b' | _ => false
  | c, fr, .for_ t it b, st => match st with | .For tg iter b' [] _ => chkI c it tg iter && notSet iter && chkG c t tg && chkSs c fr b b' | _ => false
  | c, fr, .ret p, st => !fr && (match st with
    | .Return (some e) _ => chkE c p e
    | .Return none _ => neverB p
    | _ => false)
  | c, fr, .retF p, st => fr && (match st with | .Return (some e) _ => chkE c p e | _ => false)
  | _, _, .brk, st => match st with | .Break _ => true | _ => false
  | _, _, .cont, st => match st with | .Continue _ => true | _ => false
  | _, _, .pass, st => match st with | .Pass _ => true | _ => false
  | _, _, .raise, _ => true
def chkSs : CK → Bool → Ss → List Stmt → Bool
  | _, _, .nil, l => l.isEmpty
  | c, fr, .cons s ss, l => match l with | st :: sts => chkS c fr s st && chkSs c fr ss sts | [] => false
end
end Pl

/-! PSound14: what the checker lets is right: expressions. -/
namespace Pl
open PySem PyProof.Rows
open L2 (V Hp HO VK XK TE TT TA TS TG TGs Cx PE PT PW PA PS PSs PG PGs PI PK Inv SqL SqT Dp DpAll Vals RelV EP Gl Vis Ends Sp FnScope Env0 CE CR CX0 Room Fun Binds KBinds)

def gK {α : Type} (np nk : Nat) (perm : List Nat) (us ws : List α) : List α := if us.length = np ∧ ws.length = nk then perm.filterMap (fun i => (us ++ ws)[i]?) else []
structure Callable (X : Cx) (G : Prog) (n : Nat) (f : String) (en : Entry) : Prop where
  ex : ∃ fa fd, X.mg (Str.ofString f) = some (.ref fa) ∧ PySem.W.keepIn X.K (.ref fa) = true ∧ Binds X.K fd en.ps [] ∧
    (∀ q ∈ en.kws, KBinds X.K fd en.ps q.2.1 (gK q.1 q.2.1.length q.2.2) (gK q.1 q.2.1.length q.2.2)) ∧ FnG X.prog X.w X.K X.mg X.base n fa fd en.ps (spF X.K en.fn (callU G n f))
structure Okx (X : Cx) (c : CK) (G : Prog) (n : Nat) (au : Option Addr) : Prop where
  hG : c.G = G
  hN : X.N = c.N
  nd : c.N.Nodup
  sc : X.env.scope = c.sc
  calm : X.calm = true
  fn : ∀ x, c.fnB x = true → X.fn x = true ∨ X.env.scope.names.lookup x = some .local
  own : PassesOwn (model X.prog X.w) X.A X.env X.xe
  rg : RoomG n X.A
  au : au.isSome = c.urn
  blt : ∀ x ∈ c.bl, X.mg x = none
  gcd : c.gcd = true → X.mg "gcd" = some (.builtin "math.gcd")
  fns : ∀ f en, c.T f = some en → Callable X G n f en
  glb : ∀ g d, G.glob g = some d → ∃ v u, X.mg (Str.ofString g) = some u ∧ RelV v u ∧ ∀ F, Dp X.K F v d
  tab : ∀ f, G.T f = (c.T f).map (·.fn)

section
variable {X : Cx} {c : CK} {G : Prog} {n : Nat} {au : Option Addr}
theorem Okx.kind (o : Okx X c G n au) {x : Str} {k : NameKind} (h : c.kindB x k = true) : X.env.scope.names.lookup x = some k := by
  rw [o.sc]; exact of_decide_eq_true h
theorem Okx.gl (o : Okx X c G n au) {x : Str} (h : c.gl x = true) : Gl X x ∧ (x == ("__debug__" : Str)) = false := by
  unfold CK.gl at h
  simp only [Bool.and_eq_true, Bool.not_eq_true'] at h
  exact ⟨o.kind h.1, h.2⟩
theorem Okx.bltn (o : Okx X c G n au) {x : Str} (h : c.bltn x = true) : Gl X x ∧ X.mg x = none ∧ x ≠ "__name__" ∧ (x == ("__debug__" : Str)) = false := by
  unfold CK.bltn at h
  simp only [Bool.and_eq_true, Bool.not_eq_true', List.contains_iff_mem] at h
  obtain ⟨⟨h1, h2⟩, h3⟩ := h
  obtain ⟨q1, q2⟩ := o.gl h1
  exact ⟨q1, o.blt x h2, by simpa using h3, q2⟩
theorem Okx.var (o : Okx X c G n au) {x : Str} {i : Nat} {pos : Pos} (h : c.var x i = true) : PE X (.Name x pos) (L2.tVar i) := by
  unfold CK.var CK.vis at h
  simp only [Bool.and_eq_true, Bool.not_eq_true', Bool.or_eq_true] at h
  obtain ⟨⟨⟨h1, h2⟩, h3⟩, h4⟩ := h
  refine L2.pe_var (by rw [o.hN]; exact of_decide_eq_true h1) ?_ h3 h4
  rcases h2 with (h2 | h2) | h2
  · exact .inl (o.kind h2)
  · exact .inr (.inl (o.kind h2))
  · exact .inr (.inr (o.kind h2))
theorem Okx.tgt (o : Okx X c G n au) {x : Str} {i : Nat} {pos : Pos} (h : c.tgt x i = true) : PG X (.Name x pos) (L2.gName i) ∧ (au.isSome = true → i ≠ 0) ∧ X.N[i]? = some x ∧ L2.Loc X.env.scope x ∧ (X.fn x = true ∨ X.env.scope.names.lookup x = some .local) := by
  unfold CK.tgt CK.loc at h
  simp only [Bool.and_eq_true, Bool.not_eq_true', Bool.or_eq_true] at h
  obtain ⟨⟨⟨h1, h2⟩, h3⟩, h4⟩ := h
  have hi : X.N[i]? = some x := by rw [o.hN]; exact of_decide_eq_true h1
  have hl : L2.Loc X.env.scope x := h2.elim (fun q => .inl (o.kind q)) fun q => .inr (o.kind q)
  refine ⟨L2.pg_name (by rw [o.hN]; exact o.nd) hi hl (o.fn x h3), fun ha e => ?_, hi, hl, o.fn x h3⟩
  rw [o.au] at ha
  subst e
  rw [ha] at h4
  simp at h4
theorem Okx.un (o : Okx X c G n au) : X.A.units + 66 < cLine := by have := o.rg.rm.un; omega
theorem Okx.blk (o : Okx X c G n au) (s : Shared) (H : Hp) (scope : Scope) (cl : List (Str × Addr)) (Ca : Addr) (fp : List Addr) : Okx (X.blk s H scope (compEnvC scope cl Ca X.env) fp) (c.blk scope) G n au where
  hG := o.hG
  hN := o.hN
  nd := o.nd
  sc := by
    show relabel scope X.env = _
    unfold relabel CK.blk Env.kindOf
    rw [o.sc]
  calm := o.calm
  fn := fun x h => by
    unfold CK.fnB at h
    simp only [Bool.or_eq_true] at h
    rcases h with h | h
    · refine .inr ?_
      show (relabel scope X.env).names.lookup x = _
      have e : relabel scope X.env = (c.blk scope).sc := by
        unfold relabel CK.blk Env.kindOf
        rw [o.sc]
      rw [e]
      exact of_decide_eq_true h
    · refine .inl ?_
      show (scope.names.lookup x == some NameKind.cell) = true
      have h' : scope.names.lookup x = some .cell := of_decide_eq_true h
      rw [h']
      rfl
  own := PassesOwn.never
  rg := o.rg
  au := o.au
  blt := o.blt
  gcd := o.gcd
  fns := fun f en h => ⟨(o.fns f en h).ex⟩
  glb := o.glb
  tab := o.tab
theorem Okx.cfn (o : Okx X c G n au) {f : String} {en : Entry} (h : c.T f = some en) : (ctxN G n).fn f = (fun ds => if en.fn.urn then none else (callU G n f ds []).map (·.1)) ∧ (ctxN G n).ufn f = (fun ds u => if en.fn.urn then callU G n f ds u else none) ∧ G.ff f = en.fn.fresh := by
  have hT : G.T f = some en.fn := by rw [o.tab, h]; rfl
  refine ⟨?_, ?_, ?_⟩
  · funext ds; unfold ctxN ctxOf; simp only [hT]
  · funext ds u; unfold ctxN ctxOf; simp only [hT]
  · unfold Prog.ff; rw [hT]
theorem namesB_ok (o : Okx X c G n au) : ∀ {is : List Nat} {es : List Expr}, namesB c is es = true → PGs X es (gMany is) ∧ (assignEach es X.env).length = is.length ∧ (assignEach es X.env).findIdx? (·.1) = none ∧ (au.isSome = true → 0 ∉ is) ∧ es.length = is.length
  | [], [], _ => ⟨L2.pgs_nil, rfl, rfl, fun _ => by simp, rfl⟩
  | [], _ :: _, h => by simp [namesB] at h
  | _ :: _, [], h => by simp [namesB] at h
  | i :: is, e :: es, h => by
    cases e <;> try (simp [namesB] at h; done)
    rename_i x p
    simp only [namesB, Bool.and_eq_true] at h
    obtain ⟨g1, g2, _⟩ := o.tgt (pos := p) h.1
    obtain ⟨k1, k2, k3, k4, k5⟩ := namesB_ok o h.2
    refine ⟨L2.pgs_cons g1 k1 rfl, congrArg Nat.succ k2, ?_, fun ha hm => ?_, congrArg Nat.succ k5⟩
    · show ((false, assign (.Name x p) X.env) :: assignEach es X.env).findIdx? (·.1) = none
      rw [List.findIdx?_cons, k3]
      rfl
    · rcases List.mem_cons.mp hm with e | e
      · exact g2 ha e.symm
      · exact k4 ha e
theorem chkG_ok (o : Okx X c G n au) {t : Tg} {tg : Expr} (h : chkG c t tg = true) : SimG X tg t ∧ (au.isSome = true → 0 ∉ tgIx t) := by
  unfold chkG at h
  split at h <;> first | contradiction | skip
  · obtain ⟨g1, g2, _⟩ := o.tgt (pos := ‹Pos›) h
    exact ⟨simG_one g1, fun ha hm => g2 ha (List.mem_singleton.mp hm).symm⟩
  · obtain ⟨k1, k2, k3, k4, _⟩ := namesB_ok o h
    exact ⟨simG_many o.calm k1 k2 k3, k4⟩
end

/-- an expression is what its term says, as a value and as a test -/
structure OkE (X : Cx) (C : Ctx) (ff : String → Bool) (au : Option Addr) (e : Expr) (p : E) : Prop where
  s : Sim X C ff au e p
  t : SimT X C au e p
  w : ∀ op es pos, e = .BoolOp op es pos → SimW X C au e p
theorem okE_of {X : Cx} {C : Ctx} {ff : String → Bool} {au : Option Addr} {e : Expr} {p : E} (h : Sim X C ff au e p) (he : ∀ whole, isTrue e X.env whole = (do let v ← whole; standAt e.pos; holding [v] (truthy v))) (hb : ∀ op es pos, e ≠ .BoolOp op es pos) : OkE X C ff au e p :=
  ⟨h, simT_of h he, fun op es pos z => absurd z (hb op es pos)⟩
theorem okE_bi {X : Cx} {C : Ctx} {ff : String → Bool} {au : Option Addr} {e : Expr} {p : E} (h : Sim X C ff au e p) (t : SimT X C au e p) (hb : ∀ op es pos, e ≠ .BoolOp op es pos) : OkE X C ff au e p := ⟨h, t, fun op es pos z => absurd z (hb op es pos)⟩
theorem okE_never {X : Cx} {C : Ctx} {ff : String → Bool} {au : Option Addr} {e : Expr} {p : E} (h : ∀ env u, evalE C p env u = none) : OkE X C ff au e p :=
  ⟨sim_never h pe_never, ⟨L2.PT.imp pt_never fun σ H Q ⟨F, env, u, d, u', A, ev, k⟩ => by rw [h] at ev; cases ev⟩, fun _ _ _ _ => ⟨L2.PW.imp pw_never fun σ H Q ⟨F, env, u, d, u', A, ev, k⟩ => by rw [h] at ev; cases ev⟩⟩
structure SimK (X : Cx) (C : Ctx) (au : Option Addr) (kws : List Keyword) (p : Es) : Prop where
  t : PK X kws (wpEs X.K C au p)
def esApp : Es → Es → Es | .nil, q => q | .cons e es, q => .cons e (esApp es q)
section
variable {X : Cx} {C : Ctx} {ff : String → Bool} {au : Option Addr} {K : PySem.W.Frag}
theorem simK_nil : SimK X C au [] .nil := ⟨⟨fun pos pins s σ H Q I ⟨F, env, u, d, u', A, ev, k⟩ => by
  simp only [evalEs, Option.some.injEq, Prod.mk.injEq] at ev
  obtain ⟨rfl, rfl⟩ := ev
  exact L2.pk_nil.run pos pins s σ H Q I (k [] F H A.post .nil)⟩⟩
theorem simK_cons {a : Expr} {pa : E} {ps : Es} {kws : List Keyword} {nm : Option Str} {kpos : Pos} (ha : Sim X C ff au a pa) (hs : SimK X C au kws ps) : SimK X C au (⟨nm, a, kpos⟩ :: kws) (.cons pa ps) :=
  ⟨⟨fun pos pins s σ H Q I ⟨F, env, u, d, u', A, ev, k⟩ => by
    simp only [evalEs] at ev
    obtain ⟨⟨da, u1⟩, e1, ev⟩ := Option.bind_eq_some_iff.mp ev
    obtain ⟨⟨ds, u2⟩, e2, ev⟩ := Option.bind_eq_some_iff.mp ev
    cases ev
    refine (L2.pk_cons ha.pl hs.t).run pos pins s σ H Q I ⟨F, env, u, da, u1, A.l, e1, fun v F1 H1 P1 r1 => ?_⟩
    have A1 := A.step P1
    refine ⟨F1, env, u1, ds, u2, A1.r, e2, fun vs F2 H2 P2 r2 => ?_⟩
    exact k _ F2 H2 (P1.trans P2) (.cons (dp_sub (A1.subF P2) _ _ r1) r2)⟩⟩
theorem fvEs_app : ∀ (p q : Es), fvEs (esApp p q) = fvEs p ++ fvEs q
  | .nil, q => rfl
  | .cons e es, q => by show fvE e ++ fvEs (esApp es q) = _; rw [fvEs_app es q, ← List.append_assoc]; rfl
theorem evalEs_app : ∀ {p q : Es} {env : Env} {u u' : U} {ds : List D}, evalEs C (esApp p q) env u = some (ds, u') → ∃ d1 u1 d2, evalEs C p env u = some (d1, u1) ∧ evalEs C q env u1 = some (d2, u') ∧ ds = d1 ++ d2
  | .nil, q, env, u, u', ds, h => ⟨[], u, ds, rfl, h, rfl⟩
  | .cons e es, q, env, u, u', ds, h => by
    simp only [esApp, evalEs] at h
    obtain ⟨⟨d, u1⟩, h1, h⟩ := Option.bind_eq_some_iff.mp h
    obtain ⟨⟨r, u2⟩, h2, h⟩ := Option.bind_eq_some_iff.mp h
    cases h
    obtain ⟨d1, u3, d2, g1, g2, g3⟩ := evalEs_app h2
    refine ⟨d :: d1, u3, d2, ?_, g2, by rw [g3]; rfl⟩
    simp only [evalEs, h1, Option.bind_some, g1]
theorem wpEs_app {p q : Es} {σ : L2.St} {H : Hp} {Q : List V → Hp → Prop} (h : wpEs K C au (esApp p q) σ H Q) : wpEs K C au p σ H fun vs H1 => wpEs K C au q σ H1 fun zs H2 => Q (vs ++ zs) H2 := by
  obtain ⟨F, env, u, ds, u', A, ev, k⟩ := h
  rw [fvEs_app] at A
  obtain ⟨d1, u1, d2, g1, g2, rfl⟩ := evalEs_app ev
  refine ⟨F, env, u, d1, u1, A.l, g1, fun vs F1 H1 P1 r1 => ⟨F1, env, u1, d2, u', (A.step P1).r, g2, fun zs F2 H2 P2 r2 => ?_⟩⟩
  exact k _ F2 H2 (P1.trans P2) (dpAll_append (dpAll_sub ((A.step P1).subF P2) _ _ r1) r2)
end
end Pl

/-! PSound15: the checker is right: expressions. -/
namespace Pl
open PySem PyProof.Rows
open L2 (V Hp HO VK XK TE TT TA TS TG TGs Cx PE PT PW PA PS PSs PG PGs PI PK Inv SqL SqT Dp DpAll Vals RelV EP Gl Vis Ends Sp FnScope Env0 CE CR CX0 Room Fun Binds KBinds)

section
variable {X : Cx} {c : CK} {G : Prog} {n : Nat} {au : Option Addr} {C : Ctx} {ff : String → Bool} {e a : Expr} {es args : List Expr} {pa : E} {ps : Es} {pos pos2 : Pos} {f : String} {x : Str}
/-- f(k = v, ..), no argument by place -/
theorem pe_callKG0 {k : Nat} {fa : Addr} {fd : FuncData} {ps ks : List Str} {sp : Sp} {kws : List Keyword} {tk : TA} {g : List Value → List Value → List Value} {gV : List V → List V → List V} {E : XK} (F : FnG X.prog X.w X.K X.mg X.base k fa fd ps sp) (rg : RoomG k X.A) (hg : Gl X x) (hm : X.mg x = some (.ref fa)) (hk : PySem.W.keepIn X.K (.ref fa) = true) (hb : KBinds X.K fd ps ks g gV)
    (hkw : PK X kws tk) (hall : (backToKw pos (keywordEach kws X.env)).all (·.1.isSome) = true) (hks : (backToKw pos (keywordEach kws X.env)).filterMap (·.1) = ks)
    (hdb : (x == ("__debug__" : Str)) = false) (hpl : ((backTo pos (starEach [] X.env)).any (·.1) || (backToKw pos (keywordEach kws X.env)).any (·.1.isNone)) = false) :
    PE X (.Call (.Name x pos2) [] kws pos) (fun σ H Q => tk σ H fun zs H2 => sp (gV [] zs) H2 Q E) := ⟨fun pins s σ H Q I h => by
  refine wpAny_Call_Name_kw (L2.ld_glob I hg hm ?_ hdb)
  refine PySem.W.callWith_KW0 (h₀ := X.base) I.ok.mod.kin hk hall (L2.thn (hkw.run pos pins s σ H _ I h) fun ws s2 ⟨zs, H2, I2, rz, q2⟩ => ⟨I2.kIn, ?_⟩) hpl
  subst hks
  exact fnG_run (us := []) F rg hb I2 .nil rz q2⟩
theorem gK_pick {np nk : Nat} {perm : List Nat} {ds ds' : List D} {vs zs : List V} {K : PySem.W.Frag} {F : Hp} (h : DpAll K F (vs ++ zs) ds) (e : pick ds perm = some ds') (h1 : vs.length = np) (h2 : zs.length = nk) : DpAll K F (gK np nk perm vs zs) ds' := by
  unfold gK
  rw [if_pos ⟨h1, h2⟩]
  clear h1 h2
  induction perm generalizing ds' with
  | nil => simp only [pick, Option.some.injEq] at e; subst e; exact .nil
  | cons i is ih =>
    simp only [pick] at e
    obtain ⟨d, q1, e⟩ := Option.bind_eq_some_iff.mp e
    obtain ⟨r, q2, e⟩ := Option.bind_eq_some_iff.mp e
    cases e
    obtain ⟨v, g1, g2⟩ := dpAll_get h q1
    rw [List.filterMap_cons, g1]
    exact .cons g2 (ih q2)
theorem esApp_nil : ∀ (p : Es), esApp p .nil = p
  | .nil => rfl
  | .cons e es => congrArg (Es.cons e) (esApp_nil es)
theorem esApp_len : ∀ (p q : Es), esLen (esApp p q) = esLen p + esLen q
  | .nil, q => by simp [esApp, esLen]
  | .cons e es, q => by simp only [esApp, esLen]; rw [esApp_len es q]; omega
theorem wpEs_len {K : PySem.W.Frag} {σ : L2.St} {H : Hp} {Q : List V → Hp → Prop} (h : wpEs K C au ps σ H fun vs H1 => vs.length = esLen ps → Q vs H1) : wpEs K C au ps σ H Q := by
  obtain ⟨F, env, u, ds, u', A, ev, k⟩ := h
  exact ⟨F, env, u, ds, u', A, ev, fun vs F' H' P r => k vs F' H' P r (by rw [dpAll_len r, evalEs_len ev])⟩
/-- a call of a def with values -/
theorem okx_call {en : Entry} {perm : List Nat} {kws : List Keyword} {p1 p2 : Es} (o : Okx X c G n au) (hT : c.T f = some en) (hu : en.fn.urn = false) (hnp : perm.length = en.fn.np) (hg : c.gl x = true) (hx : x = Str.ofString f) (hst : starsB args = true) (hkw : kwsB kws = true)
    (h1 : SimA X (ctxN G n) au args p1) (h2 : SimK X (ctxN G n) au kws p2) (l1 : esLen p1 = args.length) (l2 : esLen p2 = (kwNames kws).length)
    (h : if kws.isEmpty then (!args.isEmpty && decide (perm = List.range' 0 perm.length) && decide (esLen (esApp p1 p2) = perm.length)) = true else en.kws.contains (args.length, kwNames kws, perm) = true) :
    Sim X (ctxN G n) G.ff au (.Call (.Name x pos2) args kws pos) (.call f (esApp p1 p2) perm) := by
  obtain ⟨q1, q2⟩ := o.gl hg
  obtain ⟨fa, fd, m1, m2, m3, m4, m5⟩ := (o.fns f en hT).ex
  obtain ⟨c1, c2, c3⟩ := o.cfn hT
  have hC : ∀ ds, (ctxN G n).fn f ds = (callU G n f ds []).map (·.1) := fun ds => by rw [c1]; simp only [hu, Bool.false_eq_true, if_false]
  subst hx
  by_cases hk : kws.isEmpty = true
  · rw [if_pos hk] at h
    simp only [Bool.and_eq_true, Bool.not_eq_true', decide_eq_true_eq] at h
    obtain ⟨⟨g1, g2⟩, g3⟩ := h
    have hkn : kws = [] := List.isEmpty_iff.mp hk
    subst hkn
    cases args with
    | nil => simp at g1
    | cons a0 args =>
      have p2n : p2 = .nil := by
        cases p2 with
        | nil => rfl
        | cons _ _ => simp [esLen, kwNames] at l2
      subst p2n
      have hs := hst
      simp only [starsB, List.all_cons, Bool.and_eq_true] at hs
      refine sim_callV (p := en.fn) hC hu c3 hnp (t := wpEs X.K (ctxN G n) au p1) ?_ (pe_callG m5 o.rg q1 m1 m2 m3 h1.t q2 (star_cons hs.1) (star_any hs.2))
      rintro σ H Q ⟨F, env, u, ds, u', ds', A, ev, hp, k⟩
      rw [esApp_nil] at A ev g3
      have hl : perm.length = ds.length := by rw [evalEs_len ev, g3]
      rw [g2, hl, pick_range ds ds.length 0 (by omega)] at hp
      cases hp
      exact ⟨F, env, u, ds, u', A, ev, k⟩
  · rw [if_neg hk] at h
    have hmem : (args.length, kwNames kws, perm) ∈ en.kws := by simpa using h
    have hb := m4 _ hmem
    cases args with
    | nil =>
      refine sim_callV (p := en.fn) hC hu c3 hnp (t := fun σ H Q => wpEs X.K (ctxN G n) au p2 σ H fun zs H2 => Q (gK 0 (kwNames kws).length perm [] zs) H2) ?_ (pe_callKG0 m5 o.rg q1 m1 m2 hb h2.t (kw_all hkw) kw_names q2 (by rw [kw_any hkw]; rfl))
      rintro σ H Q ⟨F, env, u, ds, u', ds', A, ev, hp, k⟩
      have p1n : p1 = .nil := by
        cases p1 with
        | nil => rfl
        | cons _ _ => simp [esLen] at l1
      subst p1n
      exact wpEs_len ⟨F, env, u, ds, u', A, ev, fun vs F' H' P r hl => k _ F' H' P (gK_pick (by simpa using r) hp rfl (by rw [hl, l2]))⟩
    | cons a0 args =>
      have hs := hst
      simp only [starsB, List.all_cons, Bool.and_eq_true] at hs
      refine sim_callV (p := en.fn) hC hu c3 hnp (t := fun σ H Q => wpEs X.K (ctxN G n) au p1 σ H fun vs H1 => wpEs X.K (ctxN G n) au p2 σ H1 fun zs H2 => Q (gK (a0 :: args).length (kwNames kws).length perm vs zs) H2) ?_
        (pe_callKG m5 o.rg q1 m1 m2 hb h1.t h2.t (kw_all hkw) kw_names q2 (star_cons hs.1) (by rw [kw_any hkw, star_any hst]; rfl))
      rintro σ H Q ⟨F, env, u, ds, u', ds', A, ev, hp, k⟩
      obtain ⟨d1, u1, d2, g1, g2, rfl⟩ := evalEs_app ev
      rw [fvEs_app] at A
      refine ⟨F, env, u, d1, u1, A.l, g1, fun vs F1 H1 P1 r1 => ⟨F1, env, u1, d2, u', (A.step P1).r, g2, fun zs F2 H2 P2 r2 => ?_⟩⟩
      refine k _ F2 H2 (P1.trans P2) (gK_pick (dpAll_append (dpAll_sub ((A.step P1).subF P2) _ _ r1) r2) hp ?_ ?_)
      · rw [dpAll_len r1, evalEs_len g1, l1]
      · rw [dpAll_len r2, evalEs_len g2, l2]
end
end Pl

/-! PSound16: the checker is right: expressions. -/
namespace Pl
open PySem PyProof.Rows
open L2 (V Hp HO VK XK TE TT TA TS TG TGs Cx PE PT PW PA PS PSs PG PGs PI PK Inv SqL SqT Dp DpAll Vals RelV EP Gl Vis Ends Sp FnScope Env0 CE CR CX0 Room Fun Binds KBinds)

section
variable {X : Cx} {c : CK} {G : Prog} {n : Nat} {au : Option Addr} {C : Ctx} {ff : String → Bool} {e a : Expr} {es args : List Expr} {pa : E} {ps : Es} {pos pos2 : Pos} {f : String} {x : Str}

theorem okx_lit {k : Const} {j : Nat} (h : litB k = true) : OkE X C ff au (.Constant k j pos) (.lit k) := by
  refine okE_of ?_ (fun _ => rfl) (fun _ _ _ => nofun)
  cases k <;> first | exact sim_none | exact sim_bool | exact sim_int | exact sim_str | (simp [litB] at h)
theorem okx_glob (o : Okx X c G n au) (hg : c.gl x = true) (hx : x = Str.ofString f) : OkE X (ctxN G n) ff au (.Name x pos) (.glob f) := by
  subst hx
  obtain ⟨q1, q2⟩ := o.gl hg
  have hC : (ctxN G n).glob f = G.glob f := rfl
  cases hd : G.glob f with
  | none => exact okE_never fun env u => by simp [evalE, hC, hd]
  | some d =>
    obtain ⟨v, u, m, r, dp⟩ := o.glb f d hd
    exact okE_of (sim_glob (L2.pe_glob q1 m r q2) (hC.trans hd) dp) (fun _ => rfl) (fun _ _ _ => nofun)
theorem okx_ucall {en : Entry} {y : Str} {p3 : Pos} (o : Okx X c G n au) (hT : c.T f = some en) (hu : en.fn.urn = true) (hnp : esLen ps + 1 = en.fn.np) (hg : c.gl x = true) (hx : x = Str.ofString f) (hst : starsB args = true) (hurn : c.urn = true) (hy : c.var y 0 = true)
    (h1 : SimA X (ctxN G n) au args ps) : Sim X (ctxN G n) G.ff au (.Call (.Name x pos2) (.Name y p3 :: args) [] pos) (.ucall f ps) := by
  obtain ⟨q1, q2⟩ := o.gl hg
  obtain ⟨fa, fd, m1, m2, m3, m4, m5⟩ := (o.fns f en hT).ex
  obtain ⟨c1, c2, c3⟩ := o.cfn hT
  subst hx
  refine sim_ucall (p := en.fn) (c := callU G n f) (fun ds u => by rw [c2]; simp only [hu, if_true]) (o.au.trans hurn) hu c3 hnp (t := fun σ H Q => L2.tCons (L2.tVar 0) (wpEs X.K (ctxN G n) au ps) σ H fun vs H1 => spF X.K en.fn (callU G n f) vs H1 Q L2.E0)
    (fun σ H Q ⟨a, ha, hs, h⟩ => ⟨_, hs, h⟩) (pe_callG m5 o.rg q1 m1 m2 m3 (L2.pa_cons (o.var hy) h1.t rfl) q2 rfl (star_any hst))
theorem okx_ncall {en : Entry} {a0 : Expr} (o : Okx X c G n au) (hT : c.T f = some en) (hu : en.fn.urn = true) (hnp : esLen ps + 1 = en.fn.np) (hg : c.gl x = true) (hx : x = Str.ofString f) (hst : starsB (a0 :: args) = true) (hk : fk G.ff pa = true)
    (h0 : Sim X (ctxN G n) G.ff au a0 pa) (h1 : SimA X (ctxN G n) au args ps) : Sim X (ctxN G n) G.ff au (.Call (.Name x pos2) (a0 :: args) [] pos) (.ncall f pa ps) := by
  obtain ⟨q1, q2⟩ := o.gl hg
  obtain ⟨fa, fd, m1, m2, m3, m4, m5⟩ := (o.fns f en hT).ex
  obtain ⟨c1, c2, c3⟩ := o.cfn hT
  subst hx
  simp only [starsB, List.all_cons, Bool.and_eq_true] at hst
  have h0' := h0.raw
  rw [hk] at h0'
  refine sim_ncall (p := en.fn) (c := callU G n f) (fun ds u => by rw [c2]; simp only [hu, if_true]) hu c3 hnp hk (t := fun σ H Q => L2.tCons (wpE true X.K (ctxN G n) au pa) (wpEs X.K (ctxN G n) au ps) σ H fun vs H1 => spF X.K en.fn (callU G n f) vs H1 Q L2.E0)
    (fun σ H Q h => h) (pe_callG m5 o.rg q1 m1 m2 m3 (L2.pa_cons h0' h1.t (star_cons hst.1)) q2 (star_cons hst.1) (star_any hst.2))
theorem okx_isi {b : BI} {ty y : Str} {p3 : Pos} {q : E} {a0 : Expr} (o : Okx X c G n au) (hb : isTy b = some ty) (hg : c.bltn ("isinstance" : Str) = true) (hy : c.bltn y = true) (hty : y = ty) (hst : notStar a0 = true) (h : Sim X (ctxN G n) G.ff au a0 q) :
    Sim X (ctxN G n) G.ff au (.Call (.Name "isinstance" pos2) [a0, .Name y p3] [] pos) (.bi b (.cons q .nil)) := by
  obtain ⟨g1, g2, g3, g4⟩ := o.bltn hg
  obtain ⟨k1, k2, k3, k4⟩ := o.bltn hy
  subst hty
  cases b <;> simp only [isTy, Option.some.injEq, reduceCtorEq] at hb <;> subst hb
  · exact sim_isi .isInt isi_int (fun d d' e => by simp only [biV, Option.some.injEq] at e; exact ⟨_, e.symm⟩) rfl g1 g2 h k1 k2 (by decide +kernel) k3 k4 (star_cons hst)
  · exact sim_isi .isBool isi_bool (fun d d' e => by simp only [biV, Option.some.injEq] at e; exact ⟨_, e.symm⟩) rfl g1 g2 h k1 k2 (by decide +kernel) k3 k4 (star_cons hst)
  · exact sim_isi .isTuple isi_tuple (fun d d' e => by simp only [biV, Option.some.injEq] at e; exact ⟨_, e.symm⟩) rfl g1 g2 h k1 k2 (by decide +kernel) k3 k4 (star_cons hst)
  · exact sim_isi .isList isi_list (fun d d' e => by simp only [biV, Option.some.injEq] at e; exact ⟨_, e.symm⟩) rfl g1 g2 h k1 k2 (by decide +kernel) k3 k4 (star_cons hst)
  · exact sim_isi .isStr isi_str (fun d d' e => by simp only [biV, Option.some.injEq] at e; exact ⟨_, e.symm⟩) rfl g1 g2 h k1 k2 (by decide +kernel) k3 k4 (star_cons hst)
theorem okx_bi {b : BI} {a0 : Expr} (o : Okx X c G n au) (hst : starsB (a0 :: args) = true) (hg : c.bltn x = true) (hn : biName b = some x) (h : SimA X (ctxN G n) au (a0 :: args) ps) :
    Sim X (ctxN G n) G.ff au (.Call (.Name x pos2) (a0 :: args) [] pos) (.bi b ps) := by
  obtain ⟨g1, g2, g3, g4⟩ := o.bltn hg
  simp only [starsB, List.all_cons, Bool.and_eq_true] at hst
  have s1 := star_cons (env := X.env) (es := args) hst.1
  have s2 := star_any (env := X.env) (pos := pos) hst.2
  cases b <;> simp only [biName, Option.some.injEq, reduceCtorEq] at hn <;> subst hn
  · exact sim_biB .len bi_len (by decide) (by decide) (by decide) g1 g2 (by decide +kernel) h g3 g4 s1 s2
  · exact sim_biB .abs bi_abs (by decide) (by decide) (by decide) g1 g2 (by decide +kernel) h g3 g4 s1 s2
  · exact sim_biT .int bi_int (by decide) (by decide) (by decide) g1 g2 (by decide +kernel) h g3 g4 s1 s2
  · exact sim_biT .tuple bi_tuple (by decide) (by decide) (by decide) g1 g2 (by decide +kernel) h g3 g4 s1 s2
  · exact sim_list g1 g2 h s1 s2
  · exact sim_biB .all (bi_all o.calm) (by decide) (by decide) (by decide) g1 g2 (by decide +kernel) h g3 g4 s1 s2
  · exact sim_biB .any (bi_any o.calm) (by decide) (by decide) (by decide) g1 g2 (by decide +kernel) h g3 g4 s1 s2
  · exact sim_biB .sum (bi_sum o.calm) (by decide) (by decide) (by decide) g1 g2 (by decide +kernel) h g3 g4 s1 s2
  · exact sim_biB .max2 (bi_max2 o.calm) (by decide) (by decide) (by decide) g1 g2 (by decide +kernel) h g3 g4 s1 s2
  · exact sim_biB .min2 (bi_min2 o.calm) (by decide) (by decide) (by decide) g1 g2 (by decide +kernel) h g3 g4 s1 s2
  · exact sim_biB .divmod bi_divmod (by decide) (by decide) (by decide) g1 g2 (by decide +kernel) h g3 g4 s1 s2
  · exact sim_biB .repr (bi_repr o.rg.gd o.un) (by decide) (by decide) (by decide) g1 g2 (by decide +kernel) h g3 g4 s1 s2
theorem ownL_map {own : List Nat} : (ownL c own).map (·.2) = own := by
  unfold ownL
  rw [List.map_map]
  exact List.map_id own
theorem ownB_ok (o : Okx X c G n au) {t : Tg} {own : List Nat} (h : ownB c t own = true) : (au.isSome = true → 0 ∉ own ∧ 0 ∉ tgIx t) ∧ ∀ i ∈ tgIx t, i ∈ own := by
  unfold ownB at h
  simp only [Bool.and_eq_true, List.all_eq_true] at h
  refine ⟨fun ha => ?_, fun i hi => by simpa using h.2 i hi⟩
  rw [o.au] at ha
  have := h.1
  rw [ha] at this
  simpa using this
end

mutual
theorem okE {X : Cx} {c : CK} {G : Prog} {n : Nat} {au : Option Addr} (o : Okx X c G n au) : ∀ (p : E) (e : Expr), chkE c p e = true → OkE X (ctxN G n) G.ff au e p
  | .var i, e, h => by
    unfold chkE at h
    split at h <;> first | contradiction | skip
    exact okE_of (sim_var (o.var h)) (fun _ => rfl) (fun _ _ _ => nofun)
  | .lit k, e, h => by
    unfold chkE at h
    split at h <;> first | contradiction | skip
    simp only [Bool.and_eq_true, decide_eq_true_eq] at h
    obtain ⟨h1, rfl⟩ := h
    exact okx_lit h1
  | .glob g, e, h => by
    unfold chkE at h
    split at h <;> first | contradiction | skip
    simp only [Bool.and_eq_true, decide_eq_true_eq] at h
    exact okx_glob o h.1 h.2
  | .neg a, e, h => by
    unfold chkE at h
    split at h <;> first | contradiction | skip
    exact okE_of (sim_neg (okE o a _ h).s) (fun _ => rfl) (fun _ _ _ => nofun)
  | .not a, e, h => by
    unfold chkE at h
    split at h <;> first | contradiction | skip
    exact okE_bi (sim_not (okE o a _ h).s) (simT_not (okE o a _ h).t) (fun _ _ _ => nofun)
  | .bin op a b, e, h => by
    unfold chkE at h
    split at h <;> first | contradiction | skip
    simp only [Bool.and_eq_true, decide_eq_true_eq] at h
    obtain ⟨⟨rfl, ha⟩, hb⟩ := h
    have ia := (okE o a _ ha).s
    have ib := (okE o b _ hb).s
    refine okE_of ?_ (fun _ => rfl) (fun _ _ _ => nofun)
    cases op
    · exact sim_add ia ib
    · exact sim_sub ia ib
    · exact sim_mul ia ib
    · exact sim_fdiv ia ib
    · exact sim_mod ia ib
    · exact sim_pow ia ib
  | .cmp op a b, e, h => by
    unfold chkE at h
    split at h <;> first | contradiction | skip
    simp only [Bool.and_eq_true, decide_eq_true_eq, Bool.not_eq_true'] at h
    obtain ⟨⟨⟨rfl, ha⟩, hb⟩, hm⟩ := h
    exact okE_bi (sim_cmp op o.un (okE o a _ ha).s (okE o b _ hb).s hm) (simT_cmp (ff := G.ff) op o.un (okE o a _ ha).s (okE o b _ hb).s hm) (fun _ _ _ => nofun)
  | .chain p1 p2 a b d, e, h => by
    unfold chkE at h
    split at h <;> first | contradiction | skip
    simp only [Bool.and_eq_true, decide_eq_true_eq, Bool.not_eq_true'] at h
    obtain ⟨⟨⟨⟨⟨rfl, rfl⟩, ha⟩, hb⟩, hd⟩, hm⟩ := h
    exact okE_bi (sim_chain p1 p2 o.un (okE o a _ ha).s (okE o b _ hb).s (okE o d _ hd).s hm) (simT_chain (ff := G.ff) p1 p2 o.un (okE o a _ ha).s (okE o b _ hb).s (okE o d _ hd).s hm) (fun _ _ _ => nofun)
  | .and a b, e, h => by
    unfold chkE at h
    split at h <;> first | contradiction | skip
    simp only [Bool.and_eq_true] at h
    obtain ⟨ha, h⟩ := h
    have ia := okE o a _ ha
    split at h <;> first | contradiction | skip
    · simp only [Bool.and_eq_true, Bool.not_eq_true'] at h
      rw [o.hG] at h
      have ib := okE o b _ h.1
      have w := simW_and ia.t (simW_and1 (pos := ‹Pos›) ib.t)
      exact ⟨sim_and ia.s (sim_one ib.s h.2), simT_W w, fun _ _ _ z => w⟩
    · have ib := okE o b _ h
      have w := simW_and ia.t (ib.w _ _ _ rfl)
      exact ⟨sim_and ia.s ib.s, simT_W w, fun _ _ _ z => w⟩
  | .or a b, e, h => by
    unfold chkE at h
    split at h <;> first | contradiction | skip
    simp only [Bool.and_eq_true] at h
    obtain ⟨ha, h⟩ := h
    have ia := okE o a _ ha
    split at h <;> first | contradiction | skip
    · simp only [Bool.and_eq_true, Bool.not_eq_true'] at h
      rw [o.hG] at h
      have ib := okE o b _ h.1
      have w := simW_or ia.t (simW_or1 (pos := ‹Pos›) ib.t)
      exact ⟨sim_or ia.s (sim_one ib.s h.2), simT_W w, fun _ _ _ z => w⟩
    · have ib := okE o b _ h
      have w := simW_or ia.t (ib.w _ _ _ rfl)
      exact ⟨sim_or ia.s ib.s, simT_W w, fun _ _ _ z => w⟩
  | .ite t a b, e, h => by
    unfold chkE at h
    split at h <;> first | contradiction | skip
    simp only [Bool.and_eq_true] at h
    obtain ⟨⟨ht, ha⟩, hb⟩ := h
    have it := okE o t _ ht
    have ia := okE o a _ ha
    have ib := okE o b _ hb
    exact okE_bi (sim_ite it.t ia.s ib.s) (simT_ite it.t ia.t ib.t fun hh => pt_ite it.t.t ia.t.t ib.t.t hh) (fun _ _ _ => nofun)
  | .tup es, e, h => by
    unfold chkE at h
    split at h <;> first | contradiction | skip
    simp only [Bool.and_eq_true] at h
    exact okE_of (sim_tup (okEs o es _ h.1 h.2).1) (fun _ => rfl) (fun _ _ _ => nofun)
  | .trng a b, e, h => by
    unfold chkE at h
    split at h <;> first | contradiction | skip
    simp only [Bool.and_eq_true, decide_eq_true_eq] at h
    obtain ⟨⟨⟨⟨⟨⟨⟨rfl, h1⟩, rfl⟩, h2⟩, h3⟩, h4⟩, h5⟩, h6⟩ := h
    obtain ⟨g1, g2, _⟩ := o.bltn h1
    obtain ⟨k1, k2, _⟩ := o.bltn h2
    exact okE_of (sim_trng o.calm k1 k2 g1 g2 (okE o a _ h5).s (okE o b _ h6).s (star_cons h3) (star_cons h4) (star_any (by simp [starsB, h4]))) (fun _ => rfl) (fun _ _ _ => nofun)
  | .dict0, e, h => by
    unfold chkE at h
    split at h <;> first | contradiction | skip
    exact okE_of sim_dict0 (fun _ => rfl) (fun _ _ _ => nofun)
  | .lst es, e, h => by
    unfold chkE at h
    split at h <;> first | contradiction | skip
    simp only [Bool.and_eq_true] at h
    exact okE_of (sim_lst (okEs o es _ h.1 h.2).1) (fun _ => rfl) (fun _ _ _ => nofun)
  | .rep es k, e, h => by
    unfold chkE at h
    split at h <;> first | contradiction | skip
    simp only [Bool.and_eq_true] at h
    exact okE_of (sim_rep (okEs o es _ h.1.1 h.1.2).1 (okE o k _ h.2).s) (fun _ => rfl) (fun _ _ _ => nofun)
  | .idx a i, e, h => by
    unfold chkE at h
    split at h <;> first | contradiction | skip
    simp only [Bool.and_eq_true] at h
    exact okE_of (sim_idx (okE o a _ h.1.1).s (okE o i _ h.1.2).s (plainIx_of h.2)) (fun _ => rfl) (fun _ _ _ => nofun)
  | .sli a lo hi, e, h => by
    unfold chkE at h
    split at h <;> first | contradiction | skip
    simp only [Bool.and_eq_true] at h
    exact okE_of (sim_sli (okE o a _ h.1.1).s (okEo o lo _ h.1.2) (okEo o hi _ h.2)) (fun _ => rfl) (fun _ _ _ => nofun)
  | .rev a, e, h => by
    unfold chkE at h
    by_cases hn : neverB a = true
    · refine okE_never fun env u => ?_
      unfold neverB at hn
      split at hn <;> first | contradiction | skip
      rfl
    · simp only [hn, Bool.false_or] at h
      split at h <;> first | contradiction | skip
      exact okE_of (sim_rev (okE o a _ h).s) (fun _ => rfl) (fun _ _ _ => nofun)
  | .uidx k, e, h => by
    unfold chkE at h
    split at h <;> first | contradiction | skip
    simp only [Bool.and_eq_true] at h
    exact okE_of (sim_uidx (o.var h.1.1.2) (o.au.trans h.1.1.1) (okE o k _ h.1.2).s (plainIx_of h.2)) (fun _ => rfl) (fun _ _ _ => nofun)
  | .call f es perm, e, h => by
    unfold chkE at h
    split at h <;> first | contradiction | skip
    simp only [Bool.and_eq_true, decide_eq_true_eq] at h
    obtain ⟨⟨⟨⟨⟨h1, h2⟩, h3⟩, h4⟩, h5⟩, h6⟩ := h
    split at h6 <;> first | contradiction | skip
    rename_i en hT
    simp only [Bool.and_eq_true, decide_eq_true_eq, Bool.not_eq_true'] at h6
    obtain ⟨⟨h6, h7⟩, h8⟩ := h6
    obtain ⟨p1, p2, rfl, g1, g2, g3, g4⟩ := okA o es _ _ h3 h4 h5
    exact okE_of (okx_call o hT h6 h7 h1 h2 h3 h4 g1 g2 g3 g4 (by split at h8 <;> simp_all)) (fun _ => rfl) (fun _ _ _ => nofun)
  | .ucall f es, e, h => by
    unfold chkE at h
    split at h <;> first | contradiction | skip
    simp only [Bool.and_eq_true, decide_eq_true_eq] at h
    obtain ⟨⟨⟨⟨⟨⟨h1, h2⟩, h3⟩, h4⟩, h5⟩, h6⟩, h7⟩ := h
    split at h7 <;> first | contradiction | skip
    rename_i en hT
    simp only [Bool.and_eq_true, decide_eq_true_eq] at h7
    exact okE_of (okx_ucall o hT h7.1 h7.2 h1 h2 h3 h4 h5 (okEs o es _ h3 h6).1) (fun _ => rfl) (fun _ _ _ => nofun)
  | .ncall f a es, e, h => by
    unfold chkE at h
    split at h <;> first | contradiction | skip
    simp only [Bool.and_eq_true, decide_eq_true_eq] at h
    obtain ⟨⟨⟨⟨⟨⟨h1, h2⟩, h3⟩, h4⟩, h5⟩, h6⟩, h7⟩ := h
    split at h7 <;> first | contradiction | skip
    rename_i en hT
    simp only [Bool.and_eq_true, decide_eq_true_eq] at h7
    rw [o.hG] at h4
    exact okE_of (okx_ncall o hT h7.1 h7.2 h1 h2 h3 h4 (okE o a _ h5).s (okEs o es _ (by simp only [starsB, List.all_cons, Bool.and_eq_true] at h3; exact h3.2) h6).1) (fun _ => rfl) (fun _ _ _ => nofun)
  | .bi b es, e, h => by
    unfold chkE at h
    split at h <;> first | contradiction | skip
    simp only [Bool.and_eq_true] at h
    obtain ⟨h1, h⟩ := h
    refine okE_of ?_ (fun _ => rfl) (fun _ _ _ => nofun)
    have h1' := h1
    simp only [starsB, List.all_cons, Bool.and_eq_true] at h1'
    split at h
    · rename_i ty hty
      simp only [Bool.and_eq_true, decide_eq_true_eq] at h
      obtain ⟨⟨rfl, h2⟩, h⟩ := h
      split at h <;> first | contradiction | skip
      simp only [Bool.and_eq_true, decide_eq_true_eq] at h
      obtain ⟨⟨⟨h3, h4⟩, h5⟩, h6⟩ := h
      have ie := (okEs o es _ (by simp [starsB, h1'.1]) h5).2
      split at h6 <;> first | contradiction | skip
      exact okx_isi o hty h2 h4 h3 h1'.1 (ie _ _ rfl _ _ rfl)
    · simp only [Bool.and_eq_true] at h
      obtain ⟨h2, h⟩ := h
      have ie := (okEs o es _ h1 h2).1
      split at h
      · simp only [Bool.and_eq_true, decide_eq_true_eq] at h
        obtain ⟨⟨g1, g2⟩, rfl⟩ := h
        exact sim_gcd (o.gl g2).1 (o.gcd g1) ie (star_cons h1'.1) (star_any h1'.2)
      · simp only [Bool.and_eq_true, decide_eq_true_eq] at h
        exact okx_bi o h1 h.1 h.2 ie
  | .comp elt t it cond own, e, h => by
    unfold chkE at h
    split at h <;> first | contradiction | skip
    simp only [Bool.and_eq_true] at h
    obtain ⟨⟨⟨⟨⟨⟨h1, h2⟩, h3⟩, h4⟩, h5⟩, h6⟩, h7⟩ := h
    obtain ⟨k1, k2⟩ := ownB_ok o h4
    refine okE_of ?_ (fun _ => rfl) (fun _ _ _ => nofun)
    have hS := sim_comp (own := ownL c own) (pos := ‹Pos›) (ff := G.ff) o.calm (by rw [o.hN]; exact o.nd) (okI o it _ _ h1) (L2.blkOk_by (by rw [o.hN, o.sc]; exact h3)) (fun s H Ca cl fp => (chkG_ok (o.blk s H _ cl Ca fp) h5).1)
      (fun s H Ca cl fp => okC (o.blk s H _ cl Ca fp) cond _ h6) (fun s H Ca cl fp => (okE (o.blk s H _ cl Ca fp) elt _ h7).s) (by rw [ownL_map]; exact k1) (by rw [ownL_map]; exact k2) (fun x => folded_no h2)
    rw [ownL_map] at hS
    exact hS
theorem okEs {X : Cx} {c : CK} {G : Prog} {n : Nat} {au : Option Addr} (o : Okx X c G n au) : ∀ (p : Es) (es : List Expr), starsB es = true → chkEs c p es = true → SimA X (ctxN G n) au es p ∧ ∀ q qs, p = .cons q qs → ∀ e r, es = e :: r → Sim X (ctxN G n) G.ff au e q
  | .nil, es, _, h => by
    unfold chkEs at h
    obtain rfl := List.isEmpty_iff.mp h
    exact ⟨simA_nil, fun _ _ => nofun⟩
  | .cons q qs, es, hs, h => by
    unfold chkEs at h
    split at h <;> first | contradiction | skip
    simp only [Bool.and_eq_true] at h
    simp only [starsB, List.all_cons, Bool.and_eq_true] at hs
    have ih := okE o q _ h.1
    refine ⟨simA_cons ih.s (okEs o qs _ hs.2 h.2).1 (star_cons hs.1), fun q' qs' e1 e' r' e2 => ?_⟩
    cases e1
    cases e2
    exact ih.s
theorem okA {X : Cx} {c : CK} {G : Prog} {n : Nat} {au : Option Addr} (o : Okx X c G n au) : ∀ (p : Es) (es : List Expr) (ks : List Keyword), starsB es = true → kwsB ks = true → chkA c p es ks = true → ∃ p1 p2, p = esApp p1 p2 ∧ SimA X (ctxN G n) au es p1 ∧ SimK X (ctxN G n) au ks p2 ∧ esLen p1 = es.length ∧ esLen p2 = (kwNames ks).length
  | .nil, es, ks, _, _, h => by
    unfold chkA at h
    simp only [Bool.and_eq_true] at h
    obtain rfl := List.isEmpty_iff.mp h.1
    obtain rfl := List.isEmpty_iff.mp h.2
    exact ⟨.nil, .nil, rfl, simA_nil, simK_nil, rfl, rfl⟩
  | .cons q qs, es, ks, hs, hk, h => by
    unfold chkA at h
    split at h <;> first | contradiction | skip
    · simp only [Bool.and_eq_true] at h
      simp only [starsB, List.all_cons, Bool.and_eq_true] at hs
      obtain ⟨p1, p2, rfl, g1, g2, g3, g4⟩ := okA o qs _ _ hs.2 hk h.2
      exact ⟨.cons q p1, p2, rfl, simA_cons (okE o q _ h.1).s g1 (star_cons hs.1), g2, congrArg Nat.succ g3, g4⟩
    · rename_i k ks'
      simp only [Bool.and_eq_true] at h
      obtain ⟨nm, kv, kp⟩ := k
      simp only [kwsB, List.all_cons, Bool.and_eq_true] at hk
      obtain ⟨p1, p2, rfl, g1, g2, g3, g4⟩ := okA o qs _ _ rfl hk.2 h.2
      have p1n : p1 = .nil := by
        cases p1 with
        | nil => rfl
        | cons _ _ => simp [esLen] at g3
      subst p1n
      cases nm with
      | none => cases hk.1
      | some nm => exact ⟨.nil, .cons q p2, rfl, simA_nil, simK_cons (okE o q _ h.1).s g2, rfl, congrArg Nat.succ g4⟩
theorem okEo {X : Cx} {c : CK} {G : Prog} {n : Nat} {au : Option Addr} (o : Okx X c G n au) : ∀ (p : Eo) (e : Option Expr), chkEo c p e = true → SimO X (ctxN G n) au e p
  | .no, e, h => by
    unfold chkEo at h
    obtain rfl := Option.isNone_iff_eq_none.mp h
    exact simO_no
  | .yes p, e, h => by
    unfold chkEo at h
    split at h <;> first | contradiction | skip
    exact simO_yes (okE o p _ h).s
theorem okC {X : Cx} {c : CK} {G : Prog} {n : Nat} {au : Option Addr} (o : Okx X c G n au) : ∀ (p : Eo) (es : List Expr), chkC c p es = true → SimC X (ctxN G n) au es p
  | .no, es, h => by
    unfold chkC at h
    obtain rfl := List.isEmpty_iff.mp h
    exact simC_no
  | .yes p, es, h => by
    unfold chkC at h
    split at h <;> first | contradiction | skip
    exact simC_yes (okE o p _ h).t
theorem okI {X : Cx} {c : CK} {G : Prog} {n : Nat} {au : Option Addr} (o : Okx X c G n au) : ∀ (p : I) (tg e : Expr), chkI c p tg e = true → SimI X (ctxN G n) au tg e p
  | .seq p, tg, e, h => simI_seq (okE o p _ (by unfold chkI at h; exact h)).s
  | .range1 a, tg, e, h => by
    unfold chkI at h
    split at h <;> first | contradiction | skip
    simp only [Bool.and_eq_true, decide_eq_true_eq] at h
    obtain ⟨⟨⟨rfl, h1⟩, h2⟩, h3⟩ := h
    obtain ⟨g1, g2, _⟩ := o.bltn h1
    exact simI_range1 g1 g2 (simA_cons (okE o a _ h3).s simA_nil (star_cons h2)) (star_cons h2)
  | .range2 a b, tg, e, h => by
    unfold chkI at h
    split at h <;> first | contradiction | skip
    simp only [Bool.and_eq_true, decide_eq_true_eq] at h
    obtain ⟨⟨⟨⟨⟨rfl, h1⟩, h2⟩, h3⟩, h4⟩, h5⟩ := h
    obtain ⟨g1, g2, _⟩ := o.bltn h1
    have s2 : ∀ b : Expr, notStar b = true → starEach [b] X.env = [(false, eval b X.env)] := fun b hb => star_cons hb
    exact simI_range2 g1 g2 (simA_cons (okE o a _ h4).s (simA_cons (okE o b _ h5).s simA_nil (star_cons h3)) (star_cons h2)) ((star_cons h2).trans (congrArg _ (s2 _ h3))) (s2 _ h3)
  | .range3 _ _ _, tg, e, h => by unfold chkI at h; cases h
  | .revRange1 a, tg, e, h => by
    unfold chkI at h
    split at h <;> first | contradiction | skip
    simp only [Bool.and_eq_true, decide_eq_true_eq] at h
    obtain ⟨⟨⟨⟨⟨rfl, h1⟩, rfl⟩, h2⟩, h3⟩, h4⟩ := h
    obtain ⟨g1, g2, _⟩ := o.bltn h1
    obtain ⟨k1, k2, _⟩ := o.bltn h2
    exact simI_revRange1 k1 k2 g1 g2 (okE o a _ h4).s (star_cons h3)
  | .enum a, tg, e, h => by
    unfold chkI at h
    simp only [Bool.and_eq_true, Bool.not_eq_true'] at h
    obtain ⟨ht, h⟩ := h
    split at h <;> first | contradiction | skip
    simp only [Bool.and_eq_true, decide_eq_true_eq] at h
    obtain ⟨⟨⟨rfl, h1⟩, h2⟩, h3⟩ := h
    obtain ⟨g1, g2, _⟩ := o.bltn h1
    cases tg <;> first | (simp [notTup] at ht; done) | skip
    exact simI_enum g1 g2 (simA_cons (okE o a _ h3).s simA_nil (star_cons h2)) (star_cons h2)
  | .zip a b, tg, e, h => by
    unfold chkI at h
    simp only [Bool.and_eq_true, Bool.not_eq_true'] at h
    obtain ⟨ht, h⟩ := h
    split at h <;> first | contradiction | skip
    simp only [Bool.and_eq_true, decide_eq_true_eq] at h
    obtain ⟨⟨⟨⟨⟨rfl, h1⟩, h2⟩, h3⟩, h4⟩, h5⟩ := h
    obtain ⟨g1, g2, _⟩ := o.bltn h1
    cases tg <;> first | (simp [notTup] at ht; done) | skip
    exact simI_zip g1 g2 (simA_cons (okE o a _ h4).s (simA_cons (okE o b _ h5).s simA_nil (star_cons h3)) (star_cons h2)) (star_cons h2) (star_any (by simp [starsB, h3]))
  | .zip3 _ _ _, tg, e, h => by unfold chkI at h; cases h
  | .rev a, tg, e, h => by
    unfold chkI at h
    split at h <;> first | contradiction | skip
    simp only [Bool.and_eq_true, decide_eq_true_eq] at h
    obtain ⟨⟨⟨rfl, h1⟩, h2⟩, h3⟩ := h
    obtain ⟨g1, g2, _⟩ := o.bltn h1
    exact simI_rev g1 g2 (okE o a _ h3).s (star_cons h2)
end
end Pl

/-! PSound17: the checker is right: statements. -/
namespace Pl
open PySem PyProof.Rows
open L2 (V Hp HO VK XK TE TT TA TS TG TGs Cx PE PT PW PA PS PSs PG PGs PI PK Inv SqL SqT Dp DpAll Vals RelV EP Gl Vis Ends Sp FnScope Env0 CE CR CX0 Room Fun Binds KBinds upd)

/-! ### unpacking -/
def gTu : Tu → TG
  | .nm i => L2.gName i
  | .pl k => L2.gSub (L2.tVar 0) (L2.tC (.int k)) L2.rSetL
def gTus : List Tu → TGs
  | [] => L2.gNil
  | t :: ts => L2.gCons (gTu t) (gTus ts)
section
variable {K : PySem.W.Frag} {au : Option Addr} {H0 F0 : Hp}
theorem tus_go : ∀ {ts : List Tu} {ds : List D} {vs : List V} {σ : L2.St} {H F : Hp} {env env' : Env} {u u' : U} {Q : L2.St → Hp → Prop}, StR K au H0 F0 σ H F env u → DpAll K F vs ds → bindTu ts ds env u = some (env', u') →
    (∀ t ∈ ts, match t with | .nm i => (au.isSome = true → i ≠ 0) | .pl _ => au.isSome = true) → (∀ σ' H' F', StR K au H0 F0 σ' H' F' env' u' → Q σ' H') → gTus ts vs σ H Q
  | [], [], _, σ, H, F, env, env', u, u', Q, R, .nil, e, h0, k => by
    simp only [bindTu, Option.some.injEq, Prod.mk.injEq] at e
    obtain ⟨rfl, rfl⟩ := e
    exact ⟨rfl, k _ _ _ R⟩
  | [], _ :: _, _, σ, H, F, env, env', u, u', Q, R, r, e, h0, k => by simp [bindTu] at e
  | .nm _ :: _, [], _, σ, H, F, env, env', u, u', Q, R, r, e, h0, k => by simp [bindTu] at e
  | .pl _ :: _, [], _, σ, H, F, env, env', u, u', Q, R, r, e, h0, k => by simp [bindTu] at e
  | .nm i :: ts, d :: ds, _, σ, H, F, env, env', u, u', Q, R, .cons a t, e, h0, k => by
    simp only [bindTu] at e
    exact ⟨_, _, rfl, tus_go (ts := ts) (R.put (s := .imm d) a (h0 (.nm i) List.mem_cons_self)) t e (fun t ht => h0 t (List.mem_cons_of_mem _ ht)) k⟩
  | .pl j :: ts, .int z :: ds, _, σ, H, F, env, env', u, u', Q, R, .cons a t, e, h0, k => by
    simp only [bindTu] at e
    split at e <;> first | contradiction | skip
    rename_i hl
    obtain ⟨p, hp⟩ := Option.isSome_iff_exists.mp (h0 (.pl j) List.mem_cons_self)
    refine ⟨_, _, rfl, _, R.s0 p hp, p, u.map V.int, j, j, rfl, rfl, (R.urn p hp).1, ?_, ?_⟩
    · rw [List.length_map]
      unfold L2.ixN
      rw [if_pos (Int.natCast_nonneg j), if_pos (by exact_mod_cast hl)]
      simp
    · have R2 := R.urnSet hp (u.set j z)
      rw [List.map_set] at R2
      obtain rfl := dp_int a
      exact tus_go (ts := ts) R2 t e (fun t ht => h0 t (List.mem_cons_of_mem _ ht)) k
  | .pl j :: ts, .none :: ds, _, σ, H, F, env, env', u, u', Q, R, r, e, h0, k => by simp [bindTu] at e
  | .pl j :: ts, .bool _ :: ds, _, σ, H, F, env, env', u, u', Q, R, r, e, h0, k => by simp [bindTu] at e
  | .pl j :: ts, .str _ :: ds, _, σ, H, F, env, env', u, u', Q, R, r, e, h0, k => by simp [bindTu] at e
  | .pl j :: ts, .list _ :: ds, _, σ, H, F, env, env', u, u', Q, R, r, e, h0, k => by simp [bindTu] at e
  | .pl j :: ts, .tuple _ :: ds, _, σ, H, F, env, env', u, u', Q, R, r, e, h0, k => by simp [bindTu] at e
  | .pl j :: ts, .dict _ :: ds, _, σ, H, F, env, env', u, u', Q, R, r, e, h0, k => by simp [bindTu] at e
theorem bindTu_len : ∀ {ts : List Tu} {ds : List D} {env env' : Env} {u u' : U}, bindTu ts ds env u = some (env', u') → ds.length = ts.length
  | [], [], _, _, _, _, _ => rfl
  | [], _ :: _, _, _, _, _, h => by simp [bindTu] at h
  | .nm _ :: _, [], _, _, _, _, h => by simp [bindTu] at h
  | .pl _ :: _, [], _, _, _, _, h => by simp [bindTu] at h
  | .nm _ :: ts, _ :: ds, _, _, _, _, h => by simp only [bindTu] at h; exact congrArg Nat.succ (bindTu_len h)
  | .pl _ :: ts, d :: ds, _, _, _, _, h => by
    cases d <;> simp only [bindTu] at h <;> first | contradiction | skip
    split at h <;> first | contradiction | skip
    exact congrArg Nat.succ (bindTu_len h)
end

section
variable {X : Cx} {c : CK} {G : Prog} {n : Nat} {au : Option Addr} {C : Ctx} {ff : String → Bool} {fr : Bool}
theorem simS_unp {e : Expr} {p : E} {ts : List Tu} {st : Stmt} (he : Sim X C ff au e p) (h0 : ∀ t ∈ ts, match t with | .nm i => (au.isSome = true → i ≠ 0) | .pl _ => au.isSome = true)
    (h : ∀ {te : TE}, PE X e te → PS X st (L2.tAsg te (L2.gTup X.K ts.length (gTus ts)))) : SimS X C ff au fr st (.unp ts p) :=
  ⟨fun H0 F0 => (h he.pl).imp fun D σ H ⟨F, env, u, oo, R, ev, kk⟩ => by
    simp only [execS] at ev
    obtain ⟨⟨d, u1⟩, e1, ev⟩ := Option.bind_eq_some_iff.mp ev
    cases d <;> simp only at ev <;> first | contradiction | skip
    rename_i ds
    obtain ⟨⟨env2, u2⟩, e2, ev⟩ := Option.bind_eq_some_iff.mp ev
    cases ev
    refine ⟨_, env, u, _, u1, R.at_ (fvE p), e1, fun v F1 H1 P1 r1 => ?_⟩
    obtain ⟨F2, R2, d2⟩ := R.aft P1 r1
    obtain ⟨a, xs, rfl, q1, q2⟩ := dp_tuple d2
    exact ⟨a, xs, rfl, sqT_sub R2.sub q1, by rw [dpAll_len q2, bindTu_len e2], tus_go R2 q2 e2 h0 fun σ' H' F' R' => kk _ _ _ R'⟩⟩
theorem tuB_ok (o : Okx X c G n au) : ∀ {ts : List Tu} {es : List Expr}, tuB c ts es = true → PGs X es (gTus ts) ∧ (assignEach es X.env).length = ts.length ∧ (assignEach es X.env).findIdx? (·.1) = none ∧ (∀ t ∈ ts, match t with | .nm i => (au.isSome = true → i ≠ 0) | .pl _ => au.isSome = true)
  | [], [], _ => ⟨L2.pgs_nil, rfl, rfl, fun _ h => by cases h⟩
  | [], _ :: _, h => by simp [tuB] at h
  | .nm _ :: _, [], h => by simp [tuB] at h
  | .pl _ :: _, [], h => by simp [tuB] at h
  | .nm i :: ts, e :: es, h => by
    unfold tuB at h
    split at h <;> first | contradiction | skip
    rotate_left
    · rename_i e1 e2; cases e1
    · rename_i e1 e2
      cases e1
      cases e2
      simp only [Bool.and_eq_true] at h
      obtain ⟨g1, g2, _⟩ := o.tgt (pos := ‹Pos›) h.1
      obtain ⟨k1, k2, k3, k4⟩ := tuB_ok o h.2
      refine ⟨L2.pgs_cons g1 k1 rfl, congrArg Nat.succ k2, ?_, fun t ht => ?_⟩
      · show ((false, _) :: assignEach es X.env).findIdx? (·.1) = none
        rw [List.findIdx?_cons, k3]
        rfl
      · rcases List.mem_cons.mp ht with e | e
        · subst e; exact g2
        · exact k4 t e
  | .pl i :: ts, e :: es, h => by
    unfold tuB at h
    split at h <;> first | contradiction | skip
    · rename_i e1 e2; cases e1
    · rename_i e1 e2
      cases e1
      cases e2
      simp only [Bool.and_eq_true, decide_eq_true_eq] at h
      obtain ⟨⟨⟨h1, h2⟩, rfl⟩, h4⟩ := h
      obtain ⟨k1, k2, k3, k4⟩ := tuB_ok o h4
      refine ⟨L2.pgs_cons (L2.pg_sub (o.var h2) L2.pe_int L2.set_list (fun _ => rfl)) k1 rfl, congrArg Nat.succ k2, ?_, fun t ht => ?_⟩
      · show ((false, _) :: assignEach es X.env).findIdx? (·.1) = none
        rw [List.findIdx?_cons, k3]
        rfl
      · rcases List.mem_cons.mp ht with e | e
        · subst e; exact o.au.trans h1
        · exact k4 t e

/-! ### stores of pairs -/
theorem blockKind_fn (o : Okx X c G n au) (h : c.sc.kind = .function) : X.env.blockKind = .function := by
  unfold Env.blockKind
  rw [o.sc, h]
  rfl
theorem stars_any {vs : List Expr} (h : starsB vs = true) : (vs.any fun | .Starred .. => true | _ => false) = false := by
  rw [List.any_eq_false]
  intro v hv
  have := List.all_eq_true.mp h v hv
  cases v <;> simp_all [notStar]
def isStar (v : Expr) : Bool := match v with | .Starred _ _ => true | _ => false
theorem star_m {v : Expr} (h : notStar v = true) : isStar v = false := by
  cases v <;> first | rfl | (simp [notStar] at h)
theorem swapped_none1 {t e : Expr} {env : PySem.Env} (h : notTup e = true) : swappedStores [t] e env = pure none := by
  cases e <;> first | (simp [notTup] at h; done) | (cases t <;> rfl)
theorem par2_ok (o : Okx X c G n au) {x y : Str} {px py pt pv : Pos} {kt kv : Nat} {a b : Expr} (h : parB c [.Name x px, .Name y py] [a, b] = true) :
    swappedStores [.Tuple [.Name x px, .Name y py] kt pt] (.Tuple [a, b] kv pv) X.env = pure (some [x, y]) ∧ X.env.scope.names.lookup x = some .local ∧ X.env.scope.names.lookup y = some .local := by
  unfold parB at h
  simp only [Bool.and_eq_true, decide_eq_true_eq, Bool.not_eq_true'] at h
  obtain ⟨⟨⟨⟨⟨h1, ⟨⟨h2, h3⟩, h4⟩, h5⟩, _⟩, h6⟩, h7⟩, h8⟩ := h
  have kx := o.kind h2
  have ky := o.kind h3
  refine ⟨?_, kx, ky⟩
  have nx : X.env.kindOf x = some .local := kx
  have ny : X.env.kindOf y = some .local := ky
  have hd : ([x, y] : List Str).eraseDups = [x, y] := by
    have e1 : (y == x) = false := by
      rw [beq_eq_false_iff_ne] at h5 ⊢
      exact fun z => h5 z.symm
    simp [List.eraseDups_cons, e1]
  unfold swappedStores
  simp [blockKind_fn o h1, h7, h8, nx, ny, h4, Expr.pos, hd]
  simp only [starsB, List.all_cons, Bool.and_eq_true] at h6
  rintro (hh | hh)
  · exact Bool.noConfusion ((star_m h6.1).symm.trans (show isStar _ = true from hh))
  · exact Bool.noConfusion ((star_m h6.2.1).symm.trans (show isStar _ = true from hh))
theorem par3_ok (o : Okx X c G n au) {x y z : Str} {px py pz pt pv : Pos} {kt kv : Nat} {a b d : Expr} (h : parB c [.Name x px, .Name y py, .Name z pz] [a, b, d] = true) :
    swappedStores [.Tuple [.Name x px, .Name y py, .Name z pz] kt pt] (.Tuple [a, b, d] kv pv) X.env = pure (some [x, y, z]) ∧ X.env.scope.names.lookup x = some .local ∧ X.env.scope.names.lookup y = some .local ∧ X.env.scope.names.lookup z = some .local := by
  unfold parB at h
  simp only [Bool.and_eq_true, decide_eq_true_eq, Bool.not_eq_true'] at h
  obtain ⟨⟨⟨⟨⟨h1, ⟨⟨⟨⟨⟨⟨h2, h3⟩, h3'⟩, h4⟩, h4'⟩, h5⟩, h5'⟩, h5''⟩, _⟩, h6⟩, h7⟩, h8⟩ := h
  have kx := o.kind h2
  have ky := o.kind h3
  have kz := o.kind h3'
  refine ⟨?_, kx, ky, kz⟩
  have nx : X.env.kindOf x = some .local := kx
  have ny : X.env.kindOf y = some .local := ky
  have nz : X.env.kindOf z = some .local := kz
  have flip : ∀ {x y : Str}, (x == y) = false → (y == x) = false := fun {x y} h => by
    rw [beq_eq_false_iff_ne] at h ⊢
    exact fun z => h z.symm
  have hd : ([x, y, z] : List Str).eraseDups = [x, y, z] := by
    simp [List.eraseDups_cons, flip h5, flip h5', flip h5'']
  unfold swappedStores
  simp [blockKind_fn o h1, h7, h8, nx, ny, nz, h4, h4', Expr.pos, hd]
  simp only [starsB, List.all_cons, Bool.and_eq_true] at h6
  rintro (hh | hh | hh)
  · exact Bool.noConfusion ((star_m h6.1).symm.trans (show isStar _ = true from hh))
  · exact Bool.noConfusion ((star_m h6.2.1).symm.trans (show isStar _ = true from hh))
  · exact Bool.noConfusion ((star_m h6.2.2.1).symm.trans (show isStar _ = true from hh))
end
end Pl

/-! PSound18: the checker is right: statements. -/
namespace Pl
open PySem PyProof.Rows
open L2 (V Hp HO VK XK TE TT TA TS TG TGs Cx PE PT PW PA PS PSs PG PGs PI PK Inv SqL SqT Dp DpAll Vals RelV EP Gl Vis Ends Sp FnScope Env0 CE CR CX0 Room Fun Binds KBinds upd)

section
variable {X : Cx} {c : CK} {G : Prog} {n : Nat} {au : Option Addr} {C : Ctx} {ff : String → Bool} {fr : Bool}
theorem fm1 {f : Expr → Option Str} {t : Expr} {ts : List Expr} (h : f t = none) : (List.filterMap f (t :: ts)).length ≠ (t :: ts).length := by
  rw [List.filterMap_cons, h]
  have := List.length_filterMap_le f ts
  simp only [List.length_cons]
  omega
theorem fm2 {f : Expr → Option Str} {t t2 : Expr} {ts : List Expr} (h : f t2 = none) : (List.filterMap f (t :: t2 :: ts)).length ≠ (t :: t2 :: ts).length := by
  have := List.length_filterMap_le f ts
  rw [List.filterMap_cons, List.filterMap_cons, h]
  split <;> simp only [List.length_cons] <;> omega
theorem unp_ok (o : Okx X c G n au) {ts : List Expr} {e : Expr} {kt : Nat} {pt : Pos} (h : unpB c ts e = true) : swappedStores [.Tuple ts kt pt] e X.env = pure none := by
  cases e <;> first | rfl | skip
  rename_i vs kv pv
  unfold unpB at h
  simp only [Bool.or_eq_true, Bool.not_eq_true', Bool.or_eq_false_iff, decide_eq_false_iff_not] at h
  have nm : ∀ {x : Str}, c.kindB x .local = false → (X.env.kindOf x == some .local) = false := fun {x} q => by
    have q2 : ¬ c.sc.names.lookup x = some .local := of_decide_eq_false q
    rw [beq_eq_false_iff_ne]
    show X.env.scope.names.lookup x ≠ some .local
    rw [o.sc]
    exact q2
  unfold swappedStores
  simp only [pure_bind]
  split
  · rfl
  rename_i g1
  split
  · rfl
  rename_i g2
  split
  · rfl
  rename_i g3
  split
  · rfl
  rename_i g4
  exfalso
  rcases h with ((h | h) | h) | h
  · simp only [Bool.or_eq_true, Bool.not_eq_true', Bool.or_eq_false_iff, not_or, beq_eq_false_iff_ne] at g1
    exact g1.1.1 h
  · exact g4 h
  · cases ts with
    | nil => simp at g1
    | cons t ts =>
      simp only [Bool.or_eq_true, not_or] at g3
      refine g3.1 ?_
      rw [bne_iff_ne]
      refine fm1 ?_
      cases t <;> first | rfl | skip
      have q := nm (by simpa using h)
      simp [q]
  · match ts, h, g1, g3 with
    | [], h, g1, g3 => simp at g1
    | [_], h, g1, g3 => simp at g1
    | t :: t2 :: ts, h, g1, g3 =>
      simp only [Bool.or_eq_true, not_or] at g3
      refine g3.1 ?_
      rw [bne_iff_ne]
      refine fm2 ?_
      cases t2 <;> first | rfl | skip
      have q := nm (by simpa using h)
      simp [q]
theorem sub_assign {x i : Expr} {pos : Pos} {env : PySem.Env} {v : Value} (h : notSlice i = true) : assign (.Subscript x i pos) env v = (do
      let ov ← holding [v] (eval x env)
      let iv ← holding [v, ov] (eval i env)
      standAt pos
      holding [v, ov, iv] (setItem ov iv v)
      release [v, ov, iv] []) := by
  cases i <;> first | rfl | (simp [notSlice] at h)
theorem sub_swapped {x i : Expr} {pos : Pos} {env : PySem.Env} (e : Expr) : swappedStores [.Subscript x i pos] e env = pure none := by
  cases e <;> rfl
theorem few_ok {a : Expr} {cpos : Pos} {env : PySem.Env} (h : notStar a = true) : ((backTo cpos (starEach [a] env)).all (fun x => !x.1) && (backToKw cpos (keywordEach [] env)).all (fun x => x.1.isSome)
      && decide (([a] : List Expr).length + ([] : List Keyword).length + (if ([] : List Keyword).isEmpty then 0 else 1) < 30)) = true := by
  rw [star_cons h]
  rfl
theorem few_ok2 {a b : Expr} {cpos : Pos} {env : PySem.Env} (h : notStar a = true) (h' : notStar b = true) : ((backTo cpos (starEach [a, b] env)).all (fun x => !x.1) && (backToKw cpos (keywordEach [] env)).all (fun x => x.1.isSome)
      && decide (([a, b] : List Expr).length + ([] : List Keyword).length + (if ([] : List Keyword).isEmpty then 0 else 1) < 30)) = true := by
  rw [star_cons h, star_cons h']
  rfl
theorem simS_none {st : Stmt} {s : S} (h : ∀ env u, execS C ff s env u = none) : SimS X C ff au fr st s := ⟨fun H0 F0 => L2.ps_never.imp fun D σ H ⟨F, env, u, o, R, ev, k⟩ => by rw [h] at ev; cases ev⟩
theorem never_ev {p : E} {st : Expr} (h : chkE c p st = true) (hl : notComp st = false) : (∃ elt t it cond own, p = .comp elt t it cond own) ∨ ∀ env u, evalE C p env u = none := by
  cases p <;> (try (cases st <;> first | (simp [chkE] at h; done) | (simp [notComp] at hl; done)))
  all_goals first
    | exact .inl ⟨_, _, _, _, _, rfl⟩
    | skip
  all_goals
    refine .inr fun env u => ?_
    unfold chkE at h
    rename_i a
    have hn : neverB a = true := by
      cases st <;> first | (simp [notComp] at hl; done) | simpa using h
    unfold neverB at hn
    split at hn <;> first | contradiction | rfl

end

mutual
theorem okS {X : Cx} {c : CK} {G : Prog} {n : Nat} {au : Option Addr} (o : Okx X c G n au) {fr : Bool} : ∀ (s : S) (st : Stmt), chkS c fr s st = true → SimS X (ctxN G n) G.ff au fr st s
  | .set i p, st, h => by
    unfold chkS at h
    split at h <;> first | contradiction | skip
    rename_i x px e pos
    simp only [Bool.and_eq_true, Bool.or_eq_true] at h
    obtain ⟨⟨h1, h2⟩, h3⟩ := h
    obtain ⟨g1, g2, g3, g4, g5⟩ := o.tgt (pos := px) h1
    have nd : X.N.Nodup := by rw [o.hN]; exact o.nd
    by_cases hc : notComp e = true
    · exact simS_set (fun he => L2.ps_set nd g3 g4 he (swaps_no hc) g5) (okE o p _ h2).s g2
    · have hc' : notComp e = false := by simpa using hc
      rcases never_ev (C := ctxN G n) h2 hc' with ⟨elt, t, it, cond, own, rfl⟩ | hv
      · unfold chkE at h2
        split at h2 <;> first | contradiction | skip
        simp only [hc', Bool.false_eq_true, false_or, Bool.and_eq_true, Bool.not_eq_true'] at h3
        obtain ⟨⟨⟨⟨k1, k2⟩, k3⟩, _⟩, k5⟩ := h3
        simp only [Bool.and_eq_true] at h2
        obtain ⟨⟨⟨⟨⟨⟨h1, h2⟩, h3⟩, h4⟩, h5⟩, h6⟩, h7⟩ := h2
        obtain ⟨q1, q2⟩ := ownB_ok o h4
        have kk : X.env.scope.kind = .function := by rw [o.sc]; exact of_decide_eq_true k2
        have hS := simS_setLc (own := ownL c own) (pos := ‹Pos›) (pos2 := px) (spos := pos) (ff := G.ff) (fr := fr) o.calm nd g3 (o.kind k1) (L2.sw_true kk (o.kind k1) k3 k5) (okI o it _ _ h1) (L2.blkOk_by (by rw [o.hN, o.sc]; exact h3))
          (fun s H Ca cl fp => (chkG_ok (o.blk s H _ cl Ca fp) h5).1) (fun s H Ca cl fp => okC (o.blk s H _ cl Ca fp) cond _ h6) (fun s H Ca cl fp => (okE (o.blk s H _ cl Ca fp) elt _ h7).s)
          (by rw [ownL_map]; exact q1) g2 (by rw [ownL_map]; exact q2) (fun x => folded_no h2)
        rw [ownL_map] at hS
        exact hS
      · exact simS_none fun env u => by simp [execS, hv]
  | .set2 i j p, st, h => by
    unfold chkS at h
    split at h <;> first | contradiction | skip
    simp only [Bool.and_eq_true] at h
    obtain ⟨⟨⟨⟨h1, h2⟩, h3⟩, h4⟩, h5⟩ := h
    rename_i x px y py e pos
    obtain ⟨g1, g2, _⟩ := o.tgt (pos := px) h1
    obtain ⟨k1, k2, _⟩ := o.tgt (pos := py) h2
    exact simS_set2 g1 k1 rfl rfl (okE o p _ h3).s fun ha => ⟨g2 ha, k2 ha⟩
  | .par is es, st, h => by
    unfold chkS at h
    split at h <;> first | contradiction | skip
    rename_i ts kt pt vs kv pv pos
    simp only [Bool.and_eq_true, decide_eq_true_eq] at h
    obtain ⟨⟨⟨h1, h2⟩, h3⟩, h4⟩ := h
    have nd : X.N.Nodup := by rw [o.hN]; exact o.nd
    have h2' := h2
    unfold parB at h2
    simp only [Bool.and_eq_true, decide_eq_true_eq, Bool.not_eq_true'] at h2
    obtain ⟨⟨⟨⟨⟨_, b2⟩, b3⟩, b4⟩, _⟩, _⟩ := h2
    split at b2 <;> first | contradiction | skip
    · rename_i x px y py
      match vs, b3 with
      | [a, b], _ =>
        match is, h1, h4 with
        | [i, j], h1, h4 =>
          obtain ⟨w1, w2, w3⟩ := par2_ok (pt := pt) (pv := pv) (kt := kt) (kv := kv) o h2'
          simp only [namesB, Bool.and_eq_true] at h1
          obtain ⟨_, g2, g3, _⟩ := o.tgt (pos := px) h1.1
          obtain ⟨_, k2, k3, _⟩ := o.tgt (pos := py) h1.2.1
          have hij : i ≠ j := by simpa using h4
          match es, h3 with
          | .cons pa (.cons pb .nil), h3 =>
            simp only [chkEs, Bool.and_eq_true] at h3
            simp only [starsB, List.all_cons, Bool.and_eq_true] at b4
            refine simS_par2 (simAR_cons (okE o pa _ h3.1).s (simAR_cons (okE o pb _ h3.2.1).s simAR_nil (star_cons b4.2.1)) (star_cons b4.1)) (fun ha => L2.ps_par o.calm nd g3 k3 hij w2 w3 ha w1 (swapsSole_no rfl)) (fun vs ds F' H' Hb r => rrAll_2 r) fun ha hm => ?_
            simp only [List.mem_cons, List.not_mem_nil, or_false] at hm
            rcases hm with e | e
            · exact g2 ha e.symm
            · exact k2 ha e.symm
          | .nil, h3 => simp [chkEs] at h3
          | .cons _ .nil, h3 => simp [chkEs] at h3
          | .cons _ (.cons _ (.cons _ _)), h3 => simp [chkEs] at h3
        | [], h1, _ => simp [namesB] at h1
        | [_], h1, _ => simp [namesB] at h1
        | _ :: _ :: _ :: _, h1, _ => simp [namesB] at h1
    · rename_i x px y py z pz
      match vs, b3 with
      | [a, b, d], _ =>
        match is, h1, h4 with
        | [i, j, l], h1, h4 =>
          obtain ⟨w1, w2, w3, w4⟩ := par3_ok (pt := pt) (pv := pv) (kt := kt) (kv := kv) o h2'
          simp only [namesB, Bool.and_eq_true] at h1
          obtain ⟨_, g2, g3, _⟩ := o.tgt (pos := px) h1.1
          obtain ⟨_, k2, k3, _⟩ := o.tgt (pos := py) h1.2.1
          obtain ⟨_, m2, m3, _⟩ := o.tgt (pos := pz) h1.2.2.1
          have hd : i ≠ j ∧ i ≠ l ∧ j ≠ l := by
            simp only [List.nodup_cons, List.mem_cons, List.not_mem_nil, or_false, not_or] at h4
            exact ⟨h4.1.1, h4.1.2, h4.2.1⟩
          match es, h3 with
          | .cons pa (.cons pb (.cons pd .nil)), h3 =>
            simp only [chkEs, Bool.and_eq_true] at h3
            simp only [starsB, List.all_cons, Bool.and_eq_true] at b4
            refine simS_par3 (simAR_cons (okE o pa _ h3.1).s (simAR_cons (okE o pb _ h3.2.1).s (simAR_cons (okE o pd _ h3.2.2.1).s simAR_nil (star_cons b4.2.2.1)) (star_cons b4.2.1)) (star_cons b4.1)) (fun ha => L2.ps_par3 o.calm nd g3 k3 m3 hd.1 hd.2.1 hd.2.2 w2 w3 w4 ha w1 (swapsSole_no rfl)) (fun vs ds F' H' Hb r => rrAll_3 r) fun ha hm => ?_
            simp only [List.mem_cons, List.not_mem_nil, or_false] at hm
            rcases hm with e | e | e
            · exact g2 ha e.symm
            · exact k2 ha e.symm
            · exact m2 ha e.symm
          | .nil, h3 => simp [chkEs] at h3
          | .cons _ .nil, h3 => simp [chkEs] at h3
          | .cons _ (.cons _ .nil), h3 => simp [chkEs] at h3
          | .cons _ (.cons _ (.cons _ (.cons _ _))), h3 => simp [chkEs] at h3
        | [], h1, _ => simp [namesB] at h1
        | [_], h1, _ => simp [namesB] at h1
        | [_, _], h1, _ => simp [namesB] at h1
        | _ :: _ :: _ :: _ :: _, h1, _ => simp [namesB] at h1
  | .unp us p, st, h => by
    unfold chkS at h
    split at h <;> first | contradiction | skip
    simp only [Bool.and_eq_true] at h
    rename_i ts kt pt e pos
    obtain ⟨⟨⟨h1, h2⟩, h3⟩, h4⟩ := h
    obtain ⟨k1, k2, k3, k4⟩ := tuB_ok o h1
    exact simS_unp (okE o p _ h4).s k4 fun he => L2.ps_asg he (L2.pg_tup o.calm k1 k2 k3) (swapsSole_no h3) (unp_ok o h2) rfl
  | .setI i k p, st, h => by
    unfold chkS at h
    split at h <;> first | contradiction | skip
    simp only [Bool.and_eq_true] at h
    obtain ⟨⟨⟨⟨h1, h2⟩, h3⟩, h4⟩, h5⟩ := h
    exact simS_setI (okE o p _ h3).s (o.var h1) (okE o k _ h2).s fun he hk => L2.ps_asg he (L2.pg_sub (o.var h1) hk L2.set_list (fun v => sub_assign h5)) (swapsSole_no h4) (sub_swapped _) rfl
  | .setU k p, st, h => by
    unfold chkS at h
    split at h <;> first | contradiction | skip
    simp only [Bool.and_eq_true] at h
    obtain ⟨⟨⟨⟨⟨h0, h1⟩, h2⟩, h3⟩, h4⟩, h5⟩ := h
    exact simS_setU (o.au.trans h0) (okE o p _ h3).s (o.var h1) (okE o k _ h2).s fun he hk => L2.ps_asg he (L2.pg_sub (o.var h1) hk L2.set_list (fun v => sub_assign h5)) (swapsSole_no h4) (sub_swapped _) rfl
  | .app i p, st, h => by
    unfold chkS at h
    split at h <;> first | contradiction | skip
    simp only [Bool.and_eq_true, decide_eq_true_eq] at h
    obtain ⟨⟨⟨⟨h1, rfl⟩, h2⟩, h3⟩, h4⟩ := h
    exact simS_app (okE o p _ h4).s fun he => L2.ps_expr (L2.pe_bm PySem.F.plainAttrs_list PySem.F.slot_list_append PySem.F.type_list_append L2.mt_append (o.var h1) (L2.pa_cons he L2.pa_nil (star_cons h3)) rfl (few_ok h3) h2 (star_cons h3) rfl) rfl
  | .pop i, st, h => by
    unfold chkS at h
    split at h <;> first | contradiction | skip
    simp only [Bool.and_eq_true, decide_eq_true_eq] at h
    obtain ⟨⟨h1, rfl⟩, h2⟩ := h
    exact simS_pop (L2.ps_expr (L2.pe_bm0 PySem.F.plainAttrs_list PySem.F.slot_list_pop PySem.F.type_list_pop L2.mt_pop (o.var h1) rfl h2) rfl)
  | .ins i k p, st, h => by
    unfold chkS at h
    split at h <;> first | contradiction | skip
    simp only [Bool.and_eq_true, decide_eq_true_eq] at h
    obtain ⟨⟨⟨⟨⟨⟨h1, rfl⟩, h2⟩, h3⟩, h4⟩, h5⟩, h6⟩ := h
    exact simS_ins (okE o k _ h5).s (okE o p _ h6).s fun hk he => L2.ps_expr (L2.pe_bm PySem.F.plainAttrs_list PySem.F.slot_list_insert PySem.F.type_list_insert L2.mt_insert (o.var h1) (L2.pa_cons hk (L2.pa_cons he L2.pa_nil (star_cons h4)) (star_cons h3)) rfl (few_ok2 h3 h4) h2 (star_cons h3) (star_any (by simp [starsB, h4]))) rfl
  | .drop p, st, h => by
    unfold chkS at h
    split at h <;> first | contradiction | skip
    simp only [Bool.and_eq_true] at h
    exact simS_drop (okE o p _ h.1).s (swaps_no h.2)
  | .ite t a b, st, h => by
    unfold chkS at h
    split at h <;> first | contradiction | skip
    simp only [Bool.and_eq_true] at h
    exact simS_ite (okE o t _ h.1.1).t (okSs o a _ h.1.2) (okSs o b _ h.2)
  | .whil t b, st, h => by
    unfold chkS at h
    split at h <;> first | contradiction | skip
    simp only [Bool.and_eq_true] at h
    exact simS_whil o.own (okE o t _ h.1).t (okSs o b _ h.2)
  | .for_ t it b, st, h => by
    unfold chkS at h
    split at h <;> first | contradiction | skip
    simp only [Bool.and_eq_true] at h
    obtain ⟨⟨⟨h1, h2⟩, h3⟩, h4⟩ := h
    obtain ⟨g1, g2⟩ := chkG_ok o h3
    exact simS_for o.own o.calm (okI o it _ _ h1) g1 (okSs o b _ h4) g2 fun x => folded_no h2
  | .ret p, st, h => by
    unfold chkS at h
    simp only [Bool.and_eq_true, Bool.not_eq_true'] at h
    obtain ⟨rfl, h⟩ := h
    split at h <;> first | contradiction | skip
    · exact simS_ret (okE o p _ h).s
    · unfold neverB at h
      split at h <;> first | contradiction | skip
      exact simS_retN
  | .retF p, st, h => by
    unfold chkS at h
    simp only [Bool.and_eq_true] at h
    obtain ⟨rfl, h⟩ := h
    split at h <;> first | contradiction | skip
    rename_i e pos
    by_cases hv : ∃ i, p = .var i
    · obtain ⟨i, rfl⟩ := hv
      unfold chkE at h
      split at h <;> first | contradiction | skip
      exact simS_retFV (o.var h)
    · exact simS_retF (fun i e => hv ⟨i, e⟩) (okE o p _ h).s
  | .brk, st, h => by
    unfold chkS at h
    split at h <;> first | contradiction | skip
    exact simS_brk
  | .cont, st, h => by
    unfold chkS at h
    split at h <;> first | contradiction | skip
    exact simS_cont
  | .pass, st, h => by
    unfold chkS at h
    split at h <;> first | contradiction | skip
    exact simS_pass
  | .raise, st, h => simS_raise
theorem okSs {X : Cx} {c : CK} {G : Prog} {n : Nat} {au : Option Addr} (o : Okx X c G n au) {fr : Bool} : ∀ (s : Ss) (st : List Stmt), chkSs c fr s st = true → SimSs X (ctxN G n) G.ff au fr st s
  | .nil, st, h => by
    unfold chkSs at h
    obtain rfl := List.isEmpty_iff.mp h
    exact simSs_nil
  | .cons s ss, st, h => by
    unfold chkSs at h
    split at h <;> first | contradiction | skip
    simp only [Bool.and_eq_true] at h
    exact simSs_cons (okS o s _ h.1) (okSs o ss _ h.2)
end
end Pl

/-! PSound19: the table of defs, all of it right; the law's walk. -/
namespace Pl
open PySem PyProof.Rows
open L2 (V Hp HO VK XK TE TT TA TS Cx PE PA PS PSs Inv SqL SqT Dp DpAll Vals RelV EP Gl Vis Ends Sp FnScope Env0 CE CR CX0 Room Fun Binds KBinds PK)

/-- a module's constants and built-ins, its table -/
structure Pack where
  T : String → Option Entry
  glob : String → Option D
  bl : List Str
  gcd : Bool
def Pack.G (p : Pack) : Prog := ⟨fun f => (p.T f).map (·.fn), p.glob⟩
def Entry.ck (p : Pack) (e : Entry) : CK := { N := e.N, sc := L2.defScope e.st, cells := none, urn := e.fn.urn, bl := p.bl, gcd := p.gcd, T := p.T, G := p.G }
def scopeB (N ps : List Str) (sc : Scope) : Bool := decide (sc.kind = .function) && decide (sc.isCoroutine = false) && decide (sc.isGenerator = false) && decide N.Nodup && decide (N.take ps.length = ps) &&
  ps.all (fun x => decide (sc.names.lookup x = some .local) || decide (sc.names.lookup x = some .cell)) && sc.names.all fun y => decide (y.2 ≠ .free)
theorem scopeB_ok {N ps : List Str} {sc : Scope} (h : scopeB N ps sc = true) : FnScope N ps sc := by
  unfold scopeB at h
  simp only [Bool.and_eq_true, decide_eq_true_eq, List.all_eq_true, Bool.or_eq_true] at h
  obtain ⟨⟨⟨⟨⟨⟨h1, h2⟩, h3⟩, h4⟩, h5⟩, h6⟩, h7⟩ := h
  exact ⟨h1, h2, h3, h4, h5, h6, h7⟩
def chkEntry (p : Pack) (e : Entry) : Bool := chkSs (e.ck p) e.fn.fresh e.fn.body (L2.defBody e.st) && scopeB e.N e.ps (L2.defScope e.st) && decide (e.ps.length = e.fn.np) && decide (e.N.length = e.fn.ns)

/-- what is known of a def's object -/
structure Has (K : PySem.W.Frag) (mg : Str → Option Value) (f : String) (e : Entry) : Prop where
  ex : ∃ fa fd, mg (Str.ofString f) = some (.ref fa) ∧ Fun K (Str.ofString f) e.qual e.st fa fd ∧ Binds K fd e.ps [] ∧ (∀ q ∈ e.kws, KBinds K fd e.ps q.2.1 (gK q.1 q.2.1.length q.2.2) (gK q.1 q.2.1.length q.2.2))
structure Facts (K : PySem.W.Frag) (mg : Str → Option Value) (p : Pack) : Prop where
  has : ∀ f e, p.T f = some e → Has K mg f e
  blt : ∀ x ∈ p.bl, mg x = none
  gcd : p.gcd = true → mg "gcd" = some (.builtin "math.gcd")
  glb : ∀ g d, p.glob g = some d → ∃ v u, mg (Str.ofString g) = some u ∧ RelV v u ∧ ∀ F, Dp K F v d

theorem gK_rel {np nk : Nat} {perm : List Nat} {vs zs : List V} {us ws : List Value} (r : Vals vs us) (rz : Vals zs ws) : Vals (gK np nk perm vs zs) (gK np nk perm us ws) := by
  unfold gK
  rw [r.length, rz.length]
  split
  · have ra := r.append rz
    clear r rz
    induction perm with
    | nil => exact .nil
    | cons i is ih =>
      rw [List.filterMap_cons, List.filterMap_cons]
      cases q : (us ++ ws)[i]? with
      | none =>
        have : (vs ++ zs)[i]? = none := by
          rw [List.getElem?_eq_none_iff] at q ⊢
          rw [ra.length]; exact q
        rw [this]
        exact ih
      | some u =>
        obtain ⟨v, hv⟩ : ∃ v, (vs ++ zs)[i]? = some v := by
          have := (List.getElem?_eq_some_iff.mp q).1
          rw [← ra.length] at this
          exact ⟨_, List.getElem?_eq_getElem this⟩
        rw [hv]
        obtain ⟨u', hu, ru⟩ := ra.get hv
        rw [q] at hu
        cases hu
        exact .cons ru ih
  · exact .nil
/-- how a def's arguments are bound, of the parameters alone -/
structure BindOk (f : String) (e : Entry) : Prop where
  pos : ∀ (kV doc pm : Value) (an : Option Addr) (cdv ct : Value) (us : List Value), us.length = e.ps.length → bindArgs (PySem.W.fnOf (Str.ofString f) e.qual (L2.defArgs e.st) (L2.defBody e.st) (L2.defScope e.st) .none kV doc pm an cdv ct) ⟨us, []⟩ = pure (e.ps.zip us)
  kw : ∀ q ∈ e.kws, ∀ (kV doc pm : Value) (an : Option Addr) (cdv ct : Value) (us ws : List Value), us.length = q.1 → ws.length = q.2.1.length →
    bindArgs (PySem.W.fnOf (Str.ofString f) e.qual (L2.defArgs e.st) (L2.defBody e.st) (L2.defScope e.st) .none kV doc pm an cdv ct) ⟨us, q.2.1.zip ws⟩ = pure (e.ps.zip (q.2.2.filterMap fun i => (us ++ ws)[i]?))
theorem has_of {K : PySem.W.Frag} {mg : Str → Option Value} {f : String} {e : Entry} {fa : Addr} {fd : FuncData} (m : mg (Str.ofString f) = some (.ref fa)) (F : Fun K (Str.ofString f) e.qual e.st fa fd) (b : BindOk f e) (h0 : 0 < e.ps.length) : Has K mg f e := by
  refine ⟨fa, fd, m, F, ?_, fun q hq => ⟨fun s us ws hK hl => ?_, fun r rz => gK_rel r rz⟩⟩
  · exact F.binds b.pos
  · obtain ⟨oc, od, kV, doc, pm, an, cdv, ct, osl, rfl, lk, hcd⟩ := F.ex
    unfold gK at hl ⊢
    split at hl
    · rename_i hh
      rw [if_pos hh]
      exact .of_eq (b.kw q hq kV doc pm an cdv ct us ws hh.1 hh.2)
    · simp only [List.length_nil] at hl
      omega

theorem all_ok {P : Program} {w : World} {K : PySem.W.Frag} {mg : Str → Option Value} {bas : Heap} {p : Pack} (facts : Facts K mg p) (chk : ∀ f e, p.T f = some e → chkEntry p e = true) :
    ∀ n f e, p.T f = some e → ∀ fa fd, Fun K (Str.ofString f) e.qual e.st fa fd → FnG P w K mg bas n fa fd e.ps (spF K e.fn (callU p.G n f))
  | 0, f, e, hT, fa, fd, F => by
    have no : ∀ {vs H Q E}, ¬ spF K e.fn (callU p.G 0 f) vs H Q E := fun {vs H Q E} ⟨au, ws, ds, F, u, d, u', _, _, _, _, _, _, _, h, _⟩ => by cases h
    exact ⟨fun _ _ _ _ h => (no h).elim, fun _ _ _ _ _ _ _ _ _ _ _ _ _ h => (no h).elim⟩
  | n + 1, f, e, hT, fa, fd, F => by
    have hc := chk f e hT
    unfold chkEntry at hc
    simp only [Bool.and_eq_true, decide_eq_true_eq] at hc
    obtain ⟨⟨⟨h1, h2⟩, h3⟩, h4⟩ := hc
    have S := scopeB_ok h2
    have hcall : callU p.G (n + 1) f = runF (ctxN p.G n) p.G.ff e.fn := by
      funext ds u
      show (match p.G.T f with | some q => runF (ctxOf p.G (callU p.G n)) p.G.ff q ds u | none => none) = _
      have : p.G.T f = some e.fn := by
        show (p.T f).map (·.fn) = _
        rw [hT]; rfl
      rw [this]
      rfl
    rw [hcall]
    refine fnG_body F S h3 h4 fun cdv A outer s H E au hau rg => ?_
    refine okSs (c := e.ck p) (G := p.G) (n := n) ?_ e.fn.body _ h1
    exact {
      hG := rfl
      hN := rfl
      nd := S.nd
      sc := rfl
      calm := rfl
      fn := fun x _ => .inl rfl
      own := PassesOwn.never
      rg := rg
      au := hau
      blt := facts.blt
      gcd := facts.gcd
      fns := fun f' e' hT' => by
        obtain ⟨fa', fd', m1, m2, m3, m4⟩ := (facts.has f' e' hT').ex
        exact ⟨fa', fd', m1, m2.kp, m3, m4, all_ok facts chk n f' e' hT' fa' fd' m2⟩
      glb := facts.glb
      tab := fun f => rfl }

/-- the law keeps its promise -/
theorem law_walk {l : PySem.W.OpenLaw} {m n : Nat} {q : Program} {loose : List Str} {XP : (Str → Option Value) → Heap → Prop} {YP : World → Heap → Prop} {d : DefRec} {K : Params → PySem.W.Frag} {x : Str} {p : Pack} {e : Entry}
    (most : l.most = some m) (few : m ≤ sizeLine) (plain : d.params.defaults = []) (room : Room n callerA) (hY : ∀ (w : World) (h : Heap), YP w h → (K w.params).In h)
    (hT : p.T "law" = some e) (hp : e.ps = [x]) (hu : e.fn.urn = false) (hf : e.fn.fresh = false) (hnp : e.fn.np = 1) (chk : ∀ f e, p.T f = some e → chkEntry p e = true)
    (F : ∀ (w : World) (mg : Str → Option Value) (fa : Addr) (h : Heap), (K w.params).In h → h.Ns mainGlobals mg → mg d.name = some (.ref fa) →
      ∃ fd : FuncData, (∀ (s : Shared) (u : Value), BindsTo s fd ⟨[u], []⟩ [(x, u)]) ∧ Facts (K w.params) mg p ∧ Fun (K w.params) (Str.ofString "law") e.qual e.st fa fd)
    (law : ∀ ns : List Int, ns.length ≤ m → ∃ u', callU p.G n "law" [.list (ns.map .int)] [] = some (.bool true, u')) :
    PySem.W.WalkO q loose XP YP l.row.toRowW d [] (fun f vs => PySem.call f vs) := by
  refine walk_ofG (x := x) (k := n) (sp := fun K => spF K e.fn (callU p.G n "law")) most few plain room hY (fun w mg fa h kIn nG hmg => ?_) fun K H a ns hl sq => ?_
  · obtain ⟨fd, b, facts, hF⟩ := F w mg fa h kIn nG hmg
    refine ⟨fd, b, fun bas _ _ => ?_⟩
    rw [← hp]
    exact all_ok facts chk n "law" e hT fa fd hF
  · obtain ⟨u', hu'⟩ := law ns hl
    refine ⟨none, [.ref a], [.list (ns.map .int)], H, [], _, u', hu.symm, rfl, Sub.refl _, UrnR.no, fun _ => rfl, .cons (.lst sq (dpAll_of_ints ns)) .nil, by rw [hu, hnp]; rfl, hu', fun v F' H' P r => ?_⟩
    rw [hf] at r
    exact dp_bool r
end Pl

/-! PSound20: small ends. -/
namespace Pl
open PySem PyProof.Rows
theorem lookup_all {l : List (String × Entry)} {Q : String → Entry → Prop} (h : ∀ q ∈ l, Q q.1 q.2) : ∀ f e, l.lookup f = some e → Q f e := by
  intro f e hl
  induction l with
  | nil => cases hl
  | cons q l ih =>
    rw [List.lookup_cons] at hl
    split at hl
    · rename_i hq
      cases hl
      have : f = q.1 := by simpa using hq
      rw [this]
      exact h q List.mem_cons_self
    · exact ih (fun q hq => h q (List.mem_cons_of_mem _ hq)) hl
theorem glob_all {l : List (String × D)} {Q : String → D → Prop} (h : ∀ q ∈ l, Q q.1 q.2) : ∀ f e, l.lookup f = some e → Q f e := by
  intro f e hl
  induction l with
  | nil => cases hl
  | cons q l ih =>
    rw [List.lookup_cons] at hl
    split at hl
    · rename_i hq
      cases hl
      have : f = q.1 := by simpa using hq
      rw [this]
      exact h q List.mem_cons_self
    · exact ih (fun q hq => h q (List.mem_cons_of_mem _ hq)) hl
theorem fin_of {K : PySem.W.Frag} {mg : Str → Option Value} {p : Pack} {x qual : Str} {st : Stmt} {f fa : Addr} {fd : FuncData} (h : Facts K mg p ∧ L2.Fun K x qual st f fd ∧ mg "law" = some (.ref f)) (hm : mg "law" = some (.ref fa)) :
    Facts K mg p ∧ L2.Fun K x qual st fa fd := by
  obtain ⟨h1, h2, h3⟩ := h
  rw [h3] at hm
  cases hm
  exact ⟨h1, h2⟩
end Pl

namespace Pl
def p__law_added : PFun := { np := 2, ns := 6, urn := false, fresh := false, body := (.cons (.set 2 (.comp (.lit (.int 0)) (.one 3) (.range1 (.bi .max2 (.cons (.bi .len (.cons (.var 0) .nil)) (.cons (.bi .len (.cons (.var 1) .nil)) .nil)))) .no [3])) (.cons (.for_ (.one 4) (.seq (.lst (.cons (.var 0) (.cons (.var 1) .nil)))) (.cons (.for_ (.one 5) (.range1 (.bi .len (.cons (.var 4) .nil))) (.cons (.setI 2 (.var 5) (.bin .add (.idx (.var 2) (.var 5)) (.idx (.var 4) (.var 5)))) .nil)) .nil)) (.cons (.ret (.call "_law_trim" (.cons (.var 2) .nil) [0])) .nil))) }
def p__law_any : PFun := { np := 2, ns := 2, urn := true, fresh := false, body := (.cons (.ret (.idx (.var 1) (.ucall "_law_pull" (.cons (.bi .len (.cons (.var 1) .nil)) .nil)))) .nil) }
def p__law_common : PFun := { np := 1, ns := 4, urn := false, fresh := false, body := (.cons (.set 1 (.lit (.int 0))) (.cons (.for_ (.one 2) (.seq (.var 0)) (.cons (.set 3 (.bi .abs (.cons (.var 2) .nil))) (.cons (.whil (.cmp .gt (.var 3) (.lit (.int 0))) (.cons (.par [1, 3] (.cons (.var 3) (.cons (.bin .mod (.bi .int (.cons (.var 1) .nil)) (.var 3)) .nil))) .nil)) .nil))) (.cons (.ret (.var 1)) .nil))) }
def p__law_draw : PFun := { np := 2, ns := 4, urn := true, fresh := false, body := (.cons (.ite (.cmp .gt (.uidx (.lit (.int 0))) (.lit (.int 0))) (.cons (.unp [.pl 0, .nm 2] (.bi .divmod (.cons (.uidx (.lit (.int 0))) (.cons (.var 1) .nil)))) (.cons (.ret (.var 2)) .nil)) .nil) (.cons (.setU (.lit (.int 2)) (.bin .add (.uidx (.lit (.int 2))) (.lit (.int 1)))) (.cons (.set 3 (.bin .add (.bin .mod (.bi .int (.cons (.uidx (.lit (.int 1))) .nil)) (.lit (.int 25013))) (.lit (.int 17011)))) (.cons (.setU (.lit (.int 1)) (.bin .mod (.bi .int (.cons (.bin .add (.bin .add (.bin .mul (.uidx (.lit (.int 1))) (.var 3)) (.bin .mul (.lit (.int 80021)) (.uidx (.lit (.int 2))))) (.lit (.int 9))) .nil)) (.lit (.int 2147483587)))) (.cons (.ret (.bin .mod (.bi .int (.cons (.bin .fdiv (.uidx (.lit (.int 1))) (.lit (.int 67))) .nil)) (.var 1))) .nil))))) }
def p__law_frac : PFun := { np := 2, ns := 3, urn := false, fresh := false, body := (.cons (.set 2 (.call "_law_thin" (.cons (.tup (.cons (.var 0) (.cons (.var 1) .nil))) .nil) [0])) (.cons (.ret (.ite (.cmp .gt (.idx (.var 2) (.lit (.int 1))) (.lit (.int 0))) (.var 2) (.tup (.cons (.neg (.idx (.var 2) (.lit (.int 0)))) (.cons (.neg (.idx (.var 2) (.lit (.int 1)))) .nil))))) .nil)) }
def p__law_from : PFun := { np := 3, ns := 3, urn := true, fresh := false, body := (.cons (.ret (.bin .add (.var 1) (.ucall "_law_draw" (.cons (.bin .add (.bin .sub (.var 2) (.var 1)) (.lit (.int 1))) .nil)))) .nil) }
def p__law_gcd__a : PFun := { np := 2, ns := 3, urn := false, fresh := false, body := (.cons (.for_ (.one 2) (.range1 (.lit (.int 20000))) (.cons (.ite (.cmp .eq (.var 1) (.lit (.int 0))) (.cons .brk .nil) .nil) (.cons (.par [0, 1] (.cons (.var 1) (.cons (.bin .mod (.bi .int (.cons (.var 0) .nil)) (.var 1)) .nil))) .nil))) (.cons (.ret (.var 0)) .nil)) }
def p__law_laps : PFun := { np := 1, ns := 1, urn := false, fresh := false, body := (.cons (.ret (.bi .max2 (.cons (.lit (.int 2)) (.cons (.bi .min2 (.cons (.bi .len (.cons (.var 0) .nil)) (.cons (.lit (.int 3)) .nil))) .nil)))) .nil) }
def p__law_multiplied : PFun := { np := 2, ns := 6, urn := false, fresh := false, body := (.cons (.set 2 (.comp (.lit (.int 0)) (.one 3) (.range1 (.bin .add (.bi .len (.cons (.var 0) .nil)) (.bi .len (.cons (.var 1) .nil)))) .no [3])) (.cons (.for_ (.one 4) (.range1 (.bi .len (.cons (.var 0) .nil))) (.cons (.for_ (.one 5) (.range1 (.bi .len (.cons (.var 1) .nil))) (.cons (.setI 2 (.bin .add (.var 4) (.var 5)) (.bin .add (.idx (.var 2) (.bin .add (.var 4) (.var 5))) (.bin .mul (.idx (.var 0) (.var 4)) (.idx (.var 1) (.var 5))))) .nil)) .nil)) (.cons (.ret (.call "_law_trim" (.cons (.var 2) .nil) [0])) .nil))) }
def p__law_num : PFun := { np := 2, ns := 2, urn := true, fresh := false, body := (.cons (.ret (.bin .sub (.ucall "_law_pull" (.cons (.bin .add (.bin .mul (.lit (.int 2)) (.var 1)) (.lit (.int 1))) .nil)) (.var 1))) .nil) }
def p__law_of : PFun := { np := 2, ns := 2, urn := true, fresh := false, body := (.cons (.ret (.idx (.var 1) (.ucall "_law_dip" (.cons (.bi .len (.cons (.var 1) .nil)) .nil)))) .nil) }
def p__law_pot : PFun := { np := 2, ns := 5, urn := false, fresh := true, body := (.cons (.set 2 (.ite (.cmp .lt (.var 1) (.bi .len (.cons (.var 0) .nil))) (.bi .int (.cons (.idx (.var 0) (.var 1)) .nil)) (.bin .add (.bin .add (.bin .mod (.bi .int (.cons (.bi .sum (.cons (.sli (.var 0) .no (.yes (.lit (.int 4)))) .nil)) .nil)) (.lit (.int 999979))) (.bin .mul (.lit (.int 70001)) (.var 1))) (.lit (.int 43))))) (.cons (.set 3 (.bin .add (.lit (.int 31013)) (.bin .mul (.lit (.int 4241)) (.var 1)))) (.cons (.for_ (.one 4) (.seq (.bin .add (.sli (.var 0) .no (.yes (.lit (.int 9)))) (.lst (.cons (.var 2) .nil)))) (.cons (.set 3 (.bin .mod (.bi .int (.cons (.bin .add (.bin .add (.bin .mul (.var 3) (.lit (.int 48271))) (.bin .mod (.bi .int (.cons (.var 4) .nil)) (.lit (.int 2147483587)))) (.lit (.int 7))) .nil)) (.lit (.int 2147483587)))) .nil)) (.cons (.retF (.lst (.cons (.ite (.or (.cmp .lt (.var 2) (.lit (.int 0))) (.cmp .ge (.var 2) (.bin .pow (.lit (.int 10)) (.lit (.int 18))))) (.bi .abs (.cons (.var 2) .nil)) (.lit (.int 0))) (.cons (.var 3) (.cons (.lit (.int 0)) .nil))))) .nil)))) }
def p__law_pull : PFun := { np := 2, ns := 3, urn := true, fresh := false, body := (.cons (.ite (.cmp .gt (.uidx (.lit (.int 0))) (.lit (.int 0))) (.cons (.unp [.pl 0, .nm 2] (.bi .divmod (.cons (.uidx (.lit (.int 0))) (.cons (.var 1) .nil)))) (.cons (.ret (.var 2)) .nil)) .nil) (.cons (.setU (.lit (.int 1)) (.bin .mod (.bi .int (.cons (.bin .add (.bin .mul (.uidx (.lit (.int 1))) (.lit (.int 37199))) (.lit (.int 1201))) .nil)) (.lit (.int 2147483629)))) (.cons (.setU (.lit (.int 2)) (.bin .mod (.bi .int (.cons (.bin .add (.bin .mul (.uidx (.lit (.int 2))) (.lit (.int 29443))) (.uidx (.lit (.int 1)))) .nil)) (.lit (.int 2147483587)))) (.cons (.ret (.bin .mod (.bi .int (.cons (.bin .fdiv (.uidx (.lit (.int 2))) (.lit (.int 269))) .nil)) (.var 1))) .nil)))) }
def p__law_rest : PFun := { np := 2, ns := 10, urn := false, fresh := false, body := (.cons (.unp [.nm 2, .nm 3] (.tup (.cons (.call "_law_short" (.cons (.var 0) .nil) [0]) (.cons (.idx (.var 1) (.neg (.lit (.int 1)))) .nil)))) (.cons (.whil (.cmp .ge (.bi .len (.cons (.var 2) .nil)) (.bi .len (.cons (.var 1) .nil))) (.cons (.unp [.nm 4, .nm 5] (.tup (.cons (.bin .mul (.idx (.var 2) (.neg (.lit (.int 1)))) (.var 3)) (.cons (.bin .sub (.bi .len (.cons (.var 2) .nil)) (.bi .len (.cons (.var 1) .nil))) .nil)))) (.cons (.set 6 (.bin .add (.comp (.lit (.int 0)) (.one 7) (.range1 (.var 5)) .no [7]) (.comp (.bin .mul (.var 4) (.var 8)) (.one 8) (.seq (.var 1)) .no [8]))) (.cons (.set 2 (.call "_law_short" (.cons (.comp (.bin .sub (.bin .mul (.bin .mul (.idx (.var 2) (.var 9)) (.var 3)) (.var 3)) (.idx (.var 6) (.var 9))) (.one 9) (.range1 (.bi .len (.cons (.var 2) .nil))) .no [9]) .nil) [0])) .nil)))) (.cons (.ret (.var 2)) .nil))) }
def p__law_row : PFun := { np := 2, ns := 4, urn := true, fresh := false, body := (.cons (.set 2 (.ucall "_law_of" (.cons (.lst (.cons (.lit (.int 1)) (.cons (.lit (.int 1)) (.cons (.lit (.int 1)) (.cons (.lit (.int 1)) (.cons (.lit (.int 1000003)) (.cons (.bin .add (.bin .pow (.lit (.int 10)) (.lit (.int 12))) (.lit (.int 39))) .nil))))))) .nil))) (.cons (.ret (.call "_law_trim" (.cons (.comp (.bin .add (.bin .mul (.var 2) (.ucall "_law_from" (.cons (.neg (.lit (.int 4))) (.cons (.lit (.int 4)) .nil)))) (.ucall "_law_from" (.cons (.neg (.lit (.int 1))) (.cons (.lit (.int 1)) .nil)))) (.one 3) (.range1 (.ucall "_law_draw" (.cons (.bin .add (.var 1) (.lit (.int 1))) .nil))) .no [3]) .nil) [0])) .nil)) }
def p__law_short : PFun := { np := 1, ns := 4, urn := false, fresh := false, body := (.cons (.unp [.nm 1, .nm 2] (.tup (.cons (.bi .max2 (.cons (.lit (.int 1)) (.cons (.call "_law_common" (.cons (.var 0) .nil) [0]) .nil))) (.cons (.bi .len (.cons (.var 0) .nil)) .nil)))) (.cons (.whil (.and (.cmp .gt (.var 2) (.lit (.int 0))) (.cmp .eq (.idx (.var 0) (.bin .sub (.var 2) (.lit (.int 1)))) (.lit (.int 0)))) (.cons (.set 2 (.bin .sub (.var 2) (.lit (.int 1)))) .nil)) (.cons (.ret (.bi .tuple (.cons (.comp (.bin .fdiv (.var 3) (.var 1)) (.one 3) (.seq (.sli (.var 0) .no (.yes (.var 2)))) .no [3]) .nil))) .nil))) }
def p__law_spot__a : PFun := { np := 3, ns := 3, urn := false, fresh := false, body := (.cons (.ret (.call "_law_thin" (.cons (.tup (.cons (.var 0) (.cons (.var 1) (.cons (.var 2) .nil)))) .nil) [0])) .nil) }
def p__law_thin : PFun := { np := 1, ns := 3, urn := false, fresh := false, body := (.cons (.set 1 (.lit (.int 0))) (.cons (.for_ (.one 2) (.seq (.var 0)) (.cons (.set 1 (.call "_law_gcd" (.cons (.var 1) (.cons (.bi .abs (.cons (.var 2) .nil)) .nil)) [0, 1])) .nil)) (.cons (.ret (.ite (.cmp .lt (.var 1) (.lit (.int 2))) (.bi .tuple (.cons (.var 0) .nil)) (.bi .tuple (.cons (.comp (.bin .fdiv (.var 2) (.var 1)) (.one 2) (.seq (.var 0)) .no [2]) .nil)))) .nil))) }
def p__law_trim : PFun := { np := 1, ns := 2, urn := false, fresh := false, body := (.cons (.set 1 (.bi .len (.cons (.var 0) .nil))) (.cons (.whil (.and (.cmp .gt (.var 1) (.lit (.int 0))) (.cmp .eq (.idx (.var 0) (.bin .sub (.var 1) (.lit (.int 1)))) (.lit (.int 0)))) (.cons (.set 1 (.bin .sub (.var 1) (.lit (.int 1)))) .nil)) (.cons (.ret (.bi .tuple (.cons (.sli (.var 0) .no (.yes (.var 1))) .nil))) .nil))) }
def p__law_urn : PFun := { np := 2, ns := 5, urn := false, fresh := true, body := (.cons (.set 2 (.bin .add (.lit (.int 60427)) (.bin .mul (.lit (.int 7001)) (.var 1)))) (.cons (.for_ (.one 3) (.seq (.sli (.var 0) .no (.yes (.lit (.int 63))))) (.cons (.set 2 (.bin .mod (.bi .int (.cons (.bin .add (.bin .add (.bin .mul (.var 2) (.lit (.int 47701))) (.bin .mod (.bi .int (.cons (.var 3) .nil)) (.lit (.int 2147483549)))) (.lit (.int 53))) .nil)) (.lit (.int 2147483549)))) .nil)) (.cons (.set 4 (.ite (.cmp .lt (.var 1) (.bi .len (.cons (.var 0) .nil))) (.bi .abs (.cons (.bi .int (.cons (.idx (.var 0) (.var 1)) .nil)) .nil)) (.lit (.int 0)))) (.cons (.retF (.lst (.cons (.ite (.cmp .ge (.var 4) (.bin .pow (.lit (.int 10)) (.lit (.int 18)))) (.var 4) (.lit (.int 0))) (.cons (.bin .mod (.bi .int (.cons (.bin .add (.bin .add (.bin .mul (.var 2) (.lit (.int 41203))) (.bin .mod (.bi .int (.cons (.var 4) .nil)) (.lit (.int 2147483563)))) (.lit (.int 5))) .nil)) (.lit (.int 2147483563))) (.cons (.bin .add (.var 2) (.lit (.int 3))) .nil))))) .nil)))) }
def p_are_numbers : PFun := { np := 1, ns := 2, urn := false, fresh := false, body := (.cons (.ret (.and (.bi .isTuple (.cons (.var 0) .nil)) (.and (.cmp .le (.bi .len (.cons (.var 0) .nil)) (.glob "MOST_LONG")) (.bi .all (.cons (.comp (.call "is_whole" (.cons (.var 1) .nil) [0]) (.one 1) (.seq (.var 0)) .no [1]) .nil))))) .nil) }
def p_are_wholes : PFun := { np := 2, ns := 3, urn := false, fresh := false, body := (.cons (.ret (.and (.bi .isTuple (.cons (.var 0) .nil)) (.and (.cmp .eq (.bi .len (.cons (.var 0) .nil)) (.var 1)) (.bi .all (.cons (.comp (.call "is_whole" (.cons (.var 2) .nil) [0]) (.one 2) (.seq (.var 0)) .no [2]) .nil))))) .nil) }
def p_check_row : PFun := { np := 1, ns := 1, urn := false, fresh := false, body := (.cons (.ite (.not (.call "is_row" (.cons (.var 0) .nil) [0])) (.cons .raise .nil) .nil) .nil) }
def p_cross_of : PFun := { np := 2, ns := 2, urn := false, fresh := false, body := (.cons (.ret (.call "ratio" (.cons (.bin .sub (.bin .mul (.idx (.var 0) (.lit (.int 0))) (.idx (.var 1) (.lit (.int 1)))) (.bin .mul (.idx (.var 0) (.lit (.int 1))) (.idx (.var 1) (.lit (.int 0))))) (.cons (.bin .mul (.idx (.var 0) (.lit (.int 2))) (.idx (.var 1) (.lit (.int 2)))) .nil)) [0, 1])) .nil) }
def p_divided : PFun := { np := 2, ns := 10, urn := false, fresh := false, body := (.cons (.unp [.nm 2, .nm 3] (.tup (.cons (.bi .list (.cons (.var 0) .nil)) (.cons (.bi .abs (.cons (.idx (.var 1) (.neg (.lit (.int 1)))) .nil)) .nil)))) (.cons (.set 4 (.rep (.cons (.lit (.int 0)) .nil) (.bi .max2 (.cons (.lit (.int 0)) (.cons (.bin .add (.bin .sub (.bi .len (.cons (.var 0) .nil)) (.bi .len (.cons (.var 1) .nil))) (.lit (.int 1))) .nil))))) (.cons (.for_ (.one 5) (.revRange1 (.bi .len (.cons (.var 4) .nil))) (.cons (.set 6 (.idx (.var 2) (.bin .sub (.bin .add (.var 5) (.bi .len (.cons (.var 1) .nil))) (.lit (.int 1))))) (.cons (.set 4 (.comp (.bin .mul (.var 7) (.var 3)) (.one 7) (.seq (.var 4)) .no [7])) (.cons (.set 2 (.comp (.bin .mul (.var 7) (.var 3)) (.one 7) (.seq (.var 2)) .no [7])) (.cons (.set 8 (.ite (.cmp .gt (.idx (.var 1) (.neg (.lit (.int 1)))) (.lit (.int 0))) (.var 6) (.neg (.var 6)))) (.cons (.setI 4 (.var 5) (.var 8)) (.cons (.for_ (.many [9, 7]) (.enum (.var 1)) (.cons (.setI 2 (.bin .add (.var 5) (.var 9)) (.bin .sub (.idx (.var 2) (.bin .add (.var 5) (.var 9))) (.bin .mul (.var 8) (.var 7)))) .nil)) .nil))))))) (.cons (.ret (.tup (.cons (.call "trimmed" (.cons (.var 4) .nil) [0]) (.cons (.call "trimmed" (.cons (.var 2) .nil) [0]) .nil)))) .nil)))) }
def p_divisor_of : PFun := { np := 1, ns := 3, urn := false, fresh := false, body := (.cons (.set 1 (.lit (.int 0))) (.cons (.for_ (.one 2) (.seq (.var 0)) (.cons (.set 1 (.bi .gcd (.cons (.var 1) (.cons (.var 2) .nil)))) .nil)) (.cons (.ret (.var 1)) .nil))) }
def p_inner_of : PFun := { np := 2, ns := 2, urn := false, fresh := false, body := (.cons (.ret (.call "ratio" (.cons (.bin .add (.bin .mul (.idx (.var 0) (.lit (.int 0))) (.idx (.var 1) (.lit (.int 0)))) (.bin .mul (.idx (.var 0) (.lit (.int 1))) (.idx (.var 1) (.lit (.int 1))))) (.cons (.bin .mul (.idx (.var 0) (.lit (.int 2))) (.idx (.var 1) (.lit (.int 2)))) .nil)) [0, 1])) .nil) }
def p_is_ratio : PFun := { np := 1, ns := 1, urn := false, fresh := false, body := (.cons (.ret (.and (.call "are_wholes" (.cons (.var 0) (.cons (.lit (.int 2)) .nil)) [0, 1]) (.and (.cmp .gt (.idx (.var 0) (.lit (.int 1))) (.lit (.int 0))) (.call "is_reduced" (.cons (.var 0) .nil) [0])))) .nil) }
def p_is_reduced : PFun := { np := 1, ns := 1, urn := false, fresh := false, body := (.cons (.ret (.cmp .eq (.call "divisor_of" (.cons (.var 0) .nil) [0]) (.lit (.int 1)))) .nil) }
def p_is_row : PFun := { np := 1, ns := 1, urn := false, fresh := false, body := (.cons (.ret (.and (.call "are_numbers" (.cons (.var 0) .nil) [0]) (.or (.cmp .eq (.var 0) (.tup .nil)) (.cmp .ne (.idx (.var 0) (.neg (.lit (.int 1)))) (.lit (.int 0)))))) .nil) }
def p_is_vector : PFun := { np := 1, ns := 1, urn := false, fresh := false, body := (.cons (.ret (.and (.call "are_wholes" (.cons (.var 0) (.cons (.lit (.int 3)) .nil)) [0, 1]) (.and (.cmp .gt (.idx (.var 0) (.lit (.int 2))) (.lit (.int 0))) (.call "is_reduced" (.cons (.var 0) .nil) [0])))) .nil) }
def p_is_whole : PFun := { np := 1, ns := 1, urn := false, fresh := false, body := (.cons (.ret (.and (.bi .isInt (.cons (.var 0) .nil)) (.not (.bi .isBool (.cons (.var 0) .nil))))) .nil) }
def p_quartered : PFun := { np := 1, ns := 1, urn := false, fresh := false, body := (.cons (.ret (.tup (.cons (.neg (.idx (.var 0) (.lit (.int 1)))) (.cons (.idx (.var 0) (.lit (.int 0))) (.cons (.idx (.var 0) (.lit (.int 2))) .nil))))) .nil) }
def p_ratio : PFun := { np := 2, ns := 3, urn := false, fresh := false, body := (.cons (.set 2 (.call "divisor_of" (.cons (.tup (.cons (.var 0) (.cons (.var 1) .nil))) .nil) [0])) (.cons (.set 2 (.ite (.cmp .gt (.var 1) (.lit (.int 0))) (.var 2) (.neg (.var 2)))) (.cons (.ret (.tup (.cons (.bin .fdiv (.var 0) (.var 2)) (.cons (.bin .fdiv (.var 1) (.var 2)) .nil)))) .nil))) }
def p_remainder : PFun := { np := 2, ns := 2, urn := false, fresh := false, body := (.cons (.drop (.call "check_row" (.cons (.var 0) .nil) [0])) (.cons (.drop (.call "check_row" (.cons (.var 1) .nil) [0])) (.cons (.ite (.cmp .eq (.var 1) (.tup .nil)) (.cons .raise .nil) .nil) (.cons (.ret (.call "what_remains" (.cons (.var 0) (.cons (.var 1) .nil)) [0, 1])) .nil)))) }
def p_scaled : PFun := { np := 2, ns := 3, urn := false, fresh := false, body := (.cons (.ret (.call "trimmed" (.cons (.comp (.bin .mul (.var 1) (.var 2)) (.one 2) (.seq (.var 0)) .no [2]) .nil) [0])) .nil) }
def p_shared : PFun := { np := 2, ns := 5, urn := false, fresh := false, body := (.cons (.par [2, 3] (.cons (.bi .tuple (.cons (.var 0) .nil)) (.cons (.bi .tuple (.cons (.var 1) .nil)) .nil))) (.cons (.whil (.cmp .ne (.var 3) (.tup .nil)) (.cons (.par [2, 3] (.cons (.var 3) (.cons (.call "what_remains" (.cons (.var 2) (.cons (.var 3) .nil)) [0, 1]) .nil))) .nil)) (.cons (.set 4 (.call "shortened" (.cons (.var 2) .nil) [0])) (.cons (.ret (.ite (.and (.cmp .ne (.var 4) (.tup .nil)) (.cmp .lt (.idx (.var 4) (.neg (.lit (.int 1)))) (.lit (.int 0)))) (.call "scaled" (.cons (.var 4) (.cons (.neg (.lit (.int 1))) .nil)) [0, 1]) (.var 4))) .nil)))) }
def p_shortened : PFun := { np := 1, ns := 3, urn := false, fresh := false, body := (.cons (.set 1 (.call "divisor_of" (.cons (.var 0) .nil) [0])) (.cons (.ret (.ite (.cmp .gt (.var 1) (.lit (.int 1))) (.bi .tuple (.cons (.comp (.bin .fdiv (.var 2) (.var 1)) (.one 2) (.seq (.var 0)) .no [2]) .nil)) (.bi .tuple (.cons (.var 0) .nil)))) .nil)) }
def p_sign_of : PFun := { np := 1, ns := 1, urn := false, fresh := false, body := (.cons (.ret (.ite (.cmp .gt (.var 0) (.lit (.int 0))) (.lit (.int 1)) (.ite (.cmp .lt (.var 0) (.lit (.int 0))) (.neg (.lit (.int 1))) (.lit (.int 0))))) .nil) }
def p_trimmed : PFun := { np := 1, ns := 2, urn := false, fresh := false, body := (.cons (.set 1 (.bi .list (.cons (.var 0) .nil))) (.cons (.whil (.and (.cmp .ne (.var 1) (.lst .nil)) (.cmp .eq (.idx (.var 1) (.neg (.lit (.int 1)))) (.lit (.int 0)))) (.cons (.pop 1) .nil)) (.cons (.ret (.bi .tuple (.cons (.var 1) .nil))) .nil))) }
def p_turn_of : PFun := { np := 3, ns := 12, urn := false, fresh := false, body := (.cons (.unp [.nm 3, .nm 4, .nm 5] (.var 0)) (.cons (.unp [.nm 6, .nm 7, .nm 8] (.var 1)) (.cons (.unp [.nm 9, .nm 10, .nm 11] (.var 2)) (.cons (.ret (.call "sign_of" (.cons (.bin .add (.bin .sub (.bin .mul (.var 3) (.bin .sub (.bin .mul (.var 7) (.var 11)) (.bin .mul (.var 10) (.var 8)))) (.bin .mul (.var 4) (.bin .sub (.bin .mul (.var 6) (.var 11)) (.bin .mul (.var 9) (.var 8))))) (.bin .mul (.var 5) (.bin .sub (.bin .mul (.var 6) (.var 10)) (.bin .mul (.var 9) (.var 7))))) .nil) [0])) .nil)))) }
def p_vector : PFun := { np := 3, ns := 4, urn := false, fresh := false, body := (.cons (.set 3 (.call "divisor_of" (.cons (.tup (.cons (.var 0) (.cons (.var 1) (.cons (.var 2) .nil)))) .nil) [0])) (.cons (.set 3 (.ite (.cmp .gt (.var 2) (.lit (.int 0))) (.var 3) (.neg (.var 3)))) (.cons (.ret (.tup (.cons (.bin .fdiv (.var 0) (.var 3)) (.cons (.bin .fdiv (.var 1) (.var 3)) (.cons (.bin .fdiv (.var 2) (.var 3)) .nil))))) .nil))) }
def p_vector_between : PFun := { np := 3, ns := 3, urn := false, fresh := false, body := (.cons (.ret (.call "vector_sum" (.cons (.var 0) (.cons (.call "vector_times" (.cons (.call "vector_less" (.cons (.var 1) (.cons (.var 0) .nil)) [0, 1]) (.cons (.var 2) .nil)) [0, 1]) .nil)) [0, 1])) .nil) }
def p_vector_less : PFun := { np := 2, ns := 2, urn := false, fresh := false, body := (.cons (.ret (.call "vector" (.cons (.bin .sub (.bin .mul (.idx (.var 0) (.lit (.int 0))) (.idx (.var 1) (.lit (.int 2)))) (.bin .mul (.idx (.var 1) (.lit (.int 0))) (.idx (.var 0) (.lit (.int 2))))) (.cons (.bin .sub (.bin .mul (.idx (.var 0) (.lit (.int 1))) (.idx (.var 1) (.lit (.int 2)))) (.bin .mul (.idx (.var 1) (.lit (.int 1))) (.idx (.var 0) (.lit (.int 2))))) (.cons (.bin .mul (.idx (.var 0) (.lit (.int 2))) (.idx (.var 1) (.lit (.int 2)))) .nil))) [0, 1, 2])) .nil) }
def p_vector_sum : PFun := { np := 2, ns := 2, urn := false, fresh := false, body := (.cons (.ret (.call "vector" (.cons (.bin .add (.bin .mul (.idx (.var 0) (.lit (.int 0))) (.idx (.var 1) (.lit (.int 2)))) (.bin .mul (.idx (.var 1) (.lit (.int 0))) (.idx (.var 0) (.lit (.int 2))))) (.cons (.bin .add (.bin .mul (.idx (.var 0) (.lit (.int 1))) (.idx (.var 1) (.lit (.int 2)))) (.bin .mul (.idx (.var 1) (.lit (.int 1))) (.idx (.var 0) (.lit (.int 2))))) (.cons (.bin .mul (.idx (.var 0) (.lit (.int 2))) (.idx (.var 1) (.lit (.int 2)))) .nil))) [0, 1, 2])) .nil) }
def p_vector_times : PFun := { np := 2, ns := 2, urn := false, fresh := false, body := (.cons (.ret (.call "vector" (.cons (.bin .mul (.idx (.var 0) (.lit (.int 0))) (.idx (.var 1) (.lit (.int 0)))) (.cons (.bin .mul (.idx (.var 0) (.lit (.int 1))) (.idx (.var 1) (.lit (.int 0)))) (.cons (.bin .mul (.idx (.var 0) (.lit (.int 2))) (.idx (.var 1) (.lit (.int 1)))) .nil))) [0, 1, 2])) .nil) }
def p_what_remains : PFun := { np := 2, ns := 2, urn := false, fresh := false, body := (.cons (.ret (.call "shortened" (.cons (.idx (.call "divided" (.cons (.var 0) (.cons (.var 1) .nil)) [0, 1]) (.lit (.int 1))) .nil) [0])) .nil) }
end Pl
/-! PLib1: to reckon with the evaluator. -/
namespace Pl
open PySem (PyData Str)

theorem callU_eq {G : Prog} {f : String} {p : PFun} (h : G.T f = some p) (n : Nat) (ds : List D) (u : U) : callU G (n + 1) f ds u = runF (ctxN G n) G.ff p ds u := by
  show (match G.T f with | some q => runF (ctxOf G (callU G n)) G.ff q ds u | none => none) = _
  rw [h]; rfl
theorem ctx_fn {G : Prog} {f : String} {p : PFun} (h : G.T f = some p) (hu : p.urn = false) (n : Nat) (ds : List D) : (ctxN G n).fn f ds = (callU G n f ds []).map (·.1) := by
  unfold ctxN ctxOf
  simp only [h, hu, Bool.false_eq_true, if_false]
theorem ctx_ufn {G : Prog} {f : String} {p : PFun} (h : G.T f = some p) (hu : p.urn = true) (n : Nat) (ds : List D) (u : U) : (ctxN G n).ufn f ds u = callU G n f ds u := by
  unfold ctxN ctxOf
  simp only [h, hu, if_true]
theorem ff_eq {G : Prog} {f : String} {p : PFun} (h : G.T f = some p) : G.ff f = p.fresh := by
  unfold Prog.ff
  rw [h]

@[simp] theorem wipe_nil (env : Env) : wipe env [] = env := rfl
@[simp] theorem wipe_cons (env : Env) (v : Nat) (vs : List Nat) : wipe env (v :: vs) = (wipe env vs).set v .no := rfl
@[simp] theorem shaped_int (i : Int) : PySem.SeqAt.shaped (.int i) = true := by simp [PySem.SeqAt.shaped, PyData.canLay0, PyData.depth]
@[simp] theorem shaped_bool (i : Bool) : PySem.SeqAt.shaped (.bool i) = true := by simp [PySem.SeqAt.shaped, PyData.canLay0, PyData.depth]
@[simp] theorem eqD_int (i j : Int) : eqD (.int i) (.int j) = some (decide (i = j)) := by
  simp [eqD, PyData.eqv]
  rfl
@[simp] theorem eqD_str (i j : Str) : eqD (.str i) (.str j) = some (decide (i = j)) := rfl
@[simp] theorem atI_nat {α : Type} (xs : List α) (n : Nat) : atI xs (n : Int) = xs[n]? := by
  unfold atI
  rw [if_pos (Int.natCast_nonneg n)]
  rfl
@[simp] theorem atI_0 {α : Type} (xs : List α) : atI xs 0 = xs[0]? := rfl
@[simp] theorem atI_2 {α : Type} (xs : List α) : atI xs 2 = xs[2]? := rfl
@[simp] theorem atI_3 {α : Type} (xs : List α) : atI xs 3 = xs[3]? := rfl
@[simp] theorem atI_4 {α : Type} (xs : List α) : atI xs 4 = xs[4]? := rfl
@[simp] theorem atI_5 {α : Type} (xs : List α) : atI xs 5 = xs[5]? := rfl
@[simp] theorem atI_6 {α : Type} (xs : List α) : atI xs 6 = xs[6]? := rfl
@[simp] theorem atI_7 {α : Type} (xs : List α) : atI xs 7 = xs[7]? := rfl
@[simp] theorem atI_8 {α : Type} (xs : List α) : atI xs 8 = xs[8]? := rfl
@[simp] theorem atI_9 {α : Type} (xs : List α) : atI xs 9 = xs[9]? := rfl
@[simp] theorem atI_1 {α : Type} (xs : List α) : atI xs 1 = xs[1]? := rfl
@[simp] theorem ixN_nat (n m : Nat) : ixN m (n : Int) = if n < m then some n else none := by
  unfold ixN
  rw [if_pos (Int.natCast_nonneg n)]
  simp
@[simp] theorem ixN_0 (m : Nat) : ixN m 0 = if 0 < m then some 0 else none := ixN_nat 0 m
@[simp] theorem ixN_1 (m : Nat) : ixN m 1 = if 1 < m then some 1 else none := ixN_nat 1 m
@[simp] theorem ixN_2 (m : Nat) : ixN m 2 = if 2 < m then some 2 else none := ixN_nat 2 m
@[simp] theorem ixN_3 (m : Nat) : ixN m 3 = if 3 < m then some 3 else none := ixN_nat 3 m
@[simp] theorem sizeOk_lit (n : Nat) : sizeOk n = decide (n ≤ 100000) := rfl

theorem ff_no {G : Prog} {f : String} {p : PFun} (h : G.T f = some p) (hf : p.fresh = false) : G.ff f = false := (ff_eq h).trans hf
theorem ff_yes {G : Prog} {f : String} {p : PFun} (h : G.T f = some p) (hf : p.fresh = true) : G.ff f = true := (ff_eq h).trans hf
theorem slotOf_nl {ff : String → Bool} {e : E} {d : D} (h : isL d = false) : slotOf ff e d = .imm d := by
  unfold slotOf
  cases d <;> simp [isL] at h ⊢
@[simp] theorem slotOf_int {ff : String → Bool} {e : E} {i : Int} : slotOf ff e (.int i) = .imm (.int i) := slotOf_nl rfl
@[simp] theorem slotOf_bool {ff : String → Bool} {e : E} {i : Bool} : slotOf ff e (.bool i) = .imm (.bool i) := slotOf_nl rfl
@[simp] theorem slotOf_none {ff : String → Bool} {e : E} : slotOf ff e .none = .imm .none := slotOf_nl rfl
@[simp] theorem slotOf_str {ff : String → Bool} {e : E} {i : Str} : slotOf ff e (.str i) = .imm (.str i) := slotOf_nl rfl
@[simp] theorem slotOf_tuple {ff : String → Bool} {e : E} {i : List D} : slotOf ff e (.tuple i) = .imm (.tuple i) := slotOf_nl rfl
@[simp] theorem slotOf_list_t {ff : String → Bool} {e : E} {i : List D} (h : fk ff e = true) : slotOf ff e (.list i) = .own i := by unfold slotOf; rw [if_pos h]
@[simp] theorem slotOf_list_f {ff : String → Bool} {e : E} {i : List D} (h : fk ff e = false) : slotOf ff e (.list i) = .imm (.list i) := by unfold slotOf; rw [h]; rfl
theorem within_nl {ff : String → Bool} {e : E} {d : D} (h : noList d = true) : within ff e d = true := by
  unfold within
  cases d <;> simp [noList] at h ⊢ <;> exact h
@[simp] theorem within_int {ff : String → Bool} {e : E} {i : Int} : within ff e (.int i) = true := within_nl rfl
@[simp] theorem within_bool {ff : String → Bool} {e : E} {i : Bool} : within ff e (.bool i) = true := within_nl rfl
@[simp] theorem within_none {ff : String → Bool} {e : E} : within ff e .none = true := within_nl rfl
@[simp] theorem within_str {ff : String → Bool} {e : E} {i : Str} : within ff e (.str i) = true := within_nl rfl
@[simp] theorem within_tuple {ff : String → Bool} {e : E} {i : List D} : within ff e (.tuple i) = noListAll i := by unfold within; split <;> rfl
@[simp] theorem within_list_t {ff : String → Bool} {e : E} {i : List D} (h : fk ff e = true) : within ff e (.list i) = noListAll i := by unfold within; rw [if_pos h]
@[simp] theorem within_list_f {ff : String → Bool} {e : E} {i : List D} (h : fk ff e = false) : within ff e (.list i) = false := by unfold within; rw [h]; rfl
@[simp] theorem after_t {ff : String → Bool} {env : Env} {e : E} {d : D} (h : within ff e d = true) : after ff env e d = env := by unfold after; rw [if_pos h]
@[simp] theorem after_f {ff : String → Bool} {env : Env} {e : E} {d : D} (h : within ff e d = false) : after ff env e d = freeze env (fvE e) := by unfold after; rw [h]; rfl

/-- whole numbers below 2 ^ k -/
def Sm (k : Nat) (i : Int) : Prop := i.natAbs < 2 ^ k
theorem Sm.mono {j k : Nat} {i : Int} (h : Sm j i) (q : j ≤ k) : Sm k i := Nat.lt_of_lt_of_le h (Nat.pow_le_pow_right (by decide) q)
theorem Sm.mul {j k : Nat} {a b : Int} (h : Sm j a) (q : Sm k b) : Sm (j + k) (a * b) := by
  unfold Sm at *
  rw [Int.natAbs_mul, Nat.pow_add]
  exact Nat.mul_lt_mul'' h q
theorem Sm.add {j k : Nat} {a b : Int} (h : Sm j a) (q : Sm k b) : Sm (max j k + 1) (a + b) := by
  have h1 := h.mono (Nat.le_max_left j k)
  have h2 := q.mono (Nat.le_max_right j k)
  unfold Sm at *
  rw [Nat.pow_succ]
  omega
theorem Sm.neg {k : Nat} {a : Int} (h : Sm k a) : Sm k (-a) := by unfold Sm at *; rw [Int.natAbs_neg]; exact h
theorem Sm.sub {j k : Nat} {a b : Int} (h : Sm j a) (q : Sm k b) : Sm (max j k + 1) (a - b) := by
  rw [Int.sub_eq_add_neg]
  exact h.add q.neg
theorem log2_lt {n k : Nat} (h : n < 2 ^ k) (hk : 0 < k) : n.log2 < k := by
  by_cases hn : n = 0
  · subst hn; simpa using hk
  · exact (Nat.log2_lt hn).mpr h
theorem mulOk_of {j k : Nat} {a b : Int} (h : Sm j a) (q : Sm k b) (hj : j < 400000) (hk : k < 400000) : mulOk a b = true := by
  unfold mulOk
  have h1 := log2_lt (h.mono (Nat.le_succ j)) (Nat.succ_pos j)
  have h2 := log2_lt (q.mono (Nat.le_succ k)) (Nat.succ_pos k)
  exact decide_eq_true (by omega)
theorem divOk_of {k : Nat} {b : Int} (h : Sm k b) (hb : b ≠ 0) (hk : k < 8999) : divOk b = true := by
  unfold divOk
  have h1 := log2_lt (h.mono (Nat.le_succ k)) (Nat.succ_pos k)
  exact decide_eq_true ⟨hb, by omega⟩
theorem Sm.ofDvd {k : Nat} {a p b : Int} (h : Sm k a) (e : a = p * b) (hp : p ≠ 0) : Sm k b := by
  unfold Sm at *
  refine Nat.lt_of_le_of_lt ?_ h
  rw [e, Int.natAbs_mul]
  exact Nat.le_mul_of_pos_left _ (Int.natAbs_pos.mpr hp)

/-- a point, a way: three whole numbers -/
abbrev T3 (x y w : Int) : D := .tuple [.int x, .int y, .int w]
abbrev T2 (x y : Int) : D := .tuple [.int x, .int y]

theorem c_is_whole {G : Prog} (h : G.T "is_whole" = some p_is_whole) (n : Nat) (i : Int) : callU G (n + 1) "is_whole" [.int i] [] = some (.bool true, []) := by
  rw [callU_eq h]
  simp [runF, p_is_whole, mkEnv]
theorem c_are_wholes3 {G : Prog} (h0 : G.T "is_whole" = some p_is_whole) (h : G.T "are_wholes" = some p_are_wholes) (n : Nat) (x y w : Int) : callU G (n + 2) "are_wholes" [T3 x y w, .int 3] [] = some (.bool true, []) := by
  rw [callU_eq h]
  simp [runF, p_are_wholes, mkEnv, ctx_fn h0 rfl, c_is_whole h0]
theorem c_are_wholes2 {G : Prog} (h0 : G.T "is_whole" = some p_is_whole) (h : G.T "are_wholes" = some p_are_wholes) (n : Nat) (x y : Int) : callU G (n + 2) "are_wholes" [T2 x y, .int 2] [] = some (.bool true, []) := by
  rw [callU_eq h]
  simp [runF, p_are_wholes, mkEnv, ctx_fn h0 rfl, c_is_whole h0]
theorem c_sign_of {G : Prog} (h : G.T "sign_of" = some p_sign_of) (n : Nat) (i : Int) : callU G (n + 1) "sign_of" [.int i] [] = some (.int i.sign, []) := by
  rw [callU_eq h]
  rcases Int.lt_trichotomy i 0 with q | q | q
  · simp [runF, p_sign_of, mkEnv, Int.sign_eq_neg_one_of_neg q, q, Int.not_lt.mpr (Int.le_of_lt q)]
  · subst q; simp [runF, p_sign_of, mkEnv]
  · simp [runF, p_sign_of, mkEnv, Int.sign_eq_one_of_pos q, q]
def g3 (x y w : Int) : Int := (Nat.gcd (Nat.gcd x.natAbs y.natAbs) w.natAbs : Nat)
def g2 (x y : Int) : Int := (Nat.gcd x.natAbs y.natAbs : Nat)
theorem c_divisor_of3 {G : Prog} (h : G.T "divisor_of" = some p_divisor_of) (n : Nat) (x y w : Int) : callU G (n + 1) "divisor_of" [T3 x y w] [] = some (.int (g3 x y w), []) := by
  rw [callU_eq h]
  simp [runF, p_divisor_of, mkEnv, g3]
theorem c_divisor_of2 {G : Prog} (h : G.T "divisor_of" = some p_divisor_of) (n : Nat) (x y : Int) : callU G (n + 1) "divisor_of" [T2 x y] [] = some (.int (g2 x y), []) := by
  rw [callU_eq h]
  simp [runF, p_divisor_of, mkEnv, g2]
theorem c_vector_sum {G : Prog} (h : G.T "vector_sum" = some p_vector_sum) (hv : G.T "vector" = some p_vector) (n : Nat) (a b c x y w : Int) (h1 : mulOk a w = true) (h2 : mulOk x c = true) (h3 : mulOk b w = true)  (h4 : mulOk y c = true) (h5 : mulOk c w = true) (d : D)
    (hd : callU G n "vector" [.int (a * w + x * c), .int (b * w + y * c), .int (c * w)] [] = some (d, [])) : callU G (n + 1) "vector_sum" [T3 a b c, T3 x y w] [] = some (d, []) := by
  rw [callU_eq h]
  simp [runF, p_vector_sum, mkEnv, h1, h2, h3, h4, h5, ctx_fn hv rfl, hd]
end Pl

/-! PLib2: points and fractions of the program. -/
namespace Pl
open PySem (PyData Str)

/-! ### normal forms -/
def nx3 (x y w : Int) : Int := Int.fdiv x (g3 x y w)
def ny3 (x y w : Int) : Int := Int.fdiv y (g3 x y w)
def nw3 (x y w : Int) : Int := Int.fdiv w (g3 x y w)
abbrev nv3 (x y w : Int) : D := T3 (nx3 x y w) (ny3 x y w) (nw3 x y w)
theorem fdiv_mul {g a : Int} (h : g ≠ 0) : Int.fdiv (g * a) g = a := Int.mul_fdiv_cancel_left a h
theorem g3_dvd (x y w : Int) : (g3 x y w ∣ x) ∧ (g3 x y w ∣ y) ∧ (g3 x y w ∣ w) := by
  unfold g3
  refine ⟨?_, ?_, ?_⟩ <;> rw [Int.ofNat_dvd_left]
  · exact Nat.dvd_trans (Nat.gcd_dvd_left _ _) (Nat.gcd_dvd_left _ _)
  · exact Nat.dvd_trans (Nat.gcd_dvd_left _ _) (Nat.gcd_dvd_right _ _)
  · exact Nat.gcd_dvd_right _ _
theorem g3_pos {x y w : Int} (h : w ≠ 0) : 0 < g3 x y w := by
  unfold g3
  exact_mod_cast Nat.gcd_pos_of_pos_right _ (Int.natAbs_pos.mpr h)
theorem n3_eq {x y w : Int} (h : w ≠ 0) : x = g3 x y w * nx3 x y w ∧ y = g3 x y w * ny3 x y w ∧ w = g3 x y w * nw3 x y w := by
  have hp := Int.ne_of_gt (g3_pos (x := x) (y := y) h)
  obtain ⟨⟨a, ha⟩, ⟨b, hb⟩, ⟨c, hc⟩⟩ := g3_dvd x y w
  refine ⟨?_, ?_, ?_⟩
  · unfold nx3
    conv => rhs; rhs; lhs; rw [ha]
    rw [fdiv_mul hp]; exact ha
  · unfold ny3
    conv => rhs; rhs; lhs; rw [hb]
    rw [fdiv_mul hp]; exact hb
  · unfold nw3
    conv => rhs; rhs; lhs; rw [hc]
    rw [fdiv_mul hp]; exact hc
theorem pos_of {g a b : Int} (h : 0 < b) (hg : 0 < g) (e : b = g * a) : 0 < a := by
  rcases Int.lt_or_le 0 a with q | q
  · exact q
  · have := Int.mul_le_mul_of_nonneg_left q (Int.le_of_lt hg)
    rw [← e, Int.mul_zero] at this
    omega
theorem nw3_pos {x y w : Int} (h : 0 < w) : 0 < nw3 x y w := by
  exact pos_of h (g3_pos (x := x) (y := y) (Int.ne_of_gt h)) (n3_eq (x := x) (y := y) (Int.ne_of_gt h)).2.2
theorem g3_mul (k x y w : Int) : g3 (k * x) (k * y) (k * w) = k.natAbs * g3 x y w := by
  unfold g3
  rw [Int.natAbs_mul, Int.natAbs_mul, Int.natAbs_mul, Nat.gcd_mul_left, Nat.gcd_mul_left]
  push_cast
  rfl
theorem g3_n {x y w : Int} (h : w ≠ 0) : g3 (nx3 x y w) (ny3 x y w) (nw3 x y w) = 1 := by
  obtain ⟨h1, h2, h3⟩ := n3_eq (x := x) (y := y) h
  have hp := g3_pos (x := x) (y := y) h
  have e := g3_mul (g3 x y w) (nx3 x y w) (ny3 x y w) (nw3 x y w)
  rw [← h1, ← h2, ← h3] at e
  have e2 : ((g3 x y w).natAbs : Int) = g3 x y w := Int.natAbs_of_nonneg (Int.le_of_lt hp)
  rw [e2] at e
  have e3 : g3 x y w * 1 = g3 x y w * g3 (nx3 x y w) (ny3 x y w) (nw3 x y w) := by rw [Int.mul_one]; exact e
  exact (Int.eq_of_mul_eq_mul_left (Int.ne_of_gt hp) e3).symm
/-- a reduced point is its own normal form -/
theorem n3_self {x y w : Int} (h : g3 x y w = 1) : nx3 x y w = x ∧ ny3 x y w = y ∧ nw3 x y w = w := by
  unfold nx3 ny3 nw3
  rw [h]
  simp
theorem n3_scale {k x y w : Int} (hk : 0 < k) (hw : w ≠ 0) : nx3 (k * x) (k * y) (k * w) = nx3 x y w ∧ ny3 (k * x) (k * y) (k * w) = ny3 x y w ∧ nw3 (k * x) (k * y) (k * w) = nw3 x y w := by
  obtain ⟨h1, h2, h3⟩ := n3_eq (x := x) (y := y) hw
  have hp := g3_pos (x := x) (y := y) hw
  have e : g3 (k * x) (k * y) (k * w) = k * g3 x y w := by
    rw [g3_mul, Int.natAbs_of_nonneg (Int.le_of_lt hk)]
  have hkp : k * g3 x y w ≠ 0 := Int.ne_of_gt (Int.mul_pos hk hp)
  unfold nx3 ny3 nw3
  rw [e]
  refine ⟨?_, ?_, ?_⟩
  · show Int.fdiv (k * x) (k * g3 x y w) = nx3 x y w
    conv => lhs; lhs; rw [h1, ← Int.mul_assoc]
    exact fdiv_mul hkp
  · show Int.fdiv (k * y) (k * g3 x y w) = ny3 x y w
    conv => lhs; lhs; rw [h2, ← Int.mul_assoc]
    exact fdiv_mul hkp
  · show Int.fdiv (k * w) (k * g3 x y w) = nw3 x y w
    conv => lhs; lhs; rw [h3, ← Int.mul_assoc]
    exact fdiv_mul hkp
def n1 (x y : Int) : Int := Int.fdiv x (g2 x y)
def n2 (x y : Int) : Int := Int.fdiv y (g2 x y)
abbrev nv2 (x y : Int) : D := T2 (n1 x y) (n2 x y)
theorem g2_dvd (x y : Int) : (g2 x y ∣ x) ∧ (g2 x y ∣ y) := by
  unfold g2
  refine ⟨?_, ?_⟩ <;> rw [Int.ofNat_dvd_left]
  · exact Nat.gcd_dvd_left _ _
  · exact Nat.gcd_dvd_right _ _
theorem g2_pos {x y : Int} (h : y ≠ 0) : 0 < g2 x y := by
  unfold g2
  exact_mod_cast Nat.gcd_pos_of_pos_right _ (Int.natAbs_pos.mpr h)
theorem n2_eq {x y : Int} (h : y ≠ 0) : x = g2 x y * n1 x y ∧ y = g2 x y * n2 x y := by
  have hp := Int.ne_of_gt (g2_pos (x := x) h)
  obtain ⟨⟨a, ha⟩, ⟨b, hb⟩⟩ := g2_dvd x y
  refine ⟨?_, ?_⟩
  · unfold n1
    conv => rhs; rhs; lhs; rw [ha]
    rw [fdiv_mul hp]; exact ha
  · unfold n2
    conv => rhs; rhs; lhs; rw [hb]
    rw [fdiv_mul hp]; exact hb
theorem n2_pos {x y : Int} (h : 0 < y) : 0 < n2 x y := pos_of h (g2_pos (Int.ne_of_gt h)) (n2_eq (Int.ne_of_gt h)).2
theorem g2_mul (k x y : Int) : g2 (k * x) (k * y) = k.natAbs * g2 x y := by
  unfold g2
  rw [Int.natAbs_mul, Int.natAbs_mul, Nat.gcd_mul_left]
  push_cast
  rfl
theorem g2_n {x y : Int} (h : y ≠ 0) : g2 (n1 x y) (n2 x y) = 1 := by
  obtain ⟨h1, h2⟩ := n2_eq (x := x) h
  have hp := g2_pos (x := x) h
  have e := g2_mul (g2 x y) (n1 x y) (n2 x y)
  rw [← h1, ← h2] at e
  have e2 : ((g2 x y).natAbs : Int) = g2 x y := Int.natAbs_of_nonneg (Int.le_of_lt hp)
  rw [e2] at e
  have e3 : g2 x y * 1 = g2 x y * g2 (n1 x y) (n2 x y) := by rw [Int.mul_one]; exact e
  exact (Int.eq_of_mul_eq_mul_left (Int.ne_of_gt hp) e3).symm
theorem n1_sign {x y : Int} (h : 0 < y) : (n1 x y).sign = x.sign := by
  obtain ⟨h1, _⟩ := n2_eq (x := x) (Int.ne_of_gt h)
  have hp := g2_pos (x := x) (Int.ne_of_gt h)
  conv => rhs; rw [h1]
  rw [Int.sign_mul, Int.sign_eq_one_of_pos hp, Int.one_mul]
end Pl

/-! PLib3: the program's vectors and fractions, reckoned. -/
namespace Pl
open PySem (PyData Str)

structure KnV (G : Prog) : Prop where
  is_whole : G.T "is_whole" = some p_is_whole
  are_wholes : G.T "are_wholes" = some p_are_wholes
  divisor_of : G.T "divisor_of" = some p_divisor_of
  is_reduced : G.T "is_reduced" = some p_is_reduced
  is_ratio : G.T "is_ratio" = some p_is_ratio
  ratio : G.T "ratio" = some p_ratio
  is_vector : G.T "is_vector" = some p_is_vector
  vector : G.T "vector" = some p_vector
section
variable {G : Prog} (K : KnV G)
include K
theorem c_is_reduced3 (n : Nat) (x y w : Int) : callU G (n + 2) "is_reduced" [T3 x y w] [] = some (.bool (decide (g3 x y w = 1)), []) := by
  rw [callU_eq K.is_reduced]
  simp [runF, p_is_reduced, mkEnv, ctx_fn K.divisor_of rfl, c_divisor_of3 K.divisor_of]
theorem c_is_reduced2 (n : Nat) (x y : Int) : callU G (n + 2) "is_reduced" [T2 x y] [] = some (.bool (decide (g2 x y = 1)), []) := by
  rw [callU_eq K.is_reduced]
  simp [runF, p_is_reduced, mkEnv, ctx_fn K.divisor_of rfl, c_divisor_of2 K.divisor_of]
theorem c_is_vector (n : Nat) {x y w : Int} (hw : 0 < w) (hg : g3 x y w = 1) : callU G (n + 3) "is_vector" [T3 x y w] [] = some (.bool true, []) := by
  rw [callU_eq K.is_vector]
  simp [runF, p_is_vector, mkEnv, ctx_fn K.are_wholes rfl, ctx_fn K.is_reduced rfl, c_are_wholes3 K.is_whole K.are_wholes, c_is_reduced3 K, hw, hg]
theorem c_is_ratio (n : Nat) {x y : Int} (hw : 0 < y) (hg : g2 x y = 1) : callU G (n + 3) "is_ratio" [T2 x y] [] = some (.bool true, []) := by
  rw [callU_eq K.is_ratio]
  simp [runF, p_is_ratio, mkEnv, ctx_fn K.are_wholes rfl, ctx_fn K.is_reduced rfl, c_are_wholes2 K.is_whole K.are_wholes, c_is_reduced2 K, hw, hg]
theorem c_vector (n : Nat) {x y w : Int} (hw : 0 < w) (hd : divOk (g3 x y w) = true) : callU G (n + 2) "vector" [.int x, .int y, .int w] [] = some (nv3 x y w, []) := by
  rw [callU_eq K.vector]
  simp [runF, p_vector, mkEnv, ctx_fn K.divisor_of rfl, c_divisor_of3 K.divisor_of, hw, hd, nx3, ny3, nw3]
theorem c_ratio (n : Nat) {x y : Int} (hw : 0 < y) (hd : divOk (g2 x y) = true) : callU G (n + 2) "ratio" [.int x, .int y] [] = some (nv2 x y, []) := by
  rw [callU_eq K.ratio]
  simp [runF, p_ratio, mkEnv, ctx_fn K.divisor_of rfl, c_divisor_of2 K.divisor_of, hw, hd, n1, n2]
end
theorem sm_g3 {k : Nat} {x y w : Int} (hw : w ≠ 0) (h : Sm k w) : Sm k (g3 x y w) := by
  obtain ⟨h1, h2, h3⟩ := n3_eq (x := x) (y := y) hw
  refine h.ofDvd (p := nw3 x y w) (by rw [Int.mul_comm]; exact h3) fun z => ?_
  rw [z, Int.mul_zero] at h3
  exact hw h3
theorem sm_g2 {k : Nat} {x y : Int} (hw : y ≠ 0) (h : Sm k y) : Sm k (g2 x y) := by
  obtain ⟨h1, h3⟩ := n2_eq (x := x) hw
  refine h.ofDvd (p := n2 x y) (by rw [Int.mul_comm]; exact h3) fun z => ?_
  rw [z, Int.mul_zero] at h3
  exact hw h3
theorem dv3 {k : Nat} {x y w : Int} (hw : 0 < w) (h : Sm k w) (hk : k < 8999) : divOk (g3 x y w) = true :=
  divOk_of (sm_g3 (Int.ne_of_gt hw) h) (Int.ne_of_gt (g3_pos (Int.ne_of_gt hw))) hk
theorem dv2 {k : Nat} {x y : Int} (hw : 0 < y) (h : Sm k y) (hk : k < 8999) : divOk (g2 x y) = true :=
  divOk_of (sm_g2 (Int.ne_of_gt hw) h) (Int.ne_of_gt (g2_pos (Int.ne_of_gt hw))) hk
/-- a reduced point with small numbers -/
structure Pt (k : Nat) (x y w : Int) : Prop where
  pos : 0 < w
  red : g3 x y w = 1
  x : Sm k x
  y : Sm k y
  w : Sm k w
structure Fr (k : Nat) (x y : Int) : Prop where
  pos : 0 < y
  red : g2 x y = 1
  x : Sm k x
  y : Sm k y
theorem pt_n {k : Nat} {x y w : Int} (hw : 0 < w) (h1 : Sm k x) (h2 : Sm k y) (h3 : Sm k w) : Pt k (nx3 x y w) (ny3 x y w) (nw3 x y w) := by
  obtain ⟨e1, e2, e3⟩ := n3_eq (x := x) (y := y) (Int.ne_of_gt hw)
  have hp := Int.ne_of_gt (g3_pos (x := x) (y := y) (Int.ne_of_gt hw))
  exact ⟨nw3_pos hw, g3_n (Int.ne_of_gt hw), h1.ofDvd e1 hp, h2.ofDvd e2 hp, h3.ofDvd e3 hp⟩
theorem fr_n {k : Nat} {x y : Int} (hw : 0 < y) (h1 : Sm k x) (h2 : Sm k y) : Fr k (n1 x y) (n2 x y) := by
  obtain ⟨e1, e2⟩ := n2_eq (x := x) (Int.ne_of_gt hw)
  have hp := Int.ne_of_gt (g2_pos (x := x) (Int.ne_of_gt hw))
  exact ⟨n2_pos hw, g2_n (Int.ne_of_gt hw), h1.ofDvd e1 hp, h2.ofDvd e2 hp⟩
theorem Sm.c {k : Nat} {a b c d : Int} {j : Nat} (h1 : Sm k a) (h2 : Sm k b) (h3 : Sm k c) (h4 : Sm k d) (hj : k + k + 1 ≤ j) : Sm j (a * b + c * d) ∧ Sm j (a * b - c * d) := by
  have q1 := (h1.mul h2).add (h3.mul h4)
  have q2 := (h1.mul h2).sub (h3.mul h4)
  rw [Nat.max_self] at q1 q2
  exact ⟨q1.mono hj, q2.mono hj⟩

structure KnP (G : Prog) : Prop extends KnV G where
  sign_of : G.T "sign_of" = some p_sign_of
  vector_sum : G.T "vector_sum" = some p_vector_sum
  vector_less : G.T "vector_less" = some p_vector_less
  vector_times : G.T "vector_times" = some p_vector_times
  vector_between : G.T "vector_between" = some p_vector_between
  inner_of : G.T "inner_of" = some p_inner_of
  cross_of : G.T "cross_of" = some p_cross_of
  quartered : G.T "quartered" = some p_quartered
  turn_of : G.T "turn_of" = some p_turn_of
section
variable {G : Prog} (K : KnP G) {k : Nat} {a b c x y w : Int}
include K
theorem c_vsum (n : Nat) (A : Pt k a b c) (B : Pt k x y w) (hk : k < 4000) : callU G (n + 3) "vector_sum" [T3 a b c, T3 x y w] [] = some (nv3 (a * w + x * c) (b * w + y * c) (c * w), []) := by
  have mo : ∀ {i j : Int}, Sm k i → Sm k j → mulOk i j = true := fun h q => mulOk_of h q (by omega) (by omega)
  rw [callU_eq K.vector_sum]
  simp [runF, p_vector_sum, mkEnv, mo A.x B.w, mo B.x A.w, mo A.y B.w, mo B.y A.w, mo A.w B.w, ctx_fn K.vector rfl, c_vector K.toKnV n (x := a * w + x * c) (y := b * w + y * c) (w := c * w) (Int.mul_pos A.pos B.pos) (dv3 (Int.mul_pos A.pos B.pos) (A.w.mul B.w) (by omega))]
theorem c_vless (n : Nat) (A : Pt k a b c) (B : Pt k x y w) (hk : k < 4000) : callU G (n + 3) "vector_less" [T3 a b c, T3 x y w] [] = some (nv3 (a * w - x * c) (b * w - y * c) (c * w), []) := by
  have mo : ∀ {i j : Int}, Sm k i → Sm k j → mulOk i j = true := fun h q => mulOk_of h q (by omega) (by omega)
  rw [callU_eq K.vector_less]
  simp [runF, p_vector_less, mkEnv, mo A.x B.w, mo B.x A.w, mo A.y B.w, mo B.y A.w, mo A.w B.w, ctx_fn K.vector rfl, c_vector K.toKnV n (x := a * w - x * c) (y := b * w - y * c) (w := c * w) (Int.mul_pos A.pos B.pos) (dv3 (Int.mul_pos A.pos B.pos) (A.w.mul B.w) (by omega))]
theorem c_vtimes (n : Nat) (A : Pt k a b c) (B : Fr k x y) (hk : k < 4000) : callU G (n + 3) "vector_times" [T3 a b c, T2 x y] [] = some (nv3 (a * x) (b * x) (c * y), []) := by
  have mo : ∀ {i j : Int}, Sm k i → Sm k j → mulOk i j = true := fun h q => mulOk_of h q (by omega) (by omega)
  rw [callU_eq K.vector_times]
  simp [runF, p_vector_times, mkEnv, mo A.x B.x, mo A.y B.x, mo A.w B.y, ctx_fn K.vector rfl, c_vector K.toKnV n (x := a * x) (y := b * x) (w := c * y) (Int.mul_pos A.pos B.pos) (dv3 (Int.mul_pos A.pos B.pos) (A.w.mul B.y) (by omega))]
theorem c_inner_of (n : Nat) (A : Pt k a b c) (B : Pt k x y w) (hk : k < 4000) : callU G (n + 3) "inner_of" [T3 a b c, T3 x y w] [] = some (nv2 (a * x + b * y) (c * w), []) := by
  have mo : ∀ {i j : Int}, Sm k i → Sm k j → mulOk i j = true := fun h q => mulOk_of h q (by omega) (by omega)
  rw [callU_eq K.inner_of]
  simp [runF, p_inner_of, mkEnv, mo A.x B.x, mo A.y B.y, mo A.w B.w, ctx_fn K.ratio rfl, c_ratio K.toKnV n (x := a * x + b * y) (y := c * w) (Int.mul_pos A.pos B.pos) (dv2 (Int.mul_pos A.pos B.pos) (A.w.mul B.w) (by omega))]
theorem c_cross_of (n : Nat) (A : Pt k a b c) (B : Pt k x y w) (hk : k < 4000) : callU G (n + 3) "cross_of" [T3 a b c, T3 x y w] [] = some (nv2 (a * y - b * x) (c * w), []) := by
  have mo : ∀ {i j : Int}, Sm k i → Sm k j → mulOk i j = true := fun h q => mulOk_of h q (by omega) (by omega)
  rw [callU_eq K.cross_of]
  simp [runF, p_cross_of, mkEnv, mo A.x B.y, mo A.y B.x, mo A.w B.w, ctx_fn K.ratio rfl, c_ratio K.toKnV n (x := a * y - b * x) (y := c * w) (Int.mul_pos A.pos B.pos) (dv2 (Int.mul_pos A.pos B.pos) (A.w.mul B.w) (by omega))]
theorem c_quartered (n : Nat) (a b c : Int) : callU G (n + 1) "quartered" [T3 a b c] [] = some (T3 (-b) a c, []) := by
  rw [callU_eq K.quartered]
  simp [runF, p_quartered, mkEnv]
end
end Pl

/-! PLib4: the laws' own draws. -/
namespace Pl
open PySem (PyData Str)

theorem forL_inv {step : D → Env → U → Option O} {I : Env → U → Prop} : ∀ {ds : List D} {env : Env} {u : U}, (∀ d ∈ ds, ∀ env u, I env u → ∃ env' u', step d env u = some (.nx env' u') ∧ I env' u') → I env u → ∃ env' u', forL step ds env u = some (.nx env' u') ∧ I env' u'
  | [], env, u, _, h => ⟨env, u, rfl, h⟩
  | d :: ds, env, u, hs, h => by
    obtain ⟨env1, u1, e1, h1⟩ := hs d List.mem_cons_self env u h
    obtain ⟨env2, u2, e2, h2⟩ := forL_inv (ds := ds) (fun d hd => hs d (List.mem_cons_of_mem _ hd)) h1
    refine ⟨env2, u2, ?_, h2⟩
    simp only [forL, e1, Option.bind_some]
    exact e2

section
variable {C : Ctx} {ff : String → Bool}
theorem runF_of {p : PFun} {ds : List D} {u u' : U} {d : D} (hn : ds.length + (if p.urn then 1 else 0) = p.np) (h : execSs C ff p.body (mkEnv p ds) u = some (.rt d u')) : runF C ff p ds u = some (d, u') := by
  unfold runF
  rw [if_pos hn, h]
theorem run_cons {s : S} {ss : Ss} {env env1 : Env} {u u1 : U} {o : Option O} (h : execS C ff s env u = some (.nx env1 u1)) (h2 : execSs C ff ss env1 u1 = o) : execSs C ff (.cons s ss) env u = o := by
  rw [execSs, h]
  exact h2
theorem run_last {s : S} {ss : Ss} {env : Env} {u u1 : U} {d : D} (h : execS C ff s env u = some (.rt d u1)) : execSs C ff (.cons s ss) env u = some (.rt d u1) := by
  rw [execSs, h]
  rfl
theorem run_for {t : Tg} {it : I} {b : Ss} {env : Env} {u u1 : U} {ds : List D} {o : Option O} (h1 : evalI C it env u = some (ds, u1)) (hz : ds.length ≤ 100000)
    (h2 : forL (fun d env u => (bindT t d env).bind fun env' => execSs C ff b env' u) ds (if iterOk it then env else freeze env (fvI it)) u1 = o) : execS C ff (.for_ t it b) env u = o := by
  simp only [execS, h1, Option.bind_some]
  rw [if_pos (show sizeOk ds.length = true from decide_eq_true hz)]
  exact h2
end
structure KnU (G : Prog) : Prop where
  urn : G.T "_law_urn" = some p__law_urn
  pull : G.T "_law_pull" = some p__law_pull
  any : G.T "_law_any" = some p__law_any
  num : G.T "_law_num" = some p__law_num
  laps : G.T "_law_laps" = some p__law_laps
/-- a pot of draws -/
def Pot (u : U) : Prop := ∃ z0 z1 z2, u = [z0, z1, z2] ∧ Sm 40 z1 ∧ Sm 40 z2
theorem sm_fmod {a m : Int} {k : Nat} (h : 0 < m) (hm : Sm k m) : Sm k (Int.fmod a m) := by
  have h1 := Int.fmod_nonneg_of_pos a h
  have h2 := Int.fmod_lt_of_pos a h
  unfold Sm at *
  omega
theorem sm_lit {k : Nat} {i : Int} (h : decide (i.natAbs < 2 ^ k) = true) : Sm k i := by unfold Sm; exact of_decide_eq_true h
section
variable {G : Prog} (K : KnU G)
include K
theorem c_pull (n : Nat) {u : U} {m : Int} (hu : Pot u) (hm : 0 < m) (sm : Sm 64 m) : ∃ d u', callU G (n + 1) "_law_pull" [.int m] u = some (.int d, u') ∧ 0 ≤ d ∧ d < m ∧ Pot u' := by
  obtain ⟨z0, z1, z2, rfl, s1, s2⟩ := hu
  have hd : divOk m = true := divOk_of sm (by omega) (by decide)
  by_cases hz : 0 < z0
  · refine ⟨Int.fmod z0 m, [Int.fdiv z0 m, z1, z2], ?_, Int.fmod_nonneg_of_pos _ hm, Int.fmod_lt_of_pos _ hm, _, _, _, rfl, s1, s2⟩
    rw [callU_eq K.pull]
    simp [runF, p__law_pull, mkEnv, hz, hd]
  · have m1 : mulOk z1 37199 = true := mulOk_of (k := 20) s1 (sm_lit (by decide)) (by decide) (by decide)
    have m2 : mulOk z2 29443 = true := mulOk_of (k := 20) s2 (sm_lit (by decide)) (by decide) (by decide)
    have d1 : divOk 269 = true := divOk_of (k := 20) (sm_lit (by decide)) (by decide) (by decide)
    have q1 : Sm 40 (Int.fmod (z1 * 37199 + 1201) 2147483629) := sm_fmod (by decide) (sm_lit (by decide))
    have q2 : Sm 40 (Int.fmod (z2 * 29443 + Int.fmod (z1 * 37199 + 1201) 2147483629) 2147483587) := sm_fmod (by decide) (sm_lit (by decide))
    refine ⟨Int.fmod (Int.fdiv (Int.fmod (z2 * 29443 + Int.fmod (z1 * 37199 + 1201) 2147483629) 2147483587) 269) m, [z0, _, _], ?_, Int.fmod_nonneg_of_pos _ hm, Int.fmod_lt_of_pos _ hm, _, _, _, rfl, q1, q2⟩
    rw [callU_eq K.pull]
    have hm0 : m ≠ 0 := by omega
    simp [runF, p__law_pull, mkEnv, hz, hd, m1, m2, d1, hm0]
theorem c_any (n : Nat) {u : U} {xs : List D} (hu : Pot u) (h0 : xs ≠ []) (hl : xs.length ≤ 100000) : ∃ x u', callU G (n + 2) "_law_any" [.list xs] u = some (x, u') ∧ x ∈ xs ∧ Pot u' := by
  have hp : 0 < xs.length := List.length_pos_iff.mpr h0
  obtain ⟨d, u', e, h1, h2, h3⟩ := c_pull K n hu (m := (xs.length : Int)) (by omega) (by unfold Sm; omega)
  obtain ⟨i, rfl⟩ := Int.eq_ofNat_of_zero_le h1
  have hi : i < xs.length := by omega
  refine ⟨xs[i], u', ?_, List.getElem_mem hi, h3⟩
  rw [callU_eq K.any]
  simp [runF, p__law_any, mkEnv, ctx_ufn K.pull rfl, ff_no K.pull rfl, e, hi]
theorem c_num (n : Nat) {u : U} {h : Int} (hu : Pot u) (h0 : 0 ≤ h) (sm : Sm 60 h) : ∃ z u', callU G (n + 2) "_law_num" [.int h] u = some (.int z, u') ∧ -h ≤ z ∧ z ≤ h ∧ Pot u' := by
  obtain ⟨d, u', e, h1, h2, h3⟩ := c_pull K n hu (m := 2 * h + 1) (by omega) (by unfold Sm at *; omega)
  refine ⟨d - h, u', ?_, by omega, by omega, h3⟩
  have m1 : mulOk 2 h = true := mulOk_of (j := 20) (sm_lit (by decide)) sm (by decide) (by decide)
  rw [callU_eq K.num]
  simp [runF, p__law_num, mkEnv, ctx_ufn K.pull rfl, ff_no K.pull rfl, e, m1]
theorem c_laps (n : Nat) (xs : List D) : ∃ k : Int, callU G (n + 1) "_law_laps" [.list xs] [] = some (.int k, []) ∧ 2 ≤ k ∧ k ≤ 3 := by
  rw [callU_eq K.laps]
  simp [runF, p__law_laps, mkEnv]
  split <;> split <;> first | omega | skip
end
end Pl

/-! PLib5: the pot at a law's begin; own fractions (dialect a). -/
namespace Pl
open PySem (PyData Str)
/-- the body of a def's first for, its walk -/
def forBody : Ss → Ss
  | .nil => .nil
  | .cons (.for_ _ _ b) _ => b
  | .cons _ ss => forBody ss
theorem cut63 {α : Type} (xs : List α) : cut xs none (some 63) = xs.take 63 := by
  unfold cut sIx
  simp
section
variable {G : Prog} (K : KnU G)
include K
theorem c_urn (n : Nat) (ns : List Int) (lap : Int) (h0 : 0 ≤ lap) (hl : lap ≤ 3) (hn : ns.length ≤ 63) : ∃ z0 z1 z2, callU G (n + 1) "_law_urn" [.list (ns.map .int), .int lap] [] = some (.list [.int z0, .int z1, .int z2], []) ∧ Sm 40 z1 ∧ Sm 40 z2 := by
  have lapS : Sm 2 lap := by unfold Sm; omega
  have m0 : mulOk 7001 lap = true := mulOk_of (j := 20) (sm_lit (by decide)) lapS (by decide) (by decide)
  obtain ⟨env', u', hf, seed, d3, rfl, rfl, hs⟩ := forL_inv (step := fun d env u => (bindT (.one 3) d env).bind fun env' => execSs (ctxN G n) G.ff (forBody p__law_urn.body) env' u)
    (I := fun env u => ∃ seed d3, env = [.imm (.list (ns.map .int)), .imm (.int lap), .imm (.int seed), d3, .no] ∧ u = [] ∧ Sm 39 seed) (ds := (ns.map PyData.int).take 63) (env := [.imm (.list (ns.map .int)), .imm (.int lap), .imm (.int (60427 + 7001 * lap)), .no, .no]) (u := [])
    (fun d hd env u ⟨seed, d3, e1, e2, hs⟩ => by
      subst e1 e2
      obtain ⟨c, rfl⟩ : ∃ c, d = .int c := by
        have := List.mem_of_mem_take hd
        obtain ⟨c, _, rfl⟩ := List.mem_map.mp this
        exact ⟨c, rfl⟩
      have m1 : mulOk seed 47701 = true := mulOk_of (k := 20) hs (sm_lit (by decide)) (by decide) (by decide)
      refine ⟨_, _, by simp [forBody, p__law_urn, m1]; exact ⟨rfl, rfl⟩, _, _, rfl, rfl, sm_fmod (by decide) (sm_lit (by decide))⟩)
    ⟨_, _, rfl, rfl, by unfold Sm at *; omega⟩
  have m2 : mulOk seed 41203 = true := mulOk_of (k := 20) hs (sm_lit (by decide)) (by decide) (by decide)
  have own : ∃ w : Int, (if lap < (ns.length : Int) then (atI (ns.map PyData.int) lap).bind fun d => (biV .int [d]).bind fun d => biV .abs [d] else some (.int 0)) = some (.int w) := by
    by_cases hlt : lap < (ns.length : Int)
    · obtain ⟨i, rfl⟩ := Int.eq_ofNat_of_zero_le h0
      have hi : i < ns.length := by omega
      refine ⟨if ns[i] < 0 then -ns[i] else ns[i], ?_⟩
      simp [hi]
    · exact ⟨0, by rw [if_neg hlt]⟩
  obtain ⟨w, hw⟩ := own
  have p18 : (10 : Int) ^ (Int.toNat 18) = 1000000000000000000 := by decide
  refine ⟨if 1000000000000000000 ≤ w then w else 0, Int.fmod (seed * 41203 + Int.fmod w 2147483563 + 5) 2147483563, seed + 3, ?_, sm_fmod (by decide) (sm_lit (by decide)), ?_⟩
  rotate_left
  · exact (hs.add (b := 3) (sm_lit (k := 39) (by decide)))
  rw [callU_eq K.urn]
  refine runF_of rfl (run_cons (env1 := [.imm (.list (ns.map .int)), .imm (.int lap), .imm (.int (60427 + 7001 * lap)), .no, .no]) (u1 := []) ?_ (run_cons (run_for (ds := (ns.map PyData.int).take 63) (u1 := []) ?_ ?_ hf) ?_))
  · simp [mkEnv, p__law_urn, m0]
  · simp [cut63]
  · simp; omega
  by_cases hlt : lap < (ns.length : Int)
  · rw [if_pos hlt] at hw
    obtain ⟨i, rfl⟩ := Int.eq_ofNat_of_zero_le h0
    have hi : i < ns.length := by omega
    simp [hi] at hw
    refine run_cons (env1 := [.imm (.list (ns.map .int)), .imm (.int i), .imm (.int seed), d3, .imm (.int w)]) (u1 := []) ?_ (run_last ?_)
    · simp [hi, hw]
    · by_cases hb : 1000000000000000000 ≤ w
      · simp [hb, m2]
      · simp [hb, m2]
  · rw [if_neg hlt] at hw
    cases hw
    refine run_cons (env1 := [.imm (.list (ns.map .int)), .imm (.int lap), .imm (.int seed), d3, .imm (.int 0)]) (u1 := []) ?_ (run_last ?_)
    · simp [hlt]
    · simp [m2]
end
end Pl

/-! PLib6: own fractions and points of the laws (dialect a). -/
namespace Pl
open PySem (PyData Str)
section
variable {C : Ctx} {ff : String → Bool}
abbrev gStep (C : Ctx) (ff : String → Bool) : D → Env → U → Option O := fun d env u => (bindT (.one 2) d env).bind fun env' => execSs C ff (forBody p__law_gcd__a.body) env' u
theorem gStep_0 (d : D) (a : Int) (s : Slot) (u : U) : gStep C ff d [.imm (.int a), .imm (.int 0), s] u = some (.bk [.imm (.int a), .imm (.int 0), .imm d] u) := by
  simp [gStep, forBody, p__law_gcd__a]
theorem gStep_1 (d : D) (a b : Int) (hb : b ≠ 0) (s : Slot) (u : U) : gStep C ff d [.imm (.int a), .imm (.int b), s] u = some (.nx [.imm (.int b), .imm (.int (Int.fmod a b)), .imm d] u) := by
  simp [gStep, forBody, p__law_gcd__a, hb]
theorem fmod_nat (a b : Nat) : Int.fmod (a : Int) (b : Int) = ((a % b : Nat) : Int) := by
  rw [Int.fmod_eq_emod_of_nonneg _ (Int.natCast_nonneg b)]
  rfl
theorem gcd_loop (u : U) : ∀ (k a b : Nat) (s : Slot) (ds : List D), b < 2 ^ k → 2 * k + 1 ≤ ds.length → ∃ s', forL (gStep C ff) ds [.imm (.int a), .imm (.int b), s] u = some (.nx [.imm (.int (Nat.gcd a b : Nat)), .imm (.int 0), s'] u)
  | k, a, b, s, [], hb, hl => by simp at hl
  | 0, a, b, s, d :: ds, hb, hl => by
    have : b = 0 := by simpa using hb
    subst this
    refine ⟨.imm d, ?_⟩
    have e := gStep_0 (C := C) (ff := ff) d (a : Int) s u
    simp only [forL]
    rw [show ((0 : Nat) : Int) = 0 from rfl, e]
    simp
  | k + 1, a, b, s, d :: [], hb, hl => by simp at hl
  | k + 1, a, b, s, d :: d2 :: ds, hb, hl => by
    by_cases h0 : b = 0
    · subst h0
      refine ⟨.imm d, ?_⟩
      have e := gStep_0 (C := C) (ff := ff) d (a : Int) s u
      simp only [forL]
      rw [show ((0 : Nat) : Int) = 0 from rfl, e]
      simp
    have e1 := gStep_1 (C := C) (ff := ff) d (a : Int) (b : Int) (by exact_mod_cast h0) s u
    rw [fmod_nat] at e1
    by_cases h1 : a % b = 0
    · refine ⟨.imm d2, ?_⟩
      rw [h1] at e1
      have e2 := gStep_0 (C := C) (ff := ff) d2 (b : Int) (.imm d) u
      simp only [forL, e1, Option.bind_some]
      rw [show ((0 : Nat) : Int) = 0 from rfl, e2]
      have hg : Nat.gcd a b = b := by
        rw [Nat.gcd_comm, Nat.gcd_rec, h1, Nat.gcd_zero_left]
      simp [hg]
    · have e2 := gStep_1 (C := C) (ff := ff) d2 (b : Int) ((a % b : Nat) : Int) (by exact_mod_cast h1) (.imm d) u
      rw [fmod_nat] at e2
      have lt1 : a % b < b := Nat.mod_lt _ (Nat.pos_of_ne_zero h0)
      have lt2 : b % (a % b) < a % b := Nat.mod_lt _ (Nat.pos_of_ne_zero h1)
      have ge : a % b + b % (a % b) ≤ b := by
        have := Nat.div_add_mod b (a % b)
        have hq : 0 < b / (a % b) := Nat.div_pos (Nat.le_of_lt lt1) (Nat.pos_of_ne_zero h1)
        have : a % b * 1 ≤ a % b * (b / (a % b)) := Nat.mul_le_mul_left _ hq
        omega
      have hk : b % (a % b) < 2 ^ k := by rw [Nat.pow_succ] at hb; omega
      obtain ⟨s', e3⟩ := gcd_loop u k (a % b) (b % (a % b)) (.imm d2) ds hk (by simp at hl; omega)
      refine ⟨s', ?_⟩
      simp only [forL, e1, e2, Option.bind_some]
      rw [e3]
      have hg : Nat.gcd (a % b) (b % (a % b)) = Nat.gcd a b := by
        conv => rhs; rw [Nat.gcd_comm, Nat.gcd_rec]
        rw [Nat.gcd_comm, ← Nat.gcd_rec]
      rw [hg]
end
theorem na_abs (x : Int) : (if x < 0 then -x else x).natAbs = x.natAbs := by split <;> omega
theorem abs_nn (x : Int) : 0 ≤ (if x < 0 then -x else x) := by split <;> omega
theorem sm_abs {k : Nat} {x : Int} (h : Sm k x) : Sm k (if x < 0 then -x else x) := by unfold Sm at *; rw [na_abs]; exact h
theorem g2_nn (x y : Int) : 0 ≤ g2 x y := by unfold g2; exact Int.natCast_nonneg _
theorem g2_abs (a x : Int) : g2 a (if x < 0 then -x else x) = g2 a x := by unfold g2; rw [na_abs]
theorem g2_0 (x : Int) : g2 0 x = (x.natAbs : Nat) := by unfold g2; simp
theorem g3_g2 (x y w : Int) : g2 (g2 (g2 0 x) y) w = g3 x y w := by unfold g3 g2; simp
structure KnF (G : Prog) : Prop where
  gcd : G.T "_law_gcd" = some p__law_gcd__a
  thin : G.T "_law_thin" = some p__law_thin
  frac : G.T "_law_frac" = some p__law_frac
  spot : G.T "_law_spot" = some p__law_spot__a
section
variable {G : Prog} (K : KnF G)
include K
theorem c_gcd (n : Nat) {a b : Int} {k : Nat} (ha : 0 ≤ a) (hb : 0 ≤ b) (sb : Sm k b) (hk : k ≤ 9000) : callU G (n + 1) "_law_gcd" [.int a, .int b] [] = some (.int (g2 a b), []) := by
  obtain ⟨x, rfl⟩ := Int.eq_ofNat_of_zero_le ha
  obtain ⟨y, rfl⟩ := Int.eq_ofNat_of_zero_le hb
  obtain ⟨s', e⟩ := gcd_loop (C := ctxN G n) (ff := G.ff) [] k x y .no (rangeL 0 20000) (by unfold Sm at sb; simpa using sb) (by simp [rangeL]; omega)
  rw [callU_eq K.gcd]
  refine runF_of rfl (run_cons (run_for (ds := rangeL 0 20000) (u1 := []) ?_ ?_ e) (run_last ?_))
  · simp [intOk]
  · simp [rangeL]
  · simp [g2]
theorem c_thin3 (n : Nat) {x y w : Int} {k : Nat} (hw : w ≠ 0) (sx : Sm k x) (sy : Sm k y) (sw : Sm k w) (hk : k < 8990) : callU G (n + 2) "_law_thin" [T3 x y w] [] = some (nv3 x y w, []) := by
  have e1 := c_gcd K n (a := 0) (Int.le_refl 0) (abs_nn x) (sm_abs sx) (by omega)
  have e2 := c_gcd K n (a := g2 0 x) (g2_nn _ _) (abs_nn y) (sm_abs sy) (by omega)
  have e3 := c_gcd K n (a := g2 (g2 0 x) y) (g2_nn _ _) (abs_nn w) (sm_abs sw) (by omega)
  rw [g2_abs] at e1 e2 e3
  rw [g3_g2] at e3
  have hp := g3_pos (x := x) (y := y) hw
  have hd : divOk (g3 x y w) = true := divOk_of (sm_g3 hw sw) (Int.ne_of_gt hp) (by omega)
  rw [callU_eq K.thin]
  by_cases hc : g3 x y w < 2
  · have h1 : g3 x y w = 1 := by omega
    obtain ⟨q1, q2, q3⟩ := n3_self h1
    simp [runF, p__law_thin, mkEnv, ctx_fn K.gcd rfl, e1, e2, e3, hc, q1, q2, q3]
  · simp [runF, p__law_thin, mkEnv, ctx_fn K.gcd rfl, e1, e2, e3, hc, hd, nx3, ny3, nw3]
theorem c_thin2 (n : Nat) {x y : Int} {k : Nat} (hw : y ≠ 0) (sx : Sm k x) (sy : Sm k y) (hk : k < 8990) : callU G (n + 2) "_law_thin" [T2 x y] [] = some (nv2 x y, []) := by
  have e1 := c_gcd K n (a := 0) (Int.le_refl 0) (abs_nn x) (sm_abs sx) (by omega)
  have e2 := c_gcd K n (a := g2 0 x) (g2_nn _ _) (abs_nn y) (sm_abs sy) (by omega)
  rw [g2_abs] at e1 e2
  have e0 : g2 (g2 0 x) y = g2 x y := by unfold g2; simp
  rw [e0] at e2
  have hp := g2_pos (x := x) hw
  have hd : divOk (g2 x y) = true := divOk_of (sm_g2 hw sy) (Int.ne_of_gt hp) (by omega)
  rw [callU_eq K.thin]
  by_cases hc : g2 x y < 2
  · have h1 : g2 x y = 1 := by omega
    have q1 : n1 x y = x := by unfold n1; rw [h1]; simp
    have q2 : n2 x y = y := by unfold n2; rw [h1]; simp
    simp [runF, p__law_thin, mkEnv, ctx_fn K.gcd rfl, e1, e2, hc, q1, q2]
  · simp [runF, p__law_thin, mkEnv, ctx_fn K.gcd rfl, e1, e2, hc, hd, n1, n2]
theorem c_frac (n : Nat) {x y : Int} {k : Nat} (hw : 0 < y) (sx : Sm k x) (sy : Sm k y) (hk : k < 8990) : callU G (n + 3) "_law_frac" [.int x, .int y] [] = some (nv2 x y, []) := by
  have e := c_thin2 K n (Int.ne_of_gt hw) sx sy hk
  rw [callU_eq K.frac]
  simp [runF, p__law_frac, mkEnv, ctx_fn K.thin rfl, e, n2_pos hw]
theorem c_spot (n : Nat) {x y w : Int} {k : Nat} (hw : w ≠ 0) (sx : Sm k x) (sy : Sm k y) (sw : Sm k w) (hk : k < 8990) : callU G (n + 3) "_law_spot" [.int x, .int y, .int w] [] = some (nv3 x y w, []) := by
  have e := c_thin3 K n hw sx sy sw hk
  rw [callU_eq K.spot]
  simp [runF, p__law_spot__a, mkEnv, ctx_fn K.thin rfl, e]
end
end Pl

/-! PLib7: the other pot of draws (_law_pot, _law_draw, _law_of, _law_from). -/
namespace Pl
open PySem (PyData Str)
/-- a pot after at most m draws -/
def PotN (m : Nat) (u : U) : Prop := ∃ z0 z1 z2, u = [z0, z1, z2] ∧ Sm 40 z1 ∧ 0 ≤ z2 ∧ z2 ≤ (m : Int)
structure KnD (G : Prog) : Prop where
  draw : G.T "_law_draw" = some p__law_draw
  from_ : G.T "_law_from" = some p__law_from
section
variable {G : Prog} (K : KnD G)
include K
theorem c_draw (n : Nat) {u : U} {m : Nat} {k : Int} (hu : PotN m u) (hm : m ≤ 1000000000) (hk : 0 < k) (sk : Sm 64 k) : ∃ d u', callU G (n + 1) "_law_draw" [.int k] u = some (.int d, u') ∧ 0 ≤ d ∧ d < k ∧ PotN (m + 1) u' := by
  obtain ⟨z0, z1, z2, rfl, s1, l2, h2⟩ := hu
  have hd : divOk k = true := divOk_of sk (by omega) (by decide)
  by_cases hz : 0 < z0
  · refine ⟨Int.fmod z0 k, [Int.fdiv z0 k, z1, z2], ?_, Int.fmod_nonneg_of_pos _ hk, Int.fmod_lt_of_pos _ hk, _, _, _, rfl, s1, l2, by omega⟩
    rw [callU_eq K.draw]
    simp [runF, p__law_draw, mkEnv, hz, hd]
  · have s2 : Sm 40 (z2 + 1) := by unfold Sm; omega
    have st : Sm 40 (Int.fmod z1 25013 + 17011) := ((sm_fmod (k := 20) (by decide) (sm_lit (by decide))).add (sm_lit (k := 20) (by decide))).mono (by decide)
    have m1 : mulOk z1 (Int.fmod z1 25013 + 17011) = true := mulOk_of s1 st (by decide) (by decide)
    have m2 : mulOk 80021 (z2 + 1) = true := mulOk_of (j := 20) (sm_lit (by decide)) s2 (by decide) (by decide)
    have d1 : divOk 67 = true := divOk_of (k := 20) (sm_lit (by decide)) (by decide) (by decide)
    have hk0 : k ≠ 0 := by omega
    refine ⟨Int.fmod (Int.fdiv (Int.fmod (z1 * (Int.fmod z1 25013 + 17011) + 80021 * (z2 + 1) + 9) 2147483587) 67) k, [z0, Int.fmod (z1 * (Int.fmod z1 25013 + 17011) + 80021 * (z2 + 1) + 9) 2147483587, z2 + 1], ?_, Int.fmod_nonneg_of_pos _ hk, Int.fmod_lt_of_pos _ hk, _, _, _, rfl, sm_fmod (by decide) (sm_lit (by decide)), by omega, by omega⟩
    rw [callU_eq K.draw]
    simp [runF, p__law_draw, mkEnv, hz, hd, m1, m2, d1, hk0]
theorem c_from (n : Nat) {u : U} {m : Nat} {lo hi : Int} (hu : PotN m u) (hm : m ≤ 1000000000) (hk : lo ≤ hi) (s1 : Sm 60 lo) (s2 : Sm 60 hi) : ∃ d u', callU G (n + 2) "_law_from" [.int lo, .int hi] u = some (.int d, u') ∧ lo ≤ d ∧ d ≤ hi ∧ PotN (m + 1) u' := by
  obtain ⟨d, u', e, h1, h2, h3⟩ := c_draw K n hu hm (k := hi - lo + 1) (by omega) (by unfold Sm at *; omega)
  refine ⟨lo + d, u', ?_, by omega, by omega, h3⟩
  rw [callU_eq K.from_]
  simp [runF, p__law_from, mkEnv, ctx_ufn K.draw rfl, ff_no K.draw rfl, e]
end
end Pl

/-! PLib8: rows of whole numbers, in plain Lean: ends cut off, divisors, products, division. -/
namespace Pl
def co (xs : List Int) (i : Nat) : Int := xs.getD i 0
@[simp] theorem co_nil (i : Nat) : co [] i = 0 := rfl
@[simp] theorem co_zero (x : Int) (xs : List Int) : co (x :: xs) 0 = x := rfl
@[simp] theorem co_succ (x : Int) (xs : List Int) (i : Nat) : co (x :: xs) (i + 1) = co xs i := rfl
theorem co_ge : ∀ {xs : List Int} {i : Nat}, xs.length ≤ i → co xs i = 0
  | [], _, _ => rfl
  | _ :: xs, i + 1, h => by rw [co_succ]; exact co_ge (by simpa using h)
theorem co_get {xs : List Int} {i : Nat} (h : i < xs.length) : xs[i]? = some (co xs i) := by
  unfold co
  rw [List.getD_eq_getElem?_getD, List.getElem?_eq_getElem h]
  rfl
theorem co_of {xs : List Int} {i : Nat} {x : Int} (h : xs[i]? = some x) : co xs i = x := by
  unfold co
  rw [List.getD_eq_getElem?_getD, h]
  rfl
theorem co_mem {xs : List Int} {i : Nat} (h : i < xs.length) : co xs i ∈ xs := List.mem_of_getElem? (co_get h)
theorem co_set {xs : List Int} {j : Nat} {x : Int} (h : j < xs.length) (i : Nat) : co (xs.set j x) i = if i = j then x else co xs i := by
  unfold co
  rw [List.getD_eq_getElem?_getD, List.getD_eq_getElem?_getD, List.getElem?_set]
  by_cases e : i = j
  · subst e; simp [h]
  · rw [if_neg (Ne.symm e), if_neg e]
theorem co_map {xs : List Int} {f : Int → Int} (h : f 0 = 0) (i : Nat) : co (xs.map f) i = f (co xs i) := by
  unfold co
  rw [List.getD_eq_getElem?_getD, List.getD_eq_getElem?_getD, List.getElem?_map]
  cases xs[i]? <;> simp [h]
theorem co_rep (n i : Nat) : co (List.replicate n 0) i = 0 := by
  unfold co
  rw [List.getD_eq_getElem?_getD, List.getElem?_replicate]
  split <;> rfl
/-- without the noughts at the end -/
def trimZ : List Int → List Int
  | [] => []
  | x :: xs => if trimZ xs = [] ∧ x = 0 then [] else x :: trimZ xs
theorem co_trim : ∀ (xs : List Int) (i : Nat), co (trimZ xs) i = co xs i
  | [], _ => rfl
  | x :: xs, i => by
    unfold trimZ
    split
    · rename_i h
      cases i with
      | zero => rw [co_nil, co_zero, h.2]
      | succ i => rw [co_nil, co_succ, ← co_trim xs i, h.1, co_nil]
    · cases i with
      | zero => rfl
      | succ i => rw [co_succ, co_succ, co_trim xs i]
theorem trim_zero : ∀ {xs : List Int}, (∀ i, co xs i = 0) → trimZ xs = []
  | [], _ => rfl
  | x :: xs, h => by
    unfold trimZ
    rw [if_pos ⟨trim_zero fun i => by simpa using h (i + 1), by simpa using h 0⟩]
theorem trim_ext : ∀ {xs ys : List Int}, (∀ i, co xs i = co ys i) → trimZ xs = trimZ ys
  | [], ys, h => (trim_zero (xs := ys) fun i => by simpa using (h i).symm).symm
  | x :: xs, [], h => trim_zero (xs := x :: xs) fun i => by simpa using h i
  | x :: xs, y :: ys, h => by
    have h0 : x = y := by simpa using h 0
    have h1 := trim_ext (xs := xs) (ys := ys) fun i => by simpa using h (i + 1)
    unfold trimZ
    rw [h0, h1]
theorem trim_trim (xs : List Int) : trimZ (trimZ xs) = trimZ xs := trim_ext (co_trim xs)
theorem trim_len_le : ∀ (xs : List Int), (trimZ xs).length ≤ xs.length
  | [] => Nat.le_refl _
  | x :: xs => by
    unfold trimZ
    split
    · simp
    · simpa using trim_len_le xs
theorem trim_len {xs : List Int} {n : Nat} (h : ∀ i, n ≤ i → co xs i = 0) : (trimZ xs).length ≤ n := by
  have e : trimZ xs = trimZ (xs.take n) := trim_ext fun i => by
    unfold co
    rw [List.getD_eq_getElem?_getD, List.getD_eq_getElem?_getD, List.getElem?_take]
    split
    · rfl
    · have := h i (by omega)
      unfold co at this
      rw [List.getD_eq_getElem?_getD] at this
      simpa using this
  rw [e]
  exact Nat.le_trans (trim_len_le _) (by rw [List.length_take]; omega)
theorem trim_last : ∀ (xs : List Int), trimZ xs ≠ [] → co (trimZ xs) ((trimZ xs).length - 1) ≠ 0
  | [], h => absurd rfl h
  | x :: xs, h => by
    unfold trimZ at h ⊢
    split
    · rename_i q; rw [if_pos q] at h; exact absurd rfl h
    · rename_i q
      by_cases e : trimZ xs = []
      · rw [e]
        simp only [List.length_singleton]
        exact fun z => q ⟨e, by simpa using z⟩
      · have hl : 0 < (trimZ xs).length := List.length_pos_iff.mpr e
        have := trim_last xs e
        rw [List.length_cons, Nat.add_sub_cancel]
        obtain ⟨k, hk⟩ : ∃ k, (trimZ xs).length = k + 1 := ⟨_, (Nat.succ_pred_eq_of_pos hl).symm⟩
        rw [hk] at this ⊢
        simpa using this
theorem trim_id {xs : List Int} (h : xs ≠ [] → co xs (xs.length - 1) ≠ 0) : trimZ xs = xs := by
  induction xs with
  | nil => rfl
  | cons x xs ih =>
    unfold trimZ
    by_cases e : xs = []
    · subst e
      have := h (by simp)
      simp at this
      simp [trimZ, this]
    · have hl : 0 < xs.length := List.length_pos_iff.mpr e
      have h2 := h (by simp)
      rw [List.length_cons, Nat.add_sub_cancel] at h2
      obtain ⟨k, hk⟩ : ∃ k, xs.length = k + 1 := ⟨_, (Nat.succ_pred_eq_of_pos hl).symm⟩
      rw [hk] at h2
      have h3 := ih (fun _ => by rw [hk]; simpa using h2)
      rw [h3, if_neg (fun q => e q.1)]
theorem trim_snoc0 : ∀ (xs : List Int), trimZ (xs ++ [0]) = trimZ xs := fun xs => trim_ext fun i => by
  unfold co
  rw [List.getD_eq_getElem?_getD, List.getD_eq_getElem?_getD, List.getElem?_append]
  split
  · rfl
  · rename_i h
    rw [List.getElem?_eq_none (by omega : xs.length ≤ i)]
    cases hq : i - xs.length with
    | zero => rfl
    | succ j => simp
theorem trim_snoc {xs : List Int} {a : Int} (h : a ≠ 0) : trimZ (xs ++ [a]) = xs ++ [a] := trim_id fun _ => by
  unfold co
  simp [h]
theorem trim_mem {xs : List Int} {x : Int} (h : x ∈ trimZ xs) : x ∈ xs := by
  obtain ⟨i, hi, e⟩ := List.getElem_of_mem h
  have e2 : co (trimZ xs) i = x := co_of (by rw [List.getElem?_eq_getElem hi, e])
  rw [co_trim] at e2
  rw [← e2]
  exact co_mem (Nat.lt_of_lt_of_le hi (trim_len_le xs))
/-! ### the greatest common divisor -/
def gN : List Int → Nat
  | [] => 0
  | x :: xs => Nat.gcd x.natAbs (gN xs)
theorem gN_fold : ∀ (xs : List Int) (g : Nat), xs.foldl (fun (g : Int) x => ((Nat.gcd g.natAbs x.natAbs : Nat) : Int)) (g : Int) = ((Nat.gcd g (gN xs) : Nat) : Int)
  | [], g => by simp [gN]
  | x :: xs, g => by
    rw [List.foldl_cons, gN, ← Nat.gcd_assoc]
    exact gN_fold xs (Nat.gcd g x.natAbs)
theorem gN_dvd : ∀ {xs : List Int} {x : Int}, x ∈ xs → gN xs ∣ x.natAbs
  | y :: ys, x, h => by
    rcases List.mem_cons.mp h with rfl | h
    · exact Nat.gcd_dvd_left _ _
    · exact Nat.dvd_trans (Nat.gcd_dvd_right _ _) (gN_dvd h)
theorem gN_zero : ∀ {xs : List Int}, gN xs = 0 → ∀ x ∈ xs, x = 0
  | y :: ys, h, x, hx => by
    have h1 := Nat.gcd_eq_zero_iff.mp h
    rcases List.mem_cons.mp hx with rfl | hx
    · exact Int.natAbs_eq_zero.mp h1.1
    · exact gN_zero h1.2 x hx
theorem gN_mul (c : Int) : ∀ (xs : List Int), gN (xs.map (c * ·)) = c.natAbs * gN xs
  | [] => by simp [gN]
  | x :: xs => by
    rw [List.map_cons, gN, gN, gN_mul c xs, Int.natAbs_mul, Nat.gcd_mul_left]
theorem gN_trim : ∀ (xs : List Int), gN (trimZ xs) = gN xs
  | [] => rfl
  | x :: xs => by
    unfold trimZ
    split
    · rename_i h
      show 0 = Nat.gcd x.natAbs (gN xs)
      rw [← gN_trim xs, h.1, h.2]
      rfl
    · rw [gN, gN, gN_trim xs]
theorem gN_trim_pos {xs : List Int} (h : trimZ xs ≠ []) : 0 < gN xs := by
  rcases Nat.eq_zero_or_pos (gN xs) with q | q
  · refine absurd (trim_zero fun i => ?_) h
    by_cases hi : i < xs.length
    · exact gN_zero q _ (co_mem hi)
    · exact co_ge (by omega)
  · exact q
/-- without a common divisor -/
def shortZ (xs : List Int) : List Int := if 1 < gN xs then xs.map (fun x => x.fdiv (gN xs : Nat)) else xs
/-- the shortest row -/
def sZ (xs : List Int) : List Int := (trimZ xs).map (fun x => x.fdiv ((max 1 (gN xs) : Nat) : Int))
theorem fdiv_mulZ {c x g : Int} (hc : 0 < c) : (c * x).fdiv (c * g) = x.fdiv g := Int.mul_fdiv_mul_of_pos x g hc
theorem short_mul {c : Int} (hc : 0 < c) (xs : List Int) : shortZ (trimZ (xs.map (c * ·))) = sZ xs := by
  have e : trimZ (xs.map (c * ·)) = (trimZ xs).map (c * ·) := by
    rw [← trim_id (xs := (trimZ xs).map (c * ·))]
    · exact trim_ext fun i => by rw [co_map (Int.mul_zero c), co_map (Int.mul_zero c), co_trim]
    · intro h
      have h' : trimZ xs ≠ [] := by simpa using h
      have := trim_last xs h'
      rw [List.length_map, co_map (Int.mul_zero c)]
      exact Int.mul_ne_zero (by omega) this
  have eg : gN ((trimZ xs).map (c * ·)) = c.natAbs * gN xs := by rw [gN_mul, gN_trim]
  rw [e]
  unfold shortZ sZ
  rw [eg]
  by_cases h0 : trimZ xs = []
  · rw [h0]; simp
  have hg := gN_trim_pos h0
  have hca : ((c.natAbs : Nat) : Int) = c := by omega
  split
  · rw [List.map_map]
    refine List.map_congr_left fun x _ => ?_
    show (c * x).fdiv _ = _
    rw [Int.natCast_mul, hca, fdiv_mulZ hc]
    congr 2
    omega
  · rename_i h
    have hq : c.natAbs * gN xs = 1 := by
      have : 0 < c.natAbs * gN xs := Nat.mul_pos (by omega) hg
      omega
    have h1 := Nat.eq_one_of_mul_eq_one_right hq
    have h2 := Nat.eq_one_of_mul_eq_one_left hq
    rw [h2]
    have hc1 : c = 1 := by omega
    subst hc1
    refine List.map_congr_left fun x _ => ?_
    show 1 * x = _
    simp
theorem short_trim (xs : List Int) : shortZ (trimZ xs) = sZ xs := by
  have := short_mul (c := 1) (by decide) xs
  rwa [show (xs.map (1 * ·)) = xs from by simp] at this
theorem sZ_ext {xs ys : List Int} (h : ∀ i, co xs i = co ys i) : sZ xs = sZ ys := by rw [← short_trim, ← short_trim, trim_ext h]
theorem sZ_nil : sZ [] = [] := rfl
theorem sZ_trim (xs : List Int) : sZ (trimZ xs) = sZ xs := sZ_ext (co_trim xs)
/-! ### products -/
def cv (b : Nat → Int) : Nat → (Nat → Int) → Nat → Int
  | 0, _, _ => 0
  | m + 1, a, i => cv b m a i + b m * (if m ≤ i then a (i - m) else 0)
theorem cv_add (b a a' : Nat → Int) (t : Int) (m i : Nat) : cv b m (fun j => a j + t * a' j) i = cv b m a i + t * cv b m a' i := by
  induction m with
  | zero => simp [cv]
  | succ m ih =>
    simp only [cv, ih]
    split <;> grind
theorem cv_smul (b a : Nat → Int) (t : Int) (m i : Nat) : cv b m (fun j => t * a j) i = t * cv b m a i := by
  induction m with
  | zero => simp [cv]
  | succ m ih =>
    simp only [cv, ih]
    split <;> grind
theorem cv_zero (b a : Nat → Int) (m i : Nat) (h : ∀ j, j ≤ i → a j = 0) : cv b m a i = 0 := by
  induction m with
  | zero => rfl
  | succ m ih =>
    simp only [cv, ih]
    split
    · rw [h _ (by omega)]; simp
    · simp
theorem cv_one (b : Nat → Int) (m s i : Nat) : cv b m (fun j => if j = s then 1 else 0) i = if s ≤ i ∧ i - s < m then b (i - s) else 0 := by
  induction m with
  | zero => simp [cv]
  | succ m ih =>
    simp only [cv, ih]
    by_cases h1 : s ≤ i ∧ i - s = m
    · obtain ⟨h2, h3⟩ := h1
      rw [if_neg (by omega), if_pos (by omega), if_pos (by omega), if_pos (by omega), h3]
      simp
    · by_cases h2 : s ≤ i ∧ i - s < m
      · rw [if_pos h2, if_pos (by omega : s ≤ i ∧ i - s < m + 1)]
        split
        · rw [if_neg (by omega)]; simp
        · simp
      · rw [if_neg h2, if_neg (by omega : ¬ (s ≤ i ∧ i - s < m + 1))]
        split
        · rw [if_neg (by omega)]; simp
        · simp
theorem cv_top (b a : Nat → Int) (m k : Nat) (h : ∀ j, k < j → a j = 0) : cv b (m + 1) a (k + m) = b m * a k := by
  have : ∀ m', m' ≤ m → cv b m' a (k + m) = 0 := by
    intro m' hm
    induction m' with
    | zero => rfl
    | succ m' ih =>
      simp only [cv, ih (by omega)]
      rw [if_pos (by omega), h _ (by omega)]
      simp
  simp only [cv, this m (Nat.le_refl m)]
  rw [if_pos (by omega), Nat.add_sub_cancel]
  simp
/-- a row times another one that is not nought is as long as both: none of its upper numbers vanish unless the row does -/
theorem cv_inj (b a : Nat → Int) (m n : Nat) (hb : b m ≠ 0) (ha : ∀ j, n ≤ j → a j = 0) (h : ∀ i, m ≤ i → cv b (m + 1) a i = 0) : ∀ j, a j = 0 := by
  induction n with
  | zero => exact fun j => ha j (Nat.zero_le _)
  | succ n ih =>
    refine ih fun j hj => ?_
    by_cases e : j = n
    · subst e
      have := cv_top b a m j (fun i hi => ha i hi)
      rw [h _ (by omega)] at this
      exact (Int.mul_eq_zero.mp this.symm).resolve_left hb
    · exact ha j (by omega)
/-- what is left behind a division is told by what it leaves -/
theorem left_unique {b q T : Nat → Int} {R S : Nat → Int} {m n : Nat} (hb : b m ≠ 0) (hq : ∀ j, n ≤ j → q j = 0) (hT : ∀ j, n ≤ j → T j = 0) (hR : ∀ i, m ≤ i → R i = 0) (hS : ∀ i, m ≤ i → S i = 0)
    (h : ∀ i, cv b (m + 1) q i + R i = cv b (m + 1) T i + S i) : ∀ i, R i = S i := by
  have e : ∀ i, cv b (m + 1) (fun j => q j + (-1) * T j) i = S i - R i := fun i => by
    rw [cv_add]
    have := h i
    omega
  have z := cv_inj b (fun j => q j + (-1) * T j) m n hb (fun j hj => by simp only [hq j hj, hT j hj]; rfl) (fun i hi => by rw [e, hR i hi, hS i hi]; rfl)
  intro i
  have := e i
  rw [cv_zero _ _ _ _ (fun j _ => z j)] at this
  omega
/-! ### a step of a division -/
theorem div_step {b : Nat → Int} {l r q : Nat → Int} {m s : Nat} {c a t : Int} (ha : a = if 0 < b m then b m else -b m) (ht : t = if 0 < b m then l (s + m) else -l (s + m)) (hr : ∀ i, c * r i = cv b (m + 1) q i + l i) (hl : ∀ i, s + m + 1 ≤ i → l i = 0) :
    (∀ i, a * c * r i = cv b (m + 1) (fun j => a * q j + t * (if j = s then 1 else 0)) i + (a * l i - t * (if s ≤ i ∧ i - s < m + 1 then b (i - s) else 0))) ∧ ∀ i, s + m ≤ i → a * l i - t * (if s ≤ i ∧ i - s < m + 1 then b (i - s) else 0) = 0 := by
  constructor
  · intro i
    rw [cv_add, cv_smul, cv_one]
    have := hr i
    grind
  · intro i hi
    by_cases e : i = s + m
    · subst e
      rw [if_pos (by omega), show s + m - s = m by omega, ha, ht]
      split <;> grind
    · rw [hl i (by omega), if_neg (by omega)]
      simp
end Pl

/-! PLib9: loops told by an index, by a measure; rows in the evaluator. -/
namespace Pl
open PySem (PyData Str)
theorem forL_ix' {step : D → Env → U → Option O} {I : Nat → Env → U → Prop} : ∀ {ds : List D} {k : Nat} {env : Env} {u : U}, (∀ i d, ds[i]? = some d → ∀ env u, I (k + i) env u → ∃ env' u', step d env u = some (.nx env' u') ∧ I (k + i + 1) env' u') → I k env u → ∃ env' u', forL step ds env u = some (.nx env' u') ∧ I (k + ds.length) env' u'
  | [], k, env, u, _, h => ⟨env, u, rfl, h⟩
  | d :: ds, k, env, u, hs, h => by
    obtain ⟨env1, u1, e1, h1⟩ := hs 0 d rfl env u h
    obtain ⟨env2, u2, e2, h2⟩ := forL_ix' (I := I) (ds := ds) (k := k + 1) (fun i d hd env u hi => by
      have := hs (i + 1) d (by simpa using hd) env u (by rw [show k + (i + 1) = k + 1 + i by omega]; exact hi)
      rw [show k + (i + 1) + 1 = k + 1 + i + 1 by omega] at this
      exact this) h1
    refine ⟨env2, u2, ?_, ?_⟩
    · simp only [forL, e1, Option.bind_some]
      exact e2
    · rw [List.length_cons, show k + (ds.length + 1) = k + 1 + ds.length by omega]
      exact h2
/-- a for, its state told by the number of turns -/
theorem forL_ix {step : D → Env → U → Option O} (I : Nat → Env → U → Prop) {ds : List D} {env : Env} {u : U} (hs : ∀ i d, ds[i]? = some d → ∀ env u, I i env u → ∃ env' u', step d env u = some (.nx env' u') ∧ I (i + 1) env' u') (h : I 0 env u) : ∃ env' u', forL step ds env u = some (.nx env' u') ∧ I ds.length env' u' := by
  have := forL_ix' (step := step) (I := I) (ds := ds) (k := 0) (env := env) (u := u) (fun i d hd env u hi => by
    rw [Nat.zero_add] at hi ⊢
    exact hs i d hd env u hi) h
  rwa [Nat.zero_add] at this
/-- a while -/
theorem whileO_ix {α β : Type} {step : α → Option (Sum α β)} (I : Nat → α → Prop) {P : β → Prop} (hs : ∀ m a, I m a → (∃ b, step a = some (.inr b) ∧ P b) ∨ ∃ a' m', m' < m ∧ step a = some (.inl a') ∧ I m' a') : ∀ (m : Nat) (a : α), I m a → ∃ b, whileO step a = some b ∧ P b := by
  intro m
  induction m using Nat.strongRecOn with
  | ind m ih =>
    intro a h
    rw [whileO]
    rcases hs m a h with ⟨b, e, p⟩ | ⟨a', m', hm, e, hi⟩
    · rw [e]; exact ⟨b, rfl, p⟩
    · rw [e]; exact ih m' hm a' hi
theorem compL_map {step : D → U → Option (Option D × U)} {f : D → D} {u : U} : ∀ {ds : List D}, (∀ d ∈ ds, step d u = some (some (f d), u)) → compL step ds u = some (ds.map f, u)
  | [], _ => rfl
  | d :: ds, h => by
    unfold compL
    rw [h d List.mem_cons_self]
    show (compL step ds u).bind _ = _
    rw [compL_map fun e he => h e (List.mem_cons_of_mem _ he)]
    rfl
theorem compL_ints {step : D → U → Option (Option D × U)} {f : Int → Int} {u : U} {xs : List Int} (h : ∀ x ∈ xs, step (.int x) u = some (some (.int (f x)), u)) : compL step (xs.map .int) u = some ((xs.map f).map .int, u) := by
  rw [compL_map (f := fun d => match d with | .int x => .int (f x) | d => d)]
  · rw [List.map_map, List.map_map]; rfl
  · intro d hd
    obtain ⟨x, hx, rfl⟩ := List.mem_map.mp hd
    exact h x hx
/-- a list drawn number by number -/
theorem compL_draw {step : D → U → Option (Option D × U)} {I : Nat → U → Prop} {P : Int → Prop} : ∀ {ds : List D} {k : Nat} {u : U}, (∀ d ∈ ds, ∀ j u, j < k + ds.length → I j u → ∃ x u', step d u = some (some (.int x), u') ∧ P x ∧ I (j + 1) u') → I k u → ∃ (xs : List Int) (u' : U), compL step ds u = some (xs.map .int, u') ∧ xs.length = ds.length ∧ (∀ x ∈ xs, P x) ∧ I (k + ds.length) u'
  | [], k, u, _, h => ⟨[], u, rfl, rfl, nofun, h⟩
  | d :: ds, k, u, hs, h => by
    obtain ⟨x, u1, e1, p1, h1⟩ := hs d List.mem_cons_self k u (by simp) h
    obtain ⟨xs, u2, e2, hl, p2, h2⟩ := compL_draw (I := I) (P := P) (ds := ds) (k := k + 1) (u := u1) (fun d hd j u hj hi => hs d (List.mem_cons_of_mem _ hd) j u (by simp; omega) hi) h1
    refine ⟨x :: xs, u2, ?_, by simp [hl], ?_, ?_⟩
    · unfold compL
      rw [e1]
      show (compL step ds u1).bind _ = _
      rw [e2]
      rfl
    · intro y hy
      rcases List.mem_cons.mp hy with rfl | hy
      · exact p1
      · exact p2 y hy
    · rw [List.length_cons, show k + (ds.length + 1) = k + 1 + ds.length by omega]
      exact h2
/-! ### rows -/
abbrev Lz (xs : List Int) : D := .list (xs.map .int)
abbrev Tz (xs : List Int) : D := .tuple (xs.map .int)
@[simp] theorem noListAll_ints (xs : List Int) : noListAll (xs.map .int) = true := by
  induction xs with
  | nil => rfl
  | cons x xs ih => simp [ih]
@[simp] theorem intsOf_ints (xs : List Int) : intsOf (xs.map .int) = some xs := by
  induction xs with
  | nil => rfl
  | cons x xs ih => simp [ih]
theorem canLay_ints (xs : List Int) : PyData.canLayAll0 (xs.map .int) = true := by
  induction xs with
  | nil => rfl
  | cons x xs ih => simp [PyData.canLayAll0, PyData.canLay0, ih]
theorem depth_ints (xs : List Int) : PyData.depthAll (xs.map .int) ≤ 1 := by
  induction xs with
  | nil => simp [PyData.depthAll]
  | cons x xs ih => simp [PyData.depthAll, PyData.depth]; omega
@[simp] theorem shaped_Tz (xs : List Int) : PySem.SeqAt.shaped (.tuple (xs.map .int)) = true := by
  have := depth_ints xs
  simp [PySem.SeqAt.shaped, PyData.canLay0, canLay_ints, PyData.depth]
  omega
@[simp] theorem shaped_Lz (xs : List Int) : PySem.SeqAt.shaped (.list (xs.map .int)) = true := by
  have := depth_ints xs
  simp [PySem.SeqAt.shaped, PyData.canLay0, canLay_ints, PyData.depth]
  omega
theorem eqvAll_ints : ∀ (xs ys : List Int), PyData.eqvAll (xs.map .int) (ys.map .int) = decide (xs = ys)
  | [], [] => rfl
  | [], y :: ys => by simp [PyData.eqvAll]
  | x :: xs, [] => by simp [PyData.eqvAll]
  | x :: xs, y :: ys => by
    rw [List.map_cons, List.map_cons, PyData.eqvAll, eqvAll_ints xs ys]
    by_cases h : x = y
    · subst h; simp [PyData.eqv]
    · simp [PyData.eqv, h]
@[simp] theorem eqD_Tz (xs ys : List Int) : eqD (.tuple (xs.map .int)) (.tuple (ys.map .int)) = some (decide (xs = ys)) := by
  simp only [eqD, shaped_Tz, Bool.and_self, if_true, PyData.eqv, eqvAll_ints]
@[simp] theorem eqD_Lz (xs ys : List Int) : eqD (.list (xs.map .int)) (.list (ys.map .int)) = some (decide (xs = ys)) := by
  simp only [eqD, shaped_Lz, Bool.and_self, if_true, PyData.eqv, eqvAll_ints]
@[simp] theorem eqD_Tz0 (xs : List Int) : eqD (.tuple (xs.map .int)) (.tuple []) = some (decide (xs = [])) := eqD_Tz xs []
@[simp] theorem eqD_Lz0 (xs : List Int) : eqD (.list (xs.map .int)) (.list []) = some (decide (xs = [])) := eqD_Lz xs []
@[simp] theorem eqD_T00 : eqD (.tuple []) (.tuple []) = some true := eqD_Tz [] []
@[simp] theorem eqD_L00 : eqD (.list []) (.list []) = some true := eqD_Lz [] []
theorem atI_last {xs : List Int} (h : xs ≠ []) : atI (xs.map PyData.int) (-1) = some (.int (co xs (xs.length - 1))) := by
  have hl : 0 < xs.length := List.length_pos_iff.mpr h
  unfold atI
  rw [if_neg (by decide), if_pos (by simp; omega), List.length_map, show ((-1 : Int) + (xs.length : Int)).toNat = xs.length - 1 by omega, List.getElem?_map, co_get (by omega)]
  rfl
theorem atI_co {xs : List Int} {i : Int} (h0 : 0 ≤ i) (h : i < xs.length) : atI (xs.map PyData.int) i = some (.int (co xs i.toNat)) := by
  unfold atI
  rw [if_pos h0, List.getElem?_map, co_get (by omega)]
  rfl
theorem set_ints (xs : List Int) (i : Nat) (x : Int) : (xs.map PyData.int).set i (.int x) = (xs.set i x).map .int := by
  rw [List.map_set]
theorem cut_hi {α : Type} (xs : List α) {n : Nat} (h : n ≤ xs.length) : cut xs none (some (n : Int)) = xs.take n := by
  have e : sIx xs.length xs.length (some (n : Int)) = n := by
    show (if (n : Int) < 0 then ((n : Int) + xs.length).toNat else min (n : Int).toNat xs.length) = n
    rw [if_neg (by omega)]
    simp
    omega
  unfold cut
  rw [e]
  show (xs.drop 0).take (n - 0) = _
  rw [List.drop_zero, Nat.sub_zero]
theorem after_ints {ff : String → Bool} {env : Env} {e : E} {xs : List Int} (h : fk ff e = true) : after ff env e (.list (xs.map .int)) = env := by
  unfold after within
  rw [if_pos h]
  simp
theorem slotOf_ints {ff : String → Bool} {e : E} {ds : List D} (h : fk ff e = true) : slotOf ff e (.list ds) = .own ds := by unfold slotOf; rw [if_pos h]
section
variable {C : Ctx} {ff : String → Bool}
theorem eval_comp {elt : E} {t : Tg} {it : I} {cond : Eo} {own : List Nat} {env : Env} {u u1 u2 : U} {ds rs : List D} (h1 : evalI C it env u = some (ds, u1)) (hz : ds.length ≤ 100000)
    (h2 : compL (fun d u => (bindT t d (wipe env own)).bind fun env' => (evalC C cond env' u).bind fun rc =>
        if rc.1 = true then (evalE C elt env' rc.2).bind fun re => some (some re.1, re.2) else some (none, rc.2)) ds u1 = some (rs, u2)) : evalE C (.comp elt t it cond own) env u = some (.list rs, u2) := by
  rw [evalE, h1, Option.bind_some, h2, Option.bind_some, if_pos (show sizeOk ds.length = true from decide_eq_true hz)]
theorem run_set {i : Nat} {e : E} {env : Env} {u u' : U} {d : D} (h : evalE C e env u = some (d, u')) : execS C ff (.set i e) env u = some (.nx ((after ff env e d).set i (slotOf ff e d)) u') := by
  rw [execS, h, Option.bind_some]
theorem run_setL {i : Nat} {e : E} {env : Env} {u u' : U} {xs : List Int} (hf : fk ff e = true) (h : evalE C e env u = some (.list (xs.map .int), u')) : execS C ff (.set i e) env u = some (.nx (env.set i (.own (xs.map .int))) u') := by
  rw [run_set h, after_ints hf, slotOf_ints hf]
end
theorem intOk_nat (L : Nat) (h : L ≤ 100000) : intOk (L : Int) = true := by
  unfold intOk
  refine decide_eq_true ⟨?_, ?_⟩ <;> omega
theorem pow60_nat (L : Nat) (h : L ≤ 100000) : (decide (-(2 ^ 60) ≤ (L : Int) ∧ (L : Int) < 2 ^ 60)) = true := by
  refine decide_eq_true ⟨?_, ?_⟩ <;> omega
theorem flat_rep (L : Nat) : (List.replicate L [PyData.int 0]).flatten = (List.replicate L (0 : Int)).map .int := by
  induction L with
  | zero => rfl
  | succ L ih => rw [List.replicate_succ, List.flatten_cons, ih, List.replicate_succ]; rfl
theorem eval_rep0 {C : Ctx} {e : E} {env : Env} {u u' : U} {L : Nat} (h : evalE C e env u = some (.int (L : Int), u')) (hl : L ≤ 100000) : evalE C (.rep (.cons (.lit (.int 0)) .nil) e) env u = some (.list ((List.replicate L (0 : Int)).map .int), u') := by
  have h1 : evalEs C (.cons (.lit (.int 0)) .nil) env u = some ([.int 0], u) := rfl
  have h2 : sizeOk ([PyData.int 0].length) = true := rfl
  have h3 : sizeOk ([PyData.int 0].length * (L : Int).toNat) = true := decide_eq_true (by simp; omega)
  rw [evalE, h1, Option.bind_some, h, Option.bind_some]
  show (if _ = true then some _ else none) = _
  rw [pow60_nat L hl, h2, h3, ← flat_rep]
  rfl
theorem eval_rev1 {C : Ctx} {e : E} {env : Env} {u u' : U} {L : Nat} (h : evalE C e env u = some (.int (L : Int), u')) (hl : L ≤ 100000) : evalI C (.revRange1 e) env u = some ((rangeL 0 (L : Int)).reverse, u') := by
  rw [evalI, h, Option.bind_some]
  show (if intOk (L : Int) = true then _ else none) = _
  rw [if_pos (intOk_nat L hl)]
theorem eval_rng1 {C : Ctx} {e : E} {env : Env} {u u' : U} {L : Nat} (h : evalE C e env u = some (.int (L : Int), u')) (hl : L ≤ 100000) : evalI C (.range1 e) env u = some (rangeL 0 (L : Int), u') := by
  rw [evalI, h, Option.bind_some]
  show (if intOk (L : Int) = true then _ else none) = _
  rw [if_pos (intOk_nat L hl)]
theorem slotOf_nofk {ff : String → Bool} {e : E} {d : D} (h : fk ff e = false) : slotOf ff e d = .imm d := by unfold slotOf; rw [h]; rfl
end Pl

/-! PLib10: the program's rows: divisor, ends cut off, shortened. -/
namespace Pl
open PySem (PyData Str)
def RowD (d : D) (xs : List Int) : Prop := d = Lz xs ∨ d = Tz xs
theorem RowD.len {d : D} {xs : List Int} (h : RowD d xs) : biV .len [d] = some (.int xs.length) := by rcases h with rfl | rfl <;> simp
theorem RowD.ix {d : D} {xs : List Int} {i : Int} (h : RowD d xs) (h0 : 0 ≤ i) (hi : i < xs.length) : idxV d (.int i) = some (.int (co xs i.toNat)) := by rcases h with rfl | rfl <;> exact atI_co h0 hi
theorem RowD.it {d : D} {xs : List Int} (h : RowD d xs) : items d = some (xs.map .int) := by rcases h with rfl | rfl <;> rfl
structure KnR (G : Prog) : Prop where
  divisor_of : G.T "divisor_of" = some p_divisor_of
  trimmed : G.T "trimmed" = some p_trimmed
  shortened : G.T "shortened" = some p_shortened
theorem gN_sm {k : Nat} {xs : List Int} (h : ∀ x ∈ xs, Sm k x) (h1 : 0 < gN xs) : Sm k (gN xs : Nat) := by
  have : ∃ x ∈ xs, x ≠ 0 := Classical.byContradiction fun q => by
    have : ∀ x ∈ xs, x = 0 := fun x hx => Classical.byContradiction fun r => q ⟨x, hx, r⟩
    have : gN xs = 0 := by
      clear h h1 q
      induction xs with
      | nil => rfl
      | cons x xs ih => rw [gN, ih (fun y hy => this y (List.mem_cons_of_mem _ hy)), this x List.mem_cons_self]; rfl
    omega
  obtain ⟨x, hx, h0⟩ := this
  have h2 := Nat.le_of_dvd (Int.natAbs_pos.mpr h0) (gN_dvd hx)
  have h3 := h x hx
  unfold Sm at *
  omega
theorem c_divisorZ0 {G : Prog} (hk : G.T "divisor_of" = some p_divisor_of) (n : Nat) (xs : List Int) (hl : xs.length ≤ 100000) : callU G (n + 1) "divisor_of" [Tz xs] [] = some (.int (gN xs : Nat), []) := by
  obtain ⟨env', u', hf, s, rfl, rfl⟩ := forL_ix (step := fun d env u => (bindT (.one 2) d env).bind fun env' => execSs (ctxN G n) G.ff (forBody p_divisor_of.body) env' u)
    (fun i env u => ∃ s, env = [.imm (Tz xs), .imm (.int ((xs.take i).foldl (fun (g : Int) x => ((Nat.gcd g.natAbs x.natAbs : Nat) : Int)) ((0 : Nat) : Int))), s] ∧ u = []) (ds := xs.map .int) (env := [.imm (Tz xs), .imm (.int 0), .no]) (u := [])
    (fun i d hd env u ⟨s, e1, e2⟩ => by
      subst e1 e2
      rw [List.getElem?_map] at hd
      obtain ⟨x, hx, rfl⟩ := Option.map_eq_some_iff.mp hd
      refine ⟨_, _, by simp [forBody, p_divisor_of]; rfl, .imm (.int x), ?_, rfl⟩
      rw [List.take_add_one, hx, Option.toList_some, List.foldl_append]
      rfl)
    ⟨_, rfl, rfl⟩
  rw [List.length_map, List.take_length, gN_fold, Nat.gcd_zero_left] at hf
  rw [callU_eq hk]
  refine runF_of rfl (run_cons (env1 := [.imm (Tz xs), .imm (.int 0), .no]) (u1 := []) ?_ (run_cons (run_for (ds := xs.map .int) (u1 := []) ?_ ?_ hf) (run_last ?_)))
  · simp [mkEnv, p_divisor_of]
  · simp
  · simpa using hl
  · simp
section
variable {G : Prog} (K : KnR G)
include K
theorem c_divisorZ (n : Nat) (xs : List Int) (hl : xs.length ≤ 100000) : callU G (n + 1) "divisor_of" [Tz xs] [] = some (.int (gN xs : Nat), []) := c_divisorZ0 K.divisor_of n xs hl
theorem c_trimmed (n : Nat) {d : D} {xs : List Int} (hd : RowD d xs) : callU G (n + 1) "trimmed" [d] [] = some (Tz (trimZ xs), []) := by
  rw [callU_eq K.trimmed]
  obtain ⟨o, ho, rfl⟩ := whileO_ix (step := fun (q : Env × U) => (evalE (ctxN G n) (.and (.cmp .ne (.var 1) (.lst .nil)) (.cmp .eq (.idx (.var 1) (.neg (.lit (.int 1)))) (.lit (.int 0)))) q.1 q.2).bind fun rc => match rc with
    | (.bool k, u1) => if k = true then (execSs (ctxN G n) G.ff (.cons (.pop 1) .nil) q.1 u1).bind fun o => (match o with
        | .nx env' u' => some (.inl (env', u'))
        | .ct env' u' => some (.inl (env', u'))
        | .bk env' u' => some (.inr (O.nx env' u'))
        | .rt d u' => some (.inr (O.rt d u'))) else some (.inr (O.nx q.1 u1))
    | _ => none) (fun m q => ∃ ys : List Int, q = ([.imm d, .own (ys.map .int)], []) ∧ ys.length = m ∧ trimZ ys = trimZ xs) (P := fun o => o = O.nx [.imm d, .own ((trimZ xs).map .int)] [])
    (fun m q ⟨ys, e1, e2, e3⟩ => by
      subst e1
      rcases List.eq_nil_or_concat ys with rfl | ⟨zs, a, rfl⟩
      · left
        refine ⟨O.nx [.imm d, .own []] [], ?_, ?_⟩
        · simp
        · rw [← e3]; rfl
      · by_cases ha : a = 0
        · right
          subst ha
          refine ⟨([.imm d, .own (zs.map .int)], []), zs.length, by rw [← e2]; simp, ?_, zs, rfl, rfl, ?_⟩
          · have h1 := atI_last (xs := zs ++ [0]) (by simp)
            have h2 : co (zs ++ [0]) ((zs ++ [0]).length - 1) = 0 := by unfold co; simp
            have h3 := eqD_Lz0 (zs ++ [0])
            rw [h2] at h1
            simp only [List.map_append, List.map_cons, List.map_nil] at h1 h3
            simp [h1, h3]
          · rw [← e3, List.concat_eq_append, trim_snoc0]
        · left
          refine ⟨O.nx [.imm d, .own ((zs ++ [a]).map .int)] [], ?_, ?_⟩
          · have h1 := atI_last (xs := zs ++ [a]) (by simp)
            have h2 : co (zs ++ [a]) ((zs ++ [a]).length - 1) = a := by unfold co; simp
            have h3 := eqD_Lz0 (zs ++ [a])
            rw [h2] at h1
            simp only [List.map_append, List.map_cons, List.map_nil] at h1 h3
            simp [h1, h3, ha]
          · rw [← e3, List.concat_eq_append, trim_snoc ha]) xs.length ([.imm d, .own (xs.map .int)], []) ⟨xs, rfl, rfl, rfl⟩
  have hfk : ∀ es, fk G.ff (.bi .list es) = true := fun _ => rfl
  refine runF_of (by simp [p_trimmed]) (run_cons (env1 := [.imm d, .own (xs.map .int)]) (u1 := []) ?_ (run_cons (env1 := [.imm d, .own ((trimZ xs).map .int)]) (u1 := []) ?_ (run_last ?_)))
  · rcases hd with rfl | rfl <;> simp [mkEnv, p_trimmed, after_ints (hfk _), slotOf_ints (hfk _)]
  · exact ho
  · simp
theorem c_shortened (n : Nat) {k : Nat} {xs : List Int} (hl : xs.length ≤ 100000) (hs : ∀ x ∈ xs, Sm k x) (hk : k < 8999) : callU G (n + 2) "shortened" [Tz xs] [] = some (Tz (shortZ xs), []) := by
  rw [callU_eq K.shortened]
  by_cases h : 1 < gN xs
  · have hd : divOk ((gN xs : Nat) : Int) = true := divOk_of (gN_sm hs (by omega)) (by omega) hk
    have hc : compL (fun d u => (bindT (.one 2) d (wipe [.imm (Tz xs), .imm (.int (gN xs : Nat)), .no] [2])).bind fun env' => (evalC (ctxN G (n + 1)) .no env' u).bind fun rc =>
        if rc.1 = true then (evalE (ctxN G (n + 1)) (.bin .fdiv (.var 2) (.var 1)) env' rc.2).bind fun re => some (some re.1, re.2) else some (none, rc.2)) (xs.map .int) [] = some ((xs.map fun x => x.fdiv (gN xs : Nat)).map .int, []) :=
      compL_ints fun x _ => by simp [hd]
    have hg : (1 : Int) < (gN xs : Nat) := by omega
    simp only [wipe_cons, wipe_nil] at hc
    simp [runF, p_shortened, mkEnv, ctx_fn K.divisor_of rfl, c_divisorZ K n xs hl, hg]
    simp only [evalC, evalE] at hc
    simp at hc
    rw [hc]
    simp [shortZ, h, hl]
  · have hg : ¬ (1 : Int) < (gN xs : Nat) := by omega
    simp [runF, p_shortened, mkEnv, ctx_fn K.divisor_of rfl, c_divisorZ K n xs hl, hg, shortZ, h]
end
end Pl

/-! PLib11: the program's division of rows. -/
namespace Pl
open PySem (PyData Str)
theorem sm_zero {k : Nat} : Sm k 0 := by unfold Sm; exact Nat.pow_pos (by decide)
theorem sm_co {k : Nat} {xs : List Int} (h : ∀ x ∈ xs, Sm k x) (i : Nat) : Sm k (co xs i) := by
  by_cases hi : i < xs.length
  · exact h _ (co_mem hi)
  · rw [co_ge (by omega)]; exact sm_zero
theorem sm_of_co {k : Nat} {xs : List Int} (h : ∀ i, Sm k (co xs i)) : ∀ x ∈ xs, Sm k x := fun x hx => by
  obtain ⟨i, hi, e⟩ := List.getElem_of_mem hx
  have := h i
  rwa [co_of (by rw [List.getElem?_eq_getElem hi, e] : xs[i]? = some x)] at this
theorem enumL_ints : ∀ {xs : List Int} {k i : Nat} {d : D}, (enumL k (xs.map .int))[i]? = some d → i < xs.length ∧ d = .tuple [.int ((k + i : Nat) : Int), .int (co xs i)]
  | [], _, _, _, h => by simp [enumL] at h
  | x :: xs, k, 0, d, h => by simp [enumL] at h; subst h; simp
  | x :: xs, k, i + 1, d, h => by
    simp only [List.map_cons, enumL, List.getElem?_cons_succ] at h
    obtain ⟨h1, h2⟩ := enumL_ints h
    refine ⟨by simpa using h1, ?_⟩
    rw [h2, show k + 1 + i = k + (i + 1) by omega, co_succ]
theorem enumL_leni : ∀ (xs : List D) (k : Nat), (enumL k xs).length = xs.length
  | [], _ => rfl
  | x :: xs, k => by simp [enumL, enumL_leni xs (k + 1)]
theorem rangeRev {L i : Nat} {d : D} (h : (rangeL 0 (L : Int)).reverse[i]? = some d) : i < L ∧ d = .int ((L - 1 - i : Nat) : Int) := by
  have hl : (rangeL 0 (L : Int)).length = L := by simp [rangeL]
  have hi : i < L := by
    have := (List.getElem?_eq_some_iff.mp h).1
    simpa [hl] using this
  refine ⟨hi, ?_⟩
  rw [List.getElem?_reverse (by rw [hl]; exact hi), hl] at h
  unfold rangeL at h
  rw [List.getElem?_map, List.getElem?_range (by simp; omega)] at h
  simpa using h.symm
structure KnQ (G : Prog) : Prop extends KnR G where
  divided : G.T "divided" = some p_divided
  what_remains : G.T "what_remains" = some p_what_remains
section
variable {G : Prog} (K : KnQ G)
include K
/-- the inner walk of a division -/
theorem div_inner (n : Nat) {row other l : List Int} {a t top : Int} {f : List Int} {s m : Nat} {s7 s9 : Slot} {k1 k2 : Nat} (hm : other.length = m + 1) (hs : s + m < l.length) (ho : ∀ i, Sm k1 (co other i)) (ht : Sm k2 t) (hk1 : k1 < 300000) (hk2 : k2 < 300000) :
    ∃ l2 s7' s9', forL (fun d env u => (bindT (.many [9, 7]) d env).bind fun env' => execSs (ctxN G n) G.ff (forBody (forBody p_divided.body)) env' u) (enumL 0 (other.map .int)) [.imm (Tz row), .imm (Tz other), .own (l.map .int), .imm (.int a), .own (f.map .int), .imm (.int s), .imm (.int top), s7, .imm (.int t), s9] [] =
      some (.nx [.imm (Tz row), .imm (Tz other), .own (l2.map .int), .imm (.int a), .own (f.map .int), .imm (.int s), .imm (.int top), s7', .imm (.int t), s9'] []) ∧ l2.length = l.length ∧ ∀ j, co l2 j = co l j - t * (if s ≤ j ∧ j - s < m + 1 then co other (j - s) else 0) := by
  obtain ⟨env', u', hf, l2, s7', s9', rfl, rfl, h1, h2⟩ := forL_ix (step := fun d env u => (bindT (.many [9, 7]) d env).bind fun env' => execSs (ctxN G n) G.ff (forBody (forBody p_divided.body)) env' u)
    (fun i env u => ∃ (l2 : List Int) (s7' s9' : Slot), env = [.imm (Tz row), .imm (Tz other), .own (l2.map .int), .imm (.int a), .own (f.map .int), .imm (.int s), .imm (.int top), s7', .imm (.int t), s9'] ∧ u = [] ∧ l2.length = l.length ∧ ∀ j, co l2 j = co l j - t * (if s ≤ j ∧ j - s < i then co other (j - s) else 0))
    (ds := enumL 0 (other.map .int)) (env := [.imm (Tz row), .imm (Tz other), .own (l.map .int), .imm (.int a), .own (f.map .int), .imm (.int s), .imm (.int top), s7, .imm (.int t), s9]) (u := [])
    (fun i d hd env u ⟨l2, s7', s9', e1, e2, h1, h2⟩ => by
      subst e1 e2
      obtain ⟨hi, rfl⟩ := enumL_ints hd
      rw [Nat.zero_add]
      have hmo : mulOk t (co other i) = true := mulOk_of ht (ho i) (by omega) (by omega)
      have hix : atI (l2.map PyData.int) ((s : Int) + (i : Int)) = some (.int (co l2 (s + i))) := by
        rw [atI_co (by omega) (by omega)]
        congr 2
      have hst : ixN l2.length ((s : Int) + (i : Int)) = some (s + i) := by
        have := ixN_nat (s + i) l2.length
        rw [if_pos (by omega)] at this
        rw [← this]
        rfl
      refine ⟨[.imm (Tz row), .imm (Tz other), .own ((l2.set (s + i) (co l2 (s + i) - t * co other i)).map .int), .imm (.int a), .own (f.map .int), .imm (.int s), .imm (.int top), .imm (.int (co other i)), .imm (.int t), .imm (.int i)], [], ?_, l2.set (s + i) (co l2 (s + i) - t * co other i), _, _, rfl, rfl, ?_, fun j => ?_⟩
      · simp [forBody, p_divided, hix, hmo, hst]
      · simpa using h1
      · rw [co_set (by omega)]
        by_cases hj : j = s + i
        · subst hj
          rw [if_pos rfl, if_pos (by omega), h2, if_neg (by omega), show s + i - s = i by omega]
          simp
        · rw [if_neg hj, h2]
          by_cases hq : s ≤ j ∧ j - s < i
          · rw [if_pos hq, if_pos (by omega)]
          · rw [if_neg hq, if_neg (by omega)])
    ⟨l, s7, s9, rfl, rfl, rfl, fun j => by rw [if_neg (by omega)]; simp⟩
  rw [enumL_leni, List.length_map, hm] at h2
  exact ⟨l2, s7', s9', hf, h1, h2⟩
end
end Pl

/-! PLib12: the program's division of rows, whole. -/
namespace Pl
open PySem (PyData Str)
def DivI (row other : List Int) (a : Int) (m L kr ko : Nat) (j : Nat) (env : Env) (u : U) : Prop := ∃ (l f : List Int) (c : Int) (q : Nat → Int) (s2 s5 s6 s7 s8 s9 : Slot),
  env = [.imm (Tz row), .imm (Tz other), s2, .imm (.int a), .own (f.map .int), s5, s6, s7, s8, s9] ∧ u = [] ∧ (s2 = .own (l.map .int) ∨ s2 = .imm (Lz l)) ∧ l.length = row.length ∧ f.length = L ∧ 0 < c ∧
  (∀ i, c * co row i = cv (co other) (m + 1) q i + co l i) ∧ (∀ i, L - j + m ≤ i → co l i = 0) ∧ (∀ i, L ≤ i → q i = 0) ∧ (∀ i, Sm (kr + j * (ko + 1)) (co l i)) ∧ ∀ i, Sm (kr + j * (ko + 1)) (co f i)
section
variable {G : Prog} (K : KnQ G)
include K
theorem div_turn (n : Nat) {row other : List Int} {m L kr ko : Nat} {a : Int} (hm : other.length = m + 1) (hL : L + m = row.length ∨ (L = 0 ∧ row.length ≤ m)) (hL2 : L ≤ 20) (hrl : row.length ≤ 1000) (ha : a = if 0 < co other m then co other m else -co other m) (ho : ∀ i, Sm ko (co other i)) (h0 : co other m ≠ 0) (hk : kr < 9000) (hk2 : ko < 9000) :
    ∀ i d, (rangeL 0 (L : Int)).reverse[i]? = some d → ∀ env u, DivI row other a m L kr ko i env u → ∃ env' u', ((bindT (.one 5) d env).bind fun env' => execSs (ctxN G n) G.ff (forBody p_divided.body) env' u) = some (.nx env' u') ∧ DivI row other a m L kr ko (i + 1) env' u' := by
  intro i d hd env u hI
  obtain ⟨l, f, c, q, s2, s5, s6, s7, s8, s9, e1, e2, hs2, hll, hfl, hc, hr, hz, hq, sl, sf⟩ := hI
  subst e1 e2
  obtain ⟨hi, rfl⟩ := rangeRev hd
  obtain ⟨s, hs⟩ : ∃ s, s = L - 1 - i := ⟨_, rfl⟩
  rw [← hs]
  have hLm : L + m = row.length := by omega
  have hapos : 0 < a := by rw [ha]; split <;> omega
  have sa : Sm ko a := by
    have := ho m
    rw [ha]
    split
    · exact this
    · exact this.neg
  -- the bound
  have hj : i * (ko + 1) ≤ 20 * 9000 := by
    have : i ≤ 20 := by omega
    exact Nat.le_trans (Nat.mul_le_mul_right _ this) (Nat.mul_le_mul_left _ (by omega))
  obtain ⟨B, hB⟩ : ∃ B, B = kr + i * (ko + 1) := ⟨_, rfl⟩
  rw [← hB] at sl sf
  have hBk : B < 200000 := by omega
  have mo : ∀ {x y : Int}, Sm B x → Sm ko y → mulOk x y = true := fun h h' => mulOk_of h h' (by omega) (by omega)
  obtain ⟨top, htop⟩ : ∃ top, top = co l (s + m) := ⟨_, rfl⟩
  obtain ⟨t, ht⟩ : ∃ t, t = if 0 < co other m then top else -top := ⟨_, rfl⟩
  have st : Sm B t := by
    have := sl (s + m)
    rw [← htop] at this
    rw [ht]
    split
    · exact this
    · exact this.neg
  obtain ⟨l2, s7', s9', hin, hl2, hc2⟩ := div_inner K n (row := row) (other := other) (l := l.map (· * a)) (a := a) (t := t) (top := top) (f := (f.map (· * a)).set s t) (s := s) (s7 := s7) (s9 := s9) hm (by rw [List.length_map]; omega) ho st (by omega) (by omega)
  have hix : atI (l.map PyData.int) ((s : Int) + ((m + 1 : Nat) : Int) - 1) = some (.int top) := by
    rw [atI_co (by omega) (by omega), htop]
    congr 2
    congr 1
    omega
  have hst : ixN f.length (s : Int) = some s := by rw [ixN_nat, if_pos (by omega)]
  have hla : atI (other.map PyData.int) (-1) = some (.int (co other m)) := by
    have := atI_last (xs := other) (by intro z; rw [z] at hm; simp at hm)
    rwa [hm, Nat.add_sub_cancel] at this
  have hcf : ∀ env : Env, env[3]? = some (.imm (.int a)) → 7 < env.length → compL (fun d u => (bindT (.one 7) d (wipe env [7])).bind fun env' => (evalC (ctxN G n) .no env' u).bind fun rc =>
        if rc.1 = true then (evalE (ctxN G n) (.bin .mul (.var 7) (.var 3)) env' rc.2).bind fun re => some (some re.1, re.2) else some (none, rc.2)) (f.map .int) [] = some ((f.map (· * a)).map .int, []) := fun env h3 h7 =>
    compL_ints fun x hx => by
      have hmx : mulOk x a = true := mo (by obtain ⟨p, hp, e⟩ := List.getElem_of_mem hx; have := sf p; rwa [co_of (by rw [List.getElem?_eq_getElem hp, e] : f[p]? = some x)] at this) sa
      simp [h3, h7, hmx, List.getElem?_set]
  have hcl : ∀ env : Env, env[3]? = some (.imm (.int a)) → 7 < env.length → compL (fun d u => (bindT (.one 7) d (wipe env [7])).bind fun env' => (evalC (ctxN G n) .no env' u).bind fun rc =>
        if rc.1 = true then (evalE (ctxN G n) (.bin .mul (.var 7) (.var 3)) env' rc.2).bind fun re => some (some re.1, re.2) else some (none, rc.2)) (l.map .int) [] = some ((l.map (· * a)).map .int, []) := fun env h3 h7 =>
    compL_ints fun x hx => by
      have hmx : mulOk x a = true := mo (by obtain ⟨p, hp, e⟩ := List.getElem_of_mem hx; have := sl p; rwa [co_of (by rw [List.getElem?_eq_getElem hp, e] : l[p]? = some x)] at this) sa
      simp [h3, h7, hmx, List.getElem?_set]
  have hfk : ∀ e t it c o, fk G.ff (.comp e t it c o) = true := fun _ _ _ _ _ => rfl
  refine ⟨[.imm (Tz row), .imm (Tz other), .own (l2.map .int), .imm (.int a), .own (((f.map (· * a)).set s t).map .int), .imm (.int s), .imm (.int top), s7', .imm (.int t), s9'], [], ?_, l2, (f.map (· * a)).set s t, a * c, fun j => a * q j + t * (if j = s then 1 else 0), _, _, _, _, _, _, rfl, rfl, .inl rfl, by rw [hl2, List.length_map, hll], by simpa using hfl, Int.mul_pos hapos hc, ?_, ?_, ?_, ?_, ?_⟩
  · rw [bindT, Option.bind_some]
    refine run_cons (env1 := [.imm (Tz row), .imm (Tz other), s2, .imm (.int a), .own (f.map .int), .imm (.int s), .imm (.int top), s7, s8, s9]) (u1 := []) ?_
      (run_cons (env1 := [.imm (Tz row), .imm (Tz other), s2, .imm (.int a), .own ((f.map (· * a)).map .int), .imm (.int s), .imm (.int top), s7, s8, s9]) (u1 := []) ?_
      (run_cons (env1 := [.imm (Tz row), .imm (Tz other), .own ((l.map (· * a)).map .int), .imm (.int a), .own ((f.map (· * a)).map .int), .imm (.int s), .imm (.int top), s7, s8, s9]) (u1 := []) ?_
      (run_cons (env1 := [.imm (Tz row), .imm (Tz other), .own ((l.map (· * a)).map .int), .imm (.int a), .own ((f.map (· * a)).map .int), .imm (.int s), .imm (.int top), s7, .imm (.int t), s9]) (u1 := []) ?_
      (run_cons (env1 := [.imm (Tz row), .imm (Tz other), .own ((l.map (· * a)).map .int), .imm (.int a), .own (((f.map (· * a)).set s t).map .int), .imm (.int s), .imm (.int top), s7, .imm (.int t), s9]) (u1 := []) ?_
      (run_cons (run_for (ds := enumL 0 (other.map .int)) (u1 := []) ?_ ?_ hin) ?_)))))
    · have hix' : atI (l.map PyData.int) ((s : Int) + (other.length : Int) - 1) = some (.int top) := by rw [hm]; exact hix
      rcases hs2 with rfl | rfl <;> simp [hix']
    · exact run_setL (hfk _ _ _ _ _) (eval_comp (ds := f.map .int) (u1 := []) (by simp) (by simp; omega) (hcf _ rfl (by simp)))
    · exact run_setL (hfk _ _ _ _ _) (eval_comp (ds := l.map .int) (u1 := []) (by rcases hs2 with rfl | rfl <;> simp) (by simp; omega) (hcl _ rfl (by simp)))
    · by_cases hp : 0 < co other m
      · simp [hla, hp, ht]
      · simp [hla, hp, ht]
    · have h3 : ixN (f.map (· * a)).length (s : Int) = some s := by rw [List.length_map]; exact hst
      simp [hst, List.map_set]
    · simp
    · simp [enumL_leni]; omega
    · simp
  · intro i'
    have := (div_step (b := co other) (l := co l) (r := co row) (q := q) (m := m) (s := s) (c := c) (a := a) (t := t) ha (by rw [ht, htop]) hr (fun i'' hi'' => hz i'' (by omega))).1 i'
    rw [this, hc2, co_map (by simp)]
    grind
  · intro i' hi'
    have := (div_step (b := co other) (l := co l) (r := co row) (q := q) (m := m) (s := s) (c := c) (a := a) (t := t) ha (by rw [ht, htop]) hr (fun i'' hi'' => hz i'' (by omega))).2 i' (by omega)
    rw [hc2, co_map (by simp)]
    grind
  · intro i' hi'
    simp only [hq i' hi', Int.mul_zero, Int.zero_add]
    rw [if_neg (by omega)]
    simp
  · intro i'
    rw [hc2, co_map (by simp)]
    have e : kr + (i + 1) * (ko + 1) = B + (ko + 1) := by rw [hB, Nat.add_mul]; omega
    rw [e]
    have s1 := (sl i').mul sa
    have s2 : Sm (B + ko) (t * (if s ≤ i' ∧ i' - s < m + 1 then co other (i' - s) else 0)) := st.mul (by split; exact ho _; exact sm_zero)
    exact (s1.sub s2).mono (by omega)
  · intro i'
    have e : kr + (i + 1) * (ko + 1) = B + (ko + 1) := by rw [hB, Nat.add_mul]; omega
    rw [e, co_set (by rw [List.length_map]; omega)]
    split
    · exact st.mono (by omega)
    · rw [co_map (by simp)]
      exact ((sf i').mul sa).mono (by omega)
end
end Pl

/-! PLib13: what remains. -/
namespace Pl
open PySem (PyData Str)
structure KnM (G : Prog) : Prop extends KnQ G where
  is_whole : G.T "is_whole" = some p_is_whole
  are_numbers : G.T "are_numbers" = some p_are_numbers
  is_row : G.T "is_row" = some p_is_row
  check_row : G.T "check_row" = some p_check_row
  remainder : G.T "remainder" = some p_remainder
  most : G.glob "MOST_LONG" = some (.int 13)
section
variable {G : Prog}
theorem c_what_remains (K : KnQ G) (n : Nat) {row other : List Int} {m k : Nat} (hm : other.length = m + 1) (hrl : row.length ≤ 20) (hol : m ≤ 1000) (sr : ∀ i, Sm k (co row i)) (so : ∀ i, Sm k (co other i)) (h0 : co other m ≠ 0) (hk : k < 200) :
    ∃ (l : List Int) (c : Int) (q : Nat → Int), callU G (n + 3) "what_remains" [Tz row, Tz other] [] = some (Tz (shortZ (trimZ l)), []) ∧ 0 < c ∧ (∀ i, c * co row i = cv (co other) (m + 1) q i + co l i) ∧ (∀ i, m ≤ i → co l i = 0) ∧ (∀ i, row.length ≤ i → q i = 0) := by
  obtain ⟨L, hL⟩ : ∃ L, L = row.length - m := ⟨_, rfl⟩
  have hL1 : L ≤ 20 := by omega
  have hL5 : L ≤ 100000 := Nat.le_trans hL1 (by decide)
  obtain ⟨a, ha⟩ : ∃ a, a = if 0 < co other m then co other m else -co other m := ⟨_, rfl⟩
  have hla : atI (other.map PyData.int) (-1) = some (.int (co other m)) := by
    have := atI_last (xs := other) (by intro z; rw [z] at hm; simp at hm)
    rwa [hm, Nat.add_sub_cancel] at this
  have habs : (if co other m < 0 then -co other m else co other m) = a := by
    rw [ha]
    by_cases h : co other m < 0
    · rw [if_pos h, if_neg (by omega)]
    · rw [if_neg h, if_pos (by omega)]
  obtain ⟨env', u', hf, l, f, c, q, s2, s5, s6, s7, s8, s9, rfl, rfl, hs2, hll, hfl, hc, hr, hz, hq, sl, sf⟩ := forL_ix (DivI row other a m L k k) (div_turn K (n + 1) (row := row) (other := other) (m := m) (L := L) (kr := k) (ko := k) (a := a) hm (by omega) (by omega) (by omega) ha so h0 (by omega) (by omega))
    (env := [.imm (Tz row), .imm (Tz other), .imm (Lz row), .imm (.int a), .own ((List.replicate L 0).map .int), .no, .no, .no, .no, .no]) (u := [])
    ⟨row, List.replicate L 0, 1, fun _ => 0, _, _, _, _, _, _, rfl, rfl, .inr rfl, rfl, by simp, by decide, fun i => by rw [cv_zero _ _ _ _ (fun _ _ => rfl)]; omega, fun i hi => co_ge (by omega), fun _ _ => rfl, fun i => (sr i).mono (by omega), fun i => by rw [co_rep]; exact sm_zero⟩
  have hlen : (rangeL 0 (L : Int)).reverse.length = L := by simp [rangeL]
  rw [hlen] at hz sl
  refine ⟨l, c, q, ?_, hc, hr, fun i hi => hz i (by omega), fun i hi => hq i (by omega)⟩
  have hfk2 : ∀ es e, fk G.ff (.rep es e) = true := fun _ _ => rfl
  have h1 : callU G (n + 2) "divided" [Tz row, Tz other] [] = some (.tuple [Tz (trimZ f), Tz (trimZ l)], []) := by
    rw [callU_eq K.divided]
    refine runF_of rfl (run_cons (env1 := [.imm (Tz row), .imm (Tz other), .imm (Lz row), .imm (.int a), .no, .no, .no, .no, .no, .no]) (u1 := []) ?_
      (run_cons (env1 := [.imm (Tz row), .imm (Tz other), .imm (Lz row), .imm (.int a), .own ((List.replicate L 0).map .int), .no, .no, .no, .no, .no]) (u1 := []) ?_
      (run_cons (run_for (ds := (rangeL 0 (L : Int)).reverse) (u1 := []) ?_ ?_ hf) (run_last ?_))))
    · simp [mkEnv, p_divided, hla, habs]
    · refine run_setL (hfk2 _ _) ?_
      have e1 : (if (0 : Int) < (row.length : Int) - (other.length : Int) + 1 then (row.length : Int) - (other.length : Int) + 1 else 0) = (L : Int) := by
        rw [hm]
        split <;> omega
      exact eval_rep0 (by simp [e1]) hL5
    · exact eval_rev1 (by simp) hL5
    · rw [hlen]; exact hL5
    · rcases hs2 with rfl | rfl
      · simp [ctx_fn K.trimmed rfl, c_trimmed K.toKnR n (.inl rfl : RowD (Lz f) f), c_trimmed K.toKnR n (.inl rfl : RowD (Lz l) l)]
      · simp [ctx_fn K.trimmed rfl, c_trimmed K.toKnR n (.inl rfl : RowD (Lz f) f), c_trimmed K.toKnR n (.inl rfl : RowD (Lz l) l)]
  have hb : k + L * (k + 1) ≤ 8400 := by
    have : L * (k + 1) ≤ 20 * 400 := Nat.mul_le_mul (by omega) (by omega)
    omega
  have h2 := c_shortened K.toKnR n (k := k + L * (k + 1)) (xs := trimZ l) (by have := trim_len_le l; omega) (sm_of_co fun i => by rw [co_trim]; exact sl i) (by omega)
  rw [callU_eq K.what_remains]
  simp [runF, p_what_remains, mkEnv, ctx_fn K.divided rfl, h1, ctx_fn K.shortened rfl, h2]
/-- a row that is told by a product and a rest -/
theorem c_remains (K : KnQ G) (n : Nat) {row other short : List Int} {m k N : Nat} {s : Int} {T : Nat → Int} (hm : other.length = m + 1) (hrl : row.length ≤ 20) (hol : m ≤ 1000) (sr : ∀ i, Sm k (co row i)) (so : ∀ i, Sm k (co other i)) (h0 : co other m ≠ 0) (hk : k < 200)
    (hs : 0 < s) (hT : ∀ j, N ≤ j → T j = 0) (h : ∀ i, co row i = cv (co other) (m + 1) T i + s * co short i) (hsh : ∀ i, m ≤ i → co short i = 0) : callU G (n + 3) "what_remains" [Tz row, Tz other] [] = some (Tz (sZ short), []) := by
  obtain ⟨l, c, q, e, hc, hr, hl, hq⟩ := c_what_remains K n hm hrl hol sr so h0 hk
  have u := left_unique (b := co other) (q := q) (T := fun j => c * T j) (R := co l) (S := fun i => c * s * co short i) (m := m) (n := max N row.length) h0 (fun j hj => hq j (by omega)) (fun j hj => by simp only [hT j (by omega), Int.mul_zero]) hl (fun i hi => by simp only [hsh i hi, Int.mul_zero]) (fun i => by
    rw [cv_smul]
    have h1 := hr i
    have h2 := h i
    grind)
  rw [e, ← short_mul (c := c * s) (Int.mul_pos hc hs) short]
  rw [trim_ext (ys := short.map (c * s * ·)) fun i => by rw [u i, co_map (f := (c * s * ·)) (Int.mul_zero _)]]
theorem c_check_row (K : KnM G) (n : Nat) {xs : List Int} (hl : xs.length ≤ 13) (ht : xs ≠ [] → co xs (xs.length - 1) ≠ 0) : callU G (n + 4) "check_row" [Tz xs] [] = some (.none, []) := by
  have hw : ∀ i : Int, callU G (n + 1) "is_whole" [.int i] [] = some (.bool true, []) := fun i => c_is_whole K.is_whole n i
  have hc : compL (fun d u => (bindT (.one 1) d (wipe [.imm (Tz xs), .no] [1])).bind fun env' => (evalC (ctxN G (n + 1)) .no env' u).bind fun rc =>
        if rc.1 = true then (evalE (ctxN G (n + 1)) (.call "is_whole" (.cons (.var 1) .nil) [0]) env' rc.2).bind fun re => some (some re.1, re.2) else some (none, rc.2)) (xs.map .int) [] = some (xs.map fun _ => .bool true, []) := by
    rw [compL_map (f := fun _ => .bool true)]
    · rw [List.map_map]; rfl
    · intro d hd
      obtain ⟨x, hx, rfl⟩ := List.mem_map.mp hd
      simp [ctx_fn K.is_whole rfl, hw]
  have hall : ∀ l : List Int, boolsOf (l.map fun _ => PyData.bool true) = some (l.map fun _ => true) := by
    intro l
    induction l with
    | nil => rfl
    | cons x l ih => rw [List.map_cons, boolsOf, ih]; rfl
  have h1 : callU G (n + 2) "are_numbers" [Tz xs] [] = some (.bool true, []) := by
    rw [callU_eq K.are_numbers]
    have hcc := eval_comp (C := ctxN G (n + 1)) (elt := .call "is_whole" (.cons (.var 1) .nil) [0]) (t := .one 1) (it := .seq (.var 0)) (cond := .no) (own := [1]) (env := [.imm (Tz xs), .no]) (u := []) (u1 := []) (ds := xs.map .int) (by simp) (by simp; omega) hc
    have hg : (ctxN G (n + 1)).glob "MOST_LONG" = some (.int 13) := K.most
    have hl' : (xs.length : Int) ≤ 13 := by omega
    have ea : evalE (ctxN G (n + 1)) (.bi .all (.cons (.comp (.call "is_whole" (.cons (.var 1) .nil) [0]) (.one 1) (.seq (.var 0)) .no [1]) .nil)) [.imm (Tz xs), .no] [] = some (.bool true, []) := by
      have e1 : evalEs (ctxN G (n + 1)) (.cons (.comp (.call "is_whole" (.cons (.var 1) .nil) [0]) (.one 1) (.seq (.var 0)) .no [1]) .nil) [.imm (Tz xs), .no] [] = some ([.list (xs.map fun _ => .bool true)], []) := by
        rw [evalEs, hcc]; rfl
      rw [evalE, e1, Option.bind_some]
      show (((boolsOf (xs.map fun _ => PyData.bool true)).map _).bind _) = _
      rw [hall]
      simp
    have eb : evalE (ctxN G (n + 1)) (.cmp .le (.bi .len (.cons (.var 0) .nil)) (.glob "MOST_LONG")) [.imm (Tz xs), .no] [] = some (.bool true, []) := by
      simp [hg, hl']
    have ec : evalE (ctxN G (n + 1)) (.bi .isTuple (.cons (.var 0) .nil)) [.imm (Tz xs), .no] [] = some (.bool true, []) := by simp
    refine runF_of rfl (run_last ?_)
    show execS _ _ (.ret (.and _ (.and _ _))) _ _ = _
    rw [execS, evalE]
    show ((evalE (ctxN G (n + 1)) _ [.imm (Tz xs), .no] []).bind _).bind _ = _
    rw [ec]
    show (((evalE (ctxN G (n + 1)) _ [.imm (Tz xs), .no] []).bind _)).bind _ = _
    rw [evalE, eb]
    show (((((evalE (ctxN G (n + 1)) _ [.imm (Tz xs), .no] []).bind _)).bind _)).bind _ = _
    rw [ea]
    rfl
  have h2 : callU G (n + 3) "is_row" [Tz xs] [] = some (.bool true, []) := by
    rw [callU_eq K.is_row]
    by_cases h : xs = []
    · subst h
      have h1' : callU G (n + 2) "are_numbers" [.tuple []] [] = some (.bool true, []) := h1
      simp [runF, p_is_row, mkEnv, ctx_fn K.are_numbers rfl, h1, h1']
    · simp [runF, p_is_row, mkEnv, ctx_fn K.are_numbers rfl, h1, h, atI_last h, ht h]
  rw [callU_eq K.check_row]
  simp [runF, p_check_row, mkEnv, ctx_fn K.is_row rfl, h2]
theorem c_remainder (K : KnM G) (n : Nat) {row other short : List Int} {m k N : Nat} {s : Int} {T : Nat → Int} (hm : other.length = m + 1) (hrl : row.length ≤ 13) (hol : m ≤ 12) (hrt : row ≠ [] → co row (row.length - 1) ≠ 0) (sr : ∀ i, Sm k (co row i)) (so : ∀ i, Sm k (co other i)) (h0 : co other m ≠ 0) (hk : k < 200)
    (hs : 0 < s) (hT : ∀ j, N ≤ j → T j = 0) (h : ∀ i, co row i = cv (co other) (m + 1) T i + s * co short i) (hsh : ∀ i, m ≤ i → co short i = 0) : callU G (n + 5) "remainder" [Tz row, Tz other] [] = some (Tz (sZ short), []) := by
  have h1 := c_check_row K n (xs := row) hrl hrt
  have h2 := c_check_row K n (xs := other) (by omega) (fun _ => by rw [hm, Nat.add_sub_cancel]; exact h0)
  have h3 := c_remains K.toKnQ (n + 1) hm (by omega) (by omega) sr so h0 hk hs hT h hsh
  have h4 : other ≠ [] := by intro z; rw [z] at hm; simp at hm
  rw [callU_eq K.remainder]
  simp [runF, p_remainder, mkEnv, ctx_fn K.check_row rfl, h1, h2, h4, ctx_fn K.what_remains rfl, h3]
end
end Pl

/-! PLib14: the laws' own rows: divisor, ends cut off, shortest, sum, product. -/
namespace Pl
open PySem (PyData Str)
structure KnO (G : Prog) : Prop where
  common : G.T "_law_common" = some p__law_common
  short : G.T "_law_short" = some p__law_short
  trim : G.T "_law_trim" = some p__law_trim
theorem trim_take {xs : List Int} {m : Nat} (hm : m ≤ xs.length) (h1 : ∀ i, m ≤ i → co xs i = 0) (h2 : m = 0 ∨ co xs (m - 1) ≠ 0) : trimZ xs = xs.take m := by
  have e : ∀ i, co (xs.take m) i = co xs i := fun i => by
    by_cases hi : i < m
    · unfold co
      rw [List.getD_eq_getElem?_getD, List.getD_eq_getElem?_getD, List.getElem?_take, if_pos hi]
    · rw [h1 i (by omega), co_ge (by rw [List.length_take]; omega)]
  rw [← trim_ext e]
  refine trim_id fun hne => ?_
  rw [e, List.length_take, Nat.min_eq_left hm]
  refine h2.resolve_left fun z => hne ?_
  rw [z]; rfl
section
variable {G : Prog} (K : KnO G)
include K
/-- the own divisor's inner while -/
theorem l_common_in (n : Nat) (d : D) (g0 : Nat) (s2 : Slot) (r0 : Nat) : ∃ o, whileO (fun (q : Env × U) => (evalE (ctxN G n) (.cmp .gt (.var 3) (.lit (.int 0))) q.1 q.2).bind fun rc => match rc with
    | (.bool k, u1) => if k = true then (execSs (ctxN G n) G.ff (.cons (.par [1, 3] (.cons (.var 3) (.cons (.bin .mod (.bi .int (.cons (.var 1) .nil)) (.var 3)) .nil))) .nil) q.1 u1).bind fun o => (match o with
        | .nx env' u' => some (.inl (env', u'))
        | .ct env' u' => some (.inl (env', u'))
        | .bk env' u' => some (.inr (O.nx env' u'))
        | .rt d u' => some (.inr (O.rt d u'))) else some (.inr (O.nx q.1 u1))
    | _ => none) ([.imm d, .imm (.int (g0 : Nat)), s2, .imm (.int (r0 : Nat))], []) = some o ∧ o = O.nx [.imm d, .imm (.int (Nat.gcd g0 r0 : Nat)), s2, .imm (.int 0)] [] := by
  refine whileO_ix (fun m q => ∃ g r : Nat, q = ([.imm d, .imm (.int (g : Nat)), s2, .imm (.int (r : Nat))], []) ∧ r = m ∧ Nat.gcd g r = Nat.gcd g0 r0) (fun m q ⟨g, r, e1, e2, e3⟩ => ?_) r0 _ ⟨g0, r0, rfl, rfl, rfl⟩
  subst e1 e2
  by_cases hr : 0 < r
  · right
    refine ⟨([.imm d, .imm (.int (r : Nat)), s2, .imm (.int (g % r : Nat))], []), g % r, Nat.mod_lt _ hr, ?_, r, g % r, rfl, rfl, ?_⟩
    · have h1 : (0 : Int) < (r : Int) := by omega
      have h2 : ¬ (r : Int) = 0 := by omega
      have h3 : ¬ r = 0 := by omega
      simp [h1, h2, h3, fmod_nat, hr]
    · rw [← e3, Nat.gcd_comm r, Nat.gcd_comm g r, ← Nat.gcd_rec]
  · left
    have hr0 : r = 0 := by omega
    subst hr0
    rw [Nat.gcd_zero_right] at e3
    subst e3
    exact ⟨O.nx [.imm d, .imm (.int (Nat.gcd g0 r0 : Nat)), s2, .imm (.int 0)] [], by simp, rfl⟩
theorem l_common (n : Nat) {d : D} {xs : List Int} (hd : RowD d xs) (hl : xs.length ≤ 100000) : callU G (n + 1) "_law_common" [d] [] = some (.int (gN xs : Nat), []) := by
  obtain ⟨env', u', hf, s, s', rfl, rfl⟩ := forL_ix (step := fun d env u => (bindT (.one 2) d env).bind fun env' => execSs (ctxN G n) G.ff (forBody p__law_common.body) env' u)
    (fun i env u => ∃ s s', env = [.imm d, .imm (.int ((xs.take i).foldl (fun (g : Int) x => ((Nat.gcd g.natAbs x.natAbs : Nat) : Int)) ((0 : Nat) : Int))), s, s'] ∧ u = []) (ds := xs.map .int) (env := [.imm d, .imm (.int 0), .no, .no]) (u := [])
    (fun i d' hd' env u ⟨s, s', e1, e2⟩ => by
      subst e1 e2
      rw [List.getElem?_map] at hd'
      obtain ⟨x, hx, rfl⟩ := Option.map_eq_some_iff.mp hd'
      rw [gN_fold, Nat.gcd_zero_left]
      obtain ⟨o, ho, rfl⟩ := l_common_in K n d (gN (xs.take i)) (.imm (.int x)) x.natAbs
      refine ⟨[.imm d, .imm (.int (Nat.gcd (gN (xs.take i)) x.natAbs : Nat)), .imm (.int x), .imm (.int 0)], [], ?_, .imm (.int x), .imm (.int 0), ?_, rfl⟩
      · rw [bindT, Option.bind_some]
        refine run_cons (env1 := [.imm d, .imm (.int (gN (xs.take i) : Nat)), .imm (.int x), .imm (.int (x.natAbs : Nat))]) (u1 := []) ?_ (run_cons (env1 := [.imm d, .imm (.int (Nat.gcd (gN (xs.take i)) x.natAbs : Nat)), .imm (.int x), .imm (.int 0)]) (u1 := []) ho rfl)
        have : (if x < 0 then -x else x) = (x.natAbs : Int) := by split <;> omega
        simp [this]
      · rw [List.take_add_one, hx, Option.toList_some, List.foldl_append, gN_fold, Nat.gcd_zero_left]
        rfl)
    ⟨_, _, rfl, rfl⟩
  rw [List.length_map, List.take_length, gN_fold, Nat.gcd_zero_left] at hf
  rw [callU_eq K.common]
  refine runF_of (by simp [p__law_common]) (run_cons (env1 := [.imm d, .imm (.int 0), .no, .no]) (u1 := []) ?_ (run_cons (run_for (ds := xs.map .int) (u1 := []) ?_ ?_ hf) (run_last ?_)))
  · simp [mkEnv, p__law_common]
  · rcases hd with rfl | rfl <;> simp
  · simpa using hl
  · simp
theorem l_trim_in (n : Nat) {d : D} {xs : List Int} (hd : RowD d xs) (iv : Nat) (E : Int → Env) (hE : ∀ i, (E i)[0]? = some (.imm d)) (hE1 : ∀ i, (E i)[iv]? = some (.imm (.int i))) (hE2 : ∀ i j, (E i).set iv (.imm (.int j)) = E j) : ∃ o, whileO (fun (q : Env × U) => (evalE (ctxN G n) (.and (.cmp .gt (.var iv) (.lit (.int 0))) (.cmp .eq (.idx (.var 0) (.bin .sub (.var iv) (.lit (.int 1)))) (.lit (.int 0)))) q.1 q.2).bind fun rc => match rc with
    | (.bool k, u1) => if k = true then (execSs (ctxN G n) G.ff (.cons (.set iv (.bin .sub (.var iv) (.lit (.int 1)))) .nil) q.1 u1).bind fun o => (match o with
        | .nx env' u' => some (.inl (env', u'))
        | .ct env' u' => some (.inl (env', u'))
        | .bk env' u' => some (.inr (O.nx env' u'))
        | .rt d u' => some (.inr (O.rt d u'))) else some (.inr (O.nx q.1 u1))
    | _ => none) (E (xs.length : Int), []) = some o ∧ ∃ m : Nat, o = O.nx (E (m : Int)) [] ∧ m ≤ xs.length ∧ trimZ xs = xs.take m := by
  refine whileO_ix (fun k q => q = (E (k : Int), []) ∧ k ≤ xs.length ∧ ∀ i, k ≤ i → co xs i = 0) (fun k q ⟨e1, e2, e3⟩ => ?_) xs.length _ ⟨rfl, Nat.le_refl _, fun i hi => co_ge hi⟩
  subst e1
  have gi : getV (E (k : Int)) iv = some (.int k) := by simp [hE1]
  have g0 : getV (E (k : Int)) 0 = some d := by simp [hE]
  by_cases hk : 0 < k
  · obtain ⟨j, rfl⟩ : ∃ j, k = j + 1 := ⟨k - 1, by omega⟩
    have hix : idxV d (.int (((j + 1 : Nat) : Int) - 1)) = some (.int (co xs j)) := by
      rw [hd.ix (by omega) (by omega)]
      congr 3
      omega
    have hp : (0 : Int) < ((j + 1 : Nat) : Int) := by omega
    by_cases h0 : co xs j = 0
    · right
      refine ⟨(E (j : Int), []), j, by omega, ?_, rfl, by omega, fun i hi => ?_⟩
      · simp only [evalE, evalEs, gi, g0, Option.bind_some, litV, cmpV, hp, decide_true, if_true, binV, hix, h0, eqD_int]
        have e : ((j + 1 : Nat) : Int) - 1 = (j : Int) := by omega
        have : execSs (ctxN G n) G.ff (.cons (.set iv (.bin .sub (.var iv) (.lit (.int 1)))) .nil) (E ((j + 1 : Nat) : Int)) [] = some (.nx (E (j : Int)) []) := by
          simp only [execSs, execS, evalE, gi, Option.bind_some, litV, binV, after_t within_int, slotOf_int, hE2, e]
        rw [this]
        rfl
      · rcases Nat.eq_or_lt_of_le hi with rfl | hi
        · exact h0
        · exact e3 i (by omega)
    · left
      refine ⟨O.nx (E ((j + 1 : Nat) : Int)) [], ?_, j + 1, rfl, e2, trim_take e2 e3 (.inr (by simpa using h0))⟩
      simp only [evalE, evalEs, gi, g0, Option.bind_some, litV, cmpV, hp, decide_true, if_true, binV, hix, eqD_int]
      simp [h0]
  · left
    have : k = 0 := by omega
    subst this
    refine ⟨O.nx (E ((0 : Nat) : Int)) [], ?_, 0, rfl, e2, trim_take e2 e3 (.inl rfl)⟩
    simp only [evalE, gi, Option.bind_some, litV, cmpV]
    simp
theorem l_trim (n : Nat) {d : D} {xs : List Int} (hd : RowD d xs) : callU G (n + 1) "_law_trim" [d] [] = some (Tz (trimZ xs), []) := by
  obtain ⟨o, ho, m, rfl, hm, ht⟩ := l_trim_in K n hd 1 (fun i => [.imm d, .imm (.int i)]) (fun _ => rfl) (fun _ => rfl) (fun _ _ => rfl)
  rw [callU_eq K.trim]
  refine runF_of (by simp [p__law_trim]) (run_cons (env1 := [.imm d, .imm (.int xs.length)]) (u1 := []) ?_ (run_cons (env1 := [.imm d, .imm (.int m)]) (u1 := []) ho (run_last ?_)))
  · rcases hd with rfl | rfl <;> simp [mkEnv, p__law_trim]
  · have h2 := cut_hi (xs.map PyData.int) (n := m) (by simpa using hm)
    rw [ht]
    rcases hd with rfl | rfl <;> simp [h2]
theorem l_short (n : Nat) {k : Nat} {d : D} {xs : List Int} (hd : RowD d xs) (hl : xs.length ≤ 100000) (hs : ∀ x ∈ xs, Sm k x) (hk : k < 8999) : callU G (n + 2) "_law_short" [d] [] = some (Tz (sZ xs), []) := by
  obtain ⟨g, hg⟩ : ∃ g : Nat, g = max 1 (gN xs) := ⟨_, rfl⟩
  have hg0 : 0 < g := by rw [hg]; exact Nat.lt_of_lt_of_le (by decide) (Nat.le_max_left _ _)
  have sg : divOk (g : Int) = true := by
    by_cases h : 0 < gN xs
    · have e : g = gN xs := by rw [hg]; exact Nat.max_eq_right h
      rw [e]
      exact divOk_of (gN_sm hs h) (by omega) hk
    · have e : g = 1 := by rw [hg]; exact Nat.max_eq_left (by omega)
      rw [e]
      exact divOk_of (k := 1) (by unfold Sm; decide) (by decide) (by decide)
  obtain ⟨o, ho, m, rfl, hm, ht⟩ := l_trim_in K (n + 1) hd 2 (fun i => [.imm d, .imm (.int (g : Nat)), .imm (.int i), .no]) (fun _ => rfl) (fun _ => rfl) (fun _ _ => rfl)
  have h2 := cut_hi (xs.map PyData.int) (n := m) (by simpa using hm)
  have hc : compL (fun d u => (bindT (.one 3) d (wipe [.imm d, .imm (.int (g : Nat)), .imm (.int m), .no] [3])).bind fun env' => (evalC (ctxN G (n + 1)) .no env' u).bind fun rc =>
        if rc.1 = true then (evalE (ctxN G (n + 1)) (.bin .fdiv (.var 3) (.var 1)) env' rc.2).bind fun re => some (some re.1, re.2) else some (none, rc.2)) ((xs.take m).map .int) [] = some (((xs.take m).map fun x => x.fdiv (g : Int)).map .int, []) :=
      compL_ints fun x _ => by simp [sg]
  have hcc := eval_comp (C := ctxN G (n + 1)) (elt := .bin .fdiv (.var 3) (.var 1)) (t := .one 3) (it := .seq (.sli (.var 0) .no (.yes (.var 2)))) (cond := .no) (own := [3]) (env := [.imm d, .imm (.int (g : Nat)), .imm (.int m), .no]) (u := []) (u1 := []) (ds := (xs.take m).map .int) (rs := ((xs.take m).map fun x => x.fdiv (g : Int)).map .int) (u2 := []) (by rcases hd with rfl | rfl <;> simp [h2]) (by simp; omega) (by
      refine (congrArg (fun f => compL f _ _) ?_).trans hc
      funext d u
      rfl)
  rw [callU_eq K.short]
  refine runF_of (by simp [p__law_short]) (run_cons (env1 := [.imm d, .imm (.int (g : Nat)), .imm (.int xs.length), .no]) (u1 := []) ?_ (run_cons (env1 := [.imm d, .imm (.int (g : Nat)), .imm (.int m), .no]) (u1 := []) ho (run_last ?_)))
  · have := hd.len
    have h3 := l_common K n hd hl
    have h4 : (if (1 : Int) < ((gN xs : Nat) : Int) then ((gN xs : Nat) : Int) else 1) = (g : Int) := by
      rw [hg]
      by_cases h : 1 < gN xs
      · rw [if_pos (by omega), Nat.max_eq_right (by omega)]
      · rw [if_neg (by omega), Nat.max_eq_left (by omega)]; rfl
    rcases hd with rfl | rfl <;> simp [mkEnv, p__law_short, ctx_fn K.common rfl, h3, h4]
  · rw [execS]
    have e1 : evalEs (ctxN G (n + 1)) (.cons (.comp (.bin .fdiv (.var 3) (.var 1)) (.one 3) (.seq (.sli (.var 0) .no (.yes (.var 2)))) .no [3]) .nil) [.imm d, .imm (.int (g : Nat)), .imm (.int m), .no] [] = some ([.list (((xs.take m).map fun x => x.fdiv (g : Int)).map .int)], []) := by
      rw [evalEs, hcc]; rfl
    rw [evalE, e1]
    unfold sZ
    rw [ht, hg]
    rfl
end
end Pl

/-! PLib15: the laws' own rows: sum, product. -/
namespace Pl
open PySem (PyData Str)
theorem rangeL_ix {L i : Nat} {d : D} (h : (rangeL 0 (L : Int))[i]? = some d) : i < L ∧ d = .int (i : Int) := by
  have hi : i < L := by
    have := (List.getElem?_eq_some_iff.mp h).1
    simpa [rangeL] using this
  refine ⟨hi, ?_⟩
  unfold rangeL at h
  rw [List.getElem?_map, List.getElem?_range (by simp; omega)] at h
  simpa using h.symm
theorem rangeL_leni (L : Nat) : (rangeL 0 (L : Int)).length = L := by simp [rangeL]
theorem rangeL_zero (L : Nat) : (rangeL 0 (L : Int)).map (fun _ => PyData.int 0) = (List.replicate L (0 : Int)).map .int := by
  rw [List.map_replicate]
  refine List.ext_getElem? fun i => ?_
  rw [List.getElem?_map, List.getElem?_replicate]
  by_cases h : i < L
  · rw [if_pos h, List.getElem?_eq_getElem (by rw [rangeL_leni]; exact h)]; rfl
  · rw [if_neg h, List.getElem?_eq_none (by rw [rangeL_leni]; omega)]; rfl
structure KnA (G : Prog) : Prop extends KnO G where
  added : G.T "_law_added" = some p__law_added
structure KnX (G : Prog) : Prop extends KnO G where
  multiplied : G.T "_law_multiplied" = some p__law_multiplied
section
variable {G : Prog}
theorem add_inner (n : Nat) {d1 d2 d : D} {zs ys : List Int} (hd : RowD d ys) (hl : ys.length ≤ zs.length) (s3 s5 : Slot) : ∃ (zs' : List Int) (s5' : Slot), forL (fun d env u => (bindT (.one 5) d env).bind fun env' => execSs (ctxN G n) G.ff (forBody (forBody p__law_added.body)) env' u) (rangeL 0 (ys.length : Int)) [.imm d1, .imm d2, .own (zs.map .int), s3, .imm d, s5] [] =
      some (.nx [.imm d1, .imm d2, .own (zs'.map .int), s3, .imm d, s5'] []) ∧ zs'.length = zs.length ∧ ∀ i, co zs' i = co zs i + co ys i := by
  obtain ⟨env', u', hf, zs', s5', rfl, rfl, h1, h2⟩ := forL_ix (step := fun d env u => (bindT (.one 5) d env).bind fun env' => execSs (ctxN G n) G.ff (forBody (forBody p__law_added.body)) env' u)
    (fun j env u => ∃ (zs' : List Int) (s5' : Slot), env = [.imm d1, .imm d2, .own (zs'.map .int), s3, .imm d, s5'] ∧ u = [] ∧ zs'.length = zs.length ∧ ∀ i, co zs' i = co zs i + if i < j then co ys i else 0)
    (ds := rangeL 0 (ys.length : Int)) (env := [.imm d1, .imm d2, .own (zs.map .int), s3, .imm d, s5]) (u := [])
    (fun j d' hd' env u ⟨zs', s5', e1, e2, h1, h2⟩ => by
      subst e1 e2
      obtain ⟨hj, rfl⟩ := rangeL_ix hd'
      have i1 : atI (zs'.map PyData.int) (j : Int) = some (.int (co zs' j)) := by
        rw [atI_co (by omega) (by omega)]; rfl
      have i2 : idxV d (.int (j : Int)) = some (.int (co ys j)) := by
        rw [hd.ix (by omega) (by omega)]; rfl
      have i3 : ixN zs'.length (j : Int) = some j := by rw [ixN_nat, if_pos (by omega)]
      refine ⟨[.imm d1, .imm d2, .own ((zs'.set j (co zs' j + co ys j)).map .int), s3, .imm d, .imm (.int j)], [], ?_, _, _, rfl, rfl, by simpa using h1, fun i => ?_⟩
      · have e : execSs (ctxN G n) G.ff (.cons (.setI 2 (.var 5) (.bin .add (.idx (.var 2) (.var 5)) (.idx (.var 4) (.var 5)))) .nil) [.imm d1, .imm d2, .own (zs'.map .int), s3, .imm d, .imm (.int j)] [] = some (.nx [.imm d1, .imm d2, .own ((zs'.set j (co zs' j + co ys j)).map .int), s3, .imm d, .imm (.int j)] []) := by
          simp only [execSs, execS, evalE, getV, List.getElem?_cons_succ, List.getElem?_cons_zero, Option.bind_some, idxV, i1]
          have : idxV d (.int (j : Int)) = some (.int (co ys j)) := i2
          rcases hd with rfl | rfl
          · simp only [idxV] at this
            simp [this, i3, List.map_set]
          · simp only [idxV] at this
            simp [this, i3, List.map_set]
        exact e
      · rw [co_set (by omega)]
        by_cases hi : i = j
        · subst hi
          rw [if_pos rfl, if_pos (by omega), h2, if_neg (by omega)]
          omega
        · rw [if_neg hi, h2]
          by_cases hq : i < j
          · rw [if_pos hq, if_pos (by omega)]
          · rw [if_neg hq, if_neg (by omega)])
    ⟨zs, s5, rfl, rfl, rfl, fun i => by rw [if_neg (by omega)]; omega⟩
  refine ⟨zs', s5', hf, h1, fun i => ?_⟩
  rw [h2, rangeL_leni]
  by_cases h : i < ys.length
  · rw [if_pos h]
  · rw [if_neg h, co_ge (by omega : ys.length ≤ i)]
theorem l_added (K : KnA G) (n : Nat) {d1 d2 : D} {xs ys : List Int} (h1 : RowD d1 xs) (h2 : RowD d2 ys) (l1 : xs.length ≤ 50000) (l2 : ys.length ≤ 50000) : ∃ zs : List Int, callU G (n + 2) "_law_added" [d1, d2] [] = some (Tz (trimZ zs), []) ∧ zs.length = max xs.length ys.length ∧ ∀ i, co zs i = co xs i + co ys i := by
  obtain ⟨L, hL⟩ : ∃ L, L = max xs.length ys.length := ⟨_, rfl⟩
  obtain ⟨z1, s5, f1, g1, c1⟩ := add_inner (G := G) (n + 1) (d1 := d1) (d2 := d2) (d := d1) (zs := List.replicate L 0) h1 (by simp; omega) .no .no
  obtain ⟨z2, s5', f2, g2, c2⟩ := add_inner (G := G) (n + 1) (d1 := d1) (d2 := d2) (d := d2) (zs := z1) h2 (by rw [g1]; simp; omega) .no s5
  rw [List.length_replicate] at g1
  refine ⟨z2, ?_, by rw [g2, g1, hL], fun i => by rw [c2, c1, co_rep]; omega⟩
  have hmax : (if xs.length < ys.length then (ys.length : Int) else (xs.length : Int)) = (L : Int) := by rw [hL]; split <;> omega
  have hc := compL_map (step := fun d u => (bindT (.one 3) d (wipe [.imm d1, .imm d2, .no, .no, .no, .no] [3])).bind fun env' => (evalC (ctxN G (n + 1)) .no env' u).bind fun rc =>
        if rc.1 = true then (evalE (ctxN G (n + 1)) (.lit (.int 0)) env' rc.2).bind fun re => some (some re.1, re.2) else some (none, rc.2)) (f := fun _ => .int 0) (u := []) (ds := rangeL 0 (L : Int)) (fun d hd => by simp)
  rw [rangeL_zero] at hc
  have hcc := eval_comp (C := ctxN G (n + 1)) (elt := .lit (.int 0)) (t := .one 3) (it := .range1 (.bi .max2 (.cons (.bi .len (.cons (.var 0) .nil)) (.cons (.bi .len (.cons (.var 1) .nil)) .nil)))) (cond := .no) (own := [3]) (env := [.imm d1, .imm d2, .no, .no, .no, .no]) (u := []) (u1 := []) (ds := rangeL 0 (L : Int)) (eval_rng1 (by
      rcases h1 with rfl | rfl <;> rcases h2 with rfl | rfl <;> simp [hmax]) (by omega)) (by rw [rangeL_leni]; omega) hc
  have step1 : ∀ (d : D) (ys : List Int) (zs : List Int) (s5 s4 : Slot) (z' : List Int) (s5' : Slot), RowD d ys → ys.length ≤ 50000 → forL (fun d env u => (bindT (.one 5) d env).bind fun env' => execSs (ctxN G (n + 1)) G.ff (forBody (forBody p__law_added.body)) env' u) (rangeL 0 (ys.length : Int)) [.imm d1, .imm d2, .own (zs.map .int), .no, .imm d, s5] [] = some (.nx [.imm d1, .imm d2, .own (z'.map .int), .no, .imm d, s5'] []) →
      ((bindT (.one 4) d [.imm d1, .imm d2, .own (zs.map .int), .no, s4, s5]).bind fun env' => execSs (ctxN G (n + 1)) G.ff (forBody p__law_added.body) env' []) = some (.nx [.imm d1, .imm d2, .own (z'.map .int), .no, .imm d, s5'] []) := fun d ys zs s5 s4 z' s5' hd hl hf => by
    rw [bindT, Option.bind_some]
    refine run_cons (run_for (ds := rangeL 0 (ys.length : Int)) (u1 := []) (eval_rng1 (by rcases hd with rfl | rfl <;> simp) (by omega)) (by rw [rangeL_leni]; omega) hf) rfl
  have hf : forL (fun d env u => (bindT (.one 4) d env).bind fun env' => execSs (ctxN G (n + 1)) G.ff (forBody p__law_added.body) env' u) [d1, d2] [.imm d1, .imm d2, .own ((List.replicate L (0 : Int)).map .int), .no, .no, .no] [] = some (.nx [.imm d1, .imm d2, .own (z2.map .int), .no, .imm d2, s5'] []) := by
    rw [forL, step1 d1 xs _ _ _ _ _ h1 l1 f1, Option.bind_some]
    dsimp only
    rw [forL, step1 d2 ys _ _ _ _ _ h2 l2 f2, Option.bind_some]
    dsimp only
    rw [forL]
  have hfk : ∀ e t it c o, fk G.ff (.comp e t it c o) = true := fun _ _ _ _ _ => rfl
  rw [callU_eq K.added]
  refine runF_of (by simp [p__law_added]) (run_cons (env1 := [.imm d1, .imm d2, .own ((List.replicate L (0 : Int)).map .int), .no, .no, .no]) (u1 := []) (run_setL (hfk _ _ _ _ _) hcc) (run_cons (run_for (ds := [d1, d2]) (u1 := []) ?_ ?_ hf) (run_last ?_)))
  · simp
  · simp
  · simp [ctx_fn K.trim rfl, l_trim K.toKnO n (.inl rfl : RowD (Lz z2) z2)]
theorem mul_inner (n : Nat) {d1 d2 : D} {zs xs ys : List Int} {j k1 : Nat} (h1 : RowD d1 xs) (h2 : RowD d2 ys) (hj : j < xs.length) (hl : xs.length + ys.length ≤ zs.length) (sx : ∀ i, Sm k1 (co xs i)) (sy : ∀ i, Sm k1 (co ys i)) (hk : k1 < 100000) (s3 s5 : Slot) : ∃ (zs' : List Int) (s5' : Slot), forL (fun d env u => (bindT (.one 5) d env).bind fun env' => execSs (ctxN G n) G.ff (forBody (forBody p__law_multiplied.body)) env' u) (rangeL 0 (ys.length : Int)) [.imm d1, .imm d2, .own (zs.map .int), s3, .imm (.int j), s5] [] =
      some (.nx [.imm d1, .imm d2, .own (zs'.map .int), s3, .imm (.int j), s5'] []) ∧ zs'.length = zs.length ∧ ∀ i, co zs' i = co zs i + co xs j * (if j ≤ i then co ys (i - j) else 0) := by
  obtain ⟨env', u', hf, zs', s5', rfl, rfl, g1, g2⟩ := forL_ix (step := fun d env u => (bindT (.one 5) d env).bind fun env' => execSs (ctxN G n) G.ff (forBody (forBody p__law_multiplied.body)) env' u)
    (fun p env u => ∃ (zs' : List Int) (s5' : Slot), env = [.imm d1, .imm d2, .own (zs'.map .int), s3, .imm (.int j), s5'] ∧ u = [] ∧ zs'.length = zs.length ∧ ∀ i, co zs' i = co zs i + co xs j * (if j ≤ i ∧ i - j < p then co ys (i - j) else 0))
    (ds := rangeL 0 (ys.length : Int)) (env := [.imm d1, .imm d2, .own (zs.map .int), s3, .imm (.int j), s5]) (u := [])
    (fun p d' hd' env u ⟨zs', s5', e1, e2, g1, g2⟩ => by
      subst e1 e2
      obtain ⟨hp, rfl⟩ := rangeL_ix hd'
      have i1 : atI (zs'.map PyData.int) ((j : Int) + (p : Int)) = some (.int (co zs' (j + p))) := by
        rw [atI_co (by omega) (by omega)]
        congr 2
      have i2 : idxV d1 (.int (j : Int)) = some (.int (co xs j)) := by
        rw [h1.ix (by omega) (by omega)]; rfl
      have i4 : idxV d2 (.int (p : Int)) = some (.int (co ys p)) := by
        rw [h2.ix (by omega) (by omega)]; rfl
      have i3 : ixN zs'.length ((j : Int) + (p : Int)) = some (j + p) := by
        have := ixN_nat (j + p) zs'.length
        rw [if_pos (by omega)] at this
        rw [← this]
        rfl
      have mo : mulOk (co xs j) (co ys p) = true := mulOk_of (sx j) (sy p) (by omega) (by omega)
      refine ⟨[.imm d1, .imm d2, .own ((zs'.set (j + p) (co zs' (j + p) + co xs j * co ys p)).map .int), s3, .imm (.int j), .imm (.int p)], [], ?_, _, _, rfl, rfl, by simpa using g1, fun i => ?_⟩
      · have e : execSs (ctxN G n) G.ff (forBody (forBody p__law_multiplied.body)) [.imm d1, .imm d2, .own (zs'.map .int), s3, .imm (.int j), .imm (.int p)] [] = some (.nx [.imm d1, .imm d2, .own ((zs'.set (j + p) (co zs' (j + p) + co xs j * co ys p)).map .int), s3, .imm (.int j), .imm (.int p)] []) := by
          rcases h1 with rfl | rfl <;> rcases h2 with rfl | rfl <;>
          · simp only [idxV] at i2 i4
            simp [forBody, p__law_multiplied, i1, i2, i4, i3, mo, List.map_set]
        exact e
      · rw [co_set (by omega)]
        by_cases hi : i = j + p
        · subst hi
          rw [if_pos rfl, if_pos (by omega), g2, if_neg (by omega), show j + p - j = p by omega]
          simp
        · rw [if_neg hi, g2]
          by_cases hq : j ≤ i ∧ i - j < p
          · rw [if_pos hq, if_pos (by omega)]
          · rw [if_neg hq, if_neg (by omega)])
    ⟨zs, s5, rfl, rfl, rfl, fun i => by rw [if_neg (by omega)]; simp⟩
  refine ⟨zs', s5', hf, g1, fun i => ?_⟩
  rw [g2, rangeL_leni]
  by_cases h : j ≤ i
  · by_cases h' : i - j < ys.length
    · rw [if_pos ⟨h, h'⟩, if_pos h]
    · rw [if_neg (by omega), if_pos h, co_ge (by omega : ys.length ≤ i - j)]
  · rw [if_neg (by omega), if_neg h]
theorem l_multiplied (K : KnX G) (n : Nat) {d1 d2 : D} {xs ys : List Int} {k1 : Nat} (h1 : RowD d1 xs) (h2 : RowD d2 ys) (l1 : xs.length ≤ 50000) (l2 : ys.length ≤ 50000) (sx : ∀ i, Sm k1 (co xs i)) (sy : ∀ i, Sm k1 (co ys i)) (hk : k1 < 100000) : ∃ zs : List Int, callU G (n + 2) "_law_multiplied" [d1, d2] [] = some (Tz (trimZ zs), []) ∧ zs.length = xs.length + ys.length ∧ ∀ i, co zs i = cv (co xs) xs.length (co ys) i := by
  obtain ⟨env', u', hf, zs, s4, s5, rfl, rfl, g1, g2⟩ := forL_ix (step := fun d env u => (bindT (.one 4) d env).bind fun env' => execSs (ctxN G (n + 1)) G.ff (forBody p__law_multiplied.body) env' u)
    (fun j env u => ∃ (zs : List Int) (s4 s5 : Slot), env = [.imm d1, .imm d2, .own (zs.map .int), .no, s4, s5] ∧ u = [] ∧ zs.length = xs.length + ys.length ∧ ∀ i, co zs i = cv (co xs) j (co ys) i)
    (ds := rangeL 0 (xs.length : Int)) (env := [.imm d1, .imm d2, .own ((List.replicate (xs.length + ys.length) (0 : Int)).map .int), .no, .no, .no]) (u := [])
    (fun j d' hd' env u ⟨zs, s4, s5, e1, e2, g1, g2⟩ => by
      subst e1 e2
      obtain ⟨hj, rfl⟩ := rangeL_ix hd'
      obtain ⟨z', s5', f1, q1, q2⟩ := mul_inner (G := G) (n + 1) (zs := zs) h1 h2 hj (by omega) sx sy hk .no s5
      refine ⟨_, _, ?_, z', .imm (.int j), s5', rfl, rfl, by omega, fun i => ?_⟩
      · rw [bindT, Option.bind_some]
        exact run_cons (run_for (ds := rangeL 0 (ys.length : Int)) (u1 := []) (eval_rng1 (by rcases h2 with rfl | rfl <;> simp) (by omega)) (by rw [rangeL_leni]; omega) f1) rfl
      · rw [q2, g2]
        rfl)
    ⟨_, .no, .no, rfl, rfl, by simp, fun i => by rw [co_rep]; rfl⟩
  rw [rangeL_leni] at g2
  refine ⟨zs, ?_, g1, g2⟩
  have hc := compL_map (step := fun d u => (bindT (.one 3) d (wipe [.imm d1, .imm d2, .no, .no, .no, .no] [3])).bind fun env' => (evalC (ctxN G (n + 1)) .no env' u).bind fun rc =>
        if rc.1 = true then (evalE (ctxN G (n + 1)) (.lit (.int 0)) env' rc.2).bind fun re => some (some re.1, re.2) else some (none, rc.2)) (f := fun _ => .int 0) (u := []) (ds := rangeL 0 ((xs.length + ys.length : Nat) : Int)) (fun d hd => by simp)
  rw [rangeL_zero] at hc
  have hcc := eval_comp (C := ctxN G (n + 1)) (elt := .lit (.int 0)) (t := .one 3) (it := .range1 (.bin .add (.bi .len (.cons (.var 0) .nil)) (.bi .len (.cons (.var 1) .nil)))) (cond := .no) (own := [3]) (env := [.imm d1, .imm d2, .no, .no, .no, .no]) (u := []) (u1 := []) (ds := rangeL 0 ((xs.length + ys.length : Nat) : Int)) (eval_rng1 (by
      rcases h1 with rfl | rfl <;> rcases h2 with rfl | rfl <;> simp) (by omega)) (by rw [rangeL_leni]; omega) hc
  have hfk : ∀ e t it c o, fk G.ff (.comp e t it c o) = true := fun _ _ _ _ _ => rfl
  rw [callU_eq K.multiplied]
  refine runF_of (by simp [p__law_multiplied]) (run_cons (env1 := [.imm d1, .imm d2, .own ((List.replicate (xs.length + ys.length) (0 : Int)).map .int), .no, .no, .no]) (u1 := []) (run_setL (hfk _ _ _ _ _) hcc) (run_cons (run_for (ds := rangeL 0 (xs.length : Int)) (u1 := []) (eval_rng1 (by rcases h1 with rfl | rfl <;> simp) (by omega)) (by rw [rangeL_leni]; omega) hf) (run_last ?_)))
  simp [ctx_fn K.trim rfl, l_trim K.toKnO n (.inl rfl : RowD (Lz zs) zs)]
end
end Pl

/-! PLib16: the other pot's begin, one of some, a drawn row. -/
namespace Pl
open PySem (PyData Str)
def p_of : PFun := { np := 2, ns := 2, urn := true, fresh := false, body := (.cons (.ret (.idx (.var 1) (.ucall "_law_draw" (.cons (.bi .len (.cons (.var 1) .nil)) .nil)))) .nil) }
structure KnD2 (G : Prog) : Prop extends KnD G where
  of_ : G.T "_law_of" = some p_of
structure KnPot (G : Prog) : Prop extends KnD2 G where
  pot : G.T "_law_pot" = some p__law_pot
theorem PotN.mono {a b : Nat} {u : U} (h : PotN a u) (q : a ≤ b) : PotN b u := by
  obtain ⟨z0, z1, z2, e, s, l, r⟩ := h
  exact ⟨z0, z1, z2, e, s, l, by omega⟩
theorem c_of {G : Prog} (K : KnD2 G) (n : Nat) {u : U} {m : Nat} {xs : List D} (hu : PotN m u) (hm : m ≤ 1000000000) (h0 : xs ≠ []) (hl : xs.length ≤ 100000) : ∃ x u', callU G (n + 2) "_law_of" [.list xs] u = some (x, u') ∧ x ∈ xs ∧ PotN (m + 1) u' := by
  have hp : 0 < xs.length := List.length_pos_iff.mpr h0
  obtain ⟨d, u', e, h1, h2, h3⟩ := c_draw K.toKnD n hu hm (k := (xs.length : Int)) (by omega) (by unfold Sm; omega)
  obtain ⟨i, rfl⟩ := Int.eq_ofNat_of_zero_le h1
  have hi : i < xs.length := by omega
  refine ⟨xs[i], u', ?_, List.getElem_mem hi, h3⟩
  rw [callU_eq K.of_]
  simp [runF, p_of, mkEnv, ctx_ufn K.draw rfl, ff_no K.draw rfl, e, hi]
theorem cut_take {α : Type} (xs : List α) (k : Nat) : cut xs none (some (k : Int)) = xs.take k := by
  have e : sIx xs.length xs.length (some (k : Int)) = min k xs.length := by
    show (if (k : Int) < 0 then ((k : Int) + xs.length).toNat else min (k : Int).toNat xs.length) = _
    rw [if_neg (by omega)]
    simp
  unfold cut
  rw [e]
  show (xs.drop 0).take (min k xs.length - 0) = _
  rw [List.drop_zero, Nat.sub_zero]
  rcases Nat.le_total k xs.length with h | h
  · rw [Nat.min_eq_left h]
  · rw [Nat.min_eq_right h, List.take_length, List.take_of_length_le h]
theorem cut_4 (ns : List Int) : cut (ns.map PyData.int) none (some 4) = (ns.take 4).map .int := by
  rw [List.map_take]; exact cut_take _ 4
theorem cut_9 (ns : List Int) : cut (ns.map PyData.int) none (some 9) = (ns.take 9).map .int := by
  rw [List.map_take]; exact cut_take _ 9
theorem c_pot {G : Prog} (K : KnPot G) (n : Nat) (ns : List Int) (lap : Int) (h0 : 0 ≤ lap) (hl : lap ≤ 100) (hn : ns.length ≤ 63) : ∃ z0 z1 z2, callU G (n + 1) "_law_pot" [.list (ns.map .int), .int lap] [] = some (.list [.int z0, .int z1, .int z2], []) ∧ PotN 0 [z0, z1, z2] := by
  have lapS : Sm 7 lap := by unfold Sm; omega
  have m0 : mulOk 4241 lap = true := mulOk_of (j := 20) (sm_lit (by decide)) lapS (by decide) (by decide)
  have m1 : mulOk 70001 lap = true := mulOk_of (j := 20) (sm_lit (by decide)) lapS (by decide) (by decide)
  obtain ⟨w, hw⟩ : ∃ w : Int, ∀ C : Ctx, evalE C (.ite (.cmp .lt (.var 1) (.bi .len (.cons (.var 0) .nil))) (.bi .int (.cons (.idx (.var 0) (.var 1)) .nil)) (.bin .add (.bin .add (.bin .mod (.bi .int (.cons (.bi .sum (.cons (.sli (.var 0) .no (.yes (.lit (.int 4)))) .nil)) .nil)) (.lit (.int 999979))) (.bin .mul (.lit (.int 70001)) (.var 1))) (.lit (.int 43)))) [.imm (.list (ns.map .int)), .imm (.int lap), .no, .no, .no] [] = some (.int w, []) := by
    by_cases hlt : lap < (ns.length : Int)
    · obtain ⟨i, rfl⟩ := Int.eq_ofNat_of_zero_le h0
      have hi : i < ns.length := by omega
      exact ⟨ns[i], fun C => by simp [hi]⟩
    · exact ⟨Int.fmod (ns.take 4).sum 999979 + 70001 * lap + 43, fun C => by
        simp only [evalE, evalEs, evalEo, getV, List.getElem?_cons_succ, List.getElem?_cons_zero, Option.bind_some, litV, sliV, cut_4, biV, intsOf_ints, Option.map_some, cmpV, binV, List.length_map, m1, if_true]
        simp [hlt]⟩
  obtain ⟨env', u', hf, seed, s4, rfl, rfl, hs⟩ := forL_inv (step := fun d env u => (bindT (.one 4) d env).bind fun env' => execSs (ctxN G n) G.ff (forBody p__law_pot.body) env' u)
    (I := fun env u => ∃ seed s4, env = [.imm (.list (ns.map .int)), .imm (.int lap), .imm (.int w), .imm (.int seed), s4] ∧ u = [] ∧ Sm 40 seed) (ds := (ns.take 9 ++ [w]).map .int) (env := [.imm (.list (ns.map .int)), .imm (.int lap), .imm (.int w), .imm (.int (31013 + 4241 * lap)), .no]) (u := [])
    (fun d hd env u ⟨seed, s4, e1, e2, hs⟩ => by
      subst e1 e2
      obtain ⟨c, _, rfl⟩ := List.mem_map.mp hd
      have m1 : mulOk seed 48271 = true := mulOk_of (k := 20) hs (sm_lit (by decide)) (by decide) (by decide)
      refine ⟨[.imm (.list (ns.map .int)), .imm (.int lap), .imm (.int w), .imm (.int (Int.fmod (seed * 48271 + Int.fmod c 2147483587 + 7) 2147483587)), .imm (.int c)], [], by simp [forBody, p__law_pot, m1], _, _, rfl, rfl, sm_fmod (by decide) (sm_lit (by decide))⟩)
    ⟨_, _, rfl, rfl, by unfold Sm at *; omega⟩
  have p18 : (10 : Int) ^ (Int.toNat 18) = 1000000000000000000 := by decide
  refine ⟨if w < 0 ∨ 1000000000000000000 ≤ w then (if w < 0 then -w else w) else 0, seed, 0, ?_, _, _, _, rfl, hs, by omega, by omega⟩
  rw [callU_eq K.pot]
  refine runF_of rfl (run_cons (env1 := [.imm (.list (ns.map .int)), .imm (.int lap), .imm (.int w), .no, .no]) (u1 := []) ?_ (run_cons (env1 := [.imm (.list (ns.map .int)), .imm (.int lap), .imm (.int w), .imm (.int (31013 + 4241 * lap)), .no]) (u1 := []) ?_ (run_cons (run_for (ds := (ns.take 9 ++ [w]).map .int) (u1 := []) ?_ ?_ hf) (run_last ?_))))
  · refine (run_set (hw _)).trans ?_
    rw [after_t within_int, slotOf_int]
    rfl
  · simp [m0]
  · simp only [evalI, evalE, evalEs, evalEo, getV, List.getElem?_cons_succ, List.getElem?_cons_zero, Option.bind_some, litV, sliV, cut_9, binV]
    rw [if_pos (show sizeOk _ = true from decide_eq_true (by simp))]
    simp only [Option.bind_some]
    rw [if_pos (show sizeOk _ = true from decide_eq_true (by simp; omega))]
    simp
  · simp; omega
  · by_cases h1 : w < 0
    · simp [h1]
    · by_cases h2 : 1000000000000000000 ≤ w
      · simp [h1, h2]
      · simp [h1, h2]
end Pl

/-! PLib17: what repr can tell, longer data; sizes of products of rows. -/
namespace Pl
open PySem (PyData Str)
structure Shx (d : D) : Prop where
  s : d.showable = true
  h : d.hasDict = false
  dep : d.depth ≤ 20
  c : cw d ≤ 200000
theorem sm_showx {k : Nat} {i : Int} (h : Sm k i) (hk : k < 1900) : i.natAbs.log2 < 1920 := by
  have := log2_lt (h.mono (Nat.le_succ k)) (Nat.succ_pos k)
  omega
theorem shx_int {k : Nat} {i : Int} (h : Sm k i) (hk : k < 1900) : Shx (.int i) := ⟨by simp [PyData.showable, sm_showx h hk], by simp [PyData.hasDict], by simp [PyData.depth], by simp [cw]⟩
theorem shx_ints {k : Nat} {xs : List Int} (h : ∀ i, Sm k (co xs i)) (hk : k < 1900) : PyData.showableAll (xs.map .int) = true ∧ PyData.hasDictAll (xs.map .int) = false ∧ PyData.depthAll (xs.map .int) ≤ 1 ∧ cwAll (xs.map .int) = 1923 * xs.length := by
  induction xs with
  | nil => exact ⟨rfl, rfl, Nat.zero_le _, rfl⟩
  | cons x xs ih =>
    obtain ⟨h1, h2, h3, h4⟩ := ih fun i => by have := h (i + 1); rwa [co_succ] at this
    have hx := h 0
    rw [co_zero] at hx
    refine ⟨by simp [PyData.showableAll, PyData.showable, sm_showx hx hk, h1], by simp [PyData.hasDictAll, PyData.hasDict, h2], ?_, ?_⟩
    · simp [PyData.depthAll, PyData.depth]; omega
    · simp [cwAll, cw, h4]; omega
theorem shx_Tz {k : Nat} {xs : List Int} (h : ∀ i, Sm k (co xs i)) (hk : k < 1900) (hl : xs.length ≤ 100) : Shx (Tz xs) := by
  obtain ⟨h1, h2, h3, h4⟩ := shx_ints h hk
  exact ⟨by simp [PyData.showable, h1], by simp [PyData.hasDict, h2], by simp [PyData.depth]; omega, by simp [cw, h4]; omega⟩
theorem shx_all : ∀ {ds : List D}, (∀ d ∈ ds, Shx d) → PyData.showableAll ds = true ∧ PyData.hasDictAll ds = false ∧ PyData.depthAll ds ≤ 20 ∧ cwAll ds ≤ 200002 * ds.length
  | [], _ => ⟨rfl, rfl, Nat.zero_le _, Nat.le_refl _⟩
  | d :: ds, h => by
    obtain ⟨h1, h2, h3, h4⟩ := shx_all fun d hd => h d (List.mem_cons_of_mem _ hd)
    have hd := h d List.mem_cons_self
    refine ⟨by simp [PyData.showableAll, hd.s, h1], by simp [PyData.hasDictAll, hd.h, h2], ?_, ?_⟩
    · simp only [PyData.depthAll]
      have := hd.dep
      omega
    · simp only [cwAll, List.length_cons]
      have := hd.c
      omega
theorem repr_x {ds : List D} (h : ∀ d ∈ ds, Shx d) (hl : ds.length ≤ 50) : PyData.showable (.list ds) = true ∧ PyData.hasDict (.list ds) = false ∧ PyData.depth (.list ds) ≤ 60 ∧ cw (.list ds) ≤ PySem.sizeLine := by
  obtain ⟨h1, h2, h3, h4⟩ := shx_all h
  refine ⟨by simp [PyData.showable, h1], by simp [PyData.hasDict, h2], ?_, ?_⟩
  · simp only [PyData.depth]; omega
  · simp only [cw, PySem.sizeLine]; omega
theorem reprx_list {ds : List D} (h : ∀ d ∈ ds, Shx d) (hl : ds.length ≤ 50) : biV .repr [.list ds] = some (.str (PyData.shown (.list ds))) := by
  obtain ⟨c1, c2, c3, c4⟩ := repr_x h hl
  simp only [biV, c1, c2, c3, c4]
  simp
theorem after_fk {ff : String → Bool} {env : Env} {e : E} {ds : List D} (h : fk ff e = true) : after ff env e (.list ds) = if noListAll ds then env else freeze env (fvE e) := by
  unfold after within
  rw [if_pos h]
@[simp] theorem after_lst {ff : String → Bool} {env : Env} {es : Es} {ds : List D} : after ff env (.lst es) (.list ds) = if noListAll ds then env else freeze env (fvE (.lst es)) := after_fk rfl
@[simp] theorem slotOf_lst {ff : String → Bool} {es : Es} {ds : List D} : slotOf ff (.lst es) (.list ds) = .own ds := slotOf_list_t rfl
theorem run_setF {C : Ctx} {ff : String → Bool} {i : Nat} {e : E} {env : Env} {u u' : U} {ds : List D} (hf : fk ff e = true) (hn : noListAll ds = true) (h : evalE C e env u = some (.list ds, u')) : execS C ff (.set i e) env u = some (.nx (env.set i (.own ds)) u') := by
  rw [run_set h, after_fk hf, hn, slotOf_ints hf]
  rfl
theorem run_setN {C : Ctx} {ff : String → Bool} {i : Nat} {e : E} {env : Env} {u u' : U} {d : D} (hl : isL d = false) (hn : noList d = true) (h : evalE C e env u = some (d, u')) : execS C ff (.set i e) env u = some (.nx (env.set i (.imm d)) u') := by
  rw [run_set h, after_t (within_nl hn), slotOf_nl hl]
/-! ### sizes -/
theorem sm_cv {k1 k2 : Nat} {a b : Nat → Int} (ha : ∀ i, Sm k1 (a i)) (hb : ∀ i, Sm k2 (b i)) (m i : Nat) : Sm (k1 + k2 + m) (cv b m a i) := by
  induction m with
  | zero => exact sm_zero
  | succ m ih =>
    have h2 : Sm (k2 + k1) (b m * (if m ≤ i then a (i - m) else 0)) := (hb m).mul (by split; exact ha _; exact sm_zero)
    exact ((ih.add h2).mono (by omega) : Sm (k1 + k2 + (m + 1)) _)
theorem cv_single (b : Nat → Int) (n : Nat) (s : Int) (i : Nat) : cv b n (co [s]) i = if i < n then b i * s else 0 := by
  induction n with
  | zero => rfl
  | succ n ih =>
    simp only [cv, ih]
    by_cases h : i < n
    · rw [if_pos h, if_neg (by omega), if_pos (by omega)]; simp
    · rw [if_neg h]
      by_cases h2 : i = n
      · subst h2
        rw [if_pos (Nat.le_refl _), if_pos (by omega), Nat.sub_self]
        simp
      · rw [if_neg (by omega : ¬ i < n + 1)]
        by_cases h3 : n ≤ i
        · rw [if_pos h3, co_ge (by simp; omega)]; simp
        · rw [if_neg h3]; simp
theorem sZ_sm {k : Nat} {xs : List Int} (h : ∀ i, Sm k (co xs i)) : ∀ i, Sm k (co (sZ xs) i) := fun i => by
  unfold sZ
  rw [co_map (by simp), co_trim]
  have h1 := h i
  have hp : (0 : Int) < ((max 1 (gN xs) : Nat) : Int) := by omega
  unfold Sm at *
  by_cases hi : i < xs.length
  · have hd : ((max 1 (gN xs) : Nat) : Int) ∣ co xs i := by
      have h2 := gN_dvd (co_mem hi)
      by_cases hg : gN xs = 0
      · rw [hg]; exact Int.one_dvd _
      · rw [Nat.max_eq_right (by omega)]
        exact Int.ofNat_dvd_left.mpr h2
    obtain ⟨q, hq⟩ := hd
    rw [hq, Int.mul_fdiv_cancel_left _ (by omega)]
    rw [hq, Int.natAbs_mul] at h1
    refine Nat.lt_of_le_of_lt ?_ h1
    exact Nat.le_mul_of_pos_left _ (by omega)
  · rw [co_ge (by omega : xs.length ≤ i)]
    simp
    exact Nat.pow_pos (by decide)
theorem sZ_len (xs : List Int) : (sZ xs).length ≤ xs.length := by
  unfold sZ
  rw [List.length_map]
  exact trim_len_le xs
theorem trim_len_eq {xs : List Int} {m : Nat} (h : co xs m ≠ 0) (h2 : ∀ i, m < i → co xs i = 0) : (trimZ xs).length = m + 1 := by
  have h3 := trim_len (xs := xs) (n := m + 1) (fun i hi => h2 i hi)
  have h4 : ¬ (trimZ xs).length ≤ m := fun q => h (by rw [← co_trim]; exact co_ge q)
  omega
end Pl

/-! PLib18: a law that asks its walk of two to four numbers. -/
namespace Pl
open PySem (PyData Str)
def p_main4 : PFun := { np := 1, ns := 2, urn := false, fresh := false, body := (.cons (.ret (.bi .all (.cons (.comp (.ncall "_law_right" (.call "_law_pot" (.cons (.var 0) (.cons (.var 1) .nil)) [0, 1]) .nil) (.one 1) (.range1 (.bi .max2 (.cons (.lit (.int 2)) (.cons (.bi .min2 (.cons (.bi .len (.cons (.var 0) .nil)) (.cons (.lit (.int 4)) .nil))) .nil)))) .no [1]) .nil))) .nil) }
theorem boolsOf_true {α : Type} (l : List α) : boolsOf (l.map fun _ => PyData.bool true) = some (l.map fun _ => true) := by
  induction l with
  | nil => rfl
  | cons x l ih => rw [List.map_cons, boolsOf, ih]; rfl
theorem l_main4 {G : Prog} (K : KnPot G) {pr : PFun} (hlaw : G.T "law" = some p_main4) (hright : G.T "_law_right" = some pr) (hu : pr.urn = true) (n : Nat) (hr : ∀ u, PotN 0 u → ∃ u', callU G (n + 1) "_law_right" [] u = some (.bool true, u')) (ns : List Int) (hn : ns.length ≤ 63) : callU G (n + 2) "law" [.list (ns.map .int)] [] = some (.bool true, []) := by
  obtain ⟨k, hk⟩ : ∃ k, k = max 2 (min ns.length 4) := ⟨_, rfl⟩
  have e1 : ∀ C u, evalI C (.range1 (.bi .max2 (.cons (.lit (.int 2)) (.cons (.bi .min2 (.cons (.bi .len (.cons (.var 0) .nil)) (.cons (.lit (.int 4)) .nil))) .nil)))) [.imm (.list (ns.map .int)), .no] u = some (rangeL 0 (k : Int), u) := fun C u => eval_rng1 (by
    have hm : (if (2 : Int) < (if (4 : Int) < (ns.length : Int) then 4 else (ns.length : Int)) then (if (4 : Int) < (ns.length : Int) then 4 else (ns.length : Int)) else 2) = (k : Int) := by
      split <;> split <;> omega
    simp [hm]) (by omega)
  have e2 := compL_map (step := fun d u => (bindT (.one 1) d (wipe [.imm (.list (ns.map .int)), .no] [1])).bind fun env' => (evalC (ctxN G (n + 1)) .no env' u).bind fun rc =>
        if rc.1 = true then (evalE (ctxN G (n + 1)) (.ncall "_law_right" (.call "_law_pot" (.cons (.var 0) (.cons (.var 1) .nil)) [0, 1]) .nil) env' rc.2).bind fun re => some (some re.1, re.2) else some (none, rc.2)) (f := fun _ => .bool true) (u := []) (ds := rangeL 0 (k : Int)) (fun d hd => by
    obtain ⟨i, hi, e⟩ := List.getElem_of_mem hd
    obtain ⟨hi2, rfl⟩ := rangeL_ix (by rw [List.getElem?_eq_getElem hi, e] : (rangeL 0 (k : Int))[i]? = some d)
    obtain ⟨z0, z1, z2, eu, pu⟩ := c_pot K n ns (i : Int) (by omega) (by omega) hn
    obtain ⟨u', er⟩ := hr _ pu
    simp [ctx_fn K.pot rfl, eu, ctx_ufn hright hu, er])
  have hcc := eval_comp (C := ctxN G (n + 1)) (e1 (ctxN G (n + 1)) []) (by rw [rangeL_leni]; omega) e2
  rw [callU_eq hlaw]
  refine runF_of rfl (run_last ?_)
  show execS _ _ (.ret (.bi .all (.cons _ .nil))) [.imm (.list (ns.map .int)), .no] _ = _
  have e3 : evalEs (ctxN G (n + 1)) (.cons (.comp (.ncall "_law_right" (.call "_law_pot" (.cons (.var 0) (.cons (.var 1) .nil)) [0, 1]) .nil) (.one 1) (.range1 (.bi .max2 (.cons (.lit (.int 2)) (.cons (.bi .min2 (.cons (.bi .len (.cons (.var 0) .nil)) (.cons (.lit (.int 4)) .nil))) .nil)))) .no [1]) .nil) [.imm (.list (ns.map .int)), .no] [] = some ([.list ((rangeL 0 (k : Int)).map fun _ => .bool true)], []) := by
    rw [evalEs, hcc]; rfl
  rw [execS, evalE, e3, Option.bind_some]
  show ((((boolsOf ((rangeL 0 (k : Int)).map fun _ => PyData.bool true)).map _).bind _)).bind _ = _
  rw [boolsOf_true]
  simp
end Pl

/-! PLib19: the worth of a row at a fraction, in plain Lean. -/
namespace Pl
open PySem (PyData Str)
theorem nv2_mul {k x y : Int} (hk : 0 < k) : nv2 (k * x) (k * y) = nv2 x y := by
  have hg : g2 (k * x) (k * y) = k * g2 x y := by rw [g2_mul]; congr 1; omega
  unfold nv2 n1 n2
  rw [hg, fdiv_mulZ hk, fdiv_mulZ hk]
theorem nv2_eq {a b c d : Int} (hb : 0 < b) (hd : 0 < d) (h : a * d = c * b) : nv2 a b = nv2 c d := by
  rw [← nv2_mul (k := d) hd, ← nv2_mul (k := b) (x := c) (y := d) hb, Int.mul_comm d a, h, Int.mul_comm c b, Int.mul_comm d b]
theorem nv2_plus {a b c d : Int} (hb : 0 < b) (hd : 0 < d) : nv2 (n1 a b * n2 c d + n1 c d * n2 a b) (n2 a b * n2 c d) = nv2 (a * d + c * b) (b * d) := by
  obtain ⟨e1, e2⟩ := n2_eq (x := a) (Int.ne_of_gt hb)
  obtain ⟨e3, e4⟩ := n2_eq (x := c) (Int.ne_of_gt hd)
  refine nv2_eq (Int.mul_pos (n2_pos hb) (n2_pos hd)) (Int.mul_pos hb hd) ?_
  generalize n1 a b = p at *
  generalize n2 a b = q at *
  generalize n1 c d = r at *
  generalize n2 c d = s at *
  generalize g2 a b = g at *
  generalize g2 c d = h at *
  subst e1 e2 e3 e4
  grind
theorem nv2_times {a b c d : Int} (hb : 0 < b) (hd : 0 < d) : nv2 (n1 a b * n1 c d) (n2 a b * n2 c d) = nv2 (a * c) (b * d) := by
  obtain ⟨e1, e2⟩ := n2_eq (x := a) (Int.ne_of_gt hb)
  obtain ⟨e3, e4⟩ := n2_eq (x := c) (Int.ne_of_gt hd)
  refine nv2_eq (Int.mul_pos (n2_pos hb) (n2_pos hd)) (Int.mul_pos hb hd) ?_
  generalize n1 a b = p at *
  generalize n2 a b = q at *
  generalize n1 c d = r at *
  generalize n2 c d = s at *
  generalize g2 a b = g at *
  generalize g2 c d = h at *
  subst e1 e2 e3 e4
  grind
/-- the row's numbers from the last one on -/
def hor (p q : Int) : List Int → Int
  | [] => 0
  | c :: xs => hor p q xs * p + c * q ^ xs.length
def HV (p q : Int) (f : Nat → Int) : Nat → Int
  | 0 => 0
  | n + 1 => q * HV p q f n + f n * p ^ n
theorem HV_ext {p q : Int} {f g : Nat → Int} : ∀ {n : Nat}, (∀ i, i < n → f i = g i) → HV p q f n = HV p q g n
  | 0, _ => rfl
  | n + 1, h => by
    rw [HV, HV, HV_ext fun i hi => h i (by omega), h n (by omega)]
theorem HV_cons (p q c : Int) (f : Nat → Int) : ∀ n, HV p q (fun i => match i with | 0 => c | i + 1 => f i) (n + 1) = HV p q f n * p + c * q ^ n
  | 0 => by simp [HV]
  | n + 1 => by
    rw [HV, HV_cons p q c f n]
    simp only [HV]
    rw [Int.pow_succ, Int.pow_succ]
    grind
theorem hor_HV (p q : Int) : ∀ xs : List Int, hor p q xs = HV p q (co xs) xs.length
  | [] => rfl
  | c :: xs => by
    rw [hor, hor_HV p q xs, List.length_cons, ← HV_cons]
    exact HV_ext fun i _ => by cases i <;> rfl
theorem HV_pad {p q : Int} {f : Nat → Int} {n : Nat} (h : ∀ i, n ≤ i → f i = 0) : ∀ k, HV p q f (n + k) = q ^ k * HV p q f n
  | 0 => by simp
  | k + 1 => by
    rw [← Nat.add_assoc, HV, HV_pad h k, h _ (by omega), Int.pow_succ]
    grind
theorem HV_add (p q : Int) (f g : Nat → Int) : ∀ n, HV p q (fun i => f i + g i) n = HV p q f n + HV p q g n
  | 0 => rfl
  | n + 1 => by
    rw [HV, HV, HV, HV_add p q f g n]
    grind
theorem HV_smul (p q c : Int) (f : Nat → Int) : ∀ n, HV p q (fun i => c * f i) n = c * HV p q f n
  | 0 => by simp [HV]
  | n + 1 => by
    rw [HV, HV, HV_smul p q c f n]
    grind
theorem HV_shift (p q : Int) (f : Nat → Int) (m : Nat) : ∀ k, HV p q (fun i => if m ≤ i then f (i - m) else 0) (m + k) = p ^ m * HV p q f k
  | 0 => by
    have : HV p q (fun i => if m ≤ i then f (i - m) else 0) m = HV p q (fun _ => 0) m := HV_ext fun i hi => if_neg (by omega)
    have z : ∀ n, HV p q (fun _ => 0) n = 0 := by
      intro n
      induction n with
      | zero => rfl
      | succ n ih => rw [HV, ih]; simp
    rw [Nat.add_zero, this, z]
    simp [HV]
  | k + 1 => by
    rw [← Nat.add_assoc, HV, HV_shift p q f m k, HV, if_pos (by omega), Nat.add_sub_cancel_left, Int.pow_add]
    grind
theorem HV_cv {p q : Int} {a b : Nat → Int} {M : Nat} (ha : ∀ i, M ≤ i → a i = 0) (n : Nat) : HV p q (cv b n a) (n + M) = q * (HV p q b n * HV p q a M) := by
  induction n with
  | zero =>
    have : HV p q (cv b 0 a) (0 + M) = HV p q (fun i => 0 * a i) (0 + M) := HV_ext fun i _ => by simp [cv]
    rw [this, HV_smul]
    simp [HV]
  | succ n ih =>
    have e1 : HV p q (cv b (n + 1) a) (n + 1 + M) = HV p q (cv b n a) (n + (M + 1)) + HV p q (fun i => b n * (if n ≤ i then a (i - n) else 0)) (n + (M + 1)) := by
      rw [show n + 1 + M = n + (M + 1) by omega, ← HV_add]
      exact HV_ext fun i _ => rfl
    have e2 : HV p q (cv b n a) (n + (M + 1)) = q * HV p q (cv b n a) (n + M) + cv b n a (n + M) * p ^ (n + M) := rfl
    have e3 : cv b n a (n + M) = 0 := by
      have : ∀ m, m ≤ n → cv b m a (n + M) = 0 := by
        intro m hm
        induction m with
        | zero => rfl
        | succ m ih2 =>
          simp only [cv, ih2 (by omega)]
          rw [if_pos (by omega), ha _ (by omega)]
          simp
      exact this n (Nat.le_refl n)
    rw [e1, e2, ih, e3, HV_smul, HV_shift]
    have e4 : HV p q a (M + 1) = q * HV p q a M := by rw [HV, ha M (Nat.le_refl M)]; simp
    rw [e4]
    simp only [HV]
    grind
theorem hor_pad {p q : Int} {xs : List Int} {N : Nat} (h : xs.length ≤ N) : HV p q (co xs) N = q ^ (N - xs.length) * hor p q xs := by
  obtain ⟨k, rfl⟩ : ∃ k, N = xs.length + k := ⟨N - xs.length, by omega⟩
  rw [HV_pad (fun i hi => co_ge hi), hor_HV, Nat.add_sub_cancel_left]
/-- the worth of a sum -/
theorem worth_sum {p q : Int} (hq : 0 < q) {xs ys zs : List Int} (h : ∀ i, co zs i = co xs i + co ys i) : nv2 (n1 (hor p q xs * q) (q ^ xs.length) * n2 (hor p q ys * q) (q ^ ys.length) + n1 (hor p q ys * q) (q ^ ys.length) * n2 (hor p q xs * q) (q ^ xs.length)) (n2 (hor p q xs * q) (q ^ xs.length) * n2 (hor p q ys * q) (q ^ ys.length)) = nv2 (hor p q zs * q) (q ^ zs.length) := by
  have pq : ∀ n, 0 < q ^ n := fun n => Int.pow_pos hq
  rw [nv2_plus (pq _) (pq _)]
  refine nv2_eq (Int.mul_pos (pq _) (pq _)) (pq _) ?_
  obtain ⟨N, h1, h2, h3⟩ : ∃ N, xs.length ≤ N ∧ ys.length ≤ N ∧ zs.length ≤ N := ⟨xs.length + ys.length + zs.length, by omega, by omega, by omega⟩
  have e : HV p q (co zs) N = HV p q (co xs) N + HV p q (co ys) N := by rw [← HV_add]; exact HV_ext fun i _ => h i
  rw [hor_pad h1, hor_pad h2, hor_pad h3] at e
  have f : ∀ {n}, n ≤ N → q ^ (N - n) * q ^ n = q ^ N := fun {n} hn => by rw [← Int.pow_add]; congr 1; omega
  have f1 := f h1
  have f2 := f h2
  have f3 := f h3
  have hN := Int.ne_of_gt (pq N)
  generalize q ^ (N - xs.length) = a' at *
  generalize q ^ (N - ys.length) = b' at *
  generalize q ^ (N - zs.length) = c' at *
  generalize q ^ xs.length = a at *
  generalize q ^ ys.length = b at *
  generalize q ^ zs.length = c at *
  generalize q ^ N = Q at *
  generalize hor p q xs = x at *
  generalize hor p q ys = y at *
  generalize hor p q zs = z at *
  refine Int.eq_of_mul_eq_mul_left hN ?_
  have s1 : Q * ((x * q * b + y * q * a) * c) = q * (x * (a' * a) * b + y * (b' * b) * a) * c := by rw [f1, f2]; grind
  have s2 : Q * (z * q * (a * b)) = q * (c' * z) * c * (a * b) := by rw [← f3]; grind
  rw [s1, s2, e]
  grind
/-- the worth of a product -/
theorem worth_prod {p q : Int} (hq : 0 < q) {xs ys zs : List Int} (h : ∀ i, co zs i = cv (co xs) xs.length (co ys) i) (hl : zs.length ≤ xs.length + ys.length) : nv2 (n1 (hor p q xs * q) (q ^ xs.length) * n1 (hor p q ys * q) (q ^ ys.length)) (n2 (hor p q xs * q) (q ^ xs.length) * n2 (hor p q ys * q) (q ^ ys.length)) = nv2 (hor p q zs * q) (q ^ zs.length) := by
  have pq : ∀ n, 0 < q ^ n := fun n => Int.pow_pos hq
  rw [nv2_times (pq _) (pq _)]
  refine nv2_eq (Int.mul_pos (pq _) (pq _)) (pq _) ?_
  have e : HV p q (co zs) (xs.length + ys.length) = q * (HV p q (co xs) xs.length * HV p q (co ys) ys.length) := by
    rw [← HV_cv (fun i hi => co_ge hi)]; exact HV_ext fun i _ => h i
  rw [hor_pad hl, ← hor_HV, ← hor_HV] at e
  have f : q ^ (xs.length + ys.length - zs.length) * q ^ zs.length = q ^ xs.length * q ^ ys.length := by rw [← Int.pow_add, ← Int.pow_add]; congr 1; omega
  generalize q ^ (xs.length + ys.length - zs.length) = c' at *
  generalize q ^ xs.length = a at *
  generalize q ^ ys.length = b at *
  generalize q ^ zs.length = c at *
  generalize hor p q xs = x at *
  generalize hor p q ys = y at *
  generalize hor p q zs = z at *
  have s1 : x * q * (y * q) * c = q * (q * (x * y)) * c := by grind
  have s2 : z * q * (a * b) = q * (c' * z) * c := by rw [← f]; grind
  rw [s1, s2, e]
end Pl

/-! PLib22: rows that divide one another up to a number; the greatest common divisor of rows is one alone. -/
namespace Pl
open PySem (PyData Str)
def ofF (n : Nat) (f : Nat → Int) : List Int := (List.range n).map f
theorem co_ofF (n : Nat) (f : Nat → Int) (i : Nat) : co (ofF n f) i = if i < n then f i else 0 := by
  unfold co ofF
  rw [List.getD_eq_getElem?_getD, List.getElem?_map]
  by_cases h : i < n
  · rw [List.getElem?_range h, if_pos h]; rfl
  · rw [List.getElem?_eq_none (by simpa using h), if_neg h]; rfl
/-- the worth of a row at a whole number -/
def ev (xs : List Int) (t : Int) : Int := hor t 1 xs
theorem one_pow' (n : Nat) : (1 : Int) ^ n = 1 := Int.one_pow
theorem ev_HV {xs : List Int} {N : Nat} (h : xs.length ≤ N) (t : Int) : ev xs t = HV t 1 (co xs) N := by
  rw [hor_pad h, one_pow']; simp [ev]
theorem ev_cons (c : Int) (xs : List Int) (t : Int) : ev (c :: xs) t = ev xs t * t + c := by
  unfold ev
  rw [hor, one_pow']; simp
theorem ev_ext {xs ys : List Int} (h : ∀ i, co xs i = co ys i) (t : Int) : ev xs t = ev ys t := by
  rw [ev_HV (N := xs.length + ys.length) (by omega), ev_HV (xs := ys) (N := xs.length + ys.length) (by omega)]
  exact HV_ext fun i _ => h i
theorem ev_add {xs ys zs : List Int} (h : ∀ i, co zs i = co xs i + co ys i) (t : Int) : ev zs t = ev xs t + ev ys t := by
  rw [ev_HV (N := xs.length + ys.length + zs.length) (by omega), ev_HV (xs := xs) (N := xs.length + ys.length + zs.length) (by omega), ev_HV (xs := ys) (N := xs.length + ys.length + zs.length) (by omega), ← HV_add]
  exact HV_ext fun i _ => h i
theorem ev_smul {c : Int} {xs zs : List Int} (h : ∀ i, co zs i = c * co xs i) (t : Int) : ev zs t = c * ev xs t := by
  rw [ev_HV (N := xs.length + zs.length) (by omega), ev_HV (xs := xs) (N := xs.length + zs.length) (by omega), ← HV_smul]
  exact HV_ext fun i _ => h i
theorem ev_cv {a b zs : List Int} (h : ∀ i, co zs i = cv (co b) b.length (co a) i) (t : Int) : ev zs t = ev b t * ev a t := by
  obtain ⟨k, hk⟩ : ∃ k, zs.length ≤ b.length + (a.length + k) := ⟨zs.length, by omega⟩
  rw [ev_HV hk, show HV t 1 (co zs) (b.length + (a.length + k)) = HV t 1 (cv (co b) b.length (co a)) (b.length + (a.length + k)) from HV_ext fun i _ => h i,
    HV_cv (M := a.length + k) (fun i hi => co_ge (by omega)), ← ev_HV (xs := b) (Nat.le_refl _), ← ev_HV (xs := a) (by omega)]
  simp
theorem ev_zero_of {N : Int} (hN : 0 ≤ N) : ∀ {xs : List Int}, (∀ t, N < t → ev xs t = 0) → ∀ i, co xs i = 0
  | [], _, _ => rfl
  | c :: xs, h, i => by
    have hc : c = 0 := by
      obtain ⟨T, hT⟩ : ∃ T, T = N + (c.natAbs : Int) + 1 := ⟨_, rfl⟩
      have h1 := h T (by omega)
      rw [ev_cons] at h1
      have hd : T ∣ c := ⟨-ev xs T, by
        generalize ev xs T = e at h1
        have : c = -(e * T) := by omega
        rw [this, Int.mul_neg, Int.mul_comm]⟩
      rcases Classical.em (c = 0) with q | q
      · exact q
      · have := Int.natAbs_dvd_natAbs.mpr hd
        have := Nat.le_of_dvd (Int.natAbs_pos.mpr q) this
        omega
    cases i with
    | zero => exact hc
    | succ i =>
      rw [co_succ]
      refine ev_zero_of hN (fun t ht => ?_) i
      have h1 := h t ht
      rw [ev_cons, hc, Int.add_zero] at h1
      rcases Int.mul_eq_zero.mp h1 with q | q
      · exact q
      · omega
theorem ev_inj {xs ys : List Int} (h : ∀ t, ev xs t = ev ys t) (i : Nat) : co xs i = co ys i := by
  have e : ∀ j, co (ofF (xs.length + ys.length) fun i => co xs i + (-1) * co ys i) j = co xs j + (-1) * co ys j := fun j => by
    rw [co_ofF]
    split
    · rfl
    · rw [co_ge (by omega : xs.length ≤ j), co_ge (by omega : ys.length ≤ j)]; rfl
  have z := ev_zero_of (N := 0) (by decide) (xs := ofF (xs.length + ys.length) fun i => co xs i + (-1) * co ys i) (fun t _ => by
    rw [ev_add (xs := xs) (ys := ofF ys.length fun i => (-1) * co ys i) (fun j => by
      rw [e, co_ofF]
      split
      · rfl
      · rw [co_ge (by omega : ys.length ≤ j)]; rfl), ev_smul (c := -1) (xs := ys) (zs := ofF ys.length fun i => (-1) * co ys i) (fun j => by
      rw [co_ofF]
      split
      · rfl
      · rw [co_ge (by omega : ys.length ≤ j)]; rfl), h t]
    omega) i
  rw [e] at z
  omega
/-- a polynomial -/
def Poly (f : Int → Int) : Prop := ∃ xs : List Int, ∀ t, f t = ev xs t
theorem Poly.row (xs : List Int) : Poly (ev xs) := ⟨xs, fun _ => rfl⟩
theorem Poly.add {f g : Int → Int} (h : Poly f) (k : Poly g) : Poly (fun t => f t + g t) := by
  obtain ⟨xs, hx⟩ := h
  obtain ⟨ys, hy⟩ := k
  refine ⟨ofF (xs.length + ys.length) fun i => co xs i + co ys i, fun t => ?_⟩
  show f t + g t = _
  rw [hx, hy, ← ev_add]
  intro i
  rw [co_ofF]
  split
  · rfl
  · rw [co_ge (by omega : xs.length ≤ i), co_ge (by omega : ys.length ≤ i)]; rfl
theorem Poly.smul {f : Int → Int} (c : Int) (h : Poly f) : Poly (fun t => c * f t) := by
  obtain ⟨xs, hx⟩ := h
  refine ⟨xs.map (c * ·), fun t => ?_⟩
  show c * f t = _
  rw [hx, ← ev_smul]
  intro i
  rw [co_map (f := (c * ·)) (Int.mul_zero c)]
theorem cv_high' {a b : Nat → Int} {la lb : Nat} (hb : ∀ i, lb ≤ i → b i = 0) (i : Nat) (h : la + lb ≤ i + 1) : cv a la b i = 0 := by
  have : ∀ m, m ≤ la → cv a m b i = 0 := by
    intro m hm
    induction m with
    | zero => rfl
    | succ m ih =>
      simp only [cv, ih (by omega)]
      split
      · rw [hb _ (by omega)]; simp
      · simp
  exact this la (Nat.le_refl _)
theorem Poly.mul {f g : Int → Int} (h : Poly f) (k : Poly g) : Poly (fun t => f t * g t) := by
  obtain ⟨xs, hx⟩ := h
  obtain ⟨ys, hy⟩ := k
  refine ⟨ofF (xs.length + ys.length) (cv (co xs) xs.length (co ys)), fun t => ?_⟩
  show f t * g t = _
  rw [hx, hy, ← ev_cv (b := xs) (a := ys)]
  intro i
  rw [co_ofF]
  split
  · rfl
  · exact (cv_high' (fun j hj => co_ge hj) i (by omega)).symm
/-- D divides a up to a number -/
def Dv (D a : List Int) : Prop := ∃ c : Int, c ≠ 0 ∧ ∃ f, Poly f ∧ ∀ t, c * ev a t = f t * ev D t
theorem Dv.refl (a : List Int) : Dv a a := ⟨1, by decide, fun _ => 1, ⟨[1], fun t => by simp [ev, hor]⟩, fun t => rfl⟩
theorem Dv.nil (D : List Int) : Dv D [] := ⟨1, by decide, fun _ => 0, ⟨[], fun t => rfl⟩, fun t => by simp [ev, hor]⟩
theorem Dv.trans {a b c : List Int} (h : Dv a b) (k : Dv b c) : Dv a c := by
  obtain ⟨x, hx, f, pf, hf⟩ := h
  obtain ⟨y, hy, g, pg, hg⟩ := k
  refine ⟨x * y, Int.mul_ne_zero hx hy, fun t => g t * f t, pg.mul pf, fun t => ?_⟩
  have h1 := hf t
  have h2 := hg t
  grind
/-- a * c = q * b + r -/
theorem Dv.rest {D a b r : List Int} {c : Int} {q : Int → Int} (pq : Poly q) (h : ∀ t, c * ev a t = q t * ev b t + ev r t) (ha : Dv D a) (hb : Dv D b) : Dv D r := by
  obtain ⟨x, hx, f, pf, hf⟩ := ha
  obtain ⟨y, hy, g, pg, hg⟩ := hb
  refine ⟨x * y, Int.mul_ne_zero hx hy, fun t => (c * y) * f t + (-x) * (q t * g t), (pf.smul _).add ((pq.mul pg).smul _), fun t => ?_⟩
  have h1 := hf t
  have h2 := hg t
  have h3 := h t
  have e : x * y * ev r t = c * y * (x * ev a t) - x * (q t * (y * ev b t)) := by grind
  rw [e, h1, h2]
  grind
theorem Dv.whole {D a b r : List Int} {c : Int} {q : Int → Int} (hc : c ≠ 0) (pq : Poly q) (h : ∀ t, c * ev a t = q t * ev b t + ev r t) (hb : Dv D b) (hr : Dv D r) : Dv D a := by
  obtain ⟨x, hx, f, pf, hf⟩ := hb
  obtain ⟨y, hy, g, pg, hg⟩ := hr
  refine ⟨c * (x * y), Int.mul_ne_zero hc (Int.mul_ne_zero hx hy), fun t => y * (q t * f t) + x * g t, ((pq.mul pf).smul _).add (pg.smul _), fun t => ?_⟩
  have h1 := hf t
  have h2 := hg t
  have h3 := h t
  have e : c * (x * y) * ev a t = x * y * (c * ev a t) := by grind
  rw [e, h3]
  have e2 : x * y * (q t * ev b t + ev r t) = y * (q t * (x * ev b t)) + x * (y * ev r t) := by grind
  rw [e2, h1, h2]
  grind
theorem Dv.scale {D a b : List Int} {c d : Int} (hc : c ≠ 0) (h : ∀ i, c * co a i = d * co b i) (hb : Dv D b) : Dv D a := by
  have hev : ∀ t, c * ev a t = d * ev b t := fun t => by
    rw [← ev_smul (zs := a.map (c * ·)) (fun i => co_map (f := (c * ·)) (Int.mul_zero c) i), ← ev_smul (zs := b.map (d * ·)) (fun i => co_map (f := (d * ·)) (Int.mul_zero d) i)]
    exact ev_ext (fun i => by rw [co_map (f := (c * ·)) (Int.mul_zero c), co_map (f := (d * ·)) (Int.mul_zero d), h]) t
  obtain ⟨x, hx, f, pf, hf⟩ := hb
  refine ⟨c * x, Int.mul_ne_zero hc hx, fun t => d * f t, pf.smul d, fun t => ?_⟩
  have h1 := hf t
  have h2 := hev t
  have e : c * x * ev a t = x * (c * ev a t) := by grind
  rw [e, h2]
  have e2 : x * (d * ev b t) = d * (x * ev b t) := by grind
  rw [e2, h1]
  grind
/-- a divisor of a row that is not nought is no longer, and of the same length only a multiple -/
theorem Dv.deg {D a : List Int} {m k : Nat} (hD : D.length = m + 1) (hD0 : co D m ≠ 0) (ha : a.length = k + 1) (ha0 : co a k ≠ 0) (h : Dv D a) : m ≤ k ∧ (m = k → ∃ c d : Int, c ≠ 0 ∧ d ≠ 0 ∧ ∀ i, c * co a i = d * co D i) := by
  obtain ⟨c, hc, f, ⟨q, hq⟩, hf⟩ := h
  obtain ⟨Q, hQ⟩ : ∃ Q, Q = trimZ q := ⟨_, rfl⟩
  have e : ∀ i, c * co a i = cv (co D) (m + 1) (co Q) i := fun i => by
    have h1 := ev_inj (xs := a.map (c * ·)) (ys := ofF (D.length + Q.length) (cv (co D) D.length (co Q))) (fun t => by
      rw [ev_smul (c := c) (xs := a) (fun j => co_map (f := (c * ·)) (Int.mul_zero c) j), hf t, hq t, ev_cv (b := D) (a := Q) (zs := ofF (D.length + Q.length) (cv (co D) D.length (co Q))) (fun j => by
        rw [co_ofF]
        split
        · rfl
        · exact (cv_high' (fun l hl => co_ge hl) j (by omega)).symm), ev_ext (xs := Q) (ys := q) (fun j => by rw [hQ, co_trim])]
      exact Int.mul_comm _ _) i
    rw [co_map (f := (c * ·)) (Int.mul_zero c), co_ofF] at h1
    by_cases hi : i < D.length + Q.length
    · rw [if_pos hi, hD] at h1; exact h1
    · rw [if_neg hi] at h1
      rw [h1, ← hD]
      exact (cv_high' (fun l hl => co_ge hl) i (by omega)).symm
  have hQ0 : Q ≠ [] := fun z => by
    have := e k
    rw [z, cv_zero (co D) (co []) (m + 1) k (fun j _ => rfl)] at this
    exact (Int.mul_ne_zero hc ha0) this
  have hl : 0 < Q.length := List.length_pos_iff.mpr hQ0
  have hlast : co Q (Q.length - 1) ≠ 0 := by rw [hQ] at hQ0 ⊢; exact trim_last q hQ0
  have top := cv_top (co D) (co Q) m (Q.length - 1) (fun j hj => co_ge (by omega))
  have hne : c * co a (Q.length - 1 + m) ≠ 0 := by rw [e, top]; exact Int.mul_ne_zero hD0 hlast
  have hle : Q.length - 1 + m < k + 1 := by
    rcases Nat.lt_or_ge (Q.length - 1 + m) (k + 1) with q | q
    · exact q
    · rw [co_ge (by omega)] at hne
      simp at hne
  refine ⟨by omega, fun hmk => ⟨c, co Q 0, hc, ?_, fun i => ?_⟩⟩
  · have : Q.length - 1 = 0 := by omega
    rw [this] at hlast
    exact hlast
  · have h1 : ∀ j, co Q j = co Q 0 * (if j = 0 then 1 else 0) := fun j => by
      by_cases hj : j = 0
      · rw [hj, if_pos rfl]; simp
      · rw [if_neg hj, co_ge (by omega)]; simp
    have h2 : cv (co D) (m + 1) (co Q) i = cv (co D) (m + 1) (fun j => co Q 0 * (if j = 0 then 1 else 0)) i := by
      congr 1
      funext j
      exact h1 j
    rw [e, h2, cv_smul, cv_one]
    by_cases hi : i < m + 1
    · rw [if_pos (by omega)]; rfl
    · rw [if_neg (by omega), co_ge (by omega : D.length ≤ i)]
/-- the greatest common divisor, shortest, its last number above 0 -/
structure IsG (G a b : List Int) : Prop where
  short : sZ G = G
  pos : G ≠ [] → 0 < co G (G.length - 1)
  l : Dv G a
  r : Dv G b
  all : ∀ D, Dv D a → Dv D b → Dv D G
theorem IsG.symm {G a b : List Int} (h : IsG G a b) : IsG G b a := ⟨h.short, h.pos, h.r, h.l, fun D h1 h2 => h.all D h2 h1⟩
theorem Dv.of_nil {a : List Int} (h : Dv [] a) (ha : a ≠ [] → 0 < co a (a.length - 1)) : a = [] := by
  obtain ⟨c, hc, f, _, hf⟩ := h
  have z := ev_inj (xs := a.map (c * ·)) (ys := []) (fun t => by
    rw [ev_smul (c := c) (xs := a) (fun j => co_map (f := (c * ·)) (Int.mul_zero c) j), hf t]
    simp [ev, hor])
  rcases Classical.em (a = []) with q | q
  · exact q
  · have := ha q
    have h1 := z (a.length - 1)
    rw [co_map (f := (c * ·)) (Int.mul_zero c), co_nil] at h1
    rcases Int.mul_eq_zero.mp h1 with p | p
    · exact absurd p hc
    · omega
theorem IsG.unique {G G' a b : List Int} (h : IsG G a b) (h' : IsG G' a b) : G = G' := by
  have d1 := h'.all G h.l h.r
  have d2 := h.all G' h'.l h'.r
  rcases Classical.em (G = []) with q | q
  · subst q
    exact (Dv.of_nil d1 h'.pos).symm
  rcases Classical.em (G' = []) with q' | q'
  · subst q'
    exact Dv.of_nil d2 h.pos
  obtain ⟨m, hm⟩ : ∃ m, G.length = m + 1 := ⟨G.length - 1, by have := List.length_pos_iff.mpr q; omega⟩
  obtain ⟨k, hk⟩ : ∃ k, G'.length = k + 1 := ⟨G'.length - 1, by have := List.length_pos_iff.mpr q'; omega⟩
  have p1 := h.pos q
  have p2 := h'.pos q'
  rw [hm, Nat.add_sub_cancel] at p1
  rw [hk, Nat.add_sub_cancel] at p2
  have D1 := d1.deg hm (by omega) hk (by omega)
  have D2 := d2.deg hk (by omega) hm (by omega)
  have hmk : m = k := by have := D1.1; have := D2.1; omega
  obtain ⟨c, d, hc, hd, e⟩ := D1.2 hmk
  subst hmk
  -- the same sign
  have es : ∀ (c d : Int), 0 < c → (∀ i, c * co G' i = d * co G i) → G = G' := fun c d hc e => by
    have hd : 0 < d := by
      have h1 := e m
      have h2 : 0 < c * co G' m := Int.mul_pos hc p2
      rw [h1] at h2
      rcases Int.lt_trichotomy d 0 with z | z | z
      · have := Int.mul_neg_of_neg_of_pos z p1
        omega
      · rw [z] at h2; simp at h2
      · exact z
    rw [← h.short, ← h'.short, ← short_mul hd G, ← short_mul hc G']
    rw [trim_ext (xs := G.map (d * ·)) (ys := G'.map (c * ·)) fun i => by rw [co_map (f := (d * ·)) (Int.mul_zero d), co_map (f := (c * ·)) (Int.mul_zero c), e]]
  rcases Int.lt_trichotomy c 0 with z | z | z
  · exact es (-c) (-d) (by omega) fun i => by have := e i; grind
  · exact absurd z hc
  · exact es c d z e
end Pl

/-! PLib23: what remains, its size told. -/
namespace Pl
open PySem (PyData Str)
section
variable {G : Prog}
theorem c_rem2 (K : KnQ G) (n : Nat) {row other : List Int} {m kr ko : Nat} (hm : other.length = m + 1) (hrl : row.length ≤ 20) (hol : m ≤ 1000) (sr : ∀ i, Sm kr (co row i)) (so : ∀ i, Sm ko (co other i)) (h0 : co other m ≠ 0) (hkr : kr < 9000) (hko : ko < 9000)
    (hz0 : kr + (row.length - m) * (ko + 1) < 8999 ∨ ∀ (l : List Int) (c : Int) (q : Nat → Int), 0 < c → (∀ i, c * co row i = cv (co other) (m + 1) q i + co l i) → (∀ i, m ≤ i → co l i = 0) → (∀ i, row.length ≤ i → q i = 0) → trimZ l = []) :
    ∃ (l : List Int) (c : Int) (q : Nat → Int), callU G (n + 3) "what_remains" [Tz row, Tz other] [] = some (Tz (shortZ (trimZ l)), []) ∧ 0 < c ∧ (∀ i, c * co row i = cv (co other) (m + 1) q i + co l i) ∧ (∀ i, m ≤ i → co l i = 0) ∧ (∀ i, row.length ≤ i → q i = 0) ∧ (∀ i, Sm (kr + (row.length - m) * (ko + 1)) (co l i)) := by
  obtain ⟨L, hL⟩ : ∃ L, L = row.length - m := ⟨_, rfl⟩
  have hL1 : L ≤ 20 := by omega
  have hL5 : L ≤ 100000 := Nat.le_trans hL1 (by decide)
  obtain ⟨a, ha⟩ : ∃ a, a = if 0 < co other m then co other m else -co other m := ⟨_, rfl⟩
  have hla : atI (other.map PyData.int) (-1) = some (.int (co other m)) := by
    have := atI_last (xs := other) (by intro z; rw [z] at hm; simp at hm)
    rwa [hm, Nat.add_sub_cancel] at this
  have habs : (if co other m < 0 then -co other m else co other m) = a := by
    rw [ha]
    by_cases h : co other m < 0
    · rw [if_pos h, if_neg (by omega)]
    · rw [if_neg h, if_pos (by omega)]
  obtain ⟨env', u', hf, l, f, c, q, s2, s5, s6, s7, s8, s9, rfl, rfl, hs2, hll, hfl, hc, hr, hz, hq, sl, sf⟩ := forL_ix (DivI row other a m L kr ko) (div_turn K (n + 1) (row := row) (other := other) (m := m) (L := L) (kr := kr) (ko := ko) (a := a) hm (by omega) (by omega) (by omega) ha so h0 (by omega) (by omega))
    (env := [.imm (Tz row), .imm (Tz other), .imm (Lz row), .imm (.int a), .own ((List.replicate L 0).map .int), .no, .no, .no, .no, .no]) (u := [])
    ⟨row, List.replicate L 0, 1, fun _ => 0, _, _, _, _, _, _, rfl, rfl, .inr rfl, rfl, by simp, by decide, fun i => by rw [cv_zero _ _ _ _ (fun _ _ => rfl)]; omega, fun i hi => co_ge (by omega), fun _ _ => rfl, fun i => (sr i).mono (by omega), fun i => by rw [co_rep]; exact sm_zero⟩
  have hlen : (rangeL 0 (L : Int)).reverse.length = L := by simp [rangeL]
  rw [hlen] at hz sl
  refine ⟨l, c, q, ?_, hc, hr, fun i hi => hz i (by omega), fun i hi => hq i (by omega), fun i => by rw [← hL]; exact sl i⟩
  have hfk2 : ∀ es e, fk G.ff (.rep es e) = true := fun _ _ => rfl
  have h1 : callU G (n + 2) "divided" [Tz row, Tz other] [] = some (.tuple [Tz (trimZ f), Tz (trimZ l)], []) := by
    rw [callU_eq K.divided]
    refine runF_of rfl (run_cons (env1 := [.imm (Tz row), .imm (Tz other), .imm (Lz row), .imm (.int a), .no, .no, .no, .no, .no, .no]) (u1 := []) ?_
      (run_cons (env1 := [.imm (Tz row), .imm (Tz other), .imm (Lz row), .imm (.int a), .own ((List.replicate L 0).map .int), .no, .no, .no, .no, .no]) (u1 := []) ?_
      (run_cons (run_for (ds := (rangeL 0 (L : Int)).reverse) (u1 := []) ?_ ?_ hf) (run_last ?_))))
    · simp [mkEnv, p_divided, hla, habs]
    · refine run_setL (hfk2 _ _) ?_
      have e1 : (if (0 : Int) < (row.length : Int) - (other.length : Int) + 1 then (row.length : Int) - (other.length : Int) + 1 else 0) = (L : Int) := by
        rw [hm]
        split <;> omega
      exact eval_rep0 (by simp [e1]) hL5
    · exact eval_rev1 (by simp) hL5
    · rw [hlen]; exact hL5
    · rcases hs2 with rfl | rfl
      · simp [ctx_fn K.trimmed rfl, c_trimmed K.toKnR n (.inl rfl : RowD (Lz f) f), c_trimmed K.toKnR n (.inl rfl : RowD (Lz l) l)]
      · simp [ctx_fn K.trimmed rfl, c_trimmed K.toKnR n (.inl rfl : RowD (Lz f) f), c_trimmed K.toKnR n (.inl rfl : RowD (Lz l) l)]
  have h2 : callU G (n + 2) "shortened" [Tz (trimZ l)] [] = some (Tz (shortZ (trimZ l)), []) := by
    rcases hz0 with hb | hb
    · exact c_shortened K.toKnR n (k := kr + L * (ko + 1)) (xs := trimZ l) (by have := trim_len_le l; omega) (sm_of_co fun i => by rw [co_trim]; exact sl i) (by rw [hL]; exact hb)
    · rw [hb l c q hc hr (fun i hi => hz i (by omega)) (fun i hi => hq i (by omega))]
      exact c_shortened K.toKnR n (k := 1) (xs := []) (by simp) (fun x hx => by simp at hx) (by decide)
  rw [callU_eq K.what_remains]
  simp [runF, p_what_remains, mkEnv, ctx_fn K.divided rfl, h1, ctx_fn K.shortened rfl, h2]
end
end Pl

/-! PLib24: one step of the common divisor's row, in plain Lean: who divides what; sizes. -/
namespace Pl
open PySem (PyData Str)
/-- l is what remains of a by b, times a number -/
structure RemS (a b l : List Int) (m : Nat) : Prop where
  len : b.length = m + 1
  lead : co b m ≠ 0
  eq : ∃ (c : Int) (q : Nat → Int) (n : Nat), 0 < c ∧ (∀ i, c * co a i = cv (co b) (m + 1) q i + co l i) ∧ ∀ i, n ≤ i → q i = 0
  low : ∀ i, m ≤ i → co l i = 0
theorem RemS.poly {a b l : List Int} {m : Nat} (h : RemS a b l m) : ∃ (c : Int) (q : Int → Int), 0 < c ∧ Poly q ∧ ∀ t, c * ev a t = q t * ev b t + ev l t := by
  obtain ⟨c, q, n, hc, e, hq⟩ := h.eq
  have cq : ∀ i, co (ofF n q) i = q i := fun i => by
    rw [co_ofF]
    split
    · rfl
    · rw [hq i (by omega)]
  refine ⟨c, ev (ofF n q), hc, Poly.row _, fun t => ?_⟩
  obtain ⟨zs, hz⟩ : ∃ zs : List Int, ∀ i, co zs i = cv (co b) b.length (co (ofF n q)) i := ⟨ofF (b.length + n) (cv (co b) b.length (co (ofF n q))), fun i => by
    rw [co_ofF]
    split
    · rfl
    · exact (cv_high' (fun l hl => by rw [cq, hq l hl]) i (by omega)).symm⟩
  have e1 : ev (a.map (c * ·)) t = c * ev a t := ev_smul (fun i => co_map (f := (c * ·)) (Int.mul_zero c) i) t
  have e2 : ev zs t = ev b t * ev (ofF n q) t := ev_cv hz t
  have e3 : ev (a.map (c * ·)) t = ev zs t + ev l t := ev_add (fun i => by
    rw [co_map (f := (c * ·)) (Int.mul_zero c), hz, h.len, e]
    have : cv (co b) (m + 1) q i = cv (co b) (m + 1) (co (ofF n q)) i := by
      congr 1
      funext j
      exact (cq j).symm
    rw [this]) t
  rw [← e1, e3, e2, Int.mul_comm]
/-- the same rows divide a and b, and b and the rest -/
theorem RemS.dv {a b l : List Int} {m : Nat} (h : RemS a b l m) (D : List Int) : (Dv D a ∧ Dv D b) ↔ (Dv D b ∧ Dv D l) := by
  obtain ⟨c, q, hc, pq, e⟩ := h.poly
  exact ⟨fun ⟨h1, h2⟩ => ⟨h2, Dv.rest pq e h1 h2⟩, fun ⟨h1, h2⟩ => ⟨Dv.whole (by omega) pq e h1 h2, h1⟩⟩
/-- rows up to a number above 0 -/
def Up (a b : List Int) : Prop := ∃ c d : Int, 0 < c ∧ 0 < d ∧ ∀ i, c * co a i = d * co b i
theorem Up.sZ {a b : List Int} (h : Up a b) : sZ a = sZ b := by
  obtain ⟨c, d, hc, hd, e⟩ := h
  rw [← short_mul hc a, ← short_mul hd b, trim_ext (xs := a.map (c * ·)) (ys := b.map (d * ·)) fun i => by rw [co_map (f := (c * ·)) (Int.mul_zero c), co_map (f := (d * ·)) (Int.mul_zero d), e]]
theorem up_sZ (a : List Int) : Up (sZ a) a := by
  refine ⟨((max 1 (gN a) : Nat) : Int), 1, by omega, by decide, fun i => ?_⟩
  unfold sZ
  rw [co_map (by simp), co_trim, Int.one_mul]
  by_cases hi : i < a.length
  · have hd : ((max 1 (gN a) : Nat) : Int) ∣ co a i := by
      have h2 := gN_dvd (co_mem hi)
      by_cases hg : gN a = 0
      · rw [hg]; exact Int.one_dvd _
      · rw [Nat.max_eq_right (by omega)]
        exact Int.ofNat_dvd_left.mpr h2
    exact Int.mul_fdiv_cancel' hd
  · rw [co_ge (by omega)]; simp
theorem Up.dv {a b : List Int} (h : Up a b) (D : List Int) : Dv D a ↔ Dv D b := by
  obtain ⟨c, d, hc, hd, e⟩ := h
  exact ⟨fun q => Dv.scale (by omega) (fun i => (e i).symm) q, fun q => Dv.scale (by omega) e q⟩
theorem Up.refl (a : List Int) : Up a a := ⟨1, 1, by decide, by decide, fun _ => rfl⟩
theorem Up.symm {a b : List Int} (h : Up a b) : Up b a := by
  obtain ⟨c, d, hc, hd, e⟩ := h
  exact ⟨d, c, hd, hc, fun i => (e i).symm⟩
/-- what remains is one up to a number -/
theorem RemS.unique {a a' b b' l l' : List Int} {m m' : Nat} (h : RemS a b l m) (h' : RemS a' b' l' m') (ua : Up a a') (ub : Up b b') (hm : m = m') : Up l l' := by
  subst hm
  obtain ⟨c, q, n, hc, e, hq⟩ := h.eq
  obtain ⟨c', q', n', hc', e', hq'⟩ := h'.eq
  obtain ⟨x, y, hx, hy, ea⟩ := ua
  obtain ⟨z, w, hz, hw, eb⟩ := ub
  -- z b = w b', x a = y a'
  have eb' : ∀ (f : Nat → Int) i, w * cv (co b') (m + 1) f i = z * cv (co b) (m + 1) f i := by
    intro f i
    have : ∀ k, w * cv (co b') k f i = z * cv (co b) k f i := by
      intro k
      induction k with
      | zero => simp [cv]
      | succ k ih =>
        simp only [cv]
        have := eb k
        generalize (if k ≤ i then f (i - k) else 0) = g
        grind
    exact this (m + 1)
  -- c' y w (c a x) = c c' ...
  have key := left_unique (b := co b) (q := fun j => (c' * x * c') * 0 + (c' * w * y) * 0 + 0 * q j) (T := fun j => 0 * q' j) (R := fun _ => 0) (S := fun _ => 0) (m := m) (n := max n n') h.lead (fun j _ => by simp) (fun j _ => by simp) (fun _ _ => rfl) (fun _ _ => rfl) (fun i => by
    rw [cv_zero _ _ _ _ (fun j _ => by simp), cv_zero _ _ _ _ (fun j _ => by simp)])
  have u := left_unique (b := co b) (q := fun j => (c' * w * x) * q j) (T := fun j => (c * z * y) * q' j) (R := fun i => (c' * w * x) * co l i) (S := fun i => (c * w * y) * co l' i) (m := m) (n := max n n') h.lead
    (fun j hj => by simp only [hq j (by omega), Int.mul_zero]) (fun j hj => by simp only [hq' j (by omega), Int.mul_zero]) (fun i hi => by simp only [h.low i hi, Int.mul_zero]) (fun i hi => by simp only [h'.low i hi, Int.mul_zero]) (fun i => by
      rw [cv_smul, cv_smul]
      have h1 := e i
      have h2 := e' i
      have h3 := ea i
      have h4 := eb' q' i
      generalize cv (co b) (m + 1) q i = A at *
      generalize cv (co b') (m + 1) q' i = B at *
      generalize cv (co b) (m + 1) q' i = B' at *
      -- c a = A + l; c' a' = B + l'; x a = y a'; w B = z B'
      have s1 : c' * w * x * A + c' * w * x * co l i = c' * w * x * (c * co a i) := by rw [h1]; grind
      have s2 : c * z * y * B' + c * w * y * co l' i = c * w * y * (c' * co a' i) := by
        rw [h2]
        have : c * z * y * B' = c * y * (z * B') := by grind
        rw [this, ← h4]
        grind
      rw [s1, s2]
      have : c' * w * x * (c * co a i) = c' * w * c * (x * co a i) := by grind
      rw [this, h3]
      grind)
  exact ⟨c' * w * x, c * w * y, Int.mul_pos (Int.mul_pos hc' hw) hx, Int.mul_pos (Int.mul_pos hc hw) hy, u⟩
end Pl

/-! PLib25: the law's own rest of a division of rows. -/
namespace Pl
open PySem (PyData Str)
structure KnRest (G : Prog) : Prop extends KnO G where
  rest : G.T "_law_rest" = some p__law_rest
/-- r is one less a multiple of two, both times a number -/
def PreR (one two r : List Int) (m : Nat) : Prop := ∃ (c d : Int) (q : Nat → Int) (n : Nat), 0 < c ∧ 0 < d ∧ (∀ i, c * co one i = cv (co two) (m + 1) q i + d * co r i) ∧ ∀ i, n ≤ i → q i = 0
theorem PreR.rem {one two r : List Int} {m : Nat} (h : PreR one two r m) (hl : two.length = m + 1) (h0 : co two m ≠ 0) (hr : ∀ i, m ≤ i → co r i = 0) : ∃ l, RemS one two l m ∧ Up r l := by
  obtain ⟨c, d, q, n, hc, hd, e, hq⟩ := h
  refine ⟨r.map (d * ·), ⟨hl, h0, ⟨c, q, n, hc, fun i => by rw [co_map (f := (d * ·)) (Int.mul_zero d), e], hq⟩, fun i hi => by rw [co_map (f := (d * ·)) (Int.mul_zero d), hr i hi]; simp⟩, d, 1, hd, by decide, fun i => by rw [co_map (f := (d * ·)) (Int.mul_zero d)]; simp⟩
theorem PreR.step {one two r x : List Int} {m s : Nat} {t : Int} (h : PreR one two r m) (ht : t ≠ 0) {lead : Int} (hx : ∀ i, co x i = co r i * t * t - (if s ≤ i ∧ i - s < m + 1 then lead * co two (i - s) else 0)) : PreR one two (sZ x) m := by
  obtain ⟨c, d, q, n, hc, hd, e, hq⟩ := h
  obtain ⟨g, g', hg, hg', eg⟩ := up_sZ x
  have tp : 0 < t * t := by
    rcases Int.lt_trichotomy t 0 with z | z | z
    · exact Int.mul_pos_of_neg_of_neg z z
    · exact absurd z ht
    · exact Int.mul_pos z z
  refine ⟨c * (t * t) * g', d * g, fun j => (t * t * g') * q j + (d * lead * g') * (if j = s then 1 else 0), max n (s + 1), Int.mul_pos (Int.mul_pos hc tp) hg', Int.mul_pos hd hg, fun i => ?_, fun i hi => ?_⟩
  · rw [cv_add, cv_smul, cv_one]
    have h1 := e i
    have h2 := eg i
    have h3 := hx i
    have s1 : d * g * co (sZ x) i = d * (g' * co x i) := by rw [← h2]; grind
    rw [s1, h3]
    have s2 : c * (t * t) * g' * co one i = t * t * g' * (c * co one i) := by grind
    rw [s2, h1]
    split <;> grind
  · show t * t * g' * q i + d * lead * g' * (if i = s then 1 else 0) = 0
    rw [hq i (by omega), if_neg (by omega)]
    simp
theorem sZ_sZ (xs : List Int) : sZ (sZ xs) = sZ xs := Up.sZ (up_sZ xs)
theorem sZ_last (xs : List Int) : sZ xs ≠ [] → co (sZ xs) ((sZ xs).length - 1) ≠ 0 := fun h => by
  have h1 : trimZ xs ≠ [] := fun z => h (by unfold sZ; rw [z]; rfl)
  have h2 := trim_last xs h1
  have hl : (sZ xs).length = (trimZ xs).length := by unfold sZ; rw [List.length_map]
  rw [hl]
  obtain ⟨c, d, hc, hd, e⟩ := up_sZ xs
  intro z
  have := e ((trimZ xs).length - 1)
  rw [z, Int.mul_zero] at this
  rw [co_trim] at h2
  rcases Int.mul_eq_zero.mp this.symm with q | q
  · omega
  · exact h2 q
section
variable {G : Prog} (K : KnRest G)
include K
theorem l_rest_turn (n : Nat) {one two r : List Int} {m : Nat} {k ko : Nat} {s4 s5 s6 : Slot} (hm : two.length = m + 1) (hr : m < r.length) (hl : r.length ≤ 100) (sr : ∀ i, Sm k (co r i)) (so : ∀ i, Sm ko (co two i)) (hk : k < 9000) (hko : ko < 9000)
    {x : List Int} (hx : x = ofF r.length fun i => co r i * co two m * co two m - (if r.length - (m + 1) ≤ i ∧ i - (r.length - (m + 1)) < m + 1 then (co r (r.length - 1) * co two m) * co two (i - (r.length - (m + 1))) else 0)) {kx : Nat} (sx : ∀ i, Sm kx (co x i)) (hkx : kx < 8999) :
    ∃ s4' s5' s6', execSs (ctxN G (n + 2)) G.ff (.cons (.unp [.nm 4, .nm 5] (.tup (.cons (.bin .mul (.idx (.var 2) (.neg (.lit (.int 1)))) (.var 3)) (.cons (.bin .sub (.bi .len (.cons (.var 2) .nil)) (.bi .len (.cons (.var 1) .nil))) .nil)))) (.cons (.set 6 (.bin .add (.comp (.lit (.int 0)) (.one 7) (.range1 (.var 5)) .no [7]) (.comp (.bin .mul (.var 4) (.var 8)) (.one 8) (.seq (.var 1)) .no [8]))) (.cons (.set 2 (.call "_law_short" (.cons (.comp (.bin .sub (.bin .mul (.bin .mul (.idx (.var 2) (.var 9)) (.var 3)) (.var 3)) (.idx (.var 6) (.var 9))) (.one 9) (.range1 (.bi .len (.cons (.var 2) .nil))) .no [9]) .nil) [0])) .nil)))
      [.imm (Tz one), .imm (Tz two), .imm (Tz r), .imm (.int (co two m)), s4, s5, s6, .no, .no, .no] [] = some (.nx [.imm (Tz one), .imm (Tz two), .imm (Tz (sZ x)), .imm (.int (co two m)), s4', s5', s6', .no, .no, .no] []) := by
  obtain ⟨S, hS⟩ : ∃ S, S = r.length - (m + 1) := ⟨_, rfl⟩
  obtain ⟨t, ht⟩ : ∃ t, t = co two m := ⟨_, rfl⟩
  obtain ⟨lead, hlead⟩ : ∃ t', t' = co r (r.length - 1) * t := ⟨_, rfl⟩
  rw [← hS, ← ht, ← hlead] at hx
  rw [← ht]
  have st : Sm ko t := by rw [ht]; exact so m
  have sl : Sm (k + ko) lead := by rw [hlead]; exact (sr _).mul st
  have m1 : mulOk (co r (r.length - 1)) t = true := mulOk_of (sr _) st (by omega) (by omega)
  have hrl : atI (r.map PyData.int) (-1) = some (.int (co r (r.length - 1))) := atI_last (by intro z; rw [z] at hr; simp at hr)
  obtain ⟨less, hless⟩ : ∃ l, l = List.replicate S (0 : Int) ++ two.map (lead * ·) := ⟨_, rfl⟩
  have lless : less.length = r.length := by rw [hless]; simp; omega
  have cless : ∀ i, co less i = if S ≤ i ∧ i - S < m + 1 then lead * co two (i - S) else 0 := fun i => by
    unfold co
    rw [List.getD_eq_getElem?_getD, hless, List.getElem?_append, List.length_replicate]
    by_cases hi : i < S
    · rw [if_pos hi, if_neg (by omega), List.getElem?_replicate]
      split <;> rfl
    · rw [if_neg hi, List.getElem?_map]
      by_cases h2 : i - S < m + 1
      · rw [if_pos ⟨by omega, h2⟩, co_get (by omega)]
        rfl
      · rw [if_neg (by omega), List.getElem?_eq_none (by omega)]
        rfl
  have E : Env := []
  obtain ⟨E1, hE1⟩ : ∃ E1 : Env, E1 = [.imm (Tz one), .imm (Tz two), .imm (Tz r), .imm (.int t), .imm (.int lead), .imm (.int (S : Int)), s6, .no, .no, .no] := ⟨_, rfl⟩
  obtain ⟨E2, hE2⟩ : ∃ E2 : Env, E2 = [.imm (Tz one), .imm (Tz two), .imm (Tz r), .imm (.int t), .imm (.int lead), .imm (.int (S : Int)), .own (less.map .int), .no, .no, .no] := ⟨_, rfl⟩
  have c1 := compL_map (step := fun d u => (bindT (.one 7) d (wipe E1 [7])).bind fun env' => (evalC (ctxN G (n + 2)) .no env' u).bind fun rc =>
        if rc.1 = true then (evalE (ctxN G (n + 2)) (.lit (.int 0)) env' rc.2).bind fun re => some (some re.1, re.2) else some (none, rc.2)) (f := fun _ => .int 0) (u := []) (ds := rangeL 0 (S : Int)) (fun d hd => by simp)
  rw [rangeL_zero] at c1
  have z1 := eval_comp (C := ctxN G (n + 2)) (it := .range1 (.var 5)) (u := []) (u1 := []) (ds := rangeL 0 (S : Int)) (eval_rng1 (by rw [hE1]; simp) (by omega)) (by rw [rangeL_leni]; omega) c1
  have c2 : compL (fun d u => (bindT (.one 8) d (wipe E1 [8])).bind fun env' => (evalC (ctxN G (n + 2)) .no env' u).bind fun rc =>
        if rc.1 = true then (evalE (ctxN G (n + 2)) (.bin .mul (.var 4) (.var 8)) env' rc.2).bind fun re => some (some re.1, re.2) else some (none, rc.2)) (two.map .int) [] = some ((two.map (lead * ·)).map .int, []) :=
    compL_ints fun y hy => by
      have mo : mulOk lead y = true := mulOk_of sl (by
        obtain ⟨p, hp, e⟩ := List.getElem_of_mem hy
        have := so p
        rwa [co_of (by rw [List.getElem?_eq_getElem hp, e] : two[p]? = some y)] at this) (by omega) (by omega)
      rw [hE1]
      simp [mo]
  have z2 := eval_comp (C := ctxN G (n + 2)) (it := .seq (.var 1)) (u := []) (u1 := []) (ds := two.map .int) (by rw [hE1]; simp) (by simp; omega) c2
  have z3 : evalE (ctxN G (n + 2)) (.bin .add (.comp (.lit (.int 0)) (.one 7) (.range1 (.var 5)) .no [7]) (.comp (.bin .mul (.var 4) (.var 8)) (.one 8) (.seq (.var 1)) .no [8])) E1 [] = some (.list (less.map .int), []) := by
    rw [evalE, z1, Option.bind_some, z2, Option.bind_some]
    show ((if sizeOk (((List.replicate S (0 : Int)).map PyData.int).length + ((two.map (lead * ·)).map PyData.int).length) = true then some _ else none).bind _) = _
    rw [if_pos (show sizeOk _ = true from decide_eq_true (by simp; omega)), hless, List.map_append]
    rfl
  have sl2 : ∀ i, Sm (k + ko + ko) (co less i) := fun i => by
    rw [cless]
    split
    · exact sl.mul (so _)
    · exact sm_zero
  have c3 := compL_map (step := fun d u => (bindT (.one 9) d (wipe E2 [9])).bind fun env' => (evalC (ctxN G (n + 2)) .no env' u).bind fun rc =>
        if rc.1 = true then (evalE (ctxN G (n + 2)) (.bin .sub (.bin .mul (.bin .mul (.idx (.var 2) (.var 9)) (.var 3)) (.var 3)) (.idx (.var 6) (.var 9))) env' rc.2).bind fun re => some (some re.1, re.2) else some (none, rc.2)) (f := fun d => match d with | .int i => .int (co r i.toNat * t * t - co less i.toNat) | d => d) (u := []) (ds := rangeL 0 (r.length : Int)) (fun d hd => by
    obtain ⟨i, hi, e⟩ := List.getElem_of_mem hd
    obtain ⟨hi2, rfl⟩ := rangeL_ix (by rw [List.getElem?_eq_getElem hi, e] : (rangeL 0 (r.length : Int))[i]? = some d)
    have a1 : atI (r.map PyData.int) (i : Int) = some (.int (co r i)) := by rw [atI_co (by omega) (by omega)]; rfl
    have a2 : atI (less.map PyData.int) (i : Int) = some (.int (co less i)) := by rw [atI_co (by omega) (by omega)]; rfl
    have mo1 : mulOk (co r i) t = true := mulOk_of (sr i) st (by omega) (by omega)
    have mo2 : mulOk (co r i * t) t = true := mulOk_of ((sr i).mul st) st (by omega) (by omega)
    rw [hE2]
    simp [a1, a2, mo1, mo2])
  have em : (rangeL 0 (r.length : Int)).map (fun d => match d with | .int i => PyData.int (co r i.toNat * t * t - co less i.toNat) | d => d) = x.map .int := by
    rw [hx]
    unfold rangeL ofF
    rw [List.map_map, List.map_map, show ((r.length : Int) - 0).toNat = r.length by omega]
    refine List.map_congr_left fun i _ => ?_
    simp only [Function.comp_apply, Int.zero_add, Int.toNat_natCast, cless]
  rw [em] at c3
  have z4 := eval_comp (C := ctxN G (n + 2)) (it := .range1 (.bi .len (.cons (.var 2) .nil))) (u := []) (u1 := []) (ds := rangeL 0 (r.length : Int)) (eval_rng1 (by rw [hE2]; simp) (by omega)) (by rw [rangeL_leni]; omega) c3
  have z5 := l_short K.toKnO n (k := kx) (.inl rfl : RowD (Lz x) x) (by rw [hx]; unfold ofF; simp; omega) (sm_of_co sx) hkx
  have hfk : ∀ a b, fk G.ff (.bin .add a b) = true := fun _ _ => rfl
  refine ⟨.imm (.int lead), .imm (.int S), .own (less.map .int), run_cons (env1 := E1) (u1 := []) ?_ (run_cons (env1 := E2) (u1 := []) ((run_setL (hfk _ _) z3).trans (by rw [hE1, hE2]; rfl)) (run_cons (env1 := [.imm (Tz one), .imm (Tz two), .imm (Tz (sZ x)), .imm (.int t), .imm (.int lead), .imm (.int S), .own (less.map .int), .no, .no, .no]) (u1 := []) ((run_setN (d := Tz (sZ x)) rfl (by simp) ?_).trans (by rw [hE2]; rfl)) rfl))⟩
  · have hs : (r.length : Int) - (two.length : Int) = (S : Int) := by omega
    rw [hE1]
    simp [hrl, m1, ← hlead, hs]
  · rw [evalE, evalEs, z4, Option.bind_some]
    simp only [evalEs, Option.bind_some, pick, List.getElem?_cons_zero]
    simp [ctx_fn K.short rfl, z5]
/-- the law's rest is the shortest row of what remains -/
theorem l_rest (n : Nat) {one two : List Int} {m ka ko : Nat} (hm : two.length = m + 1) (h0 : co two m ≠ 0) (hl : one.length ≤ 100) (sa : ∀ i, Sm ka (co one i)) (so : ∀ i, Sm ko (co two i)) (hka : ka < 8999) (hko : ko < 9000)
    (hz : ka + (one.length - m) * (2 * ko + 2) < 8999 ∨ (ka + (one.length - m - 1) * (2 * ko + 2) < 8999 ∧ ∀ l, RemS one two l m → ∀ i, co l i = 0)) :
    ∃ r l : List Int, callU G (n + 3) "_law_rest" [Tz one, Tz two] [] = some (Tz r, []) ∧ RemS one two l m ∧ r = sZ l := by
  have hla : atI (two.map PyData.int) (-1) = some (.int (co two m)) := by
    have := atI_last (xs := two) (by intro z; rw [z] at hm; simp at hm)
    rwa [hm, Nat.add_sub_cancel] at this
  have e1 := l_short K.toKnO n (k := ka) (.inr rfl : RowD (Tz one) one) (by omega) (sm_of_co sa) hka
  obtain ⟨o, ho, r, s4, s5, s6, rfl, hr1, hr2, hr3⟩ := whileO_ix (step := fun (q : Env × U) => (evalE (ctxN G (n + 2)) (.cmp .ge (.bi .len (.cons (.var 2) .nil)) (.bi .len (.cons (.var 1) .nil))) q.1 q.2).bind fun rc => match rc with
    | (.bool k, u1) => if k = true then (execSs (ctxN G (n + 2)) G.ff (.cons (.unp [.nm 4, .nm 5] (.tup (.cons (.bin .mul (.idx (.var 2) (.neg (.lit (.int 1)))) (.var 3)) (.cons (.bin .sub (.bi .len (.cons (.var 2) .nil)) (.bi .len (.cons (.var 1) .nil))) .nil)))) (.cons (.set 6 (.bin .add (.comp (.lit (.int 0)) (.one 7) (.range1 (.var 5)) .no [7]) (.comp (.bin .mul (.var 4) (.var 8)) (.one 8) (.seq (.var 1)) .no [8]))) (.cons (.set 2 (.call "_law_short" (.cons (.comp (.bin .sub (.bin .mul (.bin .mul (.idx (.var 2) (.var 9)) (.var 3)) (.var 3)) (.idx (.var 6) (.var 9))) (.one 9) (.range1 (.bi .len (.cons (.var 2) .nil))) .no [9]) .nil) [0])) .nil))) q.1 u1).bind fun o => (match o with
        | .nx env' u' => some (.inl (env', u'))
        | .ct env' u' => some (.inl (env', u'))
        | .bk env' u' => some (.inr (O.nx env' u'))
        | .rt d u' => some (.inr (O.rt d u'))) else some (.inr (O.nx q.1 u1))
    | _ => none)
    (fun M q => ∃ (r : List Int) (s4 s5 s6 : Slot) (j : Nat), q = ([.imm (Tz one), .imm (Tz two), .imm (Tz r), .imm (.int (co two m)), s4, s5, s6, .no, .no, .no], []) ∧ r.length = M ∧ r.length + j ≤ one.length ∧ sZ r = r ∧ PreR one two r m ∧ ∀ i, Sm (ka + j * (2 * ko + 2)) (co r i))
    (P := fun o => ∃ (r : List Int) (s4 s5 s6 : Slot), o = O.nx [.imm (Tz one), .imm (Tz two), .imm (Tz r), .imm (.int (co two m)), s4, s5, s6, .no, .no, .no] [] ∧ r.length ≤ m ∧ sZ r = r ∧ PreR one two r m)
    (fun M q ⟨r, s4, s5, s6, j, e, hM, hj, hs, hp, sr⟩ => by
      subst e
      by_cases hc : r.length ≤ m
      · left
        have h1 : ¬ (two.length : Int) ≤ (r.length : Int) := by omega
        refine ⟨O.nx [.imm (Tz one), .imm (Tz two), .imm (Tz r), .imm (.int (co two m)), s4, s5, s6, .no, .no, .no] [], ?_, r, s4, s5, s6, rfl, hc, hs, hp⟩
        have h2 : ¬ two.length ≤ r.length := by omega
        simp [h2]
      · right
        obtain ⟨x, hx⟩ : ∃ x, x = ofF r.length fun i => co r i * co two m * co two m - (if r.length - (m + 1) ≤ i ∧ i - (r.length - (m + 1)) < m + 1 then (co r (r.length - 1) * co two m) * co two (i - (r.length - (m + 1))) else 0) := ⟨_, rfl⟩
        have cx : ∀ i, co x i = co r i * co two m * co two m - (if r.length - (m + 1) ≤ i ∧ i - (r.length - (m + 1)) < m + 1 then (co r (r.length - 1) * co two m) * co two (i - (r.length - (m + 1))) else 0) := fun i => by
          rw [hx, co_ofF]
          by_cases hi : i < r.length
          · rw [if_pos hi]
          · rw [if_neg hi, co_ge (by omega : r.length ≤ i), if_neg (by omega)]; simp
        have xl : ∀ i, r.length - 1 ≤ i → co x i = 0 := fun i hi => by
          rw [cx]
          by_cases h : i = r.length - 1
          · rw [if_pos (by omega), h, show r.length - 1 - (r.length - (m + 1)) = m by omega]
            grind
          · rw [co_ge (by omega : r.length ≤ i), if_neg (by omega)]; simp
        have hsl : (sZ x).length ≤ r.length - 1 := by
          have : (sZ x).length = (trimZ x).length := by unfold sZ; rw [List.length_map]
          rw [this]
          exact trim_len xl
        have pre := hp.step (x := x) h0 cx
        have sx0 : ∀ i, Sm (ka + j * (2 * ko + 2) + (2 * ko + 2)) (co x i) := fun i => by
          rw [cx]
          have q1 := ((sr i).mul (so m)).mul (so m)
          have q2 : Sm (ka + j * (2 * ko + 2) + ko + ko) (if r.length - (m + 1) ≤ i ∧ i - (r.length - (m + 1)) < m + 1 then (co r (r.length - 1) * co two m) * co two (i - (r.length - (m + 1))) else 0) := by
            split
            · exact ((sr _).mul (so m)).mul (so _)
            · exact sm_zero
          exact (q1.sub q2).mono (by omega)
        -- the size of the new row
        have hb : ∃ kx, kx < 8999 ∧ ∀ i, Sm kx (co x i) := by
          by_cases hz1 : ∀ i, co x i = 0
          · exact ⟨1, by decide, fun i => by rw [hz1 i]; exact sm_zero⟩
          · refine ⟨ka + j * (2 * ko + 2) + (2 * ko + 2), ?_, sx0⟩
            have ej : ka + j * (2 * ko + 2) + (2 * ko + 2) = ka + (j + 1) * (2 * ko + 2) := by rw [Nat.add_mul]; omega
            rw [ej]
            rcases hz with hz | ⟨hz, hz2⟩
            · have := Nat.mul_le_mul_right (2 * ko + 2) (show j + 1 ≤ one.length - m by omega)
              omega
            · by_cases hj2 : j + 1 ≤ one.length - m - 1
              · have := Nat.mul_le_mul_right (2 * ko + 2) hj2
                omega
              · -- the last one: nothing remains
                exfalso
                obtain ⟨l, hl1, hl2⟩ := pre.rem hm h0 (fun i hi => co_ge (by omega))
                have z := hz2 l hl1
                obtain ⟨c, d, hc', hd', e'⟩ := hl2
                obtain ⟨g, g', hg, hg', eg⟩ := up_sZ x
                refine hz1 fun i => ?_
                have h1 := e' i
                rw [z i, Int.mul_zero] at h1
                have h2 : co (sZ x) i = 0 := by
                  rcases Int.mul_eq_zero.mp h1 with q | q
                  · omega
                  · exact q
                have h3 := eg i
                rw [h2, Int.mul_zero] at h3
                rcases Int.mul_eq_zero.mp h3.symm with q | q
                · omega
                · exact q
        obtain ⟨kx, hkx, sx⟩ := hb
        have hkj : ka + j * (2 * ko + 2) < 9000 := by
          rcases hz with hz | ⟨hz, _⟩
          · have := Nat.mul_le_mul_right (2 * ko + 2) (show j ≤ one.length - m by omega)
            omega
          · have := Nat.mul_le_mul_right (2 * ko + 2) (show j ≤ one.length - m - 1 by omega)
            omega
        obtain ⟨s4', s5', s6', et⟩ := l_rest_turn K n (one := one) (two := two) (r := r) (s4 := s4) (s5 := s5) (s6 := s6) hm (by omega) (by omega) sr so hkj hko hx sx hkx
        refine ⟨([.imm (Tz one), .imm (Tz two), .imm (Tz (sZ x)), .imm (.int (co two m)), s4', s5', s6', .no, .no, .no], []), (sZ x).length, by omega, ?_, sZ x, s4', s5', s6', j + 1, rfl, rfl, by omega, sZ_sZ x, pre, fun i => ?_⟩
        · have h1 : two.length ≤ r.length := by omega
          simp only [evalE, evalEs, getV, List.getElem?_cons_succ, List.getElem?_cons_zero, Option.bind_some, biV, cmpV, List.length_map]
          rw [decide_eq_true (show (two.length : Int) ≤ (r.length : Int) by omega)]
          rw [if_pos rfl, et]
          rfl
        · have := sZ_sm sx0 i
          rw [show ka + (j + 1) * (2 * ko + 2) = ka + j * (2 * ko + 2) + (2 * ko + 2) by rw [Nat.add_mul]; omega]
          exact this) (sZ one).length ([.imm (Tz one), .imm (Tz two), .imm (Tz (sZ one)), .imm (.int (co two m)), .no, .no, .no, .no, .no, .no], [])
    ⟨sZ one, .no, .no, .no, 0, rfl, rfl, by have := sZ_len one; omega, sZ_sZ one, by
      obtain ⟨c, d, hc, hd, e⟩ := up_sZ one
      exact ⟨d, c, fun _ => 0, 0, hd, hc, fun i => by rw [cv_zero _ _ _ _ (fun _ _ => rfl), ← e i]; omega, fun _ _ => rfl⟩, fun i => (sZ_sm sa i).mono (by omega)⟩
  obtain ⟨l, hl1, hl2⟩ := hr3.rem hm h0 (fun i hi => co_ge (by omega))
  refine ⟨r, l, ?_, hl1, by rw [← hr2]; exact hl2.sZ⟩
  rw [callU_eq K.rest]
  refine runF_of rfl (run_cons (env1 := [.imm (Tz one), .imm (Tz two), .imm (Tz (sZ one)), .imm (.int (co two m)), .no, .no, .no, .no, .no, .no]) (u1 := []) ?_ (run_cons (env1 := [.imm (Tz one), .imm (Tz two), .imm (Tz r), .imm (.int (co two m)), s4, s5, s6, .no, .no, .no]) (u1 := []) ho (run_last ?_)))
  · simp [mkEnv, p__law_rest, ctx_fn K.short rfl, e1, hla]
  · simp
end
end Pl

/-! PLib26: Euclid's row of rests, the program's and the law's: one step. -/
namespace Pl
open PySem (PyData Str)
/-- the rows stay small: ra, rb: how much longer than a common divisor's row a and b are at most; ka, kb: their bits -/
def safe (M : Nat) : Nat → Nat → Nat → Nat → Nat → Bool
  | 0, _, _, _, _ => false
  | f + 1, ra, ka, rb, kb => decide (ka < M) && decide (kb < M) && (if rb = 0 then decide (ka + (ra + 1 - rb - 1) * (2 * kb + 2) < 8999)
    else decide (ka + (ra + 1 - rb) * (2 * kb + 2) < 8999) && (List.range rb).all fun rc => safe M f rb kb rc (ka + (ra + 1 - rb) * (kb + 1)))
structure EInv (M : Nat) (a0 b0 base one two : List Int) : Prop where
  t1 : one ≠ [] → co one (one.length - 1) ≠ 0
  t2 : two ≠ [] → co two (two.length - 1) ≠ 0
  dv : ∀ D, (Dv D one ∧ Dv D two) ↔ (Dv D a0 ∧ Dv D b0)
  b1 : Dv base one
  b2 : Dv base two
  l1 : one.length ≤ 13
  sm : ∃ k, k < M ∧ ∀ i, Sm k (co one i)
  sz : two ≠ [] → ∃ f ra ka rb kb, safe M f ra ka rb kb = true ∧ one.length ≤ base.length + ra ∧ two.length = base.length + rb ∧ (∀ i, Sm ka (co one i)) ∧ ∀ i, Sm kb (co two i)
structure KnE (G : Prog) : Prop extends KnQ G, KnRest G
theorem dv_short {base l : List Int} {B : Nat} (hB : base.length = B + 1) (h0 : co base B ≠ 0) (h : Dv base l) (hl : ∀ i, B ≤ i → co l i = 0) : ∀ i, co l i = 0 := by
  have ht : trimZ l = [] := by
    rcases Classical.em (trimZ l = []) with q | q
    · exact q
    · exfalso
      have hp := List.length_pos_iff.mpr q
      have hlast := trim_last l q
      obtain ⟨k, hk⟩ : ∃ k, (trimZ l).length = k + 1 := ⟨(trimZ l).length - 1, by omega⟩
      rw [hk, Nat.add_sub_cancel] at hlast
      have hd : Dv base (trimZ l) := Dv.scale (c := 1) (d := 1) (by decide) (fun i => by rw [co_trim]) h
      have := (hd.deg hB h0 hk hlast).1
      have := trim_len hl
      omega
  intro i
  rw [← co_trim, ht]
  rfl
section
variable {G : Prog} (K : KnE G)
include K
theorem euclid_step (n : Nat) {M : Nat} (hM : M ≤ 8999) {a0 b0 base one two : List Int} {B : Nat} (hB : base.length = B + 1) (hb0 : co base B ≠ 0) (I : EInv M a0 b0 base one two) (h2 : two ≠ []) (hl2 : two.length ≤ 13) : ∃ r, callU G (n + 3) "what_remains" [Tz one, Tz two] [] = some (Tz r, []) ∧ callU G (n + 3) "_law_rest" [Tz one, Tz two] [] = some (Tz r, []) ∧ EInv M a0 b0 base two r ∧ r.length < two.length ∧ sZ r = r := by
  obtain ⟨f, ra, ka, rb, kb, hs, q1, q2, s1, s2⟩ := I.sz h2
  cases f with
  | zero => exact absurd hs (by simp [safe])
  | succ f =>
  rw [safe, Bool.and_eq_true, Bool.and_eq_true, decide_eq_true_eq, decide_eq_true_eq] at hs
  obtain ⟨⟨hka, hkb⟩, hs⟩ := hs
  obtain ⟨m, hm⟩ : ∃ m, two.length = m + 1 := ⟨two.length - 1, by have := List.length_pos_iff.mpr h2; omega⟩
  have h0 : co two m ≠ 0 := by have := I.t2 h2; rwa [hm, Nat.add_sub_cancel] at this
  have hL : one.length - m ≤ ra + 1 - rb := by omega
  -- what remains is a multiple of base
  have mult : ∀ l, RemS one two l m → Dv base l := fun l h => ((h.dv base).mp ⟨I.b1, I.b2⟩).2
  have zero : rb = 0 → ∀ l, RemS one two l m → ∀ i, co l i = 0 := fun hrb l h => dv_short hB hb0 (mult l h) (fun i hi => h.low i (by omega))
  have c1 : ka + (one.length - m) * (kb + 1) < 8999 ∨ rb = 0 := by
    by_cases hrb : rb = 0
    · exact .inr hrb
    · rw [if_neg hrb, Bool.and_eq_true, decide_eq_true_eq] at hs
      left
      have := Nat.mul_le_mul hL (show kb + 1 ≤ 2 * kb + 2 by omega)
      omega
  obtain ⟨l, c, q, e1, hc, hr, hlow, hq, hsm⟩ := c_rem2 K.toKnQ n (row := one) (other := two) (kr := ka) (ko := kb) hm (by have := I.l1; omega) (by omega) s1 s2 h0 (by omega) (by omega) (by
    rcases c1 with h | h
    · exact .inl h
    · right
      intro l c q hc he hlow hq
      exact trim_zero (zero h l ⟨hm, h0, ⟨c, q, one.length, hc, he, hq⟩, hlow⟩))
  have R : RemS one two l m := ⟨hm, h0, ⟨c, q, one.length, hc, hr, hq⟩, hlow⟩
  rw [short_trim] at e1
  obtain ⟨r, l', e2, R', hr'⟩ := l_rest K.toKnRest n (one := one) (two := two) (ka := ka) (ko := kb) hm h0 (by have := I.l1; omega) s1 s2 (by omega) (by omega) (by
    by_cases hrb : rb = 0
    · right
      rw [if_pos hrb, decide_eq_true_eq] at hs
      refine ⟨?_, zero hrb⟩
      have := Nat.mul_le_mul_right (2 * kb + 2) (show one.length - m - 1 ≤ ra + 1 - rb - 1 by omega)
      omega
    · left
      rw [if_neg hrb, Bool.and_eq_true, decide_eq_true_eq] at hs
      have := Nat.mul_le_mul_right (2 * kb + 2) hL
      omega)
  have er : r = sZ l := by rw [hr']; exact (R'.unique R (Up.refl _) (Up.refl _) rfl).sZ
  rw [er] at e2
  have rl : (sZ l).length ≤ m := by
    have : (sZ l).length = (trimZ l).length := by unfold sZ; rw [List.length_map]
    rw [this]
    exact trim_len hlow
  refine ⟨sZ l, e1, e2, ⟨I.t2, sZ_last l, fun D => ?_, I.b2, ?_, hl2, ⟨kb, hkb, s2⟩, fun hne => ?_⟩, by omega, sZ_sZ l⟩
  · rw [← I.dv D, R.dv D, (up_sZ l).dv D]
  · exact ((up_sZ l).dv base).mpr (mult l R)
  · have hrb : rb ≠ 0 := fun h => hne (by
      have := trim_zero (zero h l R)
      unfold sZ; rw [this]; rfl)
    rw [if_neg hrb, Bool.and_eq_true, decide_eq_true_eq, List.all_eq_true] at hs
    obtain ⟨k, hk⟩ : ∃ k, (sZ l).length = k + 1 := ⟨(sZ l).length - 1, by have := List.length_pos_iff.mpr hne; omega⟩
    have hlast := sZ_last l hne
    rw [hk, Nat.add_sub_cancel] at hlast
    have hd := ((((up_sZ l).dv base).mpr (mult l R)).deg hB hb0 hk hlast).1
    refine ⟨f, rb, kb, k - B, ka + (ra + 1 - rb) * (kb + 1), hs.2 (k - B) (List.mem_range.mpr (by omega)), by omega, by omega, s2, fun i => (sZ_sm hsm i).mono ?_⟩
    have := Nat.mul_le_mul_right (kb + 1) hL
    omega
end
end Pl

/-! PLib27: the common factor, the program's and the law's. -/
namespace Pl
open PySem (PyData Str)
def p36_lshared : PFun := { np := 2, ns := 3, urn := false, fresh := false, body := (.cons (.par [0, 1] (.cons (.call "_law_short" (.cons (.var 0) .nil) [0]) (.cons (.call "_law_short" (.cons (.var 1) .nil) [0]) .nil))) (.cons (.whil (.cmp .ne (.var 1) (.tup .nil)) (.cons (.par [0, 1] (.cons (.var 1) (.cons (.call "_law_rest" (.cons (.var 0) (.cons (.var 1) .nil)) [0, 1]) .nil))) .nil)) (.cons (.ret (.ite (.or (.cmp .eq (.var 0) (.tup .nil)) (.cmp .gt (.idx (.var 0) (.neg (.lit (.int 1)))) (.lit (.int 0)))) (.var 0) (.bi .tuple (.cons (.comp (.bin .sub (.lit (.int 0)) (.var 2)) (.one 2) (.seq (.var 0)) .no [2]) .nil)))) .nil))) }
def p36_common_factor : PFun := { np := 2, ns := 2, urn := false, fresh := false, body := (.cons (.drop (.call "check_row" (.cons (.var 0) .nil) [0])) (.cons (.drop (.call "check_row" (.cons (.var 1) .nil) [0])) (.cons (.ret (.call "shared" (.cons (.var 0) (.cons (.var 1) .nil)) [0, 1])) .nil))) }
theorem co_sZ (a : List Int) (i : Nat) : ((max 1 (gN a) : Nat) : Int) * co (sZ a) i = co a i := by
  unfold sZ
  rw [co_map (by simp), co_trim]
  by_cases hi : i < a.length
  · have hd : ((max 1 (gN a) : Nat) : Int) ∣ co a i := by
      have h2 := gN_dvd (co_mem hi)
      by_cases hg : gN a = 0
      · rw [hg]; exact Int.one_dvd _
      · rw [Nat.max_eq_right (by omega)]
        exact Int.ofNat_dvd_left.mpr h2
    exact Int.mul_fdiv_cancel' hd
  · rw [co_ge (by omega)]; simp
theorem gN_all0 : ∀ {xs : List Int}, (∀ x ∈ xs, x = 0) → gN xs = 0
  | [], _ => rfl
  | x :: xs, h => by rw [gN, gN_all0 fun y hy => h y (List.mem_cons_of_mem _ hy), h x List.mem_cons_self]; rfl
theorem gN_short {xs : List Int} (h : sZ xs = xs) : max 1 (gN xs) = 1 := by
  rcases Nat.lt_or_ge 1 (gN xs) with q | q
  · exfalso
    have : gN xs = 0 := gN_all0 fun x hx => by
      obtain ⟨i, hi, e⟩ := List.getElem_of_mem hx
      have e2 : co xs i = x := co_of (by rw [List.getElem?_eq_getElem hi, e])
      have e3 := co_sZ xs i
      rw [h, e2, Nat.max_eq_right (by omega)] at e3
      have : (((gN xs : Nat) : Int) - 1) * x = 0 := by grind
      rcases Int.mul_eq_zero.mp this with z | z
      · omega
      · exact z
    omega
  · exact Nat.max_eq_left q
def nz (xs : List Int) : List Int := if xs ≠ [] ∧ co xs (xs.length - 1) < 0 then xs.map (-1 * ·) else xs
theorem co_neg (xs : List Int) (i : Nat) : co (xs.map (-1 * ·)) i = -1 * co xs i := co_map (f := (-1 * ·)) (Int.mul_zero _) i
theorem nz_isG {a b one : List Int} (h : ∀ D, (Dv D one ∧ Dv D []) ↔ (Dv D a ∧ Dv D b)) : IsG (nz (sZ one)) a b := by
  have up : ∀ D, Dv D (nz (sZ one)) ↔ Dv D one := fun D => by
    rw [← (up_sZ one).dv D]
    unfold nz
    split
    · exact ⟨fun q => Dv.scale (c := -1) (d := 1) (by decide) (fun i => by rw [co_neg]; omega) q, fun q => Dv.scale (c := 1) (d := -1) (by decide) (fun i => by rw [co_neg]; omega) q⟩
    · exact Iff.rfl
  have dv := fun D => (up D).trans ⟨fun q => (h D).mp ⟨q, Dv.nil D⟩, fun q => ((h D).mpr q).1⟩
  refine ⟨?_, fun hne => ?_, ((dv _).mp (Dv.refl _)).1, ((dv _).mp (Dv.refl _)).2, fun D h1 h2 => (dv D).mpr ⟨h1, h2⟩⟩
  · unfold nz
    split
    · rename_i hq
      have e : trimZ ((sZ one).map (-1 * ·)) = (sZ one).map (-1 * ·) := trim_id fun hn => by
        rw [List.length_map, co_neg]
        have := sZ_last one hq.1
        omega
      have eg : max 1 (gN ((sZ one).map (-1 * ·))) = 1 := by
        rw [gN_mul, show (-1 : Int).natAbs = 1 from rfl, Nat.one_mul]
        exact gN_short (sZ_sZ one)
      show (trimZ _).map _ = _
      rw [e, eg]
      simp
    · exact sZ_sZ one
  · unfold nz at hne ⊢
    split
    · rename_i hq
      rw [List.length_map, co_neg]
      omega
    · rename_i hq
      rw [if_neg hq] at hne
      have h1 := sZ_last one hne
      have h2 : ¬ co (sZ one) ((sZ one).length - 1) < 0 := fun z => hq ⟨hne, z⟩
      omega
theorem nz_sm {k : Nat} {xs : List Int} (h : ∀ i, Sm k (co xs i)) (i : Nat) : Sm k (co (nz xs) i) := by
  unfold nz
  split
  · rw [co_neg]
    have := (h i).neg
    rwa [show -1 * co xs i = -co xs i by omega]
  · exact h i
structure KnF36 (G : Prog) : Prop extends KnE G where
  shared : G.T "shared" = some p_shared
  scaled : G.T "scaled" = some p_scaled
  lshared : G.T "_law_shared" = some p36_lshared
section
variable {G : Prog} (K : KnF36 G)
include K
theorem c_scaled (n : Nat) {xs : List Int} {k : Nat} (hl : xs.length ≤ 1000) (sx : ∀ i, Sm k (co xs i)) (hk : k < 9000) (ht : xs ≠ [] → co xs (xs.length - 1) ≠ 0) : callU G (n + 2) "scaled" [Tz xs, .int (-1)] [] = some (Tz (xs.map (-1 * ·)), []) := by
  have c2 : compL (fun d u => (bindT (.one 2) d (wipe [.imm (Tz xs), .imm (.int (-1)), .no] [2])).bind fun env' => (evalC (ctxN G (n + 1)) .no env' u).bind fun rc =>
        if rc.1 = true then (evalE (ctxN G (n + 1)) (.bin .mul (.var 1) (.var 2)) env' rc.2).bind fun re => some (some re.1, re.2) else some (none, rc.2)) (xs.map .int) [] = some ((xs.map (-1 * ·)).map .int, []) :=
    compL_ints fun y hy => by
      have mo : mulOk (-1) y = true := mulOk_of (j := 1) (k := k) (sm_lit (by decide)) (by
        obtain ⟨p, hp, e⟩ := List.getElem_of_mem hy
        have := sx p
        rwa [co_of (by rw [List.getElem?_eq_getElem hp, e] : xs[p]? = some y)] at this) (by decide) (by omega)
      simp [mo]
  have z2 := eval_comp (C := ctxN G (n + 1)) (it := .seq (.var 0)) (u := []) (u1 := []) (ds := xs.map .int) (by simp) (by simp; omega) c2
  have e : trimZ (xs.map (-1 * ·)) = xs.map (-1 * ·) := trim_id fun hn => by
    rw [List.length_map, co_neg]
    have := ht (by intro z; rw [z] at hn; exact hn rfl)
    omega
  obtain ⟨Y, hY⟩ : ∃ Y, Y = xs.map (-1 * ·) := ⟨_, rfl⟩
  rw [← hY] at z2 e ⊢
  have h1 := c_trimmed K.toKnR n (.inl rfl : RowD (Lz Y) Y)
  rw [e] at h1
  rw [callU_eq K.scaled]
  have e1 : evalEs (ctxN G (n + 1)) (.cons (.comp (.bin .mul (.var 1) (.var 2)) (.one 2) (.seq (.var 0)) .no [2]) .nil) [.imm (Tz xs), .imm (.int (-1)), .no] [] = some ([Lz Y], []) := by
    rw [evalEs, z2]; rfl
  refine runF_of rfl (run_last ?_)
  show execS _ _ (.ret (.call "trimmed" _ _)) [.imm (Tz xs), .imm (.int (-1)), .no] _ = _
  rw [execS, evalE, e1]
  simp only [Option.bind_some, pick, List.getElem?_cons_zero]
  simp [ctx_fn K.trimmed rfl, h1]
theorem run_par2NN' {C : Ctx} {ff : String → Bool} {i j : Nat} {e1 e2 : E} {env : Env} {u u1 u2 : U} {d1 d2 : D} (hl1 : isL d1 = false) (hn1 : noList d1 = true) (hl2 : isL d2 = false) (hn2 : noList d2 = true) (h1 : evalE C e1 env u = some (d1, u1)) (h2 : evalE C e2 env u1 = some (d2, u2)) : execS C ff (.par [i, j] (.cons e1 (.cons e2 .nil))) env u = some (.nx ((env.set i (.imm d1)).set j (.imm d2)) u2) := by
  have e3 : evalEs C (.cons e1 (.cons e2 .nil)) env u = some ([d1, d2], u2) := by
    rw [evalEs, h1, Option.bind_some, evalEs, h2]
    rfl
  rw [execS, e3]
  simp [slotOf_nl hl1, slotOf_nl hl2, within_nl hn1, within_nl hn2]
theorem c_shared (n : Nat) {M : Nat} (hM : M ≤ 8999) {a b base : List Int} {B : Nat} (hB : base.length = B + 1) (hb0 : co base B ≠ 0) (I : EInv M a b base a b) (hl : b.length ≤ 13) : ∃ Z, callU G (n + 4) "shared" [Tz a, Tz b] [] = some (Tz Z, []) ∧ IsG Z a b ∧ (∃ k, k < M ∧ ∀ i, Sm k (co Z i)) := by
  obtain ⟨o, ho, one, rfl, I2⟩ := whileO_ix (step := fun (q : Env × U) => (evalE (ctxN G (n + 3)) (.cmp .ne (.var 3) (.tup .nil)) q.1 q.2).bind fun rc => match rc with
    | (.bool k, u1) => if k = true then (execSs (ctxN G (n + 3)) G.ff (.cons (.par [2, 3] (.cons (.var 3) (.cons (.call "what_remains" (.cons (.var 2) (.cons (.var 3) .nil)) [0, 1]) .nil))) .nil) q.1 u1).bind fun o => (match o with
        | .nx env' u' => some (.inl (env', u'))
        | .ct env' u' => some (.inl (env', u'))
        | .bk env' u' => some (.inr (O.nx env' u'))
        | .rt d u' => some (.inr (O.rt d u'))) else some (.inr (O.nx q.1 u1))
    | _ => none)
    (fun M' q => ∃ one two : List Int, q = ([.imm (Tz a), .imm (Tz b), .imm (Tz one), .imm (Tz two), .no], []) ∧ two.length = M' ∧ two.length ≤ 13 ∧ EInv M a b base one two)
    (P := fun o => ∃ one : List Int, o = O.nx [.imm (Tz a), .imm (Tz b), .imm (Tz one), .imm (Tz []), .no] [] ∧ EInv M a b base one [])
    (fun M' q ⟨one, two, e, hM', hl2, I⟩ => by
      subst e
      by_cases h2 : two = []
      · subst h2
        left
        exact ⟨O.nx [.imm (Tz a), .imm (Tz b), .imm (Tz one), .imm (Tz []), .no] [], by simp, one, rfl, I⟩
      · right
        obtain ⟨r, e1, _, I', hlt, _⟩ := euclid_step K.toKnE n hM hB hb0 I h2 hl2
        refine ⟨([.imm (Tz a), .imm (Tz b), .imm (Tz two), .imm (Tz r), .no], []), r.length, by omega, ?_, two, r, rfl, rfl, by omega, I'⟩
        have et : execSs (ctxN G (n + 3)) G.ff (.cons (.par [2, 3] (.cons (.var 3) (.cons (.call "what_remains" (.cons (.var 2) (.cons (.var 3) .nil)) [0, 1]) .nil))) .nil) [.imm (Tz a), .imm (Tz b), .imm (Tz one), .imm (Tz two), .no] [] = some (.nx [.imm (Tz a), .imm (Tz b), .imm (Tz two), .imm (Tz r), .no] []) :=
          run_cons (run_par2NN' K (d1 := Tz two) (d2 := Tz r) rfl (by simp) rfl (by simp) (u1 := []) (by simp) (by simp [ctx_fn K.what_remains rfl, e1])) rfl
        have ec : evalE (ctxN G (n + 3)) (.cmp .ne (.var 3) (.tup .nil)) [.imm (Tz a), .imm (Tz b), .imm (Tz one), .imm (Tz two), .no] [] = some (.bool true, []) := by simp [h2]
        rw [ec, Option.bind_some]
        dsimp only
        rw [if_pos rfl, et]
        rfl) b.length ([.imm (Tz a), .imm (Tz b), .imm (Tz a), .imm (Tz b), .no], []) ⟨a, b, rfl, rfl, hl, I⟩
  obtain ⟨k, hk, sm⟩ := I2.sm
  have e2 := c_shortened K.toKnR (n + 1) (k := k) (xs := one) (by have := I2.l1; omega) (sm_of_co sm) (by omega)
  have es : shortZ one = sZ one := by rw [← short_trim, trim_id I2.t1]
  rw [es] at e2
  refine ⟨nz (sZ one), ?_, nz_isG I2.dv, k, hk, nz_sm (sZ_sm sm)⟩
  rw [callU_eq K.shared]
  refine runF_of rfl (run_cons (env1 := [.imm (Tz a), .imm (Tz b), .imm (Tz a), .imm (Tz b), .no]) (u1 := []) (run_par2NN' K (d1 := Tz a) (d2 := Tz b) rfl (by simp) rfl (by simp) (u1 := []) (by simp [mkEnv, p_shared]) (by simp [mkEnv, p_shared])) (run_cons (env1 := [.imm (Tz a), .imm (Tz b), .imm (Tz one), .imm (Tz []), .no]) (u1 := []) ho (run_cons (env1 := [.imm (Tz a), .imm (Tz b), .imm (Tz one), .imm (Tz []), .imm (Tz (sZ one))]) (u1 := []) (run_setN rfl (by simp) ?_) (run_last ?_))))
  · simp [ctx_fn K.shortened rfl, e2]
  · by_cases h : sZ one = []
    · have : nz (sZ one) = [] := by unfold nz; rw [h]; simp
      rw [this, h]
      simp
    · have e3 := c_scaled K (n + 1) (k := k) (xs := sZ one) (by have := sZ_len one; have := I2.l1; omega) (sZ_sm sm) (by omega) (sZ_last one)
      by_cases h2 : co (sZ one) ((sZ one).length - 1) < 0
      · have : nz (sZ one) = (sZ one).map (-1 * ·) := by unfold nz; rw [if_pos ⟨h, h2⟩]
        rw [this]
        simp [h, atI_last h, h2, ctx_fn K.scaled rfl, e3]
      · have : nz (sZ one) = sZ one := by unfold nz; rw [if_neg (fun q => h2 q.2)]
        rw [this]
        simp [h, atI_last h, h2]
end
end Pl

/-! PLib28: the common factor by the law. -/
namespace Pl
open PySem (PyData Str)
section
variable {G : Prog} (K : KnF36 G)
include K
theorem l_shared (n : Nat) {M : Nat} (hM : M ≤ 8999) {a b base : List Int} {B k : Nat} (hB : base.length = B + 1) (hb0 : co base B ≠ 0) (I : EInv M a b base (sZ a) (sZ b)) (hla : a.length ≤ 13) (hl : b.length ≤ 13) (sa : ∀ i, Sm k (co a i)) (sb : ∀ i, Sm k (co b i)) (hk : k < 8999) : ∃ Z, callU G (n + 4) "_law_shared" [Tz a, Tz b] [] = some (Tz Z, []) ∧ IsG Z a b := by
  obtain ⟨o, ho, one, rfl, I2, hs2⟩ := whileO_ix (step := fun (q : Env × U) => (evalE (ctxN G (n + 3)) (.cmp .ne (.var 1) (.tup .nil)) q.1 q.2).bind fun rc => match rc with
    | (.bool k, u1) => if k = true then (execSs (ctxN G (n + 3)) G.ff (.cons (.par [0, 1] (.cons (.var 1) (.cons (.call "_law_rest" (.cons (.var 0) (.cons (.var 1) .nil)) [0, 1]) .nil))) .nil) q.1 u1).bind fun o => (match o with
        | .nx env' u' => some (.inl (env', u'))
        | .ct env' u' => some (.inl (env', u'))
        | .bk env' u' => some (.inr (O.nx env' u'))
        | .rt d u' => some (.inr (O.rt d u'))) else some (.inr (O.nx q.1 u1))
    | _ => none)
    (fun M' q => ∃ one two : List Int, q = ([.imm (Tz one), .imm (Tz two), .no], []) ∧ two.length = M' ∧ two.length ≤ 13 ∧ EInv M a b base one two ∧ sZ one = one ∧ sZ two = two)
    (P := fun o => ∃ one : List Int, o = O.nx [.imm (Tz one), .imm (Tz []), .no] [] ∧ EInv M a b base one [] ∧ sZ one = one)
    (fun M' q ⟨one, two, e, hM', hl2, I, z1, z2⟩ => by
      subst e
      by_cases h2 : two = []
      · subst h2
        left
        exact ⟨O.nx [.imm (Tz one), .imm (Tz []), .no] [], by simp, one, rfl, I, z1⟩
      · right
        obtain ⟨r, _, e1, I', hlt, hr⟩ := euclid_step K.toKnE n hM hB hb0 I h2 hl2
        refine ⟨([.imm (Tz two), .imm (Tz r), .no], []), r.length, by omega, ?_, two, r, rfl, rfl, by omega, I', z2, hr⟩
        have et : execSs (ctxN G (n + 3)) G.ff (.cons (.par [0, 1] (.cons (.var 1) (.cons (.call "_law_rest" (.cons (.var 0) (.cons (.var 1) .nil)) [0, 1]) .nil))) .nil) [.imm (Tz one), .imm (Tz two), .no] [] = some (.nx [.imm (Tz two), .imm (Tz r), .no] []) :=
          run_cons (run_par2NN' K (d1 := Tz two) (d2 := Tz r) rfl (by simp) rfl (by simp) (u1 := []) (by simp) (by simp [ctx_fn K.rest rfl, e1])) rfl
        have ec : evalE (ctxN G (n + 3)) (.cmp .ne (.var 1) (.tup .nil)) [.imm (Tz one), .imm (Tz two), .no] [] = some (.bool true, []) := by simp [h2]
        rw [ec, Option.bind_some]
        dsimp only
        rw [if_pos rfl, et]
        rfl) (sZ b).length ([.imm (Tz (sZ a)), .imm (Tz (sZ b)), .no], []) ⟨sZ a, sZ b, rfl, rfl, by have := sZ_len b; omega, I, sZ_sZ a, sZ_sZ b⟩
  have e1 := l_short K.toKnO (n + 1) (k := k) (.inr rfl : RowD (Tz a) a) (by omega) (sm_of_co sa) hk
  have e2 := l_short K.toKnO (n + 1) (k := k) (.inr rfl : RowD (Tz b) b) (by omega) (sm_of_co sb) hk
  refine ⟨nz (sZ one), ?_, nz_isG I2.dv⟩
  rw [callU_eq K.lshared]
  refine runF_of rfl (run_cons (env1 := [.imm (Tz (sZ a)), .imm (Tz (sZ b)), .no]) (u1 := []) (run_par2NN' K (d1 := Tz (sZ a)) (d2 := Tz (sZ b)) rfl (by simp) rfl (by simp) (u1 := []) (by simp [mkEnv, p36_lshared, ctx_fn K.short rfl, e1]) (by simp [mkEnv, p36_lshared, ctx_fn K.short rfl, e2])) (run_cons (env1 := [.imm (Tz one), .imm (Tz []), .no]) (u1 := []) ho (run_last ?_)))
  rw [hs2]
  by_cases h : one = []
  · have : nz one = [] := by unfold nz; rw [h]; simp
    rw [this, h]
    simp
  · have hlast := I2.t1 h
    by_cases h2 : co one (one.length - 1) < 0
    · have hnz : nz one = one.map (-1 * ·) := by unfold nz; rw [if_pos ⟨h, h2⟩]
      have h3 : ¬ 0 < co one (one.length - 1) := by omega
      have c2 : compL (fun d u => (bindT (.one 2) d (wipe [.imm (Tz one), .imm (Tz []), .no] [2])).bind fun env' => (evalC (ctxN G (n + 3)) .no env' u).bind fun rc =>
        if rc.1 = true then (evalE (ctxN G (n + 3)) (.bin .sub (.lit (.int 0)) (.var 2)) env' rc.2).bind fun re => some (some re.1, re.2) else some (none, rc.2)) (one.map .int) [] = some ((one.map (-1 * ·)).map .int, []) :=
        compL_ints fun y hy => by
          have : -1 * y = -y := by omega
          simp [this]
      have z2 := eval_comp (C := ctxN G (n + 3)) (it := .seq (.var 0)) (u := []) (u1 := []) (ds := one.map .int) (by simp) (by have := I2.l1; simp; omega) c2
      have e3 : evalEs (ctxN G (n + 3)) (.cons (.comp (.bin .sub (.lit (.int 0)) (.var 2)) (.one 2) (.seq (.var 0)) .no [2]) .nil) [.imm (Tz one), .imm (Tz []), .no] [] = some ([Lz (one.map (-1 * ·))], []) := by
        rw [evalEs, z2]; rfl
      have ec : evalE (ctxN G (n + 3)) (.or (.cmp .eq (.var 0) (.tup .nil)) (.cmp .gt (.idx (.var 0) (.neg (.lit (.int 1)))) (.lit (.int 0)))) [.imm (Tz one), .imm (Tz []), .no] [] = some (.bool false, []) := by
        simp [h, atI_last h, h3]
      rw [hnz]
      show execS _ _ (.ret (.ite _ _ (.bi .tuple _))) _ _ = _
      rw [execS, evalE, ec, Option.bind_some]
      show ((evalE (ctxN G (n + 3)) (.bi .tuple _) [.imm (Tz one), .imm (Tz []), .no] []).bind _) = _
      rw [evalE, e3]
      rfl
    · have hnz : nz one = one := by unfold nz; rw [if_neg (fun q => h2 q.2)]
      have h3 : 0 < co one (one.length - 1) := by omega
      rw [hnz]
      simp [h, atI_last h, h3]
end
/-! ### where the rows begin -/
theorem EInv.start {M : Nat} {a b base : List Int} (ta : a ≠ [] → co a (a.length - 1) ≠ 0) (tb : b ≠ [] → co b (b.length - 1) ≠ 0) (b1 : Dv base a) (b2 : Dv base b) (l1 : a.length ≤ 13) {f ra ka rb kb : Nat} (sa : ∀ i, Sm ka (co a i)) (sb : ∀ i, Sm kb (co b i)) (hka : ka < M)
    (hs : b ≠ [] → safe M f ra ka rb kb = true ∧ a.length ≤ base.length + ra ∧ b.length = base.length + rb) : EInv M a b base a b ∧ EInv M a b base (sZ a) (sZ b) := by
  have la : (sZ a).length ≤ a.length := sZ_len a
  have lb : trimZ b = b := trim_id tb
  have lb2 : (sZ b).length = b.length := by unfold sZ; rw [List.length_map, lb]
  have hb : sZ b ≠ [] → b ≠ [] := fun h z => h (by rw [z]; rfl)
  refine ⟨⟨ta, tb, fun D => Iff.rfl, b1, b2, l1, ⟨ka, hka, sa⟩, fun h => ⟨f, ra, ka, rb, kb, (hs h).1, (hs h).2.1, (hs h).2.2, sa, sb⟩⟩, ⟨sZ_last a, sZ_last b, fun D => by rw [(up_sZ a).dv D, (up_sZ b).dv D], ((up_sZ a).dv base).mpr b1, ((up_sZ b).dv base).mpr b2, by omega, ⟨ka, hka, sZ_sm sa⟩, fun h => ?_⟩⟩
  have h' := hs (hb h)
  exact ⟨f, ra, ka, rb, kb, h'.1, by omega, by omega, sZ_sm sa, sZ_sm sb⟩
end Pl

/-! Plain35: drawn rows. -/
namespace Pl
open PySem (PyData Str)
structure KnW (G : Prog) : Prop extends KnPot G, KnO G where
  row : G.T "_law_row" = some p__law_row
theorem p12 : (10 : Int) ^ (Int.toNat 12) = 1000000000000 := by decide
section
variable {G : Prog} (K : KnW G)
include K
theorem l_row (n : Nat) {u : U} {m : Nat} (most : Nat) (hu : PotN m u) (hm : m ≤ 100000) (hmost : most ≤ 100) : ∃ (xs : List Int) (u' : U), callU G (n + 3) "_law_row" [.int most] u = some (Tz (trimZ xs), u') ∧ xs.length ≤ most ∧ (∀ x ∈ xs, Sm 44 x) ∧ PotN (m + 2 + 2 * most) u' := by
  obtain ⟨sz, u1, e1, m1, p1⟩ := c_of K.toKnD2 n (xs := [.int 1, .int 1, .int 1, .int 1, .int 1000003, .int 1000000000039]) hu (by omega) (by simp) (by simp)
  obtain ⟨s, rfl, s1, s2⟩ : ∃ i : Int, sz = .int i ∧ 1 ≤ i ∧ i ≤ 1000000000039 := by
    simp only [List.mem_cons, List.not_mem_nil, or_false] at m1
    rcases m1 with rfl | rfl | rfl | rfl | rfl | rfl <;> exact ⟨_, rfl, by decide, by decide⟩
  obtain ⟨dn, u2, e2, d1, d2, p2⟩ := c_draw K.toKnD (n + 1) p1 (by omega) (k := (most : Int) + 1) (by omega) (by unfold Sm; omega)
  obtain ⟨N, rfl⟩ := Int.eq_ofNat_of_zero_le d1
  have ss : Sm 40 s := by unfold Sm; omega
  obtain ⟨xs, u3, e3, hl, hx, p3⟩ := compL_draw (I := fun j u => PotN (m + 2 + 2 * j) u) (P := fun x => Sm 44 x)
    (step := fun d u => (bindT (.one 3) d (wipe [.no, .imm (.int most), .imm (.int s), .no] [3])).bind fun env' => (evalC (ctxN G (n + 2)) .no env' u).bind fun rc =>
        if rc.1 = true then (evalE (ctxN G (n + 2)) (.bin .add (.bin .mul (.var 2) (.ucall "_law_from" (.cons (.neg (.lit (.int 4))) (.cons (.lit (.int 4)) .nil)))) (.ucall "_law_from" (.cons (.neg (.lit (.int 1))) (.cons (.lit (.int 1)) .nil)))) env' rc.2).bind fun re => some (some re.1, re.2) else some (none, rc.2))
    (ds := rangeL 0 (N : Int)) (k := 0) (u := u2) (fun d hd j u hj hi => by
      rw [rangeL_leni] at hj
      obtain ⟨f, v1, g1, a1, a2, q1⟩ := c_from K.toKnD n (lo := -4) (hi := 4) hi (by omega) (by decide) (sm_lit (by decide)) (sm_lit (by decide))
      obtain ⟨f', v2, g2, b1, b2, q2⟩ := c_from K.toKnD n (lo := -1) (hi := 1) q1 (by omega) (by decide) (sm_lit (by decide)) (sm_lit (by decide))
      have sf : Sm 3 f := by unfold Sm; omega
      have sf' : Sm 3 f' := by unfold Sm; omega
      have mo : mulOk s f = true := mulOk_of ss sf (by decide) (by decide)
      refine ⟨s * f + f', v2, ?_, ((ss.mul sf).add sf').mono (by decide), q2.mono (by omega)⟩
      simp [ctx_ufn K.from_ rfl, g1, g2, mo]) (p2.mono (by omega))
  rw [rangeL_leni] at hl p3
  refine ⟨xs, u3, ?_, by omega, hx, p3.mono (by omega)⟩
  have hcc := eval_comp (C := ctxN G (n + 2)) (it := .range1 (.ucall "_law_draw" (.cons (.bin .add (.var 1) (.lit (.int 1))) .nil))) (u := u1) (u1 := u2) (eval_rng1 (by simp [ctx_ufn K.draw rfl, e2]) (by omega)) (by rw [rangeL_leni]; omega) e3
  rw [callU_eq K.row]
  refine runF_of rfl (run_cons (env1 := [.no, .imm (.int most), .imm (.int s), .no]) (u1 := u1) ?_ (run_last ?_))
  · simp [mkEnv, p__law_row, p12, ctx_ufn K.of_ rfl, ff_no K.of_ rfl, e1]
  · rw [execS, evalE, evalEs, hcc]
    simp [ctx_fn K.trim rfl, l_trim K.toKnO (n + 1) (.inl rfl : RowD (Lz xs) xs)]
end
end Pl

/-! Plain36: common factors: the built rows. -/
namespace Pl
open PySem (PyData Str)
def p36_factors : PFun := { np := 1, ns := 3, urn := true, fresh := false, body := (.cons (.set 1 (.lst (.cons (.ucall "_law_of" (.cons (.lst (.cons (.lit (.int 1)) (.cons (.neg (.lit (.int 1))) (.cons (.lit (.int 2)) (.cons (.lit (.int 6)) .nil))))) .nil)) .nil))) (.cons (.for_ (.one 2) (.range1 (.ucall "_law_draw" (.cons (.lit (.int 3)) .nil))) (.cons (.set 1 (.call "_law_multiplied" (.cons (.var 1) (.cons (.ucall "_law_of" (.cons (.lst (.cons (.lst (.cons (.lit (.int 1)) (.cons (.lit (.int 1)) .nil))) (.cons (.lst (.cons (.neg (.lit (.int 1))) (.cons (.lit (.int 1)) .nil))) (.cons (.lst (.cons (.lit (.int 1)) (.cons (.lit (.int 2)) .nil))) (.cons (.lst (.cons (.lit (.int 0)) (.cons (.lit (.int 1)) .nil))) (.cons (.lst (.cons (.neg (.lit (.int 2))) (.cons (.lit (.int 0)) (.cons (.lit (.int 1)) .nil)))) (.cons (.lst (.cons (.lit (.int 1)) (.cons (.lit (.int 0)) (.cons (.lit (.int 1)) .nil)))) (.cons (.lst (.cons (.lit (.int 1)) (.cons (.lit (.int 1)) (.cons (.lit (.int 1)) .nil)))) (.cons (.lst (.cons (.neg (.lit (.int 3))) (.cons (.lit (.int 2)) .nil))) .nil))))))))) .nil)) .nil)) [0, 1])) .nil)) (.cons (.ret (.bi .tuple (.cons (.var 1) .nil))) .nil))) }
def p36_right : PFun := { np := 1, ns := 10, urn := true, fresh := false, body := (.cons (.par [1, 2] (.cons (.ucall "_law_factors" .nil) (.cons (.ucall "_law_factors" .nil) .nil))) (.cons (.set 3 (.ucall "_law_factors" .nil)) (.cons (.par [4, 5] (.cons (.call "_law_multiplied" (.cons (.var 1) (.cons (.var 2) .nil)) [0, 1]) (.cons (.call "_law_multiplied" (.cons (.var 1) (.cons (.var 3) .nil)) [0, 1]) .nil))) (.cons (.set 6 (.call "_law_shared" (.cons (.var 4) (.cons (.var 5) .nil)) [0, 1])) (.cons (.set 7 (.lst (.cons (.call "common_factor" (.cons (.var 4) (.cons (.var 5) .nil)) [0, 1]) (.cons (.call "common_factor" (.cons (.var 5) (.cons (.var 4) .nil)) [0, 1]) (.cons (.call "common_factor" (.cons (.var 5) (.cons (.var 4) .nil)) [1, 0]) .nil))))) (.cons (.ite (.cmp .ne (.bi .repr (.cons (.var 7) .nil)) (.bi .repr (.cons (.lst (.cons (.var 6) (.cons (.var 6) (.cons (.var 6) .nil)))) .nil))) (.cons (.ret (.lit (.bool false))) .nil) .nil) (.cons (.ite (.or (.cmp .ne (.call "remainder" (.cons (.var 4) (.cons (.var 6) .nil)) [0, 1]) (.tup .nil)) (.or (.cmp .ne (.call "remainder" (.cons (.var 5) (.cons (.var 6) .nil)) [0, 1]) (.tup .nil)) (.cmp .ne (.call "remainder" (.cons (.var 6) (.cons (.var 1) .nil)) [0, 1]) (.tup .nil)))) (.cons (.ret (.lit (.bool false))) .nil) .nil) (.cons (.set 8 (.call "_law_shared" (.cons (.var 4) (.cons (.tup .nil) .nil)) [0, 1])) (.cons (.set 7 (.lst (.cons (.call "common_factor" (.cons (.var 4) (.cons (.tup .nil) .nil)) [0, 1]) (.cons (.call "common_factor" (.cons (.tup .nil) (.cons (.var 4) .nil)) [0, 1]) (.cons (.call "common_factor" (.cons (.tup .nil) (.cons (.tup .nil) .nil)) [0, 1]) (.cons (.call "common_factor" (.cons (.var 4) (.cons (.var 4) .nil)) [0, 1]) .nil)))))) (.cons (.ite (.cmp .ne (.bi .repr (.cons (.var 7) .nil)) (.bi .repr (.cons (.lst (.cons (.var 8) (.cons (.var 8) (.cons (.tup .nil) (.cons (.var 8) .nil))))) .nil))) (.cons (.ret (.lit (.bool false))) .nil) .nil) (.cons (.set 9 (.ucall "_law_row" (.cons (.lit (.int 5)) .nil))) (.cons (.ret (.and (.cmp .eq (.call "common_factor" (.cons (.var 4) (.cons (.var 9) .nil)) [0, 1]) (.call "_law_shared" (.cons (.var 4) (.cons (.var 9) .nil)) [0, 1])) (.cmp .eq (.call "common_factor" (.cons (.tup (.cons (.lit (.int 7)) .nil)) (.cons (.var 9) .nil)) [0, 1]) (.tup (.cons (.lit (.int 1)) .nil))))) .nil)))))))))))) }
structure Kn36 (G : Prog) : Prop extends KnM G, KnF36 G, KnW G, KnX G where
  common_factor : G.T "common_factor" = some p36_common_factor
  factors : G.T "_law_factors" = some p36_factors
  right : G.T "_law_right" = some p36_right
  law : G.T "law" = some p_main4
/-- a row that is not nought -/
structure Fac (n k : Nat) (F : List Int) : Prop where
  ne : F ≠ []
  last : co F (F.length - 1) ≠ 0
  len : F.length ≤ n
  sm : ∀ i, Sm k (co F i)
theorem Fac.prod {n1 n2 k1 k2 : Nat} {A B zs : List Int} (a : Fac n1 k1 A) (b : Fac n2 k2 B) (h : ∀ i, co zs i = cv (co A) A.length (co B) i) : Fac (n1 + n2 - 1) (k1 + k2 + n1) (trimZ zs) ∧ Dv A (trimZ zs) := by
  have la := List.length_pos_iff.mpr a.ne
  have lb := List.length_pos_iff.mpr b.ne
  have top := cv_top (co A) (co B) (A.length - 1) (B.length - 1) (fun j hj => co_ge (by omega))
  rw [show A.length - 1 + 1 = A.length by omega, ← h] at top
  have hne : co zs (B.length - 1 + (A.length - 1)) ≠ 0 := by rw [top]; exact Int.mul_ne_zero a.last b.last
  have ht : trimZ zs ≠ [] := fun z => hne (by rw [← co_trim, z]; rfl)
  refine ⟨⟨ht, trim_last zs ht, ?_, fun i => ?_⟩, 1, by decide, ev B, Poly.row B, fun t => ?_⟩
  · have := a.len
    have := b.len
    exact trim_len fun i hi => by rw [h]; exact cv_high' (fun j hj => co_ge hj) i (by omega)
  · rw [co_trim, h]
    have := a.len
    exact (sm_cv (k1 := k2) (k2 := k1) b.sm a.sm A.length i).mono (by omega)
  · rw [Int.one_mul, ev_cv (b := A) (a := B) (fun i => by rw [co_trim, h]), Int.mul_comm]
section
variable {G : Prog} (K : Kn36 G)
include K
theorem l_factors (n : Nat) {u : U} {c : Nat} (hu : PotN c u) (hc : c ≤ 100000) : ∃ (F : List Int) (u' : U), callU G (n + 3) "_law_factors" [] u = some (Tz F, u') ∧ Fac 5 13 F ∧ PotN (c + 4) u' := by
  obtain ⟨y, u1, e1, m1, p1⟩ := c_of K.toKnD2 n (xs := [.int 1, .int (-1), .int 2, .int 6]) hu (by omega) (by simp) (by simp)
  obtain ⟨z, rfl, z0, sz⟩ : ∃ i : Int, y = .int i ∧ i ≠ 0 ∧ Sm 3 i := by
    simp only [List.mem_cons, List.not_mem_nil, or_false] at m1
    rcases m1 with rfl | rfl | rfl | rfl <;> exact ⟨_, rfl, by decide, sm_lit (by decide)⟩
  obtain ⟨d, u2, e2, d1, d2, p2⟩ := c_draw K.toKnD (n + 1) p1 (by omega) (k := 3) (by decide) (sm_lit (by decide))
  obtain ⟨N, rfl⟩ := Int.eq_ofNat_of_zero_le d1
  have hN : N ≤ 2 := by omega
  have f0 : Fac 1 3 [z] := ⟨by simp, by simpa using z0, by simp, fun i => by
    match i with
    | 0 => exact sz
    | i + 1 => exact sm_zero⟩
  obtain ⟨env', u', hf, s1, s2, F, rfl, hs, fF, pF⟩ := forL_ix (step := fun d env u => (bindT (.one 2) d env).bind fun env' => execSs (ctxN G (n + 2)) G.ff (forBody p36_factors.body) env' u)
    (fun j env u => ∃ (s1 s2 : Slot) (F : List Int), env = [.no, s1, s2] ∧ (s1 = .own (F.map .int) ∨ s1 = .imm (Tz F)) ∧ Fac (1 + 2 * j) (3 + 5 * j) F ∧ PotN (c + 2 + j) u) (ds := rangeL 0 (N : Int)) (env := [.no, .own [.int z], .no]) (u := u2)
    (fun j d hd env u ⟨s1, s2, F, e, hs, fF, pF⟩ => by
      subst e
      obtain ⟨hj, rfl⟩ := rangeL_ix hd
      obtain ⟨y, u3, g1, m3, p3⟩ := c_of K.toKnD2 n (xs := [Lz [1, 1], Lz [-1, 1], Lz [1, 2], Lz [0, 1], Lz [-2, 0, 1], Lz [1, 0, 1], Lz [1, 1, 1], Lz [-3, 2]]) pF (by omega) (by simp) (by simp)
      obtain ⟨f, rfl, ff⟩ : ∃ f : List Int, y = Lz f ∧ Fac 3 2 f := by
        have mk : ∀ f : List Int, f ≠ [] → co f (f.length - 1) ≠ 0 → f.length ≤ 3 → (∀ x ∈ f, Sm 2 x) → Fac 3 2 f := fun f h1 h2 h3 h4 => ⟨h1, h2, h3, sm_co h4⟩
        simp only [List.mem_cons, List.not_mem_nil, or_false] at m3
        rcases m3 with rfl | rfl | rfl | rfl | rfl | rfl | rfl | rfl <;> exact ⟨_, rfl, mk _ (by simp) (by decide) (by decide) (by simp [Sm])⟩
      have hd1 : ∃ d1, RowD d1 F ∧ getV [.no, s1, .imm (.int (j : Int))] 1 = some d1 := by
        rcases hs with rfl | rfl
        · exact ⟨Lz F, .inl rfl, rfl⟩
        · exact ⟨Tz F, .inr rfl, rfl⟩
      obtain ⟨d1, r1, gv⟩ := hd1
      obtain ⟨zs, g2, gl, gc⟩ := l_multiplied K.toKnX n (k1 := 20) (d1 := d1) (d2 := Lz f) r1 (.inl rfl) (by have := fF.len; omega) (by have := ff.len; omega) (fun i => (fF.sm i).mono (by omega)) (fun i => (ff.sm i).mono (by omega)) (by decide)
      have pr := (fF.prod ff gc).1
      refine ⟨[.no, .imm (Tz (trimZ zs)), .imm (.int (j : Int))], u3, ?_, _, _, trimZ zs, rfl, .inr rfl, ⟨pr.ne, pr.last, by have := pr.len; omega, fun i => (pr.sm i).mono (by omega)⟩, p3.mono (by omega)⟩
      have g1' : callU G (n + 2) "_law_of" [.list [.list [.int 1, .int 1], .list [.int (-1), .int 1], .list [.int 1, .int 2], .list [.int 0, .int 1], .list [.int (-2), .int 0, .int 1], .list [.int 1, .int 0, .int 1], .list [.int 1, .int 1, .int 1], .list [.int (-3), .int 2]]] u = some (Lz f, u3) := g1
      rw [bindT, Option.bind_some]
      refine run_cons (env1 := [.no, .imm (Tz (trimZ zs)), .imm (.int (j : Int))]) (u1 := u3) (run_setN (d := Tz (trimZ zs)) rfl (by simp) ?_) rfl
      have ev1 : evalE (ctxN G (n + 2)) (.var 1) [.no, s1, .imm (.int (j : Int))] u = some (d1, u) := by
        rw [evalE, gv]; rfl
      have eo : evalEs (ctxN G (n + 2)) (.cons (.ucall "_law_of" (.cons (.lst (.cons (.lst (.cons (.lit (.int 1)) (.cons (.lit (.int 1)) .nil))) (.cons (.lst (.cons (.neg (.lit (.int 1))) (.cons (.lit (.int 1)) .nil))) (.cons (.lst (.cons (.lit (.int 1)) (.cons (.lit (.int 2)) .nil))) (.cons (.lst (.cons (.lit (.int 0)) (.cons (.lit (.int 1)) .nil))) (.cons (.lst (.cons (.neg (.lit (.int 2))) (.cons (.lit (.int 0)) (.cons (.lit (.int 1)) .nil)))) (.cons (.lst (.cons (.lit (.int 1)) (.cons (.lit (.int 0)) (.cons (.lit (.int 1)) .nil)))) (.cons (.lst (.cons (.lit (.int 1)) (.cons (.lit (.int 1)) (.cons (.lit (.int 1)) .nil)))) (.cons (.lst (.cons (.neg (.lit (.int 3))) (.cons (.lit (.int 2)) .nil))) .nil))))))))) .nil)) .nil) [.no, s1, .imm (.int (j : Int))] u = some ([Lz f], u3) := by
        simp [ctx_ufn K.of_ rfl, g1']
      show (evalE (ctxN G (n + 2)) (.call "_law_multiplied" (.cons (.var 1) _) [0, 1]) [.no, s1, .imm (.int (j : Int))] u) = _
      rw [evalE, evalEs, ev1, Option.bind_some, eo]
      simp [ctx_fn K.multiplied rfl, g2])
    ⟨_, _, [z], rfl, .inl rfl, f0, p2.mono (by omega)⟩
  rw [rangeL_leni] at fF pF
  refine ⟨F, u', ?_, ⟨fF.ne, fF.last, by have := fF.len; omega, fun i => (fF.sm i).mono (by omega)⟩, pF.mono (by omega)⟩
  rw [callU_eq K.factors]
  refine runF_of rfl (run_cons (env1 := [.no, .own [.int z], .no]) (u1 := u1) ?_ (run_cons (run_for (ds := rangeL 0 (N : Int)) (u1 := u2) (eval_rng1 (by simp [ctx_ufn K.draw rfl, e2]) (by omega)) (by rw [rangeL_leni]; omega) hf) (run_last ?_)))
  · simp [mkEnv, p36_factors, ctx_ufn K.of_ rfl, e1]
  · rcases hs with rfl | rfl <;> simp
end
end Pl

/-! Plain36b: common factors: the law. -/
namespace Pl
open PySem (PyData Str)
theorem safe1 : ((List.range 5).all fun rb => safe 1900 10 4 31 rb 31) = true := by decide +kernel
theorem safe2 : ((List.range 5).all fun rb => safe 8999 10 8 31 rb 44) = true := by decide +kernel
theorem safe3 : ((List.range 5).all fun rb => safe 8999 10 0 3 rb 44) = true := by decide +kernel
theorem safe4 : safe 1900 2 0 31 0 31 = true := by decide +kernel
theorem dv_one (a : List Int) : Dv [1] a := ⟨1, by decide, ev a, Poly.row a, fun t => by simp [ev, hor]⟩
section
variable {G : Prog} (K : Kn36 G)
include K
theorem cf_pair (n : Nat) {M : Nat} (hM : M ≤ 8999) {a b base : List Int} (hb : base ≠ []) (hb0 : co base (base.length - 1) ≠ 0) (ta : a ≠ [] → co a (a.length - 1) ≠ 0) (tb : b ≠ [] → co b (b.length - 1) ≠ 0) (la : a.length ≤ 13) (lb : b.length ≤ 13) (b1 : Dv base a) (b2 : Dv base b) {f ra ka rb kb : Nat} (sa : ∀ i, Sm ka (co a i)) (sb : ∀ i, Sm kb (co b i)) (hka : ka < M) (hkb : kb < 8999)
    (hs : b ≠ [] → safe M f ra ka rb kb = true ∧ a.length ≤ base.length + ra ∧ b.length = base.length + rb) :
    ∃ Z, callU G (n + 5) "common_factor" [Tz a, Tz b] [] = some (Tz Z, []) ∧ callU G (n + 5) "_law_shared" [Tz a, Tz b] [] = some (Tz Z, []) ∧ IsG Z a b ∧ ∃ k, k < M ∧ ∀ i, Sm k (co Z i) := by
  obtain ⟨B, hB⟩ : ∃ B, base.length = B + 1 := ⟨base.length - 1, by have := List.length_pos_iff.mpr hb; omega⟩
  rw [hB, Nat.add_sub_cancel] at hb0
  obtain ⟨I1, I2⟩ := EInv.start (M := M) ta tb b1 b2 la sa sb hka hs
  obtain ⟨Z, e1, g1, k1⟩ := c_shared K.toKnF36 n hM hB hb0 I1 lb
  obtain ⟨Z', e2, g2'⟩ := l_shared K.toKnF36 (n + 1) (k := max ka kb) hM hB hb0 I2 la lb (fun i => (sa i).mono (Nat.le_max_left _ _)) (fun i => (sb i).mono (Nat.le_max_right _ _)) (by omega)
  rw [← g1.unique g2'] at e2
  refine ⟨Z, ?_, e2, g1, k1⟩
  have h1 := c_check_row K.toKnM n (xs := a) la ta
  have h2 := c_check_row K.toKnM n (xs := b) lb tb
  rw [callU_eq K.common_factor]
  simp [runF, p36_common_factor, mkEnv, ctx_fn K.check_row rfl, h1, h2, ctx_fn K.shared rfl, e1]
theorem c_rem_dv (n : Nat) {a d : List Int} {ka kd : Nat} (hd : Dv d a) (ta : a ≠ [] → co a (a.length - 1) ≠ 0) (la : a.length ≤ 13) (sa : ∀ i, Sm ka (co a i)) (hka : ka < 9000) (dn : d ≠ []) (d0 : co d (d.length - 1) ≠ 0) (ld : d.length ≤ 13) (sd : ∀ i, Sm kd (co d i)) (hkd : kd < 9000) : callU G (n + 5) "remainder" [Tz a, Tz d] [] = some (.tuple [], []) := by
  obtain ⟨m, hm⟩ : ∃ m, d.length = m + 1 := ⟨d.length - 1, by have := List.length_pos_iff.mpr dn; omega⟩
  have h0 := d0
  rw [hm, Nat.add_sub_cancel] at h0
  have zero : ∀ l, RemS a d l m → trimZ l = [] := fun l h => trim_zero (dv_short hm h0 ((h.dv d).mp ⟨hd, Dv.refl d⟩).2 h.low)
  obtain ⟨l, c, q, e1, hc, hr, hlow, hq, hsm⟩ := c_rem2 K.toKnQ (n + 1) (row := a) (other := d) (kr := ka) (ko := kd) hm (by omega) (by omega) sa sd h0 hka hkd (.inr fun l c q hc he hlow hq => zero l ⟨hm, h0, ⟨c, q, a.length, hc, he, hq⟩, hlow⟩)
  rw [zero l ⟨hm, h0, ⟨c, q, a.length, hc, hr, hq⟩, hlow⟩] at e1
  have e1' : callU G (n + 4) "what_remains" [Tz a, Tz d] [] = some (.tuple [], []) := e1
  have h1 := c_check_row K.toKnM n (xs := a) la ta
  have h2 := c_check_row K.toKnM n (xs := d) ld (fun _ => d0)
  rw [callU_eq K.remainder]
  simp [runF, p_remainder, mkEnv, ctx_fn K.check_row rfl, h1, h2, dn, ctx_fn K.what_remains rfl, e1']
theorem l36_right (n : Nat) {u : U} (hu : PotN 0 u) : ∃ u', callU G (n + 6) "_law_right" [] u = some (.bool true, u') := by
  obtain ⟨base, u1, e1, fb, p1⟩ := l_factors K (n + 2) hu (by omega)
  obtain ⟨left, u2, e2, fl, p2⟩ := l_factors K (n + 2) p1 (by omega)
  obtain ⟨right, u3, e3, fr, p3⟩ := l_factors K (n + 2) p2 (by omega)
  obtain ⟨th, u4, e4, tl, ts, p4⟩ := l_row K.toKnW (n + 2) 5 p3 (by omega) (by decide)
  have bl := fb.len
  have ll := fl.len
  have rl := fr.len
  obtain ⟨z1, f1, _, c1⟩ := l_multiplied K.toKnX (n + 3) (k1 := 13) (d1 := Tz base) (d2 := Tz left) (.inr rfl) (.inr rfl) (by omega) (by omega) fb.sm fl.sm (by decide)
  obtain ⟨z2, f2, _, c2⟩ := l_multiplied K.toKnX (n + 3) (k1 := 13) (d1 := Tz base) (d2 := Tz right) (.inr rfl) (.inr rfl) (by omega) (by omega) fb.sm fr.sm (by decide)
  obtain ⟨o1, dv1⟩ := Fac.prod (n1 := base.length) (n2 := left.length) ⟨fb.ne, fb.last, Nat.le_refl _, fb.sm⟩ ⟨fl.ne, fl.last, Nat.le_refl _, fl.sm⟩ c1
  obtain ⟨o2, dv2⟩ := Fac.prod (n1 := base.length) (n2 := right.length) ⟨fb.ne, fb.last, Nat.le_refl _, fb.sm⟩ ⟨fr.ne, fr.last, Nat.le_refl _, fr.sm⟩ c2
  obtain ⟨one, h1⟩ : ∃ x, x = trimZ z1 := ⟨_, rfl⟩
  obtain ⟨two, h2⟩ : ∃ x, x = trimZ z2 := ⟨_, rfl⟩
  rw [← h1] at f1 o1 dv1
  rw [← h2] at f2 o2 dv2
  have bp := List.length_pos_iff.mpr fb.ne
  have lp := List.length_pos_iff.mpr fl.ne
  have rp := List.length_pos_iff.mpr fr.ne
  have op := List.length_pos_iff.mpr o1.ne
  have tp := List.length_pos_iff.mpr o2.ne
  have l1 := o1.len
  have l2 := o2.len
  have s1 : ∀ i, Sm 31 (co one i) := fun i => (o1.sm i).mono (by omega)
  have s2 : ∀ i, Sm 31 (co two i) := fun i => (o2.sm i).mono (by omega)
  obtain ⟨B, hB⟩ : ∃ B, base.length = B + 1 := ⟨base.length - 1, by omega⟩
  have hb0 : co base B ≠ 0 := by have := fb.last; rwa [hB, Nat.add_sub_cancel] at this
  have ge : ∀ {x : List Int}, Dv base x → x ≠ [] → co x (x.length - 1) ≠ 0 → base.length ≤ x.length := fun {x} hd hx h0 => by
    obtain ⟨k, hk⟩ : ∃ k, x.length = k + 1 := ⟨x.length - 1, by have := List.length_pos_iff.mpr hx; omega⟩
    rw [hk, Nat.add_sub_cancel] at h0
    have := (hd.deg hB hb0 hk h0).1
    omega
  have g1 := ge dv1 o1.ne o1.last
  have g2' := ge dv2 o2.ne o2.last
  obtain ⟨Z1, a1, b1, i1, k1, hk1, t1⟩ := cf_pair K n (M := 1900) (by decide) fb.ne fb.last (fun _ => o1.last) (fun _ => o2.last) (by omega) (by omega) dv1 dv2 (f := 10) (ra := 4) (rb := two.length - base.length) s1 s2 (by decide) (by decide) (fun _ => ⟨List.all_eq_true.mp safe1 _ (List.mem_range.mpr (by omega)), by omega, by omega⟩)
  obtain ⟨Z2, a2, b2, i2, k2, hk2, t2⟩ := cf_pair K n (M := 1900) (by decide) fb.ne fb.last (fun _ => o2.last) (fun _ => o1.last) (by omega) (by omega) dv2 dv1 (f := 10) (ra := 4) (rb := one.length - base.length) s2 s1 (by decide) (by decide) (fun _ => ⟨List.all_eq_true.mp safe1 _ (List.mem_range.mpr (by omega)), by omega, by omega⟩)
  rw [← i1.unique i2.symm] at a2
  obtain ⟨Z3, a3, b3, i3, k3, hk3, t3⟩ := cf_pair K n (M := 1900) (by decide) (base := [1]) (a := one) (b := []) (by simp) (by simp) (fun _ => o1.last) (fun h => absurd rfl h) (by omega) (by simp) (dv_one _) (dv_one _) (f := 10) (ra := 0) (rb := 0) (kb := 1) s1 (fun _ => sm_zero) (by decide) (by decide) (fun h => absurd rfl h)
  obtain ⟨Z4, a4, _, i4, _⟩ := cf_pair K n (M := 1900) (by decide) (base := one) (a := []) (b := one) o1.ne o1.last (fun h => absurd rfl h) (fun _ => o1.last) (by simp) (by omega) (Dv.nil _) (Dv.refl _) (f := 2) (ra := 0) (rb := 0) (ka := 31) (kb := 31) (fun _ => sm_zero) s1 (by decide) (by decide) (fun _ => ⟨safe4, by simp, by omega⟩)
  obtain ⟨Z5, a5, _, i5, _⟩ := cf_pair K n (M := 1900) (by decide) (base := [1]) (a := []) (b := []) (by simp) (by simp) (fun h => absurd rfl h) (fun h => absurd rfl h) (by simp) (by simp) (dv_one _) (dv_one _) (f := 10) (ra := 0) (rb := 0) (ka := 1) (kb := 1) (fun _ => sm_zero) (fun _ => sm_zero) (by decide) (by decide) (fun h => absurd rfl h)
  obtain ⟨Z6, a6, _, i6, _⟩ := cf_pair K n (M := 1900) (by decide) (base := one) (a := one) (b := one) o1.ne o1.last (fun _ => o1.last) (fun _ => o1.last) (by omega) (by omega) (Dv.refl _) (Dv.refl _) (f := 2) (ra := 0) (rb := 0) (ka := 31) (kb := 31) s1 s1 (by decide) (by decide) (fun _ => ⟨safe4, by omega, by omega⟩)
  rw [show Z4 = Z3 from i4.unique i3.symm] at a4
  rw [show Z5 = [] from i5.unique ⟨rfl, fun h => absurd rfl h, Dv.nil _, Dv.nil _, fun D _ _ => Dv.nil D⟩] at a5
  rw [show Z6 = Z3 from IsG.unique (a := one) (b := []) ⟨i6.short, i6.pos, i6.l, Dv.nil _, fun D q _ => i6.all D q q⟩ i3] at a6
  -- the third row
  obtain ⟨third, hth⟩ : ∃ t, t = trimZ th := ⟨_, rfl⟩
  rw [← hth] at e4
  have thl : third.length ≤ 5 := by rw [hth]; have := trim_len_le th; omega
  have ths : ∀ i, Sm 44 (co third i) := fun i => by rw [hth, co_trim]; exact sm_co ts i
  have tht : third ≠ [] → co third (third.length - 1) ≠ 0 := by rw [hth]; exact trim_last th
  obtain ⟨Z7, a7, b7, _⟩ := cf_pair K n (M := 8999) (by decide) (base := [1]) (a := one) (b := third) (by simp) (by simp) (fun _ => o1.last) tht (by omega) (by omega) (dv_one _) (dv_one _) (f := 10) (ra := 8) (rb := third.length - 1) s1 ths (by decide) (by decide) (fun h => by
    have := List.length_pos_iff.mpr h
    exact ⟨List.all_eq_true.mp safe2 _ (List.mem_range.mpr (by omega)), by simp; omega, by simp; omega⟩)
  obtain ⟨Z8, a8, _, i8, _⟩ := cf_pair K n (M := 8999) (by decide) (base := [1]) (a := [7]) (b := third) (by simp) (by simp) (fun _ => by simp) tht (by simp) (by omega) (dv_one _) (dv_one _) (f := 10) (ra := 0) (rb := third.length - 1) (ka := 3) (kb := 44) (fun i => by
    match i with
    | 0 => exact sm_lit (by decide)
    | i + 1 => exact sm_zero) ths (by decide) (by decide) (fun h => by
    have := List.length_pos_iff.mpr h
    exact ⟨List.all_eq_true.mp safe3 _ (List.mem_range.mpr (by omega)), by simp, by simp; omega⟩)
  rw [show Z8 = [1] from i8.unique ⟨rfl, fun _ => by simp, dv_one _, dv_one _, fun D q _ => Dv.scale (c := 7) (d := 1) (by decide) (fun i => by
    match i with
    | 0 => simp
    | i + 1 => simp) q⟩] at a8
  -- what the common factor leaves
  have zn : Z1 ≠ [] := fun z => o1.ne (Dv.of_nil (a := one) (z ▸ i1.l) (fun _ => by
    exfalso
    have hl := i1.l
    rw [z] at hl
    obtain ⟨c, hc, f, _, hf⟩ := hl
    have zz := ev_inj (xs := one.map (c * ·)) (ys := []) (fun t => by
      rw [ev_smul (c := c) (xs := one) (fun j => co_map (f := (c * ·)) (Int.mul_zero c) j), hf t]
      simp [ev, hor]) (one.length - 1)
    rw [co_map (f := (c * ·)) (Int.mul_zero c), co_nil] at zz
    rcases Int.mul_eq_zero.mp zz with q | q
    · exact hc q
    · exact o1.last q))
  have z0 : co Z1 (Z1.length - 1) ≠ 0 := by have := i1.pos zn; omega
  have zl : Z1.length ≤ one.length := by
    obtain ⟨m, hm⟩ : ∃ m, Z1.length = m + 1 := ⟨Z1.length - 1, by have := List.length_pos_iff.mpr zn; omega⟩
    obtain ⟨k, hk⟩ : ∃ k, one.length = k + 1 := ⟨one.length - 1, by omega⟩
    have q1 := z0
    have q2 := o1.last
    rw [hm, Nat.add_sub_cancel] at q1
    rw [hk, Nat.add_sub_cancel] at q2
    have := (i1.l.deg hm q1 hk q2).1
    omega
  have r1 := c_rem_dv K n i1.l (fun _ => o1.last) (by omega) s1 (by decide) zn z0 (by omega) t1 (by omega)
  have r2 := c_rem_dv K n i1.r (fun _ => o2.last) (by omega) s2 (by decide) zn z0 (by omega) t1 (by omega)
  have r3 := c_rem_dv K n (i1.all base dv1 dv2) (fun _ => z0) (by omega) t1 (by omega) fb.ne fb.last (by omega) fb.sm (by decide)
  have z3l : Z3.length ≤ 13 := by
    rcases Classical.em (Z3 = []) with q | q
    · rw [q]; simp
    · obtain ⟨m, hm⟩ : ∃ m, Z3.length = m + 1 := ⟨Z3.length - 1, by have := List.length_pos_iff.mpr q; omega⟩
      obtain ⟨k, hk⟩ : ∃ k, one.length = k + 1 := ⟨one.length - 1, by omega⟩
      have q1 := i3.pos q
      have q2 := o1.last
      rw [hm, Nat.add_sub_cancel] at q1
      rw [hk, Nat.add_sub_cancel] at q2
      have := (i3.l.deg hm (by omega) hk q2).1
      omega
  have sh1 : Shx (Tz Z1) := shx_Tz t1 hk1 (by omega)
  have sh3 : Shx (Tz Z3) := shx_Tz t3 hk3 (by omega)
  have sh0 : Shx (.tuple []) := shx_Tz (xs := []) (k := 9) (fun _ => sm_zero) (by decide) (by simp)
  obtain ⟨ra1, ra2, ra3, ra4⟩ := repr_x (ds := [Tz Z1, Tz Z1, Tz Z1]) (by simp [sh1]) (by simp)
  obtain ⟨rb1, rb2, rb3, rb4⟩ := repr_x (ds := [Tz Z3, Tz Z3, .tuple [], Tz Z3]) (by simp [sh3, sh0]) (by simp)
  have a3' : callU G (n + 5) "common_factor" [Tz one, .tuple []] [] = some (Tz Z3, []) := a3
  have a4' : callU G (n + 5) "common_factor" [.tuple [], Tz one] [] = some (Tz Z3, []) := a4
  have a5' : callU G (n + 5) "common_factor" [.tuple [], .tuple []] [] = some (.tuple [], []) := a5
  have b3' : callU G (n + 5) "_law_shared" [Tz one, .tuple []] [] = some (Tz Z3, []) := b3
  have a8' : callU G (n + 5) "common_factor" [.tuple [.int 7], Tz third] [] = some (.tuple [.int 1], []) := a8
  have e4' : callU G (n + 5) "_law_row" [.int 5] u3 = some (Tz third, u4) := e4
  have eq1 : eqD (.tuple [.int 1]) (.tuple [.int 1]) = some true := by have := eqD_Tz [1] [1]; simpa using this
  have hf : fk G.ff (.ucall "_law_row" (.cons (.lit (.int 5)) .nil)) = false := by simp [ff_no K.row rfl]
  refine ⟨u4, ?_⟩
  rw [callU_eq K.right]
  refine runF_of rfl ?_
  refine run_cons (env1 := [.no, .imm (Tz base), .imm (Tz left), .no, .no, .no, .no, .no, .no, .no]) (u1 := u2) (run_par2NN' K.toKnF36 (d1 := Tz base) (d2 := Tz left) rfl (by simp) rfl (by simp) (u1 := u1) ?_ ?_)
    (run_cons (env1 := [.no, .imm (Tz base), .imm (Tz left), .imm (Tz right), .no, .no, .no, .no, .no, .no]) (u1 := u3) (run_setN rfl (by simp) ?_)
    (run_cons (env1 := [.no, .imm (Tz base), .imm (Tz left), .imm (Tz right), .imm (Tz one), .imm (Tz two), .no, .no, .no, .no]) (u1 := u3) (run_par2NN' K.toKnF36 (d1 := Tz one) (d2 := Tz two) rfl (by simp) rfl (by simp) (u1 := u3) ?_ ?_)
    (run_cons (env1 := [.no, .imm (Tz base), .imm (Tz left), .imm (Tz right), .imm (Tz one), .imm (Tz two), .imm (Tz Z1), .no, .no, .no]) (u1 := u3) (run_setN rfl (by simp) ?_)
    (run_cons (env1 := [.no, .imm (Tz base), .imm (Tz left), .imm (Tz right), .imm (Tz one), .imm (Tz two), .imm (Tz Z1), .own [Tz Z1, Tz Z1, Tz Z1], .no, .no]) (u1 := u3) (run_setF rfl (by simp) ?_)
    (run_cons (env1 := [.no, .imm (Tz base), .imm (Tz left), .imm (Tz right), .imm (Tz one), .imm (Tz two), .imm (Tz Z1), .own [Tz Z1, Tz Z1, Tz Z1], .no, .no]) (u1 := u3) ?_
    (run_cons (env1 := [.no, .imm (Tz base), .imm (Tz left), .imm (Tz right), .imm (Tz one), .imm (Tz two), .imm (Tz Z1), .own [Tz Z1, Tz Z1, Tz Z1], .no, .no]) (u1 := u3) ?_
    (run_cons (env1 := [.no, .imm (Tz base), .imm (Tz left), .imm (Tz right), .imm (Tz one), .imm (Tz two), .imm (Tz Z1), .own [Tz Z1, Tz Z1, Tz Z1], .imm (Tz Z3), .no]) (u1 := u3) (run_setN rfl (by simp) ?_)
    (run_cons (env1 := [.no, .imm (Tz base), .imm (Tz left), .imm (Tz right), .imm (Tz one), .imm (Tz two), .imm (Tz Z1), .own [Tz Z3, Tz Z3, .tuple [], Tz Z3], .imm (Tz Z3), .no]) (u1 := u3) (run_setF rfl (by simp) ?_)
    (run_cons (env1 := [.no, .imm (Tz base), .imm (Tz left), .imm (Tz right), .imm (Tz one), .imm (Tz two), .imm (Tz Z1), .own [Tz Z3, Tz Z3, .tuple [], Tz Z3], .imm (Tz Z3), .no]) (u1 := u3) ?_
    (run_cons (env1 := [.no, .imm (Tz base), .imm (Tz left), .imm (Tz right), .imm (Tz one), .imm (Tz two), .imm (Tz Z1), .own [Tz Z3, Tz Z3, .tuple [], Tz Z3], .imm (Tz Z3), .imm (Tz third)]) (u1 := u4) (run_setN rfl (by simp) ?_) (run_last ?_)))))))))))
  · simp [mkEnv, p36_right, ctx_ufn K.factors rfl, e1]
  · simp [mkEnv, p36_right, ctx_ufn K.factors rfl, e2]
  · simp [ctx_ufn K.factors rfl, e3]
  · simp [ctx_fn K.multiplied rfl, f1]
  · simp [ctx_fn K.multiplied rfl, f2]
  · simp [ctx_fn K.lshared rfl, b1]
  · simp [ctx_fn K.common_factor rfl, a1, a2]
  · simp [ra1, ra2, ra3, ra4]
  · simp [ctx_fn K.remainder rfl, r1, r2, r3]
  · simp [ctx_fn K.lshared rfl, b3']
  · simp [ctx_fn K.common_factor rfl, a3', a4', a5', a6]
  · simp [rb1, rb2, rb3, rb4]
  · simp [ctx_ufn K.row rfl, e4']
  · simp [ctx_fn K.common_factor rfl, ctx_fn K.lshared rfl, a7, b7, a8', eq1]
theorem l36_law (n : Nat) (ns : List Int) (hn : ns.length ≤ 63) : ∃ u, callU G (n + 7) "law" [.list (ns.map .int)] [] = some (.bool true, u) :=
  ⟨[], l_main4 K.toKnPot K.law K.right rfl (n + 5) (fun u hu => l36_right K n hu) ns hn⟩
end
end Pl

namespace Law
open PySem Pl
def top (i : Nat) : Stmt := PySem.Challenge.pw_hullrests_k36_whole_common_factors.main.body.getD i (.Pass ⟨0, 0, 0, 0⟩)
def e_is_whole : Pl.Entry := { name := "is_whole", qual := "is_whole", st := top 6, N := ["value"], ps := ["value"], fn := Pl.p_is_whole, kws := [] }
def e_divisor_of : Pl.Entry := { name := "divisor_of", qual := "divisor_of", st := top 7, N := ["numbers", "found", "number"], ps := ["numbers"], fn := Pl.p_divisor_of, kws := [] }
def e_trimmed : Pl.Entry := { name := "trimmed", qual := "trimmed", st := top 9, N := ["numbers", "found"], ps := ["numbers"], fn := Pl.p_trimmed, kws := [] }
def e_shortened : Pl.Entry := { name := "shortened", qual := "shortened", st := top 10, N := ["row", "part", "number"], ps := ["row"], fn := Pl.p_shortened, kws := [] }
def e_scaled : Pl.Entry := { name := "scaled", qual := "scaled", st := top 11, N := ["row", "number", "each"], ps := ["row", "number"], fn := Pl.p_scaled, kws := [] }
def e_divided : Pl.Entry := { name := "divided", qual := "divided", st := top 12, N := ["row", "other", "left", "lead", "found", "shift", "top", "number", "take", "at"], ps := ["row", "other"], fn := Pl.p_divided, kws := [] }
def e_what_remains : Pl.Entry := { name := "what_remains", qual := "what_remains", st := top 13, N := ["row", "other"], ps := ["row", "other"], fn := Pl.p_what_remains, kws := [] }
def e_shared : Pl.Entry := { name := "shared", qual := "shared", st := top 14, N := ["row", "other", "one", "two", "found"], ps := ["row", "other"], fn := Pl.p_shared, kws := [] }
def e_are_numbers : Pl.Entry := { name := "are_numbers", qual := "are_numbers", st := top 17, N := ["value", "number"], ps := ["value"], fn := Pl.p_are_numbers, kws := [] }
def e_is_row : Pl.Entry := { name := "is_row", qual := "is_row", st := top 18, N := ["value"], ps := ["value"], fn := Pl.p_is_row, kws := [] }
def e_check_row : Pl.Entry := { name := "check_row", qual := "check_row", st := top 19, N := ["value"], ps := ["value"], fn := Pl.p_check_row, kws := [] }
def e_remainder : Pl.Entry := { name := "remainder", qual := "remainder", st := top 20, N := ["row", "other"], ps := ["row", "other"], fn := Pl.p_remainder, kws := [] }
def p_common_factor : PFun := { np := 2, ns := 2, urn := false, fresh := false, body := (.cons (.drop (.call "check_row" (.cons (.var 0) .nil) [0])) (.cons (.drop (.call "check_row" (.cons (.var 1) .nil) [0])) (.cons (.ret (.call "shared" (.cons (.var 0) (.cons (.var 1) .nil)) [0, 1])) .nil))) }
def e_common_factor : Pl.Entry := { name := "common_factor", qual := "common_factor", st := top 21, N := ["row", "other"], ps := ["row", "other"], fn := p_common_factor, kws := [(0, ["other", "row"], [1, 0])] }
def e__law_pot : Pl.Entry := { name := "_law_pot", qual := "_law_pot", st := top 23, N := ["_law_script", "_law_turn", "_law_own", "_law_stir", "_law_cell"], ps := ["_law_script", "_law_turn"], fn := Pl.p__law_pot, kws := [] }
def e__law_draw : Pl.Entry := { name := "_law_draw", qual := "_law_draw", st := top 24, N := ["_law_pot_here", "_law_many", "_law_digit", "_law_step"], ps := ["_law_pot_here", "_law_many"], fn := Pl.p__law_draw, kws := [] }
def p__law_of : PFun := { np := 2, ns := 2, urn := true, fresh := false, body := (.cons (.ret (.idx (.var 1) (.ucall "_law_draw" (.cons (.bi .len (.cons (.var 1) .nil)) .nil)))) .nil) }
def e__law_of : Pl.Entry := { name := "_law_of", qual := "_law_of", st := top 25, N := ["_law_pot_here", "_law_some"], ps := ["_law_pot_here", "_law_some"], fn := p__law_of, kws := [] }
def e__law_from : Pl.Entry := { name := "_law_from", qual := "_law_from", st := top 26, N := ["_law_pot_here", "_law_low", "_law_high"], ps := ["_law_pot_here", "_law_low", "_law_high"], fn := Pl.p__law_from, kws := [] }
def e__law_common : Pl.Entry := { name := "_law_common", qual := "_law_common", st := top 27, N := ["_law_some", "_law_found", "_law_each", "_law_rest_here"], ps := ["_law_some"], fn := Pl.p__law_common, kws := [] }
def e__law_short : Pl.Entry := { name := "_law_short", qual := "_law_short", st := top 28, N := ["_law_some", "_law_by", "_law_many", "_law_each"], ps := ["_law_some"], fn := Pl.p__law_short, kws := [] }
def e__law_trim : Pl.Entry := { name := "_law_trim", qual := "_law_trim", st := top 29, N := ["_law_some", "_law_many"], ps := ["_law_some"], fn := Pl.p__law_trim, kws := [] }
def e__law_multiplied : Pl.Entry := { name := "_law_multiplied", qual := "_law_multiplied", st := top 30, N := ["_law_one", "_law_two", "_law_some", "_law_turn", "_law_k", "_law_j"], ps := ["_law_one", "_law_two"], fn := Pl.p__law_multiplied, kws := [] }
def e__law_rest : Pl.Entry := { name := "_law_rest", qual := "_law_rest", st := top 31, N := ["_law_one", "_law_two", "_law_rest_here", "_law_top", "_law_lead", "_law_shift", "_law_less", "_law_turn", "_law_each", "_law_k"], ps := ["_law_one", "_law_two"], fn := Pl.p__law_rest, kws := [] }
def e__law_row : Pl.Entry := { name := "_law_row", qual := "_law_row", st := top 32, N := ["_law_pot_here", "_law_most", "_law_size", "_law_turn"], ps := ["_law_pot_here", "_law_most"], fn := Pl.p__law_row, kws := [] }
def p__law_shared : PFun := { np := 2, ns := 3, urn := false, fresh := false, body := (.cons (.par [0, 1] (.cons (.call "_law_short" (.cons (.var 0) .nil) [0]) (.cons (.call "_law_short" (.cons (.var 1) .nil) [0]) .nil))) (.cons (.whil (.cmp .ne (.var 1) (.tup .nil)) (.cons (.par [0, 1] (.cons (.var 1) (.cons (.call "_law_rest" (.cons (.var 0) (.cons (.var 1) .nil)) [0, 1]) .nil))) .nil)) (.cons (.ret (.ite (.or (.cmp .eq (.var 0) (.tup .nil)) (.cmp .gt (.idx (.var 0) (.neg (.lit (.int 1)))) (.lit (.int 0)))) (.var 0) (.bi .tuple (.cons (.comp (.bin .sub (.lit (.int 0)) (.var 2)) (.one 2) (.seq (.var 0)) .no [2]) .nil)))) .nil))) }
def e__law_shared : Pl.Entry := { name := "_law_shared", qual := "_law_shared", st := top 33, N := ["_law_one", "_law_two", "_law_each"], ps := ["_law_one", "_law_two"], fn := p__law_shared, kws := [] }
def p__law_factors : PFun := { np := 1, ns := 3, urn := true, fresh := false, body := (.cons (.set 1 (.lst (.cons (.ucall "_law_of" (.cons (.lst (.cons (.lit (.int 1)) (.cons (.neg (.lit (.int 1))) (.cons (.lit (.int 2)) (.cons (.lit (.int 6)) .nil))))) .nil)) .nil))) (.cons (.for_ (.one 2) (.range1 (.ucall "_law_draw" (.cons (.lit (.int 3)) .nil))) (.cons (.set 1 (.call "_law_multiplied" (.cons (.var 1) (.cons (.ucall "_law_of" (.cons (.lst (.cons (.lst (.cons (.lit (.int 1)) (.cons (.lit (.int 1)) .nil))) (.cons (.lst (.cons (.neg (.lit (.int 1))) (.cons (.lit (.int 1)) .nil))) (.cons (.lst (.cons (.lit (.int 1)) (.cons (.lit (.int 2)) .nil))) (.cons (.lst (.cons (.lit (.int 0)) (.cons (.lit (.int 1)) .nil))) (.cons (.lst (.cons (.neg (.lit (.int 2))) (.cons (.lit (.int 0)) (.cons (.lit (.int 1)) .nil)))) (.cons (.lst (.cons (.lit (.int 1)) (.cons (.lit (.int 0)) (.cons (.lit (.int 1)) .nil)))) (.cons (.lst (.cons (.lit (.int 1)) (.cons (.lit (.int 1)) (.cons (.lit (.int 1)) .nil)))) (.cons (.lst (.cons (.neg (.lit (.int 3))) (.cons (.lit (.int 2)) .nil))) .nil))))))))) .nil)) .nil)) [0, 1])) .nil)) (.cons (.ret (.bi .tuple (.cons (.var 1) .nil))) .nil))) }
def e__law_factors : Pl.Entry := { name := "_law_factors", qual := "_law_factors", st := top 34, N := ["_law_pot_here", "_law_row_here", "_law_turn"], ps := ["_law_pot_here"], fn := p__law_factors, kws := [] }
def p__law_right : PFun := { np := 1, ns := 10, urn := true, fresh := false, body := (.cons (.par [1, 2] (.cons (.ucall "_law_factors" .nil) (.cons (.ucall "_law_factors" .nil) .nil))) (.cons (.set 3 (.ucall "_law_factors" .nil)) (.cons (.par [4, 5] (.cons (.call "_law_multiplied" (.cons (.var 1) (.cons (.var 2) .nil)) [0, 1]) (.cons (.call "_law_multiplied" (.cons (.var 1) (.cons (.var 3) .nil)) [0, 1]) .nil))) (.cons (.set 6 (.call "_law_shared" (.cons (.var 4) (.cons (.var 5) .nil)) [0, 1])) (.cons (.set 7 (.lst (.cons (.call "common_factor" (.cons (.var 4) (.cons (.var 5) .nil)) [0, 1]) (.cons (.call "common_factor" (.cons (.var 5) (.cons (.var 4) .nil)) [0, 1]) (.cons (.call "common_factor" (.cons (.var 5) (.cons (.var 4) .nil)) [1, 0]) .nil))))) (.cons (.ite (.cmp .ne (.bi .repr (.cons (.var 7) .nil)) (.bi .repr (.cons (.lst (.cons (.var 6) (.cons (.var 6) (.cons (.var 6) .nil)))) .nil))) (.cons (.ret (.lit (.bool false))) .nil) .nil) (.cons (.ite (.or (.cmp .ne (.call "remainder" (.cons (.var 4) (.cons (.var 6) .nil)) [0, 1]) (.tup .nil)) (.or (.cmp .ne (.call "remainder" (.cons (.var 5) (.cons (.var 6) .nil)) [0, 1]) (.tup .nil)) (.cmp .ne (.call "remainder" (.cons (.var 6) (.cons (.var 1) .nil)) [0, 1]) (.tup .nil)))) (.cons (.ret (.lit (.bool false))) .nil) .nil) (.cons (.set 8 (.call "_law_shared" (.cons (.var 4) (.cons (.tup .nil) .nil)) [0, 1])) (.cons (.set 7 (.lst (.cons (.call "common_factor" (.cons (.var 4) (.cons (.tup .nil) .nil)) [0, 1]) (.cons (.call "common_factor" (.cons (.tup .nil) (.cons (.var 4) .nil)) [0, 1]) (.cons (.call "common_factor" (.cons (.tup .nil) (.cons (.tup .nil) .nil)) [0, 1]) (.cons (.call "common_factor" (.cons (.var 4) (.cons (.var 4) .nil)) [0, 1]) .nil)))))) (.cons (.ite (.cmp .ne (.bi .repr (.cons (.var 7) .nil)) (.bi .repr (.cons (.lst (.cons (.var 8) (.cons (.var 8) (.cons (.tup .nil) (.cons (.var 8) .nil))))) .nil))) (.cons (.ret (.lit (.bool false))) .nil) .nil) (.cons (.set 9 (.ucall "_law_row" (.cons (.lit (.int 5)) .nil))) (.cons (.ret (.and (.cmp .eq (.call "common_factor" (.cons (.var 4) (.cons (.var 9) .nil)) [0, 1]) (.call "_law_shared" (.cons (.var 4) (.cons (.var 9) .nil)) [0, 1])) (.cmp .eq (.call "common_factor" (.cons (.tup (.cons (.lit (.int 7)) .nil)) (.cons (.var 9) .nil)) [0, 1]) (.tup (.cons (.lit (.int 1)) .nil))))) .nil)))))))))))) }
def e__law_right : Pl.Entry := { name := "_law_right", qual := "_law_right", st := top 35, N := ["_law_pot_here", "_law_base", "_law_left", "_law_right_here", "_law_one", "_law_two", "_law_due", "_law_told", "_law_own", "_law_third"], ps := ["_law_pot_here"], fn := p__law_right, kws := [] }
def p_law : PFun := { np := 1, ns := 2, urn := false, fresh := false, body := (.cons (.ret (.bi .all (.cons (.comp (.ncall "_law_right" (.call "_law_pot" (.cons (.var 0) (.cons (.var 1) .nil)) [0, 1]) .nil) (.one 1) (.range1 (.bi .max2 (.cons (.lit (.int 2)) (.cons (.bi .min2 (.cons (.bi .len (.cons (.var 0) .nil)) (.cons (.lit (.int 4)) .nil))) .nil)))) .no [1]) .nil))) .nil) }
def e_law : Pl.Entry := { name := "law", qual := "law", st := top 36, N := ["_law_script", "_law_turn"], ps := ["_law_script"], fn := p_law, kws := [] }
def tab : List (String × Pl.Entry) := [("is_whole", e_is_whole), ("divisor_of", e_divisor_of), ("trimmed", e_trimmed), ("shortened", e_shortened), ("scaled", e_scaled), ("divided", e_divided), ("what_remains", e_what_remains), ("shared", e_shared), ("are_numbers", e_are_numbers), ("is_row", e_is_row), ("check_row", e_check_row), ("remainder", e_remainder), ("common_factor", e_common_factor), ("_law_pot", e__law_pot), ("_law_draw", e__law_draw), ("_law_of", e__law_of), ("_law_from", e__law_from), ("_law_common", e__law_common), ("_law_short", e__law_short), ("_law_trim", e__law_trim), ("_law_multiplied", e__law_multiplied), ("_law_rest", e__law_rest), ("_law_row", e__law_row), ("_law_shared", e__law_shared), ("_law_factors", e__law_factors), ("_law_right", e__law_right), ("law", e_law)]
def globs : List (String × D) := [("MOST_LONG", .int 13)]
def pk : Pl.Pack := { T := fun f => tab.lookup f, glob := fun x => globs.lookup x, bl := ["abs", "all", "bool", "divmod", "enumerate", "int", "isinstance", "len", "list", "max", "min", "range", "repr", "reversed", "sum", "tuple"], gcd := true }
theorem chk_is_whole : chkEntry pk e_is_whole = true := by decide +kernel
theorem chk_divisor_of : chkEntry pk e_divisor_of = true := by decide +kernel
theorem chk_trimmed : chkEntry pk e_trimmed = true := by decide +kernel
theorem chk_shortened : chkEntry pk e_shortened = true := by decide +kernel
theorem chk_scaled : chkEntry pk e_scaled = true := by decide +kernel
theorem chk_divided : chkEntry pk e_divided = true := by decide +kernel
theorem chk_what_remains : chkEntry pk e_what_remains = true := by decide +kernel
theorem chk_shared : chkEntry pk e_shared = true := by decide +kernel
theorem chk_are_numbers : chkEntry pk e_are_numbers = true := by decide +kernel
theorem chk_is_row : chkEntry pk e_is_row = true := by decide +kernel
theorem chk_check_row : chkEntry pk e_check_row = true := by decide +kernel
theorem chk_remainder : chkEntry pk e_remainder = true := by decide +kernel
theorem chk_common_factor : chkEntry pk e_common_factor = true := by decide +kernel
theorem chk__law_pot : chkEntry pk e__law_pot = true := by decide +kernel
theorem chk__law_draw : chkEntry pk e__law_draw = true := by decide +kernel
theorem chk__law_of : chkEntry pk e__law_of = true := by decide +kernel
theorem chk__law_from : chkEntry pk e__law_from = true := by decide +kernel
theorem chk__law_common : chkEntry pk e__law_common = true := by decide +kernel
theorem chk__law_short : chkEntry pk e__law_short = true := by decide +kernel
theorem chk__law_trim : chkEntry pk e__law_trim = true := by decide +kernel
theorem chk__law_multiplied : chkEntry pk e__law_multiplied = true := by decide +kernel
theorem chk__law_rest : chkEntry pk e__law_rest = true := by decide +kernel
theorem chk__law_row : chkEntry pk e__law_row = true := by decide +kernel
theorem chk__law_shared : chkEntry pk e__law_shared = true := by decide +kernel
theorem chk__law_factors : chkEntry pk e__law_factors = true := by decide +kernel
theorem chk__law_right : chkEntry pk e__law_right = true := by decide +kernel
theorem chk_law : chkEntry pk e_law = true := by decide +kernel
theorem tab_ok {Q : String → Pl.Entry → Prop} (h_is_whole : Q "is_whole" e_is_whole) (h_divisor_of : Q "divisor_of" e_divisor_of) (h_trimmed : Q "trimmed" e_trimmed) (h_shortened : Q "shortened" e_shortened) (h_scaled : Q "scaled" e_scaled) (h_divided : Q "divided" e_divided) (h_what_remains : Q "what_remains" e_what_remains) (h_shared : Q "shared" e_shared) (h_are_numbers : Q "are_numbers" e_are_numbers) (h_is_row : Q "is_row" e_is_row) (h_check_row : Q "check_row" e_check_row) (h_remainder : Q "remainder" e_remainder) (h_common_factor : Q "common_factor" e_common_factor) (h__law_pot : Q "_law_pot" e__law_pot) (h__law_draw : Q "_law_draw" e__law_draw) (h__law_of : Q "_law_of" e__law_of) (h__law_from : Q "_law_from" e__law_from) (h__law_common : Q "_law_common" e__law_common) (h__law_short : Q "_law_short" e__law_short) (h__law_trim : Q "_law_trim" e__law_trim) (h__law_multiplied : Q "_law_multiplied" e__law_multiplied) (h__law_rest : Q "_law_rest" e__law_rest) (h__law_row : Q "_law_row" e__law_row) (h__law_shared : Q "_law_shared" e__law_shared) (h__law_factors : Q "_law_factors" e__law_factors) (h__law_right : Q "_law_right" e__law_right) (h_law : Q "law" e_law) : ∀ f e, pk.T f = some e → Q f e := by
  intro f e h
  exact lookup_all (l := tab) (by
    unfold tab
    simp only [List.forall_mem_cons, List.not_mem_nil, false_implies, implies_true, and_true]
    exact ⟨h_is_whole, h_divisor_of, h_trimmed, h_shortened, h_scaled, h_divided, h_what_remains, h_shared, h_are_numbers, h_is_row, h_check_row, h_remainder, h_common_factor, h__law_pot, h__law_draw, h__law_of, h__law_from, h__law_common, h__law_short, h__law_trim, h__law_multiplied, h__law_rest, h__law_row, h__law_shared, h__law_factors, h__law_right, h_law⟩) f e h
theorem chk_all : ∀ f e, pk.T f = some e → chkEntry pk e = true := tab_ok (Q := fun _ e => chkEntry pk e = true) chk_is_whole chk_divisor_of chk_trimmed chk_shortened chk_scaled chk_divided chk_what_remains chk_shared chk_are_numbers chk_is_row chk_check_row chk_remainder chk_common_factor chk__law_pot chk__law_draw chk__law_of chk__law_from chk__law_common chk__law_short chk__law_trim chk__law_multiplied chk__law_rest chk__law_row chk__law_shared chk__law_factors chk__law_right chk_law
theorem bind_is_whole : BindOk "is_whole" e_is_whole where
  pos := fun _ _ _ _ _ _ us hl => match us, hl with | [_], _ => rfl
  kw := fun q hq => by cases hq
theorem bind_divisor_of : BindOk "divisor_of" e_divisor_of where
  pos := fun _ _ _ _ _ _ us hl => match us, hl with | [_], _ => rfl
  kw := fun q hq => by cases hq
theorem bind_trimmed : BindOk "trimmed" e_trimmed where
  pos := fun _ _ _ _ _ _ us hl => match us, hl with | [_], _ => rfl
  kw := fun q hq => by cases hq
theorem bind_shortened : BindOk "shortened" e_shortened where
  pos := fun _ _ _ _ _ _ us hl => match us, hl with | [_], _ => rfl
  kw := fun q hq => by cases hq
theorem bind_scaled : BindOk "scaled" e_scaled where
  pos := fun _ _ _ _ _ _ us hl => match us, hl with | [_, _], _ => rfl
  kw := fun q hq => by cases hq
theorem bind_divided : BindOk "divided" e_divided where
  pos := fun _ _ _ _ _ _ us hl => match us, hl with | [_, _], _ => rfl
  kw := fun q hq => by cases hq
theorem bind_what_remains : BindOk "what_remains" e_what_remains where
  pos := fun _ _ _ _ _ _ us hl => match us, hl with | [_, _], _ => rfl
  kw := fun q hq => by cases hq
theorem bind_shared : BindOk "shared" e_shared where
  pos := fun _ _ _ _ _ _ us hl => match us, hl with | [_, _], _ => rfl
  kw := fun q hq => by cases hq
theorem bind_are_numbers : BindOk "are_numbers" e_are_numbers where
  pos := fun _ _ _ _ _ _ us hl => match us, hl with | [_], _ => rfl
  kw := fun q hq => by cases hq
theorem bind_is_row : BindOk "is_row" e_is_row where
  pos := fun _ _ _ _ _ _ us hl => match us, hl with | [_], _ => rfl
  kw := fun q hq => by cases hq
theorem bind_check_row : BindOk "check_row" e_check_row where
  pos := fun _ _ _ _ _ _ us hl => match us, hl with | [_], _ => rfl
  kw := fun q hq => by cases hq
theorem bind_remainder : BindOk "remainder" e_remainder where
  pos := fun _ _ _ _ _ _ us hl => match us, hl with | [_, _], _ => rfl
  kw := fun q hq => by cases hq
theorem bind_common_factor : BindOk "common_factor" e_common_factor where
  pos := fun _ _ _ _ _ _ us hl => match us, hl with | [_, _], _ => rfl
  kw := fun q hq => by
    simp only [e_common_factor, List.mem_cons, List.not_mem_nil, or_false] at hq
    subst hq
    · exact fun _ _ _ _ _ _ us ws h1 h2 => match us, ws, h1, h2 with | [], [_, _], _, _ => rfl
theorem bind__law_pot : BindOk "_law_pot" e__law_pot where
  pos := fun _ _ _ _ _ _ us hl => match us, hl with | [_, _], _ => rfl
  kw := fun q hq => by cases hq
theorem bind__law_draw : BindOk "_law_draw" e__law_draw where
  pos := fun _ _ _ _ _ _ us hl => match us, hl with | [_, _], _ => rfl
  kw := fun q hq => by cases hq
theorem bind__law_of : BindOk "_law_of" e__law_of where
  pos := fun _ _ _ _ _ _ us hl => match us, hl with | [_, _], _ => rfl
  kw := fun q hq => by cases hq
theorem bind__law_from : BindOk "_law_from" e__law_from where
  pos := fun _ _ _ _ _ _ us hl => match us, hl with | [_, _, _], _ => rfl
  kw := fun q hq => by cases hq
theorem bind__law_common : BindOk "_law_common" e__law_common where
  pos := fun _ _ _ _ _ _ us hl => match us, hl with | [_], _ => rfl
  kw := fun q hq => by cases hq
theorem bind__law_short : BindOk "_law_short" e__law_short where
  pos := fun _ _ _ _ _ _ us hl => match us, hl with | [_], _ => rfl
  kw := fun q hq => by cases hq
theorem bind__law_trim : BindOk "_law_trim" e__law_trim where
  pos := fun _ _ _ _ _ _ us hl => match us, hl with | [_], _ => rfl
  kw := fun q hq => by cases hq
theorem bind__law_multiplied : BindOk "_law_multiplied" e__law_multiplied where
  pos := fun _ _ _ _ _ _ us hl => match us, hl with | [_, _], _ => rfl
  kw := fun q hq => by cases hq
theorem bind__law_rest : BindOk "_law_rest" e__law_rest where
  pos := fun _ _ _ _ _ _ us hl => match us, hl with | [_, _], _ => rfl
  kw := fun q hq => by cases hq
theorem bind__law_row : BindOk "_law_row" e__law_row where
  pos := fun _ _ _ _ _ _ us hl => match us, hl with | [_, _], _ => rfl
  kw := fun q hq => by cases hq
theorem bind__law_shared : BindOk "_law_shared" e__law_shared where
  pos := fun _ _ _ _ _ _ us hl => match us, hl with | [_, _], _ => rfl
  kw := fun q hq => by cases hq
theorem bind__law_factors : BindOk "_law_factors" e__law_factors where
  pos := fun _ _ _ _ _ _ us hl => match us, hl with | [_], _ => rfl
  kw := fun q hq => by cases hq
theorem bind__law_right : BindOk "_law_right" e__law_right where
  pos := fun _ _ _ _ _ _ us hl => match us, hl with | [_], _ => rfl
  kw := fun q hq => by cases hq
theorem bind_law : BindOk "law" e_law where
  pos := fun _ _ _ _ _ _ us hl => match us, hl with | [_], _ => rfl
  kw := fun q hq => by cases hq
section
open PySem.W
theorem facts {K : PySem.W.Frag} {h : Heap} {mg : Str → Option Value} (X : K.In h) (G : h.Ns mainGlobals mg)
    {f0 f1 f2 f3 f4 f5 f6 f7 f8 f9 f10 f11 f12 f13 f14 f15 f16 f17 f18 f19 f20 f21 f22 f23 f24 f25 f26 : Addr} {od0 an0 od1 an1 od2 an2 od3 an3 od4 an4 od5 an5 od6 an6 od7 an7 od8 an8 od9 an9 od10 an10 od11 an11 od12 an12 od13 an13 od14 an14 od15 an15 od16 an16 od17 an17 od18 an18 od19 an19 od20 an20 od21 an21 od22 an22 od23 an23 od24 an24 od25 an25 od26 an26 : Option Addr} {sl0 sl1 sl2 sl3 sl4 sl5 sl6 sl7 sl8 sl9 sl10 sl11 sl12 sl13 sl14 sl15 sl16 sl17 sl18 sl19 sl20 sl21 sl22 sl23 sl24 sl25 sl26 : Array (Option Value)} {oc0 kV0 dc0 pm0 cd0 ct0 oc1 kV1 dc1 pm1 cd1 ct1 oc2 kV2 dc2 pm2 cd2 ct2 oc3 kV3 dc3 pm3 cd3 ct3 oc4 kV4 dc4 pm4 cd4 ct4 oc5 kV5 dc5 pm5 cd5 ct5 oc6 kV6 dc6 pm6 cd6 ct6 oc7 kV7 dc7 pm7 cd7 ct7 oc8 kV8 dc8 pm8 cd8 ct8 oc9 kV9 dc9 pm9 cd9 ct9 oc10 kV10 dc10 pm10 cd10 ct10 oc11 kV11 dc11 pm11 cd11 ct11 oc12 kV12 dc12 pm12 cd12 ct12 oc13 kV13 dc13 pm13 cd13 ct13 oc14 kV14 dc14 pm14 cd14 ct14 oc15 kV15 dc15 pm15 cd15 ct15 oc16 kV16 dc16 pm16 cd16 ct16 oc17 kV17 dc17 pm17 cd17 ct17 oc18 kV18 dc18 pm18 cd18 ct18 oc19 kV19 dc19 pm19 cd19 ct19 oc20 kV20 dc20 pm20 cd20 ct20 oc21 kV21 dc21 pm21 cd21 ct21 oc22 kV22 dc22 pm22 cd22 ct22 oc23 kV23 dc23 pm23 cd23 ct23 oc24 kV24 dc24 pm24 cd24 ct24 oc25 kV25 dc25 pm25 cd25 ct25 oc26 kV26 dc26 pm26 cd26 ct26 : Value}
    (a0 : PySem.W.nsIn K mainGlobals "is_whole" = some (some (.ref f0))) (l0 : K.lookup f0 = some ⟨oc0, od0, .func (PySem.W.fnOf "is_whole" "is_whole" (L2.defArgs (top 6)) (L2.defBody (top 6)) (L2.defScope (top 6)) .none kV0 dc0 pm0 an0 cd0 ct0), sl0⟩) (c0 : PySem.W.codeIn K cd0 "is_whole" = true) (k0 : PySem.W.keepIn K (.ref f0) = true)
    (a1 : PySem.W.nsIn K mainGlobals "divisor_of" = some (some (.ref f1))) (l1 : K.lookup f1 = some ⟨oc1, od1, .func (PySem.W.fnOf "divisor_of" "divisor_of" (L2.defArgs (top 7)) (L2.defBody (top 7)) (L2.defScope (top 7)) .none kV1 dc1 pm1 an1 cd1 ct1), sl1⟩) (c1 : PySem.W.codeIn K cd1 "divisor_of" = true) (k1 : PySem.W.keepIn K (.ref f1) = true)
    (a2 : PySem.W.nsIn K mainGlobals "trimmed" = some (some (.ref f2))) (l2 : K.lookup f2 = some ⟨oc2, od2, .func (PySem.W.fnOf "trimmed" "trimmed" (L2.defArgs (top 9)) (L2.defBody (top 9)) (L2.defScope (top 9)) .none kV2 dc2 pm2 an2 cd2 ct2), sl2⟩) (c2 : PySem.W.codeIn K cd2 "trimmed" = true) (k2 : PySem.W.keepIn K (.ref f2) = true)
    (a3 : PySem.W.nsIn K mainGlobals "shortened" = some (some (.ref f3))) (l3 : K.lookup f3 = some ⟨oc3, od3, .func (PySem.W.fnOf "shortened" "shortened" (L2.defArgs (top 10)) (L2.defBody (top 10)) (L2.defScope (top 10)) .none kV3 dc3 pm3 an3 cd3 ct3), sl3⟩) (c3 : PySem.W.codeIn K cd3 "shortened" = true) (k3 : PySem.W.keepIn K (.ref f3) = true)
    (a4 : PySem.W.nsIn K mainGlobals "scaled" = some (some (.ref f4))) (l4 : K.lookup f4 = some ⟨oc4, od4, .func (PySem.W.fnOf "scaled" "scaled" (L2.defArgs (top 11)) (L2.defBody (top 11)) (L2.defScope (top 11)) .none kV4 dc4 pm4 an4 cd4 ct4), sl4⟩) (c4 : PySem.W.codeIn K cd4 "scaled" = true) (k4 : PySem.W.keepIn K (.ref f4) = true)
    (a5 : PySem.W.nsIn K mainGlobals "divided" = some (some (.ref f5))) (l5 : K.lookup f5 = some ⟨oc5, od5, .func (PySem.W.fnOf "divided" "divided" (L2.defArgs (top 12)) (L2.defBody (top 12)) (L2.defScope (top 12)) .none kV5 dc5 pm5 an5 cd5 ct5), sl5⟩) (c5 : PySem.W.codeIn K cd5 "divided" = true) (k5 : PySem.W.keepIn K (.ref f5) = true)
    (a6 : PySem.W.nsIn K mainGlobals "what_remains" = some (some (.ref f6))) (l6 : K.lookup f6 = some ⟨oc6, od6, .func (PySem.W.fnOf "what_remains" "what_remains" (L2.defArgs (top 13)) (L2.defBody (top 13)) (L2.defScope (top 13)) .none kV6 dc6 pm6 an6 cd6 ct6), sl6⟩) (c6 : PySem.W.codeIn K cd6 "what_remains" = true) (k6 : PySem.W.keepIn K (.ref f6) = true)
    (a7 : PySem.W.nsIn K mainGlobals "shared" = some (some (.ref f7))) (l7 : K.lookup f7 = some ⟨oc7, od7, .func (PySem.W.fnOf "shared" "shared" (L2.defArgs (top 14)) (L2.defBody (top 14)) (L2.defScope (top 14)) .none kV7 dc7 pm7 an7 cd7 ct7), sl7⟩) (c7 : PySem.W.codeIn K cd7 "shared" = true) (k7 : PySem.W.keepIn K (.ref f7) = true)
    (a8 : PySem.W.nsIn K mainGlobals "are_numbers" = some (some (.ref f8))) (l8 : K.lookup f8 = some ⟨oc8, od8, .func (PySem.W.fnOf "are_numbers" "are_numbers" (L2.defArgs (top 17)) (L2.defBody (top 17)) (L2.defScope (top 17)) .none kV8 dc8 pm8 an8 cd8 ct8), sl8⟩) (c8 : PySem.W.codeIn K cd8 "are_numbers" = true) (k8 : PySem.W.keepIn K (.ref f8) = true)
    (a9 : PySem.W.nsIn K mainGlobals "is_row" = some (some (.ref f9))) (l9 : K.lookup f9 = some ⟨oc9, od9, .func (PySem.W.fnOf "is_row" "is_row" (L2.defArgs (top 18)) (L2.defBody (top 18)) (L2.defScope (top 18)) .none kV9 dc9 pm9 an9 cd9 ct9), sl9⟩) (c9 : PySem.W.codeIn K cd9 "is_row" = true) (k9 : PySem.W.keepIn K (.ref f9) = true)
    (a10 : PySem.W.nsIn K mainGlobals "check_row" = some (some (.ref f10))) (l10 : K.lookup f10 = some ⟨oc10, od10, .func (PySem.W.fnOf "check_row" "check_row" (L2.defArgs (top 19)) (L2.defBody (top 19)) (L2.defScope (top 19)) .none kV10 dc10 pm10 an10 cd10 ct10), sl10⟩) (c10 : PySem.W.codeIn K cd10 "check_row" = true) (k10 : PySem.W.keepIn K (.ref f10) = true)
    (a11 : PySem.W.nsIn K mainGlobals "remainder" = some (some (.ref f11))) (l11 : K.lookup f11 = some ⟨oc11, od11, .func (PySem.W.fnOf "remainder" "remainder" (L2.defArgs (top 20)) (L2.defBody (top 20)) (L2.defScope (top 20)) .none kV11 dc11 pm11 an11 cd11 ct11), sl11⟩) (c11 : PySem.W.codeIn K cd11 "remainder" = true) (k11 : PySem.W.keepIn K (.ref f11) = true)
    (a12 : PySem.W.nsIn K mainGlobals "common_factor" = some (some (.ref f12))) (l12 : K.lookup f12 = some ⟨oc12, od12, .func (PySem.W.fnOf "common_factor" "common_factor" (L2.defArgs (top 21)) (L2.defBody (top 21)) (L2.defScope (top 21)) .none kV12 dc12 pm12 an12 cd12 ct12), sl12⟩) (c12 : PySem.W.codeIn K cd12 "common_factor" = true) (k12 : PySem.W.keepIn K (.ref f12) = true)
    (a13 : PySem.W.nsIn K mainGlobals "_law_pot" = some (some (.ref f13))) (l13 : K.lookup f13 = some ⟨oc13, od13, .func (PySem.W.fnOf "_law_pot" "_law_pot" (L2.defArgs (top 23)) (L2.defBody (top 23)) (L2.defScope (top 23)) .none kV13 dc13 pm13 an13 cd13 ct13), sl13⟩) (c13 : PySem.W.codeIn K cd13 "_law_pot" = true) (k13 : PySem.W.keepIn K (.ref f13) = true)
    (a14 : PySem.W.nsIn K mainGlobals "_law_draw" = some (some (.ref f14))) (l14 : K.lookup f14 = some ⟨oc14, od14, .func (PySem.W.fnOf "_law_draw" "_law_draw" (L2.defArgs (top 24)) (L2.defBody (top 24)) (L2.defScope (top 24)) .none kV14 dc14 pm14 an14 cd14 ct14), sl14⟩) (c14 : PySem.W.codeIn K cd14 "_law_draw" = true) (k14 : PySem.W.keepIn K (.ref f14) = true)
    (a15 : PySem.W.nsIn K mainGlobals "_law_of" = some (some (.ref f15))) (l15 : K.lookup f15 = some ⟨oc15, od15, .func (PySem.W.fnOf "_law_of" "_law_of" (L2.defArgs (top 25)) (L2.defBody (top 25)) (L2.defScope (top 25)) .none kV15 dc15 pm15 an15 cd15 ct15), sl15⟩) (c15 : PySem.W.codeIn K cd15 "_law_of" = true) (k15 : PySem.W.keepIn K (.ref f15) = true)
    (a16 : PySem.W.nsIn K mainGlobals "_law_from" = some (some (.ref f16))) (l16 : K.lookup f16 = some ⟨oc16, od16, .func (PySem.W.fnOf "_law_from" "_law_from" (L2.defArgs (top 26)) (L2.defBody (top 26)) (L2.defScope (top 26)) .none kV16 dc16 pm16 an16 cd16 ct16), sl16⟩) (c16 : PySem.W.codeIn K cd16 "_law_from" = true) (k16 : PySem.W.keepIn K (.ref f16) = true)
    (a17 : PySem.W.nsIn K mainGlobals "_law_common" = some (some (.ref f17))) (l17 : K.lookup f17 = some ⟨oc17, od17, .func (PySem.W.fnOf "_law_common" "_law_common" (L2.defArgs (top 27)) (L2.defBody (top 27)) (L2.defScope (top 27)) .none kV17 dc17 pm17 an17 cd17 ct17), sl17⟩) (c17 : PySem.W.codeIn K cd17 "_law_common" = true) (k17 : PySem.W.keepIn K (.ref f17) = true)
    (a18 : PySem.W.nsIn K mainGlobals "_law_short" = some (some (.ref f18))) (l18 : K.lookup f18 = some ⟨oc18, od18, .func (PySem.W.fnOf "_law_short" "_law_short" (L2.defArgs (top 28)) (L2.defBody (top 28)) (L2.defScope (top 28)) .none kV18 dc18 pm18 an18 cd18 ct18), sl18⟩) (c18 : PySem.W.codeIn K cd18 "_law_short" = true) (k18 : PySem.W.keepIn K (.ref f18) = true)
    (a19 : PySem.W.nsIn K mainGlobals "_law_trim" = some (some (.ref f19))) (l19 : K.lookup f19 = some ⟨oc19, od19, .func (PySem.W.fnOf "_law_trim" "_law_trim" (L2.defArgs (top 29)) (L2.defBody (top 29)) (L2.defScope (top 29)) .none kV19 dc19 pm19 an19 cd19 ct19), sl19⟩) (c19 : PySem.W.codeIn K cd19 "_law_trim" = true) (k19 : PySem.W.keepIn K (.ref f19) = true)
    (a20 : PySem.W.nsIn K mainGlobals "_law_multiplied" = some (some (.ref f20))) (l20 : K.lookup f20 = some ⟨oc20, od20, .func (PySem.W.fnOf "_law_multiplied" "_law_multiplied" (L2.defArgs (top 30)) (L2.defBody (top 30)) (L2.defScope (top 30)) .none kV20 dc20 pm20 an20 cd20 ct20), sl20⟩) (c20 : PySem.W.codeIn K cd20 "_law_multiplied" = true) (k20 : PySem.W.keepIn K (.ref f20) = true)
    (a21 : PySem.W.nsIn K mainGlobals "_law_rest" = some (some (.ref f21))) (l21 : K.lookup f21 = some ⟨oc21, od21, .func (PySem.W.fnOf "_law_rest" "_law_rest" (L2.defArgs (top 31)) (L2.defBody (top 31)) (L2.defScope (top 31)) .none kV21 dc21 pm21 an21 cd21 ct21), sl21⟩) (c21 : PySem.W.codeIn K cd21 "_law_rest" = true) (k21 : PySem.W.keepIn K (.ref f21) = true)
    (a22 : PySem.W.nsIn K mainGlobals "_law_row" = some (some (.ref f22))) (l22 : K.lookup f22 = some ⟨oc22, od22, .func (PySem.W.fnOf "_law_row" "_law_row" (L2.defArgs (top 32)) (L2.defBody (top 32)) (L2.defScope (top 32)) .none kV22 dc22 pm22 an22 cd22 ct22), sl22⟩) (c22 : PySem.W.codeIn K cd22 "_law_row" = true) (k22 : PySem.W.keepIn K (.ref f22) = true)
    (a23 : PySem.W.nsIn K mainGlobals "_law_shared" = some (some (.ref f23))) (l23 : K.lookup f23 = some ⟨oc23, od23, .func (PySem.W.fnOf "_law_shared" "_law_shared" (L2.defArgs (top 33)) (L2.defBody (top 33)) (L2.defScope (top 33)) .none kV23 dc23 pm23 an23 cd23 ct23), sl23⟩) (c23 : PySem.W.codeIn K cd23 "_law_shared" = true) (k23 : PySem.W.keepIn K (.ref f23) = true)
    (a24 : PySem.W.nsIn K mainGlobals "_law_factors" = some (some (.ref f24))) (l24 : K.lookup f24 = some ⟨oc24, od24, .func (PySem.W.fnOf "_law_factors" "_law_factors" (L2.defArgs (top 34)) (L2.defBody (top 34)) (L2.defScope (top 34)) .none kV24 dc24 pm24 an24 cd24 ct24), sl24⟩) (c24 : PySem.W.codeIn K cd24 "_law_factors" = true) (k24 : PySem.W.keepIn K (.ref f24) = true)
    (a25 : PySem.W.nsIn K mainGlobals "_law_right" = some (some (.ref f25))) (l25 : K.lookup f25 = some ⟨oc25, od25, .func (PySem.W.fnOf "_law_right" "_law_right" (L2.defArgs (top 35)) (L2.defBody (top 35)) (L2.defScope (top 35)) .none kV25 dc25 pm25 an25 cd25 ct25), sl25⟩) (c25 : PySem.W.codeIn K cd25 "_law_right" = true) (k25 : PySem.W.keepIn K (.ref f25) = true)
    (a26 : PySem.W.nsIn K mainGlobals "law" = some (some (.ref f26))) (l26 : K.lookup f26 = some ⟨oc26, od26, .func (PySem.W.fnOf "law" "law" (L2.defArgs (top 36)) (L2.defBody (top 36)) (L2.defScope (top 36)) .none kV26 dc26 pm26 an26 cd26 ct26), sl26⟩) (c26 : PySem.W.codeIn K cd26 "law" = true) (k26 : PySem.W.keepIn K (.ref f26) = true)
    (z_abs : PySem.W.nsIn K mainGlobals "abs" = some none)
    (z_all : PySem.W.nsIn K mainGlobals "all" = some none)
    (z_bool : PySem.W.nsIn K mainGlobals "bool" = some none)
    (z_divmod : PySem.W.nsIn K mainGlobals "divmod" = some none)
    (z_enumerate : PySem.W.nsIn K mainGlobals "enumerate" = some none)
    (z_int : PySem.W.nsIn K mainGlobals "int" = some none)
    (z_isinstance : PySem.W.nsIn K mainGlobals "isinstance" = some none)
    (z_len : PySem.W.nsIn K mainGlobals "len" = some none)
    (z_list : PySem.W.nsIn K mainGlobals "list" = some none)
    (z_max : PySem.W.nsIn K mainGlobals "max" = some none)
    (z_min : PySem.W.nsIn K mainGlobals "min" = some none)
    (z_range : PySem.W.nsIn K mainGlobals "range" = some none)
    (z_repr : PySem.W.nsIn K mainGlobals "repr" = some none)
    (z_reversed : PySem.W.nsIn K mainGlobals "reversed" = some none)
    (z_sum : PySem.W.nsIn K mainGlobals "sum" = some none)
    (z_tuple : PySem.W.nsIn K mainGlobals "tuple" = some none)
    (zg : PySem.W.nsIn K mainGlobals "gcd" = some (some (.builtin "math.gcd")))
    {t_MOST_LONG : Tok} (zc_MOST_LONG : PySem.W.nsIn K mainGlobals "MOST_LONG" = some (some (.int 13 t_MOST_LONG)))
    : Pl.Facts K mg pk ∧ L2.Fun K (Str.ofString "law") "law" (top 36) f26 (PySem.W.fnOf "law" "law" (L2.defArgs (top 36)) (L2.defBody (top 36)) (L2.defScope (top 36)) .none kV26 dc26 pm26 an26 cd26 ct26) ∧ mg "law" = some (.ref f26) := by
  refine ⟨⟨?_, ?_, ?_, ?_⟩, L2.fun_mk l26 c26 k26, PySem.W.mg_of X G a26⟩
  · exact tab_ok (Q := fun f e => Has K mg f e) (has_of (PySem.W.mg_of X G a0) (L2.fun_mk (st := top 6) l0 c0 k0) bind_is_whole (by decide)) (has_of (PySem.W.mg_of X G a1) (L2.fun_mk (st := top 7) l1 c1 k1) bind_divisor_of (by decide)) (has_of (PySem.W.mg_of X G a2) (L2.fun_mk (st := top 9) l2 c2 k2) bind_trimmed (by decide)) (has_of (PySem.W.mg_of X G a3) (L2.fun_mk (st := top 10) l3 c3 k3) bind_shortened (by decide)) (has_of (PySem.W.mg_of X G a4) (L2.fun_mk (st := top 11) l4 c4 k4) bind_scaled (by decide)) (has_of (PySem.W.mg_of X G a5) (L2.fun_mk (st := top 12) l5 c5 k5) bind_divided (by decide)) (has_of (PySem.W.mg_of X G a6) (L2.fun_mk (st := top 13) l6 c6 k6) bind_what_remains (by decide)) (has_of (PySem.W.mg_of X G a7) (L2.fun_mk (st := top 14) l7 c7 k7) bind_shared (by decide)) (has_of (PySem.W.mg_of X G a8) (L2.fun_mk (st := top 17) l8 c8 k8) bind_are_numbers (by decide)) (has_of (PySem.W.mg_of X G a9) (L2.fun_mk (st := top 18) l9 c9 k9) bind_is_row (by decide)) (has_of (PySem.W.mg_of X G a10) (L2.fun_mk (st := top 19) l10 c10 k10) bind_check_row (by decide)) (has_of (PySem.W.mg_of X G a11) (L2.fun_mk (st := top 20) l11 c11 k11) bind_remainder (by decide)) (has_of (PySem.W.mg_of X G a12) (L2.fun_mk (st := top 21) l12 c12 k12) bind_common_factor (by decide)) (has_of (PySem.W.mg_of X G a13) (L2.fun_mk (st := top 23) l13 c13 k13) bind__law_pot (by decide)) (has_of (PySem.W.mg_of X G a14) (L2.fun_mk (st := top 24) l14 c14 k14) bind__law_draw (by decide)) (has_of (PySem.W.mg_of X G a15) (L2.fun_mk (st := top 25) l15 c15 k15) bind__law_of (by decide)) (has_of (PySem.W.mg_of X G a16) (L2.fun_mk (st := top 26) l16 c16 k16) bind__law_from (by decide)) (has_of (PySem.W.mg_of X G a17) (L2.fun_mk (st := top 27) l17 c17 k17) bind__law_common (by decide)) (has_of (PySem.W.mg_of X G a18) (L2.fun_mk (st := top 28) l18 c18 k18) bind__law_short (by decide)) (has_of (PySem.W.mg_of X G a19) (L2.fun_mk (st := top 29) l19 c19 k19) bind__law_trim (by decide)) (has_of (PySem.W.mg_of X G a20) (L2.fun_mk (st := top 30) l20 c20 k20) bind__law_multiplied (by decide)) (has_of (PySem.W.mg_of X G a21) (L2.fun_mk (st := top 31) l21 c21 k21) bind__law_rest (by decide)) (has_of (PySem.W.mg_of X G a22) (L2.fun_mk (st := top 32) l22 c22 k22) bind__law_row (by decide)) (has_of (PySem.W.mg_of X G a23) (L2.fun_mk (st := top 33) l23 c23 k23) bind__law_shared (by decide)) (has_of (PySem.W.mg_of X G a24) (L2.fun_mk (st := top 34) l24 c24 k24) bind__law_factors (by decide)) (has_of (PySem.W.mg_of X G a25) (L2.fun_mk (st := top 35) l25 c25 k25) bind__law_right (by decide)) (has_of (PySem.W.mg_of X G a26) (L2.fun_mk (st := top 36) l26 c26 k26) bind_law (by decide))
  · intro x hx
    simp only [pk, List.mem_cons, List.not_mem_nil, or_false] at hx
    rcases hx with rfl | rfl | rfl | rfl | rfl | rfl | rfl | rfl | rfl | rfl | rfl | rfl | rfl | rfl | rfl | rfl
    · exact PySem.W.mg_none_of X G z_abs
    · exact PySem.W.mg_none_of X G z_all
    · exact PySem.W.mg_none_of X G z_bool
    · exact PySem.W.mg_none_of X G z_divmod
    · exact PySem.W.mg_none_of X G z_enumerate
    · exact PySem.W.mg_none_of X G z_int
    · exact PySem.W.mg_none_of X G z_isinstance
    · exact PySem.W.mg_none_of X G z_len
    · exact PySem.W.mg_none_of X G z_list
    · exact PySem.W.mg_none_of X G z_max
    · exact PySem.W.mg_none_of X G z_min
    · exact PySem.W.mg_none_of X G z_range
    · exact PySem.W.mg_none_of X G z_repr
    · exact PySem.W.mg_none_of X G z_reversed
    · exact PySem.W.mg_none_of X G z_sum
    · exact PySem.W.mg_none_of X G z_tuple
  · exact fun _ => PySem.W.mg_of X G zg
  · exact glob_all (l := globs) (by
      unfold globs
      simp only [List.forall_mem_cons, List.not_mem_nil, false_implies, implies_true, and_true]
      exact ⟨.int 13, _, PySem.W.mg_of X G zc_MOST_LONG, ⟨_, rfl⟩, fun F => .int 13⟩)
end
theorem kn : Pl.Kn36 pk.G where
  divisor_of := rfl
  trimmed := rfl
  shortened := rfl
  divided := rfl
  what_remains := rfl
  is_whole := rfl
  are_numbers := rfl
  is_row := rfl
  check_row := rfl
  remainder := rfl
  most := rfl
  common := rfl
  short := rfl
  trim := rfl
  rest := rfl
  shared := rfl
  scaled := rfl
  lshared := rfl
  draw := rfl
  from_ := rfl
  of_ := rfl
  pot := rfl
  row := rfl
  multiplied := rfl
  common_factor := rfl
  factors := rfl
  right := rfl
  law := rfl
theorem plain : ∀ ns : List Int, ns.length ≤ 63 → ∃ u, callU pk.G 40 "law" [.list (ns.map .int)] [] = some (.bool true, u) := fun ns hn => Pl.l36_law kn 33 ns hn

theorem walk {q : Program} {loose : List Str} {XP : (Str → Option Value) → Heap → Prop} {YP : World → Heap → Prop} {d : DefRec} {K : Params → PySem.W.Frag} (hdf : d.params.defaults = []) (hY : ∀ (w : World) (h : Heap), YP w h → (K w.params).In h)
    (F : ∀ (w : World) (mg : Str → Option Value) (fa : Addr) (h : Heap), (K w.params).In h → h.Ns mainGlobals mg → mg d.name = some (.ref fa) →
      ∃ fd : FuncData, (∀ (s : Shared) (u : Value), BindsTo s fd ⟨[u], []⟩ [("_law_script", u)]) ∧ Pl.Facts (K w.params) mg pk ∧ L2.Fun (K w.params) (Str.ofString "law") "law" (top 36) fa fd) :
    PySem.W.WalkO q loose XP YP PySem.Challenge.rw_hullrests_k36_whole_common_factors.row.toRowW d [] (fun f vs => PySem.call f vs) :=
  law_walk (l := PySem.Challenge.rw_hullrests_k36_whole_common_factors) (m := 63) (n := 40) (p := pk) (e := e_law) rfl (by decide) hdf ⟨rfl, by decide, by decide⟩ hY rfl rfl rfl rfl rfl chk_all F plain
end Law
open PySem PySem.W PyProof.Rows
set_option maxRecDepth 100000 in
set_option maxHeartbeats 0 in
theorem PySem.Challenge.cw_hullrests_k36_whole_common_factors_holds : PySem.Challenge.rw_hullrests_k36_whole_common_factors.Holds := by
  w_on; o_law; k_head; (case hw => w_witness2)
  k_fill
  refine Law.walk rfl (fun w h Y => PySem.W.kIn_of Y) ?F
  case F =>
    intro w mg fa h KX G hmg
    refine' Exists.intro _ (And.intro (fun _ _ => .of_eq rfl) (Pl.fin_of (Law.facts KX G ?a0 ?l0 ?c0 ?k0 ?a1 ?l1 ?c1 ?k1 ?a2 ?l2 ?c2 ?k2 ?a3 ?l3 ?c3 ?k3 ?a4 ?l4 ?c4 ?k4 ?a5 ?l5 ?c5 ?k5 ?a6 ?l6 ?c6 ?k6 ?a7 ?l7 ?c7 ?k7 ?a8 ?l8 ?c8 ?k8 ?a9 ?l9 ?c9 ?k9 ?a10 ?l10 ?c10 ?k10 ?a11 ?l11 ?c11 ?k11 ?a12 ?l12 ?c12 ?k12 ?a13 ?l13 ?c13 ?k13 ?a14 ?l14 ?c14 ?k14 ?a15 ?l15 ?c15 ?k15 ?a16 ?l16 ?c16 ?k16 ?a17 ?l17 ?c17 ?k17 ?a18 ?l18 ?c18 ?k18 ?a19 ?l19 ?c19 ?k19 ?a20 ?l20 ?c20 ?k20 ?a21 ?l21 ?c21 ?k21 ?a22 ?l22 ?c22 ?k22 ?a23 ?l23 ?c23 ?k23 ?a24 ?l24 ?c24 ?k24 ?a25 ?l25 ?c25 ?k25 ?a26 ?l26 ?c26 ?k26 ?z_abs ?z_all ?z_bool ?z_divmod ?z_enumerate ?z_int ?z_isinstance ?z_len ?z_list ?z_max ?z_min ?z_range ?z_repr ?z_reversed ?z_sum ?z_tuple ?zg ?zc_MOST_LONG) hmg))
    (case a0 => k_is)
    (case l0 => k_is)
    (case c0 => k_is)
    (case k0 => k_is)
    (case a1 => k_is)
    (case l1 => k_is)
    (case c1 => k_is)
    (case k1 => k_is)
    (case a2 => k_is)
    (case l2 => k_is)
    (case c2 => k_is)
    (case k2 => k_is)
    (case a3 => k_is)
    (case l3 => k_is)
    (case c3 => k_is)
    (case k3 => k_is)
    (case a4 => k_is)
    (case l4 => k_is)
    (case c4 => k_is)
    (case k4 => k_is)
    (case a5 => k_is)
    (case l5 => k_is)
    (case c5 => k_is)
    (case k5 => k_is)
    (case a6 => k_is)
    (case l6 => k_is)
    (case c6 => k_is)
    (case k6 => k_is)
    (case a7 => k_is)
    (case l7 => k_is)
    (case c7 => k_is)
    (case k7 => k_is)
    (case a8 => k_is)
    (case l8 => k_is)
    (case c8 => k_is)
    (case k8 => k_is)
    (case a9 => k_is)
    (case l9 => k_is)
    (case c9 => k_is)
    (case k9 => k_is)
    (case a10 => k_is)
    (case l10 => k_is)
    (case c10 => k_is)
    (case k10 => k_is)
    (case a11 => k_is)
    (case l11 => k_is)
    (case c11 => k_is)
    (case k11 => k_is)
    (case a12 => k_is)
    (case l12 => k_is)
    (case c12 => k_is)
    (case k12 => k_is)
    (case a13 => k_is)
    (case l13 => k_is)
    (case c13 => k_is)
    (case k13 => k_is)
    (case a14 => k_is)
    (case l14 => k_is)
    (case c14 => k_is)
    (case k14 => k_is)
    (case a15 => k_is)
    (case l15 => k_is)
    (case c15 => k_is)
    (case k15 => k_is)
    (case a16 => k_is)
    (case l16 => k_is)
    (case c16 => k_is)
    (case k16 => k_is)
    (case a17 => k_is)
    (case l17 => k_is)
    (case c17 => k_is)
    (case k17 => k_is)
    (case a18 => k_is)
    (case l18 => k_is)
    (case c18 => k_is)
    (case k18 => k_is)
    (case a19 => k_is)
    (case l19 => k_is)
    (case c19 => k_is)
    (case k19 => k_is)
    (case a20 => k_is)
    (case l20 => k_is)
    (case c20 => k_is)
    (case k20 => k_is)
    (case a21 => k_is)
    (case l21 => k_is)
    (case c21 => k_is)
    (case k21 => k_is)
    (case a22 => k_is)
    (case l22 => k_is)
    (case c22 => k_is)
    (case k22 => k_is)
    (case a23 => k_is)
    (case l23 => k_is)
    (case c23 => k_is)
    (case k23 => k_is)
    (case a24 => k_is)
    (case l24 => k_is)
    (case c24 => k_is)
    (case k24 => k_is)
    (case a25 => k_is)
    (case l25 => k_is)
    (case c25 => k_is)
    (case k25 => k_is)
    (case a26 => k_is)
    (case l26 => k_is)
    (case c26 => k_is)
    (case k26 => k_is)
    (case z_abs => k_is)
    (case z_all => k_is)
    (case z_bool => k_is)
    (case z_divmod => k_is)
    (case z_enumerate => k_is)
    (case z_int => k_is)
    (case z_isinstance => k_is)
    (case z_len => k_is)
    (case z_list => k_is)
    (case z_max => k_is)
    (case z_min => k_is)
    (case z_range => k_is)
    (case z_repr => k_is)
    (case z_reversed => k_is)
    (case z_sum => k_is)
    (case z_tuple => k_is)
    (case zg => k_is)
    (case zc_MOST_LONG => k_is)
#print axioms PySem.Challenge.cw_hullrests_k36_whole_common_factors_holds
