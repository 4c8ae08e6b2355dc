import PyProof.Rows.All
import Wide.All
import OpenK.AllK
import Wide.FinOn
import HandS.Head3
import HandS.HeadEnd
import HandS.HeadHook1
import HandS.HeadHook2
import HandS.Exc
import HandS.ExcInit
import HandS.ExcField
import HandS.Words
import HandS.Base
import HandS.Call
import HandS.List
import HandS.Iter
import HandS.Zip
import HandS.TupLe
import HandS.TupAny
import HandS.Style
import KE.GoesMore
import KE.GoesEnum
import HandS.Lambda
import HandS.ForMost
import HandS.Wide
import HandS.Gcd
import HandS.IsInst
import HandS.Deep
import HandS.Rev
import HandS.RevRange
import HandS.More
import HandS.TupMul
import HandS.SortInts
import HandS.TupSets
import HandS.Sort
import HandS.Flow
import HandS.NoneIn
import HandS.TryMany
import HandS.EndTab
import HandS.WordsExc
import HandS.TryOnly
import PySem.Challenge.RW_hullrests_k04_points_refused
set_option Elab.async false
set_option linter.all false
set_option autoImplicit false
set_option maxRecDepth 100000
set_option maxHeartbeats 2000000
/-! PHead: what a law's end looks up in the objects that the top leaves. -/
namespace HeadH
open PySem PyProof.Rows
/-- a constant of the module -/
inductive GV where | int (i : Int) | tup (is : List Int)
def gvB (K : PySem.W.Frag) (g : String) : GV → Bool
  | .int i => (He.Fa.int (Str.ofString g) i).ok K
  | .tup is => (He.Fa.glo (Str.ofString g)).ok K && He.tupB K (Str.ofString g) (is.map He.Dv.int)
def fnB (K : PySem.W.Frag) (d : He.FnD) : Bool := (He.Fa.glo d.at_.1).ok K && ((He.Fa.keep d.at_.1).ok K && (He.Fa.code d.at_ d.qual).ok K)
abbrev AlH : Type := Bool × List He.FnV
/-- a class of errors with one field: its name, the field, its __init__ -/
structure ExS where
  s : Str
  f : Str
  qual : Str
  st : Stmt
def ExS.d (x : ExS) : He.FnD := ⟨(x.s, some "__init__"), "__init__", x.qual, L2.defArgs x.st, L2.defBody x.st, L2.defScope x.st⟩
/-- where to look: what the module's names stand for, the code of functions among it, the methods of classes -/
def refC (o : Obj) : List Addr := match o.data with
  | .func fd => He.refV fd.code
  | _ => []
def refK (g : Addr → Option Obj) (a : Addr) : List Addr := match g a with
  | some o => (match o.data with
    | .func fd => He.refV fd.code
    | .cls cd => cd.ns :: (match g cd.ns with
      | some n => He.refsO n ++ (He.refsO n).flatMap fun f => (match g f with
        | some o => refC o
        | none => [])
      | none => [])
    | _ => [])
  | none => []
def asL (g : Addr → Option Obj) : List Addr := match g mainGlobals with
  | some o => mainGlobals :: (He.refsO o ++ (He.refsO o).flatMap (refK g))
  | none => []
def oexB (K : PySem.W.Frag) (C : Addr) : Bool := match K.lookup C with
  | some ⟨.type "type", _, .cls cd, sl⟩ => (match cd.mro, sl.toList with
    | .ref C' :: bm, [_, _, _, _, some (.builtin n), _] => decide (C' = C) && decide (n = "ValueError.__new__") && !cd.hasDel && cd.hasDict && HandSPX.refsVE bm
    | _, _ => false)
  | _ => false
theorem oexB_ok {K : PySem.W.Frag} {C : Addr} (h : oexB K C = true) : ∃ nm q N bs bm sn sub ab col dd k0 k1 k2 k3 k5, K.lookup C = some (excClassObj nm q C N bs bm true sn sub ab col dd k0 k1 k2 k3 k5 "ValueError.__new__") ∧ HandSPX.refsVE bm = true := by
  unfold oexB at h
  split at h
  · rename_i dd cd sl ho
    split at h
    · rename_i C' bm k0 k1 k2 k3 n k5 hm hs
      simp only [Bool.and_eq_true, decide_eq_true_eq, Bool.not_eq_true'] at h
      obtain ⟨⟨⟨⟨e1, e2⟩, e3⟩, e4⟩, e5⟩ := h
      obtain ⟨nm, bs, mro, ns, qn, hd, sn, sub, ab, col, del⟩ := cd
      dsimp only at hm e3 e4
      subst hm e3 e4 e1 e2
      have e6 : sl = #[k0, k1, k2, k3, some (.builtin "ValueError.__new__"), k5] := by
        obtain ⟨l⟩ := sl
        simp only at hs
        rw [hs]
      subst e6
      exact ⟨nm, qn, ns, bs, bm, sn, sub, ab, col, dd, k0, k1, k2, k3, k5, ho, e5⟩
    · cases h
  · cases h
def exB (K : PySem.W.Frag) (x : ExS) : Bool :=
  (He.Fa.glo x.s).ok K && (oexB K (He.ga K x.s) && (L2.xfB K (He.ga K x.s) && ((He.Fa.noat x.s x.f).ok K && ((He.Fa.meth x.s "__init__").ok K && (decide (PySem.W.typeIn K (.ref (He.ma K (He.ga K x.s) "__init__")) = some (.type "function")) && ((He.Fa.code (x.s, some "__init__") x.qual).ok K &&
  (decide (PySem.W.subIn K (.ref (He.ga K x.s)) (.type "BaseException") = some true) && (decide (PySem.W.typeIn K (.ref (He.ga K x.s)) = some (.type "type")) && (PySem.W.keepIn K (.ref (He.ga K x.s)) && He.eqO (PySem.W.findIn K (.ref (He.ga K x.s)) "__setattr__") (some (some (.builtin "object.__setattr__"))))))))))))
def codOf (K : PySem.W.Frag) (f : String) : Addr := match K.lookup (He.ga K (Str.ofString f)) with
  | some ⟨_, _, .func fd, _⟩ => (match fd.code with | .ref c => c | _ => 0)
  | _ => 0
def tabOf (K : PySem.W.Frag) (f : String) : Addr := match K.lookup (codOf K f) with
  | some ⟨_, _, .fields vs, _⟩ => (match vs.getD 11 .none with | .ref P => P | _ => 0)
  | _ => 0
def chdB (K : PySem.W.Frag) (c P : Addr) : Bool := match K.lookup c with
  | some ⟨.type "code", _, .fields vs, _⟩ => decide (vs[11]? = some (.ref P)) && (match vs.getD 11 .none with | .ref p => decide (p = P) | _ => false) && (match vs.getD 18 .none with | .str _ _ => true | _ => false) && (match vs.getD 7 .none with | .int _ _ => true | _ => false) &&
    (match vs.getD 9 .none with | .bool _ => true | _ => false) && (match vs.getD 10 .none with | .int _ _ => true | _ => false) && !decide (c = P)
  | _ => false
theorem chdB_ok {K : PySem.W.Frag} {c P : Addr} {h : Heap} (X : K.In h) (q : chdB K c P = true) : PySem.W.CodeHd h c P := by
  unfold chdB at q
  split at q
  · rename_i dd vs sl ho
    simp only [Bool.and_eq_true, decide_eq_true_eq, Bool.not_eq_true', decide_eq_false_iff_not] at q
    obtain ⟨⟨⟨⟨⟨⟨e1, e2⟩, e3⟩, e4⟩, e5⟩, e6⟩, e7⟩ := q
    split at e2 <;> first | contradiction | skip
    rename_i p hp
    split at e3 <;> first | contradiction | skip
    rename_i f tf hf
    split at e4 <;> first | contradiction | skip
    rename_i g tg hg
    split at e5 <;> first | contradiction | skip
    rename_i b hb
    split at e6 <;> first | contradiction | skip
    rename_i t tt ht
    have e2 : p = P := of_decide_eq_true e2
    subst e2
    exact ⟨_, vs, f, tf, g, tg, b, t, tt, X _ _ ho, rfl, rfl, e1, hp, hf, hg, hb, ht, e7⟩
  · cases q
def lmB (K : PySem.W.Frag) (f : String) : Bool := (match K.lookup (He.ga K (Str.ofString f)) with
  | some ⟨_, _, .func fd, _⟩ => decide (fd.code = .ref (codOf K f))
  | _ => false) && (chdB K (codOf K f) (tabOf K f) && (K.lookup (tabOf K f)).isNone)
def emptyB : Option Obj → Bool
  | some ⟨.none, none, .fields vs, sl⟩ => vs.toList.isEmpty && sl.toList.isEmpty
  | _ => false
theorem emptyB_ok {o : Option Obj} (h : emptyB o = true) : o = some { cls := .none, data := .fields #[] } := by
  unfold emptyB at h
  split at h
  · rename_i vs sl
    simp only [Bool.and_eq_true, List.isEmpty_iff, Array.toList_eq_nil_iff] at h
    obtain ⟨rfl, rfl⟩ := h
    rfl
  · cases h
section
variable (fns : List He.FnD) (gvs : List (String × GV)) (bl : List Str) (gcd : Bool) (exs : List ExS) (cls : List Str) (lm : List String)
def okB (K : PySem.W.Frag) : Bool :=
  (fns.all fun d => fnB K d) && ((gvs.all fun q => gvB K q.1 q.2) && ((bl.all fun x => (He.Fa.free x).ok K) && (!gcd || He.eqO (PySem.W.nsIn K mainGlobals "gcd") (some (some (.builtin "math.gcd"))))))
def okX (K : PySem.W.Frag) : Bool := (exs.all fun x => exB K x) && ((exs.all fun x => cls.all fun c => (He.Fa.exm x.s c (decide (x.s = c))).ok K) && ((cls.all fun c => (He.Fa.glo c).ok K) && ((lm.all fun f => lmB K f) && decide ((lm.map fun f => tabOf K f).Nodup))))
def obsH (K : PySem.W.Frag) : AlH := (okB fns gvs bl gcd K && okX exs cls lm K, (fns ++ exs.map ExS.d).map fun d => He.fnObs K d.at_)
def valH : AlH := (true, (fns ++ exs.map ExS.d).map He.FnD.val)
def tabsB (g : Addr → Option Obj) (K : PySem.W.Frag) : Bool := lm.all fun f => emptyB (g (tabOf K f))
def obsG (g : Addr → Option Obj) : AlH × Bool := (obsH fns gvs bl gcd exs cls lm (He.frG g (asL g)), tabsB lm g (He.frG g (asL g)))
def hook : PySem.W.Hook where
  α := AlH × Bool
  obs := fun s => obsG fns gvs bl gcd exs cls lm s.heap.get?
  val := fun _ => (valH fns exs, true)
  says := fun _ h => ∃ K : PySem.W.Frag, K.In h ∧ obsH fns gvs bl gcd exs cls lm K = valH fns exs ∧ ∀ f ∈ lm, h.get? (tabOf K f) = some { cls := .none, data := .fields #[] }
  of := fun _ _ e => ⟨_, He.frG_in, congrArg Prod.fst e, fun f hf => emptyB_ok (List.all_eq_true.mp (congrArg Prod.snd e) f hf)⟩
  keeps := fun _ _ _ ⟨K, hK, c, t⟩ k => ⟨K, PySem.W.Frag.In.keeps hK k, c, fun f hf => k _ _ (t f hf)⟩
theorem obsG_eq {g : Addr → Option Obj} {s : Shared} (h : ∀ a, g a = s.heap.get? a) : obsG fns gvs bl gcd exs cls lm g = (hook fns gvs bl gcd exs cls lm).obs s := by
  have e : g = s.heap.get? := funext h
  rw [e] <;> rfl
end
theorem map3 {α β γ δ : Type} {o : Option α} {f : α → β} {g : α → γ} {h : α → δ} {a : β} {b : γ} {c : δ} (e1 : o.map f = some a) (e2 : o.map g = some b) (e3 : o.map h = some c) : o.map (fun x => (f x, g x, h x)) = some (a, b, c) := by
  cases o with
  | none => cases e1
  | some x => cases e1; cases e2; cases e3; rfl
end HeadH

namespace Law
open PySem
def top (i : Nat) : Stmt := PySem.Challenge.pw_hullrests_k04_points_refused.main.body.getD i (.Pass ⟨0, 0, 0, 0⟩)
def gvs : List (String × HeadH.GV) := []
def bls : List PySem.Str := ["abs", "all", "bool", "divmod", "int", "isinstance", "len", "max", "min", "range", "repr", "tuple"]
def gcdb : Bool := true
def fns : List He.FnD := [⟨("is_whole", none), "is_whole", "is_whole", L2.defArgs (top 6), L2.defBody (top 6), L2.defScope (top 6)⟩, ⟨("are_wholes", none), "are_wholes", "are_wholes", L2.defArgs (top 7), L2.defBody (top 7), L2.defScope (top 7)⟩, ⟨("divisor_of", none), "divisor_of", "divisor_of", L2.defArgs (top 8), L2.defBody (top 8), L2.defScope (top 8)⟩, ⟨("is_reduced", none), "is_reduced", "is_reduced", L2.defArgs (top 9), L2.defBody (top 9), L2.defScope (top 9)⟩, ⟨("sign_of", none), "sign_of", "sign_of", L2.defArgs (top 10), L2.defBody (top 10), L2.defScope (top 10)⟩, ⟨("is_ratio", none), "is_ratio", "is_ratio", L2.defArgs (top 12), L2.defBody (top 12), L2.defScope (top 12)⟩, ⟨("ratio", none), "ratio", "ratio", L2.defArgs (top 13), L2.defBody (top 13), L2.defScope (top 13)⟩, ⟨("is_vector", none), "is_vector", "is_vector", L2.defArgs (top 15), L2.defBody (top 15), L2.defScope (top 15)⟩, ⟨("vector", none), "vector", "vector", L2.defArgs (top 16), L2.defBody (top 16), L2.defScope (top 16)⟩, ⟨("vector_sum", none), "vector_sum", "vector_sum", L2.defArgs (top 17), L2.defBody (top 17), L2.defScope (top 17)⟩, ⟨("vector_less", none), "vector_less", "vector_less", L2.defArgs (top 18), L2.defBody (top 18), L2.defScope (top 18)⟩, ⟨("vector_times", none), "vector_times", "vector_times", L2.defArgs (top 19), L2.defBody (top 19), L2.defScope (top 19)⟩, ⟨("vector_between", none), "vector_between", "vector_between", L2.defArgs (top 20), L2.defBody (top 20), L2.defScope (top 20)⟩, ⟨("inner_of", none), "inner_of", "inner_of", L2.defArgs (top 21), L2.defBody (top 21), L2.defScope (top 21)⟩, ⟨("cross_of", none), "cross_of", "cross_of", L2.defArgs (top 22), L2.defBody (top 22), L2.defScope (top 22)⟩, ⟨("quartered", none), "quartered", "quartered", L2.defArgs (top 23), L2.defBody (top 23), L2.defScope (top 23)⟩, ⟨("turn_of", none), "turn_of", "turn_of", L2.defArgs (top 24), L2.defBody (top 24), L2.defScope (top 24)⟩, ⟨("check_point", none), "check_point", "check_point", L2.defArgs (top 26), L2.defBody (top 26), L2.defScope (top 26)⟩, ⟨("check_fraction", none), "check_fraction", "check_fraction", L2.defArgs (top 27), L2.defBody (top 27), L2.defScope (top 27)⟩, ⟨("plus", none), "plus", "plus", L2.defArgs (top 29), L2.defBody (top 29), L2.defScope (top 29)⟩, ⟨("minus", none), "minus", "minus", L2.defArgs (top 30), L2.defBody (top 30), L2.defScope (top 30)⟩, ⟨("times", none), "times", "times", L2.defArgs (top 31), L2.defBody (top 31), L2.defScope (top 31)⟩, ⟨("between", none), "between", "between", L2.defArgs (top 32), L2.defBody (top 32), L2.defScope (top 32)⟩, ⟨("inner", none), "inner", "inner", L2.defArgs (top 33), L2.defBody (top 33), L2.defScope (top 33)⟩, ⟨("cross", none), "cross", "cross", L2.defArgs (top 34), L2.defBody (top 34), L2.defScope (top 34)⟩, ⟨("quarter", none), "quarter", "quarter", L2.defArgs (top 35), L2.defBody (top 35), L2.defScope (top 35)⟩, ⟨("sense", none), "sense", "sense", L2.defArgs (top 36), L2.defBody (top 36), L2.defScope (top 36)⟩, ⟨("_law_urn", none), "_law_urn", "_law_urn", L2.defArgs (top 38), L2.defBody (top 38), L2.defScope (top 38)⟩, ⟨("_law_pull", none), "_law_pull", "_law_pull", L2.defArgs (top 39), L2.defBody (top 39), L2.defScope (top 39)⟩, ⟨("_law_any", none), "_law_any", "_law_any", L2.defArgs (top 40), L2.defBody (top 40), L2.defScope (top 40)⟩, ⟨("_law_laps", none), "_law_laps", "_law_laps", L2.defArgs (top 41), L2.defBody (top 41), L2.defScope (top 41)⟩, ⟨("_law_gcd", none), "_law_gcd", "_law_gcd", L2.defArgs (top 42), L2.defBody (top 42), L2.defScope (top 42)⟩, ⟨("_law_thin", none), "_law_thin", "_law_thin", L2.defArgs (top 43), L2.defBody (top 43), L2.defScope (top 43)⟩, ⟨("_law_is_whole", none), "_law_is_whole", "_law_is_whole", L2.defArgs (top 44), L2.defBody (top 44), L2.defScope (top 44)⟩, ⟨("_law_are_whole", none), "_law_are_whole", "_law_are_whole", L2.defArgs (top 45), L2.defBody (top 45), L2.defScope (top 45)⟩, ⟨("_law_is_frac", none), "_law_is_frac", "_law_is_frac", L2.defArgs (top 46), L2.defBody (top 46), L2.defScope (top 46)⟩, ⟨("_law_is_spot", none), "_law_is_spot", "_law_is_spot", L2.defArgs (top 47), L2.defBody (top 47), L2.defScope (top 47)⟩, ⟨("_law_odd", none), "_law_odd", "_law_odd", L2.defArgs (top 48), L2.defBody (top 48), L2.defScope (top 48)⟩, ⟨("_law_told", none), "_law_told", "_law_told", L2.defArgs (top 49), L2.defBody (top 49), L2.defScope (top 49)⟩, ⟨("_law_due", none), "_law_due", "_law_due", L2.defArgs (top 50), L2.defBody (top 50), L2.defScope (top 50)⟩, ⟨("_law_right", none), "_law_right", "_law_right", L2.defArgs (top 51), L2.defBody (top 51), L2.defScope (top 51)⟩, ⟨("law", none), "law", "law", L2.defArgs (top 52), L2.defBody (top 52), L2.defScope (top 52)⟩]
def exs : List HeadH.ExS := [⟨"InvalidFraction", "given", "InvalidFraction.__init__", L2.inClass (top 3) 0⟩, ⟨"InvalidPoint", "given", "InvalidPoint.__init__", L2.inClass (top 4) 0⟩]
def clss : List PySem.Str := ["InvalidPoint", "InvalidFraction"]
def lms : List String := ["_law_right"]
abbrev R : PySem.W.OpenRow := PySem.W.OpenLaw.row PySem.Challenge.rw_hullrests_k04_points_refused
abbrev hk : PySem.W.Hook := HeadH.hook fns gvs bls gcdb exs clss lms
def ob (s : PySem.W.SharedT) : HeadH.AlH × Bool := HeadH.obsG fns gvs bls gcdb exs clss lms (HandSHeadRun.getT s)
theorem ob_eq (s : PySem.W.SharedT) : ob s = hk.obs s.abs := HeadH.obsG_eq fns gvs bls gcdb exs clss lms (HandSHeadRun.getT_eq s)
def loose0 : List PySem.Str := ["HullError", "InvalidFraction", "InvalidPoint", "is_whole", "are_wholes", "divisor_of", "is_reduced", "sign_of", "is_ratio", "ratio", "is_vector", "vector", "vector_sum", "vector_less", "vector_times", "vector_between", "inner_of", "cross_of", "quartered", "turn_of", "check_point", "check_fraction", "plus", "minus", "times", "between", "inner", "cross", "quarter", "sense"]
def loose1 : List PySem.Str := ["_law_urn", "_law_pull", "_law_any", "_law_laps", "_law_gcd", "_law_thin", "_law_is_whole", "_law_are_whole", "_law_is_frac", "_law_is_spot", "_law_odd", "_law_told", "_law_due", "_law_right"]
def loose : List PySem.Str := loose0 ++ loose1
abbrev qv : PySem.Program := PySem.W.view R.prog [0, 52]
abbrev dlaw : PySem.DefRec := HandSHeadRun.topDef R.prog 52
theorem run1 (w : World) : (HandSHeadRun.wholeF (fun p => HandSHeadRun.stepQ (HandSHeadRun.denQ HandSHeadRun.tabQ) p w) HandSHeadRun.fenceQ 20000 R.prog).map (fun x => HandSHeadRun.looksF R.prog x.1.heap x.2.abs) = some true := by kernel_rfl
theorem run2 (w : World) : (HandSHeadRun.wholeF (fun p => HandSHeadRun.stepQ (HandSHeadRun.denQ HandSHeadRun.tabQ) p w) HandSHeadRun.fenceQ 20000 R.prog).map (fun x => HandSHeadRun.seenQ qv loose (PySem.importedModules R.prog.main.body) (fun s => PySem.W.xlAt qv [] s && PySem.W.recOk R.toRowW.records s) x.2.abs) = some (PySem.W.openGood qv loose) := by kernel_rfl
theorem run3 (w : World) : (HandSHeadRun.wholeF (fun p => HandSHeadRun.stepQ (HandSHeadRun.denQ HandSHeadRun.tabQ) p w) HandSHeadRun.fenceQ 20000 R.prog).map (fun x => ob x.2) = some (hk.val w) := by kernel_rfl
theorem run (w : World) : HandSHeadRun.RunEqI R qv hk ob 20000 loose w := HeadH.map3 (run1 w) (run2 w) (run3 w)
end Law

/-! PLang: a small language for what defs of intsOf, texts, tuples and lists reckon, and its evaluation in Option. -/
namespace Pl
open PySem (PyData Str)

abbrev D := PyData
/-- the content of the one list that a def may change for its caller -/
abbrev U := List Int

inductive BOp where | add | sub | mul | fdiv | mod | pow
  deriving DecidableEq, Repr
inductive COp where | eq | ne | lt | le | gt | ge | isin | notin | isN | notN
  deriving DecidableEq, Repr
inductive BI where
  | len | abs | int | tuple | list | all | any | sum | max2 | min2 | divmod | gcd | repr | isInt | isBool | isTuple | isList | isStr | sorted | sortedSet | max1 | min1
  deriving DecidableEq, Repr
inductive Tg where
  | one (i : Nat) | many (is : List Nat)
  deriving DecidableEq, Repr
/-- an unpacking target: a name, or a place of the lent list -/
inductive Tu where
  | nm (i : Nat) | pl (k : Nat)
  deriving DecidableEq, Repr

mutual
inductive E where
  | var (i : Nat)
  | lit (d : PySem.Const)
  | glob (x : String)
  | neg (a : E) | not (a : E)
  | bin (o : BOp) (a b : E)
  | cmp (o : COp) (a b : E)
  | chain (o1 o2 : COp) (a b c : E)
  | and (a b : E) | or (a b : E)
  | ite (c a b : E)
  | tup (es : Es) | lst (es : Es) | rep (es : Es) (n : E)
  | idx (a i : E) | sli (a : E) (lo hi : Eo) | rev (a : E) | rvt (a : E)
  | uidx (k : E)
  | call (f : String) (es : Es) (perm : List Nat)
  | ucall (f : String) (es : Es)
  | ncall (f : String) (a : E) (es : Es)
  | bi (b : BI) (es : Es)
  | comp (elt : E) (t : Tg) (it : I) (cond : Eo) (own : List Nat)
  | dict0
  | trng (a b : E)
inductive Es where
  | nil | cons (e : E) (es : Es)
inductive Eo where
  | no | yes (e : E)
inductive I where
  | seq (e : E) | range1 (a : E) | range2 (a b : E) | range3 (a b c : E) | revRange1 (a : E) | enum (e : E) | zip (a b : E) | zip3 (a b c : E) | rev (e : E)
end

mutual
inductive S where
  | set (i : Nat) (e : E)
  | set2 (i j : Nat) (e : E)
  | par (is : List Nat) (es : Es)
  | unp (ts : List Tu) (e : E)
  | setI (i : Nat) (k : E) (e : E)
  | setU (k : E) (e : E)
  | app (i : Nat) (e : E) | pop (i : Nat) | ins (i : Nat) (k e : E)
  | drop (e : E)
  | ite (c : E) (a b : Ss)
  | whil (c : E) (b : Ss)
  | for_ (t : Tg) (it : I) (b : Ss)
  | ret (e : E) | retF (e : E) | brk | cont | pass | raise
inductive Ss where
  | nil | cons (s : S) (ss : Ss)
end
structure PFun where
  np : Nat
  ns : Nat
  urn : Bool
  fresh : Bool
  body : Ss

inductive Slot where
  | no | imm (d : D) | own (ds : List D)
abbrev Env := List Slot

/-! ### values -/
mutual
@[simp] def noList : D → Bool
  | .none | .bool _ | .int _ | .str _ => true
  | .list _ => false
  | .tuple xs => noListAll xs
  | .dict _ => false
@[simp] def noListAll : List D → Bool
  | [] => true
  | x :: xs => noList x && noListAll xs
end
@[simp] def isDict : D → Bool | .dict _ => true | _ => false
@[simp] def isL : D → Bool | .list _ => true | _ => false
@[simp] def items : D → Option (List D) | .list xs => some xs | .tuple xs => some xs | _ => none
@[simp] def listOf : D → Option (List D) | .list xs => some xs | _ => none
@[simp] def intsOf : List D → Option (List Int)
  | [] => some []
  | .int i :: r => (intsOf r).map (i :: ·)
  | _ => none
@[simp] def boolsOf : List D → Option (List Bool)
  | [] => some []
  | .bool b :: r => (boolsOf r).map (b :: ·)
  | _ => none
def bigOk (n : Int) (k : Nat) : Bool := decide (n.natAbs < 2 ^ k)

def atI {α : Type} (xs : List α) (i : Int) : Option α := if 0 ≤ i then xs[i.toNat]? else if 0 ≤ i + xs.length then xs[(i + xs.length).toNat]? else none
def ixN (n : Nat) (i : Int) : Option Nat := if 0 ≤ i then (if i < n then some i.toNat else none) else if -(n : Int) ≤ i then some (i + n).toNat else none
def sIx (n d : Nat) : Option Int → Nat
  | none => d
  | some i => if i < 0 then (i + n).toNat else min i.toNat n
def cut {α : Type} (xs : List α) (lo hi : Option Int) : List α := (xs.drop (sIx xs.length 0 lo)).take (sIx xs.length xs.length hi - sIx xs.length 0 lo)
def rangeL (lo hi : Int) : List D := (List.range (hi - lo).toNat).map fun (i : Nat) => PyData.int (lo + (i : Int))
def sizeOk (n : Nat) : Bool := decide (n ≤ 100000)
def intOk (n : Int) : Bool := decide (-(2 ^ 60) ≤ n ∧ n < 2 ^ 60)

@[simp] def rng2 : D → D → Option (List D)
  | .int i, .int j => if intOk i && intOk j then some (rangeL i j) else none
  | _, _ => none

def mulOk (i j : Int) : Bool := decide (i.natAbs.log2 + j.natAbs.log2 < 1000000)
def divOk (j : Int) : Bool := decide (j ≠ 0 ∧ j.natAbs.log2 < 9000)

@[simp] def binV : BOp → D → D → Option D
  | .add, .int i, .int j => some (.int (i + j))
  | .sub, .int i, .int j => some (.int (i - j))
  | .mul, .int i, .int j => if mulOk i j then some (.int (i * j)) else none
  | .fdiv, .int i, .int j => if divOk j then some (.int (Int.fdiv i j)) else none
  | .mod, .int i, .int j => if j = 0 then none else some (.int (Int.fmod i j))
  | .pow, .int i, .int j => if decide (0 ≤ j ∧ j ≤ 1000000 ∧ i.natAbs < 2 ^ 64) then some (.int (i ^ j.toNat)) else none
  | .mul, .tuple a, .int k => if decide (2 ≤ k ∧ k ≤ 1000 ∧ 0 < a.length ∧ a.length ≤ 1000) then some (.tuple (List.replicate k.toNat a).flatten) else none
  | .add, .list a, .list b => if sizeOk (a.length + b.length) then some (.list (a ++ b)) else none
  | .add, .tuple a, .tuple b => if sizeOk (a.length + b.length) then some (.tuple (a ++ b)) else none
  | _, _, _ => none
@[simp] def isNone : D → Bool | .none => true | _ => false
def inV (neg : Bool) (a b : D) : Option Bool := (items b).bind fun xs => if PySem.SeqAt.shaped a && PyData.canLayAll0 xs then some (if neg then !(xs.any fun y => PyData.eqv y a) else xs.any fun y => PyData.eqv y a) else none
def eqD (a b : D) : Option Bool := match a, b with
  | .str x, .str y => some (decide (x = y))
  | a, b => if PySem.SeqAt.shaped a && PySem.SeqAt.shaped b then some (PyData.eqv a b) else none
@[simp] def cmpV : COp → D → D → Option Bool
  | .lt, .int i, .int j => some (decide (i < j))
  | .le, .int i, .int j => some (decide (i ≤ j))
  | .gt, .int i, .int j => some (decide (j < i))
  | .ge, .int i, .int j => some (decide (j ≤ i))
  | .eq, a, b => eqD a b
  | .ne, a, b => (eqD a b).map (!·)
  | .isN, a, .none => some (isNone a)
  | .isN, .bool a, .bool b => some (decide (a = b))
  | .notN, a, .none => some (!isNone a)
  | .notN, .bool a, .bool b => some (!decide (a = b))
  | .isin, a, b => inV false a b
  | .notin, a, b => inV true a b
  | _, _, _ => none
@[simp] def litV : PySem.Const → Option D
  | .none => some .none
  | .bool b => some (.bool b)
  | .int i => some (.int i)
  | .str s => some (.str s)
  | _ => none
@[simp] def idxV : D → D → Option D
  | .list xs, .int i => atI xs i
  | .tuple xs, .int i => atI xs i
  | _, _ => none
@[simp] def sliV : D → Option Int → Option Int → Option D
  | .list xs, lo, hi => some (.list (cut xs lo hi))
  | .tuple xs, lo, hi => some (.tuple (cut xs lo hi))
  | _, _, _ => none
/-- the dict that is empty -/
def isD0 : D → Bool
  | .dict [] => true
  | _ => false
mutual
/-- at least as much as a datum's text is long -/
def cw : D → Nat
  | .none => 4
  | .bool _ => 5
  | .int _ => 1921
  | .str x => (PyData.shown (.str x)).length
  | .list xs => cwAll xs + 2
  | .tuple xs => cwAll xs + 3
  | .dict _ => 0
def cwAll : List D → Nat
  | [] => 0
  | x :: xs => cw x + 2 + cwAll xs
end
/-- pairs of whole numbers, in order, each once -/
def pairsOf : List D → Option (List (Int × Int))
  | [] => some []
  | .tuple [.int x, .int y] :: r => (pairsOf r).map ((x, y) :: ·)
  | _ => none
def ltP (p q : Int × Int) : Bool := decide (p.1 < q.1 ∨ (p.1 = q.1 ∧ p.2 < q.2))
def insP (p : Int × Int) : List (Int × Int) → List (Int × Int)
  | [] => [p]
  | q :: r => if ltP p q then p :: q :: r else if p = q then q :: r else q :: insP p r
def sortP (ps : List (Int × Int)) : List (Int × Int) := ps.foldr insP []
/-- whole numbers in order -/
def insI (x : Int) : List Int → List Int
  | [] => [x]
  | y :: r => if x ≤ y then x :: y :: r else y :: insI x r
def sortI (l : List Int) : List Int := l.foldr insI []
def maxI : List Int → Option Int
  | [] => none
  | x :: r => match maxI r with
    | none => some x
    | some m => some (if m ≤ x then x else m)
def minI : List Int → Option Int
  | [] => none
  | x :: r => match minI r with
    | none => some x
    | some m => some (if x ≤ m then x else m)
@[simp] def biV : BI → List D → Option D
  | .len, [.list xs] => some (.int xs.length)
  | .len, [.tuple xs] => some (.int xs.length)
  | .abs, [.int i] => some (.int (if i < 0 then -i else i))
  | .int, [.int i] => some (.int i)
  | .int, [.bool b] => some (.int (if b then 1 else 0))
  | .tuple, [.list xs] => some (.tuple xs)
  | .tuple, [.tuple xs] => some (.tuple xs)
  | .list, [.list xs] => some (.list xs)
  | .list, [.tuple xs] => some (.list xs)
  | .all, [.list xs] => (boolsOf xs).map fun bs => .bool (bs.all id)
  | .any, [.list xs] => (boolsOf xs).map fun bs => .bool (bs.any id)
  | .sum, [.list xs] => (intsOf xs).map fun ns => .int ns.sum
  | .sorted, [.list xs] => (intsOf xs).map fun ns => .list ((sortI ns).map .int)
  | .max1, [.list xs] => ((intsOf xs).bind maxI).map .int
  | .min1, [.list xs] => ((intsOf xs).bind minI).map .int
  | .max2, [.int i, .int j] => some (.int (if j > i then j else i))
  | .min2, [.int i, .int j] => some (.int (if j < i then j else i))
  | .divmod, [.int i, .int j] => if divOk j then some (.tuple [.int (Int.fdiv i j), .int (Int.fmod i j)]) else none
  | .gcd, [.int i, .int j] => some (.int ((Nat.gcd i.natAbs j.natAbs : Nat) : Int))
  | .repr, [d] => if d.showable && (!d.hasDict || isD0 d) && decide (d.depth ≤ 60) && decide (cw d ≤ PySem.sizeLine) then some (.str d.shown) else none
  | .isInt, [d] => some (.bool (match d with | .int _ => true | .bool _ => true | _ => false))
  | .isBool, [d] => some (.bool (match d with | .bool _ => true | _ => false))
  | .isTuple, [d] => some (.bool (match d with | .tuple _ => true | _ => false))
  | .isList, [d] => some (.bool (match d with | .list _ => true | _ => false))
  | .isStr, [d] => some (.bool (match d with | .str _ => true | _ => false))
  | .sortedSet, [.list xs] => if xs.length < 64 then (pairsOf xs).map fun ps => .list ((sortP ps).map fun p => .tuple [.int p.1, .int p.2]) else none
  | _, _ => none
def zipL : List D → List D → List D
  | x :: xs, y :: ys => .tuple [x, y] :: zipL xs ys
  | _, _ => []
@[simp] def zipD : D → D → Option (List D)
  | .list xs, .list ys => some (zipL xs ys)
  | .tuple xs, .tuple ys => some (zipL xs ys)
  | _, _ => none
def zipL3 : List D → List D → List D → List D
  | x :: xs, y :: ys, z :: zs => .tuple [x, y, z] :: zipL3 xs ys zs
  | _, _, _ => []
@[simp] def zipD3 : D → D → D → Option (List D)
  | .list xs, .list ys, .list zs => if xs.length ≤ ys.length ∧ xs.length ≤ zs.length then some (zipL3 xs ys zs) else none
  | _, _, _ => none
def enumL (i : Nat) : List D → List D
  | [] => []
  | x :: xs => .tuple [.int (i : Int), x] :: enumL (i + 1) xs

/-! ### environments -/
@[simp] def getV (env : Env) (i : Nat) : Option D := match env[i]? with
  | some (.imm d) => some d
  | some (.own ds) => some (.list ds)
  | _ => none
def wipe (env : Env) : List Nat → Env
  | [] => env
  | v :: vs => (wipe env vs).set v .no
@[simp] def bindMany : List Nat → List D → Env → Option Env
  | [], [], env => some env
  | i :: is, d :: ds, env => bindMany is ds (env.set i (.imm d))
  | _, _, _ => none
@[simp] def bindT : Tg → D → Env → Option Env
  | .one i, d, env => some (env.set i (.imm d))
  | .many is, .tuple ds, env => bindMany is ds env
  | .many _, _, _ => none
@[simp] def pick (ds : List D) : List Nat → Option (List D)
  | [] => some []
  | i :: is => do
    let d ← ds[i]?
    let r ← pick ds is
    some (d :: r)
@[simp] def compL (step : D → U → Option (Option D × U)) : List D → U → Option (List D × U)
  | [], u => some ([], u)
  | d :: ds, u => do
    let (o, u1) ← step d u
    let (r, u2) ← compL step ds u1
    match o with
    | some x => some (x :: r, u2)
    | none => some (r, u2)

/-- what a name of the module means: a constant, a def -/
structure Ctx where
  glob : String → Option D
  fn : String → List D → Option D
  ufn : String → List D → U → Option (D × U)

section
variable (C : Ctx)
mutual
@[simp] def evalE : E → Env → U → Option (D × U)
  | .var i, env, u => (getV env i).bind fun d => some (d, u)
  | .dict0, _, u => some (.dict [], u)
  | .trng a b, env, u => (evalE a env u).bind fun ra => (evalE b env ra.2).bind fun rb => (rng2 ra.1 rb.1).bind fun xs => if sizeOk xs.length then some (.tuple xs, rb.2) else none
  | .lit c, _, u => (litV c).bind fun d => some (d, u)
  | .glob x, _, u => (C.glob x).bind fun d => some (d, u)
  | .neg a, env, u => (evalE a env u).bind fun r => match r with
    | (.int i, u1) => some (.int (-i), u1)
    | _ => none
  | .not a, env, u => (evalE a env u).bind fun r => match r with
    | (.bool b, u1) => some (.bool (!b), u1)
    | _ => none
  | .bin o a b, env, u => (evalE a env u).bind fun ra => (evalE b env ra.2).bind fun rb => (binV o ra.1 rb.1).bind fun d => some (d, rb.2)
  | .cmp o a b, env, u => (evalE a env u).bind fun ra => (evalE b env ra.2).bind fun rb => (cmpV o ra.1 rb.1).bind fun d => some (.bool d, rb.2)
  | .chain o1 o2 a b c, env, u => (evalE a env u).bind fun ra => (evalE b env ra.2).bind fun rb => (cmpV o1 ra.1 rb.1).bind fun d =>
      if d = true then (evalE c env rb.2).bind fun rc => (cmpV o2 rb.1 rc.1).bind fun d2 => some (.bool d2, rc.2) else some (.bool false, rb.2)
  | .and a b, env, u => (evalE a env u).bind fun ra => match ra with
    | (.bool c, u1) => if c = true then (evalE b env u1).bind fun rb => (match rb with | (.bool c2, u2) => some (.bool c2, u2) | _ => none) else some (.bool false, u1)
    | _ => none
  | .or a b, env, u => (evalE a env u).bind fun ra => match ra with
    | (.bool c, u1) => if c = true then some (.bool true, u1) else (evalE b env u1).bind fun rb => (match rb with | (.bool c2, u2) => some (.bool c2, u2) | _ => none)
    | _ => none
  | .ite c a b, env, u => (evalE c env u).bind fun rc => match rc with
    | (.bool k, u1) => if k = true then evalE a env u1 else evalE b env u1
    | _ => none
  | .tup es, env, u => (evalEs es env u).bind fun r => if sizeOk r.1.length then some (.tuple r.1, r.2) else none
  | .lst es, env, u => (evalEs es env u).bind fun r => if sizeOk r.1.length then some (.list r.1, r.2) else none
  | .rep es n, env, u => (evalEs es env u).bind fun r => (evalE n env r.2).bind fun rn => match rn.1 with
    | .int k => if decide (-(2 ^ 60) ≤ k ∧ k < 2 ^ 60) && sizeOk r.1.length && sizeOk (r.1.length * k.toNat) then some (.list (List.replicate k.toNat r.1).flatten, rn.2) else none
    | _ => none
  | .idx a i, env, u => (evalE a env u).bind fun ra => (evalE i env ra.2).bind fun rb => (idxV ra.1 rb.1).bind fun d => some (d, rb.2)
  | .sli a lo hi, env, u => (evalE a env u).bind fun ra => (evalEo lo env ra.2).bind fun rl => (evalEo hi env rl.2).bind fun rh => (sliV ra.1 rl.1 rh.1).bind fun d => some (d, rh.2)
  | .rev a, env, u => (evalE a env u).bind fun ra => match ra with
    | (.list xs, u1) => some (.list xs.reverse, u1)
    | (.tuple xs, u1) => some (.tuple xs.reverse, u1)
    | _ => none
  | .rvt a, env, u => (evalE a env u).bind fun ra => match ra with
    | (.tuple (_ :: xs), u1) => some (.tuple xs.reverse, u1)
    | _ => none
  | .uidx k, env, u => (evalE k env u).bind fun rk => match rk with
    | (.int i, u1) => (atI u1 i).bind fun n => some (.int n, u1)
    | _ => none
  | .call f es perm, env, u => (evalEs es env u).bind fun r => (pick r.1 perm).bind fun ds => (C.fn f ds).bind fun d => some (d, r.2)
  | .ucall f es, env, u => (evalEs es env u).bind fun r => C.ufn f r.1 r.2
  | .ncall f a es, env, u => (evalE a env u).bind fun ra => (evalEs es env ra.2).bind fun r => match ra.1 with
    | .list xs => (intsOf xs).bind fun ns => (C.ufn f r.1 ns).bind fun q => some (q.1, r.2)
    | _ => none
  | .bi b es, env, u => (evalEs es env u).bind fun r => (biV b r.1).bind fun d => some (d, r.2)
  | .comp elt t it cond own, env, u => (evalI it env u).bind fun ri =>
      (compL (fun d u => (bindT t d (wipe env own)).bind fun env' => (evalC cond env' u).bind fun rc =>
        if rc.1 = true then (evalE elt env' rc.2).bind fun re => some (some re.1, re.2) else some (none, rc.2)) ri.1 ri.2).bind fun r => if sizeOk ri.1.length then some (.list r.1, r.2) else none
@[simp] def evalEs : Es → Env → U → Option (List D × U)
  | .nil, _, u => some ([], u)
  | .cons e es, env, u => (evalE e env u).bind fun r => (evalEs es env r.2).bind fun rs => some (r.1 :: rs.1, rs.2)
/-- a bound of a slice -/
@[simp] def evalEo : Eo → Env → U → Option (Option Int × U)
  | .no, _, u => some (none, u)
  | .yes e, env, u => (evalE e env u).bind fun r => match r with
    | (.int i, u1) => some (some i, u1)
    | _ => none
/-- a comprehension's test -/
@[simp] def evalC : Eo → Env → U → Option (Bool × U)
  | .no, _, u => some (true, u)
  | .yes e, env, u => (evalE e env u).bind fun r => match r with
    | (.bool b, u1) => some (b, u1)
    | _ => none
@[simp] def evalI : I → Env → U → Option (List D × U)
  | .seq e, env, u => (evalE e env u).bind fun r => (items r.1).bind fun xs => some (xs, r.2)
  | .range1 a, env, u => (evalE a env u).bind fun r => match r with
    | (.int j, u1) => if intOk j then some (rangeL 0 j, u1) else none
    | _ => none
  | .range2 a b, env, u => (evalE a env u).bind fun ra => (evalE b env ra.2).bind fun rb => (rng2 ra.1 rb.1).bind fun xs => some (xs, rb.2)
  | .range3 a b c, env, u => none
  | .revRange1 a, env, u => (evalE a env u).bind fun r => match r with
    | (.int j, u1) => if intOk j then some ((rangeL 0 j).reverse, u1) else none
    | _ => none
  | .enum e, env, u => (evalE e env u).bind fun r => (items r.1).bind fun xs => some (enumL 0 xs, r.2)
  | .zip a b, env, u => (evalE a env u).bind fun ra => (evalE b env ra.2).bind fun rb => (zipD ra.1 rb.1).bind fun xs => some (xs, rb.2)
  | .zip3 a b c, env, u => (evalE a env u).bind fun ra => (evalE b env ra.2).bind fun rb => (evalE c env rb.2).bind fun rc => (zipD3 ra.1 rb.1 rc.1).bind fun xs => some (xs, rc.2)
  | .rev e, env, u => (evalE e env u).bind fun r => (items r.1).bind fun xs => some (xs.reverse, r.2)
end

end

/-! ### which names an expression reads; what makes a new list -/
mutual
@[simp] def fvE : E → List Nat
  | .var i => [i]
  | .lit _ | .glob _ | .dict0 => []
  | .neg a | .not a | .rev a | .rvt a | .uidx a => fvE a
  | .bin _ a b | .cmp _ a b | .and a b | .or a b | .idx a b | .trng a b => fvE a ++ fvE b
  | .chain _ _ a b c | .ite a b c => fvE a ++ (fvE b ++ fvE c)
  | .tup es | .lst es | .call _ es _ | .ucall _ es | .bi _ es => fvEs es
  | .ncall _ a es => fvE a ++ fvEs es
  | .rep es n => fvEs es ++ fvE n
  | .sli a lo hi => fvE a ++ (fvEo lo ++ fvEo hi)
  | .comp elt _ it cond _ => fvI it ++ (fvEo cond ++ fvE elt)
@[simp] def fvEs : Es → List Nat
  | .nil => []
  | .cons e es => fvE e ++ fvEs es
@[simp] def fvEo : Eo → List Nat
  | .no => []
  | .yes e => fvE e
@[simp] def fvI : I → List Nat
  | .seq e | .range1 e | .revRange1 e | .enum e | .rev e => fvE e
  | .range2 a b | .zip a b => fvE a ++ fvE b
  | .range3 a b c | .zip3 a b c => fvE a ++ (fvE b ++ fvE c)
end
/-- may hand back a new list (ff: the defs that do) -/
@[simp] def fk (ff : String → Bool) : E → Bool
  | .lst _ => true
  | .comp _ _ _ _ _ => true
  | .bin .add _ _ => true
  | .rep _ _ => true
  | .sli _ _ _ => true
  | .rev _ => true
  | .rvt _ => true
  | .bi .list _ => true
  | .bi .sorted _ => true
  | .bi .sortedSet _ => true
  | .call f _ _ => ff f
  | .ucall f _ => ff f
  | .ncall f _ _ => ff f
  | .ite _ a b => fk ff a && fk ff b
  | _ => false
@[simp] def frz : Slot → Slot
  | .own ds => .imm (.list ds)
  | s => s
@[simp] def freeze (env : Env) : List Nat → Env
  | [] => env
  | i :: is => (freeze env is).modify i frz
/-- a value is stored: what it makes of its name, and of the lists that it may have taken in -/
def slotOf (ff : String → Bool) (e : E) (d : D) : Slot := if fk ff e then (match d with | .list ds => .own ds | _ => .imm d) else .imm d
def within (ff : String → Bool) (e : E) (d : D) : Bool := if fk ff e then (match d with | .list ds => noListAll ds | _ => noList d) else noList d
def after (ff : String → Bool) (env : Env) (e : E) (d : D) : Env := if within ff e d then env else freeze env (fvE e)

inductive O where
  | nx (env : Env) (u : U) | rt (d : D) (u : U) | bk (env : Env) (u : U) | ct (env : Env) (u : U)

def whileO {α β : Type} (step : α → Option (Sum α β)) (a : α) : Option β :=
  match step a with
  | none => none
  | some (.inl a') => whileO step a'
  | some (.inr b) => some b partial_fixpoint

@[simp] def forL (step : D → Env → U → Option O) : List D → Env → U → Option O
  | [], env, u => some (.nx env u)
  | d :: ds, env, u => (step d env u).bind fun o => match o with
    | .nx env' u' => forL step ds env' u'
    | .ct env' u' => forL step ds env' u'
    | .bk env' u' => some (.nx env' u')
    | .rt d u' => some (.rt d u')
@[simp] def bindTu : List Tu → List D → Env → U → Option (Env × U)
  | [], [], env, u => some (env, u)
  | .nm i :: ts, d :: ds, env, u => bindTu ts ds (env.set i (.imm d)) u
  | .pl k :: ts, .int n :: ds, env, u => if k < u.length then bindTu ts ds env (u.set k n) else none
  | _, _, _, _ => none
/-- the slots of several values stored at once -/
@[simp] def parSlots (ff : String → Bool) : Es → List D → Option (List Slot)
  | .nil, [] => some []
  | .cons e es, d :: ds => (parSlots ff es ds).map (slotOf ff e d :: ·)
  | _, _ => none
@[simp] def parWithin (ff : String → Bool) : Es → List D → Bool
  | .cons e es, d :: ds => within ff e d && parWithin ff es ds
  | _, _ => true
@[simp] def setAll : List Nat → List Slot → Env → Option Env
  | [], [], env => some env
  | i :: is, s :: ss, env => setAll is ss (env.set i s)
  | _, _, _ => none
@[simp] def iterOk : I → Bool
  | .range1 _ | .range2 _ _ | .range3 _ _ _ | .revRange1 _ => true
  | _ => false
@[simp] def ownVar (env : Env) : E → Bool
  | .var i => match env[i]? with | some (.own _) => true | _ => false
  | _ => false

section
variable (C : Ctx) (ff : String → Bool)
mutual
@[simp] def execS : S → Env → U → Option O
  | .set i e, env, u => (evalE C e env u).bind fun r => some (.nx ((after ff env e r.1).set i (slotOf ff e r.1)) r.2)
  | .set2 i j e, env, u => (evalE C e env u).bind fun r => if noList r.1 then some (.nx ((env.set i (.imm r.1)).set j (.imm r.1)) r.2) else none
  | .par is es, env, u => (evalEs C es env u).bind fun r => (parSlots ff es r.1).bind fun ss => (setAll is ss (if parWithin ff es r.1 then env else freeze env (fvEs es))).bind fun env' => some (.nx env' r.2)
  | .unp ts e, env, u => (evalE C e env u).bind fun r => match r.1 with
    | .tuple ds => (bindTu ts ds (if noListAll ds then env else freeze env (fvE e)) r.2).bind fun q => some (.nx q.1 q.2)
    | _ => none
  | .setI i k e, env, u => (evalE C e env u).bind fun r => if noList r.1 then (evalE C k env r.2).bind fun rk => match env[i]?, rk.1 with
    | some (.own ds), .int n => (ixN ds.length n).bind fun j => some (.nx (env.set i (.own (ds.set j r.1))) rk.2)
    | _, _ => none else none
  | .setU k e, env, u => (evalE C e env u).bind fun r => match r.1 with
    | .int z => (evalE C k env r.2).bind fun rk => (match rk.1 with
      | .int n => (ixN rk.2.length n).bind fun j => some (.nx env (rk.2.set j z))
      | _ => none)
    | _ => none
  | .app i e, env, u => (evalE C e env u).bind fun r => match (if noList r.1 then env else freeze env (fvE e))[i]? with
    | some (.own ds) => if sizeOk ds.length then some (.nx ((if noList r.1 then env else freeze env (fvE e)).set i (.own (ds ++ [r.1]))) r.2) else none
    | _ => none
  | .pop i, env, u => match env[i]? with
    | some (.own ds) => if ds.isEmpty then none else some (.nx (env.set i (.own ds.dropLast)) u)
    | _ => none
  | .ins i k e, env, u => (evalE C k env u).bind fun rk => (evalE C e env rk.2).bind fun r => if noList r.1 then match env[i]?, rk.1 with
    | some (.own ds), .int n => if decide (0 ≤ n ∧ n ≤ ds.length) && sizeOk ds.length then some (.nx (env.set i (.own (ds.take n.toNat ++ r.1 :: ds.drop n.toNat))) r.2) else none
    | _, _ => none else none
  | .drop e, env, u => (evalE C e env u).bind fun r => some (.nx env r.2)
  | .ite c a b, env, u => (evalE C c env u).bind fun rc => match rc with
    | (.bool k, u1) => if k = true then execSs a env u1 else execSs b env u1
    | _ => none
  | .whil c b, env, u => whileO (fun (q : Env × U) => (evalE C c q.1 q.2).bind fun rc => match rc with
    | (.bool k, u1) => if k = true then (execSs b q.1 u1).bind fun o => (match o with
        | .nx env' u' => some (.inl (env', u'))
        | .ct env' u' => some (.inl (env', u'))
        | .bk env' u' => some (.inr (O.nx env' u'))
        | .rt d u' => some (.inr (O.rt d u'))) else some (.inr (O.nx q.1 u1))
    | _ => none) (env, u)
  | .for_ t it b, env, u => (evalI C it env u).bind fun ri => if sizeOk ri.1.length then
      forL (fun d env u => (bindT t d env).bind fun env' => execSs b env' u) ri.1 (if iterOk it then env else freeze env (fvI it)) ri.2 else none
  | .ret e, env, u => (evalE C e env u).bind fun r => some (.rt r.1 r.2)
  | .retF e, env, u => (evalE C e env u).bind fun r => if fk ff e || ownVar env e || noList r.1 then some (.rt r.1 r.2) else none
  | .brk, env, u => some (.bk env u)
  | .cont, env, u => some (.ct env u)
  | .pass, env, u => some (.nx env u)
  | .raise, _, _ => none
@[simp] def execSs : Ss → Env → U → Option O
  | .nil, env, u => some (.nx env u)
  | .cons s ss, env, u => (execS s env u).bind fun o => match o with
    | .nx env' u' => execSs ss env' u'
    | o => some o
end
end

/-! ### a table of defs -/
structure Prog where
  T : String → Option PFun
  glob : String → Option D
def Prog.ff (G : Prog) (f : String) : Bool := match G.T f with | some p => p.fresh | none => false
def mkEnv (p : PFun) (ds : List D) : Env := (if p.urn then [Slot.no] else []) ++ ds.map Slot.imm ++ List.replicate (p.ns - p.np) Slot.no
def runF (C : Ctx) (ff : String → Bool) (p : PFun) (ds : List D) (u : U) : Option (D × U) :=
  if ds.length + (if p.urn then 1 else 0) = p.np then
    match execSs C ff p.body (mkEnv p ds) u with
    | some (.rt d u') => some (d, u')
    | some (.nx _ u') => if p.fresh then none else some (.none, u')
    | _ => none
  else none
def ctxOf (G : Prog) (c : String → List D → U → Option (D × U)) : Ctx where
  glob := G.glob
  fn := fun f ds => match G.T f with
    | some p => if p.urn then none else (c f ds []).map (·.1)
    | none => none
  ufn := fun f ds u => match G.T f with
    | some p => if p.urn then c f ds u else none
    | none => none
def callU (G : Prog) : Nat → String → List D → U → Option (D × U)
  | 0 => fun _ _ _ => none
  | n + 1 => fun f ds u => match G.T f with
    | some p => runF (ctxOf G (callU G n)) G.ff p ds u
    | none => none
def ctxN (G : Prog) (n : Nat) : Ctx := ctxOf G (callU G n)
/-! ### whole numbers in order -/
theorem insI_perm (x : Int) : ∀ l : List Int, (insI x l).Perm (x :: l)
  | [] => .refl _
  | y :: r => by
    unfold insI
    split
    · exact .refl _
    · exact ((insI_perm x r).cons y).trans (List.Perm.swap x y r)
theorem insI_srt (x : Int) : ∀ {l : List Int}, l.Pairwise (· ≤ ·) → (insI x l).Pairwise (· ≤ ·)
  | [], _ => by simp [insI]
  | y :: r, h => by
    unfold insI
    have h' := h
    rw [List.pairwise_cons] at h
    split
    · rename_i c
      refine List.pairwise_cons.mpr ⟨fun z hz => ?_, h'⟩
      rcases List.mem_cons.mp hz with rfl | hz
      · exact c
      · have := h.1 z hz; omega
    · rename_i c
      refine List.pairwise_cons.mpr ⟨fun z hz => ?_, insI_srt x h.2⟩
      rcases List.mem_cons.mp ((insI_perm x r).mem_iff.mp hz) with rfl | hz
      · omega
      · exact h.1 z hz
theorem sortI_perm : ∀ l : List Int, (sortI l).Perm l
  | [] => .refl _
  | x :: l => (insI_perm x (sortI l)).trans ((sortI_perm l).cons x)
theorem sortI_srt : ∀ l : List Int, (sortI l).Pairwise (· ≤ ·)
  | [] => .nil
  | x :: l => insI_srt x (sortI_srt l)
theorem srtI_one : ∀ {l m : List Int}, l.Perm m → l.Pairwise (· ≤ ·) → m.Pairwise (· ≤ ·) → l = m
  | [], m, h, _, _ => by rw [List.nil_perm.mp h]
  | a :: l, [], h, _, _ => by simpa using h.length_eq
  | a :: l, b :: m, h, s1, s2 => by
    have t1 := List.pairwise_cons.mp s1
    have t2 := List.pairwise_cons.mp s2
    have e : a = b := by
      have m1 : a ∈ b :: m := h.mem_iff.mp List.mem_cons_self
      have m2 : b ∈ a :: l := h.mem_iff.mpr List.mem_cons_self
      rcases List.mem_cons.mp m1 with q | q
      · exact q
      · rcases List.mem_cons.mp m2 with p | p
        · exact p.symm
        · have := t1.1 b p; have := t2.1 a q; omega
    subst e
    rw [srtI_one (List.Perm.cons_inv h) t1.2 t2.2]
theorem maxI_ok : ∀ {l : List Int} {m : Int}, maxI l = some m → m ∈ l ∧ ∀ y ∈ l, y ≤ m
  | [], m, h => by cases h
  | x :: r, m, h => by
    unfold maxI at h
    cases q : maxI r with
    | none =>
      rw [q] at h
      cases h
      have : r = [] := by
        cases r with
        | nil => rfl
        | cons a r =>
          unfold maxI at q
          split at q <;> cases q
      subst this
      simp
    | some k =>
      rw [q] at h
      obtain ⟨a, b⟩ := maxI_ok q
      simp only [Option.some.injEq] at h
      subst h
      split
      · rename_i c
        exact ⟨List.mem_cons_self, fun y hy => by rcases List.mem_cons.mp hy with rfl | hy; exact Int.le_refl _; have := b y hy; omega⟩
      · rename_i c
        exact ⟨List.mem_cons_of_mem _ a, fun y hy => by rcases List.mem_cons.mp hy with rfl | hy; omega; exact b y hy⟩
theorem minI_ok : ∀ {l : List Int} {m : Int}, minI l = some m → m ∈ l ∧ ∀ y ∈ l, m ≤ y
  | [], m, h => by cases h
  | x :: r, m, h => by
    unfold minI at h
    cases q : minI r with
    | none =>
      rw [q] at h
      cases h
      have : r = [] := by
        cases r with
        | nil => rfl
        | cons a r =>
          unfold minI at q
          split at q <;> cases q
      subst this
      simp
    | some k =>
      rw [q] at h
      obtain ⟨a, b⟩ := minI_ok q
      simp only [Option.some.injEq] at h
      subst h
      split
      · rename_i c
        exact ⟨List.mem_cons_self, fun y hy => by rcases List.mem_cons.mp hy with rfl | hy; exact Int.le_refl _; have := b y hy; omega⟩
      · rename_i c
        exact ⟨List.mem_cons_of_mem _ a, fun y hy => by rcases List.mem_cons.mp hy with rfl | hy; omega; exact b y hy⟩
end Pl

/-! PTold: a raised exception as a value; the term of a def that calls what it gets and tells what is raised. -/
namespace Pl
open PySem (PyData Str)
/-- class S, with d -/
def xn (s : Str) (d : D) : D := .tuple [.str s, d]
/-- except CLS as e: return [WORD, repr(e.FLD)] -/
structure Clause where
  cls : Str
  word : Str
  fld : Str
/-! ### the term -/
def varEs : Nat → Nat → Es
  | _, 0 => .nil
  | i, n + 1 => .cons (.var i) (varEs (i + 1) n)
def clSs (np : Nat) : List Clause → Ss
  | [] => .cons .raise .nil
  | c :: r => .cons (.ite (.cmp .eq (.var np) (.lit (.str c.cls))) (.cons (.ret (.lst (.cons (.lit (.str c.word)) (.cons (.bi .repr (.cons (.var (np + 1)) .nil)) .nil)))) .nil) .nil) (clSs np r)
def toldBody (f fq : String) (np : Nat) (cl : List Clause) (fin : Str) : Ss :=
  .cons (.ite (.cmp .isN (.call fq (varEs 0 np) (List.range' 0 np)) (.lit .none)) (.cons (.drop (.call f (varEs 0 np) (List.range' 0 np))) (.cons (.ret (.lst (.cons (.lit (.str fin)) .nil))) .nil)) .nil)
  (.cons (.unp [.nm np, .nm (np + 1)] (.call fq (varEs 0 np) (List.range' 0 np))) (clSs np cl))
def toldFun (f fq : String) (np : Nat) (cl : List Clause) (fin : Str) : PFun := { np := np, ns := np + 2, urn := false, fresh := false, body := toldBody f fq np cl fin }

end Pl

set_option maxHeartbeats 4000000
/-! PSound0: enumerate over a tuple. -/
namespace PlE
open PySem PySem.Spec PyProof.Rows L2
set_option maxHeartbeats 1000000 in
theorem meets_newT (l : Addr) (items : Array Value) (n : Nat) (dct : Option Addr) (sl : Array (Option Value)) :
    Meets (Builtin.«enumerate.__new__» ⟨[.type "enumerate", .ref l], []⟩) (fun _ R s => s.heap.get? l = some { cls := .type "tuple", dict := dct, data := .seq items n, slots := sl } ∧
      R (.ok (.ret (.ref (s.heap.push { cls := .type "tuple_iterator", data := .fields #[.ref l, .int 0 0] }).objs.size)))
        { s with heap := (s.heap.push { cls := .type "tuple_iterator", data := .fields #[.ref l, .int 0 0] }).push { cls := .type "enumerate", data := .fields #[.none, .bool false, .ref s.heap.objs.size, rawInt 0, .none, .none] } }) :=
  .of_wp fun prog w A R s h => by
    obtain ⟨hp, g, d, tk, os⟩ := s; obtain ⟨hl, h⟩ := h
    have hsub := sub_enumerate
    have hL : Heap.IsTuple (Shared.heap ⟨hp, g, d, tk, os⟩) l items := ⟨_, hl, rfl, n, rfl⟩
    wp_walk using AutoSeq1.wpAny_loadPart' hl
    refine wpAny_stack_any fun st => wpAny_pure ?_
    split
    · rename_i c _ _ _ _ _
      cases (c == Value.type "enumerate")
      · wp_walk using AutoSeq1.wpAny_loadPart' hl, wpAny_pyIter_tuple hL
        exact ⟨_, rfl, h⟩
      · wp_walk using AutoSeq1.wpAny_loadPart' hl, wpAny_pyIter_tuple hL
        exact ⟨_, rfl, h⟩
    · wp_walk using AutoSeq1.wpAny_loadPart' hl, wpAny_pyIter_tuple hL
      exact ⟨_, rfl, h⟩
section
variable {prog : Program} {w : World} {A : Around} {E : Value → Shared → Prop} {s : Shared}
theorem call_enumerate_tuple {l : Addr} {items : Array Value} {Q : Value → Shared → Prop} (hL : s.heap.IsTuple l items)
    (h : ∀ h', IsEnum h' (s.heap.objs.size + 1) s.heap.objs.size 0 .none → h'.IsTupleIter s.heap.objs.size l 0 → h'.objs.size = s.heap.objs.size + 2 →
      (∀ b o, s.heap.get? b = some o → h'.get? b = some o) → Q (.ref (s.heap.objs.size + 1)) { s with heap := h' }) :
    wpAny (model prog w) A (call (.type "enumerate") [.ref l]) Q E s := by
  obtain ⟨⟨c, dct, dt, sl⟩, hl, hc, n, hd⟩ := hL
  replace hc : c = .type "tuple" := hc
  replace hd : dt = .seq items n := hd
  subst hc hd
  refine callType_new F.called_enumerate (by decide) (F.typeCall_enumerate_1 _) (F.newCall_enumerate_1 _) (fun obj => F.args_object_init_2 obj _) F.entry_enumerate_new
    (meets_newT l items n dct sl) ⟨hl, ?_⟩
  have hz : (s.heap.push { cls := .type "tuple_iterator", data := .fields #[.ref l, .int 0 0] }).objs.size = s.heap.objs.size + 1 := Heap.size_push ..
  show _ ∧ _
  rw [hz]
  have he : IsEnum ((s.heap.push { cls := .type "tuple_iterator", data := .fields #[.ref l, .int 0 0] }).push
      { cls := .type "enumerate", data := .fields #[.none, .bool false, .ref s.heap.objs.size, rawInt 0, .none, .none] }) (s.heap.objs.size + 1) s.heap.objs.size 0 .none := by
    have := Heap.get?_push_size (s.heap.push { cls := .type "tuple_iterator", data := .fields #[.ref l, .int 0 0] })
      (o := { cls := .type "enumerate", data := .fields #[.none, .bool false, .ref s.heap.objs.size, rawInt 0, .none, .none] }) rfl
    rw [hz] at this; exact this
  refine ⟨⟨_, he, rfl⟩, h _ he ⟨_, Heap.get?_push_of_some _ (Heap.get?_push_size _ rfl), rfl, rfl⟩ (by rw [Heap.size_push, hz]) fun b o x => Heap.get?_push_of_some _ (Heap.get?_push_of_some _ x)⟩
end
section
variable {prog : Program} {w : World} {A : Around} {E : Value → Shared → Prop} {s : Shared}
theorem pyNext_enumT_end {e it l : Addr} {i : Nat} {items : Array Value} {old : Value} {Q : Option Value → Shared → Prop} (hh : A.handled = none)
    (he : IsEnum s.heap e it i old) (hit : s.heap.IsTupleIter it l i) (hl : s.heap.IsTuple l items) (hx : items[i]? = none)
    (hQ : ∀ h', Heap.ExtBut it s.heap h' → Q none { s with heap := h' }) : wpAny (model prog w) A (pyNext (.ref e)) Q E s := by
  have hT : s.TypeIs (.ref e) "enumerate" := ⟨_, he, rfl⟩
  unfold pyNext
  refine wpAny_bind (wpAny_attempt (wpAny_callSpecial?_slot (name := Str.ofString "__next__") hT F.slot_enumerate_next
    (wpAny_call_entry F.slot_enumerate_next hT F.entry_enumerate_next ?_ (F.args_enumerate_next_1 _))))
  show wpAny _ _ (field (.ref e) 2 >>= _) _ _ _
  refine wpAny_bind (wpAny_field he rfl (x := .ref it) rfl ?_)
  refine wpAny_bind (wpAny_nextOf_tuple_end hh hit hl hx fun h' x he' hx' => ?_)
  obtain ⟨o, ho, hc⟩ := hx'
  refine wpAny_bind (wpAny_isInstance (T := "StopIteration") (b := true) ⟨o, ho, hc⟩ isSubtype_stop ?_)
  exact wpAny_pure (hQ _ he')
end
/-- the tuple at a, each item in a new pair -/
def Itet (K : PySem.W.Frag) (a : Addr) : It :=
  ⟨fun i H => ∃ (xs : List V) (x : V), SqT K H a xs ∧ xs[i]? = some x, fun i H v H' => ∃ T x, v = .ref T ∧ H T = none ∧ H' = upd H T (.tup [.int (i : Nat), x]) ∧ ∀ xs, SqT K H a xs → xs[i]? = some x, fun i H => ∃ xs : List V, SqT K H a xs ∧ xs.length ≤ i⟩
theorem turn_enumT {P : Program} {w : World} {K : PySem.W.Frag} {elts : List Expr} {kk : Nat} {tpos : Pos} (a e it : Addr) :
    Turn P w K (.Tuple elts kk tpos) (Itet K a) [e, it] e (fun i h => (∃ old, IsEnum h e it ((i : Nat) : Int) old) ∧ h.IsTupleIter it a i ∧ e ≠ it ∧ e ≠ a ∧ a ≠ it) where
  mem := by simp
  obj := fun i h st b hb => by
    obtain ⟨⟨old, he⟩, ⟨o, ho, hc, hd⟩, _⟩ := st
    have e' : b = e ∨ b = it := by simpa using hb
    rcases e' with z | z
    · rw [z]; exact ⟨_, he, fun v q => nomatch q⟩
    · rw [z]; exact ⟨o, ho, fun v q => by rw [hd] at q; cases q⟩
  keep := fun i h h' st k => let ⟨⟨old, he⟩, hi, hne⟩ := st; ⟨⟨old, k e (by simp) _ he⟩, hi.at fun o q => k it (by simp) o q, hne⟩
  item := by
    intro X hP hw hK hc i pins s σ H E I hf st hg
    subst hP hw hK
    obtain ⟨⟨old, he⟩, hit, hne, hea, hai⟩ := st
    obtain ⟨xs, x, hq, hx⟩ := hg
    obtain ⟨its, rv, p, hz⟩ := I.tuple hq
    obtain ⟨u, hu, ru⟩ := rv.get hx
    have hel : e < s.heap.objs.size := Heap.lt_size he
    have hil : it < s.heap.objs.size := by obtain ⟨_, q, _⟩ := hit; exact Heap.lt_size q
    have hlt : i < its.toArray.size := by
      have := (List.getElem?_eq_some_iff.mp hu).1
      simpa using this
    refine wpAny_pyNext_enum_itemD (Draws.tuple (by first | rfl | exact I.ok.hd hc) it a hai its.toArray) he ⟨hit, p⟩ hlt hne (by simp [hne, hea]) fun y h' tk hy ho hit' hT hsz hk => ?_
    have hy' : y = u := by
      simp only [List.getElem?_toArray] at hy
      rw [hu] at hy
      exact (Option.some.inj hy).symm
    subst hy'
    refine ⟨_, rfl, wpAny_letOwnedTupleGo_enum (s := { s with heap := h', toks := tk + 1 }) ho fun h'' he' sb => ?_⟩
    have hT2 : h''.get? s.heap.objs.size = some { cls := .type "tuple", data := .seq #[.int i tk, y] } := (sb.2 _ (Nat.ne_of_gt hel)).trans hT
    have new : ObjOk X.prog X.w (upd H s.heap.objs.size (.tup [.int (i : Nat), x])) h'' s.heap.objs.size (.tup [.int (i : Nat), x]) :=
      ⟨by show 2 ≤ sizeLine; decide, [.int i tk, y], .cons ⟨_, rfl⟩ (.cons ru .nil), ⟨_, hT2, rfl, _, rfl⟩⟩
    have I1 : Inv X pins σ (upd H s.heap.objs.size (.tup [.int (i : Nat), x])) { s with heap := h'', toks := tk + 1 } :=
      I.turnedNew (t' := tk + 1) (ch := [e, it]) (fun b ob hb q => (sb.2 b (fun z => hb (by simp [z]))).trans (hk b ob (fun z => hb (by simp [z])) (fun z => hb (by simp [z])) q)) hf (Nat.le_refl _) new
    refine ⟨.ref s.heap.objs.size, _, I1, rfl, ⟨_, x, rfl, I.hok.fresh (Nat.le_refl _), rfl, fun ys hy => by rw [I.tuple_inj hy hq]; exact hx⟩, ⟨⟨y, ?_⟩, hit'.1.at fun o q => (sb.2 it (Ne.symm hne)).trans q, hne, hea, hai⟩, fun b hb => ?_⟩
    · have e1 : ((i + 1 : Nat) : Int) = (i : Int) + 1 := by omega
      rw [e1]; exact he'
    · have hb' : b < s.heap.objs.size := by
        have e' : b = e ∨ b = it := by simpa using hb
        rcases e' with z | z
        · rw [z]; exact hel
        · rw [z]; exact hil
      rw [upd_ne (Nat.ne_of_lt hb')]
      exact (hf b hb).1
  done := by
    intro X hP hw hK hc i pins s σ H E I hf st hg
    subst hP hw hK
    obtain ⟨⟨old, he⟩, hit, hne, hea, hai⟩ := st
    obtain ⟨xs, hq, hx⟩ := hg
    obtain ⟨its, rv, p, hz⟩ := I.tuple hq
    obtain ⟨f0, f1, f2, f3, f4, f5⟩ := hf it (by simp)
    have hl := rv.length
    exact pyNext_enumT_end (I.ok.hd hc) he hit p (by simp; omega) fun h' eb => ⟨rfl, I.turned (t' := s.toks) (fun b o hb q => eb b o hb q) f0 f1 f3 f4 f5⟩
  self := fun A i s Q E st h => let ⟨⟨_, he⟩, _⟩ := st; wpAny_pyIter_enum he h
/-- enumerate over a list or a tuple -/
def iEnumA (K : PySem.W.Frag) (ta : TA) : TI := fun σ H R => ta σ H fun vs H1 => ∃ a, vs = [.ref a] ∧ ((∃ xs, SqL K H1 a xs ∧ R (Ite K a) H1) ∨ (∃ xs, SqT K H1 a xs ∧ R (Itet K a) H1))
theorem pi_enumA {X : Cx} {e : Expr} {ta : TA} {p pos tpos : Pos} {elts : List Expr} {kk : Nat} (hg : Gl X "enumerate") (hm : X.mg "enumerate" = none) (ha : PA X [e] ta) (hs : starEach [e] X.env = [(false, eval e X.env)] := by rfl) :
    PI X (.Tuple elts kk tpos) (.Call (.Name "enumerate" p) [e] [] pos) (iEnumA X.K ta) := by
  refine ⟨fun pins s σ H R I h => ?_⟩
  refine Call_ (ld_blt I hg hm boot_enumerate (PyProof.Rows.callWith_type1 (thn (ha.run pos pins s σ H _ I h) fun us s1 ⟨vs, H1, I1, r1, q1⟩ => ?_) hs rfl))
  obtain ⟨a, ex, q⟩ := q1
  subst ex
  cases r1 with
  | cons r rr =>
    cases rr
    cases r
    rcases q with ⟨xs, hq, q⟩ | ⟨xs, hq, q⟩
    · obtain ⟨its, rv, p', hz⟩ := I1.list hq
      refine call_enumerate_list p'.isList fun h' he hit hsz hk => wpAny_pyIter_enum he ?_
      have I2 : Inv X pins σ H1 { s1 with heap := h' } := I1.kept (t' := s1.toks) hk
      refine ⟨s1.heap.objs.size + 1, [s1.heap.objs.size + 1, s1.heap.objs.size], _, _, H1, rfl, I2, turn_enum a (s1.heap.objs.size + 1) s1.heap.objs.size, ⟨⟨.none, he⟩, hit, Nat.succ_ne_self _⟩, fun b hb => ?_, q⟩
      have e' : b = s1.heap.objs.size + 1 ∨ b = s1.heap.objs.size := by simpa using hb
      have hle : s1.heap.objs.size ≤ b := by
        rcases e' with z | z
        · rw [z]; exact Nat.le_add_right _ _
        · rw [z]; exact Nat.le_refl _
      exact I1.fpOk hle (I1.hok.fresh hle)
    · obtain ⟨its, rv, p', hz⟩ := I1.tuple hq
      have hal : a < s1.heap.objs.size := by obtain ⟨_, q', _⟩ := p'; exact Heap.lt_size q'
      refine call_enumerate_tuple p' fun h' he hit hsz hk => wpAny_pyIter_enum he ?_
      have I2 : Inv X pins σ H1 { s1 with heap := h' } := I1.kept (t' := s1.toks) hk
      refine ⟨s1.heap.objs.size + 1, [s1.heap.objs.size + 1, s1.heap.objs.size], _, _, H1, rfl, I2, turn_enumT a (s1.heap.objs.size + 1) s1.heap.objs.size, ⟨⟨.none, he⟩, hit, Nat.succ_ne_self _, Nat.ne_of_gt (Nat.lt_succ_of_lt hal), Nat.ne_of_lt hal⟩, fun b hb => ?_, q⟩
      have e' : b = s1.heap.objs.size + 1 ∨ b = s1.heap.objs.size := by simpa using hb
      have hle : s1.heap.objs.size ≤ b := by
        rcases e' with z | z
        · rw [z]; exact Nat.le_add_right _ _
        · rw [z]; exact Nat.le_refl _
      exact I1.fpOk hle (I1.hok.fresh hle)
/-! ### t[::-1] of a tuple -/
section
variable {prog : Program} {w : World} {A : Around} {E : Value → Shared → Prop} {s : Shared}
theorem adjust_rev (n : Nat) : Builtin.Slice.sliceAdjust none none (-1) (n : Int) = ((n : Int) - 1, -1) := by
  unfold Builtin.Slice.sliceAdjust
  simp
theorem places_rev (n : Nat) : Builtin.Slice.slicePlaces ((n : Int) - 1) (-1) (-1) = n := by
  unfold Builtin.Slice.slicePlaces
  have h1 : ¬ ((-1 : Int) > 0) := by omega
  have h2 : (-(-1) : Int) = 1 := by decide
  simp only [h1, if_false, h2, Int.ediv_one]
  split <;> omega
theorem sliceApplied_rev {sl : Addr} {vl vu vs : Value} {n : Nat} {Q : Int × Int × Nat → Shared → Prop} (hs : s.heap.IsSliceOf sl vl vu vs) (pl : IsPart vl none) (pu : IsPart vu none) (ps : IsPart vs (some (-1)))
    (h : Q ((n : Int) - 1, -1, n) s) : wpAny (model prog w) A (Builtin.Slice.sliceApplied (.ref sl) (pure (n : Int))) Q E s := by
  obtain ⟨os, hos, hcs, hds⟩ := id hs
  unfold Builtin.Slice.sliceApplied Builtin.Slice.sliceFields
  refine wpAny_bind (wpAny_bind (wpAny_field hos hds (x := vl) rfl (wpAny_bind (wpAny_field hos hds (x := vu) rfl (wpAny_bind (wpAny_field hos hds (x := vs) rfl (wpAny_pure ?_)))))))
  refine wpAny_bind (HT.slicePart_ ps ?_)
  show wpAny _ _ (if ((-1 : Int) == 0) = true then _ else _) _ _ s
  rw [if_neg (by decide)]
  refine wpAny_bind (HT.slicePart_ pl (wpAny_bind (HT.slicePart_ pu (wpAny_bind (wpAny_pure ?_)))))
  show wpAny _ _ (match Builtin.Slice.sliceAdjust none none (-1) (n : Int) with | (lo, hi) => pure (lo, (-1 : Int), Builtin.Slice.slicePlaces lo hi (-1))) _ _ s
  rw [adjust_rev]
  show wpAny _ _ (pure ((n : Int) - 1, (-1 : Int), Builtin.Slice.slicePlaces ((n : Int) - 1) (-1) (-1))) _ _ s
  rw [places_rev]
  exact wpAny_pure h
theorem pick_rev (xs : Array Value) : ((List.range xs.size).filterMap fun (m : Nat) => xs[(((xs.size : Int) - 1) + (m : Int) * (-1)).toNat]?).toArray = xs.toList.reverse.toArray := by
  congr 1
  refine List.ext_getElem? fun i => ?_
  have e : (List.range xs.size).filterMap (fun (m : Nat) => xs[(((xs.size : Int) - 1) + (m : Int) * (-1)).toNat]?) = (List.range xs.size).map fun m => xs.toList.reverse.getD m .none := by
    have : ∀ l : List Nat, (∀ m ∈ l, m < xs.size) → l.filterMap (fun (m : Nat) => xs[(((xs.size : Int) - 1) + (m : Int) * (-1)).toNat]?) = l.map fun m => xs.toList.reverse.getD m .none := by
      intro l
      induction l with
      | nil => intro _; rfl
      | cons m l ih =>
        intro h
        have hm := h m List.mem_cons_self
        have e1 : (((xs.size : Int) - 1) + (m : Int) * (-1)).toNat = xs.size - 1 - m := by omega
        have e2 : xs[xs.size - 1 - m]? = some (xs.toList.reverse.getD m .none) := by
          have h1 : m < xs.toList.reverse.length := by simpa using hm
          rw [List.getD_eq_getElem?_getD, List.getElem?_eq_getElem h1, List.getElem_reverse]
          rw [Array.getElem?_eq_getElem (by omega)]
          simp
        rw [List.filterMap_cons, e1, e2, List.map_cons, ih fun k hk => h k (List.mem_cons_of_mem _ hk)]
    exact this _ fun m hm => List.mem_range.mp hm
  rw [e, List.getElem?_map]
  by_cases hi : i < xs.size
  · rw [List.getElem?_range hi]
    have h1 : i < xs.toList.reverse.length := by simpa using hi
    rw [List.getElem?_eq_getElem h1]
    simp only [Option.map_some, List.getD_eq_getElem?_getD, List.getElem?_eq_getElem h1, Option.getD_some]
  · rw [List.getElem?_eq_none (by simpa using hi), List.getElem?_eq_none (by simpa using hi)]
    rfl
theorem getItem_tuple_rev {t sl : Addr} {items : Array Value} {vl vu vs : Value} {Q : Value → Shared → Prop} (ht : IsTup s.heap t items) (hs : s.heap.IsSliceOf sl vl vu vs) (pl : IsPart vl none) (pu : IsPart vu none) (ps : IsPart vs (some (-1)))
    (h : Q (.ref s.heap.objs.size) { s with heap := s.heap.push { cls := .type "tuple", data := .seq items.toList.reverse.toArray } }) (hsz : items.size ≤ sizeLine) : wpAny (model prog w) A (getItem (.ref t) (.ref sl)) Q E s := by
  have htake : sizeOk (.seq items.toList.reverse.toArray) := by
    show items.toList.reverse.toArray.size ≤ sizeLine
    rw [List.size_toArray, List.length_reverse, Array.length_toList]
    exact hsz
  obtain ⟨os, hos, hcs, hds⟩ := id hs
  have hTs : s.TypeIs (.ref sl) "slice" := ⟨os, hos, hcs⟩
  unfold getItem
  try with_reducible refine wpAny_holding ?_
  first | refine wpAny_bind (wpAny_pure ?_) | skip
  refine wpAny_bind (wpAny_sequenceKey ht.typeIs (by decide) ?_)
  refine wpAny_bind (wpAny_callSpecial?_slot (name := Str.ofString "__getitem__") ht.typeIs PyProof.Rows.slot_tuple_getitem
    (wpAny_call_entry PyProof.Rows.slot_tuple_getitem ht.typeIs entry_tuple_getitem ?_ (args_tuple_getitem _ _)))
  show wpAny _ _ (Builtin.Tuple.tupleItemsOf (.ref t) >>= _) _ _ s
  refine wpAny_bind (tupleItemsOf_ ht ?_)
  refine wpAny_bind (wpAny_typeOf hTs ?_)
  rw [if_pos (by decide)]
  refine wpAny_bind (sliceApplied_rev (n := items.size) hs pl pu ps ?_)
  have hno : ¬ ((((items.size : Int) - 1) == 0 && (-1 : Int) == 1 && items.size == items.size) = true) := by
    intro q
    rw [Bool.and_eq_true, Bool.and_eq_true] at q
    exact absurd q.1.2 (by decide)
  show wpAny _ _ (if (((items.size : Int) - 1) == 0 && (-1 : Int) == 1 && items.size == items.size) = true then _ else _) _ _ s
  rw [if_neg hno, pick_rev]
  first
    | exact wpAny_bind (m := Builtin.Tuple.tupleExact _) (wpAny_newObj_type (wpAny_pure ⟨_, rfl, wpAny_pure h⟩) htake)
    | exact wpAny_bind (m := Builtin.Tuple.tupleExact _) (wpAny_newObj_type (wpAny_bind (wpAny_pure (wpAny_pure ⟨_, rfl, wpAny_pure h⟩))) htake)
end
def tRevT (K : PySem.W.Frag) (te : TE) : TE := fun σ H Q => te σ H fun x H1 => ∃ a xs, x = .ref a ∧ ((SqL K H1 a xs ∧ ∀ p, H1 p = none → Q (.ref p) (upd H1 p (.lst xs.reverse))) ∨ (SqT K H1 a xs ∧ ∀ p, H1 p = none → Q (.ref p) (upd H1 p (.tup xs.reverse))))
theorem pe_revT {X : Cx} {e : Expr} {te : TE} {k : Nat} {p1 p2 p3 pos : Pos} (he : PE X e te) : PE X (.Subscript e (.Slice none none (some (.UnaryOp .USub (.Constant (.int 1) k p1) p2)) p3) pos) (tRevT X.K te) := by
  refine ⟨fun pins s σ H Q I h => ?_⟩
  refine Subscript_ (thn (he.run pins s σ H _ I h) fun v s1 ⟨x, H1, I1, r1, q1⟩ => ?_)
  obtain ⟨a, xs, ex, hxq⟩ := q1
  subst ex
  cases r1
  have hst : PO X (some (.UnaryOp .USub (.Constant (.int 1) k p1) p2)) (tPart (tUn (rU fun i => .int (-i)) (tC (.int 1)))) := po_some (pe_un un_neg pe_int)
  refine wpAny_Slice (thn (po_none.run pins s1 σ H1 (fun o H2 => o = none ∧ H2 = H1) I1 ⟨rfl, rfl⟩) fun vl s2 ⟨l, H2, I2, pl, el, e2⟩ => ?_)
  subst el e2
  refine thn (po_none.run pins s2 σ H2 (fun o H3 => o = none ∧ H3 = H2) I2 ⟨rfl, rfl⟩) fun vu s3 ⟨u, H3, I3, pu, eu, e3⟩ => ?_
  subst eu e3
  refine thn (hst.run pins s3 σ H3 (fun o H4 => o = some (-1) ∧ H4 = H3) I3 ⟨1, rfl, -1, rfl, rfl, rfl⟩) fun vs s4 ⟨o, H4, I4, ps, eo, e4⟩ => ?_
  subst eo e4
  have I5 : Inv X pins σ H4 { s4 with heap := s4.heap.push { cls := .type "slice", data := .fields #[vl, vu, vs] } } := I4.kept (t' := s4.toks) fun b ob q => Heap.get?_push_of_some _ q
  show wpAny (model X.prog X.w) X.A (subscriptTail e (.Slice none none (some (.UnaryOp .USub (.Constant (.int 1) k p1) p2)) p3) (.ref a) (.ref s4.heap.objs.size)) (EP X pins σ Q) X.xe { s4 with heap := s4.heap.push { cls := .type "slice", data := .fields #[vl, vu, vs] } }
  rcases hxq with ⟨hx, q⟩ | ⟨hx, q⟩
  · obtain ⟨its, r, ht, hz⟩ := I5.list hx
    have hlen := r.length
    refine tail_any (ops := [.ref a, .ref s4.heap.objs.size]) ht.isList.typeIs (PySem.slot_list_getitem.lookup) ?_ (by with_unfolding_all rfl)
    refine wpAny_getItem_list_slice ht.isList (Heap.IsSliceOf.new _ vl vu vs) pl pu ps (by decide) ?_ (by rw [List.size_toArray]; omega)
    rw [PySem.W.krv_pick]
    refine ⟨.ref _, _, I5.laid (t' := s4.toks) (o := .lst xs.reverse) (fun b ob q => Heap.get?_push_of_some _ q) (Nat.le_refl _) ?_, rfl, q _ (I5.hok.fresh (Nat.le_refl _))⟩
    exact ⟨by rw [List.length_reverse]; exact hz, _, 0, r.reverse, Heap.get?_push_size _ rfl⟩
  · obtain ⟨its, r, ht, hz⟩ := I5.tuple hx
    have hlen := r.length
    refine tail_any (ops := [.ref a, .ref s4.heap.objs.size]) ht.typeIs (PyProof.Rows.slot_tuple_getitem.lookup) ?_ (by with_unfolding_all rfl)
    refine getItem_tuple_rev ht (Heap.IsSliceOf.new _ vl vu vs) pl pu ps ?_ (by rw [List.size_toArray]; omega)
    refine ⟨.ref _, _, I5.laid (t' := s4.toks) (o := .tup xs.reverse) (fun b ob q => Heap.get?_push_of_some _ q) (Nat.le_refl _) ?_, rfl, q _ (I5.hok.fresh (Nat.le_refl _))⟩
    exact ⟨by rw [List.length_reverse]; exact hz, _, r.reverse, IsTup.new _ _⟩
/-! ### t[:0:-1] of a tuple that is not empty -/
section
variable {prog : Program} {w : World} {A : Around} {E : Value → Shared → Prop} {s : Shared}
theorem adjust_rvt (n : Nat) : Builtin.Slice.sliceAdjust none (some 0) (-1) ((n + 1 : Nat) : Int) = ((n : Int), 0) := by
  unfold Builtin.Slice.sliceAdjust
  simp
  omega
theorem places_rvt (n : Nat) : Builtin.Slice.slicePlaces (n : Int) 0 (-1) = n := by
  unfold Builtin.Slice.slicePlaces
  have h1 : ¬ ((-1 : Int) > 0) := by omega
  have h2 : (-(-1) : Int) = 1 := by decide
  simp only [h1, if_false, h2, Int.ediv_one]
  split <;> omega
theorem sliceApplied_rvt {sl : Addr} {vl vu vs : Value} {n : Nat} {Q : Int × Int × Nat → Shared → Prop} (hs : s.heap.IsSliceOf sl vl vu vs) (pl : IsPart vl none) (pu : IsPart vu (some 0)) (ps : IsPart vs (some (-1)))
    (h : Q ((n : Int), -1, n) s) : wpAny (model prog w) A (Builtin.Slice.sliceApplied (.ref sl) (pure ((n + 1 : Nat) : Int))) Q E s := by
  obtain ⟨os, hos, hcs, hds⟩ := id hs
  unfold Builtin.Slice.sliceApplied Builtin.Slice.sliceFields
  refine wpAny_bind (wpAny_bind (wpAny_field hos hds (x := vl) rfl (wpAny_bind (wpAny_field hos hds (x := vu) rfl (wpAny_bind (wpAny_field hos hds (x := vs) rfl (wpAny_pure ?_)))))))
  refine wpAny_bind (HT.slicePart_ ps ?_)
  show wpAny _ _ (if ((-1 : Int) == 0) = true then _ else _) _ _ s
  rw [if_neg (by decide)]
  refine wpAny_bind (HT.slicePart_ pl (wpAny_bind (HT.slicePart_ pu (wpAny_bind (wpAny_pure ?_)))))
  show wpAny _ _ (match Builtin.Slice.sliceAdjust none (some 0) (-1) ((n + 1 : Nat) : Int) with | (lo, hi) => pure (lo, (-1 : Int), Builtin.Slice.slicePlaces lo hi (-1))) _ _ s
  rw [adjust_rvt]
  show wpAny _ _ (pure ((n : Int), (-1 : Int), Builtin.Slice.slicePlaces (n : Int) 0 (-1))) _ _ s
  rw [places_rvt]
  exact wpAny_pure h
theorem pick_rvt (x : Value) (ys : List Value) : ((List.range ys.length).filterMap fun (m : Nat) => (x :: ys).toArray[((ys.length : Int) + (m : Int) * (-1)).toNat]?).toArray = ys.reverse.toArray := by
  congr 1
  have key : ∀ l : List Nat, (∀ m ∈ l, m < ys.length) → l.filterMap (fun (m : Nat) => (x :: ys).toArray[((ys.length : Int) + (m : Int) * (-1)).toNat]?) = l.map fun m => ys.reverse.getD m .none := by
    intro l
    induction l with
    | nil => intro _; rfl
    | cons m l ih =>
      intro h
      have hm := h m List.mem_cons_self
      have e1 : ((ys.length : Int) + (m : Int) * (-1)).toNat = (ys.length - 1 - m) + 1 := by omega
      have e2 : (x :: ys).toArray[(ys.length - 1 - m) + 1]? = some (ys.reverse.getD m .none) := by
        have h1 : m < ys.reverse.length := by simpa using hm
        rw [List.getD_eq_getElem?_getD, List.getElem?_eq_getElem h1, List.getElem_reverse]
        rw [List.getElem?_toArray, List.getElem?_cons_succ, List.getElem?_eq_getElem (by omega)]
        simp
      rw [List.filterMap_cons, e1, e2, List.map_cons, ih fun k hk => h k (List.mem_cons_of_mem _ hk)]
  rw [key _ fun m hm => List.mem_range.mp hm]
  refine List.ext_getElem? fun i => ?_
  rw [List.getElem?_map]
  by_cases hi : i < ys.length
  · rw [List.getElem?_range hi]
    have h1 : i < ys.reverse.length := by simpa using hi
    rw [List.getElem?_eq_getElem h1]
    simp only [Option.map_some, List.getD_eq_getElem?_getD, List.getElem?_eq_getElem h1, Option.getD_some]
  · rw [List.getElem?_eq_none (by simpa using hi), List.getElem?_eq_none (by simpa using hi)]
    rfl
theorem getItem_tuple_rvt {t sl : Addr} {x : Value} {ys : List Value} {vl vu vs : Value} {Q : Value → Shared → Prop} (ht : IsTup s.heap t (x :: ys).toArray) (hs : s.heap.IsSliceOf sl vl vu vs) (pl : IsPart vl none) (pu : IsPart vu (some 0)) (ps : IsPart vs (some (-1)))
    (h : Q (.ref s.heap.objs.size) { s with heap := s.heap.push { cls := .type "tuple", data := .seq ys.reverse.toArray } }) (hsz : ys.length ≤ sizeLine) : wpAny (model prog w) A (getItem (.ref t) (.ref sl)) Q E s := by
  have htake : sizeOk (.seq ys.reverse.toArray) := by
    show ys.reverse.toArray.size ≤ sizeLine
    rw [List.size_toArray, List.length_reverse]
    exact hsz
  obtain ⟨os, hos, hcs, hds⟩ := id hs
  have hTs : s.TypeIs (.ref sl) "slice" := ⟨os, hos, hcs⟩
  unfold getItem
  try with_reducible refine wpAny_holding ?_
  first | refine wpAny_bind (wpAny_pure ?_) | skip
  refine wpAny_bind (wpAny_sequenceKey ht.typeIs (by decide) ?_)
  refine wpAny_bind (wpAny_callSpecial?_slot (name := Str.ofString "__getitem__") ht.typeIs PyProof.Rows.slot_tuple_getitem
    (wpAny_call_entry PyProof.Rows.slot_tuple_getitem ht.typeIs entry_tuple_getitem ?_ (args_tuple_getitem _ _)))
  show wpAny _ _ (Builtin.Tuple.tupleItemsOf (.ref t) >>= _) _ _ s
  refine wpAny_bind (tupleItemsOf_ ht ?_)
  refine wpAny_bind (wpAny_typeOf hTs ?_)
  rw [if_pos (by decide)]
  refine wpAny_bind (sliceApplied_rvt (n := ys.length) hs pl pu ps ?_)
  have hno : ¬ (((ys.length : Int) == 0 && (-1 : Int) == 1 && ys.length == (x :: ys).toArray.size) = true) := by
    intro q
    rw [Bool.and_eq_true, Bool.and_eq_true] at q
    exact absurd q.1.2 (by decide)
  show wpAny _ _ (if ((ys.length : Int) == 0 && (-1 : Int) == 1 && ys.length == (x :: ys).toArray.size) = true then _ else _) _ _ s
  rw [if_neg hno, pick_rvt]
  first
    | exact wpAny_bind (m := Builtin.Tuple.tupleExact _) (wpAny_newObj_type (wpAny_pure ⟨_, rfl, wpAny_pure h⟩) htake)
    | exact wpAny_bind (m := Builtin.Tuple.tupleExact _) (wpAny_newObj_type (wpAny_bind (wpAny_pure (wpAny_pure ⟨_, rfl, wpAny_pure h⟩))) htake)
end
def tRvtT (K : PySem.W.Frag) (te : TE) : TE := fun σ H Q => te σ H fun x H1 => ∃ a y xs, x = .ref a ∧ SqT K H1 a (y :: xs) ∧ ∀ p, H1 p = none → Q (.ref p) (upd H1 p (.tup xs.reverse))
theorem pe_rvtT {X : Cx} {e : Expr} {te : TE} {k k0 : Nat} {p0 p1 p2 p3 pos : Pos} (he : PE X e te) : PE X (.Subscript e (.Slice none (some (.Constant (.int 0) k0 p0)) (some (.UnaryOp .USub (.Constant (.int 1) k p1) p2)) p3) pos) (tRvtT X.K te) := by
  refine ⟨fun pins s σ H Q I h => ?_⟩
  refine Subscript_ (thn (he.run pins s σ H _ I h) fun v s1 ⟨x, H1, I1, r1, q1⟩ => ?_)
  obtain ⟨a, y, xs, ex, hx, q⟩ := q1
  subst ex
  cases r1
  have hst : PO X (some (.UnaryOp .USub (.Constant (.int 1) k p1) p2)) (tPart (tUn (rU fun i => .int (-i)) (tC (.int 1)))) := po_some (pe_un un_neg pe_int)
  have hup : PO X (some (.Constant (.int 0) k0 p0)) (tPart (tC (.int 0))) := po_some pe_int
  refine wpAny_Slice (thn (po_none.run pins s1 σ H1 (fun o H2 => o = none ∧ H2 = H1) I1 ⟨rfl, rfl⟩) fun vl s2 ⟨l, H2, I2, pl, el, e2⟩ => ?_)
  subst el e2
  refine thn (hup.run pins s2 σ H2 (fun o H3 => o = some 0 ∧ H3 = H2) I2 ⟨0, rfl, rfl, rfl⟩) fun vu s3 ⟨u, H3, I3, pu, eu, e3⟩ => ?_
  subst eu e3
  refine thn (hst.run pins s3 σ H3 (fun o H4 => o = some (-1) ∧ H4 = H3) I3 ⟨1, rfl, -1, rfl, rfl, rfl⟩) fun vs s4 ⟨o, H4, I4, ps, eo, e4⟩ => ?_
  subst eo e4
  have I5 : Inv X pins σ H4 { s4 with heap := s4.heap.push { cls := .type "slice", data := .fields #[vl, vu, vs] } } := I4.kept (t' := s4.toks) fun b ob q => Heap.get?_push_of_some _ q
  show wpAny (model X.prog X.w) X.A (subscriptTail e (.Slice none (some (.Constant (.int 0) k0 p0)) (some (.UnaryOp .USub (.Constant (.int 1) k p1) p2)) p3) (.ref a) (.ref s4.heap.objs.size)) (EP X pins σ Q) X.xe { s4 with heap := s4.heap.push { cls := .type "slice", data := .fields #[vl, vu, vs] } }
  obtain ⟨its, r, ht, hz⟩ := I5.tuple hx
  have hlen := r.length
  cases its with
  | nil => simp at hlen
  | cons z its =>
    have r' : L2.Vals xs its := by cases r with | cons _ t => exact t
    have hl' := r'.length
    simp only [List.length_cons] at hz hlen
    refine tail_any (ops := [.ref a, .ref s4.heap.objs.size]) ht.typeIs (PyProof.Rows.slot_tuple_getitem.lookup) ?_ (by with_unfolding_all rfl)
    refine getItem_tuple_rvt ht (Heap.IsSliceOf.new _ vl vu vs) pl pu ps ?_ (by omega)
    refine ⟨.ref _, _, I5.laid (t' := s4.toks) (o := .tup xs.reverse) (fun b ob q => Heap.get?_push_of_some _ q) (Nat.le_refl _) ?_, rfl, q _ (I5.hok.fresh (Nat.le_refl _))⟩
    exact ⟨by rw [List.length_reverse]; omega, _, r'.reverse, IsTup.new _ _⟩
end PlE

/-! PSound1: how the values of PLang lie in the hand layer's heap; the operations. -/
namespace Pl
open PySem PyProof.Rows
open L2 (V Hp HO St VK TE TT TA TS TI TG Cx PE PT PW PA PS PSs PI PG Inv SqL SqT upd upd_same upd_ne OpR UnR CallR R2 Vals RelV EP)

/-! ### data over a heap: as the library has it, and new dicts with nothing in them -/
mutual
inductive Dp (K : PySem.W.Frag) (H : Hp) : V → PyData → Prop
  | non : Dp K H .non .none
  | bl (b : Bool) : Dp K H (.bl b) (.bool b)
  | int (i : Int) : Dp K H (.int i) (.int i)
  | str (x : Str) : Dp K H (.str x) (.str x)
  | lst {a : Addr} {xs : List V} {ds : List PyData} : SqL K H a xs → DpAll K H xs ds → Dp K H (.ref a) (.list ds)
  | tup {a : Addr} {xs : List V} {ds : List PyData} : SqT K H a xs → DpAll K H xs ds → Dp K H (.ref a) (.tuple ds)
  | dct {a : Addr} : H a = some (.dT []) → Dp K H (.ref a) (.dict [])
inductive DpAll (K : PySem.W.Frag) (H : Hp) : List V → List PyData → Prop
  | nil : DpAll K H [] []
  | cons {v : V} {vs : List V} {d : PyData} {ds : List PyData} : Dp K H v d → DpAll K H vs ds → DpAll K H (v :: vs) (d :: ds)
end
mutual
theorem Dp.lib {K : PySem.W.Frag} {H : Hp} : ∀ (d : D) (v : V), PyData.hasDict d = false → Dp K H v d → L2.Dp K H v d
  | .none, _, _, .non => .non
  | .bool _, _, _, .bl b => .bl b
  | .int _, _, _, .int i => .int i
  | .str _, _, _, .str x => .str x
  | .list ds, _, n, .lst h a => .lst h (DpAll.lib ds _ (by simpa only [PyData.hasDict] using n) a)
  | .tuple ds, _, n, .tup h a => .tup h (DpAll.lib ds _ (by simpa only [PyData.hasDict] using n) a)
  | .dict [], _, n, .dct h => by simp [PyData.hasDict] at n
theorem DpAll.lib {K : PySem.W.Frag} {H : Hp} : ∀ (ds : List D) (vs : List V), PyData.hasDictAll ds = false → DpAll K H vs ds → L2.DpAll K H vs ds
  | [], _, _, .nil => .nil
  | d :: ds, _, n, .cons h t => by
    simp only [PyData.hasDictAll, Bool.or_eq_false_iff] at n
    exact .cons (Dp.lib d _ n.1 h) (DpAll.lib ds _ n.2 t)
end
mutual
theorem noDict_of_lay : ∀ d : D, PyData.canLay0 d = true → PyData.hasDict d = false
  | .none, _ => rfl
  | .bool _, _ => rfl
  | .int _, _ => rfl
  | .str _, _ => rfl
  | .list ds, h => by rw [PyData.hasDict]; exact noDict_of_layAll ds (by simpa only [PyData.canLay0] using h)
  | .tuple ds, h => by rw [PyData.hasDict]; exact noDict_of_layAll ds (by simpa only [PyData.canLay0] using h)
  | .dict _, h => by simp [PyData.canLay0] at h
theorem noDict_of_layAll : ∀ ds : List D, PyData.canLayAll0 ds = true → PyData.hasDictAll ds = false
  | [], _ => rfl
  | d :: ds, h => by
    simp only [PyData.canLayAll0, Bool.and_eq_true] at h
    rw [PyData.hasDictAll, noDict_of_lay d h.1, noDict_of_layAll ds h.2]
    rfl
end
theorem noDict_of_shaped {d : D} (h : PySem.SeqAt.shaped d = true) : PyData.hasDict d = false := by
  unfold PySem.SeqAt.shaped at h
  rw [Bool.and_eq_true] at h
  exact noDict_of_lay d h.1

/-! ### the heap: F what stands still, H what is tracked -/
def Sub (F H : Hp) : Prop := ∀ a o, F a = some o → H a = some o
/-- the tables of code objects that a law's lambdas fill: where they lie, the lambda's qualified name -/
class Tabl where
  T : List (Addr × Str)
/-- what may become of a tracked thing: nothing, but tables grow -/
def Gr (x y : Option HO) : Prop := y = x ∨ ∃ ps more, x = some (.tbl ps) ∧ y = some (.tbl (ps ++ more))
theorem Gr.refl (x : Option HO) : Gr x x := .inl rfl
theorem Gr.trans {x y z : Option HO} (a : Gr x y) (b : Gr y z) : Gr x z := by
  rcases a with rfl | ⟨ps, m, rfl, rfl⟩
  · exact b
  · rcases b with rfl | ⟨qs, m2, e, rfl⟩
    · exact .inr ⟨ps, m, rfl, rfl⟩
    · cases e
      exact .inr ⟨ps, m ++ m2, rfl, by rw [Array.append_assoc]⟩
theorem Gr.ne {x y : Option HO} (a : Gr x y) (h : x ≠ none) : y ≠ none := by
  rcases a with rfl | ⟨ps, m, rfl, rfl⟩
  · exact h
  · exact fun z => nomatch z
theorem Gr.lst {x y : Option HO} (a : Gr x y) {vs : List V} (h : x = some (.lst vs)) : y = some (.lst vs) := by
  rcases a with rfl | ⟨ps, m, rfl, rfl⟩
  · exact h
  · cases h
/-- all that is tracked is as it was -/
structure Ext0 (F H F' H' : Hp) : Prop where
  go : ∀ a : Addr, H a ≠ none → H' a = H a ∧ F' a = F a
  nt : ∀ (a : Addr) ps, F' a = some (.tbl ps) → F a = some (.tbl ps)
/-- all that is tracked is as it was, but the lent list; tables may have grown -/
def Ext (au : Option Addr) (F H F' H' : Hp) : Prop := ∀ a, some a ≠ au → H a ≠ none → Gr (H a) (H' a) ∧ F' a = F a
theorem Ext0.refl (F H : Hp) : Ext0 F H F H := ⟨fun _ _ => ⟨rfl, rfl⟩, fun _ _ h => h⟩
theorem Ext0.trans {F H F1 H1 F2 H2 : Hp} (a : Ext0 F H F1 H1) (b : Ext0 F1 H1 F2 H2) : Ext0 F H F2 H2 := ⟨fun x hn => by
  obtain ⟨h1, h2⟩ := a.go x hn
  obtain ⟨h3, h4⟩ := b.go x (by rw [h1]; exact hn)
  exact ⟨h3.trans h1, h4.trans h2⟩, fun x ps h => a.nt x ps (b.nt x ps h)⟩
theorem Ext0.tabs {T : List (Addr × Str)} {F H F' H' : Hp} (e : Ext0 F H F' H') (t : LamX.Tabs T H) : LamX.Tabs T H' := t.ext fun b o h => by
  rw [(e.go b (by rw [h]; exact fun z => nomatch z)).1]; exact h
theorem tabs_new {T : List (Addr × Str)} {H : Hp} {p : Addr} {o : HO} (t : LamX.Tabs T H) (hp : H p = none) : LamX.Tabs T (upd H p o) := t.ext fun b u h => by
  rw [upd_ne fun e => by rw [e, hp] at h; cases h]; exact h
theorem tabs_mut {T : List (Addr × Str)} {H : Hp} {p : Addr} {vs : List V} {o : HO} (t : LamX.Tabs T H) (hp : H p = some (.lst vs)) : LamX.Tabs T (upd H p o) := fun q hq => by
  obtain ⟨ps, h1, h2, h3⟩ := t q hq
  refine ⟨ps, ?_, h2, fun pos cv hc => ?_⟩
  · rw [upd_ne fun e => by rw [e, hp] at h1; cases h1]; exact h1
  · obtain ⟨c, e1, e2⟩ := h3 pos cv hc
    refine ⟨c, e1, ?_⟩
    rw [upd_ne fun e => by rw [e, hp] at e2; unfold LamX.CodeO at e2; cases e2]
    exact e2
def UrnR (au : Option Addr) (u : U) (F H : Hp) : Prop := ∀ a, au = some a → H a = some (.lst (u.map V.int)) ∧ F a = none

theorem Sub.refl (F : Hp) : Sub F F := fun _ _ h => h
theorem Sub.trans {F G H : Hp} (a : Sub F G) (b : Sub G H) : Sub F H := fun x o h => b x o (a x o h)
theorem Ext.refl (au : Option Addr) (F H : Hp) : Ext au F H F H := fun _ _ _ => ⟨.refl _, rfl⟩
theorem Ext.trans {au : Option Addr} {F H F1 H1 F2 H2 : Hp} (a : Ext au F H F1 H1) (b : Ext au F1 H1 F2 H2) : Ext au F H F2 H2 := fun x hx hn => by
  obtain ⟨h1, h2⟩ := a x hx hn
  obtain ⟨h3, h4⟩ := b x hx (h1.ne hn)
  exact ⟨h1.trans h3, h4.trans h2⟩
theorem Ext0.wk {au : Option Addr} {F H F' H' : Hp} (a : Ext0 F H F' H') : Ext au F H F' H' := fun x _ hn => by
  obtain ⟨h1, h2⟩ := a.go x hn
  exact ⟨.inl h1, h2⟩
theorem Ext.wk {au : Option Addr} {F H F' H' : Hp} (a : Ext none F H F' H') : Ext au F H F' H' := fun x _ hn => a x (fun h => nomatch h) hn
theorem Ext.sub {au : Option Addr} {F H F' H' : Hp} (e : Ext au F H F' H') (s : Sub F H) (hu : ∀ a, au = some a → F a = none) : Sub F F' := fun a o h => by
  have hn : some a ≠ au := fun q => by rw [hu a q.symm] at h; cases h
  rw [(e a hn (by rw [s a o h]; exact fun q => nomatch q)).2]
  exact h
theorem UrnR.step {au : Option Addr} {u : U} {F H F' H' : Hp} (r : UrnR au u F H) (e : Ext none F H F' H') : UrnR au u F' H' := fun a ha => by
  obtain ⟨h1, h2⟩ := r a ha
  obtain ⟨h3, h4⟩ := e a (fun h => nomatch h) (by rw [h1]; exact fun q => nomatch q)
  exact ⟨h3.lst h1, h4.trans h2⟩
/-- the tables stand; what stands still is none -/
structure Tb [Tabl] (F H : Hp) : Prop where
  t : LamX.Tabs Tabl.T H
  n : ∀ (a : Addr) ps, F a ≠ some (.tbl ps)
theorem Ext0.tb [Tabl] {F H F' H' : Hp} (e : Ext0 F H F' H') (t : Tb F H) : Tb F' H' := ⟨e.tabs t.t, fun a ps h => t.n a ps (e.nt a ps h)⟩
theorem Tb.new [Tabl] {F H : Hp} (t : Tb F H) {p : Addr} {o : HO} (hp : H p = none) : Tb F (upd H p o) := ⟨tabs_new t.t hp, t.n⟩
theorem Tb.mut [Tabl] {F H : Hp} (t : Tb F H) {p : Addr} {vs : List V} {o : HO} (hp : H p = some (.lst vs)) : Tb F (upd H p o) := ⟨tabs_mut t.t hp, t.n⟩
theorem Tb.of [Tabl] {F F' H : Hp} (t : Tb F H) (h : ∀ (a : Addr) ps, F' a = some (.tbl ps) → F a = some (.tbl ps)) : Tb F' H := ⟨t.t, fun a ps e => t.n a ps (h a ps e)⟩
theorem UrnR.no {u : U} {F H : Hp} : UrnR none u F H := fun _ h => nomatch h

/-- a new object, seen by H alone -/
theorem ext_newH {F H : Hp} {p : Addr} {o : HO} (hp : H p = none) : Ext0 F H F (upd H p o) := ⟨fun a hn =>
  ⟨upd_ne fun e => hn (e ▸ hp), rfl⟩, fun _ _ h => h⟩
/-- a new object that stands still -/
theorem ext_newF {F H : Hp} {p : Addr} {o : HO} (hp : H p = none) (ho : ∀ ps, o ≠ .tbl ps := by intro _ h; cases h) : Ext0 F H (upd F p o) (upd H p o) := ⟨fun a hn =>
  ⟨upd_ne fun e => hn (e ▸ hp), upd_ne fun e => hn (e ▸ hp)⟩, fun a ps h => by
  by_cases e : a = p
  · subst e; rw [upd_same] at h; exact absurd (Option.some.inj h) (ho ps)
  · rw [upd_ne e] at h; exact h⟩
theorem Sub.free {F H : Hp} (s : Sub F H) {p : Addr} (hp : H p = none) : F p = none := by
  cases h : F p with
  | none => rfl
  | some o => rw [s p o h] at hp; cases hp
theorem sub_newH {F H : Hp} {p : Addr} {o : HO} (s : Sub F H) (hp : H p = none) : Sub F (upd H p o) := fun a u h => by
  rw [upd_ne fun e => by rw [e, s.free hp] at h; cases h]
  exact s a u h
theorem sub_newF {F H : Hp} {p : Addr} {o : HO} (s : Sub F H) : Sub (upd F p o) (upd H p o) := fun a u h => by
  by_cases e : a = p
  · subst e; rw [upd_same] at h ⊢; exact h
  · rw [upd_ne e] at h ⊢; exact s a u h
theorem sub_new {F : Hp} {p : Addr} {o : HO} (hp : F p = none) : Sub F (upd F p o) := fun a u h => by
  rw [upd_ne fun e => by rw [e, hp] at h; cases h]
  exact h

section
variable {K : PySem.W.Frag} {F F' H H' : Hp}
theorem sqL_sub (s : Sub F F') {a : Addr} {xs : List V} (h : SqL K F a xs) : SqL K F' a xs := by
  rcases h with (h | ⟨o, h⟩) | h
  · exact .inl (.inl (s _ _ h))
  · exact .inl (.inr ⟨o, s _ _ h⟩)
  · exact .inr h
theorem sqT_sub (s : Sub F F') {a : Addr} {xs : List V} (h : SqT K F a xs) : SqT K F' a xs := by
  rcases h with (h | ⟨o, h⟩) | h
  · exact .inl (.inl (s _ _ h))
  · exact .inl (.inr ⟨o, s _ _ h⟩)
  · exact .inr h
mutual
theorem dp_sub (s : Sub F F') : ∀ (d : D) (v : V), Dp K F v d → Dp K F' v d
  | .none, _, .non => .non
  | .bool _, _, .bl b => .bl b
  | .int _, _, .int i => .int i
  | .str _, _, .str x => .str x
  | .list ds, _, .lst h a => .lst (sqL_sub s h) (dpAll_sub s ds _ a)
  | .tuple ds, _, .tup h a => .tup (sqT_sub s h) (dpAll_sub s ds _ a)
  | .dict [], _, .dct h => .dct (s _ _ h)
theorem dpAll_sub (s : Sub F F') : ∀ (ds : List D) (vs : List V), DpAll K F vs ds → DpAll K F' vs ds
  | [], _, .nil => .nil
  | d :: ds, _, .cons h t => .cons (dp_sub s d _ h) (dpAll_sub s ds _ t)
end
theorem dpAll_len : ∀ {ds : List D} {vs : List V}, DpAll K F vs ds → vs.length = ds.length
  | _, _, .nil => rfl
  | _, _, .cons _ t => congrArg Nat.succ (dpAll_len t)
theorem dpAll_get : ∀ {ds : List D} {vs : List V} {i : Nat} {d : D}, DpAll K F vs ds → ds[i]? = some d → ∃ v, vs[i]? = some v ∧ Dp K F v d
  | _, _, i, d, .nil, h => by simp at h
  | _, _, 0, d, .cons a t, h => by simp at h; subst h; exact ⟨_, rfl, a⟩
  | _, _, i + 1, d, .cons a t, h => by
    obtain ⟨v, h1, h2⟩ := dpAll_get (i := i) t (by simpa using h)
    exact ⟨v, by simpa using h1, h2⟩
theorem dpAll_append : ∀ {ds es : List D} {vs ws : List V}, DpAll K F vs ds → DpAll K F ws es → DpAll K F (vs ++ ws) (ds ++ es)
  | _, _, _, _, .nil, h => h
  | _, _, _, _, .cons a t, h => .cons a (dpAll_append t h)
theorem dpAll_take : ∀ {ds : List D} {vs : List V} (n : Nat), DpAll K F vs ds → DpAll K F (vs.take n) (ds.take n)
  | _, _, 0, _ => .nil
  | _, _, n + 1, .nil => .nil
  | _, _, n + 1, .cons a t => .cons a (dpAll_take n t)
theorem dpAll_drop : ∀ {ds : List D} {vs : List V} (n : Nat), DpAll K F vs ds → DpAll K F (vs.drop n) (ds.drop n)
  | _, _, 0, h => h
  | _, _, n + 1, .nil => .nil
  | _, _, n + 1, .cons a t => dpAll_drop n t
theorem dpAll_set : ∀ {ds : List D} {vs : List V} {v : V} {d : D} (j : Nat), DpAll K F vs ds → Dp K F v d → DpAll K F (vs.set j v) (ds.set j d)
  | _, _, _, _, _, .nil, _ => .nil
  | _, _, _, _, 0, .cons a t, h => .cons h t
  | _, _, _, _, j + 1, .cons a t, h => .cons a (dpAll_set j t h)
theorem dpAll_rev {ds : List D} {vs : List V} (h : DpAll K F vs ds) : DpAll K F vs.reverse ds.reverse := by
  induction ds generalizing vs with
  | nil => cases h; exact .nil
  | cons d ds ih =>
    cases h with
    | cons a t => rw [List.reverse_cons, List.reverse_cons]; exact dpAll_append (ih t) (.cons a .nil)
theorem dpAll_rep {ds : List D} {vs : List V} (h : DpAll K F vs ds) : ∀ k : Nat, DpAll K F (List.replicate k vs).flatten (List.replicate k ds).flatten
  | 0 => .nil
  | k + 1 => by
    rw [List.replicate_succ, List.replicate_succ, List.flatten_cons, List.flatten_cons]
    exact dpAll_append h (dpAll_rep h k)
theorem dpAll_dropLast {ds : List D} {vs : List V} (h : DpAll K F vs ds) : DpAll K F vs.dropLast ds.dropLast := by
  rw [List.dropLast_eq_take, List.dropLast_eq_take, dpAll_len h]
  exact dpAll_take _ h
theorem dpAll_ints : ∀ {ds : List D} {vs : List V} {ns : List Int}, DpAll K F vs ds → intsOf ds = some ns → vs = ns.map V.int
  | _, _, ns, .nil, h => by simp [intsOf] at h; subst h; rfl
  | .int i :: ds, _, ns, .cons a t, h => by
    cases a
    simp only [intsOf, Option.map_eq_some_iff] at h
    obtain ⟨ms, h, rfl⟩ := h
    rw [dpAll_ints t h]; rfl
  | .none :: ds, _, ns, .cons a t, h => by simp [intsOf] at h
  | .bool _ :: ds, _, ns, .cons a t, h => by simp [intsOf] at h
  | .str _ :: ds, _, ns, .cons a t, h => by simp [intsOf] at h
  | .list _ :: ds, _, ns, .cons a t, h => by simp [intsOf] at h
  | .tuple _ :: ds, _, ns, .cons a t, h => by simp [intsOf] at h
  | .dict _ :: ds, _, ns, .cons a t, h => by simp [intsOf] at h
theorem dpAll_bools : ∀ {ds : List D} {vs : List V} {ns : List Bool}, DpAll K F vs ds → boolsOf ds = some ns → vs = ns.map V.bl
  | _, _, ns, .nil, h => by simp [boolsOf] at h; subst h; rfl
  | .bool i :: ds, _, ns, .cons a t, h => by
    cases a
    simp only [boolsOf, Option.map_eq_some_iff] at h
    obtain ⟨ms, h, rfl⟩ := h
    rw [dpAll_bools t h]; rfl
  | .none :: ds, _, ns, .cons a t, h => by simp [boolsOf] at h
  | .int _ :: ds, _, ns, .cons a t, h => by simp [boolsOf] at h
  | .str _ :: ds, _, ns, .cons a t, h => by simp [boolsOf] at h
  | .list _ :: ds, _, ns, .cons a t, h => by simp [boolsOf] at h
  | .tuple _ :: ds, _, ns, .cons a t, h => by simp [boolsOf] at h
  | .dict _ :: ds, _, ns, .cons a t, h => by simp [boolsOf] at h
theorem dp_int {v : V} {i : Int} (h : Dp K F v (.int i)) : v = .int i := by cases h; rfl
theorem dp_bool {v : V} {b : Bool} (h : Dp K F v (.bool b)) : v = .bl b := by cases h; rfl
theorem dp_list {v : V} {ds : List D} (h : Dp K F v (.list ds)) : ∃ a xs, v = .ref a ∧ SqL K F a xs ∧ DpAll K F xs ds := by
  cases h with
  | lst h a => exact ⟨_, _, rfl, h, a⟩
theorem dp_tuple {v : V} {ds : List D} (h : Dp K F v (.tuple ds)) : ∃ a xs, v = .ref a ∧ SqT K F a xs ∧ DpAll K F xs ds := by
  cases h with
  | tup h a => exact ⟨_, _, rfl, h, a⟩
theorem dpAll_of_ints (ns : List Int) : DpAll K F (ns.map V.int) (ns.map PyData.int) := by
  induction ns with
  | nil => exact .nil
  | cons n ns ih => exact .cons (.int n) ih


mutual
theorem dp_noList (hT : ∀ a xs, SqT K F a xs → SqT K F' a xs) : ∀ (d : D) (v : V), noList d = true → Dp K F v d → Dp K F' v d
  | .none, _, _, .non => .non
  | .bool _, _, _, .bl b => .bl b
  | .int _, _, _, .int i => .int i
  | .str _, _, _, .str x => .str x
  | .list ds, _, h, _ => by simp [noList] at h
  | .tuple ds, _, h, .tup q a => .tup (hT _ _ q) (dpAll_noList hT ds _ (by simpa [noList] using h) a)
theorem dpAll_noList (hT : ∀ a xs, SqT K F a xs → SqT K F' a xs) : ∀ (ds : List D) (vs : List V), noListAll ds = true → DpAll K F vs ds → DpAll K F' vs ds
  | [], _, _, .nil => .nil
  | d :: ds, _, h, .cons a t => by
    simp only [noListAll, Bool.and_eq_true] at h
    exact .cons (dp_noList hT d _ h.1 a) (dpAll_noList hT ds _ h.2 t)
end
end

/-- a result that may be a new list: the list is new, nothing else holds it -/
def Rn (K : PySem.W.Frag) (H F' H' : Hp) (v : V) : D → Prop
  | .list ds => ∃ a vs, v = .ref a ∧ H a = none ∧ F' a = none ∧ H' a = some (.lst vs) ∧ DpAll K F' vs ds
  | d => Dp K F' v d
def Rr (b : Bool) (K : PySem.W.Frag) (H F' H' : Hp) (v : V) (d : D) : Prop := if b then Rn K H F' H' v d else Dp K F' v d
theorem Rn.of {K : PySem.W.Frag} {H F' H' : Hp} {v : V} {d : D} (h : Dp K F' v d) (n : isL d = false) : Rn K H F' H' v d := by
  cases d <;> first | exact h | (simp [isL] at n)
theorem Rr.of {b : Bool} {K : PySem.W.Frag} {H F' H' : Hp} {v : V} {d : D} (h : Dp K F' v d) (n : isL d = false) : Rr b K H F' H' v d := by
  cases b
  · exact h
  · exact Rn.of h n

/-- the new list is put to what stands still -/
theorem Rr.settle {au : Option Addr} {b : Bool} {K : PySem.W.Frag} {u : U} {F H F' H' : Hp} {v : V} {d : D} (r : Rr b K H F' H' v d) (e : Ext au F H F' H') (s : Sub F' H') (hu : UrnR au u F' H')
    (h0 : ∀ a, au = some a → H a ≠ none) : ∃ F'', Ext au F H F'' H' ∧ Sub F'' H' ∧ UrnR au u F'' H' ∧ Dp K F'' v d ∧ Sub F' F'' ∧ ∀ (a : Addr) ps, F'' a = some (.tbl ps) → F' a = some (.tbl ps) := by
  by_cases hb : b = true ∧ isL d = true
  · obtain ⟨rfl, hl⟩ := hb
    cases d with
    | list ds =>
      obtain ⟨a, vs, rfl, h1, h2, h3, h4⟩ := r
      have sF : Sub F' (upd F' a (.lst vs)) := sub_new h2
      refine ⟨upd F' a (.lst vs), fun x hx hn => ?_, fun x o h => ?_, fun x hx => ?_, .lst (.inl (.inl upd_same)) (dpAll_sub sF _ _ h4), sF, fun x ps h => ?_⟩
      · obtain ⟨q1, q2⟩ := e x hx hn
        exact ⟨q1, (upd_ne fun (z : x = a) => hn (by rw [z]; exact h1)).trans q2⟩
      · by_cases z : x = a
        · subst z; rw [upd_same] at h; rw [h3]; exact h
        · rw [upd_ne z] at h; exact s x o h
      · obtain ⟨q1, q2⟩ := hu x hx
        exact ⟨q1, (upd_ne fun (z : x = a) => h0 x hx (by rw [z]; exact h1)).trans q2⟩
      · by_cases z : x = a
        · subst z; rw [upd_same] at h; cases h
        · rw [upd_ne z] at h; exact h
    | _ => simp [isL] at hl
  · refine ⟨F', e, s, hu, ?_, Sub.refl _, fun _ _ h => h⟩
    cases b with
    | false => exact r
    | true =>
      have hn : isL d = false := by
        cases q : isL d with
        | false => rfl
        | true => exact absurd ⟨rfl, q⟩ hb
      cases d <;> first | exact r | (simp [isL] at hn)
end Pl

/-! PSound2: the operations. -/
namespace Pl
open PySem PyProof.Rows
open L2 (V Hp HO St VK TE TT TA TS TI TG Cx PE PT PW PA PS PSs PI PG Inv SqL SqT upd upd_same upd_ne OpR UnR CallR R2 Vals RelV EP)

def toOp : BOp → Operator
  | .add => .Add | .sub => .Sub | .mul => .Mult | .fdiv => .FloorDiv | .mod => .Mod | .pow => .Pow
def toCmp : COp → CmpOp
  | .eq => .Eq | .ne => .NotEq | .lt => .Lt | .le => .LtE | .gt => .Gt | .ge => .GtE | .isin => .In | .notin => .NotIn | .isN => .Is | .notN => .IsNot

/-- what an operation's answer is to be: d, over what stands still -/
def Ans (K : PySem.W.Frag) (F H : Hp) (d : D) (Q : VK) : Prop := ∀ v F' H', Ext0 F H F' H' → Sub F' H' → Rn K H F' H' v d → Q v H'
theorem Ans.same {K : PySem.W.Frag} {F H : Hp} {d : D} {Q : VK} {v : V} (h : Ans K F H d Q) (s : Sub F H) (r : Dp K F v d) (n : isL d = false) : Q v H := h v F H (Ext0.refl _ _) s (Rn.of r n)
theorem Ans.newL {K : PySem.W.Frag} {F H : Hp} {ds : List D} {Q : VK} {vs : List V} {p : Addr} (h : Ans K F H (.list ds) Q) (s : Sub F H) (r : DpAll K F vs ds) (hp : H p = none) : Q (.ref p) (upd H p (.lst vs)) :=
  h _ F _ (ext_newH hp) (sub_newH s hp) ⟨p, vs, rfl, hp, s.free hp, upd_same, r⟩
theorem Ans.newT {K : PySem.W.Frag} {F H : Hp} {ds : List D} {Q : VK} {vs : List V} {p : Addr} (h : Ans K F H (.tuple ds) Q) (s : Sub F H) (r : DpAll K F vs ds) (hp : H p = none) : Q (.ref p) (upd H p (.tup vs)) :=
  h _ (upd F p (.tup vs)) _ (ext_newF hp) (sub_newF s) (Dp.tup (.inl (.inl upd_same)) (dpAll_sub (sub_new (s.free hp)) _ _ r))
theorem Ans.newD {K : PySem.W.Frag} {F H : Hp} {Q : VK} {p : Addr} (h : Ans K F H (.dict []) Q) (s : Sub F H) (hp : H p = none) : Q (.ref p) (upd H p (.dT [])) :=
  h _ (upd F p (.dT [])) _ (ext_newF hp) (sub_newF s) (Dp.dct upd_same)
theorem sizeLine_of {n : Nat} (h : sizeOk n = true) : n ≤ sizeLine := Nat.le_trans (of_decide_eq_true h) (by decide)
theorem sizeLt_of {n : Nat} (h : sizeOk n = true) : n < sizeLine := Nat.lt_of_le_of_lt (of_decide_eq_true h) (by decide)

section
variable {X : Cx}
/-- list + list, whatever they stand in -/
theorem op_catS : OpR X (binaryOp .Add) (fun x y H Q => ∃ l b xs zs, x = .ref l ∧ y = .ref b ∧ SqL X.K H l xs ∧ SqL X.K H b zs ∧ xs.length + zs.length ≤ sizeLine ∧ ∀ p, H p = none → Q (.ref p) (upd H p (.lst (xs ++ zs)))) := by
  intro pins s σ H x y v u Q I rx ry h
  obtain ⟨l, b, xs, zs, rfl, rfl, hH, hB, hz, q⟩ := h
  cases rx
  cases ry
  obtain ⟨its, r, ⟨o, n, e, c, dd, d⟩, z⟩ := I.list hH
  obtain ⟨its2, r2, ⟨o2, n2, e2, c2, dd2, d2⟩, z2⟩ := I.list hB
  obtain ⟨oc, od, dt, sl⟩ := o
  obtain ⟨oc2, od2, dt2, sl2⟩ := o2
  simp only at c dd d c2 dd2 d2
  subst c dd d c2 dd2 d2
  have hl := r.length
  have hl2 := r2.length
  refine concat_meets ⟨_, e, rfl⟩ ⟨_, e2, rfl⟩ noFill_list_add seq_list_add PySem.F.slot_list_add PySem.F.entry_list_add (PySem.F.args_list_add_2 _ _) (list_addW l b its.toArray its2.toArray n n2 _ _ sl sl2 (by simp only [List.size_toArray]; omega)) ⟨e, e2, ?_⟩
  have ea : its.toArray ++ its2.toArray = (its ++ its2).toArray := by simp
  rw [ea]
  exact ⟨.ref _, _, I.lnew (t' := s.toks) (r.append r2) (by rw [List.length_append]; omega), rfl, q _ I.fresh⟩
theorem op_fdivS : OpR X (binaryOp .FloorDiv) (L2.rI (fun _ j => j ≠ 0 ∧ j.natAbs.log2 < 9000) fun i j => .int (i.fdiv j)) := L2.opI fun _ _ _ _ _ _ _ hc q => floordiv_int hc.1 q (.inl (PyProof.noPylong_of_log2 hc.2))
theorem call_divmodS : CallR X (.builtin "divmod") (fun xs H Q => ∃ i j, xs = [.int i, .int j] ∧ (j ≠ 0 ∧ j.natAbs.log2 < 9000) ∧ ∀ p, H p = none → Q (.ref p) (upd H p (.tup [.int (i.fdiv j), .int (i.fmod j)]))) := by
  intro pins s σ H xs us Q I r h
  obtain ⟨i, j, rfl, ⟨h1, h2⟩, q⟩ := h
  obtain ⟨u, w', rfl, ⟨t, rfl⟩, ⟨t', rfl⟩⟩ := L2.vals2 r
  refine divmod_int h1 ?_ (.inl (PyProof.noPylong_of_log2 h2))
  have hn : H s.heap.objs.size = none := I.hok.fresh (Nat.le_refl _)
  refine ⟨.ref s.heap.objs.size, _, ?_, rfl, q _ hn⟩
  refine I.laid (fun b o e => Heap.get?_push_of_some _ e) (Nat.le_refl _) ⟨by simp only [List.length_cons, List.length_nil]; rw [sizeLine_eq]; decide, [.int (i.fdiv j) s.toks, .int (i.fmod j) (s.toks + 1)], .cons ⟨_, rfl⟩ (.cons ⟨_, rfl⟩ .nil), ?_⟩
  exact ⟨_, Heap.get?_push_size s.heap rfl, rfl, 0, rfl⟩

def rB (K : PySem.W.Frag) (o : BOp) : R2 := fun x y H Q => ∃ F dx dy d, Sub F H ∧ Dp K F x dx ∧ Dp K F y dy ∧ binV o dx dy = some d ∧ Ans K F H d Q
theorem op_bin (o : BOp) : OpR X (binaryOp (toOp o)) (rB X.K o) := by
  intro pins s σ H x y v u Q I rx ry h
  obtain ⟨F, dx, dy, d, sb, hx, hy, hd, q⟩ := h
  have ii : ∀ {i j z : Int}, dx = .int i → dy = .int j → d = .int z → x = .int i ∧ y = .int j ∧ Q (.int z) H := fun {i j z} e1 e2 e3 => by
    subst e1 e2 e3
    exact ⟨dp_int hx, dp_int hy, q.same sb (.int z) rfl⟩
  cases o <;> cases dx <;> cases dy <;> simp only [binV] at hd <;> first | contradiction | skip
  · -- int + int
    cases hd
    obtain ⟨rfl, rfl, q'⟩ := ii rfl rfl rfl
    exact L2.op_add pins s σ H _ _ _ _ Q I rx ry ⟨_, _, rfl, rfl, q'⟩
  · -- list + list
    split at hd <;> first | contradiction | skip
    rename_i hz
    cases hd
    obtain ⟨a, xs, rfl, h1, h2⟩ := dp_list hx
    obtain ⟨b, ys, rfl, h3, h4⟩ := dp_list hy
    exact op_catS pins s σ H _ _ _ _ Q I rx ry ⟨a, b, xs, ys, rfl, rfl, sqL_sub sb h1, sqL_sub sb h3, by rw [dpAll_len h2, dpAll_len h4]; exact sizeLine_of hz, fun p hp => q.newL sb (dpAll_append h2 h4) hp⟩
  · -- tuple + tuple
    split at hd <;> first | contradiction | skip
    rename_i hz
    cases hd
    obtain ⟨a, xs, rfl, h1, h2⟩ := dp_tuple hx
    obtain ⟨b, ys, rfl, h3, h4⟩ := dp_tuple hy
    refine L2.op_catA pins s σ H _ _ _ _ Q I rx ry ⟨a, b, xs, ys, rfl, rfl, sqT_sub sb h1, sqT_sub sb h3, by rw [dpAll_len h2, dpAll_len h4]; exact sizeLine_of hz, fun z => ?_, fun z z2 => ?_, fun _ _ p hp => q.newT sb (dpAll_append h2 h4) hp⟩
    · subst z; cases h2; exact q.same sb hy rfl
    · subst z2; cases h4; rw [List.append_nil] at q; exact q.same sb hx rfl
  · -- int - int
    cases hd
    obtain ⟨rfl, rfl, q'⟩ := ii rfl rfl rfl
    exact L2.op_sub pins s σ H _ _ _ _ Q I rx ry ⟨_, _, rfl, rfl, q'⟩
  · -- int * int
    split at hd <;> first | contradiction | skip
    rename_i hz
    cases hd
    obtain ⟨rfl, rfl, q'⟩ := ii rfl rfl rfl
    exact L2.op_mulW pins s σ H _ _ _ _ Q I rx ry ⟨_, _, rfl, rfl, by simpa [mulOk, divOk, L2.CMulW, L2.CPow] using hz, q'⟩
  · -- tuple * int
    split at hd <;> first | contradiction | skip
    rename_i hz
    cases hd
    have hz := of_decide_eq_true hz
    obtain ⟨a, xs, rfl, h1, h2⟩ := dp_tuple hx
    obtain rfl := dp_int hy
    have hl := dpAll_len h2
    refine L2.op_repT pins s σ H _ _ _ _ Q I rx ry ⟨a, _, xs, rfl, rfl, sqT_sub sb h1, fun z => ?_, hz.1, hz.2.1, by omega, fun p hp => q.newT sb (dpAll_rep h2 _) hp⟩
    subst z
    simp only [List.length_nil] at hl
    omega
  · -- int // int
    split at hd <;> first | contradiction | skip
    rename_i hz
    cases hd
    obtain ⟨rfl, rfl, q'⟩ := ii rfl rfl rfl
    exact op_fdivS pins s σ H _ _ _ _ Q I rx ry ⟨_, _, rfl, rfl, by simpa [mulOk, divOk, L2.CMulW, L2.CPow] using hz, q'⟩
  · -- int % int
    split at hd <;> first | contradiction | skip
    rename_i hz
    cases hd
    obtain ⟨rfl, rfl, q'⟩ := ii rfl rfl rfl
    exact L2.op_modN pins s σ H _ _ _ _ Q I rx ry ⟨_, _, rfl, rfl, hz, q'⟩
  · -- int ** int
    split at hd <;> first | contradiction | skip
    rename_i hz
    cases hd
    obtain ⟨rfl, rfl, q'⟩ := ii rfl rfl rfl
    exact L2.op_pow pins s σ H _ _ _ _ Q I rx ry ⟨_, _, rfl, rfl, by simpa [mulOk, divOk, L2.CMulW, L2.CPow] using hz, q'⟩

/-! ### comparisons -/
/-- a flat answer -/
def AnsB (H : Hp) (b : Bool) (Q : VK) : Prop := Q (.bl b) H
def rC (K : PySem.W.Frag) (o : COp) : R2 := fun x y H Q => ∃ F dx dy b, Sub F H ∧ Dp K F x dx ∧ Dp K F y dy ∧ cmpV o dx dy = some b ∧ Q (.bl b) H
theorem items_list {d : D} {xs : List D} (h : items d = some xs) : d = .list xs ∨ d = .tuple xs := by
  cases d <;> simp [items] at h
  · exact .inl (by rw [h])
  · exact .inr (by rw [h])
theorem dp_none_iff {K : PySem.W.Frag} {F : Hp} {v : V} {d : D} (h : Dp K F v d) : decide (v = .non) = isNone d := by
  cases h <;> rfl
theorem room_in {A : Around} {d : D} {n : Nat} (h : PySem.SeqAt.shaped d = true) (hu : A.units + 66 < cLine) : A.units + 1 + min n d.depth < cLine := by
  have h1 := PySem.SeqAt.depth_of_shaped h
  have h2 : min n d.depth ≤ d.depth := Nat.min_le_right _ _
  omega
theorem op_cmp (o : COp) (hu : X.A.units + 66 < cLine) : OpR X (compareOp (toCmp o)) (rC X.K o) := by
  intro pins s σ H x y v u Q I rx ry h
  obtain ⟨F, dx, dy, b, sb, hx, hy, hd, q⟩ := h
  have hX := dp_sub sb _ _ hx
  have hY := dp_sub sb _ _ hy
  cases o
  case eq =>
    have hd : eqD dx dy = some b := by simpa only [cmpV] using hd
    unfold eqD at hd
    split at hd
    · cases hd
      cases hX
      cases hY
      exact L2.op_eq pins s σ H _ _ _ _ Q I rx ry ⟨rfl, by simpa using q⟩
    · split at hd <;> first | contradiction | skip
      rename_i hz
      cases hd
      rw [Bool.and_eq_true] at hz
      exact L2.op_eqD (by omega) pins s σ H _ _ _ _ Q I rx ry ⟨dx, dy, Dp.lib _ _ (noDict_of_shaped hz.1) hX, Dp.lib _ _ (noDict_of_shaped hz.2) hY, hz.1, hz.2, q⟩
  case ne =>
    have hq : (eqD dx dy).map (!·) = some b := by simpa only [cmpV] using hd
    rw [Option.map_eq_some_iff] at hq
    obtain ⟨b0, hq, e⟩ := hq
    subst e
    unfold eqD at hq
    split at hq
    · cases hq
      cases hX
      cases hY
      exact L2.op_ne pins s σ H _ _ _ _ Q I rx ry ⟨rfl, by simpa using q⟩
    · split at hq <;> first | contradiction | skip
      rename_i hz
      cases hq
      rw [Bool.and_eq_true] at hz
      exact L2.op_neD (by omega) pins s σ H _ _ _ _ Q I rx ry ⟨dx, dy, Dp.lib _ _ (noDict_of_shaped hz.1) hX, Dp.lib _ _ (noDict_of_shaped hz.2) hY, hz.1, hz.2, q⟩
  case lt =>
    cases dx <;> cases dy <;> simp only [cmpV] at hd <;> first | contradiction | skip
    cases hd; obtain rfl := dp_int hx; obtain rfl := dp_int hy
    exact L2.op_lt pins s σ H _ _ _ _ Q I rx ry ⟨_, _, rfl, rfl, q⟩
  case le =>
    cases dx <;> cases dy <;> simp only [cmpV] at hd <;> first | contradiction | skip
    cases hd; obtain rfl := dp_int hx; obtain rfl := dp_int hy
    exact L2.op_le pins s σ H _ _ _ _ Q I rx ry ⟨_, _, rfl, rfl, q⟩
  case gt =>
    cases dx <;> cases dy <;> simp only [cmpV] at hd <;> first | contradiction | skip
    cases hd; obtain rfl := dp_int hx; obtain rfl := dp_int hy
    exact L2.op_gt pins s σ H _ _ _ _ Q I rx ry ⟨_, _, rfl, rfl, q⟩
  case ge =>
    cases dx <;> cases dy <;> simp only [cmpV] at hd <;> first | contradiction | skip
    cases hd; obtain rfl := dp_int hx; obtain rfl := dp_int hy
    exact L2.op_ge pins s σ H _ _ _ _ Q I rx ry ⟨_, _, rfl, rfl, q⟩
  case isN =>
    have hdy : dy = .none ∨ ∃ p q, dx = .bool p ∧ dy = .bool q := by
      cases dy <;> first | exact .inl rfl | (cases dx <;> simp only [cmpV] at hd <;> first | contradiction | exact .inr ⟨_, _, rfl, rfl⟩)
    rcases hdy with rfl | ⟨p, p', rfl, rfl⟩
    rotate_left
    · simp only [cmpV] at hd
      cases hd
      cases hx; cases hy
      exact L2.op_is_bl pins s σ H _ _ _ _ Q I rx ry ⟨_, _, rfl, rfl, q⟩
    simp only [cmpV] at hd
    cases hd
    have e := dp_none_iff hx
    cases hy
    exact L2.op_isN pins s σ H _ _ _ _ Q I rx ry ⟨rfl, by rw [e]; exact q⟩
  case notN =>
    have hdy : dy = .none ∨ ∃ p q, dx = .bool p ∧ dy = .bool q := by
      cases dy <;> first | exact .inl rfl | (cases dx <;> simp only [cmpV] at hd <;> first | contradiction | exact .inr ⟨_, _, rfl, rfl⟩)
    rcases hdy with rfl | ⟨p, p', rfl, rfl⟩
    rotate_left
    · simp only [cmpV] at hd
      cases hd
      cases hx; cases hy
      exact L2.op_isnot_bl pins s σ H _ _ _ _ Q I rx ry ⟨_, _, rfl, rfl, q⟩
    simp only [cmpV] at hd
    cases hd
    have e := dp_none_iff hx
    cases hy
    exact L2.op_notN pins s σ H _ _ _ _ Q I rx ry ⟨rfl, by rw [e]; exact q⟩
  case isin =>
    have hd : inV false dx dy = some b := by simpa only [cmpV] using hd
    obtain ⟨xs, hi, hd⟩ := Option.bind_eq_some_iff.mp hd
    split at hd <;> first | contradiction | skip
    rename_i hz
    cases hd
    rw [Bool.and_eq_true] at hz
    obtain ⟨as, r1⟩ := L2.Dp.reads I dx x v (Dp.lib _ _ (noDict_of_shaped hz.1) hX) rx
    obtain ⟨bs, r2⟩ := L2.Dp.reads I dy y u (Dp.lib _ _ (by cases dy <;> simp only [items, Option.some.injEq] at hi <;> first | contradiction | (subst hi; rw [PyData.hasDict]; exact noDict_of_layAll _ hz.2)) hY) ry
    rcases items_list hi with e | e <;> subst e
    · exact SeqAt.in_list_reads r2 r1 hz.2 (SeqAt.canLay_of_shaped hz.1) (room_in hz.1 hu) ⟨.bl _, H, I, rfl, q⟩
    · exact SeqAt.in_tuple_reads r2 r1 hz.2 (SeqAt.canLay_of_shaped hz.1) (room_in hz.1 hu) ⟨.bl _, H, I, rfl, q⟩
  case notin =>
    have hd : inV true dx dy = some b := by simpa only [cmpV] using hd
    obtain ⟨xs, hi, hd⟩ := Option.bind_eq_some_iff.mp hd
    split at hd <;> first | contradiction | skip
    rename_i hz
    cases hd
    rw [Bool.and_eq_true] at hz
    obtain ⟨as, r1⟩ := L2.Dp.reads I dx x v (Dp.lib _ _ (noDict_of_shaped hz.1) hX) rx
    obtain ⟨bs, r2⟩ := L2.Dp.reads I dy y u (Dp.lib _ _ (by cases dy <;> simp only [items, Option.some.injEq] at hi <;> first | contradiction | (subst hi; rw [PyData.hasDict]; exact noDict_of_layAll _ hz.2)) hY) ry
    rcases items_list hi with e | e <;> subst e
    · exact SeqAt.notIn_list_reads r2 r1 hz.2 (SeqAt.canLay_of_shaped hz.1) (room_in hz.1 hu) ⟨.bl _, H, I, rfl, q⟩
    · exact SeqAt.notIn_tuple_reads r2 r1 hz.2 (SeqAt.canLay_of_shaped hz.1) (room_in hz.1 hu) ⟨.bl _, H, I, rfl, q⟩

/-! ### subscripts, slices -/
theorem atI_eq {α : Type} {xs : List α} {i : Int} {x : α} (h : atI xs i = some x) : L2.atI xs i = some x := by
  unfold atI at h
  unfold L2.atI L2.ixN
  by_cases h0 : 0 ≤ i
  · rw [if_pos h0] at h ⊢
    have hl := (List.getElem?_eq_some_iff.mp h).1
    rw [if_pos (by omega)]
    exact h
  · rw [if_neg h0] at h ⊢
    split at h <;> first | contradiction | skip
    rename_i h1
    rw [if_pos (by omega)]
    exact h
theorem atI_dp {K : PySem.W.Frag} {F : Hp} {xs : List D} {vs : List V} {i : Int} {d : D} (r : DpAll K F vs xs) (h : atI xs i = some d) : ∃ v, L2.atI vs i = some v ∧ Dp K F v d := by
  have hl := dpAll_len r
  unfold atI at h
  by_cases h0 : 0 ≤ i
  · rw [if_pos h0] at h
    obtain ⟨v, h1, h2⟩ := dpAll_get r h
    exact ⟨v, atI_eq (by unfold atI; rw [if_pos h0]; exact h1), h2⟩
  · rw [if_neg h0] at h
    split at h <;> first | contradiction | skip
    rename_i h1
    obtain ⟨v, h3, h2⟩ := dpAll_get r h
    exact ⟨v, atI_eq (by unfold atI; rw [if_neg h0, hl, if_pos h1]; exact h3), h2⟩
def rIx (K : PySem.W.Frag) : R2 := fun x y H Q => ∃ F dx dy d, Sub F H ∧ Dp K F x dx ∧ Dp K F y dy ∧ idxV dx dy = some d ∧ ∀ v, Dp K F v d → Q v H
theorem ix_any : L2.IxR X (rIx X.K) := by
  intro value slice pins s σ H x y v u Q I rx ry h hs
  obtain ⟨F, dx, dy, d, sb, hx, hy, hd, q⟩ := h
  cases dx <;> cases dy <;> simp only [idxV] at hd <;> first | contradiction | skip
  · obtain ⟨a, xs, rfl, h1, h2⟩ := dp_list hx
    obtain rfl := dp_int hy
    obtain ⟨w, h3, h4⟩ := atI_dp h2 hd
    exact L2.ix_list value slice pins s σ H _ _ _ _ Q I rx ry ⟨a, xs, _, w, rfl, rfl, sqL_sub sb h1, h3, q w h4⟩ hs
  · obtain ⟨a, xs, rfl, h1, h2⟩ := dp_tuple hx
    obtain rfl := dp_int hy
    obtain ⟨w, h3, h4⟩ := atI_dp h2 hd
    exact L2.ix_tup value slice pins s σ H _ _ _ _ Q I rx ry ⟨a, xs, _, w, rfl, rfl, sqT_sub sb h1, h3, q w h4⟩ hs
theorem sIx_eq (n d : Nat) (o : Option Int) : sIx n d o = HT.sIx n d o := by
  cases o with
  | none => rfl
  | some i => rfl
theorem cutV_dp {K : PySem.W.Frag} {F : Hp} {xs : List D} {vs : List V} {lo hi : Option Int} (r : DpAll K F vs xs) : DpAll K F (L2.cutV vs lo hi) (cut xs lo hi) := by
  unfold L2.cutV cut
  rw [sIx_eq, sIx_eq, dpAll_len r]
  exact dpAll_take _ (dpAll_drop _ r)
def rSl (K : PySem.W.Frag) : V → Option Int → Option Int → Hp → VK → Prop := fun x lo hi H Q => ∃ F dx d, Sub F H ∧ Dp K F x dx ∧ sliV dx lo hi = some d ∧ Ans K F H d Q
theorem sl_any : L2.SlR X (rSl X.K) := by
  intro pins s σ H x v vl vu lo hi sl Q I rx hs pl pu h
  obtain ⟨F, dx, d, sb, hx, hd, q⟩ := h
  cases dx <;> simp only [sliV] at hd <;> first | contradiction | skip
  · cases hd
    obtain ⟨a, xs, rfl, h1, h2⟩ := dp_list hx
    exact L2.sl_list pins s σ H _ _ _ _ _ _ _ Q I rx hs pl pu ⟨a, xs, rfl, sqL_sub sb h1, fun p hp => q.newL sb (cutV_dp h2) hp⟩
  · cases hd
    rename_i ds0
    obtain ⟨a, xs, rfl, h1, h2⟩ := dp_tuple hx
    refine L2.sl_tupA pins s σ H _ _ _ _ _ _ _ Q I rx hs pl pu ⟨a, xs, rfl, sqT_sub sb h1, fun z => ?_, fun _ p hp => q.newT sb (cutV_dp h2) hp⟩
    have e : cut ds0 lo hi = ds0 := by
      unfold cut
      rw [sIx_eq, sIx_eq, ← dpAll_len h2, z.1, z.2, List.drop_zero, Nat.sub_zero, dpAll_len h2, List.take_length]
    rw [e] at q
    exact q.same sb hx rfl
end
end Pl

/-! PSound3: built-in functions by values. -/
namespace Pl
open PySem PyProof.Rows
open L2 (V Hp HO St VK TE TT TA TS TI TG Cx PE PT PW PA PS PSs PI PG Inv SqL SqT upd upd_same upd_ne OpR UnR CallR R2 Vals RelV EP)

def rBi (K : PySem.W.Frag) (b : BI) : List V → Hp → VK → Prop := fun vs H Q => ∃ F ds d, Sub F H ∧ DpAll K F vs ds ∧ biV b ds = some d ∧ Ans K F H d Q
section
variable {X : Cx}
theorem dpAll1 {K : PySem.W.Frag} {F : Hp} {vs : List V} {d : D} (h : DpAll K F vs [d]) : ∃ v, vs = [v] ∧ Dp K F v d := by
  cases h with
  | cons a t => cases t; exact ⟨_, rfl, a⟩
theorem dpAll2 {K : PySem.W.Frag} {F : Hp} {vs : List V} {d e : D} (h : DpAll K F vs [d, e]) : ∃ v w, vs = [v, w] ∧ Dp K F v d ∧ Dp K F w e := by
  cases h with
  | cons a t => cases t with | cons b t => cases t; exact ⟨_, _, rfl, a, b⟩
theorem bi_len : CallR X (.builtin "len") (rBi X.K .len) := by
  intro pins s σ H xs us Q I r h
  obtain ⟨F, ds, d, sb, hx, hd, q⟩ := h
  unfold biV at hd
  split at hd <;> first | contradiction | skip
  all_goals cases hd
  · obtain ⟨v, rfl, hv⟩ := dpAll1 hx
    obtain ⟨a, xs, rfl, h1, h2⟩ := dp_list hv
    refine L2.call_len_seq pins s σ H _ _ Q I r ⟨a, xs, rfl, .inl (sqL_sub sb h1), ?_⟩
    rw [dpAll_len h2]
    exact q.same sb (.int _) rfl
  · obtain ⟨v, rfl, hv⟩ := dpAll1 hx
    obtain ⟨a, xs, rfl, h1, h2⟩ := dp_tuple hv
    refine L2.call_len_seq pins s σ H _ _ Q I r ⟨a, xs, rfl, .inr (sqT_sub sb h1), ?_⟩
    rw [dpAll_len h2]
    exact q.same sb (.int _) rfl
theorem bi_abs : CallR X (.builtin "abs") (rBi X.K .abs) := by
  intro pins s σ H xs us Q I r h
  obtain ⟨F, ds, d, sb, hx, hd, q⟩ := h
  unfold biV at hd
  split at hd <;> first | contradiction | skip
  cases hd
  obtain ⟨v, rfl, hv⟩ := dpAll1 hx
  obtain rfl := dp_int hv
  exact L2.call_abs pins s σ H _ _ Q I r ⟨_, rfl, q.same sb (.int _) rfl⟩
theorem bi_int : CallR X (.type "int") (rBi X.K .int) := by
  intro pins s σ H xs us Q I r h
  obtain ⟨F, ds, d, sb, hx, hd, q⟩ := h
  unfold biV at hd
  split at hd <;> first | contradiction | skip
  all_goals cases hd
  · obtain ⟨v, rfl, hv⟩ := dpAll1 hx
    obtain rfl := dp_int hv
    exact L2.call_int1 pins s σ H _ _ Q I r (.inl ⟨_, rfl, q.same sb (.int _) rfl⟩)
  · obtain ⟨v, rfl, hv⟩ := dpAll1 hx
    obtain rfl := dp_bool hv
    exact L2.call_int1 pins s σ H _ _ Q I r (.inr ⟨_, rfl, q.same sb (.int _) rfl⟩)
theorem bi_tuple : CallR X (.type "tuple") (rBi X.K .tuple) := by
  intro pins s σ H xs us Q I r h
  obtain ⟨F, ds, d, sb, hx, hd, q⟩ := h
  unfold biV at hd
  split at hd <;> first | contradiction | skip
  all_goals cases hd
  · obtain ⟨v, rfl, hv⟩ := dpAll1 hx
    obtain ⟨a, xs, rfl, h1, h2⟩ := dp_list hv
    exact L2.call_tuple_of pins s σ H _ _ Q I r ⟨a, xs, rfl, .inl ⟨sqL_sub sb h1, fun p hp => q.newT sb h2 hp⟩⟩
  · obtain ⟨v, rfl, hv⟩ := dpAll1 hx
    obtain ⟨a, xs, rfl, h1, h2⟩ := dp_tuple hv
    exact L2.call_tuple_of pins s σ H _ _ Q I r ⟨a, xs, rfl, .inr ⟨sqT_sub sb h1, q.same sb (.tup h1 h2) rfl⟩⟩
theorem bi_list : CallR X (.type "list") (rBi X.K .list) := by
  intro pins s σ H xs us Q I r h
  obtain ⟨F, ds, d, sb, hx, hd, q⟩ := h
  unfold biV at hd
  split at hd <;> first | contradiction | skip
  all_goals cases hd
  · obtain ⟨v, rfl, hv⟩ := dpAll1 hx
    obtain ⟨a, xs, rfl, h1, h2⟩ := dp_list hv
    exact L2.call_list_of pins s σ H _ _ Q I r ⟨a, xs, rfl, .inl (sqL_sub sb h1), fun p hp => q.newL sb h2 hp⟩
  · obtain ⟨v, rfl, hv⟩ := dpAll1 hx
    obtain ⟨a, xs, rfl, h1, h2⟩ := dp_tuple hv
    exact L2.call_list_of pins s σ H _ _ Q I r ⟨a, xs, rfl, .inr (sqT_sub sb h1), fun p hp => q.newL sb h2 hp⟩
theorem bi_all (hc : X.calm = true) : CallR X (.builtin "all") (rBi X.K .all) := by
  intro pins s σ H xs us Q I r h
  obtain ⟨F, ds, d, sb, hx, hd, q⟩ := h
  unfold biV at hd
  split at hd <;> first | contradiction | skip
  simp only [Option.map_eq_some_iff] at hd
  obtain ⟨bs, hb, rfl⟩ := hd
  obtain ⟨v, rfl, hv⟩ := dpAll1 hx
  obtain ⟨a, xs, rfl, h1, h2⟩ := dp_list hv
  obtain rfl := dpAll_bools h2 hb
  exact L2.cr_all hc pins s σ H _ _ Q I r ⟨a, bs, rfl, sqL_sub sb h1, q.same sb (.bl _) rfl⟩
theorem bi_any (hc : X.calm = true) : CallR X (.builtin "any") (rBi X.K .any) := by
  intro pins s σ H xs us Q I r h
  obtain ⟨F, ds, d, sb, hx, hd, q⟩ := h
  unfold biV at hd
  split at hd <;> first | contradiction | skip
  simp only [Option.map_eq_some_iff] at hd
  obtain ⟨bs, hb, rfl⟩ := hd
  obtain ⟨v, rfl, hv⟩ := dpAll1 hx
  obtain ⟨a, xs, rfl, h1, h2⟩ := dp_list hv
  obtain rfl := dpAll_bools h2 hb
  exact L2.cr_any hc pins s σ H _ _ Q I r ⟨a, bs, rfl, sqL_sub sb h1, q.same sb (.bl _) rfl⟩
theorem bi_sum (hc : X.calm = true) : CallR X (.builtin "sum") (rBi X.K .sum) := by
  intro pins s σ H xs us Q I r h
  obtain ⟨F, ds, d, sb, hx, hd, q⟩ := h
  unfold biV at hd
  split at hd <;> first | contradiction | skip
  simp only [Option.map_eq_some_iff] at hd
  obtain ⟨bs, hb, rfl⟩ := hd
  obtain ⟨v, rfl, hv⟩ := dpAll1 hx
  obtain ⟨a, xs, rfl, h1, h2⟩ := dp_list hv
  obtain rfl := dpAll_ints h2 hb
  exact L2.cr_sum hc pins s σ H _ _ Q I r ⟨a, bs, rfl, sqL_sub sb h1, q.same sb (.int _) rfl⟩
theorem bi_sorted : CallR X (.builtin "sorted") (rBi X.K .sorted) := by
  intro pins s σ H xs us Q I r h
  obtain ⟨F, ds, d, sb, hx, hd, q⟩ := h
  unfold biV at hd
  split at hd <;> first | contradiction | skip
  simp only [Option.map_eq_some_iff] at hd
  obtain ⟨ns, hb, rfl⟩ := hd
  obtain ⟨v, rfl, hv⟩ := dpAll1 hx
  obtain ⟨a, xs, rfl, h1, h2⟩ := dp_list hv
  obtain rfl := dpAll_ints h2 hb
  exact L2.cr_sortedI pins s σ H _ _ Q I r ⟨a, ns, rfl, sqL_sub sb h1, fun ns' p hp hs hn => by
    rw [srtI_one (hp.trans (sortI_perm ns).symm) hs (sortI_srt ns)]
    exact q.newL sb (dpAll_of_ints _) hn⟩
theorem bi_max1 (hc : X.calm = true) : CallR X (.builtin "max") (rBi X.K .max1) := by
  intro pins s σ H xs us Q I r h
  obtain ⟨F, ds, d, sb, hx, hd, q⟩ := h
  unfold biV at hd
  split at hd <;> first | contradiction | skip
  simp only [Option.map_eq_some_iff, Option.bind_eq_some_iff] at hd
  obtain ⟨m, ⟨ns, hb, hm⟩, rfl⟩ := hd
  obtain ⟨v, rfl, hv⟩ := dpAll1 hx
  obtain ⟨a, xs, rfl, h1, h2⟩ := dp_list hv
  obtain rfl := dpAll_ints h2 hb
  obtain ⟨m1, m2⟩ := maxI_ok hm
  exact L2.cr_max hc pins s σ H _ _ Q I r ⟨a, ns, rfl, sqL_sub sb h1, List.length_pos_of_mem m1, fun k k1 k2 => by
    have a1 := k2 m m1
    have a2 := m2 k k1
    have : k = m := by omega
    subst this
    exact q.same sb (.int _) rfl⟩
theorem bi_min1 (hc : X.calm = true) : CallR X (.builtin "min") (rBi X.K .min1) := by
  intro pins s σ H xs us Q I r h
  obtain ⟨F, ds, d, sb, hx, hd, q⟩ := h
  unfold biV at hd
  split at hd <;> first | contradiction | skip
  simp only [Option.map_eq_some_iff, Option.bind_eq_some_iff] at hd
  obtain ⟨m, ⟨ns, hb, hm⟩, rfl⟩ := hd
  obtain ⟨v, rfl, hv⟩ := dpAll1 hx
  obtain ⟨a, xs, rfl, h1, h2⟩ := dp_list hv
  obtain rfl := dpAll_ints h2 hb
  obtain ⟨m1, m2⟩ := minI_ok hm
  exact L2.cr_min hc pins s σ H _ _ Q I r ⟨a, ns, rfl, sqL_sub sb h1, List.length_pos_of_mem m1, fun k k1 k2 => by
    have a1 := k2 m m1
    have a2 := m2 k k1
    have : k = m := by omega
    subst this
    exact q.same sb (.int _) rfl⟩
theorem bi_max2 (hc : X.calm = true) : CallR X (.builtin "max") (rBi X.K .max2) := by
  intro pins s σ H xs us Q I r h
  obtain ⟨F, ds, d, sb, hx, hd, q⟩ := h
  unfold biV at hd
  split at hd <;> first | contradiction | skip
  cases hd
  obtain ⟨v, w, rfl, hv, hw⟩ := dpAll2 hx
  obtain rfl := dp_int hv
  obtain rfl := dp_int hw
  exact L2.call_max2 hc pins s σ H _ _ Q I r ⟨_, _, rfl, q.same sb (.int _) rfl⟩
theorem bi_min2 (hc : X.calm = true) : CallR X (.builtin "min") (rBi X.K .min2) := by
  intro pins s σ H xs us Q I r h
  obtain ⟨F, ds, d, sb, hx, hd, q⟩ := h
  unfold biV at hd
  split at hd <;> first | contradiction | skip
  cases hd
  obtain ⟨v, w, rfl, hv, hw⟩ := dpAll2 hx
  obtain rfl := dp_int hv
  obtain rfl := dp_int hw
  exact L2.call_min2 hc pins s σ H _ _ Q I r ⟨_, _, rfl, q.same sb (.int _) rfl⟩
theorem bi_divmod : CallR X (.builtin "divmod") (rBi X.K .divmod) := by
  intro pins s σ H xs us Q I r h
  obtain ⟨F, ds, d, sb, hx, hd, q⟩ := h
  unfold biV at hd
  split at hd <;> first | contradiction | skip
  split at hd <;> first | contradiction | skip
  rename_i hz
  cases hd
  obtain ⟨v, w, rfl, hv, hw⟩ := dpAll2 hx
  obtain rfl := dp_int hv
  obtain rfl := dp_int hw
  exact call_divmodS pins s σ H _ _ Q I r ⟨_, _, rfl, of_decide_eq_true hz, fun p hp => q.newT sb (.cons (.int _) (.cons (.int _) .nil)) hp⟩
theorem bi_gcd : CallR X (.builtin "math.gcd") (rBi X.K .gcd) := by
  intro pins s σ H xs us Q I r h
  obtain ⟨F, ds, d, sb, hx, hd, q⟩ := h
  unfold biV at hd
  split at hd <;> first | contradiction | skip
  cases hd
  obtain ⟨v, w, rfl, hv, hw⟩ := dpAll2 hx
  obtain rfl := dp_int hv
  obtain rfl := dp_int hw
  exact L2.cr_gcd pins s σ H _ _ Q I r ⟨_, _, rfl, q.same sb (.int _) rfl⟩
theorem join_le : ∀ ts : List Str, (Str.join ", " ts).length ≤ piled ts
  | [] => Nat.zero_le _
  | t :: ts => by have := join_length_add (t :: ts) (by simp); omega
theorem textFrom_le : ∀ (ts : List Str) (k : Nat) (acc : Str), (textFrom k acc ts).length ≤ acc.length + piled ts
  | [], k, acc => Nat.le_add_right _ _
  | t :: ts, k, acc => by
    unfold textFrom
    refine Nat.le_trans (textFrom_le ts (k + 1) _) ?_
    rw [strLen_append, strLen_append, piled_cons]
    have : (((if k > 0 then ", " else "" : String) : Str)).length ≤ 2 := by split <;> decide
    omega
theorem len_tuple (ts : List Str) : (tupleText ts).length ≤ piled ts + 3 := by
  unfold tupleText
  rw [strLen_append, strLen_append]
  have e1 : ((("(" : String) : Str)).length = 1 := rfl
  have e3 : (((if ts.length == 1 then ",)" else ")" : String) : Str)).length ≤ 2 := by split <;> decide
  have := join_le ts
  omega
theorem len_list (ts : List Str) : (listText ts).length ≤ piled ts + 2 := by
  unfold listText
  rw [strLen_append]
  have e1 : ((("]" : String) : Str)).length = 1 := rfl
  have e2 : ((("[" : String) : Str)).length = 1 := rfl
  have := textFrom_le ts 0 "["
  omega
mutual
theorem shown_len : ∀ d : D, d.showable = true → d.hasDict = false → d.shown.length ≤ cw d
  | .none, _, _ => by show ((("None" : String) : Str)).length ≤ 4; decide
  | .bool b, _, _ => by cases b <;> (show (((_ : String) : Str)).length ≤ 5; decide)
  | .int i, h, _ => by
    simp only [PyData.showable, decide_eq_true_eq] at h
    simp only [PyData.shown, cw]
    exact int_text_len_1921 h
  | .str x, _, _ => Nat.le_refl _
  | .list xs, h, k => by
    simp only [PyData.shown, cw]
    have := shownAll_len xs (by simpa only [PyData.showable] using h) (by simpa only [PyData.hasDict] using k)
    have := len_list (PyData.shownAll xs)
    omega
  | .tuple xs, h, k => by
    simp only [PyData.shown, cw]
    have := shownAll_len xs (by simpa only [PyData.showable] using h) (by simpa only [PyData.hasDict] using k)
    have := len_tuple (PyData.shownAll xs)
    omega
  | .dict _, _, k => by simp [PyData.hasDict] at k
theorem shownAll_len : ∀ ds : List D, PyData.showableAll ds = true → PyData.hasDictAll ds = false → piled (PyData.shownAll ds) ≤ cwAll ds
  | [], _, _ => Nat.le_refl _
  | d :: ds, h, k => by
    simp only [PyData.showableAll, Bool.and_eq_true] at h
    simp only [PyData.hasDictAll, Bool.or_eq_false_iff] at k
    simp only [PyData.shownAll, cwAll]
    rw [piled_cons]
    have := shown_len d h.1 k.1
    have := shownAll_len ds h.2 k.2
    omega
end
theorem bi_repr (hg : X.A.guards = some []) (hu : X.A.units + 66 < cLine) : CallR X (.builtin "repr") (rBi X.K .repr) := by
  intro pins s σ H xs us Q I r h
  obtain ⟨F, ds, d, sb, hx, hd, q⟩ := h
  unfold biV at hd
  split at hd <;> first | contradiction | skip
  rename_i d0 _
  split at hd <;> first | contradiction | skip
  rename_i hz
  cases hd
  simp only [Bool.and_eq_true, decide_eq_true_eq, Bool.not_eq_true'] at hz
  obtain ⟨⟨⟨z1, z20⟩, z3⟩, z40⟩ := hz
  obtain ⟨v, rfl, hv⟩ := dpAll1 hx
  obtain ⟨u, rfl, ru⟩ := L2.vals1 r
  have q' := q.same sb (.str d0.shown) rfl
  by_cases z2 : d0.hasDict = false
  case neg =>
    have z5 : isD0 d0 = true := by
      cases e : d0.hasDict with
      | false => exact absurd e z2
      | true => rw [e] at z20; simpa using z20
    cases hv with
    | dct h1 =>
      rename_i a
      obtain rfl := (show u = .ref a from ru)
      obtain ⟨_, ns, xs, pr, o, es, ep, g1, g2, g3, g4, _⟩ := I.hok a _ (sb _ _ h1)
      cases pr
      have g5 : es.toList = [] := g4
      have rd : Reads s.heap (.ref a) (.dict []) (a :: [] ++ []) := .dict g1 g2.1 g3 (by rw [g5]; exact .nil) (by rw [g5]; exact .nil)
      have ns' : a ≠ sysModules := by simpa using ns
      exact repr_of_reads' rd z1 (fun _ hm => by simp only [List.append_nil, List.mem_singleton] at hm; exact ns' hm.symm) hg (by omega) (fun _ _ e => e) (fun h' u tk hk => ⟨.str _, H, I.kept hk, ⟨_, rfl⟩, q'⟩) (by decide)
    | _ => simp [isD0] at z5
  have z4 : d0.shown.length ≤ sizeLine := Nat.le_trans (shown_len d0 z1 z2) z40
  obtain ⟨as, rd⟩ := L2.Dp.reads I d0 v u (Dp.lib _ _ z2 (dp_sub sb _ _ hv)) ru
  have big : ∀ a, u = .ref a → wpAny (model X.prog X.w) X.A (call (.builtin "repr") [u]) (EP X pins σ Q) X.xe s := fun a e => by
    subst e
    exact repr_of_reads' rd z1 (PyData.noDict_hsm z2) hg (by omega) (fun _ _ e => e) (fun h' u tk hk => ⟨.str _, H, I.kept hk, ⟨_, rfl⟩, q'⟩) z4
  cases hv with
  | non => cases ru; exact PySem.P.repr_of_none ⟨.str _, H, I.tok _, ⟨_, rfl⟩, q'⟩
  | bl b => cases ru; exact PySem.P.repr_of_bool ⟨.str _, H, I.tok _, ⟨_, rfl⟩, q'⟩
  | int i =>
    obtain ⟨t, rfl⟩ := ru
    exact PySem.P.repr_of_int (by simpa [PyData.showable] using z1) ⟨.str _, H, I.tok _, ⟨_, rfl⟩, q'⟩
  | str x =>
    obtain ⟨t, rfl⟩ := ru
    exact PySem.P.repr_of_str ⟨.str _, H, I.tok _, ⟨_, rfl⟩, q'⟩ (by simpa only [PyData.shown] using z4)
  | lst h1 h2 => exact big _ ru
  | tup h1 h2 => exact big _ ru
  | dct h1 => simp [PyData.hasDict] at z2

/-! ### isinstance(x, T) -/
def tyName : D → String
  | .none => "NoneType" | .bool _ => "bool" | .int _ => "int" | .str _ => "str" | .list _ => "list" | .tuple _ => "tuple" | .dict _ => "dict"
theorem tyX_list {K : PySem.W.Frag} {H : Hp} {a : Addr} {xs : List V} (h : SqL K H a xs) : L2.TyX K H (.ref a) (.type "list") := by
  rcases h with (h | ⟨o, h⟩) | ⟨o, its, n, h, c, _⟩
  · exact .base (.lst h)
  · exact .base (.frz h)
  · exact .kList h c
theorem tyX_tuple {K : PySem.W.Frag} {H : Hp} {a : Addr} {xs : List V} (h : SqT K H a xs) : L2.TyX K H (.ref a) (.type "tuple") := by
  rcases h with (h | ⟨o, h⟩) | ⟨o, its, n, h, c, _⟩
  · exact .base (.tup h)
  · exact .fTuple h
  · exact .kTuple h c
theorem tyX_dp {K : PySem.W.Frag} {H : Hp} {v : V} {d : D} (h : Dp K H v d) : L2.TyX K H v (.type (tyName d)) := by
  cases h with
  | non => exact .base .non
  | bl b => exact .base (.bl b)
  | int i => exact .base (.int i)
  | str x => exact .base (.str x)
  | lst h _ => exact tyX_list h
  | tup h _ => exact tyX_tuple h
  | dct h => exact .base (.dT h)
def rIsi (K : PySem.W.Frag) (T : String) (b : BI) : List V → Hp → VK → Prop := fun vs H Q => ∃ F v d z, Sub F H ∧ vs = [v, .ty T] ∧ Dp K F v d ∧ biV b [d] = some (.bool z) ∧ Q (.bl z) H
theorem isi_of (T : String) (b : BI) (k : ∀ (K : PySem.W.Frag) (d : D) (z : Bool), biV b [d] = some (.bool z) → PySem.W.kitOne K (.type (tyName d)) (.type T) = some z) : CallR X (.builtin "isinstance") (rIsi X.K T b) := by
  intro pins s σ H xs us Q I r h
  obtain ⟨F, v, d, z, sb, rfl, hv, hd, q⟩ := h
  exact L2.call_isi pins s σ H _ _ Q I r ⟨v, .ty T, _, _, z, rfl, .ty T, tyX_dp (dp_sub sb _ _ hv), k _ d z hd, q⟩
theorem isi_int : CallR X (.builtin "isinstance") (rIsi X.K "int" .isInt) := isi_of _ _ fun K d z h => by
  cases d <;> simp only [biV, Option.some.injEq, PyData.bool.injEq] at h <;> first | contradiction | (subst h; exact L2.kit_ty (by simp only [tyName]; decide +kernel))
theorem isi_bool : CallR X (.builtin "isinstance") (rIsi X.K "bool" .isBool) := isi_of _ _ fun K d z h => by
  cases d <;> simp only [biV, Option.some.injEq, PyData.bool.injEq] at h <;> first | contradiction | (subst h; exact L2.kit_ty (by simp only [tyName]; decide +kernel))
theorem isi_tuple : CallR X (.builtin "isinstance") (rIsi X.K "tuple" .isTuple) := isi_of _ _ fun K d z h => by
  cases d <;> simp only [biV, Option.some.injEq, PyData.bool.injEq] at h <;> first | contradiction | (subst h; exact L2.kit_ty (by simp only [tyName]; decide +kernel))
theorem isi_list : CallR X (.builtin "isinstance") (rIsi X.K "list" .isList) := isi_of _ _ fun K d z h => by
  cases d <;> simp only [biV, Option.some.injEq, PyData.bool.injEq] at h <;> first | contradiction | (subst h; exact L2.kit_ty (by simp only [tyName]; decide +kernel))
theorem isi_str : CallR X (.builtin "isinstance") (rIsi X.K "str" .isStr) := isi_of _ _ fun K d z h => by
  cases d <;> simp only [biV, Option.some.injEq, PyData.bool.injEq] at h <;> first | contradiction | (subst h; exact L2.kit_ty (by simp only [tyName]; decide +kernel))
end
end Pl

/-! PSound4: expressions. -/
namespace Pl
open PySem
open L2 (V Hp HO St VK TE TT TA TS TI TG Cx PE PT PW PA PS PSs PI PG Inv SqL SqT upd upd_same upd_ne OpR UnR CallR R2 Vals RelV EP Gl Vis)

variable [Tabl]
structure At (K : PySem.W.Frag) (au : Option Addr) (σ : St) (H F : Hp) (env : Env) (u : U) (is : List Nat) : Prop where
  sub : Sub F H
  urn : UrnR au u F H
  tab : Tb F H
  s0 : ∀ a, au = some a → σ[0]? = some (some (.ref a))
  len : env.length = σ.length
  env : ∀ i ∈ is, ∀ d, getV env i = some d → ∃ v, σ[i]? = some (some v) ∧ Dp K F v d
structure Post (au : Option Addr) (F H F' H' : Hp) (u' : U) : Prop where
  ext : Ext au F H F' H'
  sub : Sub F' H'
  urn : UrnR au u' F' H'
  tab : Tb F' H'
section
variable {K : PySem.W.Frag} {au : Option Addr} {σ : St} {H F H1 F1 H2 F2 : Hp} {env : Env} {u u1 u2 : U} {is js : List Nat}
theorem UrnR.hu (r : UrnR au u F H) : ∀ a, au = some a → F a = none := fun a h => (r a h).2
theorem UrnR.hh (r : UrnR au u F H) : ∀ a, au = some a → H a ≠ none := fun a h => by rw [(r a h).1]; exact fun q => nomatch q
theorem At.subF (A : At K au σ H F env u is) (P : Post au F H F1 H1 u1) : Sub F F1 := P.ext.sub A.sub A.urn.hu
theorem At.step (A : At K au σ H F env u is) (P : Post au F H F1 H1 u1) : At K au σ H1 F1 env u1 is :=
  ⟨P.sub, P.urn, P.tab, A.s0, A.len, fun i hi d h => by
    obtain ⟨v, h1, h2⟩ := A.env i hi d h
    exact ⟨v, h1, dp_sub (A.subF P) _ _ h2⟩⟩
theorem At.mono (A : At K au σ H F env u is) (h : ∀ i ∈ js, i ∈ is) : At K au σ H F env u js := ⟨A.sub, A.urn, A.tab, A.s0, A.len, fun i hi => A.env i (h i hi)⟩
theorem At.l (A : At K au σ H F env u (is ++ js)) : At K au σ H F env u is := A.mono fun _ h => List.mem_append_left _ h
theorem At.r (A : At K au σ H F env u (is ++ js)) : At K au σ H F env u js := A.mono fun _ h => List.mem_append_right _ h
theorem Post.trans (a : Post au F H F1 H1 u1) (b : Post au F1 H1 F2 H2 u2) : Post au F H F2 H2 u2 := ⟨a.ext.trans b.ext, b.sub, b.urn, b.tab⟩
theorem At.post (A : At K au σ H F env u is) : Post au F H F H u := ⟨Ext.refl _ _ _, A.sub, A.urn, A.tab⟩
/-- behind an operation that leaves the lent list -/
theorem Post.of (r : UrnR au u F H) (t : Tb F H) (e : Ext0 F H F1 H1) (s : Sub F1 H1) : Post au F H F1 H1 u := ⟨e.wk, s, r.step e.wk, e.tb t⟩
/-- behind a call without the lent list -/
theorem Post.of2 (r : UrnR au u F H) (P : Post none F H F1 H1 u1) : Post au F H F1 H1 u := ⟨P.ext.wk, P.sub, r.step P.ext, P.tab⟩
end

def wpE (b : Bool) (K : PySem.W.Frag) (C : Ctx) (au : Option Addr) (p : E) : TE := fun σ H Q =>
  ∃ F env u d u', At K au σ H F env u (fvE p) ∧ evalE C p env u = some (d, u') ∧ ∀ v F' H', Post au F H F' H' u' → Rr b K H F' H' v d → Q v H'
def wpT (K : PySem.W.Frag) (C : Ctx) (au : Option Addr) (p : E) : TT := fun σ H Q =>
  ∃ F env u b u', At K au σ H F env u (fvE p) ∧ evalE C p env u = some (.bool b, u') ∧ ∀ F' H', Post au F H F' H' u' → Q b H'
def wpEs (K : PySem.W.Frag) (C : Ctx) (au : Option Addr) (p : Es) : TA := fun σ H Q =>
  ∃ F env u ds u', At K au σ H F env u (fvEs p) ∧ evalEs C p env u = some (ds, u') ∧ ∀ vs F' H', Post au F H F' H' u' → DpAll K F' vs ds → Q vs H'
def wpO (K : PySem.W.Frag) (C : Ctx) (au : Option Addr) (p : Eo) : L2.TO := fun σ H Q =>
  ∃ F env u o u', At K au σ H F env u (fvEo p) ∧ evalEo C p env u = some (o, u') ∧ ∀ F' H', Post au F H F' H' u' → Q o H'

section
variable {X : Cx}
theorem _root_.L2.PE.imp {e : Expr} {t t' : TE} (h : PE X e t) (k : ∀ σ H Q, t' σ H Q → t σ H Q) : PE X e t' := ⟨fun pins s σ H Q I hw => h.run pins s σ H Q I (k _ _ _ hw)⟩
theorem _root_.L2.PT.imp {e : Expr} {t t' : TT} (h : PT X e t) (k : ∀ σ H Q, t' σ H Q → t σ H Q) : PT X e t' := ⟨fun pins s σ H Q I hw => h.run pins s σ H Q I (k _ _ _ hw)⟩
theorem _root_.L2.PW.imp {e : Expr} {t t' : TT} (h : PW X e t) (k : ∀ σ H Q, t' σ H Q → t σ H Q) : PW X e t' := ⟨fun wh pins s σ H Q I hw => h.run wh pins s σ H Q I (k _ _ _ hw)⟩
theorem _root_.L2.PA.imp {e : List Expr} {t t' : TA} (h : PA X e t) (k : ∀ σ H Q, t' σ H Q → t σ H Q) : PA X e t' := ⟨fun pos pins s σ H Q I hw => h.run pos pins s σ H Q I (k _ _ _ hw)⟩
theorem _root_.L2.PS.imp {e : Stmt} {t t' : TS} (h : PS X e t) (k : ∀ D σ H, t' D σ H → t D σ H) : PS X e t' := ⟨fun pins s σ H D I hw => h.run pins s σ H D I (k _ _ _ hw)⟩
theorem _root_.L2.PSs.imp {e : List Stmt} {t t' : TS} (h : PSs X e t) (k : ∀ D σ H, t' D σ H → t D σ H) : PSs X e t' := ⟨fun pins s σ H D I hw => h.run pins s σ H D I (k _ _ _ hw)⟩
theorem _root_.L2.PI.imp {tg e : Expr} {t t' : TI} (h : PI X tg e t) (k : ∀ σ H R, t' σ H R → t σ H R) : PI X tg e t' := ⟨fun pins s σ H R I hw => h.run pins s σ H R I (k _ _ _ hw)⟩
theorem _root_.L2.PO.imp {e : Option Expr} {t t' : L2.TO} (h : L2.PO X e t) (k : ∀ σ H Q, t' σ H Q → t σ H Q) : L2.PO X e t' := ⟨fun pins s σ H Q I hw => h.run pins s σ H Q I (k _ _ _ hw)⟩
end

/-- an expression and what it means; ff: the defs that hand back new lists; au: the lent list -/
structure Sim (X : Cx) (C : Ctx) (ff : String → Bool) (au : Option Addr) (e : Expr) (p : E) : Prop where
  raw : PE X e (wpE (fk ff p) X.K C au p)
structure SimT (X : Cx) (C : Ctx) (au : Option Addr) (e : Expr) (p : E) : Prop where
  t : PT X e (wpT X.K C au p)
structure SimW (X : Cx) (C : Ctx) (au : Option Addr) (e : Expr) (p : E) : Prop where
  t : PW X e (wpT X.K C au p)
structure SimA (X : Cx) (C : Ctx) (au : Option Addr) (es : List Expr) (p : Es) : Prop where
  t : PA X es (wpEs X.K C au p)
structure SimO (X : Cx) (C : Ctx) (au : Option Addr) (e : Option Expr) (p : Eo) : Prop where
  t : L2.PO X e (wpO X.K C au p)

section
variable {X : Cx} {C : Ctx} {ff : String → Bool} {au : Option Addr} {e a b c : Expr} {es : List Expr} {p pa pb pc : E} {ps : Es} {pos : Pos}
theorem Sim.pl (h : Sim X C ff au e p) : PE X e (wpE false X.K C au p) := h.raw.imp fun σ H Q ⟨F, env, u, d, u', A, ev, k⟩ => by
  refine ⟨F, env, u, d, u', A, ev, fun v F' H' P r => ?_⟩
  obtain ⟨F2, e2, s2, r2, dp, _, nt⟩ := r.settle P.ext P.sub P.urn A.urn.hh
  exact k v F2 H' ⟨e2, s2, r2, P.tab.of nt⟩ dp
/-- where nothing new is handed back -/
theorem sim_pl (hk : fk ff p = false) (h : PE X e (wpE false X.K C au p)) : Sim X C ff au e p := ⟨by rw [hk]; exact h⟩
/-- an expression's value, of its own ways -/
theorem Sim.bo (h : Sim X C ff au e p) : PE X e (fun σ H Q => ∃ F env u b u', At X.K au σ H F env u (fvE p) ∧ evalE C p env u = some (.bool b, u') ∧ ∀ F' H', Post au F H F' H' u' → Q (.bl b) H') :=
  h.pl.imp fun σ H Q ⟨F, env, u, b, u', A, ev, k⟩ => ⟨F, env, u, .bool b, u', A, ev, fun v F' H' P r => by
    obtain rfl := dp_bool r
    exact k F' H' P⟩
theorem simT_of (h : Sim X C ff au e p) (he : ∀ whole, isTrue e X.env whole = (do let v ← whole; standAt e.pos; holding [v] (truthy v))) : SimT X C au e p :=
  ⟨L2.PT.imp (L2.pt_val h.pl he) fun σ H Q ⟨F, env, u, b, u', A, ev, k⟩ => ⟨F, env, u, .bool b, u', A, ev, fun v F' H' P r => ⟨b, dp_bool r, k F' H' P⟩⟩⟩

/-! ### names, constants -/
theorem sim_var {i : Nat} {x : Str} (h : PE X (.Name x pos) (L2.tVar i)) : Sim X C ff au (.Name x pos) (.var i) := sim_pl rfl (h.imp fun σ H Q ⟨F, env, u, d, u', A, ev, k⟩ => by
  simp only [evalE] at ev
  obtain ⟨d0, e1, ev⟩ := Option.bind_eq_some_iff.mp ev
  cases ev
  obtain ⟨v, h1, h2⟩ := A.env i (by simp [fvE]) _ e1
  exact ⟨v, h1, k v F H A.post h2⟩)
theorem sim_int {i : Int} {j : Nat} : Sim X C ff au (.Constant (.int i) j pos) (.lit (.int i)) := sim_pl rfl (L2.pe_int.imp fun σ H Q ⟨F, env, u, d, u', A, ev, k⟩ => by
  simp only [evalE, litV, Option.bind_some, Option.some.injEq, Prod.mk.injEq] at ev
  obtain ⟨rfl, rfl⟩ := ev
  exact k _ F H A.post (.int i))
theorem sim_bool {i : Bool} {j : Nat} : Sim X C ff au (.Constant (.bool i) j pos) (.lit (.bool i)) := sim_pl rfl (L2.pe_bl.imp fun σ H Q ⟨F, env, u, d, u', A, ev, k⟩ => by
  simp only [evalE, litV, Option.bind_some, Option.some.injEq, Prod.mk.injEq] at ev
  obtain ⟨rfl, rfl⟩ := ev
  exact k _ F H A.post (.bl i))
theorem sim_none {j : Nat} : Sim X C ff au (.Constant .none j pos) (.lit .none) := sim_pl rfl (L2.pe_non.imp fun σ H Q ⟨F, env, u, d, u', A, ev, k⟩ => by
  simp only [evalE, litV, Option.bind_some, Option.some.injEq, Prod.mk.injEq] at ev
  obtain ⟨rfl, rfl⟩ := ev
  exact k _ F H A.post .non)
theorem sim_str {i : Str} {j : Nat} : Sim X C ff au (.Constant (.str i) j pos) (.lit (.str i)) := sim_pl rfl (L2.pe_str.imp fun σ H Q ⟨F, env, u, d, u', A, ev, k⟩ => by
  simp only [evalE, litV, Option.bind_some, Option.some.injEq, Prod.mk.injEq] at ev
  obtain ⟨rfl, rfl⟩ := ev
  exact k _ F H A.post (.str i))
/-- a constant of the module -/
theorem sim_glob {x : Str} {n : String} {v : V} {d : D} (h : PE X (.Name x pos) (L2.tC v)) (hc : C.glob n = some d) (hd : ∀ F, Dp X.K F v d) : Sim X C ff au (.Name x pos) (.glob n) := sim_pl rfl (h.imp fun σ H Q ⟨F, env, u, d, u', A, ev, k⟩ => by
  simp only [evalE, hc, Option.bind_some, Option.some.injEq, Prod.mk.injEq] at ev
  obtain ⟨rfl, rfl⟩ := ev
  exact k _ F H A.post (hd F))

/-! ### operations -/
theorem Post.grow {F H F2 H2 : Hp} {u2 : U} (P : Post au F H F2 H2 u2) {q : Addr} (hq : H q ≠ none) : H2 q ≠ none := by
  by_cases hz : some q = au
  · exact P.urn.hh q hz.symm
  · exact (P.ext q hz hq).1.ne hq
theorem Rn.back {K : PySem.W.Frag} {H H2 F' H' : Hp} {z : V} {d : D} (r : Rn K H2 F' H' z d) (g : ∀ q, H q ≠ none → H2 q ≠ none) : Rn K H F' H' z d := by
  cases d with
  | list ds =>
    obtain ⟨p, vs, h1, h2, h3⟩ := r
    refine ⟨p, vs, h1, ?_, h3⟩
    cases q : H p with
    | none => rfl
    | some o => exact absurd h2 (g p (by rw [q]; exact fun z => nomatch z))
  | _ => exact r
theorem Rr.back {b : Bool} {K : PySem.W.Frag} {H H2 F' H' : Hp} {z : V} {d : D} (r : Rr b K H2 F' H' z d) (g : ∀ q, H q ≠ none → H2 q ≠ none) : Rr b K H F' H' z d := by
  cases b with
  | false => exact r
  | true => exact Rn.back r g
/-- an answer of an operation, as an expression's -/
theorem ans_of {K : PySem.W.Frag} {F H F2 H2 : Hp} {u2 : U} {d : D} {Q : VK} (P : Post au F H F2 H2 u2) (k : ∀ v F' H', Post au F H F' H' u2 → Rr true K H F' H' v d → Q v H') : Ans K F2 H2 d Q := fun z F' H' e s r =>
  k z F' H' (P.trans (Post.of P.urn P.tab e s)) (Rn.back r fun _ hq => P.grow hq)

theorem sim_bin (o : BOp) (ha : Sim X C ff au a pa) (hb : Sim X C ff au b pb) : PE X (.BinOp a (toOp o) b pos) (wpE true X.K C au (.bin o pa pb)) :=
  (L2.pe_op (op_bin o) ha.pl hb.pl).imp fun σ H Q ⟨F, env, u, d, u', A, ev, k⟩ => by
    simp only [evalE] at ev
    obtain ⟨⟨da, u1⟩, e1, ev⟩ := Option.bind_eq_some_iff.mp ev
    obtain ⟨⟨db, u2⟩, e2, ev⟩ := Option.bind_eq_some_iff.mp ev
    obtain ⟨d0, e3, ev⟩ := Option.bind_eq_some_iff.mp ev
    cases ev
    refine ⟨F, env, u, da, u1, A.l, e1, fun v F1 H1 P1 r1 => ?_⟩
    have A1 := A.step P1
    refine ⟨F1, env, u1, db, u2, A1.r, e2, fun w F2 H2 P2 r2 => ?_⟩
    exact ⟨F2, da, db, d, P2.sub, dp_sub (A1.subF P2) _ _ r1, r2, e3, ans_of (P1.trans P2) k⟩
/-- of what no list comes -/
theorem down_of {e : Expr} {p : E} (h : PE X e (wpE true X.K C au p)) (hk : ∀ env u d u', evalE C p env u = some (d, u') → isL d = false) : PE X e (wpE false X.K C au p) := h.imp fun σ H Q ⟨F, env, u, d, u', A, ev, k⟩ =>
  ⟨F, env, u, d, u', A, ev, fun v F' H' P r => k v F' H' P (by
    have n := hk _ _ _ _ ev
    cases d <;> first | exact r | simp [isL] at n)⟩
theorem bin_noL {o : BOp} (h : o ≠ .add) : ∀ env u d u', evalE C (.bin o pa pb) env u = some (d, u') → isL d = false := by
  intro env u d u' ev
  simp only [evalE] at ev
  obtain ⟨⟨da, u1⟩, e1, ev⟩ := Option.bind_eq_some_iff.mp ev
  obtain ⟨⟨db, u2⟩, e2, ev⟩ := Option.bind_eq_some_iff.mp ev
  obtain ⟨d0, e3, ev⟩ := Option.bind_eq_some_iff.mp ev
  cases ev
  simp only at e3
  cases o <;> first | exact absurd rfl h | skip
  all_goals (cases da <;> cases db <;> simp only [binV] at e3 <;> first | contradiction | (cases e3; rfl) | (split at e3 <;> first | contradiction | (cases e3; rfl)))
theorem sim_add (ha : Sim X C ff au a pa) (hb : Sim X C ff au b pb) : Sim X C ff au (.BinOp a .Add b pos) (.bin .add pa pb) := ⟨sim_bin .add ha hb⟩
theorem sim_sub (ha : Sim X C ff au a pa) (hb : Sim X C ff au b pb) : Sim X C ff au (.BinOp a .Sub b pos) (.bin .sub pa pb) := sim_pl rfl (down_of (sim_bin .sub ha hb) (bin_noL (by decide)))
theorem sim_mul (ha : Sim X C ff au a pa) (hb : Sim X C ff au b pb) : Sim X C ff au (.BinOp a .Mult b pos) (.bin .mul pa pb) := sim_pl rfl (down_of (sim_bin .mul ha hb) (bin_noL (by decide)))
theorem sim_fdiv (ha : Sim X C ff au a pa) (hb : Sim X C ff au b pb) : Sim X C ff au (.BinOp a .FloorDiv b pos) (.bin .fdiv pa pb) := sim_pl rfl (down_of (sim_bin .fdiv ha hb) (bin_noL (by decide)))
theorem sim_mod (ha : Sim X C ff au a pa) (hb : Sim X C ff au b pb) : Sim X C ff au (.BinOp a .Mod b pos) (.bin .mod pa pb) := sim_pl rfl (down_of (sim_bin .mod ha hb) (bin_noL (by decide)))
theorem sim_pow (ha : Sim X C ff au a pa) (hb : Sim X C ff au b pb) : Sim X C ff au (.BinOp a .Pow b pos) (.bin .pow pa pb) := sim_pl rfl (down_of (sim_bin .pow ha hb) (bin_noL (by decide)))
theorem sim_neg (ha : Sim X C ff au a pa) : Sim X C ff au (.UnaryOp .USub a pos) (.neg pa) := sim_pl rfl ((L2.pe_un L2.un_neg ha.pl).imp fun σ H Q ⟨F, env, u, d, u', A, ev, k⟩ => by
  simp only [evalE] at ev
  obtain ⟨⟨da, u1⟩, e1, ev⟩ := Option.bind_eq_some_iff.mp ev
  refine ⟨F, env, u, da, u1, A, e1, fun v F1 H1 P1 r1 => ?_⟩
  cases da <;> simp only at ev <;> first | contradiction | skip
  cases ev
  obtain rfl := dp_int r1
  exact ⟨_, rfl, k _ F1 H1 P1 (.int _)⟩)

/-! ### comparisons -/
theorem cmp_imp {o : COp} {σ : St} {H : Hp} {Q : VK} (h : wpE false X.K C au (.cmp o pa pb) σ H Q) : L2.tOp (rC X.K o) (wpE false X.K C au pa) (wpE false X.K C au pb) σ H Q := by
  obtain ⟨F, env, u, d, u', A, ev, k⟩ := h
  simp only [evalE] at ev
  obtain ⟨⟨da, u1⟩, e1, ev⟩ := Option.bind_eq_some_iff.mp ev
  obtain ⟨⟨db, u2⟩, e2, ev⟩ := Option.bind_eq_some_iff.mp ev
  obtain ⟨d0, e3, ev⟩ := Option.bind_eq_some_iff.mp ev
  cases ev
  refine ⟨F, env, u, da, u1, A.l, e1, fun v F1 H1 P1 r1 => ?_⟩
  have A1 := A.step P1
  refine ⟨F1, env, u1, db, _, A1.r, e2, fun w F2 H2 P2 r2 => ?_⟩
  exact ⟨F2, da, db, d0, P2.sub, dp_sub (A1.subF P2) _ _ r1, r2, e3, k _ F2 H2 (P1.trans P2) (.bl _)⟩
theorem sim_cmp (o : COp) (hu : X.A.units + 66 < cLine) (ha : Sim X C ff au a pa) (hb : Sim X C ff au b pb) (hm : behindInMarks (toCmp o) b = false) : Sim X C ff au (.Compare a [toCmp o] [b] pos) (.cmp o pa pb) :=
  sim_pl rfl ((L2.pe_cmpR (op_cmp o hu) ha.pl hb.pl hm).imp fun _ _ _ h => cmp_imp h)
theorem simT_cmp (o : COp) (hu : X.A.units + 66 < cLine) (ha : Sim X C ff au a pa) (hb : Sim X C ff au b pb) (hm : behindInMarks (toCmp o) b = false) : SimT X C au (.Compare a [toCmp o] [b] pos) (.cmp o pa pb) :=
  ⟨L2.PT.imp (L2.pt_cmpR (op_cmp o hu) ha.pl hb.pl hm) fun σ H Q ⟨F, env, u, b, u', A, ev, k⟩ => cmp_imp ⟨F, env, u, .bool b, u', A, ev, fun v F' H' P r => ⟨b, dp_bool r, k F' H' P⟩⟩⟩
theorem chain_imp {o1 o2 : COp} {σ : St} {H : Hp} {Q : VK} (h : wpE false X.K C au (.chain o1 o2 pa pb pc) σ H Q) : L2.tChain (rC X.K o1) (rC X.K o2) (wpE false X.K C au pa) (wpE false X.K C au pb) (wpE false X.K C au pc) σ H Q := by
  obtain ⟨F, env, u, d, u', A, ev, k⟩ := h
  simp only [evalE] at ev
  obtain ⟨⟨da, u1⟩, e1, ev⟩ := Option.bind_eq_some_iff.mp ev
  obtain ⟨⟨db, u2⟩, e2, ev⟩ := Option.bind_eq_some_iff.mp ev
  obtain ⟨d0, e3, ev⟩ := Option.bind_eq_some_iff.mp ev
  refine ⟨F, env, u, da, u1, A.l, e1, fun v F1 H1 P1 r1 => ?_⟩
  have A1 := A.step P1
  refine ⟨F1, env, u1, db, u2, A1.r.l, e2, fun w F2 H2 P2 r2 => ?_⟩
  have A2 := A1.step P2
  refine ⟨F2, da, db, d0, P2.sub, dp_sub (A1.subF P2) _ _ r1, r2, e3, d0, rfl, ?_⟩
  cases d0 with
  | false =>
    rw [if_neg Bool.false_ne_true] at ev ⊢
    cases ev
    exact k _ F2 H2 (P1.trans P2) (.bl _)
  | true =>
    rw [if_pos rfl] at ev ⊢
    obtain ⟨⟨dc, u3⟩, e4, ev⟩ := Option.bind_eq_some_iff.mp ev
    obtain ⟨d2, e5, ev⟩ := Option.bind_eq_some_iff.mp ev
    cases ev
    refine ⟨F2, env, u2, dc, _, A2.r.r, e4, fun z F3 H3 P3 r3 => ?_⟩
    exact ⟨F3, db, dc, d2, P3.sub, dp_sub (A2.subF P3) _ _ r2, r3, e5, k _ F3 H3 ((P1.trans P2).trans P3) (.bl _)⟩
theorem sim_chain (o1 o2 : COp) (hu : X.A.units + 66 < cLine) (ha : Sim X C ff au a pa) (hb : Sim X C ff au b pb) (hc : Sim X C ff au c pc) (hm : lastMarks [toCmp o1, toCmp o2] [b, c] = false) : Sim X C ff au (.Compare a [toCmp o1, toCmp o2] [b, c] pos) (.chain o1 o2 pa pb pc) :=
  sim_pl rfl ((L2.pe_chain (op_cmp o1 hu) (op_cmp o2 hu) ha.pl hb.pl hc.pl hm).imp fun _ _ _ h => chain_imp h)
theorem simT_chain (o1 o2 : COp) (hu : X.A.units + 66 < cLine) (ha : Sim X C ff au a pa) (hb : Sim X C ff au b pb) (hc : Sim X C ff au c pc) (hm : lastMarks [toCmp o1, toCmp o2] [b, c] = false) : SimT X C au (.Compare a [toCmp o1, toCmp o2] [b, c] pos) (.chain o1 o2 pa pb pc) :=
  ⟨L2.PT.imp (L2.pt_chain (op_cmp o1 hu) (op_cmp o2 hu) ha.pl hb.pl hc.pl hm) fun σ H Q ⟨F, env, u, b, u', A, ev, k⟩ => chain_imp ⟨F, env, u, .bool b, u', A, ev, fun v F' H' P r => ⟨b, dp_bool r, k F' H' P⟩⟩⟩

/-! ### and, or, not, if -/
theorem simW_and1 (ha : SimT X C au a pa) : SimW X C au (.BoolOp .And [a] pos) pa := ⟨L2.pw_and1 ha.t⟩
theorem simW_or1 (ha : SimT X C au a pa) : SimW X C au (.BoolOp .Or [a] pos) pa := ⟨L2.pw_or1 ha.t⟩
theorem simT_W (h : SimW X C au e p) : SimT X C au e p := ⟨h.t.pt⟩
theorem simW_and (ha : SimT X C au a pa) (hb : SimW X C au (.BoolOp .And (b :: es) pos) pb) : SimW X C au (.BoolOp .And (a :: b :: es) pos) (.and pa pb) :=
  ⟨L2.PW.imp (L2.pw_and ha.t hb.t) fun σ H Q ⟨F, env, u, d, u', A, ev, k⟩ => by
    simp only [evalE] at ev
    obtain ⟨⟨da, u1⟩, e1, ev⟩ := Option.bind_eq_some_iff.mp ev
    cases da <;> simp only at ev <;> first | contradiction | skip
    rename_i c
    refine ⟨F, env, u, c, u1, A.l, e1, fun F1 H1 P1 => ?_⟩
    cases c with
    | false =>
      rw [if_neg Bool.false_ne_true] at ev ⊢
      cases ev
      exact k F1 H1 P1
    | true =>
      rw [if_pos rfl] at ev ⊢
      obtain ⟨⟨db, u2⟩, e2, ev⟩ := Option.bind_eq_some_iff.mp ev
      cases db <;> simp only at ev <;> first | contradiction | skip
      cases ev
      exact ⟨F1, env, u1, _, _, (A.step P1).r, e2, fun F2 H2 P2 => k F2 H2 (P1.trans P2)⟩⟩
theorem simW_or (ha : SimT X C au a pa) (hb : SimW X C au (.BoolOp .Or (b :: es) pos) pb) : SimW X C au (.BoolOp .Or (a :: b :: es) pos) (.or pa pb) :=
  ⟨L2.PW.imp (L2.pw_or ha.t hb.t) fun σ H Q ⟨F, env, u, d, u', A, ev, k⟩ => by
    simp only [evalE] at ev
    obtain ⟨⟨da, u1⟩, e1, ev⟩ := Option.bind_eq_some_iff.mp ev
    cases da <;> simp only at ev <;> first | contradiction | skip
    rename_i c
    refine ⟨F, env, u, c, u1, A.l, e1, fun F1 H1 P1 => ?_⟩
    cases c with
    | true =>
      rw [if_pos rfl] at ev ⊢
      cases ev
      exact k F1 H1 P1
    | false =>
      rw [if_neg Bool.false_ne_true] at ev ⊢
      obtain ⟨⟨db, u2⟩, e2, ev⟩ := Option.bind_eq_some_iff.mp ev
      cases db <;> simp only at ev <;> first | contradiction | skip
      cases ev
      exact ⟨F1, env, u1, _, _, (A.step P1).r, e2, fun F2 H2 P2 => k F2 H2 (P1.trans P2)⟩⟩
theorem simT_not (ha : SimT X C au a pa) : SimT X C au (.UnaryOp .Not a pos) (.not pa) :=
  ⟨L2.PT.imp (L2.pt_not ha.t) fun σ H Q ⟨F, env, u, d, u', A, ev, k⟩ => by
    simp only [evalE] at ev
    obtain ⟨⟨da, u1⟩, e1, ev⟩ := Option.bind_eq_some_iff.mp ev
    cases da <;> simp only at ev <;> first | contradiction | skip
    cases ev
    exact ⟨F, env, u, _, _, A, e1, fun F1 H1 P1 => k F1 H1 P1⟩⟩
theorem sim_not (ha : Sim X C ff au a pa) : Sim X C ff au (.UnaryOp .Not a pos) (.not pa) := sim_pl rfl ((L2.pe_not ha.bo).imp fun σ H Q ⟨F, env, u, d, u', A, ev, k⟩ => by
    simp only [evalE] at ev
    obtain ⟨⟨da, u1⟩, e1, ev⟩ := Option.bind_eq_some_iff.mp ev
    cases da <;> simp only at ev <;> first | contradiction | skip
    cases ev
    exact ⟨F, env, u, _, _, A, e1, fun F1 H1 P1 => ⟨_, rfl, k _ F1 H1 P1 (.bl _)⟩⟩)
theorem sim_one {op : BoolOp} (hb : Sim X C ff au b pb) (hk : fk ff pb = false) : Sim X C ff au (.BoolOp op [b] pos) pb := sim_pl hk (L2.pe_one hb.pl)
theorem sim_and (ha : Sim X C ff au a pa) (hb : Sim X C ff au (.BoolOp .And (b :: es) pos) pb) : Sim X C ff au (.BoolOp .And (a :: b :: es) pos) (.and pa pb) :=
  sim_pl rfl ((L2.pe_and ha.bo hb.bo).imp fun σ H Q ⟨F, env, u, d, u', A, ev, k⟩ => by
    simp only [evalE] at ev
    obtain ⟨⟨da, u1⟩, e1, ev⟩ := Option.bind_eq_some_iff.mp ev
    cases da <;> simp only at ev <;> first | contradiction | skip
    rename_i c
    refine ⟨F, env, u, c, u1, A.l, e1, fun F1 H1 P1 => ⟨c, rfl, ?_⟩⟩
    cases c with
    | false =>
      rw [if_neg Bool.false_ne_true] at ev ⊢
      cases ev
      exact k _ F1 H1 P1 (.bl _)
    | true =>
      rw [if_pos rfl] at ev ⊢
      obtain ⟨⟨db, u2⟩, e2, ev⟩ := Option.bind_eq_some_iff.mp ev
      cases db <;> simp only at ev <;> first | contradiction | skip
      cases ev
      exact ⟨F1, env, u1, _, _, (A.step P1).r, e2, fun F2 H2 P2 => k _ F2 H2 (P1.trans P2) (.bl _)⟩)
theorem sim_or (ha : Sim X C ff au a pa) (hb : Sim X C ff au (.BoolOp .Or (b :: es) pos) pb) : Sim X C ff au (.BoolOp .Or (a :: b :: es) pos) (.or pa pb) :=
  sim_pl rfl ((L2.pe_or ha.bo hb.bo).imp fun σ H Q ⟨F, env, u, d, u', A, ev, k⟩ => by
    simp only [evalE] at ev
    obtain ⟨⟨da, u1⟩, e1, ev⟩ := Option.bind_eq_some_iff.mp ev
    cases da <;> simp only at ev <;> first | contradiction | skip
    rename_i c
    refine ⟨F, env, u, c, u1, A.l, e1, fun F1 H1 P1 => ⟨c, rfl, ?_⟩⟩
    cases c with
    | true =>
      rw [if_pos rfl] at ev ⊢
      cases ev
      exact k _ F1 H1 P1 (.bl _)
    | false =>
      rw [if_neg Bool.false_ne_true] at ev ⊢
      obtain ⟨⟨db, u2⟩, e2, ev⟩ := Option.bind_eq_some_iff.mp ev
      cases db <;> simp only at ev <;> first | contradiction | skip
      cases ev
      exact ⟨F1, env, u1, _, _, (A.step P1).r, e2, fun F2 H2 P2 => k _ F2 H2 (P1.trans P2) (.bl _)⟩)
/-- at the wish b -/
theorem Sim.at_ (h : Sim X C ff au e p) (b : Bool) (hb : b = true → fk ff p = true) : PE X e (wpE b X.K C au p) := by
  cases b with
  | false => exact h.pl
  | true => rw [← hb rfl]; exact h.raw
theorem sim_ite (hc : SimT X C au c pc) (ha : Sim X C ff au a pa) (hb : Sim X C ff au b pb) : Sim X C ff au (.IfExp c a b pos) (.ite pc pa pb) :=
  ⟨(L2.pe_ifExp hc.t (ha.at_ (fk ff (.ite pc pa pb)) fun h => by simp only [fk, Bool.and_eq_true] at h; exact h.1) (hb.at_ (fk ff (.ite pc pa pb)) fun h => by simp only [fk, Bool.and_eq_true] at h; exact h.2)).imp fun σ H Q ⟨F, env, u, d, u', A, ev, k⟩ => by
    simp only [evalE] at ev
    obtain ⟨⟨da, u1⟩, e1, ev⟩ := Option.bind_eq_some_iff.mp ev
    cases da <;> simp only at ev <;> first | contradiction | skip
    rename_i c
    refine ⟨F, env, u, c, u1, A.l, e1, fun F1 H1 P1 => ?_⟩
    cases c with
    | true =>
      rw [if_pos rfl] at ev ⊢
      exact ⟨F1, env, u1, d, u', (A.step P1).r.l, ev, fun v F2 H2 P2 r => k v F2 H2 (P1.trans P2) (r.back fun _ hq => P1.grow hq)⟩
    | false =>
      rw [if_neg Bool.false_ne_true] at ev ⊢
      exact ⟨F1, env, u1, d, u', (A.step P1).r.r, ev, fun v F2 H2 P2 r => k v F2 H2 (P1.trans P2) (r.back fun _ hq => P1.grow hq)⟩⟩
theorem simT_ite (hc : SimT X C au c pc) (ha : SimT X C au a pa) (hb : SimT X C au b pb) (h : ∀ {t : TT}, (∀ σ H Q, t σ H Q → wpT X.K C au pc σ H fun k H1 => if k = true then wpT X.K C au pa σ H1 Q else wpT X.K C au pb σ H1 Q) → PT X (.IfExp c a b pos) t) : SimT X C au (.IfExp c a b pos) (.ite pc pa pb) :=
  ⟨h fun σ H Q ⟨F, env, u, d, u', A, ev, k⟩ => by
    simp only [evalE] at ev
    obtain ⟨⟨da, u1⟩, e1, ev⟩ := Option.bind_eq_some_iff.mp ev
    cases da <;> simp only at ev <;> first | contradiction | skip
    rename_i c
    refine ⟨F, env, u, c, u1, A.l, e1, fun F1 H1 P1 => ?_⟩
    cases c with
    | true =>
      rw [if_pos rfl] at ev ⊢
      exact ⟨F1, env, u1, d, u', (A.step P1).r.l, ev, fun F2 H2 P2 => k F2 H2 (P1.trans P2)⟩
    | false =>
      rw [if_neg Bool.false_ne_true] at ev ⊢
      exact ⟨F1, env, u1, d, u', (A.step P1).r.r, ev, fun F2 H2 P2 => k F2 H2 (P1.trans P2)⟩⟩

/-! ### displays, subscripts, slices -/
theorem simA_nil : SimA X C au [] .nil := ⟨L2.PA.imp L2.pa_nil fun σ H Q ⟨F, env, u, d, u', A, ev, k⟩ => by
  simp only [evalEs, Option.some.injEq, Prod.mk.injEq] at ev
  obtain ⟨rfl, rfl⟩ := ev
  exact k [] F H A.post .nil⟩
theorem simA_cons (ha : Sim X C ff au a pa) (hs : SimA X C au es ps) (hst : starEach (a :: es) X.env = (false, eval a X.env) :: starEach es X.env) : SimA X C au (a :: es) (.cons pa ps) :=
  ⟨L2.PA.imp (L2.pa_cons ha.pl hs.t hst) fun σ H Q ⟨F, env, u, d, u', A, ev, k⟩ => by
    simp only [evalEs] at ev
    obtain ⟨⟨da, u1⟩, e1, ev⟩ := Option.bind_eq_some_iff.mp ev
    obtain ⟨⟨ds, u2⟩, e2, ev⟩ := Option.bind_eq_some_iff.mp ev
    cases ev
    refine ⟨F, env, u, da, u1, A.l, e1, fun v F1 H1 P1 r1 => ?_⟩
    have A1 := A.step P1
    refine ⟨F1, env, u1, ds, u2, A1.r, e2, fun vs F2 H2 P2 r2 => ?_⟩
    exact k _ F2 H2 (P1.trans P2) (.cons (dp_sub (A1.subF P2) _ _ r1) r2)⟩
theorem sim_tup (hs : SimA X C au es ps) {j : Nat} : Sim X C ff au (.Tuple es j pos) (.tup ps) := sim_pl rfl ((L2.pe_tup hs.t).imp fun σ H Q ⟨F, env, u, d, u', A, ev, k⟩ => by
  simp only [evalE] at ev
  obtain ⟨⟨ds, u1⟩, e1, ev⟩ := Option.bind_eq_some_iff.mp ev
  split at ev <;> first | contradiction | skip
  rename_i hz
  cases ev
  refine ⟨F, env, u, ds, _, A, e1, fun vs F1 H1 P1 r1 => ⟨by rw [dpAll_len r1]; exact sizeLine_of hz, fun p hp => ?_⟩⟩
  exact (ans_of (K := X.K) (d := .tuple ds) P1 fun v F' H' P r => k v F' H' P r).newT P1.sub r1 hp)
theorem sim_dict0 : Sim X C ff au (.Dict [] [] pos) .dict0 := sim_pl rfl (L2.pe_dnewT.imp fun σ H Q ⟨F, env, u, d, u', A, ev, k⟩ => by
  simp only [evalE, Option.some.injEq, Prod.mk.injEq] at ev
  obtain ⟨rfl, rfl⟩ := ev
  exact fun p hp => (ans_of (K := X.K) (d := .dict []) A.post fun v F' H' P r => k v F' H' P r).newD A.sub hp)
theorem sim_lst (hs : SimA X C au es ps) : Sim X C ff au (.List es pos) (.lst ps) := ⟨(L2.pe_lst hs.t).imp fun σ H Q ⟨F, env, u, d, u', A, ev, k⟩ => by
  simp only [evalE] at ev
  obtain ⟨⟨ds, u1⟩, e1, ev⟩ := Option.bind_eq_some_iff.mp ev
  split at ev <;> first | contradiction | skip
  rename_i hz
  cases ev
  refine ⟨F, env, u, ds, _, A, e1, fun vs F1 H1 P1 r1 => ⟨by rw [dpAll_len r1]; exact sizeLine_of hz, fun p hp => ?_⟩⟩
  exact (ans_of P1 k).newL P1.sub r1 hp⟩
theorem sim_rep {pos2 : Pos} (hs : SimA X C au es ps) (hb : Sim X C ff au b pb) : Sim X C ff au (.BinOp (.List es pos2) .Mult b pos) (.rep ps pb) := ⟨(L2.pe_op L2.op_rep (L2.pe_lst hs.t) hb.pl).imp fun σ H Q ⟨F, env, u, d, u', A, ev, k⟩ => by
  simp only [evalE] at ev
  obtain ⟨⟨ds, u1⟩, e1, ev⟩ := Option.bind_eq_some_iff.mp ev
  obtain ⟨⟨dn, u2⟩, e2, ev⟩ := Option.bind_eq_some_iff.mp ev
  cases dn <;> simp only at ev <;> first | contradiction | skip
  split at ev <;> first | contradiction | skip
  rename_i hz
  cases ev
  simp only [Bool.and_eq_true, decide_eq_true_eq] at hz
  obtain ⟨⟨⟨z1, z2⟩, z3⟩, z4⟩ := hz
  refine ⟨F, env, u, ds, u1, A.l, e1, fun vs F1 H1 P1 r1 => ⟨by rw [dpAll_len r1]; exact sizeLine_of z3, fun p hp => ?_⟩⟩
  have A1 := A.step P1
  have hpa : ∀ a, au = some a → a ≠ p := fun a ha e => P1.urn.hh a ha (e ▸ hp)
  have A2 : At X.K au σ (upd H1 p (.lst vs)) F1 env u1 (fvEs ps ++ fvE pb) := ⟨sub_newH P1.sub hp, fun a ha => by rw [upd_ne (hpa a ha)]; exact P1.urn a ha, P1.tab.new hp, A1.s0, A1.len, A1.env⟩
  refine ⟨F1, env, u1, _, _, A2.r, e2, fun w F2 H2 P2 r2 => ?_⟩
  obtain rfl := dp_int r2
  have q2 := (P2.ext p (fun e => hpa p e.symm rfl) (by rw [upd_same]; exact fun z => nomatch z))
  rw [upd_same] at q2
  have P12 : Post au F H F2 H2 _ := P1.trans ⟨fun x hx hn => by
    have hxp : x ≠ p := fun e => hn (e ▸ hp)
    have := P2.ext x hx (by rw [upd_ne hxp]; exact hn)
    rw [upd_ne hxp] at this
    exact this, P2.sub, P2.urn, P2.tab⟩
  refine ⟨p, _, vs, rfl, rfl, q2.1.lst rfl, by omega, by omega, by rw [dpAll_len r1]; exact sizeLine_of z4, fun r hr => ?_⟩
  exact (ans_of P12 k).newL P12.sub (dpAll_rep (dpAll_sub (A2.subF P2) _ _ r1) _) hr⟩
theorem sim_idx (ha : Sim X C ff au a pa) (hb : Sim X C ff au b pb) (hs : L2.PlainIx b) : Sim X C ff au (.Subscript a b pos) (.idx pa pb) := sim_pl rfl ((L2.pe_ix ix_any ha.pl hb.pl hs).imp fun σ H Q ⟨F, env, u, d, u', A, ev, k⟩ => by
  simp only [evalE] at ev
  obtain ⟨⟨da, u1⟩, e1, ev⟩ := Option.bind_eq_some_iff.mp ev
  obtain ⟨⟨db, u2⟩, e2, ev⟩ := Option.bind_eq_some_iff.mp ev
  obtain ⟨d0, e3, ev⟩ := Option.bind_eq_some_iff.mp ev
  cases ev
  refine ⟨F, env, u, da, u1, A.l, e1, fun v F1 H1 P1 r1 => ?_⟩
  have A1 := A.step P1
  refine ⟨F1, env, u1, db, _, A1.r, e2, fun w F2 H2 P2 r2 => ?_⟩
  exact ⟨F2, da, db, d, P2.sub, dp_sub (A1.subF P2) _ _ r1, r2, e3, fun z hz => k z F2 H2 (P1.trans P2) hz⟩)
theorem simO_no : SimO X C au none .no := ⟨L2.PO.imp L2.po_none fun σ H Q ⟨F, env, u, d, u', A, ev, k⟩ => by
  simp only [evalEo, Option.some.injEq, Prod.mk.injEq] at ev
  obtain ⟨rfl, rfl⟩ := ev
  exact k F H A.post⟩
theorem simO_yes (ha : Sim X C ff au a pa) : SimO X C au (some a) (.yes pa) := ⟨L2.PO.imp (L2.po_some ha.pl) fun σ H Q ⟨F, env, u, d, u', A, ev, k⟩ => by
  simp only [evalEo] at ev
  obtain ⟨⟨da, u1⟩, e1, ev⟩ := Option.bind_eq_some_iff.mp ev
  cases da <;> simp only at ev <;> first | contradiction | skip
  cases ev
  exact ⟨F, env, u, _, _, A, e1, fun v F1 H1 P1 r1 => ⟨_, dp_int r1, k F1 H1 P1⟩⟩⟩
theorem sim_sli {lo hi : Option Expr} {pl ph : Eo} {p2 : Pos} (ha : Sim X C ff au a pa) (hl : SimO X C au lo pl) (hh : SimO X C au hi ph) : Sim X C ff au (.Subscript a (.Slice lo hi none p2) pos) (.sli pa pl ph) :=
  ⟨(L2.pe_slice sl_any ha.pl hl.t hh.t).imp fun σ H Q ⟨F, env, u, d, u', A, ev, k⟩ => by
    simp only [evalE] at ev
    obtain ⟨⟨da, u1⟩, e1, ev⟩ := Option.bind_eq_some_iff.mp ev
    obtain ⟨⟨ol, u2⟩, e2, ev⟩ := Option.bind_eq_some_iff.mp ev
    obtain ⟨⟨oh, u3⟩, e3, ev⟩ := Option.bind_eq_some_iff.mp ev
    obtain ⟨d0, e4, ev⟩ := Option.bind_eq_some_iff.mp ev
    cases ev
    refine ⟨F, env, u, da, u1, A.l, e1, fun v F1 H1 P1 r1 => ?_⟩
    have A1 := A.step P1
    refine ⟨F1, env, u1, ol, u2, A1.r.l, e2, fun F2 H2 P2 => ?_⟩
    have A2 := A1.step P2
    refine ⟨F2, env, u2, oh, u3, A2.r.r, e3, fun F3 H3 P3 => ?_⟩
    exact ⟨F3, da, d, P3.sub, dp_sub (A2.subF P3) _ _ (dp_sub (A1.subF P2) _ _ r1), e4, ans_of ((P1.trans P2).trans P3) k⟩⟩
theorem sim_rev {k : Nat} {p1 p2 p3 : Pos} (ha : Sim X C ff au a pa) : Sim X C ff au (.Subscript a (.Slice none none (some (.UnaryOp .USub (.Constant (.int 1) k p1) p2)) p3) pos) (.rev pa) :=
  ⟨(PlE.pe_revT ha.pl).imp fun σ H Q ⟨F, env, u, d, u', A, ev, k⟩ => by
    simp only [evalE] at ev
    obtain ⟨⟨da, u1⟩, e1, ev⟩ := Option.bind_eq_some_iff.mp ev
    cases da <;> simp only at ev <;> first | contradiction | skip
    · cases ev
      refine ⟨F, env, u, _, _, A, e1, fun v F1 H1 P1 r1 => ?_⟩
      obtain ⟨p, xs, rfl, h1, h2⟩ := dp_list r1
      exact ⟨p, xs, rfl, .inl ⟨sqL_sub P1.sub h1, fun q hq => (ans_of P1 k).newL P1.sub (dpAll_rev h2) hq⟩⟩
    · cases ev
      refine ⟨F, env, u, _, _, A, e1, fun v F1 H1 P1 r1 => ?_⟩
      obtain ⟨p, xs, rfl, h1, h2⟩ := dp_tuple r1
      exact ⟨p, xs, rfl, .inr ⟨sqT_sub P1.sub h1, fun q hq => (ans_of P1 k).newT P1.sub (dpAll_rev h2) hq⟩⟩⟩
theorem sim_rvt {k k0 : Nat} {p0 p1 p2 p3 : Pos} (ha : Sim X C ff au a pa) : Sim X C ff au (.Subscript a (.Slice none (some (.Constant (.int 0) k0 p0)) (some (.UnaryOp .USub (.Constant (.int 1) k p1) p2)) p3) pos) (.rvt pa) :=
  ⟨(PlE.pe_rvtT ha.pl).imp fun σ H Q ⟨F, env, u, d, u', A, ev, k⟩ => by
    simp only [evalE] at ev
    obtain ⟨⟨da, u1⟩, e1, ev⟩ := Option.bind_eq_some_iff.mp ev
    split at ev <;> first | contradiction | skip
    rename_i he
    cases he
    cases ev
    refine ⟨F, env, u, _, _, A, e1, fun v F1 H1 P1 r1 => ?_⟩
    obtain ⟨p, xs, rfl, h1, h2⟩ := dp_tuple r1
    cases h2 with
    | cons h3 h4 => exact ⟨p, _, _, rfl, sqT_sub P1.sub h1, fun q hq => (ans_of P1 k).newT P1.sub (dpAll_rev h4) hq⟩⟩
theorem sim_uidx {x : Str} {pos2 : Pos} (h : PE X (.Name x pos2) (L2.tVar 0)) (hau : au.isSome = true) (hb : Sim X C ff au b pb) (hs : L2.PlainIx b) : Sim X C ff au (.Subscript (.Name x pos2) b pos) (.uidx pb) :=
  sim_pl rfl ((L2.pe_ix L2.ix_list h hb.pl hs).imp fun σ H Q ⟨F, env, u, d, u', A, ev, k⟩ => by
    simp only [evalE] at ev
    obtain ⟨⟨db, u1⟩, e1, ev⟩ := Option.bind_eq_some_iff.mp ev
    cases db <;> simp only at ev <;> first | contradiction | skip
    obtain ⟨n, e2, ev⟩ := Option.bind_eq_some_iff.mp ev
    cases ev
    obtain ⟨x, hx⟩ := Option.isSome_iff_exists.mp hau
    refine ⟨.ref x, A.s0 x hx, F, env, u, _, _, A, e1, fun v F1 H1 P1 r1 => ?_⟩
    obtain rfl := dp_int r1
    refine ⟨x, _, _, .int n, rfl, rfl, .inl (.inl (P1.urn x hx).1), ?_, k _ F1 H1 P1 (.int n)⟩
    refine atI_eq ?_
    unfold atI at e2 ⊢
    rw [List.length_map]
    split <;> rename_i h0
    · rw [if_pos h0] at e2
      rw [List.getElem?_map, e2]; rfl
    · rw [if_neg h0] at e2
      split <;> rename_i h3
      · rw [if_pos h3] at e2
        rw [List.getElem?_map, e2]; rfl
      · rw [if_neg h3] at e2; cases e2)
end
end Pl

/-! PSound5: calls of built-ins, what is walked, comprehensions. -/
namespace Pl
open PySem
open L2 (V Hp HO St VK TE TT TA TS TI TG Cx PE PT PW PA PS PSs PI PG Inv SqL SqT upd upd_same upd_ne OpR UnR CallR R2 Vals RelV EP Gl Vis It)
variable [Tabl]

section
variable {X : Cx} {C : Ctx} {ff : String → Bool} {au : Option Addr} {e a b c : Expr} {es : List Expr} {p pa pb pc : E} {ps : Es} {pos : Pos} {x : Str} {pos2 : Pos}

/-! ### calls of built-ins -/
theorem bi_imp {bi : BI} {σ : St} {H : Hp} {Q : VK} (h : wpE true X.K C au (.bi bi ps) σ H Q) : L2.tCB (rBi X.K bi) (wpEs X.K C au ps) σ H Q := by
  obtain ⟨F, env, u, d, u', A, ev, k⟩ := h
  simp only [evalE] at ev
  obtain ⟨⟨ds, u1⟩, e1, ev⟩ := Option.bind_eq_some_iff.mp ev
  obtain ⟨d0, e2, ev⟩ := Option.bind_eq_some_iff.mp ev
  cases ev
  exact ⟨F, env, u, ds, _, A, e1, fun vs F1 H1 P1 r1 => ⟨F1, ds, d, P1.sub, r1, e2, ans_of P1 k⟩⟩
theorem bi_noL {bi : BI} (h1 : bi ≠ .list) (h2 : bi ≠ .sorted) (h3 : bi ≠ .sortedSet) : ∀ env u d u', evalE C (.bi bi ps) env u = some (d, u') → isL d = false := by
  intro env u d u' ev
  simp only [evalE] at ev
  obtain ⟨⟨ds, u1⟩, e1, ev⟩ := Option.bind_eq_some_iff.mp ev
  obtain ⟨d0, e2, ev⟩ := Option.bind_eq_some_iff.mp ev
  cases ev
  simp only at e2
  unfold biV at e2
  split at e2 <;> first
    | contradiction
    | exact absurd rfl h1
    | (cases e2; rfl)
    | (simp only [Option.map_eq_some_iff] at e2; obtain ⟨_, _, rfl⟩ := e2; rfl)
    | (split at e2 <;> first | contradiction | (cases e2; rfl))
theorem sim_biB {id : String} (bi : BI) (hr : CallR X (.builtin id) (rBi X.K bi)) (h1 : bi ≠ .list) (h2 : bi ≠ .sorted) (h3 : bi ≠ .sortedSet) (hg : Gl X x) (hm : X.mg x = none) (hv : bootBuiltins x = some (.builtin id)) (ha : SimA X C au (a :: es) ps) (hn : x ≠ "__name__") (hdb : (x == ("__debug__" : Str)) = false)
    (he : starEach (a :: es) X.env = (false, eval a X.env) :: starEach es X.env) (hpl : (backTo pos (starEach es X.env)).any (·.1) = false) : Sim X C ff au (.Call (.Name x pos2) (a :: es) [] pos) (.bi bi ps) :=
  sim_pl (by cases bi <;> first | rfl | exact absurd rfl h1 | exact absurd rfl h2 | exact absurd rfl h3) (down_of ((L2.pe_callB hr hg hm hv ha.t hn hdb he hpl).imp fun _ _ _ h => bi_imp h) (bi_noL h1 h2 h3))
theorem sim_biT {id : String} (bi : BI) (hr : CallR X (.type id) (rBi X.K bi)) (h1 : bi ≠ .list) (h2 : bi ≠ .sorted) (h3 : bi ≠ .sortedSet) (hg : Gl X x) (hm : X.mg x = none) (hv : bootBuiltins x = some (.type id)) (ha : SimA X C au (a :: es) ps) (hn : x ≠ "__name__") (hdb : (x == ("__debug__" : Str)) = false)
    (he : starEach (a :: es) X.env = (false, eval a X.env) :: starEach es X.env) (hpl : (backTo pos (starEach es X.env)).any (·.1) = false) : Sim X C ff au (.Call (.Name x pos2) (a :: es) [] pos) (.bi bi ps) :=
  sim_pl (by cases bi <;> first | rfl | exact absurd rfl h1 | exact absurd rfl h2 | exact absurd rfl h3) (down_of ((L2.pe_callTy hr hg hm hv ha.t hn hdb he hpl).imp fun _ _ _ h => bi_imp h) (bi_noL h1 h2 h3))
theorem sim_list (hg : Gl X "list") (hm : X.mg "list" = none) (ha : SimA X C au (a :: es) ps)
    (he : starEach (a :: es) X.env = (false, eval a X.env) :: starEach es X.env) (hpl : (backTo pos (starEach es X.env)).any (·.1) = false) : Sim X C ff au (.Call (.Name "list" pos2) (a :: es) [] pos) (.bi .list ps) :=
  ⟨(L2.pe_callTy bi_list hg hm (by decide +kernel) ha.t (by decide) (by decide) he hpl).imp fun _ _ _ h => bi_imp h⟩
theorem sim_sorted (hg : Gl X "sorted") (hm : X.mg "sorted" = none) (ha : SimA X C au (a :: es) ps)
    (he : starEach (a :: es) X.env = (false, eval a X.env) :: starEach es X.env) (hpl : (backTo pos (starEach es X.env)).any (·.1) = false) : Sim X C ff au (.Call (.Name "sorted" pos2) (a :: es) [] pos) (.bi .sorted ps) :=
  ⟨(L2.pe_callB bi_sorted hg hm (by decide +kernel) ha.t (by decide) (by decide) he hpl).imp fun _ _ _ h => bi_imp h⟩
theorem sim_gcd (hg : Gl X "gcd") (hm : X.mg "gcd" = some (.builtin "math.gcd")) (ha : SimA X C au (a :: es) ps)
    (he : starEach (a :: es) X.env = (false, eval a X.env) :: starEach es X.env) (hpl : (backTo pos (starEach es X.env)).any (·.1) = false) : Sim X C ff au (.Call (.Name "gcd" pos2) (a :: es) [] pos) (.bi .gcd ps) :=
  sim_pl rfl (down_of ((L2.pe_callBfun bi_gcd hg hm ha.t (by decide) he hpl).imp fun _ _ _ h => bi_imp h) (bi_noL (by decide) (by decide) (by decide)))
theorem sim_isi {T : String} {y : Str} {py : Pos} (bi : BI) (hr : CallR X (.builtin "isinstance") (rIsi X.K T bi)) (hz : ∀ d d', biV bi [d] = some d' → ∃ z, d' = .bool z) (hk : fk ff (.bi bi (.cons pa .nil)) = false) (hg : Gl X "isinstance") (hm : X.mg "isinstance" = none) (ha : Sim X C ff au a pa) (hgy : Gl X y) (hmy : X.mg y = none) (hvy : bootBuiltins y = some (.type T)) (hny : y ≠ "__name__") (hdy : (y == ("__debug__" : Str)) = false)
    (he : starEach [a, .Name y py] X.env = (false, eval a X.env) :: starEach [.Name y py] X.env) : Sim X C ff au (.Call (.Name "isinstance" pos2) [a, .Name y py] [] pos) (.bi bi (.cons pa .nil)) :=
  sim_pl hk ((L2.pe_callB hr hg hm (by decide +kernel) (L2.pa_cons ha.pl (L2.pa_cons (L2.pe_bltn (v := .ty T) hgy hmy hvy rfl hny hdy) L2.pa_nil rfl) he) (by decide) (by decide) he rfl).imp fun σ H Q ⟨F, env, u, d, u', A, ev, k⟩ => by
    simp only [evalE, evalEs] at ev
    obtain ⟨⟨ds, u1⟩, e1, ev⟩ := Option.bind_eq_some_iff.mp ev
    obtain ⟨⟨da, u2⟩, e2, e3⟩ := Option.bind_eq_some_iff.mp e1
    simp only [Option.bind_some, Option.some.injEq, Prod.mk.injEq] at e3
    obtain ⟨rfl, rfl⟩ := e3
    obtain ⟨d0, e4, ev⟩ := Option.bind_eq_some_iff.mp ev
    cases ev
    obtain ⟨z, rfl⟩ := hz _ _ e4
    exact ⟨F, env, u, da, _, by simpa [fvE, fvEs] using A, e2, fun v F1 H1 P1 r1 => ⟨F1, v, da, z, P1.sub, rfl, r1, e4, k _ F1 H1 P1 (.bl z)⟩⟩)

/-! ### what is walked -/
/-- the walk J hands out ds, while what stands still stands -/
def Feeds (K : PySem.W.Frag) (F0 : Hp) (J : It) (ds : List D) : Prop := ∀ F H, Sub F0 F → Sub F H → ∀ i : Nat,
  (∀ d, ds[i]? = some d → J.go i H ∧ ∀ y H', J.yld i H y H' → ∃ F', Ext0 F H F' H' ∧ Sub F' H' ∧ Dp K F' y d) ∧ (ds.length ≤ i → J.stop i H)
def wpI (K : PySem.W.Frag) (C : Ctx) (au : Option Addr) (p : I) : TI := fun σ H R =>
  ∃ F env u ds u', At K au σ H F env u (fvI p) ∧ evalI C p env u = some (ds, u') ∧ ∀ J F' H', Post au F H F' H' u' → Feeds K F' J ds → (iterOk p = true → ∀ F0, Feeds K F0 J ds) → R J H'
structure SimI (X : Cx) (C : Ctx) (au : Option Addr) (tg e : Expr) (p : I) : Prop where
  t : PI X tg e (wpI X.K C au p)
def iSeq (K : PySem.W.Frag) (tl : TE) : TI := fun σ H R => tl σ H fun y H1 => ∃ q, y = .ref q ∧ ((∃ xs, SqL K H1 q xs ∧ R (L2.Itl K q) H1) ∨ (∃ xs, SqT K H1 q xs ∧ R (L2.Itt K q) H1))
theorem pi_seq {tg l : Expr} {tl : TE} (hl : PE X l tl) : PI X tg l (iSeq X.K tl) := by
  refine ⟨fun pins s σ H R I h => ?_⟩
  refine L2.thn (hl.run pins s σ H _ I h) fun v s1 ⟨y, H1, I1, r1, q1⟩ => ?_
  obtain ⟨q, e, q1⟩ := q1
  subst e
  cases r1
  rcases q1 with ⟨xs, hq, q1⟩ | ⟨xs, hq, q1⟩
  · obtain ⟨its, rv, p, hz⟩ := I1.list hq
    refine wpAny_pyIter_list p.isList ?_
    refine ⟨s1.heap.objs.size, [s1.heap.objs.size], _, _, H1, rfl, I1.kept (t' := s1.toks) fun b o e => Heap.get?_push_of_some _ e, L2.turn_list q _, ⟨_, Heap.get?_push_size _ rfl, rfl, rfl⟩, fun b hb => ?_, q1⟩
    have e : b = s1.heap.objs.size := by simpa using hb
    subst e
    exact I1.fpOk (Nat.le_refl _) (I1.hok.fresh (Nat.le_refl _))
  · obtain ⟨its, rv, p, hz⟩ := I1.tuple hq
    refine wpAny_pyIter_tuple (show s1.heap.IsTuple q its.toArray from p) ?_
    refine ⟨s1.heap.objs.size, [s1.heap.objs.size], _, _, H1, rfl, I1.kept (t' := s1.toks) fun b o e => Heap.get?_push_of_some _ e, L2.turn_tuple q _, ⟨_, Heap.get?_push_size _ rfl, rfl, rfl⟩, fun b hb => ?_, q1⟩
    have e : b = s1.heap.objs.size := by simpa using hb
    subst e
    exact I1.fpOk (Nat.le_refl _) (I1.hok.fresh (Nat.le_refl _))
theorem getD_lt {α : Type} {ds : List α} {i : Nat} {d : α} (h : ds[i]? = some d) : i < ds.length := (List.getElem?_eq_some_iff.mp h).1
theorem feeds_list {K : PySem.W.Frag} {F : Hp} {q : Addr} {xs : List V} {ds : List D} (h : SqL K F q xs) (r : DpAll K F xs ds) : Feeds K F (L2.Itl K q) ds := fun F2 H s1 s2 i => by
  have hq := sqL_sub s2 (sqL_sub s1 h)
  refine ⟨fun d hd => ?_, fun hl => ⟨xs, hq, by rw [dpAll_len r]; exact hl⟩⟩
  obtain ⟨v, h1, h2⟩ := dpAll_get r hd
  refine ⟨⟨xs, v, hq, h1⟩, fun y H' hy => ?_⟩
  obtain ⟨e, hy⟩ := hy
  subst e
  have := hy xs hq
  rw [h1] at this
  cases this
  exact ⟨F2, Ext0.refl _ _, s2, dp_sub s1 _ _ h2⟩
theorem feeds_tuple {K : PySem.W.Frag} {F : Hp} {q : Addr} {xs : List V} {ds : List D} (h : SqT K F q xs) (r : DpAll K F xs ds) : Feeds K F (L2.Itt K q) ds := fun F2 H s1 s2 i => by
  have hq := sqT_sub s2 (sqT_sub s1 h)
  refine ⟨fun d hd => ?_, fun hl => ⟨xs, hq, by rw [dpAll_len r]; exact hl⟩⟩
  obtain ⟨v, h1, h2⟩ := dpAll_get r hd
  refine ⟨⟨xs, v, hq, h1⟩, fun y H' hy => ?_⟩
  obtain ⟨e, hy⟩ := hy
  subst e
  have := hy xs hq
  rw [h1] at this
  cases this
  exact ⟨F2, Ext0.refl _ _, s2, dp_sub s1 _ _ h2⟩
theorem simI_seq {tg : Expr} (ha : Sim X C ff au a pa) : SimI X C au tg a (.seq pa) := ⟨L2.PI.imp (pi_seq ha.pl) fun σ H Q ⟨F, env, u, ds, u', A, ev, k⟩ => by
  simp only [evalI] at ev
  obtain ⟨⟨d, u1⟩, e1, ev⟩ := Option.bind_eq_some_iff.mp ev
  obtain ⟨xs, e2, ev⟩ := Option.bind_eq_some_iff.mp ev
  cases ev
  refine ⟨F, env, u, d, _, A, e1, fun v F1 H1 P1 r1 => ?_⟩
  rcases items_list e2 with e | e <;> simp only at e <;> subst e
  · obtain ⟨q, vs, rfl, h1, h2⟩ := dp_list r1
    exact ⟨q, rfl, .inl ⟨vs, sqL_sub P1.sub h1, k _ F1 H1 P1 (feeds_list h1 h2) (fun h => nomatch h)⟩⟩
  · obtain ⟨q, vs, rfl, h1, h2⟩ := dp_tuple r1
    exact ⟨q, rfl, .inr ⟨vs, sqT_sub P1.sub h1, k _ F1 H1 P1 (feeds_tuple h1 h2) (fun h => nomatch h)⟩⟩⟩
theorem rangeL_get {lo hi : Int} {i : Nat} {d : D} (h : (rangeL lo hi)[i]? = some d) : i < (hi - lo).toNat ∧ d = .int (lo + (i : Int)) := by
  unfold rangeL at h
  rw [List.getElem?_map] at h
  have hl : i < (hi - lo).toNat := by
    cases q : (List.range (hi - lo).toNat)[i]? with
    | none => rw [q] at h; cases h
    | some j => have := getD_lt q; rwa [List.length_range] at this
  rw [List.getElem?_range hl] at h
  exact ⟨hl, (Option.some.inj h).symm⟩
theorem rangeL_len (lo hi : Int) : (rangeL lo hi).length = (hi - lo).toNat := by unfold rangeL; rw [List.length_map, List.length_range]
theorem feeds_range {K : PySem.W.Frag} {F : Hp} {lo hi : Int} : Feeds K F (L2.Itr lo (hi - lo).toNat) (rangeL lo hi) := fun F2 H s1 s2 i => by
  refine ⟨fun d hd => ?_, fun hl => by rw [rangeL_len] at hl; exact hl⟩
  obtain ⟨h1, rfl⟩ := rangeL_get hd
  refine ⟨h1, fun y H' hy => ?_⟩
  obtain ⟨e, rfl⟩ := hy
  subst e
  exact ⟨F2, Ext0.refl _ _, s2, .int _⟩
theorem intOk_of {j : Int} (h : intOk j = true) : -(2 ^ 62) ≤ j ∧ j < 2 ^ 62 := by
  have := of_decide_eq_true h
  omega
theorem rng2_some {d e : D} {xs : List D} (h : rng2 d e = some xs) : ∃ i j, d = .int i ∧ e = .int j ∧ (intOk i = true ∧ intOk j = true) ∧ xs = rangeL i j := by
  unfold rng2 at h
  split at h <;> first | contradiction | skip
  split at h <;> first | contradiction | skip
  rename_i hz
  cases h
  rw [Bool.and_eq_true] at hz
  exact ⟨_, _, rfl, rfl, hz, rfl⟩
theorem dpAll_rg {K : PySem.W.Frag} {F : Hp} (lo hi : Int) : DpAll K F (L2.rgV lo hi) (rangeL lo hi) := by
  unfold L2.rgV rangeL
  induction List.range (hi - lo).toNat with
  | nil => exact .nil
  | cons x xs ih => exact .cons (.int _) ih
theorem sim_trng {b : Expr} {pb : E} {pos3 pos4 : Pos} (hc : X.calm = true) (hg : Gl X "range") (hm : X.mg "range" = none) (hgr : Gl X "tuple") (hmr : X.mg "tuple" = none) (ha : Sim X C ff au a pa) (hb : Sim X C ff au b pb)
    (hs : starEach [a, b] X.env = (false, eval a X.env) :: starEach [b] X.env) (hs2 : starEach [b] X.env = (false, eval b X.env) :: starEach [] X.env) (hpl : (backTo pos4 (starEach [b] X.env)).any (·.1) = false) :
    Sim X C ff au (.Call (.Name "tuple" pos2) [.Call (.Name "range" pos3) [a, b] [] pos4] [] pos) (.trng pa pb) := sim_pl rfl ((L2.pe_tupRg hc hgr hmr (L2.prg_2 hg hm ha.pl hb.pl hs hs2 hpl) rfl).imp fun σ H Q ⟨F, env, u, d, u', A, ev, k⟩ => by
  simp only [evalE] at ev
  obtain ⟨⟨da, u1⟩, e1, ev⟩ := Option.bind_eq_some_iff.mp ev
  obtain ⟨⟨db, u2⟩, e2, ev⟩ := Option.bind_eq_some_iff.mp ev
  obtain ⟨xs, e3, ev⟩ := Option.bind_eq_some_iff.mp ev
  split at ev <;> first | contradiction | skip
  rename_i hz
  cases ev
  obtain ⟨i, j, ei, ej, ok, rfl⟩ := rng2_some e3
  simp only at ei ej
  subst ei ej
  refine ⟨F, env, u, _, u1, A.l, e1, fun v F1 H1 P1 r1 => ?_⟩
  have A1 := A.step P1
  refine ⟨F1, env, u1, _, u2, A1.r, e2, fun w F2 H2 P2 r2 => ?_⟩
  obtain rfl := dp_int r1
  obtain rfl := dp_int r2
  have q1 := intOk_of ok.1
  have q2 := intOk_of ok.2
  rw [rangeL_len] at hz
  refine ⟨i, j, rfl, rfl, ⟨q1.1, q1.2, q2.1, q2.2, sizeLine_of hz⟩, fun p hp => ?_⟩
  exact (ans_of (K := X.K) (d := .tuple (rangeL i j)) (P1.trans P2) fun v F' H' P r => k v F' H' P r).newT (P1.trans P2).sub (dpAll_rg i j) hp)
theorem simI_range1 {tg : Expr} (hg : Gl X "range") (hm : X.mg "range" = none) (ha : SimA X C au [a] (.cons pa .nil)) (hs : starEach [a] X.env = [(false, eval a X.env)]) : SimI X C au tg (.Call (.Name "range" pos2) [a] [] pos) (.range1 pa) :=
  ⟨L2.PI.imp (L2.pi_range1 hg hm ha.t hs) fun σ H Q ⟨F, env, u, ds, u', A, ev, k⟩ => by
    simp only [evalI] at ev
    obtain ⟨⟨d, u1⟩, e1, ev⟩ := Option.bind_eq_some_iff.mp ev
    cases d <;> simp only at ev <;> first | contradiction | skip
    rename_i j
    split at ev <;> first | contradiction | skip
    rename_i hz
    cases ev
    refine ⟨F, env, u, [.int j], u', by simpa [fvEs, fvI] using A, by simp [evalEs, e1], fun vs F1 H1 P1 r1 => ?_⟩
    obtain ⟨v, rfl, hv⟩ := dpAll1 r1
    obtain rfl := dp_int hv
    have := intOk_of hz
    refine ⟨j, rfl, this.1, this.2, ?_⟩
    have q := k (L2.Itr 0 (j - 0).toNat) F1 H1 P1 feeds_range (fun _ _ => feeds_range)
    rw [Int.sub_zero] at q
    exact q⟩
theorem simI_range2 {tg : Expr} (hg : Gl X "range") (hm : X.mg "range" = none) (ha : SimA X C au [a, b] (.cons pa (.cons pb .nil))) (hs : starEach [a, b] X.env = [(false, eval a X.env), (false, eval b X.env)]) (hs2 : starEach [b] X.env = [(false, eval b X.env)]) : SimI X C au tg (.Call (.Name "range" pos2) [a, b] [] pos) (.range2 pa pb) :=
  ⟨L2.PI.imp (L2.pi_range2 hg hm ha.t hs hs2) fun σ H Q ⟨F, env, u, ds, u', A, ev, k⟩ => by
    simp only [evalI] at ev
    obtain ⟨⟨d, u1⟩, e1, ev⟩ := Option.bind_eq_some_iff.mp ev
    obtain ⟨⟨d2, u2⟩, e2, ev⟩ := Option.bind_eq_some_iff.mp ev
    obtain ⟨xs, e3, ev⟩ := Option.bind_eq_some_iff.mp ev
    cases ev
    obtain ⟨i, j, rfl, rfl, hz, rfl⟩ := rng2_some e3
    refine ⟨F, env, u, [.int i, .int j], u2, by simpa [fvEs, fvI] using A, by simp [evalEs, e1, e2], fun vs F1 H1 P1 r1 => ?_⟩
    obtain ⟨v, w, rfl, hv, hw⟩ := dpAll2 r1
    obtain rfl := dp_int hv
    obtain rfl := dp_int hw
    have h1 := intOk_of hz.1
    have h2 := intOk_of hz.2
    exact ⟨i, j, rfl, ⟨h1.1, h1.2, h2.1, h2.2⟩, k _ F1 H1 P1 feeds_range (fun _ _ => feeds_range)⟩⟩
theorem feeds_revRange {K : PySem.W.Frag} {F : Hp} {j : Int} : Feeds K F (L2.Itc (0 + (((j - 0).toNat : Nat) : Int) - 1) (-1) (j - 0).toNat) (rangeL 0 j).reverse := fun F2 H s1 s2 i => by
  refine ⟨fun d hd => ?_, fun hl => by rw [List.length_reverse, rangeL_len] at hl; exact hl⟩
  have hl := getD_lt hd
  rw [List.length_reverse, rangeL_len] at hl
  rw [List.getElem?_reverse (by rw [rangeL_len]; exact hl), rangeL_len] at hd
  obtain ⟨h1, rfl⟩ := rangeL_get hd
  refine ⟨hl, fun y H' hy => ?_⟩
  obtain ⟨e, rfl⟩ := hy
  subst e
  refine ⟨F2, Ext0.refl _ _, s2, ?_⟩
  have e : 0 + (((j - 0).toNat : Nat) : Int) - 1 + (i : Int) * (-1) = 0 + (((j - 0).toNat - 1 - i : Nat) : Int) := by omega
  rw [e]
  exact .int _
theorem simI_revRange1 {tg : Expr} {pos3 pos4 : Pos} (hg : Gl X "range") (hm : X.mg "range" = none) (hgr : Gl X "reversed") (hmr : X.mg "reversed" = none) (ha : Sim X C ff au a pa) (hs : starEach [a] X.env = (false, eval a X.env) :: starEach [] X.env) :
    SimI X C au tg (.Call (.Name "reversed" pos2) [.Call (.Name "range" pos3) [a] [] pos4] [] pos) (.revRange1 pa) :=
  ⟨L2.PI.imp (L2.pi_revR hgr hmr (L2.prg_1 hg hm ha.pl hs) rfl) fun σ H Q ⟨F, env, u, ds, u', A, ev, k⟩ => by
    simp only [evalI] at ev
    obtain ⟨⟨d, u1⟩, e1, ev⟩ := Option.bind_eq_some_iff.mp ev
    cases d <;> simp only at ev <;> first | contradiction | skip
    rename_i j
    split at ev <;> first | contradiction | skip
    rename_i hz
    cases ev
    refine ⟨F, env, u, _, _, A, e1, fun v F1 H1 P1 r1 => ?_⟩
    obtain rfl := dp_int r1
    have := intOk_of hz
    exact ⟨j, rfl, by decide, by decide, this.1, this.2, k _ F1 H1 P1 feeds_revRange (fun _ _ => feeds_revRange)⟩⟩
theorem enumL_get : ∀ {ds : List D} {k i : Nat} {d : D}, (enumL k ds)[i]? = some d → ∃ z, ds[i]? = some z ∧ d = .tuple [.int ((k + i : Nat) : Int), z]
  | [], _, _, _, h => by simp [enumL] at h
  | x :: xs, k, 0, d, h => by simp [enumL] at h; exact ⟨x, rfl, h.symm⟩
  | x :: xs, k, i + 1, d, h => by
    simp only [enumL, List.getElem?_cons_succ] at h
    obtain ⟨z, h1, h2⟩ := enumL_get h
    refine ⟨z, by simpa using h1, ?_⟩
    rw [h2]
    congr 3
    omega
theorem enumL_len : ∀ (ds : List D) (k : Nat), (enumL k ds).length = ds.length
  | [], _ => rfl
  | _ :: xs, k => congrArg Nat.succ (enumL_len xs (k + 1))
theorem feeds_enum {K : PySem.W.Frag} {F : Hp} {q : Addr} {xs : List V} {ds : List D} (h : SqL K F q xs) (r : DpAll K F xs ds) : Feeds K F (L2.Ite K q) (enumL 0 ds) := fun F2 H s1 s2 i => by
  have hq := sqL_sub s2 (sqL_sub s1 h)
  refine ⟨fun d hd => ?_, fun hl => ⟨xs, hq, by rw [dpAll_len r]; rw [enumL_len] at hl; exact hl⟩⟩
  obtain ⟨z, hz, rfl⟩ := enumL_get hd
  obtain ⟨v, h1, h2⟩ := dpAll_get r hz
  refine ⟨⟨xs, v, hq, h1⟩, fun y H' hy => ?_⟩
  obtain ⟨T, w, rfl, hT, e, hy⟩ := hy
  subst e
  have := hy xs hq
  rw [h1] at this
  cases this
  refine ⟨upd F2 T (.tup [.int (i : Nat), v]), ext_newF hT, sub_newF s2, .tup (.inl (.inl upd_same)) ?_⟩
  rw [Nat.zero_add]
  exact .cons (.int _) (.cons (dp_sub (s1.trans (sub_new (s2.free hT))) _ _ h2) .nil)
theorem feeds_enumT {K : PySem.W.Frag} {F : Hp} {q : Addr} {xs : List V} {ds : List D} (h : SqT K F q xs) (r : DpAll K F xs ds) : Feeds K F (PlE.Itet K q) (enumL 0 ds) := fun F2 H s1 s2 i => by
  have hq := sqT_sub s2 (sqT_sub s1 h)
  refine ⟨fun d hd => ?_, fun hl => ⟨xs, hq, by rw [dpAll_len r]; rw [enumL_len] at hl; exact hl⟩⟩
  obtain ⟨z, hz, rfl⟩ := enumL_get hd
  obtain ⟨v, h1, h2⟩ := dpAll_get r hz
  refine ⟨⟨xs, v, hq, h1⟩, fun y H' hy => ?_⟩
  obtain ⟨T, w, rfl, hT, e, hy⟩ := hy
  subst e
  have := hy xs hq
  rw [h1] at this
  cases this
  refine ⟨upd F2 T (.tup [.int (i : Nat), v]), ext_newF hT, sub_newF s2, .tup (.inl (.inl upd_same)) ?_⟩
  rw [Nat.zero_add]
  exact .cons (.int _) (.cons (dp_sub (s1.trans (sub_new (s2.free hT))) _ _ h2) .nil)
theorem items_eq {d : D} {xs : List D} (h : items d = some xs) : d = .list xs ∨ d = .tuple xs := by cases d <;> simp [items] at h <;> rw [h] <;> first | exact .inl rfl | exact .inr rfl
theorem simI_enum {elts : List Expr} {kk : Nat} {tpos : Pos} (hg : Gl X "enumerate") (hm : X.mg "enumerate" = none) (ha : SimA X C au [a] (.cons pa .nil)) (hs : starEach [a] X.env = [(false, eval a X.env)]) : SimI X C au (.Tuple elts kk tpos) (.Call (.Name "enumerate" pos2) [a] [] pos) (.enum pa) :=
  ⟨L2.PI.imp (PlE.pi_enumA hg hm ha.t hs) fun σ H Q ⟨F, env, u, ds, u', A, ev, k⟩ => by
    simp only [evalI] at ev
    obtain ⟨⟨d, u1⟩, e1, ev⟩ := Option.bind_eq_some_iff.mp ev
    obtain ⟨xs, e2, ev⟩ := Option.bind_eq_some_iff.mp ev
    cases ev
    simp only at e2
    refine ⟨F, env, u, [d], u1, by simpa [fvEs, fvI] using A, by simp [evalEs, e1], fun vs F1 H1 P1 r1 => ?_⟩
    obtain ⟨v, rfl, hv⟩ := dpAll1 r1
    rcases items_eq e2 with rfl | rfl
    · obtain ⟨q, vs, rfl, h1, h2⟩ := dp_list hv
      exact ⟨q, rfl, .inl ⟨vs, sqL_sub P1.sub h1, k _ F1 H1 P1 (feeds_enum h1 h2) (fun h => nomatch h)⟩⟩
    · obtain ⟨q, vs, rfl, h1, h2⟩ := dp_tuple hv
      exact ⟨q, rfl, .inr ⟨vs, sqT_sub P1.sub h1, k _ F1 H1 P1 (feeds_enumT h1 h2) (fun h => nomatch h)⟩⟩⟩
theorem zipL_get : ∀ {xs ys : List D} {i : Nat} {d : D}, (zipL xs ys)[i]? = some d → ∃ x y, xs[i]? = some x ∧ ys[i]? = some y ∧ d = .tuple [x, y]
  | [], _, _, _, h => by simp [zipL] at h
  | _ :: _, [], _, _, h => by simp [zipL] at h
  | x :: xs, y :: ys, 0, d, h => by simp [zipL] at h; exact ⟨x, y, rfl, rfl, h.symm⟩
  | x :: xs, y :: ys, i + 1, d, h => by
    simp only [zipL, List.getElem?_cons_succ] at h
    obtain ⟨a, b, h1, h2, h3⟩ := zipL_get h
    exact ⟨a, b, by simpa using h1, by simpa using h2, h3⟩
theorem zipL_len : ∀ (xs ys : List D), (zipL xs ys).length = min xs.length ys.length
  | [], _ => by simp [zipL]
  | _ :: _, [] => by simp [zipL]
  | _ :: xs, _ :: ys => by simp only [zipL, List.length_cons, zipL_len xs ys]; omega
theorem feeds_zip {K : PySem.W.Frag} {F : Hp} {q r : Addr} {xs ys : List V} {ds es : List D} (h : SqL K F q xs) (r1 : DpAll K F xs ds) (h' : SqL K F r ys) (r2 : DpAll K F ys es) : Feeds K F (L2.Itz K q r) (zipL ds es) := fun F2 H s1 s2 i => by
  have hq := sqL_sub s2 (sqL_sub s1 h)
  have hr := sqL_sub s2 (sqL_sub s1 h')
  refine ⟨fun d hd => ?_, fun hl => ⟨xs, ys, hq, hr, by rw [dpAll_len r1, dpAll_len r2]; rw [zipL_len] at hl; omega⟩⟩
  obtain ⟨z, z', hz, hz', rfl⟩ := zipL_get hd
  obtain ⟨v, h1, h2⟩ := dpAll_get r1 hz
  obtain ⟨v', h3, h4⟩ := dpAll_get r2 hz'
  refine ⟨⟨xs, ys, v, v', hq, hr, h1, h3⟩, fun y H' hy => ?_⟩
  obtain ⟨T, w, w', rfl, hT, e, hy, hy'⟩ := hy
  subst e
  have e1 := hy xs hq
  rw [h1] at e1
  cases e1
  have e2 := hy' ys hr
  rw [h3] at e2
  cases e2
  have sF := s1.trans (sub_new (o := .tup [v, v']) (s2.free hT))
  exact ⟨upd F2 T (.tup [v, v']), ext_newF hT, sub_newF s2, .tup (.inl (.inl upd_same)) (.cons (dp_sub sF _ _ h2) (.cons (dp_sub sF _ _ h4) .nil))⟩
theorem feeds_zipT {K : PySem.W.Frag} {F : Hp} {q r : Addr} {xs ys : List V} {ds es : List D} (h : SqT K F q xs) (r1 : DpAll K F xs ds) (h' : SqT K F r ys) (r2 : DpAll K F ys es) : Feeds K F (RZ.ItzT K q r) (zipL ds es) := fun F2 H s1 s2 i => by
  have hq := sqT_sub s2 (sqT_sub s1 h)
  have hr := sqT_sub s2 (sqT_sub s1 h')
  refine ⟨fun d hd => ?_, fun hl => ⟨xs, ys, hq, hr, by rw [dpAll_len r1, dpAll_len r2]; rw [zipL_len] at hl; omega⟩⟩
  obtain ⟨z, z', hz, hz', rfl⟩ := zipL_get hd
  obtain ⟨v, h1, h2⟩ := dpAll_get r1 hz
  obtain ⟨v', h3, h4⟩ := dpAll_get r2 hz'
  refine ⟨⟨xs, ys, v, v', hq, hr, h1, h3⟩, fun y H' hy => ?_⟩
  obtain ⟨T, w, w', rfl, hT, e, hy, hy'⟩ := hy
  subst e
  have e1 := hy xs hq
  rw [h1] at e1
  cases e1
  have e2 := hy' ys hr
  rw [h3] at e2
  cases e2
  have sF := s1.trans (sub_new (o := .tup [v, v']) (s2.free hT))
  exact ⟨upd F2 T (.tup [v, v']), ext_newF hT, sub_newF s2, .tup (.inl (.inl upd_same)) (.cons (dp_sub sF _ _ h2) (.cons (dp_sub sF _ _ h4) .nil))⟩
theorem simI_zip {elts : List Expr} {kk : Nat} {tpos : Pos} (hg : Gl X "zip") (hm : X.mg "zip" = none) (ha : SimA X C au [a, b] (.cons pa (.cons pb .nil)))
    (hs : starEach [a, b] X.env = (false, eval a X.env) :: starEach [b] X.env) (hpl : (backTo pos (starEach [b] X.env)).any (·.1) = false) : SimI X C au (.Tuple elts kk tpos) (.Call (.Name "zip" pos2) [a, b] [] pos) (.zip pa pb) :=
  ⟨L2.PI.imp (RZ.pi_zipA hg hm ha.t hs hpl) fun σ H Q ⟨F, env, u, ds, u', A, ev, k⟩ => by
    simp only [evalI] at ev
    obtain ⟨⟨d, u1⟩, e1, ev⟩ := Option.bind_eq_some_iff.mp ev
    obtain ⟨⟨d', u2⟩, e2, ev⟩ := Option.bind_eq_some_iff.mp ev
    obtain ⟨xs, e3, ev⟩ := Option.bind_eq_some_iff.mp ev
    cases ev
    simp only at e2 e3
    refine ⟨F, env, u, [d, d'], u2, by simpa [fvEs, fvI] using A, by simp [evalEs, e1, e2], fun vs F1 H1 P1 r1 => ?_⟩
    obtain ⟨v, w, rfl, hv, hw⟩ := dpAll2 r1
    cases d <;> cases d' <;> simp only [zipD] at e3 <;> first | contradiction | skip
    · cases e3
      obtain ⟨q, vs, rfl, h1, h2⟩ := dp_list hv
      obtain ⟨r, ws, rfl, h3, h4⟩ := dp_list hw
      exact ⟨q, r, vs, ws, rfl, .inl ⟨sqL_sub P1.sub h1, sqL_sub P1.sub h3, k _ F1 H1 P1 (feeds_zip h1 h2 h3 h4) (fun h => nomatch h)⟩⟩
    · cases e3
      obtain ⟨q, vs, rfl, h1, h2⟩ := dp_tuple hv
      obtain ⟨r, ws, rfl, h3, h4⟩ := dp_tuple hw
      exact ⟨q, r, vs, ws, rfl, .inr ⟨sqT_sub P1.sub h1, sqT_sub P1.sub h3, k _ F1 H1 P1 (feeds_zipT h1 h2 h3 h4) (fun h => nomatch h)⟩⟩⟩
theorem feeds_revL {K : PySem.W.Frag} {F : Hp} {q : Addr} {xs : List V} {ds : List D} (h : SqL K F q xs) (r : DpAll K F xs ds) : Feeds K F (L2.Itv K q xs.length) ds.reverse := fun F2 H s1 s2 i => by
  have hq := sqL_sub s2 (sqL_sub s1 h)
  have hn := dpAll_len r
  refine ⟨fun d hd => ?_, fun hl => ?_⟩
  · have hl := getD_lt hd
    rw [List.length_reverse] at hl
    rw [List.getElem?_reverse hl, ← hn] at hd
    obtain ⟨v, h1, h2⟩ := dpAll_get r hd
    refine ⟨⟨by omega, xs, v, hq, h1⟩, fun y H' hy => ?_⟩
    obtain ⟨e, hy⟩ := hy
    subst e
    have := hy xs hq
    rw [h1] at this
    cases this
    exact ⟨F2, Ext0.refl _ _, s2, dp_sub s1 _ _ h2⟩
  · rw [List.length_reverse, ← hn] at hl
    exact hl
theorem feeds_revT {K : PySem.W.Frag} {F : Hp} {q : Addr} {xs : List V} {ds : List D} (h : SqT K F q xs) (r : DpAll K F xs ds) : Feeds K F (RT.ItvT K q xs.length) ds.reverse := fun F2 H s1 s2 i => by
  have hq := sqT_sub s2 (sqT_sub s1 h)
  have hn := dpAll_len r
  refine ⟨fun d hd => ?_, fun hl => ?_⟩
  · have hl := getD_lt hd
    rw [List.length_reverse] at hl
    rw [List.getElem?_reverse hl, ← hn] at hd
    obtain ⟨v, h1, h2⟩ := dpAll_get r hd
    refine ⟨⟨by omega, xs, v, hq, h1⟩, fun y H' hy => ?_⟩
    obtain ⟨e, hy⟩ := hy
    subst e
    have := hy xs hq
    rw [h1] at this
    cases this
    exact ⟨F2, Ext0.refl _ _, s2, dp_sub s1 _ _ h2⟩
  · rw [List.length_reverse, ← hn] at hl
    exact hl
theorem simI_rev {tg : Expr} (hg : Gl X "reversed") (hm : X.mg "reversed" = none) (ha : Sim X C ff au a pa) (hs : starEach [a] X.env = (false, eval a X.env) :: starEach [] X.env) : SimI X C au tg (.Call (.Name "reversed" pos2) [a] [] pos) (.rev pa) :=
  ⟨L2.PI.imp (RT.pi_revA hg hm ha.pl hs) fun σ H Q ⟨F, env, u, ds, u', A, ev, k⟩ => by
    simp only [evalI] at ev
    obtain ⟨⟨d, u1⟩, e1, ev⟩ := Option.bind_eq_some_iff.mp ev
    obtain ⟨xs, e2, ev⟩ := Option.bind_eq_some_iff.mp ev
    cases ev
    refine ⟨F, env, u, d, _, A, e1, fun v F1 H1 P1 r1 => ?_⟩
    rcases items_list e2 with e | e <;> simp only at e <;> subst e
    · obtain ⟨q, vs, rfl, h1, h2⟩ := dp_list r1
      exact ⟨q, vs, rfl, .inl ⟨sqL_sub P1.sub h1, k _ F1 H1 P1 (feeds_revL h1 h2) (fun h => nomatch h)⟩⟩
    · obtain ⟨q, vs, rfl, h1, h2⟩ := dp_tuple r1
      exact ⟨q, vs, rfl, .inr ⟨sqT_sub P1.sub h1, k _ F1 H1 P1 (feeds_revT h1 h2) (fun h => nomatch h)⟩⟩⟩
end
end Pl

set_option maxHeartbeats 4000000
/-! PSoundZ: zip over three lists. -/
namespace PlZ
open PySem PySem.Spec PyProof.Rows L2
theorem tc3 (a b c : Value) : checkTypeCall "zip" ⟨[a, b, c], []⟩ = pure () := by kernel_rfl
theorem nc3 (a b c : Value) : checkBuiltinCall "zip.__new__" ⟨[.type "zip", a, b, c], []⟩ = pure () := by kernel_rfl
theorem oi4 (a b c d : Value) : argsOk "object.__init__" ⟨[a, b, c, d], []⟩ := by
  unfold argsOk
  rw [signature?_of (id := "object.__init__") (n := ['_', '_', 't', 'i', 'n', 'i', '_', '_']) (o := ['t', 'c', 'e', 'j', 'b', 'o']) (by kernel_rfl) F.owner_object]
  kernel_rfl
abbrev Is3 (h : Heap) (T : Addr) (a b c : Value) : Prop := h.get? T = some { cls := .type "tuple", data := .seq #[a, b, c] }
/-- all addresses apart -/
structure Apart3 (z TI TO i j k l m n : Addr) : Prop where
  TIz : TI ≠ z
  TOz : TO ≠ z
  iz : i ≠ z
  jz : j ≠ z
  kz : k ≠ z
  TITO : TI ≠ TO
  TIi : TI ≠ i
  TIj : TI ≠ j
  TIk : TI ≠ k
  TOi : TO ≠ i
  TOj : TO ≠ j
  TOk : TO ≠ k
  ij : i ≠ j
  ik : i ≠ k
  jk : j ≠ k
  lz : l ≠ z
  lTO : l ≠ TO
  li : l ≠ i
  lj : l ≠ j
  lk : l ≠ k
  mz : m ≠ z
  mTO : m ≠ TO
  mi : m ≠ i
  mj : m ≠ j
  mkk : m ≠ k
  nz : n ≠ z
  nTO : n ≠ TO
  ni : n ≠ i
  nj : n ≠ j
  nk : n ≠ k
theorem apart3 (I l m n : Nat) (h1 : l < I) (h2 : m < I) (h3 : n < I) : Apart3 (I + 5) (I + 3) (I + 4) I (I + 1) (I + 2) l m n := by
  constructor <;> (refine PySem.W.neN ?_; omega)
section
variable {prog : Program} {w : World} {A : Around} {E : Value → Shared → Prop} {s : Shared}
theorem put3 {T : Addr} {a b c x : Value} {k : Nat} {Q : Unit → Shared → Prop} (hT : Is3 s.heap T a b c)
    (h : ∀ h', h'.get? T = some { cls := .type "tuple", data := .seq ((#[a, b, c] : Array Value).setIfInBounds k x) } → Heap.SameBut T s.heap h' → Q () { s with heap := h' }) :
    wpAny (model prog w) A (updateSeq T (·.setIfInBounds k x)) Q E s := by
  refine wpAny_updateSeq hT rfl (h _ ?_ (Heap.SameBut.update ..))
  rw [Heap.get?_update_self _ hT rfl]
  simp [Obj.mapSeq]
/-- what stands but for the iterator's own -/
def KeepsBut (z TO i j k : Addr) (h h' : Heap) : Prop := ∀ c o, c ≠ z → c ≠ TO → c ≠ i → c ≠ j → c ≠ k → h.get? c = some o → h'.get? c = some o
theorem next3 {z TI TO i j k l m n : Addr} {q : Nat} {xs ys zs : Array Value} {x y v a b c : Value} {Q : Value → Shared → Prop} (D : Apart3 z TI TO i j k l m n)
    (hz : IsZip s.heap z TI TO .none) (hTI : Is3 s.heap TI (.ref i) (.ref j) (.ref k)) (hTO : Is3 s.heap TO a b c)
    (h1 : s.heap.IsListIter i l q) (h2 : s.heap.IsListIter j m q) (h3 : s.heap.IsListIter k n q) (hl : s.heap.IsList l xs) (hm : s.heap.IsList m ys) (hn : s.heap.IsList n zs)
    (hx : xs[q]? = some x) (hy : ys[q]? = some y) (hv : zs[q]? = some v)
    (hQ : ∀ h', IsZip h' z TI TO (rawInt s.heap.objs.size) → Is3 h' TO x y v → h'.IsListIter i l (q + 1) → h'.IsListIter j m (q + 1) → h'.IsListIter k n (q + 1) → Is3 h' s.heap.objs.size x y v →
      h'.objs.size = s.heap.objs.size + 1 → KeepsBut z TO i j k s.heap h' → Q (.ref s.heap.objs.size) { s with heap := h' }) :
    wpAny (model prog w) A (Builtin.«zip.__next__» ⟨[.ref z], []⟩) (fun fin s' => ∃ v, fin = .done (.ret v) ∧ Q v s') E s := by
  show wpAny _ _ (field (.ref z) 2 >>= _) _ _ _
  refine wpAny_bind (wpAny_field hz rfl (x := .bool false) rfl ?_)
  show wpAny _ _ (field (.ref z) 3 >>= _) _ _ _
  refine wpAny_bind (wpAny_field hz rfl (x := .ref TI) rfl (wpAny_bind (wpAny_seqItems hTI rfl ?_)))
  show wpAny _ _ (Builtin.SmallTypes.ownedTupleIsFree (.ref z) >>= _) _ _ _
  refine wpAny_bind ?_
  unfold Builtin.SmallTypes.ownedTupleIsFree
  refine wpAny_bind (wpAny_field hz rfl (x := .none) rfl (wpAny_pure ?_))
  simp only [if_true]
  refine wpAny_bind (wpAny_rule (wpAny_bind (wpAny_field hz rfl (x := .ref TO) rfl (wpAny_bind (wpAny_setField_rec hz (by simp) fun g1 z1 s1 => ?_)))))
  replace z1 : IsZip g1 z TI TO .ellipsis := z1
  refine wpAny_bind ?_
  simp only [List.zipIdx_cons, List.zipIdx_nil, List.forIn_cons, List.forIn_nil]
  -- the first
  refine wpAny_bind (wpAny_bind (wpAny_onRaise ?_))
  show wpAny _ _ (Builtin.SmallTypes.nextOf (.ref i) >>= _) _ _ _
  refine wpAny_bind (wpAny_nextOf_list_item (h1.extBut s1.extBut D.iz) (hl.extBut s1.extBut D.lz) hx fun g2 i2 s2 => wpAny_pure ?_)
  have t2 : Is3 g2 TO a b c := s2.extBut _ _ D.TOi (s1.extBut _ _ D.TOz hTO)
  refine wpAny_bind (wpAny_seqItems t2 rfl (wpAny_bind (put3 t2 fun g3 t3 s3 => ?_)))
  replace t3 : Is3 g3 TO x b c := t3
  refine wpAny_bind (wpAny_letGo (wpAny_pure ?_))
  -- the second
  refine wpAny_bind (wpAny_bind (wpAny_onRaise ?_))
  show wpAny _ _ (Builtin.SmallTypes.nextOf (.ref j) >>= _) _ _ _
  refine wpAny_bind (wpAny_nextOf_list_item (((h2.extBut s1.extBut D.jz).extBut s2.extBut D.ij.symm).extBut s3.extBut D.TOj.symm) (((hm.extBut s1.extBut D.mz).extBut s2.extBut D.mi).extBut s3.extBut D.mTO) hy fun g4 j4 s4 => wpAny_pure ?_)
  have t4 : Is3 g4 TO x b c := s4.extBut _ _ D.TOj t3
  refine wpAny_bind (wpAny_seqItems t4 rfl (wpAny_bind (put3 t4 fun g5 t5 s5 => ?_)))
  replace t5 : Is3 g5 TO x y c := t5
  refine wpAny_bind (wpAny_letGo (wpAny_pure ?_))
  -- the third
  refine wpAny_bind (wpAny_bind (wpAny_onRaise ?_))
  show wpAny _ _ (Builtin.SmallTypes.nextOf (.ref k) >>= _) _ _ _
  refine wpAny_bind (wpAny_nextOf_list_item (((((h3.extBut s1.extBut D.kz).extBut s2.extBut D.ik.symm).extBut s3.extBut D.TOk.symm).extBut s4.extBut D.jk.symm).extBut s5.extBut D.TOk.symm)
    (((((hn.extBut s1.extBut D.nz).extBut s2.extBut D.ni).extBut s3.extBut D.nTO).extBut s4.extBut D.nj).extBut s5.extBut D.nTO) hv fun g6 k6 s6 => wpAny_pure ?_)
  have t6 : Is3 g6 TO x y c := s6.extBut _ _ D.TOk t5
  refine wpAny_bind (wpAny_seqItems t6 rfl (wpAny_bind (put3 t6 fun g7 t7 s7 => ?_)))
  replace t7 : Is3 g7 TO x y v := t7
  refine wpAny_bind (wpAny_letGo (wpAny_pure (wpAny_pure ?_)))
  refine wpAny_bind (wpAny_seqItems t7 rfl (wpAny_bind (wpAny_newTuple ?_)))
  have hsz : g7.objs.size = s.heap.objs.size := by rw [s7.1, s6.1, s5.1, s4.1, s3.1, s2.1, s1.1]
  have z7 : IsZip g7 z TI TO .ellipsis := s7.extBut _ _ D.TOz.symm (s6.extBut _ _ D.kz.symm (s5.extBut _ _ D.TOz.symm (s4.extBut _ _ D.jz.symm (s3.extBut _ _ D.TOz.symm (s2.extBut _ _ D.iz.symm z1)))))
  have k7 : KeepsBut z TO i j k s.heap g7 := fun c o c1 c2 c3 c4 c5 e =>
    s7.extBut _ _ c2 (s6.extBut _ _ c5 (s5.extBut _ _ c2 (s4.extBut _ _ c4 (s3.extBut _ _ c2 (s2.extBut _ _ c3 (s1.extBut _ _ c1 e))))))
  have i7 : g7.IsListIter i l (q + 1) := ((((i2.extBut s3.extBut D.TOi.symm).extBut s4.extBut D.ij).extBut s5.extBut D.TOi.symm).extBut s6.extBut D.ik).extBut s7.extBut D.TOi.symm
  have j7 : g7.IsListIter j m (q + 1) := ((j4.extBut s5.extBut D.TOj.symm).extBut s6.extBut D.jk).extBut s7.extBut D.TOj.symm
  have kk7 : g7.IsListIter k n (q + 1) := k6.extBut s7.extBut D.TOk.symm
  have hzlt : z < g7.objs.size := Heap.lt_size z7
  show wpAny _ _ (Builtin.SmallTypes.ownedTupleHandOut (.ref z) (.ref g7.objs.size) >>= _) _ _ _
  refine wpAny_bind ?_
  unfold Builtin.SmallTypes.ownedTupleHandOut
  have z8 : IsZip (g7.push { cls := .type "tuple", data := .seq #[x, y, v] }) z TI TO .ellipsis := Heap.get?_push_of_some _ z7
  refine wpAny_bind (wpAny_setField_rec z8 (by simp) fun g9 z9 s9 => ?_)
  replace z9 : IsZip g9 z TI TO (rawInt g7.objs.size) := z9
  refine wpAny_setField_rec z9 (by simp) fun ga za sa => ?_
  replace za : IsZip ga z TI TO (rawInt g7.objs.size) := za
  have up : ∀ c o, c ≠ z → g7.get? c = some o → ga.get? c = some o := fun c o c1 e => sa.extBut _ _ c1 (s9.extBut _ _ c1 (Heap.get?_push_of_some _ e))
  have ta : Is3 ga g7.objs.size x y v := sa.extBut _ _ (Nat.ne_of_gt hzlt) (s9.extBut _ _ (Nat.ne_of_gt hzlt) (Heap.get?_push_size _ rfl))
  have na : ga.objs.size = g7.objs.size + 1 := by rw [sa.1, s9.1, Heap.size_push]
  rw [hsz] at za ta na
  refine wpAny_pure ⟨_, rfl, ?_⟩
  show Q (.ref g7.objs.size) _
  rw [hsz]
  exact hQ ga za (up _ _ D.TOz t7) (i7.at fun o e => up _ o D.iz e) (j7.at fun o e => up _ o D.jz e) (kk7.at fun o e => up _ o D.kz e) ta na fun c o c1 c2 c3 c4 c5 e => up c o c1 (k7 c o c1 c2 c3 c4 c5 e)
theorem end3 {z TI TO i j k l m n : Addr} {q : Nat} {xs ys zs : Array Value} {a b c : Value} {Q : PySem.Fin → Shared → Prop} (hh : A.handled = none) (D : Apart3 z TI TO i j k l m n)
    (hz : IsZip s.heap z TI TO .none) (hTI : Is3 s.heap TI (.ref i) (.ref j) (.ref k)) (hTO : Is3 s.heap TO a b c)
    (h1 : s.heap.IsListIter i l q) (hl : s.heap.IsList l xs) (hx : xs[q]? = none)
    (hE : ∀ h' e, KeepsBut z TO i j k s.heap h' → (∃ o, h'.get? e = some o ∧ o.cls = .type "StopIteration") → E (.ref e) { s with heap := h' }) :
    wpAny (model prog w) A (Builtin.«zip.__next__» ⟨[.ref z], []⟩) Q E s := by
  show wpAny _ _ (field (.ref z) 2 >>= _) _ _ _
  refine wpAny_bind (wpAny_field hz rfl (x := .bool false) rfl ?_)
  show wpAny _ _ (field (.ref z) 3 >>= _) _ _ _
  refine wpAny_bind (wpAny_field hz rfl (x := .ref TI) rfl (wpAny_bind (wpAny_seqItems hTI rfl ?_)))
  show wpAny _ _ (Builtin.SmallTypes.ownedTupleIsFree (.ref z) >>= _) _ _ _
  refine wpAny_bind ?_
  unfold Builtin.SmallTypes.ownedTupleIsFree
  refine wpAny_bind (wpAny_field hz rfl (x := .none) rfl (wpAny_pure ?_))
  simp only [if_true]
  refine wpAny_bind (wpAny_rule (wpAny_bind (wpAny_field hz rfl (x := .ref TO) rfl (wpAny_bind (wpAny_setField_rec hz (by simp) fun g1 z1 s1 => ?_)))))
  replace z1 : IsZip g1 z TI TO .ellipsis := z1
  refine wpAny_bind ?_
  simp only [List.zipIdx_cons, List.zipIdx_nil, List.forIn_cons, List.forIn_nil]
  refine wpAny_bind (wpAny_bind (wpAny_onRaise ?_))
  show wpAny _ _ (Builtin.SmallTypes.nextOf (.ref i) >>= _) _ _ _
  refine wpAny_bind (wpAny_nextOf_list_end hh (h1.extBut s1.extBut D.iz) (hl.extBut s1.extBut D.lz) hx fun g2 e s2 he => ?_)
  obtain ⟨oe, hoe, hce⟩ := he
  have z2 : IsZip g2 z TI TO .ellipsis := s2 _ _ D.iz.symm z1
  have hez : e ≠ z := fun x => by subst x; rw [z2] at hoe; cases hoe; simp at hce
  refine wpAny_setField_rec z2 (by simp) fun g3 _ s3 => hE g3 e (fun c o c1 _ c3 _ _ x => s3.extBut _ _ c1 (s2 _ _ c3 (s1.extBut _ _ c1 x))) ⟨oe, s3.extBut _ _ hez hoe, hce⟩
theorem pyNext3 {z TI TO i j k l m n : Addr} {q : Nat} {xs ys zs : Array Value} {x y v a b c : Value} {Q : Option Value → Shared → Prop} (D : Apart3 z TI TO i j k l m n)
    (hz : IsZip s.heap z TI TO .none) (hTI : Is3 s.heap TI (.ref i) (.ref j) (.ref k)) (hTO : Is3 s.heap TO a b c)
    (h1 : s.heap.IsListIter i l q) (h2 : s.heap.IsListIter j m q) (h3 : s.heap.IsListIter k n q) (hl : s.heap.IsList l xs) (hm : s.heap.IsList m ys) (hn : s.heap.IsList n zs)
    (hx : xs[q]? = some x) (hy : ys[q]? = some y) (hv : zs[q]? = some v)
    (hQ : ∀ h', IsZip h' z TI TO (rawInt s.heap.objs.size) → Is3 h' TO x y v → h'.IsListIter i l (q + 1) → h'.IsListIter j m (q + 1) → h'.IsListIter k n (q + 1) → Is3 h' s.heap.objs.size x y v →
      h'.objs.size = s.heap.objs.size + 1 → KeepsBut z TO i j k s.heap h' → Q (some (.ref s.heap.objs.size)) { s with heap := h' }) : wpAny (model prog w) A (pyNext (.ref z)) Q E s := by
  have hT : s.TypeIs (.ref z) "zip" := ⟨_, hz, rfl⟩
  unfold pyNext
  exact wpAny_bind (wpAny_attempt (wpAny_callSpecial?_slot (name := Str.ofString "__next__") hT F.slot_zip_next (wpAny_call_entry F.slot_zip_next hT F.entry_zip_next
    (next3 D hz hTI hTO h1 h2 h3 hl hm hn hx hy hv fun h' a1 a2 a3 a4 a5 a6 a7 a8 => wpAny_pure (hQ h' a1 a2 a3 a4 a5 a6 a7 a8)) (F.args_zip_next_1 _))))
theorem pyNext3_end {z TI TO i j k l m n : Addr} {q : Nat} {xs ys zs : Array Value} {a b c : Value} {Q : Option Value → Shared → Prop} (hh : A.handled = none) (D : Apart3 z TI TO i j k l m n)
    (hz : IsZip s.heap z TI TO .none) (hTI : Is3 s.heap TI (.ref i) (.ref j) (.ref k)) (hTO : Is3 s.heap TO a b c)
    (h1 : s.heap.IsListIter i l q) (hl : s.heap.IsList l xs) (hx : xs[q]? = none)
    (hQ : ∀ h', KeepsBut z TO i j k s.heap h' → Q none { s with heap := h' }) : wpAny (model prog w) A (pyNext (.ref z)) Q E s := by
  have hT : s.TypeIs (.ref z) "zip" := ⟨_, hz, rfl⟩
  unfold pyNext
  refine wpAny_bind (wpAny_attempt (wpAny_callSpecial?_slot (name := Str.ofString "__next__") hT F.slot_zip_next (wpAny_call_entry F.slot_zip_next hT F.entry_zip_next
    (end3 (xs := xs) (ys := ys) (zs := zs) hh D hz hTI hTO h1 hl hx fun h' e hk he => ?_) (F.args_zip_next_1 _))))
  obtain ⟨o, ho, hc⟩ := he
  exact wpAny_bind (wpAny_isInstance (T := "StopIteration") (b := true) ⟨o, ho, hc⟩ isSubtype_stop (wpAny_pure (hQ _ hk)))
end
abbrev lit (l : Addr) : Obj := { cls := .type "list_iterator", data := .fields #[.ref l, .int 0 0] }
abbrev hA (h : Heap) (l : Addr) : Heap := h.push (lit l)
abbrev hB (h : Heap) (l m : Addr) : Heap := (hA h l).push (lit m)
abbrev hC (h : Heap) (l m n : Addr) : Heap := (hB h l m).push (lit n)
abbrev hD (h : Heap) (l m n : Addr) : Heap := (hC h l m n).push { cls := .type "tuple", data := .seq #[.ref h.objs.size, .ref (hA h l).objs.size, .ref (hB h l m).objs.size] }
abbrev hE (h : Heap) (l m n : Addr) : Heap := (hD h l m n).push { cls := .type "tuple", data := .seq #[.none, .none, .none] }
abbrev hF (h : Heap) (l m n : Addr) : Heap := (hE h l m n).push { cls := .type "zip", data := .fields #[.none, .bool false, .bool false, .ref (hC h l m n).objs.size, .ref (hD h l m n).objs.size] }
theorem meets_new3 (l m n : Addr) (xs ys zs : Array Value) :
    Meets (Builtin.«zip.__new__» ⟨[.type "zip", .ref l, .ref m, .ref n], []⟩) (fun _ R s => s.heap.IsList l xs ∧ s.heap.IsList m ys ∧ s.heap.IsList n zs ∧
      R (.ok (.ret (.ref (hE s.heap l m n).objs.size))) { s with heap := hF s.heap l m n }) :=
  .of_wp fun prog w A R s h => by
    obtain ⟨hp, g, d, tk, os⟩ := s; obtain ⟨hl1, hl2, hl3, h⟩ := h
    have hsub := sub_zip
    have hL1 : Heap.IsList (Shared.heap ⟨hp, g, d, tk, os⟩) l xs := hl1
    have hL2 : Heap.IsList (Shared.heap ⟨hp.push (lit l), g, d, tk, os⟩) m ys := Heap.IsList.push hl2 _
    have hL3 : Heap.IsList (Shared.heap ⟨(hp.push (lit l)).push (lit m), g, d, tk, os⟩) n zs := Heap.IsList.push (Heap.IsList.push hl3 _) _
    wp_walk using wpAny_pyIter_list hL1, wpAny_pyIter_list hL2, wpAny_pyIter_list hL3
    exact ⟨_, rfl, h⟩
section
variable {prog : Program} {w : World} {A : Around} {E : Value → Shared → Prop} {s : Shared}
theorem call3 {l m n : Addr} {xs ys zs : Array Value} {Q : Value → Shared → Prop} (hl : s.heap.IsList l xs) (hm : s.heap.IsList m ys) (hn : s.heap.IsList n zs)
    (h : ∀ h', IsZip h' (s.heap.objs.size + 5) (s.heap.objs.size + 3) (s.heap.objs.size + 4) .none → Is3 h' (s.heap.objs.size + 3) (.ref s.heap.objs.size) (.ref (s.heap.objs.size + 1)) (.ref (s.heap.objs.size + 2)) →
      Is3 h' (s.heap.objs.size + 4) .none .none .none → h'.IsListIter s.heap.objs.size l 0 → h'.IsListIter (s.heap.objs.size + 1) m 0 → h'.IsListIter (s.heap.objs.size + 2) n 0 →
      (∀ c o, s.heap.get? c = some o → h'.get? c = some o) → Q (.ref (s.heap.objs.size + 5)) { s with heap := h' }) :
    wpAny (model prog w) A (call (.type "zip") [.ref l, .ref m, .ref n]) Q E s := by
  refine callType_new F.called_zip (by decide) (tc3 _ _ _) (nc3 _ _ _) (fun obj => oi4 obj _ _ _) F.entry_zip_new (meets_new3 l m n xs ys zs) ⟨hl, hm, hn, ?_⟩
  have z1 : (hA s.heap l).objs.size = s.heap.objs.size + 1 := Heap.size_push ..
  have z2 : (hB s.heap l m).objs.size = s.heap.objs.size + 2 := by rw [Heap.size_push, z1]
  have z3 : (hC s.heap l m n).objs.size = s.heap.objs.size + 3 := by rw [Heap.size_push, z2]
  have z4 : (hD s.heap l m n).objs.size = s.heap.objs.size + 4 := by rw [Heap.size_push, z3]
  have z5 : (hE s.heap l m n).objs.size = s.heap.objs.size + 5 := by rw [Heap.size_push, z4]
  have p6 : (hF s.heap l m n).get? (hE s.heap l m n).objs.size = some _ := Heap.get?_push_size _ rfl
  have p5 : (hF s.heap l m n).get? (hD s.heap l m n).objs.size = some _ := Heap.get?_push_of_some _ (Heap.get?_push_size _ rfl)
  have p4 : (hF s.heap l m n).get? (hC s.heap l m n).objs.size = some _ := Heap.get?_push_of_some _ (Heap.get?_push_of_some _ (Heap.get?_push_size _ rfl))
  have p3 : (hF s.heap l m n).get? (hB s.heap l m).objs.size = some _ := Heap.get?_push_of_some _ (Heap.get?_push_of_some _ (Heap.get?_push_of_some _ (Heap.get?_push_size _ rfl)))
  have p2 : (hF s.heap l m n).get? (hA s.heap l).objs.size = some _ := Heap.get?_push_of_some _ (Heap.get?_push_of_some _ (Heap.get?_push_of_some _ (Heap.get?_push_of_some _ (Heap.get?_push_size _ rfl))))
  have p1 : (hF s.heap l m n).get? s.heap.objs.size = some _ := Heap.get?_push_of_some _ (Heap.get?_push_of_some _ (Heap.get?_push_of_some _ (Heap.get?_push_of_some _ (Heap.get?_push_of_some _ (Heap.get?_push_size _ rfl)))))
  show _ ∧ _
  rw [z3, z4, z5] at p6
  rw [z1, z2, z3] at p4
  rw [z4] at p5
  rw [z2] at p3
  rw [z1] at p2
  rw [z5]
  exact ⟨⟨_, p6, rfl⟩, h _ p6 p4 p5 ⟨_, p1, rfl, rfl⟩ ⟨_, p2, rfl, rfl⟩ ⟨_, p3, rfl, rfl⟩ fun c o x =>
    Heap.get?_push_of_some _ (Heap.get?_push_of_some _ (Heap.get?_push_of_some _ (Heap.get?_push_of_some _ (Heap.get?_push_of_some _ (Heap.get?_push_of_some _ x)))))⟩
end
/-- three lists at a, b, c, the items in new triples -/
def It3 (K : PySem.W.Frag) (a b c : Addr) : It :=
  ⟨fun i H => ∃ (xs ys zs : List V) (x y z : V), SqL K H a xs ∧ SqL K H b ys ∧ SqL K H c zs ∧ xs[i]? = some x ∧ ys[i]? = some y ∧ zs[i]? = some z,
    fun i H v H' => ∃ T x y z, v = .ref T ∧ H T = none ∧ H' = upd H T (.tup [x, y, z]) ∧ (∀ xs, SqL K H a xs → xs[i]? = some x) ∧ (∀ ys, SqL K H b ys → ys[i]? = some y) ∧ ∀ zs, SqL K H c zs → zs[i]? = some z,
    fun i H => ∃ xs : List V, SqL K H a xs ∧ xs.length ≤ i⟩
theorem turn3 {P : Program} {w : World} {K : PySem.W.Frag} {elts : List Expr} {kk : Nat} {tpos : Pos} {a b c z TI TO i1 i2 i3 : Addr} (D : Apart3 z TI TO i1 i2 i3 a b c)
    (hb : ∀ (i : Nat) (H : Hp), True) :
    Turn P w K (.Tuple elts kk tpos) (It3 K a b c) [z, TI, TO, i1, i2, i3] z (fun i h => IsZip h z TI TO .none ∧ Is3 h TI (.ref i1) (.ref i2) (.ref i3) ∧ (∃ x y v, Is3 h TO x y v) ∧ h.IsListIter i1 a i ∧ h.IsListIter i2 b i ∧ h.IsListIter i3 c i) where
  mem := by simp
  obj := fun i h st d hc => by
    obtain ⟨hz, hTI, ⟨x, y, v, hTO⟩, ⟨o1, e1, _, d1⟩, ⟨o2, e2, _, d2⟩, ⟨o3, e3, _, d3⟩⟩ := st
    have e' : d = z ∨ d = TI ∨ d = TO ∨ d = i1 ∨ d = i2 ∨ d = i3 := by simpa using hc
    rcases e' with q | q | q | q | q | q
    · rw [q]; exact ⟨_, hz, fun v q => nomatch q⟩
    · rw [q]; exact ⟨_, hTI, fun v q => nomatch q⟩
    · rw [q]; exact ⟨_, hTO, fun v q => nomatch q⟩
    · rw [q]; exact ⟨o1, e1, fun v q => by rw [d1] at q; cases q⟩
    · rw [q]; exact ⟨o2, e2, fun v q => by rw [d2] at q; cases q⟩
    · rw [q]; exact ⟨o3, e3, fun v q => by rw [d3] at q; cases q⟩
  keep := fun i h h' st k => by
    obtain ⟨hz, hTI, ⟨x, y, v, hTO⟩, h1, h2, h3⟩ := st
    exact ⟨k z (by simp) _ hz, k TI (by simp) _ hTI, ⟨x, y, v, k TO (by simp) _ hTO⟩, h1.at fun o q => k i1 (by simp) o q, h2.at fun o q => k i2 (by simp) o q, h3.at fun o q => k i3 (by simp) o q⟩
  item := by
    intro X hP hw hK hc i pins s σ H E I hf st hg
    subst hP hw hK
    obtain ⟨hz, hTI, ⟨x0, y0, v0, hTO⟩, h1, h2, h3⟩ := st
    obtain ⟨xs, ys, zs, x, y, v, hqx, hqy, hqz, hx, hy, hv⟩ := hg
    obtain ⟨it1, rv1, p1, _⟩ := I.list hqx
    obtain ⟨it2, rv2, p2, _⟩ := I.list hqy
    obtain ⟨it3, rv3, p3, _⟩ := I.list hqz
    obtain ⟨u1, hu1, ru1⟩ := rv1.get hx
    obtain ⟨u2, hu2, ru2⟩ := rv2.get hy
    obtain ⟨u3, hu3, ru3⟩ := rv3.get hv
    have hzl : z < s.heap.objs.size := Heap.lt_size hz
    refine pyNext3 D hz hTI hTO h1 h2 h3 p1.isList p2.isList p3.isList (x := u1) (y := u2) (v := u3) (by simpa using hu1) (by simpa using hu2) (by simpa using hu3) fun h' z' TO' n1 n2 n3 hT hsz hk => ?_
    refine ⟨_, rfl, wpAny_letOwnedTupleGo_zip (s := { s with heap := h' }) z' fun h'' z'' sb => ?_⟩
    have hT2 : h''.get? s.heap.objs.size = some { cls := .type "tuple", data := .seq #[u1, u2, u3] } := (sb.2 _ (Nat.ne_of_gt hzl)).trans hT
    have new : ObjOk X.prog X.w (upd H s.heap.objs.size (.tup [x, y, v])) h'' s.heap.objs.size (.tup [x, y, v]) :=
      ⟨by show 3 ≤ sizeLine; decide, [u1, u2, u3], .cons ru1 (.cons ru2 (.cons ru3 .nil)), ⟨_, hT2, rfl, _, rfl⟩⟩
    have I1 : Inv X pins σ (upd H s.heap.objs.size (.tup [x, y, v])) { s with heap := h'' } :=
      I.turnedNew (t' := s.toks) (ch := [z, TI, TO, i1, i2, i3]) (fun d o hb q => (sb.2 d (fun q' => hb (by simp [q']))).trans (hk d o (fun q' => hb (by simp [q'])) (fun q' => hb (by simp [q'])) (fun q' => hb (by simp [q'])) (fun q' => hb (by simp [q'])) (fun q' => hb (by simp [q'])) q)) hf (Nat.le_refl _) new
    refine ⟨.ref s.heap.objs.size, _, I1, rfl, ⟨_, x, y, v, rfl, I.hok.fresh (Nat.le_refl _), rfl, fun l hl => by rw [I.list_inj hl hqx]; exact hx, fun l hl => by rw [I.list_inj hl hqy]; exact hy, fun l hl => by rw [I.list_inj hl hqz]; exact hv⟩,
      ⟨z'', ?_, ⟨u1, u2, u3, ?_⟩, ?_, ?_, ?_⟩, fun d hcm => ?_⟩
    · exact (sb.2 _ D.TIz).trans (hk _ _ D.TIz D.TITO D.TIi D.TIj D.TIk hTI)
    · exact (sb.2 _ D.TOz).trans TO'
    · exact n1.at fun o q => (sb.2 _ D.iz).trans q
    · exact n2.at fun o q => (sb.2 _ D.jz).trans q
    · exact n3.at fun o q => (sb.2 _ D.kz).trans q
    · have hlt : d < s.heap.objs.size := by
        have e' : d = z ∨ d = TI ∨ d = TO ∨ d = i1 ∨ d = i2 ∨ d = i3 := by simpa using hcm
        rcases e' with q | q | q | q | q | q
        · rw [q]; exact hzl
        · rw [q]; exact Heap.lt_size hTI
        · rw [q]; exact Heap.lt_size hTO
        · rw [q]; obtain ⟨_, e1, _⟩ := h1; exact Heap.lt_size e1
        · rw [q]; obtain ⟨_, e1, _⟩ := h2; exact Heap.lt_size e1
        · rw [q]; obtain ⟨_, e1, _⟩ := h3; exact Heap.lt_size e1
      rw [upd_ne (Nat.ne_of_lt hlt)]
      exact (hf d hcm).1
  done := by
    intro X hP hw hK hc i pins s σ H E I hf st hg
    subst hP hw hK
    obtain ⟨hz, hTI, ⟨x0, y0, v0, hTO⟩, h1, h2, h3⟩ := st
    obtain ⟨xs, hqx, hend⟩ := hg
    obtain ⟨its, rv, p, _⟩ := I.list hqx
    have l1 := rv.length
    have he : its.toArray[i]? = none := by simp; omega
    exact pyNext3_end (xs := its.toArray) (ys := its.toArray) (zs := its.toArray) (I.ok.hd hc) D hz hTI hTO h1 p.isList he fun h' hk => ⟨rfl, I.turnedL (t' := s.toks) (ch := [z, TI, TO, i1, i2, i3]) (fun d o hb q =>
      hk d o (fun q' => hb (by simp [q'])) (fun q' => hb (by simp [q'])) (fun q' => hb (by simp [q'])) (fun q' => hb (by simp [q'])) (fun q' => hb (by simp [q'])) q) hf⟩
  self := fun A i s Q E st h => wpAny_pyIter_zip st.1 h
def iZip3 (K : PySem.W.Frag) (ta : TA) : TI := fun σ H R => ta σ H fun vs H1 => ∃ a b c xs ys zs, vs = [.ref a, .ref b, .ref c] ∧ SqL K H1 a xs ∧ SqL K H1 b ys ∧ SqL K H1 c zs ∧ R (It3 K a b c) H1
theorem pi_zip3 {X : Cx} {e e2 e3 : Expr} {ta : TA} {p pos tpos : Pos} {elts : List Expr} {kk : Nat} (hg : Gl X "zip") (hm : X.mg "zip" = none) (ha : PA X [e, e2, e3] ta)
    (hs : starEach [e, e2, e3] X.env = (false, eval e X.env) :: starEach [e2, e3] X.env) (hpl : (backTo pos (starEach [e2, e3] X.env)).any (·.1) = false) :
    PI X (.Tuple elts kk tpos) (.Call (.Name "zip" p) [e, e2, e3] [] pos) (iZip3 X.K ta) := by
  refine ⟨fun pins s σ H R I h => ?_⟩
  refine Call_ (ld_blt I hg hm PyProof.Rows.boot_zip (PyProof.Rows.callWith_type1 (thn (ha.run pos pins s σ H _ I h) fun us s1 ⟨vs, H1, I1, r1, q1⟩ => ?_) hs hpl))
  obtain ⟨a, b, c, xs, ys, zs, ex, hqx, hqy, hqz, q⟩ := q1
  subst ex
  cases r1 with
  | cons r rr =>
    cases rr with
    | cons r' rr =>
      cases rr with
      | cons r'' rr =>
        cases rr
        cases r
        cases r'
        cases r''
        obtain ⟨it1, rv1, p1, _⟩ := I1.list hqx
        obtain ⟨it2, rv2, p2, _⟩ := I1.list hqy
        obtain ⟨it3, rv3, p3, _⟩ := I1.list hqz
        refine call3 p1.isList p2.isList p3.isList fun h' hz hTI hTO h1 h2 h3 hk => wpAny_pyIter_zip hz ?_
        have I2 : Inv X pins σ H1 { s1 with heap := h' } := I1.kept (t' := s1.toks) hk
        refine ⟨s1.heap.objs.size + 5, [s1.heap.objs.size + 5, s1.heap.objs.size + 3, s1.heap.objs.size + 4, s1.heap.objs.size, s1.heap.objs.size + 1, s1.heap.objs.size + 2], _, _, H1, rfl, I2,
          turn3 (apart3 s1.heap.objs.size a b c p1.lt p2.lt p3.lt) (fun _ _ => trivial), ⟨hz, hTI, ⟨_, _, _, hTO⟩, h1, h2, h3⟩, fun d hcm => ?_, q⟩
        have e' : d = s1.heap.objs.size + 5 ∨ d = s1.heap.objs.size + 3 ∨ d = s1.heap.objs.size + 4 ∨ d = s1.heap.objs.size ∨ d = s1.heap.objs.size + 1 ∨ d = s1.heap.objs.size + 2 := by simpa using hcm
        have hle : s1.heap.objs.size ≤ d := by
          rcases e' with z | z | z | z | z | z
          · rw [z]; exact Nat.le_add_right _ _
          · rw [z]; exact Nat.le_add_right _ _
          · rw [z]; exact Nat.le_add_right _ _
          · rw [z]; exact Nat.le_refl _
          · rw [z]; exact Nat.le_add_right _ _
          · rw [z]; exact Nat.le_add_right _ _
        exact I1.fpOk hle (I1.hok.fresh hle)
end PlZ

set_option maxHeartbeats 4000000
/-! PSoundS: sorted(set(pairs)), pairs of whole numbers of any sign. -/
namespace PlT
open PySem PyProof.Rows
def rk (M : Int) : List Int → Int
  | [x, y] => x * M + y
  | _ => 0
def Near (M : Int) (ns : List Int) : Prop := ∃ x y, ns = [x, y] ∧ -M < 2 * y ∧ 2 * y < M
theorem rk_less {M x y x' y' : Int} (h1 : -M < 2 * y) (h2 : 2 * y < M) (h3 : -M < 2 * y') (h4 : 2 * y' < M) (h : x < x') : rk M [x, y] < rk M [x', y'] := by
  show x * M + y < x' * M + y'
  have p : (x + 1) * M ≤ x' * M := Int.mul_le_mul_of_nonneg_right (by omega) (by omega)
  rw [Int.add_mul, Int.one_mul] at p
  generalize x * M = X at p ⊢
  generalize x' * M = Y at p ⊢
  omega
theorem rk_iff {M x y x' y' : Int} (h1 : -M < 2 * y) (h2 : 2 * y < M) (h3 : -M < 2 * y') (h4 : 2 * y' < M) : rk M [x, y] < rk M [x', y'] ↔ x < x' ∨ (x = x' ∧ y < y') := by
  constructor
  · intro h
    rcases Int.lt_trichotomy x x' with q | q | q
    · exact .inl q
    · subst q
      refine .inr ⟨rfl, ?_⟩
      have h' : x * M + y < x * M + y' := h
      omega
    · have := rk_less h3 h4 h1 h2 q
      omega
  · rintro (h | ⟨rfl, h⟩)
    · exact rk_less h1 h2 h3 h4 h
    · show x * M + y < x * M + y'
      omega
section
variable {prog : Program} {w : World} {A : Around} {E : Value → Shared → Prop} {s : Shared} {Q : Bool → Shared → Prop}
theorem lex2 {M : Int} {b : Bool} {xs ys : List Value} {ns ms : List Int} (hx : IntsAre xs ns) (hy : IntsAre ys ms) (h1 : Near M ns) (h2 : Near M ms) (h : Q (decide (rk M ns < rk M ms)) s) : PySem.W.KatLex prog w A b false Q (xs.zip ys) 0 s := by
  obtain ⟨x, y, rfl, a1, a2⟩ := h1
  obtain ⟨x', y', rfl, b1, b2⟩ := h2
  cases hx with
  | cons p t hx =>
    cases hx with
    | cons p2 t2 hx =>
      cases hx
      cases hy with
      | cons q u hy =>
        cases hy with
        | cons q2 u2 hy =>
          cases hy
          have key := rk_iff (x := x) (x' := x') a1 a2 b1 b2
          show PySem.W.KatLex prog w A b false Q [(Value.int x t, Value.int x' u), (Value.int y t2, Value.int y' u2)] 0 s
          refine PySem.W.kat_cons (wpAny_eqBool_int ?_)
          by_cases e : x = x'
          · subst e
            rw [beq_self_eq_true]
            refine PySem.W.kat_yes (PySem.W.kat_cons (wpAny_eqBool_int ?_))
            by_cases e2 : y = y'
            · subst e2
              rw [beq_self_eq_true]
              refine PySem.W.kat_yes (PySem.W.kat_nil ?_)
              have : decide (rk M [x, y] < rk M [x, y]) = false := decide_eq_false (Int.lt_irrefl _)
              rw [this] at h
              exact h
            · rw [show (y == y') = false from beq_eq_false_iff_ne.mpr e2]
              refine PySem.W.kat_no (TS.oneLt_ints _ ?_)
              rw [show decide (y < y') = decide (rk M [x, y] < rk M [x, y']) from decide_eq_decide.mpr ⟨fun z => key.mpr (.inr ⟨rfl, z⟩), fun z => by
                rcases key.mp z with k | k
                · exact absurd k (Int.lt_irrefl _)
                · exact k.2⟩]
              exact h
          · rw [show (x == x') = false from beq_eq_false_iff_ne.mpr e]
            refine PySem.W.kat_no (TS.oneLt_ints _ ?_)
            rw [show decide (x < x') = decide (rk M [x, y] < rk M [x', y']) from decide_eq_decide.mpr ⟨fun z => key.mpr (.inl z), fun z => by
              rcases key.mp z with k | k
              · exact k
              · exact absurd k.1 e⟩]
            exact h
end
def PairsOk (h : Heap) (M : Int) (vs : List Value) : Prop := ∀ v, v ∈ vs → ∃ ns, TS.TupInts h v ns ∧ Near M ns
theorem firsts2 {h : Heap} {M : Int} : ∀ vs : List Value, PairsOk h M vs → ∃ fs, PySem.W.KatTups h vs fs ∧ fs.length = vs.length ∧ ∀ f, f ∈ fs → ∃ n t, f = Value.int n t
  | [], _ => ⟨[], PySem.W.KatTups.nil, rfl, fun f hf => by cases hf⟩
  | v :: vs, x => by
    obtain ⟨fs, k, hl, hi⟩ := firsts2 vs fun u hu => x u (List.mem_cons_of_mem _ hu)
    obtain ⟨ns, ⟨a, xs, rfl, ⟨o, ho, hc, n, hdt⟩, i⟩, ⟨x0, y0, rfl, _⟩⟩ := x v List.mem_cons_self
    generalize hxl : xs.toList = xl at i
    cases i with
    | cons p t i2 =>
      have hy : xs[0]? = some (Value.int x0 t) := by
        have z := congrArg (fun l : List Value => l[0]?) hxl
        simpa using z
      refine ⟨Value.int x0 t :: fs, PySem.W.KatTups.cons ho hc hdt hy k, by rw [List.length_cons, List.length_cons, hl], fun f hf => ?_⟩
      rcases List.mem_cons.mp hf with rfl | hf
      · exact ⟨x0, t, rfl⟩
      · exact hi f hf
section
variable {prog : Program} {w : World} {A : Around} {E : Value → Shared → Prop} {s : Shared}
theorem kind2 {M : Int} {vs : List Value} (h2 : 2 ≤ vs.length) (x : PairsOk s.heap M vs) (r : Value → Int) (hr : ∀ v, v ∈ vs → ∀ ns, TS.TupInts s.heap v ns → r v = rk M ns) (Q : SortKind → Shared → Prop)
    (h : ∀ κ, TS.Cmp prog w A s κ (pairsOf vs) r → Q κ s) : wpAny (model prog w) A (keyKind' vs.toArray) Q E s := by
  obtain ⟨fs, k, hl, hi⟩ := firsts2 vs x
  refine PySem.W.kat_kind (T := Value.type "int") k (by omega) (fun f hf => ?_) rfl (h _ ?_)
  · obtain ⟨n, t, rfl⟩ := hi f hf
    exact PySem.W.Looks.of_pure rfl
  · intro p q hp hq Q' E' hQ
    rw [pairsOf_toList] at hp hq
    obtain ⟨ns, tp, np⟩ := x _ (mem_zip_self hp).2
    obtain ⟨ms, tq, nq⟩ := x _ (mem_zip_self hq).2
    rw [hr _ (mem_zip_self hp).2 _ tp, hr _ (mem_zip_self hq).2 _ tq] at hQ
    obtain ⟨a, xs, e1, ⟨o, ho, hc, n, hdt⟩, i⟩ := tp
    obtain ⟨a', ys, e2, ⟨o', ho', hc', n', hdt'⟩, i'⟩ := tq
    rw [e1, e2]
    refine PySem.W.kat_lt ho hdt ho' hdt' ?_
    have l1 := i.length
    have l2 := i'.length
    obtain ⟨x1, y1, rfl, _⟩ := id np
    obtain ⟨x2, y2, rfl, _⟩ := id nq
    rw [Array.length_toList] at l1 l2
    rw [show decide (xs.size < ys.size) = false from decide_eq_false (by rw [l1, l2]; exact Nat.lt_irrefl _)]
    exact lex2 i i' np nq hQ
theorem sort2 {a : Addr} {vs : List Value} {n : Nat} {M : Int} {Q : Value → Shared → Prop} (ho : s.heap.get? a = some (seqObj "list" vs.toArray n)) (h64 : vs.length < 64) (x : PairsOk s.heap M vs)
    (h : ∀ out : Array Value, out.toList.Perm vs → out.toList.Pairwise (fun u v => rk M (TS.intsOf s.heap u) ≤ rk M (TS.intsOf s.heap v)) → Q .none { s with heap := sortedHeap s.heap a vs out }) :
    wpAny (model prog w) A (call (.builtin "list.sort") [.ref a]) Q E s := by
  have keep : ∀ b o, s.heap.get? b = some o → o.cls = .type "tuple" → (TS.midHeap s.heap a vs).get? b = some o := fun b o e hc => by
    refine TS.midHeap_old (fun z => ?_) e
    subst z
    rw [ho] at e
    rw [← Option.some.inj e] at hc
    have c' : Value.type "list" = Value.type "tuple" := hc
    injection c' with c''
    exact absurd c'' (by decide)
  refine wpAny_call_entry slot_list_sort ⟨_, ho, rfl⟩ entry_list_sort (SK.plain_sort (r := fun v => rk M (TS.intsOf s.heap v)) ho h64 (fun h2 Q hQ => ?_) fun ps out h1 h2 h3 => ?_) (args_list_sort _)
  · refine kind2 (s := { s with heap := TS.midHeap s.heap a vs }) (M := M) h2 (fun v hv => let ⟨ns, t, r⟩ := x v hv; ⟨ns, t.keeps keep, r⟩) _ (fun v hv ns t => ?_) Q hQ
    obtain ⟨ns0, t0, _⟩ := x v hv
    show rk M (TS.intsOf s.heap v) = rk M ns
    rw [t0.ints, ← (t0.keeps keep).ints, t.ints]
  · obtain ⟨p, o⟩ := TS.out_rank (r := fun v => rk M (TS.intsOf s.heap v)) h1 h2 h3
    exact ⟨_, rfl, h out p o⟩
end
end PlT
namespace PlT
open PySem PySem.Spec PyProof.Rows L2
section
variable {P : Program} {w : World} {A : Around} {E : Value → Shared → Prop} {s : Shared}
/-- values that are the addresses of rows, in some order -/
theorem rows_at {L : List (Addr × List Int)} : ∀ {vs : List Value}, (∀ v ∈ vs, ∃ q ∈ L, v = Value.ref q.1) → ∃ L1 : List (Addr × List Int), vs = L1.map (fun q => Value.ref q.1) ∧ ∀ q ∈ L1, q ∈ L
  | [], _ => ⟨[], rfl, fun q hq => by cases hq⟩
  | v :: vs, h => by
    obtain ⟨q, hq, e⟩ := h v List.mem_cons_self
    obtain ⟨L1, e1, hs⟩ := rows_at (vs := vs) fun u hu => h u (List.mem_cons_of_mem _ hu)
    refine ⟨q :: L1, by rw [List.map_cons, e, e1], fun r hr => ?_⟩
    rcases List.mem_cons.mp hr with z | z
    · rw [z]; exact hq
    · exact hs r z
theorem sortedSet {a : Addr} {L : List (Addr × List Int)} {es : Array (Int × Value)} {ep : Nat} {t : SetTable} {Q : Value → Shared → Prop} (R : SetTR P w s.heap a L es ep t) (hh : A.handled = none)
    {M : Int} (hB : ∀ p ∈ L, Near M p.2)
    (hQ : ∀ s' p (out : Array Value) (c : Nat) (L' : List (Addr × List Int)), (∀ b o, s.heap.get? b = some o → s'.heap.get? b = some o) → s'.gens = s.gens → s'.os = s.os → s.heap.objs.size ≤ p →
      s'.heap.get? p = some (seqObj "list" out c) → out.toList = L'.map (fun q => Value.ref q.1) → L'.Perm L → L'.Pairwise (fun q r => rk M q.2 ≤ rk M r.2) → Q (.ref p) s') :
    wpAny (model P w) A (call (.builtin "sorted") [.ref a]) Q E s := by
  obtain ⟨o, ho, hex, hd⟩ := R.ob
  have hfew := R.few
  refine Calls.call_function_entry kind_sorted plain_sorted entry_sorted (args_sorted1 _) ?_
  unfold Builtin.«sorted»
  refine wpAny_bind (m := checkCount "sorted" 1 1 _) (wpAny_pure ?_)
  refine wpAny_bind (collect_set (A := A.in1) hh ⟨o, ho, hex.1, hd⟩ R.fits (by have := R.size; unfold scanBound; omega) R.tab.ris R.led fun s1 vs k1 hz g1 o1 pm => ?_)
  have hes : es.toList.map (·.2) = L.map fun q => Value.ref q.1 := by
    rw [R.rows]
    unfold rowsOf
    rw [List.map_map] <;> rfl
  rw [hes] at pm
  have one : ∀ q ∈ L, ∀ r ∈ L, q.1 = r.1 → q = r := fun q hq r hr e => by
    have a1 := R.tup q hq
    rw [e] at a1
    exact Prod.ext e (a1.inj (R.tup r hr))
  have nL : L.Nodup := nodup_of_map R.nd
  have nref : (L.map fun q => Value.ref q.1).Nodup := by
    refine List.pairwise_map.mpr (List.Pairwise.imp_of_mem (fun {q r} hq hr hne e => ?_) nL)
    injection e with e
    exact hne (one q hq r hr e)
  have perm_of : ∀ L1 : List (Addr × List Int), (∀ q ∈ L1, q ∈ L) → (L1.map (fun q => Value.ref q.1)).Perm (L.map fun q => Value.ref q.1) → L1.Perm L := fun L1 hs pm1 => by
    refine (List.perm_ext_iff_of_nodup (nodup_of_map (pm1.nodup_iff.mpr nref)) nL).mpr fun q => ⟨hs q, fun hq => ?_⟩
    obtain ⟨r, hr, e⟩ := List.mem_map.mp (pm1.mem_iff.mpr (List.mem_map.mpr ⟨q, hq, rfl⟩))
    injection e with e
    rw [← one r (hs r hr) q hq e]
    exact hr
  have hvl : vs.length < 64 := by rw [pm.length_eq, List.length_map]; exact hfew
  refine wpAny_bind (wpAny_newList ?_ (by rw [sizeLine_eq]; omega))
  have hoL : (s1.heap.push (seqObj "list" vs.toArray 0)).get? s1.heap.objs.size = some (seqObj "list" vs.toArray 0) := Heap.get?_push_size _ rfl
  have tk : ∀ q ∈ L, TS.TupInts (s1.heap.push (seqObj "list" vs.toArray 0)) (.ref q.1) q.2 := fun q hq => tupInts_of (P := P) (w := w) (isT_keep (R.tup q hq) fun b u e => Heap.get?_push_of_some _ (k1 b u e))
  have x : PairsOk (s1.heap.push (seqObj "list" vs.toArray 0)) M vs := fun v hv => by
    obtain ⟨q, hq, e⟩ := List.mem_map.mp (pm.mem_iff.mp hv)
    exact ⟨q.2, e ▸ tk q hq, hB q hq⟩
  refine wpAny_bind (wpAny_holding (sort2 (s := { s1 with heap := s1.heap.push (seqObj "list" vs.toArray 0) }) hoL hvl x fun out a1 a2 => ?_))
  obtain ⟨c, hc⟩ := sortedHeap_at (vs := vs) (out := out) hoL
  obtain ⟨L', e', hs'⟩ := rows_at (L := L) (vs := out.toList) fun v hv => by
    obtain ⟨q, hq, e⟩ := List.mem_map.mp (pm.mem_iff.mp (a1.mem_iff.mp hv))
    exact ⟨q, hq, e.symm⟩
  have pL : L'.Perm L := perm_of L' hs' (by rw [← e']; exact a1.trans pm)
  have pw : L'.Pairwise (fun q r => rk M q.2 ≤ rk M r.2) := by
    rw [e'] at a2
    refine List.Pairwise.imp_of_mem (fun {q r} hq hr hle => ?_) (List.pairwise_map.mp a2)
    have f1 : TS.intsOf (s1.heap.push (seqObj "list" vs.toArray 0)) (.ref q.1) = q.2 := (tk q (hs' q hq)).ints
    have f2 : TS.intsOf (s1.heap.push (seqObj "list" vs.toArray 0)) (.ref r.1) = r.2 := (tk r (hs' r hr)).ints
    rw [← f1, ← f2]
    exact hle
  refine wpAny_pure ⟨_, rfl, hQ _ s1.heap.objs.size out c L' (fun b u e => ?_) g1 o1 hz hc e' pL pw⟩
  have q := k1 b u e
  have hlt := Heap.lt_size q
  show (sortedHeap (s1.heap.push (seqObj "list" vs.toArray 0)) s1.heap.objs.size vs out).get? b = some u
  rw [sortedHeap_old (Nat.ne_of_lt hlt) (by rw [size_push']; exact Nat.lt_succ_of_lt hlt)]
  exact Heap.get?_push_of_some _ q
end
section
variable {X : Cx}
/-- sorted(set), pairs of whole numbers -/
def rSorted2 (K : PySem.W.Frag) (P : Program) (w : World) : List V → Hp → VK → Prop := fun vs H Q => ∃ (a : Addr) (L : List (Addr × List Int)) (M : Int), vs = [V.ref a] ∧ H a = some (SetTO P w a L) ∧ (∀ p ∈ L, SqT K H p.1 (p.2.map V.int)) ∧
  (∀ p ∈ L, Near M p.2) ∧
  ∀ (L' : List (Addr × List Int)) (p : Addr), L'.Perm L → (L'.map (·.2)).Nodup → L'.Pairwise (fun q r => rk M q.2 ≤ rk M r.2) → H p = none → Q (.ref p) (upd H p (.lst (L'.map fun q => V.ref q.1)))
theorem cr_sorted2 (hc : X.calm = true) : CallR X (.builtin "sorted") (rSorted2 X.K X.prog X.w) := by
  intro pins s σ H vs us Q I r h
  obtain ⟨a, L, M, rfl, ha, hk, hB, q⟩ := h
  have R0 : SetT0 X.prog X.w s.heap a L := (I.hok a _ ha).1
  obtain ⟨es, ep, t, R⟩ := R0.full fun p hp => I.isT (hk p hp)
  rw [Vals.ref1 r]
  refine sortedSet R (I.ok.hd hc) hB fun s' p out c L' k g o hp hg hout pm pw => ?_
  have hfew : L'.length < 64 := by rw [pm.length_eq]; exact R.few
  have hlen : (L'.map fun q => V.ref q.1).length ≤ sizeLine := by rw [List.length_map, sizeLine_eq]; omega
  have hn : H p = none := I.hok.fresh hp
  have hv : Vals (L'.map fun q => V.ref q.1) out.toList := by rw [hout]; exact vals_of_refs L'
  have J : Inv X pins σ (upd H p (.lst (L'.map fun q => V.ref q.1))) { s with heap := s'.heap, gens := s'.gens, drawn := s'.drawn, toks := s'.toks } :=
    I.call (ch := []) (Un.laid k hp hn) (I.hok.laid k hp ⟨hlen, out.toList, c, hv, hg⟩) (by rw [g]; exact I.bare) (fun _ z => nomatch z)
  have e : s' = { s with heap := s'.heap, gens := s'.gens, drawn := s'.drawn, toks := s'.toks } := by
    cases s'
    cases s
    cases o
    rfl
  rw [e]
  exact ⟨.ref p, _, J, rfl, q L' p pm ((pm.map (·.2)).nodup_iff.mpr R.nd) pw hn⟩
end
end PlT

/-! PSoundT: zip over three lists, sorted(set(pairs)). -/
namespace Pl
open PySem
open L2 (V Hp HO St VK TE TT TA TS TI TG Cx PE PT PW PA PS PSs PI PG Inv SqL SqT upd upd_same upd_ne OpR UnR CallR R2 Vals RelV EP Gl Vis It)
variable [Tabl]
theorem zipL3_get : ∀ {xs ys zs : List D} {i : Nat} {d : D}, (zipL3 xs ys zs)[i]? = some d → ∃ x y z, xs[i]? = some x ∧ ys[i]? = some y ∧ zs[i]? = some z ∧ d = .tuple [x, y, z]
  | [], _, _, _, _, h => by simp [zipL3] at h
  | _ :: _, [], _, _, _, h => by simp [zipL3] at h
  | _ :: _, _ :: _, [], _, _, h => by simp [zipL3] at h
  | x :: xs, y :: ys, z :: zs, 0, d, h => by simp [zipL3] at h; exact ⟨x, y, z, rfl, rfl, rfl, h.symm⟩
  | x :: xs, y :: ys, z :: zs, i + 1, d, h => by
    simp only [zipL3, List.getElem?_cons_succ] at h
    obtain ⟨a, b, c, h1, h2, h3, h4⟩ := zipL3_get h
    exact ⟨a, b, c, by simpa using h1, by simpa using h2, by simpa using h3, h4⟩
theorem zipL3_len : ∀ (xs ys zs : List D), xs.length ≤ ys.length → xs.length ≤ zs.length → (zipL3 xs ys zs).length = xs.length
  | [], _, _, _, _ => by simp [zipL3]
  | _ :: _, [], _, h, _ => by simp at h
  | _ :: _, _ :: _, [], _, h => by simp at h
  | _ :: xs, _ :: ys, _ :: zs, h1, h2 => by simp only [zipL3, List.length_cons]; rw [zipL3_len xs ys zs (by simpa using h1) (by simpa using h2)]
theorem feeds_zip3 {K : PySem.W.Frag} {F : Hp} {q r t : Addr} {xs ys zs : List V} {ds es fs : List D} (h : SqL K F q xs) (r1 : DpAll K F xs ds) (h' : SqL K F r ys) (r2 : DpAll K F ys es) (h'' : SqL K F t zs) (r3 : DpAll K F zs fs)
    (l1 : ds.length ≤ es.length) (l2 : ds.length ≤ fs.length) : Feeds K F (PlZ.It3 K q r t) (zipL3 ds es fs) := fun F2 H s1 s2 i => by
  have hq := sqL_sub s2 (sqL_sub s1 h)
  have hr := sqL_sub s2 (sqL_sub s1 h')
  have ht := sqL_sub s2 (sqL_sub s1 h'')
  refine ⟨fun d hd => ?_, fun hl => ⟨xs, hq, by rw [dpAll_len r1]; rw [zipL3_len _ _ _ l1 l2] at hl; exact hl⟩⟩
  obtain ⟨z, z', z'', hz, hz', hz'', rfl⟩ := zipL3_get hd
  obtain ⟨v, h1, h2⟩ := dpAll_get r1 hz
  obtain ⟨v', h3, h4⟩ := dpAll_get r2 hz'
  obtain ⟨v'', h5, h6⟩ := dpAll_get r3 hz''
  refine ⟨⟨xs, ys, zs, v, v', v'', hq, hr, ht, h1, h3, h5⟩, fun y H' hy => ?_⟩
  obtain ⟨T, w, w', w'', rfl, hT, e, hy, hy', hy''⟩ := hy
  subst e
  have e1 := hy xs hq
  rw [h1] at e1
  cases e1
  have e2 := hy' ys hr
  rw [h3] at e2
  cases e2
  have e3 := hy'' zs ht
  rw [h5] at e3
  cases e3
  have sF := s1.trans (sub_new (o := .tup [v, v', v'']) (s2.free hT))
  exact ⟨upd F2 T (.tup [v, v', v'']), ext_newF hT, sub_newF s2, .tup (.inl (.inl upd_same)) (.cons (dp_sub sF _ _ h2) (.cons (dp_sub sF _ _ h4) (.cons (dp_sub sF _ _ h6) .nil)))⟩
theorem dpAll3 {K : PySem.W.Frag} {F : Hp} {vs : List V} {d e f : D} (h : DpAll K F vs [d, e, f]) : ∃ v w x, vs = [v, w, x] ∧ Dp K F v d ∧ Dp K F w e ∧ Dp K F x f := by
  cases h with
  | cons a t => cases t with | cons b t => cases t with | cons c t => cases t; exact ⟨_, _, _, rfl, a, b, c⟩
section
variable {X : Cx} {C : Ctx} {ff : String → Bool} {au : Option Addr} {e a b c : Expr} {es : List Expr} {p pa pb pc : E} {ps : Es} {pos : Pos} {x : Str} {pos2 : Pos}
theorem simI_zip3 {elts : List Expr} {kk : Nat} {tpos : Pos} (hg : Gl X "zip") (hm : X.mg "zip" = none) (ha : SimA X C au [a, b, c] (.cons pa (.cons pb (.cons pc .nil))))
    (hs : starEach [a, b, c] X.env = (false, eval a X.env) :: starEach [b, c] X.env) (hpl : (backTo pos (starEach [b, c] X.env)).any (·.1) = false) : SimI X C au (.Tuple elts kk tpos) (.Call (.Name "zip" pos2) [a, b, c] [] pos) (.zip3 pa pb pc) :=
  ⟨L2.PI.imp (PlZ.pi_zip3 hg hm ha.t hs hpl) fun σ H Q ⟨F, env, u, ds, u', A, ev, k⟩ => by
    simp only [evalI] at ev
    obtain ⟨⟨d, u1⟩, e1, ev⟩ := Option.bind_eq_some_iff.mp ev
    obtain ⟨⟨d', u2⟩, e2, ev⟩ := Option.bind_eq_some_iff.mp ev
    obtain ⟨⟨d'', u3⟩, e3, ev⟩ := Option.bind_eq_some_iff.mp ev
    obtain ⟨xs, e4, ev⟩ := Option.bind_eq_some_iff.mp ev
    cases ev
    simp only at e2 e3 e4
    refine ⟨F, env, u, [d, d', d''], u3, by simpa [fvEs, fvI] using A, by simp [evalEs, e1, e2, e3], fun vs F1 H1 P1 r1 => ?_⟩
    obtain ⟨v, w, z, rfl, hv, hw, hz⟩ := dpAll3 r1
    unfold zipD3 at e4
    split at e4 <;> first | contradiction | skip
    split at e4 <;> first | contradiction | skip
    rename_i hl
    cases e4
    obtain ⟨q, vs, rfl, h1, h2⟩ := dp_list hv
    obtain ⟨r, ws, rfl, h3, h4⟩ := dp_list hw
    obtain ⟨t, zs, rfl, h5, h6⟩ := dp_list hz
    exact ⟨q, r, t, vs, ws, zs, rfl, sqL_sub P1.sub h1, sqL_sub P1.sub h3, sqL_sub P1.sub h5, k _ F1 H1 P1 (feeds_zip3 h1 h2 h3 h4 h5 h6 hl.1 hl.2) (fun h => nomatch h)⟩⟩
end

/-! ### sorted(set(pairs)) -/
def pr2 (p : Int × Int) : List Int := [p.1, p.2]
theorem ks_of {K : PySem.W.Frag} {F : Hp} : ∀ {xs : List D} {vs : List V} {ps : List (Int × Int)}, DpAll K F vs xs → pairsOf xs = some ps →
    ∃ ks : List (Addr × List Int), vs = ks.map (fun p => V.ref p.1) ∧ (∀ p ∈ ks, SqT K F p.1 (p.2.map V.int)) ∧ ks.map (·.2) = ps.map pr2
  | [], _, ps, .nil, h => by
    simp only [pairsOf, Option.some.injEq] at h
    subst h
    exact ⟨[], rfl, fun p hp => (by cases hp), rfl⟩
  | d :: xs, _, ps, .cons a t, h => by
    unfold pairsOf at h
    split at h <;> first | contradiction | skip
    rename_i x y r heq
    cases heq
    rw [Option.map_eq_some_iff] at h
    obtain ⟨qs, h, rfl⟩ := h
    obtain ⟨ks, e1, e2, e3⟩ := ks_of t h
    obtain ⟨b, ws, rfl, h1, h2⟩ := dp_tuple a
    obtain ⟨v, w, rfl, hv, hw⟩ := dpAll2 h2
    obtain rfl := dp_int hv
    obtain rfl := dp_int hw
    refine ⟨(b, [x, y]) :: ks, by rw [e1]; rfl, fun p hp => ?_, by rw [List.map_cons, e3]; rfl⟩
    rcases List.mem_cons.mp hp with rfl | hp
    · exact h1
    · exact e2 p hp
theorem ltP_iff {p q : Int × Int} : ltP p q = true ↔ p.1 < q.1 ∨ (p.1 = q.1 ∧ p.2 < q.2) := by unfold ltP; exact decide_eq_true_iff
theorem ltP_trans {p q r : Int × Int} (h : ltP p q = true) (k : ltP q r = true) : ltP p r = true := by
  rw [ltP_iff] at *
  omega
theorem ltP_irr {p : Int × Int} (h : ltP p p = true) : False := by
  rw [ltP_iff] at h
  omega
theorem ltP_tri {p q : Int × Int} (h : ¬ ltP p q = true) (k : p ≠ q) : ltP q p = true := by
  rw [ltP_iff] at *
  have : ¬ (p.1 = q.1 ∧ p.2 = q.2) := fun z => k (Prod.ext z.1 z.2)
  omega
theorem insP_mem {p x : Int × Int} : ∀ {l : List (Int × Int)}, x ∈ insP p l ↔ x = p ∨ x ∈ l
  | [] => by simp [insP]
  | q :: r => by
    unfold insP
    split
    · simp
    · split
      · rename_i e; subst e; simp
      · rw [List.mem_cons, insP_mem, List.mem_cons]
        constructor
        · rintro (h | h | h)
          · exact .inr (.inl h)
          · exact .inl h
          · exact .inr (.inr h)
        · rintro (h | h | h)
          · exact .inr (.inl h)
          · exact .inl h
          · exact .inr (.inr h)
theorem insP_sorted {p : Int × Int} : ∀ {l : List (Int × Int)}, l.Pairwise (fun a b => ltP a b = true) → (insP p l).Pairwise (fun a b => ltP a b = true)
  | [], _ => by simp [insP]
  | q :: r, h => by
    unfold insP
    have h' := h
    rw [List.pairwise_cons] at h
    split
    · rename_i hl
      refine List.pairwise_cons.mpr ⟨fun x hx => ?_, h'⟩
      rcases List.mem_cons.mp hx with rfl | hx
      · exact hl
      · exact ltP_trans hl (h.1 x hx)
    · rename_i hl
      split
      · exact h'
      · rename_i hne
        refine List.pairwise_cons.mpr ⟨fun x hx => ?_, insP_sorted h.2⟩
        rcases insP_mem.mp hx with rfl | hx
        · exact ltP_tri hl hne
        · exact h.1 x hx
theorem sortP_mem {x : Int × Int} : ∀ {l : List (Int × Int)}, x ∈ sortP l ↔ x ∈ l
  | [] => by simp [sortP]
  | p :: l => by
    show x ∈ insP p (sortP l) ↔ _
    rw [insP_mem, sortP_mem, List.mem_cons]
theorem sortP_sorted : ∀ (l : List (Int × Int)), (sortP l).Pairwise (fun a b => ltP a b = true)
  | [] => .nil
  | p :: l => insP_sorted (sortP_sorted l)
theorem sorted_one : ∀ {l m : List (Int × Int)}, l.Pairwise (fun a b => ltP a b = true) → m.Pairwise (fun a b => ltP a b = true) → (∀ x, x ∈ l ↔ x ∈ m) → l = m
  | [], [], _, _, _ => rfl
  | [], q :: m, _, _, h => absurd ((h q).mpr List.mem_cons_self) (by simp)
  | p :: l, [], _, _, h => absurd ((h p).mp List.mem_cons_self) (by simp)
  | p :: l, q :: m, h1, h2, h => by
    rw [List.pairwise_cons] at h1 h2
    have e : p = q := by
      rcases List.mem_cons.mp ((h p).mp List.mem_cons_self) with e | e
      · exact e
      · rcases List.mem_cons.mp ((h q).mpr List.mem_cons_self) with e' | e'
        · exact e'.symm
        · exact absurd (ltP_trans (h2.1 p e) (h1.1 q e')) fun z => ltP_irr z
    subst e
    rw [sorted_one h1.2 h2.2 fun x => ?_]
    constructor
    · intro hx
      rcases List.mem_cons.mp ((h x).mp (List.mem_cons_of_mem _ hx)) with e | e
      · subst e; exact absurd (h1.1 x hx) fun z => ltP_irr z
      · exact e
    · intro hx
      rcases List.mem_cons.mp ((h x).mpr (List.mem_cons_of_mem _ hx)) with e | e
      · subst e; exact absurd (h2.1 x hx) fun z => ltP_irr z
      · exact e
def wide (ps : List (Int × Int)) : Nat := ps.foldr (fun p s => p.2.natAbs + s) 0
theorem wide_le : ∀ {ps : List (Int × Int)} {p : Int × Int}, p ∈ ps → p.2.natAbs ≤ wide ps
  | q :: ps, p, h => by
    show _ ≤ q.2.natAbs + wide ps
    rcases List.mem_cons.mp h with rfl | h
    · omega
    · have := wide_le h; omega
theorem near_of {ps : List (Int × Int)} {p : Int × Int} (h : p ∈ ps) : -(2 * (wide ps : Int) + 1) < 2 * p.2 ∧ 2 * p.2 < 2 * (wide ps : Int) + 1 := by
  have := wide_le h
  omega
theorem sortP_of {ks L' : List (Addr × List Int)} {ps : List (Int × Int)} (hk : ks.map (·.2) = ps.map pr2) (h1 : ∀ p ∈ L', p ∈ ks) (h2 : ∀ p ∈ ks, p.2 ∈ L'.map (·.2)) (hn : (L'.map (·.2)).Nodup)
    (hp : L'.Pairwise (fun q r => PlT.rk (2 * (wide ps : Int) + 1) q.2 ≤ PlT.rk (2 * (wide ps : Int) + 1) r.2)) : L'.map (·.2) = (sortP ps).map pr2 := by
  have hm : ∀ p ∈ L', ∃ q ∈ ps, p.2 = pr2 q := fun p hp => by
    have : p.2 ∈ ks.map (·.2) := List.mem_map.mpr ⟨p, h1 p hp, rfl⟩
    rw [hk] at this
    obtain ⟨q, hq, e⟩ := List.mem_map.mp this
    exact ⟨q, hq, e.symm⟩
  have key : ∀ {A : List (Addr × List Int)}, (∀ p ∈ A, ∃ q ∈ ps, p.2 = pr2 q) → ∃ B : List (Int × Int), A.map (·.2) = B.map pr2 ∧ ∀ q ∈ B, q ∈ ps := fun {A} => by
    induction A with
    | nil => intro _; exact ⟨[], rfl, fun q hq => (by cases hq)⟩
    | cons p A ih =>
      intro h
      obtain ⟨q, hq, e⟩ := h p List.mem_cons_self
      obtain ⟨B, e1, e2⟩ := ih fun r hr => h r (List.mem_cons_of_mem _ hr)
      refine ⟨q :: B, by rw [List.map_cons, List.map_cons, e1, e], fun r hr => ?_⟩
      rcases List.mem_cons.mp hr with rfl | hr
      · exact hq
      · exact e2 r hr
  obtain ⟨B, e1, e2⟩ := key hm
  have inj : ∀ {p q : Int × Int}, pr2 p = pr2 q → p = q := fun {p q} h => by
    unfold pr2 at h
    simp only [List.cons.injEq, and_true] at h
    exact Prod.ext h.1 h.2
  rw [e1]
  refine congrArg (List.map pr2) (sorted_one ?_ (sortP_sorted ps) fun x => ?_)
  · have n1 : B.Nodup := by
      rw [e1] at hn
      exact (List.pairwise_map.mp hn).imp fun {a b} h e => h (by rw [e])
    have p1 : (B.map pr2).Pairwise (fun a b => PlT.rk (2 * (wide ps : Int) + 1) a ≤ PlT.rk (2 * (wide ps : Int) + 1) b) := by
      rw [← e1]
      exact List.pairwise_map.mpr hp
    have p2 := List.pairwise_map.mp p1
    refine List.Pairwise.imp_of_mem (fun {a b} ha hb h => ?_) (p2.and n1)
    obtain ⟨h, hne⟩ := h
    have na := near_of (e2 a ha)
    have nb := near_of (e2 b hb)
    by_cases hl : ltP a b = true
    · exact hl
    · have := ltP_tri hl hne
      rw [ltP_iff] at this
      have := (PlT.rk_iff (M := 2 * (wide ps : Int) + 1) nb.1 nb.2 na.1 na.2).mpr this
      exact absurd h (Int.not_le.mpr this)
  · rw [sortP_mem]
    constructor
    · exact e2 x
    · intro hx
      have : pr2 x ∈ ks.map (·.2) := by rw [hk]; exact List.mem_map.mpr ⟨x, hx, rfl⟩
      obtain ⟨p, hp, e⟩ := List.mem_map.mp this
      have := h2 p hp
      rw [e1] at this
      obtain ⟨q, hq, e'⟩ := List.mem_map.mp this
      have e3 : pr2 q = pr2 x := by rw [e']; exact e
      rw [← inj e3]
      exact hq
theorem dpAll_keys {K : PySem.W.Frag} {F : Hp} : ∀ {L : List (Addr × List Int)} {ps : List (Int × Int)}, L.map (·.2) = ps.map pr2 → (∀ p ∈ L, SqT K F p.1 (p.2.map V.int)) → DpAll K F (L.map fun q => V.ref q.1) (ps.map fun p => .tuple [.int p.1, .int p.2])
  | [], [], _, _ => .nil
  | [], _ :: _, h, _ => by simp at h
  | _ :: _, [], h, _ => by simp at h
  | q :: L, p :: ps, h, hs => by
    rw [List.map_cons, List.map_cons, List.cons.injEq] at h
    have h1 := hs q List.mem_cons_self
    rw [h.1] at h1
    exact .cons (.tup h1 (.cons (.int _) (.cons (.int _) .nil))) (dpAll_keys h.2 fun p hp => hs p (List.mem_cons_of_mem _ hp))
section
variable {X : Cx} {C : Ctx} {ff : String → Bool} {au : Option Addr} {a : Expr} {pa : E} {pos pos2 pos3 pos4 : Pos}
theorem sim_sortedSet (hc : X.calm = true) (hu : X.A.units + 64 < cLine) (hg : Gl X "sorted") (hm : X.mg "sorted" = none) (hgr : Gl X "set") (hmr : X.mg "set" = none) (ha : Sim X C ff au a pa)
    (hs : starEach [a] X.env = (false, eval a X.env) :: starEach [] X.env) :
    Sim X C ff au (.Call (.Name "sorted" pos2) [.Call (.Name "set" pos3) [a] [] pos4] [] pos) (.bi .sortedSet (.cons pa .nil)) :=
  ⟨(L2.pe_callB (PlT.cr_sorted2 hc) hg hm (by decide +kernel) (L2.pa_cons (L2.pe_callTy (L2.cr_setOfT hc hu) hgr hmr (by decide +kernel) (L2.pa_cons ha.pl L2.pa_nil hs) (by decide) (by decide) hs rfl) L2.pa_nil rfl) (by decide) (by decide) rfl rfl).imp fun σ H Q ⟨F, env, u, d, u', A, ev, k⟩ => by
    simp only [evalE, evalEs] at ev
    obtain ⟨⟨ds, u1⟩, e1, ev⟩ := Option.bind_eq_some_iff.mp ev
    obtain ⟨⟨da, u2⟩, e2, e3⟩ := Option.bind_eq_some_iff.mp e1
    simp only [Option.bind_some, Option.some.injEq, Prod.mk.injEq] at e3
    obtain ⟨rfl, rfl⟩ := e3
    obtain ⟨d0, e4, ev⟩ := Option.bind_eq_some_iff.mp ev
    cases ev
    cases da <;> simp only [biV] at e4 <;> first | contradiction | skip
    split at e4 <;> first | contradiction | skip
    rename_i xs hl
    rw [Option.map_eq_some_iff] at e4
    obtain ⟨ps, hps, rfl⟩ := e4
    refine ⟨F, env, u, _, _, by simpa [fvE, fvEs] using A, e2, fun v F1 H1 P1 r1 => ?_⟩
    obtain ⟨l, vs, rfl, h1, h2⟩ := dp_list r1
    obtain ⟨ks, q1, q2, q3⟩ := ks_of h2 hps
    subst q1
    have hlen : ks.length < 64 := by
      have := dpAll_len h2
      rw [List.length_map] at this
      omega
    refine ⟨l, ks, rfl, sqL_sub P1.sub h1, fun p hp => sqT_sub P1.sub (q2 p hp), hlen, fun s L hs1 hL1 hL2 => ?_⟩
    have hneL : ∀ p ∈ L, PlT.Near (2 * (wide ps : Int) + 1) p.2 := fun p hp => by
      have : p.2 ∈ ks.map (·.2) := List.mem_map.mpr ⟨p, hL1 p hp, rfl⟩
      rw [q3] at this
      obtain ⟨q, hq, e⟩ := List.mem_map.mp this
      exact ⟨q.1, q.2, e.symm, near_of hq⟩
    have sb : Sub H1 (upd H1 s (L2.SetTO X.prog X.w s L)) := sub_new hs1
    refine ⟨s, L, _, rfl, upd_same, fun p hp => sqT_sub sb (sqT_sub P1.sub (q2 p (hL1 p hp))), hneL, fun L' p pm nd pw hp => ?_⟩
    have hL1' : ∀ q ∈ L', q ∈ ks := fun q hq => hL1 q (pm.mem_iff.mp hq)
    have hkeys := sortP_of q3 hL1' (fun q hq => by
      have := hL2 q hq
      obtain ⟨r, hr, e⟩ := List.mem_map.mp this
      exact List.mem_map.mpr ⟨r, pm.mem_iff.mpr hr, e⟩) nd pw
    have hps : p ≠ s := fun z => by rw [z, upd_same] at hp; cases hp
    have hp1 : H1 p = none := by rw [upd_ne hps] at hp; exact hp
    refine ans_of P1 k _ F1 _ ((ext_newH hs1).trans (ext_newH hp)) (sub_newH (sub_newH P1.sub hs1) hp) ⟨p, _, rfl, hp1, P1.sub.free hp1, upd_same, dpAll_keys hkeys fun q hq => q2 q (hL1' q hq)⟩⟩
end
end Pl

/-! PSound6: targets, comprehensions. -/
namespace Pl
open PySem
open L2 (V Hp HO St VK TE TT TA TS TI TG TGs Cx PE PT PW PA PS PSs PI PG PGs Inv SqL SqT upd upd_same upd_ne OpR UnR CallR R2 Vals RelV EP Gl Vis It)
variable [Tabl]

def setMany : List Nat → List V → St → St
  | i :: is, v :: vs, σ => setMany is vs (σ.set i (some v))
  | _, _, σ => σ
def wpG (K : PySem.W.Frag) : Tg → TG
  | .one i => fun v σ H Q => Q (σ.set i (some v)) H
  | .many is => fun v σ H Q => ∃ a xs, v = .ref a ∧ SqT K H a xs ∧ xs.length = is.length ∧ Q (setMany is xs σ) H
def gMany : List Nat → TGs
  | [] => L2.gNil
  | i :: is => L2.gCons (L2.gName i) (gMany is)
def tgIx : Tg → List Nat
  | .one i => [i]
  | .many is => is
structure SimG (X : Cx) (tg : Expr) (t : Tg) : Prop where
  t : PG X tg (wpG X.K t)
section
variable {X : Cx}
theorem _root_.L2.PG.imp {tg : Expr} {t t' : TG} (h : PG X tg t) (k : ∀ v σ H Q, t' v σ H Q → t v σ H Q) : PG X tg t' := ⟨fun pins s σ H v u Q I r hw => h.run pins s σ H v u Q I r (k _ _ _ _ hw)⟩
theorem gMany_of : ∀ (is : List Nat) (xs : List V) (σ : St) (H : Hp) (Q : St → Hp → Prop), xs.length = is.length → Q (setMany is xs σ) H → gMany is xs σ H Q
  | [], [], _, _, _, _, q => ⟨rfl, q⟩
  | [], _ :: _, _, _, _, h, _ => by simp at h
  | _ :: _, [], _, _, _, h, _ => by simp at h
  | i :: is, v :: vs, σ, H, Q, h, q => ⟨v, vs, rfl, gMany_of is vs _ H Q (by simpa using h) q⟩
theorem simG_one {x : Str} {i : Nat} {pos : Pos} (h : PG X (.Name x pos) (L2.gName i)) : SimG X (.Name x pos) (.one i) := ⟨h⟩
theorem simG_many {es : List Expr} {is : List Nat} {k : Nat} {pos : Pos} (hc : X.calm = true) (h : PGs X es (gMany is)) (hn : (assignEach es X.env).length = is.length) (hst : (assignEach es X.env).findIdx? (·.1) = none) : SimG X (.Tuple es k pos) (.many is) :=
  ⟨L2.PG.imp (L2.pg_tup hc h hn hst) fun v σ H Q ⟨a, xs, e, hq, hl, q⟩ => ⟨a, xs, e, hq, hl, gMany_of is xs σ H Q hl q⟩⟩
end
section
variable {K : PySem.W.Frag} {au : Option Addr} {σ : St} {H F : Hp} {env : Env} {u : U} {is js : List Nat}
theorem getV_set_ne {env : Env} {i j : Nat} {s : Slot} (h : i ≠ j) : getV (env.set i s) j = getV env j := by unfold getV; rw [List.getElem?_set_ne h]
theorem At.set {i : Nat} {v : V} {d : D} (A : At K au σ H F env u is) (r : Dp K F v d) (h0 : au.isSome = true → i ≠ 0) : At K au (σ.set i (some v)) H F (env.set i (.imm d)) u is := by
  refine ⟨A.sub, A.urn, A.tab, fun a ha => ?_, by rw [List.length_set, List.length_set]; exact A.len, fun j hj d' hd => ?_⟩
  · rw [List.getElem?_set_ne (h0 (by rw [ha]; rfl))]
    exact A.s0 a ha
  · by_cases e : i = j
    · subst e
      by_cases hl : i < env.length
      · unfold getV at hd
        rw [List.getElem?_set_self hl] at hd
        cases hd
        exact ⟨v, by rw [List.getElem?_set_self (by rw [← A.len]; exact hl)], r⟩
      · unfold getV at hd
        rw [List.getElem?_eq_none (by rw [List.length_set]; omega)] at hd
        cases hd
    · rw [getV_set_ne e] at hd
      obtain ⟨w, h1, h2⟩ := A.env j hj d' hd
      exact ⟨w, by rw [List.getElem?_set_ne e]; exact h1, h2⟩
theorem At.setMany : ∀ {is : List Nat} {ds : List D} {vs : List V} {σ : St} {env env' : Env}, At K au σ H F env u js → DpAll K F vs ds → bindMany is ds env = some env' → (au.isSome = true → 0 ∉ is) → At K au (Pl.setMany is vs σ) H F env' u js
  | [], [], _, σ, env, env', A, .nil, h, _ => by simp only [bindMany, Option.some.injEq] at h; subst h; exact A
  | [], _ :: _, _, σ, env, env', A, _, h, _ => by simp [bindMany] at h
  | _ :: _, [], _, σ, env, env', A, _, h, _ => by simp [bindMany] at h
  | i :: is, d :: ds, _, σ, env, env', A, .cons r rs, h, h0 => by
    simp only [bindMany] at h
    exact At.setMany (is := is) (σ := σ.set i (some _)) (A.set r fun z e => h0 z (by rw [e]; exact List.mem_cons_self)) rs h fun z hm => h0 z (List.mem_cons_of_mem _ hm)
theorem bindMany_len : ∀ {is : List Nat} {ds : List D} {env env' : Env}, bindMany is ds env = some env' → ds.length = is.length
  | [], [], _, _, _ => rfl
  | [], _ :: _, _, _, h => by simp [bindMany] at h
  | _ :: _, [], _, _, h => by simp [bindMany] at h
  | _ :: is, _ :: ds, _, _, h => by simp only [bindMany] at h; exact congrArg Nat.succ (bindMany_len h)
theorem At.bind {t : Tg} {v : V} {d : D} {env' : Env} (A : At K au σ H F env u js) (r : Dp K F v d) (h : bindT t d env = some env') (h0 : au.isSome = true → 0 ∉ tgIx t) {Q : St → Hp → Prop}
    (q : ∀ σ', At K au σ' H F env' u js → (∃ ws, σ' = Pl.setMany (tgIx t) ws σ) → Q σ' H) : wpG K t v σ H Q := by
  cases t with
  | one i =>
    simp only [bindT, Option.some.injEq] at h
    subst h
    exact q _ (A.set r fun z e => h0 z (by rw [e]; exact List.mem_singleton.mpr rfl)) ⟨[v], rfl⟩
  | many is =>
    cases d <;> simp only [bindT] at h <;> first | contradiction | skip
    obtain ⟨a, xs, rfl, h1, h2⟩ := dp_tuple r
    exact ⟨a, xs, rfl, sqT_sub A.sub h1, by rw [dpAll_len h2, bindMany_len h], q _ (A.setMany h2 h h0) ⟨xs, rfl⟩⟩

theorem lwipe_get (σ : St) (vs : List Nat) (j : Nat) : (L2.wipe σ vs)[j]? = if j ∈ vs then (σ[j]?).map (fun _ => none) else σ[j]? := by
  induction vs with
  | nil => simp [L2.wipe]
  | cons v vs ih =>
    unfold L2.wipe
    by_cases e : v = j
    · subst e
      rw [if_pos List.mem_cons_self]
      by_cases hl : v < (L2.wipe σ vs).length
      · rw [List.getElem?_set_self hl]
        rw [L2.wipe_length] at hl
        rw [List.getElem?_eq_getElem hl]; rfl
      · rw [List.getElem?_eq_none (by rw [List.length_set]; omega)]
        rw [L2.wipe_length] at hl
        rw [List.getElem?_eq_none (by omega)]; rfl
    · rw [List.getElem?_set_ne e, ih]
      have : (j ∈ v :: vs) ↔ j ∈ vs := by
        rw [List.mem_cons]
        exact ⟨fun h => h.resolve_left fun q => e q.symm, .inr⟩
      by_cases hm : j ∈ vs
      · rw [if_pos hm, if_pos (this.mpr hm)]
      · rw [if_neg hm, if_neg fun h => hm (this.mp h)]
theorem lwipe_set {σ : St} {vs : List Nat} {i : Nat} {x : Option V} (h : i ∈ vs) : L2.wipe (σ.set i x) vs = L2.wipe σ vs := by
  apply List.ext_getElem?
  intro j
  rw [lwipe_get, lwipe_get]
  by_cases hm : j ∈ vs
  · rw [if_pos hm, if_pos hm]
    by_cases e : i = j
    · subst e
      by_cases hl : i < σ.length
      · rw [List.getElem?_set_self hl, List.getElem?_eq_getElem hl]; rfl
      · rw [List.getElem?_eq_none (by rw [List.length_set]; omega), List.getElem?_eq_none (by omega)]
    · rw [List.getElem?_set_ne e]
  · rw [if_neg hm, if_neg hm, List.getElem?_set_ne fun (q : i = j) => hm (by rw [← q]; exact h)]
theorem lwipe_wipe {σ : St} {vs : List Nat} : L2.wipe (L2.wipe σ vs) vs = L2.wipe σ vs := by
  apply List.ext_getElem?
  intro j
  rw [lwipe_get]
  by_cases hm : j ∈ vs
  · rw [if_pos hm, lwipe_get, if_pos hm]
    cases σ[j]? <;> rfl
  · rw [if_neg hm]
theorem lwipe_setMany : ∀ {is : List Nat} {ws : List V} {σ : St} {vs : List Nat}, (∀ i ∈ is, i ∈ vs) → L2.wipe (setMany is ws σ) vs = L2.wipe σ vs
  | [], _, _, _, _ => by unfold setMany; rfl
  | _ :: _, [], _, _, _ => by unfold setMany; rfl
  | i :: is, w :: ws, σ, vs, h => by
    unfold setMany
    rw [lwipe_setMany fun j hj => h j (List.mem_cons_of_mem _ hj), lwipe_set (h i List.mem_cons_self)]
theorem wipe_len (env : Env) (vs : List Nat) : (wipe env vs).length = env.length := by
  induction vs with
  | nil => rfl
  | cons v vs ih => unfold wipe; rw [List.length_set]; exact ih
theorem getV_wipe {env : Env} {j : Nat} {d : D} : ∀ {vs : List Nat}, getV (wipe env vs) j = some d → j ∉ vs ∧ getV env j = some d
  | [], h => ⟨by simp, h⟩
  | v :: vs, h => by
    unfold wipe at h
    by_cases e : v = j
    · subst e
      unfold getV at h
      by_cases hl : v < (wipe env vs).length
      · rw [List.getElem?_set_self hl] at h; cases h
      · rw [List.getElem?_eq_none (by rw [List.length_set]; omega)] at h; cases h
    · rw [getV_set_ne e] at h
      obtain ⟨h1, h2⟩ := getV_wipe h
      exact ⟨by simp only [List.mem_cons, not_or]; exact ⟨fun z => e z.symm, h1⟩, h2⟩
theorem At.wipe {vs : List Nat} (A : At K au σ H F env u is) (h0 : au.isSome = true → 0 ∉ vs) : At K au (L2.wipe σ vs) H F (Pl.wipe env vs) u is := by
  refine ⟨A.sub, A.urn, A.tab, fun a ha => ?_, by rw [wipe_len, L2.wipe_length]; exact A.len, fun j hj d hd => ?_⟩
  · rw [lwipe_get, if_neg (h0 (by rw [ha]; rfl))]
    exact A.s0 a ha
  · obtain ⟨h1, h2⟩ := getV_wipe hd
    obtain ⟨w, h3, h4⟩ := A.env j hj d h2
    exact ⟨w, by rw [lwipe_get, if_neg h1]; exact h3, h4⟩
end

def wpC (K : PySem.W.Frag) (C : Ctx) (au : Option Addr) (p : Eo) : TT := fun σ H Q =>
  ∃ F env u b u', At K au σ H F env u (fvEo p) ∧ evalC C p env u = some (b, u') ∧ ∀ F' H', Post au F H F' H' u' → Q b H'
structure SimC (X : Cx) (C : Ctx) (au : Option Addr) (ifs : List Expr) (p : Eo) : Prop where
  t : L2.PTs X ifs (wpC X.K C au p)
section
variable {X : Cx} {C : Ctx} {ff : String → Bool} {au : Option Addr} {e a : Expr} {pa pe : E} {pos : Pos}
theorem simC_no : SimC X C au [] .no := ⟨⟨fun pins s σ H Q I ⟨F, env, u, b, u', A, ev, k⟩ => by
  simp only [evalC, Option.some.injEq, Prod.mk.injEq] at ev
  obtain ⟨rfl, rfl⟩ := ev
  exact L2.pts_nil.run pins s σ H Q I (k F H A.post)⟩⟩
theorem simC_yes (ha : SimT X C au a pa) : SimC X C au [a] (.yes pa) := ⟨⟨fun pins s σ H Q I ⟨F, env, u, b, u', A, ev, k⟩ => by
  simp only [evalC] at ev
  obtain ⟨⟨da, u1⟩, e1, ev⟩ := Option.bind_eq_some_iff.mp ev
  cases da <;> simp only at ev <;> first | contradiction | skip
  cases ev
  exact (L2.pts_one ha.t).run pins s σ H Q I ⟨F, env, u, _, _, A, e1, k⟩⟩⟩

/-- a comprehension's meaning is its rule's -/
theorem comp_imp {t : Tg} {it : I} {cond : Eo} {own : List Nat} {σ : St} {H : Hp} {Q : VK} (h0 : au.isSome = true → 0 ∉ own ∧ 0 ∉ tgIx t) (hsub : ∀ i ∈ tgIx t, i ∈ own)
    (h : wpE true X.K C au (.comp pe t it cond own) σ H Q) : L2.tLc (wpI X.K C au it) (wpG X.K t) (wpC X.K C au cond) (wpE false X.K C au pe) own σ H Q := by
  obtain ⟨F, env, u, d, u', A, ev, k⟩ := h
  simp only [evalE] at ev
  obtain ⟨⟨ds, u1⟩, e1, ev⟩ := Option.bind_eq_some_iff.mp ev
  obtain ⟨⟨rs, u2⟩, e2, ev⟩ := Option.bind_eq_some_iff.mp ev
  split at ev <;> first | contradiction | skip
  rename_i hz
  cases ev
  refine ⟨F, env, u, ds, u1, A.l, e1, fun J F1 H1 P1 feeds _ D hD => ?_⟩
  have A1 := A.step P1
  have hDau : ∀ q, au = some q → q ≠ D := fun q hq e => P1.urn.hh q hq (e ▸ hD)
  -- the state at turn i
  refine ⟨fun i m H2 => m = ds.length - i ∧ i ≤ ds.length ∧ ∃ F2 v acc accD rest, Post au F1 H1 F2 H2 v ∧ H2 D = some (.lst acc) ∧ F2 D = none ∧ DpAll X.K F2 acc accD ∧ acc.length ≤ i ∧
    compL (fun d u => (bindT t d (wipe env own)).bind fun env' => (evalC C cond env' u).bind fun rc => if rc.1 = true then (evalE C pe env' rc.2).bind fun re => some (some re.1, re.2) else some (none, rc.2)) (ds.drop i) v = some (rest, u2) ∧ accD ++ rest = rs, ?_, ?_⟩
  · refine ⟨ds.length, by simp, Nat.zero_le _, F1, u1, [], [], rs, ⟨fun x hx hn => ⟨.inl (upd_ne fun e => hn (e ▸ hD)), rfl⟩, sub_newH P1.sub hD, fun q hq => ⟨(upd_ne (hDau q hq)).trans (P1.urn q hq).1, (P1.urn q hq).2⟩, P1.tab.new hD⟩, upd_same, P1.sub.free hD, .nil, Nat.le_refl _, ?_, rfl⟩
    rw [List.drop_zero]
    exact e2
  rintro i m H2 ⟨rfl, hi, F2, v, acc, accD, rest, P2, hD2, hF2, hacc, hlen, ev, hres⟩
  have sF : Sub F1 F2 := P2.ext.sub P1.sub P1.urn.hu
  obtain ⟨hgo, hstop⟩ := feeds F2 H2 sF P2.sub i
  by_cases hlt : i < ds.length
  · have hd : ds[i]? = some ds[i] := List.getElem?_eq_getElem hlt
    obtain ⟨go, yld⟩ := hgo _ hd
    rw [List.drop_eq_getElem_cons hlt] at ev
    simp only [compL] at ev
    obtain ⟨⟨o, v1⟩, ev1, ev⟩ := Option.bind_eq_some_iff.mp ev
    obtain ⟨⟨rest1, v2⟩, ev2, ev⟩ := Option.bind_eq_some_iff.mp ev
    obtain ⟨env', eb, ev1⟩ := Option.bind_eq_some_iff.mp ev1
    obtain ⟨⟨b, vc⟩, ec, ev1⟩ := Option.bind_eq_some_iff.mp ev1
    refine .inr ⟨go, fun H3 => ∃ m', m' < ds.length - i ∧ (m' = ds.length - (i + 1) ∧ i + 1 ≤ ds.length ∧ ∃ F2 v acc accD rest, Post au F1 H1 F2 H3 v ∧ H3 D = some (.lst acc) ∧ F2 D = none ∧ DpAll X.K F2 acc accD ∧ acc.length ≤ i + 1 ∧
      compL (fun d u => (bindT t d (wipe env own)).bind fun env' => (evalC C cond env' u).bind fun rc => if rc.1 = true then (evalE C pe env' rc.2).bind fun re => some (some re.1, re.2) else some (none, rc.2)) (ds.drop (i + 1)) v = some (rest, u2) ∧ accD ++ rest = rs), fun _ h => h, fun y H3 hy => ?_⟩
    obtain ⟨F3, x3, s3, dp3⟩ := yld y H3 hy
    have P3 : Post au F2 H2 F3 H3 v := Post.of P2.urn P2.tab x3 s3
    have keepD : ∀ {F4 H4 : Hp} {v4 : U}, Post au F2 H2 F4 H4 v4 → H4 D = some (.lst acc) ∧ F4 D = none := fun {F4 H4 v4} P4 => by
      obtain ⟨q1, q2⟩ := P4.ext D (fun e => hDau D e.symm rfl) (by rw [hD2]; exact fun z => nomatch z)
      exact ⟨q1.lst hD2, q2.trans hF2⟩
    have Aw : At X.K au (L2.wipe σ own) H3 F3 (wipe env own) v (fvEo cond ++ fvE pe) :=
      ((A1.r.step P2).step P3).wipe fun z => (h0 z).1
    refine Aw.bind dp3 eb (fun z => (h0 z).2) fun σ' A3 ⟨ws, hσ⟩ => ⟨by rw [hσ, lwipe_setMany hsub, lwipe_wipe], ?_⟩
    refine ⟨F3, env', v, b, vc, A3.l, ec, fun F4 H4 P4 => ?_⟩
    cases b with
    | true =>
      rw [if_pos rfl] at ev1 ⊢
      obtain ⟨⟨z, v5⟩, ee, ev1⟩ := Option.bind_eq_some_iff.mp ev1
      cases ev1
      refine ⟨F4, env', vc, z, v5, (A3.step P4).r, ee, fun w F5 H5 P5 r5 => ?_⟩
      have P25 := (P3.trans P4).trans P5
      obtain ⟨k1, k2⟩ := keepD P25
      refine ⟨acc, k1, Nat.lt_of_le_of_lt (Nat.le_trans hlen hi) (sizeLt_of hz), _, by omega, rfl, hlt, F5, v5, acc ++ [w], accD ++ [z], rest1, ?_, upd_same, k2, dpAll_append (dpAll_sub (P25.ext.sub P2.sub P2.urn.hu) _ _ hacc) (.cons r5 .nil), by rw [List.length_append]; exact Nat.succ_le_succ hlen, ?_, ?_⟩
      · have P5' := P2.trans P25
        refine ⟨fun x hx hn => ?_, fun x o ho => ?_, fun q hq => ⟨(upd_ne (hDau q hq)).trans (P5.urn q hq).1, (P5.urn q hq).2⟩, P5.tab.mut k1⟩
        · rw [upd_ne fun (q : x = D) => hn (by rw [q]; exact hD)]
          exact P5'.ext x hx hn
        · rw [upd_ne fun (q : x = D) => by rw [q, k2] at ho; cases ho]
          exact P5.sub x o ho
      · simp only at ev
        cases ev
        exact ev2
      · simp only at ev
        cases ev
        rw [List.append_assoc]
        exact hres
    | false =>
      rw [if_neg Bool.false_ne_true] at ev1 ⊢
      cases ev1
      have P24 := P3.trans P4
      obtain ⟨k1, k2⟩ := keepD P24
      simp only at ev
      cases ev
      exact ⟨_, by omega, rfl, hlt, F4, vc, acc, accD, rest, P2.trans P24, k1, k2, dpAll_sub (P24.ext.sub P2.sub P2.urn.hu) _ _ hacc, Nat.le_succ_of_le hlen, ev2, hres⟩
  · have e : i = ds.length := by omega
    subst e
    rw [List.drop_length] at ev
    simp only [compL, Option.some.injEq, Prod.mk.injEq] at ev
    obtain ⟨rfl, rfl⟩ := ev
    rw [List.append_nil] at hres
    subst hres
    refine .inl ⟨hstop (Nat.le_refl _), k _ F2 H2 (P1.trans P2) ?_⟩
    refine ⟨D, acc, rfl, ?_, hF2, hD2, hacc⟩
    cases q : H D with
    | none => rfl
    | some o => exact absurd hD (P1.grow (by rw [q]; exact fun z => nomatch z))
end
end Pl

/-! PSound7: statements. -/
namespace Pl
open PySem
open L2 (V Hp HO St VK TE TT TA TS TI TG TGs Cx PE PT PW PA PS PSs PI PG PGs Inv SqL SqT upd upd_same upd_ne OpR UnR CallR R2 Vals RelV EP Gl Vis It Ends)

variable [Tabl]
/-- a def's state: H0, F0 at its entry -/
structure StR (K : PySem.W.Frag) (au : Option Addr) (H0 F0 : Hp) (σ : St) (H F : Hp) (env : Env) (u : U) : Prop where
  sub : Sub F H
  urn : UrnR au u F H
  tab : Tb F H
  s0 : ∀ a, au = some a → σ[0]? = some (some (V.ref a))
  len : env.length = σ.length
  ext : Ext au F0 H0 F H
  u0 : ∀ a, au = some a → H0 a ≠ none
  imm : ∀ (i : Nat) d, env[i]? = some (Slot.imm d) → ∃ v, σ[i]? = some (some v) ∧ Dp K F v d
  own : ∀ (i : Nat) ds, env[i]? = some (Slot.own ds) → ∃ p vs, σ[i]? = some (some (V.ref p)) ∧ H p = some (.lst vs) ∧ F p = none ∧ H0 p = none ∧ DpAll K F vs ds
  dis : ∀ (i j : Nat) ds ds' p, env[i]? = some (Slot.own ds) → env[j]? = some (Slot.own ds') → σ[i]? = some (some (V.ref p)) → σ[j]? = some (some (V.ref p)) → i = j

section
variable {K : PySem.W.Frag} {au : Option Addr} {H0 F0 : Hp} {σ : St} {H F : Hp} {env : Env} {u : U}
/-- the own lists that is mentions -/
def Held (env : Env) (σ : St) (is : List Nat) (a : Addr) : Prop := ∃ i ∈ is, ∃ ds, env[i]? = some (Slot.own ds) ∧ σ[i]? = some (some (V.ref a))
open Classical in
noncomputable def thaw (env : Env) (σ : St) (is : List Nat) (H F : Hp) : Hp := fun a => if Held env σ is a then H a else F a
open Classical in
noncomputable def hide (env : Env) (σ : St) (is : List Nat) (F : Hp) : Hp := fun a => if Held env σ is a then none else F a
theorem StR.held (R : StR K au H0 F0 σ H F env u) {is : List Nat} {a : Addr} (h : Held env σ is a) : (∃ vs, H a = some (.lst vs)) ∧ F a = none ∧ H0 a = none := by
  obtain ⟨i, _, ds, h1, h2⟩ := h
  obtain ⟨p, vs, h3, h4, h5, h6, _⟩ := R.own i ds h1
  rw [h2] at h3
  cases h3
  exact ⟨⟨vs, h4⟩, h5, h6⟩
theorem StR.heldAu (R : StR K au H0 F0 σ H F env u) {is : List Nat} {a : Addr} (h : Held env σ is a) : some a ≠ au := fun e => R.u0 a e.symm (R.held h).2.2
theorem thaw_yes {is : List Nat} {a : Addr} (h : Held env σ is a) : thaw env σ is H F a = H a := by unfold thaw; rw [if_pos h]
theorem thaw_no {is : List Nat} {a : Addr} (h : ¬ Held env σ is a) : thaw env σ is H F a = F a := by unfold thaw; rw [if_neg h]
theorem hide_yes {is : List Nat} {a : Addr} (h : Held env σ is a) : hide env σ is F a = none := by unfold hide; rw [if_pos h]
theorem hide_no {is : List Nat} {a : Addr} (h : ¬ Held env σ is a) : hide env σ is F a = F a := by unfold hide; rw [if_neg h]
theorem StR.subT (R : StR K au H0 F0 σ H F env u) (is : List Nat) : Sub F (thaw env σ is H F) := fun a o h => by
  by_cases q : Held env σ is a
  · rw [(R.held q).2.1] at h; cases h
  · rw [thaw_no q]; exact h
/-- for an expression -/
theorem StR.at_ (R : StR K au H0 F0 σ H F env u) (is : List Nat) : At K au σ H (thaw env σ is H F) env u is := by
  refine ⟨fun a o h => ?_, fun a ha => ⟨(R.urn a ha).1, ?_⟩, R.tab.of (fun a ps e => ?_), R.s0, R.len, fun i hi d hd => ?_⟩
  · by_cases q : Held env σ is a
    · rwa [thaw_yes q] at h
    · rw [thaw_no q] at h; exact R.sub a o h
  · rw [thaw_no fun q => R.heldAu q ha.symm]
    exact (R.urn a ha).2
  · by_cases q : Held env σ is a
    · rw [thaw_yes q] at e
      obtain ⟨⟨vs, hv⟩, _⟩ := R.held q
      rw [hv] at e; cases e
    · rw [thaw_no q] at e; exact e
  · unfold getV at hd
    split at hd <;> first | contradiction | skip
    · rename_i d0 h1
      cases hd
      obtain ⟨v, h2, h3⟩ := R.imm i _ h1
      exact ⟨v, h2, dp_sub (R.subT is) _ _ h3⟩
    · rename_i ds h1
      cases hd
      obtain ⟨p, vs, h2, h3, h4, h5, h6⟩ := R.own i _ h1
      exact ⟨.ref p, h2, .lst (.inl (.inl (by rw [thaw_yes ⟨i, hi, ds, h1, h2⟩]; exact h3))) (dpAll_sub (R.subT is) _ _ h6)⟩
variable {F1 H1 : Hp} {u1 : U} {is : List Nat}
theorem StR.subH (R : StR K au H0 F0 σ H F env u) (P : Post au (thaw env σ is H F) H F1 H1 u1) : Sub F (hide env σ is F1) := fun a o h => by
  have q : ¬ Held env σ is a := fun q => by rw [(R.held q).2.1] at h; cases h
  rw [hide_no q]
  have ha : some a ≠ au := fun e => by rw [(R.urn a e.symm).2] at h; cases h
  rw [(P.ext a ha (by rw [R.sub a o h]; exact fun z => nomatch z)).2, thaw_no q]
  exact h
/-- behind it, the own lists still one's own -/
theorem StR.keep (R : StR K au H0 F0 σ H F env u) (P : Post au (thaw env σ is H F) H F1 H1 u1) : StR K au H0 F0 σ H1 (hide env σ is F1) env u1 := by
  have sF := R.subH P
  refine ⟨fun a o h => ?_, fun a ha => ⟨(P.urn a ha).1, ?_⟩, P.tab.of (fun a ps e => ?_), R.s0, R.len, fun a ha hn => ?_, R.u0, fun i d hi => ?_, fun i ds hi => ?_, R.dis⟩
  · by_cases q : Held env σ is a
    · rw [hide_yes q] at h; cases h
    · rw [hide_no q] at h; exact P.sub a o h
  · rw [hide_no fun q => R.heldAu q ha.symm]
    exact (P.urn a ha).2
  · by_cases q : Held env σ is a
    · rw [hide_yes q] at e; cases e
    · rw [hide_no q] at e; exact e
  · have q : ¬ Held env σ is a := fun q => hn (R.held q).2.2
    obtain ⟨e1, e2⟩ := R.ext a ha hn
    obtain ⟨e3, e4⟩ := P.ext a ha (e1.ne hn)
    exact ⟨e1.trans e3, (hide_no q).trans (e4.trans ((thaw_no q).trans e2))⟩
  · obtain ⟨v, h1, h2⟩ := R.imm i d hi
    exact ⟨v, h1, dp_sub sF _ _ h2⟩
  · obtain ⟨p, vs, h1, h2, h3, h4, h5⟩ := R.own i ds hi
    have hp : some p ≠ au := fun e => R.u0 p e.symm h4
    obtain ⟨e1, e2⟩ := P.ext p hp (by rw [h2]; exact fun z => nomatch z)
    refine ⟨p, vs, h1, e1.lst h2, ?_, h4, dpAll_sub sF _ _ h5⟩
    by_cases q : Held env σ is p
    · exact hide_yes q
    · exact (hide_no q).trans (e2.trans ((thaw_no q).trans h3))
theorem StR.noHeld (R : StR K au H0 F0 σ H F env u) (P : Post au (thaw env σ is H F) H F1 H1 u1) {a : Addr} {xs : List V} (h : SqT K F1 a xs) : SqT K (hide env σ is F1) a xs := by
  rcases h with (h | ⟨o, h⟩) | h
  · refine .inl (.inl ?_)
    rw [hide_no fun q => ?_]
    · exact h
    · obtain ⟨⟨vs, e⟩, _⟩ := R.held q
      rw [(P.ext a (R.heldAu q) (by rw [e]; exact fun z => nomatch z)).2, thaw_yes q, e] at h
      cases h
  · refine .inl (.inr ⟨o, ?_⟩)
    rw [hide_no fun q => ?_]
    · exact h
    · obtain ⟨⟨vs, e⟩, _⟩ := R.held q
      rw [(P.ext a (R.heldAu q) (by rw [e]; exact fun z => nomatch z)).2, thaw_yes q, e] at h
      cases h
  · exact .inr h
theorem StR.keepV (R : StR K au H0 F0 σ H F env u) (P : Post au (thaw env σ is H F) H F1 H1 u1) {v : V} {d : D} (h : Dp K F1 v d) (n : noList d = true) : Dp K (hide env σ is F1) v d := dp_noList (fun _ _ q => R.noHeld P q) d v n h
theorem freeze_get (env : Env) (j : Nat) : ∀ (is : List Nat), (freeze env is)[j]? = if j ∈ is then (env[j]?).map frz else env[j]?
  | [] => by simp [freeze]
  | i :: is => by
    unfold freeze
    rw [List.getElem?_modify]
    have ih := freeze_get env j is
    by_cases e : i = j
    · subst e
      simp only [if_true, ih]
      by_cases hm : i ∈ is
      · rw [if_pos hm, if_pos List.mem_cons_self]
        cases env[i]? with
        | none => rfl
        | some s => cases s <;> rfl
      · rw [if_neg hm, if_pos List.mem_cons_self]
        rfl
    · have hm : (j ∈ i :: is) ↔ j ∈ is := by
        rw [List.mem_cons]
        exact ⟨fun h => h.resolve_left fun q => e q.symm, .inr⟩
      simp only [e, if_false, ih, hm]
      by_cases hm2 : j ∈ is
      · rw [if_pos hm2]; cases env[j]? <;> rfl
      · rw [if_neg hm2]; cases env[j]? <;> rfl
theorem freeze_len (env : Env) : ∀ (is : List Nat), (freeze env is).length = env.length
  | [] => rfl
  | i :: is => by unfold freeze; rw [List.length_modify]; exact freeze_len env is
/-- .. or the own lists that it mentions given up -/
theorem StR.frz (R : StR K au H0 F0 σ H F env u) (P : Post au (thaw env σ is H F) H F1 H1 u1) : StR K au H0 F0 σ H1 F1 (freeze env is) u1 := by
  have sF : Sub F F1 := (R.subT is).trans (P.ext.sub (R.at_ is).sub (R.at_ is).urn.hu)
  have ownB : ∀ (j : Nat) ds, (freeze env is)[j]? = some (Slot.own ds) → env[j]? = some (.own ds) ∧ j ∉ is := fun j ds h => by
    rw [freeze_get] at h
    by_cases hm : j ∈ is
    · rw [if_pos hm] at h
      cases q : env[j]? with
      | none => rw [q] at h; cases h
      | some s => rw [q] at h; cases s <;> cases h
    · rw [if_neg hm] at h; exact ⟨h, hm⟩
  refine ⟨P.sub, P.urn, P.tab, R.s0, by rw [freeze_len]; exact R.len, fun a ha hn => ?_, R.u0, fun i d hi => ?_, fun i ds hi => ?_, fun i j ds ds' p h1 h2 => R.dis i j ds ds' p (ownB _ _ h1).1 (ownB _ _ h2).1⟩
  · have q : ¬ Held env σ is a := fun q => hn (R.held q).2.2
    obtain ⟨e1, e2⟩ := R.ext a ha hn
    obtain ⟨e3, e4⟩ := P.ext a ha (e1.ne hn)
    exact ⟨e1.trans e3, e4.trans ((thaw_no q).trans e2)⟩
  · rw [freeze_get] at hi
    by_cases hm : i ∈ is
    · rw [if_pos hm] at hi
      cases q : env[i]? with
      | none => rw [q] at hi; cases hi
      | some s =>
        rw [q] at hi
        cases s with
        | no => cases hi
        | imm d0 =>
          cases hi
          obtain ⟨v, h1, h2⟩ := R.imm i _ q
          exact ⟨v, h1, dp_sub sF _ _ h2⟩
        | own ds =>
          cases hi
          obtain ⟨p, vs, h1, h2, h3, h4, h5⟩ := R.own i ds q
          have hp : some p ≠ au := fun e => R.u0 p e.symm h4
          have e := (P.ext p hp (by rw [h2]; exact fun z => nomatch z)).2
          rw [thaw_yes ⟨i, hm, ds, q, h1⟩, h2] at e
          exact ⟨.ref p, h1, .lst (.inl (.inl e)) (dpAll_sub sF _ _ h5)⟩
    · rw [if_neg hm] at hi
      obtain ⟨v, h1, h2⟩ := R.imm i d hi
      exact ⟨v, h1, dp_sub sF _ _ h2⟩
  · obtain ⟨q, hm⟩ := ownB _ _ hi
    obtain ⟨p, vs, h1, h2, h3, h4, h5⟩ := R.own i ds q
    have hp : some p ≠ au := fun e => R.u0 p e.symm h4
    have hh : ¬ Held env σ is p := fun ⟨j, hj, ds', g1, g2⟩ => hm (by rw [R.dis i j ds ds' p q g1 h1 g2]; exact hj)
    obtain ⟨e1, e2⟩ := P.ext p hp (by rw [h2]; exact fun z => nomatch z)
    exact ⟨p, vs, h1, e1.lst h2, e2.trans ((thaw_no hh).trans h3), h4, dpAll_sub sF _ _ h5⟩

/-- what is stored in a slot -/
def SlotOk (K : PySem.W.Frag) (H0 F H : Hp) (env : Env) (σ : St) (i : Nat) (v : V) : Slot → Prop
  | .no => True
  | .imm d => Dp K F v d
  | .own ds => ∃ p vs, v = .ref p ∧ H p = some (.lst vs) ∧ F p = none ∧ H0 p = none ∧ DpAll K F vs ds ∧ ∀ (j : Nat) ds', env[j]? = some (Slot.own ds') → j ≠ i → σ[j]? ≠ some (some (V.ref p))
theorem StR.put (R : StR K au H0 F0 σ H F env u) {i : Nat} {v : V} {s : Slot} (h : SlotOk K H0 F H env σ i v s) (h0 : au.isSome = true → i ≠ 0) : StR K au H0 F0 (σ.set i (some v)) H F (env.set i s) u := by
  have get : ∀ (j : Nat) t, (env.set i s)[j]? = some t → (j = i ∧ t = s ∧ i < env.length) ∨ (j ≠ i ∧ env[j]? = some t) := fun j t hj => by
    by_cases e : i = j
    · subst e
      by_cases hl : i < env.length
      · rw [List.getElem?_set_self hl] at hj
        exact .inl ⟨rfl, (Option.some.inj hj).symm, hl⟩
      · rw [List.getElem?_eq_none (by rw [List.length_set]; omega)] at hj; cases hj
    · rw [List.getElem?_set_ne e] at hj
      exact .inr ⟨fun q => e q.symm, hj⟩
  have sg : i < env.length → (σ.set i (some v))[i]? = some (some v) := fun hl => List.getElem?_set_self (by rw [← R.len]; exact hl)
  have sn : ∀ {j}, j ≠ i → (σ.set i (some v))[j]? = σ[j]? := fun {j} e => List.getElem?_set_ne fun q => e q.symm
  refine ⟨R.sub, R.urn, R.tab, fun a ha => ?_, by rw [List.length_set, List.length_set]; exact R.len, R.ext, R.u0, fun j d hj => ?_, fun j ds hj => ?_, fun j k ds ds' p hj hk h1 h2 => ?_⟩
  · rw [sn fun e => h0 (by rw [ha]; rfl) e.symm]
    exact R.s0 a ha
  · rcases get j _ hj with ⟨rfl, e, hl⟩ | ⟨ne, hj⟩
    · subst e
      exact ⟨v, sg hl, h⟩
    · obtain ⟨w, h1, h2⟩ := R.imm j d hj
      exact ⟨w, by rw [sn ne]; exact h1, h2⟩
  · rcases get j _ hj with ⟨rfl, e, hl⟩ | ⟨ne, hj⟩
    · subst e
      obtain ⟨p, vs, rfl, h1, h2, h3, h4, _⟩ := h
      exact ⟨p, vs, sg hl, h1, h2, h3, h4⟩
    · obtain ⟨p, vs, h1, h2⟩ := R.own j ds hj
      exact ⟨p, vs, by rw [sn ne]; exact h1, h2⟩
  · rcases get j _ hj with ⟨rfl, e, hl⟩ | ⟨ne, hj2⟩
    · rcases get k _ hk with ⟨rfl, e', _⟩ | ⟨ne', hk2⟩
      · rfl
      · subst e
        obtain ⟨q, vs, rfl, _, _, _, _, hd⟩ := h
        rw [sg hl] at h1
        cases h1
        rw [sn ne'] at h2
        exact absurd h2 (hd k ds' hk2 ne')
    · rcases get k _ hk with ⟨rfl, e', hl⟩ | ⟨ne', hk2⟩
      · subst e'
        obtain ⟨q, vs, rfl, _, _, _, _, hd⟩ := h
        rw [sg hl] at h2
        cases h2
        rw [sn ne] at h1
        exact absurd h1 (hd j ds hj2 ne)
      · rw [sn ne] at h1
        rw [sn ne'] at h2
        exact R.dis j k ds ds' p hj2 hk2 h1 h2
/-- a new list is nobody's -/
theorem StR.fresh (R : StR K au H0 F0 σ H F env u) {p : Addr} (hp : H p = none) : H0 p = none ∧ ∀ (j : Nat) ds', env[j]? = some (Slot.own ds') → σ[j]? ≠ some (some (V.ref p)) := by
  refine ⟨?_, fun j ds' hj e => ?_⟩
  · cases q : H0 p with
    | none => rfl
    | some o =>
      by_cases ha : some p = au
      · exact absurd hp (R.urn.hh p ha.symm)
      · exact absurd hp ((R.ext p ha (by rw [q]; exact fun z => nomatch z)).1.ne (by rw [q]; exact fun z => nomatch z))
  · obtain ⟨q, vs, h1, h2, _⟩ := R.own j ds' hj
    rw [e] at h1
    cases h1
    rw [hp] at h2; cases h2
/-- a value, as it is stored -/
theorem StR.slot (R : StR K au H0 F0 σ H F env u) (ff : String → Bool) {e : E} (P : Post au (thaw env σ (fvE e) H F) H F1 H1 u1) {v : V} {d : D} (r : Rr (fk ff e) K H F1 H1 v d) (i : Nat) :
    ∃ F', StR K au H0 F0 σ H1 F' (after ff env e d) u1 ∧ SlotOk K H0 F' H1 (after ff env e d) σ i v (slotOf ff e d) := by
  have frs : ∀ {p : Addr}, H p = none → ∀ (env' : Pl.Env), (∀ (j : Nat) ds', env'[j]? = some (Slot.own ds') → env[j]? = some (Slot.own ds')) → H0 p = none ∧ ∀ (j : Nat) ds', env'[j]? = some (Slot.own ds') → j ≠ i → σ[j]? ≠ some (some (V.ref p)) := fun {p} hp env' he =>
    ⟨(R.fresh hp).1, fun j ds' hj _ => (R.fresh hp).2 j ds' (he j ds' hj)⟩
  have fz : ∀ (j : Nat) ds', (freeze env (fvE e))[j]? = some (Slot.own ds') → env[j]? = some (Slot.own ds') := fun j ds' h => by
    rw [freeze_get] at h
    split at h
    · cases q : env[j]? with
      | none => rw [q] at h; cases h
      | some s => rw [q] at h; cases s <;> cases h
    · exact h
  unfold after slotOf within
  by_cases hk : fk ff e = true
  · rw [if_pos hk]
    rw [hk] at r
    cases d with
    | list ds =>
      obtain ⟨p, vs, rfl, h1, h2, h3, h4⟩ := r
      simp only [hk, if_true]
      by_cases hn : noListAll ds = true
      · rw [if_pos hn]
        obtain ⟨q1, q2⟩ := frs h1 env fun _ _ h => h
        refine ⟨_, R.keep P, p, vs, rfl, h3, ?_, q1, dpAll_noList (fun _ _ q => R.noHeld P q) _ _ hn h4, q2⟩
        by_cases q : Held env σ (fvE e) p
        · exact hide_yes q
        · rw [hide_no q]; exact h2
      · rw [if_neg hn]
        obtain ⟨q1, q2⟩ := frs h1 _ fz
        exact ⟨_, R.frz P, p, vs, rfl, h3, h2, q1, h4, q2⟩
    | _ =>
      simp only [hk, if_true]
      split
      · rename_i hn
        exact ⟨_, R.keep P, R.keepV P r hn⟩
      · exact ⟨_, R.frz P, r⟩
  · have hk' : fk ff e = false := by simpa using hk
    rw [hk'] at r
    rw [if_neg hk]
    simp only [hk', Bool.false_eq_true, if_false]
    by_cases hn : noList d = true
    · rw [if_pos hn]; exact ⟨_, R.keep P, R.keepV P r hn⟩
    · rw [if_neg hn]; exact ⟨_, R.frz P, r⟩
end

/-! ### what a statement's end is to give -/
def RetR (fr : Bool) (K : PySem.W.Frag) (au : Option Addr) (H0 F0 : Hp) (v : V) (F H : Hp) (d : D) (u : U) : Prop := Post au F0 H0 F H u ∧ Rr fr K H0 F H v d
def Fin (fr : Bool) (K : PySem.W.Frag) (au : Option Addr) (H0 F0 : Hp) (D : Ends) : O → Prop
  | .nx env u => ∀ σ H F, StR K au H0 F0 σ H F env u → D.nx σ H
  | .bk env u => ∀ σ H F, StR K au H0 F0 σ H F env u → D.bk σ H
  | .ct env u => ∀ σ H F, StR K au H0 F0 σ H F env u → D.ct σ H
  | .rt d u => ∀ v F H, RetR fr K au H0 F0 v F H d u → D.rt v H
def wpS (fr : Bool) (C : Ctx) (ff : String → Bool) (K : PySem.W.Frag) (au : Option Addr) (H0 F0 : Hp) (p : S) : TS := fun D σ H =>
  ∃ F env u o, StR K au H0 F0 σ H F env u ∧ execS C ff p env u = some o ∧ Fin fr K au H0 F0 D o
def wpSs (fr : Bool) (C : Ctx) (ff : String → Bool) (K : PySem.W.Frag) (au : Option Addr) (H0 F0 : Hp) (p : Ss) : TS := fun D σ H =>
  ∃ F env u o, StR K au H0 F0 σ H F env u ∧ execSs C ff p env u = some o ∧ Fin fr K au H0 F0 D o
structure SimS (X : Cx) (C : Ctx) (ff : String → Bool) (au : Option Addr) (fr : Bool) (st : Stmt) (p : S) : Prop where
  t : ∀ H0 F0, PS X st (wpS fr C ff X.K au H0 F0 p)
structure SimSs (X : Cx) (C : Ctx) (ff : String → Bool) (au : Option Addr) (fr : Bool) (st : List Stmt) (p : Ss) : Prop where
  t : ∀ H0 F0, PSs X st (wpSs fr C ff X.K au H0 F0 p)

section
variable {X : Cx} {C : Ctx} {ff : String → Bool} {au : Option Addr} {fr : Bool} {e a b c : Expr} {es : List Expr} {p pa pb pc : E} {ps : Es} {pos : Pos} {x : Str} {pos2 : Pos} {K : PySem.W.Frag} {H0 F0 : Hp} {st : Stmt} {sts sts2 : List Stmt} {s : S} {ss ss2 : Ss}

theorem simSs_nil : SimSs X C ff au fr [] .nil := ⟨fun H0 F0 => L2.pss_nil.imp fun D σ H ⟨F, env, u, o, R, ev, k⟩ => by
  simp only [execSs, Option.some.injEq] at ev
  subst ev
  exact k σ H F R⟩
theorem simSs_cons (h1 : SimS X C ff au fr st s) (h2 : SimSs X C ff au fr sts ss) : SimSs X C ff au fr (st :: sts) (.cons s ss) := ⟨fun H0 F0 => (L2.pss_cons (h1.t H0 F0) (h2.t H0 F0)).imp fun D σ H ⟨F, env, u, o, R, ev, k⟩ => by
  simp only [execSs] at ev
  obtain ⟨o1, e1, ev⟩ := Option.bind_eq_some_iff.mp ev
  refine ⟨F, env, u, o1, R, e1, ?_⟩
  cases o1 with
  | nx env' u' => exact fun σ' H' F' R' => ⟨F', env', u', o, R', ev, k⟩
  | rt d u' => simp only [Option.some.injEq] at ev; subst ev; exact k
  | bk env' u' => simp only [Option.some.injEq] at ev; subst ev; exact k
  | ct env' u' => simp only [Option.some.injEq] at ev; subst ev; exact k⟩
theorem simS_pass : SimS X C ff au fr (.Pass pos) .pass := ⟨fun H0 F0 => L2.ps_pass.imp fun D σ H ⟨F, env, u, o, R, ev, k⟩ => by
  simp only [execS, Option.some.injEq] at ev
  subst ev
  exact k σ H F R⟩
theorem simS_brk : SimS X C ff au fr (.Break pos) .brk := ⟨fun H0 F0 => L2.ps_break.imp fun D σ H ⟨F, env, u, o, R, ev, k⟩ => by
  simp only [execS, Option.some.injEq] at ev
  subst ev
  exact k σ H F R⟩
theorem simS_cont : SimS X C ff au fr (.Continue pos) .cont := ⟨fun H0 F0 => L2.ps_continue.imp fun D σ H ⟨F, env, u, o, R, ev, k⟩ => by
  simp only [execS, Option.some.injEq] at ev
  subst ev
  exact k σ H F R⟩
theorem simS_raise : SimS X C ff au fr st .raise := ⟨fun H0 F0 => L2.ps_never.imp fun D σ H ⟨F, env, u, o, R, ev, k⟩ => by
  simp [execS] at ev⟩

/-! ### assignments -/
theorem set_core {i : Nat} {D : Ends} {σ : St} {H : Hp} (h0 : au.isSome = true → i ≠ 0) (h : wpS fr C ff K au H0 F0 (.set i p) D σ H) : wpE (fk ff p) K C au p σ H fun v H1 => D.nx (σ.set i (some v)) H1 := by
  obtain ⟨F, env, u, o, R, ev, k⟩ := h
  simp only [execS] at ev
  obtain ⟨⟨d, u1⟩, e1, ev⟩ := Option.bind_eq_some_iff.mp ev
  cases ev
  refine ⟨_, env, u, d, u1, R.at_ (fvE p), e1, fun v F1 H1 P r => ?_⟩
  obtain ⟨F', R', so⟩ := R.slot ff P r i
  exact k _ H1 F' (R'.put so h0)
theorem simS_set {i : Nat} (h : PE X e (wpE (fk ff p) X.K C au p) → PS X st (L2.tAsg (wpE (fk ff p) X.K C au p) (L2.gName i))) (he : Sim X C ff au e p) (h0 : au.isSome = true → i ≠ 0) : SimS X C ff au fr st (.set i p) :=
  ⟨fun H0 F0 => (h he.raw).imp fun D σ H q => set_core h0 q⟩
/-- x = e, e no comprehension -/
theorem simS_setN {i : Nat} (hN : X.N.Nodup) (hi : X.N[i]? = some x) (hx : L2.Loc X.env.scope x) (hf : X.fn x = true) (he : Sim X C ff au e p) (hs : swapsWith e (some (.Name x pos2)) pos.line X.env = pure false) (h0 : au.isSome = true → i ≠ 0) : SimS X C ff au fr (.Assign [.Name x pos2] e pos) (.set i p) :=
  simS_set (fun h => L2.ps_set hN hi hx h hs (.inl hf)) he h0
theorem simS_set2 {i j : Nat} {t1 t2 : Expr} (h1 : PG X t1 (L2.gName i)) (h2 : PG X t2 (L2.gName j)) (ha : (assignEach [t1, t2] X.env).map (·.2) = [assign t1 X.env, assign t2 X.env]) (hw : swappedStores [t1, t2] e X.env = pure none) (he : Sim X C ff au e p) (h0 : au.isSome = true → i ≠ 0 ∧ j ≠ 0) : SimS X C ff au fr (.Assign [t1, t2] e pos) (.set2 i j p) :=
  ⟨fun H0 F0 => (L2.ps_asg2 he.pl h1 h2 ha hw).imp fun D σ H ⟨F, env, u, o, R, ev, k⟩ => by
    simp only [execS] at ev
    obtain ⟨⟨d, u1⟩, e1, ev⟩ := Option.bind_eq_some_iff.mp ev
    split at ev <;> first | contradiction | skip
    rename_i hn
    cases ev
    refine ⟨_, env, u, d, u1, R.at_ (fvE p), e1, fun v F1 H1 P r => ?_⟩
    have R1 := R.keep P
    have r1 := R.keepV P r hn
    exact k _ H1 _ ((R1.put (s := .imm d) r1 fun z => (h0 z).1).put (s := .imm d) r1 fun z => (h0 z).2)⟩
theorem simS_drop (he : Sim X C ff au e p) (hs : swapsWith e none pos.line X.env = pure false) : SimS X C ff au fr (.Expr e pos) (.drop p) :=
  ⟨fun H0 F0 => (L2.ps_expr he.pl hs).imp fun D σ H ⟨F, env, u, o, R, ev, k⟩ => by
    simp only [execS] at ev
    obtain ⟨⟨d, u1⟩, e1, ev⟩ := Option.bind_eq_some_iff.mp ev
    cases ev
    exact ⟨_, env, u, d, u1, R.at_ (fvE p), e1, fun v F1 H1 P r => k _ H1 _ (R.keep P)⟩⟩
theorem StR.ret {σ : St} {H F : Hp} {env : Pl.Env} {u : U} (R : StR K au H0 F0 σ H F env u) {is : List Nat} {F1 H1 : Hp} {u1 : U} {v : V} {d : D} {bb : Bool} (P : Post au (thaw env σ is H F) H F1 H1 u1) (r : Rr bb K H F1 H1 v d) : RetR bb K au H0 F0 v F1 H1 d u1 := by
  refine ⟨⟨fun a ha hn => ?_, P.sub, P.urn, P.tab⟩, r.back fun q hq => ?_⟩
  · have q : ¬ Held env σ is a := fun q => hn (R.held q).2.2
    obtain ⟨e1, e2⟩ := R.ext a ha hn
    obtain ⟨e3, e4⟩ := P.ext a ha (e1.ne hn)
    exact ⟨e1.trans e3, e4.trans ((thaw_no q).trans e2)⟩
  · by_cases ha : some q = au
    · exact R.urn.hh q ha.symm
    · exact (R.ext q ha hq).1.ne hq
theorem simS_ret (he : Sim X C ff au e p) : SimS X C ff au false (.Return (some e) pos) (.ret p) :=
  ⟨fun H0 F0 => (L2.ps_ret he.pl).imp fun D σ H ⟨F, env, u, o, R, ev, k⟩ => by
    simp only [execS] at ev
    obtain ⟨⟨d, u1⟩, e1, ev⟩ := Option.bind_eq_some_iff.mp ev
    cases ev
    exact ⟨_, env, u, d, u1, R.at_ (fvE p), e1, fun v F1 H1 P r => k v F1 H1 (R.ret P r)⟩⟩
theorem simS_retN : SimS X C ff au false (.Return none pos) (.ret (.lit .none)) :=
  ⟨fun H0 F0 => L2.ps_retN.imp fun D σ H ⟨F, env, u, o, R, ev, k⟩ => by
    simp only [execS, evalE, litV, Option.bind_some, Option.some.injEq] at ev
    subst ev
    exact k _ _ H (R.ret (is := []) (R.at_ []).post Dp.non)⟩
theorem retF_core {D : Ends} {σ : St} {H : Hp} (hv : ∀ i, p ≠ .var i) (h : wpS true C ff K au H0 F0 (.retF p) D σ H) : wpE (fk ff p) K C au p σ H fun v H1 => D.rt v H1 := by
  obtain ⟨F, env, u, o, R, ev, k⟩ := h
  simp only [execS] at ev
  obtain ⟨⟨d, u1⟩, e1, ev⟩ := Option.bind_eq_some_iff.mp ev
  split at ev <;> first | contradiction | skip
  rename_i hz
  cases ev
  refine ⟨_, env, u, d, u1, R.at_ (fvE p), e1, fun v F1 H1 P r => ?_⟩
  by_cases hk : fk ff p = true
  · rw [hk] at r
    exact k v F1 H1 (R.ret P r)
  · have hk' : fk ff p = false := by simpa using hk
    rw [hk'] at r hz
    refine k v F1 H1 (R.ret P (.of r ?_))
    have hw : ownVar env p = false := by
      unfold ownVar
      split
      · rename_i i; exact absurd rfl (hv i)
      · rfl
    rw [hw] at hz
    cases d <;> simp [noList, isL] at hz ⊢
theorem simS_retF (hv : ∀ i, p ≠ .var i) (he : Sim X C ff au e p) : SimS X C ff au true (.Return (some e) pos) (.retF p) :=
  ⟨fun H0 F0 => (L2.ps_ret he.raw).imp fun D σ H q => retF_core hv q⟩
/-- one's own list is handed back -/
theorem simS_retFV {i : Nat} (he : PE X e (L2.tVar i)) : SimS X C ff au true (.Return (some e) pos) (.retF (.var i)) :=
  ⟨fun H0 F0 => (L2.ps_ret he).imp fun D σ H ⟨F, env, u, o, R, ev, k⟩ => by
    simp only [execS, evalE] at ev
    obtain ⟨⟨d, u1⟩, e1, ev⟩ := Option.bind_eq_some_iff.mp ev
    obtain ⟨d', e2, e1⟩ := Option.bind_eq_some_iff.mp e1
    cases e1
    split at ev <;> first | contradiction | skip
    rename_i hz
    cases ev
    unfold getV at e2
    split at e2 <;> first | contradiction | skip
    · rename_i d0 hi
      cases e2
      obtain ⟨v, h1, h2⟩ := R.imm i _ hi
      refine ⟨v, h1, k v F H ⟨⟨R.ext, R.sub, R.urn, R.tab⟩, Rr.of h2 ?_⟩⟩
      have hw : ownVar env (.var i) = false := by unfold ownVar; simp [hi]
      rw [hw] at hz
      simp only [fk, Bool.false_or] at hz
      cases d <;> simp [noList, isL] at hz ⊢
    · rename_i ds hi
      cases e2
      obtain ⟨q, vs, h1, h3, h4, h5, h6⟩ := R.own i ds hi
      exact ⟨_, h1, k _ F H ⟨⟨R.ext, R.sub, R.urn, R.tab⟩, q, vs, rfl, h5, h4, h3, h6⟩⟩⟩
end
end Pl

/-! PSound8: the other statements. -/
namespace Pl
open PySem
open L2 (V Hp HO St VK TE TT TA TS TI TG TGs Cx PE PT PW PA PS PSs PI PG PGs Inv SqL SqT upd upd_same upd_ne OpR UnR CallR R2 Vals RelV EP Gl Vis It Ends)
variable [Tabl]

section
variable {K : PySem.W.Frag} {au : Option Addr} {H0 F0 : Hp} {σ : St} {H F H1 F1 : Hp} {env : Env} {u u1 : U} {is : List Nat}
/-- one's own list is changed -/
theorem StR.mut (R : StR K au H0 F0 σ H F env u) {i : Nat} {ds ds' : List D} {p : Addr} {vs' : List V} (hi : env[i]? = some (Slot.own ds)) (hp : σ[i]? = some (some (V.ref p))) (hd : DpAll K F vs' ds') :
    StR K au H0 F0 σ (upd H p (.lst vs')) F (env.set i (.own ds')) u := by
  obtain ⟨q, vs, e1, e2, e3, e4, e5⟩ := R.own i ds hi
  rw [hp] at e1
  cases e1
  have hl : i < env.length := (List.getElem?_eq_some_iff.mp hi).1
  have get : ∀ (j : Nat) t, (env.set i (.own ds'))[j]? = some t → (j = i ∧ t = .own ds') ∨ (j ≠ i ∧ env[j]? = some t) := fun j t hj => by
    by_cases e : i = j
    · subst e
      rw [List.getElem?_set_self hl] at hj
      exact .inl ⟨rfl, (Option.some.inj hj).symm⟩
    · rw [List.getElem?_set_ne e] at hj
      exact .inr ⟨fun q => e q.symm, hj⟩
  have back : ∀ (j : Nat) es, (env.set i (.own ds'))[j]? = some (Slot.own es) → ∃ es', env[j]? = some (Slot.own es') := fun j es hj => by
    rcases get j _ hj with ⟨rfl, _⟩ | ⟨_, h⟩
    · exact ⟨_, hi⟩
    · exact ⟨_, h⟩
  refine ⟨fun a o h => ?_, fun a ha => ⟨?_, (R.urn a ha).2⟩, R.tab.mut e2, R.s0, by rw [List.length_set]; exact R.len, fun a ha hn => ?_, R.u0, fun j d hj => ?_, fun j es hj => ?_, fun j k es es' q h1 h2 h3 h4 => ?_⟩
  · rw [upd_ne fun (z : a = p) => by rw [z, e3] at h; cases h]
    exact R.sub a o h
  · rw [upd_ne fun (z : a = p) => R.u0 a ha (by rw [z]; exact e4)]
    exact (R.urn a ha).1
  · rw [upd_ne fun (z : a = p) => hn (by rw [z]; exact e4)]
    exact R.ext a ha hn
  · rcases get j _ hj with ⟨_, h⟩ | ⟨_, h⟩
    · cases h
    · exact R.imm j d h
  · rcases get j _ hj with ⟨rfl, h⟩ | ⟨ne, h⟩
    · cases h
      exact ⟨p, vs', hp, upd_same, e3, e4, hd⟩
    · obtain ⟨q, ws, g1, g2, g3⟩ := R.own j es h
      exact ⟨q, ws, g1, by rw [upd_ne fun (z : q = p) => ne (R.dis j i es ds p h hi (by rw [g1, z]) hp)]; exact g2, g3⟩
  · obtain ⟨es1, h1⟩ := back j _ h1
    obtain ⟨es2, h2⟩ := back k _ h2
    exact R.dis j k es1 es2 q h1 h2 h3 h4
/-- the lent list is changed -/
theorem StR.urnSet (R : StR K au H0 F0 σ H F env u) {a : Addr} (ha : au = some a) (u' : U) : StR K au H0 F0 σ (upd H a (.lst (u'.map V.int))) F env u' := by
  refine ⟨fun b o h => ?_, fun b hb => ?_, R.tab.mut (R.urn a ha).1, R.s0, R.len, fun b hb hn => ?_, R.u0, R.imm, fun j es hj => ?_, R.dis⟩
  · rw [upd_ne fun (z : b = a) => by rw [z, (R.urn a ha).2] at h; cases h]
    exact R.sub b o h
  · rw [ha] at hb; cases hb
    exact ⟨upd_same, (R.urn a ha).2⟩
  · rw [upd_ne fun (z : b = a) => hb (by rw [z, ha])]
    exact R.ext b hb hn
  · obtain ⟨q, ws, g1, g2, g3, g4, g5⟩ := R.own j es hj
    exact ⟨q, ws, g1, by rw [upd_ne fun (z : q = a) => R.u0 a ha (by rw [← z]; exact g4)]; exact g2, g3, g4, g5⟩
/-- behind an expression whose value is taken in -/
theorem StR.aft (R : StR K au H0 F0 σ H F env u) (P : Post au (thaw env σ is H F) H F1 H1 u1) {v : V} {d : D} (h : Dp K F1 v d) :
    ∃ F', StR K au H0 F0 σ H1 F' (if noList d then env else freeze env is) u1 ∧ Dp K F' v d := by
  by_cases hn : noList d = true
  · rw [if_pos hn]; exact ⟨_, R.keep P, R.keepV P h hn⟩
  · rw [if_neg hn]; exact ⟨_, R.frz P, h⟩
theorem thaw_nil : thaw env σ [] H F = F := by
  funext a
  exact thaw_no fun ⟨_, h, _⟩ => by cases h
theorem hide_nil : hide env σ [] F = F := by
  funext a
  exact hide_no fun ⟨_, h, _⟩ => by cases h
theorem StR.step (R : StR K au H0 F0 σ H F env u) (P : Post au F H F1 H1 u1) : StR K au H0 F0 σ H1 F1 env u1 := by
  have h := R.keep (is := []) (by rw [thaw_nil]; exact P)
  rw [hide_nil] at h
  exact h
theorem own_of_after {env : Env} {d : D} {is : List Nat} {i : Nat} {ds : List D} (h : (if noList d then env else freeze env is)[i]? = some (Slot.own ds)) : env[i]? = some (Slot.own ds) := by
  split at h
  · exact h
  · rw [freeze_get] at h
    split at h
    · cases q : env[i]? with
      | none => rw [q] at h; cases h
      | some s => rw [q] at h; cases s <;> cases h
    · exact h

/-! ### what has come to stand still, for a loop -/
def base (H0 F1 : Hp) : Hp := fun a => match F1 a with | some o => some o | none => H0 a
theorem base_some {H0 F1 : Hp} {a : Addr} {o : HO} (h : F1 a = some o) : base H0 F1 a = some o := by unfold base; rw [h]
theorem base_none {H0 F1 : Hp} {a : Addr} (h : F1 a = none) : base H0 F1 a = H0 a := by unfold base; rw [h]
theorem base_ne {H0 F1 : Hp} {a : Addr} (h : H0 a ≠ none) : base H0 F1 a ≠ none := by
  cases q : F1 a with
  | none => rw [base_none q]; exact h
  | some o => rw [base_some q]; exact fun z => nomatch z
theorem StR.rebase (R : StR K au H0 F0 σ H F env u) : StR K au (base H0 F) F σ H F env u := by
  refine ⟨R.sub, R.urn, R.tab, R.s0, R.len, fun a ha hn => ⟨?_, rfl⟩, fun a ha => base_ne (R.u0 a ha), R.imm, fun i ds hi => ?_, R.dis⟩
  · cases q : F a with
    | some o => rw [base_some q]; exact .inl (R.sub a o q)
    | none => rw [base_none q] at hn ⊢; exact (R.ext a ha hn).1
  · obtain ⟨p, vs, h1, h2, h3, h4, h5⟩ := R.own i ds hi
    exact ⟨p, vs, h1, h2, h3, (base_none h3).trans h4, h5⟩
theorem ext_unbase {F2 H2 : Hp} (s : Sub F H) (hu : ∀ a, au = some a → F a = none) (e0 : Ext au F0 H0 F H) (e : Ext au F (base H0 F) F2 H2) : Ext au F0 H0 F2 H2 := fun a ha hn => by
  obtain ⟨h1, h2⟩ := e a ha (base_ne hn)
  obtain ⟨h3, h4⟩ := e0 a ha hn
  refine ⟨?_, h2.trans h4⟩
  cases q : F a with
  | none => rw [base_none q] at h1; exact h1
  | some o => rw [base_some q, ← s a o q] at h1; exact h3.trans h1
theorem StR.unbase {σ2 : St} {H2 F2 : Hp} {env2 : Env} {u2 : U} (R0 : StR K au H0 F0 σ H F env u) (R : StR K au (base H0 F) F σ2 H2 F2 env2 u2) : StR K au H0 F0 σ2 H2 F2 env2 u2 := by
  refine ⟨R.sub, R.urn, R.tab, R.s0, R.len, ext_unbase R0.sub R0.urn.hu R0.ext R.ext, R0.u0, R.imm, fun i ds hi => ?_, R.dis⟩
  obtain ⟨p, vs, h1, h2, h3, h4, h5⟩ := R.own i ds hi
  refine ⟨p, vs, h1, h2, h3, ?_, h5⟩
  cases q : F p with
  | none => rw [base_none q] at h4; exact h4
  | some o => rw [base_some q] at h4; cases h4
theorem RetR.unbase {fr : Bool} {v : V} {F2 H2 : Hp} {d : D} {u2 : U} (R0 : StR K au H0 F0 σ H F env u) (r : RetR fr K au (base H0 F) F v F2 H2 d u2) : RetR fr K au H0 F0 v F2 H2 d u2 :=
  ⟨⟨ext_unbase R0.sub R0.urn.hu R0.ext r.1.ext, r.1.sub, r.1.urn, r.1.tab⟩, r.2.back fun q hq => base_ne hq⟩
theorem StR.subBase {σ2 : St} {H2 F2 : Hp} {env2 : Env} {u2 : U} (R0 : StR K au H0 F0 σ H F env u) (R : StR K au (base H0 F) F σ2 H2 F2 env2 u2) : Sub F F2 := fun a o h => by
  have ha : some a ≠ au := fun e => by rw [R0.urn.hu a e.symm] at h; cases h
  rw [(R.ext a ha (by rw [base_some h]; exact fun z => nomatch z)).2]
  exact h
theorem StR.putMany : ∀ {is : List Nat} {ds : List D} {vs : List V} {σ : St} {env env' : Env}, StR K au H0 F0 σ H F env u → DpAll K F vs ds → bindMany is ds env = some env' → (au.isSome = true → 0 ∉ is) → StR K au H0 F0 (Pl.setMany is vs σ) H F env' u
  | [], [], _, σ, env, env', R, .nil, h, _ => by simp only [bindMany, Option.some.injEq] at h; subst h; exact R
  | [], _ :: _, _, σ, env, env', R, _, h, _ => by simp [bindMany] at h
  | _ :: _, [], _, σ, env, env', R, _, h, _ => by simp [bindMany] at h
  | i :: is, d :: ds, _, σ, env, env', R, .cons r rs, h, h0 => by
    simp only [bindMany] at h
    exact StR.putMany (is := is) (σ := σ.set i (some _)) (R.put (s := .imm d) r fun z e => h0 z (by rw [e]; exact List.mem_cons_self)) rs h fun z hm => h0 z (List.mem_cons_of_mem _ hm)
theorem StR.bind {t : Tg} {v : V} {d : D} {env' : Env} (R : StR K au H0 F0 σ H F env u) (r : Dp K F v d) (h : bindT t d env = some env') (h0 : au.isSome = true → 0 ∉ tgIx t) {Q : St → Hp → Prop}
    (q : ∀ σ', StR K au H0 F0 σ' H F env' u → Q σ' H) : wpG K t v σ H Q := by
  cases t with
  | one i =>
    simp only [bindT, Option.some.injEq] at h
    subst h
    exact q _ (R.put (s := .imm d) r fun z e => h0 z (by rw [e]; exact List.mem_singleton.mpr rfl))
  | many is =>
    cases d <;> simp only [bindT] at h <;> first | contradiction | skip
    obtain ⟨a, xs, rfl, h1, h2⟩ := dp_tuple r
    exact ⟨a, xs, rfl, sqT_sub R.sub h1, by rw [dpAll_len h2, bindMany_len h], q _ (R.putMany h2 h h0)⟩
end

section
variable {X : Cx} {C : Ctx} {ff : String → Bool} {au : Option Addr} {fr : Bool} {e a b c : Expr} {es : List Expr} {p pa pb pc : E} {ps : Es} {pos : Pos} {x : Str} {pos2 : Pos} {K : PySem.W.Frag} {H0 F0 : Hp} {st : Stmt} {sts sts2 : List Stmt} {s : S} {ss ss2 : Ss}

/-! ### comprehensions -/
theorem sim_comp {elt tg iter : Expr} {ifs : List Expr} {scope : Scope} {own : List (Str × Nat)} {t : Tg} {it : I} {cond : Eo} {pe : E} (hc : X.calm = true) (hN : X.N.Nodup) (hi : SimI X C au tg iter it) (ok : L2.BlkOk X.N X.env.scope scope own)
    (hg : ∀ (s : Shared) (H : Hp) (Ca : Addr) (cl : List (Str × Addr)) (fp : List Addr), SimG (X.blk s H scope (compEnvC scope cl Ca X.env) fp) tg t)
    (ht : ∀ (s : Shared) (H : Hp) (Ca : Addr) (cl : List (Str × Addr)) (fp : List Addr), SimC (X.blk s H scope (compEnvC scope cl Ca X.env) fp) C au ifs cond)
    (he : ∀ (s : Shared) (H : Hp) (Ca : Addr) (cl : List (Str × Addr)) (fp : List Addr), Sim (X.blk s H scope (compEnvC scope cl Ca X.env) fp) C ff au elt pe)
    (h0 : au.isSome = true → 0 ∉ own.map (·.2) ∧ 0 ∉ tgIx t) (hsub : ∀ i ∈ tgIx t, i ∈ own.map (·.2)) (hs : ∀ x, foldedSetIterable iter X.env x = pure x) :
    Sim X C ff au (.ListComp elt [⟨tg, iter, ifs, 0⟩] scope pos) (.comp pe t it cond (own.map (·.2))) :=
  ⟨L2.PE.imp (L2.pe_lc hc hN hi.t ok (fun s H Ca cl fp => (hg s H Ca cl fp).t) (fun s H Ca cl fp => (ht s H Ca cl fp).t) (fun s H Ca cl fp => (he s H Ca cl fp).pl) hs) fun σ H Q h => comp_imp h0 hsub h⟩
theorem simS_setLc {i : Nat} {elt tg iter : Expr} {ifs : List Expr} {scope : Scope} {own : List (Str × Nat)} {t : Tg} {it : I} {cond : Eo} {pe : E} {spos : Pos} (hc : X.calm = true) (hN : X.N.Nodup) (hy : X.N[i]? = some x) (hyl : X.env.scope.names.lookup x = some .local)
    (hsw : swapsWith (.ListComp elt [⟨tg, iter, ifs, 0⟩] scope pos) (some (.Name x pos2)) spos.line X.env = pure true) (hi : SimI X C au tg iter it) (ok : L2.BlkOk X.N X.env.scope scope own)
    (hg : ∀ (s : Shared) (H : Hp) (Ca : Addr) (cl : List (Str × Addr)) (fp : List Addr), SimG (X.blk s H scope (compEnvC scope cl Ca X.env) fp) tg t)
    (ht : ∀ (s : Shared) (H : Hp) (Ca : Addr) (cl : List (Str × Addr)) (fp : List Addr), SimC (X.blk s H scope (compEnvC scope cl Ca X.env) fp) C au ifs cond)
    (he : ∀ (s : Shared) (H : Hp) (Ca : Addr) (cl : List (Str × Addr)) (fp : List Addr), Sim (X.blk s H scope (compEnvC scope cl Ca X.env) fp) C ff au elt pe)
    (h0 : au.isSome = true → 0 ∉ own.map (·.2) ∧ 0 ∉ tgIx t) (h00 : au.isSome = true → i ≠ 0) (hsub : ∀ i ∈ tgIx t, i ∈ own.map (·.2)) (hs : ∀ x, foldedSetIterable iter X.env x = pure x) :
    SimS X C ff au fr (.Assign [.Name x pos2] (.ListComp elt [⟨tg, iter, ifs, 0⟩] scope pos) spos) (.set i (.comp pe t it cond (own.map (·.2)))) :=
  ⟨fun H0 F0 => (L2.ps_setLc hc hN hy hyl hsw hi.t ok (fun s H Ca cl fp => (hg s H Ca cl fp).t) (fun s H Ca cl fp => (ht s H Ca cl fp).t) (fun s H Ca cl fp => (he s H Ca cl fp).pl) hs).imp fun D σ H q =>
    comp_imp h0 hsub (set_core h00 q)⟩

/-! ### lists changed -/
theorem simS_setI {i : Nat} {o k : Expr} {pk : E} (he : Sim X C ff au e p) (ho : PE X o (L2.tVar i)) (hk : Sim X C ff au k pk)
    (h : ∀ {te ti : TE}, PE X e te → PE X k ti → PS X (.Assign [.Subscript o k pos2] e pos) (L2.tAsg te (L2.gSub (L2.tVar i) ti L2.rSetL))) :
    SimS X C ff au fr (.Assign [.Subscript o k pos2] e pos) (.setI i pk p) := ⟨fun H0 F0 => (h he.pl hk.pl).imp fun D σ H ⟨F, env, u, oo, R, ev, kk⟩ => by
  simp only [execS] at ev
  obtain ⟨⟨d, u1⟩, e1, ev⟩ := Option.bind_eq_some_iff.mp ev
  split at ev <;> first | contradiction | skip
  rename_i hn
  obtain ⟨⟨dk, u2⟩, e2, ev⟩ := Option.bind_eq_some_iff.mp ev
  split at ev <;> first | contradiction | skip
  rename_i ds n hi hdk
  simp only at hdk
  subst hdk
  obtain ⟨j, ej, ev⟩ := Option.bind_eq_some_iff.mp ev
  cases ev
  refine ⟨_, env, u, d, u1, R.at_ (fvE p), e1, fun v F1 H1 P1 r1 => ?_⟩
  have R1 := R.keep P1
  have d1 := R.keepV P1 r1 hn
  obtain ⟨q, vs, g1, g2, g3, g4, g5⟩ := R1.own i ds hi
  refine ⟨_, g1, _, env, u1, .int n, u2, R1.at_ (fvE pk), e2, fun v2 F2 H2 P2 r2 => ?_⟩
  have R2 := R1.keep P2
  have d2 := dp_sub (R1.subH P2) _ _ d1
  obtain ⟨q2, vs2, k1, k2, k3, k4, k5⟩ := R2.own i ds hi
  rw [g1] at k1
  cases k1
  refine ⟨q, vs2, n, j, rfl, dp_int r2, k2, ?_, kk _ _ _ (R2.mut hi g1 (dpAll_set j k5 d2))⟩
  rw [dpAll_len k5]
  exact ej⟩
theorem simS_setU {o k : Expr} {pk : E} (hau : au.isSome = true) (he : Sim X C ff au e p) (ho : PE X o (L2.tVar 0)) (hk : Sim X C ff au k pk)
    (h : ∀ {te ti : TE}, PE X e te → PE X k ti → PS X (.Assign [.Subscript o k pos2] e pos) (L2.tAsg te (L2.gSub (L2.tVar 0) ti L2.rSetL))) :
    SimS X C ff au fr (.Assign [.Subscript o k pos2] e pos) (.setU pk p) := ⟨fun H0 F0 => (h he.pl hk.pl).imp fun D σ H ⟨F, env, u, oo, R, ev, kk⟩ => by
  simp only [execS] at ev
  obtain ⟨⟨d, u1⟩, e1, ev⟩ := Option.bind_eq_some_iff.mp ev
  split at ev <;> first | contradiction | skip
  rename_i z hz
  simp only at hz
  subst hz
  obtain ⟨⟨dk, u2⟩, e2, ev⟩ := Option.bind_eq_some_iff.mp ev
  split at ev <;> first | contradiction | skip
  rename_i n hdk
  simp only at hdk
  subst hdk
  obtain ⟨j, ej, ev⟩ := Option.bind_eq_some_iff.mp ev
  cases ev
  obtain ⟨a, ha⟩ := Option.isSome_iff_exists.mp hau
  refine ⟨_, env, u, _, u1, R.at_ (fvE p), e1, fun v F1 H1 P1 r1 => ?_⟩
  have R1 := R.keep P1
  obtain rfl := dp_int r1
  refine ⟨_, R.s0 a ha, _, env, u1, .int n, u2, R1.at_ (fvE pk), e2, fun v2 F2 H2 P2 r2 => ?_⟩
  have R2 := R1.keep P2
  refine ⟨a, u2.map V.int, n, j, rfl, dp_int r2, (R2.urn a ha).1, ?_, ?_⟩
  · rw [List.length_map]; exact ej
  · have h := R2.urnSet ha (u2.set j z)
    rw [List.map_set] at h
    exact kk _ _ _ h⟩
theorem simS_app {i : Nat} (he : Sim X C ff au e p)
    (h : ∀ {te : TE}, PE X e te → PS X st (L2.tDrop (L2.tBM X.K "list" L2.rAppend (L2.tVar i) (L2.tCons te L2.tNil)))) : SimS X C ff au fr st (.app i p) :=
  ⟨fun H0 F0 => (h he.pl).imp fun D σ H ⟨F, env, u, oo, R, ev, kk⟩ => by
    simp only [execS] at ev
    obtain ⟨⟨d, u1⟩, e1, ev⟩ := Option.bind_eq_some_iff.mp ev
    simp only at ev
    split at ev <;> first | contradiction | skip
    rename_i ds hi
    split at ev <;> first | contradiction | skip
    rename_i hz
    cases ev
    have hi0 := own_of_after hi
    obtain ⟨q, vs, g1, g2, g3, g4, g5⟩ := R.own i ds hi0
    refine ⟨_, g1, .inl ⟨rfl, _, L2.SqL.of g2⟩, _, env, u, d, u1, R.at_ (fvE p), e1, fun v F1 H1 P1 r1 => ?_⟩
    obtain ⟨F2, R2, d2⟩ := R.aft P1 r1
    obtain ⟨q2, vs2, k1, k2, k3, k4, k5⟩ := R2.own i ds hi
    rw [g1] at k1
    cases k1
    exact ⟨q, vs2, v, rfl, rfl, k2, by rw [dpAll_len k5]; exact sizeLt_of hz, kk _ _ _ (R2.mut hi g1 (dpAll_append k5 (.cons d2 .nil)))⟩⟩
def rIns : V → List V → Hp → VK → Prop := fun x vs H Q => ∃ (l : Addr) (xs : List V) (i : Int) (y : V), x = .ref l ∧ vs = [.int i, y] ∧ H l = some (.lst xs) ∧ xs.length < sizeLine ∧ 0 ≤ i ∧ i < 2 ^ 63 ∧
    Q .non (upd H l (.lst (xs.take i.toNat ++ [y] ++ xs.drop i.toNat)))
theorem simS_ins {i : Nat} {k : Expr} {pk : E} (hk : Sim X C ff au k pk) (he : Sim X C ff au e p)
    (h : ∀ {ti te : TE}, PE X k ti → PE X e te → PS X st (L2.tDrop (L2.tBM X.K "list" rIns (L2.tVar i) (L2.tCons ti (L2.tCons te L2.tNil))))) : SimS X C ff au fr st (.ins i pk p) :=
  ⟨fun H0 F0 => (h hk.pl he.pl).imp fun D σ H ⟨F, env, u, oo, R, ev, kk⟩ => by
    simp only [execS] at ev
    obtain ⟨⟨dk, u1⟩, e1, ev⟩ := Option.bind_eq_some_iff.mp ev
    obtain ⟨⟨d, u2⟩, e2, ev⟩ := Option.bind_eq_some_iff.mp ev
    split at ev <;> first | contradiction | skip
    rename_i hn
    dsimp only at ev hn
    split at ev <;> first | contradiction | skip
    rename_i ds n hi hdk
    split at ev <;> first | contradiction | skip
    rename_i hz
    cases ev
    simp only [Bool.and_eq_true, decide_eq_true_eq] at hz
    obtain ⟨⟨z0, z1⟩, z2⟩ := hz
    obtain ⟨q, vs, g1, g2, g3, g4, g5⟩ := R.own i ds hi
    refine ⟨_, g1, .inl ⟨rfl, _, L2.SqL.of g2⟩, _, env, u, .int n, u1, R.at_ (fvE pk), e1, fun v F1 H1 P1 r1 => ?_⟩
    have R1 := R.keep P1
    refine ⟨_, env, u1, d, u2, R1.at_ (fvE p), e2, fun v2 F2 H2 P2 r2 => ?_⟩
    have R2 := R1.keep P2
    have d2 := R1.keepV P2 r2 hn
    obtain ⟨q2, vs2, k1, k2, k3, k4, k5⟩ := R2.own i ds hi
    rw [g1] at k1
    cases k1
    have hlen : ds.length ≤ 100000 := of_decide_eq_true z2
    have e3 : ds.take n.toNat ++ d :: ds.drop n.toNat = ds.take n.toNat ++ [d] ++ ds.drop n.toNat := by simp
    refine ⟨q, vs2, n, v2, rfl, by rw [dp_int r1], k2, by rw [dpAll_len k5]; exact sizeLt_of z2, z0, by omega, ?_⟩
    rw [show vs2.take n.toNat ++ [v2] ++ vs2.drop n.toNat = vs2.take n.toNat ++ v2 :: vs2.drop n.toNat by simp]
    exact kk _ _ _ (R2.mut hi g1 (dpAll_append (dpAll_take n.toNat k5) (.cons d2 (dpAll_drop n.toNat k5))))⟩
theorem simS_pop {i : Nat} (h : PS X st (L2.tDrop (L2.tBM0 X.K "list" L2.rPop (L2.tVar i)))) : SimS X C ff au fr st (.pop i) :=
  ⟨fun H0 F0 => h.imp fun D σ H ⟨F, env, u, oo, R, ev, kk⟩ => by
    simp only [execS] at ev
    split at ev <;> first | contradiction | skip
    rename_i ds hi
    split at ev <;> first | contradiction | skip
    rename_i hz
    cases ev
    obtain ⟨q, vs, g1, g2, g3, g4, g5⟩ := R.own i ds hi
    have hl := dpAll_len g5
    have hne : vs ≠ [] := fun z => hz (by rw [z] at hl; cases ds with | nil => rfl | cons _ _ => cases hl)
    refine ⟨_, g1, .inl ⟨rfl, _, L2.SqL.of g2⟩, q, vs, vs.getLast hne, rfl, rfl, g2, ?_, kk _ _ _ (R.mut hi g1 (dpAll_dropLast g5))⟩
    rw [← List.getLast?_eq_getElem?, List.getLast?_eq_getLast hne]⟩
end
end Pl

/-! PSound9: statements with parts; several values at once. -/
namespace Pl
open PySem
open L2 (V Hp HO St VK TE TT TA TS TI TG TGs Cx PE PT PW PA PS PSs PI PG PGs Inv SqL SqT upd upd_same upd_ne OpR UnR CallR R2 Vals RelV EP Gl Vis It Ends)
variable [Tabl]

def runN {α β : Type} (step : α → Option (Sum α β)) : Nat → α → Option β
  | 0, _ => none
  | n + 1, a => match step a with
    | none => none
    | some (.inl a') => runN step n a'
    | some (.inr b) => some b
theorem whileO_runN {α β : Type} (step : α → Option (Sum α β)) (a : α) (b : β) (h : whileO step a = some b) : ∃ n, runN step n a = some b := by
  refine whileO.partial_correctness step (fun a b => ∃ n, runN step n a = some b) ?_ a b h
  intro f ih a r e
  split at e
  · cases e
  · rename_i a' q
    obtain ⟨n, hn⟩ := ih a' r e
    exact ⟨n + 1, by unfold runN; rw [q]; exact hn⟩
  · rename_i b' q
    exact ⟨1, by unfold runN; rw [q]; exact e⟩

/-- values of several expressions, new lists still new -/
def RrAll (ff : String → Bool) (K : PySem.W.Frag) (F' H' : Hp) : Hp → Es → List V → List D → Prop
  | _, .nil, [], [] => True
  | H, .cons e es, v :: vs, d :: ds => Rr (fk ff e) K H F' H' v d ∧ ∃ H1, (∀ a, H a ≠ none → H1 a ≠ none) ∧ (fk ff e = true → isL d = true → ∀ p, v = .ref p → H1 p ≠ none) ∧ RrAll ff K F' H' H1 es vs ds
  | _, _, _, _ => False
def wpEsR (ff : String → Bool) (K : PySem.W.Frag) (C : Ctx) (au : Option Addr) (p : Es) : TA := fun σ H Q =>
  ∃ F env u ds u', At K au σ H F env u (fvEs p) ∧ evalEs C p env u = some (ds, u') ∧ ∀ vs F' H', Post au F H F' H' u' → RrAll ff K F' H' H p vs ds → Q vs H'
structure SimAR (X : Cx) (C : Ctx) (ff : String → Bool) (au : Option Addr) (es : List Expr) (p : Es) : Prop where
  t : PA X es (wpEsR ff X.K C au p)

section
variable {X : Cx} {C : Ctx} {ff : String → Bool} {au : Option Addr} {fr : Bool} {e a b c : Expr} {es : List Expr} {p pa pb pc : E} {ps : Es} {pos : Pos} {x y z : Str} {pos2 : Pos} {K : PySem.W.Frag} {H0 F0 : Hp} {st : Stmt} {sts sts2 : List Stmt} {s : S} {ss ss2 : Ss}

theorem simAR_nil : SimAR X C ff au [] .nil := ⟨L2.PA.imp L2.pa_nil fun σ H Q ⟨F, env, u, d, u', A, ev, k⟩ => by
  simp only [evalEs, Option.some.injEq, Prod.mk.injEq] at ev
  obtain ⟨rfl, rfl⟩ := ev
  exact k [] F H A.post trivial⟩
theorem Rr.on {b : Bool} {au : Option Addr} {F H F' H' F'' H'' : Hp} {v : V} {d : D} {u' u'' : U} (r : Rr b K H F' H' v d) (P1 : Post au F H F' H' u') (P : Post au F' H' F'' H'' u'') (hh : ∀ a, au = some a → H a ≠ none) : Rr b K H F'' H'' v d := by
  have sF : Sub F' F'' := P.ext.sub P1.sub P1.urn.hu
  cases b with
  | false => exact dp_sub sF _ _ r
  | true =>
    cases d with
    | list ds =>
      obtain ⟨a, vs, rfl, h1, h2, h3, h4⟩ := r
      obtain ⟨e1, e2⟩ := P.ext a (fun q => hh a q.symm h1) (by rw [h3]; exact fun q => nomatch q)
      exact ⟨a, vs, rfl, h1, e2.trans h2, e1.lst h3, dpAll_sub sF _ _ h4⟩
    | _ => exact dp_sub sF _ _ r
theorem simAR_cons (ha : Sim X C ff au a pa) (hs : SimAR X C ff au es ps) (hst : starEach (a :: es) X.env = (false, eval a X.env) :: starEach es X.env) : SimAR X C ff au (a :: es) (.cons pa ps) :=
  ⟨L2.PA.imp (L2.pa_cons ha.raw hs.t hst) fun σ H Q ⟨F, env, u, d, u', A, ev, k⟩ => by
    simp only [evalEs] at ev
    obtain ⟨⟨da, u1⟩, e1, ev⟩ := Option.bind_eq_some_iff.mp ev
    obtain ⟨⟨ds, u2⟩, e2, ev⟩ := Option.bind_eq_some_iff.mp ev
    cases ev
    refine ⟨F, env, u, da, u1, A.l, e1, fun v F1 H1 P1 r1 => ?_⟩
    have A1 := A.step P1
    refine ⟨F1, env, u1, ds, u2, A1.r, e2, fun vs F2 H2 P2 r2 => ?_⟩
    refine k _ F2 H2 (P1.trans P2) ⟨r1.on P1 P2 A.urn.hh, H1, fun q hq => P1.grow hq, fun hk hl q hq => ?_, r2⟩
    rw [hk] at r1
    cases da <;> simp [isL] at hl
    obtain ⟨w, vs, rfl, h1, h2, h3, h4⟩ := r1
    cases hq
    rw [h3]
    exact fun z => nomatch z⟩
/-- the slots of several values, stored one by one -/
theorem putAll : ∀ {is : List Nat} {ps : Es} {ds : List D} {vs : List V} {sl : List Slot} {σ : St} {H F Hb : Hp} {env env' : Env} {u : U}, StR K au H0 F0 σ H F env u → RrAll ff K F H Hb ps vs ds → parSlots ff ps ds = some sl → setAll is sl env = some env' →
    (au.isSome = true → 0 ∉ is) → (∀ (j : Nat) ds' q, env[j]? = some (Slot.own ds') → σ[j]? = some (some (V.ref q)) → Hb q ≠ none) → (∀ q, H0 q ≠ none → Hb q ≠ none) → StR K au H0 F0 (Pl.setMany is vs σ) H F env' u
  | [], ps, ds, vs, [], σ, H, F, Hb, env, env', u, R, r, h1, h2, _, _, _ => by
    simp only [setAll, Option.some.injEq] at h2
    subst h2
    exact R
  | [], _, _, _, _ :: _, _, _, _, _, _, _, _, _, _, _, h2, _, _, _ => by simp [setAll] at h2
  | _ :: _, _, _, _, [], _, _, _, _, _, _, _, _, _, _, h2, _, _, _ => by simp [setAll] at h2
  | i :: is, .nil, [], vs, s :: sl, _, _, _, _, _, _, _, _, _, h1, _, _, _, _ => by simp [parSlots] at h1
  | i :: is, .nil, _ :: _, vs, s :: sl, _, _, _, _, _, _, _, _, _, h1, _, _, _, _ => by simp [parSlots] at h1
  | i :: is, .cons _ _, [], vs, s :: sl, _, _, _, _, _, _, _, _, _, h1, _, _, _, _ => by simp [parSlots] at h1
  | i :: is, .cons p ps, d :: ds, [], s :: sl, _, _, _, _, _, _, _, _, r, _, _, _, _, _ => by simp [RrAll] at r
  | i :: is, .cons p ps, d :: ds, v :: vs, s :: sl, σ, H, F, Hb, env, env', u, R, r, h1, h2, h0, hb, hz => by
    simp only [parSlots, Option.map_eq_some_iff] at h1
    obtain ⟨sl', h1, e⟩ := h1
    cases e
    simp only [setAll] at h2
    obtain ⟨r1, H1, g1, g2, r2⟩ := r
    have so : SlotOk K H0 F H env σ i v (slotOf ff p d) := by
      unfold slotOf
      by_cases hk : fk ff p = true
      · rw [if_pos hk]
        rw [hk] at r1
        cases d with
        | list xs =>
          obtain ⟨q, ws, rfl, k1, k2, k3, k4⟩ := r1
          refine ⟨q, ws, rfl, k3, k2, ?_, k4, fun j ds' hj _ e => hb j ds' q hj e k1⟩
          cases z : H0 q with
          | none => rfl
          | some o => exact absurd k1 (hz q (by rw [z]; exact fun z => nomatch z))
        | _ => exact r1
      · rw [if_neg hk]
        have hk' : fk ff p = false := by simpa using hk
        rw [hk'] at r1
        exact r1
    refine putAll (is := is) (R.put so fun q e => h0 q (by rw [e]; exact List.mem_cons_self)) r2 h1 h2 (fun q hm => h0 q (List.mem_cons_of_mem _ hm)) (fun j ds' q hj hq => ?_) fun q hq => g1 q (hz q hq)
    by_cases e : i = j
    · subst e
      by_cases hl : i < env.length
      · rw [List.getElem?_set_self hl] at hj
        rw [List.getElem?_set_self (by rw [← R.len]; exact hl)] at hq
        cases hq
        unfold slotOf at hj
        split at hj <;> first | (cases hj; done) | skip
        rename_i hk
        cases d <;> first | (cases hj; done) | skip
        exact g2 hk rfl q rfl
      · rw [List.getElem?_eq_none (by rw [List.length_set]; omega)] at hj
        cases hj
    · rw [List.getElem?_set_ne e] at hj hq
      exact g1 q (hb j ds' q hj hq)
theorem rrAll_noList {F F' H' Hb : Hp} (hT : ∀ a xs, SqT K F' a xs → SqT K F a xs) (hn : ∀ a, F' a = none → F a = none) : ∀ {ps : Es} {vs : List V} {ds : List D} {Hb : Hp}, parWithin ff ps ds = true → RrAll ff K F' H' Hb ps vs ds → RrAll ff K F H' Hb ps vs ds
  | .nil, [], [], _, _, _ => trivial
  | .nil, [], _ :: _, _, _, r => r
  | .nil, _ :: _, [], _, _, r => r
  | .nil, _ :: _, _ :: _, _, _, r => r
  | .cons _ _, [], [], _, _, r => r
  | .cons _ _, [], _ :: _, _, _, r => r
  | .cons _ _, _ :: _, [], _, _, r => r
  | .cons p ps, v :: vs, d :: ds, Hb, h, ⟨r, H1, g1, g2, r2⟩ => by
    simp only [parWithin, Bool.and_eq_true] at h
    refine ⟨?_, H1, g1, g2, rrAll_noList (Hb := Hb) hT hn h.2 r2⟩
    have hw := h.1
    unfold within at hw
    by_cases hk : fk ff p = true
    · rw [if_pos hk] at hw
      rw [hk] at r ⊢
      cases d with
      | list xs =>
        obtain ⟨q, ws, rfl, k1, k2, k3, k4⟩ := r
        exact ⟨q, ws, rfl, k1, hn _ k2, k3, dpAll_noList hT _ _ hw k4⟩
      | _ => exact dp_noList hT _ _ hw r
    · rw [if_neg hk] at hw
      have hk' : fk ff p = false := by simpa using hk
      rw [hk'] at r ⊢
      exact dp_noList hT _ _ hw r
theorem par_core {is : List Nat} {D : Ends} {σ : St} {H : Hp} (h0 : au.isSome = true → 0 ∉ is) (h : wpS fr C ff K au H0 F0 (.par is ps) D σ H) : wpEsR ff K C au ps σ H fun vs H1 => D.nx (Pl.setMany is vs σ) H1 := by
  obtain ⟨F, env, u, o, R, ev, k⟩ := h
  simp only [execS] at ev
  obtain ⟨⟨ds, u1⟩, e1, ev⟩ := Option.bind_eq_some_iff.mp ev
  obtain ⟨sl, e2, ev⟩ := Option.bind_eq_some_iff.mp ev
  obtain ⟨env', e3, ev⟩ := Option.bind_eq_some_iff.mp ev
  cases ev
  refine ⟨_, env, u, ds, u1, R.at_ (fvEs ps), e1, fun vs F1 H1 P r => ?_⟩
  have hH : ∀ q, H0 q ≠ none → H q ≠ none := fun q hq => by
    by_cases e : some q = au
    · exact R.urn.hh q e.symm
    · exact (R.ext q e hq).1.ne hq
  have hO : ∀ (env2 : Env), (∀ (j : Nat) ds', env2[j]? = some (Slot.own ds') → env[j]? = some (Slot.own ds')) → ∀ (j : Nat) ds' q, env2[j]? = some (Slot.own ds') → σ[j]? = some (some (V.ref q)) → H q ≠ none := fun env2 he j ds' q hj hq => by
    obtain ⟨q2, vs2, g1, g2, _⟩ := R.own j ds' (he j ds' hj)
    rw [hq] at g1
    cases g1
    rw [g2]; exact fun z => nomatch z
  by_cases hw : parWithin ff ps ds = true
  · rw [if_pos hw] at e3
    refine k _ _ _ (putAll (R.keep P) (rrAll_noList (H' := H1) (Hb := H) (fun _ _ q => R.noHeld P q) (fun a q => ?_) hw r) e2 e3 h0 (hO env fun _ _ h => h) hH)
    by_cases z : Held env σ (fvEs ps) a
    · exact hide_yes z
    · rw [hide_no z]; exact q
  · rw [if_neg hw] at e3
    refine k _ _ _ (putAll (R.frz P) r e2 e3 h0 (hO _ fun j ds' h => ?_) hH)
    rw [freeze_get] at h
    split at h
    · cases q : env[j]? with
      | none => rw [q] at h; cases h
      | some s => rw [q] at h; cases s <;> cases h
    · exact h
theorem simS_par2 {i j : Nat} (hs : SimAR X C ff au es ps) (h : PA X es (wpEsR ff X.K C au ps) → PS X st (L2.tPar i j (wpEsR ff X.K C au ps))) (hl : ∀ (vs : List V) (ds : List D) (F' H' Hb : Hp), RrAll ff X.K F' H' Hb ps vs ds → ∃ v w, vs = [v, w])
    (h0 : au.isSome = true → 0 ∉ [i, j]) : SimS X C ff au fr st (.par [i, j] ps) := ⟨fun H0 F0 => (h hs.t).imp fun D σ H q => by
  obtain ⟨F, env, u, ds, u', A, ev, k⟩ := par_core h0 q
  refine ⟨F, env, u, ds, u', A, ev, fun vs F' H' P r => ?_⟩
  obtain ⟨v, w, rfl⟩ := hl _ _ _ _ _ r
  exact ⟨v, w, rfl, k _ F' H' P r⟩⟩
theorem simS_par3 {i j l : Nat} (hs : SimAR X C ff au es ps) (h : PA X es (wpEsR ff X.K C au ps) → PS X st (L2.tPar3 i j l (wpEsR ff X.K C au ps))) (hl : ∀ (vs : List V) (ds : List D) (F' H' Hb : Hp), RrAll ff X.K F' H' Hb ps vs ds → ∃ u v w, vs = [u, v, w])
    (h0 : au.isSome = true → 0 ∉ [i, j, l]) : SimS X C ff au fr st (.par [i, j, l] ps) := ⟨fun H0 F0 => (h hs.t).imp fun D σ H q => by
  obtain ⟨F, env, u, ds, u', A, ev, k⟩ := par_core h0 q
  refine ⟨F, env, u, ds, u', A, ev, fun vs F' H' P r => ?_⟩
  obtain ⟨z, v, w, rfl⟩ := hl _ _ _ _ _ r
  exact ⟨z, v, w, rfl, k _ F' H' P r⟩⟩
theorem rrAll_cons {p : E} {vs : List V} {ds : List D} {F' H' Hb : Hp} (r : RrAll ff K F' H' Hb (.cons p ps) vs ds) : ∃ v ws es H1, vs = v :: ws ∧ RrAll ff K F' H' H1 ps ws es := by
  cases vs with
  | nil => cases ds <;> exact False.elim r
  | cons v ws =>
    cases ds with
    | nil => exact False.elim r
    | cons d es =>
      obtain ⟨_, H1, _, _, r2⟩ := r
      exact ⟨v, ws, es, H1, rfl, r2⟩
theorem rrAll_nil {vs : List V} {ds : List D} {F' H' Hb : Hp} (r : RrAll ff K F' H' Hb .nil vs ds) : vs = [] := by
  cases vs with
  | nil => rfl
  | cons v ws => cases ds <;> exact False.elim r
theorem rrAll_2 {pa pb : E} {vs : List V} {ds : List D} {F' H' Hb : Hp} (r : RrAll ff K F' H' Hb (.cons pa (.cons pb .nil)) vs ds) : ∃ v w, vs = [v, w] := by
  obtain ⟨v, ws, es, H1, rfl, r1⟩ := rrAll_cons r
  obtain ⟨w, ws, es, H2, rfl, r2⟩ := rrAll_cons r1
  rw [rrAll_nil r2]
  exact ⟨v, w, rfl⟩
theorem rrAll_3 {pa pb pc : E} {vs : List V} {ds : List D} {F' H' Hb : Hp} (r : RrAll ff K F' H' Hb (.cons pa (.cons pb (.cons pc .nil))) vs ds) : ∃ u v w, vs = [u, v, w] := by
  obtain ⟨v, ws, es, H1, rfl, r1⟩ := rrAll_cons r
  obtain ⟨w, ws, es, H2, rfl, r2⟩ := rrAll_cons r1
  obtain ⟨x, ws, es, H3, rfl, r3⟩ := rrAll_cons r2
  rw [rrAll_nil r3]
  exact ⟨v, w, x, rfl⟩

/-! ### if, while, for -/
theorem simS_ite {sta stb : List Stmt} {sa sb : Ss} (hc : SimT X C au c pc) (ha : SimSs X C ff au fr sta sa) (hb : SimSs X C ff au fr stb sb) : SimS X C ff au fr (.If c sta stb pos) (.ite pc sa sb) :=
  ⟨fun H0 F0 => (L2.ps_if hc.t (ha.t H0 F0) (hb.t H0 F0)).imp fun D σ H ⟨F, env, u, o, R, ev, k⟩ => by
    simp only [execS] at ev
    obtain ⟨⟨d, u1⟩, e1, ev⟩ := Option.bind_eq_some_iff.mp ev
    cases d <;> simp only at ev <;> first | contradiction | skip
    rename_i q
    refine ⟨_, env, u, q, u1, R.at_ (fvE pc), e1, fun F1 H1 P => ?_⟩
    have R1 := R.keep P
    cases q with
    | true => exact ⟨_, env, u1, o, R1, ev, k⟩
    | false => exact ⟨_, env, u1, o, R1, ev, k⟩⟩
theorem simS_whil {stb : List Stmt} {sb : Ss} (hp : PassesOwn (model X.prog X.w) X.A X.env X.xe) (hc : SimT X C au c pc) (hb : SimSs X C ff au fr stb sb) : SimS X C ff au fr (.While c stb [] pos) (.whil pc sb) :=
  ⟨fun H0 F0 => (L2.ps_while hp hc.t (hb.t H0 F0)).imp fun D σ H ⟨F, env, u, o, R, ev, k⟩ => by
    simp only [execS] at ev
    obtain ⟨n, ev⟩ := whileO_runN _ _ _ ev
    refine ⟨fun m σ H => ∃ F env u, StR X.K au H0 F0 σ H F env u ∧ runN (fun (q : Env × U) => (evalE C pc q.1 q.2).bind fun rc => match rc with
      | (.bool k, u1) => if k = true then (execSs C ff sb q.1 u1).bind fun o => (match o with
          | .nx env' u' => some (.inl (env', u'))
          | .ct env' u' => some (.inl (env', u'))
          | .bk env' u' => some (.inr (O.nx env' u'))
          | .rt d u' => some (.inr (O.rt d u'))) else some (.inr (O.nx q.1 u1))
      | _ => none) m (env, u) = some o, ⟨n, F, env, u, R, ev⟩, ?_⟩
    rintro m σ1 H1 ⟨F1, env1, u1, R1, ev1⟩
    cases m with
    | zero => simp [runN] at ev1
    | succ m =>
      unfold runN at ev1
      split at ev1
      · cases ev1
      · rename_i q hq
        obtain ⟨⟨d, u2⟩, e1, hq⟩ := Option.bind_eq_some_iff.mp hq
        cases d <;> simp only at hq <;> first | contradiction | skip
        rename_i bb
        refine ⟨_, env1, u1, bb, u2, R1.at_ (fvE pc), e1, fun F2 H2 P => ?_⟩
        have R2 := R1.keep P
        cases bb with
        | false => simp at hq
        | true =>
          simp only [if_true] at hq ⊢
          obtain ⟨o2, e2, hq⟩ := Option.bind_eq_some_iff.mp hq
          refine ⟨fun σ' H' => ∃ m', m' < m + 1 ∧ ∃ F env u, StR X.K au H0 F0 σ' H' F env u ∧ runN _ m' (env, u) = some o, fun _ _ h => h, _, env1, u2, o2, R2, e2, ?_⟩
          cases o2 <;> simp only [Option.some.injEq, Sum.inl.injEq, reduceCtorEq] at hq
          · subst hq
            exact fun σ' H' F' R' => ⟨m, Nat.lt_succ_self m, F', _, _, R', ev1⟩
          · subst hq
            exact fun σ' H' F' R' => ⟨m, Nat.lt_succ_self m, F', _, _, R', ev1⟩
      · rename_i q hq
        cases ev1
        obtain ⟨⟨d, u2⟩, e1, hq⟩ := Option.bind_eq_some_iff.mp hq
        cases d <;> simp only at hq <;> first | contradiction | skip
        rename_i bb
        refine ⟨_, env1, u1, bb, u2, R1.at_ (fvE pc), e1, fun F2 H2 P => ?_⟩
        have R2 := R1.keep P
        cases bb with
        | false =>
          simp only [Bool.false_eq_true, if_false, Option.some.injEq, Sum.inr.injEq] at hq ⊢
          subst hq
          exact k _ _ _ R2
        | true =>
          simp only [if_true] at hq ⊢
          obtain ⟨o2, e2, hq⟩ := Option.bind_eq_some_iff.mp hq
          refine ⟨fun σ' H' => False, fun _ _ h => h.elim, _, env1, u2, o2, R2, e2, ?_⟩
          cases o2 <;> simp only [Option.some.injEq, Sum.inr.injEq, reduceCtorEq] at hq
          · subst hq
            exact k
          · subst hq
            exact k⟩
theorem simS_for {tg iter : Expr} {t : Tg} {it : I} {stb : List Stmt} {sb : Ss} (hp : PassesOwn (model X.prog X.w) X.A X.env X.xe) (hc : X.calm = true) (hi : SimI X C au tg iter it) (hg : SimG X tg t) (hb : SimSs X C ff au fr stb sb) (h0 : au.isSome = true → 0 ∉ tgIx t)
    (hs : ∀ x, foldedSetIterable iter X.env x = pure x) : SimS X C ff au fr (.For tg iter stb [] pos) (.for_ t it sb) :=
  ⟨fun H0 F0 => by
    -- the loop's body over what stands still behind the row
    refine ⟨fun pins s σ H D I h => ?_⟩
    obtain ⟨F, env, u, o, R, ev, k⟩ := h
    simp only [execS] at ev
    obtain ⟨⟨ds, u1⟩, e1, ev⟩ := Option.bind_eq_some_iff.mp ev
    split at ev <;> first | contradiction | skip
    rename_i hz
    have key : ∀ J F1 H1, StR X.K au H0 F0 σ H1 F1 (if iterOk it then env else freeze env (fvI it)) u1 → Feeds X.K F1 J ds → ∃ W : Nat → Nat → St → Hp → Prop, (∃ m, W 0 m σ H1) ∧ ∀ i m σ H, W i m σ H →
        (J.stop i H ∧ D.nx σ H) ∨ (J.go i H ∧ ∃ N : St → Hp → Prop, (∀ σ' H', N σ' H' → ∃ m', m' < m ∧ W (i + 1) m' σ' H') ∧ ∀ x H', J.yld i H x H' → wpG X.K t x σ H' fun σ2 H2 =>
          (fun D σ H => ∃ H0 F0, wpSs fr C ff X.K au H0 F0 sb D σ H) { D with nx := N, ct := N, bk := D.nx } σ2 H2) := fun J F1 H1 R1 fd => by
      refine ⟨fun i m σ2 H2 => m = ds.length - i ∧ i ≤ ds.length ∧ ∃ F2 env2 u2, StR X.K au (base H0 F1) F1 σ2 H2 F2 env2 u2 ∧ forL (fun d env u => (bindT t d env).bind fun env' => execSs C ff sb env' u) (ds.drop i) env2 u2 = some o, ⟨_, rfl, Nat.zero_le _, F1, _, u1, R1.rebase, by rw [List.drop_zero]; exact ev⟩, ?_⟩
      rintro i m σ2 H2 ⟨rfl, hi, F2, env2, u2, R2, ev2⟩
      obtain ⟨hgo, hstop⟩ := fd F2 H2 (R1.subBase R2) R2.sub i
      by_cases hlt : i < ds.length
      · obtain ⟨go, yld⟩ := hgo _ (List.getElem?_eq_getElem hlt)
        rw [List.drop_eq_getElem_cons hlt] at ev2
        simp only [forL] at ev2
        obtain ⟨o2, e2, ev2⟩ := Option.bind_eq_some_iff.mp ev2
        obtain ⟨env3, e3, e2⟩ := Option.bind_eq_some_iff.mp e2
        refine .inr ⟨go, fun σ' H' => ∃ m', m' < ds.length - i ∧ (m' = ds.length - (i + 1) ∧ i + 1 ≤ ds.length ∧ ∃ F2 env2 u2, StR X.K au (base H0 F1) F1 σ' H' F2 env2 u2 ∧ forL (fun d env u => (bindT t d env).bind fun env' => execSs C ff sb env' u) (ds.drop (i + 1)) env2 u2 = some o), fun _ _ h => h, fun y H3 hy => ?_⟩
        obtain ⟨F3, x3, s3, dp3⟩ := yld y H3 hy
        have R3 := R2.step (Post.of R2.urn R2.tab x3 s3)
        refine R3.bind dp3 e3 h0 fun σ4 R4 => ⟨_, _, F3, env3, u2, o2, R4, e2, ?_⟩
        cases o2 with
        | nx env5 u5 => exact fun σ5 H5 F5 R5 => ⟨_, by omega, rfl, hlt, F5, env5, u5, R5, ev2⟩
        | ct env5 u5 => exact fun σ5 H5 F5 R5 => ⟨_, by omega, rfl, hlt, F5, env5, u5, R5, ev2⟩
        | bk env5 u5 =>
          cases ev2
          exact fun σ5 H5 F5 R5 => k _ _ _ (R1.unbase R5)
        | rt d5 u5 =>
          cases ev2
          exact fun v5 F5 H5 r5 => k _ _ _ (RetR.unbase R1 r5)
      · have e : i = ds.length := by omega
        subst e
        rw [List.drop_length] at ev2
        simp only [forL, Option.some.injEq] at ev2
        subst ev2
        exact .inl ⟨hstop (Nat.le_refl _), k _ _ _ (R1.unbase R2)⟩
    have hb' : PSs X stb (fun D σ H => ∃ H0 F0, wpSs fr C ff X.K au H0 F0 sb D σ H) := ⟨fun pins s σ H D I ⟨H0, F0, h⟩ => (hb.t H0 F0).run pins s σ H D I h⟩
    refine (L2.ps_for (pos := pos) hp hc hi.t hg.t hb' hs).run pins s σ H D I ⟨_, env, u, ds, u1, R.at_ (fvI it), e1, fun J F1 H1 P fd fd2 => ?_⟩
    by_cases hk : iterOk it = true
    · exact key J _ H1 (by rw [if_pos hk]; exact R.keep P) (fd2 hk _)
    · exact key J F1 H1 (by rw [if_neg hk]; exact R.frz P) fd⟩
end
end Pl

/-! PSound10: defs and their calls (with the marks of repr known to be none). -/
namespace Pl
open PySem PyProof.Rows
open L2 (V Hp HO VK XK TE TT TA TS Cx PE PA PS PSs Inv SqL SqT Dp DpAll Vals RelV EP Gl Vis Ends Sp FnScope Env0 CE CR CX0 Room Fun Binds KBinds PK)

structure RoomG (b : Bool) (k : Nat) (A : Around) : Prop where
  rm : Room k A
  gd : b = true → A.guards = some []
theorem RoomG.deeper {b : Bool} {k : Nat} {A : Around} (r : RoomG b (k + 1) A) (env : PySem.Env) : RoomG b k (A.deeper env) := ⟨r.rm.deeper env, r.gd⟩
theorem RoomG.mono {b : Bool} {j k : Nat} {A : Around} (r : RoomG b k A) (h : j ≤ k) : RoomG b j A := ⟨r.rm.mono h, r.gd⟩

section
variable {P : Program} {w : World} {K : PySem.W.Frag} {mg : Str → Option Value} {bas : Heap} {b : Bool} {k : Nat} {f : Addr} {fd : FuncData} {ps : List Str} {sp : Sp}
structure FnG (P : Program) (w : World) (K : PySem.W.Frag) (mg : Str → Option Value) (bas : Heap) (b : Bool) (k : Nat) (f : Addr) (fd : FuncData) (ps : List Str) (sp : Sp) : Prop where
  len : ∀ vs H Q E, sp vs H Q E → vs.length = ps.length
  go : ∀ (A : Around), RoomG b k A → ∀ (outer : List PySem.Env) (s : Shared) (H : Hp), Env0 P w K mg bas A outer s H →
    ∀ (args : Args) (us : List Value) (vs : List V), BindsTo s fd args (ps.zip us) → Vals vs us →
    ∀ (Q : VK) (E : XK), sp vs H Q E → codeAny (model P w) A (.call (.ref f) args) (CR CX0 outer P w H s Q E) s

/-- a def keeps its promise if its body does -/
theorem fnG_of {x qual : Str} {st : Stmt} {N : List Str} (hf : Fun K x qual st f fd) (S : FnScope N ps (L2.defScope st)) (len : ∀ vs H Q E, sp vs H Q E → vs.length = ps.length)
    (body : ∀ (cdv : Value), fd.code = cdv → ∀ (A : Around) (outer : List PySem.Env) (s : Shared) (H : Hp) (vs : List V) (Q : VK) (E : XK), RoomG b k (A.deeper (envOfC qual (L2.defScope st) s.heap.objs.size f cdv)) → sp vs H Q E →
      ∃ t, PSs (L2.cxOf CX0 P w K mg bas N qual (L2.defScope st) f cdv A outer s H E).nox (L2.defBody st) t ∧ t { nx := fun _ H' => Q .non H', rt := Q } (L2.start N vs) H) :
    FnG P w K mg bas b (k + 1) f fd ps sp := by
  obtain ⟨oc, od, kV, doc, pm, an, cdv, ct, osl, rfl, lk, hcd⟩ := hf.ex
  constructor
  · exact len
  intro A rg outer s H e0 args us vs hb rv Q E hsp
  have lenV := len _ _ _ _ hsp
  have inK : K.In s.heap := e0.mod.kin.keeps fun b o e => (e0.bs b o e).1
  have noL : s.heap.NoLimit := e0.mod.nolimit.keeps fun b o e => (e0.bs b o e).1
  refine codeAny_call_function rg.rm.depth (inK _ _ lk) rfl S.co S.gen rfl
    (PySem.W.codeRec_of inK hcd) (hb _ _ _ _ ?_)
  refine wpAny_newFunctionEnv_cells S.kind
    (fun ⟨n, v⟩ hy => (S.par n (List.of_mem_zip hy).1).elim .inl fun q => .inr ⟨q, PySem.W.cellsFrom_some _ _ _ (.inl q)⟩)
    fun env he s1 ic => ?_
  subst he
  refine ⟨noL.keeps ic.toInCall.keep, codeAny_func ?_⟩
  obtain ⟨t, ht, hq⟩ := body cdv rfl A outer s H vs Q E (rg.deeper _) hsp
  have I0 := L2.inv_start (CX := CX0) (E := E) S rg.rm.hd e0 lenV rv ic
  refine wpAny_mono (ht.nox.run [] s1 _ H _ I0 hq) (fun fl s' hs => ?_) fun e s' hs => hs
  cases fl with
  | brk => obtain ⟨_, _, _, q⟩ := hs; exact q.elim
  | cont => obtain ⟨_, _, _, q⟩ := hs; exact q.elim
  | next => obtain ⟨σ', H', J, q⟩ := hs; exact ⟨V.non, H', J.os, J.bare, J.base, J.hok, rfl, q⟩
  | ret u => obtain ⟨v, σ', H', J, rv', q⟩ := hs; exact ⟨v, H', J.os, J.bare, J.base, J.hok, rv', q⟩
end

section
variable {X : Cx} {b : Bool} {k : Nat} {f : Addr} {fd : FuncData} {ps ks : List Str} {sp : Sp} {x : Str} {p pos : Pos} {e : Expr} {es : List Expr} {kws : List Keyword} {t tk : TA} {g : List Value → List Value → List Value} {gV : List V → List V → List V} {E : XK}
theorem fnG_run {pins : List (Addr × Obj)} {σ : L2.St} {H : Hp} {s : Shared} {Q : VK} {us ws : List Value} {vs zs : List V} (F : FnG X.prog X.w X.K X.mg X.base b k f fd ps sp) (rg : RoomG b k X.A) (hb : KBinds X.K fd ps ks g gV)
    (I : Inv X pins σ H s) (r : Vals vs us) (rz : Vals zs ws) (h : sp (gV vs zs) H Q E) : wpAny (model X.prog X.w) X.A (call (.ref f) us (ks.zip ws)) (EP X pins σ Q) X.xe s := by
  have rb := hb.rel r rz
  have lenB : (g us ws).length = ps.length := rb.length.symm.trans (F.len _ _ _ _ h)
  refine wpAny_call (codeAny_mono (F.go X.A rg X.stack s H I.env0 ⟨us, ks.zip ws⟩ (g us ws) (gV vs zs) (hb.to s us ws I.kIn lenB) rb Q E h) fun r s' q => ?_)
  match r, q with
  | .ok (.ret u), q => exact I.after q
theorem pe_callG (F : FnG X.prog X.w X.K X.mg X.base b k f fd ps sp) (rg : RoomG b k X.A) (hg : Gl X x) (hm : X.mg x = some (.ref f)) (hk : PySem.W.keepIn X.K (.ref f) = true) (hb : Binds X.K fd ps [])
    (ha : PA X (e :: es) t) (hdb : (x == ("__debug__" : Str)) = false) (he : starEach (e :: es) X.env = (false, eval e X.env) :: starEach es X.env) (hpl : (backTo pos (starEach es X.env)).any (·.1) = false) :
    PE X (.Call (.Name x p) (e :: es) [] pos) (fun σ H Q => t σ H fun vs H1 => sp vs H1 Q E) := ⟨fun pins s σ H Q I h => by
  refine wpAny_Call_Name_kw (L2.ld_glob I hg hm ?_ hdb)
  refine PySem.W.callWith_K (h₀ := X.base) I.ok.mod.kin hk (L2.thn (ha.run pos pins s σ H _ I h) fun us s1 ⟨vs, H1, I1, r, q⟩ => ⟨I1.kIn, ?_⟩) he hpl
  exact fnG_run (ks := []) (g := fun us _ => us) (gV := fun vs _ => vs) (zs := []) (ws := []) F rg ⟨fun s us ws h1 h2 => by
    have h := hb s us h1 (by rw [List.append_nil]; exact h2)
    rw [List.append_nil] at h
    exact h, fun r _ => r⟩ I1 r .nil q⟩
theorem pe_callKG (F : FnG X.prog X.w X.K X.mg X.base b k f fd ps sp) (rg : RoomG b k X.A) (hg : Gl X x) (hm : X.mg x = some (.ref f)) (hk : PySem.W.keepIn X.K (.ref f) = true) (hb : KBinds X.K fd ps ks g gV)
    (ha : PA X (e :: es) t) (hkw : PK X kws tk) (hall : (backToKw pos (keywordEach kws X.env)).all (·.1.isSome) = true) (hks : (backToKw pos (keywordEach kws X.env)).filterMap (·.1) = ks)
    (hdb : (x == ("__debug__" : Str)) = false) (he : starEach (e :: es) X.env = (false, eval e X.env) :: starEach es X.env)
    (hpl : ((backTo pos (starEach (e :: es) X.env)).any (·.1) || (backToKw pos (keywordEach kws X.env)).any (·.1.isNone)) = false) :
    PE X (.Call (.Name x p) (e :: es) kws pos) (fun σ H Q => t σ H fun vs H1 => tk σ H1 fun zs H2 => sp (gV vs zs) H2 Q E) := ⟨fun pins s σ H Q I h => by
  refine wpAny_Call_Name_kw (L2.ld_glob I hg hm ?_ hdb)
  refine PySem.W.callWith_KW (h₀ := X.base) I.ok.mod.kin hk hall (L2.thn (ha.run pos pins s σ H _ I h) fun us s1 ⟨vs, H1, I1, r, q⟩ => ?_) hpl he
  refine L2.thn (hkw.run pos pins s1 σ H1 _ I1 q) fun ws s2 ⟨zs, H2, I2, rz, q2⟩ => ⟨I2.kIn, ?_⟩
  subst hks
  exact fnG_run F rg hb I2 r rz q2⟩
end

/-! ### the law's own call -/
theorem law_callG {P : Program} {w : World} {K : PySem.W.Frag} {mg mb : Str → Option Value} {k : Nat} {fa a : Addr} {fd : FuncData} {x : Str} {sp : Sp} {s₁ : Shared} {vs : List Value} {ns : List Int}
    (kIn : K.In s₁.heap) (nG : s₁.heap.Ns mainGlobals mg) (nB : s₁.heap.Ns builtinsNs mb) (nBB : ∀ x : Str, x ≠ "__name__" → mb x = bootBuiltins x) (lim : s₁.heap.NoLimit) (gens : s₁.gens = #[])
    (isL : s₁.heap.get? a = some { cls := .type "list", data := .seq vs.toArray }) (isI : IntsAre vs ns) (short : ns.length ≤ sizeLine) (room : Room k callerA)
    (F : ∀ bas : Heap, K.In bas → bas.Ns mainGlobals mg → FnG P w K mg bas true k fa fd [x] sp) (bind : ∀ (s : Shared) (u : Value), BindsTo s fd ⟨[u], []⟩ [(x, u)])
    (promise : ∀ H : Hp, L2.Only H → SqL K H a (ns.map V.int) → sp [.ref a] H (fun v _ => v = .bl true) L2.E0) :
    codeAny (model P w) callerA (.call (.ref fa) ⟨[.ref a], []⟩) (fun r s' => r = .ok (.ret (.bool true)) ∧ OldK s₁.heap s'.heap ∧ s'.os = s₁.os ∧ AllBare s'.gens) s₁ := by
  have vals := L2.vals_ints isI
  -- H: what is tracked; nothing, or the script as an object of its own
  have main : ∀ H : Hp, L2.Only H → SqL K H a (ns.map V.int) → L2.HOk P w H s₁.heap → (∀ b, b ≠ a → H b = none) → (∀ o, K.lookup a = some o → H a = none) →
      codeAny (model P w) callerA (.call (.ref fa) ⟨[.ref a], []⟩) (fun r s' => r = .ok (.ret (.bool true)) ∧ OldK s₁.heap s'.heap ∧ s'.os = s₁.os ∧ AllBare s'.gens) s₁ := fun H only sq hok away own => by
    have see : ∀ {b : Addr} {o : Obj}, s₁.heap.get? b = some o → H b = none → (L2.hidT s₁.heap H).get? b = some o := fun e n => L2.hidT_get e n
    have ns' : ∀ {b : Addr} {m : Str → Option Value}, s₁.heap.Ns b m → (L2.hidT s₁.heap H).Ns b m := fun {b m} ⟨o, es, ep, e, d, r⟩ => by
      refine ⟨o, es, ep, see e (away b fun q => ?_), d, r⟩
      subst q
      rw [isL] at e
      cases e
      cases (show Data.seq vs.toArray _ = Data.dict es ep from d)
    have kIn' : K.In (L2.hidT s₁.heap H) := fun b o e => see (kIn b o e) (by
      by_cases q : b = a
      · subst q; exact own o e
      · exact away b q)
    have mod : L2.Mod K mg (L2.hidT s₁.heap H) := by
      obtain ⟨mc, l1, l2⟩ := lim
      exact ⟨kIn', ns' nG, ⟨mb, ns' nB, nBB⟩, ⟨mc, ns' l1, l2⟩⟩
    have env0 : Env0 P w K mg (L2.hidT s₁.heap H) callerA [] s₁ H := {
      frames := rfl
      mod := mod
      bs := fun b o e => L2.of_hidT e
      bsz := Nat.le_of_eq (L2.hidT_size _ _)
      funs := trivial
      frf := fun b hb => absurd (show b ∈ ([] : List Addr) from hb) (by simp)
      hok := hok
      bare := .of_eq gens }
    have run := (F _ kIn' (ns' nG)).go callerA ⟨room, fun _ => rfl⟩ [] s₁ H env0 ⟨[.ref a], []⟩ [.ref a] [.ref a] (bind s₁ (.ref a)) (.cons rfl .nil) _ _ (promise H only sq)
    refine codeAny_mono run fun r s' h => ?_
    match r, h with
    | .ok (.ret u), ⟨v, H', os, bare, un, hok', rel, (q : v = .bl true)⟩ =>
      subst q
      obtain rfl : u = Value.bool true := rel
      refine ⟨rfl, OldK.of_keep fun b o e => ?_, os, bare⟩
      have no : ∀ {b : Addr}, b ∈ L2.frs [] → False := fun {b} z => by cases z
      rcases only b with z | ⟨ob, xs, z⟩
      · exact un.keep b o e z (fun m => no m) (by simp)
      · obtain ⟨e1, _⟩ := hok b _ z
        obtain ⟨e2, _⟩ := hok' b _ (un.frzs b ob _ z)
        rw [e] at e1
        cases e1
        exact e2
  have lenI := isI.length
  cases inMod : K.lookup a with
  | some o =>
    have e := kIn a o inMod
    rw [isL] at e
    cases e
    refine main (fun _ => none) (fun _ => .inl rfl) (.inr ⟨_, vs.toArray, _, inMod, rfl, rfl, rfl, ?_, ?_⟩) (fun b u z => nomatch (show (none : Option HO) = some u from z)) (fun _ _ => rfl) fun _ _ => rfl
    · rw [List.size_toArray, lenI]; exact short
    · simpa using vals
  | none =>
    let H : Hp := fun b => if b = a then some (.frz { cls := .type "list", data := .seq vs.toArray } (.lst (ns.map V.int))) else none
    have hs : H a = some (.frz { cls := .type "list", data := .seq vs.toArray } (.lst (ns.map V.int))) := if_pos rfl
    have hn : ∀ b, b ≠ a → H b = none := fun b q => if_neg q
    refine main H (fun b => ?_) (.inl (.inr ⟨_, hs⟩)) (fun b u z => ?_) hn fun o q => by rw [inMod] at q; cases q
    · by_cases q : b = a
      · exact .inr ⟨_, _, by rw [q]; exact hs⟩
      · exact .inl (hn b q)
    · by_cases q : b = a
      · subst q
        rw [hs] at z
        cases z
        exact ⟨isL, by rw [List.length_map]; exact short, vs, _, vals, isL⟩
      · rw [hn b q] at z; cases z
theorem walk_ofG {l : PySem.W.OpenLaw} {n k : Nat} {q : Program} {loose : List Str} {XP : (Str → Option Value) → Heap → Prop} {YP : World → Heap → Prop} {d : DefRec} {K : Params → PySem.W.Frag} {sp : PySem.W.Frag → Sp} {x : Str}
    (most : l.most = some n) (few : n ≤ sizeLine) (plain : d.params.defaults = []) (room : Room k callerA) (hY : ∀ (w : World) (h : Heap), YP w h → (K w.params).In h)
    (F : ∀ (w : World) (mg : Str → Option Value) (fa : Addr) (h : Heap), (K w.params).In h → h.Ns mainGlobals mg → mg d.name = some (.ref fa) →
      ∃ fd : FuncData, (∀ (s : Shared) (u : Value), BindsTo s fd ⟨[u], []⟩ [(x, u)]) ∧
        ∀ bas : Heap, (K w.params).In bas → bas.Ns mainGlobals mg → FnG l.prog w (K w.params) mg bas true k fa fd [x] (sp (K w.params)))
    (promise : ∀ (K : PySem.W.Frag) (H : Hp) (a : Addr) (ns : List Int), ns.length ≤ n → SqL K H a (ns.map V.int) → sp K [.ref a] H (fun v _ => v = .bl true) L2.E0) :
    PySem.W.WalkO q loose XP YP l.row.toRowW d [] (fun f vs => PySem.call f vs) := by
  refine Att.attach_call most plain fun w s₀ s₁ mg mb fa o pm cd doc a vs ns G Y ho hd hcd hmg hobj hints hlen hg => ?_
  have kIn := hY w _ Y
  obtain ⟨fd, hb, hF⟩ := F w mg fa _ kIn G.T.g hmg
  exact law_callG kIn G.T.g G.T.b G.T.builtins G.T.nolimit hg hobj hints (Nat.le_trans hlen few) room hF hb fun H _ sq => promise _ H a ns hlen sq
end Pl

/-! PSound11: what a def of PLang promises; calls. -/
namespace Pl
open PySem PyProof.Rows
open L2 (V Hp HO VK XK TE TT TA TS Cx PE PA PS PSs Inv SqL SqT Dp DpAll Vals RelV EP Gl Vis Ends Sp FnScope Env0 CE CR CX0 Room Fun Binds KBinds PK)

variable [Tabl]
def auV : Option Addr → List V | none => [] | some a => [.ref a]
def spF (K : PySem.W.Frag) (p : PFun) (c : List D → U → Option (D × U)) : Sp := fun vs H Q _ => ∃ au ws ds F u d u', au.isSome = p.urn ∧ vs = auV au ++ ws ∧ Tb F H ∧ Sub F H ∧ UrnR au u F H ∧ (au = none → u = []) ∧ DpAll K F ws ds ∧ ds.length + (if p.urn then 1 else 0) = p.np ∧
  c ds u = some (d, u') ∧ ∀ v F' H', Post au F H F' H' u' → Rr p.fresh K H F' H' v d → Q v H'

section
variable {K : PySem.W.Frag} {F H : Hp}
theorem rep_own {m i : Nat} {ds : List D} : ¬ (List.replicate m Slot.no)[i]? = some (Slot.own ds) := fun h => by
  rw [List.getElem?_replicate] at h
  split at h <;> cases h
theorem rep_imm {m i : Nat} {d : D} : ¬ (List.replicate m Slot.no)[i]? = some (Slot.imm d) := fun h => by
  rw [List.getElem?_replicate] at h
  split at h <;> cases h
theorem argsOwn : ∀ {ds es : List D} {m i : Nat}, ¬ (ds.map Slot.imm ++ List.replicate m Slot.no)[i]? = some (Slot.own es)
  | [], _, _, _, h => rep_own h
  | _ :: _, _, _, 0, h => by simp at h
  | _ :: _, _, m, i + 1, h => argsOwn (m := m) (i := i) (by simpa using h)
theorem argsImm : ∀ {ds : List D} {ws : List V} {m m' i : Nat} {d : D}, DpAll K F ws ds → (ds.map Slot.imm ++ List.replicate m Slot.no)[i]? = some (Slot.imm d) → ∃ v, (ws.map some ++ List.replicate m' none)[i]? = some (some v) ∧ Dp K F v d
  | _, _, _, _, _, _, .nil, h => (rep_imm h).elim
  | _, _, _, _, 0, _, .cons a t, h => by
    simp at h
    subst h
    exact ⟨_, by simp, a⟩
  | _, _, m, m', i + 1, d, .cons a t, h => by
    obtain ⟨v, h1, h2⟩ := argsImm (m := m) (m' := m') (i := i) t (by simpa using h)
    exact ⟨v, by simpa using h1, h2⟩
theorem start_ok {p : PFun} {N : List Str} {au : Option Addr} {ws : List V} {ds : List D} {u : U} (hau : au.isSome = p.urn) (tb : Tb F H) (s : Sub F H) (r : UrnR au u F H) (a : DpAll K F ws ds) (hn : ds.length + (if p.urn then 1 else 0) = p.np) (hN : N.length = p.ns) :
    StR K au H F (L2.start N (auV au ++ ws)) H F (mkEnv p ds) u := by
  have la := dpAll_len a
  have lauV : (auV au).length = if p.urn then 1 else 0 := by
    rw [← hau]
    cases au <;> rfl
  unfold L2.start mkEnv
  rw [List.length_append, la, lauV, hN, ← hn]
  refine ⟨s, r, tb, fun b hb => ?_, ?_, Ext.refl _ _ _, r.hh, fun i d hi => ?_, fun i es hi => ?_, fun i j es es' q hi _ _ _ => ?_⟩
  · subst hb; simp [auV]
  · rw [List.length_append, List.length_append, List.length_append, List.length_map, List.length_map, List.length_replicate, List.length_replicate, List.length_append, la, lauV]
    cases p.urn <;> simp
    omega
  · cases au with
    | none =>
      rw [show p.urn = false from hau.symm] at hi ⊢
      exact argsImm a (by simpa using hi)
    | some b =>
      rw [show p.urn = true from hau.symm] at hi ⊢
      cases i with
      | zero => simp at hi
      | succ i =>
        obtain ⟨v, h1, h2⟩ := argsImm (m' := p.ns - (1 + ds.length)) a (i := i) (by simpa using hi)
        refine ⟨v, ?_, h2⟩
        simp only [auV, List.singleton_append, List.map_cons, List.cons_append, List.getElem?_cons_succ, if_true]
        exact h1
  · cases au with
    | none =>
      rw [show p.urn = false from hau.symm] at hi
      exact (argsOwn (by simpa using hi)).elim
    | some b =>
      rw [show p.urn = true from hau.symm] at hi
      cases i with
      | zero => simp at hi
      | succ i => exact (argsOwn (by simpa using hi)).elim
  · cases au with
    | none =>
      rw [show p.urn = false from hau.symm] at hi
      exact (argsOwn (by simpa using hi)).elim
    | some b =>
      rw [show p.urn = true from hau.symm] at hi
      cases i with
      | zero => simp at hi
      | succ i => exact (argsOwn (by simpa using hi)).elim
end

theorem fnG_body {P : Program} {w : World} {K : PySem.W.Frag} {mg : Str → Option Value} {bas : Heap} {b : Bool} {k : Nat} {f : Addr} {fd : FuncData} {ps : List Str} {x qual : Str} {st : Stmt} {N : List Str} {C : Ctx} {ff : String → Bool} {p : PFun}
    (hf : Fun K x qual st f fd) (S : FnScope N ps (L2.defScope st)) (hps : ps.length = p.np) (hN : N.length = p.ns)
    (sim : ∀ (cdv : Value), fd.code = cdv → ∀ (A : Around) (outer : List PySem.Env) (s : Shared) (H : Hp) (E : XK) (au : Option Addr), au.isSome = p.urn → RoomG b k (A.deeper (envOfC qual (L2.defScope st) s.heap.objs.size f cdv)) →
      SimSs (L2.cxOf CX0 P w K mg bas N qual (L2.defScope st) f cdv A outer s H E).nox C ff au p.fresh (L2.defBody st) p.body) :
    FnG P w K mg bas b (k + 1) f fd ps (spF K p (runF C ff p)) := by
  refine fnG_of hf S (fun vs H Q E h => ?_) fun cdv hcode A outer s H vs Q E rg h => ?_
  · obtain ⟨au, ws, ds, F, u, d, u', h1, rfl, _, _, _, _, h6, h7, _⟩ := h
    rw [hps, ← h7, List.length_append, dpAll_len h6, ← h1]
    cases au <;> simp [auV] <;> omega
  · obtain ⟨au, ws, ds, F, u, d, u', h1, rfl, ht, h3, h4, h5, h6, h7, h8, h9⟩ := h
    refine ⟨_, (sim cdv hcode A outer s H E au h1 rg).t H F, F, mkEnv p ds, u, ?_⟩
    unfold runF at h8
    rw [if_pos h7] at h8
    split at h8 <;> first | contradiction | skip
    · rename_i d1 u1 e
      cases h8
      exact ⟨_, start_ok h1 ht h3 h4 h6 h7 hN, e, fun v F' H' r => h9 v F' H' r.1 r.2⟩
    · rename_i env1 u1 e
      split at h8 <;> first | contradiction | skip
      rename_i hfr
      cases h8
      refine ⟨_, start_ok h1 ht h3 h4 h6 h7 hN, e, fun σ' H' F' R' => h9 _ F' H' ⟨R'.ext, R'.sub, R'.urn, R'.tab⟩ ?_⟩
      have hf' : p.fresh = false := by simpa using hfr
      rw [hf']
      exact Dp.non

section
variable {X : Cx} {C : Ctx} {ff : String → Bool} {au : Option Addr} {e a : Expr} {es : List Expr} {pa : E} {ps : Es} {pos pos2 : Pos} {fn : String} {p : PFun} {c : List D → U → Option (D × U)} {x : Str}

def esLen : Es → Nat | .nil => 0 | .cons _ es => esLen es + 1
theorem evalEs_len : ∀ {ps : Es} {env : Env} {u : U} {ds : List D} {u' : U}, evalEs C ps env u = some (ds, u') → ds.length = esLen ps
  | .nil, _, _, _, _, h => by simp only [evalEs, Option.some.injEq, Prod.mk.injEq] at h; rw [← h.1]; rfl
  | .cons e es, env, u, ds, u', h => by
    simp only [evalEs] at h
    obtain ⟨⟨d, u1⟩, _, h⟩ := Option.bind_eq_some_iff.mp h
    obtain ⟨⟨r, u2⟩, h2, h⟩ := Option.bind_eq_some_iff.mp h
    cases h
    exact congrArg Nat.succ (evalEs_len h2)
theorem pick_len {ds : List D} : ∀ {is : List Nat} {rs : List D}, pick ds is = some rs → rs.length = is.length
  | [], _, h => by simp only [pick, Option.some.injEq] at h; rw [← h]; rfl
  | i :: is, _, h => by
    simp only [pick] at h
    obtain ⟨d, _, h⟩ := Option.bind_eq_some_iff.mp h
    obtain ⟨r, h2, h⟩ := Option.bind_eq_some_iff.mp h
    cases h
    exact congrArg Nat.succ (pick_len h2)
theorem pick_range (ds : List D) : ∀ (m i : Nat), i + m = ds.length → pick ds (List.range' i m) = some (ds.drop i)
  | 0, i, h => by rw [List.drop_eq_nil_of_le (by omega)]; rfl
  | m + 1, i, h => by
    have hl : i < ds.length := by omega
    show (do let d ← ds[i]?; let r ← pick ds (List.range' (i + 1) m); some (d :: r)) = _
    rw [pick_range ds m (i + 1) (by omega), List.getElem?_eq_getElem hl, List.drop_eq_getElem_cons hl]
    rfl
/-- a def called with values; t: how the arguments come -/
theorem sim_callV {t : TA} {perm : List Nat} (hC : ∀ ds, C.fn fn ds = (c ds []).map (·.1)) (hu : p.urn = false) (hff : ff fn = p.fresh) (hnp : perm.length = p.np)
    (ht : ∀ σ H (Q : List V → Hp → Prop), (∃ F env u ds u' ds', At X.K au σ H F env u (fvEs ps) ∧ evalEs C ps env u = some (ds, u') ∧ pick ds perm = some ds' ∧ ∀ vs F' H', Post au F H F' H' u' → DpAll X.K F' vs ds' → Q vs H') → t σ H Q)
    (h : PE X e (fun σ H Q => t σ H fun vs H1 => spF X.K p c vs H1 Q L2.E0)) : Sim X C ff au e (.call fn ps perm) := ⟨h.imp fun σ H Q ⟨F, env, u, d, u', A, ev, k⟩ => by
  simp only [evalE] at ev
  obtain ⟨⟨ds, u1⟩, e1, ev⟩ := Option.bind_eq_some_iff.mp ev
  obtain ⟨ds', e2, ev⟩ := Option.bind_eq_some_iff.mp ev
  obtain ⟨d1, e3, ev⟩ := Option.bind_eq_some_iff.mp ev
  cases ev
  rw [hC, Option.map_eq_some_iff] at e3
  obtain ⟨⟨d2, u2⟩, e3, rfl⟩ := e3
  refine ht _ _ _ ⟨F, env, u, ds, _, ds', A, e1, e2, fun vs F1 H1 P1 r1 => ?_⟩
  have hlen : ds'.length = p.np := by
    rw [← hnp]
    exact pick_len e2
  refine ⟨none, vs, ds', F1, [], d2, u2, hu.symm, rfl, P1.tab, P1.sub, UrnR.no, fun _ => rfl, r1, by rw [hu]; exact hlen, e3, fun v F2 H2 P2 r2 => ?_⟩
  have P : Post au F1 H1 F2 H2 u1 := Post.of2 P1.urn P2
  refine k v F2 H2 (P1.trans P) ?_
  show Rr (ff fn) X.K H F2 H2 v d2
  rw [hff]
  exact r2.back fun q hq => P1.grow hq⟩
theorem sim_ucall {t : TE} (hC : ∀ ds u, C.ufn fn ds u = c ds u) (hau : au.isSome = true) (hu : p.urn = true) (hff : ff fn = p.fresh) (hnp : esLen ps + 1 = p.np)
    (ht : ∀ σ H Q, (∃ a, au = some a ∧ σ[0]? = some (some (V.ref a)) ∧ wpEs X.K C au ps σ H fun vs H1 => spF X.K p c (.ref a :: vs) H1 Q L2.E0) → t σ H Q)
    (h : PE X e t) : Sim X C ff au e (.ucall fn ps) := ⟨h.imp fun σ H Q ⟨F, env, u, d, u', A, ev, k⟩ => by
  simp only [evalE] at ev
  obtain ⟨⟨ds, u1⟩, e1, ev⟩ := Option.bind_eq_some_iff.mp ev
  rw [hC] at ev
  obtain ⟨a, ha⟩ := Option.isSome_iff_exists.mp hau
  refine ht _ _ _ ⟨a, ha, A.s0 a ha, F, env, u, ds, _, A, e1, fun vs F1 H1 P1 r1 => ?_⟩
  refine ⟨au, vs, ds, F1, u1, d, u', hau.trans hu.symm, by rw [ha]; rfl, P1.tab, P1.sub, P1.urn, (fun z => by rw [ha] at z; cases z), r1, ?_, ev, fun v F2 H2 P2 r2 => ?_⟩
  · rw [hu, evalEs_len e1]; exact hnp
  refine k v F2 H2 (P1.trans P2) ?_
  show Rr (ff fn) X.K H F2 H2 v d
  rw [hff]
  exact r2.back fun q hq => P1.grow hq⟩
theorem sim_ncall {t : TE} (hC : ∀ ds u, C.ufn fn ds u = c ds u) (hu : p.urn = true) (hff : ff fn = p.fresh) (hnp : esLen ps + 1 = p.np) (hk : fk ff pa = true)
    (ht : ∀ σ H Q, wpE true X.K C au pa σ H (fun x H1 => wpEs X.K C au ps σ H1 fun vs H2 => spF X.K p c (x :: vs) H2 Q L2.E0) → t σ H Q)
    (h : PE X e t) : Sim X C ff au e (.ncall fn pa ps) := ⟨h.imp fun σ H Q ⟨F, env, u, d, u', A, ev, k⟩ => by
  simp only [evalE] at ev
  obtain ⟨⟨da, u1⟩, e1, ev⟩ := Option.bind_eq_some_iff.mp ev
  obtain ⟨⟨ds, u2⟩, e2, ev⟩ := Option.bind_eq_some_iff.mp ev
  cases da <;> simp only at ev <;> first | contradiction | skip
  rename_i xs
  obtain ⟨ns, e3, ev⟩ := Option.bind_eq_some_iff.mp ev
  obtain ⟨⟨d2, u3⟩, e4, ev⟩ := Option.bind_eq_some_iff.mp ev
  cases ev
  rw [hC] at e4
  refine ht _ _ _ ⟨F, env, u, _, u1, A.l, e1, fun v F1 H1 P1 r1 => ?_⟩
  obtain ⟨q, vs, rfl, q1, q2, q3, q4⟩ := r1
  have A1 := A.step P1
  refine ⟨F1, env, u1, ds, _, A1.r, e2, fun ws F2 H2 P2 r2 => ?_⟩
  have hqa : some q ≠ au := fun z => A.urn.hh q z.symm q1
  obtain ⟨k1, k2⟩ := P2.ext q hqa (by rw [q3]; exact fun z => nomatch z)
  refine ⟨some q, ws, ds, F2, ns, d2, u3, hu.symm, rfl, P2.tab, P2.sub, fun b hb => ?_, (fun z => nomatch z), r2, ?_, e4, fun v F3 H3 P3 r3 => ?_⟩
  · cases hb
    refine ⟨?_, k2.trans q2⟩
    rw [k1.lst q3, dpAll_ints q4 e3]
  · rw [hu, evalEs_len e2]; exact hnp
  have P12 := P1.trans P2
  refine k v F3 H3 ⟨fun b hb hn => ?_, P3.sub, fun b hb => ?_, P3.tab⟩ ?_
  · obtain ⟨g1, g2⟩ := P12.ext b hb hn
    obtain ⟨g3, g4⟩ := P3.ext b (fun z => hn (by cases z; exact q1)) (g1.ne hn)
    exact ⟨g1.trans g3, g4.trans g2⟩
  · obtain ⟨g1, g2⟩ := P12.urn b hb
    obtain ⟨g3, g4⟩ := P3.ext b (fun z => hqa (by rw [hb]; exact z.symm)) (by rw [g1]; exact fun z => nomatch z)
    exact ⟨g3.lst g1, g4.trans g2⟩
  · show Rr (ff fn) X.K H F3 H3 v d2
    rw [hff]
    exact r3.back fun q hq => P12.grow hq⟩
/-- an expression that PLang has no value for -/
theorem sim_never (h : ∀ env u, evalE C pa env u = none) (he : PE X e (fun _ _ _ => False)) : Sim X C ff au e pa := ⟨he.imp fun σ H Q ⟨F, env, u, d, u', A, ev, k⟩ => by rw [h] at ev; cases ev⟩
theorem pe_never {X : Cx} {e : Expr} : PE X e (fun _ _ _ => False) := ⟨fun _ _ _ _ _ _ h => h.elim⟩
end
end Pl

/-! PSound12: the checker (a def's text against its term): what it is, first lemmas. -/
namespace Pl
open PySem PyProof.Rows
open L2 (V Hp HO VK XK TE TT TA TS TG TGs Cx PE PT PW PA PS PSs PG PGs PI Inv SqL SqT Dp DpAll Vals RelV EP Gl Vis Ends Sp FnScope Env0 CE CR CX0 Room Fun Binds KBinds PK)

/-- a def of the text -/
structure Entry where
  name : String
  qual : Str
  st : Stmt
  N : List Str
  ps : List Str
  fn : PFun
  kws : List (Nat × List Str × List Nat)
  /-- may use repr -/
  rp : Bool := true
/-- a def's exceptions: its name, the term that finds them; whole: a None of it says that the def comes to its end with None -/
structure XEnt where
  real : String
  fn : PFun
  whole : Bool
/-- a def that calls what it gets, with one lambda's target: its name, the target, the clauses -/
structure TEnt where
  td : String
  f : String
  fq : String
  np : Nat
  cl : List Clause
  fin : Str
/-- the checker's context -/
structure CK where
  N : List Str
  sc : Scope
  cells : Option Scope
  urn : Bool
  bl : List Str
  gcd : Bool
  T : String → Option Entry
  G : Prog
  rp : Bool
  told : String → Option TEnt

/-! ### terms that are alike, and call nothing -/
mutual
def eqE : E → E → Bool
  | .var i, .var j => decide (i = j)
  | .lit a, .lit b => decide (a = b)
  | .glob a, .glob b => decide (a = b)
  | .idx a i, .idx b j => eqE a b && eqE i j
  | .tup es, .tup fs => eqEs es fs
  | _, _ => false
def eqEs : Es → Es → Bool
  | .nil, .nil => true
  | .cons a as, .cons b bs => eqE a b && eqEs as bs
  | _, _ => false
end
def CK.kindB (c : CK) (x : Str) (k : NameKind) : Bool := decide (c.sc.names.lookup x = some k)
def CK.vis (c : CK) (x : Str) : Bool := c.kindB x .local || c.kindB x .cell || c.kindB x .free
def CK.loc (c : CK) (x : Str) : Bool := c.kindB x .local || c.kindB x .cell
def CK.gl (c : CK) (x : Str) : Bool := c.kindB x .globalImplicit && !(x == ("__debug__" : Str))
def CK.fnB (c : CK) (x : Str) : Bool := c.kindB x .local || (match c.cells with | none => true | some s => decide (s.names.lookup x = some .cell))
def CK.at_ (c : CK) (x : Str) (i : Nat) : Bool := decide (c.N[i]? = some x)
def CK.var (c : CK) (x : Str) (i : Nat) : Bool := c.at_ x i && c.vis x && !(x == ("__debug__" : Str)) && !(x == ("__classdict__" : Str))
def CK.tgt (c : CK) (x : Str) (i : Nat) : Bool := c.at_ x i && c.loc x && c.fnB x && (!c.urn || !(i == 0))
def CK.bltn (c : CK) (x : Str) : Bool := c.gl x && c.bl.contains x && !(x == ("__name__" : Str))
def CK.blk (c : CK) (s : Scope) : CK := { c with
  sc := { s with names := s.names.map fun (n, k) => if (k == .free && c.sc.kind == .function && c.sc.names.lookup n == some .cell) then (n, .cell) else (n, k) }
  cells := some s
  told := fun _ => none }
/-- in a lambda's body -/
def CK.lam (c : CK) (s : Scope) : CK := { c with
  sc := s
  cells := some s
  rp := false
  told := fun _ => none }

def notStar : Expr → Bool | .Starred _ _ => false | _ => true
def notSlice : Expr → Bool | .Slice _ _ _ _ => false | _ => true
def notComp : Expr → Bool | .ListComp .. | .SetComp .. | .DictComp .. => false | _ => true
def notSet : Expr → Bool | .Set .. => false | _ => true
def notTup : Expr → Bool | .Tuple .. => false | _ => true
def starsB (es : List Expr) : Bool := es.all notStar
def kwsB (ks : List Keyword) : Bool := ks.all fun k => k.1.isSome
def kwNames (ks : List Keyword) : List Str := ks.filterMap (·.1)

section
variable {env : PySem.Env}
theorem star_cons {a : Expr} {es : List Expr} (h : notStar a = true) : starEach (a :: es) env = (false, eval a env) :: starEach es env := by
  cases a <;> first | rfl | (simp [notStar] at h)
theorem star_any {pos : Pos} : ∀ {es : List Expr}, starsB es = true → (backTo pos (starEach es env)).any (·.1) = false
  | [], _ => rfl
  | a :: es, h => by
    simp only [starsB, List.all_cons, Bool.and_eq_true] at h
    rw [star_cons h.1]
    show (false || (backTo pos (starEach es env)).any (·.1)) = false
    rw [star_any (es := es) h.2]
    rfl
theorem kw_all {pos : Pos} : ∀ {ks : List Keyword}, kwsB ks = true → (backToKw pos (keywordEach ks env)).all (·.1.isSome) = true
  | [], _ => rfl
  | ⟨n, e, p⟩ :: ks, h => by
    simp only [kwsB, List.all_cons, Bool.and_eq_true] at h
    show (n.isSome && (backToKw pos (keywordEach ks env)).all (·.1.isSome)) = true
    rw [kw_all (ks := ks) h.2, h.1]
    rfl
theorem kw_any {pos : Pos} : ∀ {ks : List Keyword}, kwsB ks = true → (backToKw pos (keywordEach ks env)).any (·.1.isNone) = false
  | [], _ => rfl
  | ⟨n, e, p⟩ :: ks, h => by
    simp only [kwsB, List.all_cons, Bool.and_eq_true] at h
    show (n.isNone || (backToKw pos (keywordEach ks env)).any (·.1.isNone)) = false
    rw [kw_any (ks := ks) h.2]
    cases n with
    | none => cases h.1
    | some _ => rfl
theorem kw_names {pos : Pos} : ∀ {ks : List Keyword}, (backToKw pos (keywordEach ks env)).filterMap (·.1) = kwNames ks
  | [] => rfl
  | ⟨n, e, p⟩ :: ks => by
    cases n with
    | none => exact kw_names (ks := ks)
    | some n => exact congrArg (n :: ·) (kw_names (ks := ks))
theorem plainIx_of {b : Expr} (h : notSlice b = true) : L2.PlainIx b := fun o i => by
  cases b <;> first | rfl | (simp [notSlice] at h)
theorem swaps_no {e : Expr} {t : Option Expr} {l : Nat} (h : notComp e = true) : swapsWith e t l env = pure false := by
  cases e <;> first | rfl | (simp [notComp] at h)
theorem swapsSole_no {t e : Expr} {l : Nat} (h : notComp e = true) : swapsWithSole [t] e l env = pure false := swaps_no h
theorem folded_no {e : Expr} {x : Value} (h : notSet e = true) : foldedSetIterable e env x = pure x := by
  cases e <;> first | rfl | (simp [notSet] at h)
theorem isTrue_ix {a b : Expr} {pos : Pos} (whole : Sem Value) : isTrue (.Subscript a b pos) env whole = (do let v ← whole; standAt pos; holding [v] (truthy v)) := rfl
end

section
variable {X : Cx}
/-- the rule of an if-expression as a test -/
theorem pt_ite {c a b : Expr} {pos : Pos} {tc ta tb t : TT} (hc : PT X c tc) (ha : PT X a ta) (hb : PT X b tb) (h : ∀ σ H Q, t σ H Q → tc σ H fun k H1 => if k = true then ta σ H1 Q else tb σ H1 Q) : PT X (.IfExp c a b pos) t := ⟨fun pins s σ H Q I hq => by
  refine isTrue_IfExp (L2.thn (hc.run pins s σ H _ I (h σ H Q hq)) fun k s1 ⟨H1, I1, q⟩ => ?_)
  cases k with
  | true => exact ha.run pins s1 σ H1 Q I1 q
  | false => exact hb.run pins s1 σ H1 Q I1 q⟩
theorem pt_never {e : Expr} : PT X e (fun _ _ _ => False) := ⟨fun _ _ _ _ _ _ h => h.elim⟩
theorem pw_never {e : Expr} : PW X e (fun _ _ _ => False) := ⟨fun _ _ _ _ _ _ _ h => h.elim⟩
end
end Pl

/-! PSound13: the checker. -/
namespace Pl
open PySem PyProof.Rows

def litB (k : Const) : Bool := match k with | .none => true | .bool _ => true | .int _ => true | .str _ => true | _ => false
def neverB (a : E) : Bool := match a with | .lit .none => true | _ => false
def namesB (c : CK) : List Nat → List Expr → Bool
  | [], [] => true
  | i :: is, .Name x _ :: es => c.tgt x i && namesB c is es
  | _, _ => false
def chkG (c : CK) : Tg → Expr → Bool
  | .one i, .Name x _ => c.tgt x i
  | .many is, .Tuple es _ _ => namesB c is es
  | _, _ => false
def ownL (c : CK) (own : List Nat) : List (Str × Nat) := own.map fun i => (c.N.getD i ("" : Str), i)
def ownB (c : CK) (t : Tg) (own : List Nat) : Bool := (!c.urn || (!own.contains 0 && !(tgIx t).contains 0)) && (tgIx t).all fun i => own.contains i
def isTy (b : BI) : Option Str := match b with | .isInt => some "int" | .isBool => some "bool" | .isTuple => some "tuple" | .isList => some "list" | .isStr => some "str" | _ => none
def biName (b : BI) : Option Str := match b with
  | .len => some "len" | .abs => some "abs" | .int => some "int" | .tuple => some "tuple" | .list => some "list" | .all => some "all" | .any => some "any" | .sum => some "sum"
  | .max2 => some "max" | .min2 => some "min" | .divmod => some "divmod" | .repr => some "repr" | .sorted => some "sorted" | .max1 => some "max" | .min1 => some "min" | _ => none

def noParams : Arguments → Bool | ⟨[], [], none, [], [], none, []⟩ => true | _ => false
def isRepr : BI → Bool | .repr => true | _ => false
def callB (en : Entry) (np : Nat) (es : Es) (args : List Expr) (kws : List Keyword) (perm : List Nat) : Bool := decide (perm.length = en.fn.np) && (if kws.isEmpty then !args.isEmpty && decide (perm = List.range' 0 perm.length) && decide (np = perm.length) else en.kws.contains (args.length, kwNames kws, perm))
mutual
def chkE : CK → E → Expr → Bool
  | c, .var i, e => match e with | .Name x _ => c.var x i | _ => false
  | c, .lit k, e => match e with | .Constant k' _ _ => litB k && decide (k' = k) | _ => false
  | c, .glob g, e => match e with | .Name x _ => c.gl x && decide (x = Str.ofString g) | _ => false
  | c, .neg a, e => match e with | .UnaryOp .USub o _ => chkE c a o | _ => false
  | c, .not a, e => match e with | .UnaryOp .Not o _ => chkE c a o | _ => false
  | c, .bin o a b, e => match e with | .BinOp l op r _ => decide (op = toOp o) && chkE c a l && chkE c b r | _ => false
  | c, .cmp o a b, e => match e with | .Compare l [op] [r] _ => decide (op = toCmp o) && chkE c a l && chkE c b r && !behindInMarks (toCmp o) r | _ => false
  | c, .chain o1 o2 a b d, e => match e with
    | .Compare l [p1, p2] [m, r] _ => decide (p1 = toCmp o1) && decide (p2 = toCmp o2) && chkE c a l && chkE c b m && chkE c d r && !lastMarks [toCmp o1, toCmp o2] [m, r]
    | _ => false
  | c, .and a b, e => match e with
    | .BoolOp .And (x :: es) pos => chkE c a x && (match es with
      | [] => false
      | [y] => chkE c b y && !fk c.G.ff b
      | y :: z :: r => chkE c b (.BoolOp .And (y :: z :: r) pos))
    | _ => false
  | c, .or a b, e => match e with
    | .BoolOp .Or (x :: es) pos => chkE c a x && (match es with
      | [] => false
      | [y] => chkE c b y && !fk c.G.ff b
      | y :: z :: r => chkE c b (.BoolOp .Or (y :: z :: r) pos))
    | _ => false
  | c, .ite t a b, e => match e with | .IfExp t' a' b' _ => chkE c t t' && chkE c a a' && chkE c b b' | _ => false
  | c, .tup es, e => match e with | .Tuple xs _ _ => starsB xs && chkEs c es xs | _ => false
  | c, .trng a b, e => match e with
    | .Call (.Name y _) [.Call (.Name x _) [a', b'] [] _] [] _ => decide (y = ("tuple" : Str)) && c.bltn y && decide (x = ("range" : Str)) && c.bltn x && notStar a' && notStar b' && chkE c a a' && chkE c b b'
    | _ => false
  | c, .dict0, e => match e with | .Dict [] [] _ => true | _ => false
  | c, .lst es, e => match e with | .List xs _ => starsB xs && chkEs c es xs | _ => false
  | c, .rep es n, e => match e with | .BinOp (.List xs _) .Mult r _ => starsB xs && chkEs c es xs && chkE c n r | _ => false
  | c, .idx a i, e => match e with | .Subscript v s _ => chkE c a v && chkE c i s && notSlice s | _ => false
  | c, .sli a lo hi, e => match e with | .Subscript v (.Slice l h none _) _ => chkE c a v && chkEo c lo l && chkEo c hi h | _ => false
  | c, .rev a, e => neverB a || (match e with | .Subscript v (.Slice none none (some (.UnaryOp .USub (.Constant (.int 1) _ _) _)) _) _ => chkE c a v | _ => false)
  | c, .rvt a, e => match e with | .Subscript v (.Slice none (some (.Constant (.int 0) _ _)) (some (.UnaryOp .USub (.Constant (.int 1) _ _) _)) _) _ => chkE c a v | _ => false
  | c, .uidx k, e => match e with | .Subscript (.Name x _) s _ => c.urn && c.var x 0 && chkE c k s && notSlice s | _ => false
  | c, .call f es perm, e => match c.told f with
    | some t => (match e with
      | .Call (.Name x _) [.Lambda params body scope _] [] _ => c.gl x && decide (x = Str.ofString t.td) && noParams params && LamX.lamSB c.sc scope && (match body with
        | .Call (.Name y _) args kws _ => (c.lam scope).gl y && decide (y = Str.ofString t.f) && starsB args && kwsB kws && chkA (c.lam scope) es args kws && eqEs es es && decide (perm.length = t.np) && (match c.T t.f with
          | some en => !en.fn.urn && !en.rp && callB en (esLen es) es args kws perm
          | none => false)
        | _ => false)
      | _ => false)
    | none => (match e with
      | .Call (.Name x _) args kws _ => c.gl x && decide (x = Str.ofString f) && starsB args && kwsB kws && chkA c es args kws && (match c.T f with
        | some en => !en.fn.urn && (!en.rp || c.rp) && callB en (esLen es) es args kws perm
        | none => false)
      | _ => false)
  | c, .ucall f es, e => match e with
    | .Call (.Name x _) (.Name y _ :: args) [] _ => c.gl x && decide (x = Str.ofString f) && starsB args && c.urn && c.var y 0 && chkEs c es args && (match c.T f with
      | some en => en.fn.urn && (!en.rp || c.rp) && decide (esLen es + 1 = en.fn.np)
      | none => false)
    | _ => false
  | c, .ncall f a es, e => match e with
    | .Call (.Name x _) (a0 :: args) [] _ => c.gl x && decide (x = Str.ofString f) && starsB (a0 :: args) && fk c.G.ff a && chkE c a a0 && chkEs c es args && (match c.T f with
      | some en => en.fn.urn && (!en.rp || c.rp) && decide (esLen es + 1 = en.fn.np)
      | none => false)
    | _ => false
  | c, .bi b es, e => match e with
    | .Call (.Name x _) (a0 :: args) [] _ => starsB (a0 :: args) && (match isTy b with
      | some ty => decide (x = ("isinstance" : Str)) && c.bltn x && (match args with
        | [.Name y _] => decide (y = ty) && c.bltn y && chkEs c es [a0] && (match es with | .cons _ .nil => true | _ => false)
        | _ => false)
      | none => (match b with
        | .gcd => chkEs c es (a0 :: args) && (c.gcd && c.gl x && decide (x = ("gcd" : Str)))
        | .sortedSet => (match es, a0, args with
          | .cons p .nil, .Call (.Name y _) [a] [] _, [] => decide (y = ("set" : Str)) && c.bltn y && notStar a && chkE c p a && (c.bltn x && decide (x = ("sorted" : Str)))
          | _, _, _ => false)
        | _ => chkEs c es (a0 :: args) && (c.bltn x && decide (biName b = some x) && (!isRepr b || c.rp))))
    | _ => false
  | c, .comp elt t it cond own, e => match e with
    | .ListComp elt' [⟨tg, iter, ifs, 0⟩] scope _ => chkI c it tg iter && notSet iter && L2.blkC c.N c.sc scope (ownL c own) && ownB c t own && chkG (c.blk scope) t tg && chkC (c.blk scope) cond ifs && chkE (c.blk scope) elt elt'
    | _ => false
def chkEs : CK → Es → List Expr → Bool
  | _, .nil, l => l.isEmpty
  | c, .cons p ps, l => match l with | e :: es => chkE c p e && chkEs c ps es | [] => false
/-- the arguments by place, then those by name -/
def chkA : CK → Es → List Expr → List Keyword → Bool
  | _, .nil, l, ks => l.isEmpty && ks.isEmpty
  | c, .cons p ps, l, ks => match l, ks with
    | e :: es, ks => chkE c p e && chkA c ps es ks
    | [], k :: ks => chkE c p k.2 && chkA c ps [] ks
    | [], [] => false
def chkEo : CK → Eo → Option Expr → Bool
  | _, .no, o => o.isNone
  | c, .yes p, o => match o with | some e => chkE c p e | none => false
def chkC : CK → Eo → List Expr → Bool
  | _, .no, l => l.isEmpty
  | c, .yes p, l => match l with | [e] => chkE c p e | _ => false
def chkI : CK → I → Expr → Expr → Bool
  | c, .seq p, _, e => chkE c p e
  | c, .range1 a, _, e => match e with | .Call (.Name x _) [a'] [] _ => decide (x = ("range" : Str)) && c.bltn x && notStar a' && chkE c a a' | _ => false
  | c, .range2 a b, _, e => match e with | .Call (.Name x _) [a', b'] [] _ => decide (x = ("range" : Str)) && c.bltn x && notStar a' && notStar b' && chkE c a a' && chkE c b b' | _ => false
  | _, .range3 _ _ _, _, _ => false
  | c, .revRange1 a, _, e => match e with
    | .Call (.Name y _) [.Call (.Name x _) [a'] [] _] [] _ => decide (y = ("reversed" : Str)) && c.bltn y && decide (x = ("range" : Str)) && c.bltn x && notStar a' && chkE c a a'
    | _ => false
  | c, .enum a, tg, e => !notTup tg && (match e with | .Call (.Name x _) [a'] [] _ => decide (x = ("enumerate" : Str)) && c.bltn x && notStar a' && chkE c a a' | _ => false)
  | c, .zip a b, tg, e => !notTup tg && (match e with | .Call (.Name x _) [a', b'] [] _ => decide (x = ("zip" : Str)) && c.bltn x && notStar a' && notStar b' && chkE c a a' && chkE c b b' | _ => false)
  | c, .zip3 a b d, tg, e => !notTup tg && (match e with | .Call (.Name x _) [a', b', d'] [] _ => decide (x = ("zip" : Str)) && c.bltn x && notStar a' && notStar b' && notStar d' && chkE c a a' && chkE c b b' && chkE c d d' | _ => false)
  | c, .rev a, _, e => match e with | .Call (.Name x _) [a'] [] _ => decide (x = ("reversed" : Str)) && c.bltn x && notStar a' && chkE c a a' | _ => false
end

def tuB (c : CK) : List Tu → List Expr → Bool
  | [], [] => true
  | .nm i :: ts, .Name x _ :: es => c.tgt x i && tuB c ts es
  | .pl k :: ts, .Subscript (.Name x _) (.Constant (.int z) _ _) _ :: es => c.urn && c.var x 0 && decide (z = (k : Int)) && tuB c ts es
  | _, _ => false
def lineOf : Expr → Option Nat | .Name _ p => some p.line | _ => none
/-- the names of a stored pair, where the model stores it from the stack -/
def parB (c : CK) (ts vs : List Expr) : Bool := decide (c.sc.kind = .function) && (match ts with
  | [.Name x px, .Name y py] => c.kindB x .local && c.kindB y .local && decide (py.line = px.line) && !(x == y)
  | [.Name x px, .Name y py, .Name z pz] => c.kindB x .local && c.kindB y .local && c.kindB z .local && decide (py.line = px.line) && decide (pz.line = px.line) && !(x == y) && !(x == z) && !(y == z)
  | _ => false) && decide (vs.length = ts.length) && starsB vs && !(vs.all (foldedForSure 8)) && !(vs.all (constantsAlone 8))
/-- .. and where it makes the tuple -/
def unpB (c : CK) (ts : List Expr) (v : Expr) : Bool := match v with
  | .Tuple vs _ _ => !(decide (ts.length = 2) || decide (ts.length = 3)) || vs.all (foldedForSure 8) || (match ts with
      | .Name x _ :: _ => !(c.kindB x .local)
      | _ => true) || (match ts with
      | _ :: .Name x _ :: _ => !(c.kindB x .local)
      | _ => true)
  | _ => true
def listB : Expr → Bool | .ListComp .. => true | .List .. => true | _ => false
def isVarB : E → Bool | .var _ => true | _ => false
def isLst : E → Bool | .comp _ _ _ _ _ => true | .lst _ => true | _ => false
/-- a list taken apart -/
def chkU (c : CK) : E → Expr → Bool
  | .bi .tuple (.cons q .nil), e => isLst q && chkE c q e
  | _, _ => false
mutual
def chkS : CK → Bool → S → Stmt → Bool
  | c, _, .set i p, st => match st with
    | .Assign [.Name x px] e pos => c.tgt x i && chkE c p e && (notComp e || (match e with
      | .ListComp _ _ scope p2 => c.kindB x .local && decide (c.sc.kind = .function) && (px.line == p2.line) && decide (p2.line = p2.line) && !(scope.names.any fun (n, k) => n == x && (k == .local || k == .cell))
      | _ => false) || (match e with
      | .ListComp _ _ _ _ => c.kindB x .cell
      | _ => false))
    | _ => false
  | c, _, .set2 i j p, st => match st with | .Assign [.Name x _, .Name y _] e _ => c.tgt x i && c.tgt y j && chkE c p e && notTup e && notComp e | _ => false
  | c, _, .par is es, st => match st with | .Assign [.Tuple ts _ _] (.Tuple vs kv pv) _ => namesB c is ts && (parB c ts vs || (tuB c (is.map .nm) ts && unpB c ts (.Tuple vs kv pv) && starsB vs && decide (is.length ≤ 3))) && chkEs c es vs && decide (is.Nodup) | _ => false
  | c, _, .unp us p, st => match st with | .Assign [.Tuple ts _ _] e _ => tuB c us ts && ((unpB c ts e && notComp e && chkE c p e) || (listB e && chkU c p e)) | _ => false
  | c, _, .setI i k p, st => match st with | .Assign [.Subscript (.Name x _) s _] e _ => c.var x i && chkE c k s && chkE c p e && notComp e && notSlice s | _ => false
  | c, _, .setU k p, st => match st with | .Assign [.Subscript (.Name x _) s _] e _ => c.urn && c.var x 0 && chkE c k s && chkE c p e && notComp e && notSlice s | _ => false
  | c, _, .app i p, st => match st with | .Expr (.Call (.Attribute (.Name x _) m ap) [a] [] cp) _ => c.var x i && decide (m = ("append" : Str)) && (ap.endLine == cp.line) && notStar a && chkE c p a | _ => false
  | c, _, .pop i, st => match st with | .Expr (.Call (.Attribute (.Name x _) m ap) [] [] cp) _ => c.var x i && decide (m = ("pop" : Str)) && (ap.endLine == cp.line) | _ => false
  | c, _, .ins i k p, st => match st with | .Expr (.Call (.Attribute (.Name x _) m ap) [b, a] [] cp) _ => c.var x i && decide (m = ("insert" : Str)) && (ap.endLine == cp.line) && notStar b && notStar a && chkE c k b && chkE c p a | _ => false
  | c, _, .drop p, st => match st with | .Expr e _ => chkE c p e && notComp e | _ => false
  | c, fr, .ite t a b, st => match st with | .If t' a' b' _ => chkE c t t' && chkSs c fr a a' && chkSs c fr b b' | _ => false
  | c, fr, .whil t b, st => match st with | .While t' b' [] _ => chkE c t t' && chkSs c fr b b' | _ => false
  | c, fr, .for_ t it b, st => match st with | .For tg iter b' [] _ => chkI c it tg iter && notSet iter && chkG c t tg && chkSs c fr b b' | _ => false
  | c, fr, .ret p, st => !fr && (match st with
    | .Return (some e) _ => chkE c p e
    | .Return none _ => neverB p
    | _ => false)
  | c, fr, .retF p, st => fr && (match st with | .Return (some e) _ => chkE c p e | _ => false)
  | _, _, .brk, st => match st with | .Break _ => true | _ => false
  | _, _, .cont, st => match st with | .Continue _ => true | _ => false
  | _, _, .pass, st => match st with | .Pass _ => true | _ => false
  | _, _, .raise, _ => true
def chkSs : CK → Bool → Ss → List Stmt → Bool
  | _, _, .nil, l => l.isEmpty
  | c, fr, .cons s ss, l => match l with | st :: sts => chkS c fr s st && chkSs c fr ss sts | [] => false
end
end Pl

/-! PSound14: what the checker lets is right: expressions. -/
namespace Pl
open PySem PyProof.Rows
open L2 (V Hp HO VK XK TE TT TA TS TG TGs Cx PE PT PW PA PS PSs PG PGs PI PK Inv SqL SqT Dp DpAll Vals RelV EP Gl Vis Ends Sp FnScope Env0 CE CR CX0 Room Fun Binds KBinds)
variable [Tabl]

def gK {α : Type} (np nk : Nat) (perm : List Nat) (us ws : List α) : List α := if us.length = np ∧ ws.length = nk then perm.filterMap (fun i => (us ++ ws)[i]?) else []
structure Callable (X : Cx) (G : Prog) (n : Nat) (f : String) (en : Entry) : Prop where
  ex : ∃ fa fd, X.mg (Str.ofString f) = some (.ref fa) ∧ PySem.W.keepIn X.K (.ref fa) = true ∧ Binds X.K fd en.ps [] ∧
    (∀ q ∈ en.kws, KBinds X.K fd en.ps q.2.1 (gK q.1 q.2.1.length q.2.2) (gK q.1 q.2.1.length q.2.2)) ∧ FnG X.prog X.w X.K X.mg X.base en.rp (3 * n) fa fd en.ps (spF X.K en.fn (callU G n f))
/-- a def told of a lambda's call -/
structure ToldOk (X : Cx) (c : CK) (G : Prog) (n : Nat) (au : Option Addr) (f : String) : Prop where
  sim : ∀ {es : Es} {perm : List Nat} {e : Expr}, chkE c (.call f es perm) e = true → Sim X (ctxN G n) G.ff au e (.call f es perm)
structure Okx (X : Cx) (c : CK) (G : Prog) (n : Nat) (au : Option Addr) : Prop where
  hG : c.G = G
  td : ∀ f t, c.told f = some t → ToldOk X c G n au f
  hN : X.N = c.N
  nd : c.N.Nodup
  sc : X.env.scope = c.sc
  calm : X.calm = true
  fn : ∀ x, c.fnB x = true → X.fn x = true ∨ X.env.scope.names.lookup x = some .local
  own : PassesOwn (model X.prog X.w) X.A X.env X.xe
  rg : RoomG c.rp (3 * n + 2) X.A
  au : au.isSome = c.urn
  blt : ∀ x ∈ c.bl, X.mg x = none
  gcd : c.gcd = true → X.mg "gcd" = some (.builtin "math.gcd")
  fns : ∀ f en, c.T f = some en → Callable X G n f en
  glb : ∀ g d, G.glob g = some d → ∃ v u, X.mg (Str.ofString g) = some u ∧ RelV v u ∧ ∀ F, Dp X.K F v d
  tab : ∀ f en, c.T f = some en → G.T f = some en.fn

section
variable {X : Cx} {c : CK} {G : Prog} {n : Nat} {au : Option Addr}
theorem Okx.kind (o : Okx X c G n au) {x : Str} {k : NameKind} (h : c.kindB x k = true) : X.env.scope.names.lookup x = some k := by
  rw [o.sc]; exact of_decide_eq_true h
theorem Okx.gl (o : Okx X c G n au) {x : Str} (h : c.gl x = true) : Gl X x ∧ (x == ("__debug__" : Str)) = false := by
  unfold CK.gl at h
  simp only [Bool.and_eq_true, Bool.not_eq_true'] at h
  exact ⟨o.kind h.1, h.2⟩
theorem Okx.bltn (o : Okx X c G n au) {x : Str} (h : c.bltn x = true) : Gl X x ∧ X.mg x = none ∧ x ≠ "__name__" ∧ (x == ("__debug__" : Str)) = false := by
  unfold CK.bltn at h
  simp only [Bool.and_eq_true, Bool.not_eq_true', List.contains_iff_mem] at h
  obtain ⟨⟨h1, h2⟩, h3⟩ := h
  obtain ⟨q1, q2⟩ := o.gl h1
  exact ⟨q1, o.blt x h2, by simpa using h3, q2⟩
theorem Okx.var (o : Okx X c G n au) {x : Str} {i : Nat} {pos : Pos} (h : c.var x i = true) : PE X (.Name x pos) (L2.tVar i) := by
  unfold CK.var CK.vis at h
  simp only [Bool.and_eq_true, Bool.not_eq_true', Bool.or_eq_true] at h
  obtain ⟨⟨⟨h1, h2⟩, h3⟩, h4⟩ := h
  refine L2.pe_var (by rw [o.hN]; exact of_decide_eq_true h1) ?_ h3 h4
  rcases h2 with (h2 | h2) | h2
  · exact .inl (o.kind h2)
  · exact .inr (.inl (o.kind h2))
  · exact .inr (.inr (o.kind h2))
theorem Okx.tgt (o : Okx X c G n au) {x : Str} {i : Nat} {pos : Pos} (h : c.tgt x i = true) : PG X (.Name x pos) (L2.gName i) ∧ (au.isSome = true → i ≠ 0) ∧ X.N[i]? = some x ∧ L2.Loc X.env.scope x ∧ (X.fn x = true ∨ X.env.scope.names.lookup x = some .local) := by
  unfold CK.tgt CK.loc at h
  simp only [Bool.and_eq_true, Bool.not_eq_true', Bool.or_eq_true] at h
  obtain ⟨⟨⟨h1, h2⟩, h3⟩, h4⟩ := h
  have hi : X.N[i]? = some x := by rw [o.hN]; exact of_decide_eq_true h1
  have hl : L2.Loc X.env.scope x := h2.elim (fun q => .inl (o.kind q)) fun q => .inr (o.kind q)
  refine ⟨L2.pg_name (by rw [o.hN]; exact o.nd) hi hl (o.fn x h3), fun ha e => ?_, hi, hl, o.fn x h3⟩
  rw [o.au] at ha
  subst e
  rw [ha] at h4
  simp at h4
theorem Okx.rgc (o : Okx X c G n au) {b : Bool} (h : (!b || c.rp) = true) : RoomG b (3 * n) X.A := ⟨o.rg.rm.mono (by omega), fun hb => o.rg.gd (by rw [hb] at h; simpa using h)⟩
theorem Okx.un (o : Okx X c G n au) : X.A.units + 66 < cLine := by have := o.rg.rm.un; omega
theorem Okx.blk (o : Okx X c G n au) (s : Shared) (H : Hp) (scope : Scope) (cl : List (Str × Addr)) (Ca : Addr) (fp : List Addr) : Okx (X.blk s H scope (compEnvC scope cl Ca X.env) fp) (c.blk scope) G n au where
  hG := o.hG
  hN := o.hN
  nd := o.nd
  sc := by
    show relabel scope X.env = _
    unfold relabel CK.blk Env.kindOf
    rw [o.sc]
  calm := o.calm
  fn := fun x h => by
    unfold CK.fnB at h
    simp only [Bool.or_eq_true] at h
    rcases h with h | h
    · refine .inr ?_
      show (relabel scope X.env).names.lookup x = _
      have e : relabel scope X.env = (c.blk scope).sc := by
        unfold relabel CK.blk Env.kindOf
        rw [o.sc]
      rw [e]
      exact of_decide_eq_true h
    · refine .inl ?_
      show (scope.names.lookup x == some NameKind.cell) = true
      have h' : scope.names.lookup x = some .cell := of_decide_eq_true h
      rw [h']
      rfl
  own := PassesOwn.never
  rg := o.rg
  au := o.au
  blt := o.blt
  gcd := o.gcd
  fns := fun f en h => ⟨(o.fns f en h).ex⟩
  glb := o.glb
  tab := o.tab
  td := fun _ _ z => nomatch z
theorem Okx.cfn (o : Okx X c G n au) {f : String} {en : Entry} (h : c.T f = some en) : (ctxN G n).fn f = (fun ds => if en.fn.urn then none else (callU G n f ds []).map (·.1)) ∧ (ctxN G n).ufn f = (fun ds u => if en.fn.urn then callU G n f ds u else none) ∧ G.ff f = en.fn.fresh := by
  have hT : G.T f = some en.fn := o.tab f en h
  refine ⟨?_, ?_, ?_⟩
  · funext ds; unfold ctxN ctxOf; simp only [hT]
  · funext ds u; unfold ctxN ctxOf; simp only [hT]
  · unfold Prog.ff; rw [hT]
theorem namesB_ok (o : Okx X c G n au) : ∀ {is : List Nat} {es : List Expr}, namesB c is es = true → PGs X es (gMany is) ∧ (assignEach es X.env).length = is.length ∧ (assignEach es X.env).findIdx? (·.1) = none ∧ (au.isSome = true → 0 ∉ is) ∧ es.length = is.length
  | [], [], _ => ⟨L2.pgs_nil, rfl, rfl, fun _ => by simp, rfl⟩
  | [], _ :: _, h => by simp [namesB] at h
  | _ :: _, [], h => by simp [namesB] at h
  | i :: is, e :: es, h => by
    cases e <;> try (simp [namesB] at h; done)
    rename_i x p
    simp only [namesB, Bool.and_eq_true] at h
    obtain ⟨g1, g2, _⟩ := o.tgt (pos := p) h.1
    obtain ⟨k1, k2, k3, k4, k5⟩ := namesB_ok o h.2
    refine ⟨L2.pgs_cons g1 k1 rfl, congrArg Nat.succ k2, ?_, fun ha hm => ?_, congrArg Nat.succ k5⟩
    · show ((false, assign (.Name x p) X.env) :: assignEach es X.env).findIdx? (·.1) = none
      rw [List.findIdx?_cons, k3]
      rfl
    · rcases List.mem_cons.mp hm with e | e
      · exact g2 ha e.symm
      · exact k4 ha e
theorem chkG_ok (o : Okx X c G n au) {t : Tg} {tg : Expr} (h : chkG c t tg = true) : SimG X tg t ∧ (au.isSome = true → 0 ∉ tgIx t) := by
  unfold chkG at h
  split at h <;> first | contradiction | skip
  · obtain ⟨g1, g2, _⟩ := o.tgt (pos := ‹Pos›) h
    exact ⟨simG_one g1, fun ha hm => g2 ha (List.mem_singleton.mp hm).symm⟩
  · obtain ⟨k1, k2, k3, k4, _⟩ := namesB_ok o h
    exact ⟨simG_many o.calm k1 k2 k3, k4⟩
end

/-- an expression is what its term says, as a value and as a test -/
structure OkE (X : Cx) (C : Ctx) (ff : String → Bool) (au : Option Addr) (e : Expr) (p : E) : Prop where
  s : Sim X C ff au e p
  t : SimT X C au e p
  w : ∀ op es pos, e = .BoolOp op es pos → SimW X C au e p
theorem okE_of {X : Cx} {C : Ctx} {ff : String → Bool} {au : Option Addr} {e : Expr} {p : E} (h : Sim X C ff au e p) (he : ∀ whole, isTrue e X.env whole = (do let v ← whole; standAt e.pos; holding [v] (truthy v))) (hb : ∀ op es pos, e ≠ .BoolOp op es pos) : OkE X C ff au e p :=
  ⟨h, simT_of h he, fun op es pos z => absurd z (hb op es pos)⟩
theorem okE_bi {X : Cx} {C : Ctx} {ff : String → Bool} {au : Option Addr} {e : Expr} {p : E} (h : Sim X C ff au e p) (t : SimT X C au e p) (hb : ∀ op es pos, e ≠ .BoolOp op es pos) : OkE X C ff au e p := ⟨h, t, fun op es pos z => absurd z (hb op es pos)⟩
theorem okE_never {X : Cx} {C : Ctx} {ff : String → Bool} {au : Option Addr} {e : Expr} {p : E} (h : ∀ env u, evalE C p env u = none) : OkE X C ff au e p :=
  ⟨sim_never h pe_never, ⟨L2.PT.imp pt_never fun σ H Q ⟨F, env, u, d, u', A, ev, k⟩ => by rw [h] at ev; cases ev⟩, fun _ _ _ _ => ⟨L2.PW.imp pw_never fun σ H Q ⟨F, env, u, d, u', A, ev, k⟩ => by rw [h] at ev; cases ev⟩⟩
structure SimK (X : Cx) (C : Ctx) (au : Option Addr) (kws : List Keyword) (p : Es) : Prop where
  t : PK X kws (wpEs X.K C au p)
def esApp : Es → Es → Es | .nil, q => q | .cons e es, q => .cons e (esApp es q)
section
variable {X : Cx} {C : Ctx} {ff : String → Bool} {au : Option Addr} {K : PySem.W.Frag}
theorem simK_nil : SimK X C au [] .nil := ⟨⟨fun pos pins s σ H Q I ⟨F, env, u, d, u', A, ev, k⟩ => by
  simp only [evalEs, Option.some.injEq, Prod.mk.injEq] at ev
  obtain ⟨rfl, rfl⟩ := ev
  exact L2.pk_nil.run pos pins s σ H Q I (k [] F H A.post .nil)⟩⟩
theorem simK_cons {a : Expr} {pa : E} {ps : Es} {kws : List Keyword} {nm : Option Str} {kpos : Pos} (ha : Sim X C ff au a pa) (hs : SimK X C au kws ps) : SimK X C au (⟨nm, a, kpos⟩ :: kws) (.cons pa ps) :=
  ⟨⟨fun pos pins s σ H Q I ⟨F, env, u, d, u', A, ev, k⟩ => by
    simp only [evalEs] at ev
    obtain ⟨⟨da, u1⟩, e1, ev⟩ := Option.bind_eq_some_iff.mp ev
    obtain ⟨⟨ds, u2⟩, e2, ev⟩ := Option.bind_eq_some_iff.mp ev
    cases ev
    refine (L2.pk_cons ha.pl hs.t).run pos pins s σ H Q I ⟨F, env, u, da, u1, A.l, e1, fun v F1 H1 P1 r1 => ?_⟩
    have A1 := A.step P1
    refine ⟨F1, env, u1, ds, u2, A1.r, e2, fun vs F2 H2 P2 r2 => ?_⟩
    exact k _ F2 H2 (P1.trans P2) (.cons (dp_sub (A1.subF P2) _ _ r1) r2)⟩⟩
theorem fvEs_app : ∀ (p q : Es), fvEs (esApp p q) = fvEs p ++ fvEs q
  | .nil, q => rfl
  | .cons e es, q => by show fvE e ++ fvEs (esApp es q) = _; rw [fvEs_app es q, ← List.append_assoc]; rfl
theorem evalEs_app : ∀ {p q : Es} {env : Env} {u u' : U} {ds : List D}, evalEs C (esApp p q) env u = some (ds, u') → ∃ d1 u1 d2, evalEs C p env u = some (d1, u1) ∧ evalEs C q env u1 = some (d2, u') ∧ ds = d1 ++ d2
  | .nil, q, env, u, u', ds, h => ⟨[], u, ds, rfl, h, rfl⟩
  | .cons e es, q, env, u, u', ds, h => by
    simp only [esApp, evalEs] at h
    obtain ⟨⟨d, u1⟩, h1, h⟩ := Option.bind_eq_some_iff.mp h
    obtain ⟨⟨r, u2⟩, h2, h⟩ := Option.bind_eq_some_iff.mp h
    cases h
    obtain ⟨d1, u3, d2, g1, g2, g3⟩ := evalEs_app h2
    refine ⟨d :: d1, u3, d2, ?_, g2, by rw [g3]; rfl⟩
    simp only [evalEs, h1, Option.bind_some, g1]
theorem wpEs_app {p q : Es} {σ : L2.St} {H : Hp} {Q : List V → Hp → Prop} (h : wpEs K C au (esApp p q) σ H Q) : wpEs K C au p σ H fun vs H1 => wpEs K C au q σ H1 fun zs H2 => Q (vs ++ zs) H2 := by
  obtain ⟨F, env, u, ds, u', A, ev, k⟩ := h
  rw [fvEs_app] at A
  obtain ⟨d1, u1, d2, g1, g2, rfl⟩ := evalEs_app ev
  refine ⟨F, env, u, d1, u1, A.l, g1, fun vs F1 H1 P1 r1 => ⟨F1, env, u1, d2, u', (A.step P1).r, g2, fun zs F2 H2 P2 r2 => ?_⟩⟩
  exact k _ F2 H2 (P1.trans P2) (dpAll_append (dpAll_sub ((A.step P1).subF P2) _ _ r1) r2)
end
end Pl

/-! PSound15: the checker is right: expressions. -/
namespace Pl
open PySem PyProof.Rows
open L2 (V Hp HO VK XK TE TT TA TS TG TGs Cx PE PT PW PA PS PSs PG PGs PI PK Inv SqL SqT Dp DpAll Vals RelV EP Gl Vis Ends Sp FnScope Env0 CE CR CX0 Room Fun Binds KBinds)
variable [Tabl]

section
variable {X : Cx} {c : CK} {G : Prog} {n : Nat} {au : Option Addr} {C : Ctx} {ff : String → Bool} {e a : Expr} {es args : List Expr} {pa : E} {ps : Es} {pos pos2 : Pos} {f : String} {x : Str}
/-- f(k = v, ..), no argument by place -/
theorem pe_callKG0 {k : Nat} {fa : Addr} {fd : FuncData} {ps ks : List Str} {sp : Sp} {kws : List Keyword} {tk : TA} {g : List Value → List Value → List Value} {gV : List V → List V → List V} {E : XK} {b : Bool} (F : FnG X.prog X.w X.K X.mg X.base b k fa fd ps sp) (rg : RoomG b k X.A) (hg : Gl X x) (hm : X.mg x = some (.ref fa)) (hk : PySem.W.keepIn X.K (.ref fa) = true) (hb : KBinds X.K fd ps ks g gV)
    (hkw : PK X kws tk) (hall : (backToKw pos (keywordEach kws X.env)).all (·.1.isSome) = true) (hks : (backToKw pos (keywordEach kws X.env)).filterMap (·.1) = ks)
    (hdb : (x == ("__debug__" : Str)) = false) (hpl : ((backTo pos (starEach [] X.env)).any (·.1) || (backToKw pos (keywordEach kws X.env)).any (·.1.isNone)) = false) :
    PE X (.Call (.Name x pos2) [] kws pos) (fun σ H Q => tk σ H fun zs H2 => sp (gV [] zs) H2 Q E) := ⟨fun pins s σ H Q I h => by
  refine wpAny_Call_Name_kw (L2.ld_glob I hg hm ?_ hdb)
  refine PySem.W.callWith_KW0 (h₀ := X.base) I.ok.mod.kin hk hall (L2.thn (hkw.run pos pins s σ H _ I h) fun ws s2 ⟨zs, H2, I2, rz, q2⟩ => ⟨I2.kIn, ?_⟩) hpl
  subst hks
  exact fnG_run (us := []) F rg hb I2 .nil rz q2⟩
theorem gK_pick {np nk : Nat} {perm : List Nat} {ds ds' : List D} {vs zs : List V} {K : PySem.W.Frag} {F : Hp} (h : DpAll K F (vs ++ zs) ds) (e : pick ds perm = some ds') (h1 : vs.length = np) (h2 : zs.length = nk) : DpAll K F (gK np nk perm vs zs) ds' := by
  unfold gK
  rw [if_pos ⟨h1, h2⟩]
  clear h1 h2
  induction perm generalizing ds' with
  | nil => simp only [pick, Option.some.injEq] at e; subst e; exact .nil
  | cons i is ih =>
    simp only [pick] at e
    obtain ⟨d, q1, e⟩ := Option.bind_eq_some_iff.mp e
    obtain ⟨r, q2, e⟩ := Option.bind_eq_some_iff.mp e
    cases e
    obtain ⟨v, g1, g2⟩ := dpAll_get h q1
    rw [List.filterMap_cons, g1]
    exact .cons g2 (ih q2)
theorem esApp_nil : ∀ (p : Es), esApp p .nil = p
  | .nil => rfl
  | .cons e es => congrArg (Es.cons e) (esApp_nil es)
theorem esApp_len : ∀ (p q : Es), esLen (esApp p q) = esLen p + esLen q
  | .nil, q => by simp [esApp, esLen]
  | .cons e es, q => by simp only [esApp, esLen]; rw [esApp_len es q]; omega
theorem wpEs_len {K : PySem.W.Frag} {σ : L2.St} {H : Hp} {Q : List V → Hp → Prop} (h : wpEs K C au ps σ H fun vs H1 => vs.length = esLen ps → Q vs H1) : wpEs K C au ps σ H Q := by
  obtain ⟨F, env, u, ds, u', A, ev, k⟩ := h
  exact ⟨F, env, u, ds, u', A, ev, fun vs F' H' P r => k vs F' H' P r (by rw [dpAll_len r, evalEs_len ev])⟩
/-- a call of a def with values -/
theorem okx_call {en : Entry} {perm : List Nat} {kws : List Keyword} {p1 p2 : Es} (o : Okx X c G n au) (hT : c.T f = some en) (hu : en.fn.urn = false) (hrp : (!en.rp || c.rp) = true) (hnp : perm.length = en.fn.np) (hg : c.gl x = true) (hx : x = Str.ofString f) (hst : starsB args = true) (hkw : kwsB kws = true)
    (h1 : SimA X (ctxN G n) au args p1) (h2 : SimK X (ctxN G n) au kws p2) (l1 : esLen p1 = args.length) (l2 : esLen p2 = (kwNames kws).length)
    (h : if kws.isEmpty then (!args.isEmpty && decide (perm = List.range' 0 perm.length) && decide (esLen (esApp p1 p2) = perm.length)) = true else en.kws.contains (args.length, kwNames kws, perm) = true) :
    Sim X (ctxN G n) G.ff au (.Call (.Name x pos2) args kws pos) (.call f (esApp p1 p2) perm) := by
  obtain ⟨q1, q2⟩ := o.gl hg
  obtain ⟨fa, fd, m1, m2, m3, m4, m5⟩ := (o.fns f en hT).ex
  obtain ⟨c1, c2, c3⟩ := o.cfn hT
  have hC : ∀ ds, (ctxN G n).fn f ds = (callU G n f ds []).map (·.1) := fun ds => by rw [c1]; simp only [hu, Bool.false_eq_true, if_false]
  subst hx
  by_cases hk : kws.isEmpty = true
  · rw [if_pos hk] at h
    simp only [Bool.and_eq_true, Bool.not_eq_true', decide_eq_true_eq] at h
    obtain ⟨⟨g1, g2⟩, g3⟩ := h
    have hkn : kws = [] := List.isEmpty_iff.mp hk
    subst hkn
    cases args with
    | nil => simp at g1
    | cons a0 args =>
      have p2n : p2 = .nil := by
        cases p2 with
        | nil => rfl
        | cons _ _ => simp [esLen, kwNames] at l2
      subst p2n
      have hs := hst
      simp only [starsB, List.all_cons, Bool.and_eq_true] at hs
      refine sim_callV (p := en.fn) hC hu c3 hnp (t := wpEs X.K (ctxN G n) au p1) ?_ (pe_callG m5 (o.rgc hrp) q1 m1 m2 m3 h1.t q2 (star_cons hs.1) (star_any hs.2))
      rintro σ H Q ⟨F, env, u, ds, u', ds', A, ev, hp, k⟩
      rw [esApp_nil] at A ev g3
      have hl : perm.length = ds.length := by rw [evalEs_len ev, g3]
      rw [g2, hl, pick_range ds ds.length 0 (by omega)] at hp
      cases hp
      exact ⟨F, env, u, ds, u', A, ev, k⟩
  · rw [if_neg hk] at h
    have hmem : (args.length, kwNames kws, perm) ∈ en.kws := by simpa using h
    have hb := m4 _ hmem
    cases args with
    | nil =>
      refine sim_callV (p := en.fn) hC hu c3 hnp (t := fun σ H Q => wpEs X.K (ctxN G n) au p2 σ H fun zs H2 => Q (gK 0 (kwNames kws).length perm [] zs) H2) ?_ (pe_callKG0 m5 (o.rgc hrp) q1 m1 m2 hb h2.t (kw_all hkw) kw_names q2 (by rw [kw_any hkw]; rfl))
      rintro σ H Q ⟨F, env, u, ds, u', ds', A, ev, hp, k⟩
      have p1n : p1 = .nil := by
        cases p1 with
        | nil => rfl
        | cons _ _ => simp [esLen] at l1
      subst p1n
      exact wpEs_len ⟨F, env, u, ds, u', A, ev, fun vs F' H' P r hl => k _ F' H' P (gK_pick (by simpa using r) hp rfl (by rw [hl, l2]))⟩
    | cons a0 args =>
      have hs := hst
      simp only [starsB, List.all_cons, Bool.and_eq_true] at hs
      refine sim_callV (p := en.fn) hC hu c3 hnp (t := fun σ H Q => wpEs X.K (ctxN G n) au p1 σ H fun vs H1 => wpEs X.K (ctxN G n) au p2 σ H1 fun zs H2 => Q (gK (a0 :: args).length (kwNames kws).length perm vs zs) H2) ?_
        (pe_callKG m5 (o.rgc hrp) q1 m1 m2 hb h1.t h2.t (kw_all hkw) kw_names q2 (star_cons hs.1) (by rw [kw_any hkw, star_any hst]; rfl))
      rintro σ H Q ⟨F, env, u, ds, u', ds', A, ev, hp, k⟩
      obtain ⟨d1, u1, d2, g1, g2, rfl⟩ := evalEs_app ev
      rw [fvEs_app] at A
      refine ⟨F, env, u, d1, u1, A.l, g1, fun vs F1 H1 P1 r1 => ⟨F1, env, u1, d2, u', (A.step P1).r, g2, fun zs F2 H2 P2 r2 => ?_⟩⟩
      refine k _ F2 H2 (P1.trans P2) (gK_pick (dpAll_append (dpAll_sub ((A.step P1).subF P2) _ _ r1) r2) hp ?_ ?_)
      · rw [dpAll_len r1, evalEs_len g1, l1]
      · rw [dpAll_len r2, evalEs_len g2, l2]
end
end Pl

set_option maxHeartbeats 2000000
/-! PSound16: the checker is right: expressions. -/
namespace Pl
open PySem PyProof.Rows
open L2 (V Hp HO VK XK TE TT TA TS TG TGs Cx PE PT PW PA PS PSs PG PGs PI PK Inv SqL SqT Dp DpAll Vals RelV EP Gl Vis Ends Sp FnScope Env0 CE CR CX0 Room Fun Binds KBinds)
variable [Tabl]

section
variable {X : Cx} {c : CK} {G : Prog} {n : Nat} {au : Option Addr} {C : Ctx} {ff : String → Bool} {e a : Expr} {es args : List Expr} {pa : E} {ps : Es} {pos pos2 : Pos} {f : String} {x : Str}

theorem okx_lit {k : Const} {j : Nat} (h : litB k = true) : OkE X C ff au (.Constant k j pos) (.lit k) := by
  refine okE_of ?_ (fun _ => rfl) (fun _ _ _ => nofun)
  cases k <;> first | exact sim_none | exact sim_bool | exact sim_int | exact sim_str | (simp [litB] at h)
theorem okx_glob (o : Okx X c G n au) (hg : c.gl x = true) (hx : x = Str.ofString f) : OkE X (ctxN G n) ff au (.Name x pos) (.glob f) := by
  subst hx
  obtain ⟨q1, q2⟩ := o.gl hg
  have hC : (ctxN G n).glob f = G.glob f := rfl
  cases hd : G.glob f with
  | none => exact okE_never fun env u => by simp [evalE, hC, hd]
  | some d =>
    obtain ⟨v, u, m, r, dp⟩ := o.glb f d hd
    exact okE_of (sim_glob (L2.pe_glob q1 m r q2) (hC.trans hd) dp) (fun _ => rfl) (fun _ _ _ => nofun)
theorem okx_ucall {en : Entry} {y : Str} {p3 : Pos} (o : Okx X c G n au) (hT : c.T f = some en) (hu : en.fn.urn = true) (hrp : (!en.rp || c.rp) = true) (hnp : esLen ps + 1 = en.fn.np) (hg : c.gl x = true) (hx : x = Str.ofString f) (hst : starsB args = true) (hurn : c.urn = true) (hy : c.var y 0 = true)
    (h1 : SimA X (ctxN G n) au args ps) : Sim X (ctxN G n) G.ff au (.Call (.Name x pos2) (.Name y p3 :: args) [] pos) (.ucall f ps) := by
  obtain ⟨q1, q2⟩ := o.gl hg
  obtain ⟨fa, fd, m1, m2, m3, m4, m5⟩ := (o.fns f en hT).ex
  obtain ⟨c1, c2, c3⟩ := o.cfn hT
  subst hx
  refine sim_ucall (p := en.fn) (c := callU G n f) (fun ds u => by rw [c2]; simp only [hu, if_true]) (o.au.trans hurn) hu c3 hnp (t := fun σ H Q => L2.tCons (L2.tVar 0) (wpEs X.K (ctxN G n) au ps) σ H fun vs H1 => spF X.K en.fn (callU G n f) vs H1 Q L2.E0)
    (fun σ H Q ⟨a, ha, hs, h⟩ => ⟨_, hs, h⟩) (pe_callG m5 (o.rgc hrp) q1 m1 m2 m3 (L2.pa_cons (o.var hy) h1.t rfl) q2 rfl (star_any hst))
theorem okx_ncall {en : Entry} {a0 : Expr} (o : Okx X c G n au) (hT : c.T f = some en) (hu : en.fn.urn = true) (hrp : (!en.rp || c.rp) = true) (hnp : esLen ps + 1 = en.fn.np) (hg : c.gl x = true) (hx : x = Str.ofString f) (hst : starsB (a0 :: args) = true) (hk : fk G.ff pa = true)
    (h0 : Sim X (ctxN G n) G.ff au a0 pa) (h1 : SimA X (ctxN G n) au args ps) : Sim X (ctxN G n) G.ff au (.Call (.Name x pos2) (a0 :: args) [] pos) (.ncall f pa ps) := by
  obtain ⟨q1, q2⟩ := o.gl hg
  obtain ⟨fa, fd, m1, m2, m3, m4, m5⟩ := (o.fns f en hT).ex
  obtain ⟨c1, c2, c3⟩ := o.cfn hT
  subst hx
  simp only [starsB, List.all_cons, Bool.and_eq_true] at hst
  have h0' := h0.raw
  rw [hk] at h0'
  refine sim_ncall (p := en.fn) (c := callU G n f) (fun ds u => by rw [c2]; simp only [hu, if_true]) hu c3 hnp hk (t := fun σ H Q => L2.tCons (wpE true X.K (ctxN G n) au pa) (wpEs X.K (ctxN G n) au ps) σ H fun vs H1 => spF X.K en.fn (callU G n f) vs H1 Q L2.E0)
    (fun σ H Q h => h) (pe_callG m5 (o.rgc hrp) q1 m1 m2 m3 (L2.pa_cons h0' h1.t (star_cons hst.1)) q2 (star_cons hst.1) (star_any hst.2))
theorem okx_isi {b : BI} {ty y : Str} {p3 : Pos} {q : E} {a0 : Expr} (o : Okx X c G n au) (hb : isTy b = some ty) (hg : c.bltn ("isinstance" : Str) = true) (hy : c.bltn y = true) (hty : y = ty) (hst : notStar a0 = true) (h : Sim X (ctxN G n) G.ff au a0 q) :
    Sim X (ctxN G n) G.ff au (.Call (.Name "isinstance" pos2) [a0, .Name y p3] [] pos) (.bi b (.cons q .nil)) := by
  obtain ⟨g1, g2, g3, g4⟩ := o.bltn hg
  obtain ⟨k1, k2, k3, k4⟩ := o.bltn hy
  subst hty
  cases b <;> simp only [isTy, Option.some.injEq, reduceCtorEq] at hb <;> subst hb
  · exact sim_isi .isInt isi_int (fun d d' e => by simp only [biV, Option.some.injEq] at e; exact ⟨_, e.symm⟩) rfl g1 g2 h k1 k2 (by decide +kernel) k3 k4 (star_cons hst)
  · exact sim_isi .isBool isi_bool (fun d d' e => by simp only [biV, Option.some.injEq] at e; exact ⟨_, e.symm⟩) rfl g1 g2 h k1 k2 (by decide +kernel) k3 k4 (star_cons hst)
  · exact sim_isi .isTuple isi_tuple (fun d d' e => by simp only [biV, Option.some.injEq] at e; exact ⟨_, e.symm⟩) rfl g1 g2 h k1 k2 (by decide +kernel) k3 k4 (star_cons hst)
  · exact sim_isi .isList isi_list (fun d d' e => by simp only [biV, Option.some.injEq] at e; exact ⟨_, e.symm⟩) rfl g1 g2 h k1 k2 (by decide +kernel) k3 k4 (star_cons hst)
  · exact sim_isi .isStr isi_str (fun d d' e => by simp only [biV, Option.some.injEq] at e; exact ⟨_, e.symm⟩) rfl g1 g2 h k1 k2 (by decide +kernel) k3 k4 (star_cons hst)
theorem okx_bi {b : BI} {a0 : Expr} (o : Okx X c G n au) (hst : starsB (a0 :: args) = true) (hg : c.bltn x = true) (hn : biName b = some x) (hrp : (!isRepr b || c.rp) = true) (h : SimA X (ctxN G n) au (a0 :: args) ps) :
    Sim X (ctxN G n) G.ff au (.Call (.Name x pos2) (a0 :: args) [] pos) (.bi b ps) := by
  obtain ⟨g1, g2, g3, g4⟩ := o.bltn hg
  simp only [starsB, List.all_cons, Bool.and_eq_true] at hst
  have s1 := star_cons (env := X.env) (es := args) hst.1
  have s2 := star_any (env := X.env) (pos := pos) hst.2
  cases b <;> simp only [biName, Option.some.injEq, reduceCtorEq] at hn <;> subst hn
  · exact sim_biB .len bi_len (by decide) (by decide) (by decide) g1 g2 (by decide +kernel) h g3 g4 s1 s2
  · exact sim_biB .abs bi_abs (by decide) (by decide) (by decide) g1 g2 (by decide +kernel) h g3 g4 s1 s2
  · exact sim_biT .int bi_int (by decide) (by decide) (by decide) g1 g2 (by decide +kernel) h g3 g4 s1 s2
  · exact sim_biT .tuple bi_tuple (by decide) (by decide) (by decide) g1 g2 (by decide +kernel) h g3 g4 s1 s2
  · exact sim_list g1 g2 h s1 s2
  · exact sim_biB .all (bi_all o.calm) (by decide) (by decide) (by decide) g1 g2 (by decide +kernel) h g3 g4 s1 s2
  · exact sim_biB .any (bi_any o.calm) (by decide) (by decide) (by decide) g1 g2 (by decide +kernel) h g3 g4 s1 s2
  · exact sim_biB .sum (bi_sum o.calm) (by decide) (by decide) (by decide) g1 g2 (by decide +kernel) h g3 g4 s1 s2
  · exact sim_biB .max2 (bi_max2 o.calm) (by decide) (by decide) (by decide) g1 g2 (by decide +kernel) h g3 g4 s1 s2
  · exact sim_biB .min2 (bi_min2 o.calm) (by decide) (by decide) (by decide) g1 g2 (by decide +kernel) h g3 g4 s1 s2
  · exact sim_biB .divmod bi_divmod (by decide) (by decide) (by decide) g1 g2 (by decide +kernel) h g3 g4 s1 s2
  · exact sim_biB .repr (bi_repr (o.rg.gd (by simpa [isRepr] using hrp)) o.un) (by decide) (by decide) (by decide) g1 g2 (by decide +kernel) h g3 g4 s1 s2
  · exact sim_sorted g1 g2 h s1 s2
  · exact sim_biB .max1 (bi_max1 o.calm) (by decide) (by decide) (by decide) g1 g2 (by decide +kernel) h g3 g4 s1 s2
  · exact sim_biB .min1 (bi_min1 o.calm) (by decide) (by decide) (by decide) g1 g2 (by decide +kernel) h g3 g4 s1 s2
theorem ownL_map {own : List Nat} : (ownL c own).map (·.2) = own := by
  unfold ownL
  rw [List.map_map]
  exact List.map_id own
theorem ownB_ok (o : Okx X c G n au) {t : Tg} {own : List Nat} (h : ownB c t own = true) : (au.isSome = true → 0 ∉ own ∧ 0 ∉ tgIx t) ∧ ∀ i ∈ tgIx t, i ∈ own := by
  unfold ownB at h
  simp only [Bool.and_eq_true, List.all_eq_true] at h
  refine ⟨fun ha => ?_, fun i hi => by simpa using h.2 i hi⟩
  rw [o.au] at ha
  have := h.1
  rw [ha] at this
  simpa using this
end

mutual
theorem okE {X : Cx} {c : CK} {G : Prog} {n : Nat} {au : Option Addr} (o : Okx X c G n au) : ∀ (p : E) (e : Expr), chkE c p e = true → OkE X (ctxN G n) G.ff au e p
  | .var i, e, h => by
    unfold chkE at h
    split at h <;> first | contradiction | skip
    exact okE_of (sim_var (o.var h)) (fun _ => rfl) (fun _ _ _ => nofun)
  | .lit k, e, h => by
    unfold chkE at h
    split at h <;> first | contradiction | skip
    simp only [Bool.and_eq_true, decide_eq_true_eq] at h
    obtain ⟨h1, rfl⟩ := h
    exact okx_lit h1
  | .glob g, e, h => by
    unfold chkE at h
    split at h <;> first | contradiction | skip
    simp only [Bool.and_eq_true, decide_eq_true_eq] at h
    exact okx_glob o h.1 h.2
  | .neg a, e, h => by
    unfold chkE at h
    split at h <;> first | contradiction | skip
    exact okE_of (sim_neg (okE o a _ h).s) (fun _ => rfl) (fun _ _ _ => nofun)
  | .not a, e, h => by
    unfold chkE at h
    split at h <;> first | contradiction | skip
    exact okE_bi (sim_not (okE o a _ h).s) (simT_not (okE o a _ h).t) (fun _ _ _ => nofun)
  | .bin op a b, e, h => by
    unfold chkE at h
    split at h <;> first | contradiction | skip
    simp only [Bool.and_eq_true, decide_eq_true_eq] at h
    obtain ⟨⟨rfl, ha⟩, hb⟩ := h
    have ia := (okE o a _ ha).s
    have ib := (okE o b _ hb).s
    refine okE_of ?_ (fun _ => rfl) (fun _ _ _ => nofun)
    cases op
    · exact sim_add ia ib
    · exact sim_sub ia ib
    · exact sim_mul ia ib
    · exact sim_fdiv ia ib
    · exact sim_mod ia ib
    · exact sim_pow ia ib
  | .cmp op a b, e, h => by
    unfold chkE at h
    split at h <;> first | contradiction | skip
    simp only [Bool.and_eq_true, decide_eq_true_eq, Bool.not_eq_true'] at h
    obtain ⟨⟨⟨rfl, ha⟩, hb⟩, hm⟩ := h
    exact okE_bi (sim_cmp op o.un (okE o a _ ha).s (okE o b _ hb).s hm) (simT_cmp (ff := G.ff) op o.un (okE o a _ ha).s (okE o b _ hb).s hm) (fun _ _ _ => nofun)
  | .chain p1 p2 a b d, e, h => by
    unfold chkE at h
    split at h <;> first | contradiction | skip
    simp only [Bool.and_eq_true, decide_eq_true_eq, Bool.not_eq_true'] at h
    obtain ⟨⟨⟨⟨⟨rfl, rfl⟩, ha⟩, hb⟩, hd⟩, hm⟩ := h
    exact okE_bi (sim_chain p1 p2 o.un (okE o a _ ha).s (okE o b _ hb).s (okE o d _ hd).s hm) (simT_chain (ff := G.ff) p1 p2 o.un (okE o a _ ha).s (okE o b _ hb).s (okE o d _ hd).s hm) (fun _ _ _ => nofun)
  | .and a b, e, h => by
    unfold chkE at h
    split at h <;> first | contradiction | skip
    simp only [Bool.and_eq_true] at h
    obtain ⟨ha, h⟩ := h
    have ia := okE o a _ ha
    split at h <;> first | contradiction | skip
    · simp only [Bool.and_eq_true, Bool.not_eq_true'] at h
      rw [o.hG] at h
      have ib := okE o b _ h.1
      have w := simW_and ia.t (simW_and1 (pos := ‹Pos›) ib.t)
      exact ⟨sim_and ia.s (sim_one ib.s h.2), simT_W w, fun _ _ _ z => w⟩
    · have ib := okE o b _ h
      have w := simW_and ia.t (ib.w _ _ _ rfl)
      exact ⟨sim_and ia.s ib.s, simT_W w, fun _ _ _ z => w⟩
  | .or a b, e, h => by
    unfold chkE at h
    split at h <;> first | contradiction | skip
    simp only [Bool.and_eq_true] at h
    obtain ⟨ha, h⟩ := h
    have ia := okE o a _ ha
    split at h <;> first | contradiction | skip
    · simp only [Bool.and_eq_true, Bool.not_eq_true'] at h
      rw [o.hG] at h
      have ib := okE o b _ h.1
      have w := simW_or ia.t (simW_or1 (pos := ‹Pos›) ib.t)
      exact ⟨sim_or ia.s (sim_one ib.s h.2), simT_W w, fun _ _ _ z => w⟩
    · have ib := okE o b _ h
      have w := simW_or ia.t (ib.w _ _ _ rfl)
      exact ⟨sim_or ia.s ib.s, simT_W w, fun _ _ _ z => w⟩
  | .ite t a b, e, h => by
    unfold chkE at h
    split at h <;> first | contradiction | skip
    simp only [Bool.and_eq_true] at h
    obtain ⟨⟨ht, ha⟩, hb⟩ := h
    have it := okE o t _ ht
    have ia := okE o a _ ha
    have ib := okE o b _ hb
    exact okE_bi (sim_ite it.t ia.s ib.s) (simT_ite it.t ia.t ib.t fun hh => pt_ite it.t.t ia.t.t ib.t.t hh) (fun _ _ _ => nofun)
  | .tup es, e, h => by
    unfold chkE at h
    split at h <;> first | contradiction | skip
    simp only [Bool.and_eq_true] at h
    exact okE_of (sim_tup (okEs o es _ h.1 h.2).1) (fun _ => rfl) (fun _ _ _ => nofun)
  | .trng a b, e, h => by
    unfold chkE at h
    split at h <;> first | contradiction | skip
    simp only [Bool.and_eq_true, decide_eq_true_eq] at h
    obtain ⟨⟨⟨⟨⟨⟨⟨rfl, h1⟩, rfl⟩, h2⟩, h3⟩, h4⟩, h5⟩, h6⟩ := h
    obtain ⟨g1, g2, _⟩ := o.bltn h1
    obtain ⟨k1, k2, _⟩ := o.bltn h2
    exact okE_of (sim_trng o.calm k1 k2 g1 g2 (okE o a _ h5).s (okE o b _ h6).s (star_cons h3) (star_cons h4) (star_any (by simp [starsB, h4]))) (fun _ => rfl) (fun _ _ _ => nofun)
  | .dict0, e, h => by
    unfold chkE at h
    split at h <;> first | contradiction | skip
    exact okE_of sim_dict0 (fun _ => rfl) (fun _ _ _ => nofun)
  | .lst es, e, h => by
    unfold chkE at h
    split at h <;> first | contradiction | skip
    simp only [Bool.and_eq_true] at h
    exact okE_of (sim_lst (okEs o es _ h.1 h.2).1) (fun _ => rfl) (fun _ _ _ => nofun)
  | .rep es k, e, h => by
    unfold chkE at h
    split at h <;> first | contradiction | skip
    simp only [Bool.and_eq_true] at h
    exact okE_of (sim_rep (okEs o es _ h.1.1 h.1.2).1 (okE o k _ h.2).s) (fun _ => rfl) (fun _ _ _ => nofun)
  | .idx a i, e, h => by
    unfold chkE at h
    split at h <;> first | contradiction | skip
    simp only [Bool.and_eq_true] at h
    exact okE_of (sim_idx (okE o a _ h.1.1).s (okE o i _ h.1.2).s (plainIx_of h.2)) (fun _ => rfl) (fun _ _ _ => nofun)
  | .sli a lo hi, e, h => by
    unfold chkE at h
    split at h <;> first | contradiction | skip
    simp only [Bool.and_eq_true] at h
    exact okE_of (sim_sli (okE o a _ h.1.1).s (okEo o lo _ h.1.2) (okEo o hi _ h.2)) (fun _ => rfl) (fun _ _ _ => nofun)
  | .rev a, e, h => by
    unfold chkE at h
    by_cases hn : neverB a = true
    · refine okE_never fun env u => ?_
      unfold neverB at hn
      split at hn <;> first | contradiction | skip
      rfl
    · simp only [hn, Bool.false_or] at h
      split at h <;> first | contradiction | skip
      exact okE_of (sim_rev (okE o a _ h).s) (fun _ => rfl) (fun _ _ _ => nofun)
  | .rvt a, e, h => by
    unfold chkE at h
    split at h <;> first | contradiction | skip
    exact okE_of (sim_rvt (okE o a _ h).s) (fun _ => rfl) (fun _ _ _ => nofun)
  | .uidx k, e, h => by
    unfold chkE at h
    split at h <;> first | contradiction | skip
    simp only [Bool.and_eq_true] at h
    exact okE_of (sim_uidx (o.var h.1.1.2) (o.au.trans h.1.1.1) (okE o k _ h.1.2).s (plainIx_of h.2)) (fun _ => rfl) (fun _ _ _ => nofun)
  | .call f es perm, e, h => by
    have h0 := h
    unfold chkE at h
    split at h
    · rename_i t ht
      split at h <;> first | contradiction | skip
      exact okE_of ((o.td f t ht).sim h0) (fun _ => rfl) (fun _ _ _ => nofun)
    split at h <;> first | contradiction | skip
    simp only [Bool.and_eq_true, decide_eq_true_eq] at h
    obtain ⟨⟨⟨⟨⟨h1, h2⟩, h3⟩, h4⟩, h5⟩, h6⟩ := h
    split at h6 <;> first | contradiction | skip
    rename_i en hT
    simp only [Bool.and_eq_true, decide_eq_true_eq, Bool.not_eq_true', callB] at h6
    obtain ⟨⟨h6, h6r⟩, h7, h8⟩ := h6
    obtain ⟨p1, p2, rfl, g1, g2, g3, g4⟩ := okA o es _ _ h3 h4 h5
    exact okE_of (okx_call o hT h6 h6r h7 h1 h2 h3 h4 g1 g2 g3 g4 (by split at h8 <;> simp_all)) (fun _ => rfl) (fun _ _ _ => nofun)
  | .ucall f es, e, h => by
    unfold chkE at h
    split at h <;> first | contradiction | skip
    simp only [Bool.and_eq_true, decide_eq_true_eq] at h
    obtain ⟨⟨⟨⟨⟨⟨h1, h2⟩, h3⟩, h4⟩, h5⟩, h6⟩, h7⟩ := h
    split at h7 <;> first | contradiction | skip
    rename_i en hT
    simp only [Bool.and_eq_true, decide_eq_true_eq] at h7
    exact okE_of (okx_ucall o hT h7.1.1 h7.1.2 h7.2 h1 h2 h3 h4 h5 (okEs o es _ h3 h6).1) (fun _ => rfl) (fun _ _ _ => nofun)
  | .ncall f a es, e, h => by
    unfold chkE at h
    split at h <;> first | contradiction | skip
    simp only [Bool.and_eq_true, decide_eq_true_eq] at h
    obtain ⟨⟨⟨⟨⟨⟨h1, h2⟩, h3⟩, h4⟩, h5⟩, h6⟩, h7⟩ := h
    split at h7 <;> first | contradiction | skip
    rename_i en hT
    simp only [Bool.and_eq_true, decide_eq_true_eq] at h7
    rw [o.hG] at h4
    exact okE_of (okx_ncall o hT h7.1.1 h7.1.2 h7.2 h1 h2 h3 h4 (okE o a _ h5).s (okEs o es _ (by simp only [starsB, List.all_cons, Bool.and_eq_true] at h3; exact h3.2) h6).1) (fun _ => rfl) (fun _ _ _ => nofun)
  | .bi b es, e, h => by
    unfold chkE at h
    split at h <;> first | contradiction | skip
    simp only [Bool.and_eq_true] at h
    obtain ⟨h1, h⟩ := h
    refine okE_of ?_ (fun _ => rfl) (fun _ _ _ => nofun)
    have h1' := h1
    simp only [starsB, List.all_cons, Bool.and_eq_true] at h1'
    split at h
    · rename_i ty hty
      simp only [Bool.and_eq_true, decide_eq_true_eq] at h
      obtain ⟨⟨rfl, h2⟩, h⟩ := h
      split at h <;> first | contradiction | skip
      simp only [Bool.and_eq_true, decide_eq_true_eq] at h
      obtain ⟨⟨⟨h3, h4⟩, h5⟩, h6⟩ := h
      have ie := (okEs o es _ (by simp [starsB, h1'.1]) h5).2
      split at h6 <;> first | contradiction | skip
      exact okx_isi o hty h2 h4 h3 h1'.1 (ie _ _ rfl _ _ rfl)
    · split at h
      · simp only [Bool.and_eq_true, decide_eq_true_eq] at h
        obtain ⟨h2, ⟨g1, g2⟩, rfl⟩ := h
        exact sim_gcd (o.gl g2).1 (o.gcd g1) (okEs o es _ h1 h2).1 (star_cons h1'.1) (star_any h1'.2)
      · split at h <;> first | contradiction | skip
        simp only [Bool.and_eq_true, decide_eq_true_eq] at h
        obtain ⟨⟨⟨⟨rfl, k1⟩, k2⟩, k3⟩, k4, rfl⟩ := h
        obtain ⟨s1, s2, _⟩ := o.bltn k1
        obtain ⟨s3, s4, _⟩ := o.bltn k4
        exact sim_sortedSet o.calm (by have := o.un; omega) s3 s4 s1 s2 (okE o _ _ k3).s (star_cons k2)
      · simp only [Bool.and_eq_true, decide_eq_true_eq] at h
        exact okx_bi o h1 h.2.1.1 h.2.1.2 h.2.2 (okEs o es _ h1 h.1).1
  | .comp elt t it cond own, e, h => by
    unfold chkE at h
    split at h <;> first | contradiction | skip
    simp only [Bool.and_eq_true] at h
    obtain ⟨⟨⟨⟨⟨⟨h1, h2⟩, h3⟩, h4⟩, h5⟩, h6⟩, h7⟩ := h
    obtain ⟨k1, k2⟩ := ownB_ok o h4
    refine okE_of ?_ (fun _ => rfl) (fun _ _ _ => nofun)
    have hS := sim_comp (own := ownL c own) (pos := ‹Pos›) (ff := G.ff) o.calm (by rw [o.hN]; exact o.nd) (okI o it _ _ h1) (L2.blkOk_by (by rw [o.hN, o.sc]; exact h3)) (fun s H Ca cl fp => (chkG_ok (o.blk s H _ cl Ca fp) h5).1)
      (fun s H Ca cl fp => okC (o.blk s H _ cl Ca fp) cond _ h6) (fun s H Ca cl fp => (okE (o.blk s H _ cl Ca fp) elt _ h7).s) (by rw [ownL_map]; exact k1) (by rw [ownL_map]; exact k2) (fun x => folded_no h2)
    rw [ownL_map] at hS
    exact hS
theorem okEs {X : Cx} {c : CK} {G : Prog} {n : Nat} {au : Option Addr} (o : Okx X c G n au) : ∀ (p : Es) (es : List Expr), starsB es = true → chkEs c p es = true → SimA X (ctxN G n) au es p ∧ ∀ q qs, p = .cons q qs → ∀ e r, es = e :: r → Sim X (ctxN G n) G.ff au e q
  | .nil, es, _, h => by
    unfold chkEs at h
    obtain rfl := List.isEmpty_iff.mp h
    exact ⟨simA_nil, fun _ _ => nofun⟩
  | .cons q qs, es, hs, h => by
    unfold chkEs at h
    split at h <;> first | contradiction | skip
    simp only [Bool.and_eq_true] at h
    simp only [starsB, List.all_cons, Bool.and_eq_true] at hs
    have ih := okE o q _ h.1
    refine ⟨simA_cons ih.s (okEs o qs _ hs.2 h.2).1 (star_cons hs.1), fun q' qs' e1 e' r' e2 => ?_⟩
    cases e1
    cases e2
    exact ih.s
theorem okA {X : Cx} {c : CK} {G : Prog} {n : Nat} {au : Option Addr} (o : Okx X c G n au) : ∀ (p : Es) (es : List Expr) (ks : List Keyword), starsB es = true → kwsB ks = true → chkA c p es ks = true → ∃ p1 p2, p = esApp p1 p2 ∧ SimA X (ctxN G n) au es p1 ∧ SimK X (ctxN G n) au ks p2 ∧ esLen p1 = es.length ∧ esLen p2 = (kwNames ks).length
  | .nil, es, ks, _, _, h => by
    unfold chkA at h
    simp only [Bool.and_eq_true] at h
    obtain rfl := List.isEmpty_iff.mp h.1
    obtain rfl := List.isEmpty_iff.mp h.2
    exact ⟨.nil, .nil, rfl, simA_nil, simK_nil, rfl, rfl⟩
  | .cons q qs, es, ks, hs, hk, h => by
    unfold chkA at h
    split at h <;> first | contradiction | skip
    · simp only [Bool.and_eq_true] at h
      simp only [starsB, List.all_cons, Bool.and_eq_true] at hs
      obtain ⟨p1, p2, rfl, g1, g2, g3, g4⟩ := okA o qs _ _ hs.2 hk h.2
      exact ⟨.cons q p1, p2, rfl, simA_cons (okE o q _ h.1).s g1 (star_cons hs.1), g2, congrArg Nat.succ g3, g4⟩
    · rename_i k ks'
      simp only [Bool.and_eq_true] at h
      obtain ⟨nm, kv, kp⟩ := k
      simp only [kwsB, List.all_cons, Bool.and_eq_true] at hk
      obtain ⟨p1, p2, rfl, g1, g2, g3, g4⟩ := okA o qs _ _ rfl hk.2 h.2
      have p1n : p1 = .nil := by
        cases p1 with
        | nil => rfl
        | cons _ _ => simp [esLen] at g3
      subst p1n
      cases nm with
      | none => cases hk.1
      | some nm => exact ⟨.nil, .cons q p2, rfl, simA_nil, simK_cons (okE o q _ h.1).s g2, rfl, congrArg Nat.succ g4⟩
theorem okEo {X : Cx} {c : CK} {G : Prog} {n : Nat} {au : Option Addr} (o : Okx X c G n au) : ∀ (p : Eo) (e : Option Expr), chkEo c p e = true → SimO X (ctxN G n) au e p
  | .no, e, h => by
    unfold chkEo at h
    obtain rfl := Option.isNone_iff_eq_none.mp h
    exact simO_no
  | .yes p, e, h => by
    unfold chkEo at h
    split at h <;> first | contradiction | skip
    exact simO_yes (okE o p _ h).s
theorem okC {X : Cx} {c : CK} {G : Prog} {n : Nat} {au : Option Addr} (o : Okx X c G n au) : ∀ (p : Eo) (es : List Expr), chkC c p es = true → SimC X (ctxN G n) au es p
  | .no, es, h => by
    unfold chkC at h
    obtain rfl := List.isEmpty_iff.mp h
    exact simC_no
  | .yes p, es, h => by
    unfold chkC at h
    split at h <;> first | contradiction | skip
    exact simC_yes (okE o p _ h).t
theorem okI {X : Cx} {c : CK} {G : Prog} {n : Nat} {au : Option Addr} (o : Okx X c G n au) : ∀ (p : I) (tg e : Expr), chkI c p tg e = true → SimI X (ctxN G n) au tg e p
  | .seq p, tg, e, h => simI_seq (okE o p _ (by unfold chkI at h; exact h)).s
  | .range1 a, tg, e, h => by
    unfold chkI at h
    split at h <;> first | contradiction | skip
    simp only [Bool.and_eq_true, decide_eq_true_eq] at h
    obtain ⟨⟨⟨rfl, h1⟩, h2⟩, h3⟩ := h
    obtain ⟨g1, g2, _⟩ := o.bltn h1
    exact simI_range1 g1 g2 (simA_cons (okE o a _ h3).s simA_nil (star_cons h2)) (star_cons h2)
  | .range2 a b, tg, e, h => by
    unfold chkI at h
    split at h <;> first | contradiction | skip
    simp only [Bool.and_eq_true, decide_eq_true_eq] at h
    obtain ⟨⟨⟨⟨⟨rfl, h1⟩, h2⟩, h3⟩, h4⟩, h5⟩ := h
    obtain ⟨g1, g2, _⟩ := o.bltn h1
    have s2 : ∀ b : Expr, notStar b = true → starEach [b] X.env = [(false, eval b X.env)] := fun b hb => star_cons hb
    exact simI_range2 g1 g2 (simA_cons (okE o a _ h4).s (simA_cons (okE o b _ h5).s simA_nil (star_cons h3)) (star_cons h2)) ((star_cons h2).trans (congrArg _ (s2 _ h3))) (s2 _ h3)
  | .range3 _ _ _, tg, e, h => by unfold chkI at h; cases h
  | .revRange1 a, tg, e, h => by
    unfold chkI at h
    split at h <;> first | contradiction | skip
    simp only [Bool.and_eq_true, decide_eq_true_eq] at h
    obtain ⟨⟨⟨⟨⟨rfl, h1⟩, rfl⟩, h2⟩, h3⟩, h4⟩ := h
    obtain ⟨g1, g2, _⟩ := o.bltn h1
    obtain ⟨k1, k2, _⟩ := o.bltn h2
    exact simI_revRange1 k1 k2 g1 g2 (okE o a _ h4).s (star_cons h3)
  | .enum a, tg, e, h => by
    unfold chkI at h
    simp only [Bool.and_eq_true, Bool.not_eq_true'] at h
    obtain ⟨ht, h⟩ := h
    split at h <;> first | contradiction | skip
    simp only [Bool.and_eq_true, decide_eq_true_eq] at h
    obtain ⟨⟨⟨rfl, h1⟩, h2⟩, h3⟩ := h
    obtain ⟨g1, g2, _⟩ := o.bltn h1
    cases tg <;> first | (simp [notTup] at ht; done) | skip
    exact simI_enum g1 g2 (simA_cons (okE o a _ h3).s simA_nil (star_cons h2)) (star_cons h2)
  | .zip a b, tg, e, h => by
    unfold chkI at h
    simp only [Bool.and_eq_true, Bool.not_eq_true'] at h
    obtain ⟨ht, h⟩ := h
    split at h <;> first | contradiction | skip
    simp only [Bool.and_eq_true, decide_eq_true_eq] at h
    obtain ⟨⟨⟨⟨⟨rfl, h1⟩, h2⟩, h3⟩, h4⟩, h5⟩ := h
    obtain ⟨g1, g2, _⟩ := o.bltn h1
    cases tg <;> first | (simp [notTup] at ht; done) | skip
    exact simI_zip g1 g2 (simA_cons (okE o a _ h4).s (simA_cons (okE o b _ h5).s simA_nil (star_cons h3)) (star_cons h2)) (star_cons h2) (star_any (by simp [starsB, h3]))
  | .zip3 a b d, tg, e, h => by
    unfold chkI at h
    simp only [Bool.and_eq_true, Bool.not_eq_true'] at h
    obtain ⟨ht, h⟩ := h
    split at h <;> first | contradiction | skip
    simp only [Bool.and_eq_true, decide_eq_true_eq] at h
    obtain ⟨⟨⟨⟨⟨⟨⟨rfl, h1⟩, h2⟩, h3⟩, h4⟩, h5⟩, h6⟩, h7⟩ := h
    obtain ⟨g1, g2, _⟩ := o.bltn h1
    cases tg <;> first | (simp [notTup] at ht; done) | skip
    exact simI_zip3 g1 g2 (simA_cons (okE o a _ h5).s (simA_cons (okE o b _ h6).s (simA_cons (okE o d _ h7).s simA_nil (star_cons h4)) (star_cons h3)) (star_cons h2)) (star_cons h2) (star_any (by simp [starsB, h3, h4]))
  | .rev a, tg, e, h => by
    unfold chkI at h
    split at h <;> first | contradiction | skip
    simp only [Bool.and_eq_true, decide_eq_true_eq] at h
    obtain ⟨⟨⟨rfl, h1⟩, h2⟩, h3⟩ := h
    obtain ⟨g1, g2, _⟩ := o.bltn h1
    exact simI_rev g1 g2 (okE o a _ h3).s (star_cons h2)
end
end Pl

set_option maxHeartbeats 2000000
/-! PSound17: the checker is right: statements. -/
namespace Pl
open PySem PyProof.Rows
open L2 (V Hp HO VK XK TE TT TA TS TG TGs Cx PE PT PW PA PS PSs PG PGs PI PK Inv SqL SqT Dp DpAll Vals RelV EP Gl Vis Ends Sp FnScope Env0 CE CR CX0 Room Fun Binds KBinds upd)
variable [Tabl]

/-! ### unpacking -/
def gTu : Tu → TG
  | .nm i => L2.gName i
  | .pl k => L2.gSub (L2.tVar 0) (L2.tC (.int k)) L2.rSetL
def gTus : List Tu → TGs
  | [] => L2.gNil
  | t :: ts => L2.gCons (gTu t) (gTus ts)
section
variable {K : PySem.W.Frag} {au : Option Addr} {H0 F0 : Hp}
theorem tus_go : ∀ {ts : List Tu} {ds : List D} {vs : List V} {σ : L2.St} {H F : Hp} {env env' : Env} {u u' : U} {Q : L2.St → Hp → Prop}, StR K au H0 F0 σ H F env u → DpAll K F vs ds → bindTu ts ds env u = some (env', u') →
    (∀ t ∈ ts, match t with | .nm i => (au.isSome = true → i ≠ 0) | .pl _ => au.isSome = true) → (∀ σ' H' F', StR K au H0 F0 σ' H' F' env' u' → Q σ' H') → gTus ts vs σ H Q
  | [], [], _, σ, H, F, env, env', u, u', Q, R, .nil, e, h0, k => by
    simp only [bindTu, Option.some.injEq, Prod.mk.injEq] at e
    obtain ⟨rfl, rfl⟩ := e
    exact ⟨rfl, k _ _ _ R⟩
  | [], _ :: _, _, σ, H, F, env, env', u, u', Q, R, r, e, h0, k => by simp [bindTu] at e
  | .nm _ :: _, [], _, σ, H, F, env, env', u, u', Q, R, r, e, h0, k => by simp [bindTu] at e
  | .pl _ :: _, [], _, σ, H, F, env, env', u, u', Q, R, r, e, h0, k => by simp [bindTu] at e
  | .nm i :: ts, d :: ds, _, σ, H, F, env, env', u, u', Q, R, .cons a t, e, h0, k => by
    simp only [bindTu] at e
    exact ⟨_, _, rfl, tus_go (ts := ts) (R.put (s := .imm d) a (h0 (.nm i) List.mem_cons_self)) t e (fun t ht => h0 t (List.mem_cons_of_mem _ ht)) k⟩
  | .pl j :: ts, .int z :: ds, _, σ, H, F, env, env', u, u', Q, R, .cons a t, e, h0, k => by
    simp only [bindTu] at e
    split at e <;> first | contradiction | skip
    rename_i hl
    obtain ⟨p, hp⟩ := Option.isSome_iff_exists.mp (h0 (.pl j) List.mem_cons_self)
    refine ⟨_, _, rfl, _, R.s0 p hp, p, u.map V.int, j, j, rfl, rfl, (R.urn p hp).1, ?_, ?_⟩
    · rw [List.length_map]
      unfold L2.ixN
      rw [if_pos (Int.natCast_nonneg j), if_pos (by exact_mod_cast hl)]
      simp
    · have R2 := R.urnSet hp (u.set j z)
      rw [List.map_set] at R2
      obtain rfl := dp_int a
      exact tus_go (ts := ts) R2 t e (fun t ht => h0 t (List.mem_cons_of_mem _ ht)) k
  | .pl j :: ts, .none :: ds, _, σ, H, F, env, env', u, u', Q, R, r, e, h0, k => by simp [bindTu] at e
  | .pl j :: ts, .bool _ :: ds, _, σ, H, F, env, env', u, u', Q, R, r, e, h0, k => by simp [bindTu] at e
  | .pl j :: ts, .str _ :: ds, _, σ, H, F, env, env', u, u', Q, R, r, e, h0, k => by simp [bindTu] at e
  | .pl j :: ts, .list _ :: ds, _, σ, H, F, env, env', u, u', Q, R, r, e, h0, k => by simp [bindTu] at e
  | .pl j :: ts, .tuple _ :: ds, _, σ, H, F, env, env', u, u', Q, R, r, e, h0, k => by simp [bindTu] at e
  | .pl j :: ts, .dict _ :: ds, _, σ, H, F, env, env', u, u', Q, R, r, e, h0, k => by simp [bindTu] at e
theorem bindTu_len : ∀ {ts : List Tu} {ds : List D} {env env' : Env} {u u' : U}, bindTu ts ds env u = some (env', u') → ds.length = ts.length
  | [], [], _, _, _, _, _ => rfl
  | [], _ :: _, _, _, _, _, h => by simp [bindTu] at h
  | .nm _ :: _, [], _, _, _, _, h => by simp [bindTu] at h
  | .pl _ :: _, [], _, _, _, _, h => by simp [bindTu] at h
  | .nm _ :: ts, _ :: ds, _, _, _, _, h => by simp only [bindTu] at h; exact congrArg Nat.succ (bindTu_len h)
  | .pl _ :: ts, d :: ds, _, _, _, _, h => by
    cases d <;> simp only [bindTu] at h <;> first | contradiction | skip
    split at h <;> first | contradiction | skip
    exact congrArg Nat.succ (bindTu_len h)
end

section
variable {X : Cx} {c : CK} {G : Prog} {n : Nat} {au : Option Addr} {C : Ctx} {ff : String → Bool} {fr : Bool} {K : PySem.W.Frag} {H0 F0 : Hp} {ps : Es}
theorem StR.newH {σ : L2.St} {H F : Hp} {env : Env} {u : U} (R : StR K au H0 F0 σ H F env u) {p : Addr} {o : HO} (hp : H p = none) : StR K au H0 F0 σ (upd H p o) F env u := by
  have ne : ∀ {a : Addr}, H a ≠ none → a ≠ p := fun h e => h (by rw [e]; exact hp)
  refine ⟨sub_newH R.sub hp, fun a ha => ⟨?_, (R.urn a ha).2⟩, R.tab.new hp, R.s0, R.len, fun a ha hn => ⟨?_, (R.ext a ha hn).2⟩, R.u0, R.imm, fun i ds h => ?_, R.dis⟩
  · rw [L2.upd_ne (ne (R.urn.hh a ha))]
    exact (R.urn a ha).1
  · have e := (R.ext a ha hn).1
    rw [L2.upd_ne (ne (e.ne hn))]
    exact e
  · obtain ⟨q, vs, a1, a2, a3⟩ := R.own i ds h
    refine ⟨q, vs, a1, ?_, a3⟩
    rw [L2.upd_ne (ne (by rw [a2]; exact fun z => nomatch z))]
    exact a2
theorem gTus_names : ∀ {is : List Nat} {vs : List V} {σ : L2.St} {H : Hp} {Q : L2.St → Hp → Prop}, vs.length = is.length → Q (Pl.setMany is vs σ) H → gTus (is.map .nm) vs σ H Q
  | [], [], _, _, _, _, k => ⟨rfl, k⟩
  | [], _ :: _, _, _, _, h, _ => by simp at h
  | _ :: _, [], _, _, _, h, _ => by simp at h
  | i :: is, v :: vs, σ, H, Q, h, k => ⟨v, vs, rfl, gTus_names (is := is) (by simpa using h) k⟩
theorem rrAll_len {F' H' : Hp} : ∀ {ps : Es} {Hb : Hp} {vs : List V} {ds : List D}, RrAll ff K F' H' Hb ps vs ds → vs.length = ds.length
  | .nil, _, [], [], _ => rfl
  | .nil, _, [], _ :: _, r => False.elim r
  | .nil, _, _ :: _, _, r => False.elim r
  | .cons _ _, _, [], _, r => by simp [RrAll] at r
  | .cons _ _, _, _ :: _, [], r => False.elim r
  | .cons _ ps, _, _ :: _, _ :: _, ⟨_, _, _, _, r⟩ => congrArg Nat.succ (rrAll_len r)
theorem parSlots_len : ∀ {ps : Es} {ds : List D} {sl : List Slot}, parSlots ff ps ds = some sl → sl.length = ds.length
  | .nil, [], sl, h => by simp [parSlots] at h; subst h; rfl
  | .nil, _ :: _, _, h => by simp [parSlots] at h
  | .cons _ _, [], _, h => by simp [parSlots] at h
  | .cons _ ps, _ :: ds, sl, h => by
    simp only [parSlots, Option.map_eq_some_iff] at h
    obtain ⟨s, h, rfl⟩ := h
    exact congrArg Nat.succ (parSlots_len h)
theorem setAll_len : ∀ {is : List Nat} {sl : List Slot} {env env' : Env}, setAll is sl env = some env' → sl.length = is.length
  | [], [], _, _, _ => rfl
  | [], _ :: _, _, _, h => by simp [setAll] at h
  | _ :: _, [], _, _, h => by simp [setAll] at h
  | _ :: is, _ :: sl, _, _, h => by simp only [setAll] at h; exact congrArg Nat.succ (setAll_len h)
theorem par_core2 {is : List Nat} {D : Ends} {σ : L2.St} {H : Hp} (h0 : au.isSome = true → 0 ∉ is) (h : wpS fr C ff K au H0 F0 (.par is ps) D σ H) : wpEsR ff K C au ps σ H fun vs H1 => vs.length = is.length ∧ ∀ p, H1 p = none → D.nx (Pl.setMany is vs σ) (upd H1 p (.tup vs)) := by
  obtain ⟨F, env, u, o, R, ev, k⟩ := h
  simp only [execS] at ev
  obtain ⟨⟨ds, u1⟩, e1, ev⟩ := Option.bind_eq_some_iff.mp ev
  obtain ⟨sl, e2, ev⟩ := Option.bind_eq_some_iff.mp ev
  obtain ⟨env', e3, ev⟩ := Option.bind_eq_some_iff.mp ev
  cases ev
  refine ⟨_, env, u, ds, u1, R.at_ (fvEs ps), e1, fun vs F1 H1 P r => ⟨(rrAll_len r).trans ((parSlots_len e2).symm.trans (setAll_len e3)), fun p hp => ?_⟩⟩
  have hH : ∀ q, H0 q ≠ none → H q ≠ none := fun q hq => by
    by_cases e : some q = au
    · exact R.urn.hh q e.symm
    · exact (R.ext q e hq).1.ne hq
  have hO : ∀ (env2 : Env), (∀ (j : Nat) ds', env2[j]? = some (Slot.own ds') → env[j]? = some (Slot.own ds')) → ∀ (j : Nat) ds' q, env2[j]? = some (Slot.own ds') → σ[j]? = some (some (V.ref q)) → H q ≠ none := fun env2 he j ds' q hj hq => by
    obtain ⟨q2, vs2, g1, g2, _⟩ := R.own j ds' (he j ds' hj)
    rw [hq] at g1
    cases g1
    rw [g2]; exact fun z => nomatch z
  by_cases hw : parWithin ff ps ds = true
  · rw [if_pos hw] at e3
    refine k _ _ _ ((putAll (R.keep P) (rrAll_noList (H' := H1) (Hb := H) (fun _ _ q => R.noHeld P q) (fun a q => ?_) hw r) e2 e3 h0 (hO env fun _ _ h => h) hH).newH hp)
    by_cases z : Held env σ (fvEs ps) a
    · exact hide_yes z
    · rw [hide_no z]; exact q
  · rw [if_neg hw] at e3
    refine k _ _ _ ((putAll (R.frz P) r e2 e3 h0 (hO _ fun j ds' h => ?_) hH).newH hp)
    rw [freeze_get] at h
    split at h
    · cases q : env[j]? with
      | none => rw [q] at h; cases h
      | some s => rw [q] at h; cases s <;> cases h
    · exact h
theorem simS_parT {is : List Nat} {es : List Expr} {st : Stmt} (hs : SimAR X C ff au es ps) (h : PA X es (wpEsR ff X.K C au ps) → PS X st (L2.tAsg (L2.tTup (wpEsR ff X.K C au ps)) (L2.gTup X.K (is.map Tu.nm).length (gTus (is.map Tu.nm)))))
    (h0 : au.isSome = true → 0 ∉ is) (hl : is.length ≤ 3) : SimS X C ff au fr st (.par is ps) := ⟨fun H0 F0 => (h hs.t).imp fun D σ H q => by
  obtain ⟨F, env, u, ds, u', A, ev, k⟩ := par_core2 h0 q
  refine ⟨F, env, u, ds, u', A, ev, fun vs F' H' P r => ?_⟩
  obtain ⟨k1, k2⟩ := k vs F' H' P r
  exact ⟨by rw [k1]; exact Nat.le_trans hl (by decide), fun p hp => ⟨p, vs, rfl, .inl (.inl L2.upd_same), by rw [k1, List.length_map], gTus_names k1 (k2 p hp)⟩⟩⟩
theorem simAR_all (o : Okx X c G n au) : ∀ (ps : Es) (es : List Expr), starsB es = true → chkEs c ps es = true → SimAR X (ctxN G n) G.ff au es ps
  | .nil, es, _, h => by
    cases es with
    | nil => exact simAR_nil
    | cons a b => simp [chkEs] at h
  | .cons p ps, es, hs, h => by
    cases es with
    | nil => simp [chkEs] at h
    | cons e es =>
      simp only [chkEs, Bool.and_eq_true] at h
      simp only [starsB, List.all_cons, Bool.and_eq_true] at hs
      exact simAR_cons (okE o p e h.1).s (simAR_all o ps es (by simpa [starsB] using hs.2) h.2) (star_cons hs.1)
end

section
variable {X : Cx} {c : CK} {G : Prog} {n : Nat} {au : Option Addr} {C : Ctx} {ff : String → Bool} {fr : Bool}
theorem isLst_ev {q : E} {env : Env} {u u' : U} {d : D} (h : isLst q = true) (ev : evalE C q env u = some (d, u')) : ∃ ds, d = .list ds := by
  cases q <;> simp only [isLst, Bool.false_eq_true] at h
  · simp only [evalE] at ev
    obtain ⟨r, _, ev⟩ := Option.bind_eq_some_iff.mp ev
    split at ev <;> first | contradiction | skip
    cases ev
    exact ⟨_, rfl⟩
  · simp only [evalE] at ev
    obtain ⟨r, _, ev⟩ := Option.bind_eq_some_iff.mp ev
    obtain ⟨r2, _, ev⟩ := Option.bind_eq_some_iff.mp ev
    split at ev <;> first | contradiction | skip
    cases ev
    exact ⟨_, rfl⟩
/-- a list, taken apart -/
theorem simS_unl {e : Expr} {q : E} {ts : List Tu} {st : Stmt} (hq : isLst q = true) (he : Sim X C ff au e q) (h0 : ∀ t ∈ ts, match t with | .nm i => (au.isSome = true → i ≠ 0) | .pl _ => au.isSome = true)
    (h : ∀ {te : TE}, PE X e te → PS X st (L2.tAsg te (L2.gUnl X.K ts.length (gTus ts)))) : SimS X C ff au fr st (.unp ts (.bi .tuple (.cons q .nil))) :=
  ⟨fun H0 F0 => (h he.pl).imp fun D σ H ⟨F, env, u, oo, R, ev, kk⟩ => by
    simp only [execS, evalE, evalEs] at ev
    obtain ⟨⟨d, u1⟩, e1, ev⟩ := Option.bind_eq_some_iff.mp ev
    obtain ⟨⟨ds0, u2⟩, e2, e1⟩ := Option.bind_eq_some_iff.mp e1
    obtain ⟨⟨dq, u3⟩, e3, e2⟩ := Option.bind_eq_some_iff.mp e2
    simp only [Option.bind_some, Option.some.injEq, Prod.mk.injEq] at e2
    obtain ⟨rfl, rfl⟩ := e2
    obtain ⟨d4, e4, e1⟩ := Option.bind_eq_some_iff.mp e1
    cases e1
    obtain ⟨ds, rfl⟩ : ∃ ds, d = .tuple ds := by
      cases d <;> simp only at ev <;> first | contradiction | exact ⟨_, rfl⟩
    simp only at ev
    obtain ⟨⟨env2, u2⟩, e5, ev⟩ := Option.bind_eq_some_iff.mp ev
    cases ev
    have hAt := (R.at_ (fvE (.bi .tuple (.cons q .nil)))).mono (js := fvE q) fun i hi => by simp [fvE, fvEs, hi]
    refine ⟨_, env, u, _, _, hAt, e3, fun v F1 H1 P1 r1 => ?_⟩
    obtain ⟨ds2, rfl⟩ := isLst_ev hq e3
    have e4' : ds = ds2 := by simpa [biV] using e4.symm
    subst e4'
    obtain ⟨a, xs, rfl, q1, q2⟩ := dp_list r1
    refine ⟨a, xs, rfl, sqL_sub P1.sub q1, by rw [dpAll_len q2, bindTu_len e5], ?_⟩
    by_cases hn : noListAll ds = true
    · rw [if_pos hn] at e5
      exact tus_go (R.keep P1) (dpAll_noList (fun _ _ z => R.noHeld P1 z) _ _ hn q2) e5 h0 fun σ' H' F' R' => kk _ _ _ R'
    · rw [if_neg hn] at e5
      exact tus_go (R.frz P1) q2 e5 h0 fun σ' H' F' R' => kk _ _ _ R'⟩
theorem simS_unp {e : Expr} {p : E} {ts : List Tu} {st : Stmt} (he : Sim X C ff au e p) (h0 : ∀ t ∈ ts, match t with | .nm i => (au.isSome = true → i ≠ 0) | .pl _ => au.isSome = true)
    (h : ∀ {te : TE}, PE X e te → PS X st (L2.tAsg te (L2.gTup X.K ts.length (gTus ts)))) : SimS X C ff au fr st (.unp ts p) :=
  ⟨fun H0 F0 => (h he.pl).imp fun D σ H ⟨F, env, u, oo, R, ev, kk⟩ => by
    simp only [execS] at ev
    obtain ⟨⟨d, u1⟩, e1, ev⟩ := Option.bind_eq_some_iff.mp ev
    cases d <;> simp only at ev <;> first | contradiction | skip
    rename_i ds
    obtain ⟨⟨env2, u2⟩, e2, ev⟩ := Option.bind_eq_some_iff.mp ev
    cases ev
    refine ⟨_, env, u, _, u1, R.at_ (fvE p), e1, fun v F1 H1 P1 r1 => ?_⟩
    obtain ⟨F2, R2, d2⟩ := R.aft P1 r1
    obtain ⟨a, xs, rfl, q1, q2⟩ := dp_tuple d2
    exact ⟨a, xs, rfl, sqT_sub R2.sub q1, by rw [dpAll_len q2, bindTu_len e2], tus_go R2 q2 e2 h0 fun σ' H' F' R' => kk _ _ _ R'⟩⟩
theorem tuB_ok (o : Okx X c G n au) : ∀ {ts : List Tu} {es : List Expr}, tuB c ts es = true → PGs X es (gTus ts) ∧ (assignEach es X.env).length = ts.length ∧ (assignEach es X.env).findIdx? (·.1) = none ∧ (∀ t ∈ ts, match t with | .nm i => (au.isSome = true → i ≠ 0) | .pl _ => au.isSome = true)
  | [], [], _ => ⟨L2.pgs_nil, rfl, rfl, fun _ h => by cases h⟩
  | [], _ :: _, h => by simp [tuB] at h
  | .nm _ :: _, [], h => by simp [tuB] at h
  | .pl _ :: _, [], h => by simp [tuB] at h
  | .nm i :: ts, e :: es, h => by
    unfold tuB at h
    split at h <;> first | contradiction | skip
    rotate_left
    · rename_i e1 e2; cases e1
    · rename_i e1 e2
      cases e1
      cases e2
      simp only [Bool.and_eq_true] at h
      obtain ⟨g1, g2, _⟩ := o.tgt (pos := ‹Pos›) h.1
      obtain ⟨k1, k2, k3, k4⟩ := tuB_ok o h.2
      refine ⟨L2.pgs_cons g1 k1 rfl, congrArg Nat.succ k2, ?_, fun t ht => ?_⟩
      · show ((false, _) :: assignEach es X.env).findIdx? (·.1) = none
        rw [List.findIdx?_cons, k3]
        rfl
      · rcases List.mem_cons.mp ht with e | e
        · subst e; exact g2
        · exact k4 t e
  | .pl i :: ts, e :: es, h => by
    unfold tuB at h
    split at h <;> first | contradiction | skip
    · rename_i e1 e2; cases e1
    · rename_i e1 e2
      cases e1
      cases e2
      simp only [Bool.and_eq_true, decide_eq_true_eq] at h
      obtain ⟨⟨⟨h1, h2⟩, rfl⟩, h4⟩ := h
      obtain ⟨k1, k2, k3, k4⟩ := tuB_ok o h4
      refine ⟨L2.pgs_cons (L2.pg_sub (o.var h2) L2.pe_int L2.set_list (fun _ => rfl)) k1 rfl, congrArg Nat.succ k2, ?_, fun t ht => ?_⟩
      · show ((false, _) :: assignEach es X.env).findIdx? (·.1) = none
        rw [List.findIdx?_cons, k3]
        rfl
      · rcases List.mem_cons.mp ht with e | e
        · subst e; exact o.au.trans h1
        · exact k4 t e

/-! ### stores of pairs -/
theorem blockKind_fn (o : Okx X c G n au) (h : c.sc.kind = .function) : X.env.blockKind = .function := by
  unfold Env.blockKind
  rw [o.sc, h]
  rfl
theorem stars_any {vs : List Expr} (h : starsB vs = true) : (vs.any fun | .Starred .. => true | _ => false) = false := by
  rw [List.any_eq_false]
  intro v hv
  have := List.all_eq_true.mp h v hv
  cases v <;> simp_all [notStar]
def isStar (v : Expr) : Bool := match v with | .Starred _ _ => true | _ => false
theorem star_m {v : Expr} (h : notStar v = true) : isStar v = false := by
  cases v <;> first | rfl | (simp [notStar] at h)
theorem swapped_none1 {t e : Expr} {env : PySem.Env} (h : notTup e = true) : swappedStores [t] e env = pure none := by
  cases e <;> first | (simp [notTup] at h; done) | (cases t <;> rfl)
theorem par2_ok (o : Okx X c G n au) {x y : Str} {px py pt pv : Pos} {kt kv : Nat} {a b : Expr} (h : parB c [.Name x px, .Name y py] [a, b] = true) :
    swappedStores [.Tuple [.Name x px, .Name y py] kt pt] (.Tuple [a, b] kv pv) X.env = pure (some [x, y]) ∧ X.env.scope.names.lookup x = some .local ∧ X.env.scope.names.lookup y = some .local := by
  unfold parB at h
  simp only [Bool.and_eq_true, decide_eq_true_eq, Bool.not_eq_true'] at h
  obtain ⟨⟨⟨⟨⟨h1, ⟨⟨h2, h3⟩, h4⟩, h5⟩, _⟩, h6⟩, h7⟩, h8⟩ := h
  have kx := o.kind h2
  have ky := o.kind h3
  refine ⟨?_, kx, ky⟩
  have nx : X.env.kindOf x = some .local := kx
  have ny : X.env.kindOf y = some .local := ky
  have hd : ([x, y] : List Str).eraseDups = [x, y] := by
    have e1 : (y == x) = false := by
      rw [beq_eq_false_iff_ne] at h5 ⊢
      exact fun z => h5 z.symm
    simp [List.eraseDups_cons, e1]
  unfold swappedStores
  simp [blockKind_fn o h1, h7, h8, nx, ny, h4, Expr.pos, hd]
  simp only [starsB, List.all_cons, Bool.and_eq_true] at h6
  rintro (hh | hh)
  · exact Bool.noConfusion ((star_m h6.1).symm.trans (show isStar _ = true from hh))
  · exact Bool.noConfusion ((star_m h6.2.1).symm.trans (show isStar _ = true from hh))
theorem par3_ok (o : Okx X c G n au) {x y z : Str} {px py pz pt pv : Pos} {kt kv : Nat} {a b d : Expr} (h : parB c [.Name x px, .Name y py, .Name z pz] [a, b, d] = true) :
    swappedStores [.Tuple [.Name x px, .Name y py, .Name z pz] kt pt] (.Tuple [a, b, d] kv pv) X.env = pure (some [x, y, z]) ∧ X.env.scope.names.lookup x = some .local ∧ X.env.scope.names.lookup y = some .local ∧ X.env.scope.names.lookup z = some .local := by
  unfold parB at h
  simp only [Bool.and_eq_true, decide_eq_true_eq, Bool.not_eq_true'] at h
  obtain ⟨⟨⟨⟨⟨h1, ⟨⟨⟨⟨⟨⟨h2, h3⟩, h3'⟩, h4⟩, h4'⟩, h5⟩, h5'⟩, h5''⟩, _⟩, h6⟩, h7⟩, h8⟩ := h
  have kx := o.kind h2
  have ky := o.kind h3
  have kz := o.kind h3'
  refine ⟨?_, kx, ky, kz⟩
  have nx : X.env.kindOf x = some .local := kx
  have ny : X.env.kindOf y = some .local := ky
  have nz : X.env.kindOf z = some .local := kz
  have flip : ∀ {x y : Str}, (x == y) = false → (y == x) = false := fun {x y} h => by
    rw [beq_eq_false_iff_ne] at h ⊢
    exact fun z => h z.symm
  have hd : ([x, y, z] : List Str).eraseDups = [x, y, z] := by
    simp [List.eraseDups_cons, flip h5, flip h5', flip h5'']
  unfold swappedStores
  simp [blockKind_fn o h1, h7, h8, nx, ny, nz, h4, h4', Expr.pos, hd]
  simp only [starsB, List.all_cons, Bool.and_eq_true] at h6
  rintro (hh | hh | hh)
  · exact Bool.noConfusion ((star_m h6.1).symm.trans (show isStar _ = true from hh))
  · exact Bool.noConfusion ((star_m h6.2.1).symm.trans (show isStar _ = true from hh))
  · exact Bool.noConfusion ((star_m h6.2.2.1).symm.trans (show isStar _ = true from hh))
end
end Pl

set_option maxHeartbeats 2000000
/-! PSound18: the checker is right: statements. -/
namespace Pl
open PySem PyProof.Rows
open L2 (V Hp HO VK XK TE TT TA TS TG TGs Cx PE PT PW PA PS PSs PG PGs PI PK Inv SqL SqT Dp DpAll Vals RelV EP Gl Vis Ends Sp FnScope Env0 CE CR CX0 Room Fun Binds KBinds upd)
variable [Tabl]

section
variable {X : Cx} {c : CK} {G : Prog} {n : Nat} {au : Option Addr} {C : Ctx} {ff : String → Bool} {fr : Bool}
theorem fm1 {f : Expr → Option Str} {t : Expr} {ts : List Expr} (h : f t = none) : (List.filterMap f (t :: ts)).length ≠ (t :: ts).length := by
  rw [List.filterMap_cons, h]
  have := List.length_filterMap_le f ts
  simp only [List.length_cons]
  omega
theorem fm2 {f : Expr → Option Str} {t t2 : Expr} {ts : List Expr} (h : f t2 = none) : (List.filterMap f (t :: t2 :: ts)).length ≠ (t :: t2 :: ts).length := by
  have := List.length_filterMap_le f ts
  rw [List.filterMap_cons, List.filterMap_cons, h]
  split <;> simp only [List.length_cons] <;> omega
theorem unp_ok (o : Okx X c G n au) {ts : List Expr} {e : Expr} {kt : Nat} {pt : Pos} (h : unpB c ts e = true) : swappedStores [.Tuple ts kt pt] e X.env = pure none := by
  cases e <;> first | rfl | skip
  rename_i vs kv pv
  unfold unpB at h
  simp only [Bool.or_eq_true, Bool.not_eq_true', Bool.or_eq_false_iff, decide_eq_false_iff_not] at h
  have nm : ∀ {x : Str}, c.kindB x .local = false → (X.env.kindOf x == some .local) = false := fun {x} q => by
    have q2 : ¬ c.sc.names.lookup x = some .local := of_decide_eq_false q
    rw [beq_eq_false_iff_ne]
    show X.env.scope.names.lookup x ≠ some .local
    rw [o.sc]
    exact q2
  unfold swappedStores
  simp only [pure_bind]
  split
  · rfl
  rename_i g1
  split
  · rfl
  rename_i g2
  split
  · rfl
  rename_i g3
  split
  · rfl
  rename_i g4
  exfalso
  rcases h with ((h | h) | h) | h
  · simp only [Bool.or_eq_true, Bool.not_eq_true', Bool.or_eq_false_iff, not_or, beq_eq_false_iff_ne] at g1
    exact g1.1.1 h
  · exact g4 h
  · cases ts with
    | nil => simp at g1
    | cons t ts =>
      simp only [Bool.or_eq_true, not_or] at g3
      refine g3.1 ?_
      rw [bne_iff_ne]
      refine fm1 ?_
      cases t <;> first | rfl | skip
      have q := nm (by simpa using h)
      simp [q]
  · match ts, h, g1, g3 with
    | [], h, g1, g3 => simp at g1
    | [_], h, g1, g3 => simp at g1
    | t :: t2 :: ts, h, g1, g3 =>
      simp only [Bool.or_eq_true, not_or] at g3
      refine g3.1 ?_
      rw [bne_iff_ne]
      refine fm2 ?_
      cases t2 <;> first | rfl | skip
      have q := nm (by simpa using h)
      simp [q]
theorem sub_assign {x i : Expr} {pos : Pos} {env : PySem.Env} {v : Value} (h : notSlice i = true) : assign (.Subscript x i pos) env v = (do
      let ov ← holding [v] (eval x env)
      let iv ← holding [v, ov] (eval i env)
      standAt pos
      holding [v, ov, iv] (setItem ov iv v)
      release [v, ov, iv] []) := by
  cases i <;> first | rfl | (simp [notSlice] at h)
theorem sub_swapped {x i : Expr} {pos : Pos} {env : PySem.Env} (e : Expr) : swappedStores [.Subscript x i pos] e env = pure none := by
  cases e <;> rfl
theorem few_ok {a : Expr} {cpos : Pos} {env : PySem.Env} (h : notStar a = true) : ((backTo cpos (starEach [a] env)).all (fun x => !x.1) && (backToKw cpos (keywordEach [] env)).all (fun x => x.1.isSome)
      && decide (([a] : List Expr).length + ([] : List Keyword).length + (if ([] : List Keyword).isEmpty then 0 else 1) < 30)) = true := by
  rw [star_cons h]
  rfl
theorem few_ok2 {a b : Expr} {cpos : Pos} {env : PySem.Env} (h : notStar a = true) (h' : notStar b = true) : ((backTo cpos (starEach [a, b] env)).all (fun x => !x.1) && (backToKw cpos (keywordEach [] env)).all (fun x => x.1.isSome)
      && decide (([a, b] : List Expr).length + ([] : List Keyword).length + (if ([] : List Keyword).isEmpty then 0 else 1) < 30)) = true := by
  rw [star_cons h, star_cons h']
  rfl
theorem simS_none {st : Stmt} {s : S} (h : ∀ env u, execS C ff s env u = none) : SimS X C ff au fr st s := ⟨fun H0 F0 => L2.ps_never.imp fun D σ H ⟨F, env, u, o, R, ev, k⟩ => by rw [h] at ev; cases ev⟩
theorem never_ev {p : E} {st : Expr} (h : chkE c p st = true) (hl : notComp st = false) : (∃ elt t it cond own, p = .comp elt t it cond own) ∨ ∀ env u, evalE C p env u = none := by
  cases st <;> first | (simp [notComp] at hl; done) | skip
  all_goals (cases p <;> first | exact (Bool.false_ne_true h).elim | exact .inl ⟨_, _, _, _, _, rfl⟩ | (exfalso; unfold chkE at h; split at h <;> exact Bool.false_ne_true h; done) | skip)
  all_goals
    refine .inr fun env u => ?_
    unfold chkE at h
    rename_i a
    have hn : neverB a = true := by simpa using h
    unfold neverB at hn
    split at hn <;> first | contradiction | rfl

end

theorem swaps_cell {elt : Expr} {gs : List Comprehension} {scope : Scope} {pos py : Pos} {y : Str} {l : Nat} {env : PySem.Env} (hy : env.scope.names.lookup y = some .cell) : swapsWith (.ListComp elt gs scope pos) (some (.Name y py)) l env = pure false := by
  have ky : env.kindOf y = some .cell := hy
  unfold swapsWith
  simp only [ky]
  have : ((some NameKind.cell : Option NameKind) == some NameKind.local) = false := by decide
  simp [this]
mutual
theorem okS {X : Cx} {c : CK} {G : Prog} {n : Nat} {au : Option Addr} (o : Okx X c G n au) {fr : Bool} : ∀ (s : S) (st : Stmt), chkS c fr s st = true → SimS X (ctxN G n) G.ff au fr st s
  | .set i p, st, h => by
    unfold chkS at h
    split at h <;> first | contradiction | skip
    rename_i x px e pos
    simp only [Bool.and_eq_true, Bool.or_eq_true] at h
    obtain ⟨⟨h1, h2⟩, h3⟩ := h
    obtain ⟨g1, g2, g3, g4, g5⟩ := o.tgt (pos := px) h1
    have nd : X.N.Nodup := by rw [o.hN]; exact o.nd
    by_cases hc : notComp e = true
    · exact simS_set (fun he => L2.ps_set nd g3 g4 he (swaps_no hc) g5) (okE o p _ h2).s g2
    · have hc' : notComp e = false := by simpa using hc
      rcases h3 with h3 | h3
      rotate_left
      · split at h3 <;> first | contradiction | skip
        exact simS_set (fun he => L2.ps_set nd g3 g4 he (swaps_cell (o.kind h3)) g5) (okE o p _ h2).s g2
      rcases never_ev (C := ctxN G n) h2 hc' with ⟨elt, t, it, cond, own, rfl⟩ | hv
      · unfold chkE at h2
        split at h2 <;> first | contradiction | skip
        simp only [hc', Bool.false_eq_true, false_or, Bool.and_eq_true, Bool.not_eq_true'] at h3
        obtain ⟨⟨⟨⟨k1, k2⟩, k3⟩, _⟩, k5⟩ := h3
        simp only [Bool.and_eq_true] at h2
        obtain ⟨⟨⟨⟨⟨⟨h1, h2⟩, h3⟩, h4⟩, h5⟩, h6⟩, h7⟩ := h2
        obtain ⟨q1, q2⟩ := ownB_ok o h4
        have kk : X.env.scope.kind = .function := by rw [o.sc]; exact of_decide_eq_true k2
        have hS := simS_setLc (own := ownL c own) (pos := ‹Pos›) (pos2 := px) (spos := pos) (ff := G.ff) (fr := fr) o.calm nd g3 (o.kind k1) (L2.sw_true kk (o.kind k1) k3 k5) (okI o it _ _ h1) (L2.blkOk_by (by rw [o.hN, o.sc]; exact h3))
          (fun s H Ca cl fp => (chkG_ok (o.blk s H _ cl Ca fp) h5).1) (fun s H Ca cl fp => okC (o.blk s H _ cl Ca fp) cond _ h6) (fun s H Ca cl fp => (okE (o.blk s H _ cl Ca fp) elt _ h7).s)
          (by rw [ownL_map]; exact q1) g2 (by rw [ownL_map]; exact q2) (fun x => folded_no h2)
        rw [ownL_map] at hS
        exact hS
      · exact simS_none fun env u => by simp [execS, hv]
  | .set2 i j p, st, h => by
    unfold chkS at h
    split at h <;> first | contradiction | skip
    simp only [Bool.and_eq_true] at h
    obtain ⟨⟨⟨⟨h1, h2⟩, h3⟩, h4⟩, h5⟩ := h
    rename_i x px y py e pos
    obtain ⟨g1, g2, _⟩ := o.tgt (pos := px) h1
    obtain ⟨k1, k2, _⟩ := o.tgt (pos := py) h2
    exact simS_set2 g1 k1 rfl rfl (okE o p _ h3).s fun ha => ⟨g2 ha, k2 ha⟩
  | .par is es, st, h => by
    unfold chkS at h
    split at h <;> first | contradiction | skip
    rename_i ts kt pt vs kv pv pos
    simp only [Bool.and_eq_true, decide_eq_true_eq, Bool.or_eq_true] at h
    obtain ⟨⟨⟨h1, h2⟩, h3⟩, h4⟩ := h
    rcases h2 with h2 | ⟨⟨⟨q1, q2⟩, q3⟩, q4⟩
    rotate_left
    · obtain ⟨k1, k2, k3, k4⟩ := tuB_ok o q1
      exact simS_parT (simAR_all o es vs q3 h3) (fun ha => L2.ps_asg (L2.pe_tup ha) (L2.pg_tup o.calm k1 k2 k3) (swapsSole_no rfl) (unp_ok o q2) rfl) (fun ha hm => k4 (.nm 0) (List.mem_map_of_mem hm) ha rfl) q4
    have nd : X.N.Nodup := by rw [o.hN]; exact o.nd
    have h2' := h2
    unfold parB at h2
    simp only [Bool.and_eq_true, decide_eq_true_eq, Bool.not_eq_true'] at h2
    obtain ⟨⟨⟨⟨⟨_, b2⟩, b3⟩, b4⟩, _⟩, _⟩ := h2
    split at b2 <;> first | contradiction | skip
    · rename_i x px y py
      match vs, b3 with
      | [a, b], _ =>
        match is, h1, h4 with
        | [i, j], h1, h4 =>
          obtain ⟨w1, w2, w3⟩ := par2_ok (pt := pt) (pv := pv) (kt := kt) (kv := kv) o h2'
          simp only [namesB, Bool.and_eq_true] at h1
          obtain ⟨_, g2, g3, _⟩ := o.tgt (pos := px) h1.1
          obtain ⟨_, k2, k3, _⟩ := o.tgt (pos := py) h1.2.1
          have hij : i ≠ j := by simpa using h4
          match es, h3 with
          | .cons pa (.cons pb .nil), h3 =>
            simp only [chkEs, Bool.and_eq_true] at h3
            simp only [starsB, List.all_cons, Bool.and_eq_true] at b4
            refine simS_par2 (simAR_cons (okE o pa _ h3.1).s (simAR_cons (okE o pb _ h3.2.1).s simAR_nil (star_cons b4.2.1)) (star_cons b4.1)) (fun ha => L2.ps_par o.calm nd g3 k3 hij w2 w3 ha w1 (swapsSole_no rfl)) (fun vs ds F' H' Hb r => rrAll_2 r) fun ha hm => ?_
            simp only [List.mem_cons, List.not_mem_nil, or_false] at hm
            rcases hm with e | e
            · exact g2 ha e.symm
            · exact k2 ha e.symm
          | .nil, h3 => simp [chkEs] at h3
          | .cons _ .nil, h3 => simp [chkEs] at h3
          | .cons _ (.cons _ (.cons _ _)), h3 => simp [chkEs] at h3
        | [], h1, _ => simp [namesB] at h1
        | [_], h1, _ => simp [namesB] at h1
        | _ :: _ :: _ :: _, h1, _ => simp [namesB] at h1
    · rename_i x px y py z pz
      match vs, b3 with
      | [a, b, d], _ =>
        match is, h1, h4 with
        | [i, j, l], h1, h4 =>
          obtain ⟨w1, w2, w3, w4⟩ := par3_ok (pt := pt) (pv := pv) (kt := kt) (kv := kv) o h2'
          simp only [namesB, Bool.and_eq_true] at h1
          obtain ⟨_, g2, g3, _⟩ := o.tgt (pos := px) h1.1
          obtain ⟨_, k2, k3, _⟩ := o.tgt (pos := py) h1.2.1
          obtain ⟨_, m2, m3, _⟩ := o.tgt (pos := pz) h1.2.2.1
          have hd : i ≠ j ∧ i ≠ l ∧ j ≠ l := by
            simp only [List.nodup_cons, List.mem_cons, List.not_mem_nil, or_false, not_or] at h4
            exact ⟨h4.1.1, h4.1.2, h4.2.1⟩
          match es, h3 with
          | .cons pa (.cons pb (.cons pd .nil)), h3 =>
            simp only [chkEs, Bool.and_eq_true] at h3
            simp only [starsB, List.all_cons, Bool.and_eq_true] at b4
            refine simS_par3 (simAR_cons (okE o pa _ h3.1).s (simAR_cons (okE o pb _ h3.2.1).s (simAR_cons (okE o pd _ h3.2.2.1).s simAR_nil (star_cons b4.2.2.1)) (star_cons b4.2.1)) (star_cons b4.1)) (fun ha => L2.ps_par3 o.calm nd g3 k3 m3 hd.1 hd.2.1 hd.2.2 w2 w3 w4 ha w1 (swapsSole_no rfl)) (fun vs ds F' H' Hb r => rrAll_3 r) fun ha hm => ?_
            simp only [List.mem_cons, List.not_mem_nil, or_false] at hm
            rcases hm with e | e | e
            · exact g2 ha e.symm
            · exact k2 ha e.symm
            · exact m2 ha e.symm
          | .nil, h3 => simp [chkEs] at h3
          | .cons _ .nil, h3 => simp [chkEs] at h3
          | .cons _ (.cons _ .nil), h3 => simp [chkEs] at h3
          | .cons _ (.cons _ (.cons _ (.cons _ _))), h3 => simp [chkEs] at h3
        | [], h1, _ => simp [namesB] at h1
        | [_], h1, _ => simp [namesB] at h1
        | [_, _], h1, _ => simp [namesB] at h1
        | _ :: _ :: _ :: _ :: _, h1, _ => simp [namesB] at h1
  | .unp us p, st, h => by
    unfold chkS at h
    split at h <;> first | contradiction | skip
    simp only [Bool.and_eq_true, Bool.or_eq_true] at h
    rename_i ts kt pt e pos
    obtain ⟨h1, h⟩ := h
    obtain ⟨k1, k2, k3, k4⟩ := tuB_ok o h1
    rcases h with ⟨⟨h2, h3⟩, h4⟩ | ⟨h5, h6⟩
    · exact simS_unp (okE o p _ h4).s k4 fun he => L2.ps_asg he (L2.pg_tup o.calm k1 k2 k3) (swapsSole_no h3) (unp_ok o h2) rfl
    · unfold chkU at h6
      split at h6 <;> first | contradiction | skip
      simp only [Bool.and_eq_true] at h6
      refine simS_unl h6.1 (okE o _ _ h6.2).s k4 fun he => ?_
      cases e <;> first | (simp [listB] at h5; done) | exact L2.ps_asg he (L2.pg_unl o.calm k1 k2 k3) rfl rfl rfl
  | .setI i k p, st, h => by
    unfold chkS at h
    split at h <;> first | contradiction | skip
    simp only [Bool.and_eq_true] at h
    obtain ⟨⟨⟨⟨h1, h2⟩, h3⟩, h4⟩, h5⟩ := h
    exact simS_setI (okE o p _ h3).s (o.var h1) (okE o k _ h2).s fun he hk => L2.ps_asg he (L2.pg_sub (o.var h1) hk L2.set_list (fun v => sub_assign h5)) (swapsSole_no h4) (sub_swapped _) rfl
  | .setU k p, st, h => by
    unfold chkS at h
    split at h <;> first | contradiction | skip
    simp only [Bool.and_eq_true] at h
    obtain ⟨⟨⟨⟨⟨h0, h1⟩, h2⟩, h3⟩, h4⟩, h5⟩ := h
    exact simS_setU (o.au.trans h0) (okE o p _ h3).s (o.var h1) (okE o k _ h2).s fun he hk => L2.ps_asg he (L2.pg_sub (o.var h1) hk L2.set_list (fun v => sub_assign h5)) (swapsSole_no h4) (sub_swapped _) rfl
  | .app i p, st, h => by
    unfold chkS at h
    split at h <;> first | contradiction | skip
    simp only [Bool.and_eq_true, decide_eq_true_eq] at h
    obtain ⟨⟨⟨⟨h1, rfl⟩, h2⟩, h3⟩, h4⟩ := h
    exact simS_app (okE o p _ h4).s fun he => L2.ps_expr (L2.pe_bm PySem.F.plainAttrs_list PySem.F.slot_list_append PySem.F.type_list_append L2.mt_append (o.var h1) (L2.pa_cons he L2.pa_nil (star_cons h3)) rfl (few_ok h3) h2 (star_cons h3) rfl) rfl
  | .pop i, st, h => by
    unfold chkS at h
    split at h <;> first | contradiction | skip
    simp only [Bool.and_eq_true, decide_eq_true_eq] at h
    obtain ⟨⟨h1, rfl⟩, h2⟩ := h
    exact simS_pop (L2.ps_expr (L2.pe_bm0 PySem.F.plainAttrs_list PySem.F.slot_list_pop PySem.F.type_list_pop L2.mt_pop (o.var h1) rfl h2) rfl)
  | .ins i k p, st, h => by
    unfold chkS at h
    split at h <;> first | contradiction | skip
    simp only [Bool.and_eq_true, decide_eq_true_eq] at h
    obtain ⟨⟨⟨⟨⟨⟨h1, rfl⟩, h2⟩, h3⟩, h4⟩, h5⟩, h6⟩ := h
    exact simS_ins (okE o k _ h5).s (okE o p _ h6).s fun hk he => L2.ps_expr (L2.pe_bm PySem.F.plainAttrs_list PySem.F.slot_list_insert PySem.F.type_list_insert L2.mt_insert (o.var h1) (L2.pa_cons hk (L2.pa_cons he L2.pa_nil (star_cons h4)) (star_cons h3)) rfl (few_ok2 h3 h4) h2 (star_cons h3) (star_any (by simp [starsB, h4]))) rfl
  | .drop p, st, h => by
    unfold chkS at h
    split at h <;> first | contradiction | skip
    simp only [Bool.and_eq_true] at h
    exact simS_drop (okE o p _ h.1).s (swaps_no h.2)
  | .ite t a b, st, h => by
    unfold chkS at h
    split at h <;> first | contradiction | skip
    simp only [Bool.and_eq_true] at h
    exact simS_ite (okE o t _ h.1.1).t (okSs o a _ h.1.2) (okSs o b _ h.2)
  | .whil t b, st, h => by
    unfold chkS at h
    split at h <;> first | contradiction | skip
    simp only [Bool.and_eq_true] at h
    exact simS_whil o.own (okE o t _ h.1).t (okSs o b _ h.2)
  | .for_ t it b, st, h => by
    unfold chkS at h
    split at h <;> first | contradiction | skip
    simp only [Bool.and_eq_true] at h
    obtain ⟨⟨⟨h1, h2⟩, h3⟩, h4⟩ := h
    obtain ⟨g1, g2⟩ := chkG_ok o h3
    exact simS_for o.own o.calm (okI o it _ _ h1) g1 (okSs o b _ h4) g2 fun x => folded_no h2
  | .ret p, st, h => by
    unfold chkS at h
    simp only [Bool.and_eq_true, Bool.not_eq_true'] at h
    obtain ⟨rfl, h⟩ := h
    split at h <;> first | contradiction | skip
    · exact simS_ret (okE o p _ h).s
    · unfold neverB at h
      split at h <;> first | contradiction | skip
      exact simS_retN
  | .retF p, st, h => by
    unfold chkS at h
    simp only [Bool.and_eq_true] at h
    obtain ⟨rfl, h⟩ := h
    split at h <;> first | contradiction | skip
    rename_i e pos
    by_cases hv : ∃ i, p = .var i
    · obtain ⟨i, rfl⟩ := hv
      unfold chkE at h
      split at h <;> first | contradiction | skip
      exact simS_retFV (o.var h)
    · exact simS_retF (fun i e => hv ⟨i, e⟩) (okE o p _ h).s
  | .brk, st, h => by
    unfold chkS at h
    split at h <;> first | contradiction | skip
    exact simS_brk
  | .cont, st, h => by
    unfold chkS at h
    split at h <;> first | contradiction | skip
    exact simS_cont
  | .pass, st, h => by
    unfold chkS at h
    split at h <;> first | contradiction | skip
    exact simS_pass
  | .raise, st, h => simS_raise
theorem okSs {X : Cx} {c : CK} {G : Prog} {n : Nat} {au : Option Addr} (o : Okx X c G n au) {fr : Bool} : ∀ (s : Ss) (st : List Stmt), chkSs c fr s st = true → SimSs X (ctxN G n) G.ff au fr st s
  | .nil, st, h => by
    unfold chkSs at h
    obtain rfl := List.isEmpty_iff.mp h
    exact simSs_nil
  | .cons s ss, st, h => by
    unfold chkSs at h
    split at h <;> first | contradiction | skip
    simp only [Bool.and_eq_true] at h
    exact simSs_cons (okS o s _ h.1) (okSs o ss _ h.2)
end
end Pl

set_option maxHeartbeats 2000000
/-! PSound19: the table of defs, all of it right; the law's walk. -/
namespace Pl
open PySem PyProof.Rows
open L2 (V Hp HO VK XK TE TT TA TS Cx PE PA PS PSs Inv SqL SqT Dp DpAll Vals RelV EP Gl Vis Ends Sp FnScope Env0 CE CR CX0 Room Fun Binds KBinds PK)

/-- a module's constants and built-ins, its table -/
structure Pack where
  T : String → Option Entry
  glob : String → Option D
  bl : List Str
  gcd : Bool
def Pack.G (p : Pack) : Prog := ⟨fun f => (p.T f).map (·.fn), p.glob⟩
def scopeB (N ps : List Str) (sc : Scope) : Bool := decide (sc.kind = .function) && decide (sc.isCoroutine = false) && decide (sc.isGenerator = false) && decide N.Nodup && decide (N.take ps.length = ps) &&
  ps.all (fun x => decide (sc.names.lookup x = some .local) || decide (sc.names.lookup x = some .cell)) && sc.names.all fun y => decide (y.2 ≠ .free)
theorem scopeB_ok {N ps : List Str} {sc : Scope} (h : scopeB N ps sc = true) : FnScope N ps sc := by
  unfold scopeB at h
  simp only [Bool.and_eq_true, decide_eq_true_eq, List.all_eq_true, Bool.or_eq_true] at h
  obtain ⟨⟨⟨⟨⟨⟨h1, h2⟩, h3⟩, h4⟩, h5⟩, h6⟩, h7⟩ := h
  exact ⟨h1, h2, h3, h4, h5, h6, h7⟩
/-- what is known of a def's object -/
structure Has (K : PySem.W.Frag) (mg : Str → Option Value) (f : String) (e : Entry) : Prop where
  ex : ∃ fa fd, mg (Str.ofString f) = some (.ref fa) ∧ Fun K (Str.ofString f) e.qual e.st fa fd ∧ Binds K fd e.ps [] ∧ (∀ q ∈ e.kws, KBinds K fd e.ps q.2.1 (gK q.1 q.2.1.length q.2.2) (gK q.1 q.2.1.length q.2.2))
structure Facts (K : PySem.W.Frag) (mg : Str → Option Value) (p : Pack) : Prop where
  has : ∀ f e, p.T f = some e → Has K mg f e
  blt : ∀ x ∈ p.bl, mg x = none
  gcd : p.gcd = true → mg "gcd" = some (.builtin "math.gcd")
  glb : ∀ g d, p.glob g = some d → ∃ v u, mg (Str.ofString g) = some u ∧ RelV v u ∧ ∀ F, Dp K F v d

theorem gK_rel {np nk : Nat} {perm : List Nat} {vs zs : List V} {us ws : List Value} (r : Vals vs us) (rz : Vals zs ws) : Vals (gK np nk perm vs zs) (gK np nk perm us ws) := by
  unfold gK
  rw [r.length, rz.length]
  split
  · have ra := r.append rz
    clear r rz
    induction perm with
    | nil => exact .nil
    | cons i is ih =>
      rw [List.filterMap_cons, List.filterMap_cons]
      cases q : (us ++ ws)[i]? with
      | none =>
        have : (vs ++ zs)[i]? = none := by
          rw [List.getElem?_eq_none_iff] at q ⊢
          rw [ra.length]; exact q
        rw [this]
        exact ih
      | some u =>
        obtain ⟨v, hv⟩ : ∃ v, (vs ++ zs)[i]? = some v := by
          have := (List.getElem?_eq_some_iff.mp q).1
          rw [← ra.length] at this
          exact ⟨_, List.getElem?_eq_getElem this⟩
        rw [hv]
        obtain ⟨u', hu, ru⟩ := ra.get hv
        rw [q] at hu
        cases hu
        exact .cons ru ih
  · exact .nil
/-- how a def's arguments are bound, of the parameters alone -/
structure BindOk (f : String) (e : Entry) : Prop where
  pos : ∀ (kV doc pm : Value) (an : Option Addr) (cdv ct : Value) (us : List Value), us.length = e.ps.length → bindArgs (PySem.W.fnOf (Str.ofString f) e.qual (L2.defArgs e.st) (L2.defBody e.st) (L2.defScope e.st) .none kV doc pm an cdv ct) ⟨us, []⟩ = pure (e.ps.zip us)
  kw : ∀ q ∈ e.kws, ∀ (kV doc pm : Value) (an : Option Addr) (cdv ct : Value) (us ws : List Value), us.length = q.1 → ws.length = q.2.1.length →
    bindArgs (PySem.W.fnOf (Str.ofString f) e.qual (L2.defArgs e.st) (L2.defBody e.st) (L2.defScope e.st) .none kV doc pm an cdv ct) ⟨us, q.2.1.zip ws⟩ = pure (e.ps.zip (q.2.2.filterMap fun i => (us ++ ws)[i]?))
theorem has_of {K : PySem.W.Frag} {mg : Str → Option Value} {f : String} {e : Entry} {fa : Addr} {fd : FuncData} (m : mg (Str.ofString f) = some (.ref fa)) (F : Fun K (Str.ofString f) e.qual e.st fa fd) (b : BindOk f e) (h0 : 0 < e.ps.length) : Has K mg f e := by
  refine ⟨fa, fd, m, F, ?_, fun q hq => ⟨fun s us ws hK hl => ?_, fun r rz => gK_rel r rz⟩⟩
  · exact F.binds b.pos
  · obtain ⟨oc, od, kV, doc, pm, an, cdv, ct, osl, rfl, lk, hcd⟩ := F.ex
    unfold gK at hl ⊢
    split at hl
    · rename_i hh
      rw [if_pos hh]
      exact .of_eq (b.kw q hq kV doc pm an cdv ct us ws hh.1 hh.2)
    · simp only [List.length_nil] at hl
      omega

end Pl

/-! PSound20: small ends. -/
namespace Pl
open PySem PyProof.Rows
theorem lookup_all {l : List (String × Entry)} {Q : String → Entry → Prop} (h : ∀ q ∈ l, Q q.1 q.2) : ∀ f e, l.lookup f = some e → Q f e := by
  intro f e hl
  induction l with
  | nil => cases hl
  | cons q l ih =>
    rw [List.lookup_cons] at hl
    split at hl
    · rename_i hq
      cases hl
      have : f = q.1 := by simpa using hq
      rw [this]
      exact h q List.mem_cons_self
    · exact ih (fun q hq => h q (List.mem_cons_of_mem _ hq)) hl
theorem glob_all {l : List (String × D)} {Q : String → D → Prop} (h : ∀ q ∈ l, Q q.1 q.2) : ∀ f e, l.lookup f = some e → Q f e := by
  intro f e hl
  induction l with
  | nil => cases hl
  | cons q l ih =>
    rw [List.lookup_cons] at hl
    split at hl
    · rename_i hq
      cases hl
      have : f = q.1 := by simpa using hq
      rw [this]
      exact h q List.mem_cons_self
    · exact ih (fun q hq => h q (List.mem_cons_of_mem _ hq)) hl
theorem fin_of {K : PySem.W.Frag} {mg : Str → Option Value} {p : Pack} {x qual : Str} {st : Stmt} {f fa : Addr} {fd : FuncData} (h : Facts K mg p ∧ L2.Fun K x qual st f fd ∧ mg "law" = some (.ref f)) (hm : mg "law" = some (.ref fa)) :
    Facts K mg p ∧ L2.Fun K x qual st fa fd := by
  obtain ⟨h1, h2, h3⟩ := h
  rw [h3] at hm
  cases hm
  exact ⟨h1, h2⟩
end Pl

set_option maxHeartbeats 400000
/-! PX1: what leaves a def as an exception: statements. -/
namespace Pl
open PySem PyProof.Rows
open L2 (V Hp HO VK XK WX TE TT TA TS TG TGs Cx PE PT PW PA PS PSs PG PGs PI PK PMk Inv SqL SqT DpAll Vals RelV EP Gl Vis Ends Sp FnScope Env0 CE CR CX0 Room Fun Binds KBinds FnOk Passes Takes upd upd_same upd_ne del exo exd)
variable [Tabl]

/-- the module's classes of errors: the one field of each, none for those that are made of nothing -/
abbrev XC := List (Str × Option Str)
def XdR (K : PySem.W.Frag) (mg : Str → Option Value) (xc : XC) (F H : Hp) (s : Str) (d : D) (cls : Value) (dd : Option Addr) : Prop :=
  ∃ (C : Addr) (fo : Option Str), xc.lookup s = some fo ∧ mg s = some (.ref C) ∧ cls = .ref C ∧ ∀ f, fo = some f → ∃ a v, dd = some a ∧ H a = some (.xd [(f, v)]) ∧ Pl.Dp K F v d
def FinX (wh : Bool) (K : PySem.W.Frag) (mg : Str → Option Value) (xc : XC) (H0 F0 : Hp) (W : WX) (D : Ends) : O → Prop
  | .nx env u => ∀ σ H F, StR K none H0 F0 σ H F env u → D.nx σ H
  | .bk env u => ∀ σ H F, StR K none H0 F0 σ H F env u → D.bk σ H
  | .ct env u => ∀ σ H F, StR K none H0 F0 σ H F env u → D.ct σ H
  | .rt d u => (wh = true ∧ d = .none) ∨ ∃ s e, d = xn s e ∧ ∀ σ F H cls dd, Post none F0 H0 F H u → XdR K mg xc F H s e cls dd → W cls dd σ H
def wpX (wh : Bool) (C : Ctx) (ff : String → Bool) (K : PySem.W.Frag) (mg : Str → Option Value) (xc : XC) (H0 F0 : Hp) (W : WX) (p : S) : TS := fun D σ H =>
  ∃ F env u o, StR K none H0 F0 σ H F env u ∧ execS C ff p env u = some o ∧ FinX wh K mg xc H0 F0 W D o
def wpXs (wh : Bool) (C : Ctx) (ff : String → Bool) (K : PySem.W.Frag) (mg : Str → Option Value) (xc : XC) (H0 F0 : Hp) (W : WX) (p : Ss) : TS := fun D σ H =>
  ∃ F env u o, StR K none H0 F0 σ H F env u ∧ execSs C ff p env u = some o ∧ FinX wh K mg xc H0 F0 W D o
structure SimX (X : Cx) (C : Ctx) (ff : String → Bool) (xc : XC) (wh : Bool) (st : Stmt) (p : S) : Prop where
  t : ∀ H0 F0 W, Takes X W → PS X st (wpX wh C ff X.K X.mg xc H0 F0 W p)
structure SimXs (X : Cx) (C : Ctx) (ff : String → Bool) (xc : XC) (wh : Bool) (st : List Stmt) (p : Ss) : Prop where
  t : ∀ H0 F0 W, Takes X W → PSs X st (wpXs wh C ff X.K X.mg xc H0 F0 W p)

theorem StR.anyU {K : PySem.W.Frag} {H0 F0 : Hp} {σ : L2.St} {H F : Hp} {env : Env} {u : U} (R : StR K none H0 F0 σ H F env u) (u' : U) : StR K none H0 F0 σ H F env u' :=
  ⟨R.sub, UrnR.no, R.tab, R.s0, R.len, R.ext, R.u0, R.imm, R.own, R.dis⟩
theorem Post.anyU {F H F' H' : Hp} {u : U} (P : Post none F H F' H' u) (u' : U) : Post none F H F' H' u' := ⟨P.ext, P.sub, UrnR.no, P.tab⟩

section
variable {X : Cx} {C : Ctx} {ff : String → Bool} {xc : XC} {wh : Bool} {e a b c : Expr} {es : List Expr} {p pa pb pc : E} {ps : Es} {pos : Pos} {x : Str} {pos2 : Pos} {K : PySem.W.Frag} {st : Stmt} {sts sts2 : List Stmt} {s : S} {ss ss2 : Ss}
theorem simXs_nil : SimXs X C ff xc wh [] .nil := ⟨fun H0 F0 W _ => L2.pss_nil.imp fun D σ H ⟨F, env, u, o, R, ev, k⟩ => by
  simp only [execSs, Option.some.injEq] at ev
  subst ev
  exact k σ H F R⟩
theorem simXs_cons (h1 : SimX X C ff xc wh st s) (h2 : SimXs X C ff xc wh sts ss) : SimXs X C ff xc wh (st :: sts) (.cons s ss) := ⟨fun H0 F0 W tk => (L2.pss_cons (h1.t H0 F0 W tk) (h2.t H0 F0 W tk)).imp fun D σ H ⟨F, env, u, o, R, ev, k⟩ => by
  simp only [execSs] at ev
  obtain ⟨o1, e1, ev⟩ := Option.bind_eq_some_iff.mp ev
  refine ⟨F, env, u, o1, R, e1, ?_⟩
  cases o1 with
  | nx env' u' => exact fun σ' H' F' R' => ⟨F', env', u', o, R', ev, k⟩
  | rt d u' => simp only [Option.some.injEq] at ev; subst ev; exact k
  | bk env' u' => simp only [Option.some.injEq] at ev; subst ev; exact k
  | ct env' u' => simp only [Option.some.injEq] at ev; subst ev; exact k⟩
/-- statements that neither return nor raise -/
def noRt : S → Bool
  | .set _ _ | .set2 _ _ _ | .par _ _ | .unp _ _ | .setI _ _ _ | .app _ _ | .pop _ | .drop _ | .brk | .cont | .pass => true
  | _ => false
theorem bind_ne {α β : Type} {o : Option α} {f : α → Option β} {b : β} (h : ∀ a, f a ≠ some b) : o.bind f ≠ some b := fun e => by
  obtain ⟨a, _, q⟩ := Option.bind_eq_some_iff.mp e
  exact h a q
theorem noRt_ok {env : Env} {u u' : U} {d : D} (h : noRt s = true) : execS C ff s env u ≠ some (.rt d u') := by
  have nn : (none : Option O) ≠ some (.rt d u') := fun z => nomatch z
  have n1 : ∀ env u, some (O.nx env u) ≠ some (.rt d u') := fun env u z => by cases z
  have n2 : ∀ env u, some (O.bk env u) ≠ some (.rt d u') := fun env u z => by cases z
  have n3 : ∀ env u, some (O.ct env u) ≠ some (.rt d u') := fun env u z => by cases z
  cases s with
  | set i e => simp only [execS]; exact bind_ne fun _ => n1 _ _
  | set2 i j e =>
    simp only [execS]
    refine bind_ne fun a => ?_
    split
    · exact n1 _ _
    · exact nn
  | par is es => simp only [execS]; exact bind_ne fun _ => bind_ne fun _ => bind_ne fun _ => n1 _ _
  | unp ts e =>
    simp only [execS]
    refine bind_ne fun a => ?_
    split
    · exact bind_ne fun _ => n1 _ _
    · exact nn
  | setI i k e =>
    simp only [execS]
    refine bind_ne fun a => ?_
    split
    · refine bind_ne fun b => ?_
      split
      · exact bind_ne fun _ => n1 _ _
      · exact nn
    · exact nn
  | app i e =>
    simp only [execS]
    refine bind_ne fun a => ?_
    split
    · split
      · exact n1 _ _
      · exact nn
    · exact nn
  | pop i =>
    simp only [execS]
    split
    · split
      · exact nn
      · exact n1 _ _
    · exact nn
  | drop e => simp only [execS]; exact bind_ne fun _ => n1 _ _
  | brk => exact n2 _ _
  | cont => exact n3 _ _
  | pass => exact n1 _ _
  | _ => simp [noRt] at h
theorem simX_plain (h : SimS X C ff none false st s) (hn : noRt s = true) : SimX X C ff xc wh st s := ⟨fun H0 F0 W _ => (h.t H0 F0).imp fun D σ H ⟨F, env, u, o, R, ev, k⟩ => by
  refine ⟨F, env, u, o, R, ev, ?_⟩
  cases o with
  | rt d u' => exact absurd ev (noRt_ok hn)
  | nx _ _ => exact k
  | bk _ _ => exact k
  | ct _ _ => exact k⟩
theorem simX_ret0 {eo : Option Expr} : SimX X C ff xc false (.Return eo pos) (.ret (.lit .none)) := ⟨fun H0 F0 W _ => L2.ps_never.imp fun D σ H ⟨F, env, u, o, R, ev, k⟩ => by
  simp only [execS, evalE, litV, Option.bind_some, Option.some.injEq] at ev
  subst ev
  rcases k with ⟨h, _⟩ | ⟨s, e, h, _⟩
  · cases h
  · cases h⟩
theorem simX_ite {sta stb : List Stmt} {sa sb : Ss} (hc : SimT X C none c pc) (ha : SimXs X C ff xc wh sta sa) (hb : SimXs X C ff xc wh stb sb) : SimX X C ff xc wh (.If c sta stb pos) (.ite pc sa sb) :=
  ⟨fun H0 F0 W tk => (L2.ps_if hc.t (ha.t H0 F0 W tk) (hb.t H0 F0 W tk)).imp fun D σ H ⟨F, env, u, o, R, ev, k⟩ => by
    simp only [execS] at ev
    obtain ⟨⟨d, u1⟩, e1, ev⟩ := Option.bind_eq_some_iff.mp ev
    cases d <;> simp only at ev <;> first | contradiction | skip
    rename_i q
    refine ⟨_, env, u, q, u1, R.at_ (fvE pc), e1, fun F1 H1 P => ?_⟩
    have R1 := R.keep P
    cases q with
    | true => exact ⟨_, env, u1, o, R1, ev, k⟩
    | false => exact ⟨_, env, u1, o, R1, ev, k⟩⟩
theorem Post.unbase {σ : L2.St} {H0 F0 H F F2 H2 : Hp} {env : Env} {u u2 : U} (R0 : StR K none H0 F0 σ H F env u) (P : Post none F (base H0 F) F2 H2 u2) : Post none F0 H0 F2 H2 u2 :=
  ⟨ext_unbase R0.sub R0.urn.hu R0.ext P.ext, P.sub, P.urn, P.tab⟩
theorem simX_for {tg iter : Expr} {t : Tg} {it : I} {stb : List Stmt} {sb : Ss} (hp : PassesOwn (model X.prog X.w) X.A X.env X.xe) (hc : X.calm = true) (hi : SimI X C none tg iter it) (hg : SimG X tg t) (hb : SimXs X C ff xc wh stb sb)
    (hs : ∀ x, foldedSetIterable iter X.env x = pure x) : SimX X C ff xc wh (.For tg iter stb [] pos) (.for_ t it sb) :=
  ⟨fun H0 F0 W tk => by
    refine ⟨fun pins s σ H D I h => ?_⟩
    obtain ⟨F, env, u, o, R, ev, k⟩ := h
    simp only [execS] at ev
    obtain ⟨⟨ds, u1⟩, e1, ev⟩ := Option.bind_eq_some_iff.mp ev
    split at ev <;> first | contradiction | skip
    rename_i hz
    -- the turns, of a state in which the row stands
    have turns : ∀ J F1 H1, StR X.K none H0 F0 σ H1 F1 (if iterOk it then env else freeze env (fvI it)) u1 → Feeds X.K F1 J ds → ∃ V : Nat → Nat → L2.St → Hp → Prop, (∃ m, V 0 m σ H1) ∧ ∀ i m σ H, V i m σ H →
        (J.stop i H ∧ D.nx σ H) ∨ (J.go i H ∧ ∃ N : L2.St → Hp → Prop, (∀ σ' H', N σ' H' → ∃ m', m' < m ∧ V (i + 1) m' σ' H') ∧ ∀ x H', J.yld i H x H' → wpG X.K t x σ H' fun σ2 H2 =>
          (fun D σ H => ∃ H0 F0, wpXs wh C ff X.K X.mg xc H0 F0 W sb D σ H) { D with nx := N, ct := N, bk := D.nx } σ2 H2) := fun J F1 H1 R1 fd => by
      refine ⟨fun i m σ2 H2 => m = ds.length - i ∧ i ≤ ds.length ∧ ∃ F2 env2 u2, StR X.K none (base H0 F1) F1 σ2 H2 F2 env2 u2 ∧ forL (fun d env u => (bindT t d env).bind fun env' => execSs C ff sb env' u) (ds.drop i) env2 u2 = some o, ⟨_, rfl, Nat.zero_le _, F1, _, u1, R1.rebase, by rw [List.drop_zero]; exact ev⟩, ?_⟩
      rintro i m σ2 H2 ⟨rfl, hi, F2, env2, u2, R2, ev2⟩
      obtain ⟨hgo, hstop⟩ := fd F2 H2 (R1.subBase R2) R2.sub i
      by_cases hlt : i < ds.length
      · obtain ⟨go, yld⟩ := hgo _ (List.getElem?_eq_getElem hlt)
        rw [List.drop_eq_getElem_cons hlt] at ev2
        simp only [forL] at ev2
        obtain ⟨o2, e2, ev2⟩ := Option.bind_eq_some_iff.mp ev2
        obtain ⟨env3, e3, e2⟩ := Option.bind_eq_some_iff.mp e2
        refine .inr ⟨go, fun σ' H' => ∃ m', m' < ds.length - i ∧ (m' = ds.length - (i + 1) ∧ i + 1 ≤ ds.length ∧ ∃ F2 env2 u2, StR X.K none (base H0 F1) F1 σ' H' F2 env2 u2 ∧ forL (fun d env u => (bindT t d env).bind fun env' => execSs C ff sb env' u) (ds.drop (i + 1)) env2 u2 = some o), fun _ _ h => h, fun y H3 hy => ?_⟩
        obtain ⟨F3, x3, s3, dp3⟩ := yld y H3 hy
        have R3 := R2.step (Post.of R2.urn R2.tab x3 s3)
        refine R3.bind dp3 e3 (fun z => by cases z) fun σ4 R4 => ⟨_, _, F3, env3, u2, o2, R4, e2, ?_⟩
        cases o2 with
        | nx env5 u5 => exact fun σ5 H5 F5 R5 => ⟨_, by omega, rfl, hlt, F5, env5, u5, R5, ev2⟩
        | ct env5 u5 => exact fun σ5 H5 F5 R5 => ⟨_, by omega, rfl, hlt, F5, env5, u5, R5, ev2⟩
        | bk env5 u5 =>
          cases ev2
          exact fun σ5 H5 F5 R5 => k _ _ _ (R1.unbase R5)
        | rt d5 u5 =>
          cases ev2
          rcases k with k | ⟨s5, e5, k1, k2⟩
          · exact .inl k
          · exact .inr ⟨s5, e5, k1, fun σ6 F6 H6 cls dd P6 q6 => k2 σ6 F6 H6 cls dd (P6.unbase R1) q6⟩
      · have e : i = ds.length := by omega
        subst e
        rw [List.drop_length] at ev2
        simp only [forL, Option.some.injEq] at ev2
        subst ev2
        exact .inl ⟨hstop (Nat.le_refl _), k _ _ _ (R1.unbase R2)⟩
    have hb' : PSs X stb (fun D σ H => ∃ H0 F0, wpXs wh C ff X.K X.mg xc H0 F0 W sb D σ H) := ⟨fun pins s σ H D I ⟨H0, F0, h⟩ => (hb.t H0 F0 W tk).run pins s σ H D I h⟩
    refine (L2.ps_for (pos := pos) hp hc hi.t hg.t hb' hs).run pins s σ H D I ⟨_, env, u, ds, u1, R.at_ (fvI it), e1, fun J F1 H1 P fd fd2 => ?_⟩
    by_cases hk : iterOk it = true
    · exact turns J _ H1 (by rw [if_pos hk]; exact R.keep P) (fd2 hk _)
    · exact turns J F1 H1 (by rw [if_neg hk]; exact R.frz P) fd⟩
end

/-! ### raise C(e) -/
/-- what C.__init__ does -/
def spInit (C : Addr) (f : Str) : Sp := fun vs H Q _ => ∃ a y, vs = [.ref a, y] ∧ H a = some (exo a C none) ∧ ∀ dx, H dx = none → dx ≠ a → Q .non (upd (upd H dx (exd dx [(f, y)])) a (exo a C (some dx)))
/-- an own class of errors with one field -/
structure ExcI (P : Program) (w : World) (K : PySem.W.Frag) (mg : Str → Option Value) (bas : Heap) (x : Str) (C : Addr) (f : Str) : Prop where
  ad : mg x = some (.ref C)
  oc : L2.OexC K C
  ex : ∃ fI fd, PySem.W.findIn K (.ref C) "__init__" = some (some (.ref fI)) ∧ PySem.W.typeIn K (.ref fI) = some (.type "function") ∧ FnOk P w K mg bas CX0 1 fI fd ["self", f] (spInit C f) ∧ Binds K fd ["self", f] []
theorem exo_ne {a C : Addr} {d : Option Addr} {ps : Array Value} : exo a C d ≠ .tbl ps := fun h => by unfold exo at h; cases h
section
variable {X : Cx} {C : Ctx} {ff : String → Bool} {xc : XC} {wh : Bool} {e : Expr} {p : E} {pos pos2 pos3 : Pos} {x : Str} {Ca : Addr} {f : Str}
theorem simX_raise (hc : X.calm = true) (hr : Room 2 X.A) (hx : ExcI X.prog X.w X.K X.mg X.base x Ca f) (hl : xc.lookup x = some (some f)) (he : Sim X C ff none e p) (hg : Gl X x) (hdb : (x == ("__debug__" : Str)) = false) (hst : notStar e = true) :
    SimX X C ff xc wh (.Raise (some (.Call (.Name x pos) [e] [] pos2)) none pos3) (.ret (.tup (.cons (.lit (.str x)) (.cons p .nil)))) := ⟨fun H0 F0 W tk => by
  obtain ⟨fI, fd, i1, i2, i3, i4⟩ := hx.ex
  have ha : PA X [e] (wpEs X.K C none (.cons p .nil)) := (simA_cons he simA_nil (star_cons hst)).t
  refine (L2.ps_raise hc tk (L2.pmk_oex (k := 1) (dvs := []) hx.oc i1 i2 i3 hr i4 .nil L2.pass0 hg hx.ad ha hdb (star_cons hst) rfl)).imp fun D σ H ⟨F, env, u, o, R, ev, k⟩ => ?_
  simp only [execS, evalE, evalEs, litV, Option.bind_some] at ev
  obtain ⟨⟨d0, u1⟩, e1, ev⟩ := Option.bind_eq_some_iff.mp ev
  obtain ⟨⟨ds, u2⟩, e2, e1⟩ := Option.bind_eq_some_iff.mp e1
  obtain ⟨⟨ds', u3⟩, e3, e2⟩ := Option.bind_eq_some_iff.mp e2
  obtain ⟨⟨de, u4⟩, e4, e3⟩ := Option.bind_eq_some_iff.mp e3
  cases e3
  cases e2
  cases ev
  have e5 : d0 = .tuple [.str x, de] ∧ u1 = u4 := by
    split at e1 <;> first | contradiction | skip
    cases e1
    exact ⟨rfl, rfl⟩
  obtain ⟨rfl, rfl⟩ := e5
  refine ⟨_, env, u, [de], u1, R.at_ (fvEs (.cons p .nil)), by simp only [evalEs, e4, Option.bind_some], fun vs F1 H1 P r => ?_⟩
  obtain ⟨y, rfl, ry⟩ : ∃ y, vs = [y] ∧ Pl.Dp X.K F1 y de := by
    cases r with
    | cons a t => cases t; exact ⟨_, rfl, a⟩
  refine ⟨by simp, fun a hna => ⟨a, y, rfl, upd_same, fun dx hdx hne => ?_⟩⟩
  rw [upd_ne hne] at hdx
  refine ⟨rfl, dx, [(f, y)], upd_same, by rw [upd_ne hne]; exact upd_same, hdx, ?_⟩
  have eH : upd (del (upd (upd (upd H1 a (exo a Ca none)) dx (exd dx [(f, y)])) a (exo a Ca (some dx))) a) dx (.xd [(f, y)]) = upd H1 dx (.xd [(f, y)]) := by
    funext q
    by_cases q1 : q = dx
    · rw [q1, upd_same, upd_same]
    · rw [upd_ne q1, upd_ne q1]
      by_cases q2 : q = a
      · rw [q2, L2.del_same, hna]
      · rw [L2.del_ne q2, upd_ne q2, upd_ne q1, upd_ne q2]
  rw [eH]
  rcases k with ⟨_, h⟩ | ⟨s, e', h, k⟩
  · cases h
  · unfold xn at h
    cases h
    have P' : Post none (thaw env σ (fvEs (.cons p .nil)) H F) H F1 (upd H1 dx (.xd [(f, y)])) u1 := P.trans (Post.of P.urn P.tab (ext_newH hdx) (sub_newH P.sub hdx))
    exact k σ F1 _ _ _ (R.ret (bb := false) (v := .non) (d := .none) P' Pl.Dp.non).1 ⟨Ca, some f, hl, hx.ad, rfl, fun f' ef => by
      cases ef
      exact ⟨dx, y, rfl, upd_same, ry⟩⟩⟩
end
end Pl

set_option maxHeartbeats 400000
/-! PX2: calls that may raise; the checker of what leaves a def. -/
namespace Pl
open PySem PyProof.Rows
open L2 (V Hp HO VK XK WX TE TT TA TS TG TGs Cx PE PT PW PA PS PSs PG PGs PI PK PMk Inv SqL SqT DpAll Vals RelV EP Gl Vis Ends Sp FnScope Env0 CE CR CX0 Room Fun Binds KBinds FnOk Passes Takes upd upd_same upd_ne del exo exd)
variable [Tabl]

/-! ### terms that are alike, and draw nothing -/
mutual
theorem eqE_ok : ∀ {a b : E}, eqE a b = true → a = b ∧ ∀ (C : Ctx) (env : Env) (u u' : U) (d : D), evalE C a env u = some (d, u') → u' = u
  | .var i, b, h => by
    cases b <;> simp only [eqE, Bool.false_eq_true, decide_eq_true_eq] at h
    subst h
    refine ⟨rfl, fun C env u u' d ev => ?_⟩
    simp only [evalE] at ev
    obtain ⟨_, _, ev⟩ := Option.bind_eq_some_iff.mp ev
    cases ev; rfl
  | .lit k, b, h => by
    cases b <;> simp only [eqE, Bool.false_eq_true, decide_eq_true_eq] at h
    subst h
    refine ⟨rfl, fun C env u u' d ev => ?_⟩
    simp only [evalE] at ev
    obtain ⟨_, _, ev⟩ := Option.bind_eq_some_iff.mp ev
    cases ev; rfl
  | .glob g, b, h => by
    cases b <;> simp only [eqE, Bool.false_eq_true, decide_eq_true_eq] at h
    subst h
    refine ⟨rfl, fun C env u u' d ev => ?_⟩
    simp only [evalE] at ev
    obtain ⟨_, _, ev⟩ := Option.bind_eq_some_iff.mp ev
    cases ev; rfl
  | .idx a i, b, h => by
    cases b <;> simp only [eqE, Bool.false_eq_true, Bool.and_eq_true] at h
    obtain ⟨rfl, k1⟩ := eqE_ok h.1
    obtain ⟨rfl, k2⟩ := eqE_ok h.2
    refine ⟨rfl, fun C env u u' d ev => ?_⟩
    simp only [evalE] at ev
    obtain ⟨⟨d1, u1⟩, e1, ev⟩ := Option.bind_eq_some_iff.mp ev
    obtain ⟨⟨d2, u2⟩, e2, ev⟩ := Option.bind_eq_some_iff.mp ev
    obtain ⟨d3, e3, ev⟩ := Option.bind_eq_some_iff.mp ev
    cases ev
    rw [k2 _ _ _ _ _ e2, k1 _ _ _ _ _ e1]
  | .tup es, b, h => by
    cases b <;> simp only [eqE, Bool.false_eq_true] at h
    obtain ⟨rfl, k1⟩ := eqEs_ok h
    refine ⟨rfl, fun C env u u' d ev => ?_⟩
    simp only [evalE] at ev
    obtain ⟨⟨d1, u1⟩, e1, ev⟩ := Option.bind_eq_some_iff.mp ev
    split at ev <;> first | contradiction | skip
    cases ev
    exact k1 _ _ _ _ _ e1
  | .neg _, b, h => by cases b <;> simp [eqE] at h
  | .not _, b, h => by cases b <;> simp [eqE] at h
  | .bin _ _ _, b, h => by cases b <;> simp [eqE] at h
  | .cmp _ _ _, b, h => by cases b <;> simp [eqE] at h
  | .chain _ _ _ _ _, b, h => by cases b <;> simp [eqE] at h
  | .and _ _, b, h => by cases b <;> simp [eqE] at h
  | .or _ _, b, h => by cases b <;> simp [eqE] at h
  | .ite _ _ _, b, h => by cases b <;> simp [eqE] at h
  | .lst _, b, h => by cases b <;> simp [eqE] at h
  | .rep _ _, b, h => by cases b <;> simp [eqE] at h
  | .sli _ _ _, b, h => by cases b <;> simp [eqE] at h
  | .rev _, b, h => by cases b <;> simp [eqE] at h
  | .rvt _, b, h => by cases b <;> simp [eqE] at h
  | .uidx _, b, h => by cases b <;> simp [eqE] at h
  | .call _ _ _, b, h => by cases b <;> simp [eqE] at h
  | .ucall _ _, b, h => by cases b <;> simp [eqE] at h
  | .ncall _ _ _, b, h => by cases b <;> simp [eqE] at h
  | .bi _ _, b, h => by cases b <;> simp [eqE] at h
  | .comp _ _ _ _ _, b, h => by cases b <;> simp [eqE] at h
  | .dict0, b, h => by cases b <;> simp [eqE] at h
  | .trng _ _, b, h => by cases b <;> simp [eqE] at h
theorem eqEs_ok : ∀ {a b : Es}, eqEs a b = true → a = b ∧ ∀ (C : Ctx) (env : Env) (u u' : U) (ds : List D), evalEs C a env u = some (ds, u') → u' = u
  | .nil, b, h => by
    cases b <;> simp only [eqEs, Bool.false_eq_true] at h
    refine ⟨rfl, fun C env u u' d ev => ?_⟩
    simp only [evalEs] at ev
    cases ev; rfl
  | .cons a as, b, h => by
    cases b <;> simp only [eqEs, Bool.false_eq_true, Bool.and_eq_true] at h
    obtain ⟨rfl, k1⟩ := eqE_ok h.1
    obtain ⟨rfl, k2⟩ := eqEs_ok h.2
    refine ⟨rfl, fun C env u u' d ev => ?_⟩
    simp only [evalEs] at ev
    obtain ⟨⟨d1, u1⟩, e1, ev⟩ := Option.bind_eq_some_iff.mp ev
    obtain ⟨⟨d2, u2⟩, e2, ev⟩ := Option.bind_eq_some_iff.mp ev
    cases ev
    rw [k2 _ _ _ _ _ e2, k1 _ _ _ _ _ e1]
end

/-! ### what a def that may raise promises -/
def spX (K : PySem.W.Frag) (mg : Str → Option Value) (xc : XC) (np : Nat) (fr wh : Bool) (c q : List D → U → Option (D × U)) : Sp := fun vs H Q E => ∃ ds F, Tb F H ∧ Sub F H ∧ Pl.DpAll K F vs ds ∧ ds.length = np ∧
  ((∃ d u', c ds [] = some (d, u') ∧ ∀ v F' H', Post none F H F' H' [] → Rr fr K H F' H' v d → Q v H') ∨
   (∃ s d u', q ds [] = some (xn s d, u') ∧ ∀ F' H' cls dd, Post none F H F' H' [] → XdR K mg xc F' H' s d cls dd → E cls dd H') ∨
   (wh = true ∧ ∃ u', q ds [] = some (.none, u') ∧ ∀ F' H', Post none F H F' H' [] → Q .non H'))
structure CallX (X : Cx) (xc : XC) (G : Prog) (n : Nat) (f : String) (en : Entry) (q : String) (wh : Bool) : Prop where
  ex : ∃ fa fd, X.mg (Str.ofString f) = some (.ref fa) ∧ PySem.W.keepIn X.K (.ref fa) = true ∧ Binds X.K fd en.ps [] ∧
    (∀ q ∈ en.kws, KBinds X.K fd en.ps q.2.1 (gK q.1 q.2.1.length q.2.2) (gK q.1 q.2.1.length q.2.2)) ∧ FnOk X.prog X.w X.K X.mg X.base (L2.CX X.prog X.w) (3 * n) fa fd en.ps (spX X.K X.mg xc en.fn.np en.fn.fresh wh (callU G n f) (callU G n q))
def tArgs (K : PySem.W.Frag) (C : Ctx) (au : Option Addr) (es : Es) (perm : List Nat) : L2.St → Hp → (List V → Hp → Prop) → Prop := fun σ H Q =>
  ∃ F env u ds u' ds', At K au σ H F env u (fvEs es) ∧ evalEs C es env u = some (ds, u') ∧ pick ds perm = some ds' ∧ ∀ vs F' H', Post au F H F' H' u' → Pl.DpAll K F' vs ds' → Q vs H'

section
variable {X : Cx} {c : CK} {G : Prog} {n : Nat} {au : Option Addr} {C : Ctx} {e a : Expr} {es args : List Expr} {ps : Es} {pos pos2 : Pos} {f : String} {x : Str}
theorem _root_.L2.PE.or {X : Cx} {e : Expr} {t u : TE} (h1 : PE X e t) (h2 : PE X e u) : PE X e (fun σ H Q => t σ H Q ∨ u σ H Q) := ⟨fun pins s σ H Q I h => h.elim (h1.run pins s σ H Q I) (h2.run pins s σ H Q I)⟩
theorem pe_callX0 {k : Nat} {CX : L2.CXT} {fa : Addr} {fd : FuncData} {ps ks : List Str} {sp : Sp} {kws : List Keyword} {tk : TA} {g : List Value → List Value → List Value} {gV : List V → List V → List V} {E : XK} (F : FnOk X.prog X.w X.K X.mg X.base CX k fa fd ps sp) (rm : Room k X.A) (hg : Gl X x) (hm : X.mg x = some (.ref fa)) (hk : PySem.W.keepIn X.K (.ref fa) = true) (hb : KBinds X.K fd ps ks g gV) (hx : Passes CX X E)
    (hkw : PK X kws tk) (hall : (backToKw pos (keywordEach kws X.env)).all (·.1.isSome) = true) (hks : (backToKw pos (keywordEach kws X.env)).filterMap (·.1) = ks)
    (hdb : (x == ("__debug__" : Str)) = false) (hpl : ((backTo pos (starEach [] X.env)).any (·.1) || (backToKw pos (keywordEach kws X.env)).any (·.1.isNone)) = false) :
    PE X (.Call (.Name x pos2) [] kws pos) (fun σ H Q => tk σ H fun zs H2 => sp (gV [] zs) H2 Q E) := ⟨fun pins s σ H Q I h => by
  refine wpAny_Call_Name_kw (L2.ld_glob I hg hm ?_ hdb)
  refine PySem.W.callWith_KW0 (h₀ := X.base) I.ok.mod.kin hk hall (L2.thn (hkw.run pos pins s σ H _ I h) fun ws s2 ⟨zs, H2, I2, rz, q2⟩ => ⟨I2.kIn, ?_⟩) hpl
  subst hks
  exact L2.run_fnk (us := []) F rm hb hx I2 .nil rz q2⟩
/-- a call of a def that may raise -/
theorem pe_args {xc : XC} {en : Entry} {q : String} {wh : Bool} {perm : List Nat} {kws : List Keyword} {es : Es} {E : XK} {m : Nat} (cx : CallX X xc G m f en q wh) (rm : Room (3 * m) X.A) (hg : Gl X x) (hdb : (x == ("__debug__" : Str)) = false) (hx : x = Str.ofString f) (hst : starsB args = true) (hkw : kwsB kws = true) (hps : Passes (L2.CX X.prog X.w) X E)
    (ha : ∃ p1 p2, es = esApp p1 p2 ∧ SimA X C au args p1 ∧ SimK X C au kws p2 ∧ esLen p1 = args.length ∧ esLen p2 = (kwNames kws).length) (h : callB en (esLen es) es args kws perm = true) :
    PE X (.Call (.Name x pos2) args kws pos) (fun σ H Q => tArgs X.K C au es perm σ H fun vs H1 => spX X.K X.mg xc en.fn.np en.fn.fresh wh (callU G m f) (callU G m q) vs H1 Q E) := by
  obtain ⟨p1, p2, rfl, h1, h2, l1, l2⟩ := ha
  obtain ⟨fa, fd, m1, m2, m3, m4, m5⟩ := cx.ex
  subst hx
  unfold callB at h
  simp only [Bool.and_eq_true, decide_eq_true_eq] at h
  obtain ⟨hnp, h⟩ := h
  by_cases hk : kws.isEmpty = true
  · rw [if_pos hk] at h
    simp only [Bool.and_eq_true, Bool.not_eq_true', decide_eq_true_eq] at h
    obtain ⟨⟨g1, g2⟩, g3⟩ := h
    obtain rfl : kws = [] := List.isEmpty_iff.mp hk
    cases args with
    | nil => simp at g1
    | cons a0 args =>
      obtain rfl : p2 = .nil := by
        cases p2 with
        | nil => rfl
        | cons _ _ => simp [esLen, kwNames] at l2
      have hs := hst
      simp only [starsB, List.all_cons, Bool.and_eq_true] at hs
      refine (L2.pe_call (dvs := []) m5 rm hg m1 m2 m3 .nil hps h1.t hdb (star_cons hs.1) (star_any hs.2)).imp ?_
      rintro σ H Q ⟨F, env, u, ds, u', ds', A, ev, hp, k⟩
      rw [esApp_nil] at A ev g3
      have hl : perm.length = ds.length := by rw [evalEs_len ev, g3]
      rw [g2, hl, pick_range ds ds.length 0 (by omega)] at hp
      cases hp
      exact ⟨F, env, u, ds, u', A, ev, fun vs F' H' P r => by show spX _ _ _ _ _ _ _ _ (vs ++ []) H' Q E; rw [List.append_nil]; exact k vs F' H' P r⟩
  · rw [if_neg hk] at h
    have hmem : (args.length, kwNames kws, perm) ∈ en.kws := by simpa using h
    have hb := m4 _ hmem
    cases args with
    | nil =>
      refine (pe_callX0 m5 rm hg m1 m2 hb hps h2.t (kw_all hkw) kw_names hdb (by rw [kw_any hkw]; rfl)).imp ?_
      rintro σ H Q ⟨F, env, u, ds, u', ds', A, ev, hp, k⟩
      obtain rfl : p1 = .nil := by
        cases p1 with
        | nil => rfl
        | cons _ _ => simp [esLen] at l1
      exact wpEs_len ⟨F, env, u, ds, u', A, ev, fun vs F' H' P r hl => k _ F' H' P (gK_pick (by simpa using r) hp rfl (by rw [hl, l2]))⟩
    | cons a0 args =>
      have hs := hst
      simp only [starsB, List.all_cons, Bool.and_eq_true] at hs
      refine (L2.pe_callK m5 rm hg m1 m2 hb hps h1.t h2.t (kw_all hkw) kw_names hdb (star_cons hs.1) (by rw [kw_any hkw, star_any hst]; rfl)).imp ?_
      rintro σ H Q ⟨F, env, u, ds, u', ds', A, ev, hp, k⟩
      obtain ⟨d1, u1, d2, g1, g2, rfl⟩ := evalEs_app ev
      rw [fvEs_app] at A
      refine ⟨F, env, u, d1, u1, A.l, g1, fun vs F1 H1 P1 r1 => ⟨F1, env, u1, d2, u', (A.step P1).r, g2, fun zs F2 H2 P2 r2 => ?_⟩⟩
      refine k _ F2 H2 (P1.trans P2) (gK_pick (dpAll_append (dpAll_sub ((A.step P1).subF P2) _ _ r1) r2) hp ?_ ?_)
      · rw [dpAll_len r1, evalEs_len g1, l1]
      · rw [dpAll_len r2, evalEs_len g2, l2]
/-- f(..) alone, f whole -/
theorem simX_call {xc : XC} {wh : Bool} {en : Entry} {q : String} {perm : List Nat} {kws : List Keyword} {es : Es} {ff : String → Bool} {pos3 : Pos} (hC : ∀ ds, (ctxN G n).fn q ds = (callU G n q ds []).map (·.1)) (cx : CallX X xc G n f en q true) (rm : Room (3 * n) X.A) (hg : Gl X x) (hdb : (x == ("__debug__" : Str)) = false) (hx : x = Str.ofString f) (hst : starsB args = true) (hkw : kwsB kws = true)
    (ha : ∃ p1 p2, es = esApp p1 p2 ∧ SimA X (ctxN G n) none args p1 ∧ SimK X (ctxN G n) none kws p2 ∧ esLen p1 = args.length ∧ esLen p2 = (kwNames kws).length) (h : callB en (esLen es) es args kws perm = true) (heq : eqEs es es = true) :
    SimX X (ctxN G n) ff xc wh (.Expr (.Call (.Name x pos2) args kws pos) pos3) (.ite (.cmp .isN (.call q es perm) (.lit .none)) .nil (.cons (.ret (.call q es perm)) .nil)) := ⟨fun H0 F0 W tk => by
  have hP : Passes (L2.CX X.prog X.w) X (fun cls dd H' => ∀ σ, W cls dd σ H') := L2.passes_call tk fun cls d σ H hE => hE σ
  refine (L2.ps_expr (pe_args (E := fun cls dd H' => ∀ σ, W cls dd σ H') cx rm hg hdb hx hst hkw hP ha h) rfl).imp fun D σ H ⟨F, env, u, o, R, ev, k⟩ => ?_
  have hnp : perm.length = en.fn.np := by
    unfold callB at h
    simp only [Bool.and_eq_true, decide_eq_true_eq] at h
    exact h.1
  simp only [execS, evalE, litV, Option.bind_some] at ev
  obtain ⟨⟨d0, u1⟩, e1, ev⟩ := Option.bind_eq_some_iff.mp ev
  obtain ⟨⟨d1, u2⟩, e2, e1⟩ := Option.bind_eq_some_iff.mp e1
  obtain ⟨⟨ds, u3⟩, e3, e2⟩ := Option.bind_eq_some_iff.mp e2
  obtain ⟨ds', e4, e2⟩ := Option.bind_eq_some_iff.mp e2
  obtain ⟨d2, e5, e2⟩ := Option.bind_eq_some_iff.mp e2
  cases e2
  simp only [cmpV, Option.bind_some, Option.some.injEq, Prod.mk.injEq] at e1
  obtain ⟨rfl, rfl⟩ := e1
  have hu := (eqEs_ok heq).2 _ _ _ _ _ e3
  subst hu
  have e5' := e5
  rw [hC, Option.map_eq_some_iff] at e5
  obtain ⟨⟨d3, u4⟩, e5, rfl⟩ := e5
  refine ⟨_, env, _, ds, _, ds', R.at_ (fvEs es), e3, e4, fun vs F1 H1 P1 r1 => ⟨ds', F1, P1.tab, P1.sub, r1, by rw [pick_len e4]; exact hnp, ?_⟩⟩
  simp only at ev
  by_cases hn : isNone d3 = true
  · rw [if_pos hn] at ev
    simp only [execSs, Option.some.injEq] at ev
    subst ev
    have hd : d3 = .none := by cases d3 <;> simp [isNone] at hn ⊢
    subst hd
    refine .inr (.inr ⟨rfl, u4, e5, fun F2 H2 P2 => ?_⟩)
    exact k σ H2 _ (R.keep ((P1.trans (Post.of2 P1.urn P2)).anyU _))
  · rw [if_neg hn] at ev
    simp only [execSs, execS, evalE, e3, Option.bind_some, e4, e5'] at ev
    cases ev
    rcases k with ⟨_, h⟩ | ⟨s, e', h, k⟩
    · rw [h] at hn; simp [isNone] at hn
    · subst h
      refine .inr (.inl ⟨s, e', u4, e5, fun F2 H2 cls dd P2 x2 σ' => ?_⟩)
      exact k σ' F2 H2 cls dd (R.ret (bb := false) (v := .non) (d := .none) ((P1.trans (Post.of2 P1.urn P2)).anyU _) Pl.Dp.non).1 x2⟩
end

/-! ### the checker -/
mutual
def chkX : CK → (String → Option XEnt) → XC → Bool → S → Stmt → Bool
  | c, xs, xc, wh, .ite t a b, st => (match st with
    | .If t' a' b' _ => chkE c t t' && chkXs c xs xc wh a a' && chkXs c xs xc wh b b'
    | .Expr (.Call (.Name x _) args kws _) _ => (match t, a, b with
      | .cmp .isN (.call q es perm) (.lit .none), .nil, .cons (.ret (.call q2 es2 perm2)) .nil => decide (q2 = q) && eqEs es es2 && decide (perm2 = perm) && eqEs es es && (match xs q with
        | some xe => xe.whole && c.gl x && decide (x = Str.ofString xe.real) && starsB args && kwsB kws && chkA c es args kws && (match c.T xe.real with
          | some en => callB en (esLen es) es args kws perm
          | none => false)
        | none => false)
      | _, _, _ => false)
    | _ => false)
  | c, xs, xc, wh, .for_ t it b, st => (match st with | .For tg iter b' [] _ => chkI c it tg iter && notSet iter && chkG c t tg && chkXs c xs xc wh b b' | _ => false)
  | c, xs, xc, wh, .ret p, st => (match st with
    | .Raise (some (.Call (.Name x _) [e] [] _)) none _ => (match p with
      | .tup (.cons (.lit (.str y)) (.cons pe .nil)) => decide (y = x) && c.gl x && (match xc.lookup x with | some (some _) => true | _ => false) && notStar e && chkE c pe e
      | _ => false)
    | .Return _ _ => !wh && neverB p
    | _ => false)
  | c, xs, xc, wh, s, st => noRt s && chkS c false s st
def chkXs : CK → (String → Option XEnt) → XC → Bool → Ss → List Stmt → Bool
  | _, _, _, _, .nil, l => l.isEmpty
  | c, xs, xc, wh, .cons s ss, l => match l with | st :: sts => chkX c xs xc wh s st && chkXs c xs xc wh ss sts | [] => false
end
structure OkxX (X : Cx) (c : CK) (G : Prog) (n : Nat) (xs : String → Option XEnt) (xc : XC) : Prop where
  ok : Okx X c G n none
  xf : ∀ q xe en, xs q = some xe → c.T xe.real = some en → CallX X xc G n xe.real en q xe.whole
  xq : ∀ q xe, xs q = some xe → ∀ ds, (ctxN G n).fn q ds = (callU G n q ds []).map (·.1)
  ex : ∀ x f, xc.lookup x = some (some f) → ∃ C, ExcI X.prog X.w X.K X.mg X.base x C f
mutual
theorem okX {X : Cx} {c : CK} {G : Prog} {n : Nat} {xs : String → Option XEnt} {xc : XC} (o : OkxX X c G n xs xc) {wh : Bool} : ∀ (s : S) (st : Stmt), chkX c xs xc wh s st = true → SimX X (ctxN G n) G.ff xc wh st s
  | .ite t a b, st, h => by
    unfold chkX at h
    split at h <;> first | contradiction | skip
    · simp only [Bool.and_eq_true] at h
      exact simX_ite (okE o.ok t _ h.1.1).t (okXs o a _ h.1.2) (okXs o b _ h.2)
    · split at h <;> first | contradiction | skip
      simp only [Bool.and_eq_true, decide_eq_true_eq] at h
      obtain ⟨⟨⟨⟨rfl, h1⟩, rfl⟩, h2⟩, h⟩ := h
      obtain ⟨rfl, _⟩ := eqEs_ok h1
      split at h <;> first | contradiction | skip
      rename_i xe hxe
      simp only [Bool.and_eq_true, decide_eq_true_eq] at h
      obtain ⟨⟨⟨⟨⟨⟨k0, k1⟩, k2⟩, k3⟩, k4⟩, k5⟩, h⟩ := h
      split at h <;> first | contradiction | skip
      rename_i en hT
      obtain ⟨g1, g2⟩ := o.ok.gl k1
      have cx := o.xf _ xe en hxe hT
      rw [k0] at cx
      exact simX_call (o.xq _ xe hxe) cx (o.ok.rg.rm.mono (by omega)) g1 g2 k2 k3 k4 (okA o.ok _ _ _ k3 k4 k5) h h2
  | .for_ t it b, st, h => by
    unfold chkX at h
    split at h <;> first | contradiction | skip
    simp only [Bool.and_eq_true] at h
    obtain ⟨⟨⟨h1, h2⟩, h3⟩, h4⟩ := h
    obtain ⟨g1, g2⟩ := chkG_ok o.ok h3
    exact simX_for o.ok.own o.ok.calm (okI o.ok it _ _ h1) g1 (okXs o b _ h4) fun x => folded_no h2
  | .ret p, st, h => by
    unfold chkX at h
    split at h <;> first | contradiction | skip
    · split at h <;> first | contradiction | skip
      simp only [Bool.and_eq_true, decide_eq_true_eq] at h
      obtain ⟨⟨⟨⟨rfl, h1⟩, h2⟩, h3⟩, h4⟩ := h
      obtain ⟨g1, g2⟩ := o.ok.gl h1
      split at h2 <;> first | contradiction | skip
      rename_i f hl
      obtain ⟨C, hx⟩ := o.ex _ f hl
      exact simX_raise o.ok.calm (o.ok.rg.rm.mono (by omega)) hx hl (okE o.ok _ _ h4).s g1 g2 h3
    · simp only [Bool.and_eq_true, Bool.not_eq_true'] at h
      obtain ⟨rfl, h⟩ := h
      unfold neverB at h
      split at h <;> first | contradiction | skip
      exact simX_ret0
  | .set i p, st, h => by unfold chkX at h; simp only [Bool.and_eq_true] at h; exact simX_plain (okS o.ok _ _ h.2) h.1
  | .set2 i j p, st, h => by unfold chkX at h; simp only [Bool.and_eq_true] at h; exact simX_plain (okS o.ok _ _ h.2) h.1
  | .par is es, st, h => by unfold chkX at h; simp only [Bool.and_eq_true] at h; exact simX_plain (okS o.ok _ _ h.2) h.1
  | .unp us p, st, h => by unfold chkX at h; simp only [Bool.and_eq_true] at h; exact simX_plain (okS o.ok _ _ h.2) h.1
  | .setI i k p, st, h => by unfold chkX at h; simp only [Bool.and_eq_true] at h; exact simX_plain (okS o.ok _ _ h.2) h.1
  | .setU k p, st, h => by unfold chkX at h; simp only [Bool.and_eq_true] at h; exact simX_plain (okS o.ok _ _ h.2) h.1
  | .app i p, st, h => by unfold chkX at h; simp only [Bool.and_eq_true] at h; exact simX_plain (okS o.ok _ _ h.2) h.1
  | .pop i, st, h => by unfold chkX at h; simp only [Bool.and_eq_true] at h; exact simX_plain (okS o.ok _ _ h.2) h.1
  | .ins i k p, st, h => by unfold chkX at h; simp only [Bool.and_eq_true] at h; exact simX_plain (okS o.ok _ _ h.2) h.1
  | .drop p, st, h => by unfold chkX at h; simp only [Bool.and_eq_true] at h; exact simX_plain (okS o.ok _ _ h.2) h.1
  | .brk, st, h => by unfold chkX at h; simp only [Bool.and_eq_true] at h; exact simX_plain (okS o.ok _ _ h.2) h.1
  | .cont, st, h => by unfold chkX at h; simp only [Bool.and_eq_true] at h; exact simX_plain (okS o.ok _ _ h.2) h.1
  | .pass, st, h => by unfold chkX at h; simp only [Bool.and_eq_true] at h; exact simX_plain (okS o.ok _ _ h.2) h.1
  | .whil t b, st, h => by unfold chkX at h; simp [noRt] at h
  | .retF p, st, h => by unfold chkX at h; simp [noRt] at h
  | .raise, st, h => by unfold chkX at h; simp [noRt] at h
theorem okXs {X : Cx} {c : CK} {G : Prog} {n : Nat} {xs : String → Option XEnt} {xc : XC} (o : OkxX X c G n xs xc) {wh : Bool} : ∀ (s : Ss) (st : List Stmt), chkXs c xs xc wh s st = true → SimXs X (ctxN G n) G.ff xc wh st s
  | .nil, st, h => by
    unfold chkXs at h
    obtain rfl := List.isEmpty_iff.mp h
    exact simXs_nil
  | .cons s ss, st, h => by
    unfold chkXs at h
    split at h <;> first | contradiction | skip
    simp only [Bool.and_eq_true] at h
    exact simXs_cons (okX o s _ h.1) (okXs o ss _ h.2)
end

/-! ### a def that may raise -/
theorem fnX_body {P : Program} {w : World} {K : PySem.W.Frag} {mg : Str → Option Value} {bas : Heap} {k : Nat} {f : Addr} {fd : FuncData} {ps : List Str} {x qual : Str} {st : Stmt} {N : List Str} {C : Ctx} {ff : String → Bool} {xc : XC} {p q : PFun} {wh : Bool}
    (hf : Fun K x qual st f fd) (S : FnScope N ps (L2.defScope st)) (hps : ps.length = p.np) (hN : N.length = p.ns) (hu : p.urn = false) (hq : q.np = p.np) (hqs : q.ns = p.ns) (hqu : q.urn = false) (hqf : q.fresh = false)
    (sim : ∀ (cdv : Value) (A : Around) (outer : List PySem.Env) (s : Shared) (H : Hp) (E : XK), Room k (A.deeper (envOfC qual (L2.defScope st) s.heap.objs.size f cdv)) →
      SimSs (L2.cxOf (L2.CX P w) P w K mg bas N qual (L2.defScope st) f cdv A outer s H E) C ff none p.fresh (L2.defBody st) p.body ∧
      SimXs (L2.cxOf (L2.CX P w) P w K mg bas N qual (L2.defScope st) f cdv A outer s H E) C ff xc wh (L2.defBody st) q.body) :
    FnOk P w K mg bas (L2.CX P w) (k + 1) f fd ps (spX K mg xc p.np p.fresh wh (runF C ff p) (runF C ff q)) := by
  refine L2.Fun.okX hf S (fun vs H Q E h => ?_) fun cdv A outer s H vs Q E hr h => ?_
  · obtain ⟨ds, F, _, _, h1, h2, _⟩ := h
    rw [dpAll_len h1, h2, hps]
  · obtain ⟨ds, F, ht, h3, h6, h7, h⟩ := h
    obtain ⟨s1, s2⟩ := sim cdv A outer s H E hr
    have h7' : ds.length + (if p.urn then 1 else 0) = p.np := by rw [hu]; exact h7
    have h7q : ds.length + (if q.urn then 1 else 0) = q.np := by rw [hqu, hq]; exact h7
    have stp : StR K none H F (L2.start N vs) H F (mkEnv p ds) [] := start_ok (au := none) hu.symm ht h3 UrnR.no h6 h7' hN
    have stq : StR K none H F (L2.start N vs) H F (mkEnv q ds) [] := start_ok (au := none) hqu.symm ht h3 UrnR.no h6 h7q (hN.trans hqs.symm)
    rcases h with ⟨d, u', h8, h9⟩ | ⟨sn, d, u', h8, h9⟩ | ⟨hw, u', h8, h9⟩
    · refine ⟨_, s1.t H F, F, mkEnv p ds, [], ?_⟩
      unfold runF at h8
      rw [if_pos h7'] at h8
      split at h8 <;> first | contradiction | skip
      · rename_i d1 u1 e
        cases h8
        exact ⟨_, stp, e, fun v F' H' r => h9 v F' H' (r.1.anyU []) r.2⟩
      · rename_i env1 u1 e
        split at h8 <;> first | contradiction | skip
        rename_i hfr
        cases h8
        refine ⟨_, stp, e, fun σ' H' F' R' => h9 _ F' H' ⟨R'.ext, R'.sub, UrnR.no, R'.tab⟩ ?_⟩
        have hf' : p.fresh = false := by simpa using hfr
        rw [hf']
        exact Pl.Dp.non
    · have tk : Takes (L2.cxOf (L2.CX P w) P w K mg bas N qual (L2.defScope st) f cdv A outer s H E) (fun cls dd _ H' => E cls dd H') := L2.takes_of rfl rfl rfl rfl
      refine ⟨_, s2.t H F _ tk, F, mkEnv q ds, [], ?_⟩
      unfold runF at h8
      rw [if_pos h7q] at h8
      split at h8 <;> first | contradiction | skip
      · rename_i d1 u1 e
        cases h8
        exact ⟨_, stq, e, .inr ⟨sn, d, rfl, fun σ F' H' cls dd P' x' => h9 F' H' cls dd (P'.anyU []) x'⟩⟩
      · split at h8 <;> first | contradiction | skip
        cases h8
    · have tk : Takes (L2.cxOf (L2.CX P w) P w K mg bas N qual (L2.defScope st) f cdv A outer s H E) (fun cls dd _ H' => E cls dd H') := L2.takes_of rfl rfl rfl rfl
      refine ⟨_, s2.t H F _ tk, F, mkEnv q ds, [], ?_⟩
      unfold runF at h8
      rw [if_pos h7q] at h8
      split at h8 <;> first | contradiction | skip
      · rename_i d1 u1 e
        cases h8
        exact ⟨_, stq, e, .inl ⟨hw, rfl⟩⟩
      · rename_i env1 u1 e
        split at h8 <;> first | contradiction | skip
        cases h8
        exact ⟨_, stq, e, fun σ' H' F' R' => h9 F' H' ⟨R'.ext, R'.sub, UrnR.no, R'.tab⟩⟩
end Pl

set_option maxHeartbeats 400000
/-! PX3: a lambda made and handed on, with all that is known of the tables; several named clauses. -/
namespace Pl
open PySem PyProof.Rows
open L2 (V Hp HO VK XK WX TE TT TA TS TG TGs Cx PE PT PW PA PS PSs PG PGs PI PK PMk Inv SqL SqT DpAll Vals RelV EP Gl Vis Ends Sp FnScope Env0 CE CR CX0 Room Fun Binds KBinds FnOk Passes Takes upd upd_same upd_ne del exo exd)

/-- a table has grown by a new code object, or nothing has happened -/
def GrT (H H1 : Hp) : Prop := H1 = H ∨ ∃ (P c : Addr) (q : Str) (ps more : Array Value), H P = some (.tbl ps) ∧ H c = none ∧ H1 = upd (upd H P (.tbl (ps ++ more))) c (LamX.CodeO c q)
section
variable {X : Cx} {pins : List (Addr × Obj)} {σ : L2.St} {H : Hp} {s : Shared}
theorem lam_make3 {T : List (Addr × Str)} {cd P : Addr} {prm : Arguments} {bd : Expr} {sc : Scope} {pos : Pos} {E : Value → Shared → Prop} {Q : Value → Shared → Prop} (I : Inv X pins σ H s) (TB : LamX.TabB X.base X.mg cd P) (hcode : X.env.code = .ref cd)
    (hm : (P, X.env.qual ++ "<lambda>") ∈ T) (one : ∀ p ∈ T, p.1 = P → p.2 = X.env.qual ++ "<lambda>") (tabs : LamX.Tabs T H) (hdef : defaultsOf prm X.env = ([], [])) (hfree : ∀ y ∈ sc.names, y.2 = .free → ∃ c, X.env.cells.lookup y.1 = some c)
    (k : ∀ (f cn : Addr) (pm ctv : Value) (H1 : Hp) (s1 : Shared), Inv X pins σ H1 s1 → GrT H H1 → LamX.Tabs T H1 →
      s1.heap.get? f = some (PySem.W.kla_obj "<lambda>" (X.env.qual ++ "<lambda>") prm bd sc (L2.cloFrom X.env.cells sc.names []) pm cn ctv) → H1 f = none → f ∉ L2.frs X.stack → H1 cn = some (LamX.CodeO cn (X.env.qual ++ "<lambda>")) → Q (.ref f) s1) :
    wpAny (model X.prog X.w) X.A (eval (.Lambda prm bd sc pos) X.env) Q E s := by
  obtain ⟨ps, atP, tri, codes⟩ := tabs _ hm
  have cb : s.heap.BuiltinsAt X.mg P := TB.bm.keeps I.bk
  have oP : s.heap.get? P = some { cls := .none, data := .fields ps } := I.hok P _ atP
  have away : ∀ f, s.heap.objs.size ≤ f → f ∉ L2.frs X.stack := fun f hf m => by
    rcases List.mem_cons.mp (I.stkSub _ m) with e | e
    · have lt := I.lt
      rw [← e] at lt
      exact absurd (Nat.lt_of_lt_of_le lt hf) (Nat.lt_irrefl _)
    · exact I.nofs hf e
  refine PySem.W.kla_eval hdef ?_
  cases q : codeAmong pos ps.toList with
  | some cv =>
    obtain ⟨cn, e, isC⟩ := codes pos cv q
    subst e
    refine PySem.W.kla_makeFunctionHit (mg := X.mg) (c := cd) (P := P) (ps := ps) (L2.closure_ok hfree) I.ok.glob (I.mod.glob.keeps I.bk) hcode (TB.code.keeps I.bk) oP tri q cb fun ctv hh tk keep big => ?_
    have J : Inv X pins σ H { s with heap := hh.push (PySem.W.kla_obj "<lambda>" (X.env.qual ++ "<lambda>") prm bd sc (L2.cloFrom X.env.cells sc.names []) ((X.mg "__name__").getD .none) cn ctv), toks := tk } := I.kept fun b o z => Heap.get?_push_of_some _ (keep b o z)
    exact k hh.objs.size cn _ ctv H _ J (.inl rfl) tabs (Heap.get?_push_size _ rfl) (I.hok.fresh big) (away _ big) isC
  | none =>
    refine PySem.W.kla_makeFunction (mg := X.mg) (c := cd) (P := P) (ps := ps) (L2.closure_ok hfree) I.ok.glob (I.mod.glob.keeps I.bk) hcode (TB.code.keeps I.bk) oP tri q TB.gP cb fun cn ctv hh tk keep ge lt rec_ now => ?_
    obtain ⟨c2, oc, vs, t, ec, hoc, hd, hv⟩ := rec_
    cases ec
    have big : s.heap.objs.size ≤ hh.objs.size := Nat.le_trans ge (Nat.le_of_lt lt)
    have newC : H cn = none := I.hok.fresh ge
    have J := LamX.inv_table (t' := tk) (more := #[rawInt pos.line, rawInt pos.col, .ref cn]) (h' := hh.push (PySem.W.kla_obj "<lambda>" (X.env.qual ++ "<lambda>") prm bd sc (L2.cloFrom X.env.cells sc.names []) ((X.mg "__name__").getD .none) cn ctv)) I atP
      (fun b o nb z => Heap.get?_push_of_some _ (keep b o nb z)) (Heap.get?_push_of_some _ now) ge ⟨oc, vs, t, Heap.get?_push_of_some _ hoc, hd, hv⟩
    have kc : ∀ b q, H b = some (LamX.CodeO b q) → upd (upd H P (.tbl (ps ++ #[rawInt pos.line, rawInt pos.col, .ref cn]))) cn (LamX.CodeO cn (X.env.qual ++ "<lambda>")) b = some (LamX.CodeO b q) := fun b q z => by
      rw [upd_ne (L2.ne_of_none z newC), upd_ne fun w => ?_]
      · exact z
      · rw [w, atP] at z
        have := Option.some.inj z
        unfold LamX.CodeO at this
        cases this
    have grown : (ps ++ #[rawInt pos.line, rawInt pos.col, Value.ref cn]).toList = ps.toList ++ [rawInt pos.line, rawInt pos.col, .ref cn] := by simp
    refine k hh.objs.size cn _ ctv _ _ J (.inr ⟨P, cn, _, ps, _, atP, newC, rfl⟩) (fun p hp => ?_) (Heap.get?_push_size _ rfl) ?_ (away _ big) upd_same
    · by_cases e : p.1 = P
      · rw [one p hp e, e]
        refine ⟨_, by rw [upd_ne (L2.ne_of_none atP newC), upd_same], by rw [grown]; exact PySem.TriplesOk_snoc _ _ _ _ tri, fun pos2 cv z => ?_⟩
        rw [grown] at z
        rcases LamX.among_app _ tri z with z | z
        · obtain ⟨c0, e1, e2⟩ := codes pos2 cv z
          exact ⟨c0, e1, kc _ _ e2⟩
        · exact ⟨cn, z, upd_same⟩
      · obtain ⟨qs, a1, a2, a3⟩ := tabs p hp
        refine ⟨qs, by rw [upd_ne (L2.ne_of_none a1 newC), upd_ne e]; exact a1, a2, fun pos2 cv z => ?_⟩
        obtain ⟨c0, e1, e2⟩ := a3 pos2 cv z
        exact ⟨c0, e1, kc _ _ e2⟩
    · have n1 : hh.objs.size ≠ cn := Nat.ne_of_gt lt
      have n2 : hh.objs.size ≠ P := Nat.ne_of_gt (Nat.lt_of_lt_of_le (Heap.lt_size oP) big)
      rw [upd_ne n1, upd_ne n2]
      exact I.hok.fresh big
def tLam3 (T : List (Addr × Str)) (TT : (XK → Hp → VK → Prop) → Hp → VK → Prop) (t : XK → TE) : TE := fun σ H Q => LamX.Tabs T H ∧ ∀ H1, GrT H H1 → LamX.Tabs T H1 → TT (fun E H' Q' => t E σ H' Q') H1 Q
/-- x(lambda: body) -/
theorem pe_lam3 {T : List (Addr × Str)} {TT : (XK → Hp → VK → Prop) → Hp → VK → Prop} {x a : Str} {g c P : Addr} {k : Nat} {pg : Arguments} {bg : List Stmt} {sg : Scope} {dV kV doc pm cdv ct oc : Value} {an od : Option Addr} {osl : Array (Option Value)} {Ng : List Str}
    {prm : Arguments} {bd : Expr} {sc : Scope} {t : XK → TE} {p lpos pos : Pos} (hg : Gl X x) (hm : X.mg x = some (.ref g)) (hk : PySem.W.keepIn X.K (.ref g) = true)
    (lk : X.K.lookup g = some ⟨oc, od, .func (PySem.W.fnOf x x pg bg sg dV kV doc pm an cdv ct), osl⟩) (hcg : PySem.W.codeIn X.K cdv x = true) (hb : L2.Binds X.K (PySem.W.fnOf x x pg bg sg dV kV doc pm an cdv ct) [a] []) (Sg : FnScope Ng [a] sg) (hNg : Ng[0]? = some a) (hva : Vis sg a)
    (hG : LamX.GivesTo X Ng x sg g cdv bg a (X.env.qual ++ "<lambda>") TT) (TB : LamX.TabB X.base X.mg c P) (hcode : X.env.code = .ref c) (hmT : (P, X.env.qual ++ "<lambda>") ∈ T) (one : ∀ p ∈ T, p.1 = P → p.2 = X.env.qual ++ "<lambda>") (hr : Room (k + 2) X.A) (L : LamX.LamS X.env.scope sc) (hdef : defaultsOf prm X.env = ([], []))
    (hbind : ∀ (q : Str) (cl : List (Str × Addr)) (pm cv ctv : Value), bindArgs (PySem.W.kla_fn "<lambda>" q prm bd sc cl pm cv ctv) ⟨[], []⟩ = pure [])
    (hbody : ∀ (A : Around) (outer : List PySem.Env) (s : Shared) (H : Hp) (E : XK) (f c' : Addr), Room k (A.deeper (LamX.lamEnv X sc s.heap.objs.size f c')) → PE (LamX.lamCx X A outer s H E sc f c') bd (t E))
    (hdb : (x == ("__debug__" : Str)) = false) (hd : (a == ("__debug__" : Str)) = false) (hcd : (a == ("__classdict__" : Str)) = false) :
    PE X (.Call (.Name x p) [.Lambda prm bd sc lpos] [] pos) (tLam3 T TT t) := ⟨fun pins s σ H Q I ⟨tabs, h⟩ => by
  refine wpAny_Call_Name_kw (L2.ld_glob I hg hm ?_ hdb)
  refine PySem.W.callWith_K (h₀ := X.base) I.ok.mod.kin hk ?_ rfl rfl
  show wpAny _ _ (spliced ((false, eval (.Lambda prm bd sc lpos) X.env) :: backTo pos (starEach [] X.env))) _ _ s
  refine Calls.spliced_cons (lam_make3 I TB hcode hmT one tabs hdef (L.has I.ok) fun f cn pm2 ctv H1 s1 I1 gr T1 hf noF away isC => Calls.spliced_nil ⟨I1.kIn, ?_⟩)
  have run : codeAny (model X.prog X.w) X.A (.call (.ref g) ⟨[.ref f], []⟩) (CR L2.CX0 X.stack X.prog X.w H1 s1 Q L2.E0) s1 := by
    refine LamX.run_ofS (N := Ng) (ps := [a]) (us := [.ref f]) (vs := [.ref f]) lk hcg Sg hr I1.env0 (hb s1 [.ref f] I1.kIn rfl) (.cons rfl .nil) rfl fun hr2 => ?_
    obtain ⟨t2, h2, q2⟩ := hG f cn s1 H1 Q (fun E H' Q' => t E σ H' Q') (fun W pn xe E p1 p2 tk hW => LamX.pe_act (i := 0) I1 L hf noF away (hbind _ _ _ _ _) tk hW hr2 (fun A outer s H hr3 => hbody A outer s H E f cn hr3) hNg hva hd hcd) isC (h H1 gr T1)
    exact ⟨t2, h2.nox, q2⟩
  refine wpAny_call (codeAny_mono run fun r s2 hq => ?_)
  match r, hq with
  | .ok (.ret u), hq => exact I1.after hq⟩
end

/-! ### several except clauses that note the exception -/
/-- what the clauses wish -/
def wAll (K : PySem.W.Frag) (i : Nat) (Wout : WX) (D : Ends) : List (Value × (Addr → Value → Option Addr → TS)) → WX
  | [] => Wout
  | (c, ts) :: r => fun cls d σ H => ∃ b, PySem.W.exmOne K cls c = some b ∧
      (b = true → ∀ a, H a = none → ts a cls d { nx := fun σ' H' => D.nx (σ'.set i none) H', rt := D.rt, bk := fun σ' H' => D.bk (σ'.set i none) H', ct := fun σ' H' => D.ct (σ'.set i none) H' } (σ.set i (some (.ref a))) H) ∧ (b = false → wAll K i Wout D r cls d σ H)
inductive Hds (X : Cx) (n : Str) : List ExceptHandler → List (Value × (Addr → Value → Option Addr → TS)) → Prop
  | nil : Hds X n [] []
  | cons {x : Str} {c : Value} {ts : Addr → Value → Option Addr → TS} {st : Stmt} {sts : List Stmt} {p1 p2 : Pos} {hs : List ExceptHandler} {l : List (Value × (Addr → Value → Option Addr → TS))} (names : L2.Names X x c)
      (suite : ∀ (a : Addr) (oe : Obj) (cls : Value) (d : Option Addr) (pn : List (Addr × Obj)), L2.Zc cls d oe → (∃ vs, oe.data = .fields vs) → PSs (X.suite a ((a, oe) :: pn)) (st :: sts) (ts a cls d)) (rest : Hds X n hs l) :
      Hds X n (.ExceptHandler (some (.Name x p1)) (some n) (st :: sts) p2 :: hs) ((c, ts) :: l)
section
variable {X : Cx} {n : Str} {i : Nat} {body : List Stmt} {h₀ : ExceptHandler} {hds : List ExceptHandler} {l : List (Value × (Addr → Value → Option Addr → TS))} {pos : Pos} {tb : WX → TS} {Wout : WX}
theorem ps_try_all (stk : X.stack = X.env :: X.outer) (fr : X.env.frame = some X.env.locals) (nd : X.N.Nodup) (hi : X.N[i]? = some n) (loc : X.env.kindOf n = some .local) (tk : Takes X Wout)
    (hb : ∀ (W : WX) (pn : List (Addr × Obj)) (xe : Value → Shared → Prop), Takes (X.tr pn xe) W → PassesOwn (model X.prog X.w) X.A X.env xe → PSs (X.tr pn xe) body (tb W)) (hh : Hds X n (h₀ :: hds) l) :
    PS X (.Try body (h₀ :: hds) [] [] pos) (fun D σ H => tb (wAll X.K i Wout D l) D σ H) := ⟨fun pins s σ H D I h => by
  have okI := I.ok
  have frames : X.A.frames = some (X.env :: X.outer) := by rw [okI.frames, stk]
  refine wpAny_Try_except (wpAny_mono ((hb (wAll X.K i Wout D l) (X.pn ++ pins) (fun e s₁ => wpAny (model X.prog X.w) X.A (noteFrame e X.env) (fun _ s₂ => wpAny (model X.prog X.w) X.A (setFlight e none) (fun _ s₃ =>
    wpAny (model X.prog X.w) X.A (handleBy e X.env (h₀ :: hds)) (L2.SP X pins D) X.xe s₃) X.xe s₂) X.xe s₁) (fun u t xx => ?_) PassesOwn.looking).run [] s σ H D (I.toTry _) h) (fun f t hsp => ?_) fun e t he => he)
  · obtain ⟨a, B, sI, pins2, σ2, H2, cls, d, rfl, J0, nb, up, sky, na, os, ag, w⟩ := xx
    have J : Inv X pins σ2 H2 sI := J0.ofTry okI
    show wpAny (model X.prog X.w) X.A (noteFrame (.ref a) X.env) _ _ _
    refine L2.Sky.land L2.Zc.steady frames fr (by rw [← stk]; exact sky) fun hL flL upL => ?_
    have JL : Inv X pins σ2 H2 { t with heap := hL } := J.landed nb flL.1 (up.trans upL) os ag
    obtain ⟨oe, vs, he, hz, hd⟩ := flL.there
    have offStack : a ∉ L2.frs (X.env :: X.outer) := fun hm => by
      obtain ⟨_, o2, e2, hnf⟩ := flL.2.2.1.mem hm
      rw [he] at e2
      cases e2
      exact hnf _ hd
    have nLoc : a ≠ X.env.locals := fun z => offStack (List.mem_filterMap.mpr ⟨X.env, List.mem_cons_self, by rw [fr, z]⟩)
    have nFs : a ∉ X.fs := fun hm => by
      obtain ⟨e, me, q⟩ := List.mem_filterMap.mp hm
      exact offStack (List.mem_filterMap.mpr ⟨e, List.mem_cons_of_mem _ me, q⟩)
    have SL := JL.suite he hd na nLoc nFs
    have turn : ∀ {hs : List ExceptHandler} {m : List (Value × (Addr → Value → Option Addr → TS))}, Hds X n hs m → wAll X.K i Wout D m cls d σ2 H2 → wpAny (model X.prog X.w) X.A (handleBy (.ref a) X.env hs) (L2.SP X pins D) X.xe { t with heap := hL } := by
      intro hs m hk
      induction hk with
      | nil =>
        intro w
        refine wpAny_handleBy_nil ?_
        obtain ⟨_, _, _, oe2, vs2, T, oT, ts2, he2, hz2, hd2, h1, hr2⟩ := id flL
        unfold PySem.passOn
        refine wpAny_bind (wpAny_field he2 hd2 h1 ?_)
        rw [if_neg (show ¬ ((Value.ref T == Value.none) = true) by simp)]
        have fin : wpAny (model X.prog X.w) X.A (setFlight (.ref a) X.env.frame) (fun _ s4 => wpAny (model X.prog X.w) X.A (throw (.ref a) : Sem Flow) (L2.SP X pins D) X.xe s4) X.xe { t with heap := hL } := by
          rw [fr]
          exact HandSPX.setFlight_upZ flL fun hM hhM upM => wpAny_throw (tk _ _ ⟨a, B, sI, pins, σ2, H2, cls, d, rfl, J, nb, (up.trans upL).trans upM, .inr (.inr (by rw [stk]; exact hhM)), na, os, ag, w⟩)
        first
          | exact wpAny_bind (wpAny_pure (wpAny_bind fin))
          | exact wpAny_bind fin
      | @cons x c ts st sts p1 p2 hs m names suite rest ih =>
        intro w
        obtain ⟨b, fits, yes, no⟩ := w
        refine wpAny_handleBy_cons (codeAny_handlers_test ?_) (by intro q; cases q)
        have LT : PySem.W.Looks (model X.prog X.w) hL (typeOf (.ref a)) cls := fun A Q E s k q => wpAny_typeOf_ref (k _ _ he) (by rw [hz.1]; exact q)
        have look := PySem.W.exm_one (M := model X.prog X.w) (JL.kIn) LT fits
        have test : ∀ {Q : Value → Shared → Prop} {E : Value → Shared → Prop}, Q c { t with heap := hL } → wpAny (model X.prog X.w) (X.A.mark (some (.ref a))) (eval (.Name x p1) X.env) Q E { t with heap := hL } := fun {Q E} q => by
          obtain ⟨gl, db, hm | ⟨hm, hv, hnn⟩⟩ := names
          · exact L2.ld_glob (X := X.suite a ((a, oe) :: (X.pn ++ pins))) SL gl hm q db
          · exact L2.ld_blt (X := X.suite a ((a, oe) :: (X.pn ++ pins))) SL gl hm hv q hnn db
        refine test (look.here ?_)
        cases b with
        | false => exact ih (no rfl)
        | true =>
          refine codeAny_handlers_suite_as (HandSPX.lands_againZ flL fun hM flM upM => ?_)
          have JM : Inv X pins σ2 H2 { t with heap := hM } := J.landed nb flM.1 ((up.trans upL).trans upM) os ag
          obtain ⟨oe4, vs4, he4, hz4, hd4⟩ := flM.there
          refine L2.store_ok (X := X.suite a ((a, oe4) :: (X.pn ++ pins))) (v := .ref a) (JM.suite he4 hd4 na nLoc nFs) nd hi (.inl loc) rfl (fun s5 S5 => ?_) (.inr loc)
          refine wpAny_mono ((suite a oe4 cls d (X.pn ++ pins) hz4 ⟨_, hd4⟩).run [] s5 _ H2 _ S5 (yes rfl a na)) (fun f s6 hsp => ?_) fun _ _ z => False.elim z
          have fin : ∀ {σ6 : L2.St} {H6 : Hp} {Q : Shared → Prop}, Inv (X.suite a ((a, oe4) :: (X.pn ++ pins))) [] σ6 H6 s6 → (∀ s7, Inv X pins (σ6.set i none) H6 s7 → Q s7) →
              wpAny (model X.prog X.w) X.A (do bindName X.env n .none; unbindBehindTheSuite X.env n p2) (fun _ s7 => Q s7) X.xe s6 := fun {σ6 H6 Q} S6 hq => L2.gone_ok (S6.unsuite okI) nd hi loc hq
          cases f with
          | ret u =>
            obtain ⟨v6, σ6, H6, S6, r6, q6⟩ := hsp
            exact fin S6 fun s7 J7 => ⟨_, _, _, J7, r6, q6⟩
          | next =>
            obtain ⟨σ6, H6, S6, q6⟩ := hsp
            exact fin S6 fun s7 J7 => ⟨_, _, J7, q6⟩
          | brk =>
            obtain ⟨σ6, H6, S6, q6⟩ := hsp
            exact fin S6 fun s7 J7 => ⟨_, _, J7, q6⟩
          | cont =>
            obtain ⟨σ6, H6, S6, q6⟩ := hsp
            exact fin S6 fun s7 J7 => ⟨_, _, J7, q6⟩
    exact turn hh w
  · cases f with
    | ret u =>
      obtain ⟨v, σ2, H2, J2, r, q⟩ := hsp
      exact ⟨v, σ2, H2, J2.ofTry okI, r, q⟩
    | next =>
      obtain ⟨σ2, H2, J2, q⟩ := hsp
      exact wpAny_execs_nil ⟨σ2, H2, J2.ofTry okI, q⟩
    | brk =>
      obtain ⟨σ2, H2, J2, q⟩ := hsp
      exact ⟨σ2, H2, J2.ofTry okI, q⟩
    | cont =>
      obtain ⟨σ2, H2, J2, q⟩ := hsp
      exact ⟨σ2, H2, J2.ofTry okI, q⟩⟩
end
end Pl

set_option maxHeartbeats 400000
/-! PX4: a def that calls what it gets and tells what is raised: words by classes. -/
namespace Pl
open PySem PyProof.Rows
open L2 (V Hp HO VK XK WX TE TT TA TS TG TGs Cx PE PT PW PA PS PSs PG PGs PI PK PMk Inv SqL SqT DpAll Vals RelV EP Gl Vis Ends Sp FnScope Env0 CE CR CX0 Room Fun Binds KBinds FnOk Passes Takes upd upd_same upd_ne del exo exd)
variable [Tabl]

section
variable {C : Ctx} {ff : String → Bool}
theorem varEs_ev {env : Env} {u : U} : ∀ {n i : Nat} {ds : List D}, ds.length = n → (∀ j, j < n → getV env (i + j) = ds[j]?) → evalEs C (varEs i n) env u = some (ds, u)
  | 0, i, ds, hl, h => by
    obtain rfl : ds = [] := List.length_eq_zero_iff.mp hl
    rfl
  | n + 1, i, [], hl, h => by simp at hl
  | n + 1, i, d :: ds, hl, h => by
    have h0 := h 0 (by omega)
    simp only [Nat.add_zero, List.getElem?_cons_zero] at h0
    have ih := varEs_ev (env := env) (u := u) (n := n) (i := i + 1) (ds := ds) (by simpa using hl) fun j hj => by
      have := h (j + 1) (by omega)
      rw [List.getElem?_cons_succ] at this
      rw [← this]; congr 1; omega
    simp only [varEs, evalEs, evalE, h0, Option.bind_some, ih]
theorem mk_get {f fq : String} {np : Nat} {cl : List Clause} {fin : Str} {ds : List D} (hl : ds.length = np) (j : Nat) (hj : j < np) : getV (mkEnv (toldFun f fq np cl fin) ds) j = ds[j]? := by
  unfold mkEnv toldFun getV
  simp only [Bool.false_eq_true, if_false, List.nil_append]
  rw [List.getElem?_append_left (by simp; omega), List.getElem?_map]
  have : j < ds.length := by omega
  rw [List.getElem?_eq_getElem this]
  rfl
theorem eqD_strX {x : D} {c : Str} (h : eqD x (.str c) = some true) : x = .str c := by
  cases x <;> simp only [eqD] at h
  case str s => simpa using h
  all_goals (split at h <;> first | contradiction | (simp [PyData.eqv] at h; done))
theorem repr_str {y d : D} (h : biV .repr [y] = some d) : ∃ t, d = .str t := by
  simp only [biV] at h
  split at h <;> first | contradiction | skip
  cases h
  exact ⟨_, rfl⟩
theorem retL_ev {w : Str} {i : Nat} {env : Env} {u : U} {y : D} {o : O} (hy : getV env i = some y) (h : execSs C ff (.cons (.ret (.lst (.cons (.lit (.str w)) (.cons (.bi .repr (.cons (.var i) .nil)) .nil)))) .nil) env u = some o) : ∃ t, biV .repr [y] = some (.str t) ∧ o = .rt (.list [.str w, .str t]) u := by
  simp only [execSs, execS, evalE, evalEs, hy, litV, Option.bind_some] at h
  cases q : biV .repr [y] with
  | none => rw [q] at h; simp at h
  | some d =>
    obtain ⟨t, rfl⟩ := repr_str q
    rw [q] at h
    refine ⟨t, rfl, ?_⟩
    simpa [sizeOk] using h.symm
theorem clSs_ev {np : Nat} {env : Env} {u : U} {x y : D} {o : O} (hx : getV env np = some x) (hy : getV env (np + 1) = some y) : ∀ {cl : List Clause}, execSs C ff (clSs np cl) env u = some o →
    ∃ c t s, x = .str s ∧ cl.find? (fun c => decide (s = c.cls)) = some c ∧ biV .repr [y] = some (.str t) ∧ o = .rt (.list [.str c.word, .str t]) u
  | [], h => by simp [clSs] at h
  | c :: r, h => by
    unfold clSs at h
    simp only [execSs] at h
    obtain ⟨o1, h1, h⟩ := Option.bind_eq_some_iff.mp h
    simp only [execS] at h1
    obtain ⟨⟨d0, u0⟩, h2, h1⟩ := Option.bind_eq_some_iff.mp h1
    simp only [evalE, hx, litV, Option.bind_some, cmpV] at h2
    obtain ⟨b, q, h2⟩ := Option.bind_eq_some_iff.mp h2
    cases h2
    simp only at h1
    cases b with
    | true =>
      obtain rfl := eqD_strX q
      rw [if_pos rfl] at h1
      obtain ⟨t, e1, rfl⟩ := retL_ev hy h1
      cases h
      exact ⟨c, t, c.cls, rfl, by simp, e1, rfl⟩
    | false =>
      rw [if_neg Bool.false_ne_true] at h1
      simp only [execSs, Option.some.injEq] at h1
      subst h1
      obtain ⟨c2, t, s, rfl, e1, e2, e3⟩ := clSs_ev hx hy (cl := r) h
      refine ⟨c2, t, s, rfl, ?_, e2, e3⟩
      rw [List.find?_cons]
      have : decide (s = c.cls) = false := by
        simp only [eqD, Option.some.injEq] at q
        exact q
      rw [this]
      exact e1
theorem toldBody_ev {f fq : String} {np : Nat} {cl : List Clause} {fin : Str} {ds : List D} {env : Env} {u : U} {o : O} (ev : ∀ u, evalEs C (varEs 0 np) env u = some (ds, u)) (pk : pick ds (List.range' 0 np) = some ds) (hlen : env.length = np + 2) (h : execSs C ff (toldBody f fq np cl fin) env u = some o) :
    (C.fn fq ds = some .none ∧ (∃ v, C.fn f ds = some v) ∧ o = .rt (.list [.str fin]) u) ∨
     ∃ c s e t, C.fn fq ds = some (xn s e) ∧ cl.find? (fun c' => decide (s = c'.cls)) = some c ∧ biV .repr [e] = some (.str t) ∧ o = .rt (.list [.str c.word, .str t]) u := by
  have call : ∀ (g : String) u, evalE C (.call g (varEs 0 np) (List.range' 0 np)) env u = (C.fn g ds).bind fun d => some (d, u) := fun g u => by
    simp only [evalE, ev, Option.bind_some, pk]
  unfold toldBody at h
  rw [execSs] at h
  obtain ⟨o1, h1, h⟩ := Option.bind_eq_some_iff.mp h
  rw [execS] at h1
  obtain ⟨⟨d0, u0⟩, h2, h1⟩ := Option.bind_eq_some_iff.mp h1
  rw [evalE, call] at h2
  cases q1 : C.fn fq ds with
  | none => rw [q1] at h2; simp at h2
  | some d1 =>
    rw [q1] at h2
    simp only [Option.bind_some, evalE, litV, cmpV, Option.some.injEq, Prod.mk.injEq] at h2
    obtain ⟨rfl, rfl⟩ := h2
    simp only at h1
    by_cases hn : isNone d1 = true
    · have hd : d1 = .none := by cases d1 <;> simp [isNone] at hn ⊢
      subst hd
      rw [if_pos hn] at h1
      rw [execSs] at h1
      obtain ⟨o2, h2, h1⟩ := Option.bind_eq_some_iff.mp h1
      rw [execS, call] at h2
      cases q2 : C.fn f ds with
      | none => rw [q2] at h2; simp at h2
      | some v =>
        rw [q2] at h2
        simp only [Option.bind_some, Option.some.injEq] at h2
        subst h2
        simp [evalEs, sizeOk] at h1
        subst h1
        cases h
        exact .inl ⟨rfl, ⟨v, rfl⟩, rfl⟩
    · rw [if_neg hn, execSs] at h1
      cases h1
      simp only at h
      rw [execSs] at h
      obtain ⟨o2, h2, h⟩ := Option.bind_eq_some_iff.mp h
      rw [execS, call, q1] at h2
      simp only [Option.bind_some] at h2
      obtain ⟨ds2, hd⟩ : ∃ ds2, d1 = .tuple ds2 := by
        cases d1 <;> simp only at h2 <;> first | contradiction | exact ⟨_, rfl⟩
      subst hd
      simp only at h2
      obtain ⟨⟨e4, u4⟩, q4, h2⟩ := Option.bind_eq_some_iff.mp h2
      cases h2
      simp only at h
      match ds2, q4, q1 with
      | [x, y], q4, q1 =>
        simp only [bindTu, Option.some.injEq, Prod.mk.injEq] at q4
        obtain ⟨rfl, rfl⟩ := q4
        have hl2 : ∀ e : Env, e.length = np + 2 → getV ((e.set np (.imm x)).set (np + 1) (.imm y)) np = some x ∧ getV ((e.set np (.imm x)).set (np + 1) (.imm y)) (np + 1) = some y := fun e he => by
          unfold getV
          refine ⟨?_, ?_⟩
          · rw [List.getElem?_set_ne (by omega), List.getElem?_set_self (by omega)]
          · rw [List.getElem?_set_self (by rw [List.length_set]; omega)]
        obtain ⟨g1, g2⟩ := hl2 (if noListAll [x, y] = true then env else freeze env (fvE (.call fq (varEs 0 np) (List.range' 0 np)))) (by split <;> first | exact hlen | (rw [freeze_len]; exact hlen))
        obtain ⟨c, t, s, rfl, e1, e2, e3⟩ := clSs_ev g1 g2 h
        exact .inr ⟨c, s, y, t, rfl, e1, e2, e3⟩
      | [], q4, _ => simp [bindTu] at q4
      | [_], q4, _ => simp [bindTu] at q4
      | _ :: _ :: _ :: _, q4, _ => simp [bindTu] at q4
theorem told_ev {f fq : String} {np : Nat} {cl : List Clause} {fin : Str} {ds : List D} {d : D} {u u' : U} (h : runF C ff (toldFun f fq np cl fin) ds u = some (d, u')) : ds.length = np ∧
    ((C.fn fq ds = some .none ∧ (∃ v, C.fn f ds = some v) ∧ d = .list [.str fin]) ∨
     ∃ c s e t, C.fn fq ds = some (xn s e) ∧ cl.find? (fun c' => decide (s = c'.cls)) = some c ∧ biV .repr [e] = some (.str t) ∧ d = .list [.str c.word, .str t]) := by
  unfold runF at h
  by_cases hl : ds.length + (if (toldFun f fq np cl fin).urn then 1 else 0) = (toldFun f fq np cl fin).np
  · rw [if_pos hl] at h
    have hl : ds.length = np := hl
    refine ⟨hl, ?_⟩
    have ev : ∀ u, evalEs C (varEs 0 np) (mkEnv (toldFun f fq np cl fin) ds) u = some (ds, u) := fun u => varEs_ev hl fun j hj => by rw [Nat.zero_add]; exact mk_get hl j hj
    have pk : pick ds (List.range' 0 np) = some ds := by
      have := pick_range ds np 0 (by omega)
      simpa using this
    have hlen : (mkEnv (toldFun f fq np cl fin) ds).length = np + 2 := by
      unfold mkEnv toldFun
      simp only [Bool.false_eq_true, if_false, List.nil_append, List.length_append, List.length_map, List.length_replicate]
      omega
    have key := fun o => toldBody_ev (ff := ff) (f := f) (fq := fq) (cl := cl) (fin := fin) (u := u) (o := o) ev pk hlen
    have hb : (toldFun f fq np cl fin).body = toldBody f fq np cl fin := rfl
    rw [hb] at h
    cases q : execSs C ff (toldBody f fq np cl fin) (mkEnv (toldFun f fq np cl fin) ds) u with
    | none => rw [q] at h; simp at h
    | some o =>
      rw [q] at h
      rcases key o q with ⟨k1, k2, rfl⟩ | ⟨c, s, e, t, k1, k2, k3, rfl⟩
      · simp only [Option.some.injEq, Prod.mk.injEq] at h
        exact .inl ⟨k1, k2, h.1.symm⟩
      · simp only [Option.some.injEq, Prod.mk.injEq] at h
        exact .inr ⟨c, s, e, t, k1, k2, k3, h.1.symm⟩
  · rw [if_neg hl] at h; cases h
end
end Pl

set_option maxHeartbeats 400000
/-! PX5: the telling def keeps its promise; its calls with a lambda. -/
namespace Pl
open PySem PyProof.Rows
open L2 (V Hp HO VK XK WX TE TT TA TS TG TGs Cx PE PT PW PA PS PSs PG PGs PI PK PMk Inv SqL SqT DpAll Vals RelV EP Gl Vis Ends Sp FnScope Env0 CE CR CX0 Room Fun Binds KBinds FnOk Passes Takes upd upd_same upd_ne del exo exd)
variable [Tabl]

def EA (K : PySem.W.Frag) (mg : Str → Option Value) (Q : VK) : List Clause → XK
  | [] => fun _ _ _ => False
  | c :: r => fun cls dd H' => ∃ C b, mg c.cls = some (.ref C) ∧ PySem.W.exmOne K cls (.ref C) = some b ∧
      (b = true → ∃ (Ce a : Addr) (v : V) (t : Str) (F : Hp) (d : D), cls = .ref Ce ∧ L2.XfC K Ce ∧ PySem.W.findIn K (.ref Ce) c.fld = some none ∧ dd = some a ∧ H' a = some (.xd [(c.fld, v)]) ∧ Sub F H' ∧ Pl.Dp K F v d ∧ biV .repr [d] = some (.str t) ∧
        ∀ F2 H2, Ext0 F H' F2 H2 → Sub F2 H2 → ∀ p, H2 p = none → Q (.ref p) (upd H2 p (.lst [.str c.word, .str t]))) ∧ (b = false → EA K mg Q r cls dd H')
def TTa (K : PySem.W.Frag) (mg : Str → Option Value) (cl : List Clause) (fin : Str) : (XK → Hp → VK → Prop) → Hp → VK → Prop := fun tl H Q =>
  tl (EA K mg Q cl) H fun _ H' => [V.str fin].length ≤ sizeLine ∧ ∀ p, H' p = none → Q (.ref p) (upd H' p (.lst [.str fin]))

def clB (gl bltn : Str → Bool) (e : Str) : List Clause → List ExceptHandler → Bool
  | [], hs => hs.isEmpty
  | k :: r, hs => match hs with
    | .ExceptHandler (some (.Name x _)) (some n) [.Return (some (.List [.Constant (.str w) _ _, .Call (.Name rp _) [.Attribute (.Name y _) fl _] [] _] _)) _] _ :: hs =>
      gl x && decide (x = k.cls) && decide (e = n) && decide (w = k.word) && decide (rp = ("repr" : Str)) && bltn rp && decide (e = y) && decide (fl = k.fld) && clB gl bltn e r hs
    | _ => false
section
variable {Z : Cx} {a e : Str}
def tsA (K : PySem.W.Frag) (k : Clause) (a : Addr) (cls : Value) (d : Option Addr) : TS := fun D σ H => ∃ Ce, cls = .ref Ce ∧ L2.XfC K Ce ∧ PySem.W.findIn K (.ref Ce) k.fld = some none ∧
  L2.tRet (L2.tLst (L2.tCons (L2.tC (.str k.word)) (L2.tCons (L2.tCB (rBi K .repr) (L2.tCons (L2.tXf a cls d Ce k.fld (L2.tVar 1)) L2.tNil)) L2.tNil))) D σ H
theorem hds_A {gl bltn : Str → Bool} (hgd : Z.A.guards = some []) (hun : Z.A.units + 66 < cLine) (hN : Z.N = [a, e]) (he : Z.env.scope.names.lookup e = some .local) (hd : (e == ("__debug__" : Str)) = false) (hcd : (e == ("__classdict__" : Str)) = false)
    (hgl : ∀ x, gl x = true → Gl Z x ∧ (x == ("__debug__" : Str)) = false) (hbl : ∀ x, bltn x = true → Gl Z x ∧ Z.mg x = none) : ∀ {cl : List Clause} {hs : List ExceptHandler}, clB gl bltn e cl hs = true → (∀ c ∈ cl, ∃ C, Z.mg c.cls = some (.ref C)) →
    ∃ l, Hds Z e hs l ∧ ∀ (D : Ends) (cls : Value) (d : Option Addr) (σ : L2.St) (H' : Hp), σ.length = 2 → EA Z.K Z.mg D.rt cl cls d H' → wAll Z.K 1 (fun _ _ _ _ => False) D l cls d σ H'
  | [], hs, h, _ => by
    unfold clB at h
    obtain rfl := List.isEmpty_iff.mp h
    exact ⟨[], .nil, fun _ _ _ _ _ _ z => z⟩
  | k :: r, hs, h, hC => by
    unfold clB at h
    split at h <;> first | contradiction | skip
    simp only [Bool.and_eq_true, decide_eq_true_eq] at h
    obtain ⟨⟨⟨⟨⟨⟨⟨⟨h1, rfl⟩, rfl⟩, rfl⟩, rfl⟩, h2⟩, rfl⟩, rfl⟩, h3⟩ := h
    obtain ⟨C, hm⟩ := hC k List.mem_cons_self
    obtain ⟨g1, g2⟩ := hgl _ h1
    obtain ⟨b1, b2⟩ := hbl _ h2
    obtain ⟨l, hl, hw⟩ := hds_A hgd hun hN he hd hcd hgl hbl h3 fun c hc => hC c (List.mem_cons_of_mem _ hc)
    refine ⟨(.ref C, tsA Z.K k) :: l, .cons ⟨g1, g2, .inl hm⟩ (fun a oe cls d pn hz hf => ⟨fun pins s σ H D I ⟨Ce, ec, hx, hn, h⟩ => ?_⟩) hl, fun D cls d σ H' hσ hE => ?_⟩
    · subst ec
      have hv : ∀ pz : Pos, PE (Z.suite a ((a, oe) :: pn)) (.Name e pz) (L2.tVar 1) := fun _ => L2.pe_var (X := Z.suite a ((a, oe) :: pn)) (i := 1) (by show Z.N[1]? = some e; rw [hN]; rfl) (.inl he) hd hcd
      exact (L2.pss_one (L2.ps_ret (L2.pe_lst (L2.pa_cons L2.pe_str (L2.pa_cons (L2.pe_callB (X := Z.suite a ((a, oe) :: pn)) (bi_repr (X := Z.suite a ((a, oe) :: pn)) hgd hun) b1 b2 (by decide +kernel) (L2.pa_cons (L2.pe_xf hx hn hz hf (hv _) rfl) L2.pa_nil rfl)) L2.pa_nil rfl) rfl)))).run pins s σ H D I h
    · obtain ⟨C', b, m', e1, e2, e3⟩ := hE
      rw [hm] at m'
      cases m'
      refine ⟨b, e1, fun hb a' ha' => ?_, fun hb => hw D cls d σ H' hσ (e3 hb)⟩
      obtain ⟨Ce, ad, v, t, F, dv, rfl, hx, hn, rfl, hat, sF, dp, hr, hq⟩ := e2 hb
      refine ⟨Ce, rfl, hx, hn, .ref a', by rw [List.getElem?_set_self (by omega)], rfl, rfl, ad, _, v, rfl, hat, by simp [List.lookup], ?_⟩
      refine ⟨F, [dv], .str t, sF, .cons dp .nil, hr, fun w F2 H2 x2 s2 rn => ?_⟩
      obtain rfl : w = .str t := by
        have rn' : Pl.Dp Z.K F2 w (.str t) := rn
        cases rn'
        rfl
      exact ⟨by simp [sizeLine_eq], fun p hp => hq F2 H2 x2 s2 p hp⟩
theorem Takes.len {X : Cx} {W : WX} (tk : Takes X W) : Takes X (fun cls d σ H => σ.length = X.N.length → W cls d σ H) := fun u s' ⟨a, B, sI, pins, σ, H, cls, d, e, I, nb, up, sky, na, os, ag, w⟩ =>
  tk u s' ⟨a, B, sI, pins, σ, H, cls, d, e, I, nb, up, sky, na, os, ag, w I.len⟩
theorem gives_A {X : Cx} {gl bltn : Str → Bool} {x q : Str} {sg : Scope} {g : Addr} {cdg : Value} {cl : List Clause} {fin : Str} {hs : List ExceptHandler} {h0 : ExceptHandler} {p1 p2 p3 p4 p5 p6 p7 : Pos} {j : Nat} (hgd : X.A.guards = some []) (hun : X.A.units + 70 < cLine) (hae : a ≠ e) (ha : sg.names.lookup a = some .local)
    (he : sg.names.lookup e = some .local) (hd : (e == ("__debug__" : Str)) = false) (hcd : (e == ("__classdict__" : Str)) = false) (hgl : ∀ x, gl x = true → sg.names.lookup x = some .globalImplicit ∧ (x == ("__debug__" : Str)) = false) (hbl : ∀ x, bltn x = true → sg.names.lookup x = some .globalImplicit ∧ X.mg x = none)
    (hcl : clB gl bltn e cl (h0 :: hs) = true) (hC : ∀ c ∈ cl, ∃ C, X.mg c.cls = some (.ref C)) :
    LamX.GivesTo X [a, e] x sg g cdg [.Try [.Expr (.Call (.Name a p1) [] [] p2) p3] (h0 :: hs) [] [] p4, .Return (some (.List [.Constant (.str fin) j p5] p6)) p7] a q (TTa X.K X.mg cl fin) := by
  intro f c' s H Q tl act hc h
  obtain ⟨l, hl, hw⟩ := hds_A (Z := (L2.cxOf CX0 X.prog X.w X.K X.mg X.base [a, e] x sg g cdg X.A X.stack s H L2.E0).nox) (a := a) (e := e) (gl := gl) (bltn := bltn) hgd (by show X.A.units + 3 + 66 < cLine; omega) rfl he hd hcd hgl hbl hcl hC
  refine ⟨_, L2.pss_cons (ps_try_all (X := (L2.cxOf CX0 X.prog X.w X.K X.mg X.base [a, e] x sg g cdg X.A X.stack s H L2.E0).nox) (n := e) (i := 1) (l := l)
      (tb := fun W D σ H => ∃ Ech : XK, (∀ cls d σ' H', σ'.length = 2 → Ech cls d H' → W cls d σ' H') ∧ σ[0]? = some (some (.ref f)) ∧ H c' = some (LamX.CodeO c' q) ∧ tl Ech H (fun _ H1 => D.nx σ H1))
      rfl rfl (by show ([a, e] : List Str).Nodup; simp [hae]) rfl he (LamX.takes0) (fun W pn xe tk _ => ?_) hl) (L2.pss_one (L2.ps_ret (L2.pe_lst (L2.pa_cons L2.pe_str L2.pa_nil rfl)))), ?_⟩
  · refine ⟨fun pins s' σ H' D I h' => ?_⟩
    obtain ⟨Ech, hW, h1, h2, h3⟩ := h'
    have hp := act _ pn xe Ech p1 p2 (Takes.len tk) fun cls d σ' H' hE hl => hW cls d σ' H' hl hE
    exact (L2.pss_one (L2.ps_expr hp rfl)).run pins s' σ H' D I ⟨h1, h2, h3⟩
  · exact ⟨EA X.K X.mg Q cl, fun cls d σ' H' hσ hE => hw _ cls d σ' H' hσ hE, rfl, hc, h⟩
end
end Pl

set_option maxHeartbeats 400000
/-! PX6: calls of the telling def; all defs together. -/
namespace Pl
open PySem PyProof.Rows
open L2 (V Hp HO VK XK WX TE TT TA TS TG TGs Cx PE PT PW PA PS PSs PG PGs PI PK PMk Inv SqL SqT DpAll Vals RelV EP Gl Vis Ends Sp FnScope Env0 CE CR CX0 Room Fun Binds KBinds FnOk Passes Takes upd upd_same upd_ne del exo exd)
variable [Tabl]

section
variable {C C' : Ctx} (hg : C.glob = C'.glob)
include hg
mutual
theorem eqE_ctx : ∀ {a b : E}, eqE a b = true → ∀ (env : Env) (u : U), evalE C a env u = evalE C' a env u
  | .var i, b, h, env, u => by simp only [evalE]
  | .lit k, b, h, env, u => by simp only [evalE]
  | .glob g, b, h, env, u => by simp only [evalE, hg]
  | .idx a i, b, h, env, u => by
    cases b <;> simp only [eqE, Bool.false_eq_true, Bool.and_eq_true] at h
    have k1 := eqE_ctx h.1
    have k2 := eqE_ctx h.2
    simp only [evalE, k1, k2]
  | .tup es, b, h, env, u => by
    cases b <;> simp only [eqE, Bool.false_eq_true] at h
    have k1 := eqEs_ctx h
    simp only [evalE, k1]
  | .neg _, b, h, _, _ => by cases b <;> simp [eqE] at h
  | .not _, b, h, _, _ => by cases b <;> simp [eqE] at h
  | .bin _ _ _, b, h, _, _ => by cases b <;> simp [eqE] at h
  | .cmp _ _ _, b, h, _, _ => by cases b <;> simp [eqE] at h
  | .chain _ _ _ _ _, b, h, _, _ => by cases b <;> simp [eqE] at h
  | .and _ _, b, h, _, _ => by cases b <;> simp [eqE] at h
  | .or _ _, b, h, _, _ => by cases b <;> simp [eqE] at h
  | .ite _ _ _, b, h, _, _ => by cases b <;> simp [eqE] at h
  | .lst _, b, h, _, _ => by cases b <;> simp [eqE] at h
  | .rep _ _, b, h, _, _ => by cases b <;> simp [eqE] at h
  | .sli _ _ _, b, h, _, _ => by cases b <;> simp [eqE] at h
  | .rev _, b, h, _, _ => by cases b <;> simp [eqE] at h
  | .rvt _, b, h, _, _ => by cases b <;> simp [eqE] at h
  | .uidx _, b, h, _, _ => by cases b <;> simp [eqE] at h
  | .call _ _ _, b, h, _, _ => by cases b <;> simp [eqE] at h
  | .ucall _ _, b, h, _, _ => by cases b <;> simp [eqE] at h
  | .ncall _ _ _, b, h, _, _ => by cases b <;> simp [eqE] at h
  | .bi _ _, b, h, _, _ => by cases b <;> simp [eqE] at h
  | .comp _ _ _ _ _, b, h, _, _ => by cases b <;> simp [eqE] at h
  | .dict0, b, h, _, _ => by cases b <;> simp [eqE] at h
  | .trng _ _, b, h, _, _ => by cases b <;> simp [eqE] at h
theorem eqEs_ctx : ∀ {a b : Es}, eqEs a b = true → ∀ (env : Env) (u : U), evalEs C a env u = evalEs C' a env u
  | .nil, b, h, env, u => by simp only [evalEs]
  | .cons a as, b, h, env, u => by
    cases b <;> simp only [eqEs, Bool.false_eq_true, Bool.and_eq_true] at h
    have k1 := eqE_ctx h.1
    have k2 := eqEs_ctx h.2
    simp only [evalEs, k1, k2]
end
end

/-- what a heap's growth by a lambda leaves -/
theorem GrT.ext {H H1 : Hp} (g : GrT H H1) (au : Option Addr) (F : Hp) : Ext au F H F H1 := fun a _ hn => by
  rcases g with rfl | ⟨P, c, q, ps, more, hP, hc, rfl⟩
  · exact ⟨.refl _, rfl⟩
  · have hac : a ≠ c := fun e => hn (e ▸ hc)
    refine ⟨?_, rfl⟩
    rw [upd_ne hac]
    by_cases e : a = P
    · rw [e, upd_same, hP]
      exact .inr ⟨ps, more, rfl, rfl⟩
    · rw [upd_ne e]
      exact .refl _
theorem GrT.at_ {K : PySem.W.Frag} {au : Option Addr} {σ : L2.St} {H H1 F : Hp} {env : Env} {u : U} {is : List Nat} (g : GrT H H1) (T1 : LamX.Tabs Tabl.T H1) (A : At K au σ H F env u is) : At K au σ H1 F env u is ∧ Post au F H F H1 u := by
  have same : ∀ a o, H a = some o → (∀ ps, o ≠ .tbl ps) → H1 a = some o := fun a o h ho => by
    rcases g with rfl | ⟨P, c, q, ps, more, hP, hc, rfl⟩
    · exact h
    · rw [upd_ne (fun e => by rw [e, hc] at h; cases h), upd_ne (fun e => by rw [e, hP] at h; exact ho ps (Option.some.inj h).symm)]
      exact h
  have s1 : Sub F H1 := fun a o h => same a o (A.sub a o h) fun ps e => A.tab.n a ps (by rw [h, e])
  have u1 : UrnR au u F H1 := fun a ha => ⟨same a _ (A.urn a ha).1 (fun ps z => by cases z), (A.urn a ha).2⟩
  exact ⟨⟨s1, u1, ⟨T1, A.tab.n⟩, A.s0, A.len, A.env⟩, ⟨g.ext au F, s1, u1, ⟨T1, A.tab.n⟩⟩⟩

/-- what is known of the classes of errors -/
structure XFacts (P : Program) (w : World) (K : PySem.W.Frag) (mg : Str → Option Value) (bas : Heap) (xc : XC) (cls : List Str) : Prop where
  fld : ∀ s f, xc.lookup s = some (some f) → ∃ C, ExcI P w K mg bas s C f ∧ L2.XfC K C ∧ PySem.W.findIn K (.ref C) f = some none
  exm : ∀ s fo c, xc.lookup s = some fo → c ∈ cls → ∃ C C', mg s = some (.ref C) ∧ mg c = some (.ref C') ∧ PySem.W.exmOne K (.ref C) (.ref C') = some (decide (s = c))

theorem ea_of {P : Program} {w : World} {K : PySem.W.Frag} {mg : Str → Option Value} {bas : Heap} {xc : XC} {cls : List Str} (xf : XFacts P w K mg bas xc cls) {Q : VK} {F H' : Hp} {s : Str} {e : D} {cv : Value} {dd : Option Addr} {c : Clause} {t : Str} (hx : XdR K mg xc F H' s e cv dd) (sF : Sub F H') (hr : biV .repr [e] = some (.str t))
    (hq : ∀ F2 H2, Ext0 F H' F2 H2 → Sub F2 H2 → ∀ p, H2 p = none → Q (.ref p) (upd H2 p (.lst [.str c.word, .str t]))) : ∀ {cl : List Clause}, cl.find? (fun c' => decide (s = c'.cls)) = some c → (∀ k ∈ cl, k.cls ∈ cls ∧ xc.lookup k.cls = some (some k.fld)) → EA K mg Q cl cv dd H'
  | [], h, _ => by simp at h
  | k :: r, h, hk => by
    obtain ⟨C, fo, x1, x2, x3, x4⟩ := hx
    obtain ⟨k1, k2⟩ := hk k List.mem_cons_self
    obtain ⟨C1, C2, m1, m2, m3⟩ := xf.exm s fo k.cls x1 k1
    rw [x2] at m1
    cases m1
    refine ⟨C2, _, m2, by rw [x3]; exact m3, fun hb => ?_, fun hb => ?_⟩
    · have hs : s = k.cls := of_decide_eq_true hb
      rw [List.find?_cons, hb] at h
      cases h
      subst hs
      rw [x1] at k2
      cases k2
      obtain ⟨a, v, rfl, ha, dp⟩ := x4 _ rfl
      obtain ⟨C3, i1, i2, i3⟩ := xf.fld _ _ x1
      have := i1.ad
      rw [x2] at this
      cases this
      exact ⟨C, a, v, t, F, e, x3, i2, i3, rfl, ha, sF, dp, hr, hq⟩
    · rw [List.find?_cons, hb] at h
      exact ea_of xf ⟨C, fo, x1, x2, x3, x4⟩ sF hr hq h fun k' hk' => hk k' (List.mem_cons_of_mem _ hk')

theorem dpAll_strs {K : PySem.W.Frag} {F : Hp} : ∀ ss : List Str, Pl.DpAll K F (ss.map V.str) (ss.map .str)
  | [] => .nil
  | a :: ss => .cons (.str a) (dpAll_strs ss)
/-- the telling def's text -/
def toldB (gl bltn : Str → Bool) (sc : Scope) (N : List Str) (t : TEnt) : List Stmt → Bool
  | [.Try [.Expr (.Call (.Name a _) [] [] _) _] (h0 :: hs) [] [] _, .Return (some (.List [.Constant (.str fin) _ _] _)) _] => (match N with
    | [a', e] => decide (a = a') && clB gl bltn e t.cl (h0 :: hs) && decide (fin = t.fin) && !(a' == e) && decide (sc.names.lookup a' = some .local) && decide (sc.names.lookup e = some .local) && !(e == ("__debug__" : Str)) && !(e == ("__classdict__" : Str)) && !(a' == ("__debug__" : Str)) && !(a' == ("__classdict__" : Str))
    | _ => false)
  | _ => false
theorem noParams_eq {p : Arguments} (h : noParams p = true) : p = ⟨[], [], none, [], [], none, []⟩ := by
  unfold noParams at h
  split at h <;> first | rfl | contradiction
/-- where the lambda is made: the maker's code object and its table -/
structure Maker (X : Cx) : Prop where
  ex : ∃ c P, LamX.TabB X.base X.mg c P ∧ X.env.code = .ref c ∧ (P, X.env.qual ++ "<lambda>") ∈ Tabl.T ∧ ∀ p ∈ Tabl.T, p.1 = P → p.2 = X.env.qual ++ "<lambda>"
theorem told_sim {X : Cx} {c : CK} {G : Prog} {m : Nat} {au : Option Addr} {f : String} {t : TEnt} {e : Entry} {xc : XC} {cls : List Str} {bl : List Str} {gTd : Addr} {fdTd : FuncData} {wh : Bool} (hm : Maker X) (ht : c.told f = some t) (hGT : G.T f = some (toldFun t.f t.fq t.np t.cl t.fin)) (rg : RoomG true (3 * (m + 1) + 2) X.A)
    (low : ∀ (A : Around) (outer : List PySem.Env) (s : Shared) (H : Hp) (E : XK) (sc : Scope) (f c' : Addr), LamX.LamS X.env.scope sc → Room (3 * m + 3) (A.deeper (LamX.lamEnv X sc s.heap.objs.size f c')) → Okx (LamX.lamCx X A outer s H E sc f c') (c.lam sc) G m au)
    (cx : ∀ (A : Around) (outer : List PySem.Env) (s : Shared) (H : Hp) (E : XK) (sc : Scope) (f c' : Addr) (en : Entry), c.T t.f = some en → CallX (LamX.lamCx X A outer s H E sc f c') xc G m t.f en t.fq wh)
    (hnp : ∀ en, c.T t.f = some en → en.fn.np = t.np ∧ G.T t.f = some en.fn) (hfq : ∀ ds, (ctxN G m).fn t.fq ds = (callU G m t.fq ds []).map (·.1)) (sc : X.env.scope = c.sc) (hgl : ∀ {x : Str}, c.gl x = true → Gl X x ∧ (x == ("__debug__" : Str)) = false)
    (hmg : X.mg (Str.ofString t.td) = some (.ref gTd)) (hF : Fun X.K (Str.ofString t.td) (Str.ofString t.td) e.st gTd fdTd) (hb : Binds X.K fdTd e.ps []) (hS : FnScope e.N e.ps (L2.defScope e.st)) (hps : ∃ a, e.ps = [a]) (htb : toldB (fun x => decide ((L2.defScope e.st).names.lookup x = some .globalImplicit) && !(x == ("__debug__" : Str))) (fun x => decide ((L2.defScope e.st).names.lookup x = some .globalImplicit) && bl.contains x) (L2.defScope e.st) e.N t (L2.defBody e.st) = true)
    (hbl : ∀ x ∈ bl, X.mg x = none) (xf : XFacts X.prog X.w X.K X.mg X.base xc cls) (hcl : ∀ k ∈ t.cl, k.cls ∈ cls ∧ xc.lookup k.cls = some (some k.fld)) : ToldOk X c G (m + 1) au f := ⟨fun {es perm ex} h => by
  unfold chkE at h
  rw [ht] at h
  simp only at h
  split at h <;> first | contradiction | skip
  simp only [Bool.and_eq_true, decide_eq_true_eq] at h
  obtain ⟨⟨⟨⟨h1, rfl⟩, h2⟩, h3⟩, h⟩ := h
  split at h <;> first | contradiction | skip
  simp only [Bool.and_eq_true, decide_eq_true_eq] at h
  obtain ⟨⟨⟨⟨⟨⟨⟨k1, rfl⟩, k2⟩, k3⟩, k4⟩, k5⟩, k6⟩, h⟩ := h
  split at h <;> first | contradiction | skip
  rename_i en hT
  simp only [Bool.and_eq_true, Bool.not_eq_true'] at h
  obtain ⟨⟨h4, h5⟩, h6⟩ := h
  rename_i px prm scope lpos pos0 body py args kws pos2 _
  obtain rfl := noParams_eq h2
  have L : LamX.LamS X.env.scope scope := by rw [sc]; exact LamX.lamS_by h3
  obtain ⟨g1, g2⟩ := hgl h1
  obtain ⟨cd, P, tb, hcode, hmT, one⟩ := hm.ex
  obtain ⟨n1, n2⟩ := hnp en hT
  -- the telling def
  unfold toldB at htb
  split at htb <;> first | contradiction | skip
  rename_i _ _ _ _ hbody
  split at htb <;> first | contradiction | skip
  rename_i a' ev hNN
  simp only [Bool.and_eq_true, decide_eq_true_eq, Bool.not_eq_true'] at htb
  obtain ⟨⟨⟨⟨⟨⟨⟨⟨⟨haa, hc⟩, rfl⟩, t1⟩, t2⟩, t3⟩, t4⟩, t5⟩, t6⟩, t7⟩ := htb
  have t1 : a' ≠ ev := by simpa using t1
  obtain ⟨a, ha⟩ := hps
  have hab : a = a' := by
    have := hS.pre
    rw [ha, hNN] at this
    simpa using this.symm
  subst hab
  subst haa
  obtain ⟨oc, od, kV, doc, pm, an, cdv, ct, osl, rfl, lk, hcd⟩ := hF.ex
  rw [hbody] at lk hb
  rw [ha] at hb
  rw [ha, hNN] at hS
  have bl2 : ∀ x, (decide ((L2.defScope e.st).names.lookup x = some .globalImplicit) && bl.contains x) = true → (L2.defScope e.st).names.lookup x = some .globalImplicit ∧ X.mg x = none := fun x hx => by
    simp only [Bool.and_eq_true, decide_eq_true_eq, List.contains_iff_mem] at hx
    exact ⟨hx.1, hbl x hx.2⟩
  have gl2 : ∀ x, (decide ((L2.defScope e.st).names.lookup x = some .globalImplicit) && !(x == ("__debug__" : Str))) = true → (L2.defScope e.st).names.lookup x = some .globalImplicit ∧ (x == ("__debug__" : Str)) = false := fun x hx => by
    simpa only [Bool.and_eq_true, decide_eq_true_eq, Bool.not_eq_true'] using hx
  have cls2 : ∀ k ∈ t.cl, ∃ C, X.mg k.cls = some (.ref C) := fun k hk => by
    obtain ⟨k1, k2⟩ := hcl k hk
    obtain ⟨C, i1, _⟩ := xf.fld _ _ k2
    exact ⟨C, i1.ad⟩
  have hun : X.A.units + 70 < cLine := by have := rg.rm.un; omega
  have hbody2 : ∀ (A : Around) (outer : List PySem.Env) (s : Shared) (H : Hp) (E : XK) (fa c' : Addr), Room (3 * m + 3) (A.deeper (LamX.lamEnv X scope s.heap.objs.size fa c')) → PE (LamX.lamCx X A outer s H E scope fa c') (.Call (.Name (Str.ofString t.f) py) args kws pos2) (fun σ H Q => tArgs X.K (ctxN G m) au es perm σ H fun vs H1 => spX X.K X.mg xc en.fn.np en.fn.fresh wh (callU G m t.f) (callU G m t.fq) vs H1 Q E) := fun A outer s H E fa c' hr => by
    have o := low A outer s H E scope fa c' L hr
    have cx' := cx A outer s H E scope fa c' en hT
    obtain ⟨q1, q2⟩ := o.gl k1
    have tk : Takes (LamX.lamCx X A outer s H E scope fa c') (fun cls d _ H => E cls d H) := L2.takes_of rfl rfl rfl rfl
    exact pe_args (X := LamX.lamCx X A outer s H E scope fa c') (E := E) cx' (hr.mono (by omega)) q1 q2 rfl k2 k3 (L2.passes_call tk fun _ _ _ _ h => h) (okA o _ _ _ k2 k3 k4) h6
  have pe := pe_lam3 (X := X) (T := Tabl.T) (TT := TTa X.K X.mg t.cl t.fin) (k := 3 * m + 3) (prm := ⟨[], [], none, [], [], none, []⟩) (bd := .Call (.Name (Str.ofString t.f) py) args kws pos2) (sc := scope) (p := px) (lpos := lpos) (pos := pos0) (t := fun E σ H Q => tArgs X.K (ctxN G m) au es perm σ H fun vs H1 => spX X.K X.mg xc en.fn.np en.fn.fresh wh (callU G m t.f) (callU G m t.fq) vs H1 Q E)
    g1 hmg hF.kp lk hcd hb hS rfl (.inl t2) (gives_A (X := X) (rg.gd rfl) hun t1 t2 t3 t4 t5 gl2 bl2 hc cls2) tb hcode hmT one (rg.rm.mono (by omega)) L rfl (fun _ _ _ _ _ => rfl) hbody2 g2 t6 t7
  refine sim_pl (by show G.ff f = false; unfold Prog.ff; rw [hGT]; rfl) (pe.imp fun σ H Q ⟨F, env, u, d, u', A, ev, k⟩ => ⟨A.tab.t, fun H1 gr T1 => ?_⟩)
  simp only [evalE] at ev
  obtain ⟨⟨ds, u1⟩, e1, ev⟩ := Option.bind_eq_some_iff.mp ev
  obtain ⟨ds', e2, ev⟩ := Option.bind_eq_some_iff.mp ev
  obtain ⟨d1, e3, ev⟩ := Option.bind_eq_some_iff.mp ev
  cases ev
  have hfn : (ctxN G (m + 1)).fn f ds' = (runF (ctxN G m) G.ff (toldFun t.f t.fq t.np t.cl t.fin) ds' []).map (·.1) := by
    unfold ctxN ctxOf
    simp only [hGT]
    show (callU G (m + 1) f ds' []).map (·.1) = _
    simp only [callU, hGT]
    rfl
  rw [hfn, Option.map_eq_some_iff] at e3
  obtain ⟨⟨d2, u2⟩, e3, rfl⟩ := e3
  obtain ⟨hl, hcase⟩ := told_ev e3
  obtain ⟨A1, P0⟩ := gr.at_ T1 A
  rw [eqEs_ctx (C := ctxN G (m + 1)) (C' := ctxN G m) rfl k5] at e1
  have hfx : ∀ ds, (ctxN G m).fn t.f ds = (callU G m t.f ds []).map (·.1) := fun ds => by
    unfold ctxN ctxOf
    simp only [n2, h4, Bool.false_eq_true, if_false]
  have fin : ∀ {F1 H2 F2 H3 : Hp} (P1 : Post au F H F1 H2 u1) (P2 : Post none F1 H2 F2 H3 []) (ss : List Str) (hs : d2 = .list (ss.map .str)) (p : Addr) (hp : H3 p = none), Q (.ref p) (upd H3 p (.lst (ss.map V.str))) := fun {F1 H2 F2 H3} P1 P2 ss hs p hp => by
    have P3 : Post au F H F2 H3 u1 := P1.trans (Post.of2 P1.urn P2)
    have P4 : Post au F H (upd F2 p (.lst (ss.map V.str))) (upd H3 p (.lst (ss.map V.str))) u1 := P3.trans (Post.of P3.urn P3.tab (ext_newF hp) (sub_newF P3.sub))
    refine k _ _ _ P4 ?_
    subst hs
    refine Pl.Dp.lst (.inl (.inl upd_same)) ?_
    exact dpAll_strs ss
  refine ⟨F, env, u, ds, u1, ds', A1, e1, e2, fun vs F1 H2 P1 r1 => ⟨ds', F1, P1.tab, P1.sub, r1, hl.trans n1.symm, ?_⟩⟩
  have P01 := P0.trans P1
  rcases hcase with ⟨c1, ⟨v, c2⟩, c3⟩ | ⟨kc, s, ee, tt, c1, c2, c3, c4⟩
  · rw [hfx, Option.map_eq_some_iff] at c2
    obtain ⟨⟨v', u3⟩, c2, _⟩ := c2
    exact .inl ⟨v', u3, c2, fun v F2 H3 P2 r2 => ⟨by simp [sizeLine_eq], fun p hp => fin P01 P2 [t.fin] c3 p hp⟩⟩
  · rw [hfq, Option.map_eq_some_iff] at c1
    obtain ⟨⟨v', u3⟩, c1, c1'⟩ := c1
    subst c1'
    refine .inr (.inl ⟨s, ee, u3, c1, fun F2 H3 cv dd P2 x2 => ea_of xf x2 P2.sub c3 (fun F4 H4 x4 s4 p hp => ?_) c2 hcl⟩)
    exact fin P01 (P2.trans (Post.of UrnR.no P2.tab x4 s4)) [kc.word, tt] c4 p hp⟩
end Pl

set_option maxHeartbeats 400000
/-! PX7: all defs together, those that raise and those that tell of it. -/
namespace Pl
open PySem PyProof.Rows
open L2 (V Hp HO VK XK WX TE TT TA TS TG TGs Cx PE PT PW PA PS PSs PG PGs PI PK PMk Inv SqL SqT DpAll Vals RelV EP Gl Vis Ends Sp FnScope Env0 CE CR CX0 Room Fun Binds KBinds FnOk Passes Takes upd upd_same upd_ne del exo exd)
variable [Tabl]

/-- a module: constants, built-ins, defs; what finds the exceptions of a def; the telling def's calls; the classes of errors; the defs that make lambdas -/
structure PackX where
  T : String → Option Entry
  glob : String → Option D
  bl : List Str
  gcd : Bool
  xs : List (String × XEnt)
  td : List (String × TEnt)
  xc : XC
  cls : List Str
  lm : List String
def PackX.G (p : PackX) : Prog := ⟨fun f => match p.T f with
  | some e => some e.fn
  | none => match p.xs.lookup f with
    | some x => some x.fn
    | none => (p.td.lookup f).map fun t => toldFun t.f t.fq t.np t.cl t.fin, p.glob⟩
def Entry.ck (p : PackX) (e : Entry) : CK := { N := e.N, sc := L2.defScope e.st, cells := none, urn := e.fn.urn, bl := p.bl, gcd := p.gcd, T := p.T, G := p.G, rp := e.rp, told := if e.rp && p.lm.contains e.name then (fun f => p.td.lookup f) else fun _ => none }
def Entry.cx (p : PackX) (e : Entry) : CK := { N := e.N, sc := L2.defScope e.st, cells := none, urn := e.fn.urn, bl := p.bl, gcd := p.gcd, T := p.T, G := p.G, rp := false, told := fun _ => none }
def chkEntry (p : PackX) (f : String) (e : Entry) : Bool := decide (e.name = f) && chkSs (e.ck p) e.fn.fresh e.fn.body (L2.defBody e.st) && scopeB e.N e.ps (L2.defScope e.st) && decide (e.ps.length = e.fn.np) && decide (e.N.length = e.fn.ns)
def chkXEnt (p : PackX) (q : String) (x : XEnt) : Bool := (p.T q).isNone && (match p.T x.real with
  | some e => chkXs (e.cx p) (fun q => p.xs.lookup q) p.xc x.whole x.fn.body (L2.defBody e.st) && !e.rp && !e.fn.urn && decide (x.fn.np = e.fn.np) && decide (x.fn.ns = e.fn.ns) && !x.fn.urn && !x.fn.fresh
  | none => false)
def chkTEnt (p : PackX) (f : String) (t : TEnt) : Bool := (p.T f).isNone && (p.xs.lookup f).isNone && (match p.T t.td with
  | some e => decide (e.qual = Str.ofString t.td) && decide (e.ps.length = 1) && toldB (fun x => decide ((L2.defScope e.st).names.lookup x = some .globalImplicit) && !(x == ("__debug__" : Str))) (fun x => decide ((L2.defScope e.st).names.lookup x = some .globalImplicit) && p.bl.contains x) (L2.defScope e.st) e.N t (L2.defBody e.st)
  | none => false) && (match p.T t.f with
  | some en => decide (en.fn.np = t.np)
  | none => false) && (match p.xs.lookup t.fq with
  | some x => decide (x.real = t.f)
  | none => false) && t.cl.all fun k => p.cls.contains k.cls && decide (p.xc.lookup k.cls = some (some k.fld))

structure FactsX (P : Program) (w : World) (K : PySem.W.Frag) (mg : Str → Option Value) (bas : Heap) (p : PackX) : Prop where
  has : ∀ f e, p.T f = some e → Has K mg f e
  blt : ∀ x ∈ p.bl, mg x = none
  gcd : p.gcd = true → mg "gcd" = some (.builtin "math.gcd")
  glb : ∀ g d, p.glob g = some d → ∃ v u, mg (Str.ofString g) = some u ∧ RelV v u ∧ ∀ F, Pl.Dp K F v d
  xf : XFacts P w K mg bas p.xc p.cls
  mkr : ∀ f e, f ∈ p.lm → p.T f = some e → ∀ fa fd, mg (Str.ofString f) = some (.ref fa) → Fun K (Str.ofString f) e.qual e.st fa fd → ∃ c Pt, fd.code = .ref c ∧ LamX.TabB bas mg c Pt ∧ (Pt, (e.qual ++ ".<locals>.") ++ "<lambda>") ∈ Tabl.T ∧ ∀ q ∈ Tabl.T, q.1 = Pt → q.2 = (e.qual ++ ".<locals>.") ++ "<lambda>"

section
variable {P : Program} {w : World} {K : PySem.W.Frag} {mg : Str → Option Value} {bas : Heap} {p : PackX}
theorem callU_real {n : Nat} {f : String} {q : PFun} (h : p.G.T f = some q) : callU p.G (n + 1) f = runF (ctxN p.G n) p.G.ff q := by
  funext ds u
  show (match p.G.T f with | some q => runF (ctxOf p.G (callU p.G n)) p.G.ff q ds u | none => none) = _
  rw [h]
  rfl
theorem G_T {f : String} {e : Entry} (h : p.T f = some e) : p.G.T f = some e.fn := by
  show (match p.T f with | some e => some e.fn | none => _) = _
  rw [h]
theorem G_xs {q : String} {x : XEnt} (h0 : p.T q = none) (h : p.xs.lookup q = some x) : p.G.T q = some x.fn := by
  show (match p.T q with | some e => some e.fn | none => match p.xs.lookup q with | some x => some x.fn | none => _) = _
  rw [h0]
  show (match p.xs.lookup q with | some x => some x.fn | none => _) = _
  rw [h]
theorem G_td {f : String} {t : TEnt} (h0 : p.T f = none) (h1 : p.xs.lookup f = none) (h : p.td.lookup f = some t) : p.G.T f = some (toldFun t.f t.fq t.np t.cl t.fin) := by
  show (match p.T f with | some e => some e.fn | none => match p.xs.lookup f with | some x => some x.fn | none => (p.td.lookup f).map _) = _
  rw [h0]
  show (match p.xs.lookup f with | some x => some x.fn | none => (p.td.lookup f).map _) = _
  rw [h1]
  show (p.td.lookup f).map _ = _
  rw [h]
  rfl
/-- what holds of all defs at a level -/
def LvlG (P : Program) (w : World) (K : PySem.W.Frag) (mg : Str → Option Value) (bas : Heap) (p : PackX) (n : Nat) : Prop := ∀ f e, p.T f = some e → ∀ fa fd, mg (Str.ofString f) = some (.ref fa) → Fun K (Str.ofString f) e.qual e.st fa fd → FnG P w K mg bas e.rp (3 * n) fa fd e.ps (spF K e.fn (callU p.G n f))
def LvlX (P : Program) (w : World) (K : PySem.W.Frag) (mg : Str → Option Value) (bas : Heap) (p : PackX) (n : Nat) : Prop := ∀ q x e, p.xs.lookup q = some x → p.T x.real = some e → ∀ fa fd, mg (Str.ofString x.real) = some (.ref fa) → Fun K (Str.ofString x.real) e.qual e.st fa fd → FnOk P w K mg bas (L2.CX P w) (3 * n) fa fd e.ps (spX K mg p.xc e.fn.np e.fn.fresh x.whole (callU p.G n x.real) (callU p.G n q))
theorem okx_of (facts : FactsX P w K mg bas p) {n : Nat} (lg : LvlG P w K mg bas p n) {X : Cx} {c : CK} {au : Option Addr} (h1 : X.prog = P) (h2 : X.w = w) (h3 : X.K = K) (h4 : X.mg = mg) (h5 : X.base = bas) (hG : c.G = p.G) (hTT : c.T = p.T) (hbl : c.bl = p.bl) (hgc : c.gcd = p.gcd) (hN : X.N = c.N) (nd : c.N.Nodup) (sc : X.env.scope = c.sc) (calm : X.calm = true)
    (fn : ∀ x, c.fnB x = true → X.fn x = true ∨ X.env.scope.names.lookup x = some .local) (own : PassesOwn (model X.prog X.w) X.A X.env X.xe) (rg : RoomG c.rp (3 * n + 2) X.A) (hau : au.isSome = c.urn) (td : ∀ f t, c.told f = some t → ToldOk X c p.G n au f) : Okx X c p.G n au := by
  subst h1 h2 h3 h4 h5
  exact {
    hG := hG
    td := td
    hN := hN
    nd := nd
    sc := sc
    calm := calm
    fn := fn
    own := own
    rg := rg
    au := hau
    blt := by rw [hbl]; exact facts.blt
    gcd := by rw [hgc]; exact facts.gcd
    fns := fun f e hT => by
      rw [hTT] at hT
      obtain ⟨fa, fd, m1, m2, m3, m4⟩ := (facts.has f e hT).ex
      exact ⟨fa, fd, m1, m2.kp, m3, m4, lg f e hT fa fd m1 m2⟩
    glb := facts.glb
    tab := fun f e hT => by rw [hTT] at hT; exact G_T hT }
theorem callX_of (facts : FactsX P w K mg bas p) {n : Nat} (lx : LvlX P w K mg bas p n) {X : Cx} (h1 : X.prog = P) (h2 : X.w = w) (h3 : X.K = K) (h4 : X.mg = mg) (h5 : X.base = bas) {q : String} {x : XEnt} {e : Entry} (hq : p.xs.lookup q = some x) (hT : p.T x.real = some e) : CallX X p.xc p.G n x.real e q x.whole := by
  subst h1 h2 h3 h4 h5
  obtain ⟨fa, fd, m1, m2, m3, m4⟩ := (facts.has _ _ hT).ex
  exact ⟨fa, fd, m1, m2.kp, m3, m4, lx q x e hq hT fa fd m1 m2⟩

theorem all_ok (facts : FactsX P w K mg bas p) (chk : ∀ f e, p.T f = some e → chkEntry p f e = true) (chx : ∀ q x, p.xs.lookup q = some x → chkXEnt p q x = true) (cht : ∀ f t, p.td.lookup f = some t → chkTEnt p f t = true) : ∀ n, LvlG P w K mg bas p n ∧ LvlX P w K mg bas p n := by
  -- an exception's term is in the table as it is told
  have xsT : ∀ q x, p.xs.lookup q = some x → p.T q = none ∧ ∃ e, p.T x.real = some e ∧ chkXs (e.cx p) (fun q => p.xs.lookup q) p.xc x.whole x.fn.body (L2.defBody e.st) = true ∧ e.rp = false ∧ e.fn.urn = false ∧ x.fn.np = e.fn.np ∧ x.fn.ns = e.fn.ns ∧ x.fn.urn = false ∧ x.fn.fresh = false := fun q x hq => by
    have h := chx q x hq
    unfold chkXEnt at h
    simp only [Bool.and_eq_true, Option.isNone_iff_eq_none] at h
    obtain ⟨h0, h⟩ := h
    refine ⟨h0, ?_⟩
    split at h <;> first | contradiction | skip
    rename_i e hT
    simp only [Bool.and_eq_true, decide_eq_true_eq, Bool.not_eq_true'] at h
    obtain ⟨⟨⟨⟨⟨⟨k1, k2⟩, k3⟩, k4⟩, k5⟩, k6⟩, k7⟩ := h
    exact ⟨e, hT, k1, k2, k3, k4, k5, k6, k7⟩
  have entT : ∀ f e, p.T f = some e → e.name = f ∧ chkSs (e.ck p) e.fn.fresh e.fn.body (L2.defBody e.st) = true ∧ FnScope e.N e.ps (L2.defScope e.st) ∧ e.ps.length = e.fn.np ∧ e.N.length = e.fn.ns := fun f e hT => by
    have h := chk f e hT
    unfold chkEntry at h
    simp only [Bool.and_eq_true, decide_eq_true_eq] at h
    obtain ⟨⟨⟨⟨h0, h1⟩, h2⟩, h3⟩, h4⟩ := h
    exact ⟨h0, h1, scopeB_ok h2, h3, h4⟩
  have xq : ∀ n q x, p.xs.lookup q = some x → ∀ ds, (ctxN p.G n).fn q ds = (callU p.G n q ds []).map (·.1) := fun n q x hq ds => by
    obtain ⟨h0, e, hT, _, _, _, _, _, hu, _⟩ := xsT q x hq
    unfold ctxN ctxOf
    simp only [G_xs h0 hq, hu, Bool.false_eq_true, if_false]
  intro n
  induction n using Nat.strongRecOn with
  | _ n ih =>
  match n, ih with
  | 0, _ =>
    refine ⟨fun f e hT fa fd hmf F => ?_, fun q x e hq hT fa fd hmf F => ?_⟩
    · have no : ∀ {vs H Q E}, ¬ spF K e.fn (callU p.G 0 f) vs H Q E := fun {vs H Q E} ⟨au, ws, ds, F, u, d, u', _, _, _, _, _, _, _, _, h, _⟩ => by cases h
      exact ⟨fun _ _ _ _ h => (no h).elim, fun _ _ _ _ _ _ _ _ _ _ _ _ _ h => (no h).elim⟩
    · have no : ∀ {vs H Q E}, ¬ spX K mg p.xc e.fn.np e.fn.fresh x.whole (callU p.G 0 x.real) (callU p.G 0 q) vs H Q E := fun {vs H Q E} ⟨ds, F, _, _, _, _, h⟩ => by
        rcases h with ⟨_, _, h, _⟩ | ⟨_, _, _, h, _⟩ | ⟨_, _, h, _⟩ <;> cases h
      exact ⟨fun _ _ _ _ h => (no h).elim, fun _ _ _ _ _ _ _ _ _ _ _ _ _ h => (no h).elim⟩
  | n + 1, ih =>
    obtain ⟨lg, lx⟩ := ih n (Nat.lt_succ_self n)
    refine ⟨fun f e hT fa fd hmf F => ?_, fun q x e hq hT fa fd hmf F => ?_⟩
    · obtain ⟨hname, k1, S, k3, k4⟩ := entT f e hT
      rw [callU_real (G_T hT)]
      refine (fnG_body (k := 3 * n + 2) F S k3 k4 fun cdv hcode A outer s H E au hau rg => ?_)
      refine okSs (c := e.ck p) (G := p.G) (n := n) ?_ e.fn.body _ k1
      refine okx_of facts lg rfl rfl rfl rfl rfl rfl rfl rfl rfl rfl S.nd rfl rfl (fun x _ => .inl rfl) PassesOwn.never rg hau fun f' t ht => ?_
      -- a call of the telling def
      have ht' : (e.rp = true ∧ f ∈ p.lm) ∧ p.td.lookup f' = some t := by
        have h : (if e.rp && p.lm.contains e.name then (fun f => p.td.lookup f) else fun _ => none) f' = some t := ht
        split at h
        · rename_i hz
          simp only [Bool.and_eq_true, List.contains_iff_mem] at hz
          rw [hname] at hz
          exact ⟨hz, h⟩
        · cases h
      obtain ⟨⟨hrp, hmk⟩, htd⟩ := ht'
      have hc := cht f' t htd
      unfold chkTEnt at hc
      simp only [Bool.and_eq_true, Option.isNone_iff_eq_none, List.all_eq_true, decide_eq_true_eq, List.contains_iff_mem] at hc
      obtain ⟨⟨⟨⟨⟨c0, c1⟩, c2⟩, c3⟩, c4⟩, c5⟩ := hc
      have hGT := G_td c0 c1 htd
      match n, ih, lg, lx, rg with
      | 0, _, _, _, _ =>
        exact ⟨fun {es perm ex} _ => sim_never (fun env u => by
          simp only [evalE]
          cases h1 : evalEs (ctxN p.G 0) es env u with
          | none => rfl
          | some r =>
            simp only [Option.bind_some]
            cases h2 : pick r.1 perm with
            | none => rfl
            | some ds =>
              simp only [Option.bind_some]
              have : (ctxN p.G 0).fn f' ds = none := by
                unfold ctxN ctxOf
                simp only [hGT]
                rfl
              rw [this]; rfl) pe_never⟩
      | m + 1, ih, lg, lx, rg =>
        obtain ⟨lg', lx'⟩ := ih m (by omega)
        split at c2 <;> first | contradiction | skip
        rename_i te hte
        simp only [Bool.and_eq_true, decide_eq_true_eq] at c2
        obtain ⟨⟨d1, d2⟩, d3⟩ := c2
        split at c3 <;> first | contradiction | skip
        rename_i en hen
        have c3 : en.fn.np = t.np := by simpa using c3
        split at c4 <;> first | contradiction | skip
        rename_i x hx
        have c4 : x.real = t.f := by simpa using c4
        obtain ⟨tfa, tfd, m1, m2, m3, m4⟩ := (facts.has _ _ hte).ex
        obtain ⟨_, _, St, _, _⟩ := entT _ _ hte
        obtain ⟨cc, Pt, q1, q2, q3, q4⟩ := facts.mkr f e hmk hT fa fd hmf F
        rw [d1] at m2
        refine told_sim (e := te) (xc := p.xc) (cls := p.cls) (bl := p.bl) (wh := x.whole) ⟨cc, Pt, q2, by rw [← q1]; exact hcode.symm, q3, q4⟩ ht hGT (by rw [← hrp]; exact rg)
          (fun A outer s H E sc f0 c0' L hr => ?_) (fun A outer s H E sc f0 c0' en' hen' => ?_) (fun en' hen' => ?_) (xq m t.fq x hx) rfl (fun {y} hy => ?_) m1 m2 m3 St ?_ d3 facts.blt facts.xf c5
        · refine okx_of facts lg' rfl rfl rfl rfl rfl rfl rfl rfl rfl rfl S.nd rfl rfl (fun y hy => ?_) PassesOwn.leaving ⟨hr.mono (by omega), fun z => by cases z⟩ hau fun _ _ z => nomatch z
          unfold CK.fnB CK.kindB CK.lam at hy
          simp only [Bool.or_eq_true, decide_eq_true_eq] at hy
          rcases hy with hy | hy
          · exact .inr hy
          · exact absurd rfl (L.own _ (PySem.mem_of_lookup hy)).2
        · have hen'' : p.T t.f = some en' := hen'
          rw [← c4] at hen'' ⊢
          exact callX_of facts lx' rfl rfl rfl rfl rfl hx hen''
        · have hen'' : p.T t.f = some en' := hen'
          rw [hen] at hen''
          cases hen''
          exact ⟨c3, G_T hen⟩
        · unfold CK.gl CK.kindB at hy
          simp only [Bool.and_eq_true, Bool.not_eq_true', decide_eq_true_eq] at hy
          exact ⟨hy.1, hy.2⟩
        · match h : te.ps, d2 with
          | [a], _ => exact ⟨a, rfl⟩
    · obtain ⟨h0, e', hT', k1, k2, k3, k4, k5, k6, k7⟩ := xsT q x hq
      rw [hT] at hT'
      cases hT'
      obtain ⟨hname, j1, S, j3, j4⟩ := entT _ _ hT
      rw [callU_real (G_T hT), callU_real (G_xs h0 hq)]
      refine fnX_body (k := 3 * n + 2) F S j3 j4 k3 k4 k5 k6 k7 fun cdv A outer s H E rm => ?_
      have rg : ∀ b, b = false → RoomG b (3 * n + 2) (A.deeper (envOfC e.qual (L2.defScope e.st) s.heap.objs.size fa cdv)) := fun b hb => ⟨rm, fun z => by rw [hb] at z; cases z⟩
      have tk : Takes (L2.cxOf (L2.CX P w) P w K mg bas e.N e.qual (L2.defScope e.st) fa cdv A outer s H E) (fun cls d _ H => E cls d H) := L2.takes_of rfl rfl rfl rfl
      have o1 : Okx (L2.cxOf (L2.CX P w) P w K mg bas e.N e.qual (L2.defScope e.st) fa cdv A outer s H E) (e.ck p) p.G n none :=
        okx_of facts lg rfl rfl rfl rfl rfl rfl rfl rfl rfl rfl S.nd rfl rfl (fun x _ => .inl rfl) PassesOwn.leaving (rg _ k2) k3.symm fun f' t ht => by
          have h : (if e.rp && p.lm.contains e.name then (fun f => p.td.lookup f) else fun _ => none) f' = some t := ht
          rw [k2] at h
          simp at h
      have o2 : Okx (L2.cxOf (L2.CX P w) P w K mg bas e.N e.qual (L2.defScope e.st) fa cdv A outer s H E) (e.cx p) p.G n none :=
        okx_of facts lg rfl rfl rfl rfl rfl rfl rfl rfl rfl rfl S.nd rfl rfl (fun x _ => .inl rfl) PassesOwn.leaving (rg _ rfl) k3.symm fun f' t ht => nomatch ht
      refine ⟨okSs o1 _ _ j1, okXs ⟨o2, fun q' x' en hq' hT' => callX_of facts lx rfl rfl rfl rfl rfl hq' hT', fun q' x' hq' => xq n q' x' hq', fun y f' hl => ?_⟩ _ _ k1⟩
      obtain ⟨C, i1, _⟩ := facts.xf.fld y f' hl
      exact ⟨C, i1⟩
end
end Pl

set_option maxHeartbeats 400000
/-! PX8: the law's own call, with tables of code objects. -/
namespace Pl
open PySem PyProof.Rows
open L2 (V Hp HO VK XK WX TE TT TA TS Cx PE PA PS PSs Inv SqL SqT DpAll Vals RelV EP Gl Vis Ends Sp FnScope Env0 CE CR CX0 Room Fun Binds KBinds PK upd upd_same upd_ne)

theorem law_callT {P : Program} {w : World} {K : PySem.W.Frag} {mg mb : Str → Option Value} {k : Nat} {fa a : Addr} {cs : List (Addr × Addr)} {fd : FuncData} {x : Str} {sp : Sp} {s₁ : Shared} {vs : List Value} {ns : List Int}
    (kIn : K.In s₁.heap) (nG : s₁.heap.Ns mainGlobals mg) (nB : s₁.heap.Ns builtinsNs mb) (nBB : ∀ x : Str, x ≠ "__name__" → mb x = bootBuiltins x) (lim : s₁.heap.NoLimit) (gens : s₁.gens = #[])
    (tabs : ∀ p ∈ cs, s₁.heap.get? p.2 = some { cls := .none, data := .fields #[] }) (offK : ∀ p ∈ cs, K.lookup p.2 = none) (codes : ∀ p ∈ cs, PySem.W.CodeHd s₁.heap p.1 p.2)
    (bltm : ∃ (bm : Addr) (ob : Obj), mg "__builtins__" = some (.ref bm) ∧ bm ≠ builtinsNs ∧ s₁.heap.get? bm = some ob ∧ ob.cls = .type "module" ∧ ob.dict = some builtinsNs ∧ ob.data = .plain)
    (isL : s₁.heap.get? a = some { cls := .type "list", data := .seq vs.toArray }) (isI : IntsAre vs ns) (short : ns.length ≤ sizeLine) (room : Room k callerA)
    (F : ∀ bas : Heap, K.In bas → bas.Ns mainGlobals mg → (∀ p ∈ cs, LamX.TabB bas mg p.1 p.2) → FnG P w K mg bas true k fa fd [x] sp) (bind : ∀ (s : Shared) (u : Value), BindsTo s fd ⟨[u], []⟩ [(x, u)])
    (promise : ∀ H : Hp, (∀ p ∈ cs, H p.2 = some (.tbl #[])) → SqL K H a (ns.map V.int) → sp [.ref a] H (fun v _ => v = .bl true) L2.E0) :
    codeAny (model P w) callerA (.call (.ref fa) ⟨[.ref a], []⟩) (fun r s' => r = .ok (.ret (.bool true)) ∧ OldK s₁.heap s'.heap ∧ s'.os = s₁.os ∧ AllBare s'.gens) s₁ := by
  have vals := L2.vals_ints isI
  have lenI := isI.length
  let ts := cs.map (·.2)
  have atT : ∀ b : Addr, b ∈ ts → s₁.heap.get? b = some { cls := .none, data := .fields #[] } := fun b hb => by
    obtain ⟨p, hp, e⟩ := List.mem_map.mp hb
    rw [← e]; exact tabs p hp
  have aOff : a ∉ ts := fun z => by
    have q := atT a z
    rw [isL] at q
    have q2 : Data.seq vs.toArray _ = Data.fields #[] := congrArg Obj.data (Option.some.inj q)
    cases q2
  have inT : ∀ p ∈ cs, p.2 ∈ ts := fun p hp => List.mem_map.mpr ⟨p, hp, rfl⟩
  have main : ∀ H : Hp, (∀ p ∈ cs, H p.2 = some (.tbl #[])) → (∀ b, H b = none ∨ b ∈ ts ∨ ∃ o xs, H b = some (.frz o (.lst xs))) → SqL K H a (ns.map V.int) → L2.HOk P w H s₁.heap → (∀ b, H b ≠ none → b = a ∨ b ∈ ts) → (∀ o, K.lookup a = some o → H a = none) →
      codeAny (model P w) callerA (.call (.ref fa) ⟨[.ref a], []⟩) (fun r s' => r = .ok (.ret (.bool true)) ∧ OldK s₁.heap s'.heap ∧ s'.os = s₁.os ∧ AllBare s'.gens) s₁ := fun H hT only sq hok away own => by
    have see : ∀ {b : Addr} {o : Obj}, s₁.heap.get? b = some o → H b = none → (L2.hidT s₁.heap H).get? b = some o := fun e n => L2.hidT_get e n
    -- what is neither a list nor a table is not tracked
    have plainB : ∀ {b : Addr} {o : Obj}, s₁.heap.get? b = some o → (∀ xs m, o.data ≠ .seq xs m) → o.data ≠ .fields #[] → H b = none := fun {b o} e h1 h2 => by
      cases q : H b with
      | none => rfl
      | some u =>
        exfalso
        rcases away b (by rw [q]; exact fun z => nomatch z) with z | z
        · rw [z, isL] at e; cases e; exact h1 _ _ rfl
        · rw [atT b z] at e; cases e; exact h2 rfl
    have ns' : ∀ {b : Addr} {m : Str → Option Value}, s₁.heap.Ns b m → (L2.hidT s₁.heap H).Ns b m := fun {b m} ⟨o, es, ep, e, d, r⟩ =>
      ⟨o, es, ep, see e (plainB e (fun xs m z => by rw [d] at z; cases z) fun z => by rw [d] at z; cases z), d, r⟩
    have kIn' : K.In (L2.hidT s₁.heap H) := fun b o e => see (kIn b o e) (by
      cases q : H b with
      | none => rfl
      | some u =>
        rcases away b (by rw [q]; exact fun z => nomatch z) with z | z
        · rw [z] at e q; rw [own o e] at q; cases q
        · obtain ⟨p, hp, ep⟩ := List.mem_map.mp z
          rw [← ep, offK p hp] at e; cases e)
    have mod : L2.Mod K mg (L2.hidT s₁.heap H) := by
      obtain ⟨mc, l1, l2⟩ := lim
      exact ⟨kIn', ns' nG, ⟨mb, ns' nB, nBB⟩, ⟨mc, ns' l1, l2⟩⟩
    have tb : ∀ p ∈ cs, LamX.TabB (L2.hidT s₁.heap H) mg p.1 p.2 := fun p hp => by
      have here := tabs p hp
      refine ⟨?_, ?_, fun z => ?_⟩
      · obtain ⟨o, us, file, tf, flags, tg, inF, text, tt, e1, r1, r2, r3, rest⟩ := codes p hp
        refine ⟨o, us, file, tf, flags, tg, inF, text, tt, see e1 (plainB e1 (fun xs m z => by rw [r2] at z; cases z) fun z => ?_), r1, r2, r3, rest⟩
        rw [r2] at z
        cases z
        simp at r3
      · obtain ⟨bm, ob, b1, b2, b3, b4, b5, b6⟩ := bltm
        have ne1 : bm ≠ mainGlobals := fun q => by
          obtain ⟨o, es, ep, e, hd, _⟩ := nG
          rw [q, e] at b3
          cases b3
          rw [hd] at b6; cases b6
        have ne2 : bm ≠ p.2 := fun q => by
          rw [q, here] at b3
          cases b3
          cases b6
        exact ⟨bm, ob, b1, b2, ne1, ne2, see b3 (plainB b3 (fun xs m z => by rw [b6] at z; cases z) fun z => by rw [b6] at z; cases z), b4, b5, b6⟩
      · obtain ⟨o, es, ep, e, hd, _⟩ := nG
        rw [z, here] at e
        cases e
        cases hd
    have env0 : Env0 P w K mg (L2.hidT s₁.heap H) callerA [] s₁ H := {
      frames := rfl
      mod := mod
      bs := fun b o e => L2.of_hidT e
      bsz := Nat.le_of_eq (L2.hidT_size _ _)
      funs := trivial
      frf := fun b hb => absurd (show b ∈ ([] : List Addr) from hb) (by simp)
      hok := hok
      bare := .of_eq gens }
    have run := (F _ kIn' (ns' nG) tb).go callerA ⟨room, fun _ => rfl⟩ [] s₁ H env0 ⟨[.ref a], []⟩ [.ref a] [.ref a] (bind s₁ (.ref a)) (.cons rfl .nil) _ _ (promise H hT sq)
    refine codeAny_mono run fun r s' h => ?_
    match r, h with
    | .ok (.ret u), ⟨v, H', os, bare, un, hok', rel, (q : v = .bl true)⟩ =>
      subst q
      obtain rfl : u = Value.bool true := rel
      have no : ∀ {b : Addr}, b ∈ L2.frs [] → False := fun {b} z => by cases z
      have stays : ∀ b o, b ∉ ts → s₁.heap.get? b = some o → s'.heap.get? b = some o := fun b o nb e => by
        cases z : H b with
        | none => exact un.keep b o e z (fun m => no m) (by simp)
        | some u =>
          rcases only b with y | y | ⟨ob, xs, y⟩
          · rw [z] at y; cases y
          · exact absurd y nb
          · obtain ⟨e1, _⟩ := hok b _ y
            obtain ⟨e2, _⟩ := hok' b _ (un.frzs b ob _ y)
            rw [e] at e1
            cases e1
            exact e2
      have grows : ∀ p ∈ cs, ∃ more : Array Value, s'.heap.get? p.2 = some { cls := .none, data := .fields more } := fun p hp => by
        obtain ⟨more, z⟩ := un.tbls p.2 #[] (hT p hp)
        exact ⟨_, hok' p.2 _ z⟩
      refine ⟨rfl, ⟨fun b o e => ?_, fun b o e => ?_⟩, os, bare⟩
      · by_cases hb : b ∈ ts
        · obtain ⟨p, hp, ep⟩ := List.mem_map.mp hb
          obtain ⟨more, hm⟩ := grows p hp
          rw [← ep] at e ⊢
          rw [tabs p hp] at e
          cases e
          exact .inr (.inl ⟨((codes p hp).tab (tabs p hp)).isCodeTable, rfl, #[], more, rfl, by rw [Array.empty_append]; exact hm⟩)
        · exact .inl (stays b o hb e)
      · by_cases hb : b ∈ ts
        · obtain ⟨p, hp, ep⟩ := List.mem_map.mp hb
          obtain ⟨more, hm⟩ := grows p hp
          rw [← ep]
          exact ⟨_, hm⟩
        · exact ⟨o, stays b o hb e⟩
  -- the heap that is tracked: the tables, and the script if it is none of the module's
  have frame : ∀ (Ha : Option HO), (Ha = none ∨ ∃ xs, Ha = some (.frz { cls := .type "list", data := .seq vs.toArray } (.lst xs))) → (∀ u, Ha = some u → L2.ObjOk P w (fun b => if b = a then Ha else if b ∈ ts then some (.tbl #[]) else none) s₁.heap a u) → SqL K (fun b => if b = a then Ha else if b ∈ ts then some (.tbl #[]) else none) a (ns.map V.int) → (∀ o, K.lookup a = some o → Ha = none) →
      codeAny (model P w) callerA (.call (.ref fa) ⟨[.ref a], []⟩) (fun r s' => r = .ok (.ret (.bool true)) ∧ OldK s₁.heap s'.heap ∧ s'.os = s₁.os ∧ AllBare s'.gens) s₁ := fun Ha hHa okA sq own => by
    refine main _ (fun p hp => ?_) (fun b => ?_) sq (fun b u z => ?_) (fun b z => ?_) fun o ho => by
      show (if a = a then Ha else _) = none
      rw [if_pos rfl]; exact own o ho
    · show (if p.2 = a then Ha else if p.2 ∈ ts then some (.tbl #[]) else none) = _
      rw [if_neg fun z => aOff (by rw [← z]; exact inT p hp), if_pos (inT p hp)]
    · show (if b = a then Ha else if b ∈ ts then some (.tbl #[]) else none) = none ∨ _ ∨ ∃ o xs, (if b = a then Ha else if b ∈ ts then some (.tbl #[]) else none) = _
      by_cases e : b = a
      · rw [if_pos e]
        rcases hHa with h | ⟨xs, h⟩
        · exact .inl h
        · exact .inr (.inr ⟨_, xs, h⟩)
      · rw [if_neg e]
        by_cases hb : b ∈ ts
        · exact .inr (.inl hb)
        · exact .inl (if_neg hb)
    · have z2 : (if b = a then Ha else if b ∈ ts then some (HO.tbl #[]) else none) = some u := z
      by_cases e : b = a
      · rw [if_pos e] at z2
        rw [e]
        exact okA u z2
      · rw [if_neg e] at z2
        by_cases hb : b ∈ ts
        · rw [if_pos hb] at z2
          cases z2
          exact atT b hb
        · rw [if_neg hb] at z2; cases z2
    · have z2 : (if b = a then Ha else if b ∈ ts then some (HO.tbl #[]) else none) ≠ none := z
      by_cases e : b = a
      · exact .inl e
      · rw [if_neg e] at z2
        by_cases hb : b ∈ ts
        · exact .inr hb
        · exact absurd (if_neg hb) z2
  cases inMod : K.lookup a with
  | some o =>
    have e := kIn a o inMod
    rw [isL] at e
    cases e
    exact frame none (.inl rfl) (fun u z => nomatch z) (.inr ⟨_, vs.toArray, _, inMod, rfl, rfl, rfl, by rw [List.size_toArray, lenI]; exact short, by simpa using vals⟩) fun _ _ => rfl
  | none =>
    refine frame (some (.frz { cls := .type "list", data := .seq vs.toArray } (.lst (ns.map V.int)))) (.inr ⟨_, rfl⟩) (fun u z => ?_) (.inl (.inr ⟨_, if_pos rfl⟩)) fun o q => by rw [inMod] at q; cases q
    cases z
    exact ⟨isL, by rw [List.length_map]; exact short, vs, _, vals, isL⟩

/-- what is tracked but the tables -/
def ntH (H : Hp) : Hp := fun a => match H a with | some (.tbl _) => none | o => o
theorem ntH_sub (H : Hp) : Sub (ntH H) H := fun a o h => by
  unfold ntH at h
  split at h
  · cases h
  · exact h
theorem ntH_no (H : Hp) (a : Addr) (ps : Array Value) : ntH H a ≠ some (.tbl ps) := fun h => by
  unfold ntH at h
  split at h
  · cases h
  · rename_i hn
    exact hn ps h
theorem sqL_nt {K : PySem.W.Frag} {H : Hp} {a : Addr} {xs : List V} (h : SqL K H a xs) : SqL K (ntH H) a xs := by
  have k : ∀ o, H a = some o → (∀ ps, o ≠ .tbl ps) → ntH H a = some o := fun o e ho => by
    unfold ntH
    rw [e]
    cases o <;> first | rfl | exact absurd rfl (ho _)
  rcases h with (h | ⟨o, h⟩) | h
  · exact .inl (.inl (k _ h fun ps z => by cases z))
  · exact .inl (.inr ⟨o, k _ h fun ps z => by cases z⟩)
  · exact .inr h
/-- the law keeps its promise -/
theorem law_walkX {l : PySem.W.OpenLaw} {m n : Nat} {q : Program} {loose : List Str} {XP : (Str → Option Value) → Heap → Prop} {YP : World → Heap → Prop} {d : DefRec} {x : Str} {e : Entry} {pk : PackX} {qu : List (Addr × Addr) → List (Addr × Str)}
    (most : l.most = some m) (few : m ≤ sizeLine) (plain : d.params.defaults = []) (room : Room (3 * n) callerA)
    (hT : pk.T "law" = some e) (hp : e.ps = [x]) (hu : e.fn.urn = false) (hf : e.fn.fresh = false) (hrp : e.rp = true) (hnp : e.fn.np = 1) (chk : ∀ f e, pk.T f = some e → chkEntry pk f e = true) (chx : ∀ q x, pk.xs.lookup q = some x → chkXEnt pk q x = true) (cht : ∀ f t, pk.td.lookup f = some t → chkTEnt pk f t = true)
    (F : ∀ (w : World) (mg : Str → Option Value) (fa : Addr) (h : Heap), YP w h → h.Ns mainGlobals mg → mg d.name = some (.ref fa) →
      ∃ (K : PySem.W.Frag) (fd : FuncData) (T : List ((Addr × Addr) × Str)), K.In h ∧ (∀ (s : Shared) (u : Value), BindsTo s fd ⟨[u], []⟩ [(x, u)]) ∧ (∀ p ∈ T, h.get? p.1.2 = some { cls := .none, data := .fields #[] } ∧ K.lookup p.1.2 = none ∧ PySem.W.CodeHd h p.1.1 p.1.2) ∧
        (∀ bas : Heap, K.In bas → bas.Ns mainGlobals mg → (∀ p ∈ T, LamX.TabB bas mg p.1.1 p.1.2) → @FactsX ⟨T.map fun p => (p.1.2, p.2)⟩ l.prog w K mg bas pk) ∧ mg (Str.ofString "law") = some (.ref fa) ∧ Fun K (Str.ofString "law") e.qual e.st fa fd)
    (law : ∀ ns : List Int, ns.length ≤ m → ∃ u', callU pk.G n "law" [.list (ns.map .int)] [] = some (.bool true, u')) :
    PySem.W.WalkO q loose XP YP l.row.toRowW d [] (fun f vs => PySem.call f vs) := by
  refine Att.attach_call most plain fun w s₀ s₁ mg mb fa o pm cd doc a vs ns G Y ho hd hcd hmg hobj hints hlen hg => ?_
  obtain ⟨K, fd, T, kIn, hb, hTs, facts, hml, hF⟩ := F w mg fa _ Y G.T.g hmg
  letI : Tabl := ⟨T.map fun p => (p.1.2, p.2)⟩
  refine law_callT (cs := T.map (·.1)) (k := 3 * n) (sp := spF K e.fn (callU pk.G n "law")) kIn G.T.g G.T.b G.T.builtins G.T.nolimit hg (fun p hp => ?_) (fun p hp => ?_) (fun p hp => ?_) G.T.bmain hobj hints (Nat.le_trans hlen few) room (fun bas hK hN hB => ?_) hb fun H hH sq => ?_
  · obtain ⟨p', hp', rfl⟩ := List.mem_map.mp hp
    exact (hTs p' hp').1
  · obtain ⟨p', hp', rfl⟩ := List.mem_map.mp hp
    exact (hTs p' hp').2.1
  · obtain ⟨p', hp', rfl⟩ := List.mem_map.mp hp
    exact (hTs p' hp').2.2
  · have fx := facts bas hK hN fun p hp => hB p.1 (List.mem_map_of_mem hp)
    have := (all_ok fx chk chx cht n).1 "law" e hT fa fd hml hF
    rw [hrp, hp] at this
    exact this
  · obtain ⟨u', hu'⟩ := law ns hlen
    have tabs : LamX.Tabs Tabl.T H := fun p hp => by
      obtain ⟨p', hp', rfl⟩ := List.mem_map.mp (show p ∈ T.map fun p => (p.1.2, p.2) from hp)
      exact LamX.TabS.nil (hH p'.1 (List.mem_map_of_mem hp'))
    refine ⟨none, [.ref a], [.list (ns.map .int)], ntH H, [], _, u', hu.symm, rfl, ⟨tabs, ntH_no H⟩, ntH_sub H, UrnR.no, fun _ => rfl, .cons (.lst (sqL_nt sq) (dpAll_of_ints ns)) .nil, by rw [hu, hnp]; rfl, hu', fun v F' H' P r => ?_⟩
    rw [hf] at r
    exact dp_bool r
end Pl

set_option maxHeartbeats 400000
/-! PX9: a law's end: what it needs of the top, looked up by names. -/
namespace Pl
open PySem PyProof.Rows
open L2 (V Hp HO VK XK WX TE TT TA TS Cx PE PA PS PSs Inv SqL SqT DpAll Vals RelV EP Gl Vis Ends Sp FnScope Env0 CE CR CX0 Room Fun Binds KBinds PK FnOk upd upd_same upd_ne exo exd)

def fnD (f : String) (e : Entry) : He.FnD := ⟨(Str.ofString f, none), Str.ofString f, e.qual, L2.defArgs e.st, L2.defBody e.st, L2.defScope e.st⟩
def glD : HeadH.GV → D
  | .int i => .int i
  | .tup is => .tuple (is.map .int)
theorem dvIs_ok {K : PySem.W.Frag} {F : Hp} : ∀ is : List Int, Pl.DpAll K F ((is.map He.Dv.int).map (He.Dv.v K)) (is.map .int)
  | [] => .nil
  | i :: is => .cons (.int i) (dvIs_ok is)
theorem obs_each {K : PySem.W.Frag} {L : List He.FnD} (h : (L.map fun d => He.fnObs K d.at_) = L.map He.FnD.val) : ∀ d ∈ L, He.fnObs K d.at_ = d.val := by
  intro d hd
  obtain ⟨i, hi⟩ := List.mem_iff_getElem?.mp hd
  have e2 : (L.map fun d => He.fnObs K d.at_)[i]? = (L.map He.FnD.val)[i]? := by rw [h]
  rw [List.getElem?_map, List.getElem?_map, hi] at e2
  exact Option.some.inj e2
theorem lookup_by {α : Type} {Q : String → α → Bool} {l : List (String × α)} (h : (l.all fun q => Q q.1 q.2) = true) : ∀ f e, l.lookup f = some e → Q f e = true := by
  intro f e hl
  induction l with
  | nil => cases hl
  | cons q l ih =>
    simp only [List.all_cons, Bool.and_eq_true] at h
    rw [List.lookup_cons] at hl
    split at hl
    · rename_i hq
      cases hl
      have : f = q.1 := by simpa using hq
      rw [this]
      exact h.1
    · exact ih h.2 hl
/-- the __init__ of a class of errors -/
structure InitOk (x : HeadH.ExS) : Prop where
  body : ∃ p1 p2 p3 pos, L2.defBody x.st = [.Assign [.Attribute (.Name "self" p1) x.f p2] (.Name x.f p3) pos]
  sc : scopeB ["self", x.f] ["self", x.f] (L2.defScope x.st) = true
  loc : (L2.defScope x.st).names.lookup ("self" : Str) = some .local ∧ (L2.defScope x.st).names.lookup x.f = some .local
  nm : (x.f == ("__debug__" : Str)) = false ∧ (x.f == ("__classdict__" : Str)) = false
  bind : ∀ (kV doc pm : Value) (an : Option Addr) (cdv ct : Value) (us : List Value), us.length = 2 → bindArgs (PySem.W.fnOf "__init__" x.qual (L2.defArgs x.st) (L2.defBody x.st) (L2.defScope x.st) .none kV doc pm an cdv ct) ⟨us, []⟩ = pure ((["self", x.f] : List Str).zip us)
theorem init_ok {P : Program} {w : World} {K : PySem.W.Frag} {mg : Str → Option Value} {bas : Heap} {x : HeadH.ExS} {C fI : Addr} {fd : FuncData} (F : Fun K "__init__" x.qual x.st fI fd) (i : InitOk x) (T : L2.OexC K C) (hno : PySem.W.findIn K (.ref C) x.f = some none) :
    FnOk P w K mg bas CX0 1 fI fd ["self", x.f] (spInit C x.f) := by
  refine L2.Fun.ok F (scopeB_ok i.sc) (fun vs H Q E ⟨a, y, h, _⟩ => by rw [h]; rfl) fun cdv A outer s H vs Q E hr ⟨a, y, hv, hH, hq⟩ => ?_
  subst hv
  obtain ⟨p1, p2, p3, pos, hb⟩ := i.body
  rw [hb]
  refine ⟨_, L2.pss_one (L2.ps_ost (L2.pe_var (i := 0) rfl (.inl i.loc.1)) (L2.pe_var (i := 1) rfl (.inl i.loc.2) i.nm.1 i.nm.2) rfl), ?_⟩
  exact ⟨y, rfl, .ref a, rfl, a, C, rfl, T, hno, .inl ⟨hH, fun dx h1 h2 => hq dx h1 h2⟩⟩

section
variable {K : PySem.W.Frag} {h : Heap} {mg : Str → Option Value} {tab : List (String × Entry)} {gvs : List (String × HeadH.GV)} {bl : List Str} {gcd : Bool} {exs : List HeadH.ExS} {cls : List Str} {lm : List String} {xs : List (String × XEnt)} {td : List (String × TEnt)}
abbrev pkX (tab : List (String × Entry)) (gvs : List (String × HeadH.GV)) (bl : List Str) (gcd : Bool) (exs : List HeadH.ExS) (cls : List Str) (lm : List String) (xs : List (String × XEnt)) (td : List (String × TEnt)) : PackX :=
  { T := fun f => tab.lookup f, glob := fun x => (gvs.map fun q => (q.1, glD q.2)).lookup x, bl := bl, gcd := gcd, xs := xs, td := td, xc := exs.map fun x => (x.s, some x.f), cls := cls, lm := lm }
def tabsT (K : PySem.W.Frag) (tab : List (String × Entry)) (lm : List String) : List ((Addr × Addr) × Str) := lm.filterMap fun f => (tab.lookup f).map fun e => ((HeadH.codOf K f, HeadH.tabOf K f), (e.qual ++ ".<locals>.") ++ "<lambda>")
theorem nodup_inj {α β : Type} {g : α → β} : ∀ {l : List α}, (l.map g).Nodup → ∀ a ∈ l, ∀ b ∈ l, g a = g b → a = b
  | [], _, _, h, _, _, _ => by cases h
  | x :: l, hn, a, ha, b, hb, e => by
    rw [List.map_cons, List.nodup_cons] at hn
    rcases List.mem_cons.mp ha with h1 | h1
    · rcases List.mem_cons.mp hb with h2 | h2
      · rw [h1, h2]
      · exact absurd (by rw [← h1, e]; exact List.mem_map_of_mem h2) hn.1
    · rcases List.mem_cons.mp hb with h2 | h2
      · exact absurd (by rw [← h2, ← e]; exact List.mem_map_of_mem h1) hn.1
      · exact nodup_inj hn.2 a h1 b h2 e
theorem lookup_exs : ∀ {exs : List HeadH.ExS} {s f : Str}, (exs.map fun x => (x.s, some x.f)).lookup s = some (some f) → ∃ x ∈ exs, x.s = s ∧ x.f = f
  | [], _, _, h => by cases h
  | x :: r, s, f, h => by
    rw [List.map_cons, List.lookup_cons] at h
    split at h
    · rename_i hq
      cases h
      exact ⟨x, List.mem_cons_self, (by simpa using hq : s = x.s).symm, rfl⟩
    · obtain ⟨y, hy, e⟩ := lookup_exs h
      exact ⟨y, List.mem_cons_of_mem _ hy, e⟩
theorem factsX_of (X : K.In h) (G : h.Ns mainGlobals mg) (c : HeadH.obsH (tab.map fun q => fnD q.1 q.2) gvs bl gcd exs cls lm K = HeadH.valH (tab.map fun q => fnD q.1 q.2) exs) (bok : ∀ q ∈ tab, BindOk q.1 q.2) (pos : (tab.all fun q => Nat.blt 0 q.2.ps.length) = true) (iok : ∀ x ∈ exs, InitOk x) :
    (∀ q ∈ tab, ∃ fd, mg (Str.ofString q.1) = some (.ref (He.ga K (Str.ofString q.1))) ∧ Fun K (Str.ofString q.1) q.2.qual q.2.st (He.ga K (Str.ofString q.1)) fd ∧ Binds K fd q.2.ps []) ∧
    (∀ f ∈ lm, PySem.W.CodeHd h (HeadH.codOf K f) (HeadH.tabOf K f) ∧ K.lookup (HeadH.tabOf K f) = none) ∧
    ∀ (P : Program) (w : World) (bas : Heap), (∀ p ∈ tabsT K tab lm, LamX.TabB bas mg p.1.1 p.1.2) → @FactsX ⟨(tabsT K tab lm).map fun p => (p.1.2, p.2)⟩ P w K mg bas (pkX tab gvs bl gcd exs cls lm xs td) := by
  have c1 : (HeadH.okB (tab.map fun q => fnD q.1 q.2) gvs bl gcd K && HeadH.okX exs cls lm K) = true := congrArg (fun z : HeadH.AlH => z.1) c
  have c2 : ((tab.map fun q => fnD q.1 q.2) ++ exs.map HeadH.ExS.d).map (fun d => He.fnObs K d.at_) = ((tab.map fun q => fnD q.1 q.2) ++ exs.map HeadH.ExS.d).map He.FnD.val := congrArg (fun z : HeadH.AlH => z.2) c
  obtain ⟨k0, kx⟩ := He.ba c1
  obtain ⟨k1, c3⟩ := He.ba k0
  obtain ⟨k2, c4⟩ := He.ba c3
  obtain ⟨k3, k4⟩ := He.ba c4
  obtain ⟨x1, x2⟩ := He.ba kx
  obtain ⟨x3, x4⟩ := He.ba x2
  obtain ⟨x5, x6⟩ := He.ba x4
  obtain ⟨x7, x8⟩ := He.ba x6
  have x8 : (lm.map fun f => HeadH.tabOf K f).Nodup := of_decide_eq_true x8
  have obs : ∀ d ∈ (tab.map fun q => fnD q.1 q.2) ++ exs.map HeadH.ExS.d, He.fnObs K d.at_ = d.val := obs_each c2
  have key : ∀ q ∈ tab, ∃ fd, mg (Str.ofString q.1) = some (.ref (He.ga K (Str.ofString q.1))) ∧ Fun K (Str.ofString q.1) q.2.qual q.2.st (He.ga K (Str.ofString q.1)) fd := by
    intro q hq
    have hq' : fnD q.1 q.2 ∈ tab.map fun q => fnD q.1 q.2 := List.mem_map.mpr ⟨q, hq, rfl⟩
    obtain ⟨b1, b2⟩ := He.ba (List.all_eq_true.mp k1 _ hq')
    obtain ⟨b3, b4⟩ := He.ba b2
    have e : He.fnObs K (Str.ofString q.1, none) = (fnD q.1 q.2).val := obs _ (List.mem_append_left _ hq')
    obtain ⟨oc, od, osl, kV, doc, pm, an, cdv, ct, lk, hcd⟩ := He.fn_ok (d := fnD q.1 q.2) e b4
    exact ⟨_, He.glo_ok X G b1, L2.fun_mk lk hcd b3⟩
  have lmOk : ∀ f ∈ lm, ∃ fd oc od osl, K.lookup (He.ga K (Str.ofString f)) = some ⟨oc, od, .func fd, osl⟩ ∧ fd.code = .ref (HeadH.codOf K f) ∧ PySem.W.CodeHd h (HeadH.codOf K f) (HeadH.tabOf K f) ∧ K.lookup (HeadH.tabOf K f) = none := fun f hf => by
    have b := List.all_eq_true.mp x7 f hf
    unfold HeadH.lmB at b
    obtain ⟨b1, b2⟩ := He.ba b
    obtain ⟨b3, b4⟩ := He.ba b2
    split at b1 <;> first | contradiction | skip
    rename_i oc od fd osl hl
    exact ⟨fd, oc, od, osl, hl, of_decide_eq_true b1, HeadH.chdB_ok X b3, Option.isNone_iff_eq_none.mp b4⟩
  refine ⟨fun q hq => ?_, fun f hf => ?_, fun P w bas tb => ?_⟩
  · obtain ⟨fd, m, F⟩ := key q hq
    exact ⟨fd, m, F, F.binds (bok q hq).pos⟩
  · obtain ⟨_, _, _, _, _, _, a, b⟩ := lmOk f hf
    exact ⟨a, b⟩
  · refine @FactsX.mk ⟨(tabsT K tab lm).map fun p => (p.1.2, p.2)⟩ P w K mg bas (pkX tab gvs bl gcd exs cls lm xs td) (fun f e hl => ?_) (fun x hx => ?_) (fun hg => ?_) (fun g d hl => ?_) ?_ (fun f e hf hT fa fd hm F => ?_)
    · refine lookup_all (l := tab) (Q := fun f e => Has K mg f e) (fun q hq => ?_) f e hl
      obtain ⟨fd, m, F⟩ := key q hq
      exact has_of m F (bok q hq) (Nat.le_of_ble_eq_true (List.all_eq_true.mp pos q hq))
    · exact He.free_ok X G (List.all_eq_true.mp k3 x hx)
    · have hg' : gcd = true := hg
      rw [hg'] at k4
      exact PySem.W.mg_of X G (He.eqO_ok k4)
    · refine glob_all (l := gvs.map fun q => (q.1, glD q.2)) (Q := fun g d => ∃ v u, mg (Str.ofString g) = some u ∧ RelV v u ∧ ∀ F, Pl.Dp K F v d) (fun q hq => ?_) g d hl
      obtain ⟨⟨x, v⟩, hv, rfl⟩ := List.mem_map.mp hq
      have b := List.all_eq_true.mp k2 _ hv
      cases v with
      | int i =>
        obtain ⟨t, ht⟩ := He.int_ok X G (x := Str.ofString x) (i := i) b
        exact ⟨.int i, _, ht, ⟨t, rfl⟩, fun F => .int i⟩
      | tup is =>
        obtain ⟨b1, b2⟩ := He.ba b
        exact ⟨.ref (He.ga K (Str.ofString x)), _, He.glo_ok X G b1, rfl, fun F => .tup (He.tupB_ok b2 F) (dvIs_ok is)⟩
    · refine ⟨fun s f hl => ?_, fun s fo c hl hc => ?_⟩
      · obtain ⟨x, hx, rfl, rfl⟩ := lookup_exs hl
        have b := List.all_eq_true.mp x1 x hx
        obtain ⟨b1, b⟩ := He.ba b
        obtain ⟨b2, b⟩ := He.ba b
        obtain ⟨b3, b⟩ := He.ba b
        obtain ⟨b4, b⟩ := He.ba b
        obtain ⟨b5, b⟩ := He.ba b
        obtain ⟨b6, b⟩ := He.ba b
        obtain ⟨b7, b⟩ := He.ba b
        obtain ⟨b8, b⟩ := He.ba b
        obtain ⟨b9, b⟩ := He.ba b
        obtain ⟨b10, b11⟩ := He.ba b
        have oc : L2.OexC K (He.ga K x.s) := ⟨HeadH.oexB_ok b2, He.eqO_ok b11, of_decide_eq_true b8, of_decide_eq_true b9, b10⟩
        have hno : PySem.W.findIn K (.ref (He.ga K x.s)) x.f = some none := He.noat_ok b4
        have mt := He.meth_ok b5
        have e : He.fnObs K x.d.at_ = x.d.val := obs _ (List.mem_append_right _ (List.mem_map_of_mem hx))
        obtain ⟨oc2, od, osl, kV, doc, pm, an, cdv, ct, lk, hcd⟩ := He.fn_ok (d := x.d) e b7
        have F : Fun K "__init__" x.qual x.st (He.ma K (He.ga K x.s) "__init__") _ := L2.fun_mk lk hcd mt.kp
        have i := iok x hx
        exact ⟨_, ⟨He.glo_ok X G b1, oc, _, _, mt.1, of_decide_eq_true b6, init_ok F i oc hno, F.binds i.bind⟩, L2.xfB_ok b3, hno⟩
      · have hs : ∃ x ∈ exs, x.s = s := by
          have : ∀ {exs : List HeadH.ExS}, (exs.map fun x => (x.s, some x.f)).lookup s = some fo → ∃ x ∈ exs, x.s = s := by
            intro exs
            induction exs with
            | nil => intro h; cases h
            | cons x r ih =>
              intro h
              rw [List.map_cons, List.lookup_cons] at h
              split at h
              · rename_i hq
                exact ⟨x, List.mem_cons_self, (by simpa using hq : s = x.s).symm⟩
              · obtain ⟨y, hy, e⟩ := ih h
                exact ⟨y, List.mem_cons_of_mem _ hy, e⟩
          exact this hl
        obtain ⟨x, hx, rfl⟩ := hs
        have b := List.all_eq_true.mp (List.all_eq_true.mp x3 x hx) c hc
        have b0 := (He.ba (List.all_eq_true.mp x1 x hx)).1
        exact ⟨_, _, He.glo_ok X G b0, He.glo_ok X G (List.all_eq_true.mp x5 c hc), He.exm_ok b⟩
    · obtain ⟨fd', oc, od, osl, l1, l2, l3, l4⟩ := lmOk f hf
      obtain ⟨oc', od', kV, doc, pm, an, cdv, ct, osl', rfl, lk, hcd⟩ := F.ex
      have ea : fa = He.ga K (Str.ofString f) := by
        have hq : ∃ q ∈ tab, q.1 = f := by
          have : ∀ {tab : List (String × Entry)}, tab.lookup f = some e → ∃ q ∈ tab, q.1 = f := by
            intro tab
            induction tab with
            | nil => intro h; cases h
            | cons q r ih =>
              intro h
              rw [List.lookup_cons] at h
              split at h
              · rename_i hq
                exact ⟨q, List.mem_cons_self, (by simpa using hq : f = q.1).symm⟩
              · obtain ⟨y, hy, e⟩ := ih h
                exact ⟨y, List.mem_cons_of_mem _ hy, e⟩
          exact this hT
        obtain ⟨q, hq, rfl⟩ := hq
        obtain ⟨_, m, _⟩ := key q hq
        rw [m] at hm
        cases hm
        rfl
      subst ea
      rw [l1] at lk
      cases lk
      have hT' : tab.lookup f = some e := hT
      have hmem : ((HeadH.codOf K f, HeadH.tabOf K f), (e.qual ++ ".<locals>.") ++ "<lambda>") ∈ tabsT K tab lm := List.mem_filterMap.mpr ⟨f, hf, by rw [hT']; rfl⟩
      refine ⟨_, _, l2, tb _ hmem, List.mem_map.mpr ⟨_, hmem, rfl⟩, fun q hq hP => ?_⟩
      obtain ⟨p, hp, rfl⟩ := List.mem_map.mp (show q ∈ (tabsT K tab lm).map fun p => (p.1.2, p.2) from hq)
      obtain ⟨f', hf', e'⟩ := List.mem_filterMap.mp hp
      obtain ⟨en, he, rfl⟩ := Option.map_eq_some_iff.mp e'
      have : f' = f := nodup_inj x8 f' hf' f hf hP
      subst this
      rw [hT'] at he
      cases he
      rfl
/-- the law's walk over the head's looks -/
theorem law_walkQ {l : PySem.W.OpenLaw} {m n : Nat} {q : Program} {loose : List Str} {XP : (Str → Option Value) → Heap → Prop} {d : DefRec} {x : Str} {fns : List He.FnD} {e : Entry}
    (hfns : fns = tab.map fun q => fnD q.1 q.2) (most : l.most = some m) (few : m ≤ sizeLine) (plain : d.params.defaults = []) (room : Room (3 * n) callerA) (hT : tab.lookup "law" = some e) (hmem : ("law", e) ∈ tab) (hname : d.name = Str.ofString "law")
    (hp : e.ps = [x]) (hu : e.fn.urn = false) (hf : e.fn.fresh = false) (hrp : e.rp = true) (hnp : e.fn.np = 1)
    (chk : ∀ f e, tab.lookup f = some e → chkEntry (pkX tab gvs bl gcd exs cls lm xs td) f e = true) (chx : ∀ q x, xs.lookup q = some x → chkXEnt (pkX tab gvs bl gcd exs cls lm xs td) q x = true) (cht : ∀ f t, td.lookup f = some t → chkTEnt (pkX tab gvs bl gcd exs cls lm xs td) f t = true)
    (bok : ∀ q ∈ tab, BindOk q.1 q.2) (pos : (tab.all fun q => Nat.blt 0 q.2.ps.length) = true) (iok : ∀ x ∈ exs, InitOk x)
    (law : ∀ ns : List Int, ns.length ≤ m → ∃ u', callU (pkX tab gvs bl gcd exs cls lm xs td).G n "law" [.list (ns.map .int)] [] = some (.bool true, u')) :
    PySem.W.WalkO q loose XP (HeadH.hook fns gvs bl gcd exs cls lm).says l.row.toRowW d [] (fun f vs => PySem.call f vs) := by
  refine law_walkX (pk := pkX tab gvs bl gcd exs cls lm xs td) (qu := fun _ => []) most few plain room hT hp hu hf hrp hnp chk chx cht (fun w mg fa h Y G hmg => ?_) law
  obtain ⟨K, X, c, tabs⟩ := Y
  rw [hfns] at c
  obtain ⟨f1, f2, f3⟩ := factsX_of (xs := xs) (td := td) X G c bok pos iok
  obtain ⟨fd, m1, F, _⟩ := f1 _ hmem
  rw [hname] at hmg
  have ea : fa = He.ga K (Str.ofString "law") := by
    have := hmg.symm.trans m1
    cases this
    rfl
  subst ea
  refine ⟨K, fd, tabsT K tab lm, X, fun s u => ?_, fun p hp => ?_, fun bas hK hN hB => f3 l.prog w bas hB, m1, F⟩
  · obtain ⟨oc, od, kV, doc, pm, an, cdv, ct, osl, rfl, lk, hcd⟩ := F.ex
    have b := (bok _ hmem).pos kV doc pm an cdv ct [u] (by rw [hp]; rfl)
    rw [hp] at b
    exact .of_eq b
  · obtain ⟨f, hf, e'⟩ := List.mem_filterMap.mp hp
    obtain ⟨en, _, rfl⟩ := Option.map_eq_some_iff.mp e'
    exact ⟨tabs f hf, (f2 f hf).2, (f2 f hf).1⟩
end
end Pl

namespace Pl
def p__law_added : PFun := { np := 2, ns := 6, urn := false, fresh := false, body := (.cons (.set 2 (.comp (.lit (.int 0)) (.one 3) (.range1 (.bi .max2 (.cons (.bi .len (.cons (.var 0) .nil)) (.cons (.bi .len (.cons (.var 1) .nil)) .nil)))) .no [3])) (.cons (.for_ (.one 4) (.seq (.lst (.cons (.var 0) (.cons (.var 1) .nil)))) (.cons (.for_ (.one 5) (.range1 (.bi .len (.cons (.var 4) .nil))) (.cons (.setI 2 (.var 5) (.bin .add (.idx (.var 2) (.var 5)) (.idx (.var 4) (.var 5)))) .nil)) .nil)) (.cons (.ret (.call "_law_trim" (.cons (.var 2) .nil) [0])) .nil))) }
def p__law_any : PFun := { np := 2, ns := 2, urn := true, fresh := false, body := (.cons (.ret (.idx (.var 1) (.ucall "_law_pull" (.cons (.bi .len (.cons (.var 1) .nil)) .nil)))) .nil) }
def p__law_are_whole : PFun := { np := 2, ns := 3, urn := false, fresh := false, body := (.cons (.ret (.and (.bi .isTuple (.cons (.var 0) .nil)) (.and (.cmp .eq (.bi .len (.cons (.var 0) .nil)) (.var 1)) (.cmp .eq (.comp (.var 2) (.one 2) (.seq (.var 0)) (.yes (.not (.call "_law_is_whole" (.cons (.var 2) .nil) [0]))) [2]) (.lst .nil))))) .nil) }
def p__law_common : PFun := { np := 1, ns := 4, urn := false, fresh := false, body := (.cons (.set 1 (.lit (.int 0))) (.cons (.for_ (.one 2) (.seq (.var 0)) (.cons (.set 3 (.bi .abs (.cons (.var 2) .nil))) (.cons (.whil (.cmp .gt (.var 3) (.lit (.int 0))) (.cons (.par [1, 3] (.cons (.var 3) (.cons (.bin .mod (.bi .int (.cons (.var 1) .nil)) (.var 3)) .nil))) .nil)) .nil))) (.cons (.ret (.var 1)) .nil))) }
def p__law_draw : PFun := { np := 2, ns := 4, urn := true, fresh := false, body := (.cons (.ite (.cmp .gt (.uidx (.lit (.int 0))) (.lit (.int 0))) (.cons (.unp [.pl 0, .nm 2] (.bi .divmod (.cons (.uidx (.lit (.int 0))) (.cons (.var 1) .nil)))) (.cons (.ret (.var 2)) .nil)) .nil) (.cons (.setU (.lit (.int 2)) (.bin .add (.uidx (.lit (.int 2))) (.lit (.int 1)))) (.cons (.set 3 (.bin .add (.bin .mod (.bi .int (.cons (.uidx (.lit (.int 1))) .nil)) (.lit (.int 25013))) (.lit (.int 17011)))) (.cons (.setU (.lit (.int 1)) (.bin .mod (.bi .int (.cons (.bin .add (.bin .add (.bin .mul (.uidx (.lit (.int 1))) (.var 3)) (.bin .mul (.lit (.int 80021)) (.uidx (.lit (.int 2))))) (.lit (.int 9))) .nil)) (.lit (.int 2147483587)))) (.cons (.ret (.bin .mod (.bi .int (.cons (.bin .fdiv (.uidx (.lit (.int 1))) (.lit (.int 67))) .nil)) (.var 1))) .nil))))) }
def p__law_due : PFun := { np := 1, ns := 4, urn := false, fresh := false, body := (.cons (.ret (.idx (.bin .add (.comp (.lst (.cons (.var 1) (.cons (.bi .repr (.cons (.var 2) .nil)) .nil))) (.many [1, 2, 3]) (.seq (.var 0)) (.yes (.not (.var 3))) [1, 2, 3]) (.lst (.cons (.lst (.cons (.lit (.str (PySem.Str.ofString "let"))) .nil)) .nil))) (.lit (.int 0)))) .nil) }
def p__law_frac : PFun := { np := 2, ns := 3, urn := false, fresh := false, body := (.cons (.set 2 (.call "_law_thin" (.cons (.tup (.cons (.var 0) (.cons (.var 1) .nil))) .nil) [0])) (.cons (.ret (.ite (.cmp .gt (.idx (.var 2) (.lit (.int 1))) (.lit (.int 0))) (.var 2) (.tup (.cons (.neg (.idx (.var 2) (.lit (.int 0)))) (.cons (.neg (.idx (.var 2) (.lit (.int 1)))) .nil))))) .nil)) }
def p__law_from : PFun := { np := 3, ns := 3, urn := true, fresh := false, body := (.cons (.ret (.bin .add (.var 1) (.ucall "_law_draw" (.cons (.bin .add (.bin .sub (.var 2) (.var 1)) (.lit (.int 1))) .nil)))) .nil) }
def p__law_gcd__a : PFun := { np := 2, ns := 3, urn := false, fresh := false, body := (.cons (.for_ (.one 2) (.range1 (.lit (.int 20000))) (.cons (.ite (.cmp .eq (.var 1) (.lit (.int 0))) (.cons .brk .nil) .nil) (.cons (.par [0, 1] (.cons (.var 1) (.cons (.bin .mod (.bi .int (.cons (.var 0) .nil)) (.var 1)) .nil))) .nil))) (.cons (.ret (.var 0)) .nil)) }
def p__law_is_frac : PFun := { np := 1, ns := 1, urn := false, fresh := false, body := (.cons (.ret (.and (.call "_law_are_whole" (.cons (.var 0) (.cons (.lit (.int 2)) .nil)) [0, 1]) (.and (.cmp .gt (.idx (.var 0) (.lit (.int 1))) (.lit (.int 0))) (.cmp .eq (.call "_law_gcd" (.cons (.bi .abs (.cons (.idx (.var 0) (.lit (.int 0))) .nil)) (.cons (.idx (.var 0) (.lit (.int 1))) .nil)) [0, 1]) (.lit (.int 1)))))) .nil) }
def p__law_is_spot : PFun := { np := 1, ns := 1, urn := false, fresh := false, body := (.cons (.ret (.and (.call "_law_are_whole" (.cons (.var 0) (.cons (.lit (.int 3)) .nil)) [0, 1]) (.and (.cmp .gt (.idx (.var 0) (.lit (.int 2))) (.lit (.int 0))) (.cmp .eq (.call "_law_thin" (.cons (.var 0) .nil) [0]) (.var 0))))) .nil) }
def p__law_is_whole : PFun := { np := 1, ns := 1, urn := false, fresh := false, body := (.cons (.ret (.and (.bi .isInt (.cons (.var 0) .nil)) (.not (.bi .isBool (.cons (.var 0) .nil))))) .nil) }
def p__law_laps : PFun := { np := 1, ns := 1, urn := false, fresh := false, body := (.cons (.ret (.bi .max2 (.cons (.lit (.int 2)) (.cons (.bi .min2 (.cons (.bi .len (.cons (.var 0) .nil)) (.cons (.lit (.int 3)) .nil))) .nil)))) .nil) }
def p__law_multiplied : PFun := { np := 2, ns := 6, urn := false, fresh := false, body := (.cons (.set 2 (.comp (.lit (.int 0)) (.one 3) (.range1 (.bin .add (.bi .len (.cons (.var 0) .nil)) (.bi .len (.cons (.var 1) .nil)))) .no [3])) (.cons (.for_ (.one 4) (.range1 (.bi .len (.cons (.var 0) .nil))) (.cons (.for_ (.one 5) (.range1 (.bi .len (.cons (.var 1) .nil))) (.cons (.setI 2 (.bin .add (.var 4) (.var 5)) (.bin .add (.idx (.var 2) (.bin .add (.var 4) (.var 5))) (.bin .mul (.idx (.var 0) (.var 4)) (.idx (.var 1) (.var 5))))) .nil)) .nil)) (.cons (.ret (.call "_law_trim" (.cons (.var 2) .nil) [0])) .nil))) }
def p__law_num : PFun := { np := 2, ns := 2, urn := true, fresh := false, body := (.cons (.ret (.bin .sub (.ucall "_law_pull" (.cons (.bin .add (.bin .mul (.lit (.int 2)) (.var 1)) (.lit (.int 1))) .nil)) (.var 1))) .nil) }
def p__law_pot : PFun := { np := 2, ns := 5, urn := false, fresh := true, body := (.cons (.set 2 (.ite (.cmp .lt (.var 1) (.bi .len (.cons (.var 0) .nil))) (.bi .int (.cons (.idx (.var 0) (.var 1)) .nil)) (.bin .add (.bin .add (.bin .mod (.bi .int (.cons (.bi .sum (.cons (.sli (.var 0) .no (.yes (.lit (.int 4)))) .nil)) .nil)) (.lit (.int 999979))) (.bin .mul (.lit (.int 70001)) (.var 1))) (.lit (.int 43))))) (.cons (.set 3 (.bin .add (.lit (.int 31013)) (.bin .mul (.lit (.int 4241)) (.var 1)))) (.cons (.for_ (.one 4) (.seq (.bin .add (.sli (.var 0) .no (.yes (.lit (.int 9)))) (.lst (.cons (.var 2) .nil)))) (.cons (.set 3 (.bin .mod (.bi .int (.cons (.bin .add (.bin .add (.bin .mul (.var 3) (.lit (.int 48271))) (.bin .mod (.bi .int (.cons (.var 4) .nil)) (.lit (.int 2147483587)))) (.lit (.int 7))) .nil)) (.lit (.int 2147483587)))) .nil)) (.cons (.retF (.lst (.cons (.ite (.or (.cmp .lt (.var 2) (.lit (.int 0))) (.cmp .ge (.var 2) (.bin .pow (.lit (.int 10)) (.lit (.int 18))))) (.bi .abs (.cons (.var 2) .nil)) (.lit (.int 0))) (.cons (.var 3) (.cons (.lit (.int 0)) .nil))))) .nil)))) }
def p__law_pull : PFun := { np := 2, ns := 3, urn := true, fresh := false, body := (.cons (.ite (.cmp .gt (.uidx (.lit (.int 0))) (.lit (.int 0))) (.cons (.unp [.pl 0, .nm 2] (.bi .divmod (.cons (.uidx (.lit (.int 0))) (.cons (.var 1) .nil)))) (.cons (.ret (.var 2)) .nil)) .nil) (.cons (.setU (.lit (.int 1)) (.bin .mod (.bi .int (.cons (.bin .add (.bin .mul (.uidx (.lit (.int 1))) (.lit (.int 37199))) (.lit (.int 1201))) .nil)) (.lit (.int 2147483629)))) (.cons (.setU (.lit (.int 2)) (.bin .mod (.bi .int (.cons (.bin .add (.bin .mul (.uidx (.lit (.int 2))) (.lit (.int 29443))) (.uidx (.lit (.int 1)))) .nil)) (.lit (.int 2147483587)))) (.cons (.ret (.bin .mod (.bi .int (.cons (.bin .fdiv (.uidx (.lit (.int 2))) (.lit (.int 269))) .nil)) (.var 1))) .nil)))) }
def p__law_short : PFun := { np := 1, ns := 4, urn := false, fresh := false, body := (.cons (.unp [.nm 1, .nm 2] (.tup (.cons (.bi .max2 (.cons (.lit (.int 1)) (.cons (.call "_law_common" (.cons (.var 0) .nil) [0]) .nil))) (.cons (.bi .len (.cons (.var 0) .nil)) .nil)))) (.cons (.whil (.and (.cmp .gt (.var 2) (.lit (.int 0))) (.cmp .eq (.idx (.var 0) (.bin .sub (.var 2) (.lit (.int 1)))) (.lit (.int 0)))) (.cons (.set 2 (.bin .sub (.var 2) (.lit (.int 1)))) .nil)) (.cons (.ret (.bi .tuple (.cons (.comp (.bin .fdiv (.var 3) (.var 1)) (.one 3) (.seq (.sli (.var 0) .no (.yes (.var 2)))) .no [3]) .nil))) .nil))) }
def p__law_spot__a : PFun := { np := 3, ns := 3, urn := false, fresh := false, body := (.cons (.ret (.call "_law_thin" (.cons (.tup (.cons (.var 0) (.cons (.var 1) (.cons (.var 2) .nil)))) .nil) [0])) .nil) }
def p__law_thin : PFun := { np := 1, ns := 3, urn := false, fresh := false, body := (.cons (.set 1 (.lit (.int 0))) (.cons (.for_ (.one 2) (.seq (.var 0)) (.cons (.set 1 (.call "_law_gcd" (.cons (.var 1) (.cons (.bi .abs (.cons (.var 2) .nil)) .nil)) [0, 1])) .nil)) (.cons (.ret (.ite (.cmp .lt (.var 1) (.lit (.int 2))) (.bi .tuple (.cons (.var 0) .nil)) (.bi .tuple (.cons (.comp (.bin .fdiv (.var 2) (.var 1)) (.one 2) (.seq (.var 0)) .no [2]) .nil)))) .nil))) }
def p__law_told : PFun := { np := 3, ns := 3, urn := false, fresh := false, body := (.cons (.ret (.ite (.cmp .eq (.var 2) (.tup (.cons (.lit (.int 1)) (.cons (.lit (.int 1)) .nil)))) (.tup (.cons (.bin .mod (.bi .int (.cons (.bin .add (.var 1) (.lit (.int 1))) .nil)) (.bi .len (.cons (.var 0) .nil))) (.cons (.tup (.cons (.lit (.int 0)) (.cons (.lit (.int 1)) .nil))) .nil))) (.tup (.cons (.var 1) (.cons (.var 2) .nil))))) .nil) }
def p__law_trim : PFun := { np := 1, ns := 2, urn := false, fresh := false, body := (.cons (.set 1 (.bi .len (.cons (.var 0) .nil))) (.cons (.whil (.and (.cmp .gt (.var 1) (.lit (.int 0))) (.cmp .eq (.idx (.var 0) (.bin .sub (.var 1) (.lit (.int 1)))) (.lit (.int 0)))) (.cons (.set 1 (.bin .sub (.var 1) (.lit (.int 1)))) .nil)) (.cons (.ret (.bi .tuple (.cons (.sli (.var 0) .no (.yes (.var 1))) .nil))) .nil))) }
def p__law_urn : PFun := { np := 2, ns := 5, urn := false, fresh := true, body := (.cons (.set 2 (.bin .add (.lit (.int 60427)) (.bin .mul (.lit (.int 7001)) (.var 1)))) (.cons (.for_ (.one 3) (.seq (.sli (.var 0) .no (.yes (.lit (.int 63))))) (.cons (.set 2 (.bin .mod (.bi .int (.cons (.bin .add (.bin .add (.bin .mul (.var 2) (.lit (.int 47701))) (.bin .mod (.bi .int (.cons (.var 3) .nil)) (.lit (.int 2147483549)))) (.lit (.int 53))) .nil)) (.lit (.int 2147483549)))) .nil)) (.cons (.set 4 (.ite (.cmp .lt (.var 1) (.bi .len (.cons (.var 0) .nil))) (.bi .abs (.cons (.bi .int (.cons (.idx (.var 0) (.var 1)) .nil)) .nil)) (.lit (.int 0)))) (.cons (.retF (.lst (.cons (.ite (.cmp .ge (.var 4) (.bin .pow (.lit (.int 10)) (.lit (.int 18)))) (.var 4) (.lit (.int 0))) (.cons (.bin .mod (.bi .int (.cons (.bin .add (.bin .add (.bin .mul (.var 2) (.lit (.int 41203))) (.bin .mod (.bi .int (.cons (.var 4) .nil)) (.lit (.int 2147483563)))) (.lit (.int 5))) .nil)) (.lit (.int 2147483563))) (.cons (.bin .add (.var 2) (.lit (.int 3))) .nil))))) .nil)))) }
def p_are_numbers : PFun := { np := 1, ns := 2, urn := false, fresh := false, body := (.cons (.ret (.and (.bi .isTuple (.cons (.var 0) .nil)) (.and (.cmp .le (.bi .len (.cons (.var 0) .nil)) (.glob "MOST_LONG")) (.bi .all (.cons (.comp (.call "is_whole" (.cons (.var 1) .nil) [0]) (.one 1) (.seq (.var 0)) .no [1]) .nil))))) .nil) }
def p_are_wholes : PFun := { np := 2, ns := 3, urn := false, fresh := false, body := (.cons (.ret (.and (.bi .isTuple (.cons (.var 0) .nil)) (.and (.cmp .eq (.bi .len (.cons (.var 0) .nil)) (.var 1)) (.bi .all (.cons (.comp (.call "is_whole" (.cons (.var 2) .nil) [0]) (.one 2) (.seq (.var 0)) .no [2]) .nil))))) .nil) }
def p_between : PFun := { np := 3, ns := 3, urn := false, fresh := false, body := (.cons (.drop (.call "check_point" (.cons (.var 0) .nil) [0])) (.cons (.drop (.call "check_point" (.cons (.var 1) .nil) [0])) (.cons (.drop (.call "check_fraction" (.cons (.var 2) .nil) [0])) (.cons (.ret (.call "vector_between" (.cons (.var 0) (.cons (.var 1) (.cons (.var 2) .nil))) [0, 1, 2])) .nil)))) }
def p_check_fraction : PFun := { np := 1, ns := 1, urn := false, fresh := false, body := (.cons (.ite (.not (.call "is_ratio" (.cons (.var 0) .nil) [0])) (.cons .raise .nil) .nil) .nil) }
def p_check_point : PFun := { np := 1, ns := 1, urn := false, fresh := false, body := (.cons (.ite (.not (.call "is_vector" (.cons (.var 0) .nil) [0])) (.cons .raise .nil) .nil) .nil) }
def p_check_row : PFun := { np := 1, ns := 1, urn := false, fresh := false, body := (.cons (.ite (.not (.call "is_row" (.cons (.var 0) .nil) [0])) (.cons .raise .nil) .nil) .nil) }
def p_cross : PFun := { np := 2, ns := 2, urn := false, fresh := false, body := (.cons (.drop (.call "check_point" (.cons (.var 0) .nil) [0])) (.cons (.drop (.call "check_point" (.cons (.var 1) .nil) [0])) (.cons (.ret (.call "cross_of" (.cons (.var 0) (.cons (.var 1) .nil)) [0, 1])) .nil))) }
def p_cross_of : PFun := { np := 2, ns := 2, urn := false, fresh := false, body := (.cons (.ret (.call "ratio" (.cons (.bin .sub (.bin .mul (.idx (.var 0) (.lit (.int 0))) (.idx (.var 1) (.lit (.int 1)))) (.bin .mul (.idx (.var 0) (.lit (.int 1))) (.idx (.var 1) (.lit (.int 0))))) (.cons (.bin .mul (.idx (.var 0) (.lit (.int 2))) (.idx (.var 1) (.lit (.int 2)))) .nil)) [0, 1])) .nil) }
def p_divided : PFun := { np := 2, ns := 10, urn := false, fresh := false, body := (.cons (.unp [.nm 2, .nm 3] (.tup (.cons (.bi .list (.cons (.var 0) .nil)) (.cons (.bi .abs (.cons (.idx (.var 1) (.neg (.lit (.int 1)))) .nil)) .nil)))) (.cons (.set 4 (.rep (.cons (.lit (.int 0)) .nil) (.bi .max2 (.cons (.lit (.int 0)) (.cons (.bin .add (.bin .sub (.bi .len (.cons (.var 0) .nil)) (.bi .len (.cons (.var 1) .nil))) (.lit (.int 1))) .nil))))) (.cons (.for_ (.one 5) (.revRange1 (.bi .len (.cons (.var 4) .nil))) (.cons (.set 6 (.idx (.var 2) (.bin .sub (.bin .add (.var 5) (.bi .len (.cons (.var 1) .nil))) (.lit (.int 1))))) (.cons (.set 4 (.comp (.bin .mul (.var 7) (.var 3)) (.one 7) (.seq (.var 4)) .no [7])) (.cons (.set 2 (.comp (.bin .mul (.var 7) (.var 3)) (.one 7) (.seq (.var 2)) .no [7])) (.cons (.set 8 (.ite (.cmp .gt (.idx (.var 1) (.neg (.lit (.int 1)))) (.lit (.int 0))) (.var 6) (.neg (.var 6)))) (.cons (.setI 4 (.var 5) (.var 8)) (.cons (.for_ (.many [9, 7]) (.enum (.var 1)) (.cons (.setI 2 (.bin .add (.var 5) (.var 9)) (.bin .sub (.idx (.var 2) (.bin .add (.var 5) (.var 9))) (.bin .mul (.var 8) (.var 7)))) .nil)) .nil))))))) (.cons (.ret (.tup (.cons (.call "trimmed" (.cons (.var 4) .nil) [0]) (.cons (.call "trimmed" (.cons (.var 2) .nil) [0]) .nil)))) .nil)))) }
def p_divisor_of : PFun := { np := 1, ns := 3, urn := false, fresh := false, body := (.cons (.set 1 (.lit (.int 0))) (.cons (.for_ (.one 2) (.seq (.var 0)) (.cons (.set 1 (.bi .gcd (.cons (.var 1) (.cons (.var 2) .nil)))) .nil)) (.cons (.ret (.var 1)) .nil))) }
def p_inner : PFun := { np := 2, ns := 2, urn := false, fresh := false, body := (.cons (.drop (.call "check_point" (.cons (.var 0) .nil) [0])) (.cons (.drop (.call "check_point" (.cons (.var 1) .nil) [0])) (.cons (.ret (.call "inner_of" (.cons (.var 0) (.cons (.var 1) .nil)) [0, 1])) .nil))) }
def p_inner_of : PFun := { np := 2, ns := 2, urn := false, fresh := false, body := (.cons (.ret (.call "ratio" (.cons (.bin .add (.bin .mul (.idx (.var 0) (.lit (.int 0))) (.idx (.var 1) (.lit (.int 0)))) (.bin .mul (.idx (.var 0) (.lit (.int 1))) (.idx (.var 1) (.lit (.int 1))))) (.cons (.bin .mul (.idx (.var 0) (.lit (.int 2))) (.idx (.var 1) (.lit (.int 2)))) .nil)) [0, 1])) .nil) }
def p_is_ratio : PFun := { np := 1, ns := 1, urn := false, fresh := false, body := (.cons (.ret (.and (.call "are_wholes" (.cons (.var 0) (.cons (.lit (.int 2)) .nil)) [0, 1]) (.and (.cmp .gt (.idx (.var 0) (.lit (.int 1))) (.lit (.int 0))) (.call "is_reduced" (.cons (.var 0) .nil) [0])))) .nil) }
def p_is_reduced : PFun := { np := 1, ns := 1, urn := false, fresh := false, body := (.cons (.ret (.cmp .eq (.call "divisor_of" (.cons (.var 0) .nil) [0]) (.lit (.int 1)))) .nil) }
def p_is_row : PFun := { np := 1, ns := 1, urn := false, fresh := false, body := (.cons (.ret (.and (.call "are_numbers" (.cons (.var 0) .nil) [0]) (.or (.cmp .eq (.var 0) (.tup .nil)) (.cmp .ne (.idx (.var 0) (.neg (.lit (.int 1)))) (.lit (.int 0)))))) .nil) }
def p_is_vector : PFun := { np := 1, ns := 1, urn := false, fresh := false, body := (.cons (.ret (.and (.call "are_wholes" (.cons (.var 0) (.cons (.lit (.int 3)) .nil)) [0, 1]) (.and (.cmp .gt (.idx (.var 0) (.lit (.int 2))) (.lit (.int 0))) (.call "is_reduced" (.cons (.var 0) .nil) [0])))) .nil) }
def p_is_whole : PFun := { np := 1, ns := 1, urn := false, fresh := false, body := (.cons (.ret (.and (.bi .isInt (.cons (.var 0) .nil)) (.not (.bi .isBool (.cons (.var 0) .nil))))) .nil) }
def p_minus : PFun := { np := 2, ns := 2, urn := false, fresh := false, body := (.cons (.drop (.call "check_point" (.cons (.var 0) .nil) [0])) (.cons (.drop (.call "check_point" (.cons (.var 1) .nil) [0])) (.cons (.ret (.call "vector_less" (.cons (.var 0) (.cons (.var 1) .nil)) [0, 1])) .nil))) }
def p_plus : PFun := { np := 2, ns := 2, urn := false, fresh := false, body := (.cons (.drop (.call "check_point" (.cons (.var 0) .nil) [0])) (.cons (.drop (.call "check_point" (.cons (.var 1) .nil) [0])) (.cons (.ret (.call "vector_sum" (.cons (.var 0) (.cons (.var 1) .nil)) [0, 1])) .nil))) }
def p_quarter : PFun := { np := 1, ns := 1, urn := false, fresh := false, body := (.cons (.drop (.call "check_point" (.cons (.var 0) .nil) [0])) (.cons (.ret (.call "quartered" (.cons (.var 0) .nil) [0])) .nil)) }
def p_quartered : PFun := { np := 1, ns := 1, urn := false, fresh := false, body := (.cons (.ret (.tup (.cons (.neg (.idx (.var 0) (.lit (.int 1)))) (.cons (.idx (.var 0) (.lit (.int 0))) (.cons (.idx (.var 0) (.lit (.int 2))) .nil))))) .nil) }
def p_ratio : PFun := { np := 2, ns := 3, urn := false, fresh := false, body := (.cons (.set 2 (.call "divisor_of" (.cons (.tup (.cons (.var 0) (.cons (.var 1) .nil))) .nil) [0])) (.cons (.set 2 (.ite (.cmp .gt (.var 1) (.lit (.int 0))) (.var 2) (.neg (.var 2)))) (.cons (.ret (.tup (.cons (.bin .fdiv (.var 0) (.var 2)) (.cons (.bin .fdiv (.var 1) (.var 2)) .nil)))) .nil))) }
def p_remainder : PFun := { np := 2, ns := 2, urn := false, fresh := false, body := (.cons (.drop (.call "check_row" (.cons (.var 0) .nil) [0])) (.cons (.drop (.call "check_row" (.cons (.var 1) .nil) [0])) (.cons (.ite (.cmp .eq (.var 1) (.tup .nil)) (.cons .raise .nil) .nil) (.cons (.ret (.call "what_remains" (.cons (.var 0) (.cons (.var 1) .nil)) [0, 1])) .nil)))) }
def p_sense : PFun := { np := 3, ns := 3, urn := false, fresh := false, body := (.cons (.drop (.call "check_point" (.cons (.var 0) .nil) [0])) (.cons (.drop (.call "check_point" (.cons (.var 1) .nil) [0])) (.cons (.drop (.call "check_point" (.cons (.var 2) .nil) [0])) (.cons (.ret (.call "turn_of" (.cons (.var 0) (.cons (.var 1) (.cons (.var 2) .nil))) [0, 1, 2])) .nil)))) }
def p_shortened : PFun := { np := 1, ns := 3, urn := false, fresh := false, body := (.cons (.set 1 (.call "divisor_of" (.cons (.var 0) .nil) [0])) (.cons (.ret (.ite (.cmp .gt (.var 1) (.lit (.int 1))) (.bi .tuple (.cons (.comp (.bin .fdiv (.var 2) (.var 1)) (.one 2) (.seq (.var 0)) .no [2]) .nil)) (.bi .tuple (.cons (.var 0) .nil)))) .nil)) }
def p_sign_of : PFun := { np := 1, ns := 1, urn := false, fresh := false, body := (.cons (.ret (.ite (.cmp .gt (.var 0) (.lit (.int 0))) (.lit (.int 1)) (.ite (.cmp .lt (.var 0) (.lit (.int 0))) (.neg (.lit (.int 1))) (.lit (.int 0))))) .nil) }
def p_times : PFun := { np := 2, ns := 2, urn := false, fresh := false, body := (.cons (.drop (.call "check_point" (.cons (.var 0) .nil) [0])) (.cons (.drop (.call "check_fraction" (.cons (.var 1) .nil) [0])) (.cons (.ret (.call "vector_times" (.cons (.var 0) (.cons (.var 1) .nil)) [0, 1])) .nil))) }
def p_trimmed : PFun := { np := 1, ns := 2, urn := false, fresh := false, body := (.cons (.set 1 (.bi .list (.cons (.var 0) .nil))) (.cons (.whil (.and (.cmp .ne (.var 1) (.lst .nil)) (.cmp .eq (.idx (.var 1) (.neg (.lit (.int 1)))) (.lit (.int 0)))) (.cons (.pop 1) .nil)) (.cons (.ret (.bi .tuple (.cons (.var 1) .nil))) .nil))) }
def p_turn_of : PFun := { np := 3, ns := 12, urn := false, fresh := false, body := (.cons (.unp [.nm 3, .nm 4, .nm 5] (.var 0)) (.cons (.unp [.nm 6, .nm 7, .nm 8] (.var 1)) (.cons (.unp [.nm 9, .nm 10, .nm 11] (.var 2)) (.cons (.ret (.call "sign_of" (.cons (.bin .add (.bin .sub (.bin .mul (.var 3) (.bin .sub (.bin .mul (.var 7) (.var 11)) (.bin .mul (.var 10) (.var 8)))) (.bin .mul (.var 4) (.bin .sub (.bin .mul (.var 6) (.var 11)) (.bin .mul (.var 9) (.var 8))))) (.bin .mul (.var 5) (.bin .sub (.bin .mul (.var 6) (.var 10)) (.bin .mul (.var 9) (.var 7))))) .nil) [0])) .nil)))) }
def p_vector : PFun := { np := 3, ns := 4, urn := false, fresh := false, body := (.cons (.set 3 (.call "divisor_of" (.cons (.tup (.cons (.var 0) (.cons (.var 1) (.cons (.var 2) .nil)))) .nil) [0])) (.cons (.set 3 (.ite (.cmp .gt (.var 2) (.lit (.int 0))) (.var 3) (.neg (.var 3)))) (.cons (.ret (.tup (.cons (.bin .fdiv (.var 0) (.var 3)) (.cons (.bin .fdiv (.var 1) (.var 3)) (.cons (.bin .fdiv (.var 2) (.var 3)) .nil))))) .nil))) }
def p_vector_between : PFun := { np := 3, ns := 3, urn := false, fresh := false, body := (.cons (.ret (.call "vector_sum" (.cons (.var 0) (.cons (.call "vector_times" (.cons (.call "vector_less" (.cons (.var 1) (.cons (.var 0) .nil)) [0, 1]) (.cons (.var 2) .nil)) [0, 1]) .nil)) [0, 1])) .nil) }
def p_vector_less : PFun := { np := 2, ns := 2, urn := false, fresh := false, body := (.cons (.ret (.call "vector" (.cons (.bin .sub (.bin .mul (.idx (.var 0) (.lit (.int 0))) (.idx (.var 1) (.lit (.int 2)))) (.bin .mul (.idx (.var 1) (.lit (.int 0))) (.idx (.var 0) (.lit (.int 2))))) (.cons (.bin .sub (.bin .mul (.idx (.var 0) (.lit (.int 1))) (.idx (.var 1) (.lit (.int 2)))) (.bin .mul (.idx (.var 1) (.lit (.int 1))) (.idx (.var 0) (.lit (.int 2))))) (.cons (.bin .mul (.idx (.var 0) (.lit (.int 2))) (.idx (.var 1) (.lit (.int 2)))) .nil))) [0, 1, 2])) .nil) }
def p_vector_sum : PFun := { np := 2, ns := 2, urn := false, fresh := false, body := (.cons (.ret (.call "vector" (.cons (.bin .add (.bin .mul (.idx (.var 0) (.lit (.int 0))) (.idx (.var 1) (.lit (.int 2)))) (.bin .mul (.idx (.var 1) (.lit (.int 0))) (.idx (.var 0) (.lit (.int 2))))) (.cons (.bin .add (.bin .mul (.idx (.var 0) (.lit (.int 1))) (.idx (.var 1) (.lit (.int 2)))) (.bin .mul (.idx (.var 1) (.lit (.int 1))) (.idx (.var 0) (.lit (.int 2))))) (.cons (.bin .mul (.idx (.var 0) (.lit (.int 2))) (.idx (.var 1) (.lit (.int 2)))) .nil))) [0, 1, 2])) .nil) }
def p_vector_times : PFun := { np := 2, ns := 2, urn := false, fresh := false, body := (.cons (.ret (.call "vector" (.cons (.bin .mul (.idx (.var 0) (.lit (.int 0))) (.idx (.var 1) (.lit (.int 0)))) (.cons (.bin .mul (.idx (.var 0) (.lit (.int 1))) (.idx (.var 1) (.lit (.int 0)))) (.cons (.bin .mul (.idx (.var 0) (.lit (.int 2))) (.idx (.var 1) (.lit (.int 1)))) .nil))) [0, 1, 2])) .nil) }
def p_what_remains : PFun := { np := 2, ns := 2, urn := false, fresh := false, body := (.cons (.ret (.call "shortened" (.cons (.idx (.call "divided" (.cons (.var 0) (.cons (.var 1) .nil)) [0, 1]) (.lit (.int 1))) .nil) [0])) .nil) }
end Pl
/-! PLib1: to reckon with the evaluator. -/
namespace Pl
open PySem (PyData Str)

theorem callU_eq {G : Prog} {f : String} {p : PFun} (h : G.T f = some p) (n : Nat) (ds : List D) (u : U) : callU G (n + 1) f ds u = runF (ctxN G n) G.ff p ds u := by
  show (match G.T f with | some q => runF (ctxOf G (callU G n)) G.ff q ds u | none => none) = _
  rw [h]; rfl
theorem ctx_fn {G : Prog} {f : String} {p : PFun} (h : G.T f = some p) (hu : p.urn = false) (n : Nat) (ds : List D) : (ctxN G n).fn f ds = (callU G n f ds []).map (·.1) := by
  unfold ctxN ctxOf
  simp only [h, hu, Bool.false_eq_true, if_false]
theorem ctx_ufn {G : Prog} {f : String} {p : PFun} (h : G.T f = some p) (hu : p.urn = true) (n : Nat) (ds : List D) (u : U) : (ctxN G n).ufn f ds u = callU G n f ds u := by
  unfold ctxN ctxOf
  simp only [h, hu, if_true]
theorem ff_eq {G : Prog} {f : String} {p : PFun} (h : G.T f = some p) : G.ff f = p.fresh := by
  unfold Prog.ff
  rw [h]

@[simp] theorem wipe_nil (env : Env) : wipe env [] = env := rfl
@[simp] theorem wipe_cons (env : Env) (v : Nat) (vs : List Nat) : wipe env (v :: vs) = (wipe env vs).set v .no := rfl
@[simp] theorem shaped_int (i : Int) : PySem.SeqAt.shaped (.int i) = true := by simp [PySem.SeqAt.shaped, PyData.canLay0, PyData.depth]
@[simp] theorem shaped_bool (i : Bool) : PySem.SeqAt.shaped (.bool i) = true := by simp [PySem.SeqAt.shaped, PyData.canLay0, PyData.depth]
@[simp] theorem eqD_int (i j : Int) : eqD (.int i) (.int j) = some (decide (i = j)) := by
  simp [eqD, PyData.eqv]
  rfl
@[simp] theorem eqD_str (i j : Str) : eqD (.str i) (.str j) = some (decide (i = j)) := rfl
@[simp] theorem atI_nat {α : Type} (xs : List α) (n : Nat) : atI xs (n : Int) = xs[n]? := by
  unfold atI
  rw [if_pos (Int.natCast_nonneg n)]
  rfl
@[simp] theorem atI_0 {α : Type} (xs : List α) : atI xs 0 = xs[0]? := rfl
@[simp] theorem atI_2 {α : Type} (xs : List α) : atI xs 2 = xs[2]? := rfl
@[simp] theorem atI_3 {α : Type} (xs : List α) : atI xs 3 = xs[3]? := rfl
@[simp] theorem atI_4 {α : Type} (xs : List α) : atI xs 4 = xs[4]? := rfl
@[simp] theorem atI_5 {α : Type} (xs : List α) : atI xs 5 = xs[5]? := rfl
@[simp] theorem atI_6 {α : Type} (xs : List α) : atI xs 6 = xs[6]? := rfl
@[simp] theorem atI_7 {α : Type} (xs : List α) : atI xs 7 = xs[7]? := rfl
@[simp] theorem atI_8 {α : Type} (xs : List α) : atI xs 8 = xs[8]? := rfl
@[simp] theorem atI_9 {α : Type} (xs : List α) : atI xs 9 = xs[9]? := rfl
@[simp] theorem atI_1 {α : Type} (xs : List α) : atI xs 1 = xs[1]? := rfl
@[simp] theorem ixN_nat (n m : Nat) : ixN m (n : Int) = if n < m then some n else none := by
  unfold ixN
  rw [if_pos (Int.natCast_nonneg n)]
  simp
@[simp] theorem ixN_0 (m : Nat) : ixN m 0 = if 0 < m then some 0 else none := ixN_nat 0 m
@[simp] theorem ixN_1 (m : Nat) : ixN m 1 = if 1 < m then some 1 else none := ixN_nat 1 m
@[simp] theorem ixN_2 (m : Nat) : ixN m 2 = if 2 < m then some 2 else none := ixN_nat 2 m
@[simp] theorem ixN_3 (m : Nat) : ixN m 3 = if 3 < m then some 3 else none := ixN_nat 3 m
@[simp] theorem sizeOk_lit (n : Nat) : sizeOk n = decide (n ≤ 100000) := rfl

theorem ff_no {G : Prog} {f : String} {p : PFun} (h : G.T f = some p) (hf : p.fresh = false) : G.ff f = false := (ff_eq h).trans hf
theorem slotOf_nl {ff : String → Bool} {e : E} {d : D} (h : isL d = false) : slotOf ff e d = .imm d := by
  unfold slotOf
  cases d <;> simp [isL] at h ⊢
@[simp] theorem slotOf_int {ff : String → Bool} {e : E} {i : Int} : slotOf ff e (.int i) = .imm (.int i) := slotOf_nl rfl
@[simp] theorem slotOf_bool {ff : String → Bool} {e : E} {i : Bool} : slotOf ff e (.bool i) = .imm (.bool i) := slotOf_nl rfl
@[simp] theorem slotOf_none {ff : String → Bool} {e : E} : slotOf ff e .none = .imm .none := slotOf_nl rfl
@[simp] theorem slotOf_str {ff : String → Bool} {e : E} {i : Str} : slotOf ff e (.str i) = .imm (.str i) := slotOf_nl rfl
@[simp] theorem slotOf_tuple {ff : String → Bool} {e : E} {i : List D} : slotOf ff e (.tuple i) = .imm (.tuple i) := slotOf_nl rfl
@[simp] theorem slotOf_list_t {ff : String → Bool} {e : E} {i : List D} (h : fk ff e = true) : slotOf ff e (.list i) = .own i := by unfold slotOf; rw [if_pos h]
@[simp] theorem slotOf_list_f {ff : String → Bool} {e : E} {i : List D} (h : fk ff e = false) : slotOf ff e (.list i) = .imm (.list i) := by unfold slotOf; rw [h]; rfl
theorem within_nl {ff : String → Bool} {e : E} {d : D} (h : noList d = true) : within ff e d = true := by
  unfold within
  cases d <;> simp [noList] at h ⊢ <;> exact h
@[simp] theorem within_int {ff : String → Bool} {e : E} {i : Int} : within ff e (.int i) = true := within_nl rfl
@[simp] theorem within_bool {ff : String → Bool} {e : E} {i : Bool} : within ff e (.bool i) = true := within_nl rfl
@[simp] theorem within_none {ff : String → Bool} {e : E} : within ff e .none = true := within_nl rfl
@[simp] theorem within_str {ff : String → Bool} {e : E} {i : Str} : within ff e (.str i) = true := within_nl rfl
@[simp] theorem within_tuple {ff : String → Bool} {e : E} {i : List D} : within ff e (.tuple i) = noListAll i := by unfold within; split <;> rfl
@[simp] theorem within_list_t {ff : String → Bool} {e : E} {i : List D} (h : fk ff e = true) : within ff e (.list i) = noListAll i := by unfold within; rw [if_pos h]
@[simp] theorem within_list_f {ff : String → Bool} {e : E} {i : List D} (h : fk ff e = false) : within ff e (.list i) = false := by unfold within; rw [h]; rfl
@[simp] theorem after_t {ff : String → Bool} {env : Env} {e : E} {d : D} (h : within ff e d = true) : after ff env e d = env := by unfold after; rw [if_pos h]
@[simp] theorem after_f {ff : String → Bool} {env : Env} {e : E} {d : D} (h : within ff e d = false) : after ff env e d = freeze env (fvE e) := by unfold after; rw [h]; rfl

/-- whole numbers below 2 ^ k -/
def Sm (k : Nat) (i : Int) : Prop := i.natAbs < 2 ^ k
theorem Sm.mono {j k : Nat} {i : Int} (h : Sm j i) (q : j ≤ k) : Sm k i := Nat.lt_of_lt_of_le h (Nat.pow_le_pow_right (by decide) q)
theorem Sm.mul {j k : Nat} {a b : Int} (h : Sm j a) (q : Sm k b) : Sm (j + k) (a * b) := by
  unfold Sm at *
  rw [Int.natAbs_mul, Nat.pow_add]
  exact Nat.mul_lt_mul'' h q
theorem Sm.add {j k : Nat} {a b : Int} (h : Sm j a) (q : Sm k b) : Sm (max j k + 1) (a + b) := by
  have h1 := h.mono (Nat.le_max_left j k)
  have h2 := q.mono (Nat.le_max_right j k)
  unfold Sm at *
  rw [Nat.pow_succ]
  omega
theorem Sm.neg {k : Nat} {a : Int} (h : Sm k a) : Sm k (-a) := by unfold Sm at *; rw [Int.natAbs_neg]; exact h
theorem Sm.sub {j k : Nat} {a b : Int} (h : Sm j a) (q : Sm k b) : Sm (max j k + 1) (a - b) := by
  rw [Int.sub_eq_add_neg]
  exact h.add q.neg
theorem log2_lt {n k : Nat} (h : n < 2 ^ k) (hk : 0 < k) : n.log2 < k := by
  by_cases hn : n = 0
  · subst hn; simpa using hk
  · exact (Nat.log2_lt hn).mpr h
theorem mulOk_of {j k : Nat} {a b : Int} (h : Sm j a) (q : Sm k b) (hj : j < 400000) (hk : k < 400000) : mulOk a b = true := by
  unfold mulOk
  have h1 := log2_lt (h.mono (Nat.le_succ j)) (Nat.succ_pos j)
  have h2 := log2_lt (q.mono (Nat.le_succ k)) (Nat.succ_pos k)
  exact decide_eq_true (by omega)
theorem divOk_of {k : Nat} {b : Int} (h : Sm k b) (hb : b ≠ 0) (hk : k < 8999) : divOk b = true := by
  unfold divOk
  have h1 := log2_lt (h.mono (Nat.le_succ k)) (Nat.succ_pos k)
  exact decide_eq_true ⟨hb, by omega⟩
theorem Sm.ofDvd {k : Nat} {a p b : Int} (h : Sm k a) (e : a = p * b) (hp : p ≠ 0) : Sm k b := by
  unfold Sm at *
  refine Nat.lt_of_le_of_lt ?_ h
  rw [e, Int.natAbs_mul]
  exact Nat.le_mul_of_pos_left _ (Int.natAbs_pos.mpr hp)

/-- a point, a way: three whole numbers -/
abbrev T3 (x y w : Int) : D := .tuple [.int x, .int y, .int w]
abbrev T2 (x y : Int) : D := .tuple [.int x, .int y]

theorem c_is_whole {G : Prog} (h : G.T "is_whole" = some p_is_whole) (n : Nat) (i : Int) : callU G (n + 1) "is_whole" [.int i] [] = some (.bool true, []) := by
  rw [callU_eq h]
  simp [runF, p_is_whole, mkEnv]
theorem c_are_wholes3 {G : Prog} (h0 : G.T "is_whole" = some p_is_whole) (h : G.T "are_wholes" = some p_are_wholes) (n : Nat) (x y w : Int) : callU G (n + 2) "are_wholes" [T3 x y w, .int 3] [] = some (.bool true, []) := by
  rw [callU_eq h]
  simp [runF, p_are_wholes, mkEnv, ctx_fn h0 rfl, c_is_whole h0]
theorem c_are_wholes2 {G : Prog} (h0 : G.T "is_whole" = some p_is_whole) (h : G.T "are_wholes" = some p_are_wholes) (n : Nat) (x y : Int) : callU G (n + 2) "are_wholes" [T2 x y, .int 2] [] = some (.bool true, []) := by
  rw [callU_eq h]
  simp [runF, p_are_wholes, mkEnv, ctx_fn h0 rfl, c_is_whole h0]
theorem c_sign_of {G : Prog} (h : G.T "sign_of" = some p_sign_of) (n : Nat) (i : Int) : callU G (n + 1) "sign_of" [.int i] [] = some (.int i.sign, []) := by
  rw [callU_eq h]
  rcases Int.lt_trichotomy i 0 with q | q | q
  · simp [runF, p_sign_of, mkEnv, Int.sign_eq_neg_one_of_neg q, q, Int.not_lt.mpr (Int.le_of_lt q)]
  · subst q; simp [runF, p_sign_of, mkEnv]
  · simp [runF, p_sign_of, mkEnv, Int.sign_eq_one_of_pos q, q]
def g3 (x y w : Int) : Int := (Nat.gcd (Nat.gcd x.natAbs y.natAbs) w.natAbs : Nat)
def g2 (x y : Int) : Int := (Nat.gcd x.natAbs y.natAbs : Nat)
theorem c_divisor_of3 {G : Prog} (h : G.T "divisor_of" = some p_divisor_of) (n : Nat) (x y w : Int) : callU G (n + 1) "divisor_of" [T3 x y w] [] = some (.int (g3 x y w), []) := by
  rw [callU_eq h]
  simp [runF, p_divisor_of, mkEnv, g3]
theorem c_divisor_of2 {G : Prog} (h : G.T "divisor_of" = some p_divisor_of) (n : Nat) (x y : Int) : callU G (n + 1) "divisor_of" [T2 x y] [] = some (.int (g2 x y), []) := by
  rw [callU_eq h]
  simp [runF, p_divisor_of, mkEnv, g2]
end Pl

/-! PLib2: points and fractions of the program. -/
namespace Pl
open PySem (PyData Str)

/-! ### normal forms -/
def nx3 (x y w : Int) : Int := Int.fdiv x (g3 x y w)
def ny3 (x y w : Int) : Int := Int.fdiv y (g3 x y w)
def nw3 (x y w : Int) : Int := Int.fdiv w (g3 x y w)
abbrev nv3 (x y w : Int) : D := T3 (nx3 x y w) (ny3 x y w) (nw3 x y w)
theorem fdiv_mul {g a : Int} (h : g ≠ 0) : Int.fdiv (g * a) g = a := Int.mul_fdiv_cancel_left a h
theorem g3_dvd (x y w : Int) : (g3 x y w ∣ x) ∧ (g3 x y w ∣ y) ∧ (g3 x y w ∣ w) := by
  unfold g3
  refine ⟨?_, ?_, ?_⟩ <;> rw [Int.ofNat_dvd_left]
  · exact Nat.dvd_trans (Nat.gcd_dvd_left _ _) (Nat.gcd_dvd_left _ _)
  · exact Nat.dvd_trans (Nat.gcd_dvd_left _ _) (Nat.gcd_dvd_right _ _)
  · exact Nat.gcd_dvd_right _ _
theorem g3_pos {x y w : Int} (h : w ≠ 0) : 0 < g3 x y w := by
  unfold g3
  exact_mod_cast Nat.gcd_pos_of_pos_right _ (Int.natAbs_pos.mpr h)
theorem n3_eq {x y w : Int} (h : w ≠ 0) : x = g3 x y w * nx3 x y w ∧ y = g3 x y w * ny3 x y w ∧ w = g3 x y w * nw3 x y w := by
  have hp := Int.ne_of_gt (g3_pos (x := x) (y := y) h)
  obtain ⟨⟨a, ha⟩, ⟨b, hb⟩, ⟨c, hc⟩⟩ := g3_dvd x y w
  refine ⟨?_, ?_, ?_⟩
  · unfold nx3
    conv => rhs; rhs; lhs; rw [ha]
    rw [fdiv_mul hp]; exact ha
  · unfold ny3
    conv => rhs; rhs; lhs; rw [hb]
    rw [fdiv_mul hp]; exact hb
  · unfold nw3
    conv => rhs; rhs; lhs; rw [hc]
    rw [fdiv_mul hp]; exact hc
theorem pos_of {g a b : Int} (h : 0 < b) (hg : 0 < g) (e : b = g * a) : 0 < a := by
  rcases Int.lt_or_le 0 a with q | q
  · exact q
  · have := Int.mul_le_mul_of_nonneg_left q (Int.le_of_lt hg)
    rw [← e, Int.mul_zero] at this
    omega
theorem nw3_pos {x y w : Int} (h : 0 < w) : 0 < nw3 x y w := by
  exact pos_of h (g3_pos (x := x) (y := y) (Int.ne_of_gt h)) (n3_eq (x := x) (y := y) (Int.ne_of_gt h)).2.2
theorem g3_mul (k x y w : Int) : g3 (k * x) (k * y) (k * w) = k.natAbs * g3 x y w := by
  unfold g3
  rw [Int.natAbs_mul, Int.natAbs_mul, Int.natAbs_mul, Nat.gcd_mul_left, Nat.gcd_mul_left]
  push_cast
  rfl
theorem g3_n {x y w : Int} (h : w ≠ 0) : g3 (nx3 x y w) (ny3 x y w) (nw3 x y w) = 1 := by
  obtain ⟨h1, h2, h3⟩ := n3_eq (x := x) (y := y) h
  have hp := g3_pos (x := x) (y := y) h
  have e := g3_mul (g3 x y w) (nx3 x y w) (ny3 x y w) (nw3 x y w)
  rw [← h1, ← h2, ← h3] at e
  have e2 : ((g3 x y w).natAbs : Int) = g3 x y w := Int.natAbs_of_nonneg (Int.le_of_lt hp)
  rw [e2] at e
  have e3 : g3 x y w * 1 = g3 x y w * g3 (nx3 x y w) (ny3 x y w) (nw3 x y w) := by rw [Int.mul_one]; exact e
  exact (Int.eq_of_mul_eq_mul_left (Int.ne_of_gt hp) e3).symm
def n1 (x y : Int) : Int := Int.fdiv x (g2 x y)
def n2 (x y : Int) : Int := Int.fdiv y (g2 x y)
abbrev nv2 (x y : Int) : D := T2 (n1 x y) (n2 x y)
theorem g2_dvd (x y : Int) : (g2 x y ∣ x) ∧ (g2 x y ∣ y) := by
  unfold g2
  refine ⟨?_, ?_⟩ <;> rw [Int.ofNat_dvd_left]
  · exact Nat.gcd_dvd_left _ _
  · exact Nat.gcd_dvd_right _ _
theorem g2_pos {x y : Int} (h : y ≠ 0) : 0 < g2 x y := by
  unfold g2
  exact_mod_cast Nat.gcd_pos_of_pos_right _ (Int.natAbs_pos.mpr h)
theorem n2_eq {x y : Int} (h : y ≠ 0) : x = g2 x y * n1 x y ∧ y = g2 x y * n2 x y := by
  have hp := Int.ne_of_gt (g2_pos (x := x) h)
  obtain ⟨⟨a, ha⟩, ⟨b, hb⟩⟩ := g2_dvd x y
  refine ⟨?_, ?_⟩
  · unfold n1
    conv => rhs; rhs; lhs; rw [ha]
    rw [fdiv_mul hp]; exact ha
  · unfold n2
    conv => rhs; rhs; lhs; rw [hb]
    rw [fdiv_mul hp]; exact hb
end Pl

/-! PLib3: the program's vectors and fractions, reckoned. -/
namespace Pl
open PySem (PyData Str)

structure KnVb (G : Prog) : Prop where
  is_whole : G.T "is_whole" = some p_is_whole
  are_wholes : G.T "are_wholes" = some p_are_wholes
  divisor_of : G.T "divisor_of" = some p_divisor_of
  is_reduced : G.T "is_reduced" = some p_is_reduced
  is_vector : G.T "is_vector" = some p_is_vector
  vector : G.T "vector" = some p_vector
structure KnV (G : Prog) : Prop extends KnVb G where
  ratio : G.T "ratio" = some p_ratio
instance {G : Prog} : Coe (KnV G) (KnVb G) := ⟨KnV.toKnVb⟩
section
variable {G : Prog} (K : KnVb G)
include K
theorem c_is_reduced3 (n : Nat) (x y w : Int) : callU G (n + 2) "is_reduced" [T3 x y w] [] = some (.bool (decide (g3 x y w = 1)), []) := by
  rw [callU_eq K.is_reduced]
  simp [runF, p_is_reduced, mkEnv, ctx_fn K.divisor_of rfl, c_divisor_of3 K.divisor_of]
theorem c_is_reduced2 (n : Nat) (x y : Int) : callU G (n + 2) "is_reduced" [T2 x y] [] = some (.bool (decide (g2 x y = 1)), []) := by
  rw [callU_eq K.is_reduced]
  simp [runF, p_is_reduced, mkEnv, ctx_fn K.divisor_of rfl, c_divisor_of2 K.divisor_of]
theorem c_is_vector (n : Nat) {x y w : Int} (hw : 0 < w) (hg : g3 x y w = 1) : callU G (n + 3) "is_vector" [T3 x y w] [] = some (.bool true, []) := by
  rw [callU_eq K.is_vector]
  simp [runF, p_is_vector, mkEnv, ctx_fn K.are_wholes rfl, ctx_fn K.is_reduced rfl, c_are_wholes3 K.is_whole K.are_wholes, c_is_reduced3 K, hw, hg]
theorem c_is_ratio (hir : G.T "is_ratio" = some p_is_ratio) (n : Nat) {x y : Int} (hw : 0 < y) (hg : g2 x y = 1) : callU G (n + 3) "is_ratio" [T2 x y] [] = some (.bool true, []) := by
  rw [callU_eq hir]
  simp [runF, p_is_ratio, mkEnv, ctx_fn K.are_wholes rfl, ctx_fn K.is_reduced rfl, c_are_wholes2 K.is_whole K.are_wholes, c_is_reduced2 K, hw, hg]
theorem c_vector (n : Nat) {x y w : Int} (hw : 0 < w) (hd : divOk (g3 x y w) = true) : callU G (n + 2) "vector" [.int x, .int y, .int w] [] = some (nv3 x y w, []) := by
  rw [callU_eq K.vector]
  simp [runF, p_vector, mkEnv, ctx_fn K.divisor_of rfl, c_divisor_of3 K.divisor_of, hw, hd, nx3, ny3, nw3]
end
theorem c_ratio {G : Prog} (K : KnV G) (n : Nat) {x y : Int} (hw : 0 < y) (hd : divOk (g2 x y) = true) : callU G (n + 2) "ratio" [.int x, .int y] [] = some (nv2 x y, []) := by
  rw [callU_eq K.ratio]
  simp [runF, p_ratio, mkEnv, ctx_fn K.divisor_of rfl, c_divisor_of2 K.divisor_of, hw, hd, n1, n2]
theorem sm_g3 {k : Nat} {x y w : Int} (hw : w ≠ 0) (h : Sm k w) : Sm k (g3 x y w) := by
  obtain ⟨h1, h2, h3⟩ := n3_eq (x := x) (y := y) hw
  refine h.ofDvd (p := nw3 x y w) (by rw [Int.mul_comm]; exact h3) fun z => ?_
  rw [z, Int.mul_zero] at h3
  exact hw h3
theorem sm_g2 {k : Nat} {x y : Int} (hw : y ≠ 0) (h : Sm k y) : Sm k (g2 x y) := by
  obtain ⟨h1, h3⟩ := n2_eq (x := x) hw
  refine h.ofDvd (p := n2 x y) (by rw [Int.mul_comm]; exact h3) fun z => ?_
  rw [z, Int.mul_zero] at h3
  exact hw h3
theorem dv3 {k : Nat} {x y w : Int} (hw : 0 < w) (h : Sm k w) (hk : k < 8999) : divOk (g3 x y w) = true :=
  divOk_of (sm_g3 (Int.ne_of_gt hw) h) (Int.ne_of_gt (g3_pos (Int.ne_of_gt hw))) hk
theorem dv2 {k : Nat} {x y : Int} (hw : 0 < y) (h : Sm k y) (hk : k < 8999) : divOk (g2 x y) = true :=
  divOk_of (sm_g2 (Int.ne_of_gt hw) h) (Int.ne_of_gt (g2_pos (Int.ne_of_gt hw))) hk
/-- a reduced point with small numbers -/
structure Pt (k : Nat) (x y w : Int) : Prop where
  pos : 0 < w
  red : g3 x y w = 1
  x : Sm k x
  y : Sm k y
  w : Sm k w
structure Fr (k : Nat) (x y : Int) : Prop where
  pos : 0 < y
  red : g2 x y = 1
  x : Sm k x
  y : Sm k y
theorem pt_n {k : Nat} {x y w : Int} (hw : 0 < w) (h1 : Sm k x) (h2 : Sm k y) (h3 : Sm k w) : Pt k (nx3 x y w) (ny3 x y w) (nw3 x y w) := by
  obtain ⟨e1, e2, e3⟩ := n3_eq (x := x) (y := y) (Int.ne_of_gt hw)
  have hp := Int.ne_of_gt (g3_pos (x := x) (y := y) (Int.ne_of_gt hw))
  exact ⟨nw3_pos hw, g3_n (Int.ne_of_gt hw), h1.ofDvd e1 hp, h2.ofDvd e2 hp, h3.ofDvd e3 hp⟩
theorem Sm.c {k : Nat} {a b c d : Int} {j : Nat} (h1 : Sm k a) (h2 : Sm k b) (h3 : Sm k c) (h4 : Sm k d) (hj : k + k + 1 ≤ j) : Sm j (a * b + c * d) ∧ Sm j (a * b - c * d) := by
  have q1 := (h1.mul h2).add (h3.mul h4)
  have q2 := (h1.mul h2).sub (h3.mul h4)
  rw [Nat.max_self] at q1 q2
  exact ⟨q1.mono hj, q2.mono hj⟩

structure KnP (G : Prog) : Prop extends KnV G where
  sign_of : G.T "sign_of" = some p_sign_of
  vector_sum : G.T "vector_sum" = some p_vector_sum
  vector_less : G.T "vector_less" = some p_vector_less
  vector_times : G.T "vector_times" = some p_vector_times
  vector_between : G.T "vector_between" = some p_vector_between
  inner_of : G.T "inner_of" = some p_inner_of
  cross_of : G.T "cross_of" = some p_cross_of
  quartered : G.T "quartered" = some p_quartered
  turn_of : G.T "turn_of" = some p_turn_of
section
variable {G : Prog} (K : KnP G) {k : Nat} {a b c x y w : Int}
include K
theorem c_vsum (n : Nat) (A : Pt k a b c) (B : Pt k x y w) (hk : k < 4000) : callU G (n + 3) "vector_sum" [T3 a b c, T3 x y w] [] = some (nv3 (a * w + x * c) (b * w + y * c) (c * w), []) := by
  have mo : ∀ {i j : Int}, Sm k i → Sm k j → mulOk i j = true := fun h q => mulOk_of h q (by omega) (by omega)
  rw [callU_eq K.vector_sum]
  simp [runF, p_vector_sum, mkEnv, mo A.x B.w, mo B.x A.w, mo A.y B.w, mo B.y A.w, mo A.w B.w, ctx_fn K.vector rfl, c_vector K.toKnVb n (x := a * w + x * c) (y := b * w + y * c) (w := c * w) (Int.mul_pos A.pos B.pos) (dv3 (Int.mul_pos A.pos B.pos) (A.w.mul B.w) (by omega))]
theorem c_vless (n : Nat) (A : Pt k a b c) (B : Pt k x y w) (hk : k < 4000) : callU G (n + 3) "vector_less" [T3 a b c, T3 x y w] [] = some (nv3 (a * w - x * c) (b * w - y * c) (c * w), []) := by
  have mo : ∀ {i j : Int}, Sm k i → Sm k j → mulOk i j = true := fun h q => mulOk_of h q (by omega) (by omega)
  rw [callU_eq K.vector_less]
  simp [runF, p_vector_less, mkEnv, mo A.x B.w, mo B.x A.w, mo A.y B.w, mo B.y A.w, mo A.w B.w, ctx_fn K.vector rfl, c_vector K.toKnVb n (x := a * w - x * c) (y := b * w - y * c) (w := c * w) (Int.mul_pos A.pos B.pos) (dv3 (Int.mul_pos A.pos B.pos) (A.w.mul B.w) (by omega))]
theorem c_vtimes (n : Nat) (A : Pt k a b c) (B : Fr k x y) (hk : k < 4000) : callU G (n + 3) "vector_times" [T3 a b c, T2 x y] [] = some (nv3 (a * x) (b * x) (c * y), []) := by
  have mo : ∀ {i j : Int}, Sm k i → Sm k j → mulOk i j = true := fun h q => mulOk_of h q (by omega) (by omega)
  rw [callU_eq K.vector_times]
  simp [runF, p_vector_times, mkEnv, mo A.x B.x, mo A.y B.x, mo A.w B.y, ctx_fn K.vector rfl, c_vector K.toKnVb n (x := a * x) (y := b * x) (w := c * y) (Int.mul_pos A.pos B.pos) (dv3 (Int.mul_pos A.pos B.pos) (A.w.mul B.y) (by omega))]
theorem c_inner_of (n : Nat) (A : Pt k a b c) (B : Pt k x y w) (hk : k < 4000) : callU G (n + 3) "inner_of" [T3 a b c, T3 x y w] [] = some (nv2 (a * x + b * y) (c * w), []) := by
  have mo : ∀ {i j : Int}, Sm k i → Sm k j → mulOk i j = true := fun h q => mulOk_of h q (by omega) (by omega)
  rw [callU_eq K.inner_of]
  simp [runF, p_inner_of, mkEnv, mo A.x B.x, mo A.y B.y, mo A.w B.w, ctx_fn K.ratio rfl, c_ratio K.toKnV n (x := a * x + b * y) (y := c * w) (Int.mul_pos A.pos B.pos) (dv2 (Int.mul_pos A.pos B.pos) (A.w.mul B.w) (by omega))]
theorem c_cross_of (n : Nat) (A : Pt k a b c) (B : Pt k x y w) (hk : k < 4000) : callU G (n + 3) "cross_of" [T3 a b c, T3 x y w] [] = some (nv2 (a * y - b * x) (c * w), []) := by
  have mo : ∀ {i j : Int}, Sm k i → Sm k j → mulOk i j = true := fun h q => mulOk_of h q (by omega) (by omega)
  rw [callU_eq K.cross_of]
  simp [runF, p_cross_of, mkEnv, mo A.x B.y, mo A.y B.x, mo A.w B.w, ctx_fn K.ratio rfl, c_ratio K.toKnV n (x := a * y - b * x) (y := c * w) (Int.mul_pos A.pos B.pos) (dv2 (Int.mul_pos A.pos B.pos) (A.w.mul B.w) (by omega))]
theorem c_quartered (n : Nat) (a b c : Int) : callU G (n + 1) "quartered" [T3 a b c] [] = some (T3 (-b) a c, []) := by
  rw [callU_eq K.quartered]
  simp [runF, p_quartered, mkEnv]
end
end Pl

/-! PLib4: the laws' own draws. -/
namespace Pl
open PySem (PyData Str)

theorem forL_inv {step : D → Env → U → Option O} {I : Env → U → Prop} : ∀ {ds : List D} {env : Env} {u : U}, (∀ d ∈ ds, ∀ env u, I env u → ∃ env' u', step d env u = some (.nx env' u') ∧ I env' u') → I env u → ∃ env' u', forL step ds env u = some (.nx env' u') ∧ I env' u'
  | [], env, u, _, h => ⟨env, u, rfl, h⟩
  | d :: ds, env, u, hs, h => by
    obtain ⟨env1, u1, e1, h1⟩ := hs d List.mem_cons_self env u h
    obtain ⟨env2, u2, e2, h2⟩ := forL_inv (ds := ds) (fun d hd => hs d (List.mem_cons_of_mem _ hd)) h1
    refine ⟨env2, u2, ?_, h2⟩
    simp only [forL, e1, Option.bind_some]
    exact e2

section
variable {C : Ctx} {ff : String → Bool}
theorem runF_of {p : PFun} {ds : List D} {u u' : U} {d : D} (hn : ds.length + (if p.urn then 1 else 0) = p.np) (h : execSs C ff p.body (mkEnv p ds) u = some (.rt d u')) : runF C ff p ds u = some (d, u') := by
  unfold runF
  rw [if_pos hn, h]
theorem run_cons {s : S} {ss : Ss} {env env1 : Env} {u u1 : U} {o : Option O} (h : execS C ff s env u = some (.nx env1 u1)) (h2 : execSs C ff ss env1 u1 = o) : execSs C ff (.cons s ss) env u = o := by
  rw [execSs, h]
  exact h2
theorem run_last {s : S} {ss : Ss} {env : Env} {u u1 : U} {d : D} (h : execS C ff s env u = some (.rt d u1)) : execSs C ff (.cons s ss) env u = some (.rt d u1) := by
  rw [execSs, h]
  rfl
theorem run_for {t : Tg} {it : I} {b : Ss} {env : Env} {u u1 : U} {ds : List D} {o : Option O} (h1 : evalI C it env u = some (ds, u1)) (hz : ds.length ≤ 100000)
    (h2 : forL (fun d env u => (bindT t d env).bind fun env' => execSs C ff b env' u) ds (if iterOk it then env else freeze env (fvI it)) u1 = o) : execS C ff (.for_ t it b) env u = o := by
  simp only [execS, h1, Option.bind_some]
  rw [if_pos (show sizeOk ds.length = true from decide_eq_true hz)]
  exact h2
end
structure KnU0 (G : Prog) : Prop where
  urn : G.T "_law_urn" = some p__law_urn
  pull : G.T "_law_pull" = some p__law_pull
  any : G.T "_law_any" = some p__law_any
  laps : G.T "_law_laps" = some p__law_laps
structure KnU (G : Prog) : Prop extends KnU0 G where
  num : G.T "_law_num" = some p__law_num
/-- a pot of draws -/
def Pot (u : U) : Prop := ∃ z0 z1 z2, u = [z0, z1, z2] ∧ Sm 40 z1 ∧ Sm 40 z2
theorem sm_fmod {a m : Int} {k : Nat} (h : 0 < m) (hm : Sm k m) : Sm k (Int.fmod a m) := by
  have h1 := Int.fmod_nonneg_of_pos a h
  have h2 := Int.fmod_lt_of_pos a h
  unfold Sm at *
  omega
theorem sm_lit {k : Nat} {i : Int} (h : decide (i.natAbs < 2 ^ k) = true) : Sm k i := by unfold Sm; exact of_decide_eq_true h
section
variable {G : Prog} (K : KnU0 G)
include K
theorem c_pull0 (n : Nat) {u : U} {m : Int} (hu : Pot u) (hm : 0 < m) (sm : Sm 64 m) : ∃ d u', callU G (n + 1) "_law_pull" [.int m] u = some (.int d, u') ∧ 0 ≤ d ∧ d < m ∧ Pot u' := by
  obtain ⟨z0, z1, z2, rfl, s1, s2⟩ := hu
  have hd : divOk m = true := divOk_of sm (by omega) (by decide)
  by_cases hz : 0 < z0
  · refine ⟨Int.fmod z0 m, [Int.fdiv z0 m, z1, z2], ?_, Int.fmod_nonneg_of_pos _ hm, Int.fmod_lt_of_pos _ hm, _, _, _, rfl, s1, s2⟩
    rw [callU_eq K.pull]
    simp [runF, p__law_pull, mkEnv, hz, hd]
  · have m1 : mulOk z1 37199 = true := mulOk_of (k := 20) s1 (sm_lit (by decide)) (by decide) (by decide)
    have m2 : mulOk z2 29443 = true := mulOk_of (k := 20) s2 (sm_lit (by decide)) (by decide) (by decide)
    have d1 : divOk 269 = true := divOk_of (k := 20) (sm_lit (by decide)) (by decide) (by decide)
    have q1 : Sm 40 (Int.fmod (z1 * 37199 + 1201) 2147483629) := sm_fmod (by decide) (sm_lit (by decide))
    have q2 : Sm 40 (Int.fmod (z2 * 29443 + Int.fmod (z1 * 37199 + 1201) 2147483629) 2147483587) := sm_fmod (by decide) (sm_lit (by decide))
    refine ⟨Int.fmod (Int.fdiv (Int.fmod (z2 * 29443 + Int.fmod (z1 * 37199 + 1201) 2147483629) 2147483587) 269) m, [z0, _, _], ?_, Int.fmod_nonneg_of_pos _ hm, Int.fmod_lt_of_pos _ hm, _, _, _, rfl, q1, q2⟩
    rw [callU_eq K.pull]
    have hm0 : m ≠ 0 := by omega
    simp [runF, p__law_pull, mkEnv, hz, hd, m1, m2, d1, hm0]
theorem c_any0 (n : Nat) {u : U} {xs : List D} (hu : Pot u) (h0 : xs ≠ []) (hl : xs.length ≤ 100000) : ∃ x u', callU G (n + 2) "_law_any" [.list xs] u = some (x, u') ∧ x ∈ xs ∧ Pot u' := by
  have hp : 0 < xs.length := List.length_pos_iff.mpr h0
  obtain ⟨d, u', e, h1, h2, h3⟩ := c_pull0 K n hu (m := (xs.length : Int)) (by omega) (by unfold Sm; omega)
  obtain ⟨i, rfl⟩ := Int.eq_ofNat_of_zero_le h1
  have hi : i < xs.length := by omega
  refine ⟨xs[i], u', ?_, List.getElem_mem hi, h3⟩
  rw [callU_eq K.any]
  simp [runF, p__law_any, mkEnv, ctx_ufn K.pull rfl, ff_no K.pull rfl, e, hi]
theorem c_laps0 (n : Nat) (xs : List D) : ∃ k : Int, callU G (n + 1) "_law_laps" [.list xs] [] = some (.int k, []) ∧ 2 ≤ k ∧ k ≤ 3 := by
  rw [callU_eq K.laps]
  simp [runF, p__law_laps, mkEnv]
  split <;> split <;> first | omega | skip
end
section
variable {G : Prog} (K : KnU G)
include K
end
end Pl

/-! PLib5: the pot at a law's begin; own fractions (dialect a). -/
namespace Pl
open PySem (PyData Str)
/-- the body of a def's first for, its walk -/
def forBody : Ss → Ss
  | .nil => .nil
  | .cons (.for_ _ _ b) _ => b
  | .cons _ ss => forBody ss
theorem cut63 {α : Type} (xs : List α) : cut xs none (some 63) = xs.take 63 := by
  unfold cut sIx
  simp
section
variable {G : Prog} (K : KnU0 G)
include K
theorem c_urn0 (n : Nat) (ns : List Int) (lap : Int) (h0 : 0 ≤ lap) (hl : lap ≤ 3) (hn : ns.length ≤ 63) : ∃ z0 z1 z2, callU G (n + 1) "_law_urn" [.list (ns.map .int), .int lap] [] = some (.list [.int z0, .int z1, .int z2], []) ∧ Sm 40 z1 ∧ Sm 40 z2 := by
  have lapS : Sm 2 lap := by unfold Sm; omega
  have m0 : mulOk 7001 lap = true := mulOk_of (j := 20) (sm_lit (by decide)) lapS (by decide) (by decide)
  obtain ⟨env', u', hf, seed, d3, rfl, rfl, hs⟩ := forL_inv (step := fun d env u => (bindT (.one 3) d env).bind fun env' => execSs (ctxN G n) G.ff (forBody p__law_urn.body) env' u)
    (I := fun env u => ∃ seed d3, env = [.imm (.list (ns.map .int)), .imm (.int lap), .imm (.int seed), d3, .no] ∧ u = [] ∧ Sm 39 seed) (ds := (ns.map PyData.int).take 63) (env := [.imm (.list (ns.map .int)), .imm (.int lap), .imm (.int (60427 + 7001 * lap)), .no, .no]) (u := [])
    (fun d hd env u ⟨seed, d3, e1, e2, hs⟩ => by
      subst e1 e2
      obtain ⟨c, rfl⟩ : ∃ c, d = .int c := by
        have := List.mem_of_mem_take hd
        obtain ⟨c, _, rfl⟩ := List.mem_map.mp this
        exact ⟨c, rfl⟩
      have m1 : mulOk seed 47701 = true := mulOk_of (k := 20) hs (sm_lit (by decide)) (by decide) (by decide)
      refine ⟨_, _, by simp [forBody, p__law_urn, m1]; exact ⟨rfl, rfl⟩, _, _, rfl, rfl, sm_fmod (by decide) (sm_lit (by decide))⟩)
    ⟨_, _, rfl, rfl, by unfold Sm at *; omega⟩
  have m2 : mulOk seed 41203 = true := mulOk_of (k := 20) hs (sm_lit (by decide)) (by decide) (by decide)
  have own : ∃ w : Int, (if lap < (ns.length : Int) then (atI (ns.map PyData.int) lap).bind fun d => (biV .int [d]).bind fun d => biV .abs [d] else some (.int 0)) = some (.int w) := by
    by_cases hlt : lap < (ns.length : Int)
    · obtain ⟨i, rfl⟩ := Int.eq_ofNat_of_zero_le h0
      have hi : i < ns.length := by omega
      refine ⟨if ns[i] < 0 then -ns[i] else ns[i], ?_⟩
      simp [hi]
    · exact ⟨0, by rw [if_neg hlt]⟩
  obtain ⟨w, hw⟩ := own
  have p18 : (10 : Int) ^ (Int.toNat 18) = 1000000000000000000 := by decide
  refine ⟨if 1000000000000000000 ≤ w then w else 0, Int.fmod (seed * 41203 + Int.fmod w 2147483563 + 5) 2147483563, seed + 3, ?_, sm_fmod (by decide) (sm_lit (by decide)), ?_⟩
  rotate_left
  · exact (hs.add (b := 3) (sm_lit (k := 39) (by decide)))
  rw [callU_eq K.urn]
  refine runF_of rfl (run_cons (env1 := [.imm (.list (ns.map .int)), .imm (.int lap), .imm (.int (60427 + 7001 * lap)), .no, .no]) (u1 := []) ?_ (run_cons (run_for (ds := (ns.map PyData.int).take 63) (u1 := []) ?_ ?_ hf) ?_))
  · simp [mkEnv, p__law_urn, m0]
  · simp [cut63]
  · simp; omega
  by_cases hlt : lap < (ns.length : Int)
  · rw [if_pos hlt] at hw
    obtain ⟨i, rfl⟩ := Int.eq_ofNat_of_zero_le h0
    have hi : i < ns.length := by omega
    simp [hi] at hw
    refine run_cons (env1 := [.imm (.list (ns.map .int)), .imm (.int i), .imm (.int seed), d3, .imm (.int w)]) (u1 := []) ?_ (run_last ?_)
    · simp [hi, hw]
    · by_cases hb : 1000000000000000000 ≤ w
      · simp [hb, m2]
      · simp [hb, m2]
  · rw [if_neg hlt] at hw
    cases hw
    refine run_cons (env1 := [.imm (.list (ns.map .int)), .imm (.int lap), .imm (.int seed), d3, .imm (.int 0)]) (u1 := []) ?_ (run_last ?_)
    · simp [hlt]
    · simp [m2]
end
end Pl

/-! PLib6: own fractions and points of the laws (dialect a). -/
namespace Pl
open PySem (PyData Str)
section
variable {C : Ctx} {ff : String → Bool}
abbrev gStep (C : Ctx) (ff : String → Bool) : D → Env → U → Option O := fun d env u => (bindT (.one 2) d env).bind fun env' => execSs C ff (forBody p__law_gcd__a.body) env' u
theorem gStep_0 (d : D) (a : Int) (s : Slot) (u : U) : gStep C ff d [.imm (.int a), .imm (.int 0), s] u = some (.bk [.imm (.int a), .imm (.int 0), .imm d] u) := by
  simp [gStep, forBody, p__law_gcd__a]
theorem gStep_1 (d : D) (a b : Int) (hb : b ≠ 0) (s : Slot) (u : U) : gStep C ff d [.imm (.int a), .imm (.int b), s] u = some (.nx [.imm (.int b), .imm (.int (Int.fmod a b)), .imm d] u) := by
  simp [gStep, forBody, p__law_gcd__a, hb]
theorem fmod_nat (a b : Nat) : Int.fmod (a : Int) (b : Int) = ((a % b : Nat) : Int) := by
  rw [Int.fmod_eq_emod_of_nonneg _ (Int.natCast_nonneg b)]
  rfl
theorem gcd_loop (u : U) : ∀ (k a b : Nat) (s : Slot) (ds : List D), b < 2 ^ k → 2 * k + 1 ≤ ds.length → ∃ s', forL (gStep C ff) ds [.imm (.int a), .imm (.int b), s] u = some (.nx [.imm (.int (Nat.gcd a b : Nat)), .imm (.int 0), s'] u)
  | k, a, b, s, [], hb, hl => by simp at hl
  | 0, a, b, s, d :: ds, hb, hl => by
    have : b = 0 := by simpa using hb
    subst this
    refine ⟨.imm d, ?_⟩
    have e := gStep_0 (C := C) (ff := ff) d (a : Int) s u
    simp only [forL]
    rw [show ((0 : Nat) : Int) = 0 from rfl, e]
    simp
  | k + 1, a, b, s, d :: [], hb, hl => by simp at hl
  | k + 1, a, b, s, d :: d2 :: ds, hb, hl => by
    by_cases h0 : b = 0
    · subst h0
      refine ⟨.imm d, ?_⟩
      have e := gStep_0 (C := C) (ff := ff) d (a : Int) s u
      simp only [forL]
      rw [show ((0 : Nat) : Int) = 0 from rfl, e]
      simp
    have e1 := gStep_1 (C := C) (ff := ff) d (a : Int) (b : Int) (by exact_mod_cast h0) s u
    rw [fmod_nat] at e1
    by_cases h1 : a % b = 0
    · refine ⟨.imm d2, ?_⟩
      rw [h1] at e1
      have e2 := gStep_0 (C := C) (ff := ff) d2 (b : Int) (.imm d) u
      simp only [forL, e1, Option.bind_some]
      rw [show ((0 : Nat) : Int) = 0 from rfl, e2]
      have hg : Nat.gcd a b = b := by
        rw [Nat.gcd_comm, Nat.gcd_rec, h1, Nat.gcd_zero_left]
      simp [hg]
    · have e2 := gStep_1 (C := C) (ff := ff) d2 (b : Int) ((a % b : Nat) : Int) (by exact_mod_cast h1) (.imm d) u
      rw [fmod_nat] at e2
      have lt1 : a % b < b := Nat.mod_lt _ (Nat.pos_of_ne_zero h0)
      have lt2 : b % (a % b) < a % b := Nat.mod_lt _ (Nat.pos_of_ne_zero h1)
      have ge : a % b + b % (a % b) ≤ b := by
        have := Nat.div_add_mod b (a % b)
        have hq : 0 < b / (a % b) := Nat.div_pos (Nat.le_of_lt lt1) (Nat.pos_of_ne_zero h1)
        have : a % b * 1 ≤ a % b * (b / (a % b)) := Nat.mul_le_mul_left _ hq
        omega
      have hk : b % (a % b) < 2 ^ k := by rw [Nat.pow_succ] at hb; omega
      obtain ⟨s', e3⟩ := gcd_loop u k (a % b) (b % (a % b)) (.imm d2) ds hk (by simp at hl; omega)
      refine ⟨s', ?_⟩
      simp only [forL, e1, e2, Option.bind_some]
      rw [e3]
      have hg : Nat.gcd (a % b) (b % (a % b)) = Nat.gcd a b := by
        conv => rhs; rw [Nat.gcd_comm, Nat.gcd_rec]
        rw [Nat.gcd_comm, ← Nat.gcd_rec]
      rw [hg]
end
structure KnF (G : Prog) : Prop where
  gcd : G.T "_law_gcd" = some p__law_gcd__a
  thin : G.T "_law_thin" = some p__law_thin
  frac : G.T "_law_frac" = some p__law_frac
  spot : G.T "_law_spot" = some p__law_spot__a
section
variable {G : Prog} (K : KnF G)
include K
end
end Pl

/-! PLib7: the other pot of draws (_law_pot, _law_draw, _law_of, _law_from). -/
namespace Pl
open PySem (PyData Str)
/-- a pot after at most m draws -/
def PotN (m : Nat) (u : U) : Prop := ∃ z0 z1 z2, u = [z0, z1, z2] ∧ Sm 40 z1 ∧ 0 ≤ z2 ∧ z2 ≤ (m : Int)
structure KnD (G : Prog) : Prop where
  draw : G.T "_law_draw" = some p__law_draw
  from_ : G.T "_law_from" = some p__law_from
section
variable {G : Prog} (K : KnD G)
include K
end
end Pl

/-! PLib8: rows of whole numbers, in plain Lean: ends cut off, divisors, products, division. -/
namespace Pl
def co (xs : List Int) (i : Nat) : Int := xs.getD i 0
@[simp] theorem co_nil (i : Nat) : co [] i = 0 := rfl
@[simp] theorem co_zero (x : Int) (xs : List Int) : co (x :: xs) 0 = x := rfl
@[simp] theorem co_succ (x : Int) (xs : List Int) (i : Nat) : co (x :: xs) (i + 1) = co xs i := rfl
theorem co_get {xs : List Int} {i : Nat} (h : i < xs.length) : xs[i]? = some (co xs i) := by
  unfold co
  rw [List.getD_eq_getElem?_getD, List.getElem?_eq_getElem h]
  rfl
/-- without the noughts at the end -/
def trimZ : List Int → List Int
  | [] => []
  | x :: xs => if trimZ xs = [] ∧ x = 0 then [] else x :: trimZ xs
/-! ### the greatest common divisor -/
def gN : List Int → Nat
  | [] => 0
  | x :: xs => Nat.gcd x.natAbs (gN xs)
theorem gN_fold : ∀ (xs : List Int) (g : Nat), xs.foldl (fun (g : Int) x => ((Nat.gcd g.natAbs x.natAbs : Nat) : Int)) (g : Int) = ((Nat.gcd g (gN xs) : Nat) : Int)
  | [], g => by simp [gN]
  | x :: xs, g => by
    rw [List.foldl_cons, gN, ← Nat.gcd_assoc]
    exact gN_fold xs (Nat.gcd g x.natAbs)
theorem gN_dvd : ∀ {xs : List Int} {x : Int}, x ∈ xs → gN xs ∣ x.natAbs
  | y :: ys, x, h => by
    rcases List.mem_cons.mp h with rfl | h
    · exact Nat.gcd_dvd_left _ _
    · exact Nat.dvd_trans (Nat.gcd_dvd_right _ _) (gN_dvd h)
theorem gN_zero : ∀ {xs : List Int}, gN xs = 0 → ∀ x ∈ xs, x = 0
  | y :: ys, h, x, hx => by
    have h1 := Nat.gcd_eq_zero_iff.mp h
    rcases List.mem_cons.mp hx with rfl | hx
    · exact Int.natAbs_eq_zero.mp h1.1
    · exact gN_zero h1.2 x hx
/-- without a common divisor -/
def shortZ (xs : List Int) : List Int := if 1 < gN xs then xs.map (fun x => x.fdiv (gN xs : Nat)) else xs
/-- the shortest row -/
def sZ (xs : List Int) : List Int := (trimZ xs).map (fun x => x.fdiv ((max 1 (gN xs) : Nat) : Int))
/-! ### products -/
def cv (b : Nat → Int) : Nat → (Nat → Int) → Nat → Int
  | 0, _, _ => 0
  | m + 1, a, i => cv b m a i + b m * (if m ≤ i then a (i - m) else 0)
/-! ### a step of a division -/
end Pl

/-! PLib9: loops told by an index, by a measure; rows in the evaluator. -/
namespace Pl
open PySem (PyData Str)
theorem forL_ix' {step : D → Env → U → Option O} {I : Nat → Env → U → Prop} : ∀ {ds : List D} {k : Nat} {env : Env} {u : U}, (∀ i d, ds[i]? = some d → ∀ env u, I (k + i) env u → ∃ env' u', step d env u = some (.nx env' u') ∧ I (k + i + 1) env' u') → I k env u → ∃ env' u', forL step ds env u = some (.nx env' u') ∧ I (k + ds.length) env' u'
  | [], k, env, u, _, h => ⟨env, u, rfl, h⟩
  | d :: ds, k, env, u, hs, h => by
    obtain ⟨env1, u1, e1, h1⟩ := hs 0 d rfl env u h
    obtain ⟨env2, u2, e2, h2⟩ := forL_ix' (I := I) (ds := ds) (k := k + 1) (fun i d hd env u hi => by
      have := hs (i + 1) d (by simpa using hd) env u (by rw [show k + (i + 1) = k + 1 + i by omega]; exact hi)
      rw [show k + (i + 1) + 1 = k + 1 + i + 1 by omega] at this
      exact this) h1
    refine ⟨env2, u2, ?_, ?_⟩
    · simp only [forL, e1, Option.bind_some]
      exact e2
    · rw [List.length_cons, show k + (ds.length + 1) = k + 1 + ds.length by omega]
      exact h2
/-- a for, its state told by the number of turns -/
theorem forL_ix {step : D → Env → U → Option O} (I : Nat → Env → U → Prop) {ds : List D} {env : Env} {u : U} (hs : ∀ i d, ds[i]? = some d → ∀ env u, I i env u → ∃ env' u', step d env u = some (.nx env' u') ∧ I (i + 1) env' u') (h : I 0 env u) : ∃ env' u', forL step ds env u = some (.nx env' u') ∧ I ds.length env' u' := by
  have := forL_ix' (step := step) (I := I) (ds := ds) (k := 0) (env := env) (u := u) (fun i d hd env u hi => by
    rw [Nat.zero_add] at hi ⊢
    exact hs i d hd env u hi) h
  rwa [Nat.zero_add] at this
theorem compL_map {step : D → U → Option (Option D × U)} {f : D → D} {u : U} : ∀ {ds : List D}, (∀ d ∈ ds, step d u = some (some (f d), u)) → compL step ds u = some (ds.map f, u)
  | [], _ => rfl
  | d :: ds, h => by
    unfold compL
    rw [h d List.mem_cons_self]
    show (compL step ds u).bind _ = _
    rw [compL_map fun e he => h e (List.mem_cons_of_mem _ he)]
    rfl
theorem compL_ints {step : D → U → Option (Option D × U)} {f : Int → Int} {u : U} {xs : List Int} (h : ∀ x ∈ xs, step (.int x) u = some (some (.int (f x)), u)) : compL step (xs.map .int) u = some ((xs.map f).map .int, u) := by
  rw [compL_map (f := fun d => match d with | .int x => .int (f x) | d => d)]
  · rw [List.map_map, List.map_map]; rfl
  · intro d hd
    obtain ⟨x, hx, rfl⟩ := List.mem_map.mp hd
    exact h x hx
/-! ### rows -/
abbrev Lz (xs : List Int) : D := .list (xs.map .int)
abbrev Tz (xs : List Int) : D := .tuple (xs.map .int)
@[simp] theorem noListAll_ints (xs : List Int) : noListAll (xs.map .int) = true := by
  induction xs with
  | nil => rfl
  | cons x xs ih => simp [ih]
@[simp] theorem intsOf_ints (xs : List Int) : intsOf (xs.map .int) = some xs := by
  induction xs with
  | nil => rfl
  | cons x xs ih => simp [ih]
theorem canLay_ints (xs : List Int) : PyData.canLayAll0 (xs.map .int) = true := by
  induction xs with
  | nil => rfl
  | cons x xs ih => simp [PyData.canLayAll0, PyData.canLay0, ih]
theorem depth_ints (xs : List Int) : PyData.depthAll (xs.map .int) ≤ 1 := by
  induction xs with
  | nil => simp [PyData.depthAll]
  | cons x xs ih => simp [PyData.depthAll, PyData.depth]; omega
@[simp] theorem shaped_Tz (xs : List Int) : PySem.SeqAt.shaped (.tuple (xs.map .int)) = true := by
  have := depth_ints xs
  simp [PySem.SeqAt.shaped, PyData.canLay0, canLay_ints, PyData.depth]
  omega
@[simp] theorem shaped_Lz (xs : List Int) : PySem.SeqAt.shaped (.list (xs.map .int)) = true := by
  have := depth_ints xs
  simp [PySem.SeqAt.shaped, PyData.canLay0, canLay_ints, PyData.depth]
  omega
theorem eqvAll_ints : ∀ (xs ys : List Int), PyData.eqvAll (xs.map .int) (ys.map .int) = decide (xs = ys)
  | [], [] => rfl
  | [], y :: ys => by simp [PyData.eqvAll]
  | x :: xs, [] => by simp [PyData.eqvAll]
  | x :: xs, y :: ys => by
    rw [List.map_cons, List.map_cons, PyData.eqvAll, eqvAll_ints xs ys]
    by_cases h : x = y
    · subst h; simp [PyData.eqv]
    · simp [PyData.eqv, h]
@[simp] theorem eqD_Tz (xs ys : List Int) : eqD (.tuple (xs.map .int)) (.tuple (ys.map .int)) = some (decide (xs = ys)) := by
  simp only [eqD, shaped_Tz, Bool.and_self, if_true, PyData.eqv, eqvAll_ints]
@[simp] theorem eqD_Lz (xs ys : List Int) : eqD (.list (xs.map .int)) (.list (ys.map .int)) = some (decide (xs = ys)) := by
  simp only [eqD, shaped_Lz, Bool.and_self, if_true, PyData.eqv, eqvAll_ints]
@[simp] theorem eqD_Tz0 (xs : List Int) : eqD (.tuple (xs.map .int)) (.tuple []) = some (decide (xs = [])) := eqD_Tz xs []
@[simp] theorem eqD_Lz0 (xs : List Int) : eqD (.list (xs.map .int)) (.list []) = some (decide (xs = [])) := eqD_Lz xs []
@[simp] theorem eqD_T00 : eqD (.tuple []) (.tuple []) = some true := eqD_Tz [] []
@[simp] theorem eqD_L00 : eqD (.list []) (.list []) = some true := eqD_Lz [] []
theorem atI_last {xs : List Int} (h : xs ≠ []) : atI (xs.map PyData.int) (-1) = some (.int (co xs (xs.length - 1))) := by
  have hl : 0 < xs.length := List.length_pos_iff.mpr h
  unfold atI
  rw [if_neg (by decide), if_pos (by simp; omega), List.length_map, show ((-1 : Int) + (xs.length : Int)).toNat = xs.length - 1 by omega, List.getElem?_map, co_get (by omega)]
  rfl
section
variable {C : Ctx} {ff : String → Bool}
theorem eval_comp {elt : E} {t : Tg} {it : I} {cond : Eo} {own : List Nat} {env : Env} {u u1 u2 : U} {ds rs : List D} (h1 : evalI C it env u = some (ds, u1)) (hz : ds.length ≤ 100000)
    (h2 : compL (fun d u => (bindT t d (wipe env own)).bind fun env' => (evalC C cond env' u).bind fun rc =>
        if rc.1 = true then (evalE C elt env' rc.2).bind fun re => some (some re.1, re.2) else some (none, rc.2)) ds u1 = some (rs, u2)) : evalE C (.comp elt t it cond own) env u = some (.list rs, u2) := by
  rw [evalE, h1, Option.bind_some, h2, Option.bind_some, if_pos (show sizeOk ds.length = true from decide_eq_true hz)]
theorem run_set {i : Nat} {e : E} {env : Env} {u u' : U} {d : D} (h : evalE C e env u = some (d, u')) : execS C ff (.set i e) env u = some (.nx ((after ff env e d).set i (slotOf ff e d)) u') := by
  rw [execS, h, Option.bind_some]
end
theorem intOk_nat (L : Nat) (h : L ≤ 100000) : intOk (L : Int) = true := by
  unfold intOk
  refine decide_eq_true ⟨?_, ?_⟩ <;> omega
theorem eval_rng1 {C : Ctx} {e : E} {env : Env} {u u' : U} {L : Nat} (h : evalE C e env u = some (.int (L : Int), u')) (hl : L ≤ 100000) : evalI C (.range1 e) env u = some (rangeL 0 (L : Int), u') := by
  rw [evalI, h, Option.bind_some]
  show (if intOk (L : Int) = true then _ else none) = _
  rw [if_pos (intOk_nat L hl)]
end Pl

/-! PLib10: the program's rows: divisor, ends cut off, shortened. -/
namespace Pl
open PySem (PyData Str)
def RowD (d : D) (xs : List Int) : Prop := d = Lz xs ∨ d = Tz xs
theorem RowD.len {d : D} {xs : List Int} (h : RowD d xs) : biV .len [d] = some (.int xs.length) := by rcases h with rfl | rfl <;> simp
theorem RowD.it {d : D} {xs : List Int} (h : RowD d xs) : items d = some (xs.map .int) := by rcases h with rfl | rfl <;> rfl
structure KnR (G : Prog) : Prop where
  divisor_of : G.T "divisor_of" = some p_divisor_of
  trimmed : G.T "trimmed" = some p_trimmed
  shortened : G.T "shortened" = some p_shortened
theorem gN_sm {k : Nat} {xs : List Int} (h : ∀ x ∈ xs, Sm k x) (h1 : 0 < gN xs) : Sm k (gN xs : Nat) := by
  have : ∃ x ∈ xs, x ≠ 0 := Classical.byContradiction fun q => by
    have : ∀ x ∈ xs, x = 0 := fun x hx => Classical.byContradiction fun r => q ⟨x, hx, r⟩
    have : gN xs = 0 := by
      clear h h1 q
      induction xs with
      | nil => rfl
      | cons x xs ih => rw [gN, ih (fun y hy => this y (List.mem_cons_of_mem _ hy)), this x List.mem_cons_self]; rfl
    omega
  obtain ⟨x, hx, h0⟩ := this
  have h2 := Nat.le_of_dvd (Int.natAbs_pos.mpr h0) (gN_dvd hx)
  have h3 := h x hx
  unfold Sm at *
  omega
theorem c_divisorZ0 {G : Prog} (hk : G.T "divisor_of" = some p_divisor_of) (n : Nat) (xs : List Int) (hl : xs.length ≤ 100000) : callU G (n + 1) "divisor_of" [Tz xs] [] = some (.int (gN xs : Nat), []) := by
  obtain ⟨env', u', hf, s, rfl, rfl⟩ := forL_ix (step := fun d env u => (bindT (.one 2) d env).bind fun env' => execSs (ctxN G n) G.ff (forBody p_divisor_of.body) env' u)
    (fun i env u => ∃ s, env = [.imm (Tz xs), .imm (.int ((xs.take i).foldl (fun (g : Int) x => ((Nat.gcd g.natAbs x.natAbs : Nat) : Int)) ((0 : Nat) : Int))), s] ∧ u = []) (ds := xs.map .int) (env := [.imm (Tz xs), .imm (.int 0), .no]) (u := [])
    (fun i d hd env u ⟨s, e1, e2⟩ => by
      subst e1 e2
      rw [List.getElem?_map] at hd
      obtain ⟨x, hx, rfl⟩ := Option.map_eq_some_iff.mp hd
      refine ⟨_, _, by simp [forBody, p_divisor_of]; rfl, .imm (.int x), ?_, rfl⟩
      rw [List.take_add_one, hx, Option.toList_some, List.foldl_append]
      rfl)
    ⟨_, rfl, rfl⟩
  rw [List.length_map, List.take_length, gN_fold, Nat.gcd_zero_left] at hf
  rw [callU_eq hk]
  refine runF_of rfl (run_cons (env1 := [.imm (Tz xs), .imm (.int 0), .no]) (u1 := []) ?_ (run_cons (run_for (ds := xs.map .int) (u1 := []) ?_ ?_ hf) (run_last ?_)))
  · simp [mkEnv, p_divisor_of]
  · simp
  · simpa using hl
  · simp
section
variable {G : Prog} (K : KnR G)
include K
end
end Pl

/-! PLib11: the program's division of rows. -/
namespace Pl
open PySem (PyData Str)
structure KnQ (G : Prog) : Prop extends KnR G where
  divided : G.T "divided" = some p_divided
  what_remains : G.T "what_remains" = some p_what_remains
section
variable {G : Prog} (K : KnQ G)
include K
end
end Pl

/-! PLib12: the program's division of rows, whole. -/
namespace Pl
open PySem (PyData Str)
def DivI (row other : List Int) (a : Int) (m L kr ko : Nat) (j : Nat) (env : Env) (u : U) : Prop := ∃ (l f : List Int) (c : Int) (q : Nat → Int) (s2 s5 s6 s7 s8 s9 : Slot),
  env = [.imm (Tz row), .imm (Tz other), s2, .imm (.int a), .own (f.map .int), s5, s6, s7, s8, s9] ∧ u = [] ∧ (s2 = .own (l.map .int) ∨ s2 = .imm (Lz l)) ∧ l.length = row.length ∧ f.length = L ∧ 0 < c ∧
  (∀ i, c * co row i = cv (co other) (m + 1) q i + co l i) ∧ (∀ i, L - j + m ≤ i → co l i = 0) ∧ (∀ i, L ≤ i → q i = 0) ∧ (∀ i, Sm (kr + j * (ko + 1)) (co l i)) ∧ ∀ i, Sm (kr + j * (ko + 1)) (co f i)
section
variable {G : Prog} (K : KnQ G)
include K
end
end Pl

/-! PLib13: what remains. -/
namespace Pl
open PySem (PyData Str)
structure KnM (G : Prog) : Prop extends KnQ G where
  is_whole : G.T "is_whole" = some p_is_whole
  are_numbers : G.T "are_numbers" = some p_are_numbers
  is_row : G.T "is_row" = some p_is_row
  check_row : G.T "check_row" = some p_check_row
  remainder : G.T "remainder" = some p_remainder
  most : G.glob "MOST_LONG" = some (.int 13)
section
variable {G : Prog}
end
end Pl

/-! PLib14: the laws' own rows: divisor, ends cut off, shortest, sum, product. -/
namespace Pl
open PySem (PyData Str)
structure KnO (G : Prog) : Prop where
  common : G.T "_law_common" = some p__law_common
  short : G.T "_law_short" = some p__law_short
  trim : G.T "_law_trim" = some p__law_trim
section
variable {G : Prog} (K : KnO G)
include K
end
end Pl

/-! PLib15: the laws' own rows: sum, product. -/
namespace Pl
open PySem (PyData Str)
theorem rangeL_leni (L : Nat) : (rangeL 0 (L : Int)).length = L := by simp [rangeL]
structure KnA (G : Prog) : Prop extends KnO G where
  added : G.T "_law_added" = some p__law_added
structure KnX (G : Prog) : Prop extends KnO G where
  multiplied : G.T "_law_multiplied" = some p__law_multiplied
section
variable {G : Prog}
end
end Pl

/-! PLib16: the other pot's begin, one of some, a drawn row. -/
namespace Pl
open PySem (PyData Str)
def p_of : PFun := { np := 2, ns := 2, urn := true, fresh := false, body := (.cons (.ret (.idx (.var 1) (.ucall "_law_draw" (.cons (.bi .len (.cons (.var 1) .nil)) .nil)))) .nil) }
structure KnD2 (G : Prog) : Prop extends KnD G where
  of_ : G.T "_law_of" = some p_of
structure KnPot (G : Prog) : Prop extends KnD2 G where
  pot : G.T "_law_pot" = some p__law_pot
theorem PotN.mono {a b : Nat} {u : U} (h : PotN a u) (q : a ≤ b) : PotN b u := by
  obtain ⟨z0, z1, z2, e, s, l, r⟩ := h
  exact ⟨z0, z1, z2, e, s, l, by omega⟩
end Pl

/-! PLib17: what repr can tell, longer data; sizes of products of rows. -/
namespace Pl
open PySem (PyData Str)
structure Shx (d : D) : Prop where
  s : d.showable = true
  h : d.hasDict = false
  dep : d.depth ≤ 20
  c : cw d ≤ 200000
theorem after_fk {ff : String → Bool} {env : Env} {e : E} {ds : List D} (h : fk ff e = true) : after ff env e (.list ds) = if noListAll ds then env else freeze env (fvE e) := by
  unfold after within
  rw [if_pos h]
@[simp] theorem after_lst {ff : String → Bool} {env : Env} {es : Es} {ds : List D} : after ff env (.lst es) (.list ds) = if noListAll ds then env else freeze env (fvE (.lst es)) := after_fk rfl
@[simp] theorem slotOf_lst {ff : String → Bool} {es : Es} {ds : List D} : slotOf ff (.lst es) (.list ds) = .own ds := slotOf_list_t rfl
/-! ### sizes -/
end Pl

/-! PLib18: a law that asks its walk of two to four numbers. -/
namespace Pl
open PySem (PyData Str)
def p_main4 : PFun := { np := 1, ns := 2, urn := false, fresh := false, body := (.cons (.ret (.bi .all (.cons (.comp (.ncall "_law_right" (.call "_law_pot" (.cons (.var 0) (.cons (.var 1) .nil)) [0, 1]) .nil) (.one 1) (.range1 (.bi .max2 (.cons (.lit (.int 2)) (.cons (.bi .min2 (.cons (.bi .len (.cons (.var 0) .nil)) (.cons (.lit (.int 4)) .nil))) .nil)))) .no [1]) .nil))) .nil) }
end Pl

set_option maxHeartbeats 400000
/-! PK1: values of any kind: what is a point, a fraction. -/
namespace Pl
open PySem (PyData Str)
structure KnOv (G : Prog) : Prop where
  divisor_of : G.T "divisor_of" = some p_divisor_of
  is_whole : G.T "is_whole" = some p_is_whole
  are_wholes : G.T "are_wholes" = some p_are_wholes
  is_reduced : G.T "is_reduced" = some p_is_reduced
  is_vector : G.T "is_vector" = some p_is_vector
  gcd : G.T "_law_gcd" = some p__law_gcd__a
  thin : G.T "_law_thin" = some p__law_thin
  lis_whole : G.T "_law_is_whole" = some p__law_is_whole
  lare_whole : G.T "_law_are_whole" = some p__law_are_whole
  is_spot : G.T "_law_is_spot" = some p__law_is_spot
  is_ratio : G.T "is_ratio" = some p_is_ratio
  is_frac : G.T "_law_is_frac" = some p__law_is_frac
def isZ : D → Bool | .int _ => true | _ => false
def whZ (d : D) (n : Nat) : Bool := match d with | .tuple ds => decide (ds.length = n) && ds.all isZ | _ => false
theorem allZ : ∀ {ds : List D}, ds.all isZ = true → ∃ xs : List Int, ds = xs.map .int
  | [], _ => ⟨[], rfl⟩
  | d :: ds, h => by
    simp only [List.all_cons, Bool.and_eq_true] at h
    obtain ⟨xs, rfl⟩ := allZ h.2
    cases d <;> simp only [isZ, Bool.false_eq_true] at h <;> first | exact ⟨_ :: xs, rfl⟩ | exact absurd h.1 (by simp)
theorem whZ_ints {d : D} {n : Nat} (h : whZ d n = true) : ∃ xs : List Int, d = Tz xs ∧ xs.length = n := by
  cases d <;> simp only [whZ, Bool.false_eq_true, Bool.and_eq_true, decide_eq_true_eq] at h
  obtain ⟨xs, rfl⟩ := allZ h.2
  exact ⟨xs, rfl, by simpa using h.1⟩
/-- a drawn value -/
def Ga (d : D) : Prop := ∀ ds, d = .tuple ds → ds.length ≤ 100 ∧ ∀ e ∈ ds, PyData.canLay0 e = true ∧ PyData.depth e ≤ 5 ∧ ∀ i, e = .int i → Sm 60 i
theorem boolsOf_mapa {α : Type} (l : List α) (f : α → Bool) : boolsOf (l.map fun e => PyData.bool (f e)) = some (l.map f) := by
  induction l with
  | nil => rfl
  | cons x l ih => rw [List.map_cons, boolsOf, ih]; rfl
theorem compL_filtera {step : D → U → Option (Option D × U)} {p : D → Bool} {u : U} : ∀ {ds : List D}, (∀ d ∈ ds, step d u = some (if p d = true then some d else none, u)) → compL step ds u = some (ds.filter p, u)
  | [], _ => rfl
  | d :: ds, h => by
    unfold compL
    rw [h d List.mem_cons_self]
    show (compL step ds u).bind _ = _
    rw [compL_filtera fun e he => h e (List.mem_cons_of_mem _ he), Option.bind_some]
    by_cases q : p d = true
    · rw [if_pos q, List.filter_cons_of_pos q]
    · rw [if_neg q, List.filter_cons_of_neg q]
theorem lay_filtera (p : D → Bool) : ∀ {ds : List D}, (∀ e ∈ ds, PyData.canLay0 e = true ∧ PyData.depth e ≤ 5) → PyData.canLayAll0 (ds.filter p) = true ∧ PyData.depthAll (ds.filter p) ≤ 5
  | [], _ => ⟨rfl, Nat.zero_le _⟩
  | d :: ds, h => by
    obtain ⟨h1, h2⟩ := lay_filtera p (ds := ds) fun e he => h e (List.mem_cons_of_mem _ he)
    obtain ⟨h3, h4⟩ := h d List.mem_cons_self
    by_cases q : p d = true
    · rw [List.filter_cons_of_pos q]
      exact ⟨by simp [PyData.canLayAll0, h1, h3], by simp [PyData.depthAll]; omega⟩
    · rw [List.filter_cons_of_neg q]
      exact ⟨h1, h2⟩
theorem eqD_filtera (p : D → Bool) {ds : List D} (h : ∀ e ∈ ds, PyData.canLay0 e = true ∧ PyData.depth e ≤ 5) : eqD (.list (ds.filter p)) (.list []) = some (decide (ds.filter p = [])) := by
  obtain ⟨h1, h2⟩ := lay_filtera p h
  have s1 : PySem.SeqAt.shaped (.list (ds.filter p)) = true := by
    simp [PySem.SeqAt.shaped, PyData.canLay0, h1, PyData.depth]; omega
  have s2 : PySem.SeqAt.shaped (.list []) = true := shaped_Lz []
  simp only [eqD, s1, s2, Bool.and_self, if_true, PyData.eqv]
  cases ds.filter p <;> rfl
theorem filter_notZ : ∀ (ds : List D), decide (ds.filter (fun e => !isZ e) = []) = ds.all isZ
  | [] => rfl
  | d :: ds => by
    have := filter_notZ ds
    cases h : isZ d
    · rw [List.filter_cons_of_pos (by simp [h])]; simp [h]
    · rw [List.filter_cons_of_neg (by simp [h]), this]; simp [h]
section
variable {G : Prog} (K : KnOv G)
include K
theorem ca_is_whole (n : Nat) (e : D) : callU G (n + 1) "is_whole" [e] [] = some (.bool (isZ e), []) := by
  rw [callU_eq K.is_whole]
  cases e <;> simp [runF, p_is_whole, mkEnv, isZ]
theorem la_is_whole (n : Nat) (e : D) : callU G (n + 1) "_law_is_whole" [e] [] = some (.bool (isZ e), []) := by
  rw [callU_eq K.lis_whole]
  cases e <;> simp [runF, p__law_is_whole, mkEnv, isZ]
theorem ca_are_wholes (n : Nat) (d : D) (m : Nat) (hd : Ga d) : callU G (n + 2) "are_wholes" [d, .int m] [] = some (.bool (whZ d m), []) := by
  rw [callU_eq K.are_wholes]
  cases d with
  | tuple ds =>
    obtain ⟨hl, hg⟩ := hd ds rfl
    have hc := compL_map (step := fun d u => (bindT (.one 2) d (wipe [.imm (.tuple ds), .imm (.int m), .no] [2])).bind fun env' => (evalC (ctxN G (n + 1)) .no env' u).bind fun rc =>
        if rc.1 = true then (evalE (ctxN G (n + 1)) (.call "is_whole" (.cons (.var 2) .nil) [0]) env' rc.2).bind fun re => some (some re.1, re.2) else some (none, rc.2)) (f := fun e => .bool (isZ e)) (u := []) (ds := ds) (fun e _ => by
      simp [ctx_fn K.is_whole rfl, ca_is_whole K n e])
    have hcc := eval_comp (C := ctxN G (n + 1)) (it := .seq (.var 0)) (u := []) (u1 := []) (ds := ds) (by simp) (by omega) hc
    have e1 : evalEs (ctxN G (n + 1)) (.cons (.comp (.call "is_whole" (.cons (.var 2) .nil) [0]) (.one 2) (.seq (.var 0)) .no [2]) .nil) [.imm (.tuple ds), .imm (.int m), .no] [] = some ([.list (ds.map fun e => .bool (isZ e))], []) := by
      rw [evalEs, hcc]; rfl
    have ea : evalE (ctxN G (n + 1)) (.bi .all (.cons (.comp (.call "is_whole" (.cons (.var 2) .nil) [0]) (.one 2) (.seq (.var 0)) .no [2]) .nil)) [.imm (.tuple ds), .imm (.int m), .no] [] = some (.bool (ds.all isZ), []) := by
      rw [evalE, e1, Option.bind_some]
      show (((boolsOf (ds.map fun e => PyData.bool (isZ e))).map _).bind _) = _
      rw [boolsOf_mapa]
      simp
    have eb : evalE (ctxN G (n + 1)) (.cmp .eq (.bi .len (.cons (.var 0) .nil)) (.var 1)) [.imm (.tuple ds), .imm (.int m), .no] [] = some (.bool (decide (ds.length = m)), []) := by
      simp
      omega
    have ec : evalE (ctxN G (n + 1)) (.bi .isTuple (.cons (.var 0) .nil)) [.imm (.tuple ds), .imm (.int m), .no] [] = some (.bool true, []) := by simp
    refine runF_of rfl (run_last ?_)
    show execS _ _ (.ret (.and _ (.and _ _))) _ _ = _
    rw [execS, evalE]
    show ((evalE (ctxN G (n + 1)) _ [.imm (.tuple ds), .imm (.int m), .no] []).bind _).bind _ = _
    rw [ec]
    show (((evalE (ctxN G (n + 1)) _ [.imm (.tuple ds), .imm (.int m), .no] []).bind _)).bind _ = _
    rw [evalE, eb]
    by_cases h : ds.length = m
    · rw [decide_eq_true h]
      show (((((evalE (ctxN G (n + 1)) _ [.imm (.tuple ds), .imm (.int m), .no] []).bind _)).bind _)).bind _ = _
      rw [ea]
      simp [whZ, h]
    · rw [decide_eq_false h]
      simp [whZ, h]
  | _ => simp [runF, p_are_wholes, mkEnv, whZ]
theorem la_are_whole (n : Nat) (d : D) (m : Nat) (hd : Ga d) : callU G (n + 2) "_law_are_whole" [d, .int m] [] = some (.bool (whZ d m), []) := by
  rw [callU_eq K.lare_whole]
  cases d with
  | tuple ds =>
    obtain ⟨hl, hg⟩ := hd ds rfl
    have hc := compL_filtera (step := fun d u => (bindT (.one 2) d (wipe [.imm (.tuple ds), .imm (.int m), .no] [2])).bind fun env' => (evalC (ctxN G (n + 1)) (.yes (.not (.call "_law_is_whole" (.cons (.var 2) .nil) [0]))) env' u).bind fun rc =>
        if rc.1 = true then (evalE (ctxN G (n + 1)) (.var 2) env' rc.2).bind fun re => some (some re.1, re.2) else some (none, rc.2)) (p := fun e => !isZ e) (u := []) (ds := ds) (fun e _ => by
      cases h : isZ e <;> simp [ctx_fn K.lis_whole rfl, la_is_whole K n e, h])
    have hcc := eval_comp (C := ctxN G (n + 1)) (it := .seq (.var 0)) (u := []) (u1 := []) (ds := ds) (by simp) (by omega) hc
    have ea : evalE (ctxN G (n + 1)) (.cmp .eq (.comp (.var 2) (.one 2) (.seq (.var 0)) (.yes (.not (.call "_law_is_whole" (.cons (.var 2) .nil) [0]))) [2]) (.lst .nil)) [.imm (.tuple ds), .imm (.int m), .no] [] = some (.bool (ds.all isZ), []) := by
      rw [evalE, hcc, Option.bind_some]
      show ((some (PyData.list [], ([] : U))).bind fun rb => (eqD (.list (ds.filter fun e => !isZ e)) rb.1).bind _) = _
      rw [Option.bind_some, eqD_filtera _ (fun e he => ⟨(hg e he).1, (hg e he).2.1⟩), filter_notZ]
      rfl
    have eb : evalE (ctxN G (n + 1)) (.cmp .eq (.bi .len (.cons (.var 0) .nil)) (.var 1)) [.imm (.tuple ds), .imm (.int m), .no] [] = some (.bool (decide (ds.length = m)), []) := by
      simp
      omega
    have ec : evalE (ctxN G (n + 1)) (.bi .isTuple (.cons (.var 0) .nil)) [.imm (.tuple ds), .imm (.int m), .no] [] = some (.bool true, []) := by simp
    refine runF_of rfl (run_last ?_)
    show execS _ _ (.ret (.and _ (.and _ _))) _ _ = _
    rw [execS, evalE]
    show ((evalE (ctxN G (n + 1)) _ [.imm (.tuple ds), .imm (.int m), .no] []).bind _).bind _ = _
    rw [ec]
    show (((evalE (ctxN G (n + 1)) _ [.imm (.tuple ds), .imm (.int m), .no] []).bind _)).bind _ = _
    rw [evalE, eb]
    by_cases h : ds.length = m
    · rw [decide_eq_true h]
      show (((((evalE (ctxN G (n + 1)) _ [.imm (.tuple ds), .imm (.int m), .no] []).bind _)).bind _)).bind _ = _
      rw [ea]
      simp [whZ, h]
    · rw [decide_eq_false h]
      simp [whZ, h]
  | _ => simp [runF, p__law_are_whole, mkEnv, whZ]
theorem ca_gcd (n : Nat) {a b : Int} {k : Nat} (ha : 0 ≤ a) (hb : 0 ≤ b) (sb : Sm k b) (hk : k ≤ 9000) : callU G (n + 1) "_law_gcd" [.int a, .int b] [] = some (.int (g2 a b), []) := by
  obtain ⟨x, rfl⟩ := Int.eq_ofNat_of_zero_le ha
  obtain ⟨y, rfl⟩ := Int.eq_ofNat_of_zero_le hb
  obtain ⟨s', e⟩ := gcd_loop (C := ctxN G n) (ff := G.ff) [] k x y .no (rangeL 0 20000) (by unfold Sm at sb; simpa using sb) (by simp [rangeL]; omega)
  rw [callU_eq K.gcd]
  refine runF_of rfl (run_cons (run_for (ds := rangeL 0 20000) (u1 := []) ?_ ?_ e) (run_last ?_))
  · simp [intOk]
  · simp [rangeL]
  · simp [g2]
theorem la_thin (n : Nat) {xs : List Int} (hl : xs.length ≤ 100) (hs : ∀ x ∈ xs, Sm 60 x) : callU G (n + 2) "_law_thin" [Tz xs] [] = some (Tz (shortZ xs), []) := by
  obtain ⟨env', u', hf, s, rfl, rfl⟩ := forL_ix (step := fun d env u => (bindT (.one 2) d env).bind fun env' => execSs (ctxN G (n + 1)) G.ff (forBody p__law_thin.body) env' u)
    (fun i env u => ∃ s, env = [.imm (Tz xs), .imm (.int ((xs.take i).foldl (fun (g : Int) x => ((Nat.gcd g.natAbs x.natAbs : Nat) : Int)) ((0 : Nat) : Int))), s] ∧ u = []) (ds := xs.map .int) (env := [.imm (Tz xs), .imm (.int 0), .no]) (u := [])
    (fun i d hd env u ⟨s, e1, e2⟩ => by
      subst e1 e2
      rw [List.getElem?_map] at hd
      obtain ⟨x, hx, rfl⟩ := Option.map_eq_some_iff.mp hd
      rw [gN_fold, Nat.gcd_zero_left]
      have hm : x ∈ xs := List.mem_of_getElem? hx
      have hab : (if x < 0 then -x else x) = (x.natAbs : Int) := by split <;> omega
      have hg := ca_gcd K n (a := ((gN (xs.take i) : Nat) : Int)) (b := ((x.natAbs : Nat) : Int)) (k := 60) (by omega) (by omega) (by have := hs x hm; unfold Sm at *; omega) (by decide)
      have hg2 : g2 ((gN (xs.take i) : Nat) : Int) ((x.natAbs : Nat) : Int) = ((Nat.gcd (gN (xs.take i)) x.natAbs : Nat) : Int) := by simp [g2]
      rw [hg2] at hg
      refine ⟨[.imm (Tz xs), .imm (.int (Nat.gcd (gN (xs.take i)) x.natAbs : Nat)), .imm (.int x)], [], ?_, .imm (.int x), ?_, rfl⟩
      · simp [forBody, p__law_thin, ctx_fn K.gcd rfl, hab, hg]
      · rw [List.take_add_one, hx, Option.toList_some, List.foldl_append, gN_fold, Nat.gcd_zero_left]
        rfl)
    ⟨_, rfl, rfl⟩
  rw [List.length_map, List.take_length, gN_fold, Nat.gcd_zero_left] at hf
  rw [callU_eq K.thin]
  refine runF_of rfl (run_cons (env1 := [.imm (Tz xs), .imm (.int 0), .no]) (u1 := []) ?_ (run_cons (run_for (ds := xs.map .int) (u1 := []) ?_ ?_ hf) (run_last ?_)))
  · simp [mkEnv, p__law_thin]
  · simp
  · simp; omega
  · unfold shortZ
    by_cases h : 1 < gN xs
    · have hd : divOk ((gN xs : Nat) : Int) = true := divOk_of (gN_sm hs (by omega)) (by omega) (by decide)
      have hc : compL (fun d u => (bindT (.one 2) d (wipe [.imm (Tz xs), .imm (.int (gN xs : Nat)), s] [2])).bind fun env' => (evalC (ctxN G (n + 1)) .no env' u).bind fun rc =>
        if rc.1 = true then (evalE (ctxN G (n + 1)) (.bin .fdiv (.var 2) (.var 1)) env' rc.2).bind fun re => some (some re.1, re.2) else some (none, rc.2)) (xs.map .int) [] = some ((xs.map fun x => x.fdiv (gN xs : Nat)).map .int, []) :=
        compL_ints fun x _ => by simp [hd]
      have hcc := eval_comp (C := ctxN G (n + 1)) (it := .seq (.var 0)) (u := []) (u1 := []) (ds := xs.map .int) (by simp) (by simp; omega) hc
      have e1 : evalEs (ctxN G (n + 1)) (.cons (.comp (.bin .fdiv (.var 2) (.var 1)) (.one 2) (.seq (.var 0)) .no [2]) .nil) [.imm (Tz xs), .imm (.int (gN xs : Nat)), s] [] = some ([.list ((xs.map fun x => x.fdiv (gN xs : Nat)).map .int)], []) := by
        rw [evalEs, hcc]; rfl
      have hg : ¬ ((gN xs : Nat) : Int) < 2 := by omega
      have et : evalE (ctxN G (n + 1)) (.cmp .lt (.var 1) (.lit (.int 2))) [.imm (Tz xs), .imm (.int (gN xs : Nat)), s] [] = some (.bool false, []) := by simp [hg]
      rw [if_pos h, execS, evalE, et, Option.bind_some]
      show ((evalE (ctxN G (n + 1)) (.bi .tuple _) [.imm (Tz xs), .imm (.int (gN xs : Nat)), s] []).bind _) = _
      rw [evalE, e1]
      rfl
    · have hg : ((gN xs : Nat) : Int) < 2 := by omega
      rw [if_neg h]
      simp [hg]
theorem shortZ_eqa {xs : List Int} : (shortZ xs = xs) ↔ ¬ 1 < gN xs := by
  unfold shortZ
  by_cases h : 1 < gN xs
  · rw [if_pos h]
    refine ⟨fun e => ?_, fun q => absurd h q⟩
    have hx : ∀ x ∈ xs, x = 0 := fun x hx => by
      obtain ⟨i, hi, ei⟩ := List.getElem_of_mem hx
      have e2 : (xs.map fun x => x.fdiv (gN xs : Nat))[i]? = xs[i]? := by rw [e]
      rw [List.getElem?_map, List.getElem?_eq_getElem hi, ei] at e2
      have e3 : x.fdiv (gN xs : Nat) = x := by simpa using e2
      obtain ⟨q, hq⟩ := Int.ofNat_dvd_left.mpr (gN_dvd hx)
      have hg : ((gN xs : Nat) : Int) ≠ 0 := by omega
      have e4 : q = x := by
        rw [hq, Int.mul_fdiv_cancel_left _ hg] at e3
        rw [← hq] at e3
        exact e3
      rw [e4] at hq
      have : (((gN xs : Nat) : Int) - 1) * x = 0 := by grind
      rcases Int.mul_eq_zero.mp this with q | q
      · omega
      · exact q
    have h0 : gN xs = 0 := by
      clear e h
      induction xs with
      | nil => rfl
      | cons x xs ih => rw [gN, ih (fun y hy => hx y (List.mem_cons_of_mem _ hy)), hx x List.mem_cons_self]; rfl
    omega
  · rw [if_neg h]
    exact ⟨fun _ => h, fun _ => rfl⟩
theorem ca_reduced (n : Nat) {xs : List Int} (hl : xs.length ≤ 100) : callU G (n + 2) "is_reduced" [Tz xs] [] = some (.bool (decide (gN xs = 1)), []) := by
  have := c_divisorZ0 K.divisor_of n xs (by omega)
  rw [callU_eq K.is_reduced]
  simp [runF, p_is_reduced, mkEnv, ctx_fn K.divisor_of rfl, this]
  omega
end
theorem Ga.two {d : D} {n : Nat} (hd : Ga d) {xs : List Int} (e : d = Tz xs) : xs.length ≤ 100 ∧ ∀ x ∈ xs, Sm 60 x := by
  obtain ⟨h1, h2⟩ := hd _ e
  exact ⟨by simpa using h1, fun x hx => (h2 (.int x) (List.mem_map.mpr ⟨x, hx, rfl⟩)).2.2 x rfl⟩
/-- whether a value is a point -/
def vB (d : D) : Bool := match d with | .tuple [.int x, .int y, .int w] => decide (0 < w) && decide (gN [x, y, w] = 1) | _ => false
theorem vB_no {d : D} (h : whZ d 3 = false) : vB d = false := by
  unfold vB
  split
  · simp [whZ, isZ] at h
  · rfl
section
variable {G : Prog} (K : KnOv G)
include K
theorem ta_spot (n : Nat) {d : D} (hd : Ga d) : callU G (n + 3) "is_vector" [d] [] = some (.bool (vB d), []) ∧ callU G (n + 4) "_law_is_spot" [d] [] = some (.bool (vB d), []) := by
  have w1 := ca_are_wholes K n d 3 hd
  have w2 := la_are_whole K (n + 1) d 3 hd
  have w1' : callU G (n + 2) "are_wholes" [d, .int 3] [] = some (.bool (whZ d 3), []) := w1
  have w2' : callU G (n + 3) "_law_are_whole" [d, .int 3] [] = some (.bool (whZ d 3), []) := w2
  cases h : whZ d 3
  · rw [h] at w1' w2'
    rw [vB_no h]
    refine ⟨?_, ?_⟩
    · rw [callU_eq K.is_vector]
      simp [runF, p_is_vector, mkEnv, ctx_fn K.are_wholes rfl, w1']
    · rw [callU_eq K.is_spot]
      simp [runF, p__law_is_spot, mkEnv, ctx_fn K.lare_whole rfl, w2']
  · rw [h] at w1' w2'
    obtain ⟨xs, rfl, hl⟩ := whZ_ints h
    obtain ⟨hl2, hs⟩ := hd.two (n := 3) rfl
    obtain ⟨x, y, w, rfl⟩ : ∃ x y w, xs = [x, y, w] := by
      match xs, hl with
      | [x, y, w], _ => exact ⟨x, y, w, rfl⟩
    have r1 := ca_reduced K n (xs := [x, y, w]) (by simp)
    have r2 := la_thin K (n + 1) (xs := [x, y, w]) (by simp) hs
    have w1'' : callU G (n + 2) "are_wholes" [T3 x y w, .int 3] [] = some (.bool true, []) := w1'
    have w2'' : callU G (n + 3) "_law_are_whole" [T3 x y w, .int 3] [] = some (.bool true, []) := w2'
    have r1' : callU G (n + 2) "is_reduced" [T3 x y w] [] = some (.bool (decide (gN [x, y, w] = 1)), []) := r1
    have r2' : callU G (n + 3) "_law_thin" [T3 x y w] [] = some (Tz (shortZ [x, y, w]), []) := r2
    by_cases hy : 0 < w
    · have eq1 : eqD (Tz (shortZ [x, y, w])) (T3 x y w) = some (decide (gN [x, y, w] = 1)) := by
        rw [show T3 x y w = Tz [x, y, w] from rfl, eqD_Tz]
        congr 1
        rw [decide_eq_decide, shortZ_eqa K]
        have : gN [x, y, w] ≠ 0 := fun z => by
          have := gN_zero z w (by simp)
          omega
        omega
      have ov : vB (Tz [x, y, w]) = decide (gN [x, y, w] = 1) := by
        show (decide (0 < w) && decide (gN [x, y, w] = 1)) = _
        rw [decide_eq_true hy, Bool.true_and]
      rw [ov]
      refine ⟨?_, ?_⟩
      · show callU G _ _ [T3 x y w] _ = _
        rw [callU_eq K.is_vector]
        simp [runF, p_is_vector, mkEnv, ctx_fn K.are_wholes rfl, w1'', hy, ctx_fn K.is_reduced rfl, r1']
      · show callU G _ _ [T3 x y w] _ = _
        rw [callU_eq K.is_spot]
        simp [runF, p__law_is_spot, mkEnv, ctx_fn K.lare_whole rfl, w2'', hy, ctx_fn K.thin rfl, r2', eq1]
    · have ov : vB (Tz [x, y, w]) = false := by
        show (decide (0 < w) && decide (gN [x, y, w] = 1)) = _
        rw [decide_eq_false hy, Bool.false_and]
      rw [ov]
      refine ⟨?_, ?_⟩
      · show callU G _ _ [T3 x y w] _ = _
        rw [callU_eq K.is_vector]
        simp [runF, p_is_vector, mkEnv, ctx_fn K.are_wholes rfl, w1'', hy]
      · show callU G _ _ [T3 x y w] _ = _
        rw [callU_eq K.is_spot]
        simp [runF, p__law_is_spot, mkEnv, ctx_fn K.lare_whole rfl, w2'', hy]
end
/-- whether a value is a fraction -/
def fB (d : D) : Bool := match d with | .tuple [.int x, .int y] => decide (0 < y) && decide (gN [x, y] = 1) | _ => false
theorem fB_no {d : D} (h : whZ d 2 = false) : fB d = false := by
  unfold fB
  split
  · simp [whZ, isZ] at h
  · rfl
section
variable {G : Prog} (K : KnOv G)
include K
theorem ta_frac (n : Nat) {d : D} (hd : Ga d) : callU G (n + 3) "is_ratio" [d] [] = some (.bool (fB d), []) ∧ callU G (n + 4) "_law_is_frac" [d] [] = some (.bool (fB d), []) := by
  have w1 := ca_are_wholes K n d 2 hd
  have w2 := la_are_whole K (n + 1) d 2 hd
  have w1' : callU G (n + 2) "are_wholes" [d, .int 2] [] = some (.bool (whZ d 2), []) := w1
  have w2' : callU G (n + 3) "_law_are_whole" [d, .int 2] [] = some (.bool (whZ d 2), []) := w2
  cases h : whZ d 2
  · rw [h] at w1' w2'
    rw [fB_no h]
    refine ⟨?_, ?_⟩
    · rw [callU_eq K.is_ratio]
      simp [runF, p_is_ratio, mkEnv, ctx_fn K.are_wholes rfl, w1']
    · rw [callU_eq K.is_frac]
      simp [runF, p__law_is_frac, mkEnv, ctx_fn K.lare_whole rfl, w2']
  · rw [h] at w1' w2'
    obtain ⟨xs, rfl, hl⟩ := whZ_ints h
    obtain ⟨hl2, hs⟩ := hd.two (n := 2) rfl
    obtain ⟨x, y, rfl⟩ : ∃ x y, xs = [x, y] := by
      match xs, hl with
      | [x, y], _ => exact ⟨x, y, rfl⟩
    have r1 := ca_reduced K n (xs := [x, y]) (by simp)
    have sy := hs y (by simp)
    have w1'' : callU G (n + 2) "are_wholes" [T2 x y, .int 2] [] = some (.bool true, []) := w1'
    have w2'' : callU G (n + 3) "_law_are_whole" [T2 x y, .int 2] [] = some (.bool true, []) := w2'
    have r1' : callU G (n + 2) "is_reduced" [T2 x y] [] = some (.bool (decide (gN [x, y] = 1)), []) := r1
    by_cases hy : 0 < y
    · have hab : (if x < 0 then -x else x) = (x.natAbs : Int) := by split <;> omega
      have g := ca_gcd K (n + 2) (a := ((x.natAbs : Nat) : Int)) (b := y) (k := 60) (by omega) (by omega) sy (by decide)
      have eg : (g2 ((x.natAbs : Nat) : Int) y = 1) ↔ gN [x, y] = 1 := by
        simp [g2, gN]
        omega
      have ov : fB (Tz [x, y]) = decide (gN [x, y] = 1) := by
        show (decide (0 < y) && decide (gN [x, y] = 1)) = _
        rw [decide_eq_true hy, Bool.true_and]
      rw [ov]
      refine ⟨?_, ?_⟩
      · show callU G _ _ [T2 x y] _ = _
        rw [callU_eq K.is_ratio]
        simp [runF, p_is_ratio, mkEnv, ctx_fn K.are_wholes rfl, w1'', hy, ctx_fn K.is_reduced rfl, r1']
      · show callU G _ _ [T2 x y] _ = _
        rw [callU_eq K.is_frac]
        simp [runF, p__law_is_frac, mkEnv, ctx_fn K.lare_whole rfl, w2'', hy, ctx_fn K.gcd rfl, hab, g, eg]
    · have ov : fB (Tz [x, y]) = false := by
        show (decide (0 < y) && decide (gN [x, y] = 1)) = _
        rw [decide_eq_false hy, Bool.false_and]
      rw [ov]
      refine ⟨?_, ?_⟩
      · show callU G _ _ [T2 x y] _ = _
        rw [callU_eq K.is_ratio]
        simp [runF, p_is_ratio, mkEnv, ctx_fn K.are_wholes rfl, w1'', hy]
      · show callU G _ _ [T2 x y] _ = _
        rw [callU_eq K.is_frac]
        simp [runF, p__law_is_frac, mkEnv, ctx_fn K.lare_whole rfl, w2'', hy]
end
theorem g3_gNa (x y w : Int) : g3 x y w = ((gN [x, y, w] : Nat) : Int) := by
  unfold g3
  simp [gN, Nat.gcd_assoc]
theorem vB_pt {d : D} (h : vB d = true) (hd : Ga d) : ∃ x y w, d = T3 x y w ∧ Pt 60 x y w := by
  unfold vB at h
  split at h
  · rename_i x y w
    simp only [Bool.and_eq_true, decide_eq_true_eq] at h
    obtain ⟨_, hg⟩ := hd _ rfl
    exact ⟨x, y, w, rfl, h.1, by rw [g3_gNa, h.2]; rfl, (hg (.int x) (by simp)).2.2 x rfl, (hg (.int y) (by simp)).2.2 y rfl, (hg (.int w) (by simp)).2.2 w rfl⟩
  · cases h
theorem fB_fr {d : D} (h : fB d = true) (hd : Ga d) : ∃ x y, d = T2 x y ∧ Fr 60 x y := by
  unfold fB at h
  split at h
  · rename_i x y
    simp only [Bool.and_eq_true, decide_eq_true_eq] at h
    obtain ⟨_, hg⟩ := hd _ rfl
    refine ⟨x, y, rfl, h.1, ?_, (hg (.int x) (by simp)).2.2 x rfl, (hg (.int y) (by simp)).2.2 y rfl⟩
    have := h.2
    simp [g2, gN] at this ⊢
    omega
  · cases h
end Pl

set_option maxHeartbeats 400000
/-! PK2: what a call refuses, told; the first wrong value of a row. -/
namespace Pl
open PySem (PyData Str)
mutual
theorem eqv_ok : ∀ d : D, PyData.canLay0 d = true → PyData.eqv d d = true
  | .none, _ => rfl
  | .bool b, _ => by simp [PyData.eqv]
  | .int i, _ => by simp [PyData.eqv]
  | .str s, _ => by simp [PyData.eqv]
  | .list xs, h => by
    simp only [PyData.canLay0] at h
    simp [PyData.eqv, eqvAll_ok xs h]
  | .tuple xs, h => by
    simp only [PyData.canLay0] at h
    simp [PyData.eqv, eqvAll_ok xs h]
  | .dict _, h => by simp [PyData.canLay0] at h
theorem eqvAll_ok : ∀ xs : List D, PyData.canLayAll0 xs = true → PyData.eqvAll xs xs = true
  | [], _ => rfl
  | x :: xs, h => by
    simp only [PyData.canLayAll0, Bool.and_eq_true] at h
    simp [PyData.eqvAll, eqv_ok x h.1, eqvAll_ok xs h.2]
end
theorem eqD_same {d : D} (h : PySem.SeqAt.shaped d = true) : eqD d d = some true := by
  cases d <;> simp only [eqD]
  case str s => simp
  all_goals
    rw [h]
    simp only [Bool.and_self, if_true]
    rw [eqv_ok _ (PySem.SeqAt.canLay_of_shaped h)]
/-! ### told -/
section
variable {C : Ctx}
theorem varEs_run {env : Env} {u : U} : ∀ {n i : Nat} {ds : List D}, ds.length = n → (∀ j, j < n → getV env (i + j) = ds[j]?) → evalEs C (varEs i n) env u = some (ds, u)
  | 0, i, ds, hl, h => by
    obtain rfl : ds = [] := List.length_eq_zero_iff.mp hl
    rfl
  | n + 1, i, [], hl, h => by simp at hl
  | n + 1, i, d :: ds, hl, h => by
    have h0 := h 0 (by omega)
    simp only [Nat.add_zero, List.getElem?_cons_zero] at h0
    have ih := varEs_run (env := env) (u := u) (n := n) (i := i + 1) (ds := ds) (by simpa using hl) fun j hj => by
      have := h (j + 1) (by omega)
      rw [List.getElem?_cons_succ] at this
      rw [← this]; congr 1; omega
    simp only [varEs, evalEs, evalE, h0, Option.bind_some, ih]
end
theorem pick_all {ds : List D} : ∀ {n i : Nat}, i + n = ds.length → pick ds (List.range' i n) = some (ds.drop i)
  | 0, i, h => by
    rw [List.drop_eq_nil_of_le (by omega)]
    rfl
  | n + 1, i, h => by
    have hi : i < ds.length := by omega
    rw [List.range'_succ]
    simp only [pick, List.getElem?_eq_getElem hi, Option.bind_eq_bind, Option.bind_some, pick_all (ds := ds) (n := n) (i := i + 1) (by omega)]
    rw [List.drop_eq_getElem_cons hi]
theorem mk_told {f fq : String} {np : Nat} {cl : List Clause} {fin : Str} {ds : List D} (hl : ds.length = np) (j : Nat) (hj : j < np) : getV (mkEnv (toldFun f fq np cl fin) ds) j = ds[j]? := by
  unfold mkEnv toldFun getV
  simp only [Bool.false_eq_true, if_false, List.nil_append]
  rw [List.getElem?_append_left (by simp; omega), List.getElem?_map]
  have : j < ds.length := by omega
  rw [List.getElem?_eq_getElem this]
  rfl
theorem mod_len (env : Env) : ∀ is : List Nat, (freeze env is).length = env.length
  | [] => rfl
  | i :: is => by simp [freeze, mod_len env is]
section
variable {G : Prog} {n : Nat} {tf f fq : String} {np : Nat} {cl : List Clause} {fin : Str} {ds : List D}
theorem told_let {v : D} (hT : G.T tf = some (toldFun f fq np cl fin)) (hl : ds.length = np) (hq : (ctxN G n).fn fq ds = some .none) (hf : (ctxN G n).fn f ds = some v) : callU G (n + 1) tf ds [] = some (.list [.str fin], []) := by
  rw [callU_eq hT]
  have ev : ∀ u, evalEs (ctxN G n) (varEs 0 np) (mkEnv (toldFun f fq np cl fin) ds) u = some (ds, u) := fun u => varEs_run hl fun j hj => by rw [Nat.zero_add]; exact mk_told hl j hj
  have pk : pick ds (List.range' 0 np) = some ds := by rw [pick_all (by omega)]; rfl
  have c1 : ∀ (g : String) u, evalE (ctxN G n) (.call g (varEs 0 np) (List.range' 0 np)) (mkEnv (toldFun f fq np cl fin) ds) u = ((ctxN G n).fn g ds).bind fun d => some (d, u) := fun g u => by
    simp only [evalE, ev, Option.bind_some, pk]
  refine runF_of (by show ds.length + 0 = np; omega) ?_
  show execSs _ _ (toldBody f fq np cl fin) _ _ = _
  unfold toldBody
  rw [execSs, execS, evalE, c1, hq]
  simp only [Option.bind_some, evalE, litV, cmpV, isNone, if_true]
  rw [execSs, execS, c1, hf]
  simp [evalEs, sizeOk]
theorem clSs_run {C : Ctx} {ff : String → Bool} {env : Env} {u : U} {s t : Str} {y : D} {c : Clause} (hx : getV env np = some (.str s)) (hy : getV env (np + 1) = some y) (ht : biV .repr [y] = some (.str t)) : ∀ {cl : List Clause}, cl.find? (fun c => decide (s = c.cls)) = some c →
    execSs C ff (clSs np cl) env u = some (.rt (.list [.str c.word, .str t]) u)
  | [], h => by simp at h
  | c2 :: r, h => by
    unfold clSs
    rw [execSs, execS]
    simp only [evalE, hx, Option.bind_some, litV, cmpV, eqD]
    rw [List.find?_cons] at h
    by_cases q : s = c2.cls
    · rw [decide_eq_true q] at h ⊢
      cases h
      simp only [if_true]
      rw [execSs, execS]
      simp only [evalE, evalEs, hy, Option.bind_some, litV, ht]
      simp [sizeOk]
    · rw [decide_eq_false q] at h ⊢
      simp only [Bool.false_eq_true, if_false]
      rw [execSs]
      simp only [Option.bind_some]
      exact clSs_run hx hy ht h
theorem told_no {s t : Str} {e : D} {c : Clause} (hT : G.T tf = some (toldFun f fq np cl fin)) (hl : ds.length = np) (hq : (ctxN G n).fn fq ds = some (xn s e)) (hc : cl.find? (fun c => decide (s = c.cls)) = some c) (ht : biV .repr [e] = some (.str t)) : callU G (n + 1) tf ds [] = some (.list [.str c.word, .str t], []) := by
  rw [callU_eq hT]
  have ev : ∀ u, evalEs (ctxN G n) (varEs 0 np) (mkEnv (toldFun f fq np cl fin) ds) u = some (ds, u) := fun u => varEs_run hl fun j hj => by rw [Nat.zero_add]; exact mk_told hl j hj
  have pk : pick ds (List.range' 0 np) = some ds := by rw [pick_all (by omega)]; rfl
  have c1 : ∀ (g : String) u, evalE (ctxN G n) (.call g (varEs 0 np) (List.range' 0 np)) (mkEnv (toldFun f fq np cl fin) ds) u = ((ctxN G n).fn g ds).bind fun d => some (d, u) := fun g u => by
    simp only [evalE, ev, Option.bind_some, pk]
  refine runF_of (by show ds.length + 0 = np; omega) ?_
  show execSs _ _ (toldBody f fq np cl fin) _ _ = _
  have hlen : (mkEnv (toldFun f fq np cl fin) ds).length = np + 2 := by
    unfold mkEnv toldFun
    simp
    omega
  generalize mkEnv (toldFun f fq np cl fin) ds = env at *
  unfold toldBody
  rw [execSs, execS, evalE, c1, hq]
  simp only [Option.bind_some, evalE, litV, cmpV, xn, isNone, Bool.false_eq_true, if_false]
  rw [execSs]
  simp only [Option.bind_some]
  rw [execSs, execS, c1, hq]
  simp only [Option.bind_some, xn, bindTu]
  refine clSs_run ?_ ?_ ht hc
  · unfold getV
    rw [List.getElem?_set_ne (by omega), List.getElem?_set_self (by split <;> simp [mod_len, hlen])]
  · unfold getV
    rw [List.getElem?_set_self (by split <;> simp [mod_len, hlen])]
end
/-! ### values of any kind -/
def gaB (d : D) : Bool := match d with
  | .tuple ds => decide (ds.length ≤ 100) && ds.all fun e => PyData.canLay0 e && decide (PyData.depth e ≤ 5) && (match e with | .int i => decide (i.natAbs < 2 ^ 60) | _ => true)
  | _ => true
theorem ga_of {d : D} (h : gaB d = true) : Ga d := fun ds e => by
  subst e
  simp only [gaB, Bool.and_eq_true, decide_eq_true_eq, List.all_eq_true] at h
  refine ⟨h.1, fun x hx => ?_⟩
  obtain ⟨⟨a, b⟩, c⟩ := h.2 x hx
  refine ⟨a, b, fun i q => ?_⟩
  subst q
  simpa [Sm] using c
def reB (d : D) : Bool := d.showable && (!d.hasDict || isD0 d) && decide (d.depth ≤ 60) && decide (cw d ≤ PySem.sizeLine)
/-- a value that can be told -/
structure Odd (d : D) : Prop where
  ga : Ga d
  ok : PyData.strOk (PyData.shown d) = true
  re : biV .repr [d] = some (.str (PyData.shown d))
theorem re_of {d : D} (h : reB d = true) : biV .repr [d] = some (.str (PyData.shown d)) := by
  unfold reB at h
  simp only [biV]
  rw [h]
  rfl
theorem odd_of {d : D} (h : (gaB d && reB d && PyData.strOk (PyData.shown d)) = true) : Odd d := by
  rw [Bool.and_eq_true, Bool.and_eq_true] at h
  exact ⟨ga_of h.1.1, h.2, re_of h.1.2⟩
/-- the first refusal of a row of (whether a point is wanted, value) -/
def wordB (p : Bool) : Str := if p then PySem.Str.ofString "point" else PySem.Str.ofString "fraction"
def goodB (r : Bool × D) : Bool := if r.1 then vB r.2 else fB r.2
def dueD : List (Bool × D) → D
  | [] => .list [.str (PySem.Str.ofString "let")]
  | r :: rs => if goodB r then dueD rs else .list [.str (wordB r.1), .str (PyData.shown r.2)]
theorem due_sh : ∀ l : List (Bool × D), (∀ r ∈ l, Odd r.2) → ∃ ws : List Str, ws.all PyData.strOk = true ∧ dueD l = .list (ws.map .str)
  | [], _ => ⟨[PySem.Str.ofString "let"], by decide +kernel, rfl⟩
  | r :: rs, h => by
    unfold dueD
    split
    · exact due_sh rs fun x hx => h x (List.mem_cons_of_mem _ hx)
    · refine ⟨[wordB r.1, PyData.shown r.2], ?_, rfl⟩
      have a : PyData.strOk (wordB r.1) = true := by cases r.1 <;> decide +kernel
      simp [a, (h r List.mem_cons_self).ok]
theorem strs_lay : ∀ ws : List Str, ws.all PyData.strOk = true → PyData.canLayAll0 (ws.map .str) = true ∧ PyData.depthAll (ws.map .str) ≤ 1
  | [], _ => by simp [PyData.canLayAll0, PyData.depthAll]
  | w :: ws, h => by
    simp only [List.all_cons, Bool.and_eq_true] at h
    obtain ⟨a, b⟩ := strs_lay ws h.2
    refine ⟨by simp [PyData.canLayAll0, PyData.canLay0, a, h.1], ?_⟩
    simp only [List.map_cons, PyData.depthAll, PyData.depth]
    omega
theorem due_lay (l : List (Bool × D)) (h : ∀ r ∈ l, Odd r.2) : PyData.canLay0 (dueD l) = true ∧ PyData.depth (dueD l) ≤ 3 := by
  obtain ⟨ws, q, e⟩ := due_sh l h
  obtain ⟨a, b⟩ := strs_lay ws q
  rw [e]
  refine ⟨by simp [PyData.canLay0, a], ?_⟩
  rw [PyData.depth]
  omega
theorem eqD_due (l : List (Bool × D)) (h : ∀ r ∈ l, Odd r.2) : eqD (dueD l) (dueD l) = some true := by
  obtain ⟨a, b⟩ := due_lay l h
  refine eqD_same ?_
  rw [PySem.SeqAt.shaped, a, Bool.true_and, decide_eq_true_eq]
  omega
theorem eqD_due4 (l : List (Bool × D)) (h : ∀ r ∈ l, Odd r.2) : eqD (.list [dueD l, dueD l, dueD l, dueD l]) (.list [dueD l, dueD l, dueD l, dueD l]) = some true := by
  obtain ⟨a, b⟩ := due_lay l h
  refine eqD_same ?_
  rw [PySem.SeqAt.shaped]
  simp only [PyData.canLay0, PyData.canLayAll0, a, Bool.and_self, Bool.true_and, decide_eq_true_eq]
  rw [PyData.depth]
  simp only [PyData.depthAll]
  omega
def rowD (r : Bool × D) : D := .tuple [.str (wordB r.1), r.2]
def p04_due : PFun := { np := 1, ns := 3, urn := false, fresh := false, body := (.cons (.for_ (.many [1, 2]) (.seq (.var 0)) (.cons (.ite (.not (.ite (.cmp .eq (.var 1) (.lit (.str (PySem.Str.ofString "point")))) (.call "_law_is_spot" (.cons (.var 2) .nil) [0]) (.call "_law_is_frac" (.cons (.var 2) .nil) [0]))) (.cons (.ret (.lst (.cons (.var 1) (.cons (.bi .repr (.cons (.var 2) .nil)) .nil)))) .nil) .nil) .nil)) (.cons (.ret (.lst (.cons (.lit (.str (PySem.Str.ofString "let"))) .nil))) .nil)) }
section
variable {G : Prog} (K : KnOv G)
include K
theorem due_turn (n : Nat) {r : Bool × D} (h : Odd r.2) (s0 s1 s2 : Slot) : (bindT (.many [1, 2]) (rowD r) [s0, s1, s2]).bind (fun env' => execSs (ctxN G (n + 4)) G.ff (forBody p04_due.body) env' []) =
    if goodB r then some (.nx [s0, .imm (.str (wordB r.1)), .imm r.2] []) else some (.rt (.list [.str (wordB r.1), .str (PyData.shown r.2)]) []) := by
  obtain ⟨p, d⟩ := r
  have e1 := ctx_fn K.is_spot rfl (n + 4) [d]
  rw [(ta_spot K n h.ga).2] at e1
  have e2 := ctx_fn K.is_frac rfl (n + 4) [d]
  rw [(ta_frac K n h.ga).2] at e2
  have re := h.re
  cases p
  · have w : (wordB false = PySem.Str.ofString "point") ↔ False := by decide
    cases q : fB d <;> simp [rowD, forBody, p04_due, goodB, q, e2, re, w, bindMany, -biV, sizeOk]
  · have w : (wordB true = PySem.Str.ofString "point") ↔ True := by decide
    cases q : vB d <;> simp [rowD, forBody, p04_due, goodB, q, e1, re, w, bindMany, -biV, sizeOk]
theorem due_loop (n : Nat) : ∀ (l : List (Bool × D)) (s0 s1 s2 : Slot), (∀ r ∈ l, Odd r.2) → (∃ s1' s2', forL (fun d env u => (bindT (.many [1, 2]) d env).bind fun env' => execSs (ctxN G (n + 4)) G.ff (forBody p04_due.body) env' u) (l.map rowD) [s0, s1, s2] [] = some (.nx [s0, s1', s2'] []) ∧ dueD l = dueD []) ∨
    forL (fun d env u => (bindT (.many [1, 2]) d env).bind fun env' => execSs (ctxN G (n + 4)) G.ff (forBody p04_due.body) env' u) (l.map rowD) [s0, s1, s2] [] = some (.rt (dueD l) [])
  | [], s0, s1, s2, _ => .inl ⟨s1, s2, rfl, rfl⟩
  | r :: rs, s0, s1, s2, h => by
    have e := due_turn K n (h r List.mem_cons_self) s0 s1 s2
    rw [List.map_cons, forL, e]
    cases q : goodB r
    · refine .inr ?_
      simp [dueD, q]
    · have ih := due_loop n rs s0 (.imm (.str (wordB r.1))) (.imm r.2) fun x hx => h x (List.mem_cons_of_mem _ hx)
      simp only [if_true, Option.bind_some, dueD, q]
      exact ih
theorem l_due (hd : G.T "_law_due" = some p04_due) (n : Nat) (l : List (Bool × D)) (hl : l.length ≤ 1000) (h : ∀ r ∈ l, Odd r.2) : callU G (n + 5) "_law_due" [.list (l.map rowD)] [] = some (dueD l, []) := by
  rw [callU_eq hd]
  have hz : (l.map rowD).length ≤ 100000 := by rw [List.length_map]; omega
  have hi : evalI (ctxN G (n + 4)) (.seq (.var 0)) (mkEnv p04_due [.list (l.map rowD)]) [] = some (l.map rowD, []) := by simp [mkEnv, p04_due]
  have e0 : mkEnv p04_due [.list (l.map rowD)] = [.imm (.list (l.map rowD)), .no, .no] := rfl
  rcases due_loop K n l (.imm (.list (l.map rowD))) .no .no h with ⟨s1, s2, e, q⟩ | e
  · refine runF_of rfl (run_cons (env1 := [.imm (.list (l.map rowD)), s1, s2]) (u1 := []) (run_for hi hz ?_) (run_last ?_))
    · rw [e0]; exact e
    · rw [q]
      simp [dueD, sizeOk]
  · refine runF_of rfl (run_last (run_for hi hz ?_))
    rw [e0]; exact e
end
end Pl

set_option maxHeartbeats 400000
/-! Plain04: points refused. -/
namespace Pl
open PySem (PyData Str)
def sP : Str := PySem.Str.ofString "InvalidPoint"
def sF : Str := PySem.Str.ofString "InvalidFraction"
def cl04 : List Clause := [⟨PySem.Str.ofString "InvalidPoint", PySem.Str.ofString "point", PySem.Str.ofString "given"⟩, ⟨PySem.Str.ofString "InvalidFraction", PySem.Str.ofString "fraction", PySem.Str.ofString "given"⟩]
def q04_check_point : PFun := { np := 1, ns := 1, urn := false, fresh := false, body := (.cons (.ite (.not (.call "is_vector" (.cons (.var 0) .nil) [0])) (.cons (.ret (.tup (.cons (.lit (.str (PySem.Str.ofString "InvalidPoint"))) (.cons (.var 0) .nil)))) .nil) .nil) .nil) }
def q04_check_fraction : PFun := { np := 1, ns := 1, urn := false, fresh := false, body := (.cons (.ite (.not (.call "is_ratio" (.cons (.var 0) .nil) [0])) (.cons (.ret (.tup (.cons (.lit (.str (PySem.Str.ofString "InvalidFraction"))) (.cons (.var 0) .nil)))) .nil) .nil) .nil) }
def q04_plus : PFun := { np := 2, ns := 2, urn := false, fresh := false, body := (.cons (.ite (.cmp .isN (.call "check_point?" (.cons (.var 0) .nil) [0]) (.lit .none)) .nil (.cons (.ret (.call "check_point?" (.cons (.var 0) .nil) [0])) .nil)) (.cons (.ite (.cmp .isN (.call "check_point?" (.cons (.var 1) .nil) [0]) (.lit .none)) .nil (.cons (.ret (.call "check_point?" (.cons (.var 1) .nil) [0])) .nil)) (.cons (.ret (.lit .none)) .nil))) }
def q04_minus : PFun := { np := 2, ns := 2, urn := false, fresh := false, body := (.cons (.ite (.cmp .isN (.call "check_point?" (.cons (.var 0) .nil) [0]) (.lit .none)) .nil (.cons (.ret (.call "check_point?" (.cons (.var 0) .nil) [0])) .nil)) (.cons (.ite (.cmp .isN (.call "check_point?" (.cons (.var 1) .nil) [0]) (.lit .none)) .nil (.cons (.ret (.call "check_point?" (.cons (.var 1) .nil) [0])) .nil)) (.cons (.ret (.lit .none)) .nil))) }
def q04_times : PFun := { np := 2, ns := 2, urn := false, fresh := false, body := (.cons (.ite (.cmp .isN (.call "check_point?" (.cons (.var 0) .nil) [0]) (.lit .none)) .nil (.cons (.ret (.call "check_point?" (.cons (.var 0) .nil) [0])) .nil)) (.cons (.ite (.cmp .isN (.call "check_fraction?" (.cons (.var 1) .nil) [0]) (.lit .none)) .nil (.cons (.ret (.call "check_fraction?" (.cons (.var 1) .nil) [0])) .nil)) (.cons (.ret (.lit .none)) .nil))) }
def q04_between : PFun := { np := 3, ns := 3, urn := false, fresh := false, body := (.cons (.ite (.cmp .isN (.call "check_point?" (.cons (.var 0) .nil) [0]) (.lit .none)) .nil (.cons (.ret (.call "check_point?" (.cons (.var 0) .nil) [0])) .nil)) (.cons (.ite (.cmp .isN (.call "check_point?" (.cons (.var 1) .nil) [0]) (.lit .none)) .nil (.cons (.ret (.call "check_point?" (.cons (.var 1) .nil) [0])) .nil)) (.cons (.ite (.cmp .isN (.call "check_fraction?" (.cons (.var 2) .nil) [0]) (.lit .none)) .nil (.cons (.ret (.call "check_fraction?" (.cons (.var 2) .nil) [0])) .nil)) (.cons (.ret (.lit .none)) .nil)))) }
def q04_inner : PFun := { np := 2, ns := 2, urn := false, fresh := false, body := (.cons (.ite (.cmp .isN (.call "check_point?" (.cons (.var 0) .nil) [0]) (.lit .none)) .nil (.cons (.ret (.call "check_point?" (.cons (.var 0) .nil) [0])) .nil)) (.cons (.ite (.cmp .isN (.call "check_point?" (.cons (.var 1) .nil) [0]) (.lit .none)) .nil (.cons (.ret (.call "check_point?" (.cons (.var 1) .nil) [0])) .nil)) (.cons (.ret (.lit .none)) .nil))) }
def q04_cross : PFun := { np := 2, ns := 2, urn := false, fresh := false, body := (.cons (.ite (.cmp .isN (.call "check_point?" (.cons (.var 0) .nil) [0]) (.lit .none)) .nil (.cons (.ret (.call "check_point?" (.cons (.var 0) .nil) [0])) .nil)) (.cons (.ite (.cmp .isN (.call "check_point?" (.cons (.var 1) .nil) [0]) (.lit .none)) .nil (.cons (.ret (.call "check_point?" (.cons (.var 1) .nil) [0])) .nil)) (.cons (.ret (.lit .none)) .nil))) }
def q04_quarter : PFun := { np := 1, ns := 1, urn := false, fresh := false, body := (.cons (.ite (.cmp .isN (.call "check_point?" (.cons (.var 0) .nil) [0]) (.lit .none)) .nil (.cons (.ret (.call "check_point?" (.cons (.var 0) .nil) [0])) .nil)) (.cons (.ret (.lit .none)) .nil)) }
def q04_sense : PFun := { np := 3, ns := 3, urn := false, fresh := false, body := (.cons (.ite (.cmp .isN (.call "check_point?" (.cons (.var 0) .nil) [0]) (.lit .none)) .nil (.cons (.ret (.call "check_point?" (.cons (.var 0) .nil) [0])) .nil)) (.cons (.ite (.cmp .isN (.call "check_point?" (.cons (.var 1) .nil) [0]) (.lit .none)) .nil (.cons (.ret (.call "check_point?" (.cons (.var 1) .nil) [0])) .nil)) (.cons (.ite (.cmp .isN (.call "check_point?" (.cons (.var 2) .nil) [0]) (.lit .none)) .nil (.cons (.ret (.call "check_point?" (.cons (.var 2) .nil) [0])) .nil)) (.cons (.ret (.lit .none)) .nil)))) }
def p04_odd : PFun := { np := 1, ns := 2, urn := true, fresh := false, body := (.cons (.set 1 (.lst (.cons (.lit .none) (.cons (.lit (.bool true)) (.cons (.lit (.int 0)) (.cons (.lit (.int 3)) (.cons (.lit (.str (PySem.Str.ofString ""))) (.cons (.lit (.str (PySem.Str.ofString "point"))) (.cons (.tup .nil) (.cons (.tup (.cons (.lit (.int 1)) .nil)) (.cons (.tup (.cons (.lit (.int 1)) (.cons (.lit (.int 2)) .nil))) (.cons (.tup (.cons (.lit (.int 0)) (.cons (.lit (.int 1)) .nil))) (.cons (.tup (.cons (.lit (.int 2)) (.cons (.lit (.int 4)) .nil))) (.cons (.tup (.cons (.lit (.int 1)) (.cons (.lit (.int 0)) .nil))) (.cons (.tup (.cons (.lit (.int 1)) (.cons (.neg (.lit (.int 2))) .nil))) (.cons (.tup (.cons (.neg (.lit (.int 3))) (.cons (.lit (.int 2)) .nil))) (.cons (.tup (.cons (.lit (.int 0)) (.cons (.lit (.int 2)) .nil))) (.cons (.lst (.cons (.lit (.int 1)) (.cons (.lit (.int 2)) .nil))) (.cons .dict0 (.cons (.tup (.cons (.lit (.int 1)) (.cons (.lit (.int 2)) (.cons (.lit (.int 3)) .nil)))) .nil)))))))))))))))))))) (.cons (.set 1 (.bin .add (.var 1) (.lst (.cons (.tup (.cons (.lit (.int 0)) (.cons (.lit (.int 0)) (.cons (.lit (.int 1)) .nil)))) (.cons (.tup (.cons (.lit (.int 0)) (.cons (.lit (.int 0)) (.cons (.lit (.int 2)) .nil)))) (.cons (.tup (.cons (.lit (.int 2)) (.cons (.lit (.int 4)) (.cons (.lit (.int 6)) .nil)))) (.cons (.tup (.cons (.lit (.int 1)) (.cons (.lit (.int 2)) (.cons (.lit (.int 0)) .nil)))) (.cons (.tup (.cons (.lit (.int 1)) (.cons (.lit (.int 2)) (.cons (.neg (.lit (.int 3))) .nil)))) (.cons (.lst (.cons (.lit (.int 1)) (.cons (.lit (.int 2)) (.cons (.lit (.int 3)) .nil)))) (.cons (.tup (.cons (.lit (.int 1)) (.cons (.lit (.int 2)) (.cons (.lit (.bool true)) .nil)))) (.cons (.tup (.cons (.lit (.int 1)) (.cons (.lit .none) (.cons (.lit (.int 2)) .nil)))) (.cons (.tup (.cons (.lit (.int 1)) (.cons (.lit (.int 2)) (.cons (.lit (.int 3)) (.cons (.lit (.int 4)) .nil))))) (.cons (.tup (.cons (.neg (.lit (.int 5))) (.cons (.lit (.int 7)) (.cons (.lit (.int 3)) .nil)))) .nil))))))))))))) (.cons (.ret (.ucall "_law_any" (.cons (.bin .add (.var 1) (.lst (.cons (.tup (.cons (.tup (.cons (.lit (.int 1)) (.cons (.lit (.int 2)) (.cons (.lit (.int 3)) .nil)))) .nil)) (.cons (.tup (.cons (.lit (.bool true)) (.cons (.lit (.int 1)) .nil))) (.cons (.tup (.cons (.lit (.str (PySem.Str.ofString "1"))) (.cons (.lit (.int 2)) (.cons (.lit (.int 3)) .nil)))) (.cons (.tup (.cons (.tup (.cons (.lit (.int 0)) (.cons (.lit (.int 0)) (.cons (.lit (.int 1)) .nil)))) (.cons (.tup (.cons (.lit (.int 1)) (.cons (.lit (.int 0)) (.cons (.lit (.int 1)) .nil)))) .nil))) .nil)))))) .nil))) .nil))) }
def p04_right : PFun := { np := 1, ns := 10, urn := true, fresh := false, body := (.cons (.for_ (.one 1) (.range1 (.lit (.int 6))) (.cons (.set 2 (.lst (.cons (.tup (.cons (.lit (.int 1)) (.cons (.lit (.int 2)) (.cons (.lit (.int 3)) .nil)))) (.cons (.tup (.cons (.lit (.int 0)) (.cons (.lit (.int 0)) (.cons (.lit (.int 1)) .nil)))) (.cons (.tup (.cons (.neg (.lit (.int 5))) (.cons (.lit (.int 7)) (.cons (.lit (.int 2)) .nil)))) .nil))))) (.cons (.unp [.nm 3, .nm 4, .nm 5] (.bi .tuple (.cons (.comp (.ite (.cmp .eq (.ucall "_law_pull" (.cons (.lit (.int 3)) .nil)) (.lit (.int 0))) (.ucall "_law_odd" .nil) (.var 6)) (.one 6) (.seq (.var 2)) .no [6]) .nil))) (.cons (.set 7 (.ite (.cmp .eq (.ucall "_law_pull" (.cons (.lit (.int 3)) .nil)) (.lit (.int 0))) (.ucall "_law_odd" .nil) (.tup (.cons (.neg (.lit (.int 2))) (.cons (.lit (.int 3)) .nil))))) (.cons (.set 8 (.call "_law_due" (.cons (.lst (.cons (.tup (.cons (.lit (.str (PySem.Str.ofString "point"))) (.cons (.var 3) .nil))) (.cons (.tup (.cons (.lit (.str (PySem.Str.ofString "point"))) (.cons (.var 4) .nil))) .nil))) .nil) [0])) (.cons (.set 9 (.lst (.cons (.call "told:plus" (.cons (.var 3) (.cons (.var 4) .nil)) [0, 1]) .nil))) (.cons (.app 9 (.call "told:minus" (.cons (.var 3) (.cons (.var 4) .nil)) [0, 1])) (.cons (.app 9 (.call "told:inner" (.cons (.var 3) (.cons (.var 4) .nil)) [0, 1])) (.cons (.app 9 (.call "told:cross" (.cons (.var 3) (.cons (.var 4) .nil)) [0, 1])) (.cons (.ite (.or (.cmp .ne (.var 9) (.rep (.cons (.var 8) .nil) (.lit (.int 4)))) (.cmp .ne (.call "told:quarter" (.cons (.var 3) .nil) [0]) (.call "_law_due" (.cons (.lst (.cons (.tup (.cons (.lit (.str (PySem.Str.ofString "point"))) (.cons (.var 3) .nil))) .nil)) .nil) [0]))) (.cons (.ret (.lit (.bool false))) .nil) .nil) (.cons (.ite (.cmp .ne (.call "told:times" (.cons (.var 3) (.cons (.var 7) .nil)) [0, 1]) (.call "_law_due" (.cons (.lst (.cons (.tup (.cons (.lit (.str (PySem.Str.ofString "point"))) (.cons (.var 3) .nil))) (.cons (.tup (.cons (.lit (.str (PySem.Str.ofString "fraction"))) (.cons (.var 7) .nil))) .nil))) .nil) [0])) (.cons (.ret (.lit (.bool false))) .nil) .nil) (.cons (.ite (.cmp .ne (.call "told:between" (.cons (.var 3) (.cons (.var 4) (.cons (.var 7) .nil))) [0, 1, 2]) (.call "_law_due" (.cons (.lst (.cons (.tup (.cons (.lit (.str (PySem.Str.ofString "point"))) (.cons (.var 3) .nil))) (.cons (.tup (.cons (.lit (.str (PySem.Str.ofString "point"))) (.cons (.var 4) .nil))) (.cons (.tup (.cons (.lit (.str (PySem.Str.ofString "fraction"))) (.cons (.var 7) .nil))) .nil)))) .nil) [0])) (.cons (.ret (.lit (.bool false))) .nil) .nil) (.cons (.ite (.cmp .ne (.call "told:sense" (.cons (.var 3) (.cons (.var 4) (.cons (.var 5) .nil))) [0, 1, 2]) (.call "_law_due" (.cons (.lst (.cons (.tup (.cons (.lit (.str (PySem.Str.ofString "point"))) (.cons (.var 3) .nil))) (.cons (.tup (.cons (.lit (.str (PySem.Str.ofString "point"))) (.cons (.var 4) .nil))) (.cons (.tup (.cons (.lit (.str (PySem.Str.ofString "point"))) (.cons (.var 5) .nil))) .nil)))) .nil) [0])) (.cons (.ret (.lit (.bool false))) .nil) .nil) .nil))))))))))))) (.cons (.ret (.lit (.bool true))) .nil)) }
def p04_law : PFun := { np := 1, ns := 2, urn := false, fresh := false, body := (.cons (.for_ (.one 1) (.range1 (.call "_law_laps" (.cons (.var 0) .nil) [0])) (.cons (.ite (.not (.ncall "_law_right" (.call "_law_urn" (.cons (.var 0) (.cons (.var 1) .nil)) [0, 1]) .nil)) (.cons (.ret (.lit (.bool false))) .nil) .nil) .nil)) (.cons (.ret (.lit (.bool true))) .nil)) }
structure Kn04p (G : Prog) : Prop extends KnP G, KnU0 G, KnOv G where
  check_point : G.T "check_point" = some p_check_point
  check_fraction : G.T "check_fraction" = some p_check_fraction
  plus : G.T "plus" = some p_plus
  minus : G.T "minus" = some p_minus
  times : G.T "times" = some p_times
  between : G.T "between" = some p_between
  inner : G.T "inner" = some p_inner
  cross : G.T "cross" = some p_cross
  quarter : G.T "quarter" = some p_quarter
  sense : G.T "sense" = some p_sense
  q_check_point : G.T "check_point?" = some q04_check_point
  q_check_fraction : G.T "check_fraction?" = some q04_check_fraction
  q_plus : G.T "plus?" = some q04_plus
  q_minus : G.T "minus?" = some q04_minus
  q_times : G.T "times?" = some q04_times
  q_between : G.T "between?" = some q04_between
  q_inner : G.T "inner?" = some q04_inner
  q_cross : G.T "cross?" = some q04_cross
  q_quarter : G.T "quarter?" = some q04_quarter
  q_sense : G.T "sense?" = some q04_sense
  t_plus : G.T "told:plus" = some (toldFun "plus" "plus?" 2 cl04 (PySem.Str.ofString "let"))
  t_minus : G.T "told:minus" = some (toldFun "minus" "minus?" 2 cl04 (PySem.Str.ofString "let"))
  t_times : G.T "told:times" = some (toldFun "times" "times?" 2 cl04 (PySem.Str.ofString "let"))
  t_between : G.T "told:between" = some (toldFun "between" "between?" 3 cl04 (PySem.Str.ofString "let"))
  t_inner : G.T "told:inner" = some (toldFun "inner" "inner?" 2 cl04 (PySem.Str.ofString "let"))
  t_cross : G.T "told:cross" = some (toldFun "cross" "cross?" 2 cl04 (PySem.Str.ofString "let"))
  t_quarter : G.T "told:quarter" = some (toldFun "quarter" "quarter?" 1 cl04 (PySem.Str.ofString "let"))
  t_sense : G.T "told:sense" = some (toldFun "sense" "sense?" 3 cl04 (PySem.Str.ofString "let"))
structure Kn04 (G : Prog) : Prop extends Kn04p G where
  due : G.T "_law_due" = some p04_due
  odd : G.T "_law_odd" = some p04_odd
  right : G.T "_law_right" = some p04_right
  law : G.T "law" = some p04_law
section
variable {G : Prog} (K : Kn04p G) {k : Nat} {a b c x y w u v z : Int}
include K
theorem c_check_point4 (n : Nat) (A : Pt k a b c) : callU G (n + 4) "check_point" [T3 a b c] [] = some (.none, []) := by
  rw [callU_eq K.check_point]
  simp [runF, p_check_point, mkEnv, ctx_fn K.is_vector rfl, c_is_vector K.toKnVb n A.pos A.red]
theorem c_check_fraction4 (n : Nat) (A : Fr k a b) : callU G (n + 4) "check_fraction" [T2 a b] [] = some (.none, []) := by
  rw [callU_eq K.check_fraction]
  simp [runF, p_check_fraction, mkEnv, ctx_fn K.is_ratio rfl, c_is_ratio K.toKnVb K.is_ratio n A.pos A.red]
theorem c_plus4 (n : Nat) (A : Pt k a b c) (B : Pt k x y w) (hk : k < 4000) : callU G (n + 5) "plus" [T3 a b c, T3 x y w] [] = some (nv3 (a * w + x * c) (b * w + y * c) (c * w), []) := by
  rw [callU_eq K.plus]
  simp [runF, p_plus, mkEnv, ctx_fn K.check_point rfl, c_check_point4 K n A, c_check_point4 K n B, ctx_fn K.vector_sum rfl, c_vsum K.toKnP (n + 1) A B hk]
theorem c_minus4 (n : Nat) (A : Pt k a b c) (B : Pt k x y w) (hk : k < 4000) : callU G (n + 5) "minus" [T3 a b c, T3 x y w] [] = some (nv3 (a * w - x * c) (b * w - y * c) (c * w), []) := by
  rw [callU_eq K.minus]
  simp [runF, p_minus, mkEnv, ctx_fn K.check_point rfl, c_check_point4 K n A, c_check_point4 K n B, ctx_fn K.vector_less rfl, c_vless K.toKnP (n + 1) A B hk]
theorem c_times4 (n : Nat) (A : Pt k a b c) (B : Fr k x y) (hk : k < 4000) : callU G (n + 5) "times" [T3 a b c, T2 x y] [] = some (nv3 (a * x) (b * x) (c * y), []) := by
  rw [callU_eq K.times]
  simp [runF, p_times, mkEnv, ctx_fn K.check_point rfl, c_check_point4 K n A, ctx_fn K.check_fraction rfl, c_check_fraction4 K n B, ctx_fn K.vector_times rfl, c_vtimes K.toKnP (n + 1) A B hk]
theorem c_inner4 (n : Nat) (A : Pt k a b c) (B : Pt k x y w) (hk : k < 4000) : callU G (n + 5) "inner" [T3 a b c, T3 x y w] [] = some (nv2 (a * x + b * y) (c * w), []) := by
  rw [callU_eq K.inner]
  simp [runF, p_inner, mkEnv, ctx_fn K.check_point rfl, c_check_point4 K n A, c_check_point4 K n B, ctx_fn K.inner_of rfl, c_inner_of K.toKnP (n + 1) A B hk]
theorem c_cross4 (n : Nat) (A : Pt k a b c) (B : Pt k x y w) (hk : k < 4000) : callU G (n + 5) "cross" [T3 a b c, T3 x y w] [] = some (nv2 (a * y - b * x) (c * w), []) := by
  rw [callU_eq K.cross]
  simp [runF, p_cross, mkEnv, ctx_fn K.check_point rfl, c_check_point4 K n A, c_check_point4 K n B, ctx_fn K.cross_of rfl, c_cross_of K.toKnP (n + 1) A B hk]
theorem c_quarter4 (n : Nat) (A : Pt k a b c) : callU G (n + 5) "quarter" [T3 a b c] [] = some (T3 (-b) a c, []) := by
  rw [callU_eq K.quarter]
  simp [runF, p_quarter, mkEnv, ctx_fn K.check_point rfl, c_check_point4 K n A, ctx_fn K.quartered rfl, c_quartered K.toKnP (n + 3)]
def det4 (a b c u v w x y z : Int) : Int := a * (v * z - y * w) - b * (u * z - x * w) + c * (u * y - x * v)
theorem c_turn_of4 (n : Nat) (A : Pt k a b c) (B : Pt k u v w) (E : Pt k x y z) (hk : k < 4000) : callU G (n + 2) "turn_of" [T3 a b c, T3 u v w, T3 x y z] [] = some (.int (det4 a b c u v w x y z).sign, []) := by
  have mo : ∀ {i j : Int}, Sm k i → Sm k j → mulOk i j = true := fun h q => mulOk_of h q (by omega) (by omega)
  have m3 : ∀ {i j l m h : Int}, Sm k h → Sm k i → Sm k j → Sm k l → Sm k m → mulOk h (i * j - l * m) = true := fun h0 h1 h2 h3 h4 => mulOk_of h0 ((h1.mul h2).sub (h3.mul h4)) (by omega) (by omega)
  rw [callU_eq K.turn_of]
  simp [runF, p_turn_of, mkEnv, mo B.y E.w, mo E.y B.w, mo B.x E.w, mo E.x B.w, mo B.x E.y, mo E.x B.y, m3 A.x B.y E.w E.y B.w, m3 A.y B.x E.w E.x B.w, m3 A.w B.x E.y E.x B.y, ctx_fn K.sign_of rfl, c_sign_of K.sign_of, det4]
theorem c_sense4 (n : Nat) (A : Pt k a b c) (B : Pt k u v w) (E : Pt k x y z) (hk : k < 4000) : callU G (n + 5) "sense" [T3 a b c, T3 u v w, T3 x y z] [] = some (.int (det4 a b c u v w x y z).sign, []) := by
  rw [callU_eq K.sense]
  simp [runF, p_sense, mkEnv, ctx_fn K.check_point rfl, c_check_point4 K n A, c_check_point4 K n B, c_check_point4 K n E, ctx_fn K.turn_of rfl, c_turn_of4 K (n + 2) A B E hk]
theorem c_between4 (n : Nat) {f g p q r p2 q2 r2 : Int} (A : Pt k a b c) (B : Pt k x y w) (F : Fr k f g) (hk : k < 800)
    (hp : p = nx3 (x * c - a * w) (y * c - b * w) (w * c)) (hq : q = ny3 (x * c - a * w) (y * c - b * w) (w * c)) (hr : r = nw3 (x * c - a * w) (y * c - b * w) (w * c))
    (hp2 : p2 = nx3 (p * f) (q * f) (r * g)) (hq2 : q2 = ny3 (p * f) (q * f) (r * g)) (hr2 : r2 = nw3 (p * f) (q * f) (r * g)) :
    callU G (n + 6) "between" [T3 a b c, T3 x y w, T2 f g] [] = some (nv3 (a * r2 + p2 * c) (b * r2 + q2 * c) (c * r2), []) ∧ Pt (2 * k + 1) p q r ∧ Pt (4 * k + 2) p2 q2 r2 := by
  have P : Pt (2 * k + 1) p q r := by
    rw [hp, hq, hr]
    exact pt_n (Int.mul_pos B.pos A.pos) (Sm.c B.x A.w A.x B.w (by omega)).2 (Sm.c B.y A.w A.y B.w (by omega)).2 ((B.w.mul A.w).mono (by omega))
  have F2 : Fr (2 * k + 1) f g := ⟨F.pos, F.red, F.x.mono (by omega), F.y.mono (by omega)⟩
  have Q : Pt (4 * k + 2) p2 q2 r2 := by
    rw [hp2, hq2, hr2]
    exact pt_n (Int.mul_pos P.pos F.pos) ((P.x.mul F2.x).mono (by omega)) ((P.y.mul F2.x).mono (by omega)) ((P.w.mul F2.y).mono (by omega))
  have A2 : Pt (4 * k + 2) a b c := ⟨A.pos, A.red, A.x.mono (by omega), A.y.mono (by omega), A.w.mono (by omega)⟩
  refine ⟨?_, P, Q⟩
  have e1 := c_vless K.toKnP (n + 1) B A (by omega)
  rw [show nv3 (x * c - a * w) (y * c - b * w) (w * c) = T3 p q r from by rw [hp, hq, hr]] at e1
  have e2 := c_vtimes K.toKnP (n + 1) P F2 (by omega)
  rw [show nv3 (p * f) (q * f) (r * g) = T3 p2 q2 r2 from by rw [hp2, hq2, hr2]] at e2
  have e3 := c_vsum K.toKnP (n + 1) A2 Q (by omega)
  have e4 : callU G (n + 5) "vector_between" [T3 a b c, T3 x y w, T2 f g] [] = some (nv3 (a * r2 + p2 * c) (b * r2 + q2 * c) (c * r2), []) := by
    rw [callU_eq K.vector_between]
    simp [runF, p_vector_between, mkEnv, ctx_fn K.vector_less rfl, ctx_fn K.vector_times rfl, ctx_fn K.vector_sum rfl, e1, e2, e3]
  rw [callU_eq K.between]
  simp [runF, p_between, mkEnv, ctx_fn K.check_point rfl, c_check_point4 K (n + 1) A, c_check_point4 K (n + 1) B, ctx_fn K.check_fraction rfl, c_check_fraction4 K (n + 1) F, ctx_fn K.vector_between rfl, e4]

end
section
variable {G : Prog} (K : Kn04p G)
include K
theorem q_point4 (n : Nat) {d : D} (h : Odd d) : callU G (n + 4) "check_point?" [d] [] = some (if vB d then .none else xn sP d, []) := by
  have e := ctx_fn K.is_vector rfl (n + 3) [d]
  rw [(ta_spot K.toKnOv n h.ga).1] at e
  rw [callU_eq K.q_check_point]
  cases q : vB d <;> simp [runF, q04_check_point, mkEnv, e, q, xn, sP]
theorem q_frac4 (n : Nat) {d : D} (h : Odd d) : callU G (n + 4) "check_fraction?" [d] [] = some (if fB d then .none else xn sF d, []) := by
  have e := ctx_fn K.is_ratio rfl (n + 3) [d]
  rw [(ta_frac K.toKnOv n h.ga).1] at e
  rw [callU_eq K.q_check_fraction]
  cases q : fB d <;> simp [runF, q04_check_fraction, mkEnv, e, q, xn, sF]
/-- what the checks of a row come to -/
def chD : List (Bool × D) → D
  | [] => .none
  | r :: rs => if goodB r then chD rs else xn (if r.1 then sP else sF) r.2
theorem q_plus4 (n : Nat) {a b : D} (ha : Odd a) (hb : Odd b) : callU G (n + 5) "plus?" [a, b] [] = some (chD [(true, a), (true, b)], []) := by
  have ea := ctx_fn K.q_check_point rfl (n + 4) [a]
  rw [q_point4 K n ha] at ea
  have eb := ctx_fn K.q_check_point rfl (n + 4) [b]
  rw [q_point4 K n hb] at eb
  rw [callU_eq K.q_plus]
  cases qa : vB a <;> cases qb : vB b <;> simp [runF, q04_plus, mkEnv, chD, goodB, xn, isNone, ea, eb, qa, qb]
theorem q_minus4 (n : Nat) {a b : D} (ha : Odd a) (hb : Odd b) : callU G (n + 5) "minus?" [a, b] [] = some (chD [(true, a), (true, b)], []) := by
  have ea := ctx_fn K.q_check_point rfl (n + 4) [a]
  rw [q_point4 K n ha] at ea
  have eb := ctx_fn K.q_check_point rfl (n + 4) [b]
  rw [q_point4 K n hb] at eb
  rw [callU_eq K.q_minus]
  cases qa : vB a <;> cases qb : vB b <;> simp [runF, q04_minus, mkEnv, chD, goodB, xn, isNone, ea, eb, qa, qb]
theorem q_inner4 (n : Nat) {a b : D} (ha : Odd a) (hb : Odd b) : callU G (n + 5) "inner?" [a, b] [] = some (chD [(true, a), (true, b)], []) := by
  have ea := ctx_fn K.q_check_point rfl (n + 4) [a]
  rw [q_point4 K n ha] at ea
  have eb := ctx_fn K.q_check_point rfl (n + 4) [b]
  rw [q_point4 K n hb] at eb
  rw [callU_eq K.q_inner]
  cases qa : vB a <;> cases qb : vB b <;> simp [runF, q04_inner, mkEnv, chD, goodB, xn, isNone, ea, eb, qa, qb]
theorem q_cross4 (n : Nat) {a b : D} (ha : Odd a) (hb : Odd b) : callU G (n + 5) "cross?" [a, b] [] = some (chD [(true, a), (true, b)], []) := by
  have ea := ctx_fn K.q_check_point rfl (n + 4) [a]
  rw [q_point4 K n ha] at ea
  have eb := ctx_fn K.q_check_point rfl (n + 4) [b]
  rw [q_point4 K n hb] at eb
  rw [callU_eq K.q_cross]
  cases qa : vB a <;> cases qb : vB b <;> simp [runF, q04_cross, mkEnv, chD, goodB, xn, isNone, ea, eb, qa, qb]
theorem q_quarter4 (n : Nat) {a : D} (ha : Odd a) : callU G (n + 5) "quarter?" [a] [] = some (chD [(true, a)], []) := by
  have ea := ctx_fn K.q_check_point rfl (n + 4) [a]
  rw [q_point4 K n ha] at ea
  rw [callU_eq K.q_quarter]
  cases qa : vB a <;> simp [runF, q04_quarter, mkEnv, chD, goodB, xn, isNone, ea, qa]
theorem q_times4 (n : Nat) {a b : D} (ha : Odd a) (hb : Odd b) : callU G (n + 5) "times?" [a, b] [] = some (chD [(true, a), (false, b)], []) := by
  have ea := ctx_fn K.q_check_point rfl (n + 4) [a]
  rw [q_point4 K n ha] at ea
  have eb := ctx_fn K.q_check_fraction rfl (n + 4) [b]
  rw [q_frac4 K n hb] at eb
  rw [callU_eq K.q_times]
  cases qa : vB a <;> cases qb : fB b <;> simp [runF, q04_times, mkEnv, chD, goodB, xn, isNone, ea, eb, qa, qb]
theorem q_between4 (n : Nat) {a b c : D} (ha : Odd a) (hb : Odd b) (hc : Odd c) : callU G (n + 5) "between?" [a, b, c] [] = some (chD [(true, a), (true, b), (false, c)], []) := by
  have ea := ctx_fn K.q_check_point rfl (n + 4) [a]
  rw [q_point4 K n ha] at ea
  have eb := ctx_fn K.q_check_point rfl (n + 4) [b]
  rw [q_point4 K n hb] at eb
  have ec := ctx_fn K.q_check_fraction rfl (n + 4) [c]
  rw [q_frac4 K n hc] at ec
  rw [callU_eq K.q_between]
  cases qa : vB a <;> cases qb : vB b <;> cases qc : fB c <;> simp [runF, q04_between, mkEnv, chD, goodB, xn, isNone, ea, eb, ec, qa, qb, qc]
theorem q_sense4 (n : Nat) {a b c : D} (ha : Odd a) (hb : Odd b) (hc : Odd c) : callU G (n + 5) "sense?" [a, b, c] [] = some (chD [(true, a), (true, b), (true, c)], []) := by
  have ea := ctx_fn K.q_check_point rfl (n + 4) [a]
  rw [q_point4 K n ha] at ea
  have eb := ctx_fn K.q_check_point rfl (n + 4) [b]
  rw [q_point4 K n hb] at eb
  have ec := ctx_fn K.q_check_point rfl (n + 4) [c]
  rw [q_point4 K n hc] at ec
  rw [callU_eq K.q_sense]
  cases qa : vB a <;> cases qb : vB b <;> cases qc : vB c <;> simp [runF, q04_sense, mkEnv, chD, goodB, xn, isNone, ea, eb, ec, qa, qb, qc]
theorem fnd_F : cl04.find? (fun c => decide (sF = c.cls)) = some ⟨sF, wordB false, PySem.Str.ofString "given"⟩ := by
  have h : decide (sF = PySem.Str.ofString "InvalidPoint") = false := by decide +kernel
  have h2 : decide (sF = PySem.Str.ofString "InvalidFraction") = true := decide_eq_true rfl
  simp only [cl04, List.find?_cons, h, h2]
  rfl
theorem fnd_P : cl04.find? (fun c => decide (sP = c.cls)) = some ⟨sP, wordB true, PySem.Str.ofString "given"⟩ := by
  have h2 : decide (sP = PySem.Str.ofString "InvalidPoint") = true := decide_eq_true rfl
  simp only [cl04, List.find?_cons, h2]
  rfl
/-- a row of checks and what is told -/
theorem told_row {f : String} {np n : Nat} {pf pq : PFun} {l : List (Bool × D)} {ds : List D} (hT : G.T ("told:" ++ f) = some (toldFun f (f ++ "?") np cl04 (PySem.Str.ofString "let"))) (hl : ds.length = np) (hf : G.T f = some pf) (uf : pf.urn = false) (hq : G.T (f ++ "?") = some pq) (uq : pq.urn = false)
    (ho : ∀ r ∈ l, Odd r.2) (e1 : callU G n (f ++ "?") ds [] = some (chD l, [])) (e2 : chD l = .none → ∃ v u, callU G n f ds [] = some (v, u)) : callU G (n + 1) ("told:" ++ f) ds [] = some (dueD l, []) := by
  have g1 := ctx_fn hq uq n ds
  rw [e1] at g1
  have key : ∀ l : List (Bool × D), (∀ r ∈ l, Odd r.2) → (chD l = .none ∧ dueD l = .list [.str (PySem.Str.ofString "let")]) ∨ ∃ c s e, chD l = xn s e ∧ cl04.find? (fun c => decide (s = c.cls)) = some c ∧ biV .repr [e] = some (.str (PyData.shown e)) ∧ dueD l = .list [.str c.word, .str (PyData.shown e)] := by
    intro l
    induction l with
    | nil => exact fun _ => .inl ⟨rfl, rfl⟩
    | cons r rs ih =>
      intro h
      obtain ⟨p, d⟩ := r
      by_cases q : goodB (p, d) = true
      · rcases ih fun x hx => h x (List.mem_cons_of_mem _ hx) with ⟨a, b⟩ | ⟨c, s, e, a, b, i, j⟩
        · exact .inl ⟨by rw [chD, if_pos q, a], by rw [dueD, if_pos q, b]⟩
        · exact .inr ⟨c, s, e, by rw [chD, if_pos q, a], b, i, by rw [dueD, if_pos q, j]⟩
      · have re := (h (p, d) List.mem_cons_self).re
        cases p
        · exact .inr ⟨⟨sF, wordB false, PySem.Str.ofString "given"⟩, sF, d, by rw [chD, if_neg q]; rfl, fnd_F K, re, by rw [dueD, if_neg q]⟩
        · exact .inr ⟨⟨sP, wordB true, PySem.Str.ofString "given"⟩, sP, d, by rw [chD, if_neg q]; rfl, fnd_P K, re, by rw [dueD, if_neg q]⟩
  rcases key l ho with ⟨a, b⟩ | ⟨c, s, e, a, b, i, j⟩
  · obtain ⟨v, u, e3⟩ := e2 a
    have g2 := ctx_fn hf uf n ds
    rw [e3] at g2
    rw [a] at g1
    rw [b]
    exact told_let hT hl g1 g2
  · rw [a] at g1
    rw [j]
    exact told_no hT hl g1 b i
theorem chD_none : ∀ {l : List (Bool × D)}, chD l = .none → ∀ r ∈ l, goodB r = true
  | r :: rs, h => by
    unfold chD at h
    by_cases q : goodB r = true
    · rw [if_pos q] at h
      intro x hx
      rcases List.mem_cons.mp hx with rfl | hx
      · exact q
      · exact chD_none h x hx
    · rw [if_neg q] at h
      cases h
  | [], _ => by simp
theorem t_plus4 (n : Nat) {a b : D} (ha : Odd a) (hb : Odd b) : callU G (n + 7) "told:plus" [a, b] [] = some (dueD [(true, a), (true, b)], []) := by
  refine told_row K (f := "plus") K.t_plus rfl K.plus rfl K.q_plus rfl (by simp [ha, hb]) (q_plus4 K (n + 1) ha hb) fun h => ?_
  have ga := chD_none K h (true, a) (by simp)
  obtain ⟨a1, a2, a3, rfl, Pa⟩ := vB_pt ga ha.ga
  have gb := chD_none K h (true, b) (by simp)
  obtain ⟨b1, b2, b3, rfl, Pb⟩ := vB_pt gb hb.ga
  exact ⟨_, _, c_plus4 K (n + 1) Pa Pb (by decide)⟩
theorem t_minus4 (n : Nat) {a b : D} (ha : Odd a) (hb : Odd b) : callU G (n + 7) "told:minus" [a, b] [] = some (dueD [(true, a), (true, b)], []) := by
  refine told_row K (f := "minus") K.t_minus rfl K.minus rfl K.q_minus rfl (by simp [ha, hb]) (q_minus4 K (n + 1) ha hb) fun h => ?_
  have ga := chD_none K h (true, a) (by simp)
  obtain ⟨a1, a2, a3, rfl, Pa⟩ := vB_pt ga ha.ga
  have gb := chD_none K h (true, b) (by simp)
  obtain ⟨b1, b2, b3, rfl, Pb⟩ := vB_pt gb hb.ga
  exact ⟨_, _, c_minus4 K (n + 1) Pa Pb (by decide)⟩
theorem t_inner4 (n : Nat) {a b : D} (ha : Odd a) (hb : Odd b) : callU G (n + 7) "told:inner" [a, b] [] = some (dueD [(true, a), (true, b)], []) := by
  refine told_row K (f := "inner") K.t_inner rfl K.inner rfl K.q_inner rfl (by simp [ha, hb]) (q_inner4 K (n + 1) ha hb) fun h => ?_
  have ga := chD_none K h (true, a) (by simp)
  obtain ⟨a1, a2, a3, rfl, Pa⟩ := vB_pt ga ha.ga
  have gb := chD_none K h (true, b) (by simp)
  obtain ⟨b1, b2, b3, rfl, Pb⟩ := vB_pt gb hb.ga
  exact ⟨_, _, c_inner4 K (n + 1) Pa Pb (by decide)⟩
theorem t_cross4 (n : Nat) {a b : D} (ha : Odd a) (hb : Odd b) : callU G (n + 7) "told:cross" [a, b] [] = some (dueD [(true, a), (true, b)], []) := by
  refine told_row K (f := "cross") K.t_cross rfl K.cross rfl K.q_cross rfl (by simp [ha, hb]) (q_cross4 K (n + 1) ha hb) fun h => ?_
  have ga := chD_none K h (true, a) (by simp)
  obtain ⟨a1, a2, a3, rfl, Pa⟩ := vB_pt ga ha.ga
  have gb := chD_none K h (true, b) (by simp)
  obtain ⟨b1, b2, b3, rfl, Pb⟩ := vB_pt gb hb.ga
  exact ⟨_, _, c_cross4 K (n + 1) Pa Pb (by decide)⟩
theorem t_quarter4 (n : Nat) {a : D} (ha : Odd a) : callU G (n + 7) "told:quarter" [a] [] = some (dueD [(true, a)], []) := by
  refine told_row K (f := "quarter") K.t_quarter rfl K.quarter rfl K.q_quarter rfl (by simp [ha]) (q_quarter4 K (n + 1) ha) fun h => ?_
  have ga := chD_none K h (true, a) (by simp)
  obtain ⟨a1, a2, a3, rfl, Pa⟩ := vB_pt ga ha.ga
  exact ⟨_, _, c_quarter4 K (n + 1) Pa⟩
theorem t_times4 (n : Nat) {a b : D} (ha : Odd a) (hb : Odd b) : callU G (n + 7) "told:times" [a, b] [] = some (dueD [(true, a), (false, b)], []) := by
  refine told_row K (f := "times") K.t_times rfl K.times rfl K.q_times rfl (by simp [ha, hb]) (q_times4 K (n + 1) ha hb) fun h => ?_
  have ga := chD_none K h (true, a) (by simp)
  obtain ⟨a1, a2, a3, rfl, Pa⟩ := vB_pt ga ha.ga
  have gb := chD_none K h (false, b) (by simp)
  obtain ⟨b1, b2, rfl, Pb⟩ := fB_fr gb hb.ga
  exact ⟨_, _, c_times4 K (n + 1) Pa Pb (by decide)⟩
theorem t_between4 (n : Nat) {a b c : D} (ha : Odd a) (hb : Odd b) (hc : Odd c) : callU G (n + 7) "told:between" [a, b, c] [] = some (dueD [(true, a), (true, b), (false, c)], []) := by
  refine told_row K (f := "between") K.t_between rfl K.between rfl K.q_between rfl (by simp [ha, hb, hc]) (q_between4 K (n + 1) ha hb hc) fun h => ?_
  have ga := chD_none K h (true, a) (by simp)
  obtain ⟨a1, a2, a3, rfl, Pa⟩ := vB_pt ga ha.ga
  have gb := chD_none K h (true, b) (by simp)
  obtain ⟨b1, b2, b3, rfl, Pb⟩ := vB_pt gb hb.ga
  have gc := chD_none K h (false, c) (by simp)
  obtain ⟨c1, c2, rfl, Pc⟩ := fB_fr gc hc.ga
  exact ⟨_, _, (c_between4 K n Pa Pb Pc (by decide) rfl rfl rfl rfl rfl rfl).1⟩
theorem t_sense4 (n : Nat) {a b c : D} (ha : Odd a) (hb : Odd b) (hc : Odd c) : callU G (n + 7) "told:sense" [a, b, c] [] = some (dueD [(true, a), (true, b), (true, c)], []) := by
  refine told_row K (f := "sense") K.t_sense rfl K.sense rfl K.q_sense rfl (by simp [ha, hb, hc]) (q_sense4 K (n + 1) ha hb hc) fun h => ?_
  have ga := chD_none K h (true, a) (by simp)
  obtain ⟨a1, a2, a3, rfl, Pa⟩ := vB_pt ga ha.ga
  have gb := chD_none K h (true, b) (by simp)
  obtain ⟨b1, b2, b3, rfl, Pb⟩ := vB_pt gb hb.ga
  have gc := chD_none K h (true, c) (by simp)
  obtain ⟨c1, c2, c3, rfl, Pc⟩ := vB_pt gc hc.ga
  exact ⟨_, _, c_sense4 K (n + 1) Pa Pb Pc (by decide)⟩
end
end Pl

set_option maxHeartbeats 400000
namespace Pl
open PySem (PyData Str)
def st (s : String) : D := .str (PySem.Str.ofString s)
def oddA : List D := [.none, .bool true, .int 0, .int 3, st "", st "point", .tuple [], .tuple [.int 1], T2 1 2, T2 0 1, T2 2 4, T2 1 0, T2 1 (-2), T2 (-3) 2, T2 0 2, .list [.int 1, .int 2], .dict [], T3 1 2 3]
def oddB : List D := [T3 0 0 1, T3 0 0 2, T3 2 4 6, T3 1 2 0, T3 1 2 (-3), .list [.int 1, .int 2, .int 3], .tuple [.int 1, .int 2, .bool true], .tuple [.int 1, .none, .int 2], .tuple [.int 1, .int 2, .int 3, .int 4], T3 (-5) 7 3]
def oddC : List D := [.tuple [T3 1 2 3], .tuple [.bool true, .int 1], .tuple [st "1", .int 2, .int 3], .tuple [T3 0 0 1, T3 1 0 1]]
theorem odds_ok : ∀ d ∈ oddA ++ oddB ++ oddC ++ [T3 1 2 3, T3 0 0 1, T3 (-5) 7 2, T2 (-2) 3], Odd d := by
  have h : (oddA ++ oddB ++ oddC ++ [T3 1 2 3, T3 0 0 1, T3 (-5) 7 2, T2 (-2) 3]).all (fun d => gaB d && reB d && PyData.strOk (PyData.shown d)) = true := by decide +kernel
  intro d hd
  exact odd_of (List.all_eq_true.mp h d hd)
section
variable {C : Ctx} {ff : String → Bool} {env : Env} {u u1 u2 : U}
theorem xe_uc {f : String} {es : Es} {ds : List D} {r : D × U} (h : evalEs C es env u = some (ds, u1)) (h2 : C.ufn f ds u1 = some r) : evalE C (.ucall f es) env u = some r := by
  rw [evalE, h]; exact h2
theorem xs_reta {e : E} {d : D} (h : evalE C e env u = some (d, u1)) : execS C ff (.ret e) env u = some (.rt d u1) := by
  rw [execS, h]; rfl
theorem xe_cl {f : String} {es : Es} {perm : List Nat} {ds ds' : List D} {d : D} (h : evalEs C es env u = some (ds, u1)) (hp : pick ds perm = some ds') (hf : C.fn f ds' = some d) : evalE C (.call f es perm) env u = some (d, u1) := by
  rw [evalE, h, Option.bind_some, hp, Option.bind_some, hf]; rfl
theorem xe_nea {a b : E} {x y : D} (h1 : evalE C a env u = some (x, u1)) (h2 : evalE C b env u1 = some (y, u2)) (h : eqD x y = some true) : evalE C (.cmp .ne a b) env u = some (.bool false, u2) := by
  rw [evalE, h1, Option.bind_some, h2, Option.bind_some, cmpV, h]; rfl
theorem run_setX {i : Nat} {e : E} {d : D} (h : evalE C e env u = some (d, u1)) (hf : fk ff e = false) (hz : freeze env (fvE e) = env) : execS C ff (.set i e) env u = some (.nx (env.set i (.imm d)) u1) := by
  have a : after ff env e d = env := by unfold after; rw [hz]; split <;> rfl
  have b : slotOf ff e d = .imm d := by unfold slotOf; rw [hf]; rfl
  rw [run_set h, a, b]
theorem run_setY {i : Nat} {e : E} {ds : List D} (h : evalE C e env u = some (.list ds, u1)) (hf : fk ff e = true) (hz : freeze env (fvE e) = env) : execS C ff (.set i e) env u = some (.nx (env.set i (.own ds)) u1) := by
  have a : after ff env e (.list ds) = env := by unfold after; rw [hz]; split <;> rfl
  have b : slotOf ff e (.list ds) = .own ds := by unfold slotOf; rw [hf]; rfl
  rw [run_set h, a, b]
theorem run_appX {i : Nat} {e : E} {d : D} {ds : List D} (h : evalE C e env u = some (d, u1)) (hz : freeze env (fvE e) = env) (hi : env[i]? = some (.own ds)) (hs : ds.length ≤ 1000) : execS C ff (.app i e) env u = some (.nx (env.set i (.own (ds ++ [d]))) u1) := by
  have : (if noList d = true then env else freeze env (fvE e)) = env := by rw [hz]; split <;> rfl
  rw [execS, h, Option.bind_some]
  simp only [this, hi]
  rw [if_pos (show sizeOk ds.length = true from decide_eq_true (by omega))]
theorem xe_ora {a b : E} (h1 : evalE C a env u = some (.bool false, u1)) (h2 : evalE C b env u1 = some (.bool false, u2)) : evalE C (.or a b) env u = some (.bool false, u2) := by
  rw [evalE, h1, Option.bind_some]
  simp only [Bool.false_eq_true, if_false, h2]
  rfl
theorem compL3 {step : D → U → Option (Option D × U)} {x y z a b c : D} {u3 : U} (h1 : step x u = some (some a, u1)) (h2 : step y u1 = some (some b, u2)) (h3 : step z u2 = some (some c, u3)) : compL step [x, y, z] u = some ([a, b, c], u3) := by
  simp [compL, h1, h2, h3]
theorem run_ifX {c : E} {a : Ss} (h : evalE C c env u = some (.bool false, u1)) : execS C ff (.ite c a .nil) env u = some (.nx env u1) := by
  rw [execS, h]; rfl
end
section
variable {G : Prog} (K : Kn04 G)
include K
theorem l_odd4 (n : Nat) {u : U} (hu : Pot u) : ∃ d u', callU G (n + 3) "_law_odd" [] u = some (d, u') ∧ d ∈ oddA ++ oddB ++ oddC ∧ Pot u' := by
  obtain ⟨d, u', e, hd, pu⟩ := c_any0 K.toKnU0 n (u := u) (xs := oddA ++ oddB ++ oddC) hu (by decide) (by decide)
  refine ⟨d, u', ?_, hd, pu⟩
  rw [callU_eq K.odd]
  have e' := ctx_ufn K.any rfl (n + 2) [.list (oddA ++ oddB ++ oddC)] u
  rw [e] at e'
  refine runF_of rfl (run_cons (env1 := [.no, .own oddA]) (u1 := u) ?_ (run_cons (env1 := [.no, .own (oddA ++ oddB)]) (u1 := u) ?_ (run_last ?_)))
  · have h : evalE (ctxN G (n + 2)) (.lst (.cons (.lit .none) (.cons (.lit (.bool true)) (.cons (.lit (.int 0)) (.cons (.lit (.int 3)) (.cons (.lit (.str (PySem.Str.ofString ""))) (.cons (.lit (.str (PySem.Str.ofString "point"))) (.cons (.tup .nil) (.cons (.tup (.cons (.lit (.int 1)) .nil)) (.cons (.tup (.cons (.lit (.int 1)) (.cons (.lit (.int 2)) .nil))) (.cons (.tup (.cons (.lit (.int 0)) (.cons (.lit (.int 1)) .nil))) (.cons (.tup (.cons (.lit (.int 2)) (.cons (.lit (.int 4)) .nil))) (.cons (.tup (.cons (.lit (.int 1)) (.cons (.lit (.int 0)) .nil))) (.cons (.tup (.cons (.lit (.int 1)) (.cons (.neg (.lit (.int 2))) .nil))) (.cons (.tup (.cons (.neg (.lit (.int 3))) (.cons (.lit (.int 2)) .nil))) (.cons (.tup (.cons (.lit (.int 0)) (.cons (.lit (.int 2)) .nil))) (.cons (.lst (.cons (.lit (.int 1)) (.cons (.lit (.int 2)) .nil))) (.cons .dict0 (.cons (.tup (.cons (.lit (.int 1)) (.cons (.lit (.int 2)) (.cons (.lit (.int 3)) .nil)))) .nil))))))))))))))))))) [.no, .no] u = some (.list oddA, u) := rfl
    rw [execS, show mkEnv p04_odd [] = [.no, .no] from rfl, h]
    rfl
  · rfl
  · refine xs_reta (xe_uc (ds := [.list (oddA ++ oddB ++ oddC)]) (u1 := u) rfl e')
/-- a draw of an odd value or the right one -/
theorem l_pick4 (n : Nat) {u : U} (hu : Pot u) {env : Env} {e : E} {m : D} (he : ∀ u, evalE (ctxN G (n + 3)) e env u = some (m, u)) : ∃ v u', evalE (ctxN G (n + 3)) (.ite (.cmp .eq (.ucall "_law_pull" (.cons (.lit (.int 3)) .nil)) (.lit (.int 0))) (.ucall "_law_odd" .nil) e) env u = some (v, u') ∧ (v ∈ oddA ++ oddB ++ oddC ∨ v = m) ∧ Pot u' := by
  obtain ⟨d, u1, e1, _, _, p1⟩ := c_pull0 K.toKnU0 (n + 2) (m := 3) hu (by decide) (by unfold Sm; decide)
  have e1' := ctx_ufn K.pull rfl (n + 3) [.int 3] u
  rw [e1] at e1'
  by_cases q : d = 0
  · obtain ⟨v, u2, e2, hv, p2⟩ := l_odd4 K n p1
    have e2' := ctx_ufn K.odd rfl (n + 3) [] u1
    rw [e2] at e2'
    refine ⟨v, u2, ?_, .inl hv, p2⟩
    simp [e1', q, e2']
  · refine ⟨m, u1, ?_, .inr rfl, p1⟩
    simp [e1', q, he]
def good4 : List D := [T3 1 2 3, T3 0 0 1, T3 (-5) 7 2]
theorem l_three4 (n : Nat) {u : U} (hu : Pot u) (s1 s3 s4 s5 s6 s7 s8 s9 : Slot) : ∃ a b c u', evalE (ctxN G (n + 3)) (.bi .tuple (.cons (.comp (.ite (.cmp .eq (.ucall "_law_pull" (.cons (.lit (.int 3)) .nil)) (.lit (.int 0))) (.ucall "_law_odd" .nil) (.var 6)) (.one 6) (.seq (.var 2)) .no [6]) .nil)) [.no, s1, .own good4, s3, s4, s5, s6, s7, s8, s9] u = some (.tuple [a, b, c], u') ∧ Odd a ∧ Odd b ∧ Odd c ∧ Pot u' := by
  have ok : ∀ {v m : D}, m ∈ good4 → (v ∈ oddA ++ oddB ++ oddC ∨ v = m) → Odd v := fun {v m} hm h => by
    refine odds_ok v ?_
    rcases h with h | rfl
    · exact List.mem_append_left _ h
    · refine List.mem_append_right _ ?_
      simp only [good4, List.mem_cons, List.not_mem_nil, or_false] at hm ⊢
      rcases hm with h | h | h <;> simp [h]
  obtain ⟨a, u1, e1, h1, p1⟩ := l_pick4 K n hu (env := [.no, s1, .own good4, s3, s4, s5, .imm (T3 1 2 3), s7, s8, s9]) (e := .var 6) (m := T3 1 2 3) (fun _ => rfl)
  obtain ⟨b, u2, e2, h2, p2⟩ := l_pick4 K n p1 (env := [.no, s1, .own good4, s3, s4, s5, .imm (T3 0 0 1), s7, s8, s9]) (e := .var 6) (m := T3 0 0 1) (fun _ => rfl)
  obtain ⟨c, u3, e3, h3, p3⟩ := l_pick4 K n p2 (env := [.no, s1, .own good4, s3, s4, s5, .imm (T3 (-5) 7 2), s7, s8, s9]) (e := .var 6) (m := T3 (-5) 7 2) (fun _ => rfl)
  refine ⟨a, b, c, u3, ?_, ok (by simp [good4]) h1, ok (by simp [good4]) h2, ok (by simp [good4]) h3, p3⟩
  have h := eval_comp (C := ctxN G (n + 3)) (elt := .ite (.cmp .eq (.ucall "_law_pull" (.cons (.lit (.int 3)) .nil)) (.lit (.int 0))) (.ucall "_law_odd" .nil) (.var 6)) (t := .one 6) (it := .seq (.var 2)) (cond := .no) (own := [6]) (env := [.no, s1, .own good4, s3, s4, s5, s6, s7, s8, s9]) (u := u) (u1 := u) (u2 := u3) (ds := good4) (rs := [a, b, c]) rfl (by decide) (by
    have st : ∀ {m v : D} {u u' : U}, evalE (ctxN G (n + 3)) (.ite (.cmp .eq (.ucall "_law_pull" (.cons (.lit (.int 3)) .nil)) (.lit (.int 0))) (.ucall "_law_odd" .nil) (.var 6)) [.no, s1, .own good4, s3, s4, s5, .imm m, s7, s8, s9] u = some (v, u') →
        ((bindT (.one 6) m (wipe [.no, s1, .own good4, s3, s4, s5, s6, s7, s8, s9] [6])).bind fun env' => (evalC (ctxN G (n + 3)) .no env' u).bind fun rc =>
        if rc.1 = true then (evalE (ctxN G (n + 3)) (.ite (.cmp .eq (.ucall "_law_pull" (.cons (.lit (.int 3)) .nil)) (.lit (.int 0))) (.ucall "_law_odd" .nil) (.var 6)) env' rc.2).bind fun re => some (some re.1, re.2) else some (none, rc.2)) = some (some v, u') := fun {m v u u'} h => by
      show (evalE (ctxN G (n + 3)) _ [.no, s1, .own good4, s3, s4, s5, .imm m, s7, s8, s9] u).bind _ = _
      rw [h]; rfl
    exact compL3 (st e1) (st e2) (st e3))
  rw [evalE, evalEs, h]
  rfl
theorem l_turn4 (n : Nat) {u : U} (hu : Pot u) (s1 s2 s3 s4 s5 s6 s7 s8 s9 : Slot) : ∃ (t2 t3 t4 t5 t6 t7 t8 t9 : Slot) (u' : U), execSs (ctxN G (n + 7)) G.ff (forBody p04_right.body) [.no, s1, s2, s3, s4, s5, s6, s7, s8, s9] u = some (.nx [.no, s1, t2, t3, t4, t5, t6, t7, t8, t9] u') ∧ Pot u' := by
  obtain ⟨a, b, c, u1, e1, ha, hb, hc, p1⟩ := l_three4 K (n + 4) hu s1 s3 s4 s5 s6 s7 s8 s9
  obtain ⟨t2, t6, f1⟩ : ∃ t2 t6, execS (ctxN G (n + 7)) G.ff (.unp [.nm 3, .nm 4, .nm 5] (.bi .tuple (.cons (.comp (.ite (.cmp .eq (.ucall "_law_pull" (.cons (.lit (.int 3)) .nil)) (.lit (.int 0))) (.ucall "_law_odd" .nil) (.var 6)) (.one 6) (.seq (.var 2)) .no [6]) .nil))) [.no, s1, .own good4, s3, s4, s5, s6, s7, s8, s9] u = some (.nx [.no, s1, t2, .imm a, .imm b, .imm c, t6, s7, s8, s9] u1) := by
    rw [execS, e1]
    by_cases q : noListAll [a, b, c] = true
    · refine ⟨.own good4, s6, ?_⟩
      simp only [Option.bind_some, q, if_true]
      rfl
    · refine ⟨frz (.own good4), frz s6, ?_⟩
      simp only [Option.bind_some, q, if_false]
      rfl
  obtain ⟨d, u2, e2, hd0, p2⟩ := l_pick4 K (n + 4) p1 (env := [.no, s1, t2, .imm a, .imm b, .imm c, t6, s7, s8, s9]) (e := .tup (.cons (.neg (.lit (.int 2))) (.cons (.lit (.int 3)) .nil))) (m := T2 (-2) 3) (fun _ => rfl)
  have hd : Odd d := odds_ok d (by
    rcases hd0 with h | rfl
    · exact List.mem_append_left _ h
    · exact List.mem_append_right _ (by simp))
  have due := fun (l : List (Bool × D)) (hl : l.length ≤ 1000) (h : ∀ r ∈ l, Odd r.2) => l_due K.toKnOv K.due (n + 2) l hl h
  have ctx := fun (ds : List D) => ctx_fn K.due rfl (n + 7) ds
  have due2 : ∀ (l : List (Bool × D)), l.length ≤ 1000 → (∀ r ∈ l, Odd r.2) → (ctxN G (n + 7)).fn "_law_due" [.list (l.map rowD)] = some (dueD l) := fun l hl h => by
    rw [ctx, due l hl h]; rfl
  have oab : ∀ r ∈ [(true, a), (true, b)], Odd r.2 := by simp [ha, hb]
  have oa : ∀ r ∈ [(true, a)], Odd r.2 := by simp [ha]
  have oad : ∀ r ∈ [(true, a), (false, d)], Odd r.2 := by simp [ha, hd]
  have oabd : ∀ r ∈ [(true, a), (true, b), (false, d)], Odd r.2 := by simp [ha, hb, hd]
  have oabc : ∀ r ∈ [(true, a), (true, b), (true, c)], Odd r.2 := by simp [ha, hb, hc]
  have k_plus : (ctxN G (n + 7)).fn "told:plus" [a, b] = some (dueD [(true, a), (true, b)]) := by rw [ctx_fn K.t_plus rfl, t_plus4 K.toKn04p n ha hb]; rfl
  have k_minus : (ctxN G (n + 7)).fn "told:minus" [a, b] = some (dueD [(true, a), (true, b)]) := by rw [ctx_fn K.t_minus rfl, t_minus4 K.toKn04p n ha hb]; rfl
  have k_inner : (ctxN G (n + 7)).fn "told:inner" [a, b] = some (dueD [(true, a), (true, b)]) := by rw [ctx_fn K.t_inner rfl, t_inner4 K.toKn04p n ha hb]; rfl
  have k_cross : (ctxN G (n + 7)).fn "told:cross" [a, b] = some (dueD [(true, a), (true, b)]) := by rw [ctx_fn K.t_cross rfl, t_cross4 K.toKn04p n ha hb]; rfl
  have k_quarter : (ctxN G (n + 7)).fn "told:quarter" [a] = some (dueD [(true, a)]) := by rw [ctx_fn K.t_quarter rfl, t_quarter4 K.toKn04p n ha]; rfl
  have k_times : (ctxN G (n + 7)).fn "told:times" [a, d] = some (dueD [(true, a), (false, d)]) := by rw [ctx_fn K.t_times rfl, t_times4 K.toKn04p n ha hd]; rfl
  have k_between : (ctxN G (n + 7)).fn "told:between" [a, b, d] = some (dueD [(true, a), (true, b), (false, d)]) := by rw [ctx_fn K.t_between rfl, t_between4 K.toKn04p n ha hb hd]; rfl
  have k_sense : (ctxN G (n + 7)).fn "told:sense" [a, b, c] = some (dueD [(true, a), (true, b), (true, c)]) := by rw [ctx_fn K.t_sense rfl, t_sense4 K.toKn04p n ha hb hc]; rfl
  have ffo : G.ff "_law_odd" = false := ff_no K.odd rfl
  have ffd : G.ff "_law_due" = false := ff_no K.due rfl
  generalize hE2 : dueD [(true, a), (true, b)] = Y at *
  refine ⟨t2, .imm a, .imm b, .imm c, t6, .imm d, .imm Y, .own [Y, Y, Y, Y], u2, ?_, p2⟩
  refine run_cons (env1 := [.no, s1, .own good4, s3, s4, s5, s6, s7, s8, s9]) (u1 := u) rfl ?_
  refine run_cons f1 ?_
  refine run_cons (env1 := [.no, s1, t2, .imm a, .imm b, .imm c, t6, .imm d, s8, s9]) (u1 := u2) (run_setX e2 (by simp [ffo]) rfl) ?_
  refine run_cons (env1 := [.no, s1, t2, .imm a, .imm b, .imm c, t6, .imm d, .imm Y, s9]) (u1 := u2) (run_setX (xe_cl (ds := [.list ([(true, a), (true, b)].map rowD)]) (u1 := u2) rfl rfl (hE2 ▸ due2 _ (by simp) oab)) (by simp [ffd]) rfl) ?_
  have q1 := xe_cl (C := ctxN G (n + 7)) (env := [.no, s1, t2, .imm a, .imm b, .imm c, t6, .imm d, .imm Y, s9]) (u := u2) (u1 := u2) (es := .cons (.var 3) (.cons (.var 4) .nil)) (perm := [0, 1]) (ds := [a, b]) rfl rfl k_plus
  refine run_cons (env1 := [.no, s1, t2, .imm a, .imm b, .imm c, t6, .imm d, .imm Y, .own [Y]]) (u1 := u2) (run_setY (by rw [evalE, evalEs, q1]; rfl) rfl rfl) ?_
  refine run_cons (env1 := [.no, s1, t2, .imm a, .imm b, .imm c, t6, .imm d, .imm Y, .own [Y, Y]]) (u1 := u2) (run_appX (ds := [Y]) (xe_cl (ds := [a, b]) (u1 := u2) rfl rfl k_minus) rfl rfl (by simp)) ?_
  refine run_cons (env1 := [.no, s1, t2, .imm a, .imm b, .imm c, t6, .imm d, .imm Y, .own [Y, Y, Y]]) (u1 := u2) (run_appX (ds := [Y, Y]) (xe_cl (ds := [a, b]) (u1 := u2) rfl rfl k_inner) rfl rfl (by simp)) ?_
  refine run_cons (env1 := [.no, s1, t2, .imm a, .imm b, .imm c, t6, .imm d, .imm Y, .own [Y, Y, Y, Y]]) (u1 := u2) (run_appX (ds := [Y, Y, Y]) (xe_cl (ds := [a, b]) (u1 := u2) rfl rfl k_cross) rfl rfl (by simp)) ?_
  have r4 : evalE (ctxN G (n + 7)) (.rep (.cons (.var 8) .nil) (.lit (.int 4))) [.no, s1, t2, .imm a, .imm b, .imm c, t6, .imm d, .imm Y, .own [Y, Y, Y, Y]] u2 = some (.list [Y, Y, Y, Y], u2) := rfl
  have q2 := xe_nea (C := ctxN G (n + 7)) (env := [.no, s1, t2, .imm a, .imm b, .imm c, t6, .imm d, .imm Y, .own [Y, Y, Y, Y]]) (u := u2) (a := .var 9) (x := .list [Y, Y, Y, Y]) rfl r4 (hE2 ▸ eqD_due4 _ oab)
  refine run_cons (run_ifX (u1 := u2) (xe_ora q2 (xe_nea (xe_cl (ds := [a]) (u1 := u2) rfl rfl k_quarter) (xe_cl (ds := [.list ([(true, a)].map rowD)]) (u1 := u2) rfl rfl (due2 _ (by simp) oa)) (eqD_due _ oa)))) ?_
  refine run_cons (run_ifX (u1 := u2) (xe_nea (xe_cl (ds := [a, d]) (u1 := u2) rfl rfl k_times) (xe_cl (ds := [.list ([(true, a), (false, d)].map rowD)]) (u1 := u2) rfl rfl (due2 _ (by simp) oad)) (eqD_due _ oad))) ?_
  refine run_cons (run_ifX (u1 := u2) (xe_nea (xe_cl (ds := [a, b, d]) (u1 := u2) rfl rfl k_between) (xe_cl (ds := [.list ([(true, a), (true, b), (false, d)].map rowD)]) (u1 := u2) rfl rfl (due2 _ (by simp) oabd)) (eqD_due _ oabd))) ?_
  exact run_cons (run_ifX (u1 := u2) (xe_nea (xe_cl (ds := [a, b, c]) (u1 := u2) rfl rfl k_sense) (xe_cl (ds := [.list ([(true, a), (true, b), (true, c)].map rowD)]) (u1 := u2) rfl rfl (due2 _ (by simp) oabc)) (eqD_due _ oabc))) rfl
theorem l_right4 (n : Nat) {u : U} (hu : Pot u) : ∃ u', callU G (n + 8) "_law_right" [] u = some (.bool true, u') := by
  obtain ⟨env', u', hf, ⟨s1, s2, s3, s4, s5, s6, s7, s8, s9, rfl⟩, pu⟩ := forL_inv (step := fun d env u => (bindT (.one 1) d env).bind fun env' => execSs (ctxN G (n + 7)) G.ff (forBody p04_right.body) env' u)
    (I := fun env u => (∃ s1 s2 s3 s4 s5 s6 s7 s8 s9, env = [.no, s1, s2, s3, s4, s5, s6, s7, s8, s9]) ∧ Pot u) (ds := rangeL 0 ((6 : Nat) : Int)) (env := [.no, .no, .no, .no, .no, .no, .no, .no, .no, .no]) (u := u)
    (fun d hd env u ⟨⟨s1, s2, s3, s4, s5, s6, s7, s8, s9, e⟩, pu⟩ => by
      subst e
      obtain ⟨t2, t3, t4, t5, t6, t7, t8, t9, u', e, p⟩ := l_turn4 K n pu (.imm d) s2 s3 s4 s5 s6 s7 s8 s9
      refine ⟨[.no, .imm d, t2, t3, t4, t5, t6, t7, t8, t9], u', ?_, ⟨.imm d, t2, t3, t4, t5, t6, t7, t8, t9, rfl⟩, p⟩
      have b1 : bindT (.one 1) d [.no, s1, s2, s3, s4, s5, s6, s7, s8, s9] = some [.no, .imm d, s2, s3, s4, s5, s6, s7, s8, s9] := rfl
      rw [b1, Option.bind_some]
      exact e)
    ⟨⟨.no, .no, .no, .no, .no, .no, .no, .no, .no, rfl⟩, hu⟩
  refine ⟨u', ?_⟩
  rw [callU_eq K.right]
  refine runF_of rfl (run_cons (run_for (ds := rangeL 0 ((6 : Nat) : Int)) (u1 := u) (eval_rng1 (by simp) (by decide)) (by rw [rangeL_leni]; decide) hf) (run_last ?_))
  simp
end
theorem l_main0 {G : Prog} (K : KnU0 G) {pr : PFun} (hlaw : G.T "law" = some p04_law) (hright : G.T "_law_right" = some pr) (hu : pr.urn = true) (n : Nat) (hr : ∀ u, Pot u → ∃ u', callU G (n + 1) "_law_right" [] u = some (.bool true, u')) (ns : List Int) (hn : ns.length ≤ 63) : callU G (n + 2) "law" [.list (ns.map .int)] [] = some (.bool true, []) := by
  obtain ⟨k, e1, k1, k2⟩ := c_laps0 K n (ns.map PyData.int)
  obtain ⟨env', u', hf, d3, rfl, rfl⟩ := forL_inv (step := fun d env u => (bindT (.one 1) d env).bind fun env' => execSs (ctxN G (n + 1)) G.ff (forBody p04_law.body) env' u)
    (I := fun env u => ∃ d3, env = [.imm (.list (ns.map .int)), d3] ∧ u = []) (ds := rangeL 0 k) (env := [.imm (.list (ns.map .int)), .no]) (u := [])
    (fun d hd env u ⟨d3, e1, e2⟩ => by
      subst e1 e2
      unfold rangeL at hd
      obtain ⟨i, hi, rfl⟩ := List.mem_map.mp hd
      have hi' := List.mem_range.mp hi
      obtain ⟨z0, z1, z2, eu, s1, s2⟩ := c_urn0 K n ns (0 + (i : Int)) (by omega) (by omega) hn
      obtain ⟨u2, er⟩ := hr [z0, z1, z2] ⟨_, _, _, rfl, s1, s2⟩
      refine ⟨[.imm (.list (ns.map .int)), .imm (.int (0 + (i : Int)))], [], ?_, .imm (.int (0 + (i : Int))), rfl, rfl⟩
      simp only [Int.zero_add] at eu ⊢
      simp [forBody, p04_law, ctx_fn K.urn rfl, ctx_ufn hright hu, eu, er])
    ⟨_, rfl, rfl⟩
  rw [callU_eq hlaw]
  refine runF_of rfl (run_cons (run_for (ds := rangeL 0 k) (u1 := []) ?_ ?_ hf) (run_last ?_))
  · simp [mkEnv, p04_law, ctx_fn K.laps rfl, e1, intOk]
    omega
  · simp [rangeL]; omega
  · simp
theorem l_law4 {G : Prog} (K : Kn04 G) (n : Nat) (ns : List Int) (hn : ns.length ≤ 63) : ∃ u, callU G (n + 9) "law" [.list (ns.map .int)] [] = some (.bool true, u) :=
  ⟨[], l_main0 K.toKnU0 K.law K.right rfl (n + 7) (fun u hu => l_right4 K n hu) ns hn⟩
end Pl

namespace Law
open PySem Pl
def e_is_whole : Pl.Entry := { name := "is_whole", qual := "is_whole", st := top 6, N := ["value"], ps := ["value"], fn := Pl.p_is_whole, kws := [], rp := false }
def e_are_wholes : Pl.Entry := { name := "are_wholes", qual := "are_wholes", st := top 7, N := ["value", "many", "number"], ps := ["value", "many"], fn := Pl.p_are_wholes, kws := [], rp := false }
def e_divisor_of : Pl.Entry := { name := "divisor_of", qual := "divisor_of", st := top 8, N := ["numbers", "found", "number"], ps := ["numbers"], fn := Pl.p_divisor_of, kws := [], rp := false }
def e_is_reduced : Pl.Entry := { name := "is_reduced", qual := "is_reduced", st := top 9, N := ["numbers"], ps := ["numbers"], fn := Pl.p_is_reduced, kws := [], rp := false }
def e_sign_of : Pl.Entry := { name := "sign_of", qual := "sign_of", st := top 10, N := ["number"], ps := ["number"], fn := Pl.p_sign_of, kws := [], rp := false }
def e_is_ratio : Pl.Entry := { name := "is_ratio", qual := "is_ratio", st := top 12, N := ["value"], ps := ["value"], fn := Pl.p_is_ratio, kws := [], rp := false }
def e_ratio : Pl.Entry := { name := "ratio", qual := "ratio", st := top 13, N := ["number", "under", "part"], ps := ["number", "under"], fn := Pl.p_ratio, kws := [], rp := false }
def e_is_vector : Pl.Entry := { name := "is_vector", qual := "is_vector", st := top 15, N := ["value"], ps := ["value"], fn := Pl.p_is_vector, kws := [], rp := false }
def e_vector : Pl.Entry := { name := "vector", qual := "vector", st := top 16, N := ["x", "y", "w", "part"], ps := ["x", "y", "w"], fn := Pl.p_vector, kws := [], rp := false }
def e_vector_sum : Pl.Entry := { name := "vector_sum", qual := "vector_sum", st := top 17, N := ["one", "two"], ps := ["one", "two"], fn := Pl.p_vector_sum, kws := [], rp := false }
def e_vector_less : Pl.Entry := { name := "vector_less", qual := "vector_less", st := top 18, N := ["one", "two"], ps := ["one", "two"], fn := Pl.p_vector_less, kws := [], rp := false }
def e_vector_times : Pl.Entry := { name := "vector_times", qual := "vector_times", st := top 19, N := ["one", "number"], ps := ["one", "number"], fn := Pl.p_vector_times, kws := [], rp := false }
def e_vector_between : Pl.Entry := { name := "vector_between", qual := "vector_between", st := top 20, N := ["one", "two", "number"], ps := ["one", "two", "number"], fn := Pl.p_vector_between, kws := [], rp := false }
def e_inner_of : Pl.Entry := { name := "inner_of", qual := "inner_of", st := top 21, N := ["one", "two"], ps := ["one", "two"], fn := Pl.p_inner_of, kws := [], rp := false }
def e_cross_of : Pl.Entry := { name := "cross_of", qual := "cross_of", st := top 22, N := ["one", "two"], ps := ["one", "two"], fn := Pl.p_cross_of, kws := [], rp := false }
def e_quartered : Pl.Entry := { name := "quartered", qual := "quartered", st := top 23, N := ["one"], ps := ["one"], fn := Pl.p_quartered, kws := [], rp := false }
def e_turn_of : Pl.Entry := { name := "turn_of", qual := "turn_of", st := top 24, N := ["one", "two", "three", "a", "b", "c", "u", "v", "w", "x", "y", "z"], ps := ["one", "two", "three"], fn := Pl.p_turn_of, kws := [], rp := false }
def e_check_point : Pl.Entry := { name := "check_point", qual := "check_point", st := top 26, N := ["value"], ps := ["value"], fn := Pl.p_check_point, kws := [], rp := false }
def e_check_fraction : Pl.Entry := { name := "check_fraction", qual := "check_fraction", st := top 27, N := ["value"], ps := ["value"], fn := Pl.p_check_fraction, kws := [], rp := false }
def e_plus : Pl.Entry := { name := "plus", qual := "plus", st := top 29, N := ["point", "other"], ps := ["point", "other"], fn := Pl.p_plus, kws := [], rp := false }
def e_minus : Pl.Entry := { name := "minus", qual := "minus", st := top 30, N := ["point", "other"], ps := ["point", "other"], fn := Pl.p_minus, kws := [], rp := false }
def e_times : Pl.Entry := { name := "times", qual := "times", st := top 31, N := ["point", "fraction"], ps := ["point", "fraction"], fn := Pl.p_times, kws := [], rp := false }
def e_between : Pl.Entry := { name := "between", qual := "between", st := top 32, N := ["point", "other", "fraction"], ps := ["point", "other", "fraction"], fn := Pl.p_between, kws := [], rp := false }
def e_inner : Pl.Entry := { name := "inner", qual := "inner", st := top 33, N := ["point", "other"], ps := ["point", "other"], fn := Pl.p_inner, kws := [], rp := false }
def e_cross : Pl.Entry := { name := "cross", qual := "cross", st := top 34, N := ["point", "other"], ps := ["point", "other"], fn := Pl.p_cross, kws := [], rp := false }
def e_quarter : Pl.Entry := { name := "quarter", qual := "quarter", st := top 35, N := ["point"], ps := ["point"], fn := Pl.p_quarter, kws := [], rp := false }
def e_sense : Pl.Entry := { name := "sense", qual := "sense", st := top 36, N := ["point", "other", "third"], ps := ["point", "other", "third"], fn := Pl.p_sense, kws := [], rp := false }
def e__law_urn : Pl.Entry := { name := "_law_urn", qual := "_law_urn", st := top 38, N := ["_law_script", "_law_lap", "_law_seed", "_law_cell", "_law_own"], ps := ["_law_script", "_law_lap"], fn := Pl.p__law_urn, kws := [], rp := true }
def e__law_pull : Pl.Entry := { name := "_law_pull", qual := "_law_pull", st := top 39, N := ["_law_urn_here", "_law_many", "_law_digit"], ps := ["_law_urn_here", "_law_many"], fn := Pl.p__law_pull, kws := [], rp := true }
def e__law_any : Pl.Entry := { name := "_law_any", qual := "_law_any", st := top 40, N := ["_law_urn_here", "_law_some"], ps := ["_law_urn_here", "_law_some"], fn := Pl.p__law_any, kws := [], rp := true }
def e__law_laps : Pl.Entry := { name := "_law_laps", qual := "_law_laps", st := top 41, N := ["_law_script"], ps := ["_law_script"], fn := Pl.p__law_laps, kws := [], rp := true }
def e__law_gcd : Pl.Entry := { name := "_law_gcd", qual := "_law_gcd", st := top 42, N := ["_law_one", "_law_two", "_law_step"], ps := ["_law_one", "_law_two"], fn := Pl.p__law_gcd__a, kws := [], rp := true }
def e__law_thin : Pl.Entry := { name := "_law_thin", qual := "_law_thin", st := top 43, N := ["_law_row", "_law_common", "_law_number"], ps := ["_law_row"], fn := Pl.p__law_thin, kws := [], rp := true }
def e__law_is_whole : Pl.Entry := { name := "_law_is_whole", qual := "_law_is_whole", st := top 44, N := ["_law_number"], ps := ["_law_number"], fn := Pl.p__law_is_whole, kws := [], rp := true }
def e__law_are_whole : Pl.Entry := { name := "_law_are_whole", qual := "_law_are_whole", st := top 45, N := ["_law_row", "_law_many", "_law_number"], ps := ["_law_row", "_law_many"], fn := Pl.p__law_are_whole, kws := [], rp := true }
def e__law_is_frac : Pl.Entry := { name := "_law_is_frac", qual := "_law_is_frac", st := top 46, N := ["_law_thing"], ps := ["_law_thing"], fn := Pl.p__law_is_frac, kws := [], rp := true }
def e__law_is_spot : Pl.Entry := { name := "_law_is_spot", qual := "_law_is_spot", st := top 47, N := ["_law_thing"], ps := ["_law_thing"], fn := Pl.p__law_is_spot, kws := [], rp := true }
def p__law_odd : PFun := { np := 1, ns := 2, urn := true, fresh := false, body := (.cons (.set 1 (.lst (.cons (.lit .none) (.cons (.lit (.bool true)) (.cons (.lit (.int 0)) (.cons (.lit (.int 3)) (.cons (.lit (.str (PySem.Str.ofString ""))) (.cons (.lit (.str (PySem.Str.ofString "point"))) (.cons (.tup .nil) (.cons (.tup (.cons (.lit (.int 1)) .nil)) (.cons (.tup (.cons (.lit (.int 1)) (.cons (.lit (.int 2)) .nil))) (.cons (.tup (.cons (.lit (.int 0)) (.cons (.lit (.int 1)) .nil))) (.cons (.tup (.cons (.lit (.int 2)) (.cons (.lit (.int 4)) .nil))) (.cons (.tup (.cons (.lit (.int 1)) (.cons (.lit (.int 0)) .nil))) (.cons (.tup (.cons (.lit (.int 1)) (.cons (.neg (.lit (.int 2))) .nil))) (.cons (.tup (.cons (.neg (.lit (.int 3))) (.cons (.lit (.int 2)) .nil))) (.cons (.tup (.cons (.lit (.int 0)) (.cons (.lit (.int 2)) .nil))) (.cons (.lst (.cons (.lit (.int 1)) (.cons (.lit (.int 2)) .nil))) (.cons .dict0 (.cons (.tup (.cons (.lit (.int 1)) (.cons (.lit (.int 2)) (.cons (.lit (.int 3)) .nil)))) .nil)))))))))))))))))))) (.cons (.set 1 (.bin .add (.var 1) (.lst (.cons (.tup (.cons (.lit (.int 0)) (.cons (.lit (.int 0)) (.cons (.lit (.int 1)) .nil)))) (.cons (.tup (.cons (.lit (.int 0)) (.cons (.lit (.int 0)) (.cons (.lit (.int 2)) .nil)))) (.cons (.tup (.cons (.lit (.int 2)) (.cons (.lit (.int 4)) (.cons (.lit (.int 6)) .nil)))) (.cons (.tup (.cons (.lit (.int 1)) (.cons (.lit (.int 2)) (.cons (.lit (.int 0)) .nil)))) (.cons (.tup (.cons (.lit (.int 1)) (.cons (.lit (.int 2)) (.cons (.neg (.lit (.int 3))) .nil)))) (.cons (.lst (.cons (.lit (.int 1)) (.cons (.lit (.int 2)) (.cons (.lit (.int 3)) .nil)))) (.cons (.tup (.cons (.lit (.int 1)) (.cons (.lit (.int 2)) (.cons (.lit (.bool true)) .nil)))) (.cons (.tup (.cons (.lit (.int 1)) (.cons (.lit .none) (.cons (.lit (.int 2)) .nil)))) (.cons (.tup (.cons (.lit (.int 1)) (.cons (.lit (.int 2)) (.cons (.lit (.int 3)) (.cons (.lit (.int 4)) .nil))))) (.cons (.tup (.cons (.neg (.lit (.int 5))) (.cons (.lit (.int 7)) (.cons (.lit (.int 3)) .nil)))) .nil))))))))))))) (.cons (.ret (.ucall "_law_any" (.cons (.bin .add (.var 1) (.lst (.cons (.tup (.cons (.tup (.cons (.lit (.int 1)) (.cons (.lit (.int 2)) (.cons (.lit (.int 3)) .nil)))) .nil)) (.cons (.tup (.cons (.lit (.bool true)) (.cons (.lit (.int 1)) .nil))) (.cons (.tup (.cons (.lit (.str (PySem.Str.ofString "1"))) (.cons (.lit (.int 2)) (.cons (.lit (.int 3)) .nil)))) (.cons (.tup (.cons (.tup (.cons (.lit (.int 0)) (.cons (.lit (.int 0)) (.cons (.lit (.int 1)) .nil)))) (.cons (.tup (.cons (.lit (.int 1)) (.cons (.lit (.int 0)) (.cons (.lit (.int 1)) .nil)))) .nil))) .nil)))))) .nil))) .nil))) }
def e__law_odd : Pl.Entry := { name := "_law_odd", qual := "_law_odd", st := top 48, N := ["_law_urn_here", "_law_some"], ps := ["_law_urn_here"], fn := p__law_odd, kws := [], rp := true }
def p__law_told : PFun := { np := 1, ns := 2, urn := false, fresh := false, body := (.cons .raise (.cons .raise .nil)) }
def e__law_told : Pl.Entry := { name := "_law_told", qual := "_law_told", st := top 49, N := ["_law_call", "raised"], ps := ["_law_call"], fn := p__law_told, kws := [], rp := true }
def p__law_due : PFun := { np := 1, ns := 3, urn := false, fresh := false, body := (.cons (.for_ (.many [1, 2]) (.seq (.var 0)) (.cons (.ite (.not (.ite (.cmp .eq (.var 1) (.lit (.str (PySem.Str.ofString "point")))) (.call "_law_is_spot" (.cons (.var 2) .nil) [0]) (.call "_law_is_frac" (.cons (.var 2) .nil) [0]))) (.cons (.ret (.lst (.cons (.var 1) (.cons (.bi .repr (.cons (.var 2) .nil)) .nil)))) .nil) .nil) .nil)) (.cons (.ret (.lst (.cons (.lit (.str (PySem.Str.ofString "let"))) .nil))) .nil)) }
def e__law_due : Pl.Entry := { name := "_law_due", qual := "_law_due", st := top 50, N := ["_law_row", "_law_word", "_law_thing"], ps := ["_law_row"], fn := p__law_due, kws := [], rp := true }
def p__law_right : PFun := { np := 1, ns := 10, urn := true, fresh := false, body := (.cons (.for_ (.one 1) (.range1 (.lit (.int 6))) (.cons (.set 2 (.lst (.cons (.tup (.cons (.lit (.int 1)) (.cons (.lit (.int 2)) (.cons (.lit (.int 3)) .nil)))) (.cons (.tup (.cons (.lit (.int 0)) (.cons (.lit (.int 0)) (.cons (.lit (.int 1)) .nil)))) (.cons (.tup (.cons (.neg (.lit (.int 5))) (.cons (.lit (.int 7)) (.cons (.lit (.int 2)) .nil)))) .nil))))) (.cons (.unp [.nm 3, .nm 4, .nm 5] (.bi .tuple (.cons (.comp (.ite (.cmp .eq (.ucall "_law_pull" (.cons (.lit (.int 3)) .nil)) (.lit (.int 0))) (.ucall "_law_odd" .nil) (.var 6)) (.one 6) (.seq (.var 2)) .no [6]) .nil))) (.cons (.set 7 (.ite (.cmp .eq (.ucall "_law_pull" (.cons (.lit (.int 3)) .nil)) (.lit (.int 0))) (.ucall "_law_odd" .nil) (.tup (.cons (.neg (.lit (.int 2))) (.cons (.lit (.int 3)) .nil))))) (.cons (.set 8 (.call "_law_due" (.cons (.lst (.cons (.tup (.cons (.lit (.str (PySem.Str.ofString "point"))) (.cons (.var 3) .nil))) (.cons (.tup (.cons (.lit (.str (PySem.Str.ofString "point"))) (.cons (.var 4) .nil))) .nil))) .nil) [0])) (.cons (.set 9 (.lst (.cons (.call "told:plus" (.cons (.var 3) (.cons (.var 4) .nil)) [0, 1]) .nil))) (.cons (.app 9 (.call "told:minus" (.cons (.var 3) (.cons (.var 4) .nil)) [0, 1])) (.cons (.app 9 (.call "told:inner" (.cons (.var 3) (.cons (.var 4) .nil)) [0, 1])) (.cons (.app 9 (.call "told:cross" (.cons (.var 3) (.cons (.var 4) .nil)) [0, 1])) (.cons (.ite (.or (.cmp .ne (.var 9) (.rep (.cons (.var 8) .nil) (.lit (.int 4)))) (.cmp .ne (.call "told:quarter" (.cons (.var 3) .nil) [0]) (.call "_law_due" (.cons (.lst (.cons (.tup (.cons (.lit (.str (PySem.Str.ofString "point"))) (.cons (.var 3) .nil))) .nil)) .nil) [0]))) (.cons (.ret (.lit (.bool false))) .nil) .nil) (.cons (.ite (.cmp .ne (.call "told:times" (.cons (.var 3) (.cons (.var 7) .nil)) [0, 1]) (.call "_law_due" (.cons (.lst (.cons (.tup (.cons (.lit (.str (PySem.Str.ofString "point"))) (.cons (.var 3) .nil))) (.cons (.tup (.cons (.lit (.str (PySem.Str.ofString "fraction"))) (.cons (.var 7) .nil))) .nil))) .nil) [0])) (.cons (.ret (.lit (.bool false))) .nil) .nil) (.cons (.ite (.cmp .ne (.call "told:between" (.cons (.var 3) (.cons (.var 4) (.cons (.var 7) .nil))) [0, 1, 2]) (.call "_law_due" (.cons (.lst (.cons (.tup (.cons (.lit (.str (PySem.Str.ofString "point"))) (.cons (.var 3) .nil))) (.cons (.tup (.cons (.lit (.str (PySem.Str.ofString "point"))) (.cons (.var 4) .nil))) (.cons (.tup (.cons (.lit (.str (PySem.Str.ofString "fraction"))) (.cons (.var 7) .nil))) .nil)))) .nil) [0])) (.cons (.ret (.lit (.bool false))) .nil) .nil) (.cons (.ite (.cmp .ne (.call "told:sense" (.cons (.var 3) (.cons (.var 4) (.cons (.var 5) .nil))) [0, 1, 2]) (.call "_law_due" (.cons (.lst (.cons (.tup (.cons (.lit (.str (PySem.Str.ofString "point"))) (.cons (.var 3) .nil))) (.cons (.tup (.cons (.lit (.str (PySem.Str.ofString "point"))) (.cons (.var 4) .nil))) (.cons (.tup (.cons (.lit (.str (PySem.Str.ofString "point"))) (.cons (.var 5) .nil))) .nil)))) .nil) [0])) (.cons (.ret (.lit (.bool false))) .nil) .nil) .nil))))))))))))) (.cons (.ret (.lit (.bool true))) .nil)) }
def e__law_right : Pl.Entry := { name := "_law_right", qual := "_law_right", st := top 51, N := ["_law_urn_here", "_law_step", "_law_good", "_law_a", "_law_b", "_law_c", "_law_mate", "_law_part", "_law_pair", "_law_told_here"], ps := ["_law_urn_here"], fn := p__law_right, kws := [], rp := true }
def p_law : PFun := { np := 1, ns := 2, urn := false, fresh := false, body := (.cons (.for_ (.one 1) (.range1 (.call "_law_laps" (.cons (.var 0) .nil) [0])) (.cons (.ite (.not (.ncall "_law_right" (.call "_law_urn" (.cons (.var 0) (.cons (.var 1) .nil)) [0, 1]) .nil)) (.cons (.ret (.lit (.bool false))) .nil) .nil) .nil)) (.cons (.ret (.lit (.bool true))) .nil)) }
def e_law : Pl.Entry := { name := "law", qual := "law", st := top 52, N := ["_law_script", "_law_lap"], ps := ["_law_script"], fn := p_law, kws := [], rp := true }
def tab : List (String × Pl.Entry) := [("is_whole", e_is_whole), ("are_wholes", e_are_wholes), ("divisor_of", e_divisor_of), ("is_reduced", e_is_reduced), ("sign_of", e_sign_of), ("is_ratio", e_is_ratio), ("ratio", e_ratio), ("is_vector", e_is_vector), ("vector", e_vector), ("vector_sum", e_vector_sum), ("vector_less", e_vector_less), ("vector_times", e_vector_times), ("vector_between", e_vector_between), ("inner_of", e_inner_of), ("cross_of", e_cross_of), ("quartered", e_quartered), ("turn_of", e_turn_of), ("check_point", e_check_point), ("check_fraction", e_check_fraction), ("plus", e_plus), ("minus", e_minus), ("times", e_times), ("between", e_between), ("inner", e_inner), ("cross", e_cross), ("quarter", e_quarter), ("sense", e_sense), ("_law_urn", e__law_urn), ("_law_pull", e__law_pull), ("_law_any", e__law_any), ("_law_laps", e__law_laps), ("_law_gcd", e__law_gcd), ("_law_thin", e__law_thin), ("_law_is_whole", e__law_is_whole), ("_law_are_whole", e__law_are_whole), ("_law_is_frac", e__law_is_frac), ("_law_is_spot", e__law_is_spot), ("_law_odd", e__law_odd), ("_law_told", e__law_told), ("_law_due", e__law_due), ("_law_right", e__law_right), ("law", e_law)]
def q_sense : PFun := { np := 3, ns := 3, urn := false, fresh := false, body := (.cons (.ite (.cmp .isN (.call "check_point?" (.cons (.var 0) .nil) [0]) (.lit .none)) .nil (.cons (.ret (.call "check_point?" (.cons (.var 0) .nil) [0])) .nil)) (.cons (.ite (.cmp .isN (.call "check_point?" (.cons (.var 1) .nil) [0]) (.lit .none)) .nil (.cons (.ret (.call "check_point?" (.cons (.var 1) .nil) [0])) .nil)) (.cons (.ite (.cmp .isN (.call "check_point?" (.cons (.var 2) .nil) [0]) (.lit .none)) .nil (.cons (.ret (.call "check_point?" (.cons (.var 2) .nil) [0])) .nil)) (.cons (.ret (.lit .none)) .nil)))) }
def q_check_point : PFun := { np := 1, ns := 1, urn := false, fresh := false, body := (.cons (.ite (.not (.call "is_vector" (.cons (.var 0) .nil) [0])) (.cons (.ret (.tup (.cons (.lit (.str (PySem.Str.ofString "InvalidPoint"))) (.cons (.var 0) .nil)))) .nil) .nil) .nil) }
def q_between : PFun := { np := 3, ns := 3, urn := false, fresh := false, body := (.cons (.ite (.cmp .isN (.call "check_point?" (.cons (.var 0) .nil) [0]) (.lit .none)) .nil (.cons (.ret (.call "check_point?" (.cons (.var 0) .nil) [0])) .nil)) (.cons (.ite (.cmp .isN (.call "check_point?" (.cons (.var 1) .nil) [0]) (.lit .none)) .nil (.cons (.ret (.call "check_point?" (.cons (.var 1) .nil) [0])) .nil)) (.cons (.ite (.cmp .isN (.call "check_fraction?" (.cons (.var 2) .nil) [0]) (.lit .none)) .nil (.cons (.ret (.call "check_fraction?" (.cons (.var 2) .nil) [0])) .nil)) (.cons (.ret (.lit .none)) .nil)))) }
def q_check_fraction : PFun := { np := 1, ns := 1, urn := false, fresh := false, body := (.cons (.ite (.not (.call "is_ratio" (.cons (.var 0) .nil) [0])) (.cons (.ret (.tup (.cons (.lit (.str (PySem.Str.ofString "InvalidFraction"))) (.cons (.var 0) .nil)))) .nil) .nil) .nil) }
def q_times : PFun := { np := 2, ns := 2, urn := false, fresh := false, body := (.cons (.ite (.cmp .isN (.call "check_point?" (.cons (.var 0) .nil) [0]) (.lit .none)) .nil (.cons (.ret (.call "check_point?" (.cons (.var 0) .nil) [0])) .nil)) (.cons (.ite (.cmp .isN (.call "check_fraction?" (.cons (.var 1) .nil) [0]) (.lit .none)) .nil (.cons (.ret (.call "check_fraction?" (.cons (.var 1) .nil) [0])) .nil)) (.cons (.ret (.lit .none)) .nil))) }
def q_quarter : PFun := { np := 1, ns := 1, urn := false, fresh := false, body := (.cons (.ite (.cmp .isN (.call "check_point?" (.cons (.var 0) .nil) [0]) (.lit .none)) .nil (.cons (.ret (.call "check_point?" (.cons (.var 0) .nil) [0])) .nil)) (.cons (.ret (.lit .none)) .nil)) }
def q_cross : PFun := { np := 2, ns := 2, urn := false, fresh := false, body := (.cons (.ite (.cmp .isN (.call "check_point?" (.cons (.var 0) .nil) [0]) (.lit .none)) .nil (.cons (.ret (.call "check_point?" (.cons (.var 0) .nil) [0])) .nil)) (.cons (.ite (.cmp .isN (.call "check_point?" (.cons (.var 1) .nil) [0]) (.lit .none)) .nil (.cons (.ret (.call "check_point?" (.cons (.var 1) .nil) [0])) .nil)) (.cons (.ret (.lit .none)) .nil))) }
def q_inner : PFun := { np := 2, ns := 2, urn := false, fresh := false, body := (.cons (.ite (.cmp .isN (.call "check_point?" (.cons (.var 0) .nil) [0]) (.lit .none)) .nil (.cons (.ret (.call "check_point?" (.cons (.var 0) .nil) [0])) .nil)) (.cons (.ite (.cmp .isN (.call "check_point?" (.cons (.var 1) .nil) [0]) (.lit .none)) .nil (.cons (.ret (.call "check_point?" (.cons (.var 1) .nil) [0])) .nil)) (.cons (.ret (.lit .none)) .nil))) }
def q_minus : PFun := { np := 2, ns := 2, urn := false, fresh := false, body := (.cons (.ite (.cmp .isN (.call "check_point?" (.cons (.var 0) .nil) [0]) (.lit .none)) .nil (.cons (.ret (.call "check_point?" (.cons (.var 0) .nil) [0])) .nil)) (.cons (.ite (.cmp .isN (.call "check_point?" (.cons (.var 1) .nil) [0]) (.lit .none)) .nil (.cons (.ret (.call "check_point?" (.cons (.var 1) .nil) [0])) .nil)) (.cons (.ret (.lit .none)) .nil))) }
def q_plus : PFun := { np := 2, ns := 2, urn := false, fresh := false, body := (.cons (.ite (.cmp .isN (.call "check_point?" (.cons (.var 0) .nil) [0]) (.lit .none)) .nil (.cons (.ret (.call "check_point?" (.cons (.var 0) .nil) [0])) .nil)) (.cons (.ite (.cmp .isN (.call "check_point?" (.cons (.var 1) .nil) [0]) (.lit .none)) .nil (.cons (.ret (.call "check_point?" (.cons (.var 1) .nil) [0])) .nil)) (.cons (.ret (.lit .none)) .nil))) }
def xss : List (String × Pl.XEnt) := [("sense?", ⟨"sense", q_sense, false⟩), ("check_point?", ⟨"check_point", q_check_point, true⟩), ("between?", ⟨"between", q_between, false⟩), ("check_fraction?", ⟨"check_fraction", q_check_fraction, true⟩), ("times?", ⟨"times", q_times, false⟩), ("quarter?", ⟨"quarter", q_quarter, false⟩), ("cross?", ⟨"cross", q_cross, false⟩), ("inner?", ⟨"inner", q_inner, false⟩), ("minus?", ⟨"minus", q_minus, false⟩), ("plus?", ⟨"plus", q_plus, false⟩)]
def cl__law_told : List Pl.Clause := [⟨"InvalidPoint", "point", "given"⟩, ⟨"InvalidFraction", "fraction", "given"⟩]
def tds : List (String × Pl.TEnt) := [("told:plus", { td := "_law_told", f := "plus", fq := "plus?", np := 2, cl := cl__law_told, fin := "let" }), ("told:minus", { td := "_law_told", f := "minus", fq := "minus?", np := 2, cl := cl__law_told, fin := "let" }), ("told:inner", { td := "_law_told", f := "inner", fq := "inner?", np := 2, cl := cl__law_told, fin := "let" }), ("told:cross", { td := "_law_told", f := "cross", fq := "cross?", np := 2, cl := cl__law_told, fin := "let" }), ("told:quarter", { td := "_law_told", f := "quarter", fq := "quarter?", np := 1, cl := cl__law_told, fin := "let" }), ("told:times", { td := "_law_told", f := "times", fq := "times?", np := 2, cl := cl__law_told, fin := "let" }), ("told:between", { td := "_law_told", f := "between", fq := "between?", np := 3, cl := cl__law_told, fin := "let" }), ("told:sense", { td := "_law_told", f := "sense", fq := "sense?", np := 3, cl := cl__law_told, fin := "let" })]
abbrev pk : Pl.PackX := Pl.pkX tab gvs bls gcdb exs clss lms xss tds
theorem chk_is_whole : chkEntry pk "is_whole" e_is_whole = true := by decide +kernel
theorem chk_are_wholes : chkEntry pk "are_wholes" e_are_wholes = true := by decide +kernel
theorem chk_divisor_of : chkEntry pk "divisor_of" e_divisor_of = true := by decide +kernel
theorem chk_is_reduced : chkEntry pk "is_reduced" e_is_reduced = true := by decide +kernel
theorem chk_sign_of : chkEntry pk "sign_of" e_sign_of = true := by decide +kernel
theorem chk_is_ratio : chkEntry pk "is_ratio" e_is_ratio = true := by decide +kernel
theorem chk_ratio : chkEntry pk "ratio" e_ratio = true := by decide +kernel
theorem chk_is_vector : chkEntry pk "is_vector" e_is_vector = true := by decide +kernel
theorem chk_vector : chkEntry pk "vector" e_vector = true := by decide +kernel
theorem chk_vector_sum : chkEntry pk "vector_sum" e_vector_sum = true := by decide +kernel
theorem chk_vector_less : chkEntry pk "vector_less" e_vector_less = true := by decide +kernel
theorem chk_vector_times : chkEntry pk "vector_times" e_vector_times = true := by decide +kernel
theorem chk_vector_between : chkEntry pk "vector_between" e_vector_between = true := by decide +kernel
theorem chk_inner_of : chkEntry pk "inner_of" e_inner_of = true := by decide +kernel
theorem chk_cross_of : chkEntry pk "cross_of" e_cross_of = true := by decide +kernel
theorem chk_quartered : chkEntry pk "quartered" e_quartered = true := by decide +kernel
theorem chk_turn_of : chkEntry pk "turn_of" e_turn_of = true := by decide +kernel
theorem chk_check_point : chkEntry pk "check_point" e_check_point = true := by decide +kernel
theorem chk_check_fraction : chkEntry pk "check_fraction" e_check_fraction = true := by decide +kernel
theorem chk_plus : chkEntry pk "plus" e_plus = true := by decide +kernel
theorem chk_minus : chkEntry pk "minus" e_minus = true := by decide +kernel
theorem chk_times : chkEntry pk "times" e_times = true := by decide +kernel
theorem chk_between : chkEntry pk "between" e_between = true := by decide +kernel
theorem chk_inner : chkEntry pk "inner" e_inner = true := by decide +kernel
theorem chk_cross : chkEntry pk "cross" e_cross = true := by decide +kernel
theorem chk_quarter : chkEntry pk "quarter" e_quarter = true := by decide +kernel
theorem chk_sense : chkEntry pk "sense" e_sense = true := by decide +kernel
theorem chk__law_urn : chkEntry pk "_law_urn" e__law_urn = true := by decide +kernel
theorem chk__law_pull : chkEntry pk "_law_pull" e__law_pull = true := by decide +kernel
theorem chk__law_any : chkEntry pk "_law_any" e__law_any = true := by decide +kernel
theorem chk__law_laps : chkEntry pk "_law_laps" e__law_laps = true := by decide +kernel
theorem chk__law_gcd : chkEntry pk "_law_gcd" e__law_gcd = true := by decide +kernel
theorem chk__law_thin : chkEntry pk "_law_thin" e__law_thin = true := by decide +kernel
theorem chk__law_is_whole : chkEntry pk "_law_is_whole" e__law_is_whole = true := by decide +kernel
theorem chk__law_are_whole : chkEntry pk "_law_are_whole" e__law_are_whole = true := by decide +kernel
theorem chk__law_is_frac : chkEntry pk "_law_is_frac" e__law_is_frac = true := by decide +kernel
theorem chk__law_is_spot : chkEntry pk "_law_is_spot" e__law_is_spot = true := by decide +kernel
theorem chk__law_odd : chkEntry pk "_law_odd" e__law_odd = true := by decide +kernel
theorem chk__law_told : chkEntry pk "_law_told" e__law_told = true := by decide +kernel
theorem chk__law_due : chkEntry pk "_law_due" e__law_due = true := by decide +kernel
theorem chk__law_right : chkEntry pk "_law_right" e__law_right = true := by decide +kernel
theorem chk_law : chkEntry pk "law" e_law = true := by decide +kernel
theorem chx : ∀ q x, xss.lookup q = some x → chkXEnt pk q x = true := Pl.lookup_by (by decide +kernel)
theorem cht : ∀ f t, tds.lookup f = some t → chkTEnt pk f t = true := Pl.lookup_by (by decide +kernel)
theorem iok : ∀ x ∈ exs, Pl.InitOk x := by
  unfold exs
  simp only [List.forall_mem_cons, List.not_mem_nil, false_implies, implies_true, and_true]
  exact ⟨⟨⟨_, _, _, _, rfl⟩, by decide +kernel, ⟨by decide +kernel, by decide +kernel⟩, ⟨by decide +kernel, by decide +kernel⟩, fun _ _ _ _ _ _ us hl => match us, hl with | [_, _], _ => rfl⟩, ⟨⟨_, _, _, _, rfl⟩, by decide +kernel, ⟨by decide +kernel, by decide +kernel⟩, ⟨by decide +kernel, by decide +kernel⟩, fun _ _ _ _ _ _ us hl => match us, hl with | [_, _], _ => rfl⟩⟩
theorem tab_ok {Q : String → Pl.Entry → Prop} (h_is_whole : Q "is_whole" e_is_whole) (h_are_wholes : Q "are_wholes" e_are_wholes) (h_divisor_of : Q "divisor_of" e_divisor_of) (h_is_reduced : Q "is_reduced" e_is_reduced) (h_sign_of : Q "sign_of" e_sign_of) (h_is_ratio : Q "is_ratio" e_is_ratio) (h_ratio : Q "ratio" e_ratio) (h_is_vector : Q "is_vector" e_is_vector) (h_vector : Q "vector" e_vector) (h_vector_sum : Q "vector_sum" e_vector_sum) (h_vector_less : Q "vector_less" e_vector_less) (h_vector_times : Q "vector_times" e_vector_times) (h_vector_between : Q "vector_between" e_vector_between) (h_inner_of : Q "inner_of" e_inner_of) (h_cross_of : Q "cross_of" e_cross_of) (h_quartered : Q "quartered" e_quartered) (h_turn_of : Q "turn_of" e_turn_of) (h_check_point : Q "check_point" e_check_point) (h_check_fraction : Q "check_fraction" e_check_fraction) (h_plus : Q "plus" e_plus) (h_minus : Q "minus" e_minus) (h_times : Q "times" e_times) (h_between : Q "between" e_between) (h_inner : Q "inner" e_inner) (h_cross : Q "cross" e_cross) (h_quarter : Q "quarter" e_quarter) (h_sense : Q "sense" e_sense) (h__law_urn : Q "_law_urn" e__law_urn) (h__law_pull : Q "_law_pull" e__law_pull) (h__law_any : Q "_law_any" e__law_any) (h__law_laps : Q "_law_laps" e__law_laps) (h__law_gcd : Q "_law_gcd" e__law_gcd) (h__law_thin : Q "_law_thin" e__law_thin) (h__law_is_whole : Q "_law_is_whole" e__law_is_whole) (h__law_are_whole : Q "_law_are_whole" e__law_are_whole) (h__law_is_frac : Q "_law_is_frac" e__law_is_frac) (h__law_is_spot : Q "_law_is_spot" e__law_is_spot) (h__law_odd : Q "_law_odd" e__law_odd) (h__law_told : Q "_law_told" e__law_told) (h__law_due : Q "_law_due" e__law_due) (h__law_right : Q "_law_right" e__law_right) (h_law : Q "law" e_law) : ∀ f e, pk.T f = some e → Q f e := by
  intro f e h
  exact lookup_all (l := tab) (by
    unfold tab
    simp only [List.forall_mem_cons, List.not_mem_nil, false_implies, implies_true, and_true]
    exact ⟨h_is_whole, h_are_wholes, h_divisor_of, h_is_reduced, h_sign_of, h_is_ratio, h_ratio, h_is_vector, h_vector, h_vector_sum, h_vector_less, h_vector_times, h_vector_between, h_inner_of, h_cross_of, h_quartered, h_turn_of, h_check_point, h_check_fraction, h_plus, h_minus, h_times, h_between, h_inner, h_cross, h_quarter, h_sense, h__law_urn, h__law_pull, h__law_any, h__law_laps, h__law_gcd, h__law_thin, h__law_is_whole, h__law_are_whole, h__law_is_frac, h__law_is_spot, h__law_odd, h__law_told, h__law_due, h__law_right, h_law⟩) f e h
theorem chk_all : ∀ f e, pk.T f = some e → chkEntry pk f e = true := tab_ok (Q := fun f e => chkEntry pk f e = true) chk_is_whole chk_are_wholes chk_divisor_of chk_is_reduced chk_sign_of chk_is_ratio chk_ratio chk_is_vector chk_vector chk_vector_sum chk_vector_less chk_vector_times chk_vector_between chk_inner_of chk_cross_of chk_quartered chk_turn_of chk_check_point chk_check_fraction chk_plus chk_minus chk_times chk_between chk_inner chk_cross chk_quarter chk_sense chk__law_urn chk__law_pull chk__law_any chk__law_laps chk__law_gcd chk__law_thin chk__law_is_whole chk__law_are_whole chk__law_is_frac chk__law_is_spot chk__law_odd chk__law_told chk__law_due chk__law_right chk_law
theorem bind_is_whole : BindOk "is_whole" e_is_whole where
  pos := fun _ _ _ _ _ _ us hl => match us, hl with | [_], _ => rfl
  kw := fun q hq => by cases hq
theorem bind_are_wholes : BindOk "are_wholes" e_are_wholes where
  pos := fun _ _ _ _ _ _ us hl => match us, hl with | [_, _], _ => rfl
  kw := fun q hq => by cases hq
theorem bind_divisor_of : BindOk "divisor_of" e_divisor_of where
  pos := fun _ _ _ _ _ _ us hl => match us, hl with | [_], _ => rfl
  kw := fun q hq => by cases hq
theorem bind_is_reduced : BindOk "is_reduced" e_is_reduced where
  pos := fun _ _ _ _ _ _ us hl => match us, hl with | [_], _ => rfl
  kw := fun q hq => by cases hq
theorem bind_sign_of : BindOk "sign_of" e_sign_of where
  pos := fun _ _ _ _ _ _ us hl => match us, hl with | [_], _ => rfl
  kw := fun q hq => by cases hq
theorem bind_is_ratio : BindOk "is_ratio" e_is_ratio where
  pos := fun _ _ _ _ _ _ us hl => match us, hl with | [_], _ => rfl
  kw := fun q hq => by cases hq
theorem bind_ratio : BindOk "ratio" e_ratio where
  pos := fun _ _ _ _ _ _ us hl => match us, hl with | [_, _], _ => rfl
  kw := fun q hq => by cases hq
theorem bind_is_vector : BindOk "is_vector" e_is_vector where
  pos := fun _ _ _ _ _ _ us hl => match us, hl with | [_], _ => rfl
  kw := fun q hq => by cases hq
theorem bind_vector : BindOk "vector" e_vector where
  pos := fun _ _ _ _ _ _ us hl => match us, hl with | [_, _, _], _ => rfl
  kw := fun q hq => by cases hq
theorem bind_vector_sum : BindOk "vector_sum" e_vector_sum where
  pos := fun _ _ _ _ _ _ us hl => match us, hl with | [_, _], _ => rfl
  kw := fun q hq => by cases hq
theorem bind_vector_less : BindOk "vector_less" e_vector_less where
  pos := fun _ _ _ _ _ _ us hl => match us, hl with | [_, _], _ => rfl
  kw := fun q hq => by cases hq
theorem bind_vector_times : BindOk "vector_times" e_vector_times where
  pos := fun _ _ _ _ _ _ us hl => match us, hl with | [_, _], _ => rfl
  kw := fun q hq => by cases hq
theorem bind_vector_between : BindOk "vector_between" e_vector_between where
  pos := fun _ _ _ _ _ _ us hl => match us, hl with | [_, _, _], _ => rfl
  kw := fun q hq => by cases hq
theorem bind_inner_of : BindOk "inner_of" e_inner_of where
  pos := fun _ _ _ _ _ _ us hl => match us, hl with | [_, _], _ => rfl
  kw := fun q hq => by cases hq
theorem bind_cross_of : BindOk "cross_of" e_cross_of where
  pos := fun _ _ _ _ _ _ us hl => match us, hl with | [_, _], _ => rfl
  kw := fun q hq => by cases hq
theorem bind_quartered : BindOk "quartered" e_quartered where
  pos := fun _ _ _ _ _ _ us hl => match us, hl with | [_], _ => rfl
  kw := fun q hq => by cases hq
theorem bind_turn_of : BindOk "turn_of" e_turn_of where
  pos := fun _ _ _ _ _ _ us hl => match us, hl with | [_, _, _], _ => rfl
  kw := fun q hq => by cases hq
theorem bind_check_point : BindOk "check_point" e_check_point where
  pos := fun _ _ _ _ _ _ us hl => match us, hl with | [_], _ => rfl
  kw := fun q hq => by cases hq
theorem bind_check_fraction : BindOk "check_fraction" e_check_fraction where
  pos := fun _ _ _ _ _ _ us hl => match us, hl with | [_], _ => rfl
  kw := fun q hq => by cases hq
theorem bind_plus : BindOk "plus" e_plus where
  pos := fun _ _ _ _ _ _ us hl => match us, hl with | [_, _], _ => rfl
  kw := fun q hq => by cases hq
theorem bind_minus : BindOk "minus" e_minus where
  pos := fun _ _ _ _ _ _ us hl => match us, hl with | [_, _], _ => rfl
  kw := fun q hq => by cases hq
theorem bind_times : BindOk "times" e_times where
  pos := fun _ _ _ _ _ _ us hl => match us, hl with | [_, _], _ => rfl
  kw := fun q hq => by cases hq
theorem bind_between : BindOk "between" e_between where
  pos := fun _ _ _ _ _ _ us hl => match us, hl with | [_, _, _], _ => rfl
  kw := fun q hq => by cases hq
theorem bind_inner : BindOk "inner" e_inner where
  pos := fun _ _ _ _ _ _ us hl => match us, hl with | [_, _], _ => rfl
  kw := fun q hq => by cases hq
theorem bind_cross : BindOk "cross" e_cross where
  pos := fun _ _ _ _ _ _ us hl => match us, hl with | [_, _], _ => rfl
  kw := fun q hq => by cases hq
theorem bind_quarter : BindOk "quarter" e_quarter where
  pos := fun _ _ _ _ _ _ us hl => match us, hl with | [_], _ => rfl
  kw := fun q hq => by cases hq
theorem bind_sense : BindOk "sense" e_sense where
  pos := fun _ _ _ _ _ _ us hl => match us, hl with | [_, _, _], _ => rfl
  kw := fun q hq => by cases hq
theorem bind__law_urn : BindOk "_law_urn" e__law_urn where
  pos := fun _ _ _ _ _ _ us hl => match us, hl with | [_, _], _ => rfl
  kw := fun q hq => by cases hq
theorem bind__law_pull : BindOk "_law_pull" e__law_pull where
  pos := fun _ _ _ _ _ _ us hl => match us, hl with | [_, _], _ => rfl
  kw := fun q hq => by cases hq
theorem bind__law_any : BindOk "_law_any" e__law_any where
  pos := fun _ _ _ _ _ _ us hl => match us, hl with | [_, _], _ => rfl
  kw := fun q hq => by cases hq
theorem bind__law_laps : BindOk "_law_laps" e__law_laps where
  pos := fun _ _ _ _ _ _ us hl => match us, hl with | [_], _ => rfl
  kw := fun q hq => by cases hq
theorem bind__law_gcd : BindOk "_law_gcd" e__law_gcd where
  pos := fun _ _ _ _ _ _ us hl => match us, hl with | [_, _], _ => rfl
  kw := fun q hq => by cases hq
theorem bind__law_thin : BindOk "_law_thin" e__law_thin where
  pos := fun _ _ _ _ _ _ us hl => match us, hl with | [_], _ => rfl
  kw := fun q hq => by cases hq
theorem bind__law_is_whole : BindOk "_law_is_whole" e__law_is_whole where
  pos := fun _ _ _ _ _ _ us hl => match us, hl with | [_], _ => rfl
  kw := fun q hq => by cases hq
theorem bind__law_are_whole : BindOk "_law_are_whole" e__law_are_whole where
  pos := fun _ _ _ _ _ _ us hl => match us, hl with | [_, _], _ => rfl
  kw := fun q hq => by cases hq
theorem bind__law_is_frac : BindOk "_law_is_frac" e__law_is_frac where
  pos := fun _ _ _ _ _ _ us hl => match us, hl with | [_], _ => rfl
  kw := fun q hq => by cases hq
theorem bind__law_is_spot : BindOk "_law_is_spot" e__law_is_spot where
  pos := fun _ _ _ _ _ _ us hl => match us, hl with | [_], _ => rfl
  kw := fun q hq => by cases hq
theorem bind__law_odd : BindOk "_law_odd" e__law_odd where
  pos := fun _ _ _ _ _ _ us hl => match us, hl with | [_], _ => rfl
  kw := fun q hq => by cases hq
theorem bind__law_told : BindOk "_law_told" e__law_told where
  pos := fun _ _ _ _ _ _ us hl => match us, hl with | [_], _ => rfl
  kw := fun q hq => by cases hq
theorem bind__law_due : BindOk "_law_due" e__law_due where
  pos := fun _ _ _ _ _ _ us hl => match us, hl with | [_], _ => rfl
  kw := fun q hq => by cases hq
theorem bind__law_right : BindOk "_law_right" e__law_right where
  pos := fun _ _ _ _ _ _ us hl => match us, hl with | [_], _ => rfl
  kw := fun q hq => by cases hq
theorem bind_law : BindOk "law" e_law where
  pos := fun _ _ _ _ _ _ us hl => match us, hl with | [_], _ => rfl
  kw := fun q hq => by cases hq
theorem bok : ∀ q ∈ tab, BindOk q.1 q.2 := by
  unfold tab
  simp only [List.forall_mem_cons, List.not_mem_nil, false_implies, implies_true, and_true]
  exact ⟨bind_is_whole, bind_are_wholes, bind_divisor_of, bind_is_reduced, bind_sign_of, bind_is_ratio, bind_ratio, bind_is_vector, bind_vector, bind_vector_sum, bind_vector_less, bind_vector_times, bind_vector_between, bind_inner_of, bind_cross_of, bind_quartered, bind_turn_of, bind_check_point, bind_check_fraction, bind_plus, bind_minus, bind_times, bind_between, bind_inner, bind_cross, bind_quarter, bind_sense, bind__law_urn, bind__law_pull, bind__law_any, bind__law_laps, bind__law_gcd, bind__law_thin, bind__law_is_whole, bind__law_are_whole, bind__law_is_frac, bind__law_is_spot, bind__law_odd, bind__law_told, bind__law_due, bind__law_right, bind_law⟩
theorem kn : Pl.Kn04 pk.G := by repeat' (first | rfl | constructor)
theorem plain : ∀ ns : List Int, ns.length ≤ 63 → ∃ u', callU pk.G 40 "law" [.list (ns.map .int)] [] = some (.bool true, u') := fun ns hn => Pl.l_law4 kn 31 ns hn

theorem hfns : fns = tab.map fun q => Pl.fnD q.1 q.2 := rfl
theorem walk : PySem.W.WalkO qv loose (PySem.W.XL qv []) hk.says R.toRowW dlaw [] (fun f vs => PySem.call f vs) :=
  law_walkQ (l := PySem.Challenge.rw_hullrests_k04_points_refused) (m := 63) (n := 40) (tab := tab) (fns := fns) (gvs := gvs) (bl := bls) (gcd := gcdb) (exs := exs) (cls := clss) (lm := lms) (xs := xss) (td := tds) (e := e_law) hfns rfl (by decide) (by kernel_rfl) ⟨rfl, by decide, by decide⟩ rfl (by unfold tab; simp only [List.mem_cons, true_or, or_true]) (by kernel_rfl) rfl rfl rfl rfl rfl chk_all chx cht bok (by decide +kernel) iok plain
end Law
open PySem PySem.W PySem.Calls PyProof.Rows
set_option maxRecDepth 100000 in
set_option maxHeartbeats 0 in
theorem PySem.Challenge.cw_hullrests_k04_points_refused_holds : PySem.Challenge.rw_hullrests_k04_points_refused.Holds := by
  w_on; o_law
  refine HandSHeadRun.head_imp (r := Law.R) (q := Law.qv) (H := Law.hk) (ob := Law.ob) (M := 20000) (loose := Law.loose) (d := Law.dlaw) (kwd := []) Law.ob_eq Law.run (by kernel_rfl) (by kernel_rfl) (by kernel_rfl) (by rfl) (by first | assumption | decide +kernel) (by decide +kernel) ⟨rfl, rfl, rfl, rfl, rfl, by decide +kernel⟩ ?hw ?hc
  case hw => w_witness2
  case hc => exact Law.walk
#print axioms PySem.Challenge.cw_hullrests_k04_points_refused_holds
