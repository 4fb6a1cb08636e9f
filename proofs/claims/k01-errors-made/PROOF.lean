import PyProof.Rows.All
import Wide.All
import OpenK.AllK
import Wide.FinOn
import HandS.HeadHook2
import HandS.Head0
import HandS.Head1
import HandS.Head2
import HandS.Words
import KE.KExcInit
import HandS.ExcOwn
import HandS.ForMost
import HandS.ForExc
import HandS.Defaults
import HandS.Star
import KE.KeyNested
import KE.KDictKeyed
import HandS.ExcInit
import HandS.Style
import HandS.TupAny
import HandS.TupMul
import HandS.IsInst
import HandS.Ends
import KE.GoesEnum
import PyProof.Rows.IntBool
import PyProof.Rows.EqBoolInt
import HandS.Text
import HandS.SortKw
import HandS.WrittenGet
import KE.KUnpackStar
import HandS.MakeKwOnly
import HandS.ClsMeth
import HandS.WordsDict
import HandS.Iter
import HandS.Small
import HandS.Strs
import KE.KItemsList
import KE.SortData
import KE.KDictZip
import PyProof.ListNew
import KE.DataFind
import KE.KEqDict
import PyProof.ReprRoads
import HandS.Property
import HandS.MakeKw
import HandS.SetBool
import HandS.SetKeys
import KE.KDictList
import KE.DataCmp
import KE.KDictSum
import PyProof.Transfer
import HandS.Conv
import HandS.DictComp
import HandS.More
import KE.KExcIs
import PyProof.ExcBaseAll.ValueError
import PyProof.ExcBaseAll.RuntimeError
import PyProof.ExcBaseAll.OverflowError
import PyProof.ExcBaseAll.LookupError
import HandS.ExcField
import HandS.ExcIs
import HandS.ExcValue
import HandS.Deep
import HandS.RaiseMore
import PyProof.Rows.SortStrRead
import PySem.Challenge.RW_finestcells_k01_errors_made
set_option Elab.async false
set_option linter.all false
set_option maxRecDepth 100000
set_option maxHeartbeats 4000000
/-! Fhd: what the kernel run looks at. -/
namespace Fc
open PySem PySem.Spec PySem.Calls PyProof.Rows L2

def noList (K : PySem.W.Frag) : Bool := K.all fun p => match p.2.cls with
  | .type c => !decide (c = "list")
  | _ => true
inductive Fb where
  | tup (x : Str) (vs : List He.Dv)
  | tab (x : Str) (l : List (Str × Str))
  | own (x : Str)
  | kit (x : Str) (T : String) (b : Bool)
  | cread (x : Str)
  | cfun (x m : Str)
  | same (x y : Str)
def rowsB : List (Str × Str) → List DictEntry → Bool
  | [], [] => true
  | kv :: l, e :: es => (match e.key, e.val with
    | .str a _, .str b _ => decide (a = kv.1) && decide (b = kv.2)
    | _, _ => false) && rowsB l es
  | _, _ => false
def tabB (K : PySem.W.Frag) (x : Str) (l : List (Str × Str)) : Bool := !decide (He.ga K x = sysModules) && (match K.lookup (He.ga K x) with
  | some ⟨.type c, none, .dict es _, sl⟩ => decide (c = "dict") && (decide (sl.toList = []) && rowsB l es.toList)
  | _ => false)
def Fb.ok (K : PySem.W.Frag) : Fb → Bool
  | .tup x vs => He.tupB K x vs
  | .tab x l => tabB K x l
  | .own x => He.eqO (PySem.W.findIn K (.ref (He.ga K x)) "__class__") (some (some (.builtin "object.__class__"))) && (He.eqO (PySem.W.specialIn K (.builtin "object.__class__") "__get__") (some (some (.builtin "getset_descriptor.__get__"))) &&
      (decide (PySem.W.takesIn K (.builtin "object.__class__") = some true) && decide (PySem.W.mroIn K (He.ga K x) (.type "object") = some true)))
  | .kit x T b => decide (PySem.W.kitOne K (.ref (He.ga K x)) (.type T) = some b)
  | .cread x => PySem.W.readsIn K (He.ga K x) (.type "type") && He.eqO (PySem.W.specialIn K (.ref (He.ga K x)) "__getattribute__") (some (some (.builtin "type.__getattribute__")))
  | .cfun x m => (match PySem.W.findCls K (.ref (He.ga K x)) (.type "type") m with
    | some (.val (.ref f)) => decide (f = He.fAd K (x, some m))
    | _ => false)
  | .same x y => decide (He.ga K x = He.ga K y)
/-- no address twice: what was met is a number's bits -/
def once : List Addr → Nat → List Addr
  | [], _ => []
  | a :: r, m => bif Nat.beq (Nat.land (Nat.shiftRight m a) 1) 1 then once r m else a :: once r (Nat.lor m (Nat.shiftLeft 1 a))
def bitsOf : List Addr → Nat → Nat
  | [], m => m
  | a :: r, m => bitsOf r (Nat.lor m (Nat.shiftLeft 1 a))
/-- what stands within n steps of the front -/
def growE (g : Addr → Option Obj) : Nat → List Addr → Nat → List Addr
  | 0, _, _ => []
  | n + 1, l, m => (fun f => f ++ growE g n f (bitsOf f m)) (once (l.flatMap fun a => match g a with
    | some o => He.refsD o
    | none => []) m)
def asE (g : Addr → Option Obj) (n : Nat) : List Addr := mainGlobals :: growE g n [mainGlobals] (Nat.shiftLeft 1 mainGlobals)
def obsH {α : Type} (n : Nat) (f : PySem.W.Frag → α) (g : Addr → Option Obj) : α := f (He.frG g (cStatics :: asE g n))
def hookH {α : Type} (n : Nat) (f : PySem.W.Frag → α) (v : World → α) : PySem.W.Hook where
  α := α
  obs := fun s => obsH n f s.heap.get?
  val := v
  says := fun w h => ∃ K : PySem.W.Frag, K.In h ∧ f K = v w
  of := fun _ _ e => ⟨_, He.frG_in, e⟩
  keeps := fun _ _ _ ⟨K, hK, c⟩ k => ⟨K, PySem.W.Frag.In.keeps hK k, c⟩
theorem obsH_eq {α : Type} {n : Nat} {f : PySem.W.Frag → α} {v : World → α} (s : PySem.W.SharedT) : obsH n f (HandSHeadRun.getT s) = (hookH n f v).obs s.abs := by
  have e : HandSHeadRun.getT s = s.abs.heap.get? := funext fun a => HandSHeadRun.getT_eq s a
  rw [e]
  rfl
end Fc

set_option Elab.async false
set_option linter.all false
set_option maxRecDepth 100000
set_option maxHeartbeats 4000000
/-! Fhe: what the kernel run looks at, of own exceptions. -/
namespace Fc
open PySem PySem.Spec PySem.Calls PyProof.Rows L2
def tlV : List Value := [.type "ValueError", .type "Exception", .type "BaseException", .type "object"]
def tlR : List Value := [.type "RuntimeError", .type "Exception", .type "BaseException", .type "object"]
def tlO : List Value := [.type "OverflowError", .type "ArithmeticError", .type "Exception", .type "BaseException", .type "object"]
def tlK : List Value := [.type "KeyError", .type "LookupError", .type "Exception", .type "BaseException", .type "object"]
/-- the classes, each with what stands under it: 0 ValueError, 1 RuntimeError, 2 OverflowError, 3 KeyError -/
def bsN : Nat → String × String × List Value
  | 0 => ("ValueError", "ValueError.__new__", tlV)
  | 1 => ("RuntimeError", "RuntimeError.__new__", tlR)
  | 2 => ("OverflowError", "OverflowError.__new__", tlO)
  | _ => ("KeyError", "LookupError.__new__", tlK)
def clsB (K : PySem.W.Frag) (C : Addr) (nw : String) (tail : List Value) : Bool := match K.lookup C with
  | some ⟨.type "type", _, .cls cd, sl⟩ => (match cd.mro, sl.toList with
    | .ref c :: bm, [_, _, _, _, some (.builtin n), _] => (decide (c = C) && (decide (n = nw) && (PySem.W.excTail tail bm && (cd.hasDict && !cd.hasDel))))
    | _, _ => false)
  | _ => false
/-- all of a class -/
def xclB (K : PySem.W.Frag) (x : Str) (b : Nat) : Bool :=
  clsB K (He.ga K x) (bsN b).2.1 (bsN b).2.2 && (He.eqO (PySem.W.findIn K (.ref (He.ga K x)) "__setattr__") (some (some (.builtin "object.__setattr__"))) && (decide (PySem.W.subIn K (.ref (He.ga K x)) (.type "BaseException") = some true) &&
    (decide (PySem.W.typeIn K (.ref (He.ga K x)) = some (.type "type")) && PySem.W.keepIn K (.ref (He.ga K x)))))
/-- its own __init__ -/
def xinB (K : PySem.W.Frag) (x : Str) : Bool := He.eqO (PySem.W.findIn K (.ref (He.ga K x)) "__init__") (some (some (.ref (He.ma K (He.ga K x) "__init__")))) && PySem.W.isFn K (.ref (He.ma K (He.ga K x) "__init__"))
/-- what isinstance and fields ask of it -/
def xisB (K : PySem.W.Frag) (x : Str) : Bool := He.eqO (PySem.W.findIn K (.ref (He.ga K x)) "__getattribute__") (some (some (.builtin "BaseException.__getattribute__"))) && (He.eqO (PySem.W.findIn K (.ref (He.ga K x)) "__getattr__") (some none) &&
  (decide (PySem.W.subIn K (.ref (He.ga K x)) (.type "BaseException") = some true) && (PySem.W.hasDictIn K (He.ga K x) && (He.eqO (PySem.W.findIn K (.ref (He.ga K x)) "__class__") (some (some (.builtin "object.__class__"))) &&
  (He.eqO (PySem.W.specialIn K (.builtin "object.__class__") "__get__") (some (some (.builtin "getset_descriptor.__get__"))) && (decide (PySem.W.takesIn K (.builtin "object.__class__") = some true) && decide (PySem.W.mroIn K (He.ga K x) (.type "object") = some true)))))))
/-- under which class each stands -/
def kitX (K : PySem.W.Frag) (u : Value) (l : List (Str × Bool)) : Bool := l.all fun p => decide (PySem.W.kitOne K (.ref (He.ga K p.1)) u = some p.2)
def xnoB (K : PySem.W.Frag) (f : Str) (l : List Str) : Bool := l.all fun x => He.eqO (PySem.W.findIn K (.ref (He.ga K x)) f) (some none)
def gloB (K : PySem.W.Frag) (l : List Str) : Bool := l.all fun x => (He.Fa.glo x).ok K
def xplB (K : PySem.W.Frag) (x : Str) (b : Nat) : Bool := PySem.W.excIn K (He.ga K x) (bsN b).2.2 (bsN b).2.1 && PySem.W.keepIn K (.ref (He.ga K x))
def xbiB (K : PySem.W.Frag) (B i : String) : Bool := match PySem.W.findCls K (.type B) (.type "type") "__init__" with
  | some (.val (.builtin s)) => decide (s = i)
  | _ => false
end Fc

set_option Elab.async false
set_option linter.all false
set_option maxRecDepth 100000
set_option maxHeartbeats 0
namespace Fc
open PySem PySem.Spec PySem.Calls PyProof.Rows L2
def top (i : Nat) : Stmt := PySem.Challenge.pw_finestcells_k01_errors_made.main.body.getD i (.Pass ⟨0, 0, 0, 0⟩)
def xcs : List Str := ["InUse", "NoBase", "NoBody", "NoCall", "NoCapture", "NoCell", "NoClosure", "NoCommand", "NoHouse", "NoName", "NoNumber", "NoPlan", "NoText", "Nothing", "Noticed", "Taken", "TooMany", "Unlike"]
def fns : List He.DefD := [⟨("law", none), "law", "law", defArgs (top 25), defBody (top 25), defScope (top 25), [], []⟩,
 ⟨("_law_bag", none), "_law_bag", "_law_bag", defArgs (top 20), defBody (top 20), defScope (top 20), [], []⟩,
 ⟨("_law_any", none), "_law_any", "_law_any", defArgs (top 22), defBody (top 22), defScope (top 22), [], []⟩,
 ⟨("_law_named_right", none), "_law_named_right", "_law_named_right", defArgs (top 24), defBody (top 24), defScope (top 24), [], []⟩,
 ⟨("NoCall", some "__init__"), "__init__", "NoCall.__init__", defArgs (inClass (top 6) 0), defBody (inClass (top 6) 0), defScope (inClass (top 6) 0), [], []⟩,
 ⟨("NoCapture", some "__init__"), "__init__", "NoCapture.__init__", defArgs (inClass (top 5) 0), defBody (inClass (top 5) 0), defScope (inClass (top 5) 0), [], []⟩,
 ⟨("NoNumber", some "__init__"), "__init__", "NoNumber.__init__", defArgs (inClass (top 3) 0), defBody (inClass (top 3) 0), defScope (inClass (top 3) 0), [], []⟩,
 ⟨("NoName", some "__init__"), "__init__", "NoName.__init__", defArgs (inClass (top 2) 0), defBody (inClass (top 2) 0), defScope (inClass (top 2) 0), [], []⟩,
 ⟨("NoBase", some "__init__"), "__init__", "NoBase.__init__", defArgs (inClass (top 1) 0), defBody (inClass (top 1) 0), defScope (inClass (top 1) 0), [], []⟩,
 ⟨("NoCell", some "__init__"), "__init__", "NoCell.__init__", defArgs (inClass (top 13) 0), defBody (inClass (top 13) 0), defScope (inClass (top 13) 0), [], []⟩,
 ⟨("NoClosure", some "__init__"), "__init__", "NoClosure.__init__", defArgs (inClass (top 12) 0), defBody (inClass (top 12) 0), defScope (inClass (top 12) 0), [], []⟩,
 ⟨("NoText", some "__init__"), "__init__", "NoText.__init__", defArgs (inClass (top 10) 0), defBody (inClass (top 10) 0), defScope (inClass (top 10) 0), [], []⟩,
 ⟨("InUse", some "__init__"), "__init__", "InUse.__init__", defArgs (inClass (top 15) 0), defBody (inClass (top 15) 0), defScope (inClass (top 15) 0), [], []⟩,
 ⟨("Taken", some "__init__"), "__init__", "Taken.__init__", defArgs (inClass (top 14) 0), defBody (inClass (top 14) 0), defScope (inClass (top 14) 0), [], []⟩,
 ⟨("Noticed", some "__init__"), "__init__", "Noticed.__init__", defArgs (inClass (top 17) 0), defBody (inClass (top 17) 0), defScope (inClass (top 17) 0), [], []⟩,
 ⟨("_law_word", none), "_law_word", "_law_word", defArgs (top 23), defBody (top 23), defScope (top 23), [], []⟩,
 ⟨("_law_take", none), "_law_take", "_law_take", defArgs (top 21), defBody (top 21), defScope (top 21), [], []⟩]
def fas : List He.Fa := [.glo "law", .glo "_law_bag", .glo "_law_any", .glo "_law_named_right", .glo "_law_word", .glo "_law_take", .free "KeyError", .free "LookupError", .free "OverflowError", .free "RuntimeError", .free "ValueError", .free "abs", .free "int", .free "isinstance", .free "len", .free "max", .free "min", .free "range", .free "repr", .free "str"]
def fbs : List Fb := []
end Fc

set_option Elab.async false
set_option linter.all false
set_option maxRecDepth 100000
set_option maxHeartbeats 0
namespace Fc
open PySem PySem.Spec PySem.Calls PyProof.Rows L2
def hdF (K : PySem.W.Frag) : He.AlD × Bool × Bool × Bool × Bool × Bool × Bool × Bool × Bool × Bool × Bool × Bool × Bool × Bool × Bool × Bool × Bool × Bool × Bool × Bool × Bool × Bool × Bool × Bool × Bool × Bool × Bool × Bool × Bool × Bool × Bool × Bool × Bool × Bool × Bool × Bool × Bool × Bool × Bool × Bool × Bool × Bool × Bool × Bool × Bool × Bool × Bool × Bool × Bool × Bool × Bool × Bool × Bool × Bool × Bool × Bool × Bool × Bool × Bool × Bool × Bool × Bool × Bool × Bool × Bool × Bool × Bool × Bool × Bool × Bool × Bool × Bool × Bool × Bool × Bool × Bool := (He.obsD fas fns K, fbs.all (·.ok K), gloB K xcs, (xcs.all fun x => xisB K x), xclB K "InUse" 1, xinB K "InUse", xclB K "NoBase" 0, xinB K "NoBase", xclB K "NoCall" 0, xinB K "NoCall", xclB K "NoCapture" 0, xinB K "NoCapture", xclB K "NoCell" 3, xinB K "NoCell", xclB K "NoClosure" 3, xinB K "NoClosure", xclB K "NoName" 0, xinB K "NoName", xclB K "NoNumber" 0, xinB K "NoNumber", xclB K "NoText" 0, xinB K "NoText", xclB K "Noticed" 1, xinB K "Noticed", xclB K "Taken" 1, xinB K "Taken", xplB K "NoBody" 0, xplB K "NoCommand" 0, xplB K "NoHouse" 0, xplB K "NoPlan" 0, xplB K "Nothing" 1, xplB K "TooMany" 2, xplB K "Unlike" 0, xbiB K "KeyError" "KeyError.__init__", xbiB K "RuntimeError" "RuntimeError.__init__", xbiB K "ValueError" "ValueError.__init__", xnoB K "name" ["InUse"], xnoB K "base" ["NoBase"], xnoB K "at" ["NoCall"], xnoB K "at" ["NoCapture"], xnoB K "name" ["NoCell"], xnoB K "name" ["NoClosure"], xnoB K "name" ["NoName"], xnoB K "number" ["NoNumber"], xnoB K "at" ["NoText"], xnoB K "history" ["Noticed"], xnoB K "name" ["Taken"], xnoB K "at" xcs, xnoB K "base" xcs, xnoB K "history" xcs, xnoB K "name" xcs, xnoB K "number" xcs, kitX K (.ref (He.ga K "InUse")) [("InUse", true), ("NoBase", false), ("NoBody", false), ("NoCall", false), ("NoCapture", false), ("NoCell", false), ("NoClosure", false), ("NoCommand", false), ("NoHouse", false), ("NoName", false), ("NoNumber", false), ("NoPlan", false), ("NoText", false), ("Nothing", false), ("Noticed", false), ("Taken", false), ("TooMany", false), ("Unlike", false)], kitX K (.type "KeyError") [("InUse", false), ("NoBase", false), ("NoBody", false), ("NoCall", false), ("NoCapture", false), ("NoCell", true), ("NoClosure", true), ("NoCommand", false), ("NoHouse", false), ("NoName", false), ("NoNumber", false), ("NoPlan", false), ("NoText", false), ("Nothing", false), ("Noticed", false), ("Taken", false), ("TooMany", false), ("Unlike", false)], kitX K (.type "LookupError") [("InUse", false), ("NoBase", false), ("NoBody", false), ("NoCall", false), ("NoCapture", false), ("NoCell", true), ("NoClosure", true), ("NoCommand", false), ("NoHouse", false), ("NoName", false), ("NoNumber", false), ("NoPlan", false), ("NoText", false), ("Nothing", false), ("Noticed", false), ("Taken", false), ("TooMany", false), ("Unlike", false)], kitX K (.ref (He.ga K "NoBase")) [("InUse", false), ("NoBase", true), ("NoBody", false), ("NoCall", false), ("NoCapture", false), ("NoCell", false), ("NoClosure", false), ("NoCommand", false), ("NoHouse", false), ("NoName", false), ("NoNumber", false), ("NoPlan", false), ("NoText", false), ("Nothing", false), ("Noticed", false), ("Taken", false), ("TooMany", false), ("Unlike", false)], kitX K (.ref (He.ga K "NoBody")) [("InUse", false), ("NoBase", false), ("NoBody", true), ("NoCall", false), ("NoCapture", false), ("NoCell", false), ("NoClosure", false), ("NoCommand", false), ("NoHouse", false), ("NoName", false), ("NoNumber", false), ("NoPlan", false), ("NoText", false), ("Nothing", false), ("Noticed", false), ("Taken", false), ("TooMany", false), ("Unlike", false)], kitX K (.ref (He.ga K "NoCall")) [("InUse", false), ("NoBase", false), ("NoBody", false), ("NoCall", true), ("NoCapture", false), ("NoCell", false), ("NoClosure", false), ("NoCommand", false), ("NoHouse", false), ("NoName", false), ("NoNumber", false), ("NoPlan", false), ("NoText", false), ("Nothing", false), ("Noticed", false), ("Taken", false), ("TooMany", false), ("Unlike", false)], kitX K (.ref (He.ga K "NoCapture")) [("InUse", false), ("NoBase", false), ("NoBody", false), ("NoCall", false), ("NoCapture", true), ("NoCell", false), ("NoClosure", false), ("NoCommand", false), ("NoHouse", false), ("NoName", false), ("NoNumber", false), ("NoPlan", false), ("NoText", false), ("Nothing", false), ("Noticed", false), ("Taken", false), ("TooMany", false), ("Unlike", false)], kitX K (.ref (He.ga K "NoCell")) [("InUse", false), ("NoBase", false), ("NoBody", false), ("NoCall", false), ("NoCapture", false), ("NoCell", true), ("NoClosure", false), ("NoCommand", false), ("NoHouse", false), ("NoName", false), ("NoNumber", false), ("NoPlan", false), ("NoText", false), ("Nothing", false), ("Noticed", false), ("Taken", false), ("TooMany", false), ("Unlike", false)], kitX K (.ref (He.ga K "NoClosure")) [("InUse", false), ("NoBase", false), ("NoBody", false), ("NoCall", false), ("NoCapture", false), ("NoCell", false), ("NoClosure", true), ("NoCommand", false), ("NoHouse", false), ("NoName", false), ("NoNumber", false), ("NoPlan", false), ("NoText", false), ("Nothing", false), ("Noticed", false), ("Taken", false), ("TooMany", false), ("Unlike", false)], kitX K (.ref (He.ga K "NoCommand")) [("InUse", false), ("NoBase", false), ("NoBody", false), ("NoCall", false), ("NoCapture", false), ("NoCell", false), ("NoClosure", false), ("NoCommand", true), ("NoHouse", false), ("NoName", false), ("NoNumber", false), ("NoPlan", false), ("NoText", false), ("Nothing", false), ("Noticed", false), ("Taken", false), ("TooMany", false), ("Unlike", false)], kitX K (.ref (He.ga K "NoHouse")) [("InUse", false), ("NoBase", false), ("NoBody", false), ("NoCall", false), ("NoCapture", false), ("NoCell", false), ("NoClosure", false), ("NoCommand", false), ("NoHouse", true), ("NoName", false), ("NoNumber", false), ("NoPlan", false), ("NoText", false), ("Nothing", false), ("Noticed", false), ("Taken", false), ("TooMany", false), ("Unlike", false)], kitX K (.ref (He.ga K "NoName")) [("InUse", false), ("NoBase", false), ("NoBody", false), ("NoCall", false), ("NoCapture", false), ("NoCell", false), ("NoClosure", false), ("NoCommand", false), ("NoHouse", false), ("NoName", true), ("NoNumber", false), ("NoPlan", false), ("NoText", false), ("Nothing", false), ("Noticed", false), ("Taken", false), ("TooMany", false), ("Unlike", false)], kitX K (.ref (He.ga K "NoNumber")) [("InUse", false), ("NoBase", false), ("NoBody", false), ("NoCall", false), ("NoCapture", false), ("NoCell", false), ("NoClosure", false), ("NoCommand", false), ("NoHouse", false), ("NoName", false), ("NoNumber", true), ("NoPlan", false), ("NoText", false), ("Nothing", false), ("Noticed", false), ("Taken", false), ("TooMany", false), ("Unlike", false)], kitX K (.ref (He.ga K "NoPlan")) [("InUse", false), ("NoBase", false), ("NoBody", false), ("NoCall", false), ("NoCapture", false), ("NoCell", false), ("NoClosure", false), ("NoCommand", false), ("NoHouse", false), ("NoName", false), ("NoNumber", false), ("NoPlan", true), ("NoText", false), ("Nothing", false), ("Noticed", false), ("Taken", false), ("TooMany", false), ("Unlike", false)], kitX K (.ref (He.ga K "NoText")) [("InUse", false), ("NoBase", false), ("NoBody", false), ("NoCall", false), ("NoCapture", false), ("NoCell", false), ("NoClosure", false), ("NoCommand", false), ("NoHouse", false), ("NoName", false), ("NoNumber", false), ("NoPlan", false), ("NoText", true), ("Nothing", false), ("Noticed", false), ("Taken", false), ("TooMany", false), ("Unlike", false)], kitX K (.ref (He.ga K "Nothing")) [("InUse", false), ("NoBase", false), ("NoBody", false), ("NoCall", false), ("NoCapture", false), ("NoCell", false), ("NoClosure", false), ("NoCommand", false), ("NoHouse", false), ("NoName", false), ("NoNumber", false), ("NoPlan", false), ("NoText", false), ("Nothing", true), ("Noticed", false), ("Taken", false), ("TooMany", false), ("Unlike", false)], kitX K (.ref (He.ga K "Noticed")) [("InUse", false), ("NoBase", false), ("NoBody", false), ("NoCall", false), ("NoCapture", false), ("NoCell", false), ("NoClosure", false), ("NoCommand", false), ("NoHouse", false), ("NoName", false), ("NoNumber", false), ("NoPlan", false), ("NoText", false), ("Nothing", false), ("Noticed", true), ("Taken", false), ("TooMany", false), ("Unlike", false)], kitX K (.type "OverflowError") [("InUse", false), ("NoBase", false), ("NoBody", false), ("NoCall", false), ("NoCapture", false), ("NoCell", false), ("NoClosure", false), ("NoCommand", false), ("NoHouse", false), ("NoName", false), ("NoNumber", false), ("NoPlan", false), ("NoText", false), ("Nothing", false), ("Noticed", false), ("Taken", false), ("TooMany", true), ("Unlike", false)], kitX K (.type "RuntimeError") [("InUse", true), ("NoBase", false), ("NoBody", false), ("NoCall", false), ("NoCapture", false), ("NoCell", false), ("NoClosure", false), ("NoCommand", false), ("NoHouse", false), ("NoName", false), ("NoNumber", false), ("NoPlan", false), ("NoText", false), ("Nothing", true), ("Noticed", true), ("Taken", true), ("TooMany", false), ("Unlike", false)], kitX K (.ref (He.ga K "Taken")) [("InUse", false), ("NoBase", false), ("NoBody", false), ("NoCall", false), ("NoCapture", false), ("NoCell", false), ("NoClosure", false), ("NoCommand", false), ("NoHouse", false), ("NoName", false), ("NoNumber", false), ("NoPlan", false), ("NoText", false), ("Nothing", false), ("Noticed", false), ("Taken", true), ("TooMany", false), ("Unlike", false)], kitX K (.ref (He.ga K "TooMany")) [("InUse", false), ("NoBase", false), ("NoBody", false), ("NoCall", false), ("NoCapture", false), ("NoCell", false), ("NoClosure", false), ("NoCommand", false), ("NoHouse", false), ("NoName", false), ("NoNumber", false), ("NoPlan", false), ("NoText", false), ("Nothing", false), ("Noticed", false), ("Taken", false), ("TooMany", true), ("Unlike", false)], kitX K (.ref (He.ga K "Unlike")) [("InUse", false), ("NoBase", false), ("NoBody", false), ("NoCall", false), ("NoCapture", false), ("NoCell", false), ("NoClosure", false), ("NoCommand", false), ("NoHouse", false), ("NoName", false), ("NoNumber", false), ("NoPlan", false), ("NoText", false), ("Nothing", false), ("Noticed", false), ("Taken", false), ("TooMany", false), ("Unlike", true)], kitX K (.type "ValueError") [("InUse", false), ("NoBase", true), ("NoBody", true), ("NoCall", true), ("NoCapture", true), ("NoCell", false), ("NoClosure", false), ("NoCommand", true), ("NoHouse", true), ("NoName", true), ("NoNumber", true), ("NoPlan", true), ("NoText", true), ("Nothing", false), ("Noticed", false), ("Taken", false), ("TooMany", false), ("Unlike", true)], noList K)
def hdV (w : World) : He.AlD × Bool × Bool × Bool × Bool × Bool × Bool × Bool × Bool × Bool × Bool × Bool × Bool × Bool × Bool × Bool × Bool × Bool × Bool × Bool × Bool × Bool × Bool × Bool × Bool × Bool × Bool × Bool × Bool × Bool × Bool × Bool × Bool × Bool × Bool × Bool × Bool × Bool × Bool × Bool × Bool × Bool × Bool × Bool × Bool × Bool × Bool × Bool × Bool × Bool × Bool × Bool × Bool × Bool × Bool × Bool × Bool × Bool × Bool × Bool × Bool × Bool × Bool × Bool × Bool × Bool × Bool × Bool × Bool × Bool × Bool × Bool × Bool × Bool × Bool × Bool := (He.valD fns, true, true, true, true, true, true, true, true, true, true, true, true, true, true, true, true, true, true, true, true, true, true, true, true, true, true, true, true, true, true, true, true, true, true, true, true, true, true, true, true, true, true, true, true, true, true, true, true, true, true, true, true, true, true, true, true, true, true, true, true, true, true, true, true, true, true, true, true, true, true, true, true, true, true, true)
abbrev hdR : PySem.W.OpenRow := PySem.W.OpenLaw.row PySem.Challenge.rw_finestcells_k01_errors_made
abbrev hdQ : Program := PySem.W.view hdR.prog [25]
def names0 : List PySem.Str := ["__name__", "NoBase", "NoName", "NoNumber", "NoBody", "NoCapture", "NoCall", "NoPlan", "NoHouse", "Unlike", "NoText", "NoCommand", "NoClosure", "NoCell", "Taken", "InUse"]
def names1 : List PySem.Str := ["Nothing", "Noticed", "TooMany", "_law_bag", "_law_take", "_law_any", "_law_word", "_law_named_right"]
def hdN : List PySem.Str := names0 ++ (names1)
theorem hd_run0 (w : World) : HandSHeadRun.RunEq hdR hdQ (hookH 4 hdF hdV) (fun s => obsH 4 hdF (HandSHeadRun.getT s)) 7000 hdN (World.withFollow w "special-get-raises" false) := by
  intro os
  kernel_rfl
theorem hd_run1 (w : World) : HandSHeadRun.RunEq hdR hdQ (hookH 4 hdF hdV) (fun s => obsH 4 hdF (HandSHeadRun.getT s)) 7000 hdN (World.withFollow w "special-get-raises" true) := by
  intro os
  kernel_rfl
theorem hd_run (w : World) : HandSHeadRun.RunEq hdR hdQ (hookH 4 hdF hdV) (fun s => obsH 4 hdF (HandSHeadRun.getT s)) 7000 hdN w := PySem.W.byRow2 "special-get-raises" (P := fun w => HandSHeadRun.RunEq hdR hdQ (hookH 4 hdF hdV) (fun s => obsH 4 hdF (HandSHeadRun.getT s)) 7000 hdN w) hd_run0 hd_run1 w
end Fc

set_option Elab.async false
set_option linter.all false
set_option maxRecDepth 100000
set_option maxHeartbeats 4000000
/-! Fa: data without addresses over the hand layer. -/
namespace Fc
open PySem PySem.Spec PyProof.Rows L2

inductive D where
  | non | bl (b : Bool) | int (i : Int) | str (x : Str) | tup (l : List D) | ref (n : Nat)
inductive O where
  | lst (l : List D) | frz (l : List D) | dct (l : List (Key × D)) | fdc (l : List (Key × D)) | ins (c : Str) (fs : List (Str × D)) | dtt (l : List (D × D)) | exv (c : Str) (fs : List (Str × D)) | exn (c : Str) (fs : List (Str × D))
abbrev G := List O
abbrev Ev := List (Option D)
inductive Re (α : Type) where
  | ok (a : α) (g : G) | ex (c : Str) (fs : List (Str × D)) (g : G) | bad
def Re.bind {α β : Type} (r : Re α) (k : α → G → Re β) : Re β := match r with
  | .ok a g => k a g
  | .ex c fs g => .ex c fs g
  | .bad => .bad

mutual
inductive RV (K : PySem.W.Frag) (ι : Nat → Addr) (n : Nat) (H : Hp) : D → V → Prop
  | non : RV K ι n H .non .non
  | bl (b : Bool) : RV K ι n H (.bl b) (.bl b)
  | int (i : Int) : RV K ι n H (.int i) (.int i)
  | str (x : Str) : RV K ι n H (.str x) (.str x)
  | tup {ds : List D} {a : Addr} {vs : List V} : SqT K H a vs → RVs K ι n H ds vs → RV K ι n H (.tup ds) (.ref a)
  | ref {m : Nat} : m < n → RV K ι n H (.ref m) (.ref (ι m))
inductive RVs (K : PySem.W.Frag) (ι : Nat → Addr) (n : Nat) (H : Hp) : List D → List V → Prop
  | nil : RVs K ι n H [] []
  | cons {d : D} {v : V} {ds : List D} {vs : List V} : RV K ι n H d v → RVs K ι n H ds vs → RVs K ι n H (d :: ds) (v :: vs)
end

section
variable {K : PySem.W.Frag} {ι ι' : Nat → Addr} {n n' : Nat} {H H' : Hp}
mutual
theorem RV.mono (h1 : ∀ m, m < n → ι' m = ι m) (h2 : n ≤ n') (h3 : ∀ a xs, SqT K H a xs → SqT K H' a xs) : ∀ {d : D} {v : V}, RV K ι n H d v → RV K ι' n' H' d v
  | _, _, .non => .non
  | _, _, .bl b => .bl b
  | _, _, .int i => .int i
  | _, _, .str x => .str x
  | _, _, .tup hs r => .tup (h3 _ _ hs) (RVs.mono h1 h2 h3 r)
  | _, _, .ref hm => by
    rw [← h1 _ hm]
    exact .ref (Nat.lt_of_lt_of_le hm h2)
theorem RVs.mono (h1 : ∀ m, m < n → ι' m = ι m) (h2 : n ≤ n') (h3 : ∀ a xs, SqT K H a xs → SqT K H' a xs) : ∀ {ds : List D} {vs : List V}, RVs K ι n H ds vs → RVs K ι' n' H' ds vs
  | _, _, .nil => .nil
  | _, _, .cons r t => .cons (RV.mono h1 h2 h3 r) (RVs.mono h1 h2 h3 t)
end
theorem RVs.length : ∀ {ds : List D} {vs : List V}, RVs K ι n H ds vs → vs.length = ds.length
  | _, _, .nil => rfl
  | _, _, .cons _ t => congrArg Nat.succ (RVs.length t)
theorem RVs.get : ∀ {ds : List D} {vs : List V} {i : Nat} {d : D}, RVs K ι n H ds vs → ds[i]? = some d → ∃ v, vs[i]? = some v ∧ RV K ι n H d v
  | _, _, _, _, .nil, e => by simp at e
  | _, _, 0, _, .cons r _, e => by simp at e; subst e; exact ⟨_, rfl, r⟩
  | _, _, i + 1, d, .cons _ t, e => by
    obtain ⟨v, h1, h2⟩ := RVs.get (i := i) (d := d) t (by simpa using e)
    exact ⟨v, by simpa using h1, h2⟩
theorem RVs.append : ∀ {ds es : List D} {vs ws : List V}, RVs K ι n H ds vs → RVs K ι n H es ws → RVs K ι n H (ds ++ es) (vs ++ ws)
  | _, _, _, _, .nil, s => s
  | _, _, _, _, .cons r t, s => .cons r (RVs.append t s)
theorem RVs.take : ∀ {ds : List D} {vs : List V} (k : Nat), RVs K ι n H ds vs → RVs K ι n H (ds.take k) (vs.take k)
  | _, _, 0, _ => .nil
  | _, _, _ + 1, .nil => .nil
  | _, _, k + 1, .cons r t => .cons r (RVs.take k t)
theorem RVs.drop : ∀ {ds : List D} {vs : List V} (k : Nat), RVs K ι n H ds vs → RVs K ι n H (ds.drop k) (vs.drop k)
  | _, _, 0, r => r
  | _, _, _ + 1, .nil => .nil
  | _, _, k + 1, .cons _ t => RVs.drop k t
theorem RVs.set {d : D} {v : V} (r : RV K ι n H d v) : ∀ {ds : List D} {vs : List V} (i : Nat), RVs K ι n H ds vs → RVs K ι n H (ds.set i d) (vs.set i v)
  | _, _, _, .nil => .nil
  | _, _, 0, .cons _ t => .cons r t
  | _, _, i + 1, .cons q t => .cons q (RVs.set r i t)
end

/-- entries of a dict, of an instance -/
inductive RKs {κ : Type} (K : PySem.W.Frag) (ι : Nat → Addr) (n : Nat) (H : Hp) : List (κ × D) → List (κ × V) → Prop
  | nil : RKs K ι n H [] []
  | cons {k : κ} {d : D} {v : V} {ds : List (κ × D)} {vs : List (κ × V)} : RV K ι n H d v → RKs K ι n H ds vs → RKs K ι n H ((k, d) :: ds) ((k, v) :: vs)
theorem RKs.mono {κ : Type} {K : PySem.W.Frag} {ι ι' : Nat → Addr} {n n' : Nat} {H H' : Hp} (h1 : ∀ m, m < n → ι' m = ι m) (h2 : n ≤ n') (h3 : ∀ a xs, SqT K H a xs → SqT K H' a xs) : ∀ {ds : List (κ × D)} {vs : List (κ × V)}, RKs K ι n H ds vs → RKs K ι' n' H' ds vs
  | _, _, .nil => .nil
  | _, _, .cons r t => .cons (RV.mono h1 h2 h3 r) (RKs.mono h1 h2 h3 t)

/-! ### dicts whose keys are tuples, however deep; exceptions as values -/
theorem exo_xd {e C : Addr} {d : Option Addr} {fs : List (Str × V)} : exo e C d ≠ .xd fs := fun z => by
  have z' : HO.ext _ = HO.xd fs := z
  cases z'
mutual
/-- the key that data are -/
def nkOf : D → Option NestedKey
  | .non => some .none
  | .bl b => some (.num (if b = true then 1 else 0))
  | .int i => some (.num i)
  | .str x => some (.text x)
  | .tup l => (nksOf l).map NestedKey.tup
  | .ref _ => none
def nksOf : List D → Option (List NestedKey)
  | [] => some []
  | d :: l => match nkOf d, nksOf l with
    | some k, some r => some (k :: r)
    | _, _ => none
end
/-- an entry of such a dict as the heap holds it -/
def entN (w : World) (y : NestedKey × Addr × Value) : DictEntry := ⟨y.1.hash w, .ref y.2.1, y.2.2⟩
/-- at a: a dict of these keys, key objects and values -/
def dnO (w : World) (a : Addr) (xs : List (NestedKey × Addr × V)) : HO := .ext fun h => ∃ ys : List (NestedKey × Addr × Value), Paired (fun (x : NestedKey × Addr × V) (y : NestedKey × Addr × Value) => y.1 = x.1 ∧ y.2.1 = x.2.1 ∧ RelV x.2.2 y.2.2) xs ys ∧
  ∃ o es ep, h.get? a = some o ∧ o.ExactDict ∧ o.data = .dict es ep ∧ es.toList = ys.map (entN w)
/-- at a: an exception of the class at C, its dict at dd -/
def exvO (C : Addr) (dd : Option Addr) (a : Addr) : HO := .ext fun h => ∃ (o : Obj) (vs : Array Value), h.get? a = some o ∧ o.cls = .ref C ∧ o.dict = dd ∧ o.data = .fields vs
/-- what stands beside our objects -/
def Beside (a : Addr) (p : Heap → Prop) : Prop := ∀ h, p h → ∃ (o : Obj) (T : String), h.get? a = some o ∧ o.cls = .type T ∧ T ≠ "dict"
theorem heap_of (a : Addr) (o : Obj) (hf : o.isFreed = false) : ∃ h : Heap, h.get? a = some o := by
  have sz : ∀ n : Nat, ∃ h : Heap, h.objs.size = n := fun n => by
    induction n with
    | zero => exact ⟨{ (default : Heap) with objs := #[] }, rfl⟩
    | succ n ih =>
      obtain ⟨h, e⟩ := ih
      exact ⟨h.push o, by rw [Heap.size_push, e]⟩
  obtain ⟨h, e⟩ := sz a
  exact ⟨h.push o, by rw [← e]; exact Heap.get?_push_size h hf⟩
theorem relV_some : ∀ v : V, ∃ u, RelV v u
  | .non => ⟨_, rfl⟩
  | .bl b => ⟨_, rfl⟩
  | .int i => ⟨_, 0, rfl⟩
  | .str x => ⟨_, 0, rfl⟩
  | .byt b => ⟨_, 0, rfl⟩
  | .flt b => ⟨_, 0, rfl⟩
  | .ref a => ⟨_, rfl⟩
  | .ty n => ⟨_, rfl⟩
theorem beside_dn {w : World} {a : Addr} {p : Heap → Prop} {xs : List (NestedKey × Addr × V)} (b : Beside a p) : HO.ext p ≠ dnO w a xs := fun e => by
  have pr : ∀ l : List (NestedKey × Addr × V), ∃ ys : List (NestedKey × Addr × Value), Paired (fun (x : NestedKey × Addr × V) (y : NestedKey × Addr × Value) => y.1 = x.1 ∧ y.2.1 = x.2.1 ∧ RelV x.2.2 y.2.2) l ys := fun l => by
    induction l with
    | nil => exact ⟨[], .nil⟩
    | cons x l ih =>
      obtain ⟨ys, r⟩ := ih
      obtain ⟨u, q⟩ := relV_some x.2.2
      exact ⟨(x.1, x.2.1, u) :: ys, .cons ⟨rfl, rfl, q⟩ r⟩
  obtain ⟨ys, r⟩ := pr xs
  obtain ⟨h, hh⟩ := heap_of a { cls := .type "dict", data := .dict (ys.map (entN w)).toArray } rfl
  have z : p h := by
    rw [HO.ext.inj e]
    exact ⟨ys, r, _, _, _, hh, ⟨rfl, rfl, rfl⟩, rfl, rfl⟩
  obtain ⟨o, T, h1, h2, h3⟩ := b h z
  rw [hh] at h1
  cases h1
  exact h3 (Value.type.inj h2).symm
theorem beside_exv {a C : Addr} {dd : Option Addr} {p : Heap → Prop} (b : Beside a p) : HO.ext p ≠ exvO C dd a := fun e => by
  obtain ⟨h, hh⟩ := heap_of a { cls := .ref C, dict := dd, data := .fields #[] } rfl
  have z : p h := by
    rw [HO.ext.inj e]
    exact ⟨_, _, hh, rfl, rfl, rfl⟩
  obtain ⟨o, T, h1, h2, h3⟩ := b h z
  rw [hh] at h1
  cases h1
  cases h2
theorem beside_exn {a C : Addr} {dd : Option Addr} {p : Heap → Prop} (b : Beside a p) : HO.ext p ≠ exo a C dd := fun e => by
  obtain ⟨h, hh⟩ := heap_of a { cls := .ref C, dict := dd, data := .fields #[.ref 0, .none, .none, .none, .bool false, .none] } rfl
  have z : p h := by
    rw [HO.ext.inj e]
    exact ⟨0, hh⟩
  obtain ⟨o, T, h1, h2, h3⟩ := b h z
  rw [hh] at h1
  cases h1
  cases h2
/-- the entries of such a dict: each key's object stands for the key's data -/
inductive RNs (K : PySem.W.Frag) (ι : Nat → Addr) (n : Nat) (H : Hp) : List (D × D) → List (NestedKey × Addr × V) → Prop
  | nil : RNs K ι n H [] []
  | cons {kd d : D} {k : NestedKey} {a : Addr} {v : V} {ds : List (D × D)} {xs : List (NestedKey × Addr × V)} : nkOf kd = some k → k.depth ≤ 8 → RV K ι n H kd (.ref a) → RV K ι n H d v → RNs K ι n H ds xs → RNs K ι n H ((kd, d) :: ds) ((k, a, v) :: xs)
theorem RNs.mono {K : PySem.W.Frag} {ι ι' : Nat → Addr} {n n' : Nat} {H H' : Hp} (h1 : ∀ m, m < n → ι' m = ι m) (h2 : n ≤ n') (h3 : ∀ a xs, SqT K H a xs → SqT K H' a xs) : ∀ {ds : List (D × D)} {xs : List (NestedKey × Addr × V)}, RNs K ι n H ds xs → RNs K ι' n' H' ds xs
  | _, _, .nil => .nil
  | _, _, .cons e z r q t => .cons e z (RV.mono h1 h2 h3 r) (RV.mono h1 h2 h3 q) (RNs.mono h1 h2 h3 t)

/-- what an object of ours stands for -/
def RO (w : World) (K : PySem.W.Frag) (mg : Str → Option Value) (ι : Nat → Addr) (n : Nat) (H : Hp) (a : Addr) : O → Prop
  | .lst l => ∃ vs, H a = some (.lst vs) ∧ RVs K ι n H l vs
  | .frz l => ∃ ob vs, H a = some (.frz ob (.lst vs)) ∧ RVs K ι n H l vs
  | .dct l => ∃ kvs, H a = some (.dK kvs) ∧ RKs K ι n H l kvs
  | .fdc l => ∃ ob kvs, H a = some (.frz ob (.dK kvs)) ∧ RKs K ι n H l kvs
  | .ins c fs => ∃ C dx fvs, mg c = some (.ref C) ∧ H a = some (.ins C dx fvs) ∧ H dx = some (.own a) ∧ RKs K ι n H fs fvs
  | .dtt l => ∃ xs, H a = some (dnO w a xs) ∧ (a == sysModules) = false ∧ xs.length ≤ sizeLine ∧ (xs.map (·.1)).Nodup ∧ RNs K ι n H l xs
  | .exv c fs => ∃ C dd, mg c = some (.ref C) ∧ H a = some (exvO C dd a) ∧ ((fs = [] ∧ dd = none) ∨ ∃ dx fvs, dd = some dx ∧ H dx = some (.xd fvs) ∧ RKs K ι n H fs fvs)
  | .exn c fs => ∃ C dd, mg c = some (.ref C) ∧ H a = some (exo a C dd) ∧ ((fs = [] ∧ dd = none) ∨ fs ≠ [] ∧ ∃ dx fvs, dd = some dx ∧ H dx = some (.xd fvs) ∧ RKs K ι n H fs fvs)

structure Rep (w : World) (K : PySem.W.Frag) (mg : Str → Option Value) (ι : Nat → Addr) (H : Hp) (g : G) : Prop where
  obj : ∀ m o, g[m]? = some o → RO w K mg ι g.length H (ι m) o
  inj : ∀ m k, m < g.length → k < g.length → ι m = ι k → m = k
/-- tuples and locked objects stay -/
structure Pres0 (H H' : Hp) : Prop where
  tup : ∀ a xs, H a = some (.tup xs) → H' a = some (.tup xs)
  frz : ∀ a o u, H a = some (.frz o u) → H' a = some (.frz o u)
/-- objects of another kind (sets, views) stay, too -/
structure Pres (H H' : Hp) : Prop extends Pres0 H H' where
  ext : ∀ a (p : Heap → Prop), Beside a p → H a = some (.ext p) → H' a = some (.ext p)
theorem Pres.refl (H : Hp) : Pres H H := ⟨⟨fun _ _ h => h, fun _ _ _ h => h⟩, fun _ _ _ h => h⟩
theorem Pres.trans {H H1 H2 : Hp} (a : Pres H H1) (b : Pres H1 H2) : Pres H H2 := ⟨⟨fun c xs h => b.tup c xs (a.tup c xs h), fun c o u h => b.frz c o u (a.frz c o u h)⟩, fun c p z h => b.ext c p z (a.ext c p z h)⟩
theorem Pres0.sq {K : PySem.W.Frag} {H H' : Hp} (p : Pres0 H H') {a : Addr} {xs : List V} (h : SqT K H a xs) : SqT K H' a xs := by
  rcases h with (h | ⟨o, h⟩) | h
  · exact .inl (.inl (p.tup _ _ h))
  · exact .inl (.inr ⟨o, p.frz _ _ _ h⟩)
  · exact .inr h
theorem Pres.sq {K : PySem.W.Frag} {H H' : Hp} (p : Pres H H') {a : Addr} {xs : List V} (h : SqT K H a xs) : SqT K H' a xs := p.toPres0.sq h
theorem Pres.of {H H' : Hp} (old : ∀ a o, H a = some o → H' a = some o) : Pres H H' := ⟨⟨fun _ _ e => old _ _ e, fun _ _ _ e => old _ _ e⟩, fun _ _ _ e => old _ _ e⟩
theorem Pres.new {H : Hp} {p : Addr} {o : HO} (h : H p = none) : Pres H (upd H p o) :=
  .of fun a u e => by rw [upd_ne (ne_of_none e h)]; exact e
theorem Pres0.mut {H : Hp} {p : Addr} {o u : HO} (h : H p = some u) (h1 : ∀ xs, u ≠ .tup xs) (h2 : ∀ o x, u ≠ .frz o x) : Pres0 H (upd H p o) :=
  ⟨fun a xs e => by
    rw [upd_ne (fun q => by rw [q, h] at e; exact h1 _ (Option.some.inj e))]; exact e,
   fun a o' x e => by
    rw [upd_ne (fun q => by rw [q, h] at e; exact h2 _ _ (Option.some.inj e))]; exact e⟩
theorem Pres.mut {H : Hp} {p : Addr} {o u : HO} (h : H p = some u) (h1 : ∀ xs, u ≠ .tup xs) (h2 : ∀ o x, u ≠ .frz o x) (h3 : ∀ x, Beside p x → u ≠ .ext x := by exact (fun _ _ z => nomatch z)) : Pres H (upd H p o) :=
  ⟨.mut h h1 h2, fun a x b e => by
    rw [upd_ne (fun q => by subst q; rw [h] at e; exact h3 _ b (Option.some.inj e))]; exact e⟩

structure Nx (w : World) (K : PySem.W.Frag) (mg : Str → Option Value) (ι : Nat → Addr) (g : G) (H : Hp) (ι' : Nat → Addr) (g' : G) (H' : Hp) : Prop where
  rep : Rep w K mg ι' H' g'
  len : g.length ≤ g'.length
  agr : ∀ m, m < g.length → ι' m = ι m
  prs : Pres H H'
section
variable {w : World} {K : PySem.W.Frag} {mg : Str → Option Value} {ι ι' ι2 : Nat → Addr} {g g' g2 : G} {H H' H2 : Hp}
theorem Nx.refl (r : Rep w K mg ι H g) : Nx w K mg ι g H ι g H := ⟨r, Nat.le_refl _, fun _ _ => rfl, Pres.refl H⟩
theorem Nx.trans (a : Nx w K mg ι g H ι' g' H') (b : Nx w K mg ι' g' H' ι2 g2 H2) : Nx w K mg ι g H ι2 g2 H2 :=
  ⟨b.rep, Nat.le_trans a.len b.len, fun m h => (b.agr m (Nat.lt_of_lt_of_le h a.len)).trans (a.agr m h), a.prs.trans b.prs⟩
theorem RV.nx {d : D} {v : V} (r : RV K ι g.length H d v) (x : Nx w K mg ι g H ι' g' H') : RV K ι' g'.length H' d v := r.mono x.agr x.len fun _ _ h => x.prs.sq h
theorem RVs.nx {d : List D} {v : List V} (r : RVs K ι g.length H d v) (x : Nx w K mg ι g H ι' g' H') : RVs K ι' g'.length H' d v := r.mono x.agr x.len fun _ _ h => x.prs.sq h
theorem RKs.nx {κ : Type} {d : List (κ × D)} {v : List (κ × V)} (r : RKs K ι g.length H d v) (x : Nx w K mg ι g H ι' g' H') : RKs K ι' g'.length H' d v := r.mono x.agr x.len fun _ _ h => x.prs.sq h

theorem RO.tracked {n : Nat} {a : Addr} {o : O} (r : RO w K mg ι n H a o) : ∃ u, H a = some u ∧ (∀ xs, u ≠ .tup xs) ∧ (∀ y, u ≠ .own y) ∧ (∀ y, u ≠ .xd y) := by
  cases o with
  | lst l => obtain ⟨vs, e, _⟩ := r; exact ⟨_, e, (fun _ z => nomatch z), (fun _ z => nomatch z), (fun _ z => nomatch z)⟩
  | frz l => obtain ⟨ob, vs, e, _⟩ := r; exact ⟨_, e, (fun _ z => nomatch z), (fun _ z => nomatch z), (fun _ z => nomatch z)⟩
  | dct l => obtain ⟨vs, e, _⟩ := r; exact ⟨_, e, (fun _ z => nomatch z), (fun _ z => nomatch z), (fun _ z => nomatch z)⟩
  | fdc l => obtain ⟨ob, vs, e, _⟩ := r; exact ⟨_, e, (fun _ z => nomatch z), (fun _ z => nomatch z), (fun _ z => nomatch z)⟩
  | ins c fs => obtain ⟨C, dx, fvs, _, e, _⟩ := r; exact ⟨_, e, (fun _ z => nomatch z), (fun _ z => nomatch z), (fun _ z => nomatch z)⟩
  | dtt l => obtain ⟨xs, e, _⟩ := r; exact ⟨_, e, (fun _ z => nomatch z), (fun _ z => nomatch z), (fun _ z => nomatch z)⟩
  | exv c fs => obtain ⟨C, dd, _, e, _⟩ := r; exact ⟨_, e, (fun _ z => nomatch z), (fun _ z => nomatch z), (fun _ z => nomatch z)⟩
  | exn c fs => obtain ⟨C, dd, _, e, _⟩ := r; exact ⟨_, e, (fun _ z => exo_tup z), (fun _ z => exo_own z), (fun _ z => exo_xd z)⟩
/-- an object stays under a change elsewhere -/
theorem RO.upd {n n' : Nat} {a p : Addr} {o : O} {u : HO} (r : RO w K mg ι n H a o) (h1 : ∀ m, m < n → ι' m = ι m) (h2 : n ≤ n') (h3 : Pres0 H (upd H p u)) (hp : a ≠ p) (hd : ∀ u, H p = some u → (∀ y, u ≠ .own y) ∧ ∀ y, u ≠ .xd y) : RO w K mg ι' n' (upd H p u) a o := by
  have h3' : ∀ a xs, SqT K H a xs → SqT K (L2.upd H p u) a xs := fun _ _ h => h3.sq h
  cases o with
  | lst l => obtain ⟨vs, e, r⟩ := r; exact ⟨vs, by rw [upd_ne hp]; exact e, r.mono h1 h2 h3'⟩
  | frz l => obtain ⟨ob, vs, e, r⟩ := r; exact ⟨ob, vs, by rw [upd_ne hp]; exact e, r.mono h1 h2 h3'⟩
  | dct l => obtain ⟨vs, e, r⟩ := r; exact ⟨vs, by rw [upd_ne hp]; exact e, r.mono h1 h2 h3'⟩
  | fdc l => obtain ⟨ob, vs, e, r⟩ := r; exact ⟨ob, vs, by rw [upd_ne hp]; exact e, r.mono h1 h2 h3'⟩
  | ins c fs =>
    obtain ⟨C, dx, fvs, ec, e, ed, r⟩ := r
    exact ⟨C, dx, fvs, ec, by rw [upd_ne hp]; exact e, by rw [upd_ne (fun q => (hd _ (by rw [← q]; exact ed)).1 a rfl)]; exact ed, r.mono h1 h2 h3'⟩
  | dtt l => obtain ⟨xs, e, e2, e3, e4, r⟩ := r; exact ⟨xs, by rw [upd_ne hp]; exact e, e2, e3, e4, r.mono h1 h2 h3'⟩
  | exv c fs =>
    obtain ⟨C, dd, ec, e, r⟩ := r
    refine ⟨C, dd, ec, by rw [upd_ne hp]; exact e, ?_⟩
    rcases r with r | ⟨dx, fvs, ed, ex, r⟩
    · exact .inl r
    · exact .inr ⟨dx, fvs, ed, by rw [upd_ne (fun q => (hd _ (by rw [← q]; exact ex)).2 fvs rfl)]; exact ex, r.mono h1 h2 h3'⟩
  | exn c fs =>
    obtain ⟨C, dd, ec, e, r⟩ := r
    refine ⟨C, dd, ec, by rw [upd_ne hp]; exact e, ?_⟩
    rcases r with r | ⟨ne, dx, fvs, ed, ex, r⟩
    · exact .inl r
    · exact .inr ⟨ne, dx, fvs, ed, by rw [upd_ne (fun q => (hd _ (by rw [← q]; exact ex)).2 fvs rfl)]; exact ex, r.mono h1 h2 h3'⟩
/-- the addresses with one more -/
def ix (ι : Nat → Addr) (n : Nat) (p : Addr) : Nat → Addr := fun m => if m = n then p else ι m
theorem ix_same {n : Nat} {p : Addr} : ix ι n p n = p := if_pos rfl
theorem ix_lt {n m : Nat} {p : Addr} (h : m < n) : ix ι n p m = ι m := if_neg (Nat.ne_of_lt h)
/-- a new object -/
theorem Nx.new {p : Addr} {o : O} {u : HO} (r : Rep w K mg ι H g) (hp : H p = none) (ho : RO w K mg (ix ι g.length p) (g.length + 1) (upd H p u) p o) : Nx w K mg ι g H (ix ι g.length p) (g ++ [o]) (upd H p u) := by
  have pr : Pres H (upd H p u) := Pres.new hp
  have len : (g ++ [o]).length = g.length + 1 := by simp
  have lt : ∀ m, m < g.length → ι m ≠ p := fun m h e => by
    obtain ⟨w, hw, _⟩ := (r.obj m g[m] (by simp [h])).tracked
    rw [e, hp] at hw; cases hw
  refine ⟨⟨fun m ob e => ?_, fun m k hm hk e => ?_⟩, by rw [len]; exact Nat.le_succ _, fun m h => ix_lt h, pr⟩
  · rw [len]
    by_cases h : m < g.length
    · rw [List.getElem?_append_left h] at e
      rw [ix_lt h]
      exact (r.obj m ob e).upd (fun k hk => ix_lt hk) (Nat.le_succ _) pr.toPres0 (lt m h) fun y z => by rw [hp] at z; cases z
    · rw [List.getElem?_append_right (Nat.le_of_not_lt h)] at e
      have hm : m = g.length := by
        have : m - g.length < 1 := (List.getElem?_eq_some_iff.mp e).1
        omega
      subst hm
      rw [Nat.sub_self] at e
      cases e
      rw [ix_same]
      exact ho
  · rw [len] at hm hk
    by_cases h : m < g.length
    · by_cases h' : k < g.length
      · rw [ix_lt h, ix_lt h'] at e; exact r.inj m k h h' e
      · have hk' : k = g.length := by omega
        rw [hk', ix_same, ix_lt h] at e
        exact absurd e (lt m h)
    · have hm' : m = g.length := by omega
      by_cases h' : k < g.length
      · rw [hm', ix_same, ix_lt h'] at e
        exact absurd e.symm (lt k h')
      · omega
/-- a new list -/
theorem Nx.newL {p : Addr} {l : List D} {vs : List V} (r : Rep w K mg ι H g) (hp : H p = none) (h : RVs K ι g.length H l vs) : Nx w K mg ι g H (ix ι g.length p) (g ++ [.lst l]) (upd H p (.lst vs)) :=
  .new r hp ⟨vs, upd_same, h.mono (fun m hm => ix_lt hm) (Nat.le_succ _) fun _ _ h => (Pres.new hp).sq h⟩
/-- a new tuple (no object of ours) -/
theorem Nx.newT {p : Addr} {vs : List V} (r : Rep w K mg ι H g) (hp : H p = none) : Nx w K mg ι g H ι g (upd H p (.tup vs)) := by
  have pr : Pres H (upd H p (.tup vs)) := Pres.new hp
  refine ⟨⟨fun m ob e => ?_, r.inj⟩, Nat.le_refl _, fun _ _ => rfl, pr⟩
  have hm := (List.getElem?_eq_some_iff.mp e).1
  obtain ⟨w, hw, _⟩ := (r.obj m ob e).tracked
  exact (r.obj m ob e).upd (fun k hk => rfl) (Nat.le_refl _) pr.toPres0 (ne_of_none hw hp) fun y z => by rw [hp] at z; cases z
/-- an object of ours is written -/
theorem Nx.upd {m : Nat} {o o' : O} {u : HO} (r : Rep w K mg ι H g) (e : g[m]? = some o) (pr : Pres H (upd H (ι m) u)) (ho : RO w K mg ι g.length (upd H (ι m) u) (ι m) o') : Nx w K mg ι g H ι (g.set m o') (upd H (ι m) u) := by
  have hm := (List.getElem?_eq_some_iff.mp e).1
  obtain ⟨w, hw, _, hown, hxd⟩ := (r.obj m o e).tracked
  refine ⟨⟨fun k ob q => ?_, fun a b ha hb => ?_⟩, by simp, fun _ _ => rfl, pr⟩
  · rw [List.length_set]
    by_cases hk : m = k
    · subst hk
      rw [List.getElem?_set_self hm] at q
      cases q
      exact ho
    · rw [List.getElem?_set_ne hk] at q
      have hk' := (List.getElem?_eq_some_iff.mp q).1
      exact (r.obj k ob q).upd (fun _ _ => rfl) (Nat.le_refl _) pr.toPres0 (fun z => hk (r.inj m k hm hk' z.symm)) fun u z => by rw [hw] at z; cases z; exact ⟨hown, hxd⟩
  · rw [List.length_set] at ha hb
    exact r.inj a b ha hb
theorem Nx.setL {m : Nat} {l l' : List D} {vs' : List V} (r : Rep w K mg ι H g) (e : g[m]? = some (.lst l)) (h : RVs K ι g.length H l' vs') : Nx w K mg ι g H ι (g.set m (.lst l')) (L2.upd H (ι m) (.lst vs')) := by
  obtain ⟨vs, ev, _⟩ := r.obj m _ e
  have pr : Pres H (L2.upd H (ι m) (.lst vs')) := Pres.mut ev (fun _ z => nomatch z) (fun _ _ z => nomatch z)
  exact .upd r e pr ⟨vs', upd_same, h.mono (fun _ _ => rfl) (Nat.le_refl _) fun _ _ h => pr.sq h⟩
/-- what we do not know (a set on the way) is written: seen from where it was not yet -/
theorem Nx.ext {H1 : Hp} {ι1 : Nat → Addr} {g1 : G} {D : Addr} {p : Heap → Prop} (x : Nx w K mg ι g H ι1 g1 H1) (h0 : H D = none) (h1 : H1 D = none ∨ ∃ q, Beside D q ∧ H1 D = some (.ext q)) : Nx w K mg ι g H ι1 g1 (L2.upd H1 D (.ext p)) := by
  have p0 : Pres0 H1 (L2.upd H1 D (.ext p)) := by
    rcases h1 with h1 | ⟨q, _, h1⟩
    · exact (Pres.new h1).toPres0
    · exact Pres0.mut h1 (fun _ z => nomatch z) (fun _ _ z => nomatch z)
  refine ⟨⟨fun m ob e => ?_, x.rep.inj⟩, x.len, x.agr, ⟨⟨fun a xs e => p0.tup _ _ (x.prs.tup _ _ e), fun a o u e => p0.frz _ _ _ (x.prs.frz _ _ _ e)⟩, fun a q b e => ?_⟩⟩
  · have z := x.rep.obj m ob e
    refine z.upd (fun _ _ => rfl) (Nat.le_refl _) p0 (fun q => ?_) fun y q => ?_
    · rcases h1 with h1 | ⟨q', bs, h1⟩
      · obtain ⟨w, hw, _⟩ := z.tracked
        rw [q, h1] at hw
        cases hw
      · rw [q] at z
        cases ob with
        | lst l => obtain ⟨_, e, _⟩ := z; rw [h1] at e; cases e
        | frz l => obtain ⟨_, _, e, _⟩ := z; rw [h1] at e; cases e
        | dct l => obtain ⟨_, e, _⟩ := z; rw [h1] at e; cases e
        | fdc l => obtain ⟨_, _, e, _⟩ := z; rw [h1] at e; cases e
        | ins c fs => obtain ⟨_, _, _, _, e, _⟩ := z; rw [h1] at e; cases e
        | dtt l => obtain ⟨_, e, _⟩ := z; rw [h1] at e; exact beside_dn bs (Option.some.inj e)
        | exv c fs => obtain ⟨_, _, _, e, _⟩ := z; rw [h1] at e; exact beside_exv bs (Option.some.inj e)
        | exn c fs => obtain ⟨_, _, _, e, _⟩ := z; rw [h1] at e; exact beside_exn bs (Option.some.inj e)
    · rcases h1 with h1 | ⟨q', _, h1⟩
      · rw [h1] at q; cases q
      · rw [h1] at q; cases q; exact ⟨(fun _ z => nomatch z), (fun _ z => nomatch z)⟩
  · rw [upd_ne (fun q2 => by rw [q2, h0] at e; cases e)]
    exact x.prs.ext _ _ b e
end
end Fc

set_option Elab.async false
set_option linter.all false
set_option maxRecDepth 100000
set_option maxHeartbeats 4000000
/-! Fb: what a piece of syntax does to data: judgements. -/
namespace Fc
open PySem PySem.Spec PyProof.Rows L2

/-- how an exception stands: its class by name, its fields in its own dict -/
def RX (w : World) (K : PySem.W.Frag) (mg : Str → Option Value) (ι : Nat → Addr) (n : Nat) (H : Hp) (c : Str) (fs : List (Str × D)) (cls : Value) (dd : Option Addr) : Prop :=
  ∃ C, mg c = some (.ref C) ∧ cls = .ref C ∧ ((fs = [] ∧ dd = none) ∨ ∃ d fvs, dd = some d ∧ H d = some (.xd fvs) ∧ RKs K ι n H fs fvs)
/-- the slots -/
structure REnv (K : PySem.W.Frag) (ι : Nat → Addr) (n : Nat) (H : Hp) (ρ : Ev) (σ : L2.St) : Prop where
  len : ρ.length = σ.length
  get : ∀ (i : Nat) (d : D), ρ[i]? = some (some d) → ∃ v, σ[i]? = some (some v) ∧ RV K ι n H d v

/-- what is wanted of an outcome -/
def Tc {α β : Type} (w : World) (K : PySem.W.Frag) (mg : Str → Option Value) (Rl : (Nat → Addr) → Nat → Hp → α → β → Prop) (W : WX) (σ : L2.St) (H : Hp) (ι : Nat → Addr) (g : G) (r : Re α) (Q : β → Hp → Prop) : Prop := match r with
  | .ok d g' => ∀ ι' H' v, Nx w K mg ι g H ι' g' H' → Rl ι' g'.length H' d v → Q v H'
  | .ex c fs g' => ∀ ι' H' cls dd, Nx w K mg ι g H ι' g' H' → RX w K mg ι' g'.length H' c fs cls dd → W cls dd σ H'
  | .bad => False
/-- the reading of a piece of syntax that does f -/
def tF {α β : Type} (w : World) (K : PySem.W.Frag) (mg : Str → Option Value) (Rl : (Nat → Addr) → Nat → Hp → α → β → Prop) (W : WX) (f : Ev → G → Re α) : L2.St → Hp → (β → Hp → Prop) → Prop := fun σ H Q =>
  ∃ ι ρ g, Rep w K mg ι H g ∧ REnv K ι g.length H ρ σ ∧ Tc w K mg Rl W σ H ι g (f ρ g) Q
abbrev Rb {α : Type} : (Nat → Addr) → Nat → Hp → α → α → Prop := fun _ _ _ a b => a = b

section
variable {w : World} {K : PySem.W.Frag} {mg : Str → Option Value} {ι ι1 : Nat → Addr} {g g1 : G} {H H1 : Hp} {ρ : Ev} {σ : L2.St} {W : WX}
theorem REnv.nx (r : REnv K ι g.length H ρ σ) (x : Nx w K mg ι g H ι1 g1 H1) : REnv K ι1 g1.length H1 ρ σ := ⟨r.len, fun i d e => by
  obtain ⟨v, h, q⟩ := r.get i d e
  exact ⟨v, h, q.nx x⟩⟩
theorem REnv.set (r : REnv K ι g.length H ρ σ) {d : D} {v : V} (q : RV K ι g.length H d v) (i : Nat) : REnv K ι g.length H (ρ.set i (some d)) (σ.set i (some v)) := by
  refine ⟨by simp [r.len], fun j e h => ?_⟩
  by_cases hj : i = j
  · subst hj
    by_cases hi : i < ρ.length
    · rw [List.getElem?_set_self hi] at h
      cases h
      exact ⟨v, List.getElem?_set_self (by rw [← r.len]; exact hi), q⟩
    · rw [List.getElem?_eq_none_iff.mpr (by simp; omega)] at h
      cases h
  · rw [List.getElem?_set_ne hj] at h
    obtain ⟨w, h1, h2⟩ := r.get j e h
    exact ⟨w, by rw [List.getElem?_set_ne hj]; exact h1, h2⟩
section
variable {α β γ δ : Type} {Rl : (Nat → Addr) → Nat → Hp → α → β → Prop} {Rm : (Nat → Addr) → Nat → Hp → γ → δ → Prop}
theorem Tc.base {r : Re α} {Q : β → Hp → Prop} (x : Nx w K mg ι g H ι1 g1 H1) (h : Tc w K mg Rl W σ H ι g r Q) : Tc w K mg Rl W σ H1 ι1 g1 r Q := by
  cases r with
  | ok d g' => exact fun ι' H' v y q => h ι' H' v (x.trans y) q
  | ex c fs g' => exact fun ι' H' cls dd y q => h ι' H' cls dd (x.trans y) q
  | bad => exact h
theorem Tc.imp {r : Re α} {Q Q' : β → Hp → Prop} (h : Tc w K mg Rl W σ H ι g r Q) (k : ∀ v H', Q v H' → Q' v H') : Tc w K mg Rl W σ H ι g r Q' := by
  cases r with
  | ok d g' => exact fun ι' H' v y q => k _ _ (h ι' H' v y q)
  | ex c fs g' => exact h
  | bad => exact h
theorem Tc.bind {r : Re α} {k : α → G → Re γ} {Q : δ → Hp → Prop} {P : β → Hp → Prop} (h : Tc w K mg Rm W σ H ι g (r.bind k) Q)
    (hk : ∀ a g1 ι1 H1 b, Nx w K mg ι g H ι1 g1 H1 → Rl ι1 g1.length H1 a b → Tc w K mg Rm W σ H1 ι1 g1 (k a g1) Q → P b H1) : Tc w K mg Rl W σ H ι g r P := by
  cases r with
  | ok d g' => exact fun ι' H' v y q => hk d g' ι' H' v y q (Tc.base y h)
  | ex c fs g' => exact h
  | bad => exact h
theorem Tc.ok {d : α} {g' : G} {Q : β → Hp → Prop} (h : Tc w K mg Rl W σ H ι g (.ok d g') Q) {ι' : Nat → Addr} {H' : Hp} {v : β} (x : Nx w K mg ι g H ι' g' H') (q : Rl ι' g'.length H' d v) : Q v H' := h ι' H' v x q
end
end

/-! ### judgements -/
section
variable (X : Cx) (W : WX)
def FE (e : Expr) (f : Ev → G → Re D) : Prop := PE X e (tF X.w X.K X.mg (RV X.K) W f)
def FT (e : Expr) (f : Ev → G → Re Bool) : Prop := PT X e (tF X.w X.K X.mg Rb W f)
def FA (es : List Expr) (f : Ev → G → Re (List D)) : Prop := PA X es (tF X.w X.K X.mg (RVs X.K) W f)
end
theorem PE.imp {X : Cx} {e : Expr} {t t' : TE} (h : PE X e t) (k : ∀ σ H Q, t' σ H Q → t σ H Q) : PE X e t' := ⟨fun pins s σ H Q I q => h.run pins s σ H Q I (k σ H Q q)⟩
theorem PT.imp {X : Cx} {e : Expr} {t t' : TT} (h : PT X e t) (k : ∀ σ H Q, t' σ H Q → t σ H Q) : PT X e t' := ⟨fun pins s σ H Q I q => h.run pins s σ H Q I (k σ H Q q)⟩
theorem PW.imp {X : Cx} {e : Expr} {t t' : TT} (h : PW X e t) (k : ∀ σ H Q, t' σ H Q → t σ H Q) : PW X e t' := ⟨fun w pins s σ H Q I q => h.run w pins s σ H Q I (k σ H Q q)⟩
theorem PA.imp {X : Cx} {e : List Expr} {t t' : TA} (h : PA X e t) (k : ∀ σ H Q, t' σ H Q → t σ H Q) : PA X e t' := ⟨fun p pins s σ H Q I q => h.run p pins s σ H Q I (k σ H Q q)⟩
theorem PS.imp {X : Cx} {e : Stmt} {t t' : TS} (h : PS X e t) (k : ∀ D σ H, t' D σ H → t D σ H) : PS X e t' := ⟨fun pins s σ H D I q => h.run pins s σ H D I (k D σ H q)⟩
theorem PSs.imp {X : Cx} {e : List Stmt} {t t' : TS} (h : PSs X e t) (k : ∀ D σ H, t' D σ H → t D σ H) : PSs X e t' := ⟨fun pins s σ H D I q => h.run pins s σ H D I (k D σ H q)⟩

/-! ### names, constants -/
def fVar (i : Nat) : Ev → G → Re D := fun ρ g => match ρ[i]? with
  | some (some d) => .ok d g
  | _ => .bad
def fC (d : D) : Ev → G → Re D := fun _ g => .ok d g
section
variable {X : Cx} {W : WX} {x : Str} {pos : Pos}
theorem fe_var (i : Nat) (hN : X.N[i]? = some x := by rfl) (hv : Vis X.env.scope x := by first | exact Or.inl rfl | exact Or.inr (Or.inl rfl) | exact Or.inr (Or.inr rfl)) (hd : (x == ("__debug__" : Str)) = false := by decide)
    (hcd : (x == ("__classdict__" : Str)) = false := by decide) : FE X W (.Name x pos) (fVar i) := PE.imp (pe_var hN hv hd hcd) fun σ H Q ⟨ι, ρ, g, r, re, h⟩ => by
  unfold fVar at h
  split at h
  · rename_i d e
    obtain ⟨v, e1, e2⟩ := re.get i d e
    exact ⟨v, e1, h.ok (.refl r) e2⟩
  · exact h.elim
theorem fe_c {e : Expr} {d : D} {v : V} (h : PE X e (tC v)) (r : ∀ ι n H, RV X.K ι n H d v) : FE X W e (fC d) := PE.imp h fun σ H Q ⟨ι, ρ, g, rp, _, h⟩ => h.ok (.refl rp) (r _ _ _)
theorem fe_int {i : Int} {j} : FE X W (.Constant (.int i) j pos) (fC (.int i)) := fe_c pe_int fun _ _ _ => .int i
theorem fe_bl {b : Bool} {j} : FE X W (.Constant (.bool b) j pos) (fC (.bl b)) := fe_c pe_bl fun _ _ _ => .bl b
theorem fe_non {j} : FE X W (.Constant .none j pos) (fC .non) := fe_c pe_non fun _ _ _ => .non
theorem fe_str {x : Str} {j} : FE X W (.Constant (.str x) j pos) (fC (.str x)) := fe_c pe_str fun _ _ _ => .str x
end

/-! ### operations on values -/
def Vc (w : World) (K : PySem.W.Frag) (mg : Str → Option Value) (H : Hp) (ι : Nat → Addr) (g : G) (r : Re D) (Q : VK) : Prop := match r with
  | .ok d g' => ∀ ι' H' v, Nx w K mg ι g H ι' g' H' → RV K ι' g'.length H' d v → Q v H'
  | _ => False
theorem Vc.of {w : World} {K : PySem.W.Frag} {mg : Str → Option Value} {W : WX} {σ : L2.St} {H : Hp} {ι : Nat → Addr} {g : G} {r : Re D} {Q : VK} (hx : ∀ c fs g', r ≠ .ex c fs g') (h : Tc w K mg (RV K) W σ H ι g r Q) : Vc w K mg H ι g r Q := by
  cases r with
  | ok d g' => exact h
  | ex c fs g' => exact absurd rfl (hx c fs g')
  | bad => exact h
abbrev Op2 := D → D → G → Re D
abbrev Op1 := D → G → Re D
abbrev OpN := List D → G → Re D
def noEx {α : Type} (r : Re α) : Re α := match r with
  | .ex _ _ _ => .bad
  | r => r
theorem Vc.noEx {w : World} {K : PySem.W.Frag} {mg : Str → Option Value} {W : WX} {σ : L2.St} {H : Hp} {ι : Nat → Addr} {g : G} {r : Re D} {Q : VK} (h : Tc w K mg (RV K) W σ H ι g (noEx r) Q) : Vc w K mg H ι g r Q := by
  cases r with
  | ok d g' => exact h
  | ex c fs g' => exact h.elim
  | bad => exact h
/-- f does o -/
def OpS (X : Cx) (f : Value → Value → Sem Value) (o : Op2) : Prop := ∃ r, OpR X f r ∧ ∀ ι g H a b x y Q, Rep X.w X.K X.mg ι H g → RV X.K ι g.length H a x → RV X.K ι g.length H b y → Vc X.w X.K X.mg H ι g (o a b g) Q → r x y H Q
def UnS (X : Cx) (f : Value → Sem Value) (o : Op1) : Prop := ∃ r, UnR X f r ∧ ∀ ι g H a x Q, Rep X.w X.K X.mg ι H g → RV X.K ι g.length H a x → Vc X.w X.K X.mg H ι g (o a g) Q → r x H Q
def CallS (X : Cx) (f : Value) (o : OpN) : Prop := ∃ r, CallR X f r ∧ ∀ ι g H as xs Q, Rep X.w X.K X.mg ι H g → RVs X.K ι g.length H as xs → Vc X.w X.K X.mg H ι g (o as g) Q → r xs H Q
def IxS (X : Cx) (o : Op2) : Prop := ∃ r, IxR X r ∧ ∀ ι g H a b x y Q, Rep X.w X.K X.mg ι H g → RV X.K ι g.length H a x → RV X.K ι g.length H b y → Vc X.w X.K X.mg H ι g (o a b g) Q → r x y H Q
/-- one or the other -/
def Op2.or (o p : Op2) : Op2 := fun a b g => match o a b g with
  | .ok d g' => .ok d g'
  | _ => p a b g
theorem OpS.or {X : Cx} {f : Value → Value → Sem Value} {o p : Op2} (h : OpS X f o) (k : OpS X f p) : OpS X f (o.or p) := by
  obtain ⟨r, hr, h⟩ := h
  obtain ⟨r', hr', k⟩ := k
  refine ⟨fun x y H Q => r x y H Q ∨ r' x y H Q, fun pins s σ H x y v u Q I rx ry q => q.elim (hr pins s σ H x y v u Q I rx ry) (hr' pins s σ H x y v u Q I rx ry), fun ι g H a b x y Q rp ra rb q => ?_⟩
  unfold Op2.or at q
  split at q
  · rename_i e
    exact .inl (h ι g H a b x y Q rp ra rb (by rw [e]; exact q))
  · exact .inr (k ι g H a b x y Q rp ra rb q)
theorem IxS.or {X : Cx} {o p : Op2} (h : IxS X o) (k : IxS X p) : IxS X (o.or p) := by
  obtain ⟨r, hr, h⟩ := h
  obtain ⟨r', hr', k⟩ := k
  refine ⟨fun x y H Q => r x y H Q ∨ r' x y H Q, hr.or hr', fun ι g H a b x y Q rp ra rb q => ?_⟩
  unfold Op2.or at q
  split at q
  · rename_i e
    exact .inl (h ι g H a b x y Q rp ra rb (by rw [e]; exact q))
  · exact .inr (k ι g H a b x y Q rp ra rb q)

def fBin (o : Op2) (fa fb : Ev → G → Re D) : Ev → G → Re D := fun ρ g => (fa ρ g).bind fun a g1 => (fb ρ g1).bind fun b g2 => noEx (o a b g2)
def fUn (o : Op1) (fa : Ev → G → Re D) : Ev → G → Re D := fun ρ g => (fa ρ g).bind fun a g1 => noEx (o a g1)
def fNil : Ev → G → Re (List D) := fun _ g => .ok [] g
def fCons (fa : Ev → G → Re D) (fr : Ev → G → Re (List D)) : Ev → G → Re (List D) := fun ρ g => (fa ρ g).bind fun a g1 => (fr ρ g1).bind fun r g2 => .ok (a :: r) g2
def fTup (fr : Ev → G → Re (List D)) : Ev → G → Re D := fun ρ g => (fr ρ g).bind fun r g1 => if r.length ≤ sizeLine then .ok (.tup r) g1 else .bad
def fLst (fr : Ev → G → Re (List D)) : Ev → G → Re D := fun ρ g => (fr ρ g).bind fun r g1 => if r.length ≤ sizeLine then .ok (.ref g1.length) (g1 ++ [.lst r]) else .bad
def fCall (o : OpN) (fr : Ev → G → Re (List D)) : Ev → G → Re D := fun ρ g => (fr ρ g).bind fun r g1 => noEx (o r g1)
section
variable {X : Cx} {W : WX} {pos : Pos} {a b : Expr} {es : List Expr} {fa fb : Ev → G → Re D} {fr : Ev → G → Re (List D)}
theorem two {σ : L2.St} {H : Hp} {Q : VK} {o : Op2} {r : R2} (ho : ∀ ι g H a b x y Q, Rep X.w X.K X.mg ι H g → RV X.K ι g.length H a x → RV X.K ι g.length H b y → Vc X.w X.K X.mg H ι g (o a b g) Q → r x y H Q)
    (h : tF X.w X.K X.mg (RV X.K) W (fBin o fa fb) σ H Q) : tOp r (tF X.w X.K X.mg (RV X.K) W fa) (tF X.w X.K X.mg (RV X.K) W fb) σ H Q := by
  obtain ⟨ι, ρ, g, rp, re, h⟩ := h
  refine ⟨ι, ρ, g, rp, re, h.bind fun d g1 ι1 H1 v x1 q1 h1 => ⟨ι1, ρ, g1, x1.rep, re.nx x1, h1.bind fun e g2 ι2 H2 w x2 q2 h2 => ?_⟩⟩
  exact ho ι2 g2 H2 d e v w Q x2.rep (q1.nx x2) q2 (Vc.noEx h2)
theorem fe_bin {op : Operator} {o : Op2} (ho : OpS X (binaryOp op) o) (ha : FE X W a fa) (hb : FE X W b fb) : FE X W (.BinOp a op b pos) (fBin o fa fb) := by
  obtain ⟨r, hr, k⟩ := ho
  exact PE.imp (pe_op hr ha hb) fun σ H Q h => two k h
theorem fe_cmp {op : CmpOp} {o : Op2} (ho : OpS X (compareOp op) o) (ha : FE X W a fa) (hb : FE X W b fb) (hm : behindInMarks op b = false := by rfl) : FE X W (.Compare a [op] [b] pos) (fBin o fa fb) := by
  obtain ⟨r, hr, k⟩ := ho
  exact PE.imp (pe_cmpR hr ha hb hm) fun σ H Q h => two k h
theorem fe_un {op : UnaryOp} {o : Op1} (ho : UnS X (unaryOp op) o) (ha : FE X W a fa) : FE X W (.UnaryOp op a pos) (fUn o fa) := by
  obtain ⟨r, hr, k⟩ := ho
  refine PE.imp (pe_un hr ha) fun σ H Q ⟨ι, ρ, g, rp, re, h⟩ => ⟨ι, ρ, g, rp, re, h.bind fun d g1 ι1 H1 v x1 q1 h1 => ?_⟩
  exact k ι1 g1 H1 d v Q x1.rep q1 (Vc.noEx h1)
theorem fe_ix {o : Op2} (ho : IxS X o) (ha : FE X W a fa) (hb : FE X W b fb) (hs : PlainIx b := by exact fun _ _ => rfl) : FE X W (.Subscript a b pos) (fBin o fa fb) := by
  obtain ⟨r, hr, k⟩ := ho
  exact PE.imp (pe_ix hr ha hb hs) fun σ H Q h => two k h
theorem fa_nil : FA X W [] fNil := PA.imp pa_nil fun σ H Q ⟨ι, ρ, g, rp, re, h⟩ => h.ok (.refl rp) .nil
theorem fa_cons (ha : FE X W a fa) (hr : FA X W es fr) (hs : starEach (a :: es) X.env = (false, eval a X.env) :: starEach es X.env := by rfl) : FA X W (a :: es) (fCons fa fr) :=
  PA.imp (pa_cons ha hr hs) fun σ H Q ⟨ι, ρ, g, rp, re, h⟩ => ⟨ι, ρ, g, rp, re, h.bind fun d g1 ι1 H1 v x1 q1 h1 => ⟨ι1, ρ, g1, x1.rep, re.nx x1, h1.bind fun e g2 ι2 H2 w x2 q2 h2 => h2.ok (.refl x2.rep) (.cons (q1.nx x2) q2)⟩⟩
theorem fe_tup {k} (hr : FA X W es fr) : FE X W (.Tuple es k pos) (fTup fr) :=
  PE.imp (pe_tup hr) fun σ H Q ⟨ι, ρ, g, rp, re, h⟩ => ⟨ι, ρ, g, rp, re, h.bind fun d g1 ι1 H1 v x1 q1 h1 => by
    split at h1
    · rename_i hl
      refine ⟨by rw [q1.length]; exact hl, fun p hp => h1.ok (.newT x1.rep hp) (.tup (SqT.of upd_same) (q1.nx (Nx.newT (vs := v) x1.rep hp)))⟩
    · exact h1.elim⟩
theorem fe_lst (hr : FA X W es fr) : FE X W (.List es pos) (fLst fr) :=
  PE.imp (pe_lst hr) fun σ H Q ⟨ι, ρ, g, rp, re, h⟩ => ⟨ι, ρ, g, rp, re, h.bind fun d g1 ι1 H1 v x1 q1 h1 => by
    split at h1
    · rename_i hl
      refine ⟨by rw [q1.length]; exact hl, fun p hp => ?_⟩
      have y := Nx.newL x1.rep hp q1
      refine h1.ok y ?_
      have z := RV.ref (K := X.K) (ι := ix ι1 g1.length p) (n := (g1 ++ [O.lst d]).length) (H := upd H1 p (.lst v)) (m := g1.length) (by simp)
      rw [ix_same] at z
      exact z
    · exact h1.elim⟩
theorem fe_callB {x : Str} {id : String} {o : OpN} {p : Pos} (ho : CallS X (.builtin id) o) (hm : X.mg x = none) (hv : bootBuiltins x = some (.builtin id)) (hr : FA X W (a :: es) fr) (hg : Gl X x := by rfl) (hn : x ≠ "__name__" := by decide) (hdb : (x == ("__debug__" : Str)) = false := by decide)
    (he : starEach (a :: es) X.env = (false, eval a X.env) :: starEach es X.env := by rfl) (hpl : (backTo pos (starEach es X.env)).any (·.1) = false := by rfl) : FE X W (.Call (.Name x p) (a :: es) [] pos) (fCall o fr) := by
  obtain ⟨r, hr', k⟩ := ho
  exact PE.imp (pe_callB hr' hg hm hv hr hn hdb he hpl) fun σ H Q ⟨ι, ρ, g, rp, re, h⟩ => ⟨ι, ρ, g, rp, re, h.bind fun d g1 ι1 H1 v x1 q1 h1 => k ι1 g1 H1 d v Q x1.rep q1 (Vc.noEx h1)⟩
theorem fe_callTy {x : Str} {T : String} {o : OpN} {p : Pos} (ho : CallS X (.type T) o) (hm : X.mg x = none) (hv : bootBuiltins x = some (.type T)) (hr : FA X W (a :: es) fr) (hg : Gl X x := by rfl) (hn : x ≠ "__name__" := by decide) (hdb : (x == ("__debug__" : Str)) = false := by decide)
    (he : starEach (a :: es) X.env = (false, eval a X.env) :: starEach es X.env := by rfl) (hpl : (backTo pos (starEach es X.env)).any (·.1) = false := by rfl) : FE X W (.Call (.Name x p) (a :: es) [] pos) (fCall o fr) := by
  obtain ⟨r, hr', k⟩ := ho
  exact PE.imp (pe_callTy hr' hg hm hv hr hn hdb he hpl) fun σ H Q ⟨ι, ρ, g, rp, re, h⟩ => ⟨ι, ρ, g, rp, re, h.bind fun d g1 ι1 H1 v x1 q1 h1 => k ι1 g1 H1 d v Q x1.rep q1 (Vc.noEx h1)⟩
end

/-! ### tests, and, or, not -/
def fTest (f : Ev → G → Re D) : Ev → G → Re Bool := fun ρ g => (f ρ g).bind fun d g1 => match d with
  | .bl b => .ok b g1
  | _ => .bad
def fNotT (f : Ev → G → Re Bool) : Ev → G → Re Bool := fun ρ g => (f ρ g).bind fun b g1 => .ok (!b) g1
def fIfE (c : Ev → G → Re Bool) (f h : Ev → G → Re D) : Ev → G → Re D := fun ρ g => (c ρ g).bind fun b g1 => if b = true then f ρ g1 else h ρ g1
section
variable {X : Cx} {W : WX} {pos : Pos} {a b c : Expr} {es rest : List Expr} {fa fb : Ev → G → Re D} {ft fu : Ev → G → Re Bool}
theorem RVs.isEmpty {K : PySem.W.Frag} {ι : Nat → Addr} {n : Nat} {H : Hp} {ds : List D} {vs : List V} (r : RVs K ι n H ds vs) : vs.isEmpty = ds.isEmpty := by cases r <;> rfl
theorem RKs.isEmpty {κ : Type} {K : PySem.W.Frag} {ι : Nat → Addr} {n : Nat} {H : Hp} {ds : List (κ × D)} {vs : List (κ × V)} (r : RKs K ι n H ds vs) : vs.isEmpty = ds.isEmpty := by cases r <;> rfl
theorem ft_val (h : FE X W a fa) (he : ∀ whole, isTrue a X.env whole = (do let v ← whole; standAt a.pos; holding [v] (truthy v)) := by intro _; rfl) : FT X W a (fTest fa) :=
  PT.imp (pt_val h he) fun σ H Q ⟨ι, ρ, g, rp, re, h⟩ => ⟨ι, ρ, g, rp, re, h.bind fun d g1 ι1 H1 v x1 q1 h1 => by
    cases q1 with
    | bl b => exact ⟨b, rfl, h1.ok (.refl x1.rep) rfl⟩
    | _ => exact h1.elim⟩
theorem ft_cmp {op : CmpOp} {o : Op2} (ho : OpS X (compareOp op) o) (ha : FE X W a fa) (hb : FE X W b fb) (hm : behindInMarks op b = false := by rfl) : FT X W (.Compare a [op] [b] pos) (fTest (fBin o fa fb)) := by
  obtain ⟨r, hr, k⟩ := ho
  refine PT.imp (pt_cmpR hr ha hb hm) fun σ H Q ⟨ι, ρ, g, rp, re, h⟩ => ?_
  refine two k ⟨ι, ρ, g, rp, re, ?_⟩
  refine h.bind fun d g1 ι1 H1 v x1 q1 h1 => ?_
  cases q1 with
  | bl b => exact ⟨b, rfl, h1.ok (.refl x1.rep) rfl⟩
  | _ => exact h1.elim
theorem ft_not (h : FT X W a ft) : FT X W (.UnaryOp .Not a pos) (fNotT ft) :=
  PT.imp (pt_not h) fun σ H Q ⟨ι, ρ, g, rp, re, h⟩ => ⟨ι, ρ, g, rp, re, h.bind fun d g1 ι1 H1 v x1 q1 h1 => by
    obtain rfl : d = v := q1
    exact h1.ok (.refl x1.rep) rfl⟩
theorem fe_if (hc : FT X W c ft) (ha : FE X W a fa) (hb : FE X W b fb) : FE X W (.IfExp c a b pos) (fIfE ft fa fb) :=
  PE.imp (pe_ifExp hc ha hb) fun σ H Q ⟨ι, ρ, g, rp, re, h⟩ => ⟨ι, ρ, g, rp, re, h.bind fun d g1 ι1 H1 v x1 q1 h1 => by
    obtain rfl : d = v := q1
    cases d with
    | true => exact iteT ⟨ι1, ρ, g1, x1.rep, re.nx x1, h1⟩
    | false => exact iteF ⟨ι1, ρ, g1, x1.rep, re.nx x1, h1⟩⟩
end
end Fc

set_option Elab.async false
set_option linter.all false
set_option maxRecDepth 100000
set_option maxHeartbeats 4000000
/-! Fs: statements, loops, list comprehensions. -/
namespace Fc
open PySem PySem.Spec PyProof.Rows L2

inductive Rs where
  | nx (ρ : Ev) (g : G) | rt (d : D) (g : G) | bk (ρ : Ev) (g : G) | ct (ρ : Ev) (g : G) | ex (c : Str) (fs : List (Str × D)) (ρ : Ev) (g : G) | bad
def Re.st {α : Type} (r : Re α) (ρ : Ev) (k : α → G → Rs) : Rs := match r with
  | .ok a g => k a g
  | .ex c fs g => .ex c fs ρ g
  | .bad => .bad
def Rs.sq (r : Rs) (k : Ev → G → Rs) : Rs := match r with
  | .nx ρ g => k ρ g
  | .rt d g => .rt d g
  | .bk ρ g => .bk ρ g
  | .ct ρ g => .ct ρ g
  | .ex c fs ρ g => .ex c fs ρ g
  | .bad => .bad
def Sc (w : World) (K : PySem.W.Frag) (mg : Str → Option Value) (W : WX) (Z : Ends) (H : Hp) (ι : Nat → Addr) (g : G) (r : Rs) : Prop := match r with
  | .nx ρ' g' => ∀ ι' H' σ', Nx w K mg ι g H ι' g' H' → REnv K ι' g'.length H' ρ' σ' → Z.nx σ' H'
  | .bk ρ' g' => ∀ ι' H' σ', Nx w K mg ι g H ι' g' H' → REnv K ι' g'.length H' ρ' σ' → Z.bk σ' H'
  | .ct ρ' g' => ∀ ι' H' σ', Nx w K mg ι g H ι' g' H' → REnv K ι' g'.length H' ρ' σ' → Z.ct σ' H'
  | .rt d g' => ∀ ι' H' v, Nx w K mg ι g H ι' g' H' → RV K ι' g'.length H' d v → Z.rt v H'
  | .ex c fs ρ' g' => ∀ ι' H' cls dd σ', Nx w K mg ι g H ι' g' H' → REnv K ι' g'.length H' ρ' σ' → RX w K mg ι' g'.length H' c fs cls dd → W cls dd σ' H'
  | .bad => False
def tS (w : World) (K : PySem.W.Frag) (mg : Str → Option Value) (W : WX) (f : Ev → G → Rs) : TS := fun Z σ H => ∃ ι ρ g, Rep w K mg ι H g ∧ REnv K ι g.length H ρ σ ∧ Sc w K mg W Z H ι g (f ρ g)
def FS (X : Cx) (W : WX) (st : Stmt) (f : Ev → G → Rs) : Prop := PS X st (tS X.w X.K X.mg W f)
def FB (X : Cx) (W : WX) (sts : List Stmt) (f : Ev → G → Rs) : Prop := PSs X sts (tS X.w X.K X.mg W f)
abbrev W0 : WX := fun _ _ _ _ => False

section
variable {w : World} {K : PySem.W.Frag} {mg : Str → Option Value} {ι ι1 : Nat → Addr} {g g1 : G} {H H1 : Hp} {ρ : Ev} {σ : L2.St} {W : WX} {Z : Ends}
theorem Sc.base {r : Rs} (x : Nx w K mg ι g H ι1 g1 H1) (h : Sc w K mg W Z H ι g r) : Sc w K mg W Z H1 ι1 g1 r := by
  cases r with
  | nx ρ' g' => exact fun ι' H' v y q => h ι' H' v (x.trans y) q
  | bk ρ' g' => exact fun ι' H' v y q => h ι' H' v (x.trans y) q
  | ct ρ' g' => exact fun ι' H' v y q => h ι' H' v (x.trans y) q
  | rt d g' => exact fun ι' H' v y q => h ι' H' v (x.trans y) q
  | ex c fs ρ' g' => exact fun ι' H' cls dd σ' y q => h ι' H' cls dd σ' (x.trans y) q
  | bad => exact h
section
variable {α β : Type} {Rl : (Nat → Addr) → Nat → Hp → α → β → Prop}
theorem Sc.st {r : Re α} {k : α → G → Rs} {P : β → Hp → Prop} (re : REnv K ι g.length H ρ σ) (h : Sc w K mg W Z H ι g (r.st ρ k))
    (hk : ∀ a g1 ι1 H1 b, Nx w K mg ι g H ι1 g1 H1 → Rl ι1 g1.length H1 a b → Sc w K mg W Z H1 ι1 g1 (k a g1) → P b H1) : Tc w K mg Rl W σ H ι g r P := by
  cases r with
  | ok a g' => exact fun ι' H' v y q => hk a g' ι' H' v y q (Sc.base y h)
  | ex c fs g' => exact fun ι' H' cls dd y q => h ι' H' cls dd σ y (re.nx y) q
  | bad => exact h
end
theorem Sc.sq {r : Rs} {k : Ev → G → Rs} {nx : L2.St → Hp → Prop} (h : Sc w K mg W Z H ι g (r.sq k))
    (hk : ∀ ρ1 g1 ι1 H1 σ1, Nx w K mg ι g H ι1 g1 H1 → REnv K ι1 g1.length H1 ρ1 σ1 → Sc w K mg W Z H1 ι1 g1 (k ρ1 g1) → nx σ1 H1) : Sc w K mg W { Z with nx := nx } H ι g r := by
  cases r with
  | nx ρ' g' => exact fun ι' H' v y q => hk ρ' g' ι' H' v y q (Sc.base y h)
  | bk ρ' g' => exact h
  | ct ρ' g' => exact h
  | rt d g' => exact h
  | ex c fs ρ' g' => exact h
  | bad => exact h
end

def sNil : Ev → G → Rs := fun ρ g => .nx ρ g
def sSeq (f h : Ev → G → Rs) : Ev → G → Rs := fun ρ g => (f ρ g).sq h
def sSet (i : Nat) (f : Ev → G → Re D) : Ev → G → Rs := fun ρ g => (f ρ g).st ρ fun d g1 => .nx (ρ.set i (some d)) g1
def sDrop (f : Ev → G → Re D) : Ev → G → Rs := fun ρ g => (f ρ g).st ρ fun _ g1 => .nx ρ g1
def sRet (f : Ev → G → Re D) : Ev → G → Rs := fun ρ g => (f ρ g).st ρ fun d g1 => .rt d g1
def sIf (c : Ev → G → Re Bool) (f h : Ev → G → Rs) : Ev → G → Rs := fun ρ g => (c ρ g).st ρ fun b g1 => if b = true then f ρ g1 else h ρ g1
section
variable {X : Cx} {W : WX} {pos : Pos} {st : Stmt} {sts : List Stmt} {e : Expr} {x : Str} {i : Nat} {fs ft : Ev → G → Rs} {f h : Ev → G → Re D} {c : Expr} {fc : Ev → G → Re Bool}
theorem fb_nil : FB X W [] sNil := PSs.imp pss_nil fun Z σ H ⟨ι, ρ, g, rp, re, h⟩ => h ι H σ (.refl rp) re
theorem fb_cons (h1 : FS X W st fs) (h2 : FB X W sts ft) : FB X W (st :: sts) (sSeq fs ft) :=
  PSs.imp (pss_cons h1 h2) fun Z σ H ⟨ι, ρ, g, rp, re, h⟩ => ⟨ι, ρ, g, rp, re, h.sq fun ρ1 g1 ι1 H1 σ1 y q k => ⟨ι1, ρ1, g1, y.rep, q, k⟩⟩
theorem fb_one (h1 : FS X W st fs) : FB X W [st] fs := pss_one h1
theorem fs_set (i : Nat) (hN : X.N.Nodup) (hx : Loc X.env.scope x) (he : FE X W e f) {pos' : Pos} (hi : X.N[i]? = some x := by rfl) (hs : swapsWith e (some (.Name x pos')) pos.line X.env = pure false := by rfl)
    (hf : X.fn x = true ∨ X.env.scope.names.lookup x = some .local := by first | exact .inl rfl | exact .inr rfl | assumption) : FS X W (.Assign [.Name x pos'] e pos) (sSet i f) :=
  PS.imp (ps_set hN hi hx he hs hf) fun Z σ H ⟨ι, ρ, g, rp, re, h⟩ => ⟨ι, ρ, g, rp, re, h.st re fun d g1 ι1 H1 v y q k => k ι1 H1 _ (.refl y.rep) ((re.nx y).set q i)⟩
theorem fs_expr (he : FE X W e f) (hs : swapsWith e none pos.line X.env = pure false := by rfl) : FS X W (.Expr e pos) (sDrop f) :=
  PS.imp (ps_expr he hs) fun Z σ H ⟨ι, ρ, g, rp, re, h⟩ => ⟨ι, ρ, g, rp, re, h.st re fun d g1 ι1 H1 v y q k => k ι1 H1 _ (.refl y.rep) (re.nx y)⟩
theorem fs_ret (he : FE X W e f) : FS X W (.Return (some e) pos) (sRet f) :=
  PS.imp (ps_ret he) fun Z σ H ⟨ι, ρ, g, rp, re, h⟩ => ⟨ι, ρ, g, rp, re, h.st re fun d g1 ι1 H1 v y q k => k ι1 H1 _ (.refl y.rep) q⟩
theorem fs_if {a b : List Stmt} (hc : FT X W c fc) (ha : FB X W a fs) (hb : FB X W b ft) : FS X W (.If c a b pos) (sIf fc fs ft) :=
  PS.imp (ps_if hc ha hb) fun Z σ H ⟨ι, ρ, g, rp, re, h⟩ => ⟨ι, ρ, g, rp, re, h.st re fun d g1 ι1 H1 v y q k => by
    obtain rfl : d = v := q
    cases d with
    | true => exact iteT ⟨ι1, ρ, g1, y.rep, re.nx y, k⟩
    | false => exact iteF ⟨ι1, ρ, g1, y.rep, re.nx y, k⟩⟩
end
end Fc

set_option Elab.async false
set_option linter.all false
set_option maxRecDepth 100000
set_option maxHeartbeats 4000000
/-! Fl: targets, stores, loops, comprehensions. -/
namespace Fc
open PySem PySem.Spec PyProof.Rows L2

/-! ### equality of data -/
mutual
def D.eqb : D → D → Bool
  | .non, .non => true
  | .bl a, .bl b => a == b
  | .int a, .int b => decide (a = b)
  | .str a, .str b => decide (a = b)
  | .tup a, .tup b => D.eqbs a b
  | .ref a, .ref b => decide (a = b)
  | _, _ => false
def D.eqbs : List D → List D → Bool
  | [], [] => true
  | a :: as, b :: bs => D.eqb a b && D.eqbs as bs
  | _, _ => false
end
mutual
theorem D.eqb_ok : ∀ {a b : D}, D.eqb a b = true → a = b
  | .non, .non, _ => rfl
  | .bl a, .bl b, h => by rw [eq_of_beq (show (a == b) = true from h)]
  | .int a, .int b, h => by rw [of_decide_eq_true (show decide (a = b) = true from h)]
  | .str a, .str b, h => by rw [of_decide_eq_true (show decide (a = b) = true from h)]
  | .tup a, .tup b, h => by rw [D.eqbs_ok (show D.eqbs a b = true from h)]
  | .ref a, .ref b, h => by rw [of_decide_eq_true (show decide (a = b) = true from h)]
theorem D.eqbs_ok : ∀ {a b : List D}, D.eqbs a b = true → a = b
  | [], [], _ => rfl
  | a :: as, b :: bs, h => by
    have h : (D.eqb a b && D.eqbs as bs) = true := h
    obtain ⟨h1, h2⟩ := Bool.and_eq_true_iff.mp h
    rw [D.eqb_ok h1, D.eqbs_ok h2]
end
mutual
theorem D.eqb_rfl : ∀ a : D, D.eqb a a = true
  | .non => rfl
  | .bl a => by cases a <;> rfl
  | .int a => decide_eq_true rfl
  | .str a => decide_eq_true rfl
  | .tup a => D.eqbs_rfl a
  | .ref a => decide_eq_true rfl
theorem D.eqbs_rfl : ∀ a : List D, D.eqbs a a = true
  | [] => rfl
  | a :: as => by
    show (D.eqb a a && D.eqbs as as) = true
    rw [D.eqb_rfl a, D.eqbs_rfl as]; rfl
end

/-! ### targets -/
abbrev Bd := D → Ev → G → Option Ev
def gF (w : World) (K : PySem.W.Frag) (mg : Str → Option Value) (sl : List Nat) (b : Bd) : TG := fun v σ H Q => ∃ ι ρ g d ρ', Rep w K mg ι H g ∧ REnv K ι g.length H ρ σ ∧ RV K ι g.length H d v ∧ b d ρ g = some ρ' ∧
  ∀ σ', REnv K ι g.length H ρ' σ' → (∀ vs : List Nat, (∀ i ∈ sl, i ∈ vs) → wipe σ' vs = wipe σ vs) → Q σ' H
def FG (X : Cx) (tg : Expr) (sl : List Nat) (b : Bd) : Prop := PG X tg (gF X.w X.K X.mg sl b)
theorem PG.imp {X : Cx} {tg : Expr} {t t' : TG} (h : PG X tg t) (k : ∀ v σ H Q, t' v σ H Q → t v σ H Q) : PG X tg t' := ⟨fun pins s σ H v u Q I r q => h.run pins s σ H v u Q I r (k v σ H Q q)⟩
theorem PGs.imp {X : Cx} {tg : List Expr} {t t' : TGs} (h : PGs X tg t) (k : ∀ v σ H Q, t' v σ H Q → t v σ H Q) : PGs X tg t' := ⟨fun pins s σ H v u Q I r q => h.run pins s σ H v u Q I r (k v σ H Q q)⟩
def bNm (i : Nat) : Bd := fun d ρ _ => some (ρ.set i (some d))
theorem wipe_set {σ : L2.St} {i : Nat} {x : Option V} : ∀ {vs : List Nat}, i ∈ vs → wipe (σ.set i x) vs = wipe σ vs
  | [], h => nomatch h
  | v :: vs, h => by
    show (wipe (σ.set i x) vs).set v none = (wipe σ vs).set v none
    by_cases hm : i ∈ vs
    · rw [wipe_set hm]
    · have hv : i = v := by
        rcases List.mem_cons.mp h with e | e
        · exact e
        · exact absurd e hm
      subst hv
      have go : ∀ (vs : List Nat) (τ : L2.St), i ∉ vs → wipe (τ.set i x) vs = (wipe τ vs).set i x := by
        intro vs
        induction vs with
        | nil => intro τ _; rfl
        | cons w ws ih =>
          intro τ hn
          have h1 : w ≠ i := fun e => hn (by rw [e]; exact List.mem_cons_self ..)
          show (wipe (τ.set i x) ws).set w none = ((wipe τ ws).set w none).set i x
          rw [ih τ fun e => hn (List.mem_cons_of_mem _ e), List.set_comm _ _ h1.symm]
      rw [go vs σ hm, List.set_set]
section
variable {X : Cx} {pos : Pos} {x : Str} {e : Expr} {es : List Expr} {b : Bd} {c : List D → Ev → G → Option Ev} {sl sm : List Nat}
theorem fg_nm (i : Nat) (hN : X.N.Nodup) (hx : Loc X.env.scope x) (hi : X.N[i]? = some x := by rfl) (hf : X.fn x = true ∨ X.env.scope.names.lookup x = some .local := by first | exact .inl rfl | exact .inr rfl | assumption) : FG X (.Name x pos) [i] (bNm i) :=
  PG.imp (pg_name hN hi hx hf) fun v σ H Q ⟨ι, ρ, g, d, ρ', rp, re, q, e, k⟩ => by
    cases e
    exact k _ (re.set q i) fun vs h => wipe_set (h i (List.mem_cons_self ..))
end

/-- o[i] = e, by values -/
def StS (X : Cx) (o : D → D → D → G → Option G) : Prop := ∃ t, PSet X t ∧ ∀ ι g H a b c x y z g' (Q : Hp → Prop), Rep X.w X.K X.mg ι H g → RV X.K ι g.length H a x → RV X.K ι g.length H b y → RV X.K ι g.length H c z → o a b c g = some g' →
  (∀ ι' H', Nx X.w X.K X.mg ι g H ι' g' H' → Q H') → t x y z H Q
def sSub (fe fo fi : Ev → G → Re D) (o : D → D → D → G → Option G) : Ev → G → Rs := fun ρ g => (fe ρ g).st ρ fun d g1 => (fo ρ g1).st ρ fun a g2 => (fi ρ g2).st ρ fun b g3 => match o a b d g3 with
  | some g4 => .nx ρ g4
  | none => .bad
/-- lists -/
def setL : D → D → D → G → Option G := fun a b c g => match a, b with
  | .ref m, .int k => (match g[m]? with
    | some (.lst l) => (match ixN l.length k with
      | some j => some (g.set m (.lst (l.set j c)))
      | none => none)
    | _ => none)
  | _, _ => none
section
variable {X : Cx} {W : WX} {pos : Pos} {e o i tg : Expr} {f fo fi : Ev → G → Re D} {b : Bd} {sl : List Nat}
theorem fs_sub {st : D → D → D → G → Option G} {p1 : Pos} (hst : StS X st) (he : FE X W e f) (ho : FE X W o fo) (hi : FE X W i fi)
    (hP : ∀ {te to ti : TE} {t : TSet}, PE X e te → PE X o to → PE X i ti → PSet X t → PS X (.Assign [.Subscript o i p1] e pos) (tAsg te (gSub to ti t)) := by intro _ _ _ _ h0 h1 h2 h3; exact ps_asg h0 (pg_sub h1 h2 h3)) : FS X W (.Assign [.Subscript o i p1] e pos) (sSub f fo fi st) := by
  obtain ⟨t, ht, hb⟩ := hst
  refine PS.imp (hP he ho hi ht) fun Z σ H ⟨ι, ρ, g, rp, re, h⟩ => ⟨ι, ρ, g, rp, re, h.st re fun d g1 ι1 H1 v y q k => ⟨ι1, ρ, g1, y.rep, re.nx y, k.st (re.nx y) fun a g2 ι2 H2 va y2 q2 k2 => ⟨ι2, ρ, g2, y2.rep, re.nx (y.trans y2), k2.st (re.nx (y.trans y2)) fun b g3 ι3 H3 vb y3 q3 k3 => ?_⟩⟩⟩
  split at k3
  · rename_i g4 e4
    exact hb ι3 g3 H3 a b d va vb v g4 _ y3.rep (q2.nx y3) q3 (q.nx (y2.trans y3)) e4 fun ι4 H4 y4 => k3 ι4 H4 σ y4 (re.nx (((y.trans y2).trans y3).trans y4))
  · exact k3.elim
theorem st_list : StS X setL := ⟨_, set_list, fun ι g H a b c x y z g' Q rp ra rb rc e k => by
  unfold setL at e
  split at e
  · rename_i m kk
    split at e
    · rename_i l el
      split at e
      · rename_i j ej
        cases e
        cases ra with
        | ref hm =>
          cases rb
          obtain ⟨vs, ev, q⟩ := rp.obj _ _ el
          exact ⟨_, vs, kk, j, rfl, rfl, ev, by rw [q.length]; exact ej, k ι _ (Nx.setL rp el (q.set rc j))⟩
      · cases e
    · cases e
  · cases e⟩
end

/-! ### what is walked -/
abbrev Wt := List (Nat × List D)
/-- the lists that must stand still do -/
def wOk (w : Wt) (g : G) : Bool := w.all fun p => match g[p.1]? with
  | some (.lst l) => D.eqbs l p.2
  | some (.frz l) => D.eqbs l p.2
  | _ => false
theorem wOk_at {w : Wt} {g : G} (h : wOk w g = true) {m : Nat} {l : List D} (hm : (m, l) ∈ w) : g[m]? = some (.lst l) ∨ g[m]? = some (.frz l) := by
  have z := List.all_eq_true.mp h (m, l) hm
  simp only at z
  split at z
  · rename_i l' e; rw [e, D.eqbs_ok z]; exact .inl rfl
  · rename_i l' e; rw [e, D.eqbs_ok z]; exact .inr rfl
  · cases z
def IOk (w : World) (K : PySem.W.Frag) (mg : Str → Option Value) (ι0 : Nat → Addr) (g0 : G) (H0 : Hp) (J : It) (items : List D) (wt : Wt) : Prop := ∀ i ι g H, Nx w K mg ι0 g0 H0 ι g H → wOk wt g = true →
  (∀ d, items[i]? = some d → J.go i H ∧ ∀ x H', J.yld i H x H' → ∃ ι', Nx w K mg ι g H ι' g H' ∧ RV K ι' g.length H' d x) ∧ (items.length = i → J.stop i H)
def Ic (w : World) (K : PySem.W.Frag) (mg : Str → Option Value) (W : WX) (σ : L2.St) (H : Hp) (ι : Nat → Addr) (g : G) (r : Re (List D × Wt)) (R : It → Hp → Prop) : Prop := match r with
  | .ok p g' => ∀ ι' H' J, Nx w K mg ι g H ι' g' H' → IOk w K mg ι' g' H' J p.1 p.2 → R J H'
  | .ex c fs g' => ∀ ι' H' cls dd, Nx w K mg ι g H ι' g' H' → RX w K mg ι' g'.length H' c fs cls dd → W cls dd σ H'
  | .bad => False
theorem Ic.base {w : World} {K : PySem.W.Frag} {mg : Str → Option Value} {W : WX} {σ : L2.St} {H H1 : Hp} {ι ι1 : Nat → Addr} {g g1 : G} {r : Re (List D × Wt)} {R : It → Hp → Prop} (x : Nx w K mg ι g H ι1 g1 H1) (h : Ic w K mg W σ H ι g r R) : Ic w K mg W σ H1 ι1 g1 r R := by
  cases r with
  | ok d g' => exact fun ι' H' J y q => h ι' H' J (x.trans y) q
  | ex c fs g' => exact fun ι' H' cls dd y q => h ι' H' cls dd (x.trans y) q
  | bad => exact h
theorem Ic.bind {α β : Type} {Rl : (Nat → Addr) → Nat → Hp → α → β → Prop} {w : World} {K : PySem.W.Frag} {mg : Str → Option Value} {W : WX} {σ : L2.St} {H : Hp} {ι : Nat → Addr} {g : G} {r : Re α} {k : α → G → Re (List D × Wt)} {R : It → Hp → Prop} {P : β → Hp → Prop} (h : Ic w K mg W σ H ι g (r.bind k) R)
    (hk : ∀ a g1 ι1 H1 b, Nx w K mg ι g H ι1 g1 H1 → Rl ι1 g1.length H1 a b → Ic w K mg W σ H1 ι1 g1 (k a g1) R → P b H1) : Tc w K mg Rl W σ H ι g r P := by
  cases r with
  | ok d g' => exact fun ι' H' v y q => hk d g' ι' H' v y q (Ic.base y h)
  | ex c fs g' => exact h
  | bad => exact h
def FI (X : Cx) (W : WX) (tg iter : Expr) (f : Ev → G → Re (List D × Wt)) : Prop := PI X tg iter fun σ H R => ∃ ι ρ g, Rep X.w X.K X.mg ι H g ∧ REnv X.K ι g.length H ρ σ ∧ Ic X.w X.K X.mg W σ H ι g (f ρ g) R
theorem PI.imp {X : Cx} {tg e : Expr} {t t' : TI} (h : PI X tg e t) (k : ∀ σ H Q, t' σ H Q → t σ H Q) : PI X tg e t' := ⟨fun pins s σ H Q I q => h.run pins s σ H Q I (k σ H Q q)⟩
theorem drop_get {α : Type} {l : List α} {i : Nat} : (∃ d, l[i]? = some d ∧ l.drop i = d :: l.drop (i + 1)) ∨ (l.length ≤ i ∧ l.drop i = []) := by
  by_cases h : i < l.length
  · exact .inl ⟨l[i], by simp [h], by rw [List.drop_eq_getElem_cons h]⟩
  · exact .inr ⟨by omega, List.drop_eq_nil_of_le (by omega)⟩

def Rs.lp (r : Rs) (k : Ev → G → Rs) : Rs := match r with
  | .nx ρ g => k ρ g
  | .ct ρ g => k ρ g
  | .bk ρ g => .nx ρ g
  | .rt d g => .rt d g
  | .ex c fs ρ g => .ex c fs ρ g
  | .bad => .bad
theorem Sc.lp {w : World} {K : PySem.W.Frag} {mg : Str → Option Value} {ι : Nat → Addr} {g : G} {H : Hp} {W : WX} {Z : Ends} {r : Rs} {k : Ev → G → Rs} {nx : L2.St → Hp → Prop} (h : Sc w K mg W Z H ι g (r.lp k))
    (hk : ∀ ρ1 g1 ι1 H1 σ1, Nx w K mg ι g H ι1 g1 H1 → REnv K ι1 g1.length H1 ρ1 σ1 → Sc w K mg W Z H1 ι1 g1 (k ρ1 g1) → nx σ1 H1) : Sc w K mg W { Z with nx := nx, ct := nx, bk := Z.nx } H ι g r := by
  cases r with
  | nx ρ' g' => exact fun ι' H' v y q => hk ρ' g' ι' H' v y q (Sc.base y h)
  | ct ρ' g' => exact fun ι' H' v y q => hk ρ' g' ι' H' v y q (Sc.base y h)
  | bk ρ' g' => exact h
  | rt d g' => exact h
  | ex c fs ρ' g' => exact h
  | bad => exact h
def runFor (b : Bd) (body : Ev → G → Rs) (w : Wt) : List D → Ev → G → Rs
  | [], ρ, g => if wOk w g = true then .nx ρ g else .bad
  | d :: ds, ρ, g => if wOk w g = true then (match b d ρ g with
    | none => .bad
    | some ρ1 => (body ρ1 g).lp (runFor b body w ds)) else .bad
def sFor (it : Ev → G → Re (List D × Wt)) (b : Bd) (body : Ev → G → Rs) : Ev → G → Rs := fun ρ g => (it ρ g).st ρ fun p g1 => runFor b body p.2 p.1 ρ g1
section
variable {X : Cx} {W : WX} {pos : Pos} {tg iter c : Expr} {body : List Stmt} {sl : List Nat} {b : Bd} {fi : Ev → G → Re (List D × Wt)} {fb : Ev → G → Rs} {fc : Ev → G → Re Bool}
theorem fs_for (hp : PassesOwn (model X.prog X.w) X.A X.env X.xe) (hc : X.calm = true) (hi : FI X W tg iter fi) (hg : FG X tg sl b) (hb : FB X W body fb) (hs : ∀ x, foldedSetIterable iter X.env x = pure x := by intro _; rfl) : FS X W (.For tg iter body [] pos) (sFor fi b fb) := by
  refine PS.imp (ps_for hp hc hi hg hb hs) fun Z σ H ⟨ι, ρ, g, rp, re, h⟩ => ⟨ι, ρ, g, rp, re, ?_⟩
  unfold sFor at h
  unfold Ic
  split
  · rename_i p g' e
    rw [e] at h
    intro ι' H' J y ok
    refine ⟨fun i m σ1 H1 => m = p.1.length - i ∧ i ≤ p.1.length ∧ ∃ ι1 ρ1 g1, Nx X.w X.K X.mg ι' g' H' ι1 g1 H1 ∧ REnv X.K ι1 g1.length H1 ρ1 σ1 ∧ Sc X.w X.K X.mg W Z H1 ι1 g1 (runFor b fb p.2 (p.1.drop i) ρ1 g1),
      ⟨p.1.length, rfl, Nat.zero_le _, ι', ρ, g', .refl y.rep, re.nx y, Sc.base y h⟩, ?_⟩
    rintro i m σ1 H1 ⟨rfl, hi, ι1, ρ1, g1, y1, re1, h1⟩
    rcases drop_get (l := p.1) (i := i) with ⟨d, ed, e2⟩ | ⟨hl, e2⟩
    · rw [e2] at h1
      unfold runFor at h1
      split at h1
      · rename_i hw
        obtain ⟨go, yl⟩ := (ok i ι1 g1 H1 y1 hw).1 d ed
        have hlt : i < p.1.length := (List.getElem?_eq_some_iff.mp ed).1
        refine .inr ⟨go, fun σ2 H2 => ∃ ι2 ρ2 g2, Nx X.w X.K X.mg ι' g' H' ι2 g2 H2 ∧ REnv X.K ι2 g2.length H2 ρ2 σ2 ∧ Sc X.w X.K X.mg W Z H2 ι2 g2 (runFor b fb p.2 (p.1.drop (i + 1)) ρ2 g2),
          fun σ2 H2 n2 => ⟨p.1.length - (i + 1), by omega, rfl, hlt, n2⟩, fun x H2 yx => ?_⟩
        obtain ⟨ι2, y2, q2⟩ := yl x H2 yx
        split at h1
        · exact h1.elim
        · rename_i ρ2 eb
          refine ⟨ι2, ρ1, g1, d, ρ2, y2.rep, re1.nx y2, q2, eb, fun σ3 r3 _ => ⟨ι2, ρ2, g1, y2.rep, r3, ?_⟩⟩
          exact (Sc.base y2 h1).lp fun ρ4 g4 ι5 H5 σ5 y5 r5 h5 => ⟨ι5, ρ4, g4, y1.trans (y2.trans y5), r5, h5⟩
      · exact h1.elim
    · rw [e2] at h1
      unfold runFor at h1
      split at h1
      · rename_i hw
        exact .inl ⟨(ok i ι1 g1 H1 y1 hw).2 (Nat.le_antisymm hl hi), h1 ι1 H1 σ1 (.refl y1.rep) re1⟩
      · exact h1.elim
  · rename_i c fs g' e
    rw [e] at h
    exact fun ι' H' cls dd y q => h ι' H' cls dd σ y (re.nx y) q
  · rename_i e
    rw [e] at h
    exact h
end
end Fc

set_option Elab.async false
set_option linter.all false
set_option maxRecDepth 100000
set_option maxHeartbeats 4000000
/-! Fm: list comprehensions, calls of own defs. -/
namespace Fc
open PySem PySem.Spec PyProof.Rows L2

def FTs (X : Cx) (W : WX) (ifs : List Expr) (f : Ev → G → Re Bool) : Prop := PTs X ifs (tF X.w X.K X.mg Rb W f)
theorem PTs.imp {X : Cx} {e : List Expr} {t t' : TT} (h : PTs X e t) (k : ∀ σ H Q, t' σ H Q → t σ H Q) : PTs X e t' := ⟨fun pins s σ H Q I q => h.run pins s σ H Q I (k σ H Q q)⟩
def fYes : Ev → G → Re Bool := fun _ g => .ok true g
section
variable {X : Cx} {W : WX} {c : Expr} {f : Ev → G → Re Bool}
theorem fts_nil : FTs X W [] fYes := PTs.imp pts_nil fun σ H Q ⟨ι, ρ, g, rp, re, h⟩ => h.ok (.refl rp) rfl
end
/-- the slots of a block's own names forgotten -/
def wipeE (ρ : Ev) : List Nat → Ev
  | [] => ρ
  | v :: vs => (wipeE ρ vs).set v none
theorem REnv.none {K : PySem.W.Frag} {ι : Nat → Addr} {n : Nat} {H : Hp} {ρ : Ev} {σ : L2.St} (r : REnv K ι n H ρ σ) (i : Nat) : REnv K ι n H (ρ.set i none) (σ.set i none) := by
  refine ⟨by simp [r.len], fun j e h => ?_⟩
  by_cases hj : i = j
  · subst hj
    by_cases hi : i < ρ.length
    · rw [List.getElem?_set_self hi] at h; cases h
    · rw [List.getElem?_eq_none_iff.mpr (by simp; omega)] at h; cases h
  · rw [List.getElem?_set_ne hj] at h
    obtain ⟨w, h1, h2⟩ := r.get j e h
    exact ⟨w, by rw [List.getElem?_set_ne hj]; exact h1, h2⟩
theorem REnv.wipe {K : PySem.W.Frag} {ι : Nat → Addr} {n : Nat} {H : Hp} {ρ : Ev} {σ : L2.St} (r : REnv K ι n H ρ σ) : ∀ vs : List Nat, REnv K ι n H (wipeE ρ vs) (L2.wipe σ vs)
  | [] => r
  | v :: vs => (REnv.wipe r vs).none v

def goLc (b : Bd) (ft : Ev → G → Re Bool) (fe : Ev → G → Re D) (w : Wt) (L : Nat) (ρ : Ev) : List D → G → Re Unit
  | [], g => if wOk w g = true then .ok () g else .bad
  | d :: ds, g => if wOk w g = true then (match b d ρ g with
    | none => .bad
    | some ρ1 => (noEx (ft ρ1 g)).bind fun k g2 => if k = true then (noEx (fe ρ1 g2)).bind fun y g3 => (match g3[L]? with
        | some (.lst acc) => if acc.length < sizeLine then goLc b ft fe w L ρ ds (g3.set L (.lst (acc ++ [y]))) else .bad
        | _ => .bad) else goLc b ft fe w L ρ ds g2) else .bad
def fLc (it : Ev → G → Re (List D × Wt)) (b : Bd) (ft : Ev → G → Re Bool) (fe : Ev → G → Re D) (vs : List Nat) : Ev → G → Re D := fun ρ g =>
  (it ρ g).bind fun p g1 => (goLc b ft fe p.2 g1.length (wipeE ρ vs) p.1 (g1 ++ [.lst []])).bind fun _ g2 => .ok (.ref g1.length) g2
theorem Tc.noex {α β γ δ : Type} {w : World} {K : PySem.W.Frag} {mg : Str → Option Value} {Rl : (Nat → Addr) → Nat → Hp → α → β → Prop} {Rm : (Nat → Addr) → Nat → Hp → γ → δ → Prop} {W W' : WX} {σ σ' : L2.St} {H : Hp} {ι : Nat → Addr} {g : G} {r : Re α} {k : α → G → Re γ} {Q : δ → Hp → Prop} {P : β → Hp → Prop}
    (h : Tc w K mg Rm W σ H ι g ((noEx r).bind k) Q) (hk : ∀ a g1 ι1 H1 b, Nx w K mg ι g H ι1 g1 H1 → Rl ι1 g1.length H1 a b → Tc w K mg Rm W σ H1 ι1 g1 (k a g1) Q → P b H1) : Tc w K mg Rl W' σ' H ι g r P := by
  cases r with
  | ok d g' => exact fun ι' H' v y q => hk d g' ι' H' v y q (Tc.base y h)
  | ex c fs g' => exact h.elim
  | bad => exact h.elim
theorem Re.bind_assoc {α β γ : Type} (r : Re α) (k : α → G → Re β) (l : β → G → Re γ) : (r.bind k).bind l = r.bind fun a g => (k a g).bind l := by cases r <;> rfl
section
variable {X : Cx} {W : WX} {elt tg iter : Expr} {ifs : List Expr} {scope : Scope} {own : List (Str × Nat)} {pos : Pos} {fi : Ev → G → Re (List D × Wt)} {b : Bd} {ft : Ev → G → Re Bool} {fe : Ev → G → Re D} {sl : List Nat}
theorem lc_read {tt : TT} {te : TE} {wi : TI} {σ : L2.St} {H : Hp} {Q : VK} (hsl : ∀ i ∈ sl, i ∈ own.map (·.2))
    (hwi : ∀ σ H R, (∃ ι ρ g, Rep X.w X.K X.mg ι H g ∧ REnv X.K ι g.length H ρ σ ∧ Ic X.w X.K X.mg W σ H ι g (fi ρ g) R) → wi σ H R)
    (htt : ∀ σ H Q, tF X.w X.K X.mg Rb W0 ft σ H Q → tt σ H Q) (hte : ∀ σ H Q, tF X.w X.K X.mg (RV X.K) W0 fe σ H Q → te σ H Q)
    (h : tF X.w X.K X.mg (RV X.K) W (fLc fi b ft fe (own.map (·.2))) σ H Q) : tLc wi (gF X.w X.K X.mg sl b) tt te (own.map (·.2)) σ H Q := by
  obtain ⟨ι, ρ, g, rp, re, h⟩ := h
  refine hwi σ H _ ⟨ι, ρ, g, rp, re, ?_⟩
  unfold fLc at h
  unfold Ic
  split
  · rename_i p g' e
    rw [e] at h
    intro ι' H' J y ok D hD
    have hw : ∀ vs : List Nat, wipe (wipe σ vs) vs = wipe σ vs := by
      intro vs
      induction vs with
      | nil => rfl
      | cons v vs ih =>
        show (wipe ((wipe σ vs).set v Option.none) vs).set v Option.none = (wipe σ vs).set v Option.none
        by_cases hm : v ∈ vs
        · rw [wipe_set hm, ih]
        · have z : wipe ((wipe σ vs).set v Option.none) vs = (wipe (wipe σ vs) vs).set v Option.none := by
            have go : ∀ (ws : List Nat) (τ : L2.St), v ∉ ws → wipe (τ.set v Option.none) ws = (wipe τ ws).set v Option.none := by
              intro ws
              induction ws with
              | nil => intro τ _; rfl
              | cons w ws ih2 =>
                intro τ hn
                have h1 : w ≠ v := fun e => hn (by rw [e]; exact List.mem_cons_self ..)
                show (wipe (τ.set v Option.none) ws).set w Option.none = ((wipe τ ws).set w Option.none).set v Option.none
                rw [ih2 τ fun e => hn (List.mem_cons_of_mem _ e), List.set_comm _ _ h1.symm]
            exact go vs _ hm
          rw [z, ih, List.set_set]
    have y0 : Nx X.w X.K X.mg ι' g' H' (ix ι' g'.length D) (g' ++ [.lst []]) (upd H' D (.lst [])) := Nx.newL y.rep hD .nil
    have h0 : Tc X.w X.K X.mg (RV X.K) W σ (upd H' D (.lst [])) (ix ι' g'.length D) (g' ++ [.lst []]) ((goLc b ft fe p.2 g'.length (wipeE ρ (own.map (·.2))) p.1 (g' ++ [.lst []])).bind fun _ g2 => .ok (.ref g'.length) g2) Q := Tc.base (y.trans y0) h
    have lenL : g'.length < (g' ++ [O.lst []]).length := by simp
    refine ⟨fun i m H1 => m = p.1.length - i ∧ i ≤ p.1.length ∧ ∃ ι1 g1, Nx X.w X.K X.mg (ix ι' g'.length D) (g' ++ [.lst []]) (upd H' D (.lst [])) ι1 g1 H1 ∧
      Tc X.w X.K X.mg (RV X.K) W σ H1 ι1 g1 ((goLc b ft fe p.2 g'.length (wipeE ρ (own.map (·.2))) (p.1.drop i) g1).bind fun _ g2 => .ok (.ref g'.length) g2) Q, ⟨p.1.length, rfl, Nat.zero_le _, _, _, .refl y0.rep, h0⟩, ?_⟩
    rintro i m H1 ⟨rfl, hi, ι1, g1, y1, h1⟩
    have eD : ι1 g'.length = D := by rw [y1.agr _ lenL, ix_same]
    rcases drop_get (l := p.1) (i := i) with ⟨d, ed, e2⟩ | ⟨hl, e2⟩
    · rw [e2] at h1
      unfold goLc at h1
      split at h1
      · rename_i hw1
        obtain ⟨go, yl⟩ := (ok i ι1 g1 H1 (y0.trans y1) hw1).1 d ed
        have hlt : i < p.1.length := (List.getElem?_eq_some_iff.mp ed).1
        refine .inr ⟨go, fun H2 => ∃ ι2 g2, Nx X.w X.K X.mg (ix ι' g'.length D) (g' ++ [.lst []]) (upd H' D (.lst [])) ι2 g2 H2 ∧
          Tc X.w X.K X.mg (RV X.K) W σ H2 ι2 g2 ((goLc b ft fe p.2 g'.length (wipeE ρ (own.map (·.2))) (p.1.drop (i + 1)) g2).bind fun _ g2 => .ok (.ref g'.length) g2) Q, fun H2 n2 => ⟨p.1.length - (i + 1), by omega, rfl, hlt, n2⟩, fun x H2 yx => ?_⟩
        obtain ⟨ι2, y2, q2⟩ := yl x H2 yx
        split at h1
        · exact h1.elim
        · rename_i ρ2 eb
          refine ⟨ι2, _, g1, d, ρ2, y2.rep, (re.nx (y.trans (y0.trans (y1.trans y2)))).wipe _, q2, eb, fun σ3 r3 w3 => ⟨(w3 _ hsl).trans (hw _), htt _ _ _ ⟨ι2, ρ2, g1, y2.rep, r3, ?_⟩⟩⟩
          have h2 := Tc.base y2 h1
          rw [Re.bind_assoc] at h2
          refine h2.noex fun k g3 ι3 H3 k' y3 q3 h3 => ?_
          obtain rfl : k = k' := q3
          cases k with
          | false =>
            rw [if_neg Bool.false_ne_true] at h3 ⊢
            exact ⟨ι3, g3, y1.trans (y2.trans y3), h3⟩
          | true =>
            rw [if_pos rfl] at h3 ⊢
            refine hte _ _ _ ⟨ι3, ρ2, g3, y3.rep, r3.nx y3, ?_⟩
            rw [Re.bind_assoc] at h3
            refine h3.noex fun a g4 ι4 H4 v y4 q4 h4 => ?_
            have e4 : ι4 g'.length = D := by rw [((y1.trans (y2.trans (y3.trans y4))).agr _ lenL), ix_same]
            split at h4
            · rename_i acc ea
              split at h4
              · rename_i hz
                obtain ⟨ws, ew, rw⟩ := y4.rep.obj _ _ ea
                rw [e4] at ew
                refine ⟨ws, ew, by rw [rw.length]; exact hz, ?_⟩
                have y5 := Nx.setL y4.rep ea (rw.append (.cons q4 .nil))
                rw [e4] at y5
                exact ⟨ι4, _, y1.trans (y2.trans (y3.trans (y4.trans y5))), Tc.base y5 h4⟩
              · exact h4.elim
            · exact h4.elim
      · exact h1.elim
    · rw [e2] at h1
      unfold goLc at h1
      split at h1
      · rename_i hw1
        refine .inl ⟨(ok i ι1 g1 H1 (y0.trans y1) hw1).2 (Nat.le_antisymm hl hi), ?_⟩
        have z := RV.ref (K := X.K) (ι := ι1) (n := g1.length) (H := H1) (m := g'.length) (Nat.lt_of_lt_of_le lenL y1.len)
        rw [eD] at z
        exact h1.ok (.refl y1.rep) z
      · exact h1.elim
  · rename_i c fs g' e
    rw [e] at h
    exact h
  · rename_i e
    rw [e] at h
    exact h
theorem fe_lc (own : List (Str × Nat)) (hc : X.calm = true) (hN : X.N.Nodup) (hi : FI X W tg iter fi) (ok : BlkOk X.N X.env.scope scope own)
    (hg : ∀ (s : Shared) (H : Hp) (C : Addr) (cl : List (Str × Addr)) (fp : List Addr), FG (X.blk s H scope (compEnvC scope cl C X.env) fp) tg sl b)
    (ht : ∀ (s : Shared) (H : Hp) (C : Addr) (cl : List (Str × Addr)) (fp : List Addr), FTs (X.blk s H scope (compEnvC scope cl C X.env) fp) W0 ifs ft)
    (he : ∀ (s : Shared) (H : Hp) (C : Addr) (cl : List (Str × Addr)) (fp : List Addr), FE (X.blk s H scope (compEnvC scope cl C X.env) fp) W0 elt fe)
    (hsl : ∀ i ∈ sl, i ∈ own.map (·.2) := by decide) (hs : ∀ x, foldedSetIterable iter X.env x = pure x := by intro _; rfl) : FE X W (.ListComp elt [⟨tg, iter, ifs, 0⟩] scope pos) (fLc fi b ft fe (own.map (·.2))) :=
  PE.imp (pe_lc (g := gF X.w X.K X.mg sl b) (tt := tF X.w X.K X.mg Rb W0 ft) (te := tF X.w X.K X.mg (RV X.K) W0 fe) hc hN hi ok hg ht he hs) fun σ H Q h => lc_read hsl (fun _ _ _ h => h) (fun _ _ _ h => h) (fun _ _ _ h => h) h
end
end Fc

set_option Elab.async false
set_option linter.all false
set_option maxRecDepth 100000
set_option maxHeartbeats 4000000
/-! Fga: defs that know that no repr is under way (after the hand layer's own, which does not tell it). -/
namespace Fc
open PySem PySem.Spec PyProof.Rows L2
/-- room on the stack; no repr is under way -/
structure Room (k : Nat) (A : Around) : Prop where
  r : L2.Room k A
  gd : A.guards = some []
theorem Room.mono {j k : Nat} {A : Around} (q : Room k A) (h : j ≤ k) : Room j A := ⟨q.r.mono h, q.gd⟩
theorem Room.deeper {k : Nat} {A : Around} (q : Room (k + 1) A) (v : Env) : Room k (A.deeper v) := ⟨q.r.deeper v, q.gd⟩
theorem Room.make {k : Nat} {A : Around} (q : Room (k + 1) A) (C : Addr) (us : List Value) (ks : List (Str × Value)) : Room k (A.under (.builtin "type.__call__" ⟨.ref C :: us, ks⟩)) :=
  ⟨q.r.make C us ks, by
    have g := q.gd
    show pushGuards (Code.guards (.builtin "type.__call__" ⟨.ref C :: us, ks⟩)) A.guards = some []
    rw [g]
    first | rfl | simp [Code.guards, Code.isGuard, pushGuards, guardIds]⟩
theorem Room.depth {k : Nat} {A : Around} (q : Room k A) : A.depth < recursionLimit := q.r.depth
theorem Room.units {k : Nat} {A : Around} (q : Room k A) : A.units + 64 < cLine := q.r.units
theorem room_caller {k : Nat} (h : L2.Room k callerA) : Room k callerA := ⟨h, rfl⟩
section
variable {P : Program} {w : World} {K : PySem.W.Frag} {mg : Str → Option Value} {base : Heap} {CX : CXT} {k : Nat} {f : Addr} {fd : FuncData} {ps : List Str} {sp : Sp}
/-- what a def promises, wherever there is room -/
structure FnOk (P : Program) (w : World) (K : PySem.W.Frag) (mg : Str → Option Value) (base : Heap) (CX : CXT) (k : Nat) (f : Addr) (fd : FuncData) (ps : List Str) (sp : Sp) : Prop where
  many : ∀ vs H Q E, sp vs H Q E → vs.length = ps.length
  run : ∀ (A : Around) (o : List Env) (s : Shared) (H : Hp) (a : Args) (us : List Value) (vs : List V) (Q : VK) (E : XK), Room k A → Env0 P w K mg base A o s H → BindsTo s fd a (ps.zip us) → Vals vs us →
    sp vs H Q E → codeAny (model P w) A (.call (.ref f) a) (CR CX o P w H s Q E) s
theorem FnOk.imp {sp' : Sp} (F : FnOk P w K mg base CX k f fd ps sp) (h : ∀ vs H Q E, sp' vs H Q E → sp vs H Q E) : FnOk P w K mg base CX k f fd ps sp' :=
  ⟨fun _ _ _ _ q => F.many _ _ _ _ (h _ _ _ _ q), fun A o s H a us vs Q E r e b v q => F.run A o s H a us vs Q E r e b v (h _ _ _ _ q)⟩
end
section
variable {P : Program} {w : World} {K : PySem.W.Frag} {mg : Str → Option Value} {base : Heap} {x qual : Str} {params : Arguments} {body : List Stmt} {scope : Scope} {dvs : List V} {kws : List (Str × V)} {f : Addr} {fd : FuncData}
/-- the rule for a def -/
theorem okG {CX : CXT} {N ps : List Str} {k : Nat} {sp : Sp} (F : FunD K x qual params body scope dvs kws f fd) (S : FnScope N ps scope) (hm : ∀ vs H Q E, sp vs H Q E → vs.length = ps.length)
    (hb : ∀ (cdv : Value) (A : Around) (o : List Env) (s : Shared) (H : Hp) (vs : List V) (Q : VK) (E : XK), Room k (A.deeper (envOfC qual scope s.heap.objs.size f cdv)) → sp vs H Q E →
      ∃ t, PSs (cxOf CX P w K mg base N qual scope f cdv A o s H E) body t ∧ t { nx := fun _ H' => Q .non H', rt := Q } (start N vs) H) : FnOk P w K mg base CX (k + 1) f fd ps sp := by
  obtain ⟨_, _, _, _, _, _, _, cdv, _, _, rfl, lk, hcd, _, _⟩ := F.ex
  refine ⟨hm, fun A o s H a us vs Q E room env bd rel q => ?_⟩
  have many := hm _ _ _ _ q
  have kin : K.In s.heap := env.mod.kin.keeps fun b u e => (env.bs b u e).1
  have kinds : ∀ y ∈ ps.zip us, scope.names.lookup y.1 = some .local ∨ (scope.names.lookup y.1 = some .cell ∧ ((cellsFrom (s.heap.objs.size + 1) scope.names []).lookup y.1).isSome = true) := by
    rintro ⟨n, v⟩ hy
    exact (S.par n (List.of_mem_zip hy).1).imp id fun z => ⟨z, PySem.W.cellsFrom_some _ _ _ (.inl z)⟩
  refine codeAny_call_function room.depth (kin _ _ lk) rfl S.co S.gen rfl (PySem.W.codeRec_of kin hcd) (bd _ _ _ _ ?_)
  refine wpAny_newFunctionEnv_cells S.kind kinds fun v hv s1 new => ?_
  subst hv
  refine ⟨(env.mod.nolimit.keeps fun b u e => (env.bs b u e).1).keeps new.toInCall.keep, codeAny_func ?_⟩
  obtain ⟨t, ht, hq⟩ := hb cdv A o s H vs Q E (room.deeper _) q
  have I : Inv (cxOf CX P w K mg base N qual scope f cdv A o s H E) [] (L2.start N vs) H s1 := inv_start S room.r.hd env many rel new
  have stop : ∀ {σ : L2.St} {H' : Hp} {v : V} {u : Value} {s' : Shared}, Inv (cxOf CX P w K mg base N qual scope f cdv A o s H E) [] σ H' s' → RelV v u → Q v H' → CE o P w H s Q u s' :=
    fun {_ H' v _ _} J rv z => ⟨v, H', J.os, J.bare, J.base, J.hok, rv, z⟩
  refine wpAny_mono (ht.run [] s1 _ H _ I hq) (fun fl s' hs => ?_) fun _ _ hs => hs
  cases fl with
  | next => obtain ⟨_, _, J, z⟩ := hs; exact stop (v := V.non) (u := Value.none) J rfl z
  | ret u => obtain ⟨_, _, _, J, rv, z⟩ := hs; exact stop J rv z
  | brk => obtain ⟨_, _, _, z⟩ := hs; exact z.elim
  | cont => obtain ⟨_, _, _, z⟩ := hs; exact z.elim
end
/-! ### the law's own call -/
section
variable {P : Program} {w : World} {K : PySem.W.Frag} {mg mb : Str → Option Value} {CX : CXT} {k : Nat} {fa a : Addr} {fd : FuncData} {x : Str} {sp : Sp} {z : Shared} {vs : List Value} {ns : List Int}
def LawEnd (z : Shared) : Result → Shared → Prop := fun r s' => r = .ok (.ret (.bool true)) ∧ OldK z.heap s'.heap ∧ s'.os = z.os ∧ AllBare s'.gens
/-- from an abstract heap in which at most the script stands -/
theorem law_core {H : Hp} (kin : K.In z.heap) (m1 : z.heap.Ns mainGlobals mg) (m2 : z.heap.Ns builtinsNs mb) (m3 : ∀ y : Str, y ≠ "__name__" → mb y = bootBuiltins y) (m4 : z.heap.NoLimit) (m5 : z.gens = #[])
    (ha : z.heap.get? a = some { cls := .type "list", data := .seq vs.toArray }) (room : Room k callerA) (F : ∀ b : Heap, K.In b → b.Ns mainGlobals mg → FnOk P w K mg b CX k fa fd [x] sp) (bd : ∀ (s : Shared) (u : Value), BindsTo s fd ⟨[u], []⟩ [(x, u)])
    (only : Only H) (q : sp [.ref a] H (fun v _ => v = .bl true) fun _ _ _ => False) (noX : ∀ e s', CX [] H z (fun _ _ _ => False) e s' → False) (ok : HOk P w H z.heap) (hA : ∀ b, H b ≠ none → b = a) (hK : H a ≠ none → K.lookup a = none) :
    codeAny (model P w) callerA (.call (.ref fa) ⟨[.ref a], []⟩) (LawEnd z) z := by
  have some_a : ∀ {b : Addr} {u : HO}, H b = some u → b = a := fun {b u} e => hA b (by rw [e]; exact fun y => nomatch y)
  have low : ∀ {b : Addr} {o : Obj}, z.heap.get? b = some o → H b = none → (hidT z.heap H).get? b = some o := fun e n => hidT_get e n
  have table : ∀ {b : Addr} {o : Obj} {es : Array DictEntry} {n : Nat}, z.heap.get? b = some o → o.data = .dict es n → H b = none := fun {b o es n} e d => by
    cases y : H b with
    | none => rfl
    | some u =>
      rw [some_a y, ha] at e
      cases e
      cases d
  have lowN : ∀ {b : Addr} {m : Str → Option Value}, z.heap.Ns b m → (hidT z.heap H).Ns b m := fun ⟨o, es, n, e, d, y⟩ => ⟨o, es, n, low e (table e d), d, y⟩
  have kinH : K.In (hidT z.heap H) := fun b o e => low (kin b o e) (by
    cases y : H b with
    | none => rfl
    | some u =>
      have ea := some_a y
      subst ea
      rw [hK (by rw [y]; exact fun y => nomatch y)] at e
      cases e)
  obtain ⟨mc, c1, c2⟩ := m4
  have env : Env0 P w K mg (hidT z.heap H) callerA [] z H :=
    ⟨rfl, ⟨kinH, lowN m1, ⟨mb, lowN m2, m3⟩, ⟨mc, lowN c1, c2⟩⟩, fun b o e => of_hidT e, Nat.le_of_eq (hidT_size _ _), trivial, fun b hb => (List.not_mem_nil hb).elim, ok, .of_eq m5⟩
  refine codeAny_mono ((F _ kinH (lowN m1)).run callerA [] z H ⟨[.ref a], []⟩ [.ref a] [.ref a] _ _ room env (bd z _) (.cons rfl .nil) q) fun r s' h => ?_
  cases r with
  | error e => exact (noX e s' h).elim
  | ok fl =>
    cases fl with
    | ret u =>
      obtain ⟨v, H', os, bare, un, ok', rel, y⟩ := h
      have y : v = .bl true := y
      subst y
      obtain rfl : u = Value.bool true := rel
      refine ⟨rfl, OldK.of_keep fun b o e => ?_, os, bare⟩
      cases y : H b with
      | none => exact un.keep b o e y (fun t => (List.not_mem_nil t).elim) (by simp)
      | some u =>
        rcases only b with t | ⟨ob, ws, t⟩
        · rw [y] at t; cases t
        · have e2 := (ok' b _ (un.frzs b ob _ t)).1
          have e1 := (ok b _ t).1
          rw [e] at e1
          cases e1
          exact e2
    | next => exact h.elim
    | brk => exact h.elim
    | cont => exact h.elim
theorem law_callG (kin : K.In z.heap) (m1 : z.heap.Ns mainGlobals mg) (m2 : z.heap.Ns builtinsNs mb) (m3 : ∀ y : Str, y ≠ "__name__" → mb y = bootBuiltins y) (m4 : z.heap.NoLimit) (m5 : z.gens = #[])
    (ha : z.heap.get? a = some { cls := .type "list", data := .seq vs.toArray }) (hi : IntsAre vs ns) (hl : ns.length ≤ sizeLine) (room : Room k callerA) (F : ∀ b : Heap, K.In b → b.Ns mainGlobals mg → FnOk P w K mg b CX k fa fd [x] sp)
    (bd : ∀ (s : Shared) (u : Value), BindsTo s fd ⟨[u], []⟩ [(x, u)]) (q : ∀ H : Hp, Only H → SqL K H a (ns.map V.int) → sp [.ref a] H (fun v _ => v = .bl true) fun _ _ _ => False) (noX : ∀ H e s', CX [] H z (fun _ _ _ => False) e s' → False) :
    codeAny (model P w) callerA (.call (.ref fa) ⟨[.ref a], []⟩) (LawEnd z) z := by
  have rv := vals_ints hi
  cases hk : K.lookup a with
  | some o =>
    have e := kin a o hk
    rw [ha] at e
    cases e
    have only : Only fun _ => none := fun _ => .inl rfl
    exact law_core kin m1 m2 m3 m4 m5 ha room F bd only (q _ only (.inr ⟨_, vs.toArray, _, hk, rfl, rfl, rfl, by rw [List.size_toArray, hi.length]; exact hl, by simpa using rv⟩)) (noX _) (fun b u y => nomatch y) (fun b y => (y rfl).elim) fun y => (y rfl).elim
  | none =>
    have e1 : ∀ b : Addr, b = a → (fun b : Addr => if b = a then some (HO.frz { cls := .type "list", data := .seq vs.toArray } (.lst (ns.map V.int))) else none) b = some (.frz { cls := .type "list", data := .seq vs.toArray } (.lst (ns.map V.int))) := fun b h => if_pos h
    have e2 : ∀ b : Addr, ¬ b = a → (fun b : Addr => if b = a then some (HO.frz { cls := .type "list", data := .seq vs.toArray } (.lst (ns.map V.int))) else none) b = none := fun b h => if_neg h
    generalize (fun b : Addr => if b = a then some (HO.frz { cls := .type "list", data := .seq vs.toArray } (.lst (ns.map V.int))) else none) = H at e1 e2
    have only : Only H := fun b => by
      by_cases h : b = a
      · exact .inr ⟨_, _, e1 b h⟩
      · exact .inl (e2 b h)
    refine law_core kin m1 m2 m3 m4 m5 ha room F bd only (q _ only (.inl (.inr ⟨_, e1 a rfl⟩))) (noX _) (fun b u y => ?_) (fun b y => Decidable.byContradiction fun h => y (e2 b h)) fun _ => hk
    by_cases h : b = a
    · rw [e1 b h] at y
      cases y
      subst h
      exact ⟨ha, by rw [List.length_map]; exact hl, vs, _, rv, ha⟩
    · rw [e2 b h] at y
      cases y
end
end Fc

set_option Elab.async false
set_option linter.all false
set_option maxRecDepth 100000
set_option maxHeartbeats 4000000
/-! Fn: own defs: their promise by a denotation, their calls. -/
namespace Fc
open PySem PySem.Spec PyProof.Rows L2

abbrev Fun1 := List D → G → Re D
abbrev Fun2 := List D → List D → G → Re D
/-- what is wanted of a call's outcome -/
def Cc (w : World) (K : PySem.W.Frag) (mg : Str → Option Value) (H : Hp) (ι : Nat → Addr) (g : G) (r : Re D) (Q : VK) (E : XK) : Prop := match r with
  | .ok d g' => ∀ ι' H' v, Nx w K mg ι g H ι' g' H' → RV K ι' g'.length H' d v → Q v H'
  | .ex c fs g' => ∀ ι' H' cls dd, Nx w K mg ι g H ι' g' H' → RX w K mg ι' g'.length H' c fs cls dd → E cls dd H'
  | .bad => False
def spF (w : World) (K : PySem.W.Frag) (mg : Str → Option Value) (n : Nat) (φ : Fun1) : Sp := fun vs H Q E => vs.length = n ∧ ∃ ι g ds, Rep w K mg ι H g ∧ RVs K ι g.length H ds vs ∧ Cc w K mg H ι g (φ ds g) Q E
def spK (w : World) (K : PySem.W.Frag) (mg : Str → Option Value) (φ : Fun2) (vs zs : List V) (H : Hp) (Q : VK) (E : XK) : Prop := ∃ ι g ds es, Rep w K mg ι H g ∧ RVs K ι g.length H ds vs ∧ RVs K ι g.length H es zs ∧ Cc w K mg H ι g (φ ds es g) Q E
theorem Cc.base {w : World} {K : PySem.W.Frag} {mg : Str → Option Value} {ι ι1 : Nat → Addr} {g g1 : G} {H H1 : Hp} {r : Re D} {Q : VK} {E : XK} (x : Nx w K mg ι g H ι1 g1 H1) (h : Cc w K mg H ι g r Q E) : Cc w K mg H1 ι1 g1 r Q E := by
  cases r with
  | ok d g' => exact fun ι' H' v y q => h ι' H' v (x.trans y) q
  | ex c fs g' => exact fun ι' H' cls dd y q => h ι' H' cls dd (x.trans y) q
  | bad => exact h
/-- a body's end -/
def runB (f : Ev → G → Rs) (ρ : Ev) (g : G) : Re D := match f ρ g with
  | .nx _ g' => .ok .non g'
  | .rt d g' => .ok d g'
  | .ex c fs _ g' => .ex c fs g'
  | _ => .bad
def ini (n : Nat) (ds : List D) : Ev := ds.map some ++ List.replicate (n - ds.length) none
section
variable {w : World} {K : PySem.W.Frag} {mg : Str → Option Value}
theorem ini_env {ι : Nat → Addr} {n : Nat} {H : Hp} {N : List Str} {ds : List D} {vs : List V} (r : RVs K ι n H ds vs) : REnv K ι n H (ini N.length ds) (L2.start N vs) := by
  have hl := r.length
  refine ⟨by unfold ini L2.start; simp [hl], fun i d e => ?_⟩
  unfold ini at e
  unfold L2.start
  by_cases h : i < ds.length
  · rw [List.getElem?_append_left (by simpa using h), List.getElem?_map] at e
    cases e1 : ds[i]? with
    | none => rw [e1] at e; cases e
    | some d' =>
      rw [e1] at e
      cases e
      obtain ⟨v, ev, q⟩ := r.get e1
      exact ⟨v, by rw [List.getElem?_append_left (by simpa [hl] using h), List.getElem?_map, ev] <;> rfl, q⟩
  · rw [List.getElem?_append_right (by simpa using h), List.getElem?_replicate] at e
    split at e <;> cases e
theorem body_read {ι : Nat → Addr} {g : G} {H : Hp} {ρ : Ev} {σ : L2.St} {f : Ev → G → Rs} {Q : VK} {E : XK} (rp : Rep w K mg ι H g) (re : REnv K ι g.length H ρ σ) (h : Cc w K mg H ι g (runB f ρ g) Q E) :
    tS w K mg (fun cls d _ H' => E cls d H') f { nx := fun _ H' => Q .non H', rt := Q } σ H := by
  refine ⟨ι, ρ, g, rp, re, ?_⟩
  unfold runB at h
  cases e : f ρ g with
  | nx ρ' g' => rw [e] at h; exact fun ι' H' σ' y _ => h ι' H' .non y .non
  | rt d g' => rw [e] at h; exact h
  | ex c fs ρ' g' => rw [e] at h; exact fun ι' H' cls dd σ' y _ q => h ι' H' cls dd y q
  | bk ρ' g' => rw [e] at h; exact h.elim
  | ct ρ' g' => rw [e] at h; exact h.elim
  | bad => rw [e] at h; exact h.elim
end
section
variable {P : Program} {w : World} {K : PySem.W.Frag} {mg : Str → Option Value} {base : Heap} {x qual : Str} {params : Arguments} {body : List Stmt} {scope : Scope} {dvs : List V} {kws : List (Str × V)} {f : Addr} {fd : FuncData}
/-- THE RULE for a def -/
theorem fun_ok {N ps : List Str} {k : Nat} {fb : Ev → G → Rs} (F : FunD K x qual params body scope dvs kws f fd) (S : FnScope N ps scope)
    (hbody : ∀ (cdv : Value) (A : Around) (outer : List Env) (s : Shared) (H : Hp) (E : XK), Room k (A.deeper (envOfC qual scope s.heap.objs.size f cdv)) →
      FB (cxOf (L2.CX P w) P w K mg base N qual scope f cdv A outer s H E) (fun cls d _ H' => E cls d H') body fb) :
    FnOk P w K mg base (L2.CX P w) (k + 1) f fd ps (spF w K mg ps.length fun ds g => runB fb (ini N.length ds) g) :=
  okG F S (fun vs H Q E h => h.1) fun cdv A outer s H vs Q E hr ⟨_, ι, g, ds, rp, rv, h⟩ => ⟨_, hbody cdv A outer s H E hr, body_read rp (ini_env rv) h⟩
/-- a call with positional arguments and keywords named ks does φ -/
def CallF (P : Program) (w : World) (K : PySem.W.Frag) (mg : Str → Option Value) (base : Heap) (k : Nat) (f : Addr) (ks : List Str) (φ : Fun2) : Prop :=
  ∀ (A : Around) (outer : List Env) (s : Shared) (H : Hp) (us ws : List Value) (vs zs : List V) (Q : VK) (E : XK), Room k A → Env0 P w K mg base A outer s H → Vals vs us → Vals zs ws → ws.length = ks.length → spK w K mg φ vs zs H Q E →
    codeAny (model P w) A (.call (.ref f) ⟨us, ks.zip ws⟩) (CR (L2.CX P w) outer P w H s Q E) s
theorem callF_bad {k : Nat} {ks : List Str} : CallF P w K mg base k f ks (fun _ _ _ => .bad) := fun A outer s H us ws vs zs Q E _ _ _ _ _ ⟨_, _, _, _, _, _, _, h⟩ => h.elim
/-- arrange what is written in the order of the parameters: place i of the positional ones, place i of the keywords, a constant -/
inductive Ar where
  | pos (i : Nat) | kw (i : Nat) | dfl (d : D)
def Ar.get (ds es : List D) : Ar → Option D
  | .pos i => ds[i]?
  | .kw i => es[i]?
  | .dfl d => some d
/-- the positional parameters alone, all written -/
theorem callF_pos {k : Nat} {ps : List Str} {φ : Fun1} (F : FnOk P w K mg base (L2.CX P w) k f fd ps (spF w K mg ps.length φ)) (hb : Binds K fd ps []) : CallF P w K mg base k f [] (fun ds _ g => if ds.length = ps.length then φ ds g else .bad) := by
  intro A outer s H us ws vs zs Q E hr e0 r rz hl ⟨ι, g, ds, es, rp, rv, _, h⟩
  dsimp only at h
  have ew : ws = [] := List.eq_nil_of_length_eq_zero hl
  subst ew
  split at h
  · rename_i hd
    have l1 : us.length = ps.length := by rw [← r.length, rv.length, hd]
    have b := hb s us (e0.mod.kin.keeps fun b o e => (e0.bs b o e).1) (by rw [List.append_nil]; exact l1)
    rw [List.append_nil] at b
    exact F.run A outer s H ⟨us, []⟩ us vs Q E hr e0 b r ⟨by rw [rv.length, hd], ι, g, ds, rp, rv, h⟩
  · exact h.elim
/-- with keywords, or defaults: arr says which argument goes where; a default stands in the def (values ds0, equal data) -/
theorem callF_arr {k n : Nat} {ps ks : List Str} {φ : Fun1} {g : List Value → List Value → List Value} {gV : List V → List V → List V} (F : FnOk P w K mg base (L2.CX P w) k f fd ps (spF w K mg ps.length φ)) (hb : KBn K fd ps n ks g gV) (gD : List D → List D → List D)
    (hg : ∀ ι m H ds es vs zs, RVs K ι m H ds vs → RVs K ι m H es zs → ds.length = n → es.length = ks.length → RVs K ι m H (gD ds es) (gV vs zs)) (hn : ∀ ds es : List D, ds.length = n → es.length = ks.length → (gD ds es).length = ps.length) :
    CallF P w K mg base k f ks (fun ds es g => if ds.length = n ∧ es.length = ks.length then φ (gD ds es) g else .bad) := by
  intro A outer s H us ws vs zs Q E hr e0 r rz hl ⟨ι, g', ds, es, rp, rv, rw, h⟩
  dsimp only at h
  split at h
  · rename_i hd
    have r2 := hg ι _ H ds es vs zs rv rw hd.1 hd.2
    have l1 : us.length = n := by rw [← r.length, rv.length, hd.1]
    exact F.run A outer s H ⟨us, ks.zip ws⟩ (g us ws) (gV vs zs) Q E hr e0 (hb.to s us ws (e0.mod.kin.keeps fun b o e => (e0.bs b o e).1) l1 hl) (hb.rel r rz) ⟨by rw [r2.length, hn _ _ hd.1 hd.2], ι, g', gD ds es, rp, r2, h⟩
  · exact h.elim
end
def fCallK (φ : Fun2) (fr fk : Ev → G → Re (List D)) : Ev → G → Re D := fun ρ g => (fr ρ g).bind fun ds g1 => (fk ρ g1).bind fun es g2 => φ ds es g2
def fCallF (φ : Fun2) (fr : Ev → G → Re (List D)) : Ev → G → Re D := fun ρ g => (fr ρ g).bind fun ds g1 => φ ds [] g1
def FK (X : Cx) (W : WX) (kws : List Keyword) (n : Nat) (f : Ev → G → Re (List D)) : Prop := PK X kws (tF X.w X.K X.mg (RVs X.K) W f) ∧ ∀ ρ g ds g', f ρ g = .ok ds g' → ds.length = n
theorem PK.imp {X : Cx} {e : List Keyword} {t t' : TA} (h : PK X e t) (k : ∀ σ H Q, t' σ H Q → t σ H Q) : PK X e t' := ⟨fun p pins s σ H Q I q => h.run p pins s σ H Q I (k σ H Q q)⟩
/-- a def of the module's top, at level k -/
structure TabF (P : Program) (w : World) (K : PySem.W.Frag) (mg : Str → Option Value) (base : Heap) (k : Nat) (x : Str) (ks : List Str) (φ : Fun2) : Prop where
  ex : ∃ f, mg x = some (.ref f) ∧ PySem.W.keepIn K (.ref f) = true ∧ CallF P w K mg base k f ks φ
section
variable {X : Cx} {W : WX} {k : Nat} {f : Addr} {ks : List Str} {φ : Fun2} {x : Str} {p pos kpos : Pos} {e : Expr} {es : List Expr} {kws : List Keyword} {fr fk : Ev → G → Re (List D)} {fe : Ev → G → Re D} {nm : Option Str}
theorem fk_nil : FK X W [] 0 fNil := ⟨PK.imp pk_nil fun σ H Q ⟨ι, ρ, g, rp, re, h⟩ => h.ok (.refl rp) .nil, fun ρ g ds g' h => by cases h; rfl⟩
theorem fk_cons {n : Nat} (ha : FE X W e fe) (hr : FK X W kws n fk) : FK X W (⟨nm, e, kpos⟩ :: kws) (n + 1) (fCons fe fk) :=
  ⟨PK.imp (pk_cons ha hr.1) fun σ H Q ⟨ι, ρ, g, rp, re, h⟩ => ⟨ι, ρ, g, rp, re, h.bind fun d g1 ι1 H1 v x1 q1 h1 => ⟨ι1, ρ, g1, x1.rep, re.nx x1, h1.bind fun e g2 ι2 H2 w x2 q2 h2 => h2.ok (.refl x2.rep) (.cons (q1.nx x2) q2)⟩⟩,
    fun ρ g ds g' h => by
      unfold fCons at h
      cases e1 : fe ρ g with
      | ok a g1 =>
        rw [e1] at h
        simp only [Re.bind] at h
        cases e2 : fk ρ g1 with
        | ok r g2 =>
          rw [e2] at h
          simp only [Re.ok.injEq] at h
          rw [← h.1]
          exact congrArg Nat.succ (hr.2 _ _ _ _ e2)
        | ex c fs g2 => rw [e2] at h; cases h
        | bad => rw [e2] at h; cases h
      | ex c fs g1 => rw [e1] at h; cases h
      | bad => rw [e1] at h; cases h⟩
theorem run_callF {pins : List (Addr × Obj)} {σ : L2.St} {H : Hp} {s : Shared} {Q : VK} {us ws : List Value} {vs zs : List V} (C : CallF X.prog X.w X.K X.mg X.base k f ks φ) (hr : Room k X.A) (tk : Takes X W) (I : Inv X pins σ H s) (r : Vals vs us) (rz : Vals zs ws) (hl : ws.length = ks.length)
    (h : spK X.w X.K X.mg φ vs zs H Q (WE W σ)) : wpAny (model X.prog X.w) X.A (call (.ref f) us (ks.zip ws)) (EP X pins σ Q) X.xe s := by
  refine wpAny_call (codeAny_mono (C X.A X.stack s H us ws vs zs Q (WE W σ) hr I.env0 r rz hl h) fun r s' hq => ?_)
  cases r with
  | error e => exact passAt tk σ pins H s e s' I hq
  | ok fl =>
    cases fl with
    | ret u => exact I.after hq
    | next => exact False.elim hq
    | brk => exact False.elim hq
    | cont => exact False.elim hq
theorem Tc.cc {σ : L2.St} {H : Hp} {ι : Nat → Addr} {g : G} {r : Re D} {Q : VK} (h : Tc X.w X.K X.mg (RV X.K) W σ H ι g r Q) : Cc X.w X.K X.mg H ι g r Q (WE W σ) := by
  cases r with
  | ok d g' => exact h
  | ex c fs g' => exact h
  | bad => exact h
theorem fe_call (C : TabF X.prog X.w X.K X.mg X.base k x [] φ) (hr : Room k X.A) (tk : Takes X W) (ha : FA X W (e :: es) fr) (hg : Gl X x := by rfl) (hdb : (x == ("__debug__" : Str)) = false := by decide)
    (he : starEach (e :: es) X.env = (false, eval e X.env) :: starEach es X.env := by rfl) (hpl : (backTo pos (starEach es X.env)).any (·.1) = false := by rfl) : FE X W (.Call (.Name x p) (e :: es) [] pos) (fCallF φ fr) := by
  obtain ⟨f, hm, hk, C⟩ := C.ex
  refine ⟨fun pins s σ H Q I ⟨ι, ρ, g, rp, re, h⟩ => ?_⟩
  refine wpAny_Call_Name_kw (ld_glob I hg hm ?_ hdb)
  have ha' := ha.run pos pins s σ H (fun vs H1 => spK X.w X.K X.mg φ vs [] H1 Q (WE W σ)) I ⟨ι, ρ, g, rp, re, h.bind fun ds g1 ι1 H1 vs y q k => ⟨ι1, g1, ds, [], y.rep, q, .nil, k.cc⟩⟩
  refine PySem.W.callWith_K (h₀ := X.base) I.ok.mod.kin hk (thn ha' fun us s1 ⟨vs, H1, I1, r, q⟩ => ⟨I1.kIn, ?_⟩) he hpl
  exact run_callF (ws := []) (zs := []) C hr tk I1 r .nil rfl q
end
end Fc

set_option Elab.async false
set_option linter.all false
set_option maxRecDepth 100000
set_option maxHeartbeats 4000000
/-! Fi: what is walked: lists, tuples, texts, ranges; enumerate and zip over lists, tuples, texts in any mix. -/
namespace Fc
open PySem PySem.Spec PyProof.Rows L2

inductive Src where
  | lst (a : Addr) | tup (a : Addr) | txt (x : Str) (t : Tok)
def signsV (x : Str) : List V := x.cps.toList.map fun c => .str ⟨#[c]⟩
def Src.at_ (K : PySem.W.Frag) (H : Hp) : Src → List V → Prop
  | .lst a, xs => SqL K H a xs
  | .tup a, xs => SqT K H a xs
  | .txt x _, xs => xs = signsV x
def Src.st : Src → Addr → Nat → Heap → Prop
  | .lst a, it, i, h => h.IsListIter it a i
  | .tup a, it, i, h => h.IsTupleIter it a i
  | .txt x t, it, i, h => h.IsStrIter it (strIterType x) x t i
def Src.fp : Src → Addr → List Addr
  | .lst a, it => [it, a]
  | .tup a, it => [it, a]
  | .txt _ _, it => [it]
def Src.val : Src → Value
  | .lst a => .ref a
  | .tup a => .ref a
  | .txt x t => .str x t
theorem Src.mem {S : Src} {it : Addr} : it ∈ S.fp it := by cases S <;> simp [Src.fp]
/-! ### enumerate -/
/-! ### zip -/
end Fc

set_option Elab.async false
set_option linter.all false
set_option maxRecDepth 100000
set_option maxHeartbeats 4000000
/-! Fj: the rules of walks. -/
namespace Fc
open PySem PySem.Spec PyProof.Rows L2

def signsD (x : Str) : List D := x.cps.toList.map fun c => .str ⟨#[c]⟩
def srcD (d : D) (g : G) : Option (List D × Wt) := match d with
  | .tup l => some (l, [])
  | .str x => some (signsD x, [])
  | .ref m => (match g[m]? with
    | some (.lst l) => some (l, [(m, l)])
    | some (.frz l) => some (l, [(m, l)])
    | _ => none)
  | _ => none
section
variable {w : World} {K : PySem.W.Frag} {mg : Str → Option Value} {ι : Nat → Addr} {g : G} {H : Hp}
end
def fSrc (f : Ev → G → Re D) : Ev → G → Re (List D × Wt) := fun ρ g => (f ρ g).bind fun d g1 => match srcD d g1 with
  | some p => .ok p g1
  | none => .bad
def rngD (lo : Int) (n : Nat) : List D := (List.range n).map fun (i : Nat) => D.int (lo + (i : Int))
def fRng1 (f : Ev → G → Re D) : Ev → G → Re (List D × Wt) := fun ρ g => (f ρ g).bind fun d g1 => match d with
  | .int j => if -(2 ^ 62) ≤ j ∧ j < 2 ^ 62 then .ok (rngD 0 j.toNat, []) g1 else .bad
  | _ => .bad
section
variable {X : Cx} {W : WX} {tg e e2 : Expr} {f f2 : Ev → G → Re D} {p pos tpos : Pos} {elts : List Expr} {kk : Nat}
set_option maxHeartbeats 4000000 in
/-- over a list, a tuple, a text -/
theorem PI.or {X : Cx} {tg e : Expr} {t u : TI} (h : PI X tg e t) (k : PI X tg e u) : PI X tg e (fun σ H R => t σ H R ∨ u σ H R) := ⟨fun pins s σ H R I q => q.elim (h.run pins s σ H R I) (k.run pins s σ H R I)⟩
theorem iok_tup {ι : Nat → Addr} {g : G} {H : Hp} {l : List D} {a : Addr} {vs : List V} (hs : SqT X.K H a vs) (r : RVs X.K ι g.length H l vs) : IOk X.w X.K X.mg ι g H (Itt X.K a) l [] := fun i ι' g' H' y hw => by
  have lx := r.length
  refine ⟨fun d ed => ?_, fun hl => ⟨vs, y.prs.sq hs, by omega⟩⟩
  obtain ⟨v, hv, q⟩ := r.get ed
  refine ⟨⟨vs, v, y.prs.sq hs, hv⟩, fun x H2 ⟨eH, k⟩ => ?_⟩
  subst eH
  have e1 := k vs (y.prs.sq hs)
  rw [hv] at e1; cases e1
  exact ⟨ι', .refl y.rep, q.nx y⟩
theorem iok_lst {ι : Nat → Addr} {g : G} {H : Hp} {l : List D} {m : Nat} (hm : m < g.length) : IOk X.w X.K X.mg ι g H (Itl X.K (ι m)) l [(m, l)] := fun i ι' g' H' y hw => by
  have hs : ∃ xs, SqL X.K H' (ι m) xs ∧ RVs X.K ι' g'.length H' l xs := by
    have em := y.agr m hm
    rcases wOk_at hw (List.mem_cons_self ..) with hl | hl
    · obtain ⟨vs, e1, r1⟩ := y.rep.obj _ _ hl
      rw [em] at e1
      exact ⟨vs, SqL.of e1, r1⟩
    · obtain ⟨ob, vs, e1, r1⟩ := y.rep.obj _ _ hl
      rw [em] at e1
      exact ⟨vs, .inl (.inr ⟨_, e1⟩), r1⟩
  obtain ⟨vs, hs, r⟩ := hs
  have lx := r.length
  refine ⟨fun d ed => ?_, fun hl => ⟨vs, hs, by omega⟩⟩
  obtain ⟨v, hv, q⟩ := r.get ed
  refine ⟨⟨vs, v, hs, hv⟩, fun x H2 ⟨eH, k⟩ => ?_⟩
  subst eH
  have e1 := k vs hs
  rw [hv] at e1; cases e1
  exact ⟨ι', .refl y.rep, q⟩
theorem iok_str {ι : Nat → Addr} {g : G} {H : Hp} (x : Str) : IOk X.w X.K X.mg ι g H (Its x) (signsD x) [] := fun i ι' g' H' y hw => by
  have hl : (signsD x).length = x.cps.size := by simp [signsD]
  refine ⟨fun d ed => ?_, fun h => show x.cps.size ≤ i by omega⟩
  have hi : i < x.cps.size := by rw [← hl]; exact (List.getElem?_eq_some_iff.mp ed).1
  refine ⟨hi, fun v H2 ⟨eH, c, ec, ev⟩ => ?_⟩
  subst eH ev
  unfold signsD at ed
  rw [List.getElem?_map, Array.getElem?_toList, ec] at ed
  cases ed
  exact ⟨ι', .refl y.rep, .str _⟩
theorem iok_rng {ι : Nat → Addr} {g : G} {H : Hp} (lo : Int) (n : Nat) : IOk X.w X.K X.mg ι g H (Itr lo n) (rngD lo n) [] := fun i ι' g' H' y hw => by
  have hl : (rngD lo n).length = n := by simp [rngD]
  refine ⟨fun d ed => ?_, fun h => show n ≤ i by omega⟩
  have hi : i < n := by rw [← hl]; exact (List.getElem?_eq_some_iff.mp ed).1
  refine ⟨hi, fun v H2 ⟨eH, ev⟩ => ?_⟩
  subst eH ev
  unfold rngD at ed
  rw [List.getElem?_map, List.getElem?_range hi] at ed
  cases ed
  exact ⟨ι', .refl y.rep, .int _⟩
theorem fi_any (he : FE X W e f) : FI X W tg e (fSrc f) := by
  refine PI.imp (PI.or (pi_list he) (PI.or (pi_tup he) (pi_str he))) fun σ H R ⟨ι, ρ, g, rp, re, h⟩ => ?_
  unfold fSrc at h
  cases ed : f ρ g with
  | ex c fs g1 => exact .inl ⟨ι, ρ, g, rp, re, by rw [ed] at h ⊢; exact h⟩
  | bad => rw [ed] at h; exact h.elim
  | ok d g1 =>
    rw [ed] at h
    have h : Ic X.w X.K X.mg W σ H ι g (match srcD d g1 with
      | some p => .ok p g1
      | none => .bad) R := h
    cases d with
    | tup l =>
      refine .inr (.inl ⟨ι, ρ, g, rp, re, ?_⟩)
      rw [ed]
      intro ι1 H1 v y q
      cases q with
      | @tup _ a vs hs r => exact ⟨a, rfl, ⟨vs, hs⟩, h ι1 H1 _ y (iok_tup hs r)⟩
    | str x =>
      refine .inr (.inr ⟨ι, ρ, g, rp, re, ?_⟩)
      rw [ed]
      intro ι1 H1 v y q
      cases q with
      | str => exact ⟨x, rfl, h ι1 H1 _ y (iok_str x)⟩
    | ref m =>
      refine .inl ⟨ι, ρ, g, rp, re, ?_⟩
      rw [ed]
      intro ι1 H1 v y q
      cases q with
      | ref hm =>
        refine ⟨_, rfl, ?_⟩
        cases e1 : g1[m]? with
        | none => simp only [srcD, e1] at h; exact h.elim
        | some o =>
          cases o with
          | lst l =>
            simp only [srcD, e1] at h
            obtain ⟨vs, e2, r⟩ := y.rep.obj _ _ e1
            exact ⟨⟨vs, SqL.of e2⟩, h ι1 H1 _ y (iok_lst hm)⟩
          | frz l =>
            simp only [srcD, e1] at h
            obtain ⟨ob, vs, e2, r⟩ := y.rep.obj _ _ e1
            exact ⟨⟨vs, .inl (.inr ⟨_, e2⟩)⟩, h ι1 H1 _ y (iok_lst hm)⟩
          | _ => simp only [srcD, e1] at h; exact h.elim
    | _ => exact h.elim
theorem fi_rng1 (hm : X.mg "range" = none) (ha : FE X W e f) (hg : Gl X "range" := by rfl) (hs : starEach [e] X.env = [(false, eval e X.env)] := by rfl) : FI X W tg (.Call (.Name "range" p) [e] [] pos) (fRng1 f) :=
  PI.imp (pi_range1 hg hm (pa_cons ha pa_nil (hs.trans rfl)) hs) fun σ H R ⟨ι, ρ, g, rp, re, h⟩ => ⟨ι, ρ, g, rp, re, h.bind fun d g1 ι1 H1 v y q h1 => by
    cases q with
    | int j =>
      simp only at h1
      split at h1
      · rename_i hb
        exact ⟨j, rfl, hb.1, hb.2, h1 ι1 H1 _ (.refl y.rep) (iok_rng 0 j.toNat)⟩
      · exact h1.elim
    | _ => exact h1.elim⟩
end
end Fc

set_option Elab.async false
set_option linter.all false
set_option maxRecDepth 100000
set_option maxHeartbeats 4000000
/-! Fo: operations on values. -/
namespace Fc
open PySem PySem.Spec PyProof.Rows L2

def b2 (b : Bool) : Int := if b = true then 1 else 0
/-! ### + - * // % ** -/
def oAddI : Op2 := fun a b g => match a, b with
  | .int i, .int j => .ok (.int (i + j)) g
  | .str x, .str y => if x.length + y.length ≤ sizeLine then .ok (.str (x ++ y)) g else .bad
  | .bl p, .int j => .ok (.int (b2 p + j)) g
  | .int i, .bl p => .ok (.int (i + b2i p)) g
  | .bl p, .bl q => .ok (.int (b2i p + b2i q)) g
  | _, _ => .bad
def oAddT : Op2 := fun a b g => match a, b with
  | .tup x, .tup y => if x.length + y.length ≤ sizeLine then .ok (.tup (x ++ y)) g else .bad
  | _, _ => .bad
def oAddL : Op2 := fun a b g => match a, b with
  | .ref m, .ref k => (match g[m]?, g[k]? with
    | some (.lst x), some (.lst y) => if x.length + y.length ≤ sizeLine then .ok (.ref g.length) (g ++ [.lst (x ++ y)]) else .bad
    | _, _ => .bad)
  | _, _ => .bad
def oAdd : Op2 := oAddI.or (oAddT.or oAddL)
def oMulI : Op2 := fun a b g => match a, b with
  | .int i, .int j => if (-(2 ^ 64) < i ∧ i < 2 ^ 64) ∨ (-(2 ^ 64) < j ∧ j < 2 ^ 64) then .ok (.int (i * j)) g else .bad
  | _, _ => .bad
def oMulT : Op2 := fun a b g => match a, b with
  | .tup x, .int k => if x ≠ [] ∧ 2 ≤ k ∧ k ≤ 1000 ∧ x.length ≤ 1000 then .ok (.tup (List.replicate k.toNat x).flatten) g else .bad
  | _, _ => .bad
def oMulL : Op2 := fun a b g => match a, b with
  | .ref m, .int k => (match g[m]? with
    | some (.lst x) => if -(2 ^ 63) ≤ k ∧ k < 2 ^ 63 ∧ x.length * k.toNat ≤ sizeLine then .ok (.ref g.length) (g ++ [.lst (List.replicate k.toNat x).flatten]) else .bad
    | _ => .bad)
  | _, _ => .bad
def oMul : Op2 := oMulI.or (oMulT.or oMulL)
def oMod : Op2 := fun a b g => match a, b with
  | .int i, .int j => if 0 < j then .ok (.int (i % j)) g else .bad
  | _, _ => .bad
def oDiv : Op2 := fun a b g => match a, b with
  | .int i, .int j => if 0 < j ∧ j < 1073741824 then .ok (.int (i / j)) g else .bad
  | _, _ => .bad
def oPow : Op2 := fun a b g => match a, b with
  | .int i, .int j => if 0 ≤ j ∧ j ≤ 1000000 ∧ i.natAbs < 2 ^ 64 then .ok (.int (i ^ j.toNat)) g else .bad
  | _, _ => .bad
def oNeg : Op1 := fun a g => match a with
  | .int i => .ok (.int (-i)) g
  | _ => .bad
/-! ### == != < <= > >= in is -/
def sclD : D → D → Option Bool
  | .non, .non => some true
  | .non, .int _ => some false | .int _, .non => some false | .non, .bl _ => some false | .bl _, .non => some false | .non, .str _ => some false | .str _, .non => some false
  | .int i, .int j => some (decide (i = j)) | .bl i, .bl j => some (decide (i = j)) | .str i, .str j => some (decide (i = j))
  | .int _, .str _ => some false | .str _, .int _ => some false | .bl _, .str _ => some false | .str _, .bl _ => some false
  | _, _ => none
mutual
/-- data as the library tells it: lists by their items (so deep at most) -/
def toP (g : G) : Nat → D → Option PyData
  | _, .non => some .none
  | _, .bl b => some (.bool b)
  | _, .int i => some (.int i)
  | _, .str x => some (.str x)
  | 0, _ => none
  | n + 1, .tup l => (toPs g n l).map .tuple
  | n + 1, .ref m => match g[m]? with
    | some (.lst l) => (toPs g n l).map .list
    | _ => none
def toPs (g : G) : Nat → List D → Option (List PyData)
  | _, [] => some []
  | 0, _ :: _ => none
  | n + 1, d :: ds => (toP g n d).bind fun p => (toPs g n ds).map (p :: ·)
end
def eqP (a b : D) (g : G) : Option Bool := match toP g 60 a, toP g 60 b with
  | some p, some q => if SeqAt.shaped p = true ∧ SeqAt.shaped q = true then some (PyData.eqv p q) else none
  | _, _ => none
/-- told by the lengths alone -/
def lenE (l l2 : List D) : Option Bool := if l.length = l2.length then (if l.length = 0 then some true else none) else some false
def eqE (a b : D) (g : G) : Option Bool := match a, b with
  | .tup l, .tup [] => some l.isEmpty
  | .ref m, .ref k => (match g[m]?, g[k]? with
    | some (.lst l), some (.lst l2) => lenE l l2
    | _, _ => none)
  | _, _ => none
def eqA (a b : D) (g : G) : Option Bool := match sclD a b with
  | some k => some k
  | none => (match eqE a b g with
    | some k => some k
    | none => eqP a b g)
def oEq : Op2 := fun a b g => match eqA a b g with
  | some k => .ok (.bl k) g
  | none => .bad
def neA (a b : D) (g : G) : Option Bool := match sclD a b with
  | some k => some k
  | none => (match eqE a b g with
    | some k => some k
    | none => eqP a b g)
def oNe : Op2 := fun a b g => match neA a b g with
  | some k => .ok (.bl (!k)) g
  | none => .bad
def oLt : Op2 := fun a b g => match a, b with
  | .int i, .int j => .ok (.bl (decide (i < j))) g
  | _, _ => .bad
def oGt : Op2 := fun a b g => match a, b with
  | .int i, .int j => .ok (.bl (decide (j < i))) g
  | _, _ => .bad
def oGe : Op2 := fun a b g => match a, b with
  | .int i, .int j => .ok (.bl (decide (j ≤ i))) g
  | _, _ => .bad
/-! ### items -/
def oIx : Op2 := fun a b g => match a, b with
  | .tup l, .int i => (match atI l i with | some d => .ok d g | none => .bad)
  | .str x, .int i => (match atI x.cps.toList i with | some c => if x.length ≤ sizeLine then .ok (.str ⟨#[c]⟩) g else .bad | none => .bad)
  | .ref m, .int i => (match g[m]? with
    | some (.lst l) => (match atI l i with | some d => .ok d g | none => .bad)
    | some (.frz l) => (match atI l i with | some d => .ok d g | none => .bad)
    | _ => .bad)
  | _, _ => .bad

section
variable {X : Cx}
theorem Vc.ok {w : World} {K : PySem.W.Frag} {mg : Str → Option Value} {H : Hp} {ι : Nat → Addr} {g : G} {d : D} {Q : VK} {v : V} (h : Vc w K mg H ι g (.ok d g) Q) (rp : Rep w K mg ι H g) (r : RV K ι g.length H d v) : Q v H := h ι H v (.refl rp) r
theorem ref_new {K : PySem.W.Frag} {ι : Nat → Addr} {g : G} {o : O} {p : Addr} {H : Hp} : RV K (ix ι g.length p) (g ++ [o]).length H (.ref g.length) (.ref p) := by
  have z := RV.ref (K := K) (ι := ix ι g.length p) (n := (g ++ [o]).length) (H := H) (m := g.length) (by simp)
  rw [ix_same] at z
  exact z
theorem OpR.or2 {f : Value → Value → Sem Value} {r r' : R2} (h : OpR X f r) (k : OpR X f r') : OpR X f (fun x y H Q => r x y H Q ∨ r' x y H Q) :=
  fun pins s σ H x y v u Q I rx ry q => q.elim (h pins s σ H x y v u Q I rx ry) (k pins s σ H x y v u Q I rx ry)
theorem add_bl_int : OpR X (binaryOp .Add) (fun x y H Q => ∃ p j, x = .bl p ∧ y = .int j ∧ Q (.int (b2 p + j)) H) := by
  intro pins s σ H x y v u Q I rx ry ⟨p, j, ex, ey, q⟩
  subst ex ey
  cases rx
  obtain ⟨t, rfl⟩ := ry
  exact IntBool.add_bool_int ⟨.int (b2 p + j), H, I.tok _, ⟨_, rfl⟩, q⟩
theorem add_bl_bl : OpR X (binaryOp .Add) (fun x y H Q => ∃ p q, x = .bl p ∧ y = .bl q ∧ Q (.int (b2i p + b2i q)) H) := by
  intro pins s σ H x y v u Q I rx ry ⟨p, q', ex, ey, q⟩
  subst ex ey
  cases rx
  cases ry
  exact add_bool ⟨.int (b2i p + b2i q'), H, I.tok _, ⟨_, rfl⟩, q⟩
theorem os_addI : OpS X (binaryOp .Add) oAddI :=
  ⟨_, OpR.or2 op_add (OpR.or2 op_add_str (OpR.or2 add_bl_int (OpR.or2 op_add_ib add_bl_bl))), fun ι g H a b x y Q rp ra rb h => by
    cases ra <;> cases rb <;> first
      | exact h.elim
      | exact .inl ⟨_, _, rfl, rfl, h.ok rp (.int _)⟩
      | (simp only [oAddI] at h
         split at h
         · rename_i hz
           exact .inr (.inl ⟨_, _, rfl, rfl, hz, h.ok rp (.str _)⟩)
         · exact h.elim)
      | exact .inr (.inr (.inl ⟨_, _, rfl, rfl, h.ok rp (.int _)⟩))
      | exact .inr (.inr (.inr (.inl ⟨_, _, rfl, rfl, h.ok rp (.int _)⟩)))
      | exact .inr (.inr (.inr (.inr ⟨_, _, rfl, rfl, h.ok rp (.int _)⟩)))⟩
theorem os_addT : OpS X (binaryOp .Add) oAddT :=
  ⟨_, op_catA, fun ι g H a b x y Q rp ra rb h => by
    cases ra <;> cases rb <;> first
      | exact h.elim
      | skip
    rename_i l p vs hs r l2 p2 ws hs2 r2
    simp only [oAddT] at h
    split at h
    · rename_i hz
      refine ⟨p, p2, vs, ws, rfl, rfl, hs, hs2, by rw [r.length, r2.length]; exact hz, fun e => ?_, fun _ e => ?_, fun _ _ q hq => ?_⟩
      · subst e
        cases r
        exact h.ok rp (.tup hs2 r2)
      · subst e
        cases r2
        rw [List.append_nil] at h
        exact h.ok rp (.tup hs r)
      · have y := Nx.newT (vs := vs ++ ws) rp hq
        exact h _ _ _ y (.tup (SqT.of upd_same) ((r.append r2).nx y))
    · exact h.elim⟩
theorem os_addL : OpS X (binaryOp .Add) oAddL :=
  ⟨_, op_cat, fun ι g H a b x y Q rp ra rb h => by
    cases ra <;> cases rb <;> first
      | exact h.elim
      | skip
    rename_i m hm k hk
    simp only [oAddL] at h
    split at h
    · rename_i l l2 e1 e2
      split at h
      · rename_i hz
        obtain ⟨vs, ev, r⟩ := rp.obj _ _ e1
        obtain ⟨ws, ew, r2⟩ := rp.obj _ _ e2
        exact ⟨_, _, vs, ws, rfl, rfl, ev, ew, by rw [r.length, r2.length]; exact hz, fun p hp => h _ _ _ (Nx.newL rp hp (r.append r2)) ref_new⟩
      · exact h.elim
    · exact h.elim⟩
theorem os_add : OpS X (binaryOp .Add) oAdd := os_addI.or (os_addT.or os_addL)
theorem os_mulI : OpS X (binaryOp .Mult) oMulI :=
  ⟨_, op_mul, fun ι g H a b x y Q rp ra rb h => by
    cases ra <;> cases rb <;> first
      | exact h.elim
      | (simp only [oMulI] at h
         split at h
         · rename_i hz
           exact ⟨_, _, rfl, rfl, hz, h.ok rp (.int _)⟩
         · exact h.elim)⟩
theorem replicate_rv {K : PySem.W.Frag} {ι : Nat → Addr} {n : Nat} {H : Hp} {l : List D} {vs : List V} (r : RVs K ι n H l vs) : ∀ k : Nat, RVs K ι n H (List.replicate k l).flatten (List.replicate k vs).flatten
  | 0 => .nil
  | k + 1 => by
    rw [List.replicate_succ, List.replicate_succ, List.flatten_cons, List.flatten_cons]
    exact r.append (replicate_rv r k)
theorem os_mulT : OpS X (binaryOp .Mult) oMulT :=
  ⟨_, op_repT, fun ι g H a b x y Q rp ra rb h => by
    cases ra <;> cases rb <;> first
      | exact h.elim
      | skip
    rename_i l p vs hs r k
    simp only [oMulT] at h
    split at h
    · rename_i hz
      refine ⟨p, k, vs, rfl, rfl, hs, fun e => ?_, hz.2.1, hz.2.2.1, by rw [r.length]; exact hz.2.2.2, fun q hq => ?_⟩
      · subst e
        cases r
        exact hz.1 rfl
      · have y := Nx.newT (vs := (List.replicate k.toNat vs).flatten) rp hq
        exact h _ _ _ y (.tup (SqT.of upd_same) ((replicate_rv r k.toNat).nx y))
    · exact h.elim⟩
theorem os_mulL : OpS X (binaryOp .Mult) oMulL :=
  ⟨_, op_rep, fun ι g H a b x y Q rp ra rb h => by
    cases ra <;> cases rb <;> first
      | exact h.elim
      | skip
    rename_i m hm k
    simp only [oMulL] at h
    split at h
    · rename_i l e1
      split at h
      · rename_i hz
        obtain ⟨vs, ev, r⟩ := rp.obj _ _ e1
        exact ⟨_, k, vs, rfl, rfl, ev, hz.1, hz.2.1, by rw [r.length]; exact hz.2.2, fun p hp => h _ _ _ (Nx.newL rp hp (replicate_rv r k.toNat)) ref_new⟩
      · exact h.elim
    · exact h.elim⟩
theorem os_mul : OpS X (binaryOp .Mult) oMul := os_mulI.or (os_mulT.or os_mulL)
theorem os_mod : OpS X (binaryOp .Mod) oMod :=
  ⟨_, op_mod, fun ι g H a b x y Q rp ra rb h => by
    cases ra <;> cases rb <;> first
      | exact h.elim
      | (simp only [oMod] at h
         split at h
         · rename_i hz
           exact ⟨_, _, rfl, rfl, hz, h.ok rp (.int _)⟩
         · exact h.elim)⟩
theorem os_div : OpS X (binaryOp .FloorDiv) oDiv :=
  ⟨_, op_fdiv, fun ι g H a b x y Q rp ra rb h => by
    cases ra <;> cases rb <;> first
      | exact h.elim
      | (simp only [oDiv] at h
         split at h
         · rename_i hz
           exact ⟨_, _, rfl, rfl, hz, h.ok rp (.int _)⟩
         · exact h.elim)⟩
theorem os_pow : OpS X (binaryOp .Pow) oPow :=
  ⟨_, op_pow, fun ι g H a b x y Q rp ra rb h => by
    cases ra <;> cases rb <;> first
      | exact h.elim
      | (simp only [oPow] at h
         split at h
         · rename_i hz
           exact ⟨_, _, rfl, rfl, hz, h.ok rp (.int _)⟩
         · exact h.elim)⟩
theorem us_neg : UnS X (unaryOp .USub) oNeg :=
  ⟨_, un_neg, fun ι g H a x Q rp ra h => by
    cases ra <;> first
      | exact h.elim
      | exact ⟨_, rfl, h.ok rp (.int _)⟩⟩
theorem os_lt : OpS X (compareOp .Lt) oLt :=
  ⟨_, op_lt, fun ι g H a b x y Q rp ra rb h => by
    cases ra <;> cases rb <;> first
      | exact h.elim
      | exact ⟨_, _, rfl, rfl, h.ok rp (.bl _)⟩⟩
theorem os_gt : OpS X (compareOp .Gt) oGt :=
  ⟨_, op_gt, fun ι g H a b x y Q rp ra rb h => by
    cases ra <;> cases rb <;> first
      | exact h.elim
      | exact ⟨_, _, rfl, rfl, h.ok rp (.bl _)⟩⟩
theorem os_ge : OpS X (compareOp .GtE) oGe :=
  ⟨_, op_ge, fun ι g H a b x y Q rp ra rb h => by
    cases ra <;> cases rb <;> first
      | exact h.elim
      | exact ⟨_, _, rfl, rfl, h.ok rp (.bl _)⟩⟩
/-! equality -/
theorem scl_ok {K : PySem.W.Frag} {ι : Nat → Addr} {n : Nat} {H : Hp} {a b : D} {x y : V} {k : Bool} (ra : RV K ι n H a x) (rb : RV K ι n H b y) (h : sclD a b = some k) : scal x y = true ∧ decide (x = y) = k := by
  cases ra <;> cases rb <;> first
    | (cases h; exact ⟨rfl, by simp⟩)
    | (cases h; exact ⟨rfl, rfl⟩)
    | (cases h; refine ⟨rfl, ?_⟩; rw [decide_eq_decide]; exact ⟨fun e => by injection e, fun e => by rw [e]⟩)
    | cases h
mutual
theorem toP_ok {w : World} {K : PySem.W.Frag} {mg : Str → Option Value} {ι : Nat → Addr} {g : G} {H : Hp} (rp : Rep w K mg ι H g) : ∀ (n : Nat) (d : D) (v : V) (p : PyData), toP g n d = some p → RV K ι g.length H d v → Dp K H v p
  | n, .non, v, p, h, r => by cases r; simp only [toP, Option.some.injEq] at h; subst h; exact .non
  | n, .bl b, v, p, h, r => by cases r; simp only [toP, Option.some.injEq] at h; subst h; exact .bl b
  | n, .int i, v, p, h, r => by cases r; simp only [toP, Option.some.injEq] at h; subst h; exact .int i
  | n, .str x, v, p, h, r => by cases r; simp only [toP, Option.some.injEq] at h; subst h; exact .str x
  | 0, .tup l, v, p, h, r => by simp [toP] at h
  | 0, .ref m, v, p, h, r => by simp [toP] at h
  | n + 1, .tup l, v, p, h, r => by
    simp only [toP, Option.map_eq_some_iff] at h
    obtain ⟨ps, h1, rfl⟩ := h
    cases r with
    | tup hs r => exact .tup hs (toPs_ok rp n l _ ps h1 r)
  | n + 1, .ref m, v, p, h, r => by
    simp only [toP] at h
    split at h
    · rename_i l el
      simp only [Option.map_eq_some_iff] at h
      obtain ⟨ps, h1, rfl⟩ := h
      cases r with
      | ref hm =>
        obtain ⟨vs, ev, r⟩ := rp.obj _ _ el
        exact .lst (SqL.of ev) (toPs_ok rp n l _ ps h1 r)
    · cases h
theorem toPs_ok {w : World} {K : PySem.W.Frag} {mg : Str → Option Value} {ι : Nat → Addr} {g : G} {H : Hp} (rp : Rep w K mg ι H g) : ∀ (n : Nat) (d : List D) (v : List V) (p : List PyData), toPs g n d = some p → RVs K ι g.length H d v → DpAll K H v p
  | n, [], v, p, h, r => by cases r; simp only [toPs, Option.some.injEq] at h; subst h; exact .nil
  | 0, d :: ds, v, p, h, r => by simp [toPs] at h
  | n + 1, d :: ds, v, p, h, r => by
    simp only [toPs, Option.bind_eq_some_iff, Option.map_eq_some_iff] at h
    obtain ⟨q, h1, qs, h2, rfl⟩ := h
    cases r with
    | cons r1 r2 => exact .cons (toP_ok rp n d _ q h1 r1) (toPs_ok rp n ds _ qs h2 r2)
end
theorem eqP_ok {w : World} {K : PySem.W.Frag} {mg : Str → Option Value} {ι : Nat → Addr} {g : G} {H : Hp} {a b : D} {x y : V} {k : Bool} (rp : Rep w K mg ι H g) (ra : RV K ι g.length H a x) (rb : RV K ι g.length H b y) (h : eqP a b g = some k) :
    ∃ p q, Dp K H x p ∧ Dp K H y q ∧ SeqAt.shaped p = true ∧ SeqAt.shaped q = true ∧ PyData.eqv p q = k := by
  unfold eqP at h
  cases e1 : toP g 60 a with
  | none => rw [e1] at h; cases h
  | some p =>
    cases e2 : toP g 60 b with
    | none => rw [e1, e2] at h; cases h
    | some q =>
      rw [e1, e2] at h
      simp only at h
      split at h
      · rename_i hs
        cases h
        exact ⟨p, q, toP_ok rp 60 a x p e1 ra, toP_ok rp 60 b y q e2 rb, hs.1, hs.2, rfl⟩
      · cases h
/-- a tuple beside the empty one -/
theorem op_eqE (hu : X.A.units < cLine) : OpR X (compareOp .Eq) (fun x y H Q => ∃ a b vs, x = .ref a ∧ y = .ref b ∧ SqT X.K H a vs ∧ SqT X.K H b [] ∧ Q (.bl vs.isEmpty) H) := by
  intro pins s σ H x y v u Q I rx ry ⟨a, b, vs, ex, ey, ha, hb, q⟩
  subst ex ey
  obtain rfl : v = .ref a := rx
  obtain rfl : u = .ref b := ry
  obtain ⟨its, r1, p1, _⟩ := I.tuple ha
  obtain ⟨its2, r2, p2, _⟩ := I.tuple hb
  cases r2
  refine SeqAt.eq_tupleAt (e := fun _ => true) p1 p2 hu (fun j h1 h2 => absurd h2 (by simp)) ⟨.bl vs.isEmpty, H, I, ?_, q⟩
  show _ = Value.bool vs.isEmpty
  cases r1 <;> rfl
theorem ne_of_rc {prog : Program} {w : World} {A : Around} {E : Value → Shared → Prop} {s : Shared} {Q : Value → Shared → Prop} {a b : Value} {k : Bool} (h : SeqAt.RcNeAt A s a b k) (hq : Q (.bool k) s) : wpAny (model prog w) A (compareOp .NotEq a b) Q E s := h prog w E Q hq
theorem op_neE (hu : X.A.units < cLine) : OpR X (compareOp .NotEq) (fun x y H Q => ∃ a b vs, x = .ref a ∧ y = .ref b ∧ SqT X.K H a vs ∧ SqT X.K H b [] ∧ Q (.bl (!vs.isEmpty)) H) := by
  intro pins s σ H x y v u Q I rx ry ⟨a, b, vs, ex, ey, ha, hb, q⟩
  subst ex ey
  obtain rfl : v = .ref a := rx
  obtain rfl : u = .ref b := ry
  obtain ⟨its, r1, p1, _⟩ := I.tuple ha
  obtain ⟨its2, r2, p2, _⟩ := I.tuple hb
  cases r2
  refine ne_of_rc (SeqAt.RcNeAt.tuples (e := fun _ => true) p1 p2 hu (fun j h1 h2 => absurd h2 (by simp))) ⟨.bl (!vs.isEmpty), H, I, ?_, q⟩
  cases r1 <;> rfl
theorem op_eqLl (hu : X.A.units < cLine) : OpR X (compareOp .Eq) (fun x y H Q => ∃ a b vs ws, x = .ref a ∧ y = .ref b ∧ SqL X.K H a vs ∧ SqL X.K H b ws ∧ (vs.length = ws.length → vs.length = 0) ∧ Q (.bl (decide (vs.length = ws.length))) H) := by
  intro pins s σ H x y v u Q I rx ry ⟨a, b, vs, ws, ex, ey, ha, hb, h0, q⟩
  subst ex ey
  obtain rfl : v = .ref a := rx
  obtain rfl : u = .ref b := ry
  obtain ⟨its, r1, p1, _⟩ := I.list ha
  obtain ⟨its2, r2, p2, _⟩ := I.list hb
  have l1 := r1.length
  have l2 := r2.length
  by_cases e : vs.length = ws.length
  · have z := h0 e
    have z1 : its = [] := List.eq_nil_of_length_eq_zero (by omega)
    have z2 : its2 = [] := List.eq_nil_of_length_eq_zero (by omega)
    subst z1 z2
    refine SeqAt.eq_listAt (e := fun _ => true) p1.isList p2.isList rfl hu (fun j h1 h2 => absurd h2 (by simp)) ⟨_, H, I, ?_, q⟩
    rw [decide_eq_true e]
    rfl
  · refine SeqAt.eq_list_lengthsAt p1.isList p2.isList (by simp only [List.size_toArray, bne_iff_ne]; omega) hu ⟨_, H, I, ?_, q⟩
    rw [decide_eq_false e]
    rfl
theorem op_neLl (hu : X.A.units < cLine) : OpR X (compareOp .NotEq) (fun x y H Q => ∃ a b vs ws, x = .ref a ∧ y = .ref b ∧ SqL X.K H a vs ∧ SqL X.K H b ws ∧ (vs.length = ws.length → vs.length = 0) ∧ Q (.bl (!decide (vs.length = ws.length))) H) := by
  intro pins s σ H x y v u Q I rx ry ⟨a, b, vs, ws, ex, ey, ha, hb, h0, q⟩
  subst ex ey
  obtain rfl : v = .ref a := rx
  obtain rfl : u = .ref b := ry
  obtain ⟨its, r1, p1, _⟩ := I.list ha
  obtain ⟨its2, r2, p2, _⟩ := I.list hb
  have l1 := r1.length
  have l2 := r2.length
  by_cases e : vs.length = ws.length
  · have z := h0 e
    have z1 : its = [] := List.eq_nil_of_length_eq_zero (by omega)
    have z2 : its2 = [] := List.eq_nil_of_length_eq_zero (by omega)
    subst z1 z2
    refine ne_of_rc (SeqAt.RcNeAt.lists (e := fun _ => true) p1.isList p2.isList rfl hu (fun j h1 h2 => absurd h2 (by simp))) ⟨_, H, I, ?_, q⟩
    rw [decide_eq_true e]
    rfl
  · refine ne_of_rc (SeqAt.RcNeAt.lists_lengths p1.isList p2.isList (by simp only [List.size_toArray, bne_iff_ne]; omega) hu) ⟨_, H, I, ?_, q⟩
    rw [decide_eq_false e]
    rfl
theorem eqE_cases {w : World} {K : PySem.W.Frag} {mg : Str → Option Value} {ι : Nat → Addr} {g : G} {H : Hp} {a b : D} {x y : V} {k : Bool} (rp : Rep w K mg ι H g) (ra : RV K ι g.length H a x) (rb : RV K ι g.length H b y) (h : eqE a b g = some k) :
    (∃ p q vs, x = .ref p ∧ y = .ref q ∧ SqT K H p vs ∧ SqT K H q [] ∧ vs.isEmpty = k) ∨ ∃ p q vs ws, x = .ref p ∧ y = .ref q ∧ SqL K H p vs ∧ SqL K H q ws ∧ (vs.length = ws.length → vs.length = 0) ∧ decide (vs.length = ws.length) = k := by
  cases ra <;> first
    | (simp only [eqE] at h; cases h; done)
    | skip
  · rename_i l p vs hs r
    cases rb with
    | @tup l2 p2 ws hs2 r2 =>
      cases r2 with
      | nil =>
        cases h
        exact .inl ⟨p, p2, vs, rfl, rfl, hs, hs2, r.isEmpty⟩
      | cons _ _ => simp only [eqE] at h; cases h
    | _ => simp only [eqE] at h; cases h
  · rename_i m hm
    cases rb with
    | @ref m2 hm2 =>
      simp only [eqE] at h
      split at h
      · rename_i l l2 e1 e2
        obtain ⟨vs, ev, r⟩ := rp.obj _ _ e1
        obtain ⟨ws, ew, r2⟩ := rp.obj _ _ e2
        refine .inr ⟨_, _, vs, ws, rfl, rfl, SqL.of ev, SqL.of ew, ?_⟩
        rw [r.length, r2.length]
        unfold lenE at h
        split at h
        · rename_i e
          split at h
          · rename_i z
            cases h
            exact ⟨fun _ => z, decide_eq_true e⟩
          · cases h
        · rename_i e
          cases h
          exact ⟨fun q => absurd q e, decide_eq_false e⟩
      · cases h
    | _ => simp only [eqE] at h; cases h
theorem os_eq (hu : X.A.units + 64 < cLine) : OpS X (compareOp .Eq) oEq :=
  ⟨_, OpR.or2 op_eq (OpR.or2 (op_eqE (by omega)) (OpR.or2 (op_eqLl (by omega)) (op_eqD hu))), fun ι g H a b x y Q rp ra rb h => by
    unfold oEq eqA at h
    cases e : sclD a b with
    | some k =>
      rw [e] at h
      obtain ⟨h1, h2⟩ := scl_ok ra rb e
      exact .inl ⟨h1, h2 ▸ h.ok rp (.bl k)⟩
    | none =>
      rw [e] at h
      cases e1 : eqE a b g with
      | some k =>
        rw [e1] at h
        have hq := h.ok rp (.bl k)
        rcases eqE_cases rp ra rb e1 with ⟨p, q, vs, ex, ey, h1, h2, h3⟩ | ⟨p, q, vs, ws, ex, ey, h1, h2, h3, h4⟩
        · exact .inr (.inl ⟨p, q, vs, ex, ey, h1, h2, by rw [h3]; exact hq⟩)
        · exact .inr (.inr (.inl ⟨p, q, vs, ws, ex, ey, h1, h2, h3, by rw [h4]; exact hq⟩))
      | none =>
        rw [e1] at h
        cases e2 : eqP a b g with
        | none => simp only [e2] at h; exact h.elim
        | some k =>
          simp only [e2] at h
          obtain ⟨p, q, h1, h2, h3, h4, h5⟩ := eqP_ok rp ra rb e2
          exact .inr (.inr (.inr ⟨p, q, h1, h2, h3, h4, by rw [h5]; exact h.ok rp (.bl k)⟩))⟩
theorem os_ne (hu : X.A.units + 64 < cLine) : OpS X (compareOp .NotEq) oNe :=
  ⟨_, OpR.or2 op_ne (OpR.or2 (op_neE (by omega)) (OpR.or2 (op_neLl (by omega)) (op_neD hu))), fun ι g H a b x y Q rp ra rb h => by
    unfold oNe neA at h
    cases e : sclD a b with
    | some k =>
      rw [e] at h
      obtain ⟨h1, h2⟩ := scl_ok ra rb e
      exact .inl ⟨h1, by rw [h2]; exact h.ok rp (.bl (!k))⟩
    | none =>
      rw [e] at h
      cases e1 : eqE a b g with
      | some k =>
        rw [e1] at h
        have hq := h.ok rp (.bl (!k))
        rcases eqE_cases rp ra rb e1 with ⟨p, q, vs, ex, ey, h1, h2, h3⟩ | ⟨p, q, vs, ws, ex, ey, h1, h2, h3, h4⟩
        · exact .inr (.inl ⟨p, q, vs, ex, ey, h1, h2, by rw [h3]; exact hq⟩)
        · exact .inr (.inr (.inl ⟨p, q, vs, ws, ex, ey, h1, h2, h3, by rw [h4]; exact hq⟩))
      | none =>
        rw [e1] at h
        cases e2 : eqP a b g with
        | none => simp only [e2] at h; exact h.elim
        | some k =>
          simp only [e2] at h
          obtain ⟨p, q, h1, h2, h3, h4, h5⟩ := eqP_ok rp ra rb e2
          exact .inr (.inr (.inr ⟨p, q, h1, h2, h3, h4, by rw [h5]; exact h.ok rp (.bl (!k))⟩))⟩
/-! in -/
/-! items -/
theorem atI_rv {K : PySem.W.Frag} {ι : Nat → Addr} {n : Nat} {H : Hp} {l : List D} {vs : List V} {i : Int} {d : D} (r : RVs K ι n H l vs) (h : atI l i = some d) : ∃ v, atI vs i = some v ∧ RV K ι n H d v := by
  unfold atI at h ⊢
  rw [r.length]
  obtain ⟨j, h1, h2⟩ := Option.bind_eq_some_iff.mp h
  obtain ⟨v, h3, h4⟩ := r.get h2
  exact ⟨v, Option.bind_eq_some_iff.mpr ⟨j, h1, h3⟩, h4⟩
theorem xs_ix : IxS X oIx :=
  ⟨_, ix_list.or (ix_tup.or ix_str), fun ι g H a b x y Q rp ra rb h => by
    cases rb with
    | int i =>
      cases ra with
      | @tup l p vs hs r =>
        simp only [oIx] at h
        split at h
        · rename_i d e
          obtain ⟨v, h1, h2⟩ := atI_rv r e
          exact .inr (.inl ⟨p, vs, i, v, rfl, rfl, hs, h1, h.ok rp h2⟩)
        · exact h.elim
      | str z =>
        simp only [oIx] at h
        split at h
        · rename_i c e
          split at h
          · rename_i hz
            exact .inr (.inr ⟨z, i, c, rfl, rfl, hz, e, h.ok rp (.str _)⟩)
          · exact h.elim
        · exact h.elim
      | @ref m hm =>
        simp only [oIx] at h
        split at h
        · rename_i l el
          obtain ⟨vs, ev, r⟩ := rp.obj _ _ el
          split at h
          · rename_i d e
            obtain ⟨v, h1, h2⟩ := atI_rv r e
            exact .inl ⟨_, vs, i, v, rfl, rfl, SqL.of ev, h1, h.ok rp h2⟩
          · exact h.elim
        · rename_i l el
          obtain ⟨ob, vs, ev, r⟩ := rp.obj _ _ el
          split at h
          · rename_i d e
            obtain ⟨v, h1, h2⟩ := atI_rv r e
            exact .inl ⟨_, vs, i, v, rfl, rfl, .inl (.inr ⟨_, ev⟩), h1, h.ok rp h2⟩
          · exact h.elim
        · exact h.elim
      | _ => exact h.elim
    | _ => cases ra <;> exact h.elim⟩
end
end Fc

set_option Elab.async false
set_option linter.all false
set_option maxRecDepth 100000
set_option maxHeartbeats 4000000
/-! Fp: chains, slices, built-in functions. -/
namespace Fc
open PySem PySem.Spec PyProof.Rows L2

/-! ### a < b < c -/
section
variable {X : Cx} {W : WX} {pos : Pos} {a b c : Expr} {fa fb fc : Ev → G → Re D}
end

/-! ### slices -/
theorem PO.imp {X : Cx} {e : Option Expr} {t t' : TO} (h : PO X e t) (k : ∀ σ H Q, t' σ H Q → t σ H Q) : PO X e t' := ⟨fun pins s σ H Q I q => h.run pins s σ H Q I (k σ H Q q)⟩
section
variable {X : Cx} {W : WX} {pos p2 : Pos} {e : Expr} {lo hi : Option Expr} {f : Ev → G → Re D} {fl fh : Option (Ev → G → Re D)}
end

/-! ### isinstance -/
section
variable {X : Cx} {W : WX} {pos p p1 : Pos} {e : Expr} {f : Ev → G → Re D} {x : Str} {T : String} {own : Str → Option Bool}
end

/-! ### built-in functions of values -/
def lenD (d : D) (g : G) : Option Nat := match d with
  | .str x => if x.length ≤ sizeLine then some x.length else none
  | .tup l => some l.length
  | .ref m => match g[m]? with
    | some (.lst l) => some l.length
    | some (.frz l) => some l.length
    | _ => none
  | _ => none
def oLen : OpN := fun as g => match as with
  | [d] => (match lenD d g with | some n => .ok (.int (n : Int)) g | none => .bad)
  | _ => .bad
def lstAt (d : D) (g : G) : Option (List D) := match d with
  | .ref m => match g[m]? with
    | some (.lst l) => some l
    | some (.frz l) => some l
    | _ => none
  | _ => none
def oAbs : OpN := fun as g => match as with
  | [.int i] => .ok (.int (if i < 0 then -i else i)) g
  | _ => .bad
def oMax2 : OpN := fun as g => match as with
  | [.int i, .int j] => .ok (.int (if j > i then j else i)) g
  | _ => .bad
def oMin2 : OpN := fun as g => match as with
  | [.int i, .int j] => .ok (.int (if j < i then j else i)) g
  | _ => .bad
def oInt : OpN := fun as g => match as with
  | [.int i] => .ok (.int i) g
  | [.bl b] => .ok (.int (if b then 1 else 0)) g
  | _ => .bad
section
variable {X : Cx}
theorem lstAt_ok {w : World} {K : PySem.W.Frag} {mg : Str → Option Value} {ι : Nat → Addr} {g : G} {H : Hp} {d : D} {v : V} {l : List D} (rp : Rep w K mg ι H g) (r : RV K ι g.length H d v) (h : lstAt d g = some l) : ∃ p vs, v = .ref p ∧ SqL K H p vs ∧ RVs K ι g.length H l vs := by
  cases r with
  | ref hm =>
    simp only [lstAt] at h
    split at h
    · rename_i l' el
      obtain ⟨vs, ev, r⟩ := rp.obj _ _ el
      cases h
      exact ⟨_, vs, rfl, SqL.of ev, r⟩
    · rename_i l' el
      obtain ⟨ob, vs, ev, r⟩ := rp.obj _ _ el
      cases h
      exact ⟨_, vs, rfl, .inl (.inr ⟨_, ev⟩), r⟩
    · cases h
  | _ => cases h
theorem RVs.one {K : PySem.W.Frag} {ι : Nat → Addr} {n : Nat} {H : Hp} {d : D} {vs : List V} (r : RVs K ι n H [d] vs) : ∃ v, vs = [v] ∧ RV K ι n H d v := by
  cases r with
  | cons r t => cases t; exact ⟨_, rfl, r⟩
theorem RVs.two {K : PySem.W.Frag} {ι : Nat → Addr} {n : Nat} {H : Hp} {d e : D} {vs : List V} (r : RVs K ι n H [d, e] vs) : ∃ v w, vs = [v, w] ∧ RV K ι n H d v ∧ RV K ι n H e w := by
  cases r with
  | cons r t => obtain ⟨w, rfl, q⟩ := t.one; exact ⟨_, w, rfl, r, q⟩
theorem cs_len : CallS X (.builtin "len") oLen := ⟨_, call_len, fun ι g H as xs Q rp ra h => by
  unfold oLen at h
  split at h
  · rename_i d
    obtain ⟨v, rfl, r⟩ := ra.one
    split at h
    · rename_i n e
      refine ⟨v, n, rfl, ?_, h.ok rp (.int _)⟩
      cases r with
      | str x =>
        simp only [lenD] at e
        split at e
        · rename_i hz; cases e; exact ⟨hz, rfl⟩
        · cases e
      | tup hs r => cases e; exact .inr ⟨_, hs, r.length.symm⟩
      | ref hm =>
        simp only [lenD] at e
        split at e
        · rename_i l el; cases e
          obtain ⟨vs, ev, r⟩ := rp.obj _ _ el
          exact .inl ⟨vs, SqL.of ev, r.length.symm⟩
        · rename_i l el; cases e
          obtain ⟨ob, vs, ev, r⟩ := rp.obj _ _ el
          exact .inl ⟨vs, .inl (.inr ⟨_, ev⟩), r.length.symm⟩
        · cases e
      | _ => cases e
    · exact h.elim
  · exact h.elim⟩
theorem cs_abs : CallS X (.builtin "abs") oAbs := ⟨_, call_abs, fun ι g H as xs Q rp ra h => by
  unfold oAbs at h
  split at h
  · obtain ⟨v, rfl, r⟩ := ra.one
    cases r
    exact ⟨_, rfl, h.ok rp (.int _)⟩
  · exact h.elim⟩
theorem cs_max2 (hc : X.calm = true) : CallS X (.builtin "max") oMax2 := ⟨_, call_max2 hc, fun ι g H as xs Q rp ra h => by
  unfold oMax2 at h
  split at h
  · obtain ⟨v, w, rfl, r, r2⟩ := ra.two
    cases r; cases r2
    exact ⟨_, _, rfl, h.ok rp (.int _)⟩
  · exact h.elim⟩
theorem cs_min2 (hc : X.calm = true) : CallS X (.builtin "min") oMin2 := ⟨_, call_min2 hc, fun ι g H as xs Q rp ra h => by
  unfold oMin2 at h
  split at h
  · obtain ⟨v, w, rfl, r, r2⟩ := ra.two
    cases r; cases r2
    exact ⟨_, _, rfl, h.ok rp (.int _)⟩
  · exact h.elim⟩
theorem cs_int : CallS X (.type "int") oInt := ⟨_, call_int1, fun ι g H as xs Q rp ra h => by
  unfold oInt at h
  split at h
  · obtain ⟨v, rfl, r⟩ := ra.one
    cases r
    exact .inl ⟨_, rfl, h.ok rp (.int _)⟩
  · obtain ⟨v, rfl, r⟩ := ra.one
    cases r
    exact .inr ⟨_, rfl, h.ok rp (.int _)⟩
  · exact h.elim⟩
end
end Fc

set_option Elab.async false
set_option linter.all false
set_option maxRecDepth 100000
set_option maxHeartbeats 4000000
/-! Fq: a starred target, the greatest of a list or a default, a tuple from behind, a written table asked. -/
namespace Fc
open PySem PySem.Spec PySem.Calls PyProof.Rows L2

/-! ### a, *b = t -/
theorem vals_take {xs : List V} {us : List Value} (r : Vals xs us) (k : Nat) : Vals (xs.take k) (us.take k) := by
  induction k generalizing xs us with
  | zero => exact .nil
  | succ k ih => cases r with
    | nil => exact .nil
    | cons r t => exact .cons r (ih t)
theorem vals_drop {xs : List V} {us : List Value} (r : Vals xs us) (k : Nat) : Vals (xs.drop k) (us.drop k) := by
  induction k generalizing xs us with
  | zero => exact r
  | succ k ih => cases r with
    | nil => exact .nil
    | cons r t => exact ih t
/-! ### max(xs, default=d) -/
section
variable {prog : Program} {w : World} {A : Around} {R : Result → Shared → Prop} {I : Addr} {fp wr : List Addr} {n : Nat} {P : Nat → Value → Prop} {St : Nat → Heap → Prop} {kw : List (Str × Value)}
end
end Fc

set_option Elab.async false
set_option linter.all false
set_option maxRecDepth 100000
set_option maxHeartbeats 4000000
/-! Fr: built-ins by keyword, a tuple from behind, a written table asked, data of the module. -/
namespace Fc
open PySem PySem.Spec PySem.Calls PyProof.Rows L2

/-! ### max(xs, default=d) -/
section
variable {X : Cx} {W : WX} {pos p : Pos} {e : Expr} {kws : List Keyword} {fr fk : Ev → G → Re (List D)} {n : Nat}
end

/-! ### a table that stands in the written part: d.get(k) -/
/-! ### t[::-1] -/
section
variable {prog : Program} {w : World} {A : Around} {E : Value → Shared → Prop} {s : Shared}
end
end Fc

set_option Elab.async false
set_option linter.all false
set_option maxRecDepth 100000
set_option maxHeartbeats 4000000
/-! Ft: own classes: made, read, written, their methods. -/
namespace Fc
open PySem PySem.Spec PySem.Calls PyProof.Rows L2

section
variable {w : World} {K : PySem.W.Frag} {mg : Str → Option Value} {ι : Nat → Addr} {g : G} {H : Hp}
theorem Nx.newU {p : Addr} {u : HO} (r : Rep w K mg ι H g) (hp : H p = none) : Nx w K mg ι g H ι g (L2.upd H p u) := by
  have pr : Pres H (L2.upd H p u) := Pres.new hp
  refine ⟨⟨fun m ob e => ?_, r.inj⟩, Nat.le_refl _, fun _ _ => rfl, pr⟩
  have hm := (List.getElem?_eq_some_iff.mp e).1
  obtain ⟨w, hw, _⟩ := (r.obj m ob e).tracked
  exact (r.obj m ob e).upd (fun k hk => rfl) (Nat.le_refl _) pr.toPres0 (ne_of_none hw hp) fun y z => by rw [hp] at z; cases z
end
theorem RKs.lookup {K : PySem.W.Frag} {ι : Nat → Addr} {n : Nat} {H : Hp} {f : Str} : ∀ {ds : List (Str × D)} {vs : List (Str × V)} {d : D}, RKs K ι n H ds vs → ds.lookup f = some d → ∃ v, vs.lookup f = some v ∧ RV K ι n H d v
  | _, _, _, .nil, e => by cases e
  | _, _, _, .cons (k := k) q t, e => by
    unfold List.lookup at e ⊢
    cases h : f == k with
    | true => rw [h] at e; cases e; exact ⟨_, rfl, q⟩
    | false => rw [h] at e; exact RKs.lookup t e
theorem RKs.length {κ : Type} {K : PySem.W.Frag} {ι : Nat → Addr} {n : Nat} {H : Hp} : ∀ {ds : List (κ × D)} {vs : List (κ × V)}, RKs K ι n H ds vs → vs.length = ds.length
  | _, _, .nil => rfl
  | _, _, .cons _ t => congrArg Nat.succ (RKs.length t)
section
variable {X : Cx} {W : WX} {pos pos' : Pos} {o value : Expr} {f : Str} {fo fv : Ev → G → Re D} {own : Str → Bool}
end

/-! ### what a class's name makes -/
section
variable {X : Cx} {W : WX} {k : Nat} {f C : Addr} {ks : List Str} {φ : Fun2} {x : Str} {p pos kpos : Pos} {e : Expr} {es : List Expr} {kws : List Keyword} {fr fk : Ev → G → Re (List D)}
end

/-! ### methods -/
section
variable {X : Cx} {W : WX} {k : Nat} {φ : Fun2} {c m : Str} {p pos apos : Pos} {o e : Expr} {es : List Expr} {fo : Ev → G → Re D} {fr : Ev → G → Re (List D)} {pl : Sem Bool}
end
end Fc

set_option Elab.async false
set_option linter.all false
set_option maxRecDepth 100000
set_option maxHeartbeats 4000000
/-! Fu: dicts; a def with **kw called with keywords that it names. -/
namespace Fc
open PySem PySem.Spec PySem.Calls PyProof.Rows L2

/-! ### a def (.., *, k=d, **kw) -/
/-- t looks the names up in the dict at D, one behind another, and goes on as T -/
def KwTo {α : Type} (D : Addr) : List (Str × Value) → Sem α → Sem α → Prop
  | [], t, T => t = T
  | q :: l, t, T => ∃ (β γ : Type) (k1 : Option Value → Sem β) (k2 : β → Sem γ) (k3 : γ → Sem α) (a : β), t = ((nsGet D q.1 >>= k1) >>= k2) >>= k3 ∧ k1 (some q.2) = pure a ∧ KwTo D l (k2 a >>= k3) T
theorem KwTo.run {α : Type} {K : PySem.W.Frag} {M : Model} {A : Around} {D : Addr} {Q : α → Shared → Prop} {E : Value → Shared → Prop} {s : Shared} (X : K.In s.heap) : ∀ {l : List (Str × Value)} {t T : Sem α}, (∀ q ∈ l, PySem.W.nsIn K D q.1 = some (some q.2)) → KwTo D l t T → wpAny M A T Q E s → wpAny M A t Q E s
  | [], t, T, _, e, h => by
    have e : t = T := e
    rw [e]; exact h
  | q :: l, t, T, hl, e, h => by
    obtain ⟨β, γ, k1, k2, k3, a, e1, e2, e3⟩ := e
    have ih := KwTo.run X (fun p hp => hl p (List.mem_cons_of_mem _ hp)) e3 h
    rw [e1, bind_assoc, bind_assoc]
    refine wpAny_bind ((PySem.W.looks_nsIn X (hl q (List.mem_cons_self ..))).here ?_)
    rw [e2, pure_bind]
    exact ih
section
variable {P : Program} {w : World} {K : PySem.W.Frag} {mg : Str → Option Value} {base : Heap} {x qual : Str} {params : Arguments} {body : List Stmt} {scope : Scope} {kws : List (Str × V)} {f : Addr} {fd : FuncData}
end

/-! ### dicts -/
def lenF (d : D) (g : G) : Option Nat := match d with
  | .ref m => match g[m]? with
    | some (.dct l) => some l.length
    | _ => none
  | _ => none
def OpN.or (o p : OpN) : OpN := fun as g => match o as g with
  | .ok d g' => .ok d g'
  | _ => p as g
theorem CallS.or {X : Cx} {f : Value} {o p : OpN} (h : CallS X f o) (k : CallS X f p) : CallS X f (o.or p) := by
  obtain ⟨r, hr, h⟩ := h
  obtain ⟨r', hr', k⟩ := k
  refine ⟨_, CallR.or hr hr', fun ι g H as xs Q rp ra q => ?_⟩
  unfold OpN.or at q
  split at q
  · rename_i e
    exact .inl (h ι g H as xs Q rp ra (by rw [e]; exact q))
  · exact .inr (k ι g H as xs Q rp ra q)
def oLenF : OpN := fun as g => match as with
  | [d] => (match lenF d g with | some n => .ok (.int (n : Int)) g | none => .bad)
  | _ => .bad
def oLenA : OpN := oLen.or oLenF
section
variable {X : Cx} {W : WX} {pos : Pos}
theorem cs_lenF : CallS X (.builtin "len") oLenF := ⟨_, call_lenD, fun ι g H as xs Q rp ra h => by
  unfold oLenF at h
  split at h
  · obtain ⟨v, rfl, r⟩ := ra.one
    split at h
    · rename_i n e
      cases r with
      | ref hm =>
        simp only [lenF] at e
        split at e
        · rename_i l el
          cases e
          obtain ⟨vs, ev, r⟩ := rp.obj _ _ el
          exact ⟨_, vs, rfl, ev, by rw [r.length]; exact h.ok rp (.int _)⟩
        · cases e
      | _ => cases e
    · exact h.elim
  · exact h.elim⟩
theorem cs_lenA : CallS X (.builtin "len") oLenA := cs_len.or cs_lenF
end

/-! ### for k, v in d.items() -/
theorem RKs.get {κ : Type} {K : PySem.W.Frag} {ι : Nat → Addr} {n : Nat} {H : Hp} : ∀ {ds : List (κ × D)} {vs : List (κ × V)} {i : Nat} {k : κ} {v : V}, RKs K ι n H ds vs → vs[i]? = some (k, v) → ∃ d, ds[i]? = some (k, d) ∧ RV K ι n H d v
  | _, _, _, _, _, .nil, e => by simp at e
  | _, _, 0, _, _, .cons r _, e => by simp at e; obtain ⟨rfl, rfl⟩ := e; exact ⟨_, rfl, r⟩
  | _, _, i + 1, _, _, .cons _ t, e => by
    obtain ⟨d, h1, h2⟩ := RKs.get (i := i) t (by simpa using e)
    exact ⟨d, by simpa using h1, h2⟩
section
variable {w : World} {K : PySem.W.Frag} {mg : Str → Option Value} {ι ι1 ι2 : Nat → Addr} {g g0 g1 g2 : G} {H H1 H2 : Hp}
end
section
variable {X : Cx} {W : WX} {st : Stmt} {f : Ev → G → Rs} {pos cpos apos tpos : Pos} {e : Expr} {elts : List Expr} {kk : Nat} {fd : Ev → G → Re D} {b : Bd} {body : List Stmt} {fb : Ev → G → Rs} {sl : List Nat}
end
end Fc

set_option Elab.async false
set_option linter.all false
set_option maxRecDepth 100000
set_option maxHeartbeats 4000000
/-! Fv: what the printed walks use besides. -/
namespace Fc
open PySem PySem.Spec PySem.Calls PyProof.Rows L2

theorem vals_pick {xs : List V} {us : List Value} (r : Vals xs us) (i : Nat) : Vals ((xs.drop i).take 1) ((us.drop i).take 1) := vals_take (vals_drop r i) 1
theorem RVs.pick {K : PySem.W.Frag} {ι : Nat → Addr} {n : Nat} {H : Hp} {ds : List D} {vs : List V} (r : RVs K ι n H ds vs) (i : Nat) : RVs K ι n H ((ds.drop i).take 1) ((vs.drop i).take 1) := (r.drop i).take 1
theorem CallF.weak {P : Program} {w : World} {K : PySem.W.Frag} {mg : Str → Option Value} {base : Heap} {k : Nat} {f : Addr} {ks : List Str} {φ φ' : Fun2} (h : CallF P w K mg base k f ks φ) (k' : ∀ ds es g, φ' ds es g = φ ds es g ∨ φ' ds es g = .bad) : CallF P w K mg base k f ks φ' :=
  fun A outer s H us ws vs zs Q E hr e0 r rz hl ⟨ι, g, ds, es, rp, rv, rw', q⟩ => by
    rcases k' ds es g with e | e
    · exact h A outer s H us ws vs zs Q E hr e0 r rz hl ⟨ι, g, ds, es, rp, rv, rw', e ▸ q⟩
    · rw [e] at q; exact q.elim
section
variable {K : PySem.W.Frag} {x qual : Str} {params : Arguments} {body : List Stmt} {scope : Scope} {kws : List (Str × V)} {f : Addr} {fd : FuncData} {ps : List Str}
theorem _root_.L2.FunD.kbindsN (F : FunD K x qual params body scope [] kws f fd) (n : Nat) (ks : List Str) (g : {α : Type} → List α → List α → List α)
    (hrel : ∀ {vs zs : List V} {us ws : List Value}, Vals vs us → Vals zs ws → Vals (g vs zs) (g us ws))
    (h : ∀ (kV doc pm : Value) (an : Option Addr) (cdv ct : Value) (us ws : List Value), us.length = n → ws.length = ks.length → bindArgs (PySem.W.fnOf x qual params body scope .none kV doc pm an cdv ct) ⟨us, ks.zip ws⟩ = pure (ps.zip (g us ws))) : KBn K fd ps n ks (fun us ws => g us ws) (fun vs zs => g vs zs) := by
  obtain ⟨oc, od, dV, kV, doc, pm, an, cdv, ct, osl, rfl, lk, hcd, hD, hK⟩ := F.ex
  rcases hD with ⟨_, rfl⟩ | ⟨e, _⟩
  · exact ⟨fun s us ws X l1 l2 => .of_eq (h kV doc pm an cdv ct us ws l1 l2), fun r1 r2 => hrel r1 r2⟩
  · exact absurd rfl e
end
end Fc

set_option Elab.async false
set_option linter.all false
set_option maxRecDepth 100000
set_option maxHeartbeats 4000000
/-! Fh: what the top has written, read off the written part by one look. -/
namespace Fc
open PySem PySem.Spec PySem.Calls PyProof.Rows L2

theorem noList_ok {K : PySem.W.Frag} (h : noList K = true) {a : Addr} {o : Obj} (e : K.lookup a = some o) : o.cls ≠ .type "list" := by
  have go : ∀ {K : PySem.W.Frag}, noList K = true → K.lookup a = some o → o.cls ≠ .type "list" := by
    intro K
    induction K with
    | nil => intro _ e; cases e
    | cons p r ih =>
      intro h e
      obtain ⟨b, ob⟩ := p
      obtain ⟨h1, h2⟩ := Bool.and_eq_true_iff.mp (show ((match ob.cls with | .type c => !decide (c = "list") | _ => true) && noList r) = true from h)
      unfold List.lookup at e
      cases q : a == b with
      | true =>
        rw [q] at e
        cases e
        intro z
        rw [z] at h1
        simp at h1
      | false => rw [q] at e; exact ih h2 e
  exact go h e
/-- the script: a list that nothing changes -/
theorem frz_of {K : PySem.W.Frag} {H : Hp} {a : Addr} {xs : List V} (nl : noList K = true) (hO : Only H) (h : SqL K H a xs) : ∃ o, H a = some (.frz o (.lst xs)) := by
  rcases h with (h | h) | ⟨o, its, n, e, c, _⟩
  · rcases hO a with z | ⟨o, ys, z⟩
    · rw [z] at h; cases h
    · rw [z] at h; cases h
  · exact h
  · exact absurd c (noList_ok nl e)
theorem rep0 {w : World} {K : PySem.W.Frag} {mg : Str → Option Value} {H : Hp} {a : Addr} {o : Obj} {ns : List Int} (h : H a = some (.frz o (.lst (ns.map V.int)))) : Rep w K mg (fun _ => a) H [.frz (ns.map D.int)] := by
  refine ⟨fun m ob e => ?_, fun m k hm hk _ => ?_⟩
  · cases m with
    | zero =>
      cases e
      refine ⟨o, _, h, ?_⟩
      clear h
      induction ns with
      | nil => exact .nil
      | cons n ns ih => exact .cons (.int n) ih
    | succ m => simp at e
  · simp only [List.length_singleton] at hm hk
    omega

section
variable {K : PySem.W.Frag} {h : Heap} {mg : Str → Option Value} {w : World}
theorem ba' {a b : Bool} (h : (a && b) = true) : a = true ∧ b = true := Bool.and_eq_true_iff.mp h
end
end Fc

set_option Elab.async false
set_option linter.all false
set_option maxRecDepth 100000
set_option maxHeartbeats 4000000
/-! Fhk: the head by one kernel run: a Hook that reads what we ask of the written part. -/
namespace Fc
open PySem PySem.Spec PySem.Calls PyProof.Rows L2
/-- a law's end, the written part read by a Hook -/
theorem walk_ofH {l : PySem.W.OpenLaw} {n k : Nat} {q : Program} {loose : List Str} {XP : (Str → Option Value) → Heap → Prop} {YP : World → Heap → Prop} {d : DefRec} {CX : World → CXT} {x : Str} (h1 : l.most = some n) (h2 : n ≤ sizeLine) (h3 : d.params.defaults = []) (h4 : L2.Room k callerA)
    (F : ∀ (w : World) (mg : Str → Option Value) (fa : Addr) (h : Heap), YP w h → h.Ns mainGlobals mg → mg d.name = some (.ref fa) → ∃ (K : PySem.W.Frag) (fd : FuncData) (sp : Sp), K.In h ∧ (∀ (s : Shared) (u : Value), BindsTo s fd ⟨[u], []⟩ [(x, u)]) ∧
      (∀ (H : Hp) (a : Addr) (ns : List Int), ns.length ≤ n → Only H → SqL K H a (ns.map V.int) → sp [.ref a] H (fun v _ => v = .bl true) fun _ _ _ => False) ∧
      ∀ b : Heap, K.In b → b.Ns mainGlobals mg → FnOk l.prog w K mg b (CX w) k fa fd [x] sp)
    (h7 : ∀ (w : World) (H : Hp) (s : Shared) (e : Value) (s' : Shared), CX w [] H s (fun _ _ _ => False) e s' → False) : PySem.W.WalkO q loose XP YP l.row.toRowW d [] (fun f vs => PySem.call f vs) := by
  refine Att.attach_call h1 h3 fun w _ s mg mb fa _ _ _ _ a vs ns G Y _ _ _ named obj iz len gens => ?_
  obtain ⟨K, fd, sp, KX, hb, hsp, hF⟩ := F w mg fa _ Y G.T.g named
  exact law_callG KX G.T.g G.T.b G.T.builtins G.T.nolimit gens obj iz (Nat.le_trans len h2) (room_caller h4) hF hb (fun H hO hS => hsp H a ns len hO hS) fun H e s' => h7 w H s e s'
end Fc

set_option Elab.async false
set_option linter.all false
set_option maxRecDepth 100000
set_option maxHeartbeats 4000000
/-! Fw: what is asked of an outcome: the plain logic. -/
namespace Fc
open PySem PySem.Spec PyProof.Rows L2

def Re.P {α : Type} (r : Re α) (Q : α → G → Prop) : Prop := match r with
  | .ok a g => Q a g
  | _ => False
def Rs.P (r : Rs) (N : Ev → G → Prop) (R : D → G → Prop) : Prop := match r with
  | .nx ρ g => N ρ g
  | .rt d g => R d g
  | _ => False
section
variable {α β : Type} {r : Re α} {Q Q' : α → G → Prop} {k : α → G → Re β} {S : β → G → Prop}
theorem P_ok {a : α} {g : G} : (Re.ok a g).P Q = Q a g := rfl
theorem P_bad : (Re.bad : Re α).P Q = False := rfl
theorem P_bind : (r.bind k).P S = r.P fun a g => (k a g).P S := by cases r <;> rfl
theorem P_ite {p : Prop} [Decidable p] {a : α} {g : G} : (if p then Re.ok a g else .bad).P Q = (p ∧ Q a g) := by
  by_cases h : p
  · rw [if_pos h]; exact propext ⟨fun q => ⟨h, q⟩, fun q => q.2⟩
  · rw [if_neg h]; exact propext ⟨fun q => q.elim, fun q => (h q.1).elim⟩
theorem P_noEx : (noEx r).P Q = r.P Q := by cases r <;> rfl
theorem Re.P.mono (h : r.P Q) (k : ∀ a g, Q a g → Q' a g) : r.P Q' := by
  cases r with
  | ok a g => exact k a g h
  | ex c fs g => exact h.elim
  | bad => exact h.elim
theorem Re.P.to (h : r.P Q) : ∃ a g, r = .ok a g ∧ Q a g := by
  cases r with
  | ok a g => exact ⟨a, g, rfl, h⟩
  | ex c fs g => exact h.elim
  | bad => exact h.elim
end
section
variable {ρ : Ev} {g : G} {Q : D → G → Prop} {QL : List D → G → Prop} {QB : Bool → G → Prop} {fa fb fc : Ev → G → Re D} {fr fk : Ev → G → Re (List D)} {ft fu : Ev → G → Re Bool} {o o' : Op2}
theorem P_var {i : Nat} : (fVar i ρ g).P Q = (match ρ[i]? with | some (some d) => Q d g | _ => False) := by
  unfold fVar
  cases h : ρ[i]? with
  | none => rfl
  | some x => cases x <;> rfl
theorem P_C {d : D} : (fC d ρ g).P Q = Q d g := rfl
theorem P_bin : (fBin o fa fb ρ g).P Q = (fa ρ g).P fun a g1 => (fb ρ g1).P fun b g2 => (o a b g2).P Q := by
  unfold fBin; simp only [P_bind, P_noEx]
theorem P_un {o : Op1} : (fUn o fa ρ g).P Q = (fa ρ g).P fun a g1 => (o a g1).P Q := by
  unfold fUn; simp only [P_bind, P_noEx]
theorem P_nil : (fNil ρ g).P QL = QL [] g := rfl
theorem P_cons : (fCons fa fr ρ g).P QL = (fa ρ g).P fun a g1 => (fr ρ g1).P fun r g2 => QL (a :: r) g2 := by
  unfold fCons; simp only [P_bind, P_ok]
theorem P_tup : (fTup fr ρ g).P Q = (fr ρ g).P fun r g1 => r.length ≤ sizeLine ∧ Q (.tup r) g1 := by
  unfold fTup; rw [P_bind]; congr 1; funext r g1
  by_cases h : r.length ≤ sizeLine
  · simp only [h, if_true, P_ok, true_and]
  · simp only [h, if_false, P_bad, false_and]
theorem P_lst : (fLst fr ρ g).P Q = (fr ρ g).P fun r g1 => r.length ≤ sizeLine ∧ Q (.ref g1.length) (g1 ++ [.lst r]) := by
  unfold fLst; rw [P_bind]; congr 1; funext r g1
  by_cases h : r.length ≤ sizeLine
  · simp only [h, if_true, P_ok, true_and]
  · simp only [h, if_false, P_bad, false_and]
theorem P_call {o : OpN} : (fCall o fr ρ g).P Q = (fr ρ g).P fun r g1 => (o r g1).P Q := by
  unfold fCall; simp only [P_bind, P_noEx]
theorem P_callF {φ : Fun2} : (fCallF φ fr ρ g).P Q = (fr ρ g).P fun r g1 => (φ r [] g1).P Q := by
  unfold fCallF; simp only [P_bind]
theorem P_test : (fTest fa ρ g).P QB = (fa ρ g).P fun d g1 => match d with | .bl b => QB b g1 | _ => False := by
  unfold fTest; rw [P_bind]; congr 1; funext d g1; cases d <;> rfl
theorem P_notT : (fNotT ft ρ g).P QB = (ft ρ g).P fun b g1 => QB (!b) g1 := by
  unfold fNotT; simp only [P_bind, P_ok]
theorem P_ifE : (fIfE ft fa fb ρ g).P Q = (ft ρ g).P fun b g1 => if b = true then (fa ρ g1).P Q else (fb ρ g1).P Q := by
  unfold fIfE; rw [P_bind]; congr 1; funext b g1; cases b <;> rfl
end

/-! ### statements -/
section
variable {ρ : Ev} {g : G} {N : Ev → G → Prop} {R : D → G → Prop} {a b : Ev → G → Rs} {f h k : Ev → G → Re D} {c : Ev → G → Re Bool}
theorem S_st {α : Type} {r : Re α} {k : α → G → Rs} : (r.st ρ k).P N R = r.P fun x g => (k x g).P N R := by cases r <;> rfl
theorem S_seq : (sSeq a b ρ g).P N R = (a ρ g).P (fun ρ' g' => (b ρ' g').P N R) R := by
  unfold sSeq
  cases a ρ g <;> rfl
theorem S_nil : (sNil ρ g).P N R = N ρ g := rfl
theorem S_set {i : Nat} : (sSet i f ρ g).P N R = (f ρ g).P fun d g' => N (ρ.set i (some d)) g' := by unfold sSet; rw [S_st]; rfl
theorem S_drop : (sDrop f ρ g).P N R = (f ρ g).P fun _ g' => N ρ g' := by unfold sDrop; rw [S_st]; rfl
theorem S_ret : (sRet f ρ g).P N R = (f ρ g).P R := by unfold sRet; rw [S_st]; rfl
theorem S_if : (sIf c a b ρ g).P N R = (c ρ g).P fun x g' => if x = true then (a ρ g').P N R else (b ρ g').P N R := by
  unfold sIf; rw [S_st]; congr 1; funext x g'; cases x <;> rfl
theorem S_sub {o : D → D → D → G → Option G} : (sSub f h k o ρ g).P N R = (f ρ g).P fun d g1 => (h ρ g1).P fun a g2 => (k ρ g2).P fun b g3 => match o a b d g3 with | some g4 => N ρ g4 | none => False := by
  unfold sSub; simp only [S_st]; congr 1; funext d g1; congr 1; funext a g2; congr 1; funext b g3; cases o a b d g3 <;> rfl
theorem S_for {it : Ev → G → Re (List D × Wt)} {bd : Bd} : (sFor it bd a ρ g).P N R = (it ρ g).P fun p g1 => (runFor bd a p.2 p.1 ρ g1).P N R := by
  unfold sFor; rw [S_st]
theorem Rs.P.mono {r : Rs} {N' : Ev → G → Prop} {R' : D → G → Prop} (h : r.P N R) (hn : ∀ ρ g, N ρ g → N' ρ g) (hr : ∀ d g, R d g → R' d g) : r.P N' R' := by
  cases r with
  | nx ρ g => exact hn _ _ h
  | rt d g => exact hr _ _ h
  | _ => exact h.elim
theorem P_runB {f : Ev → G → Rs} {Q : D → G → Prop} (h : (f ρ g).P (fun _ g' => Q .non g') Q) : (runB f ρ g).P Q := by
  unfold runB
  cases e : f ρ g <;> rw [e] at h <;> first | exact h | exact h.elim
/-- a loop by what holds ahead of its i-th turn -/
theorem S_run {bd : Bd} {w : Wt} (items : List D) (I : Nat → Ev → G → Prop) (h0 : I 0 ρ g)
    (hs : ∀ i d ρ g, items[i]? = some d → I i ρ g → wOk w g = true ∧ ∃ ρ1, bd d ρ g = some ρ1 ∧ (a ρ1 g).P (I (i + 1)) R)
    (he : ∀ ρ g, I items.length ρ g → wOk w g = true ∧ N ρ g) : (runFor bd a w items ρ g).P N R := by
  have go : ∀ (k i : Nat) (ρ : Ev) (g : G), items.length - i = k → i ≤ items.length → I i ρ g → (runFor bd a w (items.drop i) ρ g).P N R := by
    intro k
    induction k with
    | zero =>
      intro i ρ g hk hi hI
      have e : i = items.length := by omega
      subst e
      rw [List.drop_length]
      obtain ⟨h1, h2⟩ := he ρ g hI
      unfold runFor
      rw [if_pos h1]
      exact h2
    | succ k ih =>
      intro i ρ g hk hi hI
      have hlt : i < items.length := by omega
      rw [List.drop_eq_getElem_cons hlt]
      obtain ⟨h1, ρ1, h2, h3⟩ := hs i items[i] ρ g (by simp [hlt]) hI
      unfold runFor
      rw [if_pos h1, h2]
      dsimp only
      cases e : a ρ1 g with
      | nx ρ' g' => rw [e] at h3; exact ih (i + 1) ρ' g' (by omega) hlt h3
      | rt d g' => rw [e] at h3; exact h3
      | bk ρ' g' => rw [e] at h3; exact h3.elim
      | ct ρ' g' => rw [e] at h3; exact h3.elim
      | ex c fs ρ' g' => rw [e] at h3; exact h3.elim
      | bad => rw [e] at h3; exact h3.elim
  exact go _ 0 ρ g rfl (Nat.zero_le _) h0
end
section
variable {ρ : Ev} {g : G} {Q : D → G → Prop} {QI : List D × Wt → G → Prop} {fa fb : Ev → G → Re D} {it : Ev → G → Re (List D × Wt)} {bd : Bd} {ft : Ev → G → Re Bool} {fe : Ev → G → Re D} {vs : List Nat}
theorem P_src : (fSrc fa ρ g).P QI = (fa ρ g).P fun d g1 => match srcD d g1 with | some p => QI p g1 | none => False := by
  unfold fSrc; rw [P_bind]; congr 1; funext d g1; generalize srcD d g1 = z; cases z <;> rfl
theorem P_lc : (fLc it bd ft fe vs ρ g).P Q = (it ρ g).P fun p g1 => (goLc bd ft fe p.2 g1.length (wipeE ρ vs) p.1 (g1 ++ [.lst []])).P fun _ g2 => Q (.ref g1.length) g2 := by
  unfold fLc; simp only [P_bind, P_ok]
theorem P_go {w : Wt} {L : Nat} {QU : Unit → G → Prop} (items : List D) (I : Nat → List D → G → Prop) (hL : g[L]? = some (.lst [])) (h0 : I 0 [] g)
    (hs : ∀ i d acc g, items[i]? = some d → g[L]? = some (.lst acc) → I i acc g → wOk w g = true ∧ acc.length < sizeLine ∧ ∃ ρ1, bd d ρ g = some ρ1 ∧ (ft ρ1 g).P fun k g2 => if k = true then
      (fe ρ1 g2).P fun y g3 => g3[L]? = some (.lst acc) ∧ I (i + 1) (acc ++ [y]) (g3.set L (.lst (acc ++ [y]))) else g2[L]? = some (.lst acc) ∧ I (i + 1) acc g2)
    (he : ∀ acc g, g[L]? = some (.lst acc) → I items.length acc g → wOk w g = true ∧ QU () g) : (goLc bd ft fe w L ρ items g).P QU := by
  have go : ∀ (k i : Nat) (acc : List D) (g : G), items.length - i = k → i ≤ items.length → g[L]? = some (.lst acc) → I i acc g → (goLc bd ft fe w L ρ (items.drop i) g).P QU := by
    intro k
    induction k with
    | zero =>
      intro i acc g hk hi hL hI
      have e : i = items.length := by omega
      subst e
      rw [List.drop_length]
      obtain ⟨h1, h2⟩ := he acc g hL hI
      unfold goLc
      rw [if_pos h1]
      exact h2
    | succ k ih =>
      intro i acc g hk hi hL hI
      have hlt : i < items.length := by omega
      rw [List.drop_eq_getElem_cons hlt]
      obtain ⟨h1, hz, ρ1, h2, h3⟩ := hs i items[i] acc g (by simp [hlt]) hL hI
      unfold goLc
      rw [if_pos h1, h2]
      dsimp only
      rw [P_bind, P_noEx]
      refine h3.mono fun b g2 h4 => ?_
      cases b with
      | false =>
        rw [if_neg Bool.false_ne_true] at h4 ⊢
        exact ih (i + 1) acc g2 (by omega) hlt h4.1 h4.2
      | true =>
        rw [if_pos rfl] at h4 ⊢
        rw [P_bind, P_noEx]
        refine h4.mono fun y g3 h5 => ?_
        rw [h5.1]
        dsimp only
        rw [if_pos hz]
        have hg : L < g3.length := (List.getElem?_eq_some_iff.mp h5.1).1
        exact ih (i + 1) (acc ++ [y]) _ (by omega) hlt (by rw [List.getElem?_set_self hg]) h5.2
  exact go _ 0 [] g rfl (Nat.zero_le _) hL h0
end

/-! ### operators at values -/
section
variable {g : G} {Q : D → G → Prop} {i j : Int} {x y : Str} {l l2 : List D} {p q : Bool}
theorem V_add : (oAdd (.int i) (.int j) g).P Q = Q (.int (i + j)) g := rfl
theorem V_addS : (oAdd (.str x) (.str y) g).P Q = (x.length + y.length ≤ sizeLine ∧ Q (.str (x ++ y)) g) := by
  by_cases h : x.length + y.length ≤ sizeLine
  · have e : oAdd (.str x) (.str y) g = .ok (D.str (x ++ y)) g := by
      show (match (if x.length + y.length ≤ sizeLine then Re.ok (D.str (x ++ y)) g else .bad) with | .ok d g' => Re.ok d g' | _ => _) = _
      rw [if_pos h]
    rw [e]
    exact propext ⟨fun q => ⟨h, q⟩, fun q => q.2⟩
  · have e : oAdd (.str x) (.str y) g = .bad := by
      show (match (if x.length + y.length ≤ sizeLine then Re.ok (D.str (x ++ y)) g else .bad) with | .ok d g' => Re.ok d g' | _ => _) = _
      rw [if_neg h]
      rfl
    rw [e]
    exact propext ⟨fun q => q.elim, fun q => (h q.1).elim⟩
theorem V_addL {m k : Nat} (h1 : g[m]? = some (.lst l)) (h2 : g[k]? = some (.lst l2)) : (oAdd (.ref m) (.ref k) g).P Q = (l.length + l2.length ≤ sizeLine ∧ Q (.ref g.length) (g ++ [.lst (l ++ l2)])) := by
  have e : oAdd (.ref m) (.ref k) g = (if l.length + l2.length ≤ sizeLine then Re.ok (D.ref g.length) (g ++ [O.lst (l ++ l2)]) else .bad) := by
    show (match g[m]?, g[k]? with
      | some (.lst x), some (.lst y) => if x.length + y.length ≤ sizeLine then Re.ok (D.ref g.length) (g ++ [O.lst (x ++ y)]) else .bad
      | _, _ => .bad) = _
    rw [h1, h2]
  rw [e]
  exact P_ite
theorem V_mul : (oMul (.int i) (.int j) g).P Q = (((-(2 ^ 64) < i ∧ i < 2 ^ 64) ∨ (-(2 ^ 64) < j ∧ j < 2 ^ 64)) ∧ Q (.int (i * j)) g) := by
  by_cases h : (-(2 ^ 64) < i ∧ i < 2 ^ 64) ∨ (-(2 ^ 64) < j ∧ j < 2 ^ 64)
  · have e : oMul (.int i) (.int j) g = .ok (D.int (i * j)) g := by
      show (match (if (-(2 ^ 64) < i ∧ i < 2 ^ 64) ∨ (-(2 ^ 64) < j ∧ j < 2 ^ 64) then Re.ok (D.int (i * j)) g else .bad) with | .ok d g' => Re.ok d g' | _ => _) = _
      rw [if_pos h]
    rw [e]
    exact propext ⟨fun q => ⟨h, q⟩, fun q => q.2⟩
  · have e : oMul (.int i) (.int j) g = .bad := by
      show (match (if (-(2 ^ 64) < i ∧ i < 2 ^ 64) ∨ (-(2 ^ 64) < j ∧ j < 2 ^ 64) then Re.ok (D.int (i * j)) g else .bad) with | .ok d g' => Re.ok d g' | _ => _) = _
      rw [if_neg h]
      rfl
    rw [e]
    exact propext ⟨fun q => q.elim, fun q => (h q.1).elim⟩
theorem V_mod : (oMod (.int i) (.int j) g).P Q = (0 < j ∧ Q (.int (i % j)) g) := P_ite
theorem V_div : (oDiv (.int i) (.int j) g).P Q = ((0 < j ∧ j < 1073741824) ∧ Q (.int (i / j)) g) := P_ite
theorem V_pow : (oPow (.int i) (.int j) g).P Q = ((0 ≤ j ∧ j ≤ 1000000 ∧ i.natAbs < 2 ^ 64) ∧ Q (.int (i ^ j.toNat)) g) := P_ite
theorem V_neg : (oNeg (.int i) g).P Q = Q (.int (-i)) g := rfl
theorem V_lt : (oLt (.int i) (.int j) g).P Q = Q (.bl (decide (i < j))) g := rfl
theorem V_gt : (oGt (.int i) (.int j) g).P Q = Q (.bl (decide (j < i))) g := rfl
theorem V_ge : (oGe (.int i) (.int j) g).P Q = Q (.bl (decide (j ≤ i))) g := rfl
theorem V_eqS : (oEq (.str x) (.str y) g).P Q = Q (.bl (decide (x = y))) g := rfl
theorem V_neI : (oNe (.int i) (.int j) g).P Q = Q (.bl (!decide (i = j))) g := rfl
theorem V_ixT : (oIx (.tup l) (.int i) g).P Q = (match atI l i with | some d => Q d g | none => False) := by
  show Re.P (match atI l i with | some d => Re.ok d g | none => .bad) Q = _
  cases atI l i <;> rfl
theorem V_ixL {m : Nat} (h : g[m]? = some (.lst l)) : (oIx (.ref m) (.int i) g).P Q = (match atI l i with | some d => Q d g | none => False) := by
  show Re.P (match g[m]? with
    | some (.lst l) => (match atI l i with | some d => Re.ok d g | none => .bad)
    | some (.frz l) => (match atI l i with | some d => Re.ok d g | none => .bad)
    | _ => .bad) Q = _
  rw [h]
  dsimp only
  cases atI l i <;> rfl
theorem V_ixF {m : Nat} (h : g[m]? = some (.frz l)) : (oIx (.ref m) (.int i) g).P Q = (match atI l i with | some d => Q d g | none => False) := by
  show Re.P (match g[m]? with
    | some (.lst l) => (match atI l i with | some d => Re.ok d g | none => .bad)
    | some (.frz l) => (match atI l i with | some d => Re.ok d g | none => .bad)
    | _ => .bad) Q = _
  rw [h]
  dsimp only
  cases atI l i <;> rfl
theorem V_setL {m : Nat} {c : D} (h : g[m]? = some (.lst l)) : setL (.ref m) (.int i) c g = (match ixN l.length i with | some j => some (g.set m (.lst (l.set j c))) | none => none) := by
  show (match g[m]? with
    | some (.lst l) => (match ixN l.length i with | some j => some (g.set m (.lst (l.set j c))) | none => none)
    | _ => none) = _
  rw [h]
end
end Fc

set_option Elab.async false
set_option linter.all false
set_option maxRecDepth 100000
set_option maxHeartbeats 4000000
/-! Fx: worlds that grow, the bag of draws, comprehensions told. -/
namespace Fc
open PySem PySem.Spec PyProof.Rows L2

/-- nothing old changes -/
structure Gro (g g' : G) : Prop where
  len : g.length ≤ g'.length
  old : ∀ i, i < g.length → g'[i]? = g[i]?
theorem Gro.refl (g : G) : Gro g g := ⟨Nat.le_refl _, fun _ _ => rfl⟩
theorem Gro.trans {g g1 g2 : G} (a : Gro g g1) (b : Gro g1 g2) : Gro g g2 := ⟨Nat.le_trans a.len b.len, fun i h => (b.old i (Nat.lt_of_lt_of_le h a.len)).trans (a.old i h)⟩
theorem Gro.app (g l : G) : Gro g (g ++ l) := ⟨by simp, fun i h => List.getElem?_append_left h⟩
theorem Gro.at {i : Nat} {g g' : G} {o : O} (e : Gro g g') (q : g[i]? = some o) : g'[i]? = some o := by
  rw [e.old i (List.getElem?_eq_some_iff.mp q).1]; exact q
theorem Gro.set {g g' : G} (a : Gro g g') {m : Nat} (h : g.length ≤ m) (o : O) : Gro g (g'.set m o) := ⟨by rw [List.length_set]; exact a.len, fun i hi => by
  rw [List.getElem?_set_ne (by omega)]; exact a.old i hi⟩
/-- nothing old changes but m -/
structure Evo (m : Nat) (g g' : G) : Prop where
  len : g.length ≤ g'.length
  old : ∀ i, i ≠ m → i < g.length → g'[i]? = g[i]?
theorem Evo.refl (m : Nat) (g : G) : Evo m g g := ⟨Nat.le_refl _, fun _ _ _ => rfl⟩
theorem Evo.trans {m : Nat} {g g1 g2 : G} (a : Evo m g g1) (b : Evo m g1 g2) : Evo m g g2 := ⟨Nat.le_trans a.len b.len, fun i h1 h2 => (b.old i h1 (Nat.lt_of_lt_of_le h2 a.len)).trans (a.old i h1 h2)⟩
theorem Evo.app (m : Nat) (g l : G) : Evo m g (g ++ l) := ⟨by simp, fun i _ h => List.getElem?_append_left h⟩
theorem Evo.set (m : Nat) (g : G) (o : O) : Evo m g (g.set m o) := ⟨by simp, fun i h _ => List.getElem?_set_ne (Ne.symm h)⟩
theorem Evo.at {m i : Nat} {g g' : G} {o : O} (e : Evo m g g') (h : i ≠ m) (q : g[i]? = some o) : g'[i]? = some o := by
  rw [e.old i h (List.getElem?_eq_some_iff.mp q).1]; exact q
theorem Gro.evo {g g' : G} (a : Gro g g') (m : Nat) : Evo m g g' := ⟨a.len, fun i _ h => a.old i h⟩
theorem at_app {g l : G} {i : Nat} {o : O} (q : g[i]? = some o) : (g ++ l)[i]? = some o := by
  rw [List.getElem?_append_left (List.getElem?_eq_some_iff.mp q).1]; exact q
theorem at_new {g : G} {o : O} : (g ++ [o])[g.length]? = some o := by simp
theorem at_set {g : G} {i : Nat} {o o' : O} (q : g[i]? = some o) : (g.set i o')[i]? = some o' := List.getElem?_set_self (List.getElem?_eq_some_iff.mp q).1
theorem at_ne {g : G} {i j : Nat} {o o' : O} (h : j ≠ i) (q : g[j]? = some o) : (g.set i o')[j]? = some o := by rw [List.getElem?_set_ne (Ne.symm h)]; exact q
theorem lt_at {g : G} {i : Nat} {o : O} (q : g[i]? = some o) : i < g.length := (List.getElem?_eq_some_iff.mp q).1
/-- the bag at m: three numbers, at most n draws from it -/
def Bag (g : G) (m n : Nat) : Prop := ∃ a b c : Int, g[m]? = some (.lst [.int a, .int b, .int c]) ∧ 0 ≤ a ∧ 0 ≤ b ∧ b < 2147483647 ∧ 0 ≤ c ∧ c ≤ n
theorem Bag.lt {g : G} {m n : Nat} (b : Bag g m n) : m < g.length := by
  obtain ⟨_, _, _, e, _⟩ := b
  exact (List.getElem?_eq_some_iff.mp e).1
theorem Bag.gro {g g' : G} {m n : Nat} (b : Bag g m n) (h : Gro g g') : Bag g' m n := by
  obtain ⟨x, y, z, e, r⟩ := b
  exact ⟨x, y, z, h.at e, r⟩
theorem Bag.app {g l : G} {m n : Nat} (b : Bag g m n) : Bag (g ++ l) m n := b.gro (.app g l)
theorem Bag.set {g : G} {m n k : Nat} {o : O} (b : Bag g m n) (h : m ≠ k) : Bag (g.set k o) m n := by
  obtain ⟨x, y, z, e, r⟩ := b
  exact ⟨x, y, z, at_ne h e, r⟩
theorem Bag.mono {g : G} {m n n' : Nat} (b : Bag g m n) (h : n ≤ n') : Bag g m n' := by
  obtain ⟨x, y, z, e, h1, h2, h3, h4, h5⟩ := b
  exact ⟨x, y, z, e, h1, h2, h3, h4, by omega⟩
/-- lists stay lists, houses houses -/
def Ob (g : G) (i : Nat) : Prop := (∃ l, g[i]? = some (.lst l)) ∨ ∃ fs, g[i]? = some (.ins "House" fs)
def Kd (g g' : G) : Prop := ∀ i, Ob g i → Ob g' i
theorem Kd.refl (g : G) : Kd g g := fun _ h => h
theorem Kd.trans {g g1 g2 : G} (a : Kd g g1) (b : Kd g1 g2) : Kd g g2 := fun i h => b i (a i h)
theorem Gro.kd {g g' : G} (a : Gro g g') : Kd g g' := fun i h => h.elim (fun ⟨l, e⟩ => .inl ⟨l, a.at e⟩) fun ⟨fs, e⟩ => .inr ⟨fs, a.at e⟩
theorem Evo.kd {m n : Nat} {g g' : G} (a : Evo m g g') (b : Bag g' m n) : Kd g g' := fun i h => by
  by_cases hi : i = m
  · subst hi
    obtain ⟨x, y, z, e, _⟩ := b
    exact .inl ⟨_, e⟩
  · exact h.elim (fun ⟨l, e⟩ => .inl ⟨l, a.at hi e⟩) fun ⟨fs, e⟩ => .inr ⟨fs, a.at hi e⟩
theorem at3_0 {α : Type} {x y z : α} : atI [x, y, z] 0 = some x := rfl
theorem at3_1 {α : Type} {x y z : α} : atI [x, y, z] 1 = some y := rfl
theorem at3_2 {α : Type} {x y z : α} : atI [x, y, z] 2 = some z := rfl
theorem ix3_0 {α : Type} {x y z : α} : ixN [x, y, z].length 0 = some 0 := rfl
theorem ix3_1 {α : Type} {x y z : α} : ixN [x, y, z].length 1 = some 1 := rfl
theorem ix3_2 {α : Type} {x y z : α} : ixN [x, y, z].length 2 = some 2 := rfl
theorem ixN_nat {n k : Nat} (h : k < n) : ixN n (k : Int) = some k := by
  unfold ixN
  rw [if_pos (by omega), if_pos (by omega), Int.toNat_natCast]
section
variable {ρ : Ev} {g : G} {Q : D → G → Prop} {it : Ev → G → Re (List D × Wt)} {bd : Bd} {ft : Ev → G → Re Bool} {fe : Ev → G → Re D} {vs : List Nat}
theorem P_yes {QB : Bool → G → Prop} : (fYes ρ g).P QB = QB true g := rfl
/-- [f(d) for d in items if c(d)], nothing old is changed -/
theorem lc_pure (items : List D) (w : Wt) (f : D → D) (c : D → Bool) (hit : (it ρ g).P fun p g1 => p = (items, w) ∧ g1 = g) (hw : ∀ g', Gro g g' → wOk w g' = true) (hlen : items.length ≤ sizeLine)
    (hs : ∀ d, d ∈ items → ∀ g', Gro g g' → ∃ ρ1, bd d (wipeE ρ vs) g' = some ρ1 ∧ (ft ρ1 g').P fun k g2 => k = c d ∧ Gro g' g2 ∧ (c d = true → (fe ρ1 g2).P fun y g3 => y = f d ∧ Gro g2 g3))
    (hQ : ∀ g', Gro g g' → g'[g.length]? = some (.lst ((items.filter c).map f)) → Q (.ref g.length) g') : (fLc it bd ft fe vs ρ g).P Q := by
  rw [P_lc]
  refine hit.mono fun p g1 ⟨e1, e2⟩ => ?_
  subst e1 e2
  dsimp only
  refine P_go items (fun i acc g' => Gro g1 g' ∧ acc = ((items.take i).filter c).map f) at_new ⟨.app _ _, rfl⟩ (fun i d acc g' hd hL ⟨hg, ha⟩ => ?_) (fun acc g' hL ⟨hg, ha⟩ => ⟨hw g' hg, ?_⟩)
  · have hi := (List.getElem?_eq_some_iff.mp hd).1
    have hm : d ∈ items := List.mem_of_getElem? hd
    have tk : items.take (i + 1) = items.take i ++ [d] := by rw [List.take_add_one, hd]; rfl
    obtain ⟨ρ1, h1, h2⟩ := hs d hm g' hg
    refine ⟨hw g' hg, ?_, ρ1, h1, h2.mono fun k g2 ⟨e, hg2, h3⟩ => ?_⟩
    · have hl : acc.length ≤ i := by
        rw [ha, List.length_map]
        exact Nat.le_trans (List.length_filter_le _ _) (by rw [List.length_take]; omega)
      omega
    · subst e
      cases hc : c d with
      | false =>
        rw [if_neg (by simp)]
        refine ⟨hg2.at hL, hg.trans hg2, ?_⟩
        rw [tk, List.filter_append, ha]
        simp [hc]
      | true =>
        rw [if_pos rfl]
        refine (h3 hc).mono fun y g3 ⟨ey, hg3⟩ => ⟨hg3.at (hg2.at hL), (hg.trans (hg2.trans hg3)).set (Nat.le_refl _) _, ?_⟩
        rw [tk, List.filter_append, ha, ey]
        simp [hc]
  · rw [List.take_length] at ha
    rw [ha] at hL
    exact hQ g' hg hL
end
/-- an item by a place in range -/
theorem atI_in {α : Type} {l : List α} {i : Int} (h0 : 0 ≤ i) (h1 : i < l.length) : ∃ d, atI l i = some d ∧ d ∈ l := by
  obtain ⟨k, rfl⟩ := Int.eq_ofNat_of_zero_le h0
  have hk : k < l.length := by omega
  refine ⟨l[k], ?_, List.getElem_mem hk⟩
  unfold atI
  rw [ixN_nat hk]
  simp [hk]
theorem sz {n : Nat} (h : n ≤ 1000) : n ≤ sizeLine := by rw [sizeLine_eq]; omega
section
variable {ρ : Ev} {g : G} {QI : List D × Wt → G → Prop} {fa fb : Ev → G → Re D}
theorem P_rng1 : (fRng1 fa ρ g).P QI = (fa ρ g).P fun d g1 => match d with | .int j => (-(2 ^ 62) ≤ j ∧ j < 2 ^ 62) ∧ QI (rngD 0 j.toNat, []) g1 | _ => False := by
  unfold fRng1; rw [P_bind]; congr 1; funext d g1
  cases d with
  | int j => exact P_ite
  | _ => rfl
end
theorem rng_get {lo : Int} {n i : Nat} {d : D} (h : (rngD lo n)[i]? = some d) : i < n ∧ d = .int (lo + (i : Int)) := by
  unfold rngD at h
  rw [List.getElem?_map] at h
  by_cases hi : i < n
  · rw [List.getElem?_range hi] at h
    exact ⟨hi, (Option.some.inj h).symm⟩
  · rw [List.getElem?_eq_none_iff.mpr (by simpa using hi)] at h
    cases h
theorem ite_one {c A R : Prop} [Decidable c] (h1 : c → A) (h2 : ¬ c → R) : if c then A else R := by
  by_cases a : c
  · rw [if_pos a]; exact h1 a
  · rw [if_neg a]; exact h2 a
section
variable {g : G} {Q : D → G → Prop} {l : List D} {m k : Nat} {x : Str}
theorem V_lenL (h : g[m]? = some (.lst l)) : (oLenA [.ref m] g).P Q = Q (.int (l.length : Int)) g := by
  have e : oLen [.ref m] g = .ok (.int (l.length : Int)) g := by
    show (match (match g[m]? with
      | some (.lst l) => some l.length
      | some (.frz l) => some l.length
      | _ => none) with | some n => Re.ok (D.int (n : Int)) g | none => .bad) = _
    rw [h]
  unfold oLenA OpN.or
  rw [e]
  rfl
theorem V_lenF (h : g[m]? = some (.frz l)) : (oLenA [.ref m] g).P Q = Q (.int (l.length : Int)) g := by
  have e : oLen [.ref m] g = .ok (.int (l.length : Int)) g := by
    show (match (match g[m]? with
      | some (.lst l) => some l.length
      | some (.frz l) => some l.length
      | _ => none) with | some n => Re.ok (D.int (n : Int)) g | none => .bad) = _
    rw [h]
  unfold oLenA OpN.or
  rw [e]
  rfl
theorem srcL (h : g[m]? = some (.lst l)) : srcD (.ref m) g = some (l, [(m, l)]) := by
  show (match g[m]? with
    | some (.lst l) => some (l, [(m, l)])
    | some (.frz l) => some (l, [(m, l)])
    | _ => none) = _
  rw [h]
theorem wok1 (h : g[m]? = some (.lst l)) : wOk [(m, l)] g = true := by
  unfold wOk
  rw [List.all_cons, List.all_nil, Bool.and_true]
  dsimp only
  rw [h]
  exact D.eqbs_rfl l
end
end Fc

set_option Elab.async false
set_option linter.all false
set_option maxRecDepth 100000
set_option maxHeartbeats 4000000
/-! Fy: methods of built-in types; dicts asked, stored, shown; texts joined, repeated. -/
namespace Fc
open PySem PySem.Spec PySem.Calls PyProof.Rows L2

/-! ### methods of built-in types -/
def tyB (T : String) (d : D) (g : G) : Bool := match d with
  | .str _ => decide (T = "str")
  | .ref m => (match g[m]? with
    | some (.lst _) => decide (T = "list")
    | some (.frz _) => decide (T = "list")
    | some (.dct _) => decide (T = "dict")
    | _ => false)
  | _ => false
theorem tyB_ok {w : World} {K : PySem.W.Frag} {mg : Str → Option Value} {ι : Nat → Addr} {g : G} {H : Hp} {d : D} {v : V} {T : String} (rp : Rep w K mg ι H g) (r : RV K ι g.length H d v) (h : tyB T d g = true) : tyV K T v H := by
  cases r with
  | str x => exact (of_decide_eq_true (show decide (T = "str") = true from h) : T = "str")
  | ref hm =>
    simp only [tyB] at h
    split at h
    · rename_i l e
      obtain ⟨vs, ev, _⟩ := rp.obj _ _ e
      exact .inl ⟨of_decide_eq_true h, vs, .inl (.inl ev)⟩
    · rename_i l e
      obtain ⟨ob, vs, ev, _⟩ := rp.obj _ _ e
      exact .inl ⟨of_decide_eq_true h, vs, .inl (.inr ⟨ob, ev⟩)⟩
    · rename_i l e
      obtain ⟨vs, ev, _⟩ := rp.obj _ _ e
      exact .inr (.inr (.inl ⟨of_decide_eq_true h, .inl ⟨vs, ev⟩⟩))
    · cases h
  | _ => cases h
abbrev OpM := D → List D → G → Re D
def MtS (X : Cx) (id : String) (o : OpM) : Prop := ∃ r, MtR X id r ∧ ∀ ι g H a as x xs Q, Rep X.w X.K X.mg ι H g → RV X.K ι g.length H a x → RVs X.K ι g.length H as xs → Vc X.w X.K X.mg H ι g (o a as g) Q → r x xs H Q
def fBM (T : String) (o : OpM) (fo : Ev → G → Re D) (fr : Ev → G → Re (List D)) : Ev → G → Re D := fun ρ g => (fo ρ g).bind fun d g1 => if tyB T d g1 = true then (fr ρ g1).bind fun r g2 => noEx (o d r g2) else .bad
section
variable {X : Cx} {W : WX} {pos cpos apos : Pos} {e a b : Expr} {es : List Expr} {fo fa fb : Ev → G → Re D} {fr : Ev → G → Re (List D)} {T id : String} {name : Str} {o : OpM}
theorem fe_bm (pa : PlainAttrs T) (slot : Slot T name id) (hty : typeOf (.builtin id) = pure (.type "method_descriptor")) (hm : MtS X id o) (ho : FE X W e fo) (ha : FA X W (a :: es) fr)
    (hbase : attributeBase e name X.env (eval e X.env) = eval e X.env := by rfl)
    (hfew : ((backTo cpos (starEach (a :: es) X.env)).all (fun x => !x.1) && (backToKw cpos (keywordEach [] X.env)).all (fun x => x.1.isSome)
      && decide ((a :: es).length + ([] : List Keyword).length + (if ([] : List Keyword).isEmpty then 0 else 1) < 30)) = true := by rfl)
    (hline : (apos.endLine == cpos.line) = true := by rfl) (hs : starEach (a :: es) X.env = (false, eval a X.env) :: starEach es X.env := by rfl) (hplain : (backTo cpos (starEach es X.env)).any (·.1) = false := by rfl) :
    FE X W (.Call (.Attribute e name apos) (a :: es) [] cpos) (fBM T o fo fr) := by
  obtain ⟨r, hr, k⟩ := hm
  refine PE.imp (pe_bm pa slot hty hr ho ha hbase hfew hline hs hplain) fun σ H Q ⟨ι, ρ, g, rp, re, h⟩ => ⟨ι, ρ, g, rp, re, h.bind fun d g1 ι1 H1 v x1 q1 h1 => ?_⟩
  split at h1
  · rename_i ht
    exact ⟨tyB_ok x1.rep q1 ht, ι1, ρ, g1, x1.rep, re.nx x1, h1.bind fun as g2 ι2 H2 vs x2 q2 h2 => k ι2 g2 H2 d as v vs Q x2.rep (q1.nx x2) q2 (Vc.noEx h2)⟩
  · exact h1.elim
/-- xs.append(y) -/
def oAppend : OpM := fun a as g => match a, as with
  | .ref m, [y] => (match g[m]? with
    | some (.lst l) => if l.length < sizeLine then .ok .non (g.set m (.lst (l ++ [y]))) else .bad
    | _ => .bad)
  | _, _ => .bad
theorem ms_append : MtS X "list.append" oAppend := ⟨rAppend, mt_append, fun ι g H a as x xs Q rp ra ras h => by
  unfold oAppend at h
  split at h
  · rename_i m y
    split at h
    · rename_i l e
      split at h
      · rename_i hl
        cases ra with
        | ref hm =>
          obtain ⟨vs, ev, q⟩ := rp.obj _ _ e
          obtain ⟨v, rfl, ry⟩ := ras.one
          have y' := Nx.setL rp e (q.append (.cons ry .nil))
          exact ⟨_, vs, v, rfl, rfl, ev, by rw [q.length]; exact hl, h _ _ _ y' .non⟩
      · exact h.elim
    · exact h.elim
  · exact h.elim⟩
def fAppend := fBM "list" oAppend
theorem fe_append (ho : FE X W e fo) (ha : FA X W [a] fr)
    (hbase : attributeBase e "append" X.env (eval e X.env) = eval e X.env := by rfl)
    (hfew : ((backTo cpos (starEach [a] X.env)).all (fun x => !x.1) && (backToKw cpos (keywordEach [] X.env)).all (fun x => x.1.isSome)
      && decide ([a].length + ([] : List Keyword).length + (if ([] : List Keyword).isEmpty then 0 else 1) < 30)) = true := by rfl)
    (hline : (apos.endLine == cpos.line) = true := by rfl) (hs : starEach [a] X.env = (false, eval a X.env) :: starEach [] X.env := by rfl) (hplain : (backTo cpos (starEach [] X.env)).any (·.1) = false := by rfl) :
    FE X W (.Call (.Attribute e "append" apos) [a] [] cpos) (fAppend fo fr) :=
  fe_bm PySem.F.plainAttrs_list PySem.F.slot_list_append PySem.F.type_list_append ms_append ho ha hbase hfew hline hs hplain
/-- sep.join(xs), xs a list of texts -/
def strsOf : List D → Option (List Str)
  | [] => some []
  | .str x :: r => (strsOf r).map (x :: ·)
  | _ :: _ => none
theorem strsOf_rv {K : PySem.W.Frag} {ι : Nat → Addr} {n : Nat} {H : Hp} : ∀ {l : List D} {vs : List V} {ys : List Str}, RVs K ι n H l vs → strsOf l = some ys → vs = ys.map V.str
  | [], _, ys, r, e => by cases r; cases e; rfl
  | d :: l, _, ys, .cons r t, e => by
    cases d with
    | str x =>
      cases r
      simp only [strsOf, Option.map_eq_some_iff] at e
      obtain ⟨zs, e1, rfl⟩ := e
      rw [strsOf_rv t e1]
      rfl
    | _ => cases e
def oJoin : OpM := fun a as g => match a, as with
  | .str x, [.ref m] => (match lstAt (.ref m) g with
    | some l => (match strsOf l with
      | some ys => if (ys.map (·.length)).sum + ys.length * x.length ≤ 16777216 then .ok (.str (Txt.join x ys)) g else .bad
      | none => .bad)
    | none => .bad)
  | _, _ => .bad
theorem ms_join : MtS X "str.join" oJoin := ⟨_, L2.mt_join, fun ι g H a as x xs Q rp ra ras h => by
  unfold oJoin at h
  split at h
  · rename_i z m
    split at h
    · rename_i l el
      split at h
      · rename_i ys ey
        split at h
        · rename_i hz
          cases ra
          obtain ⟨v, rfl, r⟩ := ras.one
          obtain ⟨p, vs, rfl, sq, rl⟩ := lstAt_ok rp r el
          exact ⟨z, p, ys, rfl, rfl, .inl (by rw [← strsOf_rv rl ey]; exact sq), hz, h.ok rp (.str _)⟩
        · exact h.elim
      · exact h.elim
    · exact h.elim
  · exact h.elim⟩
def fJoin := fBM "str" oJoin
theorem fe_join (ho : FE X W e fo) (ha : FA X W [a] fr)
    (hbase : attributeBase e "join" X.env (eval e X.env) = eval e X.env := by rfl)
    (hfew : ((backTo cpos (starEach [a] X.env)).all (fun x => !x.1) && (backToKw cpos (keywordEach [] X.env)).all (fun x => x.1.isSome)
      && decide ([a].length + ([] : List Keyword).length + (if ([] : List Keyword).isEmpty then 0 else 1) < 30)) = true := by rfl)
    (hline : (apos.endLine == cpos.line) = true := by rfl) (hs : starEach [a] X.env = (false, eval a X.env) :: starEach [] X.env := by rfl) (hplain : (backTo cpos (starEach [] X.env)).any (·.1) = false := by rfl) :
    FE X W (.Call (.Attribute e "join" apos) [a] [] cpos) (fJoin fo fr) :=
  fe_bm PySem.F.plainAttrs_str PySem.F.slot_str_join PySem.F.type_str_join ms_join ho ha hbase hfew hline hs hplain
end

/-! ### dicts -/
def valD (l : List (Key × D)) (k : Key) : Option D := (l.find? fun kv => decide (kv.1 = k)).map (·.2)
inductive OR (K : PySem.W.Frag) (ι : Nat → Addr) (n : Nat) (H : Hp) : Option D → Option V → Prop
  | none : OR K ι n H none none
  | some {d : D} {v : V} : RV K ι n H d v → OR K ι n H (some d) (some v)
theorem valD_pos {k : Key} {d : D} {l : List (Key × D)} : valD ((k, d) :: l) k = some d := by unfold valD; rw [List.find?_cons_of_pos (by simp)]; rfl
theorem valD_neg {k k' : Key} {d : D} {l : List (Key × D)} (e : ¬ k' = k) : valD ((k', d) :: l) k = valD l k := by unfold valD; rw [List.find?_cons_of_neg (by simpa using e)]
section
variable {K : PySem.W.Frag} {ι : Nat → Addr} {n : Nat} {H : Hp}
theorem RKs.val {k : Key} : ∀ {l : List (Key × D)} {vs : List (Key × V)}, RKs K ι n H l vs → OR K ι n H (valD l k) (valV vs k)
  | _, _, .nil => .none
  | _, _, .cons (k := k') (ds := ds) (vs := vs) r t => by
    by_cases e : k' = k
    · subst e
      rw [valD_pos, valV_pos rfl]
      exact .some r
    · rw [valD_neg e, valV_neg e]
      exact RKs.val t
theorem RKs.any {k : Key} : ∀ {l : List (Key × D)} {vs : List (Key × V)}, RKs K ι n H l vs → (vs.any fun kv => decide (kv.1 = k)) = l.any fun kv => decide (kv.1 = k)
  | _, _, .nil => rfl
  | _, _, .cons r t => by rw [List.any_cons, List.any_cons, RKs.any t]
end
section
variable {X : Cx} {W : WX} {pos cpos apos : Pos} {e a b : Expr} {es : List Expr} {fo fa fb : Ev → G → Re D} {fr : Ev → G → Re (List D)}
end
end Fc

set_option Elab.async false
set_option linter.all false
set_option maxRecDepth 100000
set_option maxHeartbeats 4000000
/-! Fza: len(set(xs)), xs a list of texts of any number. -/
namespace Fc
open PySem PySem.Spec PyProof.Rows

section
variable {P : Program} {w : World} {A : Around} {R : Result → Shared → Prop} {J : Addr} {fp wr : List Addr} {G : Array GenState → Array GenState → Prop} {n : Nat} {T : Nat → Value → Prop} {U : Nat → Shared → Prop}
end
section
variable {P : Program} {w : World} {A : Around} {E : Value → Shared → Prop} {s : Shared}
end
section
open L2
variable {X : Cx} {W : WX} {a : Expr} {ta : TE} {p p2 q pos : Pos}
end
end Fc

set_option Elab.async false
set_option linter.all false
set_option maxRecDepth 100000
set_option maxHeartbeats 4000000
/-! Fzb: sorted(d.items()), d a dict from texts to ints. -/
namespace Fc
open PySem PySem.Spec PySem.Calls PyProof.Rows L2

def encP (p : Str × Int) : PyData := .tuple [.str p.1, .int p.2]
section
variable {X : Cx} {W : WX}
/-- the tuple at a is p -/
def TupP (h : Heap) (as : List Addr) (v : Value) (p : Str × Int) : Prop := ∃ b t u, v = .ref b ∧ b ∈ as ∧ h.get? b = some { cls := .type "tuple", data := .seq #[.str p.1 t, .int p.2 u] }
theorem TupP.reads {h : Heap} {as : List Addr} {v : Value} {p : Str × Int} (t : TupP h as v p) : Reads h v (encP p) [] := by
  obtain ⟨b, t, u, rfl, _, e⟩ := t
  exact .tuple (vs := #[.str p.1 t, .int p.2 u]) e rfl rfl (.cons (as := []) (bs := []) (.str _ _) (.cons (as := []) (bs := []) (.int _ _) .nil))
end
end Fc

set_option Elab.async false
set_option linter.all false
set_option maxRecDepth 100000
set_option maxHeartbeats 4000000
/-! Fzc: sorted(d), the rules over data for what Fza, Fzb show; displays of dicts; dict(pairs). -/
namespace Fc
open PySem PySem.Spec PySem.Calls PyProof.Rows L2

section
variable {X : Cx} {W : WX}
end

/-! ### over data -/
section
variable {w : World} {K : PySem.W.Frag} {mg : Str → Option Value} {ι : Nat → Addr} {g : G} {n : Nat} {H : Hp}
theorem Nx.many {L : Addr} {o : O} {H' : Hp} (r : Rep w K mg ι H g) (old : ∀ b u, H b = some u → H' b = some u) (hL : H L = none) (ho : RO w K mg (ix ι g.length L) (g.length + 1) H' L o) : Nx w K mg ι g H (ix ι g.length L) (g ++ [o]) H' := by
  have pr : Pres H H' := .of old
  have len : (g ++ [o]).length = g.length + 1 := by simp
  have lt : ∀ m, m < g.length → ι m ≠ L := fun m h e => by
    obtain ⟨w, hw, _⟩ := (r.obj m g[m] (by simp [h])).tracked
    rw [e, hL] at hw; cases hw
  refine ⟨⟨fun m ob e => ?_, fun m k hm hk e => ?_⟩, by rw [len]; exact Nat.le_succ _, fun m h => ix_lt h, pr⟩
  · rw [len]
    by_cases h : m < g.length
    · rw [List.getElem?_append_left h] at e
      rw [ix_lt h]
      have z := r.obj m ob e
      have h1 : ∀ k, k < g.length → ix ι g.length L k = ι k := fun k hk => ix_lt hk
      have h3 : ∀ a xs, SqT K H a xs → SqT K H' a xs := fun _ _ q => pr.sq q
      cases ob with
      | lst l => obtain ⟨vs, ev, q⟩ := z; exact ⟨vs, old _ _ ev, q.mono h1 (Nat.le_succ _) h3⟩
      | frz l => obtain ⟨ob, vs, ev, q⟩ := z; exact ⟨ob, vs, old _ _ ev, q.mono h1 (Nat.le_succ _) h3⟩
      | dct l => obtain ⟨vs, ev, q⟩ := z; exact ⟨vs, old _ _ ev, q.mono h1 (Nat.le_succ _) h3⟩
      | fdc l => obtain ⟨ob, vs, ev, q⟩ := z; exact ⟨ob, vs, old _ _ ev, q.mono h1 (Nat.le_succ _) h3⟩
      | ins c fs => obtain ⟨C, dx, fvs, ec, ev, ed, q⟩ := z; exact ⟨C, dx, fvs, ec, old _ _ ev, old _ _ ed, q.mono h1 (Nat.le_succ _) h3⟩
      | dtt l => obtain ⟨xs, ev, e2, e3, e4, q⟩ := z; exact ⟨xs, old _ _ ev, e2, e3, e4, q.mono h1 (Nat.le_succ _) h3⟩
      | exv c fs =>
        obtain ⟨C, dd, ec, ev, q⟩ := z
        refine ⟨C, dd, ec, old _ _ ev, ?_⟩
        rcases q with q | ⟨dx, fvs, e2, ed, q⟩
        · exact .inl q
        · exact .inr ⟨dx, fvs, e2, old _ _ ed, q.mono h1 (Nat.le_succ _) h3⟩
      | exn c fs =>
        obtain ⟨C, dd, ec, ev, q⟩ := z
        refine ⟨C, dd, ec, old _ _ ev, ?_⟩
        rcases q with q | ⟨ne, dx, fvs, e2, ed, q⟩
        · exact .inl q
        · exact .inr ⟨ne, dx, fvs, e2, old _ _ ed, q.mono h1 (Nat.le_succ _) h3⟩
    · rw [List.getElem?_append_right (Nat.le_of_not_lt h)] at e
      have hm : m = g.length := by
        have : m - g.length < 1 := (List.getElem?_eq_some_iff.mp e).1
        omega
      subst hm
      rw [Nat.sub_self] at e
      cases e
      rw [ix_same]
      exact ho
  · rw [len] at hm hk
    by_cases h : m < g.length
    · by_cases h' : k < g.length
      · rw [ix_lt h, ix_lt h'] at e; exact r.inj m k h h' e
      · have hk' : k = g.length := by omega
        rw [hk', ix_same, ix_lt h] at e
        exact absurd e (lt m h)
    · have hm' : m = g.length := by omega
      by_cases h' : k < g.length
      · rw [hm', ix_same, ix_lt h'] at e
        exact absurd e.symm (lt k h')
      · omega
end
section
variable {X : Cx} {W : WX} {pos cpos apos p p2 : Pos} {e : Expr} {f : Ev → G → Re D}
end
end Fc

set_option Elab.async false
set_option linter.all false
set_option maxRecDepth 100000
set_option maxHeartbeats 4000000
/-! Fzd: a comprehension with two fors, d.values() walked, displays of dicts, dict(pairs). -/
namespace Fc
open PySem PySem.Spec PySem.Calls PyProof.Rows L2

/-! ### for x in d.values() -/
section
variable {X : Cx} {W : WX} {e tg : Expr} {fd : Ev → G → Re D} {apos cpos : Pos}
end

/-! ### two fors -/
section
variable {X : Cx} {W : WX} {elt tg iter tg1 iter1 : Expr} {ifs ifs1 : List Expr} {scope : Scope} {own : List (Str × Nat)} {vs1 : List Nat} {pos : Pos} {fi fi1 : Ev → G → Re (List D × Wt)} {b b1 : Bd} {ft ft1 : Ev → G → Re Bool} {fe : Ev → G → Re D} {sl sl1 : List Nat}
end
end Fc

set_option Elab.async false
set_option linter.all false
set_option maxRecDepth 100000
set_option maxHeartbeats 4000000
/-! Fze: displays of dicts, dict(pairs), constants of classes, defs with a star parameter. -/
namespace Fc
open PySem PySem.Spec PySem.Calls PyProof.Rows L2

inductive RPs (K : PySem.W.Frag) (ι : Nat → Addr) (n : Nat) (H : Hp) : List (D × D) → List (V × V) → Prop
  | nil : RPs K ι n H [] []
  | cons {a b : D} {x y : V} {ds : List (D × D)} {vs : List (V × V)} : RV K ι n H a x → RV K ι n H b y → RPs K ι n H ds vs → RPs K ι n H ((a, b) :: ds) ((x, y) :: vs)
theorem RPs.mono {K : PySem.W.Frag} {ι ι' : Nat → Addr} {n n' : Nat} {H H' : Hp} (h1 : ∀ m, m < n → ι' m = ι m) (h2 : n ≤ n') (h3 : ∀ a xs, SqT K H a xs → SqT K H' a xs) : ∀ {ds : List (D × D)} {vs : List (V × V)}, RPs K ι n H ds vs → RPs K ι' n' H' ds vs
  | _, _, .nil => .nil
  | _, _, .cons r q t => .cons (RV.mono h1 h2 h3 r) (RV.mono h1 h2 h3 q) (RPs.mono h1 h2 h3 t)
section
variable {X : Cx} {W : WX} {pos : Pos} {k v : Expr} {ks : List (Option Expr)} {vs : List Expr} {fk fv : Ev → G → Re D} {fr : Ev → G → Re (List (D × D))}
end
/-! ### a constant of a class -/
/-! ### def f(a, .., *v) -/
section
variable {P : Program} {w : World} {K : PySem.W.Frag} {mg : Str → Option Value} {base : Heap} {x qual : Str} {params : Arguments} {body : List Stmt} {scope : Scope} {dvs : List V} {kws : List (Str × V)} {f : Addr} {fd : FuncData}
end
end Fc

set_option Elab.async false
set_option linter.all false
set_option maxRecDepth 100000
set_option maxHeartbeats 4000000
/-! Fzf: op= on ints, an own class made with keywords, defaults, facts of constants of classes. -/
namespace Fc
open PySem PySem.Spec PySem.Calls PyProof.Rows L2
section
variable {X : Cx} {W : WX} {k : Nat} {x : Str} {ks : List Str} {p pos : Pos} {kws : List Keyword} {fk : Ev → G → Re (List D)} {ψ : Fun2}
def fMkK (ψ : Fun2) (fk : Ev → G → Re (List D)) : Ev → G → Re D := fun ρ g => (noEx (fk ρ g)).bind fun es g1 => ψ [] es g1
theorem P_mkK {ρ : Ev} {g : G} {Q : D → G → Prop} : (fMkK ψ fk ρ g).P Q = (fk ρ g).P fun es g1 => (ψ [] es g1).P Q := by
  unfold fMkK; rw [P_bind, P_noEx]
end
section
variable {P : Program} {w : World} {K : PySem.W.Frag} {mg : Str → Option Value} {base : Heap} {k : Nat} {f : Addr} {fd : FuncData} {ps : List Str} {φ : Fun1}
end
end Fc

set_option Elab.async false
set_option linter.all false
set_option maxRecDepth 100000
set_option maxHeartbeats 4000000
/-! Fzg: d.get(k, x) of an own dict. -/
namespace Fc
open PySem PySem.Spec PySem.Calls PyProof.Rows L2
section
variable {X : Cx} {W : WX} {pos cpos apos : Pos} {e a b : Expr} {fo : Ev → G → Re D} {fr : Ev → G → Re (List D)}
end
end Fc

set_option Elab.async false
set_option linter.all false
set_option maxRecDepth 100000
set_option maxHeartbeats 4000000
/-! Fzh: list(zip(xs, ys)), two lists. -/
namespace Fc
open PySem PySem.Spec PyProof.Rows
section
variable {prog : Program} {w : World} {A : Around} {E : Value → Shared → Prop} {s : Shared} {R : Result → Shared → Prop}
variable {z TI TO i1 i2 l1 l2 S : Addr} {xs ys : Array Value}
/-- the zip before its turn i; the last pair may be out -/
def ZkSt (h : Heap) (z TI TO i1 i2 l1 l2 S : Addr) (xs ys : Array Value) (i : Nat) : Prop :=
  IsPair h TI (.ref i1) (.ref i2) ∧ h.IsListIter i1 l1 i ∧ h.IsListIter i2 l2 i ∧ h.IsList l1 xs ∧ h.IsList l2 ys ∧
    ((IsZip h z TI TO .none ∧ ∃ a b, IsPair h TO a b) ∨ ∃ T f oT, IsZipHeld h z TI TO T f ∧ h.get? T = some oT ∧ T ≠ z ∧ T ≠ i1 ∧ T ≠ i2 ∧ T ≠ S)
structure ZkOff (S z TI TO i1 i2 l1 l2 : Addr) : Prop where
  z : z ≠ S
  TI : TI ≠ S
  TO : TO ≠ S
  i1 : i1 ≠ S
  i2 : i2 ≠ S
  l1 : l1 ≠ S
  l2 : l2 ≠ S
theorem ZkSt.keep {h h' : Heap} {i : Nat} (st : ZkSt h z TI TO i1 i2 l1 l2 S xs ys i) (o : ZkOff S z TI TO i1 i2 l1 l2) (hk : ∀ b u, b ≠ S → h.get? b = some u → h'.get? b = some u) : ZkSt h' z TI TO i1 i2 l1 l2 S xs ys i := by
  obtain ⟨hTI, h1, h2, hl1, hl2, hz⟩ := st
  refine ⟨hk _ _ o.TI hTI, h1.at fun u e => hk _ u o.i1 e, h2.at fun u e => hk _ u o.i2 e, hl1.at fun u e => hk _ u o.l1 e, hl2.at fun u e => hk _ u o.l2 e, ?_⟩
  rcases hz with ⟨hz, a, b, hTO⟩ | ⟨T, f, oT, hz, hT, r1, r2, r3, r4⟩
  · exact .inl ⟨hk _ _ o.z hz, a, b, hk _ _ o.TO hTO⟩
  · exact .inr ⟨T, f, oT, hk _ _ o.z hz, hk _ _ r4 hT, r1, r2, r3, r4⟩
/-- the pairs made so far -/
structure ZkG (xs ys : Array Value) (lo : Addr) (h : Heap) (as : List Addr) : Prop where
  rise : as.Pairwise (· < ·)
  above : ∀ a ∈ as, lo < a
  pairs : ∀ (j : Nat) (a : Addr), as[j]? = some a → ∃ x y, xs[j]? = some x ∧ ys[j]? = some y ∧ h.get? a = some { cls := .type "tuple", data := .seq #[x, y] }
theorem ZkG.there {lo : Addr} {h : Heap} {as : List Addr} (g : ZkG xs ys lo h as) {a : Addr} (ha : a ∈ as) : a < h.objs.size := by
  obtain ⟨j, hj⟩ := List.mem_iff_getElem?.mp ha
  obtain ⟨_, _, _, _, e⟩ := g.pairs j a hj
  exact Heap.lt_size e
end
end Fc

set_option Elab.async false
set_option linter.all false
set_option maxRecDepth 100000
set_option maxHeartbeats 4000000
/-! Fzi: list(zip(xs, ys)) as data; xs.remove(y) of data; d != e of dicts from texts to ints. -/
namespace Fc
open PySem PySem.Spec PySem.Calls PyProof.Rows L2
/-! ### list(zip(xs, ys)) -/
section
variable {X : Cx} {W : WX} {pos cpos p p2 : Pos} {e e2 : Expr} {fr : Ev → G → Re (List D)}
end

/-! ### xs.remove(y) -/
section
variable {X : Cx} {W : WX} {cpos apos : Pos} {e a : Expr} {fo : Ev → G → Re D} {fr : Ev → G → Re (List D)}
end
/-! ### d != e, dicts from texts to ints -/
end Fc

set_option Elab.async false
set_option linter.all false
set_option maxRecDepth 100000
set_option maxHeartbeats 4000000
/-! Fgb: repr(x), x a tuple or a list of data. -/
namespace Fc
open PySem PySem.Spec PySem.Calls PyProof.Rows L2
/-! ### o.m(k = v, ..) -/
section
variable {X : Cx} {W : WX} {k : Nat} {φ : Fun2} {c m : Str} {pos apos : Pos} {o : Expr} {ks : List Str} {kws : List Keyword} {fo : Ev → G → Re D} {fk : Ev → G → Re (List D)} {pl : Sem Bool}
end
end Fc

set_option Elab.async false
set_option linter.all false
set_option maxRecDepth 100000
set_option maxHeartbeats 4000000
/-! Fgc: o.p, p a property of an own class. -/
namespace Fc
open PySem PySem.Spec PySem.Calls PyProof.Rows L2
section
variable {X : Cx} {W : WX} {k : Nat} {φ : Fun2} {c m : Str} {pos : Pos} {o : Expr} {fo : Ev → G → Re D}
end
/-! ### off the head's facts -/
def gA (K : PySem.W.Frag) (x m : Str) : Addr := match PySem.W.recIn K (He.ma K (He.ga K x) m) "property" with
  | some (.ref g :: _) => g
  | _ => 0
end Fc

set_option Elab.async false
set_option linter.all false
set_option maxRecDepth 100000
set_option maxHeartbeats 4000000
/-! Fzj: sorted(xs), xs a list of data. -/
namespace Fc
open PySem PySem.Spec PySem.Calls PyProof.Rows L2
/-! ### over data -/
section
variable {w : World} {K : PySem.W.Frag} {mg : Str → Option Value} {ι : Nat → Addr} {g : G} {H : Hp}
end
end Fc

set_option Elab.async false
set_option linter.all false
set_option maxRecDepth 100000
set_option maxHeartbeats 4000000
/-! Fzk: len({e for t in xs}), e an int or a text. -/
namespace Fc
open PySem PySem.Spec PySem.Calls PyProof.Rows L2
section
variable {X : Cx}
variable {elt tgt src : Expr} {conds : List Expr} {sco : Scope} {own : List (PySem.Str × Nat)} {pos : Pos} {ti : TI} {gt : TG} {tt : TT} {te : TE}
end
/-! ### over data -/
section
variable {X : Cx} {W : WX} {elt tg iter : Expr} {ifs : List Expr} {sco : Scope} {own : List (Str × Nat)} {pos : Pos} {fi : Ev → G → Re (List D × Wt)} {b : Bd} {ft : Ev → G → Re Bool} {fe : Ev → G → Re D} {sl : List Nat}
end
end Fc

set_option Elab.async false
set_option linter.all false
set_option maxRecDepth 100000
set_option maxHeartbeats 4000000
/-! Fzl: xs.clear(), xs.pop(), d.setdefault(k, v), x in xs and x < y of data, x is True, sorted(d.values()). -/
namespace Fc
open PySem PySem.Spec PySem.Calls PyProof.Rows L2
/-! ### methods without arguments -/
section
variable {X : Cx} {W : WX} {cpos apos : Pos} {e : Expr} {fo : Ev → G → Re D} {T id : String} {name : Str} {o : OpM}
end
/-! ### d.setdefault(k, v) -/
/-! ### x in xs, data -/
section
variable {X : Cx}
end
/-! ### x < y, data -/
def notN : PyData → Bool
  | .none => false
  | _ => true
/-! ### x is True, x is not True -/
def isB (a b : D) : Option Bool := match a, b with
  | .bl x, .bl y => some (x == y)
  | .non, .bl _ => some false
  | .bl _, .non => some false
  | .non, .non => some true
  | _, _ => none
end Fc

set_option Elab.async false
set_option linter.all false
set_option maxRecDepth 100000
set_option maxHeartbeats 4000000
/-! Fzm: sorted(d.values()), the values data. -/
namespace Fc
open PySem PySem.Spec PySem.Calls PyProof.Rows L2
section
variable {X : Cx} {W : WX}
end
section
variable {X : Cx} {W : WX} {pos cpos apos p : Pos} {e : Expr} {f : Ev → G → Re D}
end
end Fc

set_option Elab.async false
set_option linter.all false
set_option maxRecDepth 100000
set_option maxHeartbeats 4000000
/-! Fzn: a def (.., *, k=d, **kw) called with one keyword that goes into kw. -/
namespace Fc
open PySem PySem.Spec PySem.Calls PyProof.Rows L2
section
variable {P : Program} {w : World} {K : PySem.W.Frag} {mg : Str → Option Value} {base : Heap} {x qual : Str} {params : Arguments} {body : List Stmt} {scope : Scope} {kws : List (Str × V)} {f : Addr} {fd : FuncData}
end
end Fc

set_option Elab.async false
set_option linter.all false
set_option maxRecDepth 100000
set_option maxHeartbeats 4000000
/-! Fda: dicts whose keys are tuples, however deep: asked, read, written. -/
namespace Fc
open PySem PySem.Spec PySem.Calls PyProof.Rows L2

mutual
/-- the value v is the key k -/
inductive NkV (K : PySem.W.Frag) (H : Hp) : NestedKey → V → Prop
  | non : NkV K H .none .non
  | bl (b : Bool) : NkV K H (.num (if b = true then 1 else 0)) (.bl b)
  | int (i : Int) : NkV K H (.num i) (.int i)
  | str (x : Str) : NkV K H (.text x) (.str x)
  | tup {a : Addr} {vs : List V} {ks : List NestedKey} : SqT K H a vs → NkVs K H ks vs → NkV K H (.tup ks) (.ref a)
inductive NkVs (K : PySem.W.Frag) (H : Hp) : List NestedKey → List V → Prop
  | nil : NkVs K H [] []
  | cons {k : NestedKey} {v : V} {ks : List NestedKey} {vs : List V} : NkV K H k v → NkVs K H ks vs → NkVs K H (k :: ks) (v :: vs)
end
section
variable {K : PySem.W.Frag} {ι : Nat → Addr} {n : Nat} {H : Hp}
end
section
variable {X : Cx} {pins : List (Addr × Obj)} {σ : L2.St} {H : Hp} {s : Shared}
mutual
theorem NkV.is (I : Inv X pins σ H s) : ∀ {k : NestedKey} {v : V}, NkV X.K H k v → ∀ {u : Value}, RelV v u → NestedIs s.heap k u
  | _, _, .non, _, r => by cases r; exact .none
  | _, _, .bl b, _, r => by cases r; exact .bool rfl
  | _, _, .int i, _, r => by obtain ⟨t, rfl⟩ := r; exact .int i t
  | _, _, .str x, _, r => by obtain ⟨t, rfl⟩ := r; exact .text x t
  | _, _, .tup hs t, _, r => by
    obtain ⟨its, rv, ⟨o, e, c, m, d⟩, _⟩ := I.tuple hs
    cases r
    exact .tup e c d (by simpa using NkVs.is I t rv)
theorem NkVs.is (I : Inv X pins σ H s) : ∀ {ks : List NestedKey} {vs : List V}, NkVs X.K H ks vs → ∀ {us : List Value}, Vals vs us → NestedAll s.heap ks us
  | _, _, .nil, _, r => by cases r; exact .nil
  | _, _, .cons h t, _, r => by
    cases r with
    | cons q w => exact .cons (NkV.is I h q) (NkVs.is I t w)
end
end

/-! ### what stands at a -/
section
variable {X : Cx} {pins : List (Addr × Obj)} {σ : L2.St} {H : Hp} {s : Shared}
end
end Fc

set_option Elab.async false
set_option linter.all false
set_option maxRecDepth 100000
set_option maxHeartbeats 4000000
/-! Fdb: dicts whose keys are tuples: the rules over data. -/
namespace Fc
open PySem PySem.Spec PySem.Calls PyProof.Rows L2

section
variable {w : World} {K : PySem.W.Frag} {mg : Str → Option Value} {ι : Nat → Addr} {g : G} {H : Hp} {n : Nat}
end
section
variable {X : Cx} {W : WX} {pos cpos apos : Pos} {e a b : Expr} {es : List Expr} {fo fa fb : Ev → G → Re D} {fr : Ev → G → Re (List D)}
end
end Fc

set_option Elab.async false
set_option linter.all false
set_option maxRecDepth 100000
set_option maxHeartbeats 4000000
/-! Fdc: sorted(d), dict(pairs), the keys being tuples. -/
namespace Fc
open PySem PySem.Spec PySem.Calls PyProof.Rows L2

section
variable {X : Cx} {W : WX}
/-! ### dict(pairs) -/
end
end Fc

set_option Elab.async false
set_option linter.all false
set_option maxRecDepth 100000
set_option maxHeartbeats 4000000
/-! Fdd: sorted(d), dict(pairs), the keys being tuples: over data. -/
namespace Fc
open PySem PySem.Spec PySem.Calls PyProof.Rows L2

section
variable {w : World} {K : PySem.W.Frag} {mg : Str → Option Value} {ι : Nat → Addr} {g : G} {H : Hp} {n : Nat}
end
section
variable {X : Cx} {W : WX}
end
end Fc

set_option Elab.async false
set_option linter.all false
set_option maxRecDepth 100000
set_option maxHeartbeats 4000000
/-! Fde: len(set(xs)), xs a list of ints and texts of any number. -/
namespace Fc
open PySem PySem.Spec PySem.Calls PyProof.Rows L2
section
variable {P : Program} {w : World} {A : Around} {R : Result → Shared → Prop} {J : Addr} {fp wr : List Addr} {G : Array GenState → Array GenState → Prop} {n : Nat} {T : Nat → Value → Prop} {U : Nat → Shared → Prop}
end
section
variable {P : Program} {w : World} {A : Around} {E : Value → Shared → Prop} {s : Shared}
end
section
variable {X : Cx} {W : WX} {a : Expr} {ta : TE} {p p2 q pos : Pos}
end
section
variable {X : Cx} {W : WX} {e : Expr} {f : Ev → G → Re D} {p p2 cpos pos : Pos}
end
end Fc

set_option Elab.async false
set_option linter.all false
set_option maxRecDepth 100000
set_option maxHeartbeats 4000000
/-! Fka: {k: v for t in xs if c}, whatever the keys. -/
namespace Fc
open PySem PySem.Spec PySem.Calls PyProof.Rows L2

abbrev RSt := V → V → V → Hp → (Hp → Prop) → Prop
section
variable {X : Cx} {kx vx tgt src : Expr} {conds : List Expr} {sco : Scope} {own : List (PySem.Str × Nat)} {pos pos' : Pos} {ti : TI} {gt : TG} {tt : TT} {tk tv : TE} {r : RSt}
end
end Fc

set_option Elab.async false
set_option linter.all false
set_option maxRecDepth 100000
set_option maxHeartbeats 4000000
/-! Fkb: dict comprehensions over data. -/
namespace Fc
open PySem PySem.Spec PySem.Calls PyProof.Rows L2

section
variable {X : Cx}
end
section
variable {X : Cx} {W : WX} {kx vx tg iter : Expr} {ifs : List Expr} {sco : Scope} {own : List (PySem.Str × Nat)} {pos : Pos} {fi : Ev → G → Re (List D × Wt)} {b : Bd} {ft : Ev → G → Re Bool} {fk fv : Ev → G → Re D} {sl : List Nat}
end
end Fc

set_option Elab.async false
set_option linter.all false
set_option maxRecDepth 100000
set_option maxHeartbeats 4000000
/-! Fkc: dict(zip(xs, ys)), lists, tuples, texts in any mix. -/
namespace Fc
open PySem PySem.Spec PySem.Calls PyProof.Rows L2
section
variable {prog : Program} {w : World} {A : Around} {E : Value → Shared → Prop} {s : Shared} {z TI TO T i1 i2 : Addr} {fp1 fp2 : List Addr} {n1 n2 i : Nat} {P1 P2 : Nat → Value → Prop} {St1 St2 : Nat → Heap → Prop} {f : Bool} {oT : Obj}
end
end Fc

set_option Elab.async false
set_option linter.all false
set_option maxRecDepth 100000
set_option maxHeartbeats 4000000
/-! Fkd: dict(zip(xs, ys)) over data. -/
namespace Fc
open PySem PySem.Spec PySem.Calls PyProof.Rows L2
section
variable {X : Cx} {pins : List (Addr × Obj)} {σ : L2.St} {H : Hp} {s : Shared} {S : Src} {xs : List V}
end
/-! ### over data -/
section
variable {X : Cx} {W : WX} {pos cpos p p2 : Pos} {e e2 : Expr} {fr : Ev → G → Re (List D)}
end
end Fc

set_option Elab.async false
set_option linter.all false
set_option maxRecDepth 100000
set_option maxHeartbeats 4000000
/-! Fke: targets that store; displays with one key; d.get(k); isinstance(x, C), C an own class; C(x, ..). -/
namespace Fc
open PySem PySem.Spec PySem.Calls PyProof.Rows L2

/-! ### targets that store -/
abbrev Tb := D → Ev → G → Option (Ev × G)
abbrev Tbs := List D → Ev → G → Option (Ev × G)
section
variable {X : Cx} {W : WX} {pos : Pos} {x : PySem.Str} {e o i tg : Expr} {es : List Expr} {f fo fi : Ev → G → Re D} {b : Tb} {c : Tbs}
end
/-! ### a store of any key; a display with one key -/
/-! ### d.get(k) -/
section
variable {X : Cx} {W : WX} {pos cpos apos p p1 : Pos} {e a : Expr} {es : List Expr} {fo f : Ev → G → Re D} {fr : Ev → G → Re (List D)} {x : PySem.Str}
/-! ### isinstance(x, C) -/
/-! ### C(x, ..) -/
def fMkA (ψ : Fun2) (fr : Ev → G → Re (List D)) : Ev → G → Re D := fun ρ g => (noEx (fr ρ g)).bind fun ds g1 => ψ ds [] g1
variable {k : Nat} {ψ : Fun2}
theorem P_mkA {ρ : Ev} {g : G} {Q : D → G → Prop} : (fMkA ψ fr ρ g).P Q = (fr ρ g).P fun ds g1 => (ψ ds [] g1).P Q := by
  unfold fMkA; rw [P_bind, P_noEx]
end
end Fc

set_option Elab.async false
set_option linter.all false
set_option maxRecDepth 100000
set_option maxHeartbeats 4000000
/-! Fkf: isinstance(x, C) read off the written part. -/
namespace Fc
open PySem PySem.Spec PySem.Calls PyProof.Rows L2
end Fc

set_option Elab.async false
set_option linter.all false
set_option maxRecDepth 100000
set_option maxHeartbeats 4000000
/-! Fkg: a != b of long data. -/
namespace Fc
open PySem PySem.Spec PySem.Calls PyProof.Rows L2
end Fc

set_option Elab.async false
set_option linter.all false
set_option maxRecDepth 100000
set_option maxHeartbeats 4000000
/-! Fkh: a, *b = xs, xs a list. -/
namespace Fc
open PySem PySem.Spec PySem.Calls PyProof.Rows L2
end Fc

set_option Elab.async false
set_option linter.all false
set_option maxRecDepth 100000
set_option maxHeartbeats 4000000
/-! Fki: list(d) of a dict. -/
namespace Fc
open PySem PySem.Spec PySem.Calls PyProof.Rows L2
end Fc

set_option Elab.async false
set_option linter.all false
set_option maxRecDepth 100000
set_option maxHeartbeats 4000000
/-! Fea: own exceptions over ValueError, RuntimeError, OverflowError, KeyError: how they are made. -/
namespace Fc
open PySem PySem.Spec PySem.Calls PyProof.Rows L2
open PySem.HandSPX (excO)

/-- what is known of a built-in's own __init__ -/
structure XIn (B ini : String) : Prop where
  look : PySem.Slot B "__init__" ini
  entry : entryFor table ini = some Builtin.«BaseException.__init__»
  split : splitId ini = some (B, "__init__")
  kind : builtinKind ini = some .slot
  row : Manifest.signature? ini = some ⟨.positional, "*", B, .self, [⟨"args", .varPos, false⟩]⟩
  star : (B != "*") = true
theorem xin_of {B nw ini : String} (F : ExcCallFacts B nw ini) : XIn B ini := ⟨F.init, F.initEntry, F.initSplit, F.initKind, F.initRow, F.noStar⟩
theorem xinK : XIn "KeyError" "KeyError.__init__" where
  look := .of (owner := "KeyError") (n := "__init__") (by rw [typeLookup_type, builtinLookup_eq_fast]; kernel_rfl) (by decide +kernel) (by decide +kernel) (by decide +kernel) (by first | exact .inl (by decide +kernel) | exact .inr (by decide +kernel)) (by rw [isSubtype_type]; kernel_rfl)
  entry := entryFor_alias (id' := "BaseException.__init__") (by rw [fastTable_eq_tree]; kernel_rfl) (by first | rfl | decide +kernel) (by decide +kernel) (by rw [fastTable_eq_tree]; kernel_rfl)
  split := by kernel_rfl
  kind := by kernel_rfl
  row := by kernel_rfl
  star := by decide +kernel
theorem stoK : StoreFacts "KeyError" tlK "object.__setattr__" "object" where
  mro := by kernel_rfl
  slot := .of (owner := "object") (n := "__setattr__") (by rw [typeLookup_type, builtinLookup_eq_fast]; kernel_rfl) (by decide +kernel) (by decide +kernel) (by decide +kernel) (by first | exact .inl (by decide +kernel) | exact .inr (by decide +kernel)) (by rw [isSubtype_type]; kernel_rfl)
  entry := PySem.F.store_RuntimeError.entry
  kind := by decide +kernel
  split := by decide +kernel
  hasOwner := by decide +kernel
  args := fun x y z => by unfold argsOk; kernel_rfl
  passes := fun o => by kernel_rfl
/-- what is known of the built-in under an own exception: N makes it (it may stand above B) -/
structure XB (B nw ini : String) (tail : List Value) : Prop where
  make_ : ∃ N i0 t0, PySem.ExcBaseFacts N nw i0 t0 ∧ tail.contains (.type N) = true
  ini_ : XIn B ini
  own_ : tail.contains (.type B) = true
  notA : tail.contains (.type "AttributeError") = false
  notN : tail.contains (.type "NameError") = false
  st : PySem.StoreFacts B tail "object.__setattr__" "object"
  meta_ : typeOf (.type B) = pure (.type "type")
theorem xb_of {B nw ini : String} {tail : List Value} (F : PySem.ExcBaseFacts B nw ini tail) (s : PySem.StoreFacts B tail "object.__setattr__" "object") (m : typeOf (.type B) = pure (.type "type")) : XB B nw ini tail :=
  ⟨⟨_, _, _, F, F.hasB⟩, xin_of F.toExcCallFacts, F.hasB, F.noAttr, F.noName, s, m⟩
theorem xbV : XB "ValueError" "ValueError.__new__" "ValueError.__init__" tlV := xb_of PySem.F.excBase_ValueError PySem.F.store_ValueError (by kernel_rfl)
theorem xbR : XB "RuntimeError" "RuntimeError.__new__" "RuntimeError.__init__" tlR := xb_of PySem.F.excBase_RuntimeError PySem.F.store_RuntimeError (by kernel_rfl)
theorem xbK : XB "KeyError" "LookupError.__new__" "KeyError.__init__" tlK := ⟨⟨_, _, _, PySem.F.excBase_LookupError, by decide +kernel⟩, xinK, by decide +kernel, by decide +kernel, by decide +kernel, stoK, by kernel_rfl⟩

/-! ### C(..), C's own __init__, whatever stands in the class's line -/
section
variable {M : Model} {prog : Program} {w : World} {A : Around} {E : Value → Shared → Prop} {R : Result → Shared → Prop} {hp : Heap} {g : Array GenState} {dr : Drawn} {tk : Nat} {os : OsState}
variable {nm q : Str} {C NS : Addr} {bs bm : List Value} {hd : Bool} {sn : List Str} {sub : List Value} {ab : Bool} {col : Option Bool} {dd : Option Addr} {k0 k1 k2 k3 k5 : Option Value} {N nw i0 : String} {t0 : List Value}
/-- the class object -/
abbrev xcO (nm q : Str) (C NS : Addr) (bs bm : List Value) (hd : Bool) (sn : List Str) (sub : List Value) (ab : Bool) (col : Option Bool) (dd : Option Addr) (k0 k1 k2 k3 k5 : Option Value) (nw : String) : Obj := excClassObj nm q C NS bs bm hd sn sub ab col dd k0 k1 k2 k3 k5 nw
theorem xk_look (F : ExcBaseFacts N nw i0 t0) (hB : bm.contains (.type N) = true) {us : List Value} {kw : List (Str × Value)} {Q : Unit → Shared → Prop} (hC : hp.get? C = some (xcO nm q C NS bs bm hd sn sub ab col dd k0 k1 k2 k3 k5 nw)) (hq : Q () ⟨hp, g, dr, tk, os⟩) :
    wpAny M A (checkBuiltinCall nw ⟨.ref C :: us, kw⟩) Q E ⟨hp, g, dr, tk, os⟩ := by
  have isN : (Value.ref C :: bm).contains (.type N) = true := by rw [List.contains_cons, hB] <;> exact Bool.or_true _
  have notStar := F.noStar
  simp only [checkBuiltinCall, F.newKind, F.newSplit, F.newRow]
  repeat (first | refine wpAny_loadPart_at hC ?_ | (refine wpAny_isSubtype_exc hC ?_; rw [isN]) | refine wpAny_staticBase_exc hC ?_ | refine wpAny_madeBy_exc hC ?_ | simp only [bne_self_eq_false, Bool.false_eq_true, if_false] | wp_step)
  exact hq
theorem xk_new (F : ExcBaseFacts N nw i0 t0) (hB : bm.contains (.type N) = true) (hA : bm.contains (.type "AttributeError") = false) (hN : bm.contains (.type "NameError") = false) {us : List Value} {kw : List (Str × Value)}
    (hC : hp.get? C = some (xcO nm q C NS bs bm hd sn sub ab col dd k0 k1 k2 k3 k5 nw)) (hl : us.length ≤ sizeLine)
    (hq : R (.ok (.ret (.ref (hp.objs.size + 1)))) ⟨(hp.push (PySem.W.kdv_tup us)).push (excO C hp.objs.size), g, dr, tk, os⟩) :
    codeAny (model prog w) A (.builtin nw ⟨.ref C :: us, kw⟩) R ⟨hp, g, dr, tk, os⟩ := by
  have ends := F.ends
  have isN : (Value.ref C :: bm).contains (.type N) = true := by rw [List.contains_cons, hB] <;> exact Bool.or_true _
  have isA : (Value.ref C :: bm).contains (.type "AttributeError") = false := by rw [List.contains_cons, hA] <;> rfl
  have isE : (Value.ref C :: bm).contains (.type "NameError") = false := by rw [List.contains_cons, hN] <;> rfl
  refine codeAny_builtinAt F.entry ?_
  unfold Builtin.«BaseException.__new__»
  refine PySem.wpAt_bind ?_
  show PySem.wpAt _ _ _ (stack >>= _) _ _ _
  refine PySem.wpAt_bind (PySem.wpAt_stack fun a b => PySem.wpAt_of_wpAny ?_)
  wp_walk
  refine PySem.wpAt_of_wpAny ?_
  rw [F.owner]
  repeat (first | with_reducible refine wpAny_madeHere_exc F.canon hC ?_ | with_reducible refine wpAny_loadPart_at hC ?_ | (with_reducible refine wpAny_isSubtype_exc hC ?_; first | rw [isN] | rw [isA] | rw [isE]) | wp_step)
  show R _ _
  rw [Heap.size_push]
  exact hq
theorem xk_type (F : ExcBaseFacts N nw i0 t0) (hB : bm.contains (.type N) = true) (hA : bm.contains (.type "AttributeError") = false) (hN : bm.contains (.type "NameError") = false) {us : List Value} {kw : List (Str × Value)} {fI : Addr} {Q : Fin → Shared → Prop}
    (hC : hp.get? C = some (xcO nm q C NS bs bm hd sn sub ab col dd k0 k1 k2 k3 k5 nw)) (hl : us.length ≤ sizeLine)
    (hi : W.Looks (model prog w) hp (typeLookup (.ref C) "__init__") (some (.ref fI))) (hb : ∀ o, W.Looks (model prog w) hp (bindSpecial (.ref fI) o) (.ref fI, [o]))
    (hq : codeAny (model prog w) A (.call (.ref fI) ⟨.ref (hp.objs.size + 1) :: us, kw⟩) (fun r s' => match r with
      | .ok (.ret v) => v = .none ∧ Q (.done (.ret (.ref (hp.objs.size + 1)))) s'
      | .ok _ => False
      | .error e => E e s') ⟨(hp.push (PySem.W.kdv_tup us)).push (excO C hp.objs.size), g, dr, tk, os⟩) :
    wpAny (model prog w) A (Builtin.«type.__call__» ⟨.ref C :: us, kw⟩) Q E ⟨hp, g, dr, tk, os⟩ := by
  repeat (first | with_reducible refine wpAny_loadPart_at hC ?_ | with_reducible refine wpAny_madeBy_exc hC ?_ | wp_step)
  refine codeAny_call_builtin_code (Code.quiet_builtin _ F.quiet) (xk_look F hB hC (xk_new F hB hA hN hC hl ?_))
  show wpAny _ _ _ _ _ _
  have old : ∀ c o, hp.get? c = some o → ((hp.push (PySem.W.kdv_tup us)).push (excO C hp.objs.size)).get? c = some o := fun c o z => Heap.get?_push_of_some _ (Heap.get?_push_of_some _ z)
  have hC' := old _ _ hC
  have new : ((hp.push (PySem.W.kdv_tup us)).push (excO C hp.objs.size)).get? (hp.objs.size + 1) = some (excO C hp.objs.size) := by heap_get
  have isC : (Value.ref C :: bm).contains (.ref C) = true := by simp
  have l1 := hi.keeps old
  have l2 := (hb (.ref (hp.objs.size + 1))).keeps old
  unfold isInstance
  repeat (first | with_reducible refine wpAny_loadPart_at new ?_ | (with_reducible refine wpAny_isSubtype_exc hC' ?_; rw [isC]) | wp_step)
  show wpAny _ _ (typeLookup (.ref C) _) _ _ _
  refine l1.at (wpAny_holding (wpAny_bind (l2.at ?_)))
  refine wpAny_bind (wpAny_call (codeAny_mono hq fun r s' z => ?_))
  rcases r with e | (v | _ | _ | _) <;> first | exact z | exact z.elim | skip
  obtain ⟨rfl, z⟩ := z
  first | exact wpAny_pure (wpAny_pure z) | (wp_walk; exact z)
theorem xk_check {us : List Value} {kw : List (Str × Value)} {Q : Unit → Shared → Prop} (hC : hp.get? C = some (xcO nm q C NS bs bm hd sn sub ab col dd k0 k1 k2 k3 k5 nw)) (hq : Q () ⟨hp, g, dr, tk, os⟩) :
    wpAny M A (checkBuiltinCall "type.__call__" ⟨.ref C :: us, kw⟩) Q E ⟨hp, g, dr, tk, os⟩ := by
  have isT : (⟨hp, g, dr, tk, os⟩ : Shared).TypeIs (.ref C) "type" := ⟨_, hC, rfl⟩
  have a3 := tc_sub
  simp only [checkBuiltinCall, tc_kind, tc_split]
  repeat (any_goals (first | assumption | exact hq | with_reducible refine wpAny_loadPart_at hC ?_ | with_reducible refine wpAny_onRaise ?_ | with_reducible refine wpAny_map ?_ | wp_step))
/-- C(..) -/
theorem xk_call (F : ExcBaseFacts N nw i0 t0) (hB : bm.contains (.type N) = true) (hA : bm.contains (.type "AttributeError") = false) (hN : bm.contains (.type "NameError") = false) {us : List Value} {kw : List (Str × Value)} {fI : Addr}
    (hC : hp.get? C = some (xcO nm q C NS bs bm hd sn sub ab col dd k0 k1 k2 k3 k5 nw)) (hl : us.length ≤ sizeLine)
    (hi : W.Looks (model prog w) hp (typeLookup (.ref C) "__init__") (some (.ref fI))) (hb : ∀ o, W.Looks (model prog w) hp (bindSpecial (.ref fI) o) (.ref fI, [o]))
    (hq : codeAny (model prog w) (A.under (.builtin "type.__call__" ⟨.ref C :: us, kw⟩)) (.call (.ref fI) ⟨.ref (hp.objs.size + 1) :: us, kw⟩) (W.InitBack (hp.objs.size + 1) R)
      ⟨(hp.push (PySem.W.kdv_tup us)).push (excO C hp.objs.size), g, dr, tk, os⟩) : codeAny (model prog w) A (.call (.ref C) ⟨us, kw⟩) R ⟨hp, g, dr, tk, os⟩ := by
  have a1 := tc_lookup
  have a2 := tc_bind (.ref C)
  have isT : (⟨hp, g, dr, tk, os⟩ : Shared).TypeIs (.ref C) "type" := ⟨_, hC, rfl⟩
  refine codeAny_of_tree ?_
  show wpAny _ _ (callAny (.ref C) _) _ _ _
  repeat (any_goals (first | assumption | with_reducible refine wpAny_loadPart_at hC ?_ | wp_step))
  refine ⟨rfl, codeAny_call_builtin_at (Code.quiet_builtin _ (by decide +kernel)) entry_typeCall ?_⟩
  refine xk_check hC (xk_type F hB hA hN hC hl hi hb (codeAny_mono hq fun r s' z => ?_))
  rcases r with e | (v | _ | _ | _) <;> exact z
end
end Fc

set_option Elab.async false
set_option linter.all false
set_option maxRecDepth 100000
set_option maxHeartbeats 4000000
/-! Feb: own exceptions: B.__init__(self, ..), self.f = x, C(..), C(k = v). -/
namespace Fc
open PySem PySem.Spec PySem.Calls PyProof.Rows L2
open PySem.HandSPX (excO)
section
variable {M : Model} {prog : Program} {w : World} {A : Around} {E : Value → Shared → Prop} {R : Result → Shared → Prop} {hp : Heap} {g : Array GenState} {dr : Drawn} {tk : Nat} {os : OsState}
variable {nm q : Str} {C NS : Addr} {bs bm : List Value} {hd : Bool} {sn : List Str} {sub : List Value} {ab : Bool} {col : Option Bool} {dd : Option Addr} {k0 k1 k2 k3 k5 : Option Value} {B nw ini : String}
theorem xk_ichk (F : XIn B ini) (hB : bm.contains (.type B) = true) {a : Addr} {oa : Obj} {us : List Value} {Q : Unit → Shared → Prop} (hC : hp.get? C = some (xcO nm q C NS bs bm hd sn sub ab col dd k0 k1 k2 k3 k5 nw)) (ha : hp.get? a = some oa) (hc : oa.cls = .ref C) (hq : Q () ⟨hp, g, dr, tk, os⟩) :
    wpAny M A (checkBuiltinCall ini ⟨.ref a :: us, []⟩) Q E ⟨hp, g, dr, tk, os⟩ := by
  have isB : (Value.ref C :: bm).contains (.type B) = true := by rw [List.contains_cons, hB] <;> exact Bool.or_true _
  have notStar := F.star
  simp only [checkBuiltinCall, F.kind, F.split, F.row]
  repeat (first | (with_reducible refine wpAny_loadPart_at ha ?_; rw [hc]) | with_reducible refine wpAny_loadPart_at hC ?_ | (with_reducible refine wpAny_isSubtype_exc hC ?_; rw [isB]) | wp_step)
  refine wpAny_onRaise ?_
  rw [show ∀ (x y : String) (n : Nat), Bind.check ⟨.positional, "*", B, .self, [⟨"args", .varPos, false⟩]⟩ x y n (List.map (fun z => z.fst) ({ pos := Value.ref a :: us } : Args).kw) = pure () from fun x y n => check_star_args _ _ _ _ _ _]
  exact wpAny_pure hq
theorem xk_init (F : XIn B ini) (hB : bm.contains (.type B) = true) {a t1 : Addr} {us : List Value} (hC : hp.get? C = some (xcO nm q C NS bs bm hd sn sub ab col dd k0 k1 k2 k3 k5 nw)) (ha : hp.get? a = some (excO C t1)) (hl : us.length ≤ sizeLine)
    (hq : ∀ h' t2, (∀ c o, c ≠ a → hp.get? c = some o → h'.get? c = some o) → h'.get? a = some (excO C t2) → R (.ok (.ret .none)) ⟨h', g, dr, tk, os⟩) :
    codeAny (model prog w) A (.call (.builtin ini) ⟨.ref a :: us, []⟩) R ⟨hp, g, dr, tk, os⟩ := by
  refine codeAny_call_builtin F.look.plain F.entry (xk_ichk F hB hC ha rfl ?_)
  wp_walk
  refine hq _ hp.objs.size (fun c o hc ho => ?_) ?_
  · rw [Heap.get?_update_other _ _ (Ne.symm hc)]
    exact Heap.get?_push_of_some _ ho
  · rw [Heap.get?_update_self _ (Heap.get?_push_of_some _ ha) rfl]
    rfl
end
/-- what the written part says of an own exception class -/
structure XCl (K : PySem.W.Frag) (C : Addr) (nw : String) (tail : List Value) : Prop where
  lk : ∃ nm q N bs bm sn sub ab col dd k0 k1 k2 k3 k5, K.lookup C = some (xcO nm q C N bs bm true sn sub ab col dd k0 k1 k2 k3 k5 nw) ∧ PySem.W.excTail tail bm = true
  sto : PySem.W.findIn K (.ref C) "__setattr__" = some (some (.builtin "object.__setattr__"))
  exc : PySem.W.subIn K (.ref C) (.type "BaseException") = some true
  typ : PySem.W.typeIn K (.ref C) = some (.type "type")
  kp : PySem.W.keepIn K (.ref C) = true
theorem XCl.raises {X : Cx} {C : Addr} {nw : String} {tail : List Value} (T : XCl X.K C nw tail) : Raises X (.ref C) := raises_own T.exc T.typ
theorem xcl_data {K : PySem.W.Frag} {C : Addr} {nw : String} {tail : List Value} (T : XCl K C nw tail) : ∃ nm q N bs bm sn sub ab col dd k0 k1 k2 k3 k5, K.lookup C = some (xcO nm q C N bs bm true sn sub ab col dd k0 k1 k2 k3 k5 nw) ∧ ∀ Y : String, bm.contains (.type Y) = tail.contains (.type Y) := by
  obtain ⟨nm, q, N, bs, bm, sn, sub, ab, col, dd, k0, k1, k2, k3, k5, hC, hb⟩ := T.lk
  exact ⟨nm, q, N, bs, bm, sn, sub, ab, col, dd, k0, k1, k2, k3, k5, hC, fun Y => PySem.W.excTail_contains Y bm hb⟩
section
variable {prog : Program} {w : World} {A : Around} {R : Result → Shared → Prop} {hp : Heap} {g : Array GenState} {d : Drawn} {t : Nat} {os : OsState} {B nw ini : String} {tail : List Value}
open Builtin Builtin.ObjectAttr in
theorem xo_first {K : PySem.W.Frag} {C x : Addr} {name : Str} {tk : Tok} {v : Value} {fv : Array Value} (b : XB B nw ini tail) (T : XCl K C nw tail) (X : K.In hp) (hx : hp.get? x = some { cls := .ref C, data := .fields fv }) (hno : PySem.W.findIn K (.ref C) name = some none)
    (hq : ∀ h' tk' dx, (∀ c o, c ≠ x → hp.get? c = some o → h'.get? c = some o) → hp.objs.size ≤ dx → dx ≠ x → h'.get? x = some { cls := .ref C, dict := some dx, data := .fields fv } → h'.Ns1 dx (fun y => if y = name then some v else none) → R (.ok (.ret .none)) ⟨h', g, d, tk', os⟩) :
    codeAny (model prog w) A (.call (.builtin "object.__setattr__") ⟨[.ref x, .str name tk, v], []⟩) R ⟨hp, g, d, t, os⟩ := by
  obtain ⟨nm, q, N, bs, bm, sn, sub, ab, col, dd, k0, k1, k2, k3, k5, hC, hbm⟩ := T.lk
  have hcl : PySem.W.clsIn K C = some { name := nm, bases := bs, mro := .ref C :: bm, ns := N, qualname := q, hasDict := true, slotNames := sn, subclasses := sub, abstract := ab, collection := col, hasDel := false } := by unfold PySem.W.clsIn; rw [hC] <;> rfl
  have over : PySem.W.excOver K C tail = true := by
    unfold PySem.W.excOver
    rw [hcl]
    show (C == C && PySem.W.excTail tail bm) = true
    rw [hbm, beq_self_eq_true]
    rfl
  have tkr : PySem.W.takerIn K C name = some none := by
    unfold PySem.W.takerIn
    rw [hno]
    rfl
  have apart : x ≠ hp.objs.size := Nat.ne_of_lt (Heap.lt_size hx)
  have inst : PySem.W.InstAt hp x { cls := .ref C, data := .fields fv } C none := ⟨hx, rfl, rfl, trivial⟩
  refine PySem.W.osa_openX (s := ⟨hp, g, d, t, os⟩) b.st X inst over tkr fun fl => ?_
  have lc : PySem.W.Looks (model prog w) hp (classData C) { name := nm, bases := bs, mro := .ref C :: bm, ns := N, qualname := q, hasDict := true, slotNames := sn, subclasses := sub, abstract := ab, collection := col, hasDel := false } := PySem.W.looks_clsIn X hcl
  show wpAny _ _ (storeInOwnDict (.ref x) (.ref C) (.str name tk) name v fl) _ _ _
  unfold storeInOwnDict ownDictForStores
  repeat (first | with_reducible refine PySem.HandSPX.store_in_new ?_ ?_ | with_reducible refine wpAny_loadPart_at hx ?_ | with_reducible refine lc.at ?_ | wp_step)
  · exact ⟨_, #[], _, (Heap.get?_update_ne _ _ _ _ apart.symm).trans (Heap.get?_push_at rfl rfl), rfl, fun e he => absurd he (by simp), fun _ => rfl⟩
  · intro h' tk' hn' sb
    have there : (hp.push { cls := .type "dict", data := .dict #[] }).get? x = some { cls := .ref C, data := .fields fv } := Heap.get?_push_of_some _ hx
    refine hq h' tk' hp.objs.size (fun c o hc ho => ?_) (Nat.le_refl _) apart.symm ?_ hn'
    · exact (sb.2 c (Nat.ne_of_lt (Heap.lt_size ho))).trans ((Heap.get?_update_ne _ _ _ _ hc).trans (Heap.get?_push_of_some _ ho))
    · exact (sb.2 x apart).trans (Heap.get?_update_self _ there rfl)
end
section
variable {X : Cx} {pins : List (Addr × Obj)} {σ : L2.St} {H : Hp} {s : Shared} {a C : Addr} {B nw ini : String} {tail : List Value}
/-- the heap behind self.f = y -/
abbrev afterSt (H : Hp) (a C dx : Addr) (f : Str) (y : V) : Hp := L2.upd (L2.upd H dx (.xd [(f, y)])) a (exo a C (some dx))
theorem xo_store {f : Str} {y : V} {u : Value} {Q : Unit → Shared → Prop} {E : Value → Shared → Prop} {A : Around} (b : XB B nw ini tail) (T : XCl X.K C nw tail) (I : Inv X pins σ H s) (e : H a = some (exo a C none)) (free : PySem.W.findIn X.K (.ref C) f = some none) (ry : RelV y u)
    (h : ∀ dx s', H dx = none → dx ≠ a → Inv X pins σ (afterSt H a C dx f y) s' → Q () s') : wpAny (model X.prog X.w) A (setAttr (.ref a) f u) Q E s := by
  obtain ⟨t1, at_⟩ := exo_at I.hok e
  obtain ⟨hp, g, d, t, os⟩ := s
  refine PySem.W.set_plain I.kIn (ox := { cls := .ref C, dict := none, data := .fields #[.ref t1, .none, .none, .none, .bool false, .none] }) (od := none) ⟨at_, rfl, rfl, trivial⟩ T.sto ?_
  refine xo_first b T I.kIn at_ free fun h' tk' dx old low ne hx hn => ?_
  have new : H dx = none := I.hok.fresh low
  have nd : ∀ {c : Addr} {o : Obj}, hp.get? c = some o → c ≠ dx := fun {_ _} z => Nat.ne_of_lt (Nat.lt_of_lt_of_le (Heap.lt_size z) low)
  have na : ∀ {c : Addr}, H c = none → c ≠ a := fun {c} n z => by
    subst z
    rw [e] at n
    cases n
  have grow : Un X.fs [] H (afterSt H a C dx f y) hp h' := {
    keep := fun c o z n _ _ => old c o (na n) z
    slot := fun c o z n _ _ => ⟨o.slots, old c o (na n) z⟩
    free := fun c o z n _ => by unfold afterSt; rw [upd_ne (na n), upd_ne (nd z)]; exact n
    there := fun c o z _ => by
      by_cases hc : c = a
      · subst hc; exact ⟨_, hx⟩
      · exact ⟨o, old c o hc z⟩
    tups := fun c xs z => by unfold afterSt; rw [upd_ne (L2.at_ne e z exo_tup), upd_ne (ne_of_none z new)]; exact z
    frzs := fun c o v z => by unfold afterSt; rw [upd_ne (L2.at_ne e z exo_frz), upd_ne (ne_of_none z new)]; exact z
    tbls := fun c ps z => ⟨#[], by unfold afterSt; rw [upd_ne (L2.at_ne e z exo_tbl), upd_ne (ne_of_none z new), z]; simp⟩ }
  refine h dx _ new ne (I.un (t' := tk') grow fun c o z => ?_)
  unfold afterSt at z ⊢
  by_cases hc : c = a
  · subst hc
    rw [upd_same] at z
    cases z
    exact exo_ok hx
  · rw [upd_ne hc] at z
    by_cases hd : c = dx
    · subst hd
      rw [upd_same] at z
      cases z
      exact ⟨_, hn, relO_put (fs := []) ry fun _ => True.intro⟩
    · rw [upd_ne hd] at z
      have own : ∀ x, H x = some (.own c) → L2.upd (L2.upd H dx (.xd [(f, y)])) a (exo a C (some dx)) x = some (.own c) := fun x hx => by
        rw [upd_ne (L2.at_ne e hx exo_own), upd_ne (ne_of_none hx new)]; exact hx
      have tps : ∀ x xs, H x = some (.tup xs) → L2.upd (L2.upd H dx (.xd [(f, y)])) a (exo a C (some dx)) x = some (.tup xs) := fun x xs hx => by
        rw [upd_ne (L2.at_ne e hx exo_tup), upd_ne (ne_of_none hx new)]; exact hx
      refine (I.hok c o z).stay (fun x v hx q => old x v ?_ q) own tps
      rcases hx with rfl | hx
      · exact hc
      · exact L2.at_ne e hx exo_own
/-- B.__init__(self, ..): nothing of it is told -/
theorem xo_init {us : List Value} {Q : Value → Shared → Prop} {E : Value → Shared → Prop} {A : Around} (b : XB B nw ini tail) (T : XCl X.K C nw tail) (I : Inv X pins σ H s) (e : H a = some (exo a C none)) (hl : us.length ≤ sizeLine) (h : ∀ s', Inv X pins σ H s' → Q .none s') :
    wpAny (model X.prog X.w) A (call (.builtin ini) (.ref a :: us)) Q E s := by
  obtain ⟨nm, q, N, bs, bm, sn, sub, ab, col, dd, k0, k1, k2, k3, k5, hC, hT⟩ := xcl_data T
  obtain ⟨t1, at_⟩ := exo_at I.hok e
  obtain ⟨hp, g, d, t, os⟩ := s
  refine wpAny_call (xk_init b.ini_ (by rw [hT]; exact b.own_) (I.kIn _ _ hC) at_ hl fun h' t2 old hx => ?_)
  have J := I.write (t' := t) (x := a) (e := a) (o := exo a C none) (by rw [e]; exact True.intro) (.inl rfl) old ⟨_, hx⟩ (exo_ok hx)
  have same : L2.upd H a (exo a C none) = H := funext fun c => by
    by_cases hc : c = a
    · subst hc; rw [upd_same, e]
    · rw [upd_ne hc]
  rw [same] at J
  exact h _ J
end
end Fc

set_option Elab.async false
set_option linter.all false
set_option maxRecDepth 100000
set_option maxHeartbeats 4000000
/-! Fec: exceptions as values, in the data layer. -/
namespace Fc
open PySem PySem.Spec PySem.Calls PyProof.Rows L2
open PySem.HandSPX (excO)
section
variable {w : World} {K : PySem.W.Frag} {mg : Str → Option Value} {ι : Nat → Addr} {g : G} {H : Hp}
/-- a new exception -/
theorem Nx.newX {a C : Addr} {c : Str} (r : Rep w K mg ι H g) (ha : H a = none) (hc : mg c = some (.ref C)) : Nx w K mg ι g H (ix ι g.length a) (g ++ [.exn c []]) (L2.upd H a (exo a C none)) :=
  Nx.new r ha ⟨C, none, hc, upd_same, .inl ⟨rfl, rfl⟩⟩
/-- its first field -/
theorem Nx.setX {m : Nat} {c : Str} {C dx : Addr} {f : Str} {y : D} {v : V} (r : Rep w K mg ι H g) (e : g[m]? = some (.exn c [])) (hc : mg c = some (.ref C)) (ha : H (ι m) = some (exo (ι m) C none)) (hd : H dx = none) (hne : dx ≠ ι m) (ry : RV K ι g.length H y v) :
    Nx w K mg ι g H ι (g.set m (.exn c [(f, y)])) (afterSt H (ι m) C dx f v) := by
  have y1 := Nx.newU (u := .xd [(f, v)]) r hd
  have ha1 : L2.upd H dx (.xd [(f, v)]) (ι m) = some (exo (ι m) C none) := by rw [upd_ne hne.symm]; exact ha
  have pr : Pres (L2.upd H dx (.xd [(f, v)])) (afterSt H (ι m) C dx f v) := Pres.mut ha1 (fun _ z => exo_tup z) (fun _ _ z => exo_frz z) (fun x b z => beside_exn b z.symm)
  have at_ : afterSt H (ι m) C dx f v dx = some (.xd [(f, v)]) := by
    unfold afterSt
    rw [upd_ne hne]
    exact upd_same
  have rk : RKs K ι g.length (afterSt H (ι m) C dx f v) [(f, y)] [(f, v)] := .cons ((ry.nx y1).mono (fun _ _ => rfl) (Nat.le_refl _) fun _ _ h => pr.sq h) .nil
  exact y1.trans (Nx.upd y1.rep e pr ⟨C, some dx, hc, upd_same, .inr ⟨by simp, dx, _, rfl, at_, rk⟩⟩)
/-- a new exception without a field yet -/
def exn0 (d : D) (g : G) : Option (Nat × Str) := match d with
  | .ref m => match g[m]? with
    | some (.exn c []) => some (m, c)
    | _ => none
  | _ => none
theorem exn0_ok {d : D} {v : V} {m : Nat} {c : Str} (rp : Rep w K mg ι H g) (r : RV K ι g.length H d v) (h : exn0 d g = some (m, c)) : d = .ref m ∧ v = .ref (ι m) ∧ g[m]? = some (.exn c []) ∧ ∃ C, mg c = some (.ref C) ∧ H (ι m) = some (exo (ι m) C none) := by
  cases r with
  | @ref k hk =>
    simp only [exn0] at h
    split at h
    · rename_i c' e
      cases h
      refine ⟨rfl, rfl, e, ?_⟩
      obtain ⟨C, dd, hc, ha, q⟩ := rp.obj _ _ e
      rcases q with ⟨_, rfl⟩ | ⟨ne, _⟩
      · exact ⟨C, hc, ha⟩
      · exact absurd rfl ne
    · cases h
  | _ => cases h
/-- an exception: its class's name and its fields -/
def exnD (d : D) (g : G) : Option (Str × List (Str × D)) := match d with
  | .ref m => match g[m]? with
    | some (.exn c fs) => some (c, fs)
    | some (.exv c fs) => some (c, fs)
    | _ => none
  | _ => none
end
/-- own says of which classes the fact is known -/
def OwnX (K : PySem.W.Frag) (mg : Str → Option Value) (nw : String) (tail : List Value) (own : Str → Bool) : Prop := ∀ c C, own c = true → mg c = some (.ref C) → XCl K C nw tail
def fXini (own : Str → Bool) (fr : Ev → G → Re (List D)) : Ev → G → Re D := fun ρ g => (fr ρ g).bind fun ds g1 => match ds with
  | d :: rest => (match exn0 d g1 with
    | some (_, c) => if own c = true ∧ rest.length ≤ 1000 then .ok .non g1 else .bad
    | none => .bad)
  | [] => .bad
def sXfld (own : Str → Bool) (f : Str) (fv fo : Ev → G → Re D) : Ev → G → Rs := fun ρ g => (fv ρ g).st ρ fun y g1 => (fo ρ g1).st ρ fun d g2 => match exn0 d g2 with
  | some (m, c) => if own c = true then .nx ρ (g2.set m (.exn c [(f, y)])) else .bad
  | none => .bad
section
variable {X : Cx} {W : WX} {pos pos' p p1 p2 : Pos} {o e value : Expr} {es : List Expr} {f x : Str} {fo fv : Ev → G → Re D} {fr : Ev → G → Re (List D)} {own : Str → Bool} {B nw ini : String} {tail : List Value}
theorem fe_xini {pl : Sem Bool} (own : Str → Bool) (b : XB B nw ini tail) (hX : OwnX X.K X.mg nw tail own) (hm : X.mg x = none) (hT : bootBuiltins x = some (.type B)) (vV : PySem.W.findCls X.K (.type B) (.type "type") "__init__" = some (.val (.builtin ini))) (hs : Manifest.isStub B = false) (hhi : PySem.W.handedIn (.builtin ini) = true) (ha : FA X W (e :: es) fr)
    (hg : Gl X x := by rfl) (hn : x ≠ "__name__" := by decide) (hd : (x == ("__debug__" : Str)) = false := by decide)
    (hc : eval (.Call (.Attribute (.Name x p1) "__init__" p2) (e :: es) [] pos) X.env = (do
      let ov ← eval (.Name x p1) X.env
      standAt p2.atName
      let (f, first) ← holding [ov] (getMethod ov "__init__" pl)
      callWith pos f first (backTo pos (starEach (e :: es) X.env)) (backToKw pos (keywordEach [] X.env))) := by rfl)
    (he : starEach (e :: es) X.env = (false, eval e X.env) :: starEach es X.env := by rfl) (hpl : (backTo pos (starEach es X.env)).any (·.1) = false := by rfl) :
    FE X W (.Call (.Attribute (.Name x p1) "__init__" p2) (e :: es) [] pos) (fXini own fr) := by
  refine ⟨fun pins s σ H Q I ⟨ι, ρ, g, rp, re, h⟩ => ?_⟩
  refine PySem.W.methodCall_KW (ld_blt I hg hm hT ?_ hn hd) hc
  obtain ⟨m, fr'⟩ := I.fr
  refine PySem.W.method_type fr' I.ok.mod.kin b.meta_ hs vV hhi ?_
  show wpAny _ _ (callWith pos (Value.builtin ini) [] (backTo pos (starEach (e :: es) X.env)) []) _ _ _
  have I2 := I.tok (s.toks + 1)
  have ha' := ha.run pos pins _ σ H (fun vs H1 => ∃ (a C : Addr) (ws : List V), vs = .ref a :: ws ∧ ws.length ≤ 1000 ∧ XCl X.K C nw tail ∧ H1 a = some (exo a C none) ∧ Q .non H1) I2 ⟨ι, ρ, g, rp, re, h.bind fun ds g1 ι1 H1 vs y q k => by
    cases q with
    | nil => exact k.elim
    | cons q1 q2 =>
      dsimp only at k
      split at k
      · rename_i m c e0
        split at k
        · rename_i hh
          obtain ⟨_, ev, _, C, hc, hA⟩ := exn0_ok y.rep q1 e0
          subst ev
          exact ⟨_, C, _, rfl, by rw [q2.length]; exact hh.2, hX c C hh.1 hc, hA, k.ok (.refl y.rep) .non⟩
        · exact k.elim
      · exact k.elim⟩
  refine PyProof.Rows.callWith_method1 (thn ha' fun us s1 ⟨vs, H1, I1, r1, a, C, ws, ev, hl, T, ea, q⟩ => ?_) he hpl
  subst ev
  cases r1 with
  | @cons _ u0 _ ur ra rw' =>
    obtain rfl : u0 = Value.ref a := ra
    have hlen : ur.length ≤ sizeLine := by
      rw [← Paired.length rw', sizeLine_eq]
      omega
    exact xo_init b T I1 ea hlen fun s' J => ⟨.non, H1, J, rfl, q⟩
theorem fs_xfld (own : Str → Bool) (b : XB B nw ini tail) (hX : OwnX X.K X.mg nw tail own) (hno : ∀ c C, own c = true → X.mg c = some (.ref C) → PySem.W.findIn X.K (.ref C) f = some none) (hv : FE X W value fv) (ho : FE X W o fo)
    (hs : swapsWith value (some (.Attribute o f pos')) pos.line X.env = pure false := by rfl) : FS X W (.Assign [.Attribute o f pos'] value pos) (sXfld own f fv fo) := by
  refine ⟨fun pins s σ H Z I ⟨ι, ρ, g, rp, re, h⟩ => ?_⟩
  have hv' := hv.run pins s σ H (fun v H1 => ∃ ι1 ρ1 g1 y, Rep X.w X.K X.mg ι1 H1 g1 ∧ REnv X.K ι1 g1.length H1 ρ1 σ ∧ RV X.K ι1 g1.length H1 y v ∧ Sc X.w X.K X.mg W Z H1 ι1 g1 ((fo ρ1 g1).st ρ1 fun d g2 => match exn0 d g2 with
    | some (m, c) => if own c = true then .nx ρ1 (g2.set m (.exn c [(f, y)])) else .bad
    | none => .bad)) I ⟨ι, ρ, g, rp, re, h.st re fun y g1 ι1 H1 w1 y1 q1 k1 => ⟨ι1, ρ, g1, y, y1.rep, re.nx y1, q1, k1⟩⟩
  refine plainObj_wpAny_Assign_Attribute (thn hv' ?_) hs
  · rintro u s1 ⟨v, H1, I1, rv, ι1, ρ1, g1, y, rp1, re1, q1, k1⟩
    have ho' := ho.run pins s1 σ H1 (fun x H2 => ∃ ι2 ρ2 g2 m c C v2, Rep X.w X.K X.mg ι2 H2 g2 ∧ REnv X.K ι2 g2.length H2 ρ2 σ ∧ RV X.K ι2 g2.length H2 y v2 ∧ v2 = v ∧ x = .ref (ι2 m) ∧ g2[m]? = some (.exn c []) ∧ X.mg c = some (.ref C) ∧ H2 (ι2 m) = some (exo (ι2 m) C none) ∧ own c = true ∧
      Sc X.w X.K X.mg W Z H2 ι2 g2 (.nx ρ2 (g2.set m (.exn c [(f, y)])))) I1 ⟨ι1, ρ1, g1, rp1, re1, k1.st re1 fun d g2 ι2 H2 v2 y2 q2 k2 => by
        split at k2
        · rename_i m c e0
          obtain ⟨_, ev, eg, C, hc, hA⟩ := exn0_ok y2.rep q2 e0
          split at k2
          · rename_i hw
            exact ⟨ι2, ρ1, g2, m, c, C, v, y2.rep, re1.nx y2, q1.nx y2, rfl, ev, eg, hc, hA, hw, k2⟩
          · exact k2.elim
        · exact k2.elim⟩
    refine thn ho' fun ov s2 ⟨x, H2, I2, rx, ι2, ρ2, g2, m, c, C, v2, rp2, re2, q2, e2, ex, eg, hc, hA, hw, k2⟩ => ?_
    subst ex e2
    obtain rfl : ov = Value.ref (ι2 m) := rx
    exact xo_store b (hX c C hw hc) I2 hA (hno c C hw hc) rv fun dx s' hd hne J => ⟨σ, _, J, by
      have ys := Nx.setX (f := f) rp2 eg hc hA hd hne q2
      exact k2 ι2 _ σ ys (re2.nx ys)⟩
end

/-! ### C(..), an own exception class -/
structure TabX (P : Program) (w : World) (K : PySem.W.Frag) (mg : Str → Option Value) (base : Heap) (k : Nat) (x : Str) (ks : List Str) (φ : Fun2) : Prop where
  ex : ∃ C f B nw ini tail, mg x = some (.ref C) ∧ XB B nw ini tail ∧ XCl K C nw tail ∧ PySem.W.findIn K (.ref C) "__init__" = some (some (.ref f)) ∧ PySem.W.typeIn K (.ref f) = some (.type "function") ∧ CallF P w K mg base k f ks φ
def newX (x : Str) (φ : Fun2) (ds es : List D) (g : G) : Re D := if ds.length ≤ 1000 then (φ (.ref g.length :: ds) es (g ++ [.exn x []])).bind fun d g1 => match d with
  | .non => .ok (.ref g.length) g1
  | _ => .bad else .bad
section
variable {X : Cx} {W : WX} {k : Nat} {f C : Addr} {ks : List Str} {φ : Fun2} {x : Str} {p pos kpos : Pos} {e : Expr} {es : List Expr} {kws : List Keyword} {fr fk : Ev → G → Re (List D)}
theorem run_newX {pins : List (Addr × Obj)} {σ : L2.St} {H : Hp} {s : Shared} {Q : VK} {us ws : List Value} {vs zs : List V} {ι : Nat → Addr} {g : G} {ds es : List D} {B nw ini : String} {tail : List Value} (hc : X.mg x = some (.ref C)) (b : XB B nw ini tail) (T : XCl X.K C nw tail) (iC : PySem.W.findIn X.K (.ref C) "__init__" = some (some (.ref f))) (tI : PySem.W.typeIn X.K (.ref f) = some (.type "function"))
    (F : CallF X.prog X.w X.K X.mg X.base k f ks φ) (hr : Room (k + 1) X.A) (tk : Takes X W)
    (I : Inv X pins σ H s) (r : Vals vs us) (rz : Vals zs ws) (hl : ws.length = ks.length) (rp : Rep X.w X.K X.mg ι H g) (rd : RVs X.K ι g.length H ds vs) (rs : RVs X.K ι g.length H es zs) (h : Tc X.w X.K X.mg (RV X.K) W σ H ι g (newX x φ ds es g) Q) :
    wpAny (model X.prog X.w) X.A (call (.ref C) us (ks.zip ws)) (EP X pins σ Q) X.xe s := by
  unfold newX at h
  split at h
  case isFalse => exact h.elim
  rename_i hds
  obtain ⟨nm, q, N, bs, bm, sn, sub, ab, col, dd, k0, k1, k2, k3, k5, hC, hT⟩ := xcl_data T
  obtain ⟨hp, gg, dr, tk', os⟩ := s
  have hsz : hp.objs.size ≤ hp.objs.size + 1 := Nat.le_succ _
  have hn : H (hp.objs.size + 1) = none := I.hok.fresh hsz
  have kk : ∀ c o, hp.get? c = some o → ((hp.push (PySem.W.kdv_tup us)).push (excO C hp.objs.size)).get? c = some o := fun c o z => Heap.get?_push_of_some _ (Heap.get?_push_of_some _ z)
  have hget : ((hp.push (PySem.W.kdv_tup us)).push (excO C hp.objs.size)).get? (hp.objs.size + 1) = some (excO C hp.objs.size) := by heap_get
  have I2 : Inv X pins σ (upd H (hp.objs.size + 1) (exo (hp.objs.size + 1) C none)) ⟨(hp.push (PySem.W.kdv_tup us)).push (excO C hp.objs.size), gg, dr, tk', os⟩ :=
    I.laid (t' := tk') (a := hp.objs.size + 1) (o := exo (hp.objs.size + 1) C none) (h' := (hp.push (PySem.W.kdv_tup us)).push (excO C hp.objs.size)) kk hsz (exo_ok hget)
  have y := Nx.newX (a := hp.objs.size + 1) rp hn hc
  have r1 : Vals (V.ref (hp.objs.size + 1) :: vs) (Value.ref (hp.objs.size + 1) :: us) := .cons rfl r
  have rself : RV X.K (ix ι g.length (hp.objs.size + 1)) (g ++ [O.exn x []]).length (upd H (hp.objs.size + 1) (exo (hp.objs.size + 1) C none)) (.ref g.length) (.ref (hp.objs.size + 1)) := ref_new
  have hsp : spK X.w X.K X.mg φ (V.ref (hp.objs.size + 1) :: vs) zs (upd H (hp.objs.size + 1) (exo (hp.objs.size + 1) C none)) (fun v H3 => v = .non ∧ Q (.ref (hp.objs.size + 1)) H3) (WE W σ) := by
    refine ⟨_, _, .ref g.length :: ds, es, y.rep, .cons rself (rd.nx y), rs.nx y, ?_⟩
    have h1 := Tc.base y h
    cases e : φ (.ref g.length :: ds) es (g ++ [.exn x []]) with
    | ok d g1 =>
      rw [e] at h1
      intro ι' H' v y' rv
      cases rv with
      | non =>
        refine ⟨rfl, ?_⟩
        have z := h1 ι' H' (.ref (hp.objs.size + 1)) y'
        have hm : ι' g.length = hp.objs.size + 1 := by rw [y'.agr _ (by simp), ix_same]
        have q : RV X.K ι' g1.length H' (.ref g.length) (.ref (ι' g.length)) := .ref (Nat.lt_of_lt_of_le (by simp) y'.len)
        rw [hm] at q
        exact z q
      | _ => exact h1.elim
    | ex c fs g1 => rw [e] at h1; exact h1
    | bad => rw [e] at h1; exact h1
  have hus : us.length ≤ sizeLine := by
    rw [← r.length, rd.length, sizeLine_eq]
    omega
  obtain ⟨N', i0, t0, FN, hN⟩ := b.make_
  refine wpAny_call (xk_call FN (by rw [hT]; exact hN) (by rw [hT]; exact b.notA) (by rw [hT]; exact b.notN) (I.kIn _ _ hC) hus (PySem.W.looks_findIn I.kIn iC) (fun o => PySem.W.bind_fn I.kIn o tI) (codeAny_mono (F _ X.stack _ _ (Value.ref (hp.objs.size + 1) :: us) ws _ _ _ (WE W σ) (hr.make C us (ks.zip ws))
    (I2.env0.make C us (ks.zip ws)) r1 rz hl hsp) fun r s' hq' => ?_))
  cases r with
  | error e => exact passAt tk σ pins _ _ e s' I2 hq'
  | ok fl =>
    cases fl with
    | ret u =>
      obtain ⟨v, H', I3, rv, ev, q3⟩ := I2.after hq'
      subst ev
      exact ⟨rv, ⟨V.ref (hp.objs.size + 1), H', I3, rfl, q3⟩⟩
    | next => exact False.elim hq'
    | brk => exact False.elim hq'
    | cont => exact False.elim hq'
def fMakeX (x : Str) (φ : Fun2) (fr fk : Ev → G → Re (List D)) : Ev → G → Re D := fCallK (newX x φ) fr fk
theorem fe_makeX (T : TabX X.prog X.w X.K X.mg X.base k x [] φ) (hr : Room (k + 1) X.A) (tk : Takes X W) (ha : FA X W (e :: es) fr) (hg : Gl X x := by rfl) (hdb : (x == ("__debug__" : Str)) = false := by decide)
    (he : starEach (e :: es) X.env = (false, eval e X.env) :: starEach es X.env := by rfl) (hpl : (backTo pos (starEach es X.env)).any (·.1) = false := by rfl) : FE X W (.Call (.Name x p) (e :: es) [] pos) (fMakeX x φ fr fNil) := by
  obtain ⟨C, f, B, nw, ini, tail, hm, b, M, iC, tI, F⟩ := T.ex
  refine ⟨fun pins s σ H Q I ⟨ι, ρ, g, rp, re, h⟩ => ?_⟩
  refine wpAny_Call_Name_kw (ld_glob I hg hm ?_ hdb)
  have ha' := ha.run pos pins s σ H (fun vs H1 => ∃ ι1 g1 ds, Rep X.w X.K X.mg ι1 H1 g1 ∧ RVs X.K ι1 g1.length H1 ds vs ∧ Tc X.w X.K X.mg (RV X.K) W σ H1 ι1 g1 (newX x φ ds [] g1) Q) I ⟨ι, ρ, g, rp, re, h.bind fun ds g1 ι1 H1 vs y q k => ⟨ι1, g1, ds, y.rep, q, k⟩⟩
  refine PySem.W.callWith_K (h₀ := X.base) I.ok.mod.kin M.kp (thn ha' fun us s1 ⟨vs, H1, I1, r, ι1, g1, ds, rp1, q, k⟩ => ⟨I1.kIn, ?_⟩) he hpl
  exact run_newX (ws := []) hm b M iC tI F hr tk I1 r .nil rfl rp1 q .nil k
theorem fe_makeXK (T : TabX X.prog X.w X.K X.mg X.base k x ks φ) (hr : Room (k + 1) X.A) (tk : Takes X W) (hkw : FK X W kws ks.length fk) (hg : Gl X x := by rfl) (hdb : (x == ("__debug__" : Str)) = false := by decide)
    (hall : (backToKw pos (keywordEach kws X.env)).all (·.1.isSome) = true := by rfl) (hks : (backToKw pos (keywordEach kws X.env)).filterMap (·.1) = ks := by rfl)
    (hpl : ((backTo pos (starEach [] X.env)).any (·.1) || (backToKw pos (keywordEach kws X.env)).any (·.1.isNone)) = false := by rfl) : FE X W (.Call (.Name x p) [] kws pos) (fMakeX x φ fNil fk) := by
  obtain ⟨C, f, B, nw, ini, tail, hm, b, M, iC, tI, F⟩ := T.ex
  refine ⟨fun pins s σ H Q I ⟨ι, ρ, g, rp, re, h⟩ => ?_⟩
  refine wpAny_Call_Name_kw (ld_glob I hg hm ?_ hdb)
  have h : Tc X.w X.K X.mg (RV X.K) W σ H ι g ((fk ρ g).bind fun es g2 => newX x φ [] es g2) Q := h
  have hk' := hkw.1.run pos pins s σ H (fun zs H1 => zs.length = ks.length ∧ ∃ ι1 g1 es, Rep X.w X.K X.mg ι1 H1 g1 ∧ RVs X.K ι1 g1.length H1 es zs ∧ Tc X.w X.K X.mg (RV X.K) W σ H1 ι1 g1 (newX x φ [] es g1) Q) I ⟨ι, ρ, g, rp, re, by
    cases e1 : fk ρ g with
    | ok es' g2 =>
      rw [e1] at h
      exact fun ι2 H2 zs y2 q2 => ⟨by rw [q2.length]; exact hkw.2 _ _ _ _ e1, ι2, g2, es', y2.rep, q2, Tc.base y2 h⟩
    | ex c fs g2 => rw [e1] at h; exact h
    | bad => rw [e1] at h; exact h⟩
  refine PySem.W.callWith_KW0 (h₀ := X.base) I.ok.mod.kin M.kp hall (thn hk' fun ws s2 ⟨zs, H2, I2, rz, l2, ι1, g1, es, rp1, q, k⟩ => ⟨I2.kIn, ?_⟩) hpl
  rw [hks]
  exact run_newX (us := []) (vs := []) hm b M iC tI F hr tk I2 .nil rz (by rw [← rz.length]; exact l2) rp1 .nil q k
/-- a class without an own __init__ -/
structure TabY (K : PySem.W.Frag) (mg : Str → Option Value) (x : Str) : Prop where
  ex : ∃ C B nw ini tail, mg x = some (.ref C) ∧ PySem.ExcBaseFacts B nw ini tail ∧ PySem.W.excIn K C tail nw = true ∧ PySem.W.keepIn K (.ref C) = true
def fMakeY (x : Str) : Ev → G → Re D := fun _ g => .ok (.ref g.length) (g ++ [.exn x []])
theorem fe_makeY (T : TabY X.K X.mg x) (hg : Gl X x := by rfl) (hdb : (x == ("__debug__" : Str)) = false := by decide) : FE X W (.Call (.Name x p) [] [] pos) (fMakeY x) := by
  obtain ⟨C, B, nw, ini, tail, hm, F, q, kp⟩ := T.ex
  refine ⟨fun pins s σ H Q I ⟨ι, ρ, g, rp, re, h⟩ => ?_⟩
  refine wpAny_Call_Name_kw (ld_glob I hg hm ?_ hdb)
  refine PySem.W.callWith_K0 I.kIn kp ?_
  show wpAny _ _ (call (.ref C) []) _ _ _
  obtain ⟨bm, N, nm, qn, bs, hdct, sn, sub, ab, col, dd, k0, k1, k2, k3, k5, mN, hC, hN, hni, T⟩ := exc_obj I.kIn q
  refine wpAny_call_exc_subT F T hC hN hni (fun h' a hm' => ?_) (by show 0 ≤ sizeLine; omega)
  have hn : H a = none := I.hok.gone hm'.new
  obtain ⟨t, ht, _, _⟩ := hm'.there
  have y := Nx.newX (c := x) rp hn hm
  refine ⟨.ref a, upd H a (exo a C none), I.laidN hm'.keeps hm'.new hn (exo_ok ht), rfl, h _ _ _ y ?_⟩
  exact ref_new
end
end Fc

set_option Elab.async false
set_option linter.all false
set_option maxRecDepth 100000
set_option maxHeartbeats 4000000
/-! Fed: isinstance of an exception, its fields; str, repr of data of any kind; xs.count, xs.index, xs.insert. -/
namespace Fc
open PySem PySem.Spec PySem.Calls PyProof.Rows L2
/-- an exception on the abstract heap -/
def XH (H : Hp) (a C : Addr) (dd : Option Addr) : Prop := (H a = some (exo a C dd) ∨ H a = some (exvO C dd a)) ∧ (dd = none ∨ ∃ dx fvs, dd = some dx ∧ H dx = some (.xd fvs))
theorem xh_of {w : World} {K : PySem.W.Frag} {mg : Str → Option Value} {ι : Nat → Addr} {g : G} {H : Hp} {d : D} {v : V} {c : Str} {fs : List (Str × D)} (rp : Rep w K mg ι H g) (r : RV K ι g.length H d v) (h : exnD d g = some (c, fs)) :
    ∃ a C dd, v = .ref a ∧ mg c = some (.ref C) ∧ XH H a C dd ∧ ((fs = [] ∧ dd = none) ∨ ∃ dx fvs, dd = some dx ∧ H dx = some (.xd fvs) ∧ RKs K ι g.length H fs fvs) := by
  cases r with
  | @ref k hk =>
    simp only [exnD] at h
    split at h
    · rename_i c' fs' e
      cases h
      obtain ⟨C, dd, hc, ha, q⟩ := rp.obj _ _ e
      rcases q with ⟨h1, h2⟩ | ⟨_, dx, fvs, h1, h2, h3⟩
      · exact ⟨_, C, dd, rfl, hc, ⟨.inl ha, .inl h2⟩, .inl ⟨h1, h2⟩⟩
      · exact ⟨_, C, dd, rfl, hc, ⟨.inl ha, .inr ⟨dx, fvs, h1, h2⟩⟩, .inr ⟨dx, fvs, h1, h2, h3⟩⟩
    · rename_i c' fs' e
      cases h
      obtain ⟨C, dd, hc, ha, q⟩ := rp.obj _ _ e
      rcases q with ⟨h1, h2⟩ | ⟨dx, fvs, h1, h2, h3⟩
      · exact ⟨_, C, dd, rfl, hc, ⟨.inr ha, .inl h2⟩, .inl ⟨h1, h2⟩⟩
      · exact ⟨_, C, dd, rfl, hc, ⟨.inr ha, .inr ⟨dx, fvs, h1, h2⟩⟩, .inr ⟨dx, fvs, h1, h2, h3⟩⟩
    · cases h
  | _ => cases h
theorem xh_obj {X : Cx} {pins : List (Addr × Obj)} {σ : L2.St} {H : Hp} {s : Shared} {a C : Addr} {dd : Option Addr} (I : Inv X pins σ H s) (x : H a = some (exo a C dd) ∨ H a = some (exvO C dd a)) : ∃ o, s.heap.get? a = some o ∧ o.cls = .ref C ∧ PySem.W.notCls o = true ∧ o.dict = dd := by
  obtain ⟨o, vs, h1, h2, h3, h4⟩ : ∃ (o : Obj) (vs : Array Value), s.heap.get? a = some o ∧ o.cls = .ref C ∧ o.dict = dd ∧ o.data = .fields vs := by
    rcases x with e | e
    · obtain ⟨t1, ho⟩ := exo_at I.hok e
      exact ⟨_, _, ho, rfl, rfl, rfl⟩
    · have z : ObjOk X.prog X.w H s.heap a (.ext fun h => ∃ (o : Obj) (vs : Array Value), h.get? a = some o ∧ o.cls = .ref C ∧ o.dict = dd ∧ o.data = .fields vs) := I.hok a _ e
      exact z.1
  exact ⟨o, h1, h2, by unfold PySem.W.notCls; rw [h4] <;> rfl, h3⟩
theorem xh_dict {X : Cx} {pins : List (Addr × Obj)} {σ : L2.St} {H : Hp} {s : Shared} {dx : Addr} {fvs : List (Str × V)} (I : Inv X pins σ H s) (hx : H dx = some (.xd fvs)) : ∃ od, s.heap.get? dx = some od ∧ ∀ f v, fvs.lookup f = some v → ∃ u, RelV v u ∧ PySem.W.lookIn f od = some (some u) := by
  have z : ObjOk X.prog X.w H s.heap dx (.xd fvs) := I.hok dx _ hx
  obtain ⟨mA, hns, hr⟩ := z
  obtain ⟨od, ho, hl⟩ := lookIn_ns hns
  refine ⟨od, ho, fun f v l => ?_⟩
  obtain ⟨u, hu, ru⟩ := RelO.some_of (v := v) (o := mA f) (by rw [← l]; exact hr f)
  exact ⟨u, ru, by rw [hl, hu]⟩
theorem xh_inst {X : Cx} {pins : List (Addr × Obj)} {σ : L2.St} {H : Hp} {s : Shared} {a C : Addr} {dd : Option Addr} (I : Inv X pins σ H s) (x : XH H a C dd) : ∃ o od, PySem.W.InstAt s.heap a o C od := by
  obtain ⟨o, h1, h2, nc, h3⟩ := xh_obj I x.1
  rcases x.2 with rfl | ⟨dx, fvs, rfl, hx⟩
  · exact ⟨o, none, ⟨h1, h2, nc, by rw [h3]; trivial⟩⟩
  · obtain ⟨od, ho, _⟩ := xh_dict I hx
    exact ⟨o, some od, ⟨h1, h2, nc, by rw [h3]; exact ho⟩⟩
/-- isinstance(e, c), e an exception -/
def rIsX (K : PySem.W.Frag) : List V → Hp → VK → Prop := fun xs H Q => ∃ (a C : Addr) (dd : Option Addr) (c : V) (u : Value) (b : Bool), xs = [.ref a, c] ∧ ClsV c u ∧ XH H a C dd ∧ ExcC K C ∧ PySem.W.kitOne K (.ref C) u = some b ∧ Q (.bl b) H
theorem call_isX {X : Cx} : CallR X (.builtin "isinstance") (rIsX X.K) := by
  intro pins s σ H xs us Q I r h
  obtain ⟨a, C, dd, c, u, b, rfl, k, xh, ec, e, q⟩ := h
  obtain ⟨u1, u2, rfl, r1, r2⟩ := vals2 r
  have e2 := k.eq r2
  subst e2
  obtain rfl : u1 = Value.ref a := r1
  obtain ⟨o, od, J⟩ := xh_inst I xh
  obtain ⟨cd, hcl, _⟩ := PySem.W.any_some ec.hd
  exact PySem.W.kia_one (PySem.W.kitx_exc (od := od) (ox := o) (by rw [hcl] <;> rfl) ec.hg ec.hk ec.hs ec.ha ec.hn ec.ht ec.hm) I.kIn J e (fun z => nomatch z) fun tk => ⟨.bl b, H, I.tok tk, rfl, q⟩
def fIsiX (own : Str → Option Bool) (f : Ev → G → Re D) : Ev → G → Re D := fun ρ g => (f ρ g).bind fun d g1 => match (exnD d g1).bind fun p => own p.1 with
  | some b => .ok (.bl b) g1
  | none => .bad
/-- what is known: which classes stand under c -/
def IsiX (K : PySem.W.Frag) (mg : Str → Option Value) (u : Value) (own : Str → Option Bool) : Prop := ∀ c C b, own c = some b → mg c = some (.ref C) → ExcC K C ∧ PySem.W.kitOne K (.ref C) u = some b
section
variable {X : Cx} {W : WX} {pos p p1 : Pos} {e : Expr} {f : Ev → G → Re D} {x : Str} {cv : V} {u : Value}
theorem fe_isiX (own : Str → Option Bool) (he : FE X W e f) (hm : X.mg "isinstance" = none) (hx : PE X (.Name x p1) (tC cv)) (kc : ClsV cv u) (hi : IsiX X.K X.mg u own) (hg : Gl X "isinstance" := by rfl)
    (he1 : starEach [e, .Name x p1] X.env = (false, eval e X.env) :: starEach [.Name x p1] X.env := by rfl) (he2 : starEach [.Name x p1] X.env = (false, eval (.Name x p1) X.env) :: starEach [] X.env := by rfl)
    (hpl : (backTo pos (starEach [.Name x p1] X.env)).any (·.1) = false := by rfl) : FE X W (.Call (.Name "isinstance" p) [e, .Name x p1] [] pos) (fIsiX own f) := by
  refine PE.imp (pe_callB call_isX hg hm PyProof.Rows.boot_isinstance (pa_cons he (pa_cons hx pa_nil he2) he1) (by decide) (by decide) he1 hpl) fun σ H Q ⟨ι, ρ, g, rp, re, h⟩ => ⟨ι, ρ, g, rp, re, h.bind fun d g1 ι1 H1 v x1 q1 h1 => ?_⟩
  show rIsX X.K _ _ _
  split at h1
  · rename_i b eb
    obtain ⟨⟨c, fs⟩, ec, eo⟩ := Option.bind_eq_some_iff.mp eb
    obtain ⟨a, C, dd, ev, emg, xh, _⟩ := xh_of x1.rep q1 ec
    subst ev
    obtain ⟨O, k⟩ := hi c C b eo emg
    exact ⟨a, C, dd, cv, u, b, rfl, kc, xh, O, k, h1.ok (.refl x1.rep) (.bl b)⟩
  · exact h1.elim
/-- e.f -/
def fXget (own : Str → Bool) (n : Str) (f : Ev → G → Re D) : Ev → G → Re D := fun ρ g => (f ρ g).bind fun d g1 => match exnD d g1 with
  | some (c, fs) => if own c = true then (match fs.lookup n with | some y => .ok y g1 | none => .bad) else .bad
  | none => .bad
def XfO (K : PySem.W.Frag) (mg : Str → Option Value) (own : Str → Bool) (n : Str) : Prop := ∀ c C, own c = true → mg c = some (.ref C) → XfC K C ∧ PySem.W.findIn K (.ref C) n = some none
theorem fe_xget (own : Str → Bool) {n : Str} (hO : XfO X.K X.mg own n) (he : FE X W e f) (hb : attributeBase e n X.env (eval e X.env) = eval e X.env := by rfl) : FE X W (.Attribute e n pos) (fXget own n f) := by
  refine ⟨fun pins s σ H Q I ⟨ι, ρ, g, rp, re, h⟩ => ?_⟩
  have he' := he.run pins s σ H (fun v H1 => ∃ ι1 g1 a C dd dx fvs y z, v = .ref a ∧ XH H1 a C dd ∧ dd = some dx ∧ H1 dx = some (.xd fvs) ∧ fvs.lookup n = some z ∧ RV X.K ι1 g1 H1 y z ∧ XfC X.K C ∧ PySem.W.findIn X.K (.ref C) n = some none ∧ Q z H1) I ⟨ι, ρ, g, rp, re, h.bind fun d g1 ι1 H1 v x1 q1 h1 => by
    split at h1
    · rename_i c fs ec
      split at h1
      · rename_i ho
        split at h1
        · rename_i y ey
          obtain ⟨a, C, dd, ev, emg, xh, qq⟩ := xh_of x1.rep q1 ec
          rcases qq with ⟨rfl, _⟩ | ⟨dx, fvs, e1, e2, e3⟩
          · cases ey
          · obtain ⟨z, ez, rz⟩ := e3.lookup ey
            obtain ⟨t1, t2⟩ := hO c C ho emg
            exact ⟨ι1, g1.length, a, C, dd, dx, fvs, y, z, ev, xh, e1, e2, ez, rz, t1, t2, h1.ok (.refl x1.rep) rz⟩
        · exact h1.elim
      · exact h1.elim
    · exact h1.elim⟩
  refine attr_of hb (thn he' fun u s1 hh => ?_)
  obtain ⟨v, H1, I1, rx, ι1, n1, a, C, dd, dx, fvs, y, z, ev, xh, e1, e2, ez, rz, T, hno, q⟩ := hh
  subst ev
  obtain rfl : u = Value.ref a := rx
  obtain ⟨o, h1, h2, nc, h3⟩ := xh_obj I1 xh.1
  obtain ⟨od, ho, look⟩ := xh_dict I1 e2
  obtain ⟨w, rw', lk⟩ := look n z ez
  have J : PySem.W.InstAt s1.heap a o C (some od) := ⟨h1, h2, nc, by rw [h3, e1]; exact ho⟩
  exact HandSPX.exc_get I1.kIn J T.ga T.gg T.exC (PySem.W.findObj_own T.hdC hno rfl lk) (handed_of rw') ⟨z, H1, I1.tok _, rw', q⟩
end

/-! ### str, repr -/
def blS (b : Bool) : Str := if b = true then ("True" : Str) else ("False" : Str)
/-- the text of data -/
def shD (g : G) (d : D) : Option Str := match d with
  | .non => some "None"
  | .bl b => some (blS b)
  | .int i => if i.natAbs.log2 < 1920 then some (toString i : String) else none
  | .str x => if (reprText x).length ≤ sizeLine then some (reprText x) else none
  | d => match toP g 60 d with
    | some p => if p.showable = true ∧ p.shown.length ≤ 1000000 ∧ p.hasDict = false ∧ p.depth ≤ 60 then some p.shown else none
    | none => none
def ShV (K : PySem.W.Frag) (x : V) (H : Hp) (t : Str) : Prop := match x with
  | .non => t = "None"
  | .bl b => t = blS b
  | .int i => i.natAbs.log2 < 1920 ∧ t = (toString i : String)
  | .str x => (reprText x).length ≤ sizeLine ∧ t = reprText x
  | .ref a => ∃ p, Dp K H (.ref a) p ∧ p.showable = true ∧ p.shown.length ≤ 1000000 ∧ p.hasDict = false ∧ p.depth ≤ 60 ∧ t = p.shown
  | _ => False
theorem shD_ok {w : World} {K : PySem.W.Frag} {mg : Str → Option Value} {ι : Nat → Addr} {g : G} {H : Hp} {d : D} {v : V} {t : Str} (rp : Rep w K mg ι H g) (r : RV K ι g.length H d v) (h : shD g d = some t) : ShV K v H t := by
  cases r with
  | non => cases h; rfl
  | bl b => cases h; rfl
  | int i =>
    simp only [shD] at h
    split at h
    · rename_i hz; cases h; exact ⟨hz, rfl⟩
    · cases h
  | str x =>
    simp only [shD] at h
    split at h
    · rename_i hz; cases h; exact ⟨hz, rfl⟩
    · cases h
  | tup hs rr =>
    simp only [shD] at h
    split at h
    · rename_i p e
      split at h
      · rename_i hc; cases h; exact ⟨p, toP_ok rp 60 _ _ p e (.tup hs rr), hc.1, hc.2.1, hc.2.2.1, hc.2.2.2, rfl⟩
      · cases h
    · cases h
  | ref hm =>
    simp only [shD] at h
    split at h
    · rename_i p e
      split at h
      · rename_i hc; cases h; exact ⟨p, toP_ok rp 60 _ _ p e (.ref hm), hc.1, hc.2.1, hc.2.2.1, hc.2.2.2, rfl⟩
      · cases h
    · cases h
theorem call_reprA {X : Cx} (hg : X.A.guards = some []) (hu : X.A.units + 64 < cLine) : CallR X (.builtin "repr") (fun xs H Q => ∃ x t, xs = [x] ∧ ShV X.K x H t ∧ Q (.str t) H) := by
  intro pins s σ H xs us Q I r h
  obtain ⟨x, t, rfl, hs, q⟩ := h
  obtain ⟨u, rfl, ru⟩ := vals1 r
  cases x with
  | non =>
    have hs : t = "None" := hs
    subst hs
    obtain rfl : u = Value.none := ru
    exact PySem.P.repr_of_none ⟨.str _, H, I.tok _, ⟨_, rfl⟩, q⟩
  | bl b =>
    have hs : t = blS b := hs
    subst hs
    obtain rfl : u = Value.bool b := ru
    exact PySem.P.repr_of_bool ⟨.str _, H, I.tok _, ⟨_, by cases b <;> rfl⟩, q⟩
  | int i =>
    obtain ⟨hz, rfl⟩ := hs
    obtain ⟨tk, rfl⟩ := ru
    exact PySem.P.repr_of_int hz ⟨.str _, H, I.tok _, ⟨_, rfl⟩, q⟩
  | str x =>
    obtain ⟨hz, rfl⟩ := hs
    obtain ⟨tk, rfl⟩ := ru
    exact PySem.P.repr_of_str ⟨.str _, H, I.tok _, ⟨_, rfl⟩, q⟩ hz
  | ref a =>
    obtain ⟨p, hd, h1, h2, h3, h4, rfl⟩ := hs
    obtain rfl : u = Value.ref a := ru
    obtain ⟨as, rd⟩ := Dp.reads I p (.ref a) (.ref a) hd rfl
    exact repr_of_reads' rd h1 (fun z => by rw [h3] at z; cases z) hg (by omega) (fun _ _ e => e) (fun h' t tk hk => ⟨.str p.shown, H, I.kept (t' := tk) hk, ⟨t, rfl⟩, q⟩) (by rw [sizeLine_eq]; omega)
  | _ => exact hs.elim
theorem call_strA {X : Cx} (hg : X.A.guards = some []) (hu : X.A.units + 64 < cLine) : CallR X (.type "str") (fun xs H Q => ∃ x t, xs = [x] ∧ (match x with | .str y => t = y | x => ShV X.K x H t) ∧ Q (.str t) H) := by
  intro pins s σ H xs us Q I r h
  obtain ⟨x, t, rfl, hs, q⟩ := h
  obtain ⟨u, rfl, ru⟩ := vals1 r
  cases x with
  | non =>
    have hs : t = "None" := hs
    subst hs
    obtain rfl : u = Value.none := ru
    exact PySem.P.str_of_none ⟨.str _, H, I.tok _, ⟨_, rfl⟩, q⟩
  | bl b =>
    have hs : t = blS b := hs
    subst hs
    obtain rfl : u = Value.bool b := ru
    exact PySem.P.str_of_bool ⟨.str _, H, I.tok _, ⟨_, by cases b <;> rfl⟩, q⟩
  | int i =>
    obtain ⟨hz, rfl⟩ := (show i.natAbs.log2 < 1920 ∧ t = (toString i : String) from hs)
    obtain ⟨tk, rfl⟩ := ru
    exact PySem.P.str_of_int hz ⟨.str _, H, I.tok _, ⟨_, rfl⟩, q⟩
  | str x =>
    have hs : t = x := hs
    subst hs
    obtain ⟨tk, rfl⟩ := ru
    exact PySem.P.str_of_str ⟨.str _, H, I, ⟨_, rfl⟩, q⟩
  | ref a =>
    obtain ⟨p, hd, h1, h2, h3, h4, rfl⟩ := (show ∃ p, Dp X.K H (.ref a) p ∧ p.showable = true ∧ p.shown.length ≤ 1000000 ∧ p.hasDict = false ∧ p.depth ≤ 60 ∧ t = p.shown from hs)
    obtain rfl : u = Value.ref a := ru
    obtain ⟨as, rd⟩ := Dp.reads I p (.ref a) (.ref a) hd rfl
    exact str_of_reads rd h1 (fun z => by rw [h3] at z; cases z) hg (by omega) (fun _ _ e => e) (fun h' t tk hk => ⟨.str p.shown, H, I.kept (t' := tk) hk, ⟨t, rfl⟩, q⟩) (by rw [sizeLine_eq]; omega)
  | _ => exact (show False from hs).elim
def oReprA : OpN := fun as g => match as with
  | [d] => (match shD g d with | some t => .ok (.str t) g | none => .bad)
  | _ => .bad
def oStrA : OpN := fun as g => match as with
  | [.str x] => .ok (.str x) g
  | [d] => (match shD g d with | some t => .ok (.str t) g | none => .bad)
  | _ => .bad
theorem cs_reprA {X : Cx} (hg : X.A.guards = some []) (hu : X.A.units + 64 < cLine) : CallS X (.builtin "repr") oReprA := ⟨_, call_reprA hg hu, fun ι g H as xs Q rp ra h => by
  unfold oReprA at h
  split at h
  · split at h
    · rename_i t e
      obtain ⟨v, rfl, r⟩ := ra.one
      exact ⟨v, t, rfl, shD_ok rp r e, h.ok rp (.str _)⟩
    · exact h.elim
  · exact h.elim⟩
theorem cs_strA {X : Cx} (hg : X.A.guards = some []) (hu : X.A.units + 64 < cLine) : CallS X (.type "str") oStrA := ⟨_, call_strA hg hu, fun ι g H as xs Q rp ra h => by
  unfold oStrA at h
  split at h
  · rename_i x
    obtain ⟨v, rfl, r⟩ := ra.one
    cases r
    exact ⟨_, x, rfl, rfl, h.ok rp (.str _)⟩
  · rename_i d hne
    split at h
    · rename_i t e
      obtain ⟨v, rfl, r⟩ := ra.one
      refine ⟨v, t, rfl, ?_, h.ok rp (.str _)⟩
      have z := shD_ok rp r e
      cases v with
      | str y => cases r; exact absurd rfl (hne y)
      | _ => exact z
    · exact h.elim
  · exact h.elim⟩

/-! ### xs.count(x), xs.index(x), xs.insert(i, x) -/
def rCountD (K : PySem.W.Frag) : V → List V → Hp → VK → Prop := fun x xs H Q => ∃ (a : Addr) (y : V) (d : PyData) (ds : List PyData), x = V.ref a ∧ xs = [y] ∧ Dp K H (V.ref a) (.list ds) ∧ Dp K H y d ∧
  SeqAt.shaped (.list ds) = true ∧ SeqAt.shaped d = true ∧ Q (.int ((ds.countP fun z => PyData.eqv z d : Nat) : Int)) H
theorem mt_countD {X : Cx} (hu : X.A.units + 65 < cLine) : MtR X "list.count" (rCountD X.K) := by
  intro pins s σ H x xs v us Q I rx rxs h
  obtain ⟨a, y, d, ds, rfl, rfl, hl, hy, sl, sd, q⟩ := h
  cases rx
  obtain ⟨uy, rfl, ry⟩ := rxs.one
  obtain ⟨bs, r1⟩ := Dp.reads I d y uy hy ry
  have hxs : PyData.canLayAll0 ds = true := SeqAt.canLay_of_shaped sl
  have hroom : X.A.units + 1 + min (PyData.depthAll ds) d.depth < cLine := room_in_shaped sd hu
  cases hl with
  | lst hs ha =>
    obtain ⟨its, rv, ⟨⟨cls, dd, data, sls⟩, n, ho, hc, hdn, hdt⟩, hlen⟩ := I.list hs
    simp only at hc hdt
    subst hc hdt
    obtain ⟨as, h4⟩ := Dp.readsAll I ds _ its ha rv
    have hmap : its.map (SeqAt.readOf s.heap) = ds := SeqAt.readsAll_map ds its as hxs h4
    refine call_meets PySem.F.slot_list_count ⟨_, ho, rfl⟩ PySem.F.entry_list_count (PySem.F.args_list_count_2 _ _)
      (SeqAt.list_countAt a its.toArray n dd sls uy (fun u => PyData.eqv (SeqAt.readOf s.heap u) d)) ⟨ho, SeqAt.items_eqAt (vs := its.toArray) (show ReadsAll s.heap its.toArray.toList ds as from h4) r1 hxs (SeqAt.canLay_of_shaped sd) hroom, ?_⟩
    refine ⟨.int ((ds.countP fun z => PyData.eqv z d : Nat) : Int), H, I.tok _, ⟨s.toks, ?_⟩, q⟩
    have ec : its.toArray.toList.countP (fun u => PyData.eqv (SeqAt.readOf s.heap u) d) = ds.countP fun z => PyData.eqv z d := by
      rw [← hmap, List.countP_map]
      rfl
    rw [ec]
def isRefD : D → Bool
  | .ref _ => true
  | _ => false
def oCount : OpM := fun a as g => match as with
  | [y] => (match toP g 60 a, toP g 60 y with
    | some (.list ds), some d => if isRefD a = true ∧ SeqAt.shaped (.list ds) = true ∧ SeqAt.shaped d = true then .ok (.int ((ds.countP fun z => PyData.eqv z d : Nat) : Int)) g else .bad
    | _, _ => .bad)
  | _ => .bad
def firstIx (p : PyData → Bool) : List PyData → Option Nat
  | [] => none
  | z :: r => if p z = true then some 0 else (firstIx p r).map (· + 1)
theorem firstIx_ok {p : PyData → Bool} : ∀ {l : List PyData} {j : Nat}, firstIx p l = some j → ∃ z, l[j]? = some z ∧ p z = true ∧ ∀ m z', m < j → l[m]? = some z' → p z' = false
  | [], j, h => by cases h
  | z :: r, j, h => by
    unfold firstIx at h
    split at h
    · rename_i hp
      cases h
      exact ⟨z, rfl, hp, fun m z' hm => absurd hm (Nat.not_lt_zero _)⟩
    · rename_i hp
      obtain ⟨k, hk, rfl⟩ := Option.map_eq_some_iff.mp h
      obtain ⟨z2, h1, h2, h3⟩ := firstIx_ok hk
      refine ⟨z2, by simpa using h1, h2, fun m z' hm hz => ?_⟩
      cases m with
      | zero =>
        simp only [List.getElem?_cons_zero, Option.some.injEq] at hz
        subst hz
        exact Bool.eq_false_iff.mpr hp
      | succ m => exact h3 m z' (by omega) (by simpa using hz)
def oIndex : OpM := fun a as g => match as with
  | [y] => (match toP g 60 a, toP g 60 y with
    | some (.list ds), some d => if isRefD a = true ∧ SeqAt.shaped (.list ds) = true ∧ SeqAt.shaped d = true then (match firstIx (fun z => PyData.eqv z d) ds with | some j => .ok (.int (j : Nat)) g | none => .bad) else .bad
    | _, _ => .bad)
  | _ => .bad
def oInsert : OpM := fun a as g => match a, as with
  | .ref m, [.int i, y] => (match g[m]? with
    | some (.lst l) => if l.length < sizeLine ∧ 0 ≤ i ∧ i < 2 ^ 63 then .ok .non (g.set m (.lst (l.take i.toNat ++ [y] ++ l.drop i.toNat))) else .bad
    | _ => .bad)
  | _, _ => .bad
section
variable {X : Cx} {W : WX} {pos cpos apos : Pos} {e a b : Expr} {fo : Ev → G → Re D} {fr : Ev → G → Re (List D)}
theorem ms_count (hu : X.A.units + 65 < cLine) : MtS X "list.count" oCount := ⟨_, mt_countD hu, fun ι g H a as x xs Q rp ra ras h => by
  unfold oCount at h
  split at h
  · rename_i y
    split at h
    · rename_i ds d e1 e2
      split at h
      · rename_i hc
        obtain ⟨v, rfl, ry⟩ := ras.one
        have d1 := toP_ok rp 60 _ _ _ e1 ra
        have d2 := toP_ok rp 60 _ _ _ e2 ry
        cases ra with
        | ref hm => exact ⟨_, v, d, ds, rfl, rfl, d1, d2, hc.2.1, hc.2.2, h.ok rp (.int _)⟩
        | _ => exact absurd hc.1 Bool.false_ne_true
      · exact h.elim
    · exact h.elim
  · exact h.elim⟩
theorem ms_index (hu : X.A.units + 65 < cLine) : MtS X "list.index" oIndex := ⟨_, mt_indexD hu, fun ι g H a as x xs Q rp ra ras h => by
  unfold oIndex at h
  split at h
  · rename_i y
    split at h
    · rename_i ds d e1 e2
      split at h
      · rename_i hc
        split at h
        · rename_i j ej
          obtain ⟨v, rfl, ry⟩ := ras.one
          have d1 := toP_ok rp 60 _ _ _ e1 ra
          have d2 := toP_ok rp 60 _ _ _ e2 ry
          obtain ⟨z, z1, z2, z3⟩ := firstIx_ok ej
          cases ra with
          | ref hm => exact ⟨_, v, d, ds, j, z, rfl, rfl, d1, d2, hc.2.1, hc.2.2, z1, z2, z3, h.ok rp (.int _)⟩
          | _ => exact absurd hc.1 Bool.false_ne_true
        · exact h.elim
      · exact h.elim
    · exact h.elim
  · exact h.elim⟩
theorem ms_insert : MtS X "list.insert" oInsert := ⟨_, mt_insert, fun ι g H a as x xs Q rp ra ras h => by
  unfold oInsert at h
  split at h
  · rename_i m i y
    split at h
    · rename_i l e
      split at h
      · rename_i hc
        cases ra with
        | ref hm =>
          obtain ⟨vs, ev, q⟩ := rp.obj _ _ e
          cases ras with
          | cons r1 r2 =>
            cases r1
            obtain ⟨v, rfl, ry⟩ := r2.one
            have y' := Nx.setL rp e (((q.take i.toNat).append (.cons ry .nil)).append (q.drop i.toNat))
            exact ⟨_, vs, i, v, rfl, rfl, ev, by rw [q.length]; exact hc.1, hc.2.1, hc.2.2, h _ _ _ y' .non⟩
      · exact h.elim
    · exact h.elim
  · exact h.elim⟩
theorem fe_count (hu : X.A.units + 65 < cLine) (ho : FE X W e fo) (ha : FA X W [a] fr)
    (hbase : attributeBase e "count" X.env (eval e X.env) = eval e X.env := by rfl)
    (hfew : ((backTo cpos (starEach [a] X.env)).all (fun x => !x.1) && (backToKw cpos (keywordEach [] X.env)).all (fun x => x.1.isSome)
      && decide ([a].length + ([] : List Keyword).length + (if ([] : List Keyword).isEmpty then 0 else 1) < 30)) = true := by rfl)
    (hline : (apos.endLine == cpos.line) = true := by rfl) (hs : starEach [a] X.env = (false, eval a X.env) :: starEach [] X.env := by rfl) (hplain : (backTo cpos (starEach [] X.env)).any (·.1) = false := by rfl) :
    FE X W (.Call (.Attribute e "count" apos) [a] [] cpos) (fBM "list" oCount fo fr) :=
  fe_bm PySem.F.plainAttrs_list PySem.F.slot_list_count PySem.F.type_list_count (ms_count hu) ho ha hbase hfew hline hs hplain
theorem fe_index (hu : X.A.units + 65 < cLine) (ho : FE X W e fo) (ha : FA X W [a] fr)
    (hbase : attributeBase e "index" X.env (eval e X.env) = eval e X.env := by rfl)
    (hfew : ((backTo cpos (starEach [a] X.env)).all (fun x => !x.1) && (backToKw cpos (keywordEach [] X.env)).all (fun x => x.1.isSome)
      && decide ([a].length + ([] : List Keyword).length + (if ([] : List Keyword).isEmpty then 0 else 1) < 30)) = true := by rfl)
    (hline : (apos.endLine == cpos.line) = true := by rfl) (hs : starEach [a] X.env = (false, eval a X.env) :: starEach [] X.env := by rfl) (hplain : (backTo cpos (starEach [] X.env)).any (·.1) = false := by rfl) :
    FE X W (.Call (.Attribute e "index" apos) [a] [] cpos) (fBM "list" oIndex fo fr) :=
  fe_bm PySem.F.plainAttrs_list PySem.F.slot_list_index PySem.F.type_list_index (ms_index hu) ho ha hbase hfew hline hs hplain
theorem fe_insert (ho : FE X W e fo) (ha : FA X W [a, b] fr)
    (hbase : attributeBase e "insert" X.env (eval e X.env) = eval e X.env := by rfl)
    (hfew : ((backTo cpos (starEach [a, b] X.env)).all (fun x => !x.1) && (backToKw cpos (keywordEach [] X.env)).all (fun x => x.1.isSome)
      && decide ([a, b].length + ([] : List Keyword).length + (if ([] : List Keyword).isEmpty then 0 else 1) < 30)) = true := by rfl)
    (hline : (apos.endLine == cpos.line) = true := by rfl) (hs : starEach [a, b] X.env = (false, eval a X.env) :: starEach [b] X.env := by rfl) (hplain : (backTo cpos (starEach [b] X.env)).any (·.1) = false := by rfl) :
    FE X W (.Call (.Attribute e "insert" apos) [a, b] [] cpos) (fBM "list" oInsert fo fr) :=
  fe_bm PySem.F.plainAttrs_list PySem.F.slot_list_insert PySem.F.type_list_insert ms_insert ho ha hbase hfew hline hs hplain
end
end Fc

set_option Elab.async false
set_option linter.all false
set_option maxRecDepth 100000
set_option maxHeartbeats 4000000
/-! Fee: own exceptions one level up; what the written part says of them, looked at at once. -/
namespace Fc
open PySem PySem.Spec PySem.Calls PyProof.Rows L2
/-- C(..) one level up -/
def TabZ (P : Program) (w : World) (K : PySem.W.Frag) (mg : Str → Option Value) (base : Heap) (k : Nat) (x : Str) (ks : List Str) (ψ : Fun2) : Prop := (∀ ds es g, ψ ds es g = .bad) ∨ ∃ j φ, k = j + 1 ∧ ψ = newX x φ ∧ TabX P w K mg base j x ks φ
section
variable {X : Cx} {W : WX} {k : Nat} {ks : List Str} {ψ : Fun2} {x : Str} {p pos : Pos} {e : Expr} {es : List Expr} {kws : List Keyword} {fr fk : Ev → G → Re (List D)}
theorem fe_mkX (T : TabZ X.prog X.w X.K X.mg X.base k x [] ψ) (hr : Room k X.A) (tk : Takes X W) (ha : FA X W (e :: es) fr) (hg : Gl X x := by rfl) (hdb : (x == ("__debug__" : Str)) = false := by decide)
    (he : starEach (e :: es) X.env = (false, eval e X.env) :: starEach es X.env := by rfl) (hpl : (backTo pos (starEach es X.env)).any (·.1) = false := by rfl) : FE X W (.Call (.Name x p) (e :: es) [] pos) (fMkA ψ fr) := by
  rcases T with h | ⟨j, φ, rfl, rfl, T⟩
  · refine ⟨fun pins s σ H Q I ⟨ι, ρ, g, rp, re, q⟩ => ?_⟩
    have e0 : fMkA ψ fr ρ g = .bad := by
      unfold fMkA
      cases fr ρ g with
      | ok es g1 => exact h es [] g1
      | ex c fs g1 => rfl
      | bad => rfl
    rw [e0] at q
    exact q.elim
  · refine PE.imp (fe_makeX T hr tk ha hg hdb he hpl) fun σ H Q ⟨ι, ρ, g, rp, re, q⟩ => ⟨ι, ρ, g, rp, re, ?_⟩
    unfold fMkA at q
    show Tc X.w X.K X.mg (RV X.K) W σ H ι g ((fr ρ g).bind fun ds g1 => newX x φ ds [] g1) Q
    cases e0 : fr ρ g with
    | ok es g1 => rw [e0] at q; exact q
    | ex c fs g1 => rw [e0] at q; exact q.elim
    | bad => rw [e0] at q; exact q
theorem fe_mkXK (T : TabZ X.prog X.w X.K X.mg X.base k x ks ψ) (hr : Room k X.A) (tk : Takes X W) (hkw : FK X W kws ks.length fk) (hg : Gl X x := by rfl) (hdb : (x == ("__debug__" : Str)) = false := by decide)
    (hall : (backToKw pos (keywordEach kws X.env)).all (·.1.isSome) = true := by rfl) (hks : (backToKw pos (keywordEach kws X.env)).filterMap (·.1) = ks := by rfl)
    (hpl : ((backTo pos (starEach [] X.env)).any (·.1) || (backToKw pos (keywordEach kws X.env)).any (·.1.isNone)) = false := by rfl) : FE X W (.Call (.Name x p) [] kws pos) (fMkK ψ fk) := by
  rcases T with h | ⟨j, φ, rfl, rfl, T⟩
  · refine ⟨fun pins s σ H Q I ⟨ι, ρ, g, rp, re, q⟩ => ?_⟩
    have e0 : fMkK ψ fk ρ g = .bad := by
      unfold fMkK
      cases fk ρ g with
      | ok es g1 => exact h [] es g1
      | ex c fs g1 => rfl
      | bad => rfl
    rw [e0] at q
    exact q.elim
  · refine PE.imp (fe_makeXK T hr tk hkw hg hdb hall hks hpl) fun σ H Q ⟨ι, ρ, g, rp, re, q⟩ => ⟨ι, ρ, g, rp, re, ?_⟩
    unfold fMkK at q
    show Tc X.w X.K X.mg (RV X.K) W σ H ι g ((fk ρ g).bind fun es g1 => newX x φ [] es g1) Q
    cases e0 : fk ρ g with
    | ok es g1 => rw [e0] at q; exact q
    | ex c fs g1 => rw [e0] at q; exact q.elim
    | bad => rw [e0] at q; exact q
variable {f : Ev → G → Re D} {y : Str} {p1 : Pos} {T : String}
/-- isinstance(e, C), C an own class -/
def IsiXO (K : PySem.W.Frag) (mg : Str → Option Value) (y : Str) (own : Str → Option Bool) : Prop := ∃ C, mg y = some (.ref C) ∧ IsiX K mg (.ref C) own
theorem fe_isiXO (own : Str → Option Bool) (he : FE X W e f) (hm : X.mg "isinstance" = none) (h : IsiXO X.K X.mg y own) (hgy : Gl X y := by rfl) (hdy : (y == ("__debug__" : Str)) = false := by decide) (hg : Gl X "isinstance" := by rfl)
    (he1 : starEach [e, .Name y p1] X.env = (false, eval e X.env) :: starEach [.Name y p1] X.env := by rfl) (he2 : starEach [.Name y p1] X.env = (false, eval (.Name y p1) X.env) :: starEach [] X.env := by rfl)
    (hpl : (backTo pos (starEach [.Name y p1] X.env)).any (·.1) = false := by rfl) : FE X W (.Call (.Name "isinstance" p) [e, .Name y p1] [] pos) (fIsiX own f) := by
  obtain ⟨C, hC, h⟩ := h
  exact fe_isiX own he hm (pe_glob hgy hC (v := .ref C) rfl hdy) (.own C) h hg he1 he2 hpl
theorem fe_isiXT (own : Str → Option Bool) (he : FE X W e f) (hm : X.mg "isinstance" = none) (hy : X.mg y = none) (hT : bootBuiltins y = some (.type T)) (h : IsiX X.K X.mg (.type T) own) (hgy : Gl X y := by rfl) (hn : y ≠ "__name__" := by decide) (hdy : (y == ("__debug__" : Str)) = false := by decide) (hg : Gl X "isinstance" := by rfl)
    (he1 : starEach [e, .Name y p1] X.env = (false, eval e X.env) :: starEach [.Name y p1] X.env := by rfl) (he2 : starEach [.Name y p1] X.env = (false, eval (.Name y p1) X.env) :: starEach [] X.env := by rfl)
    (hpl : (backTo pos (starEach [.Name y p1] X.env)).any (·.1) = false := by rfl) : FE X W (.Call (.Name "isinstance" p) [e, .Name y p1] [] pos) (fIsiX own f) :=
  fe_isiX own he hm (pe_bltn (v := .ty T) hgy hy hT rfl hn hdy) (.ty T) h hg he1 he2 hpl
end
/-! ### what the head says -/
theorem clsB_ok {K : PySem.W.Frag} {C : Addr} {nw : String} {tail : List Value} (q : clsB K C nw tail = true) : ∃ nm q N bs bm sn sub ab col dd k0 k1 k2 k3 k5, K.lookup C = some (xcO nm q C N bs bm true sn sub ab col dd k0 k1 k2 k3 k5 nw) ∧ PySem.W.excTail tail bm = true := by
  unfold clsB at q
  split at q
  · rename_i dd cd sl ho
    split at q
    · rename_i c bm k0 k1 k2 k3 n k5 hm hs
      simp only [Bool.and_eq_true, decide_eq_true_eq, Bool.not_eq_true'] at q
      obtain ⟨rfl, rfl, ht, hd, hdel⟩ := q
      obtain ⟨nm, bs, mro, ns, qn, hd', sn, sub, ab, col, del⟩ := cd
      dsimp only at hm hdel hd
      subst hm hdel hd
      have hsl : sl = #[k0, k1, k2, k3, some (.builtin n), k5] := by
        obtain ⟨l⟩ := sl
        have hs : l = _ := hs
        subst hs
        rfl
      subst hsl
      exact ⟨nm, qn, ns, bs, bm, sn, sub, ab, col, dd, k0, k1, k2, k3, k5, ho, ht⟩
    · cases q
  · cases q
theorem xclB_ok {K : PySem.W.Frag} {x : Str} {b : Nat} (h : xclB K x b = true) : XCl K (He.ga K x) (bsN b).2.1 (bsN b).2.2 := by
  obtain ⟨h1, h⟩ := ba' h
  obtain ⟨h2, h⟩ := ba' h
  obtain ⟨h3, h⟩ := ba' h
  obtain ⟨h4, h5⟩ := ba' h
  exact ⟨clsB_ok h1, He.eqO_ok h2, of_decide_eq_true h3, of_decide_eq_true h4, h5⟩
theorem xisB_ok {K : PySem.W.Frag} {x : Str} (h : xisB K x = true) : ExcC K (He.ga K x) ∧ XfC K (He.ga K x) := by
  obtain ⟨h1, h⟩ := ba' h
  obtain ⟨h2, h⟩ := ba' h
  obtain ⟨h3, h⟩ := ba' h
  obtain ⟨h4, h⟩ := ba' h
  obtain ⟨h5, h⟩ := ba' h
  obtain ⟨h6, h⟩ := ba' h
  obtain ⟨h7, h8⟩ := ba' h
  exact ⟨⟨He.eqO_ok h1, He.eqO_ok h2, of_decide_eq_true h3, h4, He.eqO_ok h5, He.eqO_ok h6, of_decide_eq_true h7, of_decide_eq_true h8⟩, ⟨He.eqO_ok h1, He.eqO_ok h2, of_decide_eq_true h3, h4⟩⟩
def ownL (l : List (Str × Bool)) (c : Str) : Option Bool := l.lookup c
section
variable {K : PySem.W.Frag} {h : Heap} {mg : Str → Option Value}
theorem lookup_memX {α : Type} {c : Str} {b : α} : ∀ {l : List (Str × α)}, l.lookup c = some b → (c, b) ∈ l
  | [], e => by cases e
  | (k, v) :: r, e => by
    unfold List.lookup at e
    cases hk : c == k with
    | true =>
      rw [hk] at e
      cases e
      rw [beq_iff_eq.mp hk]
      exact List.mem_cons_self
    | false => rw [hk] at e; exact List.mem_cons_of_mem _ (lookup_memX e)
/-- the names l are the classes', and each class is an exception -/
structure XAll (K : PySem.W.Frag) (mg : Str → Option Value) (l : List Str) : Prop where
  all : ∀ c ∈ l, mg c = some (.ref (He.ga K c)) ∧ ExcC K (He.ga K c) ∧ XfC K (He.ga K c)
theorem xall_of {l : List Str} (X : K.In h) (G : h.Ns mainGlobals mg) (g : gloB K l = true) (q : (l.all fun x => xisB K x) = true) : XAll K mg l :=
  ⟨fun c hc => ⟨He.glo_ok X G (List.all_eq_true.mp g c hc), (xisB_ok (List.all_eq_true.mp q c hc)).1, (xisB_ok (List.all_eq_true.mp q c hc)).2⟩⟩
theorem isiX_of {l : List Str} {u : Value} {m : List (Str × Bool)} (a : XAll K mg l) (s : ∀ p ∈ m, p.1 ∈ l) (k : kitX K u m = true) : IsiX K mg u (ownL m) := fun c C b e hm => by
  have mem := lookup_memX (show m.lookup c = some b from e)
  obtain ⟨h1, h2, _⟩ := a.all c (s _ mem)
  rw [h1] at hm
  cases hm
  exact ⟨h2, of_decide_eq_true (List.all_eq_true.mp k _ mem)⟩
theorem isiXO_of {l : List Str} {y : Str} {m : List (Str × Bool)} (a : XAll K mg l) (hy : y ∈ l) (s : ∀ p ∈ m, p.1 ∈ l) (k : kitX K (.ref (He.ga K y)) m = true) : IsiXO K mg y (ownL m) := ⟨_, (a.all y hy).1, isiX_of a s k⟩
def ownM (l : List Str) (c : Str) : Bool := l.contains c
theorem xfo_of {l m : List Str} {f : Str} (a : XAll K mg l) (s : ∀ c ∈ m, c ∈ l) (k : xnoB K f m = true) : XfO K mg (ownM m) f := fun c C hc hm => by
  have mem : c ∈ m := List.contains_iff_mem.mp hc
  obtain ⟨h1, _, h2⟩ := a.all c (s _ mem)
  rw [h1] at hm
  cases hm
  exact ⟨h2, He.eqO_ok (List.all_eq_true.mp k _ mem)⟩
end
theorem isFn_typ {K : PySem.W.Frag} {f : Addr} (h : PySem.W.isFn K (.ref f) = true) : PySem.W.typeIn K (.ref f) = some (.type "function") := beq_iff_eq.mp h
theorem xplB_ok {K : PySem.W.Frag} {mg : Str → Option Value} {x : Str} (b : Nat) {B ini : String} (hm : mg x = some (.ref (He.ga K x))) (F : PySem.ExcBaseFacts B (bsN b).2.1 ini (bsN b).2.2) (h : xplB K x b = true) : TabY K mg x := by
  obtain ⟨h1, h2⟩ := ba' h
  exact ⟨_, _, _, _, _, hm, F, h1, h2⟩
theorem xbiB_ok {K : PySem.W.Frag} {B i : String} (h : xbiB K B i = true) : PySem.W.findCls K (.type B) (.type "type") "__init__" = some (.val (.builtin i)) := by
  unfold xbiB at h
  split at h
  · rename_i s e
    rw [e, of_decide_eq_true h]
  · cases h
end Fc

set_option Elab.async false
set_option linter.all false
set_option maxRecDepth 100000
set_option maxHeartbeats 4000000
/-! Fwb: the logic of outcomes for what Fy .. Fzf add. -/
namespace Fc
open PySem PySem.Spec PyProof.Rows L2
section
variable {ρ : Ev} {g : G} {Q : D → G → Prop} {N : Ev → G → Prop} {R : D → G → Prop} {fa fb fo : Ev → G → Re D} {fr : Ev → G → Re (List D)} {m : Nat} {l : List D} {kl : List (Key × D)} {c k d : D} {φ : Fun2}
theorem tyB_l (h : g[m]? = some (.lst l)) : tyB "list" (.ref m) g = true := by
  show (match g[m]? with
    | some (.lst _) => decide ("list" = "list")
    | some (.frz _) => decide ("list" = "list")
    | some (.dct _) => decide ("list" = "dict")
    | _ => false) = true
  rw [h]
  rfl
theorem P_bm {T : String} {o : OpM} : (fBM T o fo fr ρ g).P Q = (fo ρ g).P fun d g1 => tyB T d g1 = true ∧ (fr ρ g1).P fun r g2 => (o d r g2).P Q := by
  unfold fBM; rw [P_bind]; congr 1; funext d g1
  by_cases h : tyB T d g1 = true
  · rw [if_pos h, P_bind]; simp only [P_noEx, h, true_and]
  · rw [if_neg h]; exact propext ⟨fun q => q.elim, fun q => (h q.1).elim⟩
theorem V_append (h : g[m]? = some (.lst l)) : (oAppend (.ref m) [d] g).P Q = (l.length < sizeLine ∧ Q .non (g.set m (.lst (l ++ [d])))) := by
  show Re.P (match g[m]? with
    | some (.lst l) => if l.length < sizeLine then Re.ok D.non (g.set m (O.lst (l ++ [d]))) else .bad
    | _ => .bad) Q = _
  rw [h]
  exact P_ite
theorem P_append : (fAppend fo fr ρ g).P Q = (fo ρ g).P fun d g1 => tyB "list" d g1 = true ∧ (fr ρ g1).P fun r g2 => (oAppend d r g2).P Q := P_bm
theorem P_join : (fJoin fo fr ρ g).P Q = (fo ρ g).P fun d g1 => tyB "str" d g1 = true ∧ (fr ρ g1).P fun r g2 => (oJoin d r g2).P Q := P_bm
theorem V_join {x : Str} {ys : List Str} (h : g[m]? = some (.lst (ys.map .str))) : (oJoin (.str x) [.ref m] g).P Q = ((ys.map (·.length)).sum + ys.length * x.length ≤ 16777216 ∧ Q (.str (Txt.join x ys)) g) := by
  have e : strsOf (ys.map D.str) = some ys := by
    clear h
    induction ys with
    | nil => rfl
    | cons y ys ih => rw [List.map_cons]; unfold strsOf; rw [ih]; rfl
  have e2 : lstAt (.ref m) g = some (ys.map D.str) := by
    show (match g[m]? with
      | some (.lst l) => some l
      | some (.frz l) => some l
      | _ => none) = _
    rw [h]
  unfold oJoin
  dsimp only
  rw [e2]
  dsimp only
  rw [e]
  exact P_ite
end
end Fc

set_option Elab.async false
set_option linter.all false
set_option maxRecDepth 100000
set_option maxHeartbeats 4000000
/-! Fwc: logic of two fors, of sets of keys, of sorted lists. -/
namespace Fc
open PySem PySem.Spec PySem.Calls PyProof.Rows L2
section
variable {ρ : Ev} {g g0 : G} {Q : D → G → Prop} {it it1 : Ev → G → Re (List D × Wt)} {b b1 : Bd} {ft ft1 : Ev → G → Re Bool} {fe : Ev → G → Re D} {vs vs1 : List Nat}
end
/-! ### values -/
section
variable {g : G} {Q : D → G → Prop} {m : Nat} {l : List D} {ps : List PyData}
end
/-! ### lists of data, sorted -/
end Fc

set_option Elab.async false
set_option linter.all false
set_option maxRecDepth 100000
set_option maxHeartbeats 4000000
namespace Fc
open PySem PySem.Spec PySem.Calls PyProof.Rows L2
structure Ph where
  f_v_law_any_2 : Fun2
  f_v_law_bag_2 : Fun2
  f_v_law_named_right_1 : Fun2
  f_v_law_take_2 : Fun2
  f_v_law_word_1 : Fun2
  x_NoCall_1 : Fun2
  x_NoCapture_1 : Fun2
  x_NoNumber_1 : Fun2
  x_NoName_1 : Fun2
  x_NoBase_1 : Fun2
  x_NoCell_1 : Fun2
  x_NoClosure_1 : Fun2
  x_NoText_1 : Fun2
  x_InUse_1 : Fun2
  x_Taken_1 : Fun2
  x_Noticed_1 : Fun2
  x_Taken_0_name : Fun2
  x_NoClosure_0_name : Fun2
  x_NoName_0_name : Fun2
  x_NoCell_0_name : Fun2
  x_InUse_0_name : Fun2
  x_NoText_0_at : Fun2
  x_NoCall_0_at : Fun2
  x_NoCapture_0_at : Fun2
  x_NoBase_0_base : Fun2
  x_NoNumber_0_number : Fun2
  x_Noticed_0_history : Fun2
  ix_NoCall_1 : Fun2
  ix_NoCapture_1 : Fun2
  ix_NoNumber_1 : Fun2
  ix_NoName_1 : Fun2
  ix_NoBase_1 : Fun2
  ix_NoCell_1 : Fun2
  ix_NoClosure_1 : Fun2
  ix_NoText_1 : Fun2
  ix_InUse_1 : Fun2
  ix_Taken_1 : Fun2
  ix_Noticed_1 : Fun2
  ix_Taken_0_name : Fun2
  ix_NoClosure_0_name : Fun2
  ix_NoName_0_name : Fun2
  ix_NoCell_0_name : Fun2
  ix_InUse_0_name : Fun2
  ix_NoText_0_at : Fun2
  ix_NoCall_0_at : Fun2
  ix_NoCapture_0_at : Fun2
  ix_NoBase_0_base : Fun2
  ix_NoNumber_0_number : Fun2
  ix_Noticed_0_history : Fun2
  law : Fun2
def Ph.nil : Ph := ⟨fun _ _ _ => .bad, fun _ _ _ => .bad, fun _ _ _ => .bad, fun _ _ _ => .bad, fun _ _ _ => .bad, fun _ _ _ => .bad, fun _ _ _ => .bad, fun _ _ _ => .bad, fun _ _ _ => .bad, fun _ _ _ => .bad, fun _ _ _ => .bad, fun _ _ _ => .bad, fun _ _ _ => .bad, fun _ _ _ => .bad, fun _ _ _ => .bad, fun _ _ _ => .bad, fun _ _ _ => .bad, fun _ _ _ => .bad, fun _ _ _ => .bad, fun _ _ _ => .bad, fun _ _ _ => .bad, fun _ _ _ => .bad, fun _ _ _ => .bad, fun _ _ _ => .bad, fun _ _ _ => .bad, fun _ _ _ => .bad, fun _ _ _ => .bad, fun _ _ _ => .bad, fun _ _ _ => .bad, fun _ _ _ => .bad, fun _ _ _ => .bad, fun _ _ _ => .bad, fun _ _ _ => .bad, fun _ _ _ => .bad, fun _ _ _ => .bad, fun _ _ _ => .bad, fun _ _ _ => .bad, fun _ _ _ => .bad, fun _ _ _ => .bad, fun _ _ _ => .bad, fun _ _ _ => .bad, fun _ _ _ => .bad, fun _ _ _ => .bad, fun _ _ _ => .bad, fun _ _ _ => .bad, fun _ _ _ => .bad, fun _ _ _ => .bad, fun _ _ _ => .bad, fun _ _ _ => .bad, fun _ _ _ => .bad⟩
theorem bt_KeyError : bootBuiltins "KeyError" = some (.type "KeyError") := by decide +kernel
theorem bt_LookupError : bootBuiltins "LookupError" = some (.type "LookupError") := by decide +kernel
theorem bt_OverflowError : bootBuiltins "OverflowError" = some (.type "OverflowError") := by decide +kernel
theorem bt_RuntimeError : bootBuiltins "RuntimeError" = some (.type "RuntimeError") := by decide +kernel
theorem bt_ValueError : bootBuiltins "ValueError" = some (.type "ValueError") := by decide +kernel
theorem bt_abs : bootBuiltins "abs" = some (.builtin "abs") := by decide +kernel
theorem bt_int : bootBuiltins "int" = some (.type "int") := by decide +kernel
theorem bt_len : bootBuiltins "len" = some (.builtin "len") := by decide +kernel
theorem bt_max : bootBuiltins "max" = some (.builtin "max") := by decide +kernel
theorem bt_min : bootBuiltins "min" = some (.builtin "min") := by decide +kernel
theorem bt_repr : bootBuiltins "repr" = some (.builtin "repr") := by decide +kernel
theorem bt_str : bootBuiltins "str" = some (.type "str") := by decide +kernel
def ownXA : Str → Bool := ownM xcs
def ownX_InUse (c : Str) : Bool := decide (c = "InUse")
def ownX_NoBase (c : Str) : Bool := decide (c = "NoBase")
def ownX_NoCall (c : Str) : Bool := decide (c = "NoCall")
def ownX_NoCapture (c : Str) : Bool := decide (c = "NoCapture")
def ownX_NoCell (c : Str) : Bool := decide (c = "NoCell")
def ownX_NoClosure (c : Str) : Bool := decide (c = "NoClosure")
def ownX_NoName (c : Str) : Bool := decide (c = "NoName")
def ownX_NoNumber (c : Str) : Bool := decide (c = "NoNumber")
def ownX_NoText (c : Str) : Bool := decide (c = "NoText")
def ownX_Noticed (c : Str) : Bool := decide (c = "Noticed")
def ownX_Taken (c : Str) : Bool := decide (c = "Taken")
def ownE_InUse : Str → Option Bool := ownL [("InUse", true), ("NoBase", false), ("NoBody", false), ("NoCall", false), ("NoCapture", false), ("NoCell", false), ("NoClosure", false), ("NoCommand", false), ("NoHouse", false), ("NoName", false), ("NoNumber", false), ("NoPlan", false), ("NoText", false), ("Nothing", false), ("Noticed", false), ("Taken", false), ("TooMany", false), ("Unlike", false)]
def ownE_KeyError : Str → Option Bool := ownL [("InUse", false), ("NoBase", false), ("NoBody", false), ("NoCall", false), ("NoCapture", false), ("NoCell", true), ("NoClosure", true), ("NoCommand", false), ("NoHouse", false), ("NoName", false), ("NoNumber", false), ("NoPlan", false), ("NoText", false), ("Nothing", false), ("Noticed", false), ("Taken", false), ("TooMany", false), ("Unlike", false)]
def ownE_LookupError : Str → Option Bool := ownL [("InUse", false), ("NoBase", false), ("NoBody", false), ("NoCall", false), ("NoCapture", false), ("NoCell", true), ("NoClosure", true), ("NoCommand", false), ("NoHouse", false), ("NoName", false), ("NoNumber", false), ("NoPlan", false), ("NoText", false), ("Nothing", false), ("Noticed", false), ("Taken", false), ("TooMany", false), ("Unlike", false)]
def ownE_NoBase : Str → Option Bool := ownL [("InUse", false), ("NoBase", true), ("NoBody", false), ("NoCall", false), ("NoCapture", false), ("NoCell", false), ("NoClosure", false), ("NoCommand", false), ("NoHouse", false), ("NoName", false), ("NoNumber", false), ("NoPlan", false), ("NoText", false), ("Nothing", false), ("Noticed", false), ("Taken", false), ("TooMany", false), ("Unlike", false)]
def ownE_NoBody : Str → Option Bool := ownL [("InUse", false), ("NoBase", false), ("NoBody", true), ("NoCall", false), ("NoCapture", false), ("NoCell", false), ("NoClosure", false), ("NoCommand", false), ("NoHouse", false), ("NoName", false), ("NoNumber", false), ("NoPlan", false), ("NoText", false), ("Nothing", false), ("Noticed", false), ("Taken", false), ("TooMany", false), ("Unlike", false)]
def ownE_NoCall : Str → Option Bool := ownL [("InUse", false), ("NoBase", false), ("NoBody", false), ("NoCall", true), ("NoCapture", false), ("NoCell", false), ("NoClosure", false), ("NoCommand", false), ("NoHouse", false), ("NoName", false), ("NoNumber", false), ("NoPlan", false), ("NoText", false), ("Nothing", false), ("Noticed", false), ("Taken", false), ("TooMany", false), ("Unlike", false)]
def ownE_NoCapture : Str → Option Bool := ownL [("InUse", false), ("NoBase", false), ("NoBody", false), ("NoCall", false), ("NoCapture", true), ("NoCell", false), ("NoClosure", false), ("NoCommand", false), ("NoHouse", false), ("NoName", false), ("NoNumber", false), ("NoPlan", false), ("NoText", false), ("Nothing", false), ("Noticed", false), ("Taken", false), ("TooMany", false), ("Unlike", false)]
def ownE_NoCell : Str → Option Bool := ownL [("InUse", false), ("NoBase", false), ("NoBody", false), ("NoCall", false), ("NoCapture", false), ("NoCell", true), ("NoClosure", false), ("NoCommand", false), ("NoHouse", false), ("NoName", false), ("NoNumber", false), ("NoPlan", false), ("NoText", false), ("Nothing", false), ("Noticed", false), ("Taken", false), ("TooMany", false), ("Unlike", false)]
def ownE_NoClosure : Str → Option Bool := ownL [("InUse", false), ("NoBase", false), ("NoBody", false), ("NoCall", false), ("NoCapture", false), ("NoCell", false), ("NoClosure", true), ("NoCommand", false), ("NoHouse", false), ("NoName", false), ("NoNumber", false), ("NoPlan", false), ("NoText", false), ("Nothing", false), ("Noticed", false), ("Taken", false), ("TooMany", false), ("Unlike", false)]
def ownE_NoCommand : Str → Option Bool := ownL [("InUse", false), ("NoBase", false), ("NoBody", false), ("NoCall", false), ("NoCapture", false), ("NoCell", false), ("NoClosure", false), ("NoCommand", true), ("NoHouse", false), ("NoName", false), ("NoNumber", false), ("NoPlan", false), ("NoText", false), ("Nothing", false), ("Noticed", false), ("Taken", false), ("TooMany", false), ("Unlike", false)]
def ownE_NoHouse : Str → Option Bool := ownL [("InUse", false), ("NoBase", false), ("NoBody", false), ("NoCall", false), ("NoCapture", false), ("NoCell", false), ("NoClosure", false), ("NoCommand", false), ("NoHouse", true), ("NoName", false), ("NoNumber", false), ("NoPlan", false), ("NoText", false), ("Nothing", false), ("Noticed", false), ("Taken", false), ("TooMany", false), ("Unlike", false)]
def ownE_NoName : Str → Option Bool := ownL [("InUse", false), ("NoBase", false), ("NoBody", false), ("NoCall", false), ("NoCapture", false), ("NoCell", false), ("NoClosure", false), ("NoCommand", false), ("NoHouse", false), ("NoName", true), ("NoNumber", false), ("NoPlan", false), ("NoText", false), ("Nothing", false), ("Noticed", false), ("Taken", false), ("TooMany", false), ("Unlike", false)]
def ownE_NoNumber : Str → Option Bool := ownL [("InUse", false), ("NoBase", false), ("NoBody", false), ("NoCall", false), ("NoCapture", false), ("NoCell", false), ("NoClosure", false), ("NoCommand", false), ("NoHouse", false), ("NoName", false), ("NoNumber", true), ("NoPlan", false), ("NoText", false), ("Nothing", false), ("Noticed", false), ("Taken", false), ("TooMany", false), ("Unlike", false)]
def ownE_NoPlan : Str → Option Bool := ownL [("InUse", false), ("NoBase", false), ("NoBody", false), ("NoCall", false), ("NoCapture", false), ("NoCell", false), ("NoClosure", false), ("NoCommand", false), ("NoHouse", false), ("NoName", false), ("NoNumber", false), ("NoPlan", true), ("NoText", false), ("Nothing", false), ("Noticed", false), ("Taken", false), ("TooMany", false), ("Unlike", false)]
def ownE_NoText : Str → Option Bool := ownL [("InUse", false), ("NoBase", false), ("NoBody", false), ("NoCall", false), ("NoCapture", false), ("NoCell", false), ("NoClosure", false), ("NoCommand", false), ("NoHouse", false), ("NoName", false), ("NoNumber", false), ("NoPlan", false), ("NoText", true), ("Nothing", false), ("Noticed", false), ("Taken", false), ("TooMany", false), ("Unlike", false)]
def ownE_Nothing : Str → Option Bool := ownL [("InUse", false), ("NoBase", false), ("NoBody", false), ("NoCall", false), ("NoCapture", false), ("NoCell", false), ("NoClosure", false), ("NoCommand", false), ("NoHouse", false), ("NoName", false), ("NoNumber", false), ("NoPlan", false), ("NoText", false), ("Nothing", true), ("Noticed", false), ("Taken", false), ("TooMany", false), ("Unlike", false)]
def ownE_Noticed : Str → Option Bool := ownL [("InUse", false), ("NoBase", false), ("NoBody", false), ("NoCall", false), ("NoCapture", false), ("NoCell", false), ("NoClosure", false), ("NoCommand", false), ("NoHouse", false), ("NoName", false), ("NoNumber", false), ("NoPlan", false), ("NoText", false), ("Nothing", false), ("Noticed", true), ("Taken", false), ("TooMany", false), ("Unlike", false)]
def ownE_OverflowError : Str → Option Bool := ownL [("InUse", false), ("NoBase", false), ("NoBody", false), ("NoCall", false), ("NoCapture", false), ("NoCell", false), ("NoClosure", false), ("NoCommand", false), ("NoHouse", false), ("NoName", false), ("NoNumber", false), ("NoPlan", false), ("NoText", false), ("Nothing", false), ("Noticed", false), ("Taken", false), ("TooMany", true), ("Unlike", false)]
def ownE_RuntimeError : Str → Option Bool := ownL [("InUse", true), ("NoBase", false), ("NoBody", false), ("NoCall", false), ("NoCapture", false), ("NoCell", false), ("NoClosure", false), ("NoCommand", false), ("NoHouse", false), ("NoName", false), ("NoNumber", false), ("NoPlan", false), ("NoText", false), ("Nothing", true), ("Noticed", true), ("Taken", true), ("TooMany", false), ("Unlike", false)]
def ownE_Taken : Str → Option Bool := ownL [("InUse", false), ("NoBase", false), ("NoBody", false), ("NoCall", false), ("NoCapture", false), ("NoCell", false), ("NoClosure", false), ("NoCommand", false), ("NoHouse", false), ("NoName", false), ("NoNumber", false), ("NoPlan", false), ("NoText", false), ("Nothing", false), ("Noticed", false), ("Taken", true), ("TooMany", false), ("Unlike", false)]
def ownE_TooMany : Str → Option Bool := ownL [("InUse", false), ("NoBase", false), ("NoBody", false), ("NoCall", false), ("NoCapture", false), ("NoCell", false), ("NoClosure", false), ("NoCommand", false), ("NoHouse", false), ("NoName", false), ("NoNumber", false), ("NoPlan", false), ("NoText", false), ("Nothing", false), ("Noticed", false), ("Taken", false), ("TooMany", true), ("Unlike", false)]
def ownE_Unlike : Str → Option Bool := ownL [("InUse", false), ("NoBase", false), ("NoBody", false), ("NoCall", false), ("NoCapture", false), ("NoCell", false), ("NoClosure", false), ("NoCommand", false), ("NoHouse", false), ("NoName", false), ("NoNumber", false), ("NoPlan", false), ("NoText", false), ("Nothing", false), ("Noticed", false), ("Taken", false), ("TooMany", false), ("Unlike", true)]
def ownE_ValueError : Str → Option Bool := ownL [("InUse", false), ("NoBase", true), ("NoBody", true), ("NoCall", true), ("NoCapture", true), ("NoCell", false), ("NoClosure", false), ("NoCommand", true), ("NoHouse", true), ("NoName", true), ("NoNumber", true), ("NoPlan", true), ("NoText", true), ("Nothing", false), ("Noticed", false), ("Taken", false), ("TooMany", false), ("Unlike", true)]
structure Fx (K : PySem.W.Frag) (w : World) (mg : Str → Option Value) : Prop where
  d_law : ∃ f fd, mg "law" = some (.ref f) ∧ FunD K "law" "law" (defArgs (top 25)) (defBody (top 25)) (defScope (top 25)) [] [] f fd
  d_v_law_bag : ∃ f fd, mg "_law_bag" = some (.ref f) ∧ FunD K "_law_bag" "_law_bag" (defArgs (top 20)) (defBody (top 20)) (defScope (top 20)) [] [] f fd
  d_v_law_any : ∃ f fd, mg "_law_any" = some (.ref f) ∧ FunD K "_law_any" "_law_any" (defArgs (top 22)) (defBody (top 22)) (defScope (top 22)) [] [] f fd
  d_v_law_named_right : ∃ f fd, mg "_law_named_right" = some (.ref f) ∧ FunD K "_law_named_right" "_law_named_right" (defArgs (top 24)) (defBody (top 24)) (defScope (top 24)) [] [] f fd
  d_v_law_word : ∃ f fd, mg "_law_word" = some (.ref f) ∧ FunD K "_law_word" "_law_word" (defArgs (top 23)) (defBody (top 23)) (defScope (top 23)) [] [] f fd
  d_v_law_take : ∃ f fd, mg "_law_take" = some (.ref f) ∧ FunD K "_law_take" "_law_take" (defArgs (top 21)) (defBody (top 21)) (defScope (top 21)) [] [] f fd
  n_KeyError : mg "KeyError" = none
  n_LookupError : mg "LookupError" = none
  n_OverflowError : mg "OverflowError" = none
  n_RuntimeError : mg "RuntimeError" = none
  n_ValueError : mg "ValueError" = none
  n_abs : mg "abs" = none
  n_int : mg "int" = none
  n_isinstance : mg "isinstance" = none
  n_len : mg "len" = none
  n_max : mg "max" = none
  n_min : mg "min" = none
  n_range : mg "range" = none
  n_repr : mg "repr" = none
  n_str : mg "str" = none
  xk_InUse : ∃ C f fd, mg "InUse" = some (.ref C) ∧ XCl K C (bsN 1).2.1 (bsN 1).2.2 ∧ PySem.W.findIn K (.ref C) "__init__" = some (some (.ref f)) ∧ PySem.W.typeIn K (.ref f) = some (.type "function") ∧ FunD K "__init__" "InUse.__init__" (defArgs (inClass (top 15) 0)) (defBody (inClass (top 15) 0)) (defScope (inClass (top 15) 0)) [] [] f fd
  xo_InUse : OwnX K mg (bsN 1).2.1 (bsN 1).2.2 ownX_InUse
  xk_NoBase : ∃ C f fd, mg "NoBase" = some (.ref C) ∧ XCl K C (bsN 0).2.1 (bsN 0).2.2 ∧ PySem.W.findIn K (.ref C) "__init__" = some (some (.ref f)) ∧ PySem.W.typeIn K (.ref f) = some (.type "function") ∧ FunD K "__init__" "NoBase.__init__" (defArgs (inClass (top 1) 0)) (defBody (inClass (top 1) 0)) (defScope (inClass (top 1) 0)) [] [] f fd
  xo_NoBase : OwnX K mg (bsN 0).2.1 (bsN 0).2.2 ownX_NoBase
  xk_NoCall : ∃ C f fd, mg "NoCall" = some (.ref C) ∧ XCl K C (bsN 0).2.1 (bsN 0).2.2 ∧ PySem.W.findIn K (.ref C) "__init__" = some (some (.ref f)) ∧ PySem.W.typeIn K (.ref f) = some (.type "function") ∧ FunD K "__init__" "NoCall.__init__" (defArgs (inClass (top 6) 0)) (defBody (inClass (top 6) 0)) (defScope (inClass (top 6) 0)) [] [] f fd
  xo_NoCall : OwnX K mg (bsN 0).2.1 (bsN 0).2.2 ownX_NoCall
  xk_NoCapture : ∃ C f fd, mg "NoCapture" = some (.ref C) ∧ XCl K C (bsN 0).2.1 (bsN 0).2.2 ∧ PySem.W.findIn K (.ref C) "__init__" = some (some (.ref f)) ∧ PySem.W.typeIn K (.ref f) = some (.type "function") ∧ FunD K "__init__" "NoCapture.__init__" (defArgs (inClass (top 5) 0)) (defBody (inClass (top 5) 0)) (defScope (inClass (top 5) 0)) [] [] f fd
  xo_NoCapture : OwnX K mg (bsN 0).2.1 (bsN 0).2.2 ownX_NoCapture
  xk_NoCell : ∃ C f fd, mg "NoCell" = some (.ref C) ∧ XCl K C (bsN 3).2.1 (bsN 3).2.2 ∧ PySem.W.findIn K (.ref C) "__init__" = some (some (.ref f)) ∧ PySem.W.typeIn K (.ref f) = some (.type "function") ∧ FunD K "__init__" "NoCell.__init__" (defArgs (inClass (top 13) 0)) (defBody (inClass (top 13) 0)) (defScope (inClass (top 13) 0)) [] [] f fd
  xo_NoCell : OwnX K mg (bsN 3).2.1 (bsN 3).2.2 ownX_NoCell
  xk_NoClosure : ∃ C f fd, mg "NoClosure" = some (.ref C) ∧ XCl K C (bsN 3).2.1 (bsN 3).2.2 ∧ PySem.W.findIn K (.ref C) "__init__" = some (some (.ref f)) ∧ PySem.W.typeIn K (.ref f) = some (.type "function") ∧ FunD K "__init__" "NoClosure.__init__" (defArgs (inClass (top 12) 0)) (defBody (inClass (top 12) 0)) (defScope (inClass (top 12) 0)) [] [] f fd
  xo_NoClosure : OwnX K mg (bsN 3).2.1 (bsN 3).2.2 ownX_NoClosure
  xk_NoName : ∃ C f fd, mg "NoName" = some (.ref C) ∧ XCl K C (bsN 0).2.1 (bsN 0).2.2 ∧ PySem.W.findIn K (.ref C) "__init__" = some (some (.ref f)) ∧ PySem.W.typeIn K (.ref f) = some (.type "function") ∧ FunD K "__init__" "NoName.__init__" (defArgs (inClass (top 2) 0)) (defBody (inClass (top 2) 0)) (defScope (inClass (top 2) 0)) [] [] f fd
  xo_NoName : OwnX K mg (bsN 0).2.1 (bsN 0).2.2 ownX_NoName
  xk_NoNumber : ∃ C f fd, mg "NoNumber" = some (.ref C) ∧ XCl K C (bsN 0).2.1 (bsN 0).2.2 ∧ PySem.W.findIn K (.ref C) "__init__" = some (some (.ref f)) ∧ PySem.W.typeIn K (.ref f) = some (.type "function") ∧ FunD K "__init__" "NoNumber.__init__" (defArgs (inClass (top 3) 0)) (defBody (inClass (top 3) 0)) (defScope (inClass (top 3) 0)) [] [] f fd
  xo_NoNumber : OwnX K mg (bsN 0).2.1 (bsN 0).2.2 ownX_NoNumber
  xk_NoText : ∃ C f fd, mg "NoText" = some (.ref C) ∧ XCl K C (bsN 0).2.1 (bsN 0).2.2 ∧ PySem.W.findIn K (.ref C) "__init__" = some (some (.ref f)) ∧ PySem.W.typeIn K (.ref f) = some (.type "function") ∧ FunD K "__init__" "NoText.__init__" (defArgs (inClass (top 10) 0)) (defBody (inClass (top 10) 0)) (defScope (inClass (top 10) 0)) [] [] f fd
  xo_NoText : OwnX K mg (bsN 0).2.1 (bsN 0).2.2 ownX_NoText
  xk_Noticed : ∃ C f fd, mg "Noticed" = some (.ref C) ∧ XCl K C (bsN 1).2.1 (bsN 1).2.2 ∧ PySem.W.findIn K (.ref C) "__init__" = some (some (.ref f)) ∧ PySem.W.typeIn K (.ref f) = some (.type "function") ∧ FunD K "__init__" "Noticed.__init__" (defArgs (inClass (top 17) 0)) (defBody (inClass (top 17) 0)) (defScope (inClass (top 17) 0)) [] [] f fd
  xo_Noticed : OwnX K mg (bsN 1).2.1 (bsN 1).2.2 ownX_Noticed
  xk_Taken : ∃ C f fd, mg "Taken" = some (.ref C) ∧ XCl K C (bsN 1).2.1 (bsN 1).2.2 ∧ PySem.W.findIn K (.ref C) "__init__" = some (some (.ref f)) ∧ PySem.W.typeIn K (.ref f) = some (.type "function") ∧ FunD K "__init__" "Taken.__init__" (defArgs (inClass (top 14) 0)) (defBody (inClass (top 14) 0)) (defScope (inClass (top 14) 0)) [] [] f fd
  xo_Taken : OwnX K mg (bsN 1).2.1 (bsN 1).2.2 ownX_Taken
  xy_NoBody : TabY K mg "NoBody"
  xy_NoCommand : TabY K mg "NoCommand"
  xy_NoHouse : TabY K mg "NoHouse"
  xy_NoPlan : TabY K mg "NoPlan"
  xy_Nothing : TabY K mg "Nothing"
  xy_TooMany : TabY K mg "TooMany"
  xy_Unlike : TabY K mg "Unlike"
  vi_KeyError : PySem.W.findCls K (.type "KeyError") (.type "type") "__init__" = some (.val (.builtin "KeyError.__init__"))
  vi_RuntimeError : PySem.W.findCls K (.type "RuntimeError") (.type "type") "__init__" = some (.val (.builtin "RuntimeError.__init__"))
  vi_ValueError : PySem.W.findCls K (.type "ValueError") (.type "type") "__init__" = some (.val (.builtin "ValueError.__init__"))
  xn_InUse_name : ∀ c C, ownX_InUse c = true → mg c = some (.ref C) → PySem.W.findIn K (.ref C) "name" = some none
  xn_NoBase_base : ∀ c C, ownX_NoBase c = true → mg c = some (.ref C) → PySem.W.findIn K (.ref C) "base" = some none
  xn_NoCall_at : ∀ c C, ownX_NoCall c = true → mg c = some (.ref C) → PySem.W.findIn K (.ref C) "at" = some none
  xn_NoCapture_at : ∀ c C, ownX_NoCapture c = true → mg c = some (.ref C) → PySem.W.findIn K (.ref C) "at" = some none
  xn_NoCell_name : ∀ c C, ownX_NoCell c = true → mg c = some (.ref C) → PySem.W.findIn K (.ref C) "name" = some none
  xn_NoClosure_name : ∀ c C, ownX_NoClosure c = true → mg c = some (.ref C) → PySem.W.findIn K (.ref C) "name" = some none
  xn_NoName_name : ∀ c C, ownX_NoName c = true → mg c = some (.ref C) → PySem.W.findIn K (.ref C) "name" = some none
  xn_NoNumber_number : ∀ c C, ownX_NoNumber c = true → mg c = some (.ref C) → PySem.W.findIn K (.ref C) "number" = some none
  xn_NoText_at : ∀ c C, ownX_NoText c = true → mg c = some (.ref C) → PySem.W.findIn K (.ref C) "at" = some none
  xn_Noticed_history : ∀ c C, ownX_Noticed c = true → mg c = some (.ref C) → PySem.W.findIn K (.ref C) "history" = some none
  xn_Taken_name : ∀ c C, ownX_Taken c = true → mg c = some (.ref C) → PySem.W.findIn K (.ref C) "name" = some none
  xg_at : XfO K mg ownXA "at"
  xg_base : XfO K mg ownXA "base"
  xg_history : XfO K mg ownXA "history"
  xg_name : XfO K mg ownXA "name"
  xg_number : XfO K mg ownXA "number"
  ie_InUse : IsiXO K mg "InUse" ownE_InUse
  ie_KeyError : IsiX K mg (.type "KeyError") ownE_KeyError
  ie_LookupError : IsiX K mg (.type "LookupError") ownE_LookupError
  ie_NoBase : IsiXO K mg "NoBase" ownE_NoBase
  ie_NoBody : IsiXO K mg "NoBody" ownE_NoBody
  ie_NoCall : IsiXO K mg "NoCall" ownE_NoCall
  ie_NoCapture : IsiXO K mg "NoCapture" ownE_NoCapture
  ie_NoCell : IsiXO K mg "NoCell" ownE_NoCell
  ie_NoClosure : IsiXO K mg "NoClosure" ownE_NoClosure
  ie_NoCommand : IsiXO K mg "NoCommand" ownE_NoCommand
  ie_NoHouse : IsiXO K mg "NoHouse" ownE_NoHouse
  ie_NoName : IsiXO K mg "NoName" ownE_NoName
  ie_NoNumber : IsiXO K mg "NoNumber" ownE_NoNumber
  ie_NoPlan : IsiXO K mg "NoPlan" ownE_NoPlan
  ie_NoText : IsiXO K mg "NoText" ownE_NoText
  ie_Nothing : IsiXO K mg "Nothing" ownE_Nothing
  ie_Noticed : IsiXO K mg "Noticed" ownE_Noticed
  ie_OverflowError : IsiX K mg (.type "OverflowError") ownE_OverflowError
  ie_RuntimeError : IsiX K mg (.type "RuntimeError") ownE_RuntimeError
  ie_Taken : IsiXO K mg "Taken" ownE_Taken
  ie_TooMany : IsiXO K mg "TooMany" ownE_TooMany
  ie_Unlike : IsiXO K mg "Unlike" ownE_Unlike
  ie_ValueError : IsiX K mg (.type "ValueError") ownE_ValueError
structure Bun (P : Program) (w : World) (K : PySem.W.Frag) (mg : Str → Option Value) (base : Heap) (k : Nat) (F : Ph) : Prop where
  f_v_law_any_2 : TabF P w K mg base k "_law_any" [] F.f_v_law_any_2
  f_v_law_bag_2 : TabF P w K mg base k "_law_bag" [] F.f_v_law_bag_2
  f_v_law_named_right_1 : TabF P w K mg base k "_law_named_right" [] F.f_v_law_named_right_1
  f_v_law_take_2 : TabF P w K mg base k "_law_take" [] F.f_v_law_take_2
  f_v_law_word_1 : TabF P w K mg base k "_law_word" [] F.f_v_law_word_1
  x_NoCall_1 : TabZ P w K mg base k "NoCall" [] F.x_NoCall_1
  ix_NoCall_1 : TabX P w K mg base k "NoCall" [] F.ix_NoCall_1
  x_NoCapture_1 : TabZ P w K mg base k "NoCapture" [] F.x_NoCapture_1
  ix_NoCapture_1 : TabX P w K mg base k "NoCapture" [] F.ix_NoCapture_1
  x_NoNumber_1 : TabZ P w K mg base k "NoNumber" [] F.x_NoNumber_1
  ix_NoNumber_1 : TabX P w K mg base k "NoNumber" [] F.ix_NoNumber_1
  x_NoName_1 : TabZ P w K mg base k "NoName" [] F.x_NoName_1
  ix_NoName_1 : TabX P w K mg base k "NoName" [] F.ix_NoName_1
  x_NoBase_1 : TabZ P w K mg base k "NoBase" [] F.x_NoBase_1
  ix_NoBase_1 : TabX P w K mg base k "NoBase" [] F.ix_NoBase_1
  x_NoCell_1 : TabZ P w K mg base k "NoCell" [] F.x_NoCell_1
  ix_NoCell_1 : TabX P w K mg base k "NoCell" [] F.ix_NoCell_1
  x_NoClosure_1 : TabZ P w K mg base k "NoClosure" [] F.x_NoClosure_1
  ix_NoClosure_1 : TabX P w K mg base k "NoClosure" [] F.ix_NoClosure_1
  x_NoText_1 : TabZ P w K mg base k "NoText" [] F.x_NoText_1
  ix_NoText_1 : TabX P w K mg base k "NoText" [] F.ix_NoText_1
  x_InUse_1 : TabZ P w K mg base k "InUse" [] F.x_InUse_1
  ix_InUse_1 : TabX P w K mg base k "InUse" [] F.ix_InUse_1
  x_Taken_1 : TabZ P w K mg base k "Taken" [] F.x_Taken_1
  ix_Taken_1 : TabX P w K mg base k "Taken" [] F.ix_Taken_1
  x_Noticed_1 : TabZ P w K mg base k "Noticed" [] F.x_Noticed_1
  ix_Noticed_1 : TabX P w K mg base k "Noticed" [] F.ix_Noticed_1
  x_Taken_0_name : TabZ P w K mg base k "Taken" ["name"] F.x_Taken_0_name
  ix_Taken_0_name : TabX P w K mg base k "Taken" ["name"] F.ix_Taken_0_name
  x_NoClosure_0_name : TabZ P w K mg base k "NoClosure" ["name"] F.x_NoClosure_0_name
  ix_NoClosure_0_name : TabX P w K mg base k "NoClosure" ["name"] F.ix_NoClosure_0_name
  x_NoName_0_name : TabZ P w K mg base k "NoName" ["name"] F.x_NoName_0_name
  ix_NoName_0_name : TabX P w K mg base k "NoName" ["name"] F.ix_NoName_0_name
  x_NoCell_0_name : TabZ P w K mg base k "NoCell" ["name"] F.x_NoCell_0_name
  ix_NoCell_0_name : TabX P w K mg base k "NoCell" ["name"] F.ix_NoCell_0_name
  x_InUse_0_name : TabZ P w K mg base k "InUse" ["name"] F.x_InUse_0_name
  ix_InUse_0_name : TabX P w K mg base k "InUse" ["name"] F.ix_InUse_0_name
  x_NoText_0_at : TabZ P w K mg base k "NoText" ["at"] F.x_NoText_0_at
  ix_NoText_0_at : TabX P w K mg base k "NoText" ["at"] F.ix_NoText_0_at
  x_NoCall_0_at : TabZ P w K mg base k "NoCall" ["at"] F.x_NoCall_0_at
  ix_NoCall_0_at : TabX P w K mg base k "NoCall" ["at"] F.ix_NoCall_0_at
  x_NoCapture_0_at : TabZ P w K mg base k "NoCapture" ["at"] F.x_NoCapture_0_at
  ix_NoCapture_0_at : TabX P w K mg base k "NoCapture" ["at"] F.ix_NoCapture_0_at
  x_NoBase_0_base : TabZ P w K mg base k "NoBase" ["base"] F.x_NoBase_0_base
  ix_NoBase_0_base : TabX P w K mg base k "NoBase" ["base"] F.ix_NoBase_0_base
  x_NoNumber_0_number : TabZ P w K mg base k "NoNumber" ["number"] F.x_NoNumber_0_number
  ix_NoNumber_0_number : TabX P w K mg base k "NoNumber" ["number"] F.ix_NoNumber_0_number
  x_Noticed_0_history : TabZ P w K mg base k "Noticed" ["history"] F.x_Noticed_0_history
  ix_Noticed_0_history : TabX P w K mg base k "Noticed" ["history"] F.ix_Noticed_0_history
def N_law : List Str := ["_law_script", "_law_k", "_law_bag_here", "_law_term", "_law_some", "_law_words", "_law_one"]
def dn_law (F : Ph) : Ev → G → Rs := sSeq (sFor (fRng1 (fCall oMax2 (fCons (fC (.int 2)) (fCons (fCall oMin2 (fCons (fC (.int 12)) (fCons (fCall oLenA (fCons (fVar 0) (fNil))) (fNil)))) (fNil))))) (bNm 1) (sSeq (sSet 2 (fCallF F.f_v_law_bag_2 (fCons (fVar 0) (fCons (fVar 1) (fNil))))) (sSeq (sSet 3 (fCallF F.f_v_law_any_2 (fCons (fVar 2) (fCons (fLst (fNil)) (fNil))))) (sSeq (sIf (fNotT (fTest (fCallF F.f_v_law_named_right_1 (fCons (fVar 3) (fNil))))) (sRet (fC (.bl false))) (sNil)) (sSeq (sSet 4 (fLst (fCons (fMkA F.x_NoBase_1 (fCons (fVar 3) (fNil))) (fCons (fMkA F.x_NoName_1 (fCons (fVar 3) (fNil))) (fCons (fMkA F.x_NoNumber_1 (fCons (fVar 3) (fNil))) (fCons (fMakeY "NoBody") (fCons (fMkA F.x_NoCapture_1 (fCons (fVar 3) (fNil))) (fCons (fMkA F.x_NoCall_1 (fCons (fVar 3) (fNil))) (fCons (fMakeY "NoPlan") (fNil)))))))))) (sSeq (sSet 4 (fBin oAdd (fVar 4) (fLst (fCons (fMakeY "NoHouse") (fCons (fMakeY "Unlike") (fCons (fMkA F.x_NoText_1 (fCons (fVar 3) (fNil))) (fCons (fMakeY "NoCommand") (fCons (fMkA F.x_NoClosure_1 (fCons (fVar 3) (fNil))) (fCons (fMkA F.x_NoCell_1 (fCons (fVar 3) (fNil))) (fNil)))))))))) (sSeq (sSet 4 (fBin oAdd (fVar 4) (fLst (fCons (fMkA F.x_Taken_1 (fCons (fVar 3) (fNil))) (fCons (fMkA F.x_InUse_1 (fCons (fVar 3) (fNil))) (fNil)))))) (sSeq (sSet 5 (fLst (fCons (fC (.str "NoBase")) (fCons (fC (.str "NoName")) (fCons (fC (.str "NoNumber")) (fCons (fC (.str "NoBody")) (fCons (fC (.str "NoCapture")) (fCons (fC (.str "NoCall")) (fCons (fC (.str "NoPlan")) (fCons (fC (.str "NoHouse")) (fCons (fC (.str "Unlike")) (fNil)))))))))))) (sSeq (sSet 5 (fBin oAdd (fVar 5) (fLst (fCons (fC (.str "NoText")) (fCons (fC (.str "NoCommand")) (fCons (fC (.str "NoClosure")) (fCons (fC (.str "NoCell")) (fCons (fC (.str "Taken")) (fCons (fC (.str "InUse")) (fCons (fC (.str "Nothing")) (fCons (fC (.str "Noticed")) (fNil)))))))))))) (sSeq (sDrop (fAppend (fVar 5) (fCons (fC (.str "TooMany")) (fNil)))) (sIf (fTest (fBin oNe (fLc (fSrc (fBin oAdd (fVar 4) (fLst (fCons (fMakeY "Nothing") (fCons (fMkA F.x_Noticed_1 (fCons (fVar 3) (fNil))) (fCons (fMakeY "TooMany") (fNil))))))) (bNm 6) (fYes) (fCallF F.f_v_law_word_1 (fCons (fVar 6) (fNil))) (([("_law_one", 6)] : List (Str × Nat)).map (·.2))) (fVar 5))) (sRet (fC (.bl false))) (sNil)))))))))))) (sRet (fC (.bl true)))
theorem sc_law : FnScope N_law ["_law_script"] (defScope (top 25)) := ⟨rfl, rfl, rfl, by decide +kernel, rfl, by decide +kernel, by decide +kernel⟩
def N_v_law_bag : List Str := ["_law_script", "_law_spot_at", "_law_cell", "_law_digits"]
def dn_v_law_bag (F : Ph) : Ev → G → Rs := sSeq (sSet 2 (fIfE (fTest (fBin oLt (fVar 1) (fCall oLenA (fCons (fVar 0) (fNil))))) (fBin oIx (fVar 0) (fVar 1)) (fC (.int 0)))) (sSeq (sSet 3 (fIfE (fTest (fBin oGe (fCall oAbs (fCons (fVar 2) (fNil))) (fBin oPow (fC (.int 10)) (fC (.int 18))))) (fCall oAbs (fCons (fVar 2) (fNil))) (fC (.int 0)))) (sRet (fLst (fCons (fVar 3) (fCons (fBin oMod (fBin oPow (fBin oAdd (fBin oAdd (fBin oMod (fVar 2) (fC (.int 2147483647))) (fBin oMul (fC (.int 7121)) (fVar 1))) (fC (.int 11))) (fC (.int 3))) (fC (.int 2147483629))) (fCons (fC (.int 0)) (fNil)))))))
theorem sc_v_law_bag : FnScope N_v_law_bag ["_law_script", "_law_spot_at"] (defScope (top 20)) := ⟨rfl, rfl, rfl, by decide +kernel, rfl, by decide +kernel, by decide +kernel⟩
def N_v_law_any : List Str := ["_law_bag_here", "_law_objects", "_law_some", "_law_one"]
def dn_v_law_any (F : Ph) : Ev → G → Rs := sSeq (sSet 2 (fLst (fCons (fC .non) (fCons (fC (.bl true)) (fCons (fC (.bl false)) (fCons (fC (.int 0)) (fCons (fC (.int 1)) (fCons (fUn oNeg (fC (.int 1))) (fCons (fC (.int 2)) (fCons (fC (.int 3)) (fCons (fBin oPow (fC (.int 10)) (fC (.int 59))) (fCons (fC (.str "")) (fCons (fC (.str "a")) (fCons (fC (.str "x")) (fCons (fC (.str "y")) (fCons (fC (.str "A")) (fCons (fLst (fNil)) (fCons (fTup (fNil)) (fCons (fLst (fCons (fC (.int 0)) (fNil))) (fCons (fTup (fCons (fC (.str "end")) (fCons (fC (.int 0)) (fNil)))) (fCons (fTup (fCons (fTup (fCons (fC (.str "end")) (fCons (fC (.int 0)) (fNil)))) (fNil))) (fNil)))))))))))))))))))))) (sSeq (sSet 2 (fBin oAdd (fBin oAdd (fBin oAdd (fVar 2) (fLst (fCons (fTup (fCons (fC (.str "a")) (fCons (fC (.int 0)) (fNil)))) (fCons (fTup (fCons (fC (.str "get")) (fCons (fC (.str "x")) (fCons (fC (.int 0)) (fNil))))) (fCons (fLst (fCons (fC (.str "x")) (fNil))) (fCons (fTup (fCons (fC .non) (fCons (fLst (fCons (fC (.int 1)) (fNil))) (fNil)))) (fNil))))))) (fVar 1)) (fLc (fSrc (fVar 1)) (bNm 3) (fYes) (fTup (fCons (fVar 3) (fNil))) (([("_law_one", 3)] : List (Str × Nat)).map (·.2))))) (sRet (fBin oIx (fVar 2) (fCallF F.f_v_law_take_2 (fCons (fVar 0) (fCons (fCall oLenA (fCons (fVar 2) (fNil))) (fNil)))))))
theorem sc_v_law_any : FnScope N_v_law_any ["_law_bag_here", "_law_objects"] (defScope (top 22)) := ⟨rfl, rfl, rfl, by decide +kernel, rfl, by decide +kernel, by decide +kernel⟩
def N_v_law_named_right : List Str := ["_law_term", "_law_named", "_law_placed", "_law_found", "_law_one"]
def dn_v_law_named_right (F : Ph) : Ev → G → Rs := sSeq (sSet 1 (fLst (fCons (fMkA F.x_NoName_1 (fCons (fVar 0) (fNil))) (fCons (fMkK F.x_NoName_0_name (fCons (fVar 0) (fNil))) (fCons (fMkA F.x_NoClosure_1 (fCons (fVar 0) (fNil))) (fCons (fMkK F.x_NoClosure_0_name (fCons (fVar 0) (fNil))) (fCons (fMkA F.x_Taken_1 (fCons (fVar 0) (fNil))) (fCons (fMkK F.x_Taken_0_name (fCons (fVar 0) (fNil))) (fNil))))))))) (sSeq (sSet 1 (fBin oAdd (fVar 1) (fLst (fCons (fMkA F.x_InUse_1 (fCons (fVar 0) (fNil))) (fCons (fMkK F.x_InUse_0_name (fCons (fVar 0) (fNil))) (fCons (fMkA F.x_NoCell_1 (fCons (fVar 0) (fNil))) (fCons (fMkK F.x_NoCell_0_name (fCons (fVar 0) (fNil))) (fNil)))))))) (sSeq (sSet 2 (fLst (fCons (fMkA F.x_NoCapture_1 (fCons (fVar 0) (fNil))) (fCons (fMkK F.x_NoCapture_0_at (fCons (fVar 0) (fNil))) (fCons (fMkA F.x_NoCall_1 (fCons (fVar 0) (fNil))) (fCons (fMkK F.x_NoCall_0_at (fCons (fVar 0) (fNil))) (fCons (fMkA F.x_NoText_1 (fCons (fVar 0) (fNil))) (fCons (fMkK F.x_NoText_0_at (fCons (fVar 0) (fNil))) (fNil))))))))) (sSeq (sSet 3 (fBin oAdd (fBin oAdd (fLc (fSrc (fVar 1)) (bNm 4) (fYes) (fXget ownXA "name" (fVar 4)) (([("_law_one", 4)] : List (Str × Nat)).map (·.2))) (fLc (fSrc (fVar 2)) (bNm 4) (fYes) (fXget ownXA "at" (fVar 4)) (([("_law_one", 4)] : List (Str × Nat)).map (·.2)))) (fLst (fCons (fXget ownXA "base" (fMkA F.x_NoBase_1 (fCons (fVar 0) (fNil)))) (fCons (fXget ownXA "base" (fMkK F.x_NoBase_0_base (fCons (fVar 0) (fNil)))) (fNil)))))) (sSeq (sSet 3 (fBin oAdd (fVar 3) (fLst (fCons (fXget ownXA "number" (fMkA F.x_NoNumber_1 (fCons (fVar 0) (fNil)))) (fCons (fXget ownXA "number" (fMkK F.x_NoNumber_0_number (fCons (fVar 0) (fNil)))) (fCons (fXget ownXA "history" (fMkA F.x_Noticed_1 (fCons (fVar 0) (fNil)))) (fNil))))))) (sRet (fBin oEq (fLc (fSrc (fBin oAdd (fVar 3) (fLst (fCons (fXget ownXA "history" (fMkK F.x_Noticed_0_history (fCons (fVar 0) (fNil)))) (fNil))))) (bNm 4) (fYes) (fCall oReprA (fCons (fVar 4) (fNil))) (([("_law_one", 4)] : List (Str × Nat)).map (·.2))) (fBin oMul (fLst (fCons (fCall oReprA (fCons (fVar 0) (fNil))) (fNil))) (fC (.int 22)))))))))
theorem sc_v_law_named_right : FnScope N_v_law_named_right ["_law_term"] (defScope (top 24)) := ⟨rfl, rfl, rfl, by decide +kernel, rfl, by decide +kernel, by decide +kernel⟩
def N_NoCall_init : List Str := ["self", "at"]
def dn_NoCall_init (F : Ph) : Ev → G → Rs := sSeq (sDrop (fXini ownX_NoCall (fCons (fVar 0) (fCons (fBin oAdd (fC (.str "not a call: ")) (fCall oStrA (fCons (fVar 1) (fNil)))) (fNil))))) (sXfld ownX_NoCall "at" (fVar 1) (fVar 0))
theorem sc_NoCall_init : FnScope N_NoCall_init ["self", "at"] (defScope (inClass (top 6) 0)) := ⟨rfl, rfl, rfl, by decide +kernel, rfl, by decide +kernel, by decide +kernel⟩
def N_NoCapture_init : List Str := ["self", "at"]
def dn_NoCapture_init (F : Ph) : Ev → G → Rs := sSeq (sDrop (fXini ownX_NoCapture (fCons (fVar 0) (fCons (fBin oAdd (fC (.str "wrong captures: ")) (fCall oStrA (fCons (fVar 1) (fNil)))) (fNil))))) (sXfld ownX_NoCapture "at" (fVar 1) (fVar 0))
theorem sc_NoCapture_init : FnScope N_NoCapture_init ["self", "at"] (defScope (inClass (top 5) 0)) := ⟨rfl, rfl, rfl, by decide +kernel, rfl, by decide +kernel, by decide +kernel⟩
def N_NoNumber_init : List Str := ["self", "number"]
def dn_NoNumber_init (F : Ph) : Ev → G → Rs := sSeq (sDrop (fXini ownX_NoNumber (fCons (fVar 0) (fCons (fC (.str "not a number")) (fNil))))) (sXfld ownX_NoNumber "number" (fVar 1) (fVar 0))
theorem sc_NoNumber_init : FnScope N_NoNumber_init ["self", "number"] (defScope (inClass (top 3) 0)) := ⟨rfl, rfl, rfl, by decide +kernel, rfl, by decide +kernel, by decide +kernel⟩
def N_NoName_init : List Str := ["self", "name"]
def dn_NoName_init (F : Ph) : Ev → G → Rs := sSeq (sDrop (fXini ownX_NoName (fCons (fVar 0) (fCons (fC (.str "not a name")) (fNil))))) (sXfld ownX_NoName "name" (fVar 1) (fVar 0))
theorem sc_NoName_init : FnScope N_NoName_init ["self", "name"] (defScope (inClass (top 2) 0)) := ⟨rfl, rfl, rfl, by decide +kernel, rfl, by decide +kernel, by decide +kernel⟩
def N_NoBase_init : List Str := ["self", "base"]
def dn_NoBase_init (F : Ph) : Ev → G → Rs := sSeq (sDrop (fXini ownX_NoBase (fCons (fVar 0) (fCons (fC (.str "not a base")) (fNil))))) (sXfld ownX_NoBase "base" (fVar 1) (fVar 0))
theorem sc_NoBase_init : FnScope N_NoBase_init ["self", "base"] (defScope (inClass (top 1) 0)) := ⟨rfl, rfl, rfl, by decide +kernel, rfl, by decide +kernel, by decide +kernel⟩
def N_NoCell_init : List Str := ["self", "name"]
def dn_NoCell_init (F : Ph) : Ev → G → Rs := sSeq (sDrop (fXini ownX_NoCell (fCons (fVar 0) (fCons (fC (.str "no such cell")) (fNil))))) (sXfld ownX_NoCell "name" (fVar 1) (fVar 0))
theorem sc_NoCell_init : FnScope N_NoCell_init ["self", "name"] (defScope (inClass (top 13) 0)) := ⟨rfl, rfl, rfl, by decide +kernel, rfl, by decide +kernel, by decide +kernel⟩
def N_NoClosure_init : List Str := ["self", "name"]
def dn_NoClosure_init (F : Ph) : Ev → G → Rs := sSeq (sDrop (fXini ownX_NoClosure (fCons (fVar 0) (fCons (fC (.str "no such closure")) (fNil))))) (sXfld ownX_NoClosure "name" (fVar 1) (fVar 0))
theorem sc_NoClosure_init : FnScope N_NoClosure_init ["self", "name"] (defScope (inClass (top 12) 0)) := ⟨rfl, rfl, rfl, by decide +kernel, rfl, by decide +kernel, by decide +kernel⟩
def N_NoText_init : List Str := ["self", "at"]
def dn_NoText_init (F : Ph) : Ev → G → Rs := sSeq (sDrop (fXini ownX_NoText (fCons (fVar 0) (fCons (fBin oAdd (fC (.str "not so written: ")) (fCall oStrA (fCons (fVar 1) (fNil)))) (fNil))))) (sXfld ownX_NoText "at" (fVar 1) (fVar 0))
theorem sc_NoText_init : FnScope N_NoText_init ["self", "at"] (defScope (inClass (top 10) 0)) := ⟨rfl, rfl, rfl, by decide +kernel, rfl, by decide +kernel, by decide +kernel⟩
def N_InUse_init : List Str := ["self", "name"]
def dn_InUse_init (F : Ph) : Ev → G → Rs := sSeq (sDrop (fXini ownX_InUse (fCons (fVar 0) (fCons (fC (.str "closure is in use")) (fNil))))) (sXfld ownX_InUse "name" (fVar 1) (fVar 0))
theorem sc_InUse_init : FnScope N_InUse_init ["self", "name"] (defScope (inClass (top 15) 0)) := ⟨rfl, rfl, rfl, by decide +kernel, rfl, by decide +kernel, by decide +kernel⟩
def N_Taken_init : List Str := ["self", "name"]
def dn_Taken_init (F : Ph) : Ev → G → Rs := sSeq (sDrop (fXini ownX_Taken (fCons (fVar 0) (fCons (fC (.str "name is taken")) (fNil))))) (sXfld ownX_Taken "name" (fVar 1) (fVar 0))
theorem sc_Taken_init : FnScope N_Taken_init ["self", "name"] (defScope (inClass (top 14) 0)) := ⟨rfl, rfl, rfl, by decide +kernel, rfl, by decide +kernel, by decide +kernel⟩
def N_Noticed_init : List Str := ["self", "history"]
def dn_Noticed_init (F : Ph) : Ev → G → Rs := sSeq (sDrop (fXini ownX_Noticed (fCons (fVar 0) (fCons (fC (.str "the plan is noticed")) (fNil))))) (sXfld ownX_Noticed "history" (fVar 1) (fVar 0))
theorem sc_Noticed_init : FnScope N_Noticed_init ["self", "history"] (defScope (inClass (top 17) 0)) := ⟨rfl, rfl, rfl, by decide +kernel, rfl, by decide +kernel, by decide +kernel⟩
def N_v_law_word : List Str := ["_law_e", "_law_words", "_law_some", "_law_above", "_law_where", "_law_due", "_law_shown", "_law_one"]
def dn_v_law_word (F : Ph) : Ev → G → Rs := sSeq (sSet 1 (fLst (fCons (fC (.str "NoBase")) (fCons (fC (.str "NoName")) (fCons (fC (.str "NoNumber")) (fCons (fC (.str "NoBody")) (fCons (fC (.str "NoCapture")) (fCons (fC (.str "NoCall")) (fCons (fC (.str "NoPlan")) (fCons (fC (.str "NoHouse")) (fCons (fC (.str "Unlike")) (fCons (fC (.str "NoText")) (fNil))))))))))))) (sSeq (sSet 1 (fBin oAdd (fVar 1) (fLst (fCons (fC (.str "NoCommand")) (fCons (fC (.str "NoClosure")) (fCons (fC (.str "NoCell")) (fCons (fC (.str "Taken")) (fCons (fC (.str "InUse")) (fCons (fC (.str "Nothing")) (fCons (fC (.str "Noticed")) (fCons (fC (.str "TooMany")) (fNil)))))))))))) (sSeq (sSet 2 (fLst (fCons (fIsiX ownE_NoBase (fVar 0)) (fCons (fIsiX ownE_NoName (fVar 0)) (fCons (fIsiX ownE_NoNumber (fVar 0)) (fCons (fIsiX ownE_NoBody (fVar 0)) (fNil))))))) (sSeq (sSet 2 (fBin oAdd (fVar 2) (fLst (fCons (fIsiX ownE_NoCapture (fVar 0)) (fCons (fIsiX ownE_NoCall (fVar 0)) (fCons (fIsiX ownE_NoPlan (fVar 0)) (fCons (fIsiX ownE_NoHouse (fVar 0)) (fNil)))))))) (sSeq (sSet 2 (fBin oAdd (fVar 2) (fLst (fCons (fIsiX ownE_Unlike (fVar 0)) (fCons (fIsiX ownE_NoText (fVar 0)) (fCons (fIsiX ownE_NoCommand (fVar 0)) (fCons (fIsiX ownE_NoClosure (fVar 0)) (fNil)))))))) (sSeq (sSet 2 (fBin oAdd (fVar 2) (fLst (fCons (fIsiX ownE_Taken (fVar 0)) (fCons (fIsiX ownE_InUse (fVar 0)) (fCons (fIsiX ownE_Nothing (fVar 0)) (fCons (fIsiX ownE_Noticed (fVar 0)) (fNil)))))))) (sSeq (sDrop (fAppend (fVar 2) (fCons (fIsiX ownE_TooMany (fVar 0)) (fNil)))) (sSeq (sDrop (fBM "list" oInsert (fVar 2) (fCons (fC (.int 12)) (fCons (fIsiX ownE_NoCell (fVar 0)) (fNil))))) (sSeq (sSet 3 (fLst (fCons (fIsiX ownE_ValueError (fVar 0)) (fCons (fIsiX ownE_KeyError (fVar 0)) (fCons (fIsiX ownE_LookupError (fVar 0)) (fNil)))))) (sSeq (sSet 3 (fBin oAdd (fVar 3) (fLst (fCons (fIsiX ownE_RuntimeError (fVar 0)) (fCons (fIsiX ownE_OverflowError (fVar 0)) (fNil)))))) (sSeq (sIf (fTest (fBin oNe (fBM "list" oCount (fVar 2) (fCons (fC (.bl true)) (fNil))) (fC (.int 1)))) (sRet (fC (.str "several"))) (sNil)) (sSeq (sSet 4 (fBM "list" oIndex (fVar 2) (fCons (fC (.bl true)) (fNil)))) (sSeq (sSet 5 (fBin oIx (fTup (fCons (fC (.str "10000")) (fCons (fC (.str "01100")) (fCons (fC (.str "00010")) (fCons (fC (.str "00001")) (fNil)))))) (fBin oAdd (fBin oAdd (fCall oInt (fCons (fBin oGt (fVar 4) (fC (.int 10))) (fNil))) (fCall oInt (fCons (fBin oGt (fVar 4) (fC (.int 12))) (fNil)))) (fCall oInt (fCons (fBin oGt (fVar 4) (fC (.int 16))) (fNil)))))) (sSeq (sSet 6 (fJoin (fC (.str "")) (fCons (fLc (fSrc (fVar 3)) (bNm 7) (fYes) (fCall oStrA (fCons (fCall oInt (fCons (fVar 7) (fNil))) (fNil))) (([("_law_one", 7)] : List (Str × Nat)).map (·.2))) (fNil)))) (sRet (fIfE (fTest (fBin oEq (fVar 5) (fVar 6))) (fBin oIx (fVar 1) (fVar 4)) (fC (.str "several")))))))))))))))))
theorem sc_v_law_word : FnScope N_v_law_word ["_law_e"] (defScope (top 23)) := ⟨rfl, rfl, rfl, by decide +kernel, rfl, by decide +kernel, by decide +kernel⟩
def N_v_law_take : List Str := ["_law_bag_here", "_law_many", "_law_digit"]
def dn_v_law_take (F : Ph) : Ev → G → Rs := sSeq (sIf (fTest (fBin oGt (fBin oIx (fVar 0) (fC (.int 0))) (fC (.int 0)))) (sSeq (sSet 2 (fBin oMod (fBin oIx (fVar 0) (fC (.int 0))) (fVar 1))) (sSeq (sSub (fBin oDiv (fBin oIx (fVar 0) (fC (.int 0))) (fVar 1)) (fVar 0) (fC (.int 0)) setL) (sRet (fVar 2)))) (sNil)) (sSeq (sSub (fBin oAdd (fBin oIx (fVar 0) (fC (.int 2))) (fC (.int 1))) (fVar 0) (fC (.int 2)) setL) (sSeq (sSub (fBin oMod (fBin oAdd (fBin oAdd (fBin oMul (fBin oIx (fVar 0) (fC (.int 1))) (fC (.int 48271))) (fBin oMul (fBin oMul (fC (.int 6607)) (fBin oIx (fVar 0) (fC (.int 2)))) (fBin oIx (fVar 0) (fC (.int 2))))) (fC (.int 5))) (fC (.int 2147483647))) (fVar 0) (fC (.int 1)) setL) (sRet (fBin oMod (fBin oMod (fBin oPow (fBin oDiv (fBin oIx (fVar 0) (fC (.int 1))) (fC (.int 16))) (fC (.int 3))) (fC (.int 2147483587))) (fVar 1)))))
theorem sc_v_law_take : FnScope N_v_law_take ["_law_bag_here", "_law_many"] (defScope (top 21)) := ⟨rfl, rfl, rfl, by decide +kernel, rfl, by decide +kernel, by decide +kernel⟩
section
variable {P : Program} {w : World} {K : PySem.W.Frag} {mg : Str → Option Value} {base : Heap} {k : Nat} {F : Ph}
theorem b_law (T : Fx K w mg) (B : Bun P w K mg base k F) (f : Addr) (cdv : Value) (A : Around) (outer : List Env) (s : Shared) (H : Hp) (E : XK) (hr : Room k (A.deeper (envOfC "law" (defScope (top 25)) s.heap.objs.size f cdv))) :
    FB (cxOf (L2.CX P w) P w K mg base N_law "law" (defScope (top 25)) f cdv A outer s H E) (fun cls d _ H' => E cls d H') (defBody (top 25)) (dn_law F) := by
  have sc := sc_law
  have hu : (A.deeper (envOfC "law" (defScope (top 25)) s.heap.objs.size f cdv)).units + 64 < cLine := by
    have h := hr.r.un
    omega
  have hu2 : (A.deeper (envOfC "law" (defScope (top 25)) s.heap.objs.size f cdv)).units + 65 < cLine := by
    have h := hr.r.un
    omega
  have tk : Takes (cxOf (L2.CX P w) P w K mg base N_law "law" (defScope (top 25)) f cdv A outer s H E) (fun cls d _ H' => E cls d H') := takes_of rfl rfl rfl rfl
  unfold dn_law
  exact (fb_cons (fs_for (passes_of rfl) rfl (fi_rng1 T.n_range (fe_callB (cs_max2 rfl) T.n_max bt_max (fa_cons fe_int (fa_cons (fe_callB (cs_min2 rfl) T.n_min bt_min (fa_cons fe_int (fa_cons (fe_callB cs_lenA T.n_len bt_len (fa_cons (fe_var 0) fa_nil)) fa_nil))) fa_nil)))) (fg_nm 1 sc.nd (Or.inl rfl)) (fb_cons (fs_set 2 sc.nd (Or.inl rfl) (fe_call B.f_v_law_bag_2 hr tk (fa_cons (fe_var 0) (fa_cons (fe_var 1) fa_nil))))
  (fb_cons (fs_set 3 sc.nd (Or.inl rfl) (fe_call B.f_v_law_any_2 hr tk (fa_cons (fe_var 2) (fa_cons (fe_lst fa_nil) fa_nil))))
  (fb_cons (fs_if (ft_not (ft_val (fe_call B.f_v_law_named_right_1 hr tk (fa_cons (fe_var 3) fa_nil)))) (fb_one (fs_ret fe_bl)) fb_nil)
  (fb_cons (fs_set 4 sc.nd (Or.inl rfl) (fe_lst (fa_cons (fe_mkX B.x_NoBase_1 hr tk (fa_cons (fe_var 3) fa_nil)) (fa_cons (fe_mkX B.x_NoName_1 hr tk (fa_cons (fe_var 3) fa_nil)) (fa_cons (fe_mkX B.x_NoNumber_1 hr tk (fa_cons (fe_var 3) fa_nil)) (fa_cons (fe_makeY T.xy_NoBody) (fa_cons (fe_mkX B.x_NoCapture_1 hr tk (fa_cons (fe_var 3) fa_nil)) (fa_cons (fe_mkX B.x_NoCall_1 hr tk (fa_cons (fe_var 3) fa_nil)) (fa_cons (fe_makeY T.xy_NoPlan) fa_nil)))))))))
  (fb_cons (fs_set 4 sc.nd (Or.inl rfl) (fe_bin os_add (fe_var 4) (fe_lst (fa_cons (fe_makeY T.xy_NoHouse) (fa_cons (fe_makeY T.xy_Unlike) (fa_cons (fe_mkX B.x_NoText_1 hr tk (fa_cons (fe_var 3) fa_nil)) (fa_cons (fe_makeY T.xy_NoCommand) (fa_cons (fe_mkX B.x_NoClosure_1 hr tk (fa_cons (fe_var 3) fa_nil)) (fa_cons (fe_mkX B.x_NoCell_1 hr tk (fa_cons (fe_var 3) fa_nil)) fa_nil)))))))))
  (fb_cons (fs_set 4 sc.nd (Or.inl rfl) (fe_bin os_add (fe_var 4) (fe_lst (fa_cons (fe_mkX B.x_Taken_1 hr tk (fa_cons (fe_var 3) fa_nil)) (fa_cons (fe_mkX B.x_InUse_1 hr tk (fa_cons (fe_var 3) fa_nil)) fa_nil)))))
  (fb_cons (fs_set 5 sc.nd (Or.inl rfl) (fe_lst (fa_cons fe_str (fa_cons fe_str (fa_cons fe_str (fa_cons fe_str (fa_cons fe_str (fa_cons fe_str (fa_cons fe_str (fa_cons fe_str (fa_cons fe_str fa_nil)))))))))))
  (fb_cons (fs_set 5 sc.nd (Or.inl rfl) (fe_bin os_add (fe_var 5) (fe_lst (fa_cons fe_str (fa_cons fe_str (fa_cons fe_str (fa_cons fe_str (fa_cons fe_str (fa_cons fe_str (fa_cons fe_str (fa_cons fe_str fa_nil)))))))))))
  (fb_cons (fs_expr (fe_append (fe_var 5) (fa_cons fe_str fa_nil)))
  (fb_one (fs_if (ft_cmp (os_ne hu) (fe_lc [("_law_one", 6)] rfl sc.nd (fi_any (fe_bin os_add (fe_var 4) (fe_lst (fa_cons (fe_makeY T.xy_Nothing) (fa_cons (fe_mkX B.x_Noticed_1 hr tk (fa_cons (fe_var 3) fa_nil)) (fa_cons (fe_makeY T.xy_TooMany) fa_nil)))))) (blkOk_by (by kernel_rfl)) (fun _ _ _ _ _ => (fg_nm 6 sc.nd (Or.inl rfl))) (fun _ _ _ _ _ => fts_nil) (fun _ _ _ _ _ => (fe_call B.f_v_law_word_1 hr takes0 (fa_cons (fe_var 6) fa_nil)))) (fe_var 5)) (fb_one (fs_ret fe_bl)) fb_nil))))))))))))
  (fb_one (fs_ret fe_bl)))
theorem b_v_law_bag (T : Fx K w mg) (B : Bun P w K mg base k F) (f : Addr) (cdv : Value) (A : Around) (outer : List Env) (s : Shared) (H : Hp) (E : XK) (hr : Room k (A.deeper (envOfC "_law_bag" (defScope (top 20)) s.heap.objs.size f cdv))) :
    FB (cxOf (L2.CX P w) P w K mg base N_v_law_bag "_law_bag" (defScope (top 20)) f cdv A outer s H E) (fun cls d _ H' => E cls d H') (defBody (top 20)) (dn_v_law_bag F) := by
  have sc := sc_v_law_bag
  have hu : (A.deeper (envOfC "_law_bag" (defScope (top 20)) s.heap.objs.size f cdv)).units + 64 < cLine := by
    have h := hr.r.un
    omega
  have hu2 : (A.deeper (envOfC "_law_bag" (defScope (top 20)) s.heap.objs.size f cdv)).units + 65 < cLine := by
    have h := hr.r.un
    omega
  have tk : Takes (cxOf (L2.CX P w) P w K mg base N_v_law_bag "_law_bag" (defScope (top 20)) f cdv A outer s H E) (fun cls d _ H' => E cls d H') := takes_of rfl rfl rfl rfl
  unfold dn_v_law_bag
  exact (fb_cons (fs_set 2 sc.nd (Or.inl rfl) (fe_if (ft_cmp os_lt (fe_var 1) (fe_callB cs_lenA T.n_len bt_len (fa_cons (fe_var 0) fa_nil))) (fe_ix xs_ix (fe_var 0) (fe_var 1)) fe_int))
  (fb_cons (fs_set 3 sc.nd (Or.inl rfl) (fe_if (ft_cmp os_ge (fe_callB cs_abs T.n_abs bt_abs (fa_cons (fe_var 2) fa_nil)) (fe_bin os_pow fe_int fe_int)) (fe_callB cs_abs T.n_abs bt_abs (fa_cons (fe_var 2) fa_nil)) fe_int))
  (fb_one (fs_ret (fe_lst (fa_cons (fe_var 3) (fa_cons (fe_bin os_mod (fe_bin os_pow (fe_bin os_add (fe_bin os_add (fe_bin os_mod (fe_var 2) fe_int) (fe_bin os_mul fe_int (fe_var 1))) fe_int) fe_int) fe_int) (fa_cons fe_int fa_nil))))))))
theorem b_v_law_any (T : Fx K w mg) (B : Bun P w K mg base k F) (f : Addr) (cdv : Value) (A : Around) (outer : List Env) (s : Shared) (H : Hp) (E : XK) (hr : Room k (A.deeper (envOfC "_law_any" (defScope (top 22)) s.heap.objs.size f cdv))) :
    FB (cxOf (L2.CX P w) P w K mg base N_v_law_any "_law_any" (defScope (top 22)) f cdv A outer s H E) (fun cls d _ H' => E cls d H') (defBody (top 22)) (dn_v_law_any F) := by
  have sc := sc_v_law_any
  have hu : (A.deeper (envOfC "_law_any" (defScope (top 22)) s.heap.objs.size f cdv)).units + 64 < cLine := by
    have h := hr.r.un
    omega
  have hu2 : (A.deeper (envOfC "_law_any" (defScope (top 22)) s.heap.objs.size f cdv)).units + 65 < cLine := by
    have h := hr.r.un
    omega
  have tk : Takes (cxOf (L2.CX P w) P w K mg base N_v_law_any "_law_any" (defScope (top 22)) f cdv A outer s H E) (fun cls d _ H' => E cls d H') := takes_of rfl rfl rfl rfl
  unfold dn_v_law_any
  exact (fb_cons (fs_set 2 sc.nd (Or.inl rfl) (fe_lst (fa_cons fe_non (fa_cons fe_bl (fa_cons fe_bl (fa_cons fe_int (fa_cons fe_int (fa_cons (fe_un us_neg fe_int) (fa_cons fe_int (fa_cons fe_int (fa_cons (fe_bin os_pow fe_int fe_int) (fa_cons fe_str (fa_cons fe_str (fa_cons fe_str (fa_cons fe_str (fa_cons fe_str (fa_cons (fe_lst fa_nil) (fa_cons (fe_tup fa_nil) (fa_cons (fe_lst (fa_cons fe_int fa_nil)) (fa_cons (fe_tup (fa_cons fe_str (fa_cons fe_int fa_nil))) (fa_cons (fe_tup (fa_cons (fe_tup (fa_cons fe_str (fa_cons fe_int fa_nil))) fa_nil)) fa_nil)))))))))))))))))))))
  (fb_cons (fs_set 2 sc.nd (Or.inl rfl) (fe_bin os_add (fe_bin os_add (fe_bin os_add (fe_var 2) (fe_lst (fa_cons (fe_tup (fa_cons fe_str (fa_cons fe_int fa_nil))) (fa_cons (fe_tup (fa_cons fe_str (fa_cons fe_str (fa_cons fe_int fa_nil)))) (fa_cons (fe_lst (fa_cons fe_str fa_nil)) (fa_cons (fe_tup (fa_cons fe_non (fa_cons (fe_lst (fa_cons fe_int fa_nil)) fa_nil))) fa_nil)))))) (fe_var 1)) (fe_lc [("_law_one", 3)] rfl sc.nd (fi_any (fe_var 1)) (blkOk_by (by kernel_rfl)) (fun _ _ _ _ _ => (fg_nm 3 sc.nd (Or.inl rfl))) (fun _ _ _ _ _ => fts_nil) (fun _ _ _ _ _ => (fe_tup (fa_cons (fe_var 3) fa_nil))))))
  (fb_one (fs_ret (fe_ix xs_ix (fe_var 2) (fe_call B.f_v_law_take_2 hr tk (fa_cons (fe_var 0) (fa_cons (fe_callB cs_lenA T.n_len bt_len (fa_cons (fe_var 2) fa_nil)) fa_nil))))))))
theorem b_v_law_named_right (T : Fx K w mg) (B : Bun P w K mg base k F) (f : Addr) (cdv : Value) (A : Around) (outer : List Env) (s : Shared) (H : Hp) (E : XK) (hr : Room k (A.deeper (envOfC "_law_named_right" (defScope (top 24)) s.heap.objs.size f cdv))) :
    FB (cxOf (L2.CX P w) P w K mg base N_v_law_named_right "_law_named_right" (defScope (top 24)) f cdv A outer s H E) (fun cls d _ H' => E cls d H') (defBody (top 24)) (dn_v_law_named_right F) := by
  have sc := sc_v_law_named_right
  have hu : (A.deeper (envOfC "_law_named_right" (defScope (top 24)) s.heap.objs.size f cdv)).units + 64 < cLine := by
    have h := hr.r.un
    omega
  have hu2 : (A.deeper (envOfC "_law_named_right" (defScope (top 24)) s.heap.objs.size f cdv)).units + 65 < cLine := by
    have h := hr.r.un
    omega
  have tk : Takes (cxOf (L2.CX P w) P w K mg base N_v_law_named_right "_law_named_right" (defScope (top 24)) f cdv A outer s H E) (fun cls d _ H' => E cls d H') := takes_of rfl rfl rfl rfl
  unfold dn_v_law_named_right
  exact (fb_cons (fs_set 1 sc.nd (Or.inl rfl) (fe_lst (fa_cons (fe_mkX B.x_NoName_1 hr tk (fa_cons (fe_var 0) fa_nil)) (fa_cons (fe_mkXK B.x_NoName_0_name hr tk (fk_cons (fe_var 0) fk_nil)) (fa_cons (fe_mkX B.x_NoClosure_1 hr tk (fa_cons (fe_var 0) fa_nil)) (fa_cons (fe_mkXK B.x_NoClosure_0_name hr tk (fk_cons (fe_var 0) fk_nil)) (fa_cons (fe_mkX B.x_Taken_1 hr tk (fa_cons (fe_var 0) fa_nil)) (fa_cons (fe_mkXK B.x_Taken_0_name hr tk (fk_cons (fe_var 0) fk_nil)) fa_nil))))))))
  (fb_cons (fs_set 1 sc.nd (Or.inl rfl) (fe_bin os_add (fe_var 1) (fe_lst (fa_cons (fe_mkX B.x_InUse_1 hr tk (fa_cons (fe_var 0) fa_nil)) (fa_cons (fe_mkXK B.x_InUse_0_name hr tk (fk_cons (fe_var 0) fk_nil)) (fa_cons (fe_mkX B.x_NoCell_1 hr tk (fa_cons (fe_var 0) fa_nil)) (fa_cons (fe_mkXK B.x_NoCell_0_name hr tk (fk_cons (fe_var 0) fk_nil)) fa_nil)))))))
  (fb_cons (fs_set 2 sc.nd (Or.inl rfl) (fe_lst (fa_cons (fe_mkX B.x_NoCapture_1 hr tk (fa_cons (fe_var 0) fa_nil)) (fa_cons (fe_mkXK B.x_NoCapture_0_at hr tk (fk_cons (fe_var 0) fk_nil)) (fa_cons (fe_mkX B.x_NoCall_1 hr tk (fa_cons (fe_var 0) fa_nil)) (fa_cons (fe_mkXK B.x_NoCall_0_at hr tk (fk_cons (fe_var 0) fk_nil)) (fa_cons (fe_mkX B.x_NoText_1 hr tk (fa_cons (fe_var 0) fa_nil)) (fa_cons (fe_mkXK B.x_NoText_0_at hr tk (fk_cons (fe_var 0) fk_nil)) fa_nil))))))))
  (fb_cons (fs_set 3 sc.nd (Or.inl rfl) (fe_bin os_add (fe_bin os_add (fe_lc [("_law_one", 4)] rfl sc.nd (fi_any (fe_var 1)) (blkOk_by (by kernel_rfl)) (fun _ _ _ _ _ => (fg_nm 4 sc.nd (Or.inl rfl))) (fun _ _ _ _ _ => fts_nil) (fun _ _ _ _ _ => (fe_xget ownXA T.xg_name (fe_var 4)))) (fe_lc [("_law_one", 4)] rfl sc.nd (fi_any (fe_var 2)) (blkOk_by (by kernel_rfl)) (fun _ _ _ _ _ => (fg_nm 4 sc.nd (Or.inl rfl))) (fun _ _ _ _ _ => fts_nil) (fun _ _ _ _ _ => (fe_xget ownXA T.xg_at (fe_var 4))))) (fe_lst (fa_cons (fe_xget ownXA T.xg_base (fe_mkX B.x_NoBase_1 hr tk (fa_cons (fe_var 0) fa_nil))) (fa_cons (fe_xget ownXA T.xg_base (fe_mkXK B.x_NoBase_0_base hr tk (fk_cons (fe_var 0) fk_nil))) fa_nil)))))
  (fb_cons (fs_set 3 sc.nd (Or.inl rfl) (fe_bin os_add (fe_var 3) (fe_lst (fa_cons (fe_xget ownXA T.xg_number (fe_mkX B.x_NoNumber_1 hr tk (fa_cons (fe_var 0) fa_nil))) (fa_cons (fe_xget ownXA T.xg_number (fe_mkXK B.x_NoNumber_0_number hr tk (fk_cons (fe_var 0) fk_nil))) (fa_cons (fe_xget ownXA T.xg_history (fe_mkX B.x_Noticed_1 hr tk (fa_cons (fe_var 0) fa_nil))) fa_nil))))))
  (fb_one (fs_ret (fe_cmp (os_eq hu) (fe_lc [("_law_one", 4)] rfl sc.nd (fi_any (fe_bin os_add (fe_var 3) (fe_lst (fa_cons (fe_xget ownXA T.xg_history (fe_mkXK B.x_Noticed_0_history hr tk (fk_cons (fe_var 0) fk_nil))) fa_nil)))) (blkOk_by (by kernel_rfl)) (fun _ _ _ _ _ => (fg_nm 4 sc.nd (Or.inl rfl))) (fun _ _ _ _ _ => fts_nil) (fun _ _ _ _ _ => (fe_callB (cs_reprA hr.gd hu) T.n_repr bt_repr (fa_cons (fe_var 4) fa_nil)))) (fe_bin os_mul (fe_lst (fa_cons (fe_callB (cs_reprA hr.gd hu) T.n_repr bt_repr (fa_cons (fe_var 0) fa_nil)) fa_nil)) fe_int)))))))))
theorem b_NoCall_init (T : Fx K w mg) (B : Bun P w K mg base k F) (f : Addr) (cdv : Value) (A : Around) (outer : List Env) (s : Shared) (H : Hp) (E : XK) (hr : Room k (A.deeper (envOfC "NoCall.__init__" (defScope (inClass (top 6) 0)) s.heap.objs.size f cdv))) :
    FB (cxOf (L2.CX P w) P w K mg base N_NoCall_init "NoCall.__init__" (defScope (inClass (top 6) 0)) f cdv A outer s H E) (fun cls d _ H' => E cls d H') (defBody (inClass (top 6) 0)) (dn_NoCall_init F) := by
  have sc := sc_NoCall_init
  have hu : (A.deeper (envOfC "NoCall.__init__" (defScope (inClass (top 6) 0)) s.heap.objs.size f cdv)).units + 64 < cLine := by
    have h := hr.r.un
    omega
  have hu2 : (A.deeper (envOfC "NoCall.__init__" (defScope (inClass (top 6) 0)) s.heap.objs.size f cdv)).units + 65 < cLine := by
    have h := hr.r.un
    omega
  have tk : Takes (cxOf (L2.CX P w) P w K mg base N_NoCall_init "NoCall.__init__" (defScope (inClass (top 6) 0)) f cdv A outer s H E) (fun cls d _ H' => E cls d H') := takes_of rfl rfl rfl rfl
  unfold dn_NoCall_init
  exact (fb_cons (fs_expr (fe_xini ownX_NoCall xbV T.xo_NoCall T.n_ValueError bt_ValueError T.vi_ValueError (by decide +kernel) (by decide +kernel) (fa_cons (fe_var 0) (fa_cons (fe_bin os_add fe_str (fe_callTy (cs_strA hr.gd hu) T.n_str bt_str (fa_cons (fe_var 1) fa_nil))) fa_nil))))
  (fb_one (fs_xfld ownX_NoCall xbV T.xo_NoCall T.xn_NoCall_at (fe_var 1) (fe_var 0))))
theorem b_NoCapture_init (T : Fx K w mg) (B : Bun P w K mg base k F) (f : Addr) (cdv : Value) (A : Around) (outer : List Env) (s : Shared) (H : Hp) (E : XK) (hr : Room k (A.deeper (envOfC "NoCapture.__init__" (defScope (inClass (top 5) 0)) s.heap.objs.size f cdv))) :
    FB (cxOf (L2.CX P w) P w K mg base N_NoCapture_init "NoCapture.__init__" (defScope (inClass (top 5) 0)) f cdv A outer s H E) (fun cls d _ H' => E cls d H') (defBody (inClass (top 5) 0)) (dn_NoCapture_init F) := by
  have sc := sc_NoCapture_init
  have hu : (A.deeper (envOfC "NoCapture.__init__" (defScope (inClass (top 5) 0)) s.heap.objs.size f cdv)).units + 64 < cLine := by
    have h := hr.r.un
    omega
  have hu2 : (A.deeper (envOfC "NoCapture.__init__" (defScope (inClass (top 5) 0)) s.heap.objs.size f cdv)).units + 65 < cLine := by
    have h := hr.r.un
    omega
  have tk : Takes (cxOf (L2.CX P w) P w K mg base N_NoCapture_init "NoCapture.__init__" (defScope (inClass (top 5) 0)) f cdv A outer s H E) (fun cls d _ H' => E cls d H') := takes_of rfl rfl rfl rfl
  unfold dn_NoCapture_init
  exact (fb_cons (fs_expr (fe_xini ownX_NoCapture xbV T.xo_NoCapture T.n_ValueError bt_ValueError T.vi_ValueError (by decide +kernel) (by decide +kernel) (fa_cons (fe_var 0) (fa_cons (fe_bin os_add fe_str (fe_callTy (cs_strA hr.gd hu) T.n_str bt_str (fa_cons (fe_var 1) fa_nil))) fa_nil))))
  (fb_one (fs_xfld ownX_NoCapture xbV T.xo_NoCapture T.xn_NoCapture_at (fe_var 1) (fe_var 0))))
theorem b_NoNumber_init (T : Fx K w mg) (B : Bun P w K mg base k F) (f : Addr) (cdv : Value) (A : Around) (outer : List Env) (s : Shared) (H : Hp) (E : XK) (hr : Room k (A.deeper (envOfC "NoNumber.__init__" (defScope (inClass (top 3) 0)) s.heap.objs.size f cdv))) :
    FB (cxOf (L2.CX P w) P w K mg base N_NoNumber_init "NoNumber.__init__" (defScope (inClass (top 3) 0)) f cdv A outer s H E) (fun cls d _ H' => E cls d H') (defBody (inClass (top 3) 0)) (dn_NoNumber_init F) := by
  have sc := sc_NoNumber_init
  have hu : (A.deeper (envOfC "NoNumber.__init__" (defScope (inClass (top 3) 0)) s.heap.objs.size f cdv)).units + 64 < cLine := by
    have h := hr.r.un
    omega
  have hu2 : (A.deeper (envOfC "NoNumber.__init__" (defScope (inClass (top 3) 0)) s.heap.objs.size f cdv)).units + 65 < cLine := by
    have h := hr.r.un
    omega
  have tk : Takes (cxOf (L2.CX P w) P w K mg base N_NoNumber_init "NoNumber.__init__" (defScope (inClass (top 3) 0)) f cdv A outer s H E) (fun cls d _ H' => E cls d H') := takes_of rfl rfl rfl rfl
  unfold dn_NoNumber_init
  exact (fb_cons (fs_expr (fe_xini ownX_NoNumber xbV T.xo_NoNumber T.n_ValueError bt_ValueError T.vi_ValueError (by decide +kernel) (by decide +kernel) (fa_cons (fe_var 0) (fa_cons fe_str fa_nil))))
  (fb_one (fs_xfld ownX_NoNumber xbV T.xo_NoNumber T.xn_NoNumber_number (fe_var 1) (fe_var 0))))
theorem b_NoName_init (T : Fx K w mg) (B : Bun P w K mg base k F) (f : Addr) (cdv : Value) (A : Around) (outer : List Env) (s : Shared) (H : Hp) (E : XK) (hr : Room k (A.deeper (envOfC "NoName.__init__" (defScope (inClass (top 2) 0)) s.heap.objs.size f cdv))) :
    FB (cxOf (L2.CX P w) P w K mg base N_NoName_init "NoName.__init__" (defScope (inClass (top 2) 0)) f cdv A outer s H E) (fun cls d _ H' => E cls d H') (defBody (inClass (top 2) 0)) (dn_NoName_init F) := by
  have sc := sc_NoName_init
  have hu : (A.deeper (envOfC "NoName.__init__" (defScope (inClass (top 2) 0)) s.heap.objs.size f cdv)).units + 64 < cLine := by
    have h := hr.r.un
    omega
  have hu2 : (A.deeper (envOfC "NoName.__init__" (defScope (inClass (top 2) 0)) s.heap.objs.size f cdv)).units + 65 < cLine := by
    have h := hr.r.un
    omega
  have tk : Takes (cxOf (L2.CX P w) P w K mg base N_NoName_init "NoName.__init__" (defScope (inClass (top 2) 0)) f cdv A outer s H E) (fun cls d _ H' => E cls d H') := takes_of rfl rfl rfl rfl
  unfold dn_NoName_init
  exact (fb_cons (fs_expr (fe_xini ownX_NoName xbV T.xo_NoName T.n_ValueError bt_ValueError T.vi_ValueError (by decide +kernel) (by decide +kernel) (fa_cons (fe_var 0) (fa_cons fe_str fa_nil))))
  (fb_one (fs_xfld ownX_NoName xbV T.xo_NoName T.xn_NoName_name (fe_var 1) (fe_var 0))))
theorem b_NoBase_init (T : Fx K w mg) (B : Bun P w K mg base k F) (f : Addr) (cdv : Value) (A : Around) (outer : List Env) (s : Shared) (H : Hp) (E : XK) (hr : Room k (A.deeper (envOfC "NoBase.__init__" (defScope (inClass (top 1) 0)) s.heap.objs.size f cdv))) :
    FB (cxOf (L2.CX P w) P w K mg base N_NoBase_init "NoBase.__init__" (defScope (inClass (top 1) 0)) f cdv A outer s H E) (fun cls d _ H' => E cls d H') (defBody (inClass (top 1) 0)) (dn_NoBase_init F) := by
  have sc := sc_NoBase_init
  have hu : (A.deeper (envOfC "NoBase.__init__" (defScope (inClass (top 1) 0)) s.heap.objs.size f cdv)).units + 64 < cLine := by
    have h := hr.r.un
    omega
  have hu2 : (A.deeper (envOfC "NoBase.__init__" (defScope (inClass (top 1) 0)) s.heap.objs.size f cdv)).units + 65 < cLine := by
    have h := hr.r.un
    omega
  have tk : Takes (cxOf (L2.CX P w) P w K mg base N_NoBase_init "NoBase.__init__" (defScope (inClass (top 1) 0)) f cdv A outer s H E) (fun cls d _ H' => E cls d H') := takes_of rfl rfl rfl rfl
  unfold dn_NoBase_init
  exact (fb_cons (fs_expr (fe_xini ownX_NoBase xbV T.xo_NoBase T.n_ValueError bt_ValueError T.vi_ValueError (by decide +kernel) (by decide +kernel) (fa_cons (fe_var 0) (fa_cons fe_str fa_nil))))
  (fb_one (fs_xfld ownX_NoBase xbV T.xo_NoBase T.xn_NoBase_base (fe_var 1) (fe_var 0))))
theorem b_NoCell_init (T : Fx K w mg) (B : Bun P w K mg base k F) (f : Addr) (cdv : Value) (A : Around) (outer : List Env) (s : Shared) (H : Hp) (E : XK) (hr : Room k (A.deeper (envOfC "NoCell.__init__" (defScope (inClass (top 13) 0)) s.heap.objs.size f cdv))) :
    FB (cxOf (L2.CX P w) P w K mg base N_NoCell_init "NoCell.__init__" (defScope (inClass (top 13) 0)) f cdv A outer s H E) (fun cls d _ H' => E cls d H') (defBody (inClass (top 13) 0)) (dn_NoCell_init F) := by
  have sc := sc_NoCell_init
  have hu : (A.deeper (envOfC "NoCell.__init__" (defScope (inClass (top 13) 0)) s.heap.objs.size f cdv)).units + 64 < cLine := by
    have h := hr.r.un
    omega
  have hu2 : (A.deeper (envOfC "NoCell.__init__" (defScope (inClass (top 13) 0)) s.heap.objs.size f cdv)).units + 65 < cLine := by
    have h := hr.r.un
    omega
  have tk : Takes (cxOf (L2.CX P w) P w K mg base N_NoCell_init "NoCell.__init__" (defScope (inClass (top 13) 0)) f cdv A outer s H E) (fun cls d _ H' => E cls d H') := takes_of rfl rfl rfl rfl
  unfold dn_NoCell_init
  exact (fb_cons (fs_expr (fe_xini ownX_NoCell xbK T.xo_NoCell T.n_KeyError bt_KeyError T.vi_KeyError (by decide +kernel) (by decide +kernel) (fa_cons (fe_var 0) (fa_cons fe_str fa_nil))))
  (fb_one (fs_xfld ownX_NoCell xbK T.xo_NoCell T.xn_NoCell_name (fe_var 1) (fe_var 0))))
theorem b_NoClosure_init (T : Fx K w mg) (B : Bun P w K mg base k F) (f : Addr) (cdv : Value) (A : Around) (outer : List Env) (s : Shared) (H : Hp) (E : XK) (hr : Room k (A.deeper (envOfC "NoClosure.__init__" (defScope (inClass (top 12) 0)) s.heap.objs.size f cdv))) :
    FB (cxOf (L2.CX P w) P w K mg base N_NoClosure_init "NoClosure.__init__" (defScope (inClass (top 12) 0)) f cdv A outer s H E) (fun cls d _ H' => E cls d H') (defBody (inClass (top 12) 0)) (dn_NoClosure_init F) := by
  have sc := sc_NoClosure_init
  have hu : (A.deeper (envOfC "NoClosure.__init__" (defScope (inClass (top 12) 0)) s.heap.objs.size f cdv)).units + 64 < cLine := by
    have h := hr.r.un
    omega
  have hu2 : (A.deeper (envOfC "NoClosure.__init__" (defScope (inClass (top 12) 0)) s.heap.objs.size f cdv)).units + 65 < cLine := by
    have h := hr.r.un
    omega
  have tk : Takes (cxOf (L2.CX P w) P w K mg base N_NoClosure_init "NoClosure.__init__" (defScope (inClass (top 12) 0)) f cdv A outer s H E) (fun cls d _ H' => E cls d H') := takes_of rfl rfl rfl rfl
  unfold dn_NoClosure_init
  exact (fb_cons (fs_expr (fe_xini ownX_NoClosure xbK T.xo_NoClosure T.n_KeyError bt_KeyError T.vi_KeyError (by decide +kernel) (by decide +kernel) (fa_cons (fe_var 0) (fa_cons fe_str fa_nil))))
  (fb_one (fs_xfld ownX_NoClosure xbK T.xo_NoClosure T.xn_NoClosure_name (fe_var 1) (fe_var 0))))
theorem b_NoText_init (T : Fx K w mg) (B : Bun P w K mg base k F) (f : Addr) (cdv : Value) (A : Around) (outer : List Env) (s : Shared) (H : Hp) (E : XK) (hr : Room k (A.deeper (envOfC "NoText.__init__" (defScope (inClass (top 10) 0)) s.heap.objs.size f cdv))) :
    FB (cxOf (L2.CX P w) P w K mg base N_NoText_init "NoText.__init__" (defScope (inClass (top 10) 0)) f cdv A outer s H E) (fun cls d _ H' => E cls d H') (defBody (inClass (top 10) 0)) (dn_NoText_init F) := by
  have sc := sc_NoText_init
  have hu : (A.deeper (envOfC "NoText.__init__" (defScope (inClass (top 10) 0)) s.heap.objs.size f cdv)).units + 64 < cLine := by
    have h := hr.r.un
    omega
  have hu2 : (A.deeper (envOfC "NoText.__init__" (defScope (inClass (top 10) 0)) s.heap.objs.size f cdv)).units + 65 < cLine := by
    have h := hr.r.un
    omega
  have tk : Takes (cxOf (L2.CX P w) P w K mg base N_NoText_init "NoText.__init__" (defScope (inClass (top 10) 0)) f cdv A outer s H E) (fun cls d _ H' => E cls d H') := takes_of rfl rfl rfl rfl
  unfold dn_NoText_init
  exact (fb_cons (fs_expr (fe_xini ownX_NoText xbV T.xo_NoText T.n_ValueError bt_ValueError T.vi_ValueError (by decide +kernel) (by decide +kernel) (fa_cons (fe_var 0) (fa_cons (fe_bin os_add fe_str (fe_callTy (cs_strA hr.gd hu) T.n_str bt_str (fa_cons (fe_var 1) fa_nil))) fa_nil))))
  (fb_one (fs_xfld ownX_NoText xbV T.xo_NoText T.xn_NoText_at (fe_var 1) (fe_var 0))))
theorem b_InUse_init (T : Fx K w mg) (B : Bun P w K mg base k F) (f : Addr) (cdv : Value) (A : Around) (outer : List Env) (s : Shared) (H : Hp) (E : XK) (hr : Room k (A.deeper (envOfC "InUse.__init__" (defScope (inClass (top 15) 0)) s.heap.objs.size f cdv))) :
    FB (cxOf (L2.CX P w) P w K mg base N_InUse_init "InUse.__init__" (defScope (inClass (top 15) 0)) f cdv A outer s H E) (fun cls d _ H' => E cls d H') (defBody (inClass (top 15) 0)) (dn_InUse_init F) := by
  have sc := sc_InUse_init
  have hu : (A.deeper (envOfC "InUse.__init__" (defScope (inClass (top 15) 0)) s.heap.objs.size f cdv)).units + 64 < cLine := by
    have h := hr.r.un
    omega
  have hu2 : (A.deeper (envOfC "InUse.__init__" (defScope (inClass (top 15) 0)) s.heap.objs.size f cdv)).units + 65 < cLine := by
    have h := hr.r.un
    omega
  have tk : Takes (cxOf (L2.CX P w) P w K mg base N_InUse_init "InUse.__init__" (defScope (inClass (top 15) 0)) f cdv A outer s H E) (fun cls d _ H' => E cls d H') := takes_of rfl rfl rfl rfl
  unfold dn_InUse_init
  exact (fb_cons (fs_expr (fe_xini ownX_InUse xbR T.xo_InUse T.n_RuntimeError bt_RuntimeError T.vi_RuntimeError (by decide +kernel) (by decide +kernel) (fa_cons (fe_var 0) (fa_cons fe_str fa_nil))))
  (fb_one (fs_xfld ownX_InUse xbR T.xo_InUse T.xn_InUse_name (fe_var 1) (fe_var 0))))
theorem b_Taken_init (T : Fx K w mg) (B : Bun P w K mg base k F) (f : Addr) (cdv : Value) (A : Around) (outer : List Env) (s : Shared) (H : Hp) (E : XK) (hr : Room k (A.deeper (envOfC "Taken.__init__" (defScope (inClass (top 14) 0)) s.heap.objs.size f cdv))) :
    FB (cxOf (L2.CX P w) P w K mg base N_Taken_init "Taken.__init__" (defScope (inClass (top 14) 0)) f cdv A outer s H E) (fun cls d _ H' => E cls d H') (defBody (inClass (top 14) 0)) (dn_Taken_init F) := by
  have sc := sc_Taken_init
  have hu : (A.deeper (envOfC "Taken.__init__" (defScope (inClass (top 14) 0)) s.heap.objs.size f cdv)).units + 64 < cLine := by
    have h := hr.r.un
    omega
  have hu2 : (A.deeper (envOfC "Taken.__init__" (defScope (inClass (top 14) 0)) s.heap.objs.size f cdv)).units + 65 < cLine := by
    have h := hr.r.un
    omega
  have tk : Takes (cxOf (L2.CX P w) P w K mg base N_Taken_init "Taken.__init__" (defScope (inClass (top 14) 0)) f cdv A outer s H E) (fun cls d _ H' => E cls d H') := takes_of rfl rfl rfl rfl
  unfold dn_Taken_init
  exact (fb_cons (fs_expr (fe_xini ownX_Taken xbR T.xo_Taken T.n_RuntimeError bt_RuntimeError T.vi_RuntimeError (by decide +kernel) (by decide +kernel) (fa_cons (fe_var 0) (fa_cons fe_str fa_nil))))
  (fb_one (fs_xfld ownX_Taken xbR T.xo_Taken T.xn_Taken_name (fe_var 1) (fe_var 0))))
theorem b_Noticed_init (T : Fx K w mg) (B : Bun P w K mg base k F) (f : Addr) (cdv : Value) (A : Around) (outer : List Env) (s : Shared) (H : Hp) (E : XK) (hr : Room k (A.deeper (envOfC "Noticed.__init__" (defScope (inClass (top 17) 0)) s.heap.objs.size f cdv))) :
    FB (cxOf (L2.CX P w) P w K mg base N_Noticed_init "Noticed.__init__" (defScope (inClass (top 17) 0)) f cdv A outer s H E) (fun cls d _ H' => E cls d H') (defBody (inClass (top 17) 0)) (dn_Noticed_init F) := by
  have sc := sc_Noticed_init
  have hu : (A.deeper (envOfC "Noticed.__init__" (defScope (inClass (top 17) 0)) s.heap.objs.size f cdv)).units + 64 < cLine := by
    have h := hr.r.un
    omega
  have hu2 : (A.deeper (envOfC "Noticed.__init__" (defScope (inClass (top 17) 0)) s.heap.objs.size f cdv)).units + 65 < cLine := by
    have h := hr.r.un
    omega
  have tk : Takes (cxOf (L2.CX P w) P w K mg base N_Noticed_init "Noticed.__init__" (defScope (inClass (top 17) 0)) f cdv A outer s H E) (fun cls d _ H' => E cls d H') := takes_of rfl rfl rfl rfl
  unfold dn_Noticed_init
  exact (fb_cons (fs_expr (fe_xini ownX_Noticed xbR T.xo_Noticed T.n_RuntimeError bt_RuntimeError T.vi_RuntimeError (by decide +kernel) (by decide +kernel) (fa_cons (fe_var 0) (fa_cons fe_str fa_nil))))
  (fb_one (fs_xfld ownX_Noticed xbR T.xo_Noticed T.xn_Noticed_history (fe_var 1) (fe_var 0))))
theorem b_v_law_word (T : Fx K w mg) (B : Bun P w K mg base k F) (f : Addr) (cdv : Value) (A : Around) (outer : List Env) (s : Shared) (H : Hp) (E : XK) (hr : Room k (A.deeper (envOfC "_law_word" (defScope (top 23)) s.heap.objs.size f cdv))) :
    FB (cxOf (L2.CX P w) P w K mg base N_v_law_word "_law_word" (defScope (top 23)) f cdv A outer s H E) (fun cls d _ H' => E cls d H') (defBody (top 23)) (dn_v_law_word F) := by
  have sc := sc_v_law_word
  have hu : (A.deeper (envOfC "_law_word" (defScope (top 23)) s.heap.objs.size f cdv)).units + 64 < cLine := by
    have h := hr.r.un
    omega
  have hu2 : (A.deeper (envOfC "_law_word" (defScope (top 23)) s.heap.objs.size f cdv)).units + 65 < cLine := by
    have h := hr.r.un
    omega
  have tk : Takes (cxOf (L2.CX P w) P w K mg base N_v_law_word "_law_word" (defScope (top 23)) f cdv A outer s H E) (fun cls d _ H' => E cls d H') := takes_of rfl rfl rfl rfl
  unfold dn_v_law_word
  exact (fb_cons (fs_set 1 sc.nd (Or.inl rfl) (fe_lst (fa_cons fe_str (fa_cons fe_str (fa_cons fe_str (fa_cons fe_str (fa_cons fe_str (fa_cons fe_str (fa_cons fe_str (fa_cons fe_str (fa_cons fe_str (fa_cons fe_str fa_nil))))))))))))
  (fb_cons (fs_set 1 sc.nd (Or.inl rfl) (fe_bin os_add (fe_var 1) (fe_lst (fa_cons fe_str (fa_cons fe_str (fa_cons fe_str (fa_cons fe_str (fa_cons fe_str (fa_cons fe_str (fa_cons fe_str (fa_cons fe_str fa_nil)))))))))))
  (fb_cons (fs_set 2 sc.nd (Or.inl rfl) (fe_lst (fa_cons (fe_isiXO ownE_NoBase (fe_var 0) T.n_isinstance T.ie_NoBase) (fa_cons (fe_isiXO ownE_NoName (fe_var 0) T.n_isinstance T.ie_NoName) (fa_cons (fe_isiXO ownE_NoNumber (fe_var 0) T.n_isinstance T.ie_NoNumber) (fa_cons (fe_isiXO ownE_NoBody (fe_var 0) T.n_isinstance T.ie_NoBody) fa_nil))))))
  (fb_cons (fs_set 2 sc.nd (Or.inl rfl) (fe_bin os_add (fe_var 2) (fe_lst (fa_cons (fe_isiXO ownE_NoCapture (fe_var 0) T.n_isinstance T.ie_NoCapture) (fa_cons (fe_isiXO ownE_NoCall (fe_var 0) T.n_isinstance T.ie_NoCall) (fa_cons (fe_isiXO ownE_NoPlan (fe_var 0) T.n_isinstance T.ie_NoPlan) (fa_cons (fe_isiXO ownE_NoHouse (fe_var 0) T.n_isinstance T.ie_NoHouse) fa_nil)))))))
  (fb_cons (fs_set 2 sc.nd (Or.inl rfl) (fe_bin os_add (fe_var 2) (fe_lst (fa_cons (fe_isiXO ownE_Unlike (fe_var 0) T.n_isinstance T.ie_Unlike) (fa_cons (fe_isiXO ownE_NoText (fe_var 0) T.n_isinstance T.ie_NoText) (fa_cons (fe_isiXO ownE_NoCommand (fe_var 0) T.n_isinstance T.ie_NoCommand) (fa_cons (fe_isiXO ownE_NoClosure (fe_var 0) T.n_isinstance T.ie_NoClosure) fa_nil)))))))
  (fb_cons (fs_set 2 sc.nd (Or.inl rfl) (fe_bin os_add (fe_var 2) (fe_lst (fa_cons (fe_isiXO ownE_Taken (fe_var 0) T.n_isinstance T.ie_Taken) (fa_cons (fe_isiXO ownE_InUse (fe_var 0) T.n_isinstance T.ie_InUse) (fa_cons (fe_isiXO ownE_Nothing (fe_var 0) T.n_isinstance T.ie_Nothing) (fa_cons (fe_isiXO ownE_Noticed (fe_var 0) T.n_isinstance T.ie_Noticed) fa_nil)))))))
  (fb_cons (fs_expr (fe_append (fe_var 2) (fa_cons (fe_isiXO ownE_TooMany (fe_var 0) T.n_isinstance T.ie_TooMany) fa_nil)))
  (fb_cons (fs_expr (fe_insert (fe_var 2) (fa_cons fe_int (fa_cons (fe_isiXO ownE_NoCell (fe_var 0) T.n_isinstance T.ie_NoCell) fa_nil))))
  (fb_cons (fs_set 3 sc.nd (Or.inl rfl) (fe_lst (fa_cons (fe_isiXT ownE_ValueError (fe_var 0) T.n_isinstance T.n_ValueError bt_ValueError T.ie_ValueError) (fa_cons (fe_isiXT ownE_KeyError (fe_var 0) T.n_isinstance T.n_KeyError bt_KeyError T.ie_KeyError) (fa_cons (fe_isiXT ownE_LookupError (fe_var 0) T.n_isinstance T.n_LookupError bt_LookupError T.ie_LookupError) fa_nil)))))
  (fb_cons (fs_set 3 sc.nd (Or.inl rfl) (fe_bin os_add (fe_var 3) (fe_lst (fa_cons (fe_isiXT ownE_RuntimeError (fe_var 0) T.n_isinstance T.n_RuntimeError bt_RuntimeError T.ie_RuntimeError) (fa_cons (fe_isiXT ownE_OverflowError (fe_var 0) T.n_isinstance T.n_OverflowError bt_OverflowError T.ie_OverflowError) fa_nil)))))
  (fb_cons (fs_if (ft_cmp (os_ne hu) (fe_count hu2 (fe_var 2) (fa_cons fe_bl fa_nil)) fe_int) (fb_one (fs_ret fe_str)) fb_nil)
  (fb_cons (fs_set 4 sc.nd (Or.inl rfl) (fe_index hu2 (fe_var 2) (fa_cons fe_bl fa_nil)))
  (fb_cons (fs_set 5 sc.nd (Or.inl rfl) (fe_ix xs_ix (fe_tup (fa_cons fe_str (fa_cons fe_str (fa_cons fe_str (fa_cons fe_str fa_nil))))) (fe_bin os_add (fe_bin os_add (fe_callTy cs_int T.n_int bt_int (fa_cons (fe_cmp os_gt (fe_var 4) fe_int) fa_nil)) (fe_callTy cs_int T.n_int bt_int (fa_cons (fe_cmp os_gt (fe_var 4) fe_int) fa_nil))) (fe_callTy cs_int T.n_int bt_int (fa_cons (fe_cmp os_gt (fe_var 4) fe_int) fa_nil)))))
  (fb_cons (fs_set 6 sc.nd (Or.inl rfl) (fe_join fe_str (fa_cons (fe_lc [("_law_one", 7)] rfl sc.nd (fi_any (fe_var 3)) (blkOk_by (by kernel_rfl)) (fun _ _ _ _ _ => (fg_nm 7 sc.nd (Or.inl rfl))) (fun _ _ _ _ _ => fts_nil) (fun _ _ _ _ _ => (fe_callTy (cs_strA hr.gd hu) T.n_str bt_str (fa_cons (fe_callTy cs_int T.n_int bt_int (fa_cons (fe_var 7) fa_nil)) fa_nil)))) fa_nil)))
  (fb_one (fs_ret (fe_if (ft_cmp (os_eq hu) (fe_var 5) (fe_var 6)) (fe_ix xs_ix (fe_var 1) (fe_var 4)) fe_str)))))))))))))))))
theorem b_v_law_take (T : Fx K w mg) (B : Bun P w K mg base k F) (f : Addr) (cdv : Value) (A : Around) (outer : List Env) (s : Shared) (H : Hp) (E : XK) (hr : Room k (A.deeper (envOfC "_law_take" (defScope (top 21)) s.heap.objs.size f cdv))) :
    FB (cxOf (L2.CX P w) P w K mg base N_v_law_take "_law_take" (defScope (top 21)) f cdv A outer s H E) (fun cls d _ H' => E cls d H') (defBody (top 21)) (dn_v_law_take F) := by
  have sc := sc_v_law_take
  have hu : (A.deeper (envOfC "_law_take" (defScope (top 21)) s.heap.objs.size f cdv)).units + 64 < cLine := by
    have h := hr.r.un
    omega
  have hu2 : (A.deeper (envOfC "_law_take" (defScope (top 21)) s.heap.objs.size f cdv)).units + 65 < cLine := by
    have h := hr.r.un
    omega
  have tk : Takes (cxOf (L2.CX P w) P w K mg base N_v_law_take "_law_take" (defScope (top 21)) f cdv A outer s H E) (fun cls d _ H' => E cls d H') := takes_of rfl rfl rfl rfl
  unfold dn_v_law_take
  exact (fb_cons (fs_if (ft_cmp os_gt (fe_ix xs_ix (fe_var 0) fe_int) fe_int) (fb_cons (fs_set 2 sc.nd (Or.inl rfl) (fe_bin os_mod (fe_ix xs_ix (fe_var 0) fe_int) (fe_var 1)))
  (fb_cons (fs_sub st_list (fe_bin os_div (fe_ix xs_ix (fe_var 0) fe_int) (fe_var 1)) (fe_var 0) fe_int)
  (fb_one (fs_ret (fe_var 2))))) fb_nil)
  (fb_cons (fs_sub st_list (fe_bin os_add (fe_ix xs_ix (fe_var 0) fe_int) fe_int) (fe_var 0) fe_int)
  (fb_cons (fs_sub st_list (fe_bin os_mod (fe_bin os_add (fe_bin os_add (fe_bin os_mul (fe_ix xs_ix (fe_var 0) fe_int) fe_int) (fe_bin os_mul (fe_bin os_mul fe_int (fe_ix xs_ix (fe_var 0) fe_int)) (fe_ix xs_ix (fe_var 0) fe_int))) fe_int) fe_int) (fe_var 0) fe_int)
  (fb_one (fs_ret (fe_bin os_mod (fe_bin os_mod (fe_bin os_pow (fe_bin os_div (fe_ix xs_ix (fe_var 0) fe_int) fe_int) fe_int) fe_int) (fe_var 1)))))))
end
def Ph.up (F : Ph) : Ph where
  f_v_law_any_2 := fun ds es g => match ds, es with | [a0, a1], [] => runB (dn_v_law_any F) (ini 4 [a0, a1]) g | _, _ => .bad
  f_v_law_bag_2 := fun ds es g => match ds, es with | [a0, a1], [] => runB (dn_v_law_bag F) (ini 4 [a0, a1]) g | _, _ => .bad
  f_v_law_named_right_1 := fun ds es g => match ds, es with | [a0], [] => runB (dn_v_law_named_right F) (ini 5 [a0]) g | _, _ => .bad
  f_v_law_take_2 := fun ds es g => match ds, es with | [a0, a1], [] => runB (dn_v_law_take F) (ini 3 [a0, a1]) g | _, _ => .bad
  f_v_law_word_1 := fun ds es g => match ds, es with | [a0], [] => runB (dn_v_law_word F) (ini 8 [a0]) g | _, _ => .bad
  x_NoCall_1 := newX "NoCall" F.ix_NoCall_1
  ix_NoCall_1 := fun ds es g => match ds, es with | [a0, a1], [] => runB (dn_NoCall_init F) (ini 2 [a0, a1]) g | _, _ => .bad
  x_NoCapture_1 := newX "NoCapture" F.ix_NoCapture_1
  ix_NoCapture_1 := fun ds es g => match ds, es with | [a0, a1], [] => runB (dn_NoCapture_init F) (ini 2 [a0, a1]) g | _, _ => .bad
  x_NoNumber_1 := newX "NoNumber" F.ix_NoNumber_1
  ix_NoNumber_1 := fun ds es g => match ds, es with | [a0, a1], [] => runB (dn_NoNumber_init F) (ini 2 [a0, a1]) g | _, _ => .bad
  x_NoName_1 := newX "NoName" F.ix_NoName_1
  ix_NoName_1 := fun ds es g => match ds, es with | [a0, a1], [] => runB (dn_NoName_init F) (ini 2 [a0, a1]) g | _, _ => .bad
  x_NoBase_1 := newX "NoBase" F.ix_NoBase_1
  ix_NoBase_1 := fun ds es g => match ds, es with | [a0, a1], [] => runB (dn_NoBase_init F) (ini 2 [a0, a1]) g | _, _ => .bad
  x_NoCell_1 := newX "NoCell" F.ix_NoCell_1
  ix_NoCell_1 := fun ds es g => match ds, es with | [a0, a1], [] => runB (dn_NoCell_init F) (ini 2 [a0, a1]) g | _, _ => .bad
  x_NoClosure_1 := newX "NoClosure" F.ix_NoClosure_1
  ix_NoClosure_1 := fun ds es g => match ds, es with | [a0, a1], [] => runB (dn_NoClosure_init F) (ini 2 [a0, a1]) g | _, _ => .bad
  x_NoText_1 := newX "NoText" F.ix_NoText_1
  ix_NoText_1 := fun ds es g => match ds, es with | [a0, a1], [] => runB (dn_NoText_init F) (ini 2 [a0, a1]) g | _, _ => .bad
  x_InUse_1 := newX "InUse" F.ix_InUse_1
  ix_InUse_1 := fun ds es g => match ds, es with | [a0, a1], [] => runB (dn_InUse_init F) (ini 2 [a0, a1]) g | _, _ => .bad
  x_Taken_1 := newX "Taken" F.ix_Taken_1
  ix_Taken_1 := fun ds es g => match ds, es with | [a0, a1], [] => runB (dn_Taken_init F) (ini 2 [a0, a1]) g | _, _ => .bad
  x_Noticed_1 := newX "Noticed" F.ix_Noticed_1
  ix_Noticed_1 := fun ds es g => match ds, es with | [a0, a1], [] => runB (dn_Noticed_init F) (ini 2 [a0, a1]) g | _, _ => .bad
  x_Taken_0_name := newX "Taken" F.ix_Taken_0_name
  ix_Taken_0_name := fun ds es g => match ds, es with | [a0], [e0] => runB (dn_Taken_init F) (ini 2 [a0, e0]) g | _, _ => .bad
  x_NoClosure_0_name := newX "NoClosure" F.ix_NoClosure_0_name
  ix_NoClosure_0_name := fun ds es g => match ds, es with | [a0], [e0] => runB (dn_NoClosure_init F) (ini 2 [a0, e0]) g | _, _ => .bad
  x_NoName_0_name := newX "NoName" F.ix_NoName_0_name
  ix_NoName_0_name := fun ds es g => match ds, es with | [a0], [e0] => runB (dn_NoName_init F) (ini 2 [a0, e0]) g | _, _ => .bad
  x_NoCell_0_name := newX "NoCell" F.ix_NoCell_0_name
  ix_NoCell_0_name := fun ds es g => match ds, es with | [a0], [e0] => runB (dn_NoCell_init F) (ini 2 [a0, e0]) g | _, _ => .bad
  x_InUse_0_name := newX "InUse" F.ix_InUse_0_name
  ix_InUse_0_name := fun ds es g => match ds, es with | [a0], [e0] => runB (dn_InUse_init F) (ini 2 [a0, e0]) g | _, _ => .bad
  x_NoText_0_at := newX "NoText" F.ix_NoText_0_at
  ix_NoText_0_at := fun ds es g => match ds, es with | [a0], [e0] => runB (dn_NoText_init F) (ini 2 [a0, e0]) g | _, _ => .bad
  x_NoCall_0_at := newX "NoCall" F.ix_NoCall_0_at
  ix_NoCall_0_at := fun ds es g => match ds, es with | [a0], [e0] => runB (dn_NoCall_init F) (ini 2 [a0, e0]) g | _, _ => .bad
  x_NoCapture_0_at := newX "NoCapture" F.ix_NoCapture_0_at
  ix_NoCapture_0_at := fun ds es g => match ds, es with | [a0], [e0] => runB (dn_NoCapture_init F) (ini 2 [a0, e0]) g | _, _ => .bad
  x_NoBase_0_base := newX "NoBase" F.ix_NoBase_0_base
  ix_NoBase_0_base := fun ds es g => match ds, es with | [a0], [e0] => runB (dn_NoBase_init F) (ini 2 [a0, e0]) g | _, _ => .bad
  x_NoNumber_0_number := newX "NoNumber" F.ix_NoNumber_0_number
  ix_NoNumber_0_number := fun ds es g => match ds, es with | [a0], [e0] => runB (dn_NoNumber_init F) (ini 2 [a0, e0]) g | _, _ => .bad
  x_Noticed_0_history := newX "Noticed" F.ix_Noticed_0_history
  ix_Noticed_0_history := fun ds es g => match ds, es with | [a0], [e0] => runB (dn_Noticed_init F) (ini 2 [a0, e0]) g | _, _ => .bad
  law := fun ds es g => match ds, es with | [a0], [] => runB (dn_law F) (ini 7 [a0]) g | _, _ => .bad
def ph : Nat → Ph
  | 0 => Ph.nil
  | n + 1 => (ph n).up
section
variable {P : Program} {w : World} {K : PySem.W.Frag} {mg : Str → Option Value} {base : Heap} {k : Nat} {F : Ph}
theorem bun0 (T : Fx K w mg) : Bun P w K mg base 0 Ph.nil where
  f_v_law_any_2 := by
    obtain ⟨f, fd, hm, FD⟩ := T.d_v_law_any
    exact ⟨f, hm, FD.kp, callF_bad⟩
  f_v_law_bag_2 := by
    obtain ⟨f, fd, hm, FD⟩ := T.d_v_law_bag
    exact ⟨f, hm, FD.kp, callF_bad⟩
  f_v_law_named_right_1 := by
    obtain ⟨f, fd, hm, FD⟩ := T.d_v_law_named_right
    exact ⟨f, hm, FD.kp, callF_bad⟩
  f_v_law_take_2 := by
    obtain ⟨f, fd, hm, FD⟩ := T.d_v_law_take
    exact ⟨f, hm, FD.kp, callF_bad⟩
  f_v_law_word_1 := by
    obtain ⟨f, fd, hm, FD⟩ := T.d_v_law_word
    exact ⟨f, hm, FD.kp, callF_bad⟩
  x_NoCall_1 := .inl fun _ _ _ => rfl
  ix_NoCall_1 := by
    obtain ⟨C, f, fd, hm, M, h1, h2, FD⟩ := T.xk_NoCall
    exact ⟨C, f, _, _, _, _, hm, xbV, M, h1, h2, callF_bad⟩
  x_NoCapture_1 := .inl fun _ _ _ => rfl
  ix_NoCapture_1 := by
    obtain ⟨C, f, fd, hm, M, h1, h2, FD⟩ := T.xk_NoCapture
    exact ⟨C, f, _, _, _, _, hm, xbV, M, h1, h2, callF_bad⟩
  x_NoNumber_1 := .inl fun _ _ _ => rfl
  ix_NoNumber_1 := by
    obtain ⟨C, f, fd, hm, M, h1, h2, FD⟩ := T.xk_NoNumber
    exact ⟨C, f, _, _, _, _, hm, xbV, M, h1, h2, callF_bad⟩
  x_NoName_1 := .inl fun _ _ _ => rfl
  ix_NoName_1 := by
    obtain ⟨C, f, fd, hm, M, h1, h2, FD⟩ := T.xk_NoName
    exact ⟨C, f, _, _, _, _, hm, xbV, M, h1, h2, callF_bad⟩
  x_NoBase_1 := .inl fun _ _ _ => rfl
  ix_NoBase_1 := by
    obtain ⟨C, f, fd, hm, M, h1, h2, FD⟩ := T.xk_NoBase
    exact ⟨C, f, _, _, _, _, hm, xbV, M, h1, h2, callF_bad⟩
  x_NoCell_1 := .inl fun _ _ _ => rfl
  ix_NoCell_1 := by
    obtain ⟨C, f, fd, hm, M, h1, h2, FD⟩ := T.xk_NoCell
    exact ⟨C, f, _, _, _, _, hm, xbK, M, h1, h2, callF_bad⟩
  x_NoClosure_1 := .inl fun _ _ _ => rfl
  ix_NoClosure_1 := by
    obtain ⟨C, f, fd, hm, M, h1, h2, FD⟩ := T.xk_NoClosure
    exact ⟨C, f, _, _, _, _, hm, xbK, M, h1, h2, callF_bad⟩
  x_NoText_1 := .inl fun _ _ _ => rfl
  ix_NoText_1 := by
    obtain ⟨C, f, fd, hm, M, h1, h2, FD⟩ := T.xk_NoText
    exact ⟨C, f, _, _, _, _, hm, xbV, M, h1, h2, callF_bad⟩
  x_InUse_1 := .inl fun _ _ _ => rfl
  ix_InUse_1 := by
    obtain ⟨C, f, fd, hm, M, h1, h2, FD⟩ := T.xk_InUse
    exact ⟨C, f, _, _, _, _, hm, xbR, M, h1, h2, callF_bad⟩
  x_Taken_1 := .inl fun _ _ _ => rfl
  ix_Taken_1 := by
    obtain ⟨C, f, fd, hm, M, h1, h2, FD⟩ := T.xk_Taken
    exact ⟨C, f, _, _, _, _, hm, xbR, M, h1, h2, callF_bad⟩
  x_Noticed_1 := .inl fun _ _ _ => rfl
  ix_Noticed_1 := by
    obtain ⟨C, f, fd, hm, M, h1, h2, FD⟩ := T.xk_Noticed
    exact ⟨C, f, _, _, _, _, hm, xbR, M, h1, h2, callF_bad⟩
  x_Taken_0_name := .inl fun _ _ _ => rfl
  ix_Taken_0_name := by
    obtain ⟨C, f, fd, hm, M, h1, h2, FD⟩ := T.xk_Taken
    exact ⟨C, f, _, _, _, _, hm, xbR, M, h1, h2, callF_bad⟩
  x_NoClosure_0_name := .inl fun _ _ _ => rfl
  ix_NoClosure_0_name := by
    obtain ⟨C, f, fd, hm, M, h1, h2, FD⟩ := T.xk_NoClosure
    exact ⟨C, f, _, _, _, _, hm, xbK, M, h1, h2, callF_bad⟩
  x_NoName_0_name := .inl fun _ _ _ => rfl
  ix_NoName_0_name := by
    obtain ⟨C, f, fd, hm, M, h1, h2, FD⟩ := T.xk_NoName
    exact ⟨C, f, _, _, _, _, hm, xbV, M, h1, h2, callF_bad⟩
  x_NoCell_0_name := .inl fun _ _ _ => rfl
  ix_NoCell_0_name := by
    obtain ⟨C, f, fd, hm, M, h1, h2, FD⟩ := T.xk_NoCell
    exact ⟨C, f, _, _, _, _, hm, xbK, M, h1, h2, callF_bad⟩
  x_InUse_0_name := .inl fun _ _ _ => rfl
  ix_InUse_0_name := by
    obtain ⟨C, f, fd, hm, M, h1, h2, FD⟩ := T.xk_InUse
    exact ⟨C, f, _, _, _, _, hm, xbR, M, h1, h2, callF_bad⟩
  x_NoText_0_at := .inl fun _ _ _ => rfl
  ix_NoText_0_at := by
    obtain ⟨C, f, fd, hm, M, h1, h2, FD⟩ := T.xk_NoText
    exact ⟨C, f, _, _, _, _, hm, xbV, M, h1, h2, callF_bad⟩
  x_NoCall_0_at := .inl fun _ _ _ => rfl
  ix_NoCall_0_at := by
    obtain ⟨C, f, fd, hm, M, h1, h2, FD⟩ := T.xk_NoCall
    exact ⟨C, f, _, _, _, _, hm, xbV, M, h1, h2, callF_bad⟩
  x_NoCapture_0_at := .inl fun _ _ _ => rfl
  ix_NoCapture_0_at := by
    obtain ⟨C, f, fd, hm, M, h1, h2, FD⟩ := T.xk_NoCapture
    exact ⟨C, f, _, _, _, _, hm, xbV, M, h1, h2, callF_bad⟩
  x_NoBase_0_base := .inl fun _ _ _ => rfl
  ix_NoBase_0_base := by
    obtain ⟨C, f, fd, hm, M, h1, h2, FD⟩ := T.xk_NoBase
    exact ⟨C, f, _, _, _, _, hm, xbV, M, h1, h2, callF_bad⟩
  x_NoNumber_0_number := .inl fun _ _ _ => rfl
  ix_NoNumber_0_number := by
    obtain ⟨C, f, fd, hm, M, h1, h2, FD⟩ := T.xk_NoNumber
    exact ⟨C, f, _, _, _, _, hm, xbV, M, h1, h2, callF_bad⟩
  x_Noticed_0_history := .inl fun _ _ _ => rfl
  ix_Noticed_0_history := by
    obtain ⟨C, f, fd, hm, M, h1, h2, FD⟩ := T.xk_Noticed
    exact ⟨C, f, _, _, _, _, hm, xbR, M, h1, h2, callF_bad⟩
theorem up_f_v_law_any_2 (T : Fx K w mg) (B : Bun P w K mg base k F) : TabF P w K mg base (k + 1) "_law_any" [] F.up.f_v_law_any_2 := by
  obtain ⟨f, fd, hm, FD⟩ := T.d_v_law_any
  refine ⟨f, hm, FD.kp, ?_⟩
  exact CallF.weak (callF_pos (fun_ok FD sc_v_law_any (fun cdv A outer s H E hr => b_v_law_any T B _ cdv A outer s H E hr)) (FD.bindsN fun _ _ _ _ _ _ us hl => match us, hl with | [_, _], _ => rfl)) (fun ds es g => by
      dsimp only [Ph.up]
      split
      · exact .inl rfl
      · exact .inr rfl)
theorem up_f_v_law_bag_2 (T : Fx K w mg) (B : Bun P w K mg base k F) : TabF P w K mg base (k + 1) "_law_bag" [] F.up.f_v_law_bag_2 := by
  obtain ⟨f, fd, hm, FD⟩ := T.d_v_law_bag
  refine ⟨f, hm, FD.kp, ?_⟩
  exact CallF.weak (callF_pos (fun_ok FD sc_v_law_bag (fun cdv A outer s H E hr => b_v_law_bag T B _ cdv A outer s H E hr)) (FD.bindsN fun _ _ _ _ _ _ us hl => match us, hl with | [_, _], _ => rfl)) (fun ds es g => by
      dsimp only [Ph.up]
      split
      · exact .inl rfl
      · exact .inr rfl)
theorem up_f_v_law_named_right_1 (T : Fx K w mg) (B : Bun P w K mg base k F) : TabF P w K mg base (k + 1) "_law_named_right" [] F.up.f_v_law_named_right_1 := by
  obtain ⟨f, fd, hm, FD⟩ := T.d_v_law_named_right
  refine ⟨f, hm, FD.kp, ?_⟩
  exact CallF.weak (callF_pos (fun_ok FD sc_v_law_named_right (fun cdv A outer s H E hr => b_v_law_named_right T B _ cdv A outer s H E hr)) (FD.bindsN fun _ _ _ _ _ _ us hl => match us, hl with | [_], _ => rfl)) (fun ds es g => by
      dsimp only [Ph.up]
      split
      · exact .inl rfl
      · exact .inr rfl)
theorem up_f_v_law_take_2 (T : Fx K w mg) (B : Bun P w K mg base k F) : TabF P w K mg base (k + 1) "_law_take" [] F.up.f_v_law_take_2 := by
  obtain ⟨f, fd, hm, FD⟩ := T.d_v_law_take
  refine ⟨f, hm, FD.kp, ?_⟩
  exact CallF.weak (callF_pos (fun_ok FD sc_v_law_take (fun cdv A outer s H E hr => b_v_law_take T B _ cdv A outer s H E hr)) (FD.bindsN fun _ _ _ _ _ _ us hl => match us, hl with | [_, _], _ => rfl)) (fun ds es g => by
      dsimp only [Ph.up]
      split
      · exact .inl rfl
      · exact .inr rfl)
theorem up_f_v_law_word_1 (T : Fx K w mg) (B : Bun P w K mg base k F) : TabF P w K mg base (k + 1) "_law_word" [] F.up.f_v_law_word_1 := by
  obtain ⟨f, fd, hm, FD⟩ := T.d_v_law_word
  refine ⟨f, hm, FD.kp, ?_⟩
  exact CallF.weak (callF_pos (fun_ok FD sc_v_law_word (fun cdv A outer s H E hr => b_v_law_word T B _ cdv A outer s H E hr)) (FD.bindsN fun _ _ _ _ _ _ us hl => match us, hl with | [_], _ => rfl)) (fun ds es g => by
      dsimp only [Ph.up]
      split
      · exact .inl rfl
      · exact .inr rfl)
theorem up_ix_NoCall_1 (T : Fx K w mg) (B : Bun P w K mg base k F) : TabX P w K mg base (k + 1) "NoCall" [] F.up.ix_NoCall_1 := by
  obtain ⟨C, f, fd, hm, M, h1, h2, FD⟩ := T.xk_NoCall
  refine ⟨C, f, _, _, _, _, hm, xbV, M, h1, h2, ?_⟩
  exact CallF.weak (callF_pos (fun_ok FD sc_NoCall_init (fun cdv A outer s H E hr => b_NoCall_init T B _ cdv A outer s H E hr)) (FD.bindsN fun _ _ _ _ _ _ us hl => match us, hl with | [_, _], _ => rfl)) (fun ds es g => by
      dsimp only [Ph.up]
      split
      · exact .inl rfl
      · exact .inr rfl)
theorem up_ix_NoCapture_1 (T : Fx K w mg) (B : Bun P w K mg base k F) : TabX P w K mg base (k + 1) "NoCapture" [] F.up.ix_NoCapture_1 := by
  obtain ⟨C, f, fd, hm, M, h1, h2, FD⟩ := T.xk_NoCapture
  refine ⟨C, f, _, _, _, _, hm, xbV, M, h1, h2, ?_⟩
  exact CallF.weak (callF_pos (fun_ok FD sc_NoCapture_init (fun cdv A outer s H E hr => b_NoCapture_init T B _ cdv A outer s H E hr)) (FD.bindsN fun _ _ _ _ _ _ us hl => match us, hl with | [_, _], _ => rfl)) (fun ds es g => by
      dsimp only [Ph.up]
      split
      · exact .inl rfl
      · exact .inr rfl)
theorem up_ix_NoNumber_1 (T : Fx K w mg) (B : Bun P w K mg base k F) : TabX P w K mg base (k + 1) "NoNumber" [] F.up.ix_NoNumber_1 := by
  obtain ⟨C, f, fd, hm, M, h1, h2, FD⟩ := T.xk_NoNumber
  refine ⟨C, f, _, _, _, _, hm, xbV, M, h1, h2, ?_⟩
  exact CallF.weak (callF_pos (fun_ok FD sc_NoNumber_init (fun cdv A outer s H E hr => b_NoNumber_init T B _ cdv A outer s H E hr)) (FD.bindsN fun _ _ _ _ _ _ us hl => match us, hl with | [_, _], _ => rfl)) (fun ds es g => by
      dsimp only [Ph.up]
      split
      · exact .inl rfl
      · exact .inr rfl)
theorem up_ix_NoName_1 (T : Fx K w mg) (B : Bun P w K mg base k F) : TabX P w K mg base (k + 1) "NoName" [] F.up.ix_NoName_1 := by
  obtain ⟨C, f, fd, hm, M, h1, h2, FD⟩ := T.xk_NoName
  refine ⟨C, f, _, _, _, _, hm, xbV, M, h1, h2, ?_⟩
  exact CallF.weak (callF_pos (fun_ok FD sc_NoName_init (fun cdv A outer s H E hr => b_NoName_init T B _ cdv A outer s H E hr)) (FD.bindsN fun _ _ _ _ _ _ us hl => match us, hl with | [_, _], _ => rfl)) (fun ds es g => by
      dsimp only [Ph.up]
      split
      · exact .inl rfl
      · exact .inr rfl)
theorem up_ix_NoBase_1 (T : Fx K w mg) (B : Bun P w K mg base k F) : TabX P w K mg base (k + 1) "NoBase" [] F.up.ix_NoBase_1 := by
  obtain ⟨C, f, fd, hm, M, h1, h2, FD⟩ := T.xk_NoBase
  refine ⟨C, f, _, _, _, _, hm, xbV, M, h1, h2, ?_⟩
  exact CallF.weak (callF_pos (fun_ok FD sc_NoBase_init (fun cdv A outer s H E hr => b_NoBase_init T B _ cdv A outer s H E hr)) (FD.bindsN fun _ _ _ _ _ _ us hl => match us, hl with | [_, _], _ => rfl)) (fun ds es g => by
      dsimp only [Ph.up]
      split
      · exact .inl rfl
      · exact .inr rfl)
theorem up_ix_NoCell_1 (T : Fx K w mg) (B : Bun P w K mg base k F) : TabX P w K mg base (k + 1) "NoCell" [] F.up.ix_NoCell_1 := by
  obtain ⟨C, f, fd, hm, M, h1, h2, FD⟩ := T.xk_NoCell
  refine ⟨C, f, _, _, _, _, hm, xbK, M, h1, h2, ?_⟩
  exact CallF.weak (callF_pos (fun_ok FD sc_NoCell_init (fun cdv A outer s H E hr => b_NoCell_init T B _ cdv A outer s H E hr)) (FD.bindsN fun _ _ _ _ _ _ us hl => match us, hl with | [_, _], _ => rfl)) (fun ds es g => by
      dsimp only [Ph.up]
      split
      · exact .inl rfl
      · exact .inr rfl)
theorem up_ix_NoClosure_1 (T : Fx K w mg) (B : Bun P w K mg base k F) : TabX P w K mg base (k + 1) "NoClosure" [] F.up.ix_NoClosure_1 := by
  obtain ⟨C, f, fd, hm, M, h1, h2, FD⟩ := T.xk_NoClosure
  refine ⟨C, f, _, _, _, _, hm, xbK, M, h1, h2, ?_⟩
  exact CallF.weak (callF_pos (fun_ok FD sc_NoClosure_init (fun cdv A outer s H E hr => b_NoClosure_init T B _ cdv A outer s H E hr)) (FD.bindsN fun _ _ _ _ _ _ us hl => match us, hl with | [_, _], _ => rfl)) (fun ds es g => by
      dsimp only [Ph.up]
      split
      · exact .inl rfl
      · exact .inr rfl)
theorem up_ix_NoText_1 (T : Fx K w mg) (B : Bun P w K mg base k F) : TabX P w K mg base (k + 1) "NoText" [] F.up.ix_NoText_1 := by
  obtain ⟨C, f, fd, hm, M, h1, h2, FD⟩ := T.xk_NoText
  refine ⟨C, f, _, _, _, _, hm, xbV, M, h1, h2, ?_⟩
  exact CallF.weak (callF_pos (fun_ok FD sc_NoText_init (fun cdv A outer s H E hr => b_NoText_init T B _ cdv A outer s H E hr)) (FD.bindsN fun _ _ _ _ _ _ us hl => match us, hl with | [_, _], _ => rfl)) (fun ds es g => by
      dsimp only [Ph.up]
      split
      · exact .inl rfl
      · exact .inr rfl)
theorem up_ix_InUse_1 (T : Fx K w mg) (B : Bun P w K mg base k F) : TabX P w K mg base (k + 1) "InUse" [] F.up.ix_InUse_1 := by
  obtain ⟨C, f, fd, hm, M, h1, h2, FD⟩ := T.xk_InUse
  refine ⟨C, f, _, _, _, _, hm, xbR, M, h1, h2, ?_⟩
  exact CallF.weak (callF_pos (fun_ok FD sc_InUse_init (fun cdv A outer s H E hr => b_InUse_init T B _ cdv A outer s H E hr)) (FD.bindsN fun _ _ _ _ _ _ us hl => match us, hl with | [_, _], _ => rfl)) (fun ds es g => by
      dsimp only [Ph.up]
      split
      · exact .inl rfl
      · exact .inr rfl)
theorem up_ix_Taken_1 (T : Fx K w mg) (B : Bun P w K mg base k F) : TabX P w K mg base (k + 1) "Taken" [] F.up.ix_Taken_1 := by
  obtain ⟨C, f, fd, hm, M, h1, h2, FD⟩ := T.xk_Taken
  refine ⟨C, f, _, _, _, _, hm, xbR, M, h1, h2, ?_⟩
  exact CallF.weak (callF_pos (fun_ok FD sc_Taken_init (fun cdv A outer s H E hr => b_Taken_init T B _ cdv A outer s H E hr)) (FD.bindsN fun _ _ _ _ _ _ us hl => match us, hl with | [_, _], _ => rfl)) (fun ds es g => by
      dsimp only [Ph.up]
      split
      · exact .inl rfl
      · exact .inr rfl)
theorem up_ix_Noticed_1 (T : Fx K w mg) (B : Bun P w K mg base k F) : TabX P w K mg base (k + 1) "Noticed" [] F.up.ix_Noticed_1 := by
  obtain ⟨C, f, fd, hm, M, h1, h2, FD⟩ := T.xk_Noticed
  refine ⟨C, f, _, _, _, _, hm, xbR, M, h1, h2, ?_⟩
  exact CallF.weak (callF_pos (fun_ok FD sc_Noticed_init (fun cdv A outer s H E hr => b_Noticed_init T B _ cdv A outer s H E hr)) (FD.bindsN fun _ _ _ _ _ _ us hl => match us, hl with | [_, _], _ => rfl)) (fun ds es g => by
      dsimp only [Ph.up]
      split
      · exact .inl rfl
      · exact .inr rfl)
theorem up_ix_Taken_0_name (T : Fx K w mg) (B : Bun P w K mg base k F) : TabX P w K mg base (k + 1) "Taken" ["name"] F.up.ix_Taken_0_name := by
  obtain ⟨C, f, fd, hm, M, h1, h2, FD⟩ := T.xk_Taken
  refine ⟨C, f, _, _, _, _, hm, xbR, M, h1, h2, ?_⟩
  exact CallF.weak (callF_arr (n := 1) (ks := ["name"]) (fun_ok FD sc_Taken_init (fun cdv A outer s H E hr => b_Taken_init T B _ cdv A outer s H E hr)) (FD.kbindsN 1 ["name"] (fun us ws => ((us.drop 0).take 1 ++ ((ws.drop 0).take 1 ++ []))) (fun r1 r2 => ((vals_pick r1 0).append ((vals_pick r2 0).append .nil))) fun _ _ _ _ _ _ us ws l1 l2 => match us, l1, ws, l2 with | [_], _, [_], _ => rfl)
      (fun us ws => ((us.drop 0).take 1 ++ ((ws.drop 0).take 1 ++ []))) (fun _ _ _ _ _ _ _ r1 r2 _ _ => ((RVs.pick r1 0).append ((RVs.pick r2 0).append .nil))) (fun ds es l1 l2 => match ds, l1, es, l2 with | [_], _, [_], _ => rfl)) (fun ds es g => by
      dsimp only [Ph.up]
      split
      · exact .inl rfl
      · exact .inr rfl)
theorem up_ix_NoClosure_0_name (T : Fx K w mg) (B : Bun P w K mg base k F) : TabX P w K mg base (k + 1) "NoClosure" ["name"] F.up.ix_NoClosure_0_name := by
  obtain ⟨C, f, fd, hm, M, h1, h2, FD⟩ := T.xk_NoClosure
  refine ⟨C, f, _, _, _, _, hm, xbK, M, h1, h2, ?_⟩
  exact CallF.weak (callF_arr (n := 1) (ks := ["name"]) (fun_ok FD sc_NoClosure_init (fun cdv A outer s H E hr => b_NoClosure_init T B _ cdv A outer s H E hr)) (FD.kbindsN 1 ["name"] (fun us ws => ((us.drop 0).take 1 ++ ((ws.drop 0).take 1 ++ []))) (fun r1 r2 => ((vals_pick r1 0).append ((vals_pick r2 0).append .nil))) fun _ _ _ _ _ _ us ws l1 l2 => match us, l1, ws, l2 with | [_], _, [_], _ => rfl)
      (fun us ws => ((us.drop 0).take 1 ++ ((ws.drop 0).take 1 ++ []))) (fun _ _ _ _ _ _ _ r1 r2 _ _ => ((RVs.pick r1 0).append ((RVs.pick r2 0).append .nil))) (fun ds es l1 l2 => match ds, l1, es, l2 with | [_], _, [_], _ => rfl)) (fun ds es g => by
      dsimp only [Ph.up]
      split
      · exact .inl rfl
      · exact .inr rfl)
theorem up_ix_NoName_0_name (T : Fx K w mg) (B : Bun P w K mg base k F) : TabX P w K mg base (k + 1) "NoName" ["name"] F.up.ix_NoName_0_name := by
  obtain ⟨C, f, fd, hm, M, h1, h2, FD⟩ := T.xk_NoName
  refine ⟨C, f, _, _, _, _, hm, xbV, M, h1, h2, ?_⟩
  exact CallF.weak (callF_arr (n := 1) (ks := ["name"]) (fun_ok FD sc_NoName_init (fun cdv A outer s H E hr => b_NoName_init T B _ cdv A outer s H E hr)) (FD.kbindsN 1 ["name"] (fun us ws => ((us.drop 0).take 1 ++ ((ws.drop 0).take 1 ++ []))) (fun r1 r2 => ((vals_pick r1 0).append ((vals_pick r2 0).append .nil))) fun _ _ _ _ _ _ us ws l1 l2 => match us, l1, ws, l2 with | [_], _, [_], _ => rfl)
      (fun us ws => ((us.drop 0).take 1 ++ ((ws.drop 0).take 1 ++ []))) (fun _ _ _ _ _ _ _ r1 r2 _ _ => ((RVs.pick r1 0).append ((RVs.pick r2 0).append .nil))) (fun ds es l1 l2 => match ds, l1, es, l2 with | [_], _, [_], _ => rfl)) (fun ds es g => by
      dsimp only [Ph.up]
      split
      · exact .inl rfl
      · exact .inr rfl)
theorem up_ix_NoCell_0_name (T : Fx K w mg) (B : Bun P w K mg base k F) : TabX P w K mg base (k + 1) "NoCell" ["name"] F.up.ix_NoCell_0_name := by
  obtain ⟨C, f, fd, hm, M, h1, h2, FD⟩ := T.xk_NoCell
  refine ⟨C, f, _, _, _, _, hm, xbK, M, h1, h2, ?_⟩
  exact CallF.weak (callF_arr (n := 1) (ks := ["name"]) (fun_ok FD sc_NoCell_init (fun cdv A outer s H E hr => b_NoCell_init T B _ cdv A outer s H E hr)) (FD.kbindsN 1 ["name"] (fun us ws => ((us.drop 0).take 1 ++ ((ws.drop 0).take 1 ++ []))) (fun r1 r2 => ((vals_pick r1 0).append ((vals_pick r2 0).append .nil))) fun _ _ _ _ _ _ us ws l1 l2 => match us, l1, ws, l2 with | [_], _, [_], _ => rfl)
      (fun us ws => ((us.drop 0).take 1 ++ ((ws.drop 0).take 1 ++ []))) (fun _ _ _ _ _ _ _ r1 r2 _ _ => ((RVs.pick r1 0).append ((RVs.pick r2 0).append .nil))) (fun ds es l1 l2 => match ds, l1, es, l2 with | [_], _, [_], _ => rfl)) (fun ds es g => by
      dsimp only [Ph.up]
      split
      · exact .inl rfl
      · exact .inr rfl)
theorem up_ix_InUse_0_name (T : Fx K w mg) (B : Bun P w K mg base k F) : TabX P w K mg base (k + 1) "InUse" ["name"] F.up.ix_InUse_0_name := by
  obtain ⟨C, f, fd, hm, M, h1, h2, FD⟩ := T.xk_InUse
  refine ⟨C, f, _, _, _, _, hm, xbR, M, h1, h2, ?_⟩
  exact CallF.weak (callF_arr (n := 1) (ks := ["name"]) (fun_ok FD sc_InUse_init (fun cdv A outer s H E hr => b_InUse_init T B _ cdv A outer s H E hr)) (FD.kbindsN 1 ["name"] (fun us ws => ((us.drop 0).take 1 ++ ((ws.drop 0).take 1 ++ []))) (fun r1 r2 => ((vals_pick r1 0).append ((vals_pick r2 0).append .nil))) fun _ _ _ _ _ _ us ws l1 l2 => match us, l1, ws, l2 with | [_], _, [_], _ => rfl)
      (fun us ws => ((us.drop 0).take 1 ++ ((ws.drop 0).take 1 ++ []))) (fun _ _ _ _ _ _ _ r1 r2 _ _ => ((RVs.pick r1 0).append ((RVs.pick r2 0).append .nil))) (fun ds es l1 l2 => match ds, l1, es, l2 with | [_], _, [_], _ => rfl)) (fun ds es g => by
      dsimp only [Ph.up]
      split
      · exact .inl rfl
      · exact .inr rfl)
theorem up_ix_NoText_0_at (T : Fx K w mg) (B : Bun P w K mg base k F) : TabX P w K mg base (k + 1) "NoText" ["at"] F.up.ix_NoText_0_at := by
  obtain ⟨C, f, fd, hm, M, h1, h2, FD⟩ := T.xk_NoText
  refine ⟨C, f, _, _, _, _, hm, xbV, M, h1, h2, ?_⟩
  exact CallF.weak (callF_arr (n := 1) (ks := ["at"]) (fun_ok FD sc_NoText_init (fun cdv A outer s H E hr => b_NoText_init T B _ cdv A outer s H E hr)) (FD.kbindsN 1 ["at"] (fun us ws => ((us.drop 0).take 1 ++ ((ws.drop 0).take 1 ++ []))) (fun r1 r2 => ((vals_pick r1 0).append ((vals_pick r2 0).append .nil))) fun _ _ _ _ _ _ us ws l1 l2 => match us, l1, ws, l2 with | [_], _, [_], _ => rfl)
      (fun us ws => ((us.drop 0).take 1 ++ ((ws.drop 0).take 1 ++ []))) (fun _ _ _ _ _ _ _ r1 r2 _ _ => ((RVs.pick r1 0).append ((RVs.pick r2 0).append .nil))) (fun ds es l1 l2 => match ds, l1, es, l2 with | [_], _, [_], _ => rfl)) (fun ds es g => by
      dsimp only [Ph.up]
      split
      · exact .inl rfl
      · exact .inr rfl)
theorem up_ix_NoCall_0_at (T : Fx K w mg) (B : Bun P w K mg base k F) : TabX P w K mg base (k + 1) "NoCall" ["at"] F.up.ix_NoCall_0_at := by
  obtain ⟨C, f, fd, hm, M, h1, h2, FD⟩ := T.xk_NoCall
  refine ⟨C, f, _, _, _, _, hm, xbV, M, h1, h2, ?_⟩
  exact CallF.weak (callF_arr (n := 1) (ks := ["at"]) (fun_ok FD sc_NoCall_init (fun cdv A outer s H E hr => b_NoCall_init T B _ cdv A outer s H E hr)) (FD.kbindsN 1 ["at"] (fun us ws => ((us.drop 0).take 1 ++ ((ws.drop 0).take 1 ++ []))) (fun r1 r2 => ((vals_pick r1 0).append ((vals_pick r2 0).append .nil))) fun _ _ _ _ _ _ us ws l1 l2 => match us, l1, ws, l2 with | [_], _, [_], _ => rfl)
      (fun us ws => ((us.drop 0).take 1 ++ ((ws.drop 0).take 1 ++ []))) (fun _ _ _ _ _ _ _ r1 r2 _ _ => ((RVs.pick r1 0).append ((RVs.pick r2 0).append .nil))) (fun ds es l1 l2 => match ds, l1, es, l2 with | [_], _, [_], _ => rfl)) (fun ds es g => by
      dsimp only [Ph.up]
      split
      · exact .inl rfl
      · exact .inr rfl)
theorem up_ix_NoCapture_0_at (T : Fx K w mg) (B : Bun P w K mg base k F) : TabX P w K mg base (k + 1) "NoCapture" ["at"] F.up.ix_NoCapture_0_at := by
  obtain ⟨C, f, fd, hm, M, h1, h2, FD⟩ := T.xk_NoCapture
  refine ⟨C, f, _, _, _, _, hm, xbV, M, h1, h2, ?_⟩
  exact CallF.weak (callF_arr (n := 1) (ks := ["at"]) (fun_ok FD sc_NoCapture_init (fun cdv A outer s H E hr => b_NoCapture_init T B _ cdv A outer s H E hr)) (FD.kbindsN 1 ["at"] (fun us ws => ((us.drop 0).take 1 ++ ((ws.drop 0).take 1 ++ []))) (fun r1 r2 => ((vals_pick r1 0).append ((vals_pick r2 0).append .nil))) fun _ _ _ _ _ _ us ws l1 l2 => match us, l1, ws, l2 with | [_], _, [_], _ => rfl)
      (fun us ws => ((us.drop 0).take 1 ++ ((ws.drop 0).take 1 ++ []))) (fun _ _ _ _ _ _ _ r1 r2 _ _ => ((RVs.pick r1 0).append ((RVs.pick r2 0).append .nil))) (fun ds es l1 l2 => match ds, l1, es, l2 with | [_], _, [_], _ => rfl)) (fun ds es g => by
      dsimp only [Ph.up]
      split
      · exact .inl rfl
      · exact .inr rfl)
theorem up_ix_NoBase_0_base (T : Fx K w mg) (B : Bun P w K mg base k F) : TabX P w K mg base (k + 1) "NoBase" ["base"] F.up.ix_NoBase_0_base := by
  obtain ⟨C, f, fd, hm, M, h1, h2, FD⟩ := T.xk_NoBase
  refine ⟨C, f, _, _, _, _, hm, xbV, M, h1, h2, ?_⟩
  exact CallF.weak (callF_arr (n := 1) (ks := ["base"]) (fun_ok FD sc_NoBase_init (fun cdv A outer s H E hr => b_NoBase_init T B _ cdv A outer s H E hr)) (FD.kbindsN 1 ["base"] (fun us ws => ((us.drop 0).take 1 ++ ((ws.drop 0).take 1 ++ []))) (fun r1 r2 => ((vals_pick r1 0).append ((vals_pick r2 0).append .nil))) fun _ _ _ _ _ _ us ws l1 l2 => match us, l1, ws, l2 with | [_], _, [_], _ => rfl)
      (fun us ws => ((us.drop 0).take 1 ++ ((ws.drop 0).take 1 ++ []))) (fun _ _ _ _ _ _ _ r1 r2 _ _ => ((RVs.pick r1 0).append ((RVs.pick r2 0).append .nil))) (fun ds es l1 l2 => match ds, l1, es, l2 with | [_], _, [_], _ => rfl)) (fun ds es g => by
      dsimp only [Ph.up]
      split
      · exact .inl rfl
      · exact .inr rfl)
theorem up_ix_NoNumber_0_number (T : Fx K w mg) (B : Bun P w K mg base k F) : TabX P w K mg base (k + 1) "NoNumber" ["number"] F.up.ix_NoNumber_0_number := by
  obtain ⟨C, f, fd, hm, M, h1, h2, FD⟩ := T.xk_NoNumber
  refine ⟨C, f, _, _, _, _, hm, xbV, M, h1, h2, ?_⟩
  exact CallF.weak (callF_arr (n := 1) (ks := ["number"]) (fun_ok FD sc_NoNumber_init (fun cdv A outer s H E hr => b_NoNumber_init T B _ cdv A outer s H E hr)) (FD.kbindsN 1 ["number"] (fun us ws => ((us.drop 0).take 1 ++ ((ws.drop 0).take 1 ++ []))) (fun r1 r2 => ((vals_pick r1 0).append ((vals_pick r2 0).append .nil))) fun _ _ _ _ _ _ us ws l1 l2 => match us, l1, ws, l2 with | [_], _, [_], _ => rfl)
      (fun us ws => ((us.drop 0).take 1 ++ ((ws.drop 0).take 1 ++ []))) (fun _ _ _ _ _ _ _ r1 r2 _ _ => ((RVs.pick r1 0).append ((RVs.pick r2 0).append .nil))) (fun ds es l1 l2 => match ds, l1, es, l2 with | [_], _, [_], _ => rfl)) (fun ds es g => by
      dsimp only [Ph.up]
      split
      · exact .inl rfl
      · exact .inr rfl)
theorem up_ix_Noticed_0_history (T : Fx K w mg) (B : Bun P w K mg base k F) : TabX P w K mg base (k + 1) "Noticed" ["history"] F.up.ix_Noticed_0_history := by
  obtain ⟨C, f, fd, hm, M, h1, h2, FD⟩ := T.xk_Noticed
  refine ⟨C, f, _, _, _, _, hm, xbR, M, h1, h2, ?_⟩
  exact CallF.weak (callF_arr (n := 1) (ks := ["history"]) (fun_ok FD sc_Noticed_init (fun cdv A outer s H E hr => b_Noticed_init T B _ cdv A outer s H E hr)) (FD.kbindsN 1 ["history"] (fun us ws => ((us.drop 0).take 1 ++ ((ws.drop 0).take 1 ++ []))) (fun r1 r2 => ((vals_pick r1 0).append ((vals_pick r2 0).append .nil))) fun _ _ _ _ _ _ us ws l1 l2 => match us, l1, ws, l2 with | [_], _, [_], _ => rfl)
      (fun us ws => ((us.drop 0).take 1 ++ ((ws.drop 0).take 1 ++ []))) (fun _ _ _ _ _ _ _ r1 r2 _ _ => ((RVs.pick r1 0).append ((RVs.pick r2 0).append .nil))) (fun ds es l1 l2 => match ds, l1, es, l2 with | [_], _, [_], _ => rfl)) (fun ds es g => by
      dsimp only [Ph.up]
      split
      · exact .inl rfl
      · exact .inr rfl)
theorem bun (T : Fx K w mg) : ∀ k, Bun P w K mg base k (ph k)
  | 0 => bun0 T
  | k + 1 => by
    have B := bun T k
    exact { f_v_law_any_2 := up_f_v_law_any_2 T B, f_v_law_bag_2 := up_f_v_law_bag_2 T B, f_v_law_named_right_1 := up_f_v_law_named_right_1 T B, f_v_law_take_2 := up_f_v_law_take_2 T B, f_v_law_word_1 := up_f_v_law_word_1 T B, x_NoCall_1 := .inr ⟨k, _, rfl, rfl, B.ix_NoCall_1⟩, ix_NoCall_1 := up_ix_NoCall_1 T B, x_NoCapture_1 := .inr ⟨k, _, rfl, rfl, B.ix_NoCapture_1⟩, ix_NoCapture_1 := up_ix_NoCapture_1 T B, x_NoNumber_1 := .inr ⟨k, _, rfl, rfl, B.ix_NoNumber_1⟩, ix_NoNumber_1 := up_ix_NoNumber_1 T B, x_NoName_1 := .inr ⟨k, _, rfl, rfl, B.ix_NoName_1⟩, ix_NoName_1 := up_ix_NoName_1 T B, x_NoBase_1 := .inr ⟨k, _, rfl, rfl, B.ix_NoBase_1⟩, ix_NoBase_1 := up_ix_NoBase_1 T B, x_NoCell_1 := .inr ⟨k, _, rfl, rfl, B.ix_NoCell_1⟩, ix_NoCell_1 := up_ix_NoCell_1 T B, x_NoClosure_1 := .inr ⟨k, _, rfl, rfl, B.ix_NoClosure_1⟩, ix_NoClosure_1 := up_ix_NoClosure_1 T B, x_NoText_1 := .inr ⟨k, _, rfl, rfl, B.ix_NoText_1⟩, ix_NoText_1 := up_ix_NoText_1 T B, x_InUse_1 := .inr ⟨k, _, rfl, rfl, B.ix_InUse_1⟩, ix_InUse_1 := up_ix_InUse_1 T B, x_Taken_1 := .inr ⟨k, _, rfl, rfl, B.ix_Taken_1⟩, ix_Taken_1 := up_ix_Taken_1 T B, x_Noticed_1 := .inr ⟨k, _, rfl, rfl, B.ix_Noticed_1⟩, ix_Noticed_1 := up_ix_Noticed_1 T B, x_Taken_0_name := .inr ⟨k, _, rfl, rfl, B.ix_Taken_0_name⟩, ix_Taken_0_name := up_ix_Taken_0_name T B, x_NoClosure_0_name := .inr ⟨k, _, rfl, rfl, B.ix_NoClosure_0_name⟩, ix_NoClosure_0_name := up_ix_NoClosure_0_name T B, x_NoName_0_name := .inr ⟨k, _, rfl, rfl, B.ix_NoName_0_name⟩, ix_NoName_0_name := up_ix_NoName_0_name T B, x_NoCell_0_name := .inr ⟨k, _, rfl, rfl, B.ix_NoCell_0_name⟩, ix_NoCell_0_name := up_ix_NoCell_0_name T B, x_InUse_0_name := .inr ⟨k, _, rfl, rfl, B.ix_InUse_0_name⟩, ix_InUse_0_name := up_ix_InUse_0_name T B, x_NoText_0_at := .inr ⟨k, _, rfl, rfl, B.ix_NoText_0_at⟩, ix_NoText_0_at := up_ix_NoText_0_at T B, x_NoCall_0_at := .inr ⟨k, _, rfl, rfl, B.ix_NoCall_0_at⟩, ix_NoCall_0_at := up_ix_NoCall_0_at T B, x_NoCapture_0_at := .inr ⟨k, _, rfl, rfl, B.ix_NoCapture_0_at⟩, ix_NoCapture_0_at := up_ix_NoCapture_0_at T B, x_NoBase_0_base := .inr ⟨k, _, rfl, rfl, B.ix_NoBase_0_base⟩, ix_NoBase_0_base := up_ix_NoBase_0_base T B, x_NoNumber_0_number := .inr ⟨k, _, rfl, rfl, B.ix_NoNumber_0_number⟩, ix_NoNumber_0_number := up_ix_NoNumber_0_number T B, x_Noticed_0_history := .inr ⟨k, _, rfl, rfl, B.ix_Noticed_0_history⟩, ix_Noticed_0_history := up_ix_Noticed_0_history T B }
end
theorem fx_of {K : PySem.W.Frag} {h : Heap} {mg : Str → Option Value} {w : World} (X : K.In h) (G : h.Ns mainGlobals mg) (c : He.SaysD fas fns K) (c2 : fbs.all (·.ok K) = true)   (hx_g : gloB K xcs = true) (hx_i : (xcs.all fun x => xisB K x) = true) (hxc_InUse : xclB K "InUse" 1 = true) (hxi_InUse : xinB K "InUse" = true) (hxc_NoBase : xclB K "NoBase" 0 = true) (hxi_NoBase : xinB K "NoBase" = true) (hxc_NoCall : xclB K "NoCall" 0 = true) (hxi_NoCall : xinB K "NoCall" = true) (hxc_NoCapture : xclB K "NoCapture" 0 = true) (hxi_NoCapture : xinB K "NoCapture" = true) (hxc_NoCell : xclB K "NoCell" 3 = true) (hxi_NoCell : xinB K "NoCell" = true) (hxc_NoClosure : xclB K "NoClosure" 3 = true) (hxi_NoClosure : xinB K "NoClosure" = true) (hxc_NoName : xclB K "NoName" 0 = true) (hxi_NoName : xinB K "NoName" = true) (hxc_NoNumber : xclB K "NoNumber" 0 = true) (hxi_NoNumber : xinB K "NoNumber" = true) (hxc_NoText : xclB K "NoText" 0 = true) (hxi_NoText : xinB K "NoText" = true) (hxc_Noticed : xclB K "Noticed" 1 = true) (hxi_Noticed : xinB K "Noticed" = true) (hxc_Taken : xclB K "Taken" 1 = true) (hxi_Taken : xinB K "Taken" = true) (hxy_NoBody : xplB K "NoBody" 0 = true) (hxy_NoCommand : xplB K "NoCommand" 0 = true) (hxy_NoHouse : xplB K "NoHouse" 0 = true) (hxy_NoPlan : xplB K "NoPlan" 0 = true) (hxy_Nothing : xplB K "Nothing" 1 = true) (hxy_TooMany : xplB K "TooMany" 2 = true) (hxy_Unlike : xplB K "Unlike" 0 = true) (hxb_KeyError : xbiB K "KeyError" "KeyError.__init__" = true) (hxb_RuntimeError : xbiB K "RuntimeError" "RuntimeError.__init__" = true) (hxb_ValueError : xbiB K "ValueError" "ValueError.__init__" = true) (hxn_InUse_name : xnoB K "name" ["InUse"] = true) (hxn_NoBase_base : xnoB K "base" ["NoBase"] = true) (hxn_NoCall_at : xnoB K "at" ["NoCall"] = true) (hxn_NoCapture_at : xnoB K "at" ["NoCapture"] = true) (hxn_NoCell_name : xnoB K "name" ["NoCell"] = true) (hxn_NoClosure_name : xnoB K "name" ["NoClosure"] = true) (hxn_NoName_name : xnoB K "name" ["NoName"] = true) (hxn_NoNumber_number : xnoB K "number" ["NoNumber"] = true) (hxn_NoText_at : xnoB K "at" ["NoText"] = true) (hxn_Noticed_history : xnoB K "history" ["Noticed"] = true) (hxn_Taken_name : xnoB K "name" ["Taken"] = true) (hxg_at : xnoB K "at" xcs = true) (hxg_base : xnoB K "base" xcs = true) (hxg_history : xnoB K "history" xcs = true) (hxg_name : xnoB K "name" xcs = true) (hxg_number : xnoB K "number" xcs = true) (hxe_InUse : kitX K (.ref (He.ga K "InUse")) [("InUse", true), ("NoBase", false), ("NoBody", false), ("NoCall", false), ("NoCapture", false), ("NoCell", false), ("NoClosure", false), ("NoCommand", false), ("NoHouse", false), ("NoName", false), ("NoNumber", false), ("NoPlan", false), ("NoText", false), ("Nothing", false), ("Noticed", false), ("Taken", false), ("TooMany", false), ("Unlike", false)] = true) (hxe_KeyError : kitX K (.type "KeyError") [("InUse", false), ("NoBase", false), ("NoBody", false), ("NoCall", false), ("NoCapture", false), ("NoCell", true), ("NoClosure", true), ("NoCommand", false), ("NoHouse", false), ("NoName", false), ("NoNumber", false), ("NoPlan", false), ("NoText", false), ("Nothing", false), ("Noticed", false), ("Taken", false), ("TooMany", false), ("Unlike", false)] = true) (hxe_LookupError : kitX K (.type "LookupError") [("InUse", false), ("NoBase", false), ("NoBody", false), ("NoCall", false), ("NoCapture", false), ("NoCell", true), ("NoClosure", true), ("NoCommand", false), ("NoHouse", false), ("NoName", false), ("NoNumber", false), ("NoPlan", false), ("NoText", false), ("Nothing", false), ("Noticed", false), ("Taken", false), ("TooMany", false), ("Unlike", false)] = true) (hxe_NoBase : kitX K (.ref (He.ga K "NoBase")) [("InUse", false), ("NoBase", true), ("NoBody", false), ("NoCall", false), ("NoCapture", false), ("NoCell", false), ("NoClosure", false), ("NoCommand", false), ("NoHouse", false), ("NoName", false), ("NoNumber", false), ("NoPlan", false), ("NoText", false), ("Nothing", false), ("Noticed", false), ("Taken", false), ("TooMany", false), ("Unlike", false)] = true) (hxe_NoBody : kitX K (.ref (He.ga K "NoBody")) [("InUse", false), ("NoBase", false), ("NoBody", true), ("NoCall", false), ("NoCapture", false), ("NoCell", false), ("NoClosure", false), ("NoCommand", false), ("NoHouse", false), ("NoName", false), ("NoNumber", false), ("NoPlan", false), ("NoText", false), ("Nothing", false), ("Noticed", false), ("Taken", false), ("TooMany", false), ("Unlike", false)] = true) (hxe_NoCall : kitX K (.ref (He.ga K "NoCall")) [("InUse", false), ("NoBase", false), ("NoBody", false), ("NoCall", true), ("NoCapture", false), ("NoCell", false), ("NoClosure", false), ("NoCommand", false), ("NoHouse", false), ("NoName", false), ("NoNumber", false), ("NoPlan", false), ("NoText", false), ("Nothing", false), ("Noticed", false), ("Taken", false), ("TooMany", false), ("Unlike", false)] = true) (hxe_NoCapture : kitX K (.ref (He.ga K "NoCapture")) [("InUse", false), ("NoBase", false), ("NoBody", false), ("NoCall", false), ("NoCapture", true), ("NoCell", false), ("NoClosure", false), ("NoCommand", false), ("NoHouse", false), ("NoName", false), ("NoNumber", false), ("NoPlan", false), ("NoText", false), ("Nothing", false), ("Noticed", false), ("Taken", false), ("TooMany", false), ("Unlike", false)] = true) (hxe_NoCell : kitX K (.ref (He.ga K "NoCell")) [("InUse", false), ("NoBase", false), ("NoBody", false), ("NoCall", false), ("NoCapture", false), ("NoCell", true), ("NoClosure", false), ("NoCommand", false), ("NoHouse", false), ("NoName", false), ("NoNumber", false), ("NoPlan", false), ("NoText", false), ("Nothing", false), ("Noticed", false), ("Taken", false), ("TooMany", false), ("Unlike", false)] = true) (hxe_NoClosure : kitX K (.ref (He.ga K "NoClosure")) [("InUse", false), ("NoBase", false), ("NoBody", false), ("NoCall", false), ("NoCapture", false), ("NoCell", false), ("NoClosure", true), ("NoCommand", false), ("NoHouse", false), ("NoName", false), ("NoNumber", false), ("NoPlan", false), ("NoText", false), ("Nothing", false), ("Noticed", false), ("Taken", false), ("TooMany", false), ("Unlike", false)] = true) (hxe_NoCommand : kitX K (.ref (He.ga K "NoCommand")) [("InUse", false), ("NoBase", false), ("NoBody", false), ("NoCall", false), ("NoCapture", false), ("NoCell", false), ("NoClosure", false), ("NoCommand", true), ("NoHouse", false), ("NoName", false), ("NoNumber", false), ("NoPlan", false), ("NoText", false), ("Nothing", false), ("Noticed", false), ("Taken", false), ("TooMany", false), ("Unlike", false)] = true) (hxe_NoHouse : kitX K (.ref (He.ga K "NoHouse")) [("InUse", false), ("NoBase", false), ("NoBody", false), ("NoCall", false), ("NoCapture", false), ("NoCell", false), ("NoClosure", false), ("NoCommand", false), ("NoHouse", true), ("NoName", false), ("NoNumber", false), ("NoPlan", false), ("NoText", false), ("Nothing", false), ("Noticed", false), ("Taken", false), ("TooMany", false), ("Unlike", false)] = true) (hxe_NoName : kitX K (.ref (He.ga K "NoName")) [("InUse", false), ("NoBase", false), ("NoBody", false), ("NoCall", false), ("NoCapture", false), ("NoCell", false), ("NoClosure", false), ("NoCommand", false), ("NoHouse", false), ("NoName", true), ("NoNumber", false), ("NoPlan", false), ("NoText", false), ("Nothing", false), ("Noticed", false), ("Taken", false), ("TooMany", false), ("Unlike", false)] = true) (hxe_NoNumber : kitX K (.ref (He.ga K "NoNumber")) [("InUse", false), ("NoBase", false), ("NoBody", false), ("NoCall", false), ("NoCapture", false), ("NoCell", false), ("NoClosure", false), ("NoCommand", false), ("NoHouse", false), ("NoName", false), ("NoNumber", true), ("NoPlan", false), ("NoText", false), ("Nothing", false), ("Noticed", false), ("Taken", false), ("TooMany", false), ("Unlike", false)] = true) (hxe_NoPlan : kitX K (.ref (He.ga K "NoPlan")) [("InUse", false), ("NoBase", false), ("NoBody", false), ("NoCall", false), ("NoCapture", false), ("NoCell", false), ("NoClosure", false), ("NoCommand", false), ("NoHouse", false), ("NoName", false), ("NoNumber", false), ("NoPlan", true), ("NoText", false), ("Nothing", false), ("Noticed", false), ("Taken", false), ("TooMany", false), ("Unlike", false)] = true) (hxe_NoText : kitX K (.ref (He.ga K "NoText")) [("InUse", false), ("NoBase", false), ("NoBody", false), ("NoCall", false), ("NoCapture", false), ("NoCell", false), ("NoClosure", false), ("NoCommand", false), ("NoHouse", false), ("NoName", false), ("NoNumber", false), ("NoPlan", false), ("NoText", true), ("Nothing", false), ("Noticed", false), ("Taken", false), ("TooMany", false), ("Unlike", false)] = true) (hxe_Nothing : kitX K (.ref (He.ga K "Nothing")) [("InUse", false), ("NoBase", false), ("NoBody", false), ("NoCall", false), ("NoCapture", false), ("NoCell", false), ("NoClosure", false), ("NoCommand", false), ("NoHouse", false), ("NoName", false), ("NoNumber", false), ("NoPlan", false), ("NoText", false), ("Nothing", true), ("Noticed", false), ("Taken", false), ("TooMany", false), ("Unlike", false)] = true) (hxe_Noticed : kitX K (.ref (He.ga K "Noticed")) [("InUse", false), ("NoBase", false), ("NoBody", false), ("NoCall", false), ("NoCapture", false), ("NoCell", false), ("NoClosure", false), ("NoCommand", false), ("NoHouse", false), ("NoName", false), ("NoNumber", false), ("NoPlan", false), ("NoText", false), ("Nothing", false), ("Noticed", true), ("Taken", false), ("TooMany", false), ("Unlike", false)] = true) (hxe_OverflowError : kitX K (.type "OverflowError") [("InUse", false), ("NoBase", false), ("NoBody", false), ("NoCall", false), ("NoCapture", false), ("NoCell", false), ("NoClosure", false), ("NoCommand", false), ("NoHouse", false), ("NoName", false), ("NoNumber", false), ("NoPlan", false), ("NoText", false), ("Nothing", false), ("Noticed", false), ("Taken", false), ("TooMany", true), ("Unlike", false)] = true) (hxe_RuntimeError : kitX K (.type "RuntimeError") [("InUse", true), ("NoBase", false), ("NoBody", false), ("NoCall", false), ("NoCapture", false), ("NoCell", false), ("NoClosure", false), ("NoCommand", false), ("NoHouse", false), ("NoName", false), ("NoNumber", false), ("NoPlan", false), ("NoText", false), ("Nothing", true), ("Noticed", true), ("Taken", true), ("TooMany", false), ("Unlike", false)] = true) (hxe_Taken : kitX K (.ref (He.ga K "Taken")) [("InUse", false), ("NoBase", false), ("NoBody", false), ("NoCall", false), ("NoCapture", false), ("NoCell", false), ("NoClosure", false), ("NoCommand", false), ("NoHouse", false), ("NoName", false), ("NoNumber", false), ("NoPlan", false), ("NoText", false), ("Nothing", false), ("Noticed", false), ("Taken", true), ("TooMany", false), ("Unlike", false)] = true) (hxe_TooMany : kitX K (.ref (He.ga K "TooMany")) [("InUse", false), ("NoBase", false), ("NoBody", false), ("NoCall", false), ("NoCapture", false), ("NoCell", false), ("NoClosure", false), ("NoCommand", false), ("NoHouse", false), ("NoName", false), ("NoNumber", false), ("NoPlan", false), ("NoText", false), ("Nothing", false), ("Noticed", false), ("Taken", false), ("TooMany", true), ("Unlike", false)] = true) (hxe_Unlike : kitX K (.ref (He.ga K "Unlike")) [("InUse", false), ("NoBase", false), ("NoBody", false), ("NoCall", false), ("NoCapture", false), ("NoCell", false), ("NoClosure", false), ("NoCommand", false), ("NoHouse", false), ("NoName", false), ("NoNumber", false), ("NoPlan", false), ("NoText", false), ("Nothing", false), ("Noticed", false), ("Taken", false), ("TooMany", false), ("Unlike", true)] = true) (hxe_ValueError : kitX K (.type "ValueError") [("InUse", false), ("NoBase", true), ("NoBody", true), ("NoCall", true), ("NoCapture", true), ("NoCell", false), ("NoClosure", false), ("NoCommand", true), ("NoHouse", true), ("NoName", true), ("NoNumber", true), ("NoPlan", true), ("NoText", true), ("Nothing", false), ("Noticed", false), ("Taken", false), ("TooMany", false), ("Unlike", true)] = true) : Fx K w mg where
  d_law := by
    obtain ⟨fd, FD⟩ := c.def_ 0 rfl
    exact ⟨_, fd, He.glo_ok X G (c.fact 0 (f := .glo "law") rfl), FD⟩
  d_v_law_bag := by
    obtain ⟨fd, FD⟩ := c.def_ 1 rfl
    exact ⟨_, fd, He.glo_ok X G (c.fact 1 (f := .glo "_law_bag") rfl), FD⟩
  d_v_law_any := by
    obtain ⟨fd, FD⟩ := c.def_ 2 rfl
    exact ⟨_, fd, He.glo_ok X G (c.fact 2 (f := .glo "_law_any") rfl), FD⟩
  d_v_law_named_right := by
    obtain ⟨fd, FD⟩ := c.def_ 3 rfl
    exact ⟨_, fd, He.glo_ok X G (c.fact 3 (f := .glo "_law_named_right") rfl), FD⟩
  d_v_law_word := by
    obtain ⟨fd, FD⟩ := c.def_ 15 rfl
    exact ⟨_, fd, He.glo_ok X G (c.fact 4 (f := .glo "_law_word") rfl), FD⟩
  d_v_law_take := by
    obtain ⟨fd, FD⟩ := c.def_ 16 rfl
    exact ⟨_, fd, He.glo_ok X G (c.fact 5 (f := .glo "_law_take") rfl), FD⟩
  n_KeyError := He.free_ok X G (c.fact 6 (f := .free "KeyError") rfl)
  n_LookupError := He.free_ok X G (c.fact 7 (f := .free "LookupError") rfl)
  n_OverflowError := He.free_ok X G (c.fact 8 (f := .free "OverflowError") rfl)
  n_RuntimeError := He.free_ok X G (c.fact 9 (f := .free "RuntimeError") rfl)
  n_ValueError := He.free_ok X G (c.fact 10 (f := .free "ValueError") rfl)
  n_abs := He.free_ok X G (c.fact 11 (f := .free "abs") rfl)
  n_int := He.free_ok X G (c.fact 12 (f := .free "int") rfl)
  n_isinstance := He.free_ok X G (c.fact 13 (f := .free "isinstance") rfl)
  n_len := He.free_ok X G (c.fact 14 (f := .free "len") rfl)
  n_max := He.free_ok X G (c.fact 15 (f := .free "max") rfl)
  n_min := He.free_ok X G (c.fact 16 (f := .free "min") rfl)
  n_range := He.free_ok X G (c.fact 17 (f := .free "range") rfl)
  n_repr := He.free_ok X G (c.fact 18 (f := .free "repr") rfl)
  n_str := He.free_ok X G (c.fact 19 (f := .free "str") rfl)
  xk_InUse := by
    obtain ⟨fd, FD⟩ := c.def_ 12 rfl
    obtain ⟨h1, h2⟩ := ba' hxi_InUse
    exact ⟨_, _, fd, ((xall_of X G hx_g hx_i).all "InUse" (by decide)).1, xclB_ok hxc_InUse, He.eqO_ok h1, isFn_typ h2, FD⟩
  xo_InUse := fun cc C ho hm => by
    have e := of_decide_eq_true ho
    subst e
    have e := hm.symm.trans ((xall_of X G hx_g hx_i).all "InUse" (by decide)).1
    cases e
    exact xclB_ok hxc_InUse
  xk_NoBase := by
    obtain ⟨fd, FD⟩ := c.def_ 8 rfl
    obtain ⟨h1, h2⟩ := ba' hxi_NoBase
    exact ⟨_, _, fd, ((xall_of X G hx_g hx_i).all "NoBase" (by decide)).1, xclB_ok hxc_NoBase, He.eqO_ok h1, isFn_typ h2, FD⟩
  xo_NoBase := fun cc C ho hm => by
    have e := of_decide_eq_true ho
    subst e
    have e := hm.symm.trans ((xall_of X G hx_g hx_i).all "NoBase" (by decide)).1
    cases e
    exact xclB_ok hxc_NoBase
  xk_NoCall := by
    obtain ⟨fd, FD⟩ := c.def_ 4 rfl
    obtain ⟨h1, h2⟩ := ba' hxi_NoCall
    exact ⟨_, _, fd, ((xall_of X G hx_g hx_i).all "NoCall" (by decide)).1, xclB_ok hxc_NoCall, He.eqO_ok h1, isFn_typ h2, FD⟩
  xo_NoCall := fun cc C ho hm => by
    have e := of_decide_eq_true ho
    subst e
    have e := hm.symm.trans ((xall_of X G hx_g hx_i).all "NoCall" (by decide)).1
    cases e
    exact xclB_ok hxc_NoCall
  xk_NoCapture := by
    obtain ⟨fd, FD⟩ := c.def_ 5 rfl
    obtain ⟨h1, h2⟩ := ba' hxi_NoCapture
    exact ⟨_, _, fd, ((xall_of X G hx_g hx_i).all "NoCapture" (by decide)).1, xclB_ok hxc_NoCapture, He.eqO_ok h1, isFn_typ h2, FD⟩
  xo_NoCapture := fun cc C ho hm => by
    have e := of_decide_eq_true ho
    subst e
    have e := hm.symm.trans ((xall_of X G hx_g hx_i).all "NoCapture" (by decide)).1
    cases e
    exact xclB_ok hxc_NoCapture
  xk_NoCell := by
    obtain ⟨fd, FD⟩ := c.def_ 9 rfl
    obtain ⟨h1, h2⟩ := ba' hxi_NoCell
    exact ⟨_, _, fd, ((xall_of X G hx_g hx_i).all "NoCell" (by decide)).1, xclB_ok hxc_NoCell, He.eqO_ok h1, isFn_typ h2, FD⟩
  xo_NoCell := fun cc C ho hm => by
    have e := of_decide_eq_true ho
    subst e
    have e := hm.symm.trans ((xall_of X G hx_g hx_i).all "NoCell" (by decide)).1
    cases e
    exact xclB_ok hxc_NoCell
  xk_NoClosure := by
    obtain ⟨fd, FD⟩ := c.def_ 10 rfl
    obtain ⟨h1, h2⟩ := ba' hxi_NoClosure
    exact ⟨_, _, fd, ((xall_of X G hx_g hx_i).all "NoClosure" (by decide)).1, xclB_ok hxc_NoClosure, He.eqO_ok h1, isFn_typ h2, FD⟩
  xo_NoClosure := fun cc C ho hm => by
    have e := of_decide_eq_true ho
    subst e
    have e := hm.symm.trans ((xall_of X G hx_g hx_i).all "NoClosure" (by decide)).1
    cases e
    exact xclB_ok hxc_NoClosure
  xk_NoName := by
    obtain ⟨fd, FD⟩ := c.def_ 7 rfl
    obtain ⟨h1, h2⟩ := ba' hxi_NoName
    exact ⟨_, _, fd, ((xall_of X G hx_g hx_i).all "NoName" (by decide)).1, xclB_ok hxc_NoName, He.eqO_ok h1, isFn_typ h2, FD⟩
  xo_NoName := fun cc C ho hm => by
    have e := of_decide_eq_true ho
    subst e
    have e := hm.symm.trans ((xall_of X G hx_g hx_i).all "NoName" (by decide)).1
    cases e
    exact xclB_ok hxc_NoName
  xk_NoNumber := by
    obtain ⟨fd, FD⟩ := c.def_ 6 rfl
    obtain ⟨h1, h2⟩ := ba' hxi_NoNumber
    exact ⟨_, _, fd, ((xall_of X G hx_g hx_i).all "NoNumber" (by decide)).1, xclB_ok hxc_NoNumber, He.eqO_ok h1, isFn_typ h2, FD⟩
  xo_NoNumber := fun cc C ho hm => by
    have e := of_decide_eq_true ho
    subst e
    have e := hm.symm.trans ((xall_of X G hx_g hx_i).all "NoNumber" (by decide)).1
    cases e
    exact xclB_ok hxc_NoNumber
  xk_NoText := by
    obtain ⟨fd, FD⟩ := c.def_ 11 rfl
    obtain ⟨h1, h2⟩ := ba' hxi_NoText
    exact ⟨_, _, fd, ((xall_of X G hx_g hx_i).all "NoText" (by decide)).1, xclB_ok hxc_NoText, He.eqO_ok h1, isFn_typ h2, FD⟩
  xo_NoText := fun cc C ho hm => by
    have e := of_decide_eq_true ho
    subst e
    have e := hm.symm.trans ((xall_of X G hx_g hx_i).all "NoText" (by decide)).1
    cases e
    exact xclB_ok hxc_NoText
  xk_Noticed := by
    obtain ⟨fd, FD⟩ := c.def_ 14 rfl
    obtain ⟨h1, h2⟩ := ba' hxi_Noticed
    exact ⟨_, _, fd, ((xall_of X G hx_g hx_i).all "Noticed" (by decide)).1, xclB_ok hxc_Noticed, He.eqO_ok h1, isFn_typ h2, FD⟩
  xo_Noticed := fun cc C ho hm => by
    have e := of_decide_eq_true ho
    subst e
    have e := hm.symm.trans ((xall_of X G hx_g hx_i).all "Noticed" (by decide)).1
    cases e
    exact xclB_ok hxc_Noticed
  xk_Taken := by
    obtain ⟨fd, FD⟩ := c.def_ 13 rfl
    obtain ⟨h1, h2⟩ := ba' hxi_Taken
    exact ⟨_, _, fd, ((xall_of X G hx_g hx_i).all "Taken" (by decide)).1, xclB_ok hxc_Taken, He.eqO_ok h1, isFn_typ h2, FD⟩
  xo_Taken := fun cc C ho hm => by
    have e := of_decide_eq_true ho
    subst e
    have e := hm.symm.trans ((xall_of X G hx_g hx_i).all "Taken" (by decide)).1
    cases e
    exact xclB_ok hxc_Taken
  xy_NoBody := xplB_ok 0 ((xall_of X G hx_g hx_i).all "NoBody" (by decide)).1 PySem.F.excBase_ValueError hxy_NoBody
  xy_NoCommand := xplB_ok 0 ((xall_of X G hx_g hx_i).all "NoCommand" (by decide)).1 PySem.F.excBase_ValueError hxy_NoCommand
  xy_NoHouse := xplB_ok 0 ((xall_of X G hx_g hx_i).all "NoHouse" (by decide)).1 PySem.F.excBase_ValueError hxy_NoHouse
  xy_NoPlan := xplB_ok 0 ((xall_of X G hx_g hx_i).all "NoPlan" (by decide)).1 PySem.F.excBase_ValueError hxy_NoPlan
  xy_Nothing := xplB_ok 1 ((xall_of X G hx_g hx_i).all "Nothing" (by decide)).1 PySem.F.excBase_RuntimeError hxy_Nothing
  xy_TooMany := xplB_ok 2 ((xall_of X G hx_g hx_i).all "TooMany" (by decide)).1 PySem.F.excBase_OverflowError hxy_TooMany
  xy_Unlike := xplB_ok 0 ((xall_of X G hx_g hx_i).all "Unlike" (by decide)).1 PySem.F.excBase_ValueError hxy_Unlike
  vi_KeyError := xbiB_ok hxb_KeyError
  vi_RuntimeError := xbiB_ok hxb_RuntimeError
  vi_ValueError := xbiB_ok hxb_ValueError
  xn_InUse_name := fun cc C ho hm => by
    have e := of_decide_eq_true ho
    subst e
    have e := hm.symm.trans ((xall_of X G hx_g hx_i).all "InUse" (by decide)).1
    cases e
    exact He.eqO_ok (List.all_eq_true.mp hxn_InUse_name _ List.mem_cons_self)
  xn_NoBase_base := fun cc C ho hm => by
    have e := of_decide_eq_true ho
    subst e
    have e := hm.symm.trans ((xall_of X G hx_g hx_i).all "NoBase" (by decide)).1
    cases e
    exact He.eqO_ok (List.all_eq_true.mp hxn_NoBase_base _ List.mem_cons_self)
  xn_NoCall_at := fun cc C ho hm => by
    have e := of_decide_eq_true ho
    subst e
    have e := hm.symm.trans ((xall_of X G hx_g hx_i).all "NoCall" (by decide)).1
    cases e
    exact He.eqO_ok (List.all_eq_true.mp hxn_NoCall_at _ List.mem_cons_self)
  xn_NoCapture_at := fun cc C ho hm => by
    have e := of_decide_eq_true ho
    subst e
    have e := hm.symm.trans ((xall_of X G hx_g hx_i).all "NoCapture" (by decide)).1
    cases e
    exact He.eqO_ok (List.all_eq_true.mp hxn_NoCapture_at _ List.mem_cons_self)
  xn_NoCell_name := fun cc C ho hm => by
    have e := of_decide_eq_true ho
    subst e
    have e := hm.symm.trans ((xall_of X G hx_g hx_i).all "NoCell" (by decide)).1
    cases e
    exact He.eqO_ok (List.all_eq_true.mp hxn_NoCell_name _ List.mem_cons_self)
  xn_NoClosure_name := fun cc C ho hm => by
    have e := of_decide_eq_true ho
    subst e
    have e := hm.symm.trans ((xall_of X G hx_g hx_i).all "NoClosure" (by decide)).1
    cases e
    exact He.eqO_ok (List.all_eq_true.mp hxn_NoClosure_name _ List.mem_cons_self)
  xn_NoName_name := fun cc C ho hm => by
    have e := of_decide_eq_true ho
    subst e
    have e := hm.symm.trans ((xall_of X G hx_g hx_i).all "NoName" (by decide)).1
    cases e
    exact He.eqO_ok (List.all_eq_true.mp hxn_NoName_name _ List.mem_cons_self)
  xn_NoNumber_number := fun cc C ho hm => by
    have e := of_decide_eq_true ho
    subst e
    have e := hm.symm.trans ((xall_of X G hx_g hx_i).all "NoNumber" (by decide)).1
    cases e
    exact He.eqO_ok (List.all_eq_true.mp hxn_NoNumber_number _ List.mem_cons_self)
  xn_NoText_at := fun cc C ho hm => by
    have e := of_decide_eq_true ho
    subst e
    have e := hm.symm.trans ((xall_of X G hx_g hx_i).all "NoText" (by decide)).1
    cases e
    exact He.eqO_ok (List.all_eq_true.mp hxn_NoText_at _ List.mem_cons_self)
  xn_Noticed_history := fun cc C ho hm => by
    have e := of_decide_eq_true ho
    subst e
    have e := hm.symm.trans ((xall_of X G hx_g hx_i).all "Noticed" (by decide)).1
    cases e
    exact He.eqO_ok (List.all_eq_true.mp hxn_Noticed_history _ List.mem_cons_self)
  xn_Taken_name := fun cc C ho hm => by
    have e := of_decide_eq_true ho
    subst e
    have e := hm.symm.trans ((xall_of X G hx_g hx_i).all "Taken" (by decide)).1
    cases e
    exact He.eqO_ok (List.all_eq_true.mp hxn_Taken_name _ List.mem_cons_self)
  xg_at := xfo_of (xall_of X G hx_g hx_i) (fun _ h => h) hxg_at
  xg_base := xfo_of (xall_of X G hx_g hx_i) (fun _ h => h) hxg_base
  xg_history := xfo_of (xall_of X G hx_g hx_i) (fun _ h => h) hxg_history
  xg_name := xfo_of (xall_of X G hx_g hx_i) (fun _ h => h) hxg_name
  xg_number := xfo_of (xall_of X G hx_g hx_i) (fun _ h => h) hxg_number
  ie_InUse := isiXO_of (xall_of X G hx_g hx_i) (by decide) (by decide) hxe_InUse
  ie_KeyError := isiX_of (xall_of X G hx_g hx_i) (by decide) hxe_KeyError
  ie_LookupError := isiX_of (xall_of X G hx_g hx_i) (by decide) hxe_LookupError
  ie_NoBase := isiXO_of (xall_of X G hx_g hx_i) (by decide) (by decide) hxe_NoBase
  ie_NoBody := isiXO_of (xall_of X G hx_g hx_i) (by decide) (by decide) hxe_NoBody
  ie_NoCall := isiXO_of (xall_of X G hx_g hx_i) (by decide) (by decide) hxe_NoCall
  ie_NoCapture := isiXO_of (xall_of X G hx_g hx_i) (by decide) (by decide) hxe_NoCapture
  ie_NoCell := isiXO_of (xall_of X G hx_g hx_i) (by decide) (by decide) hxe_NoCell
  ie_NoClosure := isiXO_of (xall_of X G hx_g hx_i) (by decide) (by decide) hxe_NoClosure
  ie_NoCommand := isiXO_of (xall_of X G hx_g hx_i) (by decide) (by decide) hxe_NoCommand
  ie_NoHouse := isiXO_of (xall_of X G hx_g hx_i) (by decide) (by decide) hxe_NoHouse
  ie_NoName := isiXO_of (xall_of X G hx_g hx_i) (by decide) (by decide) hxe_NoName
  ie_NoNumber := isiXO_of (xall_of X G hx_g hx_i) (by decide) (by decide) hxe_NoNumber
  ie_NoPlan := isiXO_of (xall_of X G hx_g hx_i) (by decide) (by decide) hxe_NoPlan
  ie_NoText := isiXO_of (xall_of X G hx_g hx_i) (by decide) (by decide) hxe_NoText
  ie_Nothing := isiXO_of (xall_of X G hx_g hx_i) (by decide) (by decide) hxe_Nothing
  ie_Noticed := isiXO_of (xall_of X G hx_g hx_i) (by decide) (by decide) hxe_Noticed
  ie_OverflowError := isiX_of (xall_of X G hx_g hx_i) (by decide) hxe_OverflowError
  ie_RuntimeError := isiX_of (xall_of X G hx_g hx_i) (by decide) hxe_RuntimeError
  ie_Taken := isiXO_of (xall_of X G hx_g hx_i) (by decide) (by decide) hxe_Taken
  ie_TooMany := isiXO_of (xall_of X G hx_g hx_i) (by decide) (by decide) hxe_TooMany
  ie_Unlike := isiXO_of (xall_of X G hx_g hx_i) (by decide) (by decide) hxe_Unlike
  ie_ValueError := isiX_of (xall_of X G hx_g hx_i) (by decide) hxe_ValueError
end Fc

set_option Elab.async false
set_option linter.all false
set_option maxRecDepth 100000
set_option maxHeartbeats 0
namespace Fc
open PySem PySem.Spec PySem.Calls PyProof.Rows L2
theorem hd_fx {w : World} {h : Heap} {mg : PySem.Str → Option Value} (G : h.Ns mainGlobals mg) (Y : (hookH 4 hdF hdV).says w h) : ∃ K : PySem.W.Frag, K.In h ∧ Fx K w mg ∧ noList K = true := by
  obtain ⟨K, X, e⟩ := Y
  unfold hdF hdV at e
  simp only [Prod.mk.injEq] at e
  obtain ⟨c, e0, e1, e2, e3, e4, e5, e6, e7, e8, e9, e10, e11, e12, e13, e14, e15, e16, e17, e18, e19, e20, e21, e22, e23, e24, e25, e26, e27, e28, e29, e30, e31, e32, e33, e34, e35, e36, e37, e38, e39, e40, e41, e42, e43, e44, e45, e46, e47, e48, e49, e50, e51, e52, e53, e54, e55, e56, e57, e58, e59, e60, e61, e62, e63, e64, e65, e66, e67, e68, e69, e70, e71, e72, e73, e74⟩ := e
  exact ⟨K, X, fx_of X G c e0 e1 e2 e3 e4 e5 e6 e7 e8 e9 e10 e11 e12 e13 e14 e15 e16 e17 e18 e19 e20 e21 e22 e23 e24 e25 e26 e27 e28 e29 e30 e31 e32 e33 e34 e35 e36 e37 e38 e39 e40 e41 e42 e43 e44 e45 e46 e47 e48 e49 e50 e51 e52 e53 e54 e55 e56 e57 e58 e59 e60 e61 e62 e63 e64 e65 e66 e67 e68 e69 e70 e71 e72 e73, e74⟩
end Fc

set_option Elab.async false
set_option linter.all false
set_option maxRecDepth 100000
set_option maxHeartbeats 4000000
/-! I1b: k01: the bag, exceptions made. -/
namespace Fc
open PySem PySem.Spec PySem.Calls PyProof.Rows L2
theorem V_abs {g : G} {Q : D → G → Prop} {i : Int} : (oAbs [.int i] g).P Q = Q (.int (if i < 0 then -i else i)) g := rfl
def Tk (F : Ph) : Prop := ∀ g m n (k : Int), Bag g m n → n + 1 < 2 ^ 60 → 1 ≤ k → k < 1073741824 → (F.f_v_law_take_2 [.ref m, .int k] [] g).P fun d g' => ∃ t, d = .int t ∧ 0 ≤ t ∧ t < k ∧ Bag g' m (n + 1) ∧ Evo m g g'
theorem tk_up {F : Ph} : Tk F.up := by
  intro g m n k b hn h1 h2
  obtain ⟨x, y, z, e, hx, hy, hy2, hz, hz2⟩ := b
  refine P_runB ?_
  unfold dn_v_law_take
  rw [show ini 3 [D.ref m, .int k] = [some (.ref m), some (.int k), none] from rfl]
  simp only [S_seq, S_if, P_test, P_bin, P_var, P_C, List.getElem?_cons_zero, List.getElem?_cons_succ, V_ixL e, at3_0, V_gt]
  by_cases hp : 0 < x
  · simp only [hp, decide_true, if_true, S_set, S_sub, S_ret, S_nil, P_bin, P_var, P_C, List.getElem?_cons_zero, List.getElem?_cons_succ, V_ixL e, at3_0, V_mod, V_div, List.set_cons_succ, List.set_cons_zero, V_setL e, ix3_0]
    refine ⟨by omega, ⟨by omega, h2⟩, _, rfl, Int.emod_nonneg _ (by omega), Int.emod_lt_of_pos _ (by omega), ⟨x / k, y, z, at_set e, Int.ediv_nonneg hx (by omega), hy, hy2, hz, by omega⟩, Evo.set ..⟩
  · simp only [hp, decide_false, if_false, Bool.false_eq_true, S_nil, S_sub, S_ret, S_seq, P_bin, P_var, P_C, List.getElem?_cons_zero, List.getElem?_cons_succ, V_ixL e, at3_2, V_add, V_setL e, ix3_2, List.set_cons_succ, List.set_cons_zero]
    have e1 : (g.set m (.lst [.int x, .int y, .int (z + 1)]))[m]? = some (.lst [.int x, .int y, .int (z + 1)]) := at_set e
    simp only [V_ixL e1, at3_1, at3_2, V_add, V_mul, V_mod, V_setL e1, ix3_1, List.set_cons_succ, List.set_cons_zero]
    refine ⟨.inl ⟨by omega, by omega⟩, .inl ⟨by omega, by omega⟩, .inr ⟨by omega, by omega⟩, by omega, ?_⟩
    have y0 : 0 ≤ (y * 48271 + 6607 * (z + 1) * (z + 1) + 5) % 2147483647 := Int.emod_nonneg _ (by omega)
    have y1 : (y * 48271 + 6607 * (z + 1) * (z + 1) + 5) % 2147483647 < 2147483647 := Int.emod_lt_of_pos _ (by omega)
    generalize (y * 48271 + 6607 * (z + 1) * (z + 1) + 5) % 2147483647 = y' at y0 y1 ⊢
    have e2 : ((g.set m (.lst [.int x, .int y, .int (z + 1)])).set m (.lst [.int x, .int y', .int (z + 1)]))[m]? = some (.lst [.int x, .int y', .int (z + 1)]) := at_set e1
    simp only [V_ixL e2, at3_1, V_div, V_pow, V_mod]
    refine ⟨by omega, ⟨by omega, by omega, by omega⟩, by omega, by omega, _, rfl, Int.emod_nonneg _ (by omega), Int.emod_lt_of_pos _ (by omega), ⟨x, y', z + 1, e2, hx, y0, y1, by omega, by omega⟩, (Evo.set ..).trans (Evo.set ..)⟩
def BgC (F : Ph) : Prop := ∀ g (ns : List Int) i (j : Int), g[i]? = some (.frz (ns.map .int)) → 0 ≤ j → j < 100 → (F.f_v_law_bag_2 [.ref i, .int j] [] g).P fun d g' => d = .ref g.length ∧ Bag g' g.length 0 ∧ Gro g g'
theorem bag_up {F : Ph} : BgC F.up := by
  intro g ns i j hi h0 h1
  refine P_runB ?_
  unfold dn_v_law_bag
  rw [show ini 4 [D.ref i, .int j] = [some (.ref i), some (.int j), none, none] from rfl]
  rw [S_seq]
  simp only [S_set, P_ifE, P_test, P_bin, P_call, P_cons, P_nil, P_C, P_var, List.getElem?_cons_zero, List.getElem?_cons_succ, List.set_cons_succ, List.set_cons_zero, V_lenF hi, V_lt, decide_eq_true_eq, V_ixF hi]
  have rest : ∀ z : Int, (sSeq
      (sSet 3 (fIfE (fTest (fBin oGe (fCall oAbs (fCons (fVar 2) (fNil))) (fBin oPow (fC (.int 10)) (fC (.int 18))))) (fCall oAbs (fCons (fVar 2) (fNil))) (fC (.int 0))))
      (sRet (fLst (fCons (fVar 3) (fCons (fBin oMod (fBin oPow (fBin oAdd (fBin oAdd (fBin oMod (fVar 2) (fC (.int 2147483647))) (fBin oMul (fC (.int 7121)) (fVar 1))) (fC (.int 11))) (fC (.int 3))) (fC (.int 2147483629))) (fCons (fC (.int 0)) (fNil)))))) [some (.ref i), some (.int j), some (.int z), none] g).P
      (fun _ g' => D.non = .ref g.length ∧ Bag g' g.length 0 ∧ Gro g g') fun d g' => d = .ref g.length ∧ Bag g' g.length 0 ∧ Gro g g' := by
    intro z
    rw [S_seq]
    simp only [S_set, P_ifE, P_test, P_bin, P_call, P_cons, P_nil, P_C, P_var, List.getElem?_cons_zero, List.getElem?_cons_succ, List.set_cons_succ, List.set_cons_zero, V_abs, V_pow, V_ge, decide_eq_true_eq]
    have fin : ∀ y : Int, 0 ≤ y → (sRet (fLst (fCons (fVar 3) (fCons (fBin oMod (fBin oPow (fBin oAdd (fBin oAdd (fBin oMod (fVar 2) (fC (.int 2147483647))) (fBin oMul (fC (.int 7121)) (fVar 1))) (fC (.int 11))) (fC (.int 3))) (fC (.int 2147483629))) (fCons (fC (.int 0)) (fNil))))) [some (.ref i), some (.int j), some (.int z), some (.int y)] g).P
        (fun _ g' => D.non = .ref g.length ∧ Bag g' g.length 0 ∧ Gro g g') fun d g' => d = .ref g.length ∧ Bag g' g.length 0 ∧ Gro g g' := by
      intro y hy
      simp only [S_ret, P_lst, P_bin, P_cons, P_nil, P_C, P_var, List.getElem?_cons_zero, List.getElem?_cons_succ, V_mod, V_mul, V_add, V_pow]
      have m0 : 0 ≤ z % 2147483647 := Int.emod_nonneg _ (by omega)
      have m1 : z % 2147483647 < 2147483647 := Int.emod_lt_of_pos _ (by omega)
      refine ⟨by omega, .inl ⟨by omega, by omega⟩, ⟨by omega, by omega, by omega⟩, by omega, sz (by simp), by first | rfl | trivial, ⟨_, _, _, at_new, hy, Int.emod_nonneg _ (by omega), ?_, by omega, by omega⟩, .app _ _⟩
      have := Int.emod_lt_of_pos ((z % 2147483647 + 7121 * j + 11) ^ (3 : Int).toNat) (show (0 : Int) < 2147483629 by omega)
      omega
    refine ⟨⟨by omega, by omega, by decide⟩, ?_⟩
    refine ite_one (fun _ => fin _ ?_) fun _ => fin 0 (by omega)
    split <;> omega
  refine ite_one (fun c => ?_) fun _ => rest 0
  have hj : j < ((ns.map D.int).length : Int) := c
  obtain ⟨d, e, hd⟩ := atI_in h0 hj
  rw [e]
  obtain ⟨z, _, rfl⟩ := List.mem_map.mp hd
  exact rest z

section
variable {ρ : Ev} {g : G} {Q : D → G → Prop} {N : Ev → G → Prop} {R : D → G → Prop} {own : Str → Bool} {f : Str} {fv fo : Ev → G → Re D} {fr : Ev → G → Re (List D)}
theorem P_xini : (fXini own fr ρ g).P Q = (fr ρ g).P fun ds g1 => match ds with
    | d :: rest => (match exn0 d g1 with
      | some (_, c) => (own c = true ∧ rest.length ≤ 1000) ∧ Q .non g1
      | none => False)
    | [] => False := by
  unfold fXini
  rw [P_bind]
  congr 1
  funext ds g1
  cases ds with
  | nil => rfl
  | cons d rest =>
    dsimp only
    cases exn0 d g1 with
    | none => rfl
    | some p => exact P_ite
theorem S_xfld : (sXfld own f fv fo ρ g).P N R = (fv ρ g).P fun y g1 => (fo ρ g1).P fun d g2 => match exn0 d g2 with
    | some (m, c) => own c = true ∧ N ρ (g2.set m (.exn c [(f, y)]))
    | none => False := by
  unfold sXfld
  rw [S_st]
  congr 1
  funext y g1
  rw [S_st]
  congr 1
  funext d g2
  cases exn0 d g2 with
  | none => rfl
  | some p =>
    obtain ⟨m, c⟩ := p
    dsimp only
    by_cases h : own c = true
    · rw [if_pos h]
      simp [h, Rs.P]
    · rw [if_neg h]
      simp [h, Rs.P]
theorem exn0_new {c : Str} : exn0 (.ref g.length) (g ++ [.exn c []]) = some (g.length, c) := by
  have e : (g ++ [O.exn c []])[g.length]? = some (.exn c []) := at_new
  show (match (g ++ [O.exn c []])[g.length]? with
    | some (.exn c []) => some (g.length, c)
    | _ => none) = _
  rw [e]
theorem set_new {o o' : O} : (g ++ [o]).set g.length o' = g ++ [o'] := by simp
/-- the text by str -/
def strD (g : G) (d : D) : Option Str := match d with
  | .str x => some x
  | d => shD g d
theorem V_strA {d : D} {t : Str} (h : strD g d = some t) : (oStrA [d] g).P Q = Q (.str t) g := by
  cases d with
  | str x => cases h; rfl
  | non => show Re.P (match shD g .non with | some t => .ok (.str t) g | none => .bad) Q = _; rw [show shD g .non = some t from h]; rfl
  | bl b => show Re.P (match shD g (.bl b) with | some t => .ok (.str t) g | none => .bad) Q = _; rw [show shD g (.bl b) = some t from h]; rfl
  | int i => show Re.P (match shD g (.int i) with | some t => .ok (.str t) g | none => .bad) Q = _; rw [show shD g (.int i) = some t from h]; rfl
  | tup l => show Re.P (match shD g (.tup l) with | some t => .ok (.str t) g | none => .bad) Q = _; rw [show shD g (.tup l) = some t from h]; rfl
  | ref n => show Re.P (match shD g (.ref n) with | some t => .ok (.str t) g | none => .bad) Q = _; rw [show shD g (.ref n) = some t from h]; rfl
theorem V_reprA {d : D} {t : Str} (h : shD g d = some t) : (oReprA [d] g).P Q = Q (.str t) g := by
  unfold oReprA
  dsimp only
  rw [h]
  rfl
end
/-- a term whose texts stay -/
def TmOk (d : D) (g : G) (t : Str) : Prop := (t.length ≤ 1000 ∧ PyData.strOk t = true) ∧ (∀ g', Gro g g' → shD g' d = some t) ∧ ∃ u : Str, u.length ≤ 1000 ∧ ∀ g', Gro g g' → strD g' d = some u
theorem TmOk.gro {d : D} {g g' : G} {t : Str} (h : TmOk d g t) (e : Gro g g') : TmOk d g' t := ⟨h.1, fun g2 x => h.2.1 g2 (e.trans x), h.2.2.imp fun u q => ⟨q.1, fun g2 x => q.2 g2 (e.trans x)⟩⟩
/-- C(d) makes c with the field f -/
def XmP (φ : Fun2) (c f : Str) : Prop := ∀ d g (Q : D → G → Prop), Q (.ref g.length) (g ++ [.exn c [(f, d)]]) → (φ [d] [] g).P Q
def XmK (φ : Fun2) (c f : Str) : Prop := ∀ d g (Q : D → G → Prop), Q (.ref g.length) (g ++ [.exn c [(f, d)]]) → (φ [] [d] g).P Q
def XmT (φ : Fun2) (c f : Str) : Prop := ∀ d g t (Q : D → G → Prop), TmOk d g t → Q (.ref g.length) (g ++ [.exn c [(f, d)]]) → (φ [d] [] g).P Q
def XmTK (φ : Fun2) (c f : Str) : Prop := ∀ d g t (Q : D → G → Prop), TmOk d g t → Q (.ref g.length) (g ++ [.exn c [(f, d)]]) → (φ [] [d] g).P Q
theorem xi_NoBase (F : Ph) {d : D} {g : G} {Q : D → G → Prop} (h : Q .non (g ++ [.exn "NoBase" [("base", d)]])) : (runB (dn_NoBase_init F) (ini 2 [.ref g.length, d]) (g ++ [.exn "NoBase" []])).P Q := by
  refine P_runB ?_
  unfold dn_NoBase_init
  rw [show ini 2 [D.ref g.length, d] = [some (.ref g.length), some d] from rfl]
  simp only [S_seq, S_drop, P_xini, P_cons, P_nil, P_var, P_C, S_xfld, List.getElem?_cons_zero, List.getElem?_cons_succ, exn0_new, set_new]
  exact ⟨⟨by decide, by simp⟩, by decide, h⟩
theorem xm_NoBase {F : Ph} : XmP F.up.up.x_NoBase_1 "NoBase" "base" := by
  intro d g Q h
  show (newX "NoBase" F.up.ix_NoBase_1 [d] [] g).P Q
  unfold newX
  rw [if_pos (by simp), P_bind]
  exact xi_NoBase F h
theorem xk_NoBase {F : Ph} : XmK F.up.up.x_NoBase_0_base "NoBase" "base" := by
  intro d g Q h
  show (newX "NoBase" F.up.ix_NoBase_0_base [] [d] g).P Q
  unfold newX
  rw [if_pos (by simp), P_bind]
  exact xi_NoBase F h
theorem xi_NoName (F : Ph) {d : D} {g : G} {Q : D → G → Prop} (h : Q .non (g ++ [.exn "NoName" [("name", d)]])) : (runB (dn_NoName_init F) (ini 2 [.ref g.length, d]) (g ++ [.exn "NoName" []])).P Q := by
  refine P_runB ?_
  unfold dn_NoName_init
  rw [show ini 2 [D.ref g.length, d] = [some (.ref g.length), some d] from rfl]
  simp only [S_seq, S_drop, P_xini, P_cons, P_nil, P_var, P_C, S_xfld, List.getElem?_cons_zero, List.getElem?_cons_succ, exn0_new, set_new]
  exact ⟨⟨by decide, by simp⟩, by decide, h⟩
theorem xm_NoName {F : Ph} : XmP F.up.up.x_NoName_1 "NoName" "name" := by
  intro d g Q h
  show (newX "NoName" F.up.ix_NoName_1 [d] [] g).P Q
  unfold newX
  rw [if_pos (by simp), P_bind]
  exact xi_NoName F h
theorem xk_NoName {F : Ph} : XmK F.up.up.x_NoName_0_name "NoName" "name" := by
  intro d g Q h
  show (newX "NoName" F.up.ix_NoName_0_name [] [d] g).P Q
  unfold newX
  rw [if_pos (by simp), P_bind]
  exact xi_NoName F h
theorem xi_NoNumber (F : Ph) {d : D} {g : G} {Q : D → G → Prop} (h : Q .non (g ++ [.exn "NoNumber" [("number", d)]])) : (runB (dn_NoNumber_init F) (ini 2 [.ref g.length, d]) (g ++ [.exn "NoNumber" []])).P Q := by
  refine P_runB ?_
  unfold dn_NoNumber_init
  rw [show ini 2 [D.ref g.length, d] = [some (.ref g.length), some d] from rfl]
  simp only [S_seq, S_drop, P_xini, P_cons, P_nil, P_var, P_C, S_xfld, List.getElem?_cons_zero, List.getElem?_cons_succ, exn0_new, set_new]
  exact ⟨⟨by decide, by simp⟩, by decide, h⟩
theorem xm_NoNumber {F : Ph} : XmP F.up.up.x_NoNumber_1 "NoNumber" "number" := by
  intro d g Q h
  show (newX "NoNumber" F.up.ix_NoNumber_1 [d] [] g).P Q
  unfold newX
  rw [if_pos (by simp), P_bind]
  exact xi_NoNumber F h
theorem xk_NoNumber {F : Ph} : XmK F.up.up.x_NoNumber_0_number "NoNumber" "number" := by
  intro d g Q h
  show (newX "NoNumber" F.up.ix_NoNumber_0_number [] [d] g).P Q
  unfold newX
  rw [if_pos (by simp), P_bind]
  exact xi_NoNumber F h
theorem xi_NoClosure (F : Ph) {d : D} {g : G} {Q : D → G → Prop} (h : Q .non (g ++ [.exn "NoClosure" [("name", d)]])) : (runB (dn_NoClosure_init F) (ini 2 [.ref g.length, d]) (g ++ [.exn "NoClosure" []])).P Q := by
  refine P_runB ?_
  unfold dn_NoClosure_init
  rw [show ini 2 [D.ref g.length, d] = [some (.ref g.length), some d] from rfl]
  simp only [S_seq, S_drop, P_xini, P_cons, P_nil, P_var, P_C, S_xfld, List.getElem?_cons_zero, List.getElem?_cons_succ, exn0_new, set_new]
  exact ⟨⟨by decide, by simp⟩, by decide, h⟩
theorem xm_NoClosure {F : Ph} : XmP F.up.up.x_NoClosure_1 "NoClosure" "name" := by
  intro d g Q h
  show (newX "NoClosure" F.up.ix_NoClosure_1 [d] [] g).P Q
  unfold newX
  rw [if_pos (by simp), P_bind]
  exact xi_NoClosure F h
theorem xk_NoClosure {F : Ph} : XmK F.up.up.x_NoClosure_0_name "NoClosure" "name" := by
  intro d g Q h
  show (newX "NoClosure" F.up.ix_NoClosure_0_name [] [d] g).P Q
  unfold newX
  rw [if_pos (by simp), P_bind]
  exact xi_NoClosure F h
theorem xi_NoCell (F : Ph) {d : D} {g : G} {Q : D → G → Prop} (h : Q .non (g ++ [.exn "NoCell" [("name", d)]])) : (runB (dn_NoCell_init F) (ini 2 [.ref g.length, d]) (g ++ [.exn "NoCell" []])).P Q := by
  refine P_runB ?_
  unfold dn_NoCell_init
  rw [show ini 2 [D.ref g.length, d] = [some (.ref g.length), some d] from rfl]
  simp only [S_seq, S_drop, P_xini, P_cons, P_nil, P_var, P_C, S_xfld, List.getElem?_cons_zero, List.getElem?_cons_succ, exn0_new, set_new]
  exact ⟨⟨by decide, by simp⟩, by decide, h⟩
theorem xm_NoCell {F : Ph} : XmP F.up.up.x_NoCell_1 "NoCell" "name" := by
  intro d g Q h
  show (newX "NoCell" F.up.ix_NoCell_1 [d] [] g).P Q
  unfold newX
  rw [if_pos (by simp), P_bind]
  exact xi_NoCell F h
theorem xk_NoCell {F : Ph} : XmK F.up.up.x_NoCell_0_name "NoCell" "name" := by
  intro d g Q h
  show (newX "NoCell" F.up.ix_NoCell_0_name [] [d] g).P Q
  unfold newX
  rw [if_pos (by simp), P_bind]
  exact xi_NoCell F h
theorem xi_Taken (F : Ph) {d : D} {g : G} {Q : D → G → Prop} (h : Q .non (g ++ [.exn "Taken" [("name", d)]])) : (runB (dn_Taken_init F) (ini 2 [.ref g.length, d]) (g ++ [.exn "Taken" []])).P Q := by
  refine P_runB ?_
  unfold dn_Taken_init
  rw [show ini 2 [D.ref g.length, d] = [some (.ref g.length), some d] from rfl]
  simp only [S_seq, S_drop, P_xini, P_cons, P_nil, P_var, P_C, S_xfld, List.getElem?_cons_zero, List.getElem?_cons_succ, exn0_new, set_new]
  exact ⟨⟨by decide, by simp⟩, by decide, h⟩
theorem xm_Taken {F : Ph} : XmP F.up.up.x_Taken_1 "Taken" "name" := by
  intro d g Q h
  show (newX "Taken" F.up.ix_Taken_1 [d] [] g).P Q
  unfold newX
  rw [if_pos (by simp), P_bind]
  exact xi_Taken F h
theorem xk_Taken {F : Ph} : XmK F.up.up.x_Taken_0_name "Taken" "name" := by
  intro d g Q h
  show (newX "Taken" F.up.ix_Taken_0_name [] [d] g).P Q
  unfold newX
  rw [if_pos (by simp), P_bind]
  exact xi_Taken F h
theorem xi_InUse (F : Ph) {d : D} {g : G} {Q : D → G → Prop} (h : Q .non (g ++ [.exn "InUse" [("name", d)]])) : (runB (dn_InUse_init F) (ini 2 [.ref g.length, d]) (g ++ [.exn "InUse" []])).P Q := by
  refine P_runB ?_
  unfold dn_InUse_init
  rw [show ini 2 [D.ref g.length, d] = [some (.ref g.length), some d] from rfl]
  simp only [S_seq, S_drop, P_xini, P_cons, P_nil, P_var, P_C, S_xfld, List.getElem?_cons_zero, List.getElem?_cons_succ, exn0_new, set_new]
  exact ⟨⟨by decide, by simp⟩, by decide, h⟩
theorem xm_InUse {F : Ph} : XmP F.up.up.x_InUse_1 "InUse" "name" := by
  intro d g Q h
  show (newX "InUse" F.up.ix_InUse_1 [d] [] g).P Q
  unfold newX
  rw [if_pos (by simp), P_bind]
  exact xi_InUse F h
theorem xk_InUse {F : Ph} : XmK F.up.up.x_InUse_0_name "InUse" "name" := by
  intro d g Q h
  show (newX "InUse" F.up.ix_InUse_0_name [] [d] g).P Q
  unfold newX
  rw [if_pos (by simp), P_bind]
  exact xi_InUse F h
theorem xi_Noticed (F : Ph) {d : D} {g : G} {Q : D → G → Prop} (h : Q .non (g ++ [.exn "Noticed" [("history", d)]])) : (runB (dn_Noticed_init F) (ini 2 [.ref g.length, d]) (g ++ [.exn "Noticed" []])).P Q := by
  refine P_runB ?_
  unfold dn_Noticed_init
  rw [show ini 2 [D.ref g.length, d] = [some (.ref g.length), some d] from rfl]
  simp only [S_seq, S_drop, P_xini, P_cons, P_nil, P_var, P_C, S_xfld, List.getElem?_cons_zero, List.getElem?_cons_succ, exn0_new, set_new]
  exact ⟨⟨by decide, by simp⟩, by decide, h⟩
theorem xm_Noticed {F : Ph} : XmP F.up.up.x_Noticed_1 "Noticed" "history" := by
  intro d g Q h
  show (newX "Noticed" F.up.ix_Noticed_1 [d] [] g).P Q
  unfold newX
  rw [if_pos (by simp), P_bind]
  exact xi_Noticed F h
theorem xk_Noticed {F : Ph} : XmK F.up.up.x_Noticed_0_history "Noticed" "history" := by
  intro d g Q h
  show (newX "Noticed" F.up.ix_Noticed_0_history [] [d] g).P Q
  unfold newX
  rw [if_pos (by simp), P_bind]
  exact xi_Noticed F h
theorem xi_NoCapture (F : Ph) {d : D} {g : G} {t : Str} {Q : D → G → Prop} (hT : TmOk d g t) (h : Q .non (g ++ [.exn "NoCapture" [("at", d)]])) : (runB (dn_NoCapture_init F) (ini 2 [.ref g.length, d]) (g ++ [.exn "NoCapture" []])).P Q := by
  refine P_runB ?_
  unfold dn_NoCapture_init
  rw [show ini 2 [D.ref g.length, d] = [some (.ref g.length), some d] from rfl]
  obtain ⟨u, hu, eu⟩ := hT.2.2
  simp only [S_seq, S_drop, P_xini, P_cons, P_nil, P_var, P_C, P_bin, P_call, V_strA (eu _ (.app _ _)), V_addS, S_xfld, List.getElem?_cons_zero, List.getElem?_cons_succ, exn0_new, set_new]
  exact ⟨(by rw [sizeLine_eq]; show 16 + u.length ≤ _; omega), ⟨by decide, by simp⟩, by decide, h⟩
theorem xm_NoCapture {F : Ph} : XmT F.up.up.x_NoCapture_1 "NoCapture" "at" := by
  intro d g t Q hT h
  show (newX "NoCapture" F.up.ix_NoCapture_1 [d] [] g).P Q
  unfold newX
  rw [if_pos (by simp), P_bind]
  exact xi_NoCapture F hT h
theorem xk_NoCapture {F : Ph} : XmTK F.up.up.x_NoCapture_0_at "NoCapture" "at" := by
  intro d g t Q hT h
  show (newX "NoCapture" F.up.ix_NoCapture_0_at [] [d] g).P Q
  unfold newX
  rw [if_pos (by simp), P_bind]
  exact xi_NoCapture F hT h
theorem xi_NoCall (F : Ph) {d : D} {g : G} {t : Str} {Q : D → G → Prop} (hT : TmOk d g t) (h : Q .non (g ++ [.exn "NoCall" [("at", d)]])) : (runB (dn_NoCall_init F) (ini 2 [.ref g.length, d]) (g ++ [.exn "NoCall" []])).P Q := by
  refine P_runB ?_
  unfold dn_NoCall_init
  rw [show ini 2 [D.ref g.length, d] = [some (.ref g.length), some d] from rfl]
  obtain ⟨u, hu, eu⟩ := hT.2.2
  simp only [S_seq, S_drop, P_xini, P_cons, P_nil, P_var, P_C, P_bin, P_call, V_strA (eu _ (.app _ _)), V_addS, S_xfld, List.getElem?_cons_zero, List.getElem?_cons_succ, exn0_new, set_new]
  exact ⟨(by rw [sizeLine_eq]; show 12 + u.length ≤ _; omega), ⟨by decide, by simp⟩, by decide, h⟩
theorem xm_NoCall {F : Ph} : XmT F.up.up.x_NoCall_1 "NoCall" "at" := by
  intro d g t Q hT h
  show (newX "NoCall" F.up.ix_NoCall_1 [d] [] g).P Q
  unfold newX
  rw [if_pos (by simp), P_bind]
  exact xi_NoCall F hT h
theorem xk_NoCall {F : Ph} : XmTK F.up.up.x_NoCall_0_at "NoCall" "at" := by
  intro d g t Q hT h
  show (newX "NoCall" F.up.ix_NoCall_0_at [] [d] g).P Q
  unfold newX
  rw [if_pos (by simp), P_bind]
  exact xi_NoCall F hT h
theorem xi_NoText (F : Ph) {d : D} {g : G} {t : Str} {Q : D → G → Prop} (hT : TmOk d g t) (h : Q .non (g ++ [.exn "NoText" [("at", d)]])) : (runB (dn_NoText_init F) (ini 2 [.ref g.length, d]) (g ++ [.exn "NoText" []])).P Q := by
  refine P_runB ?_
  unfold dn_NoText_init
  rw [show ini 2 [D.ref g.length, d] = [some (.ref g.length), some d] from rfl]
  obtain ⟨u, hu, eu⟩ := hT.2.2
  simp only [S_seq, S_drop, P_xini, P_cons, P_nil, P_var, P_C, P_bin, P_call, V_strA (eu _ (.app _ _)), V_addS, S_xfld, List.getElem?_cons_zero, List.getElem?_cons_succ, exn0_new, set_new]
  exact ⟨(by rw [sizeLine_eq]; show 16 + u.length ≤ _; omega), ⟨by decide, by simp⟩, by decide, h⟩
theorem xm_NoText {F : Ph} : XmT F.up.up.x_NoText_1 "NoText" "at" := by
  intro d g t Q hT h
  show (newX "NoText" F.up.ix_NoText_1 [d] [] g).P Q
  unfold newX
  rw [if_pos (by simp), P_bind]
  exact xi_NoText F hT h
theorem xk_NoText {F : Ph} : XmTK F.up.up.x_NoText_0_at "NoText" "at" := by
  intro d g t Q hT h
  show (newX "NoText" F.up.ix_NoText_0_at [] [d] g).P Q
  unfold newX
  rw [if_pos (by simp), P_bind]
  exact xi_NoText F hT h
end Fc

set_option Elab.async false
set_option linter.all false
set_option maxRecDepth 100000
set_option maxHeartbeats 4000000
/-! I1c: k01: a drawn value. -/
namespace Fc
open PySem PySem.Spec PySem.Calls PyProof.Rows L2
theorem tm_p {g : G} {d : D} {p : PyData} {t : Str} (hd : ∀ g', shD g' d = (match toP g' 60 d with | some p => if p.showable = true ∧ p.shown.length ≤ 1000000 ∧ p.hasDict = false ∧ p.depth ≤ 60 then some p.shown else none | none => none))
    (hs : ∀ g', strD g' d = shD g' d) (hp : ∀ g', Gro g g' → toP g' 60 d = some p) (h1 : p.showable = true) (h2 : p.shown = t) (h3 : t.length ≤ 1000 ∧ PyData.strOk t = true) (h4 : p.hasDict = false) (h5 : p.depth ≤ 60) : TmOk d g t := by
  have sh : ∀ g', Gro g g' → shD g' d = some t := fun g' e => by
    rw [hd g', hp g' e]
    dsimp only
    rw [if_pos ⟨h1, by rw [h2]; have := h3.1; omega, h4, h5⟩, h2]
  exact ⟨h3, sh, t, h3.1, fun g' e => (hs g').trans (sh g' e)⟩
theorem tm_ref {g : G} {m : Nat} {p : PyData} {t : Str} (hp : ∀ g', Gro g g' → toP g' 60 (.ref m) = some p) (h1 : p.showable = true) (h2 : p.shown = t) (h3 : t.length ≤ 1000 ∧ PyData.strOk t = true) (h4 : p.hasDict = false) (h5 : p.depth ≤ 60) : TmOk (.ref m) g t := tm_p (fun _ => rfl) (fun _ => rfl) hp h1 h2 h3 h4 h5
theorem tm_tup {g : G} {l : List D} {p : PyData} {t : Str} (hp : ∀ g', Gro g g' → toP g' 60 (.tup l) = some p) (h1 : p.showable = true) (h2 : p.shown = t) (h3 : t.length ≤ 1000 ∧ PyData.strOk t = true) (h4 : p.hasDict = false) (h5 : p.depth ≤ 60) : TmOk (.tup l) g t := tm_p (fun _ => rfl) (fun _ => rfl) hp h1 h2 h3 h4 h5
theorem toP_lst {g' : G} {n m : Nat} {l : List D} {p : List PyData} (h : g'[m]? = some (.lst l)) (hp : toPs g' n l = some p) : toP g' (n + 1) (.ref m) = some (.list p) := by
  unfold toP
  rw [h]
  show (toPs g' n l).map PyData.list = _
  rw [hp] <;> rfl
theorem tm_str {g : G} {x : Str} (h : (reprText x).length ≤ 1000 ∧ PyData.strOk (reprText x) = true) (h2 : x.length ≤ 1000) : TmOk (.str x) g (reprText x) := ⟨h, fun g' _ => by show (if (reprText x).length ≤ sizeLine then some (reprText x) else none) = _; rw [if_pos (by have := h.1; rw [sizeLine_eq]; omega)], x, h2, fun _ _ => rfl⟩
theorem tm_int {g : G} {i : Int} (h : i.natAbs.log2 < 1920) (h2 : Str.length (toString i : String) ≤ 1000 ∧ PyData.strOk (toString i : String) = true) : TmOk (.int i) g (toString i : String) := ⟨h2, fun g' _ => by show (if i.natAbs.log2 < 1920 then some ((toString i : String) : Str) else none) = _; rw [if_pos h], _, h2.1, fun g' _ => by show (if i.natAbs.log2 < 1920 then some ((toString i : String) : Str) else none) = _; rw [if_pos h]⟩
theorem tm_bl {g : G} {b : Bool} : TmOk (.bl b) g (blS b) := ⟨by cases b <;> decide +kernel, fun _ _ => rfl, blS b, by cases b <;> decide, fun _ _ => rfl⟩
theorem tm_non {g : G} : TmOk .non g "None" := ⟨by decide +kernel, fun _ _ => rfl, "None", by decide, fun _ _ => rfl⟩
def any19 (a b : Nat) : List D := [.non, .bl true, .bl false, .int 0, .int 1, .int (-1), .int 2, .int 3, .int (10 ^ Int.toNat 59), .str "", .str "a", .str "x", .str "y", .str "A", .ref a, .tup [], .ref b, .tup [.str "end", .int 0], .tup [.tup [.str "end", .int 0]]]
def any4 (a b : Nat) : List D := [.tup [.str "a", .int 0], .tup [.str "get", .str "x", .int 0], .ref a, .tup [.non, .ref b]]
theorem any_tm {g : G} {a b c e : Nat} (ha : g[a]? = some (.lst [])) (hb : g[b]? = some (.lst [.int 0])) (hc : g[c]? = some (.lst [.str "x"])) (he : g[e]? = some (.lst [.int 1])) : ∀ d ∈ any19 a b ++ any4 c e, ∃ t, TmOk d g t := by
  intro d hd
  simp only [any19, any4, List.cons_append, List.nil_append, List.mem_cons, List.not_mem_nil, or_false] at hd
  rcases hd with rfl | rfl | rfl | rfl | rfl | rfl | rfl | rfl | rfl | rfl | rfl | rfl | rfl | rfl | rfl | rfl | rfl | rfl | rfl | rfl | rfl | rfl | rfl
  · exact ⟨_, tm_non⟩
  · exact ⟨_, tm_bl⟩
  · exact ⟨_, tm_bl⟩
  · exact ⟨_, tm_int (by decide +kernel) (by decide +kernel)⟩
  · exact ⟨_, tm_int (by decide +kernel) (by decide +kernel)⟩
  · exact ⟨_, tm_int (by decide +kernel) (by decide +kernel)⟩
  · exact ⟨_, tm_int (by decide +kernel) (by decide +kernel)⟩
  · exact ⟨_, tm_int (by decide +kernel) (by decide +kernel)⟩
  · exact ⟨_, tm_int (by decide +kernel) (by decide +kernel)⟩
  · exact ⟨_, tm_str (by decide +kernel) (by decide +kernel)⟩
  · exact ⟨_, tm_str (by decide +kernel) (by decide +kernel)⟩
  · exact ⟨_, tm_str (by decide +kernel) (by decide +kernel)⟩
  · exact ⟨_, tm_str (by decide +kernel) (by decide +kernel)⟩
  · exact ⟨_, tm_str (by decide +kernel) (by decide +kernel)⟩
  · exact ⟨_, tm_ref (p := .list []) (fun g' q => toP_lst (q.at ha) rfl) (by decide +kernel) rfl (by decide +kernel) (by decide +kernel) (by decide +kernel)⟩
  · exact ⟨_, tm_tup (p := .tuple []) (fun g' q => rfl) (by decide +kernel) rfl (by decide +kernel) (by decide +kernel) (by decide +kernel)⟩
  · exact ⟨_, tm_ref (p := .list [.int 0]) (fun g' q => toP_lst (q.at hb) rfl) (by decide +kernel) rfl (by decide +kernel) (by decide +kernel) (by decide +kernel)⟩
  · exact ⟨_, tm_tup (p := .tuple [.str "end", .int 0]) (fun g' q => rfl) (by decide +kernel) rfl (by decide +kernel) (by decide +kernel) (by decide +kernel)⟩
  · exact ⟨_, tm_tup (p := .tuple [.tuple [.str "end", .int 0]]) (fun g' q => rfl) (by decide +kernel) rfl (by decide +kernel) (by decide +kernel) (by decide +kernel)⟩
  · exact ⟨_, tm_tup (p := .tuple [.str "a", .int 0]) (fun g' q => rfl) (by decide +kernel) rfl (by decide +kernel) (by decide +kernel) (by decide +kernel)⟩
  · exact ⟨_, tm_tup (p := .tuple [.str "get", .str "x", .int 0]) (fun g' q => rfl) (by decide +kernel) rfl (by decide +kernel) (by decide +kernel) (by decide +kernel)⟩
  · exact ⟨_, tm_ref (p := .list [.str "x"]) (fun g' q => toP_lst (q.at hc) rfl) (by decide +kernel) rfl (by decide +kernel) (by decide +kernel) (by decide +kernel)⟩
  · refine ⟨_, tm_tup (p := .tuple [.none, .list [.int 1]]) (fun g' q => ?_) (by decide +kernel) rfl (by decide +kernel) (by decide +kernel) (by decide +kernel)⟩
    have e1 : toP g' 57 (.ref e) = some (.list [.int 1]) := toP_lst (q.at he) rfl
    show (toPs g' 59 [.non, .ref e]).map PyData.tuple = _
    have e2 : toPs g' 59 [.non, .ref e] = some [.none, .list [.int 1]] := by
      show ((some PyData.none).bind fun p => (toPs g' 58 [.ref e]).map (p :: ·)) = _
      have e3 : toPs g' 58 [.ref e] = some [.list [.int 1]] := by
        show ((toP g' 57 (.ref e)).bind fun p => (toPs g' 57 []).map (p :: ·)) = _
        rw [e1] <;> rfl
      rw [e3] <;> rfl
    rw [e2] <;> rfl
def AnyC (F : Ph) : Prop := ∀ g m n k, Bag g m n → n + 1 < 2 ^ 60 → g[k]? = some (.lst []) → k ≠ m → (F.f_v_law_any_2 [.ref m, .ref k] [] g).P fun d g' => (∃ t, TmOk d g' t) ∧ Bag g' m (n + 1) ∧ Evo m g g'
theorem any_up {F : Ph} (tk : Tk F) : AnyC F.up := by
  intro g m n k b hn hk hkm
  refine P_runB ?_
  unfold dn_v_law_any
  rw [show ini 4 [D.ref m, .ref k] = [some (.ref m), some (.ref k), none, none] from rfl]
  simp only [S_seq, S_set, S_ret, P_lst, P_cons, P_nil, P_C, P_un, P_bin, P_tup, P_var, V_neg, V_pow, List.getElem?_cons_zero, List.getElem?_cons_succ, List.set_cons_succ, List.set_cons_zero]
  refine ⟨by decide, sz (by simp), sz (by simp), sz (by simp), sz (by simp), sz (by simp), sz (by simp), sz (by simp), sz (by simp), sz (by simp), sz (by simp), sz (by simp), sz (by simp), sz (by simp), ?_⟩
  generalize hx19 : [D.non, .bl true, .bl false, .int 0, .int 1, .int (-1), .int 2, .int 3, .int (10 ^ Int.toNat 59), .str "", .str "a", .str "x", .str "y", .str "A", .ref g.length, .tup [], .ref (g ++ [O.lst []]).length, .tup [.str "end", .int 0], .tup [.tup [.str "end", .int 0]]] = l19
  have h0 : (g ++ [O.lst []] ++ [O.lst [.int 0]])[g.length]? = some (.lst []) := at_app at_new
  have h1 : (g ++ [O.lst []] ++ [O.lst [.int 0]])[(g ++ [O.lst []]).length]? = some (.lst [.int 0]) := at_new
  have q1 : Gro g (g ++ [O.lst []] ++ [O.lst [.int 0]]) := (Gro.app _ _).trans (.app _ _)
  generalize g ++ [O.lst []] ++ [O.lst [.int 0]] = g2 at h0 h1 q1 ⊢
  have e19 : l19 = any19 g.length (g ++ [O.lst []]).length := hx19.symm
  have n19 : l19.length = 19 := by rw [e19] <;> rfl
  clear hx19
  have h2 : (g2 ++ [O.lst l19] ++ [O.lst [.str "x"]] ++ [O.lst [.int 1]])[g2.length]? = some (.lst l19) := at_app (at_app at_new)
  have h3 : (g2 ++ [O.lst l19] ++ [O.lst [.str "x"]] ++ [O.lst [.int 1]])[(g2 ++ [O.lst l19]).length]? = some (.lst [.str "x"]) := at_app at_new
  have h4 : (g2 ++ [O.lst l19] ++ [O.lst [.str "x"]] ++ [O.lst [.int 1]])[(g2 ++ [O.lst l19] ++ [O.lst [.str "x"]]).length]? = some (.lst [.int 1]) := at_new
  have q2 : Gro g2 (g2 ++ [O.lst l19] ++ [O.lst [.str "x"]] ++ [O.lst [.int 1]]) := ((Gro.app _ _).trans (.app _ _)).trans (.app _ _)
  generalize g2 ++ [O.lst l19] ++ [O.lst [.str "x"]] ++ [O.lst [.int 1]] = g5 at h2 h3 h4 q2 ⊢
  have hc : g.length ≤ (g2 ++ [O.lst l19]).length := Nat.le_trans q1.len (by simp)
  have hE : g.length ≤ (g2 ++ [O.lst l19] ++ [O.lst [.str "x"]]).length := Nat.le_trans q1.len (by simp)
  generalize (g2 ++ [O.lst l19]).length = c at h3 hc ⊢
  generalize (g2 ++ [O.lst l19] ++ [O.lst [.str "x"]]).length = e at h4 hE ⊢
  have tm : ∀ g', g'[g.length]? = some (.lst []) → g'[(g ++ [O.lst []]).length]? = some (.lst [.int 0]) → g'[c]? = some (.lst [.str "x"]) → g'[e]? = some (.lst [.int 1]) → ∀ d ∈ l19 ++ any4 c e, ∃ t, TmOk d g' t := fun g' x1 x2 x3 x4 => by
    rw [e19]
    exact any_tm x1 x2 x3 x4
  have len23 : (l19 ++ any4 c e).length = 23 := by rw [List.length_append, n19] <;> rfl
  refine Eq.mpr (V_addL (at_app h2) (l2 := any4 c e) at_new) ⟨sz (by rw [← List.length_append, len23]; omega), ?_⟩
  generalize l19 ++ any4 c e = l23 at tm len23 ⊢
  refine Eq.mpr (V_addL (l := l23) (l2 := []) at_new (((q1.trans q2).trans ((Gro.app _ _).trans (.app _ _))).at hk)) ⟨sz (by rw [len23]; decide), ?_⟩
  rw [List.append_nil]
  have q3 : Gro g5 (g5 ++ [O.lst (any4 c e)] ++ [O.lst l23] ++ [O.lst l23]) := ((Gro.app _ _).trans (.app _ _)).trans (.app _ _)
  have h23 : (g5 ++ [O.lst (any4 c e)] ++ [O.lst l23] ++ [O.lst l23])[(g5 ++ [O.lst (any4 c e)] ++ [O.lst l23]).length]? = some (.lst l23) := at_new
  change (fLc _ _ _ _ _ _ (g5 ++ [O.lst (any4 c e)] ++ [O.lst l23] ++ [O.lst l23])).P fun b g2 => (oAdd (.ref (g5 ++ [O.lst (any4 c e)] ++ [O.lst l23]).length) b g2).P _
  generalize g5 ++ [O.lst (any4 c e)] ++ [O.lst l23] ++ [O.lst l23] = g8 at q3 h23 ⊢
  generalize (g5 ++ [O.lst (any4 c e)] ++ [O.lst l23]).length = j at h23 ⊢
  have q8 : Gro g g8 := (q1.trans q2).trans q3
  have hk8 := q8.at hk
  refine lc_pure [] [(k, [])] id (fun _ => true) ?_ (fun g' q => wok1 (q.at hk8)) (by simp) (fun d hd => absurd hd (by simp)) fun g9 q9 e9 => ?_
  · simp only [P_src, P_var, List.getElem?_cons_zero, List.getElem?_cons_succ, srcL hk8]
    exact ⟨trivial, trivial⟩
  · refine Eq.mpr (V_addL (q9.at h23) e9) ⟨sz (by rw [len23]; decide), ?_⟩
    have hA : (g9 ++ [O.lst (l23 ++ ([] : List D))])[g9.length]? = some (.lst l23) := by rw [List.append_nil]; exact at_new
    have qA : Gro g8 (g9 ++ [O.lst (l23 ++ ([] : List D))]) := q9.trans (.app _ _)
    change (fCallF F.f_v_law_take_2 _ _ (g9 ++ [O.lst (l23 ++ ([] : List D))])).P _
    generalize g9 ++ [O.lst (l23 ++ ([] : List D))] = gA at hA qA ⊢
    generalize hn9 : g9.length = jA at hA ⊢
    have hlt : g.length ≤ jA := by
      rw [← hn9]
      exact Nat.le_trans q8.len q9.len
    simp only [P_callF, P_cons, P_nil, P_var, P_call, List.getElem?_cons_zero, List.getElem?_cons_succ, V_lenL hA, len23]
    have qg := q8.trans qA
    refine (tk gA m n 23 (b.gro qg) hn (by decide) (by decide)).mono fun d d' ⟨t, ht, t0, t1, bg, ev⟩ => ?_
    subst ht
    have ml := b.lt
    rw [V_ixL (ev.at (by omega) hA)]
    obtain ⟨d, ed, hd⟩ := atI_in (l := l23) t0 (by rw [len23]; exact t1)
    rw [ed]
    have qq := q2.trans (q3.trans qA)
    have q5 := q3.trans qA
    exact ⟨tm d' (ev.at (by omega) (qq.at h0)) (ev.at (by simp; omega) (qq.at h1)) (ev.at (by omega) (q5.at h3)) (ev.at (by omega) (q5.at h4)) d hd, bg, (qg.evo m).trans ev⟩
end Fc

set_option Elab.async false
set_option linter.all false
set_option maxRecDepth 100000
set_option maxHeartbeats 4000000
/-! I1d: k01: fields and texts. -/
namespace Fc
open PySem PySem.Spec PySem.Calls PyProof.Rows L2
section
variable {ρ : Ev} {g : G} {Q : D → G → Prop} {own : Str → Bool} {n : Str} {f : Ev → G → Re D} {ψ : Fun2} {fr fk : Ev → G → Re (List D)}
theorem P_xget : (fXget own n f ρ g).P Q = (f ρ g).P fun d g1 => match exnD d g1 with
    | some (c, fs) => own c = true ∧ (match fs.lookup n with | some y => Q y g1 | none => False)
    | none => False := by
  unfold fXget
  rw [P_bind]
  congr 1
  funext d g1
  cases exnD d g1 with
  | none => rfl
  | some p =>
    obtain ⟨c, fs⟩ := p
    dsimp only
    by_cases h : own c = true
    · rw [if_pos h]
      cases fs.lookup n with
      | none => simp [h, Re.P]
      | some y => simp [h, Re.P]
    · rw [if_neg h]
      simp [h, Re.P]
theorem P_isiX {ow : Str → Option Bool} : (fIsiX ow f ρ g).P Q = (f ρ g).P fun d g1 => match (exnD d g1).bind fun p => ow p.1 with
    | some b => Q (.bl b) g1
    | none => False := by
  unfold fIsiX
  rw [P_bind]
  congr 1
  funext d g1
  cases (exnD d g1).bind fun p => ow p.1 <;> rfl
theorem exnD_at {m : Nat} {c : Str} {fs : List (Str × D)} (h : g[m]? = some (.exn c fs)) : exnD (.ref m) g = some (c, fs) := by
  show (match g[m]? with
    | some (.exn c fs) => some (c, fs)
    | some (.exv c fs) => some (c, fs)
    | _ => none) = _
  rw [h]
end
/-- an exception with the field f that holds d -/
def Md (f : Str) (d : D) (x : D) (g : G) : Prop := ∃ i c, x = .ref i ∧ g[i]? = some (.exn c [(f, d)]) ∧ ownXA c = true
theorem Md.gro {f : Str} {d x : D} {g g' : G} (h : Md f d x g) (e : Gro g g') : Md f d x g' := by
  obtain ⟨i, c, h1, h2, h3⟩ := h
  exact ⟨i, c, h1, e.at h2, h3⟩
section
variable {φ : Fun2} {c f : Str} {d : D} {g : G} {t : Str} {Q : D → G → Prop}
theorem mdP (h : XmP φ c f) (o : ownXA c = true) (k : ∀ x g', Md f d x g' → Gro g g' → Q x g') : (φ [d] [] g).P Q := h d g Q (k _ _ ⟨_, c, rfl, at_new, o⟩ (.app _ _))
theorem mdK (h : XmK φ c f) (o : ownXA c = true) (k : ∀ x g', Md f d x g' → Gro g g' → Q x g') : (φ [] [d] g).P Q := h d g Q (k _ _ ⟨_, c, rfl, at_new, o⟩ (.app _ _))
theorem mdT (h : XmT φ c f) (o : ownXA c = true) (hT : TmOk d g t) (k : ∀ x g', Md f d x g' → Gro g g' → Q x g') : (φ [d] [] g).P Q := h d g t Q hT (k _ _ ⟨_, c, rfl, at_new, o⟩ (.app _ _))
theorem mdTK (h : XmTK φ c f) (o : ownXA c = true) (hT : TmOk d g t) (k : ∀ x g', Md f d x g' → Gro g g' → Q x g') : (φ [] [d] g).P Q := h d g t Q hT (k _ _ ⟨_, c, rfl, at_new, o⟩ (.app _ _))
theorem md_get {x : D} (h : Md f d x g) : (match exnD x g with
    | some (c, fs) => ownXA c = true ∧ (match fs.lookup f with | some y => Q y g | none => False)
    | none => False) = Q d g := by
  obtain ⟨i, c, rfl, h2, h3⟩ := h
  rw [exnD_at h2]
  simp [h3, List.lookup]
theorem V_mulL {m : Nat} {l : List D} {k : Int} (h : g[m]? = some (.lst l)) (h1 : 0 ≤ k) (h2 : k ≤ 1000) (h3 : l.length ≤ 1000) (q : Q (.ref g.length) (g ++ [O.lst (List.replicate k.toNat l).flatten])) : (oMul (.ref m) (.int k) g).P Q := by
  have e : oMulL (.ref m) (.int k) g = .ok (.ref g.length) (g ++ [O.lst (List.replicate k.toNat l).flatten]) := by
    show (match g[m]? with
      | some (.lst x) => if -(2 ^ 63) ≤ k ∧ k < 2 ^ 63 ∧ x.length * k.toNat ≤ sizeLine then Re.ok (D.ref g.length) (g ++ [O.lst (List.replicate k.toNat x).flatten]) else .bad
      | _ => .bad) = _
    rw [h]
    dsimp only
    have hk : k.toNat ≤ 1000 := by omega
    have := Nat.mul_le_mul h3 hk
    rw [if_pos ⟨by omega, by omega, by rw [sizeLine_eq]; omega⟩]
  show Re.P (match oMulI (.ref m) (.int k) g with | .ok d g' => .ok d g' | _ => (oMulT.or oMulL) (.ref m) (.int k) g) Q
  show Re.P (match oMulT (.ref m) (.int k) g with | .ok d g' => .ok d g' | _ => oMulL (.ref m) (.int k) g) Q
  show Re.P (oMulL (.ref m) (.int k) g) Q
  rw [e]
  exact q
end
/-- [one.f for one in made] -/
theorem lc_get {F : Ph} {ρ : Ev} {g : G} {Q : D → G → Prop} {f : Str} {d : D} {i m : Nat} {xs : List D} (hi : ρ[i]? = some (some (.ref m))) (hne : i ≠ 4) (hρ : ρ.length = 5) (h : g[m]? = some (.lst xs)) (hl : xs.length ≤ 1000) (hx : ∀ x ∈ xs, Md f d x g)
    (hQ : ∀ g', Gro g g' → g'[g.length]? = some (.lst (List.replicate xs.length d)) → Q (.ref g.length) g') : (fLc (fSrc (fVar i)) (bNm 4) fYes (fXget ownXA f (fVar 4)) (([("_law_one", 4)] : List (Str × Nat)).map (·.2)) ρ g).P Q := by
  refine lc_pure xs [(m, xs)] (fun _ => d) (fun _ => true) ?_ (fun g' q => wok1 (q.at h)) (sz hl) (fun x hm g' q => ?_) fun g' q e => hQ g' q ?_
  · simp only [P_src, P_var, hi, srcL h]
    exact ⟨trivial, trivial⟩
  · refine ⟨_, rfl, ?_⟩
    rw [P_yes]
    refine ⟨rfl, .refl _, fun _ => ?_⟩
    have e4 : ((wipeE ρ [4]).set 4 (some x))[4]? = some (some x) := List.getElem?_set_self (by show 4 < ((ρ).set 4 none).length; simp [hρ])
    show (fXget ownXA f (fVar 4) ((wipeE ρ [4]).set 4 (some x)) g').P _
    simp only [P_xget, P_var, e4]
    exact Eq.mpr (md_get (Q := fun y g3 => y = d ∧ Gro g' g3) ((hx x hm).gro q)) ⟨rfl, .refl _⟩
  · rw [e]
    congr 2
    simp [List.eq_replicate_iff]
/-- [repr(one) for one in found] -/
theorem lc_rep {ρ : Ev} {g : G} {Q : D → G → Prop} {d : D} {t : Str} {it : Ev → G → Re (List D × Wt)} {m n : Nat} (hρ : ρ.length = 5) (hit : (it ρ g).P fun p g1 => p = (List.replicate n d, [(m, List.replicate n d)]) ∧ g1 = g) (h : g[m]? = some (.lst (List.replicate n d))) (hl : n ≤ 1000) (hT : TmOk d g t)
    (hQ : ∀ g', Gro g g' → g'[g.length]? = some (.lst (List.replicate n (.str t))) → Q (.ref g.length) g') : (fLc it (bNm 4) fYes (fCall oReprA (fCons (fVar 4) fNil)) (([("_law_one", 4)] : List (Str × Nat)).map (·.2)) ρ g).P Q := by
  refine lc_pure (List.replicate n d) [(m, List.replicate n d)] (fun _ => .str t) (fun _ => true) hit (fun g' q => wok1 (q.at h)) (sz (by simpa using hl)) (fun x hm g' q => ?_) fun g' q e => hQ g' q ?_
  · obtain rfl := (List.mem_replicate.mp hm).2
    refine ⟨_, rfl, ?_⟩
    rw [P_yes]
    refine ⟨rfl, .refl _, fun _ => ?_⟩
    have e4 : ((wipeE ρ [4]).set 4 (some x))[4]? = some (some x) := List.getElem?_set_self (by show 4 < ((ρ).set 4 none).length; simp [hρ])
    show (fCall oReprA (fCons (fVar 4) fNil) ((wipeE ρ [4]).set 4 (some x)) g').P _
    simp only [P_call, P_cons, P_nil, P_var, e4, V_reprA (hT.2.1 g' q)]
    exact ⟨trivial, .refl _⟩
  · rw [e]
    congr 2
    simp [List.eq_replicate_iff]
theorem addL {g : G} {Q : D → G → Prop} {m k : Nat} {l l2 : List D} (h1 : g[m]? = some (.lst l)) (h2 : g[k]? = some (.lst l2)) (hl : l.length + l2.length ≤ 1000) (kk : ∀ j g', g'[j]? = some (.lst (l ++ l2)) → Gro g g' → Q (.ref j) g') : (oAdd (.ref m) (.ref k) g).P Q :=
  Eq.mpr (V_addL h1 h2) ⟨sz hl, kk _ _ at_new (.app _ _)⟩
theorem getA {ρ : Ev} {g : G} {Q : D → G → Prop} {f : Str} {d : D} {fo : Ev → G → Re D} (h : (fo ρ g).P fun x g' => Md f d x g' ∧ Q d g') : (fXget ownXA f fo ρ g).P Q := by
  rw [P_xget]
  exact h.mono fun x g' ⟨m, q⟩ => Eq.mpr (md_get m) q
theorem toPs_strs {g : G} : ∀ {ss : List Str} {n : Nat}, ss.length ≤ n → toPs g n (ss.map .str) = some (ss.map .str)
  | [], n, _ => by cases n <;> rfl
  | x :: r, 0, h => by simp at h
  | x :: r, n + 1, h => by
    have e : toP g n (.str x) = some (.str x) := by cases n <;> rfl
    show ((toP g n (.str x)).bind fun p => (toPs g n (r.map .str)).map (p :: ·)) = _
    rw [e, toPs_strs (by simp at h; omega)] <;> rfl
theorem V_eqSame {a b : D} {g : G} {Q : D → G → Prop} {p : PyData} (hs : sclD a b = none) (he : eqE a b g = none ∨ eqE a b g = some true) (ha : toP g 60 a = some p) (hb : toP g 60 b = some p) (hp : SeqAt.shaped p = true) : (oEq a b g).P Q = Q (.bl true) g ∧ (oNe a b g).P Q = Q (.bl false) g := by
  have e1 : eqP a b g = some true := by
    unfold eqP
    rw [ha, hb]
    dsimp only
    rw [if_pos ⟨hp, hp⟩, SeqAt.eqv_refl p (by unfold SeqAt.shaped at hp; simp only [Bool.and_eq_true] at hp; exact hp.1)]
  unfold oEq eqA oNe neA
  rw [hs]
  dsimp only
  rcases he with e | e
  · rw [e]
    dsimp only
    rw [e1]
    exact ⟨rfl, rfl⟩
  · rw [e]
    exact ⟨rfl, rfl⟩
theorem V_eqStrs {g : G} {Q : D → G → Prop} {m k : Nat} {ss : List Str} (h1 : g[m]? = some (.lst (ss.map .str))) (h2 : g[k]? = some (.lst (ss.map .str))) (hl : ss.length ≤ 50) (hn : ss.length ≠ 0) (hs : (ss.all PyData.strOk) = true) : (oEq (.ref m) (.ref k) g).P Q = Q (.bl true) g ∧ (oNe (.ref m) (.ref k) g).P Q = Q (.bl false) g := by
  refine V_eqSame (p := .list (ss.map .str)) rfl (.inl ?_) (toP_lst h1 (toPs_strs (by omega))) (toP_lst h2 (toPs_strs (by omega))) ?_
  · show (match g[m]?, g[k]? with
      | some (.lst l), some (.lst l2) => lenE l l2
      | _, _ => none) = none
    rw [h1, h2]
    show (if _ = _ then (if _ = 0 then some true else none) else some false) = none
    rw [if_pos rfl, if_neg (by simpa using hn)]
  · unfold SeqAt.shaped
    rw [Bool.and_eq_true]
    refine ⟨(canLayAll_strs' ss).trans hs, decide_eq_true ?_⟩
    show PyData.depthAll (ss.map .str) + 1 ≤ 64
    rw [depthAll_strs']
    omega
theorem lc_it {ρ : Ev} {g : G} {Q : D → G → Prop} {it : Ev → G → Re (List D × Wt)} {b : Bd} {ft : Ev → G → Re Bool} {fe : Ev → G → Re D} {vs : List Nat} (h : (it ρ g).P fun p g1 => (fLc (fun _ g => .ok p g) b ft fe vs ρ g1).P Q) : (fLc it b ft fe vs ρ g).P Q := by
  rw [P_lc]
  refine h.mono fun p g1 q => ?_
  rw [P_lc] at q
  exact q
def NrC (F : Ph) : Prop := ∀ d g t, TmOk d g t → (F.f_v_law_named_right_1 [d] [] g).P fun v g' => v = .bl true ∧ Gro g g'
theorem nr_up {F : Ph} : NrC F.up.up.up := by
  intro d g t hT
  refine P_runB ?_
  unfold dn_v_law_named_right
  rw [show ini 5 [d] = [some d, none, none, none, none] from rfl]
  simp only [S_seq, S_set, S_ret, P_lst, P_mkA, P_mkK, P_cons, P_nil, P_C, P_bin, P_var, List.getElem?_cons_zero, List.getElem?_cons_succ, List.set_cons_succ, List.set_cons_zero]
  refine mdP xm_NoName (by decide) fun x1 g1 m1 q1 => mdK xk_NoName (by decide) fun x2 g2 m2 q2 => mdP xm_NoClosure (by decide) fun x3 g3 m3 q3 => mdK xk_NoClosure (by decide) fun x4 g4 m4 q4 => mdP xm_Taken (by decide) fun x5 g5 m5 q5 => mdK xk_Taken (by decide) fun x6 g6 m6 q6 => ⟨sz (by simp), ?_⟩
  refine mdP xm_InUse (by decide) fun x7 g7 m7 q7 => mdK xk_InUse (by decide) fun x8 g8 m8 q8 => mdP xm_NoCell (by decide) fun x9 g9 m9 q9 => mdK xk_NoCell (by decide) fun x10 g10 m10 q10 => ⟨sz (by simp), ?_⟩
  have r6 : Gro g6 g10 := (Gro.app _ _).trans (q7.trans (q8.trans (q9.trans q10)))
  refine addL (at_app ((q7.trans (q8.trans (q9.trans q10))).at at_new)) at_new (by simp) fun ja ga ha qa => ?_
  have r10 : Gro g10 ga := (Gro.app _ _).trans qa
  have hg : Gro g ga := (q1.trans (q2.trans (q3.trans (q4.trans (q5.trans q6))))).trans (r6.trans r10)
  have named : ∀ x ∈ [x1, x2, x3, x4, x5, x6] ++ [x7, x8, x9, x10], Md "name" d x ga := by
    intro x hx
    simp only [List.cons_append, List.nil_append, List.mem_cons, List.not_mem_nil, or_false] at hx
    rcases hx with rfl | rfl | rfl | rfl | rfl | rfl | rfl | rfl | rfl | rfl
    · exact m1.gro ((q2.trans (q3.trans (q4.trans (q5.trans q6)))).trans (r6.trans r10))
    · exact m2.gro ((q3.trans (q4.trans (q5.trans q6))).trans (r6.trans r10))
    · exact m3.gro ((q4.trans (q5.trans q6)).trans (r6.trans r10))
    · exact m4.gro ((q5.trans q6).trans (r6.trans r10))
    · exact m5.gro (q6.trans (r6.trans r10))
    · exact m6.gro (r6.trans r10)
    · exact m7.gro ((q8.trans (q9.trans q10)).trans r10)
    · exact m8.gro ((q9.trans q10).trans r10)
    · exact m9.gro (q10.trans r10)
    · exact m10.gro r10
  have ln : ([x1, x2, x3, x4, x5, x6] ++ [x7, x8, x9, x10]).length = 10 := rfl
  generalize [x1, x2, x3, x4, x5, x6] ++ [x7, x8, x9, x10] = nl at ha named ln
  clear m1 m2 m3 m4 m5 m6 m7 m8 m9 m10 q1 q2 q3 q4 q5 q6 q7 q8 q9 q10 r6 r10 qa
  have tA := hT.gro hg
  refine mdT xm_NoCapture (by decide) tA fun y1 e1 n1 p1 => mdTK xk_NoCapture (by decide) (tA.gro p1) fun y2 e2 n2 p2 => mdT xm_NoCall (by decide) (tA.gro (p1.trans p2)) fun y3 e3 n3 p3 => mdTK xk_NoCall (by decide) (tA.gro ((p1.trans p2).trans p3)) fun y4 e4 n4 p4 => ?_
  refine mdT xm_NoText (by decide) (tA.gro (((p1.trans p2).trans p3).trans p4)) fun y5 e5 n5 p5 => mdTK xk_NoText (by decide) (tA.gro ((((p1.trans p2).trans p3).trans p4).trans p5)) fun y6 e6 n6 p6 => ⟨sz (by simp), ?_⟩
  have pA : Gro ga e6 := ((((p1.trans p2).trans p3).trans p4).trans p5).trans p6
  have placed : ∀ x ∈ [y1, y2, y3, y4, y5, y6], Md "at" d x e6 := by
    intro x hx
    simp only [List.mem_cons, List.not_mem_nil, or_false] at hx
    rcases hx with rfl | rfl | rfl | rfl | rfl | rfl
    · exact n1.gro (p2.trans (p3.trans (p4.trans (p5.trans p6))))
    · exact n2.gro (p3.trans (p4.trans (p5.trans p6)))
    · exact n3.gro (p4.trans (p5.trans p6))
    · exact n4.gro (p5.trans p6)
    · exact n5.gro p6
    · exact n6
  have lp : [y1, y2, y3, y4, y5, y6].length = 6 := rfl
  generalize [y1, y2, y3, y4, y5, y6] = pl at placed lp ⊢
  clear n1 n2 n3 n4 n5 n6 p1 p2 p3 p4 p5 p6
  have qB : Gro e6 (e6 ++ [O.lst pl]) := .app _ _
  have hB : (e6 ++ [O.lst pl])[e6.length]? = some (.lst pl) := at_new
  generalize e6 ++ [O.lst pl] = gb at qB hB ⊢
  generalize e6.length = jb at hB ⊢
  refine lc_get (F := F) (m := ja) (d := d) rfl (by decide) rfl ((pA.trans qB).at ha) (by omega) (fun x hx => (named x hx).gro (pA.trans qB)) fun gc qc hc => ?_
  refine lc_get (F := F) (m := jb) (d := d) rfl (by decide) rfl (qc.at hB) (by omega) (fun x hx => (placed x hx).gro (qB.trans qc)) fun gd qd hd => ?_
  refine addL (qd.at hc) hd (by simp [ln, lp]) fun je ge he qe => ?_
  refine getA (d := d) ?_
  simp only [P_mkA, P_mkK, P_cons, P_nil, P_var, List.getElem?_cons_zero]
  refine mdP xm_NoBase (by decide) fun z1 f1 k1 s1 => ⟨k1, getA (d := d) ?_⟩
  simp only [P_mkA, P_mkK, P_cons, P_nil, P_var, List.getElem?_cons_zero]
  refine mdK xk_NoBase (by decide) fun z2 f2 k2 s2 => ⟨k2, sz (by simp), addL (at_app ((s1.trans s2).at he)) at_new (by simp [ln, lp]) fun jf gf hf qf => getA (d := d) ?_⟩
  simp only [P_mkA, P_mkK, P_cons, P_nil, P_var, List.getElem?_cons_zero]
  refine mdP xm_NoNumber (by decide) fun z3 f3 k3 s3 => ⟨k3, getA (d := d) ?_⟩
  simp only [P_mkA, P_mkK, P_cons, P_nil, P_var, List.getElem?_cons_zero]
  refine mdK xk_NoNumber (by decide) fun z4 f4 k4 s4 => ⟨k4, getA (d := d) ?_⟩
  simp only [P_mkA, P_mkK, P_cons, P_nil, P_var, List.getElem?_cons_zero]
  refine mdP xm_Noticed (by decide) fun z5 f5 k5 s5 => ⟨k5, sz (by simp), addL (at_app ((s3.trans (s4.trans s5)).at hf)) at_new (by simp [ln, lp]) fun jh gh hh qh => ?_⟩
  have rep : List.replicate nl.length d ++ List.replicate pl.length d ++ [d, d] ++ [d, d, d] = List.replicate 21 d := by rw [ln, lp]; rfl
  rw [rep] at hh
  refine lc_it ?_
  simp only [P_src, P_bin, P_lst, P_cons, P_nil, P_var, List.getElem?_cons_zero, List.getElem?_cons_succ]
  refine getA (d := d) ?_
  simp only [P_mkA, P_mkK, P_cons, P_nil, P_var, List.getElem?_cons_zero]
  refine mdK xk_Noticed (by decide) fun z6 f6 k6 s6 => ⟨k6, sz (by simp), addL (at_app (s6.at hh)) at_new (by simp) fun ji gi hi qi => ?_⟩
  rw [srcL hi]
  dsimp only
  have rep2 : List.replicate 21 d ++ [d] = List.replicate 22 d := rfl
  rw [rep2] at hi
  have gAll : Gro g gi := hg.trans (pA.trans (qB.trans (qc.trans (qd.trans (qe.trans (s1.trans (s2.trans ((Gro.app _ _).trans (qf.trans (s3.trans (s4.trans (s5.trans ((Gro.app _ _).trans (qh.trans (s6.trans ((Gro.app _ _).trans qi))))))))))))))))
  refine lc_rep rfl (n := 22) (m := ji) (d := d) (t := t) ⟨rfl, rfl⟩ hi (by decide) (hT.gro gAll) fun gj qj hj => ?_
  have gJ : Gro g gj := gAll.trans qj
  simp only [P_call, P_cons, P_nil, P_var, List.getElem?_cons_zero, V_reprA (hT.2.1 gj gJ)]
  refine ⟨sz (by simp), V_mulL at_new (by decide) (by decide) (by simp) ?_⟩
  have e22 : (List.replicate (Int.toNat 22) [D.str t]).flatten = (List.replicate 22 t).map .str := rfl
  have e23 : List.replicate 22 (D.str t) = (List.replicate 22 t).map .str := rfl
  rw [e22]
  rw [e23] at hj
  rw [(V_eqStrs (ss := List.replicate 22 t) (at_app (at_app hj)) at_new (by simp) (by simp) (by simp [hT.1.2])).1]
  exact ⟨rfl, gJ.trans ((Gro.app _ _).trans (.app _ _))⟩
end Fc

set_option Elab.async false
set_option linter.all false
set_option maxRecDepth 100000
set_option maxHeartbeats 4000000
/-! I1e: k01: which class an exception is of. -/
namespace Fc
open PySem PySem.Spec PySem.Calls PyProof.Rows L2
theorem V_intB {g : G} {Q : D → G → Prop} {b : Bool} : (oInt [.bl b] g).P Q = Q (.int (if b = true then 1 else 0)) g := by cases b <;> rfl
theorem toPs_bls {g : G} : ∀ {bs : List Bool} {n : Nat}, bs.length ≤ n → toPs g n (bs.map .bl) = some (bs.map .bool)
  | [], n, _ => by cases n <;> rfl
  | x :: r, 0, h => by simp at h
  | x :: r, n + 1, h => by
    have e : toP g n (.bl x) = some (.bool x) := by cases n <;> rfl
    show ((toP g n (.bl x)).bind fun p => (toPs g n (r.map .bl)).map (p :: ·)) = _
    rw [e, toPs_bls (by simp at h; omega)] <;> rfl
theorem lay_bls : ∀ bs : List Bool, PyData.canLayAll0 (bs.map .bool) = true
  | [] => rfl
  | b :: r => by
    show (PyData.canLay0 (.bool b) && PyData.canLayAll0 (r.map .bool)) = true
    rw [lay_bls r] <;> rfl
theorem deep_bls : ∀ bs : List Bool, PyData.depthAll (bs.map .bool) = 0
  | [] => rfl
  | b :: r => by
    show max 0 (PyData.depthAll (r.map .bool)) = 0
    rw [deep_bls r] <;> rfl
theorem shaped_bls (bs : List Bool) : SeqAt.shaped (.list (bs.map .bool)) = true := by
  unfold SeqAt.shaped
  rw [Bool.and_eq_true]
  refine ⟨lay_bls bs, decide_eq_true ?_⟩
  show PyData.depthAll (bs.map .bool) + 1 ≤ 64
  rw [deep_bls]
  omega
theorem eqv_tr : (fun z => PyData.eqv z (.bool true)) ∘ PyData.bool = fun b : Bool => b := by
  funext b
  show PyData.eqv (.bool b) (.bool true) = b
  cases b <;> rfl
theorem V_count {g : G} {Q : D → G → Prop} {m : Nat} {bs : List Bool} (h : g[m]? = some (.lst (bs.map .bl))) (hl : bs.length ≤ 50) : (oCount (.ref m) [.bl true] g).P Q = Q (.int ((bs.countP (fun b => b) : Nat) : Int)) g := by
  have e1 : toP g 60 (.ref m) = some (.list (bs.map .bool)) := toP_lst h (toPs_bls (by omega))
  have e2 : toP g 60 (.bl true) = some (.bool true) := rfl
  unfold oCount
  dsimp only
  rw [e1, e2]
  dsimp only
  rw [if_pos ⟨rfl, shaped_bls bs, rfl⟩, List.countP_map, eqv_tr]
  rfl
def ixB : List Bool → Option Nat
  | [] => none
  | b :: r => if b = true then some 0 else (ixB r).map (· + 1)
theorem ixB_eq : ∀ bs : List Bool, firstIx (fun z => PyData.eqv z (.bool true)) (bs.map .bool) = ixB bs
  | [] => rfl
  | b :: r => by
    have e : PyData.eqv (.bool b) (.bool true) = b := congrFun eqv_tr b
    show (if PyData.eqv (.bool b) (.bool true) = true then some 0 else (firstIx _ (r.map .bool)).map (· + 1)) = if b = true then some 0 else (ixB r).map (· + 1)
    rw [e, ixB_eq r]
theorem V_index {g : G} {Q : D → G → Prop} {m j : Nat} {bs : List Bool} (h : g[m]? = some (.lst (bs.map .bl))) (hl : bs.length ≤ 50) (hj : ixB bs = some j) : (oIndex (.ref m) [.bl true] g).P Q = Q (.int (j : Nat)) g := by
  have e1 : toP g 60 (.ref m) = some (.list (bs.map .bool)) := toP_lst h (toPs_bls (by omega))
  have e2 : toP g 60 (.bl true) = some (.bool true) := rfl
  unfold oIndex
  dsimp only
  rw [e1, e2]
  dsimp only
  rw [if_pos ⟨rfl, shaped_bls bs, rfl⟩, ixB_eq, hj]
  rfl
theorem V_insert {g : G} {Q : D → G → Prop} {m : Nat} {l : List D} {i : Int} {y : D} (h : g[m]? = some (.lst l)) (hl : l.length ≤ 1000) (h0 : 0 ≤ i) (h1 : i ≤ 1000) : (oInsert (.ref m) [.int i, y] g).P Q = Q .non (g.set m (.lst (l.take i.toNat ++ [y] ++ l.drop i.toNat))) := by
  unfold oInsert
  dsimp only
  rw [h]
  dsimp only
  rw [if_pos ⟨by rw [sizeLine_eq]; omega, h0, by omega⟩]
  rfl
theorem isi_at {ρ : Ev} {g : G} {Q : D → G → Prop} {m : Nat} {c : Str} {fs : List (Str × D)} {ow : Str → Option Bool} {b : Bool} (h : g[m]? = some (.exn c fs)) (hb : ow c = some b) (hr : ρ[0]? = some (some (.ref m))) : (fIsiX ow (fVar 0) ρ g).P Q = Q (.bl b) g := by
  rw [P_isiX, P_var, hr]
  dsimp only
  rw [exnD_at h]
  show (match (ow c) with | some b => Q (.bl b) g | none => False) = _
  rw [hb]
def bt (b : Bool) : Str := if b = true then "1" else "0"
theorem str_of01 {g : G} {b : Bool} : strD g (.int (if b = true then 1 else 0)) = some (bt b) := by cases b <;> rfl
end Fc

set_option Elab.async false
set_option linter.all false
set_option maxRecDepth 100000
set_option maxHeartbeats 4000000
/-! I1f: k01: the word of an exception. -/
namespace Fc
open PySem PySem.Spec PySem.Calls PyProof.Rows L2
def a_ValueError (c : Str) : Bool := (ownE_ValueError c).getD false
theorem oa_ValueError : ∀ c ∈ xcs, ownE_ValueError c = some (a_ValueError c) := by decide +kernel
def a_KeyError (c : Str) : Bool := (ownE_KeyError c).getD false
theorem oa_KeyError : ∀ c ∈ xcs, ownE_KeyError c = some (a_KeyError c) := by decide +kernel
def a_LookupError (c : Str) : Bool := (ownE_LookupError c).getD false
theorem oa_LookupError : ∀ c ∈ xcs, ownE_LookupError c = some (a_LookupError c) := by decide +kernel
def a_RuntimeError (c : Str) : Bool := (ownE_RuntimeError c).getD false
theorem oa_RuntimeError : ∀ c ∈ xcs, ownE_RuntimeError c = some (a_RuntimeError c) := by decide +kernel
def a_OverflowError (c : Str) : Bool := (ownE_OverflowError c).getD false
theorem oa_OverflowError : ∀ c ∈ xcs, ownE_OverflowError c = some (a_OverflowError c) := by decide +kernel
theorem oa_NoBase : ∀ c ∈ xcs, ownE_NoBase c = some (decide (c = "NoBase")) := by decide +kernel
theorem oa_NoName : ∀ c ∈ xcs, ownE_NoName c = some (decide (c = "NoName")) := by decide +kernel
theorem oa_NoNumber : ∀ c ∈ xcs, ownE_NoNumber c = some (decide (c = "NoNumber")) := by decide +kernel
theorem oa_NoBody : ∀ c ∈ xcs, ownE_NoBody c = some (decide (c = "NoBody")) := by decide +kernel
theorem oa_NoCapture : ∀ c ∈ xcs, ownE_NoCapture c = some (decide (c = "NoCapture")) := by decide +kernel
theorem oa_NoCall : ∀ c ∈ xcs, ownE_NoCall c = some (decide (c = "NoCall")) := by decide +kernel
theorem oa_NoPlan : ∀ c ∈ xcs, ownE_NoPlan c = some (decide (c = "NoPlan")) := by decide +kernel
theorem oa_NoHouse : ∀ c ∈ xcs, ownE_NoHouse c = some (decide (c = "NoHouse")) := by decide +kernel
theorem oa_Unlike : ∀ c ∈ xcs, ownE_Unlike c = some (decide (c = "Unlike")) := by decide +kernel
theorem oa_NoText : ∀ c ∈ xcs, ownE_NoText c = some (decide (c = "NoText")) := by decide +kernel
theorem oa_NoCommand : ∀ c ∈ xcs, ownE_NoCommand c = some (decide (c = "NoCommand")) := by decide +kernel
theorem oa_NoClosure : ∀ c ∈ xcs, ownE_NoClosure c = some (decide (c = "NoClosure")) := by decide +kernel
theorem oa_NoCell : ∀ c ∈ xcs, ownE_NoCell c = some (decide (c = "NoCell")) := by decide +kernel
theorem oa_Taken : ∀ c ∈ xcs, ownE_Taken c = some (decide (c = "Taken")) := by decide +kernel
theorem oa_InUse : ∀ c ∈ xcs, ownE_InUse c = some (decide (c = "InUse")) := by decide +kernel
theorem oa_Nothing : ∀ c ∈ xcs, ownE_Nothing c = some (decide (c = "Nothing")) := by decide +kernel
theorem oa_Noticed : ∀ c ∈ xcs, ownE_Noticed c = some (decide (c = "Noticed")) := by decide +kernel
theorem oa_TooMany : ∀ c ∈ xcs, ownE_TooMany c = some (decide (c = "TooMany")) := by decide +kernel
def bsW (c : Str) : List Bool := [decide (c = "NoBase"), decide (c = "NoName"), decide (c = "NoNumber"), decide (c = "NoBody"), decide (c = "NoCapture"), decide (c = "NoCall"), decide (c = "NoPlan"), decide (c = "NoHouse"), decide (c = "Unlike"), decide (c = "NoText"), decide (c = "NoCommand"), decide (c = "NoClosure"), decide (c = "NoCell"), decide (c = "Taken"), decide (c = "InUse"), decide (c = "Nothing"), decide (c = "Noticed"), decide (c = "TooMany")]
def abW (c : Str) : List Bool := [a_ValueError c, a_KeyError c, a_LookupError c, a_RuntimeError c, a_OverflowError c]
def wds : List Str := ["NoBase", "NoName", "NoNumber", "NoBody", "NoCapture", "NoCall", "NoPlan", "NoHouse", "Unlike", "NoText", "NoCommand", "NoClosure", "NoCell", "Taken", "InUse", "Nothing", "Noticed", "TooMany"]
def jW (c : Str) : Nat := (ixB (bsW c)).getD 0
def shW (c : Str) : Str := Txt.join "" ((abW c).map bt)
theorem cntW : ∀ c ∈ xcs, (bsW c).countP (fun b => b) = 1 := by decide +kernel
theorem ixW : ∀ c ∈ xcs, ixB (bsW c) = some (jW c) := by decide +kernel
def kW (c : Str) : Int := (if decide ((10 : Int) < (jW c : Int)) = true then 1 else 0) + (if decide ((12 : Int) < (jW c : Int)) = true then 1 else 0) + (if decide ((16 : Int) < (jW c : Int)) = true then 1 else 0)
theorem dueW : ∀ c ∈ xcs, atI (["10000", "01100", "00010", "00001"] : List Str) (kW c) = some (shW c) := by decide +kernel
theorem wdW : ∀ c ∈ xcs, atI wds ((jW c : Nat) : Int) = some c := by decide +kernel
theorem atI_map {l : List Str} {i : Int} {x : Str} (h : atI l i = some x) : atI (l.map D.str) i = some (.str x) := by
  unfold atI at h ⊢
  rw [List.length_map]
  cases e : ixN l.length i with
  | none => rw [e] at h; cases h
  | some j =>
    rw [e] at h
    have h : l[j]? = some x := h
    show (l.map D.str)[j]? = _
    rw [List.getElem?_map, h]
    rfl
theorem isi_c {ρ : Ev} {g : G} {Q : D → G → Prop} {m : Nat} {c : Str} {fs : List (Str × D)} {ow : Str → Option Bool} {b : Bool} (h : g[m]? = some (.exn c fs)) (hb : ow c = some b) : (fIsiX ow (fVar 0) (some (.ref m) :: ρ) g).P Q = Q (.bl b) g := isi_at h hb rfl
theorem addN {g : G} {Q : D → G → Prop} {m k : Nat} {l l2 : List D} (h1 : g[m]? = some (.lst l)) (h2 : g[k]? = some (.lst l2)) (hl : l.length + l2.length ≤ 1000) (kk : ∀ j g', g'[j]? = some (.lst (l ++ l2)) → Gro g g' → g.length ≤ j → Q (.ref j) g') : (oAdd (.ref m) (.ref k) g).P Q :=
  Eq.mpr (V_addL h1 h2) ⟨sz hl, kk _ _ at_new (.app _ _) (Nat.le_refl _)⟩
def WdC (F : Ph) : Prop := ∀ g m c fs, g[m]? = some (.exn c fs) → c ∈ xcs → (F.f_v_law_word_1 [.ref m] [] g).P fun v g' => v = .str c ∧ Gro g g'
theorem word_up {F : Ph} : WdC F.up := by
  intro g m c fs h hc
  refine P_runB ?_
  unfold dn_v_law_word
  rw [show ini 8 [D.ref m] = [some (.ref m), none, none, none, none, none, none, none] from rfl]
  simp only [S_seq, S_set, S_drop, S_ret, P_lst, P_cons, P_nil, P_C, P_bin, P_var, P_append, P_bm, List.getElem?_cons_zero, List.getElem?_cons_succ, List.set_cons_succ, List.set_cons_zero]
  refine ⟨sz (by simp), sz (by simp), addN (at_app at_new) at_new (by simp) fun j1 g1 w1 q1 b1 => ?_⟩
  have r1 : Gro g g1 := ((Gro.app _ _).trans (.app _ _)).trans q1
  have L1 : g.length ≤ j1 := Nat.le_trans ((Gro.app g _).trans (Gro.app _ _)).len b1
  clear b1 q1
  have m1 := r1.at h
  simp only [isi_c m1 (oa_NoBase c hc), isi_c m1 (oa_NoName c hc), isi_c m1 (oa_NoNumber c hc), isi_c m1 (oa_NoBody c hc)]
  refine ⟨sz (by simp), ?_⟩
  have m2 : (g1 ++ [O.lst [D.bl (decide (c = "NoBase")), .bl (decide (c = "NoName")), .bl (decide (c = "NoNumber")), .bl (decide (c = "NoBody"))]])[m]? = some (.exn c fs) := at_app m1
  simp only [isi_c m2 (oa_NoCapture c hc), isi_c m2 (oa_NoCall c hc), isi_c m2 (oa_NoPlan c hc), isi_c m2 (oa_NoHouse c hc)]
  refine ⟨sz (by simp), addN (at_app at_new) at_new (by simp) fun j2 g2 w2 q2 b2 => ?_⟩
  have r2 : Gro g1 g2 := ((Gro.app _ _).trans (.app _ _)).trans q2
  clear b2 q2 m2
  have m2 := r2.at m1
  simp only [isi_c m2 (oa_Unlike c hc), isi_c m2 (oa_NoText c hc), isi_c m2 (oa_NoCommand c hc), isi_c m2 (oa_NoClosure c hc)]
  refine ⟨sz (by simp), addN (at_app w2) at_new (by simp) fun j3 g3 w3 q3 b3 => ?_⟩
  have r3 : Gro g2 g3 := (Gro.app _ _).trans q3
  clear b3 q3
  have m3 := r3.at m2
  simp only [isi_c m3 (oa_Taken c hc), isi_c m3 (oa_InUse c hc), isi_c m3 (oa_Nothing c hc), isi_c m3 (oa_Noticed c hc)]
  refine ⟨sz (by simp), addN (at_app w3) at_new (by simp) fun j4 g4 w4 q4 b4 => ?_⟩
  have r4 : Gro g3 g4 := (Gro.app _ _).trans q4
  have m4 := r4.at m3
  have L4 : g3.length ≤ j4 := Nat.le_trans (Gro.app g3 _).len b4
  clear b4 q4
  have rr : Gro g1 g4 := r2.trans (r3.trans r4)
  have ne : j1 ≠ j4 := by
    have a1 := lt_at w1
    have a2 := (r2.trans r3).len
    omega
  have nm : m ≠ j4 := by
    have a1 := lt_at h
    have a2 := (r1.trans (r2.trans r3)).len
    omega
  have wA := rr.at w1
  have rG : Gro g g4 := r1.trans rr
  have l4 : g.length ≤ j4 := Nat.le_trans (r1.trans (r2.trans r3)).len L4
  clear r1 r2 r3 r4 rr m1 m2 m3 w2 w3 w1 L4
  refine ⟨tyB_l w4, ?_⟩
  simp only [isi_c m4 (oa_TooMany c hc), V_append w4]
  refine ⟨sz (by simp), ?_⟩
  have w5 : (g4.set j4 (O.lst ([D.bl (decide (c = "NoBase")), D.bl (decide (c = "NoName")), D.bl (decide (c = "NoNumber")), D.bl (decide (c = "NoBody"))] ++ [D.bl (decide (c = "NoCapture")), D.bl (decide (c = "NoCall")), D.bl (decide (c = "NoPlan")), D.bl (decide (c = "NoHouse"))] ++ [D.bl (decide (c = "Unlike")), D.bl (decide (c = "NoText")), D.bl (decide (c = "NoCommand")), D.bl (decide (c = "NoClosure"))] ++ [D.bl (decide (c = "Taken")), D.bl (decide (c = "InUse")), D.bl (decide (c = "Nothing")), D.bl (decide (c = "Noticed"))] ++ [D.bl (decide (c = "TooMany"))])))[j4]? = some (.lst ([D.bl (decide (c = "NoBase")), D.bl (decide (c = "NoName")), D.bl (decide (c = "NoNumber")), D.bl (decide (c = "NoBody"))] ++ [D.bl (decide (c = "NoCapture")), D.bl (decide (c = "NoCall")), D.bl (decide (c = "NoPlan")), D.bl (decide (c = "NoHouse"))] ++ [D.bl (decide (c = "Unlike")), D.bl (decide (c = "NoText")), D.bl (decide (c = "NoCommand")), D.bl (decide (c = "NoClosure"))] ++ [D.bl (decide (c = "Taken")), D.bl (decide (c = "InUse")), D.bl (decide (c = "Nothing")), D.bl (decide (c = "Noticed"))] ++ [D.bl (decide (c = "TooMany"))])) := at_set w4
  have m5 : (g4.set j4 (O.lst ([D.bl (decide (c = "NoBase")), D.bl (decide (c = "NoName")), D.bl (decide (c = "NoNumber")), D.bl (decide (c = "NoBody"))] ++ [D.bl (decide (c = "NoCapture")), D.bl (decide (c = "NoCall")), D.bl (decide (c = "NoPlan")), D.bl (decide (c = "NoHouse"))] ++ [D.bl (decide (c = "Unlike")), D.bl (decide (c = "NoText")), D.bl (decide (c = "NoCommand")), D.bl (decide (c = "NoClosure"))] ++ [D.bl (decide (c = "Taken")), D.bl (decide (c = "InUse")), D.bl (decide (c = "Nothing")), D.bl (decide (c = "Noticed"))] ++ [D.bl (decide (c = "TooMany"))])))[m]? = some (.exn c fs) := at_ne nm m4
  have v5 : (g4.set j4 (O.lst ([D.bl (decide (c = "NoBase")), D.bl (decide (c = "NoName")), D.bl (decide (c = "NoNumber")), D.bl (decide (c = "NoBody"))] ++ [D.bl (decide (c = "NoCapture")), D.bl (decide (c = "NoCall")), D.bl (decide (c = "NoPlan")), D.bl (decide (c = "NoHouse"))] ++ [D.bl (decide (c = "Unlike")), D.bl (decide (c = "NoText")), D.bl (decide (c = "NoCommand")), D.bl (decide (c = "NoClosure"))] ++ [D.bl (decide (c = "Taken")), D.bl (decide (c = "InUse")), D.bl (decide (c = "Nothing")), D.bl (decide (c = "Noticed"))] ++ [D.bl (decide (c = "TooMany"))])))[j1]? = some (.lst (wds.map .str)) := at_ne ne wA
  have r5 : Gro g (g4.set j4 (O.lst ([D.bl (decide (c = "NoBase")), D.bl (decide (c = "NoName")), D.bl (decide (c = "NoNumber")), D.bl (decide (c = "NoBody"))] ++ [D.bl (decide (c = "NoCapture")), D.bl (decide (c = "NoCall")), D.bl (decide (c = "NoPlan")), D.bl (decide (c = "NoHouse"))] ++ [D.bl (decide (c = "Unlike")), D.bl (decide (c = "NoText")), D.bl (decide (c = "NoCommand")), D.bl (decide (c = "NoClosure"))] ++ [D.bl (decide (c = "Taken")), D.bl (decide (c = "InUse")), D.bl (decide (c = "Nothing")), D.bl (decide (c = "Noticed"))] ++ [D.bl (decide (c = "TooMany"))]))) := rG.set l4 _
  generalize g4.set j4 (O.lst ([D.bl (decide (c = "NoBase")), D.bl (decide (c = "NoName")), D.bl (decide (c = "NoNumber")), D.bl (decide (c = "NoBody"))] ++ [D.bl (decide (c = "NoCapture")), D.bl (decide (c = "NoCall")), D.bl (decide (c = "NoPlan")), D.bl (decide (c = "NoHouse"))] ++ [D.bl (decide (c = "Unlike")), D.bl (decide (c = "NoText")), D.bl (decide (c = "NoCommand")), D.bl (decide (c = "NoClosure"))] ++ [D.bl (decide (c = "Taken")), D.bl (decide (c = "InUse")), D.bl (decide (c = "Nothing")), D.bl (decide (c = "Noticed"))] ++ [D.bl (decide (c = "TooMany"))])) = g5 at w5 m5 v5 r5 ⊢
  clear w4 m4 wA rG
  refine ⟨tyB_l w5, ?_⟩
  simp only [isi_c m5 (oa_NoCell c hc)]
  rw [V_insert w5 (by simp) (by decide) (by decide)]
  have w6 : (g5.set j4 (O.lst (List.take (Int.toNat 12) ([D.bl (decide (c = "NoBase")), D.bl (decide (c = "NoName")), D.bl (decide (c = "NoNumber")), D.bl (decide (c = "NoBody"))] ++ [D.bl (decide (c = "NoCapture")), D.bl (decide (c = "NoCall")), D.bl (decide (c = "NoPlan")), D.bl (decide (c = "NoHouse"))] ++ [D.bl (decide (c = "Unlike")), D.bl (decide (c = "NoText")), D.bl (decide (c = "NoCommand")), D.bl (decide (c = "NoClosure"))] ++ [D.bl (decide (c = "Taken")), D.bl (decide (c = "InUse")), D.bl (decide (c = "Nothing")), D.bl (decide (c = "Noticed"))] ++ [D.bl (decide (c = "TooMany"))]) ++ [D.bl (decide (c = "NoCell"))] ++ List.drop (Int.toNat 12) ([D.bl (decide (c = "NoBase")), D.bl (decide (c = "NoName")), D.bl (decide (c = "NoNumber")), D.bl (decide (c = "NoBody"))] ++ [D.bl (decide (c = "NoCapture")), D.bl (decide (c = "NoCall")), D.bl (decide (c = "NoPlan")), D.bl (decide (c = "NoHouse"))] ++ [D.bl (decide (c = "Unlike")), D.bl (decide (c = "NoText")), D.bl (decide (c = "NoCommand")), D.bl (decide (c = "NoClosure"))] ++ [D.bl (decide (c = "Taken")), D.bl (decide (c = "InUse")), D.bl (decide (c = "Nothing")), D.bl (decide (c = "Noticed"))] ++ [D.bl (decide (c = "TooMany"))]))))[j4]? = some (.lst ((bsW c).map .bl)) := at_set w5
  have m6 : (g5.set j4 (O.lst (List.take (Int.toNat 12) ([D.bl (decide (c = "NoBase")), D.bl (decide (c = "NoName")), D.bl (decide (c = "NoNumber")), D.bl (decide (c = "NoBody"))] ++ [D.bl (decide (c = "NoCapture")), D.bl (decide (c = "NoCall")), D.bl (decide (c = "NoPlan")), D.bl (decide (c = "NoHouse"))] ++ [D.bl (decide (c = "Unlike")), D.bl (decide (c = "NoText")), D.bl (decide (c = "NoCommand")), D.bl (decide (c = "NoClosure"))] ++ [D.bl (decide (c = "Taken")), D.bl (decide (c = "InUse")), D.bl (decide (c = "Nothing")), D.bl (decide (c = "Noticed"))] ++ [D.bl (decide (c = "TooMany"))]) ++ [D.bl (decide (c = "NoCell"))] ++ List.drop (Int.toNat 12) ([D.bl (decide (c = "NoBase")), D.bl (decide (c = "NoName")), D.bl (decide (c = "NoNumber")), D.bl (decide (c = "NoBody"))] ++ [D.bl (decide (c = "NoCapture")), D.bl (decide (c = "NoCall")), D.bl (decide (c = "NoPlan")), D.bl (decide (c = "NoHouse"))] ++ [D.bl (decide (c = "Unlike")), D.bl (decide (c = "NoText")), D.bl (decide (c = "NoCommand")), D.bl (decide (c = "NoClosure"))] ++ [D.bl (decide (c = "Taken")), D.bl (decide (c = "InUse")), D.bl (decide (c = "Nothing")), D.bl (decide (c = "Noticed"))] ++ [D.bl (decide (c = "TooMany"))]))))[m]? = some (.exn c fs) := at_ne nm m5
  have v6 : (g5.set j4 (O.lst (List.take (Int.toNat 12) ([D.bl (decide (c = "NoBase")), D.bl (decide (c = "NoName")), D.bl (decide (c = "NoNumber")), D.bl (decide (c = "NoBody"))] ++ [D.bl (decide (c = "NoCapture")), D.bl (decide (c = "NoCall")), D.bl (decide (c = "NoPlan")), D.bl (decide (c = "NoHouse"))] ++ [D.bl (decide (c = "Unlike")), D.bl (decide (c = "NoText")), D.bl (decide (c = "NoCommand")), D.bl (decide (c = "NoClosure"))] ++ [D.bl (decide (c = "Taken")), D.bl (decide (c = "InUse")), D.bl (decide (c = "Nothing")), D.bl (decide (c = "Noticed"))] ++ [D.bl (decide (c = "TooMany"))]) ++ [D.bl (decide (c = "NoCell"))] ++ List.drop (Int.toNat 12) ([D.bl (decide (c = "NoBase")), D.bl (decide (c = "NoName")), D.bl (decide (c = "NoNumber")), D.bl (decide (c = "NoBody"))] ++ [D.bl (decide (c = "NoCapture")), D.bl (decide (c = "NoCall")), D.bl (decide (c = "NoPlan")), D.bl (decide (c = "NoHouse"))] ++ [D.bl (decide (c = "Unlike")), D.bl (decide (c = "NoText")), D.bl (decide (c = "NoCommand")), D.bl (decide (c = "NoClosure"))] ++ [D.bl (decide (c = "Taken")), D.bl (decide (c = "InUse")), D.bl (decide (c = "Nothing")), D.bl (decide (c = "Noticed"))] ++ [D.bl (decide (c = "TooMany"))]))))[j1]? = some (.lst (wds.map .str)) := at_ne ne v5
  have r6 : Gro g (g5.set j4 (O.lst (List.take (Int.toNat 12) ([D.bl (decide (c = "NoBase")), D.bl (decide (c = "NoName")), D.bl (decide (c = "NoNumber")), D.bl (decide (c = "NoBody"))] ++ [D.bl (decide (c = "NoCapture")), D.bl (decide (c = "NoCall")), D.bl (decide (c = "NoPlan")), D.bl (decide (c = "NoHouse"))] ++ [D.bl (decide (c = "Unlike")), D.bl (decide (c = "NoText")), D.bl (decide (c = "NoCommand")), D.bl (decide (c = "NoClosure"))] ++ [D.bl (decide (c = "Taken")), D.bl (decide (c = "InUse")), D.bl (decide (c = "Nothing")), D.bl (decide (c = "Noticed"))] ++ [D.bl (decide (c = "TooMany"))]) ++ [D.bl (decide (c = "NoCell"))] ++ List.drop (Int.toNat 12) ([D.bl (decide (c = "NoBase")), D.bl (decide (c = "NoName")), D.bl (decide (c = "NoNumber")), D.bl (decide (c = "NoBody"))] ++ [D.bl (decide (c = "NoCapture")), D.bl (decide (c = "NoCall")), D.bl (decide (c = "NoPlan")), D.bl (decide (c = "NoHouse"))] ++ [D.bl (decide (c = "Unlike")), D.bl (decide (c = "NoText")), D.bl (decide (c = "NoCommand")), D.bl (decide (c = "NoClosure"))] ++ [D.bl (decide (c = "Taken")), D.bl (decide (c = "InUse")), D.bl (decide (c = "Nothing")), D.bl (decide (c = "Noticed"))] ++ [D.bl (decide (c = "TooMany"))])))) := r5.set l4 _
  generalize g5.set j4 (O.lst (List.take (Int.toNat 12) ([D.bl (decide (c = "NoBase")), D.bl (decide (c = "NoName")), D.bl (decide (c = "NoNumber")), D.bl (decide (c = "NoBody"))] ++ [D.bl (decide (c = "NoCapture")), D.bl (decide (c = "NoCall")), D.bl (decide (c = "NoPlan")), D.bl (decide (c = "NoHouse"))] ++ [D.bl (decide (c = "Unlike")), D.bl (decide (c = "NoText")), D.bl (decide (c = "NoCommand")), D.bl (decide (c = "NoClosure"))] ++ [D.bl (decide (c = "Taken")), D.bl (decide (c = "InUse")), D.bl (decide (c = "Nothing")), D.bl (decide (c = "Noticed"))] ++ [D.bl (decide (c = "TooMany"))]) ++ [D.bl (decide (c = "NoCell"))] ++ List.drop (Int.toNat 12) ([D.bl (decide (c = "NoBase")), D.bl (decide (c = "NoName")), D.bl (decide (c = "NoNumber")), D.bl (decide (c = "NoBody"))] ++ [D.bl (decide (c = "NoCapture")), D.bl (decide (c = "NoCall")), D.bl (decide (c = "NoPlan")), D.bl (decide (c = "NoHouse"))] ++ [D.bl (decide (c = "Unlike")), D.bl (decide (c = "NoText")), D.bl (decide (c = "NoCommand")), D.bl (decide (c = "NoClosure"))] ++ [D.bl (decide (c = "Taken")), D.bl (decide (c = "InUse")), D.bl (decide (c = "Nothing")), D.bl (decide (c = "Noticed"))] ++ [D.bl (decide (c = "TooMany"))]))) = g6 at w6 m6 v6 r6 ⊢
  clear w5 m5 v5 r5
  simp only [isi_c m6 (oa_ValueError c hc), isi_c m6 (oa_KeyError c hc), isi_c m6 (oa_LookupError c hc)]
  refine ⟨sz (by simp), ?_⟩
  have m7 : (g6 ++ [O.lst [D.bl (a_ValueError c), .bl (a_KeyError c), .bl (a_LookupError c)]])[m]? = some (.exn c fs) := at_app m6
  simp only [isi_c m7 (oa_RuntimeError c hc), isi_c m7 (oa_OverflowError c hc)]
  refine ⟨sz (by simp), addN (at_app at_new) at_new (by simp) fun j8 g8 w8 q8 b8 => ?_⟩
  have r8 : Gro g6 g8 := ((Gro.app _ _).trans (.app _ _)).trans q8
  clear q8 b8 m7
  have w9 := r8.at w6
  have v9 := r8.at v6
  have w8' : g8[j8]? = some (.lst ((abW c).map .bl)) := w8
  rw [S_if]
  simp only [P_test, P_bin, P_bm, P_var, P_cons, P_nil, P_C, List.getElem?_cons_zero, List.getElem?_cons_succ]
  refine ⟨tyB_l w9, ?_⟩
  rw [V_count w9 (by show 18 ≤ 50; omega), cntW c hc]
  simp only [V_neI]
  rw [if_neg (by decide), S_nil]
  simp only [List.getElem?_cons_zero, List.getElem?_cons_succ]
  refine ⟨tyB_l w9, ?_⟩
  rw [V_index w9 (by show 18 ≤ 50; omega) (ixW c hc)]
  simp only [List.set_cons_succ, List.set_cons_zero, P_tup, P_cons, P_nil, P_C, P_call, P_bin, P_var, P_join, List.getElem?_cons_zero, List.getElem?_cons_succ, V_gt, V_intB, V_add]
  refine ⟨sz (by simp), ?_⟩
  have d1 : atI [D.str "10000", .str "01100", .str "00010", .str "00001"] (((if decide ((10 : Int) < (jW c : Int)) = true then (1 : Int) else 0) + (if decide ((12 : Int) < (jW c : Int)) = true then (1 : Int) else 0)) + (if decide ((16 : Int) < (jW c : Int)) = true then (1 : Int) else 0)) = some (.str (shW c)) := atI_map (dueW c hc)
  rw [V_ixT, d1]
  dsimp only
  refine ⟨rfl, ?_⟩
  refine lc_pure ((abW c).map .bl) [(j8, (abW c).map .bl)] (fun d => match d with | .bl b => .str (bt b) | d => d) (fun _ => true) ?_ (fun g' q => wok1 (q.at w8')) (sz (by show 5 ≤ 1000; omega)) (fun x hm g' q => ?_) fun g9 q9 e9 => ?_
  · simp only [P_src, P_var, List.getElem?_cons_zero, List.getElem?_cons_succ, srcL w8']
    exact ⟨trivial, trivial⟩
  · obtain ⟨b, _, rfl⟩ := List.mem_map.mp hm
    refine ⟨_, rfl, ?_⟩
    rw [P_yes]
    refine ⟨rfl, .refl _, fun _ => ?_⟩
    simp only [P_call, P_cons, P_nil, P_var]
    show (oInt [D.bl b] g').P _
    rw [V_intB, V_strA str_of01]
    exact ⟨rfl, .refl _⟩
  · have e10 : g9[g8.length]? = some (.lst (((abW c).map bt).map .str)) := e9
    have one : ∀ b, (bt b).length = 1 := by intro b; cases b <;> rfl
    rw [V_join e10]
    have e0 : (Str.ofString "").length = 0 := rfl
    refine ⟨by simp [abW, one, e0], ?_⟩
    simp only [P_ifE, P_test, P_bin, P_var, List.getElem?_cons_zero, List.getElem?_cons_succ, V_eqS, V_ixL (q9.at v9)]
    rw [if_pos (by exact decide_eq_true rfl), show atI _ _ = some (D.str c) from atI_map (wdW c hc)]
    exact ⟨rfl, r6.trans (r8.trans q9)⟩
end Fc

set_option Elab.async false
set_option linter.all false
set_option maxRecDepth 100000
set_option maxHeartbeats 4000000
/-! I1g: k01: the law. -/
namespace Fc
open PySem PySem.Spec PySem.Calls PyProof.Rows L2
/-- an exception of the class c -/
def Mw (c : Str) (x : D) (g : G) : Prop := ∃ i fs, x = .ref i ∧ g[i]? = some (.exn c fs)
theorem Mw.gro {c : Str} {x : D} {g g' : G} (h : Mw c x g) (e : Gro g g') : Mw c x g' := by
  obtain ⟨i, fs, h1, h2⟩ := h
  exact ⟨i, fs, h1, e.at h2⟩
section
variable {φ : Fun2} {c f : Str} {d : D} {g : G} {t : Str} {Q : D → G → Prop}
theorem mwP (h : XmP φ c f) (k : ∀ x g', Mw c x g' → Gro g g' → Q x g') : (φ [d] [] g).P Q := h d g Q (k _ _ ⟨_, _, rfl, at_new⟩ (.app _ _))
theorem mwT (h : XmT φ c f) (hT : TmOk d g t) (k : ∀ x g', Mw c x g' → Gro g g' → Q x g') : (φ [d] [] g).P Q := h d g t Q hT (k _ _ ⟨_, _, rfl, at_new⟩ (.app _ _))
theorem mwY {ρ : Ev} (k : ∀ x g', Mw c x g' → Gro g g' → Q x g') : (fMakeY c ρ g).P Q := k _ _ ⟨_, _, rfl, at_new⟩ (.app _ _)
end
/-- the name of an exception's class -/
def nmD (g : G) (x : D) : D := match exnD x g with
  | some (c, _) => .str c
  | none => .non
theorem Mw.nm {c : Str} {x : D} {g : G} (h : Mw c x g) : nmD g x = .str c := by
  obtain ⟨i, fs, rfl, h2⟩ := h
  unfold nmD
  rw [exnD_at h2]
structure LawP (F : Ph) : Prop where
  bag : BgC F
  any : AnyC F
  nr : NrC F
  wd : WdC F
  x1 : XmP F.x_NoBase_1 "NoBase" "base"
  x2 : XmP F.x_NoName_1 "NoName" "name"
  x3 : XmP F.x_NoNumber_1 "NoNumber" "number"
  x4 : XmT F.x_NoCapture_1 "NoCapture" "at"
  x5 : XmT F.x_NoCall_1 "NoCall" "at"
  x6 : XmT F.x_NoText_1 "NoText" "at"
  x7 : XmP F.x_NoClosure_1 "NoClosure" "name"
  x8 : XmP F.x_NoCell_1 "NoCell" "name"
  x9 : XmP F.x_Taken_1 "Taken" "name"
  x10 : XmP F.x_InUse_1 "InUse" "name"
  x11 : XmP F.x_Noticed_1 "Noticed" "history"
theorem lawP_up {F : Ph} : LawP F.up.up.up := ⟨bag_up, any_up tk_up, nr_up, word_up, xm_NoBase, xm_NoName, xm_NoNumber, xm_NoCapture, xm_NoCall, xm_NoText, xm_NoClosure, xm_NoCell, xm_Taken, xm_InUse, xm_Noticed⟩
theorem lawp (n : Nat) : LawP (ph (n + 3)) := lawP_up
theorem law_law {F : Ph} (P : LawP F) {g : G} {ns : List Int} (h0 : g[0]? = some (.frz (ns.map .int))) : (runB (dn_law F) (ini 7 [.ref 0]) g).P fun d _ => d = .bl true := by
  refine P_runB ?_
  unfold dn_law
  rw [show ini 7 [D.ref 0] = [some (.ref 0), none, none, none, none, none, none] from rfl]
  rw [S_seq, S_for]
  simp only [P_rng1, P_call, P_cons, P_nil, P_C, P_var, List.getElem?_cons_zero, V_lenF h0]
  have e1 : ∀ {i j : Int} {g : G} {Q : D → G → Prop}, (oMin2 [.int i, .int j] g).P Q = Q (.int (if j < i then j else i)) g := rfl
  have e2 : ∀ {i j : Int} {g : G} {Q : D → G → Prop}, (oMax2 [.int i, .int j] g).P Q = Q (.int (if j > i then j else i)) g := rfl
  simp only [e1, e2]
  generalize hc : (if ((if ((ns.map D.int).length : Int) < 12 then ((ns.map D.int).length : Int) else 12) : Int) > 2 then ((if ((ns.map D.int).length : Int) < 12 then ((ns.map D.int).length : Int) else 12) : Int) else 2) = c
  have c0 : 0 ≤ c ∧ c ≤ 12 := by
    rw [← hc]
    split <;> split <;> omega
  refine ⟨⟨by omega, by omega⟩, ?_⟩
  refine S_run (rngD 0 c.toNat) (fun _ ρ g' => g'[0]? = some (.frz (ns.map .int)) ∧ ∃ x1 x2 x3 x4 x5 x6, ρ = [some (.ref 0), x1, x2, x3, x4, x5, x6]) ⟨h0, _, _, _, _, _, _, rfl⟩ ?_ ?_
  · rintro i d ρ g' hd ⟨hg, x1, x2, x3, x4, x5, x6, rfl⟩
    obtain ⟨hi, rfl⟩ := rng_get hd
    refine ⟨rfl, _, rfl, ?_⟩
    clear h0 hd hc
    generalize hk : (0 : Int) + (i : Int) = k
    have k0 : 0 ≤ k ∧ k < 100 := by omega
    clear hk
    rw [S_seq]
    simp only [S_set, P_callF, P_cons, P_nil, P_var, List.set_cons_succ, List.set_cons_zero, List.getElem?_cons_zero, List.getElem?_cons_succ]
    refine (P.bag g' ns 0 k hg k0.1 k0.2).mono fun m g1 ⟨em, bg, q1⟩ => ?_
    subst em
    have hlt := lt_at hg
    simp only [S_seq, S_set, P_callF, P_cons, P_nil, P_lst, P_var, List.set_cons_succ, List.set_cons_zero, List.getElem?_cons_zero, List.getElem?_cons_succ]
    refine ⟨sz (by simp), (P.any (g1 ++ [O.lst []]) g'.length 0 g1.length bg.app (by decide) at_new (by have := bg.lt; omega)).mono fun d g2 ⟨⟨t, hT⟩, bg2, ev⟩ => ?_⟩
    have q2 : g2[0]? = some (.frz (ns.map .int)) := ev.at (by omega) (at_app (q1.at hg))
    clear bg bg2 ev q1
    simp only [S_if, S_nil, P_notT, P_test, P_callF, P_cons, P_nil, P_var, List.getElem?_cons_zero, List.getElem?_cons_succ]
    refine (P.nr d g2 t hT).mono fun v g3 ⟨ev, q3⟩ => ?_
    subst ev
    dsimp only
    rw [if_neg (by decide)]
    have q4 := q3.at q2
    have hT := hT.gro q3
    clear q2 q3
    simp only [P_lst, P_mkA, P_cons, P_nil, P_C, P_bin, P_var, S_drop, P_append, List.set_cons_succ, List.set_cons_zero, List.getElem?_cons_zero, List.getElem?_cons_succ]
    refine mwP P.x1 fun y1 a1 u1 p1 => mwP P.x2 fun y2 a2 u2 p2 => mwP P.x3 fun y3 a3 u3 p3 => mwY fun y4 a4 u4 p4 => ?_
    have s4 : Gro g3 a4 := p1.trans (p2.trans (p3.trans p4))
    refine mwT P.x4 (hT.gro s4) fun y5 a5 u5 p5 => mwT P.x5 (hT.gro (s4.trans p5)) fun y6 a6 u6 p6 => mwY fun y7 a7 u7 p7 => ⟨sz (by simp), ?_⟩
    have s7 : Gro g3 a7 := s4.trans (p5.trans (p6.trans p7))
    refine mwY fun y8 a8 u8 p8 => mwY fun y9 a9 u9 p9 => mwT P.x6 (hT.gro (s7.trans ((Gro.app _ _).trans (p8.trans p9)))) fun y10 a10 u10 p10 => mwY fun y11 a11 u11 p11 => mwP P.x7 fun y12 a12 u12 p12 => mwP P.x8 fun y13 a13 u13 p13 => ⟨sz (by simp), ?_⟩
    have t13 := p8.trans (p9.trans (p10.trans (p11.trans (p12.trans p13))))
    refine addN (at_app (t13.at at_new)) at_new (by simp) fun j2 b2 w2 q2 _ => ?_
    have s13 : Gro a13 b2 := (Gro.app _ _).trans q2
    refine mwP P.x9 fun y14 a14 u14 p14 => mwP P.x10 fun y15 a15 u15 p15 => ⟨sz (by simp), addN (at_app ((p14.trans p15).at w2)) at_new (by simp) fun j3 b3 w3 q3 _ => ⟨sz (by simp), sz (by simp), addN (at_app at_new) at_new (by simp) fun j4 b4 w4 q5 L4 => ?_⟩⟩
    have s15 : Gro a15 b3 := (Gro.app _ _).trans q3
    have t3 : Gro b3 b4 := ((Gro.app _ _).trans (.app _ _)).trans q5
    have lj : b3.length ≤ j4 := Nat.le_trans ((Gro.app b3 _).trans (Gro.app _ _)).len L4
    refine ⟨tyB_l w4, ?_⟩
    rw [V_append w4]
    refine ⟨sz (by simp), ?_⟩
    have w5 := at_set w4 (o' := O.lst (wds.map .str))
    have gE : Gro b3 (b4.set j4 (O.lst (wds.map .str))) := t3.set lj _
    change (fLc _ _ _ _ _ _ (b4.set j4 (O.lst (wds.map .str)))).P _
    generalize b4.set j4 (O.lst (wds.map .str)) = g5 at w5 gE ⊢
    clear w4 q5 L4 t3 lj
    refine lc_it ?_
    simp only [P_src, P_bin, P_lst, P_mkA, P_cons, P_nil, P_var, List.getElem?_cons_zero, List.getElem?_cons_succ]
    refine mwY fun y16 a16 u16 p16 => mwP P.x11 fun y17 a17 u17 p17 => mwY fun y18 a18 u18 p18 => ⟨sz (by simp), addN (at_app ((p16.trans (p17.trans p18)).at (gE.at w3))) at_new (by simp) fun j6 g6 w6 q6 _ => ?_⟩
    have r18 : Gro a18 g6 := (Gro.app _ _).trans q6
    have r5 : Gro g5 g6 := p16.trans (p17.trans (p18.trans r18))
    have r3 : Gro b3 g6 := gE.trans r5
    have r15 : Gro a15 g6 := s15.trans r3
    have r2 : Gro b2 g6 := p14.trans (p15.trans r15)
    have r13 : Gro a13 g6 := s13.trans r2
    have r7 : Gro a7 g6 := (Gro.app _ _).trans (t13.trans r13)
    have r6 : Gro a6 g6 := p7.trans r7
    have rr5 : Gro a5 g6 := p6.trans r6
    have r4 : Gro a4 g6 := p5.trans rr5
    have rr3 : Gro a3 g6 := p4.trans r4
    have rr2 : Gro a2 g6 := p3.trans rr3
    have rr1 : Gro a1 g6 := p2.trans rr2
    have r12 : Gro a12 g6 := p13.trans r13
    have r11 : Gro a11 g6 := p12.trans r12
    have r10 : Gro a10 g6 := p11.trans r11
    have r9 : Gro a9 g6 := p10.trans r10
    have r8 : Gro a8 g6 := p9.trans r9
    have r14 : Gro a14 g6 := p15.trans r15
    have r17 : Gro a17 g6 := p18.trans r18
    have r16 : Gro a16 g6 := p17.trans r17
    have hx : ∀ x ∈ ([y1, y2, y3, y4, y5, y6, y7] ++ [y8, y9, y10, y11, y12, y13] ++ [y14, y15] ++ [y16, y17, y18]), ∃ c ∈ xcs, Mw c x g6 := by
      intro x hx
      simp only [List.cons_append, List.nil_append, List.mem_cons, List.not_mem_nil, or_false] at hx
      rcases hx with rfl | rfl | rfl | rfl | rfl | rfl | rfl | rfl | rfl | rfl | rfl | rfl | rfl | rfl | rfl | rfl | rfl | rfl
      · exact ⟨"NoBase", by decide, u1.gro rr1⟩
      · exact ⟨"NoName", by decide, u2.gro rr2⟩
      · exact ⟨"NoNumber", by decide, u3.gro rr3⟩
      · exact ⟨"NoBody", by decide, u4.gro r4⟩
      · exact ⟨"NoCapture", by decide, u5.gro rr5⟩
      · exact ⟨"NoCall", by decide, u6.gro r6⟩
      · exact ⟨"NoPlan", by decide, u7.gro r7⟩
      · exact ⟨"NoHouse", by decide, u8.gro r8⟩
      · exact ⟨"Unlike", by decide, u9.gro r9⟩
      · exact ⟨"NoText", by decide, u10.gro r10⟩
      · exact ⟨"NoCommand", by decide, u11.gro r11⟩
      · exact ⟨"NoClosure", by decide, u12.gro r12⟩
      · exact ⟨"NoCell", by decide, u13.gro r13⟩
      · exact ⟨"Taken", by decide, u14.gro r14⟩
      · exact ⟨"InUse", by decide, u15.gro r15⟩
      · exact ⟨"Nothing", by decide, u16.gro r16⟩
      · exact ⟨"Noticed", by decide, u17.gro r17⟩
      · exact ⟨"TooMany", by decide, u18.gro r18⟩
    have hn : ([y1, y2, y3, y4, y5, y6, y7] ++ [y8, y9, y10, y11, y12, y13] ++ [y14, y15] ++ [y16, y17, y18]).map (nmD g6) = wds.map .str := by
      simp only [List.cons_append, List.nil_append, List.map_cons, List.map_nil, (u1.gro rr1).nm, (u2.gro rr2).nm, (u3.gro rr3).nm, (u4.gro r4).nm, (u5.gro rr5).nm, (u6.gro r6).nm, (u7.gro r7).nm, (u8.gro r8).nm, (u9.gro r9).nm, (u10.gro r10).nm, (u11.gro r11).nm, (u12.gro r12).nm, (u13.gro r13).nm, (u14.gro r14).nm, (u15.gro r15).nm, (u16.gro r16).nm, (u17.gro r17).nm, (u18.gro r18).nm]
      rfl
    have hz : ([y1, y2, y3, y4, y5, y6, y7] ++ [y8, y9, y10, y11, y12, y13] ++ [y14, y15] ++ [y16, y17, y18]).length = 18 := rfl
    have q0 : g6[0]? = some (.frz (ns.map .int)) := (p1.trans rr1).at q4
    have w7 := r5.at w5
    rw [srcL w6]
    dsimp only
    generalize [y1, y2, y3, y4, y5, y6, y7] ++ [y8, y9, y10, y11, y12, y13] ++ [y14, y15] ++ [y16, y17, y18] = xs at w6 hx hn hz ⊢
    clear u1 u2 u3 u4 u5 u6 u7 u8 u9 u10 u11 u12 u13 u14 u15 u16 u17 u18
    refine lc_pure xs [(j6, xs)] (nmD g6) (fun _ => true) ⟨rfl, rfl⟩ (fun g' q => wok1 (q.at w6)) (sz (by omega)) (fun x hm g' q => ?_) fun g9 q9 e9 => ?_
    · obtain ⟨c, hc, u⟩ := hx x hm
      obtain ⟨i, fs, rfl, h2⟩ := u
      refine ⟨_, rfl, ?_⟩
      rw [P_yes]
      refine ⟨rfl, .refl _, fun _ => ?_⟩
      simp only [P_callF, P_cons, P_nil, P_var]
      show (F.f_v_law_word_1 [D.ref i] [] g').P _
      refine (P.wd g' i c fs (q.at h2) hc).mono fun v g2 ⟨ev, hg2⟩ => ⟨?_, hg2⟩
      rw [ev, (show Mw c (.ref i) g6 from ⟨i, fs, rfl, h2⟩).nm]
    · have e10 : g9[g6.length]? = some (.lst (wds.map .str)) := by
        rw [e9, List.filter_eq_self.mpr (fun _ _ => rfl), hn]
      rw [(V_eqStrs (ss := wds) e10 (q9.at w7) (by decide) (by decide) (by decide +kernel)).2]
      dsimp only
      rw [if_neg (by decide)]
      exact ⟨q9.at q0, _, _, _, _, _, _, rfl⟩
  · rintro ρ g' ⟨hg, x1, x2, x3, x4, x5, x6, rfl⟩
    refine ⟨rfl, ?_⟩
    simp only [S_ret, P_C]
end Fc

set_option Elab.async false
set_option linter.all false
set_option maxRecDepth 100000
set_option maxHeartbeats 4000000
namespace Fc
open PySem PySem.Spec PySem.Calls PyProof.Rows L2
/-- what the law's run is asked -/
def spL : Sp := fun vs H Q _ => ∃ (a : Addr) (ns : List Int), vs = [.ref a] ∧ (∃ o, H a = some (.frz o (.lst (ns.map V.int)))) ∧ ∀ H', Q (.bl true) H'
theorem spl_sp0 {w : World} {K : PySem.W.Frag} {mg : Str → Option Value} {φ : Fun1} (h : ∀ (g : G) (ns : List Int), g[0]? = some (.frz (ns.map .int)) → (φ [.ref 0] g).P fun d _ => d = .bl true) : ∀ vs H Q E, spL vs H Q E → spF w K mg 1 φ vs H Q E := by
  rintro vs H Q E ⟨a, ns, rfl, ⟨o, ho⟩, q⟩
  refine ⟨rfl, fun _ => a, [.frz (ns.map D.int)], [.ref 0], rep0 ho, .cons (.ref (ι := fun _ => a) (m := 0) (by simp)) .nil, ?_⟩
  have z := h [.frz (ns.map D.int)] ns rfl
  obtain ⟨d, g', e, rfl⟩ := z.to
  rw [e]
  intro ι' H' v y r
  cases r
  exact q H'
theorem law_up (n : Nat) {g : G} {ns : List Int} (h0 : g[0]? = some (.frz (ns.map .int))) : (runB (dn_law (ph (n + 3))) (ini 7 [.ref 0]) g).P fun d _ => d = .bl true := law_law (lawp n) h0
theorem wk {l : PySem.W.OpenLaw} {q : Program} {loose : List Str} {XP : (Str → Option Value) → Heap → Prop} {d : DefRec} (hn : l.most = some 63) (hdf : d.params.defaults = []) (hnm : d.name = "law") :
    PySem.W.WalkO q loose XP (hookH 4 hdF hdV).says l.row.toRowW d [] (fun f vs => PySem.call f vs) := by
  refine walk_ofH (n := 63) (k := 4) (x := "_law_script") (CX := fun w => L2.CX l.prog w) hn (by decide) hdf ⟨rfl, by decide, by decide⟩ ?_ ?_
  · intro w mg fa h Y G hmg
    obtain ⟨K, X, T, nl⟩ := hd_fx G Y
    obtain ⟨f, fd, hm, FD⟩ := T.d_law
    rw [hnm, hm] at hmg
    cases hmg
    refine ⟨K, fd, spL, X, fun s u => ?_, fun H a ns hl hO hS => ⟨a, ns, rfl, frz_of nl hO hS, fun _ => rfl⟩, fun base KB GB => ?_⟩
    · exact FD.bindsA (ps := ["_law_script"]) (fun kV doc pm an cdv ct us hl => match us, hl with | [_], _ => rfl) s [u] rfl
    · exact (fun_ok FD sc_law (fun cdv A outer s H E hr => b_law T (bun T 3) _ cdv A outer s H E hr)).imp (spl_sp0 fun g ns h => law_up 0 h)
  · intro w H s e s' h
    obtain ⟨_, _, _, _, _, _, _, _, _, _, _, _, z⟩ := h
    exact z
end Fc

set_option Elab.async false
open PySem PySem.W PyProof.Rows in
set_option maxRecDepth 100000 in
set_option maxHeartbeats 0 in
theorem PySem.Challenge.cw_finestcells_k01_errors_made_holds : PySem.Challenge.rw_finestcells_k01_errors_made.Holds := by
  w_on; o_law
  refine HandSHeadRun.head_any (r := PySem.W.OpenLaw.row PySem.Challenge.rw_finestcells_k01_errors_made) (q := Fc.hdQ) (H := Fc.hookH 4 Fc.hdF Fc.hdV) (ob := fun s => Fc.obsH 4 Fc.hdF (HandSHeadRun.getT s)) (M := 7000) (loose := Fc.hdN) (kwd := []) (fun s => Fc.obsH_eq s) (by kernel_rfl) (fun s => by kernel_rfl) Fc.hd_run
    (by rfl) (by rfl) (by rfl) (by rfl) (by first | assumption | decide +kernel) (by decide +kernel) ⟨rfl, rfl, rfl, rfl, rfl, by decide +kernel⟩ ?hw ?hc
  case hw => w_witness2
  case hc => exact Fc.wk (l := PySem.Challenge.rw_finestcells_k01_errors_made) rfl rfl rfl

