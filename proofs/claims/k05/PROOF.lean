import PyProof.Rows.All
import Wide.All
import OpenK.AllK
import Wide.FinOn
import HandS.Base
import HandS.Call
import HandS.List
import HandS.Comp
import HandS.Dict
import HandS.Iter
import HandS.Exc
import HandS.TryOnly
import KE.KeyNested
import KE.KLam
import HandS.Wide
import HandS.Words
import HandS.TupAny
import HandS.Style
import HandS.SortRule
import HandS.SortInts
import HandS.IsInst
import KE.KUnpack
import HandS.Defaults
import HandS.CallSlots
import HandS.Star
import HandS.Property
import KE.KDictPairs
import HandS.Small
import KE.KStateDown
import KE.KSuper
import HandS.Head0
import HandS.Head1
import HandS.Head2
import HandS.HeadEnd
import HandS.HeadHook1
import HandS.HeadHook2
import PyProof.Rows.MatchSeqLen
import HandS.ClsMeth
import HandS.OwnEq
import KE.GoesNew
import HandS.Set
import HandS.Strs
import HandS.SetFor
import HandS.Remove
import HandS.TupMul
import PyProof.NeKinds
import KE.KExcSuper
import KE.KExcInit
import HandS.ExcField
import HandS.TryMany
import HandS.WordsExc
import HandS.Ends
import PyProof.ReprRoads
import PyProof.Rows.NestShow
import PyProof.ListCopy
import HandS.Deep
import KE.KItemsList
import HandS.GenOver
import HandS.More
import KE.KRevSl
import KE.KExcIs
import HandS.SetBool
import HandS.RevRange
import HandS.Zip
import HandS.DictComp
import KE.GoesMore
import HandS.FStr
import HandS.MapJoin
import PyProof.SumWalkG
import PyProof.ListOps
import HandS.TupSets
import PyProof.FactsAll.set_2
import KE.DataMinMax
import KE.DataFind
import HandS.HotCalls
import HandS.SortKw
import HandS.GenYield
import HandS.GenList
import PyProof.DictRoadsH
import KE.KDictDisplayH
import HandS.ExcOwn
import PyProof.InstNe
import KE.LtData
import KE.KDictSum
import HandS.Lambda
import KE.KDictZip
import HandS.HeadHook4
import KE.DataCmp
import HandS.ExcValue
import PySem.Challenge.RW_heapeffects_k05_classes_of_errors
set_option Elab.async false
set_option linter.all false
set_option maxRecDepth 100000
set_option maxHeartbeats 0
namespace DL
open PySem L2 PyProof.Rows PySem.Spec
inductive D where
  | non | bl (b : Bool) | int (i : Int) | str (x : Str)
  | tup (xs : List D) | itm (xs : List D) | lst (xs : List D) | fzl (xs : List D)
  | ref (l : Nat) | glo (x : Str) | ty (n : String)
  | inst (c : Str) (fs : List (Str × D))
  | dcv (kvs : List (Key × D))

end DL
namespace DL
open PySem L2 PyProof.Rows PySem.Spec
inductive NK where
  | num (i : Int) | tup (ks : List NK)
end DL
namespace DL
open PySem L2 PyProof.Rows PySem.Spec
def gadr (K : PySem.W.Frag) (x : Str) : Addr := match PySem.W.nsIn K mainGlobals x with
  | some (some (.ref a)) => a
  | _ => 0

end DL
namespace DL
open PySem L2 PyProof.Rows PySem.Spec
def LMAK : Str := "normalizing_exchanges"
end DL
namespace DL
open PySem L2 PyProof.Rows PySem.Spec
def tabsOf (K : PySem.W.Frag) : List Addr := match PySem.W.tabIn K LMAK with
  | some (_, P) => [P]
  | none => []
end DL
namespace DL
open PySem L2 PyProof.Rows PySem.Spec
mutual
def cstB (K : PySem.W.Frag) : D → Value → Bool
  | .non, .none => true
  | .bl b, .bool c => b == c
  | .int i, .int k _ => decide (i = k)
  | .str x, .str z _ => decide (x = z)
  | .tup ds, .ref a => match K.lookup a with
    | some ⟨.type t, none, .seq its _, _⟩ => decide (t = "tuple") && (decide (its.size ≤ sizeLine) && cstsB K ds its.toList)
    | _ => false
  | _, _ => false
def cstsB (K : PySem.W.Frag) : List D → List Value → Bool
  | [], [] => true
  | d :: ds, v :: vs => cstB K d v && cstsB K ds vs
  | _, _ => false
end
end DL
namespace DL
open PySem L2 PyProof.Rows PySem.Spec
structure FdX where
  adr : PySem.W.Frag → Addr
  name : Str
  qual : Str
  st : Stmt
  dfl : List He.Dv := []
  kwd : List (Str × He.Dv) := []
  cl : Option (Str × Str) := none
end DL
namespace DL
open PySem L2 PyProof.Rows PySem.Spec
def clB (K : PySem.W.Frag) (q : Str × Str) (g : FuncData) : Bool := (match g.closure with
  | [(n, cc)] => decide (n = "__class__") && (match K.lookup cc with
    | some ⟨_, _, .cell (some (.ref a)), _⟩ => decide (a = gadr K q.1)
    | _ => false)
  | _ => false) && (match g.code with
  | .ref ad => (match K.lookup ad with
    | some ⟨_, _, .fields vs, _⟩ => (match (vs[2]? : Option Value) with
      | some (Value.str s _) => decide (s = q.2)
      | _ => false)
    | _ => false)
  | _ => false)
end DL
namespace DL
open PySem L2 PyProof.Rows PySem.Spec
def FdX.dv (d : FdX) : He.DefD := ⟨("", none), d.name, d.qual, defArgs d.st, defBody d.st, defScope d.st, d.dfl, d.kwd⟩
end DL
namespace DL
open PySem L2 PyProof.Rows PySem.Spec
def fnX (K : PySem.W.Frag) (d : FdX) : He.FnW := match K.lookup (d.adr K) with
  | some ⟨_, _, .func g, _⟩ => some (g.name, g.qualname, g.params, g.body, g.scope, g.globals, (match d.cl with
    | none => g.closure
    | some _ => []), g.builtins)
  | _ => none
end DL
namespace DL
open PySem L2 PyProof.Rows PySem.Spec
def FdX.ok (K : PySem.W.Frag) (d : FdX) : Bool := match K.lookup (d.adr K) with
  | some ⟨_, _, .func g, _⟩ => PySem.W.keepIn K (.ref (d.adr K)) && (PySem.W.codeIn K g.code d.qual && (He.dflB K g.defaults (d.dv.dvs K) && (He.kwdB K g.kwdefaults (d.dv.kws K) && (match d.cl with
    | none => true
    | some q => clB K q g))))
  | _ => false
end DL
namespace DL
open PySem L2 PyProof.Rows PySem.Spec
abbrev Ft := PySem.W.Frag → Bool
end DL
namespace DL
open PySem L2 PyProof.Rows PySem.Spec
def obsF (ft : List Ft) (fn : List FdX) (K : PySem.W.Frag) : He.AlD := ((ft.all fun f => f K) && fn.all fun d => d.ok K, fn.map fun d => fnX K d)
end DL
namespace DL
open PySem L2 PyProof.Rows PySem.Spec
def valF (fn : List FdX) : He.AlD := (true, fn.map fun d => d.dv.val)
end DL
namespace DL
open PySem L2 PyProof.Rows PySem.Spec
def Says (ft : List Ft) (fn : List FdX) (K : PySem.W.Frag) : Prop := obsF ft fn K = valF fn
end DL
namespace DL
open PySem L2 PyProof.Rows PySem.Spec
def obsFG (n : Nat) (ft : List Ft) (fn : List FdX) (g : Addr → Option Obj) : He.AlD := obsF ft fn (He.frG g (He.asD g n ++ [cStatics]))
end DL
namespace DL
open PySem L2 PyProof.Rows PySem.Spec
def hookF (n : Nat) (ft : List Ft) (fn : List FdX) : PySem.W.Hook where
  α := He.AlD
  obs := fun s => obsFG n ft fn s.heap.get?
  val := fun _ => valF fn
  says := fun _ h => ∃ K : PySem.W.Frag, K.In h ∧ Says ft fn K
  of := fun _ s e => ⟨He.frG s.heap.get? (He.asD s.heap.get? n ++ [cStatics]), He.frG_in, e⟩
  keeps := fun _ _ _ y k => y.elim fun K z => ⟨K, PySem.W.Frag.In.keeps z.1 k, z.2⟩
end DL
namespace DL
open PySem L2 PyProof.Rows PySem.Spec
def obsFL (as : List Addr) (ft : List Ft) (fn : List FdX) (g : Addr → Option Obj) : He.AlD := obsF ft fn (He.frG g as)
def hookL (as : List Addr) (ft : List Ft) (fn : List FdX) : PySem.W.Hook where
  α := He.AlD
  obs := fun z => obsFL as ft fn z.heap.get?
  val := fun _ => valF fn
  says := fun _ h => ∃ K : PySem.W.Frag, K.In h ∧ Says ft fn K
  of := fun _ z e => ⟨He.frG z.heap.get? as, He.frG_in, e⟩
  keeps := fun _ _ _ y k => y.elim fun K z => ⟨K, PySem.W.Frag.In.keeps z.1 k, z.2⟩
theorem obsFL_eq {as : List Addr} {ft : List Ft} {fn : List FdX} {g : Addr → Option Obj} {z : Shared} (h : ∀ a, g a = z.heap.get? a) : obsFL as ft fn g = (hookL as ft fn).obs z := by
  have e : g = z.heap.get? := funext fun a => h a
  subst e
  rfl
theorem obsFG_eq {n : Nat} {ft : List Ft} {fn : List FdX} {g : Addr → Option Obj} {s : Shared} (h : ∀ a, g a = s.heap.get? a) : obsFG n ft fn g = (hookF n ft fn).obs s := by
  have e : g = s.heap.get? := funext fun a => h a
  subst e
  rfl
end DL
namespace DL
open PySem L2 PyProof.Rows PySem.Spec
def tGlo (x : Str) : Ft := fun K => decide (PySem.W.nsIn K mainGlobals x = some (some (.ref (gadr K x))))
end DL
namespace DL
open PySem L2 PyProof.Rows PySem.Spec
def tFree (x : Str) : Ft := fun K => decide (PySem.W.nsIn K mainGlobals x = some none)
end DL
namespace DL
open PySem L2 PyProof.Rows PySem.Spec
end DL
namespace DL
open PySem L2 PyProof.Rows PySem.Spec
end DL
namespace DL
open PySem L2 PyProof.Rows PySem.Spec
end DL
namespace DL
open PySem L2 PyProof.Rows PySem.Spec
def cadr (K : PySem.W.Frag) (x m : Str) : Addr := match PySem.W.findIn K (.ref (gadr K x)) m with
  | some (some (.ref a)) => a
  | _ => 0
end DL
namespace DL
open PySem L2 PyProof.Rows PySem.Spec
end DL
namespace DL
open PySem L2 PyProof.Rows PySem.Spec
end DL
namespace DL
open PySem L2 PyProof.Rows PySem.Spec
end DL
namespace DL
open PySem L2 PyProof.Rows PySem.Spec
end DL
namespace DL
open PySem L2 PyProof.Rows PySem.Spec
def wadr (K : PySem.W.Frag) (x m : Str) (t : String) : Addr := match PySem.W.recIn K (cadr K x m) t with
  | some (.ref g :: _) => g
  | _ => 0
end DL
namespace DL
open PySem L2 PyProof.Rows PySem.Spec
end DL
namespace DL
open PySem L2 PyProof.Rows PySem.Spec
def builtinTs : List String := ["NoneType", "bool", "int", "str", "tuple", "list", "dict"]
end DL
namespace DL
open PySem L2 PyProof.Rows PySem.Spec
end DL
namespace DL
open PySem L2 PyProof.Rows PySem.Spec
end DL
namespace DL
open PySem L2 PyProof.Rows PySem.Spec
end DL
namespace DX
open PySem PySem.W PySem.Calls PyProof.Rows PySem.HandSPX
structure Bx where
  B : String
  ne : String
  ini : String
  bm : List Value
end DX
namespace DX
open PySem PySem.W PySem.Calls PyProof.Rows PySem.HandSPX
def bVE : Bx := ⟨"ValueError", "ValueError.__new__", "ValueError.__init__", [.type "ValueError", .type "Exception", .type "BaseException", .type "object"]⟩
end DX
namespace DX
open PySem PySem.W PySem.Calls PyProof.Rows PySem.HandSPX
def bLE : Bx := ⟨"LookupError", "LookupError.__new__", "LookupError.__init__", [.type "LookupError", .type "Exception", .type "BaseException", .type "object"]⟩
end DX
namespace DX
open PySem PySem.W PySem.Calls PyProof.Rows PySem.HandSPX
def bIE : Bx := ⟨"IndexError", "IndexError.__new__", "IndexError.__init__", [.type "IndexError", .type "LookupError", .type "Exception", .type "BaseException", .type "object"]⟩
end DX
namespace DX
open PySem PySem.W PySem.Calls PyProof.Rows PySem.HandSPX
def bOE : Bx := ⟨"OverflowError", "OverflowError.__new__", "OverflowError.__init__", [.type "OverflowError", .type "ArithmeticError", .type "Exception", .type "BaseException", .type "object"]⟩
end DX
namespace DL
open PySem L2 PyProof.Rows PySem.Spec
end DL
namespace DL
open PySem L2 PyProof.Rows PySem.Spec
def tXf (x f : Str) : Ft := fun K => xfB K (gadr K x) && decide (PySem.W.findIn K (.ref (gadr K x)) f = some none)
end DL
namespace DL
open PySem L2 PyProof.Rows PySem.Spec
def tExc (x f : Str) (b : DX.Bx) : Ft := fun K =>
  let C := gadr K x
  let fI := cadr K x "__init__"
  decide (PySem.W.findIn K (.ref C) "__init__" = some (some (.ref fI))) && (decide (PySem.W.typeIn K (.ref fI) = some (.type "function")) && (PySem.W.keepIn K (.ref C) && (PySem.W.excInitIn K C b.bm b.ne && (PySem.W.excOver K C b.bm &&
  (decide (PySem.W.findIn K (.ref C) "__setattr__" = some (some (.builtin "object.__setattr__"))) && (decide (PySem.W.takerIn K C f = some none) && (PySem.W.hasDictIn K C && (decide (PySem.W.subIn K (.ref C) (.type "BaseException") = some true) && (decide (PySem.W.typeIn K (.ref C) = some (.type "type")) &&
  (decide (PySem.W.subIn K (.ref C) (.type b.B) = some true) && (decide (PySem.W.ks_superIn K C C "__init__" = some (some (.builtin b.ini))) && (decide (PySem.W.mroIn K C (.ref C) = some true) && decide (PySem.W.nsIn K cStatics "thirdparty.any" = some none)))))))))))))
end DL
namespace DL
open PySem L2 PyProof.Rows PySem.Spec
end DL
namespace DL
open PySem L2 PyProof.Rows PySem.Spec
end DL
namespace DL
open PySem L2 PyProof.Rows PySem.Spec
end DL
namespace DL
open PySem L2 PyProof.Rows PySem.Spec
end DL
namespace DL
open PySem L2 PyProof.Rows PySem.Spec
end DL
namespace DL
open PySem L2 PyProof.Rows PySem.Spec
end DL
namespace DL
open PySem L2 PyProof.Rows PySem.Spec
end DL
namespace DL
open PySem L2 PyProof.Rows PySem.Spec
def rteM : List Value := [.type "RuntimeError", .type "Exception", .type "BaseException", .type "object"]
end DL
namespace DL
open PySem L2 PyProof.Rows PySem.Spec
def tExc0 (x : Str) : Ft := fun K => PySem.W.excIn K (gadr K x) rteM "RuntimeError.__new__" && (PySem.W.keepIn K (.ref (gadr K x)) && (decide (PySem.W.subIn K (.ref (gadr K x)) (.type "BaseException") = some true) && decide (PySem.W.typeIn K (.ref (gadr K x)) = some (.type "type"))))
end DL
namespace DL
open PySem L2 PyProof.Rows PySem.Spec
end DL
namespace DL
open PySem L2 PyProof.Rows PySem.Spec
end DL
namespace DL
open PySem L2 PyProof.Rows PySem.Spec
def tNoTab : Ft := fun K => (tabsOf K).isEmpty
end DL
namespace DL
open PySem L2 PyProof.Rows PySem.Spec
end DL
namespace DL
open PySem L2 PyProof.Rows PySem.Spec
end DL
namespace DL
open PySem L2 PyProof.Rows PySem.Spec
end DL
namespace DL
open PySem L2 PyProof.Rows PySem.Spec
end DL
namespace DL
open PySem L2 PyProof.Rows PySem.Spec
end DL
namespace DL
open PySem L2 PyProof.Rows PySem.Spec
end DL
namespace DL
open PySem L2 PyProof.Rows PySem.Spec
end DL
namespace DL
open PySem L2 PyProof.Rows PySem.Spec
end DL
namespace DL
open PySem L2 PyProof.Rows PySem.Spec
end DL
namespace DL
open PySem L2 PyProof.Rows PySem.Spec
end DL
namespace DL
open PySem L2 PyProof.Rows PySem.Spec
def tXk (x : Str) : Ft := fun K => (PySem.W.clsIn K (gadr K x)).isSome && (decide (PySem.W.findIn K (.ref (gadr K x)) "__getattribute__" = some (some (.builtin "BaseException.__getattribute__"))) && (decide (PySem.W.findIn K (.ref (gadr K x)) "__getattr__" = some none) &&
  (decide (PySem.W.subIn K (.ref (gadr K x)) (.type "BaseException") = some true) && (decide (PySem.W.findIn K (.ref (gadr K x)) "__class__" = some (some (.builtin "object.__class__"))) && (decide (PySem.W.specialIn K (.builtin "object.__class__") "__get__" = some (some (.builtin "getset_descriptor.__get__"))) &&
  (decide (PySem.W.takesIn K (.builtin "object.__class__") = some true) && decide (PySem.W.mroIn K (gadr K x) (.type "object") = some true)))))))
end DL
namespace DL
open PySem L2 PyProof.Rows PySem.Spec
def qV (K : PySem.W.Frag) : D → Option Value
  | .glo c => some (.ref (gadr K c))
  | .ty n => some (.type n)
  | _ => none
end DL
namespace DL
open PySem L2 PyProof.Rows PySem.Spec
def tIsV (q : D) (ys ns : List Str) : Ft := fun K => match qV K q with
  | some v => (ys.all fun y => decide (PySem.W.kitOne K (.ref (gadr K y)) v = some true)) && ns.all fun y => decide (PySem.W.kitOne K (.ref (gadr K y)) v = some false)
  | none => false
end DL
namespace DL
open PySem L2 PyProof.Rows PySem.Spec
def tXks (all : List Str) : Ft := fun K => all.all fun x => tXk x K
end DL
namespace L_k05
open PySem PySem.Spec PyProof.Rows L2 DL
def FILE : Str := "/claim/cut.py"
def top (i : Nat) : Stmt := PySem.Challenge.pw_heapeffects_k05_classes_of_errors.main.body.getD i (.Pass ⟨0, 0, 0, 0⟩)
def mth (i j : Nat) : Stmt := match top i with
  | .ClassDef _ _ _ b _ _ _ _ _ _ _ => b.getD j (.Pass ⟨0, 0, 0, 0⟩)
  | s => s
abbrev s_q_pool : Stmt := top 16
def d_q_pool : FdX := ⟨fun K => gadr K "_law_pool", "_law_pool", "_law_pool", s_q_pool, [], [], none⟩
abbrev s_q_draw : Stmt := top 17
def d_q_draw : FdX := ⟨fun K => gadr K "_law_draw", "_law_draw", "_law_draw", s_q_draw, [], [], none⟩
abbrev s_q_fields_hold : Stmt := top 20
def d_q_fields_hold : FdX := ⟨fun K => gadr K "_law_fields_hold", "_law_fields_hold", "_law_fields_hold", s_q_fields_hold, [], [], none⟩
abbrev s_q_own : Stmt := top 19
def d_q_own : FdX := ⟨fun K => gadr K "_law_own", "_law_own", "_law_own", s_q_own, [], [], none⟩
abbrev s_q_under : Stmt := top 18
def d_q_under : FdX := ⟨fun K => gadr K "_law_under", "_law_under", "_law_under", s_q_under, [], [], none⟩
abbrev s_law : Stmt := top 21
def d_law : FdX := ⟨fun K => gadr K "law", "law", "law", s_law, [], [], none⟩
abbrev s_InvalidUser_init : Stmt := mth 9 0
def d_InvalidUser_init : FdX := ⟨fun K => cadr K "InvalidUser" "__init__", "__init__", "InvalidUser.__init__", s_InvalidUser_init, [], [], some ("InvalidUser", FILE)⟩
abbrev s_InvalidBag_init : Stmt := mth 4 0
def d_InvalidBag_init : FdX := ⟨fun K => cadr K "InvalidBag" "__init__", "__init__", "InvalidBag.__init__", s_InvalidBag_init, [], [], some ("InvalidBag", FILE)⟩
abbrev s_InvalidCount_init : Stmt := mth 3 0
def d_InvalidCount_init : FdX := ⟨fun K => cadr K "InvalidCount" "__init__", "__init__", "InvalidCount.__init__", s_InvalidCount_init, [], [], some ("InvalidCount", FILE)⟩
abbrev s_InvalidNumber_init : Stmt := mth 2 0
def d_InvalidNumber_init : FdX := ⟨fun K => cadr K "InvalidNumber" "__init__", "__init__", "InvalidNumber.__init__", s_InvalidNumber_init, [], [], some ("InvalidNumber", FILE)⟩
abbrev s_ParseError_init : Stmt := mth 10 0
def d_ParseError_init : FdX := ⟨fun K => cadr K "ParseError" "__init__", "__init__", "ParseError.__init__", s_ParseError_init, [], [], some ("ParseError", FILE)⟩
abbrev s_InvalidSequence_init : Stmt := mth 7 0
def d_InvalidSequence_init : FdX := ⟨fun K => cadr K "InvalidSequence" "__init__", "__init__", "InvalidSequence.__init__", s_InvalidSequence_init, [], [], some ("InvalidSequence", FILE)⟩
abbrev s_InvalidEffect_init : Stmt := mth 6 0
def d_InvalidEffect_init : FdX := ⟨fun K => cadr K "InvalidEffect" "__init__", "__init__", "InvalidEffect.__init__", s_InvalidEffect_init, [], [], some ("InvalidEffect", FILE)⟩
abbrev s_InvalidProgram_init : Stmt := mth 5 0
def d_InvalidProgram_init : FdX := ⟨fun K => cadr K "InvalidProgram" "__init__", "__init__", "InvalidProgram.__init__", s_InvalidProgram_init, [], [], some ("InvalidProgram", FILE)⟩
abbrev s_LimitExceeded_init : Stmt := mth 13 0
def d_LimitExceeded_init : FdX := ⟨fun K => cadr K "LimitExceeded" "__init__", "__init__", "LimitExceeded.__init__", s_LimitExceeded_init, [], [], some ("LimitExceeded", FILE)⟩
abbrev s_OutOfRange_init : Stmt := mth 12 0
def d_OutOfRange_init : FdX := ⟨fun K => cadr K "OutOfRange" "__init__", "__init__", "OutOfRange.__init__", s_OutOfRange_init, [], [], some ("OutOfRange", FILE)⟩
abbrev s_EmptyHeap_init : Stmt := mth 11 0
def d_EmptyHeap_init : FdX := ⟨fun K => cadr K "EmptyHeap" "__init__", "__init__", "EmptyHeap.__init__", s_EmptyHeap_init, [], [], some ("EmptyHeap", FILE)⟩
abbrev s_InvalidObservations_init : Stmt := mth 8 0
def d_InvalidObservations_init : FdX := ⟨fun K => cadr K "InvalidObservations" "__init__", "__init__", "InvalidObservations.__init__", s_InvalidObservations_init, [], [], some ("InvalidObservations", FILE)⟩
def fn : List FdX := [d_q_pool, d_q_draw, d_q_fields_hold, d_q_own, d_q_under, d_law, d_InvalidUser_init, d_InvalidBag_init, d_InvalidCount_init, d_InvalidNumber_init, d_ParseError_init, d_InvalidSequence_init, d_InvalidEffect_init, d_InvalidProgram_init, d_LimitExceeded_init, d_OutOfRange_init, d_EmptyHeap_init, d_InvalidObservations_init]
def ft : List Ft := [(tGlo "law"), (tFree "range"), (tFree "max"), (tFree "min"), (tFree "len"), (tGlo "_law_pool"), (tFree "sum"), (tFree "abs"), (tFree "int"), (tGlo "_law_draw"), (tGlo "_law_fields_hold"), (tGlo "InvalidUser"), (tFree "super"), (tExc "InvalidUser" "value" DX.bVE), (tXf "InvalidUser" "value"), (tGlo "InvalidBag"), (tExc "InvalidBag" "value" DX.bVE), (tXf "InvalidBag" "value"), (tGlo "InvalidCount"), (tExc "InvalidCount" "value" DX.bVE), (tXf "InvalidCount" "value"), (tGlo "InvalidNumber"), (tExc "InvalidNumber" "value" DX.bVE), (tXf "InvalidNumber" "value"), (tGlo "ParseError"), (tExc "ParseError" "position" DX.bVE), (tXf "ParseError" "position"), (tGlo "InvalidSequence"), (tExc "InvalidSequence" "index" DX.bVE), (tXf "InvalidSequence" "index"), (tGlo "InvalidEffect"), (tExc "InvalidEffect" "part" DX.bVE), (tXf "InvalidEffect" "part"), (tGlo "InvalidProgram"), (tExc "InvalidProgram" "path" DX.bVE), (tXf "InvalidProgram" "path"), (tGlo "LimitExceeded"), (tExc "LimitExceeded" "count" DX.bOE), (tXf "LimitExceeded" "count"), (tGlo "OutOfRange"), (tExc "OutOfRange" "value" DX.bIE), (tXf "OutOfRange" "value"), (tGlo "EmptyHeap"), (tExc "EmptyHeap" "index" DX.bLE), (tXf "EmptyHeap" "index"), (tGlo "InvalidObservations"), (tExc "InvalidObservations" "index" DX.bVE), (tXf "InvalidObservations" "index"), (tGlo "NothingToUndo"), (tExc0 "NothingToUndo"), (tFree "enumerate"), (tGlo "_law_own"), (tXks ["InvalidNumber", "InvalidCount", "InvalidBag", "InvalidProgram", "InvalidEffect", "InvalidSequence", "InvalidObservations", "InvalidUser", "ParseError", "EmptyHeap", "OutOfRange", "LimitExceeded", "NothingToUndo"]), (tIsV (.glo "InvalidBag") ["InvalidBag"] ["InvalidNumber", "InvalidCount", "InvalidProgram", "InvalidEffect", "InvalidSequence", "InvalidObservations", "InvalidUser", "ParseError", "EmptyHeap", "OutOfRange", "LimitExceeded", "NothingToUndo"]), (tFree "isinstance"), (tIsV (.glo "InvalidCount") ["InvalidCount"] ["InvalidNumber", "InvalidBag", "InvalidProgram", "InvalidEffect", "InvalidSequence", "InvalidObservations", "InvalidUser", "ParseError", "EmptyHeap", "OutOfRange", "LimitExceeded", "NothingToUndo"]), (tIsV (.glo "InvalidNumber") ["InvalidNumber"] ["InvalidCount", "InvalidBag", "InvalidProgram", "InvalidEffect", "InvalidSequence", "InvalidObservations", "InvalidUser", "ParseError", "EmptyHeap", "OutOfRange", "LimitExceeded", "NothingToUndo"]), (tIsV (.glo "InvalidEffect") ["InvalidEffect"] ["InvalidNumber", "InvalidCount", "InvalidBag", "InvalidProgram", "InvalidSequence", "InvalidObservations", "InvalidUser", "ParseError", "EmptyHeap", "OutOfRange", "LimitExceeded", "NothingToUndo"]), (tIsV (.glo "InvalidProgram") ["InvalidProgram"] ["InvalidNumber", "InvalidCount", "InvalidBag", "InvalidEffect", "InvalidSequence", "InvalidObservations", "InvalidUser", "ParseError", "EmptyHeap", "OutOfRange", "LimitExceeded", "NothingToUndo"]), (tIsV (.glo "InvalidObservations") ["InvalidObservations"] ["InvalidNumber", "InvalidCount", "InvalidBag", "InvalidProgram", "InvalidEffect", "InvalidSequence", "InvalidUser", "ParseError", "EmptyHeap", "OutOfRange", "LimitExceeded", "NothingToUndo"]), (tIsV (.glo "InvalidSequence") ["InvalidSequence"] ["InvalidNumber", "InvalidCount", "InvalidBag", "InvalidProgram", "InvalidEffect", "InvalidObservations", "InvalidUser", "ParseError", "EmptyHeap", "OutOfRange", "LimitExceeded", "NothingToUndo"]), (tIsV (.glo "EmptyHeap") ["EmptyHeap"] ["InvalidNumber", "InvalidCount", "InvalidBag", "InvalidProgram", "InvalidEffect", "InvalidSequence", "InvalidObservations", "InvalidUser", "ParseError", "OutOfRange", "LimitExceeded", "NothingToUndo"]), (tIsV (.glo "ParseError") ["ParseError"] ["InvalidNumber", "InvalidCount", "InvalidBag", "InvalidProgram", "InvalidEffect", "InvalidSequence", "InvalidObservations", "InvalidUser", "EmptyHeap", "OutOfRange", "LimitExceeded", "NothingToUndo"]), (tIsV (.glo "InvalidUser") ["InvalidUser"] ["InvalidNumber", "InvalidCount", "InvalidBag", "InvalidProgram", "InvalidEffect", "InvalidSequence", "InvalidObservations", "ParseError", "EmptyHeap", "OutOfRange", "LimitExceeded", "NothingToUndo"]), (tIsV (.glo "LimitExceeded") ["LimitExceeded"] ["InvalidNumber", "InvalidCount", "InvalidBag", "InvalidProgram", "InvalidEffect", "InvalidSequence", "InvalidObservations", "InvalidUser", "ParseError", "EmptyHeap", "OutOfRange", "NothingToUndo"]), (tIsV (.glo "OutOfRange") ["OutOfRange"] ["InvalidNumber", "InvalidCount", "InvalidBag", "InvalidProgram", "InvalidEffect", "InvalidSequence", "InvalidObservations", "InvalidUser", "ParseError", "EmptyHeap", "LimitExceeded", "NothingToUndo"]), (tIsV (.glo "NothingToUndo") ["NothingToUndo"] ["InvalidNumber", "InvalidCount", "InvalidBag", "InvalidProgram", "InvalidEffect", "InvalidSequence", "InvalidObservations", "InvalidUser", "ParseError", "EmptyHeap", "OutOfRange", "LimitExceeded"]), (tGlo "_law_under"), (tIsV (.ty "LookupError") ["EmptyHeap", "OutOfRange"] ["InvalidNumber", "InvalidCount", "InvalidBag", "InvalidProgram", "InvalidEffect", "InvalidSequence", "InvalidObservations", "InvalidUser", "ParseError", "LimitExceeded", "NothingToUndo"]), (tFree "LookupError"), (tIsV (.ty "ValueError") ["InvalidNumber", "InvalidCount", "InvalidBag", "InvalidProgram", "InvalidEffect", "InvalidSequence", "InvalidObservations", "InvalidUser", "ParseError"] ["EmptyHeap", "OutOfRange", "LimitExceeded", "NothingToUndo"]), (tFree "ValueError"), (tGlo "HeapError"), (tIsV (.glo "HeapError") ["InvalidNumber", "InvalidCount", "InvalidBag", "InvalidProgram", "InvalidEffect", "InvalidSequence", "InvalidObservations", "InvalidUser", "ParseError"] ["EmptyHeap", "OutOfRange", "LimitExceeded", "NothingToUndo"]), (tIsV (.ty "RuntimeError") ["NothingToUndo"] ["InvalidNumber", "InvalidCount", "InvalidBag", "InvalidProgram", "InvalidEffect", "InvalidSequence", "InvalidObservations", "InvalidUser", "ParseError", "EmptyHeap", "OutOfRange", "LimitExceeded"]), (tFree "RuntimeError"), (tIsV (.ty "OverflowError") ["LimitExceeded"] ["InvalidNumber", "InvalidCount", "InvalidBag", "InvalidProgram", "InvalidEffect", "InvalidSequence", "InvalidObservations", "InvalidUser", "ParseError", "EmptyHeap", "OutOfRange", "NothingToUndo"]), (tFree "OverflowError"), (tIsV (.ty "IndexError") ["OutOfRange"] ["InvalidNumber", "InvalidCount", "InvalidBag", "InvalidProgram", "InvalidEffect", "InvalidSequence", "InvalidObservations", "InvalidUser", "ParseError", "EmptyHeap", "LimitExceeded", "NothingToUndo"]), (tFree "IndexError"), (tIsV (.ty "KeyError") [] ["InvalidNumber", "InvalidCount", "InvalidBag", "InvalidProgram", "InvalidEffect", "InvalidSequence", "InvalidObservations", "InvalidUser", "ParseError", "EmptyHeap", "OutOfRange", "LimitExceeded", "NothingToUndo"]), (tFree "KeyError"), (tNoTab)]
end L_k05
namespace L_k05
open PySem PySem.Spec PyProof.Rows L2 DL
abbrev Rw : PySem.W.OpenRow := PySem.W.OpenLaw.row PySem.Challenge.rw_heapeffects_k05_classes_of_errors
def asL : List Addr := [3, 6, 4, 24, 46, 67, 88, 109, 130, 151, 172, 193, 214, 235, 257, 279, 292, 302, 309, 316, 323, 330, 335, 0, 23, 45, 66, 87, 108, 129, 150, 171, 192, 213, 234, 256, 278, 291, 301, 308, 315, 322, 329, 334, 22, 25, 43, 44, 64, 65, 85, 86, 106, 107, 127, 128, 148, 149, 169, 170, 190, 191, 211, 212, 232, 233, 236, 254, 255, 258, 276, 277, 280, 290, 293, 296, 297, 298, 299, 300, 303, 304, 305, 306, 307, 310, 311, 312, 313, 314, 317, 318, 319, 320, 321, 324, 325, 326, 327, 328, 331, 332, 333, 42, 31, 63, 52, 84, 73, 105, 94, 126, 115, 147, 136, 168, 157, 189, 178, 210, 199, 231, 220, 253, 242, 275, 264, 37, 38, 39, 40, 41, 58, 59, 60, 61, 62, 79, 80, 81, 82, 83, 100, 101, 102, 103, 104, 121, 122, 123, 124, 125, 142, 143, 144, 145, 146, 163, 164, 165, 166, 167, 184, 185, 186, 187, 188, 205, 206, 207, 208, 209, 226, 227, 228, 229, 230, 248, 249, 250, 251, 252, 270, 271, 272, 273, 274, 2]
abbrev hk : PySem.W.Hook := hookL asL ft fn
def ob (z : PySem.W.SharedT) : He.AlD := obsFL asL ft fn (HandSHeadRun.getT z)
theorem obEq (z : PySem.W.SharedT) : ob z = hk.obs z.abs := obsFL_eq (HandSHeadRun.getT_eq z)
def nms : List PySem.Str := (["HeapError", "InvalidNumber", "InvalidCount", "InvalidBag", "InvalidProgram", "InvalidEffect", "InvalidSequence", "InvalidObservations", "InvalidUser", "ParseError", "EmptyHeap", "OutOfRange", "LimitExceeded", "NothingToUndo", "_law_pool", "_law_draw", "_law_under", "_law_own", "_law_fields_hold"] : List PySem.Str)
theorem mp3 {α β γ δ : Type} {o : Option α} {f : α → β} {g : α → γ} {h : α → δ} {x : β} {y : γ} {z : δ} (e1 : o.map (fun s => (f s, g s)) = some (x, y)) (e2 : o.map h = some z) : o.map (fun s => (f s, g s, h s)) = some (x, y, z) := by
  cases o with
  | none => cases e1
  | some s =>
    obtain ⟨q1, q2⟩ := Prod.mk.inj (Option.some.inj e1)
    have q3 : h s = z := Option.some.inj e2
    show some (f s, g s, h s) = _
    rw [q1, q2, q3]
theorem mp2 {α δ : Type} {o : Option α} {f g : α → Bool} {h : α → δ} {z : δ} (e1 : o.map f = some true) (e2 : o.map (fun s => (g s, h s)) = some (true, z)) : o.map (fun s => (f s && g s, h s)) = some (true, z) := by
  cases o with
  | none => cases e1
  | some s =>
    have q1 : f s = true := Option.some.inj e1
    obtain ⟨q2, q3⟩ := Prod.mk.inj (Option.some.inj e2)
    show some (f s && g s, h s) = _
    rw [q1, q2, q3]; rfl
noncomputable abbrev gone (w : World) (os : OsState) : Option PySem.W.SharedT := HandSHeadRun.endF (HandSHeadRun.stepQ (HandSHeadRun.denQ HandSHeadRun.tabQ) Rw.prog w) 12000 Rw.prog w os
noncomputable abbrev vw : Program := PySem.W.view Rw.prog [21]
theorem headPA (w : World) (os : OsState) : (gone w os).map (fun s => (HandSHeadRun.looksF Rw.prog (PySem.W.boot_heap w.params) s.abs, HandSHeadRun.seenQ vw nms (importedModules Rw.prog.main.body) (fun s => PySem.W.xlAt vw [] s && PySem.W.recOk Rw.toRowW.records s) s.abs)) = some (true, PySem.W.openGood vw nms) := by kernel_rfl
theorem headPB (w : World) (os : OsState) : (gone w os).map (fun s => ft.all fun f => f (He.frG (HandSHeadRun.getT s) asL)) = some true := by kernel_rfl
theorem headPC (w : World) (os : OsState) : (gone w os).map (fun s => (fn.all fun d => d.ok (He.frG (HandSHeadRun.getT s) asL), fn.map fun d => fnX (He.frG (HandSHeadRun.getT s) asL) d)) = some (valF fn) := by kernel_rfl
theorem runs (w : World) : HandSHeadRun.RunEq Rw (PySem.W.view Rw.prog [21]) hk ob 12000 nms w := by
  intro os
  have h1 := mp2 (f := fun s => ft.all fun f => f (He.frG (HandSHeadRun.getT s) asL)) (headPB w os) (headPC w os)
  have h2 := mp3 (headPA w os) h1
  exact h2
end L_k05
namespace DL
open PySem L2

inductive Ob where
  | lst (xs : List D)
  | dic (kvs : List (Key × D))
  | ins (c : Str) (fs : List (Str × D))
  | dct (kvs : List (NK × D))
  | fnc (i : Nat)
  | exc (c : Str) (fs : List (Str × D))
namespace NK
mutual
def beq : NK → NK → Bool
  | .num i, .num j => decide (i = j)
  | .tup xs, .tup ys => beqs xs ys
  | .num _, .tup _ => false
  | .tup _, .num _ => false
def beqs : List NK → List NK → Bool
  | [], [] => true
  | a :: as, b :: bs => beq a b && beqs as bs
  | [], _ :: _ => false
  | _ :: _, [] => false
end
mutual
theorem beq_self : ∀ a : NK, beq a a = true
  | .num a => by simp [beq]
  | .tup a => by rw [beq]; exact beqs_self a
theorem beqs_self : ∀ a : List NK, beqs a a = true
  | [] => rfl
  | a :: as => by rw [beqs, beq_self a, beqs_self as]; rfl
end
mutual
theorem of_beq : ∀ a b : NK, beq a b = true → a = b
  | .num i, .num j, e => by simp only [beq, decide_eq_true_eq] at e; rw [e]
  | .tup xs, .tup ys, e => by rw [beq] at e; rw [of_beqs xs ys e]
  | .num _, .tup _, e => by simp [beq] at e
  | .tup _, .num _, e => by simp [beq] at e
theorem of_beqs : ∀ a b : List NK, beqs a b = true → a = b
  | [], [], _ => rfl
  | a :: as, b :: bs, h => by
    rw [beqs, Bool.and_eq_true] at h
    rw [of_beq a b h.1, of_beqs as bs h.2]
  | [], _ :: _, h => by simp [beqs] at h
  | _ :: _, [], h => by simp [beqs] at h
end
instance : DecidableEq NK := fun a b => if h : beq a b = true then Decidable.isTrue (of_beq a b h) else Decidable.isFalse fun e => h (e ▸ beq_self a)
mutual
def nk : NK → NestedKey
  | .num i => .num i
  | .tup ks => .tup (nks ks)
def nks : List NK → List NestedKey
  | [] => []
  | k :: ks => nk k :: nks ks
end
end NK
mutual
def nkD : D → Option NK
  | .int i => some (.num i)
  | .tup ds => (nksD ds).map .tup
  | .itm ds => (nksD ds).map .tup
  | _ => none
def nksD : List D → Option (List NK)
  | [] => some []
  | d :: ds => match nkD d, nksD ds with
    | some k, some ks => some (k :: ks)
    | _, _ => none
end
def DctAt (d : Addr) (xs : List (NK × Addr × V)) : Heap → Prop := fun h => xs.length ≤ sizeLine ∧ (d == sysModules) = false ∧ (xs.map (·.1)).Nodup ∧ (∀ x ∈ xs, x.1.nk.depth ≤ 8) ∧
  ∃ ys : List (NK × Addr × Value), Paired (fun p q => p.1 = q.1 ∧ p.2.1 = q.2.1 ∧ RelV p.2.2 q.2.2) xs ys ∧
    ∃ o es ep, h.get? d = some o ∧ o.ExactDict ∧ o.data = .dict es ep ∧ ∀ w : World, es.toList = ys.map fun x => ⟨x.1.nk.hash w, .ref x.2.1, x.2.2⟩

abbrev Mem := List Ob
abbrev Env := List (Option D)

structure Kx where
  K : PySem.W.Frag
  φ : List Addr

def KL (K : PySem.W.Frag) (a : Addr) (xs : List V) : Prop :=
  ∃ (o : Obj) (its : Array Value) (n : Nat),
    K.lookup a = some o ∧ o.cls = .type "list" ∧ o.dict = none ∧ o.data = .seq its n ∧ its.size ≤ sizeLine ∧ Vals xs its.toList
def KT (K : PySem.W.Frag) (a : Addr) (xs : List V) : Prop :=
  ∃ (o : Obj) (its : Array Value) (n : Nat), K.lookup a = some o ∧ o.cls = .type "tuple" ∧ o.dict = none ∧ o.data = .seq its n ∧ its.size ≤ sizeLine ∧ Vals xs its.toList
def SqLf (K : Kx) (ρ : List Addr) (H : Hp) (a : Addr) (xs : List V) : Prop := (Rd H a (.lst xs) ∧ a ∉ ρ ∧ a ∉ K.φ) ∨ KL K.K a xs
def FzT (H : Hp) (a : Addr) (xs : List V) : Prop := ∃ o, H a = some (.frz o (.tup xs)) ∧ o.dict = none
def SqTf (K : Kx) (ρ : List Addr) (H : Hp) (a : Addr) (xs : List V) : Prop := (FzT H a xs ∧ a ∉ ρ ∧ a ∉ K.φ) ∨ KT K.K a xs
theorem SqLf.sq {K : Kx} {ρ : List Addr} {H : Hp} {a : Addr} {xs : List V} (h : SqLf K ρ H a xs) : SqL K.K H a xs := h.elim (fun z => .inl z.1) .inr
theorem FzT.rd {H : Hp} {a : Addr} {xs : List V} (h : FzT H a xs) : Rd H a (.tup xs) := h.elim fun o z => .inr ⟨o, z.1⟩
theorem KT.sq {K : PySem.W.Frag} {H : Hp} {a : Addr} {xs : List V} (h : KT K a xs) : SqT K H a xs := by
  obtain ⟨o, its, n, h1, h2, _, h3⟩ := h
  exact .inr ⟨o, its, n, h1, h2, h3⟩
theorem SqTf.sq {K : Kx} {ρ : List Addr} {H : Hp} {a : Addr} {xs : List V} (h : SqTf K ρ H a xs) : SqT K.K H a xs := h.elim (fun z => .inl z.1.rd) KT.sq
mutual
inductive RD (K : Kx) (ρ : List Addr) (H : Hp) : D → V → Prop
  | non : RD K ρ H .non .non
  | bl (b : Bool) : RD K ρ H (.bl b) (.bl b)
  | int (i : Int) : RD K ρ H (.int i) (.int i)
  | str (x : Str) : RD K ρ H (.str x) (.str x)
  | tup {ds a xs} (h : SqTf K ρ H a xs) (r : RDs K ρ H ds xs) : RD K ρ H (.tup ds) (.ref a)
  | itm {ds a xs} (h : H a = some (.tup xs)) (n : a ∉ ρ ∧ a ∉ K.φ) (r : RDs K ρ H ds xs) : RD K ρ H (.itm ds) (.ref a)
  | lst {ds a xs} (h : H a = some (.lst xs)) (n : a ∉ ρ ∧ a ∉ K.φ) (r : RDs K ρ H ds xs) : RD K ρ H (.lst ds) (.ref a)
  | fzl {ds a xs} (h : SqLf K ρ H a xs) (r : RDs K ρ H ds xs) : RD K ρ H (.fzl ds) (.ref a)
  | ref {l a} (h : ρ[l]? = some a) : RD K ρ H (.ref l) (.ref a)
  | glo {x} : RD K ρ H (.glo x) (.ref (gadr K.K x))
  | ty (n : String) : RD K ρ H (.ty n) (.ty n)
  | inst {c fs a dx gs} (h : H a = some (.ins (gadr K.K c) dx gs)) (n : a ∉ ρ ∧ a ∉ K.φ) (r : RFs K ρ H fs gs) : RD K ρ H (.inst c fs) (.ref a)
  | dcv {kvs a ks} (h : H a = some (.dK ks)) (n : a ∉ ρ ∧ a ∉ K.φ) (r : RKv K ρ H kvs ks) : RD K ρ H (.dcv kvs) (.ref a)
inductive RDs (K : Kx) (ρ : List Addr) (H : Hp) : List D → List V → Prop
  | nil : RDs K ρ H [] []
  | cons {d ds v vs} (h : RD K ρ H d v) (t : RDs K ρ H ds vs) : RDs K ρ H (d :: ds) (v :: vs)
inductive RFs (K : Kx) (ρ : List Addr) (H : Hp) : List (Str × D) → List (Str × V) → Prop
  | nil : RFs K ρ H [] []
  | cons {f d fs v vs} (h : RD K ρ H d v) (t : RFs K ρ H fs vs) : RFs K ρ H ((f, d) :: fs) ((f, v) :: vs)
inductive RKv (K : Kx) (ρ : List Addr) (H : Hp) : List (Key × D) → List (Key × V) → Prop
  | nil : RKv K ρ H [] []
  | cons {f d fs v vs} (h : RD K ρ H d v) (t : RKv K ρ H fs vs) : RKv K ρ H ((f, d) :: fs) ((f, v) :: vs)
end
def RKs (K : Kx) (ρ : List Addr) (H : Hp) (ds : List (Key × D)) (vs : List (Key × V)) : Prop := Paired (fun p q => p.1 = q.1 ∧ RD K ρ H p.2 q.2) ds vs
def RKt (K : Kx) (ρ : List Addr) (H : Hp) (ds : List (NK × D)) (xs : List (NK × Addr × V)) : Prop :=
  Paired (fun p q => p.1 = q.1 ∧ (∃ d, nkD d = some p.1 ∧ RD K ρ H d (.ref q.2.1)) ∧ RD K ρ H p.2 q.2.2) ds xs
theorem RKt.mapR {K K' : Kx} {ρ ρ' : List Addr} {H H' : Hp} {ds : List (NK × D)} {xs : List (NK × Addr × V)} (h : RKt K ρ H ds xs) (f : ∀ d v, RD K ρ H d v → RD K' ρ' H' d v) : RKt K' ρ' H' ds xs :=
  L2.Paired.mapP h fun p q z => ⟨z.1, z.2.1.elim fun d r => ⟨d, r.1, f _ _ r.2⟩, f _ _ z.2.2⟩
def LQ : Str := "normalizing_exchanges.<locals>.<lambda>"
def lamsE : Expr → List (Arguments × Expr × Scope)
  | .Call _ as _ _ => as.filterMap fun
    | .Lambda p b s _ => some (p, b, s)
    | _ => none
  | _ => []
def lamsS (ss : List Stmt) : List (Arguments × Expr × Scope) := ss.flatMap fun
  | .Expr e _ => lamsE e
  | _ => []
def lamT (K : PySem.W.Frag) (i : Nat) : Option (Arguments × Expr × Scope) := match PySem.W.nsIn K mainGlobals LMAK with
  | some (some (.ref fA)) => (match K.lookup fA with
    | some ⟨_, _, .func fd, _⟩ => (match fd.body with
      | .stmts b => (lamsS b)[i]?
      | _ => none)
    | _ => none)
  | _ => none
def FzC (H : Hp) (c : Addr) : Prop := ∃ (o : Obj) (vs : Array Value) (t : Tok), H c = some (.frz o (.ext fun _ => True)) ∧ o.data = .fields vs ∧ vs[1]? = some (.str LQ t)
def TabF (H : Hp) (P : Addr) : Prop := ∃ ps : Array Value, H P = some (.tbl ps) ∧ TriplesOk ps.toList ∧ ∀ (pos : Pos) (cv : Value), codeAmong pos ps.toList = some cv → ∃ c, cv = .ref c ∧ FzC H c
def LamAt (a : Addr) (T : Arguments × Expr × Scope) (pm : Value) (c : Addr) (ct : Value) : Heap → Prop := fun h => h.get? a = some (PySem.W.kla_obj "<lambda>" LQ T.1 T.2.1 T.2.2 [] pm c ct)
def XcAt (a C : Addr) (d : Option Addr) : Heap → Prop := fun h => ∃ (ob : Obj) (vs : Array Value), h.get? a = some ob ∧ ob.cls = .ref C ∧ ob.dict = d ∧ ob.data = .fields vs
def Nt : HO → Prop
  | .tbl _ => False
  | _ => True
def RO (K : Kx) (ρ : List Addr) (H : Hp) (a : Addr) : Ob → HO → Prop
  | .lst ds, u => ∃ xs, u = .lst xs ∧ RDs K ρ H ds xs
  | .dic kvs, u => ∃ ks, u = .dK ks ∧ RKs K ρ H kvs ks
  | .ins c fs, u => ∃ dx gs, u = .ins (gadr K.K c) dx gs ∧ RFs K ρ H fs gs
  | .dct kvs, u => ∃ xs, u = .ext (DctAt a xs) ∧ RKt K ρ H kvs xs
  | .fnc i, u => ∃ T pm c ct, lamT K.K i = some T ∧ u = .ext (LamAt a T pm c ct) ∧ FzC H c ∧ c ∉ ρ ∧ c ∉ K.φ
  | .exc c fs, u => ∃ d gs, u = .ext (XcAt a (gadr K.K c) d) ∧ (∀ dx, d = some dx → H dx = some (.xd gs) ∧ dx ∉ ρ ∧ dx ∉ K.φ) ∧ (d = none → gs = []) ∧ RFs K ρ H fs gs
def Own : HO → Prop
  | .tup _ => False
  | .frz _ _ => False
  | .tbl _ => False
  | _ => True
theorem Own.nt {u : HO} (h : Own u) : Nt u := by cases u <;> first | trivial | exact h
structure MOk (K : Kx) (ρ : List Addr) (M : Mem) (H : Hp) : Prop where
  nd : ρ.Nodup
  len : ρ.length = M.length
  hid : ∀ a ∈ K.φ, ∃ u, H a = some u ∧ Own u
  at_ : ∀ (l : Nat) (o : Ob) (a : Addr), M[l]? = some o → ρ[l]? = some a → ∃ u, H a = some u ∧ RO K ρ H a o u
  tab : ∀ P ∈ tabsOf K.K, TabF H P
structure Ext (ρ : List Addr) (H : Hp) (ρ' : List Addr) (H' : Hp) : Prop where
  pre : ∃ t, ρ' = ρ ++ t ∧ ∀ a ∈ t, H a = none
  keep : ∀ (a : Addr) (o : HO), H a = some o → a ∉ ρ → (_ : Nt o := by exact trivial) → H' a = some o
  live : ∀ a, H' a = none → H a = none
  tabs : ∀ P, TabF H P → TabF H' P

section
variable {K : Kx} {ρ ρ' ρ1 ρ2 : List Addr} {H H' H1 H2 : Hp} {M M' : Mem}
theorem Ext.refl : Ext ρ H ρ H := ⟨⟨[], by simp, by simp⟩, fun _ _ h _ _ => h, fun _ h => h, fun _ h => h⟩
theorem Ext.nin {a : Addr} {o : HO} (e : Ext ρ H ρ' H') (h : H a = some o) (n : a ∉ ρ) : a ∉ ρ' := by
  obtain ⟨t, rfl, ht⟩ := e.pre
  intro z
  rcases List.mem_append.mp z with z | z
  · exact n z
  · rw [ht a z] at h; cases h
theorem Ext.trans (a : Ext ρ H ρ1 H1) (b : Ext ρ1 H1 ρ2 H2) : Ext ρ H ρ2 H2 := by
  obtain ⟨t, rfl, ht⟩ := a.pre
  obtain ⟨t2, rfl, ht2⟩ := b.pre
  refine ⟨⟨t ++ t2, by simp, fun x hx => ?_⟩, fun x o h n z => b.keep x o (a.keep x o h n z) (a.nin h n) z, fun x h => a.live x (b.live x h), fun P t => b.tabs P (a.tabs P t)⟩
  rcases List.mem_append.mp hx with z | z
  · exact ht x z
  · exact a.live x (ht2 x z)
theorem Rd.ext {K : Kx} {a : Addr} {u : HO} (e : Ext ρ H ρ' H') (h : Rd H a u) (n : a ∉ ρ ∧ a ∉ K.φ) (z : Nt u := by exact trivial) : Rd H' a u ∧ a ∉ ρ' ∧ a ∉ K.φ := by
  rcases h with h | ⟨o, h⟩
  · exact ⟨.inl (e.keep a _ h n.1 z), e.nin h n.1, n.2⟩
  · exact ⟨.inr ⟨o, e.keep a _ h n.1⟩, e.nin h n.1, n.2⟩
theorem FzT.ext {K : Kx} {a : Addr} {xs : List V} (e : Ext ρ H ρ' H') (h : FzT H a xs) (n : a ∉ ρ ∧ a ∉ K.φ) : FzT H' a xs ∧ a ∉ ρ' ∧ a ∉ K.φ := by
  obtain ⟨o, h, d⟩ := h
  exact ⟨⟨o, e.keep a _ h n.1, d⟩, e.nin h n.1, n.2⟩
theorem SqTf.ext {a : Addr} {xs : List V} (e : Ext ρ H ρ' H') (h : SqTf K ρ H a xs) : SqTf K ρ' H' a xs := h.elim (fun z => .inl (FzT.ext (K := K) e z.1 z.2)) .inr
theorem SqLf.ext {a : Addr} {xs : List V} (e : Ext ρ H ρ' H') (h : SqLf K ρ H a xs) : SqLf K ρ' H' a xs := h.elim (fun z => .inl (Rd.ext (K := K) e z.1 z.2)) .inr
theorem get_pre {l : Nat} {a : Addr} (e : Ext ρ H ρ' H') (h : ρ[l]? = some a) : ρ'[l]? = some a := by
  obtain ⟨t, rfl, _⟩ := e.pre
  obtain ⟨hl, _⟩ := List.getElem?_eq_some_iff.mp h
  rw [List.getElem?_append_left hl]; exact h
mutual
theorem RD.ext (e : Ext ρ H ρ' H') : ∀ {d v}, RD K ρ H d v → RD K ρ' H' d v
  | _, _, .non => .non
  | _, _, .bl b => .bl b
  | _, _, .int i => .int i
  | _, _, .str x => .str x
  | _, _, .tup h r => .tup (h.ext e) (RDs.ext e r)
  | _, _, .itm h n r => .itm (e.keep _ _ h n.1) ⟨e.nin h n.1, n.2⟩ (RDs.ext e r)
  | _, _, .lst h n r => .lst (e.keep _ _ h n.1) ⟨e.nin h n.1, n.2⟩ (RDs.ext e r)
  | _, _, .fzl h r => .fzl (h.ext e) (RDs.ext e r)
  | _, _, .ref h => .ref (get_pre e h)
  | _, _, .glo => .glo
  | _, _, .ty n => .ty n
  | _, _, .inst h n r => .inst (e.keep _ _ h n.1) ⟨e.nin h n.1, n.2⟩ (RFs.ext e r)
  | _, _, .dcv h n r => .dcv (e.keep _ _ h n.1) ⟨e.nin h n.1, n.2⟩ (RKv.ext e r)
theorem RDs.ext (e : Ext ρ H ρ' H') : ∀ {ds vs}, RDs K ρ H ds vs → RDs K ρ' H' ds vs
  | _, _, .nil => .nil
  | _, _, .cons h t => .cons (RD.ext e h) (RDs.ext e t)
theorem RFs.ext (e : Ext ρ H ρ' H') : ∀ {ds vs}, RFs K ρ H ds vs → RFs K ρ' H' ds vs
  | _, _, .nil => .nil
  | _, _, .cons h t => .cons (RD.ext e h) (RFs.ext e t)
theorem RKv.ext (e : Ext ρ H ρ' H') : ∀ {fs vs}, RKv K ρ H fs vs → RKv K ρ' H' fs vs
  | _, _, .nil => .nil
  | _, _, .cons h t => .cons (RD.ext e h) (RKv.ext e t)
end
theorem RKv.ks : ∀ {ds vs}, RKv K ρ H ds vs → RKs K ρ H ds vs
  | _, _, .nil => .nil
  | _, _, .cons h t => .cons ⟨rfl, h⟩ (RKv.ks t)
theorem RKs.kv : ∀ {ds vs}, RKs K ρ H ds vs → RKv K ρ H ds vs
  | _, _, .nil => .nil
  | (_, _) :: _, (_, _) :: _, .cons h t => by
    obtain ⟨e, r⟩ := h
    cases e
    exact .cons r (RKs.kv t)
end
end DL

namespace DL
open PySem L2

structure Exn where
  cls : Str
  fs : List (Str × D)

inductive Out where
  | ok (d : D) (M : Mem)
  | ex (x : Exn) (M : Mem)
  | st
inductive OutL where
  | ok (ds : List D) (M : Mem)
  | ex (x : Exn) (M : Mem)
  | st
inductive OutS where
  | nx (e : Env) (M : Mem)
  | rt (d : D) (M : Mem)
  | bk (e : Env) (M : Mem)
  | ct (e : Env) (M : Mem)
  | ex (x : Exn) (e : Env) (M : Mem)
  | st
abbrev Ev := Env → Mem → Out
abbrev EvL := Env → Mem → OutL
abbrev Sx := Env → Mem → OutS
abbrev Fn := List D → Mem → Out
abbrev Tg := D → Env → Mem → OutS

def Out.bind (r : Out) (k : D → Mem → Out) : Out := match r with
  | .ok d M => k d M
  | .ex x M => .ex x M
  | .st => .st
def Out.bindL (r : Out) (k : D → Mem → OutL) : OutL := match r with
  | .ok d M => k d M
  | .ex x M => .ex x M
  | .st => .st
def OutL.bind (r : OutL) (k : List D → Mem → Out) : Out := match r with
  | .ok d M => k d M
  | .ex x M => .ex x M
  | .st => .st
def OutL.bindL (r : OutL) (k : List D → Mem → OutL) : OutL := match r with
  | .ok d M => k d M
  | .ex x M => .ex x M
  | .st => .st
def Out.bindS (r : Out) (e : Env) (k : D → Mem → OutS) : OutS := match r with
  | .ok d M => k d M
  | .ex x M => .ex x e M
  | .st => .st
def OutL.bindS (r : OutL) (e : Env) (k : List D → Mem → OutS) : OutS := match r with
  | .ok d M => k d M
  | .ex x M => .ex x e M
  | .st => .st
def OutS.bind (r : OutS) (k : Env → Mem → OutS) : OutS := match r with
  | .nx e M => k e M
  | r => r

def RE (K : Kx) (ρ : List Addr) (H : Hp) (env : Env) (σ : L2.St) : Prop :=
  Paired (fun o p => ∀ d, o = some d → ∃ v, p = some v ∧ RD K ρ H d v) env σ
def ExR (K : Kx) (ρ : List Addr) (H : Hp) (x : Exn) : Option Addr → Prop
  | some dx => (dx ∉ ρ ∧ dx ∉ K.φ) ∧ ∃ gs, H dx = some (.xd gs) ∧ RFs K ρ H x.fs gs
  | none => x.fs = []

section
variable (K : Kx) (W : WX) (ρ : List Addr) (σ : L2.St) (H : Hp)
def PostX (x : Exn) (M : Mem) (σ : L2.St) : Prop := ∀ ρ' H' dx, Ext ρ H ρ' H' → MOk K ρ' M H' → ExR K ρ' H' x dx → W (.ref (gadr K.K x.cls)) dx σ H'
def Post (r : Out) (Q : VK) : Prop := match r with
  | .ok d M => ∀ ρ' H' v, Ext ρ H ρ' H' → MOk K ρ' M H' → RD K ρ' H' d v → Q v H'
  | .ex x M => PostX K W ρ H x M σ
  | .st => False
def PostT (r : Out) (Q : Bool → Hp → Prop) : Prop := match r with
  | .ok (.bl b) M => ∀ ρ' H', Ext ρ H ρ' H' → MOk K ρ' M H' → Q b H'
  | .ok _ M => False
  | .ex x M => PostX K W ρ H x M σ
  | .st => False
def PostL (r : OutL) (Q : List V → Hp → Prop) : Prop := match r with
  | .ok ds M => ∀ ρ' H' vs, Ext ρ H ρ' H' → MOk K ρ' M H' → RDs K ρ' H' ds vs → Q vs H'
  | .ex x M => PostX K W ρ H x M σ
  | .st => False
def PostS (r : OutS) (D : Ends) : Prop := match r with
  | .nx e M => ∀ ρ' H' σ', Ext ρ H ρ' H' → MOk K ρ' M H' → RE K ρ' H' e σ' → D.nx σ' H'
  | .rt d M => ∀ ρ' H' v, Ext ρ H ρ' H' → MOk K ρ' M H' → RD K ρ' H' d v → D.rt v H'
  | .bk e M => ∀ ρ' H' σ', Ext ρ H ρ' H' → MOk K ρ' M H' → RE K ρ' H' e σ' → D.bk σ' H'
  | .ct e M => ∀ ρ' H' σ', Ext ρ H ρ' H' → MOk K ρ' M H' → RE K ρ' H' e σ' → D.ct σ' H'
  | .ex x e M => ∀ ρ' H' σ' dx, Ext ρ H ρ' H' → MOk K ρ' M H' → RE K ρ' H' e σ' → ExR K ρ' H' x dx → W (.ref (gadr K.K x.cls)) dx σ' H'
  | .st => False
end
def PostG (K : Kx) (ρ : List Addr) (H : Hp) (r : OutS) (Q : L2.St → Hp → Prop) : Prop := match r with
  | .nx e M => ∀ ρ' H' σ', Ext ρ H ρ' H' → MOk K ρ' M H' → RE K ρ' H' e σ' → Q σ' H'
  | _ => False

def DE (X : Cx) (W : WX) (e : Expr) (f : Ev) : Prop := ∃ t, PE X e t ∧ ∀ φ ρ env M σ H Q, RE ⟨X.K, φ⟩ ρ H env σ → MOk ⟨X.K, φ⟩ ρ M H → Post ⟨X.K, φ⟩ W ρ σ H (f env M) Q → t σ H Q
def DT (X : Cx) (W : WX) (e : Expr) (f : Ev) : Prop := ∃ t, PT X e t ∧ ∀ φ ρ env M σ H Q, RE ⟨X.K, φ⟩ ρ H env σ → MOk ⟨X.K, φ⟩ ρ M H → PostT ⟨X.K, φ⟩ W ρ σ H (f env M) Q → t σ H Q
def DW (X : Cx) (W : WX) (e : Expr) (f : Ev) : Prop := ∃ t, PW X e t ∧ ∀ φ ρ env M σ H Q, RE ⟨X.K, φ⟩ ρ H env σ → MOk ⟨X.K, φ⟩ ρ M H → PostT ⟨X.K, φ⟩ W ρ σ H (f env M) Q → t σ H Q
def DA (X : Cx) (W : WX) (es : List Expr) (f : EvL) : Prop := ∃ t, PA X es t ∧ (∀ env M ds M', f env M = .ok ds M' → ds.length = es.length) ∧ ∀ φ ρ env M σ H Q, RE ⟨X.K, φ⟩ ρ H env σ → MOk ⟨X.K, φ⟩ ρ M H → PostL ⟨X.K, φ⟩ W ρ σ H (f env M) Q → t σ H Q
def DS (X : Cx) (W : WX) (st : Stmt) (f : Sx) : Prop := ∃ t, PS X st t ∧ ∀ φ ρ env M σ H E, RE ⟨X.K, φ⟩ ρ H env σ → MOk ⟨X.K, φ⟩ ρ M H → PostS ⟨X.K, φ⟩ W ρ H (f env M) E → t E σ H
def DB (X : Cx) (W : WX) (st : List Stmt) (f : Sx) : Prop := ∃ t, PSs X st t ∧ ∀ φ ρ env M σ H E, RE ⟨X.K, φ⟩ ρ H env σ → MOk ⟨X.K, φ⟩ ρ M H → PostS ⟨X.K, φ⟩ W ρ H (f env M) E → t E σ H
def DG (X : Cx) (e : Expr) (f : Tg) : Prop := ∃ t, PG X e t ∧ ∀ φ ρ env M σ H d v Q, RE ⟨X.K, φ⟩ ρ H env σ → MOk ⟨X.K, φ⟩ ρ M H → RD ⟨X.K, φ⟩ ρ H d v → PostG ⟨X.K, φ⟩ ρ H (f d env M) Q → t v σ H Q

section
variable {K : Kx} {W : WX} {ρ ρ' ρ1 : List Addr} {σ : L2.St} {H H' H1 : Hp} {env : Env} {M : Mem}
theorem RE.ext (e : Ext ρ H ρ' H') (h : RE K ρ H env σ) : RE K ρ' H' env σ := L2.Paired.mapP h fun o p q d hd => by
  obtain ⟨v, hv, r⟩ := q d hd
  exact ⟨v, hv, r.ext e⟩
theorem PostX.ext {x : Exn} (e : Ext ρ H ρ1 H1) (h : PostX K W ρ H x M σ) : PostX K W ρ1 H1 x M σ := fun ρ' H' dx a b c => h ρ' H' dx (e.trans a) b c
theorem Post.ext {r : Out} {Q : VK} (e : Ext ρ H ρ1 H1) (h : Post K W ρ σ H r Q) : Post K W ρ1 σ H1 r Q := by
  cases r with
  | ok d M => exact fun ρ' H' v a b c => h ρ' H' v (e.trans a) b c
  | ex x M => exact PostX.ext e h
  | st => exact h
theorem PostT.ext {r : Out} {Q : Bool → Hp → Prop} (e : Ext ρ H ρ1 H1) (h : PostT K W ρ σ H r Q) : PostT K W ρ1 σ H1 r Q := by
  cases r with
  | ok d M =>
    cases d with
    | bl b => exact fun ρ' H' a b => h ρ' H' (e.trans a) b
    | _ => exact h
  | ex x M => exact PostX.ext e h
  | st => exact h
theorem PostL.ext {r : OutL} {Q : List V → Hp → Prop} (e : Ext ρ H ρ1 H1) (h : PostL K W ρ σ H r Q) : PostL K W ρ1 σ H1 r Q := by
  cases r with
  | ok d M => exact fun ρ' H' v a b c => h ρ' H' v (e.trans a) b c
  | ex x M => exact PostX.ext e h
  | st => exact h
theorem PostS.ext {r : OutS} {E : Ends} (e : Ext ρ H ρ1 H1) (h : PostS K W ρ H r E) : PostS K W ρ1 H1 r E := by
  cases r with
  | nx d M => exact fun ρ' H' v a b c => h ρ' H' v (e.trans a) b c
  | rt d M => exact fun ρ' H' v a b c => h ρ' H' v (e.trans a) b c
  | bk d M => exact fun ρ' H' v a b c => h ρ' H' v (e.trans a) b c
  | ct d M => exact fun ρ' H' v a b c => h ρ' H' v (e.trans a) b c
  | ex x d M => exact fun ρ' H' v dx a b c d => h ρ' H' v dx (e.trans a) b c d
  | st => exact h
theorem PostG.ext {r : OutS} {Q : L2.St → Hp → Prop} (e : Ext ρ H ρ1 H1) (h : PostG K ρ H r Q) : PostG K ρ1 H1 r Q := by
  cases r with
  | nx d M => exact fun ρ' H' v a b c => h ρ' H' v (e.trans a) b c
  | _ => exact h
theorem Post.bind {r : Out} {k : D → Mem → Out} {Q Q1 : VK} (h : Post K W ρ σ H (r.bind k) Q)
    (f : ∀ d M ρ' H' v, Ext ρ H ρ' H' → MOk K ρ' M H' → RD K ρ' H' d v → Post K W ρ' σ H' (k d M) Q → Q1 v H') : Post K W ρ σ H r Q1 := by
  cases r with
  | ok d M => exact fun ρ' H' v a b c => f d M ρ' H' v a b c (Post.ext a h)
  | ex x M => exact h
  | st => exact h
theorem Post.bindL {r : Out} {k : D → Mem → OutL} {Q : List V → Hp → Prop} {Q1 : VK} (h : PostL K W ρ σ H (r.bindL k) Q)
    (f : ∀ d M ρ' H' v, Ext ρ H ρ' H' → MOk K ρ' M H' → RD K ρ' H' d v → PostL K W ρ' σ H' (k d M) Q → Q1 v H') : Post K W ρ σ H r Q1 := by
  cases r with
  | ok d M => exact fun ρ' H' v a b c => f d M ρ' H' v a b c (PostL.ext a h)
  | ex x M => exact h
  | st => exact h
theorem PostL.bind {r : OutL} {k : List D → Mem → Out} {Q : VK} {Q1 : List V → Hp → Prop} (h : Post K W ρ σ H (r.bind k) Q)
    (f : ∀ d M ρ' H' v, Ext ρ H ρ' H' → MOk K ρ' M H' → RDs K ρ' H' d v → Post K W ρ' σ H' (k d M) Q → Q1 v H') : PostL K W ρ σ H r Q1 := by
  cases r with
  | ok d M => exact fun ρ' H' v a b c => f d M ρ' H' v a b c (Post.ext a h)
  | ex x M => exact h
  | st => exact h
theorem PostL.bindL {r : OutL} {k : List D → Mem → OutL} {Q Q1 : List V → Hp → Prop} (h : PostL K W ρ σ H (r.bindL k) Q)
    (f : ∀ d M ρ' H' v, Ext ρ H ρ' H' → MOk K ρ' M H' → RDs K ρ' H' d v → PostL K W ρ' σ H' (k d M) Q → Q1 v H') : PostL K W ρ σ H r Q1 := by
  cases r with
  | ok d M => exact fun ρ' H' v a b c => f d M ρ' H' v a b c (PostL.ext a h)
  | ex x M => exact h
  | st => exact h
theorem Post.bindS {r : Out} {k : D → Mem → OutS} {E : Ends} {Q1 : VK} (he : RE K ρ H env σ) (h : PostS K W ρ H (r.bindS env k) E)
    (f : ∀ d M ρ' H' v, Ext ρ H ρ' H' → MOk K ρ' M H' → RD K ρ' H' d v → PostS K W ρ' H' (k d M) E → Q1 v H') : Post K W ρ σ H r Q1 := by
  cases r with
  | ok d M => exact fun ρ' H' v a b c => f d M ρ' H' v a b c (PostS.ext a h)
  | ex x M => exact fun ρ' H' dx a b c => h ρ' H' σ dx a b (he.ext a) c
  | st => exact h
theorem PostL.bindS {r : OutL} {k : List D → Mem → OutS} {E : Ends} {Q1 : List V → Hp → Prop} (he : RE K ρ H env σ) (h : PostS K W ρ H (r.bindS env k) E)
    (f : ∀ d M ρ' H' v, Ext ρ H ρ' H' → MOk K ρ' M H' → RDs K ρ' H' d v → PostS K W ρ' H' (k d M) E → Q1 v H') : PostL K W ρ σ H r Q1 := by
  cases r with
  | ok d M => exact fun ρ' H' v a b c => f d M ρ' H' v a b c (PostS.ext a h)
  | ex x M => exact fun ρ' H' dx a b c => h ρ' H' σ dx a b (he.ext a) c
  | st => exact h
end
end DL

namespace DL
open PySem L2

theorem TabF.ext {H H' : Hp} {P : Addr} (t : TabF H P) (k : ∀ b o, H b = some o → ¬ Own o → H' b = some o) : TabF H' P := by
  obtain ⟨ps, h1, h2, h3⟩ := t
  refine ⟨ps, k _ _ h1 id, h2, fun pos cv e => ?_⟩
  obtain ⟨c, e1, o, vs, x, e2, r⟩ := h3 pos cv e
  exact ⟨c, e1, o, vs, x, k _ _ e2 id, r⟩
theorem TabF.upd {H : Hp} {P a : Addr} {w : HO} (t : TabF H P) (h : ∀ u, H a = some u → Own u) : TabF (upd H a w) P := t.ext fun b o e n => by
  rw [upd_ne (fun z => n (h o (by rw [← z]; exact e)))]; exact e
theorem TabF.new {H : Hp} {P a : Addr} {w : HO} (t : TabF H P) (h : H a = none) : TabF (L2.upd H a w) P := t.upd fun u e => by rw [h] at e; cases e
theorem TabF.thaw {H : Hp} {P a : Addr} {w : HO} {od : Obj} {ws : List (Key × V)} (t : TabF H P) (h : H a = some (.frz od (.dK ws))) : TabF (L2.upd H a w) P := by
  obtain ⟨ps, h1, h2, h3⟩ := t
  refine ⟨ps, by rw [upd_ne (fun z => by rw [z, h] at h1; cases h1)]; exact h1, h2, fun pos cv e => ?_⟩
  obtain ⟨c, e1, o, vs, x, e2, r⟩ := h3 pos cv e
  exact ⟨c, e1, o, vs, x, by rw [upd_ne (fun z => by rw [z, h] at e2; cases e2)]; exact e2, r⟩
section
variable {K : Kx} {W : WX} {ρ ρ' ρ1 : List Addr} {σ : L2.St} {H H' H1 : Hp} {env : Env} {M : Mem} {p : Addr} {o u : HO}
theorem FzC.ext {c : Addr} (e : Ext ρ H ρ' H') (h : FzC H c ∧ c ∉ ρ ∧ c ∉ K.φ) : FzC H' c ∧ c ∉ ρ' ∧ c ∉ K.φ := by
  obtain ⟨⟨o, vs, t, h1, r⟩, n1, n2⟩ := h
  exact ⟨⟨o, vs, t, e.keep _ _ h1 n1, r⟩, e.nin h1 n1, n2⟩
theorem MOk.tracked (m : MOk K ρ M H) {a : Addr} (h : a ∈ ρ) : ∃ (l : Nat) (ob : Ob) (u : HO), M[l]? = some ob ∧ ρ[l]? = some a ∧ H a = some u ∧ RO K ρ H a ob u := by
  obtain ⟨l, hl⟩ := List.getElem?_of_mem h
  have h1 : l < ρ.length := (List.getElem?_eq_some_iff.mp hl).1
  have h2 : l < M.length := by have := m.len; omega
  obtain ⟨u, hu, r⟩ := m.at_ l M[l] a (by simp [h2]) hl
  exact ⟨l, M[l], u, by simp [h2], hl, hu, r⟩
theorem MOk.fresh (m : MOk K ρ M H) (h : H p = none) : p ∉ ρ ∧ p ∉ K.φ := by
  constructor
  · intro z
    obtain ⟨_, _, u, _, _, e, _⟩ := m.tracked z
    rw [h] at e; cases e
  · intro z
    obtain ⟨u, e, _⟩ := m.hid p z
    rw [h] at e; cases e
theorem RO.own {a : Addr} {ob : Ob} (r : RO K ρ H a ob u) : Own u := by
  cases ob with
  | lst ds => obtain ⟨_, rfl, _⟩ := r; trivial
  | dic ds => obtain ⟨_, rfl, _⟩ := r; trivial
  | ins c ds => obtain ⟨_, _, rfl, _⟩ := r; trivial
  | dct ds => obtain ⟨_, rfl, _⟩ := r; trivial
  | fnc i => obtain ⟨_, _, _, _, _, rfl, _⟩ := r; trivial
  | exc c fs => obtain ⟨_, _, rfl, _⟩ := r; trivial
theorem MOk.ownAt (m : MOk K ρ M H) {a : Addr} (h : a ∈ ρ ∨ a ∈ K.φ) : ∃ u, H a = some u ∧ Own u := by
  rcases h with h | h
  · obtain ⟨_, _, u, _, _, e, r⟩ := m.tracked h
    exact ⟨u, e, r.own⟩
  · exact m.hid a h
theorem MOk.owned (m : MOk K ρ M H) {a : Addr} (h : a ∈ K.φ) : ∀ v, H a = some v → Own v := fun v e => by
  obtain ⟨v', e', ow⟩ := m.hid a h
  rw [e] at e'; cases e'; exact ow
theorem MOk.nin (m : MOk K ρ M H) {a : Addr} (e : H a = some o) (n : ¬ Own o) : a ∉ ρ ∧ a ∉ K.φ := by
  constructor <;> (intro z; obtain ⟨u, e', ow⟩ := m.ownAt (by first | exact .inl z | exact .inr z); rw [e] at e'; cases e'; exact n ow)
theorem RKs.ext {ds : List (Key × D)} {vs : List (Key × V)} (e : Ext ρ H ρ' H') (h : RKs K ρ H ds vs) : RKs K ρ' H' ds vs := L2.Paired.mapP h fun p q z => ⟨z.1, z.2.ext e⟩
theorem RO.ext {a : Addr} {ob : Ob} (e : Ext ρ H ρ' H') (h : RO K ρ H a ob u) : RO K ρ' H' a ob u := by
  cases ob with
  | lst ds => obtain ⟨xs, rfl, r⟩ := h; exact ⟨xs, rfl, r.ext e⟩
  | dic ds => obtain ⟨xs, rfl, r⟩ := h; exact ⟨xs, rfl, r.ext e⟩
  | ins c ds => obtain ⟨dx, xs, rfl, r⟩ := h; exact ⟨dx, xs, rfl, r.ext e⟩
  | dct ds => obtain ⟨xs, rfl, r⟩ := h; exact ⟨xs, rfl, r.mapR fun _ _ z => z.ext e⟩
  | fnc i => obtain ⟨T, pm, c, ct, h1, h2, r⟩ := h; exact ⟨T, pm, c, ct, h1, h2, FzC.ext e r⟩
  | exc c fs => obtain ⟨d, gs, rfl, x, y, r⟩ := h; exact ⟨d, gs, rfl, fun dx q => ⟨e.keep _ _ (x dx q).1 (x dx q).2.1, e.nin (x dx q).1 (x dx q).2.1, (x dx q).2.2⟩, y, r.ext e⟩
theorem Ext.new (h : H p = none) : Ext ρ H ρ (upd H p o) :=
  ⟨⟨[], by simp, by simp⟩, fun a u e _ _ => by rw [upd_ne (ne_of_none e h)]; exact e, fun a e => by
    by_cases z : a = p
    · subst z; exact h
    · rw [upd_ne z] at e; exact e, fun P t => t.new h⟩
theorem Ext.push (h : H p = none) : Ext ρ H (ρ ++ [p]) (upd H p o) :=
  ⟨⟨[p], rfl, fun a z => by obtain rfl := List.mem_singleton.mp z; exact h⟩, fun a o q n z => (Ext.new (ρ := ρ) h).keep a o q n z, (Ext.new (ρ := ρ) h).live, fun P t => t.new h⟩
theorem MOk.keep (m : MOk K ρ M H) (e : Ext ρ H ρ H') (k : ∀ a ∈ ρ, H' a = H a) (tb : ∀ P ∈ tabsOf K.K, TabF H' P := fun P hP => e.tabs P (m.tab P hP)) : MOk K ρ M H' := by
  refine ⟨m.nd, m.len, fun a z => ?_, fun l ob a h1 h2 => ?_, tb⟩
  · obtain ⟨u, hu, ow⟩ := m.hid a z
    by_cases hr : a ∈ ρ
    · exact ⟨u, by rw [k a hr]; exact hu, ow⟩
    · exact ⟨u, e.keep a u hu hr ow.nt, ow⟩
  · obtain ⟨u, hu, r⟩ := m.at_ l ob a h1 h2
    exact ⟨u, by rw [k a (List.mem_of_getElem? h2)]; exact hu, r.ext e⟩
theorem MOk.new (m : MOk K ρ M H) (h : H p = none) : MOk K ρ M (upd H p o) := m.keep (Ext.new h) (fun a z => upd_ne fun e => (m.fresh h).1 (e ▸ z)) fun P hP => (m.tab P hP).new h
theorem MOk.push {ob : Ob} (m : MOk K ρ M H) (h : H p = none) (r : RO K (ρ ++ [p]) (upd H p u) p ob u) : MOk K (ρ ++ [p]) (M ++ [ob]) (upd H p u) := by
  have fr := m.fresh h
  have e : Ext ρ H (ρ ++ [p]) (upd H p u) := Ext.push h
  refine ⟨?_, by simp [m.len], fun a z => ?_, fun l ob' a h1 h2 => ?_, fun P hP => (m.tab P hP).new h⟩
  · rw [List.nodup_append]
    refine ⟨m.nd, by simp, fun a ha b hb => ?_⟩
    obtain rfl := List.mem_singleton.mp hb
    exact fun z => fr.1 (z ▸ ha)
  · obtain ⟨v, hv, ow⟩ := m.hid a z
    exact ⟨v, by rw [upd_ne (ne_of_none hv h)]; exact hv, ow⟩
  · by_cases hl : l < M.length
    · rw [List.getElem?_append_left hl] at h1
      rw [List.getElem?_append_left (by rw [m.len]; exact hl)] at h2
      obtain ⟨v, hv, r'⟩ := m.at_ l ob' a h1 h2
      exact ⟨v, by rw [upd_ne (ne_of_none hv h)]; exact hv, r'.ext e⟩
    · have hl2 : l < (M ++ [ob]).length := (List.getElem?_eq_some_iff.mp h1).1
      have hl3 : l = M.length := by simp at hl2; omega
      subst hl3
      rw [List.getElem?_concat_length] at h1
      rw [← m.len, List.getElem?_concat_length] at h2
      cases h1; cases h2
      exact ⟨u, upd_same, r⟩
theorem Ext.write {a : Addr} (h : H a ≠ none) (ha : a ∈ ρ) (ow : ∀ v, H a = some v → Own v) : Ext ρ H ρ (upd H a u) :=
  ⟨⟨[], by simp, by simp⟩, fun b v e n _ => by rw [upd_ne (fun z : b = a => n (by rw [z]; exact ha))]; exact e, fun b e => by
    by_cases z : b = a
    · subst z; rw [upd_same] at e; cases e
    · rw [upd_ne z] at e; exact e, fun P t => t.upd ow⟩
theorem MOk.set {l : Nat} {a : Addr} {ob : Ob} (m : MOk K ρ M H) (hl : ρ[l]? = some a) (r : RO K ρ (upd H a u) a ob u) : MOk K ρ (M.set l ob) (upd H a u) := by
  have ha : a ∈ ρ := List.mem_of_getElem? hl
  have hne : H a ≠ none := by
    obtain ⟨v, e, _⟩ := m.ownAt (.inl ha)
    rw [e]; simp
  have e : Ext ρ H ρ (upd H a u) := Ext.write hne ha fun v ev => by
    obtain ⟨v', e', ow⟩ := m.ownAt (.inl ha)
    rw [ev] at e'; cases e'; exact ow
  refine ⟨m.nd, by simp [m.len], fun b z => ?_, fun k ob' b h1 h2 => ?_, fun P hP => (m.tab P hP).upd fun v ev => ?_⟩
  rotate_left 2
  · obtain ⟨v', e', ow⟩ := m.ownAt (.inl ha)
    rw [ev] at e'; cases e'; exact ow
  · obtain ⟨v, hv, ow⟩ := m.hid b z
    by_cases hb : b = a
    · subst hb; exact ⟨u, upd_same, r.own⟩
    · exact ⟨v, by rw [upd_ne hb]; exact hv, ow⟩
  · by_cases hk : k = l
    · subst hk
      rw [hl] at h2; cases h2
      have : k < M.length := by
        have := (List.getElem?_eq_some_iff.mp hl).1
        have := m.len
        omega
      rw [List.getElem?_set_self this] at h1
      cases h1
      exact ⟨u, upd_same, r⟩
    · rw [List.getElem?_set_ne (Ne.symm hk)] at h1
      obtain ⟨v, hv, r'⟩ := m.at_ k ob' b h1 h2
      have hb : b ≠ a := by
        intro z
        subst z
        have h3 := (List.getElem?_eq_some_iff.mp h2).1
        have h4 := (List.getElem?_eq_some_iff.mp hl).1
        apply hk
        have e1 := (List.getElem?_eq_some_iff.mp h2).2
        have e2 := (List.getElem?_eq_some_iff.mp hl).2
        exact (List.getElem_inj m.nd).mp (e1.trans e2.symm)
      exact ⟨v, by rw [upd_ne hb]; exact hv, r'.ext e⟩
structure Hid (K K' : Kx) (H : Hp) : Prop where
  eq : K'.K = K.K
  new : ∀ a, a ∈ K'.φ → a ∈ K.φ ∨ H a = none
theorem Hid.refl : Hid K K H := ⟨rfl, fun _ h => .inl h⟩
theorem Hid.nin {K' : Kx} (h : Hid K K' H) {a : Addr} (e : H a = some o) (n : a ∉ ρ ∧ a ∉ K.φ) : a ∉ ρ ∧ a ∉ K'.φ := ⟨n.1, fun z => by
  rcases h.new a z with z | z
  · exact n.2 z
  · rw [e] at z; cases z⟩
theorem Rd.tracked {a : Addr} (h : Rd H a u) : ∃ o, H a = some o := by
  rcases h with h | ⟨o, h⟩
  · exact ⟨_, h⟩
  · exact ⟨_, h⟩
theorem SqTf.hide {K' : Kx} {a : Addr} {xs : List V} (hh : Hid K K' H) (h : SqTf K ρ H a xs) : SqTf K' ρ H a xs := by
  rcases h with ⟨⟨o, e, d⟩, n⟩ | k
  · exact .inl ⟨⟨o, e, d⟩, hh.nin e n⟩
  · exact .inr (by rw [hh.eq]; exact k)
theorem SqLf.hide {K' : Kx} {a : Addr} {xs : List V} (hh : Hid K K' H) (h : SqLf K ρ H a xs) : SqLf K' ρ H a xs := by
  rcases h with ⟨r, n⟩ | k
  · obtain ⟨o, e⟩ := Rd.tracked r
    exact .inl ⟨r, hh.nin e n⟩
  · exact .inr (by rw [hh.eq]; exact k)
mutual
theorem RD.hide {K' : Kx} (hh : Hid K K' H) : ∀ {d v}, RD K ρ H d v → RD K' ρ H d v
  | _, _, .non => .non
  | _, _, .bl b => .bl b
  | _, _, .int i => .int i
  | _, _, .str x => .str x
  | _, _, .tup h r => .tup (h.hide hh) (RDs.hide hh r)
  | _, _, .itm h n r => .itm h (hh.nin h n) (RDs.hide hh r)
  | _, _, .lst h n r => .lst h (hh.nin h n) (RDs.hide hh r)
  | _, _, .fzl h r => .fzl (h.hide hh) (RDs.hide hh r)
  | _, _, .ref h => .ref h
  | _, _, .glo => by rw [← hh.eq]; exact .glo
  | _, _, .ty n => .ty n
  | _, _, .inst h n r => .inst (by rw [hh.eq]; exact h) (hh.nin h n) (RFs.hide hh r)
  | _, _, .dcv h n r => .dcv h (hh.nin h n) (RKv.hide hh r)
theorem RDs.hide {K' : Kx} (hh : Hid K K' H) : ∀ {ds vs}, RDs K ρ H ds vs → RDs K' ρ H ds vs
  | _, _, .nil => .nil
  | _, _, .cons h t => .cons (RD.hide hh h) (RDs.hide hh t)
theorem RFs.hide {K' : Kx} (hh : Hid K K' H) : ∀ {ds vs}, RFs K ρ H ds vs → RFs K' ρ H ds vs
  | _, _, .nil => .nil
  | _, _, .cons h t => .cons (RD.hide hh h) (RFs.hide hh t)
theorem RKv.hide {K' : Kx} (hh : Hid K K' H) : ∀ {ds vs}, RKv K ρ H ds vs → RKv K' ρ H ds vs
  | _, _, .nil => .nil
  | _, _, .cons h t => .cons (RD.hide hh h) (RKv.hide hh t)
end
theorem RE.hide {K' : Kx} (hh : Hid K K' H) (h : RE K ρ H env σ) : RE K' ρ H env σ := L2.Paired.mapP h fun o p q d hd => by
  obtain ⟨v, hv, r⟩ := q d hd
  exact ⟨v, hv, r.hide hh⟩
theorem RO.hide {K' : Kx} (hh : Hid K K' H) {a : Addr} {ob : Ob} (h : RO K ρ H a ob u) : RO K' ρ H a ob u := by
  cases ob with
  | lst ds => obtain ⟨xs, rfl, r⟩ := h; exact ⟨xs, rfl, r.hide hh⟩
  | dic ds => obtain ⟨xs, rfl, r⟩ := h; exact ⟨xs, rfl, L2.Paired.mapP r fun p q z => ⟨z.1, z.2.hide hh⟩⟩
  | ins c ds => obtain ⟨dx, xs, rfl, r⟩ := h; exact ⟨dx, xs, by rw [hh.eq], r.hide hh⟩
  | dct ds => obtain ⟨xs, rfl, r⟩ := h; exact ⟨xs, rfl, r.mapR fun _ _ z => z.hide hh⟩
  | fnc i => obtain ⟨T, pm, c, ct, h1, h2, ⟨o, vs, t, h3, r⟩, n⟩ := h; exact ⟨T, pm, c, ct, by rw [hh.eq]; exact h1, h2, ⟨o, vs, t, h3, r⟩, hh.nin h3 n⟩
  | exc c fs => obtain ⟨d, gs, rfl, x, y, r⟩ := h; exact ⟨d, gs, by rw [hh.eq], fun dx q => ⟨(x dx q).1, hh.nin (x dx q).1 (x dx q).2⟩, y, r.hide hh⟩
theorem MOk.hide {K' : Kx} (hh : Hid K K' H) (m : MOk K ρ M H) (t : ∀ a, a ∈ K'.φ → ∃ u, H a = some u ∧ Own u) : MOk K' ρ M H :=
  ⟨m.nd, m.len, t, fun l ob a h1 h2 => by
    obtain ⟨u, hu, r⟩ := m.at_ l ob a h1 h2
    exact ⟨u, hu, r.hide hh⟩, by rw [hh.eq]; exact m.tab⟩
section
variable {a : Addr} {w : HO}
theorem Rd.hid {b : Addr} (ha : a ∈ K.φ) (h : Rd H b u) (n : b ∉ ρ ∧ b ∉ K.φ) : Rd (upd H a w) b u := by
  have e : b ≠ a := fun z => n.2 (by rw [z]; exact ha)
  rcases h with h | ⟨o, h⟩
  · exact .inl (by rw [upd_ne e]; exact h)
  · exact .inr ⟨o, by rw [upd_ne e]; exact h⟩
theorem FzT.hid {b : Addr} {xs : List V} (ha : a ∈ K.φ) (h : FzT H b xs) (n : b ∉ ρ ∧ b ∉ K.φ) : FzT (upd H a w) b xs := by
  have e : b ≠ a := fun z => n.2 (by rw [z]; exact ha)
  obtain ⟨o, h, d⟩ := h
  exact ⟨o, by rw [upd_ne e]; exact h, d⟩
mutual
theorem RD.hid (ha : a ∈ K.φ) : ∀ {d v}, RD K ρ H d v → RD K ρ (upd H a w) d v
  | _, _, .non => .non
  | _, _, .bl b => .bl b
  | _, _, .int i => .int i
  | _, _, .str x => .str x
  | _, _, .tup h r => .tup (h.elim (fun z => .inl ⟨FzT.hid ha z.1 z.2, z.2⟩) .inr) (RDs.hid ha r)
  | _, _, .itm h n r => .itm (by rw [upd_ne (fun z => n.2 (by rw [z]; exact ha))]; exact h) n (RDs.hid ha r)
  | _, _, .lst h n r => .lst (by rw [upd_ne (fun z => n.2 (by rw [z]; exact ha))]; exact h) n (RDs.hid ha r)
  | _, _, .fzl h r => .fzl (h.elim (fun z => .inl ⟨Rd.hid ha z.1 z.2, z.2⟩) .inr) (RDs.hid ha r)
  | _, _, .ref h => .ref h
  | _, _, .glo => .glo
  | _, _, .ty n => .ty n
  | _, _, .inst h n r => .inst (by rw [upd_ne (fun z => n.2 (by rw [z]; exact ha))]; exact h) n (RFs.hid ha r)
  | _, _, .dcv h n r => .dcv (by rw [upd_ne (fun z => n.2 (by rw [z]; exact ha))]; exact h) n (RKv.hid ha r)
theorem RDs.hid (ha : a ∈ K.φ) : ∀ {ds vs}, RDs K ρ H ds vs → RDs K ρ (upd H a w) ds vs
  | _, _, .nil => .nil
  | _, _, .cons h t => .cons (RD.hid ha h) (RDs.hid ha t)
theorem RFs.hid (ha : a ∈ K.φ) : ∀ {ds vs}, RFs K ρ H ds vs → RFs K ρ (upd H a w) ds vs
  | _, _, .nil => .nil
  | _, _, .cons h t => .cons (RD.hid ha h) (RFs.hid ha t)
theorem RKv.hid (ha : a ∈ K.φ) : ∀ {ds vs}, RKv K ρ H ds vs → RKv K ρ (upd H a w) ds vs
  | _, _, .nil => .nil
  | _, _, .cons h t => .cons (RD.hid ha h) (RKv.hid ha t)
end
theorem RO.hid (ha : a ∈ K.φ) {b : Addr} {ob : Ob} (h : RO K ρ H b ob u) : RO K ρ (upd H a w) b ob u := by
  cases ob with
  | lst ds => obtain ⟨xs, rfl, r⟩ := h; exact ⟨xs, rfl, r.hid ha⟩
  | dic ds => obtain ⟨xs, rfl, r⟩ := h; exact ⟨xs, rfl, L2.Paired.mapP r fun p q z => ⟨z.1, z.2.hid ha⟩⟩
  | ins c ds => obtain ⟨dx, xs, rfl, r⟩ := h; exact ⟨dx, xs, rfl, r.hid ha⟩
  | dct ds => obtain ⟨xs, rfl, r⟩ := h; exact ⟨xs, rfl, r.mapR fun _ _ z => z.hid ha⟩
  | fnc i => obtain ⟨T, pm, c, ct, h1, h2, ⟨o, vs, t, h3, r⟩, n⟩ := h; exact ⟨T, pm, c, ct, h1, h2, ⟨o, vs, t, by rw [upd_ne (fun z => n.2 (by rw [z]; exact ha))]; exact h3, r⟩, n⟩
  | exc c fs => obtain ⟨d, gs, rfl, x, y, r⟩ := h; exact ⟨d, gs, rfl, fun dx q => ⟨by rw [upd_ne (fun z => (x dx q).2.2 (by rw [z]; exact ha))]; exact (x dx q).1, (x dx q).2⟩, y, r.hid ha⟩
theorem MOk.hid' (ha : a ∈ K.φ) (n : a ∉ ρ) (ow : Own w) (m : MOk K ρ M H) : MOk K ρ M (upd H a w) := by
  refine ⟨m.nd, m.len, fun b z => ?_, fun l ob b h1 h2 => ?_, fun P hP => (m.tab P hP).upd fun v ev => ?_⟩
  rotate_left 2
  · obtain ⟨v', e', ow'⟩ := m.hid a ha
    rw [ev] at e'; cases e'; exact ow'
  · by_cases e : b = a
    · subst e; exact ⟨w, upd_same, ow⟩
    · obtain ⟨v, hv, o⟩ := m.hid b z
      exact ⟨v, by rw [upd_ne e]; exact hv, o⟩
  · obtain ⟨v, hv, r⟩ := m.at_ l ob b h1 h2
    exact ⟨v, by rw [upd_ne (fun z : b = a => n (by rw [← z]; exact List.mem_of_getElem? h2))]; exact hv, r.hid ha⟩
end
theorem RDs.length {ds : List D} {vs : List V} (h : RDs K ρ H ds vs) : ds.length = vs.length := by
  induction ds generalizing vs with
  | nil => cases h; rfl
  | cons d ds ih => cases h with | cons a b => simp [ih b]
theorem RDs.get {ds : List D} {vs : List V} (h : RDs K ρ H ds vs) {i : Nat} {d : D} (e : ds[i]? = some d) : ∃ v, vs[i]? = some v ∧ RD K ρ H d v := by
  induction ds generalizing vs i with
  | nil => simp at e
  | cons x ds ih => cases h with
    | cons a b =>
      cases i with
      | zero => simp at e; subst e; exact ⟨_, rfl, a⟩
      | succ i => exact ih b (by simpa using e)
theorem RDs.append {ds es : List D} {vs ws : List V} (h : RDs K ρ H ds vs) (h2 : RDs K ρ H es ws) : RDs K ρ H (ds ++ es) (vs ++ ws) := by
  induction ds generalizing vs with
  | nil => cases h; exact h2
  | cons x ds ih => cases h with | cons a b => exact .cons a (ih b)
theorem RDs.set {ds : List D} {vs : List V} {d : D} {v : V} (h : RDs K ρ H ds vs) (r : RD K ρ H d v) (i : Nat) : RDs K ρ H (ds.set i d) (vs.set i v) := by
  induction ds generalizing vs i with
  | nil => cases h; exact .nil
  | cons x ds ih => cases h with
    | cons a b =>
      cases i with
      | zero => exact .cons r b
      | succ i => exact .cons a (ih b i)
theorem RDs.take {ds : List D} {vs : List V} (h : RDs K ρ H ds vs) (n : Nat) : RDs K ρ H (ds.take n) (vs.take n) := by
  induction ds generalizing vs n with
  | nil => cases h; simp; exact .nil
  | cons x ds ih => cases h with
    | cons a b =>
      cases n with
      | zero => exact .nil
      | succ n => exact .cons a (ih b n)
theorem RDs.drop {ds : List D} {vs : List V} (h : RDs K ρ H ds vs) (n : Nat) : RDs K ρ H (ds.drop n) (vs.drop n) := by
  induction ds generalizing vs n with
  | nil => cases h; simp; exact .nil
  | cons x ds ih => cases h with
    | cons a b =>
      cases n with
      | zero => exact .cons a b
      | succ n => exact ih b n
theorem RDs.reverse {ds : List D} {vs : List V} (h : RDs K ρ H ds vs) : RDs K ρ H ds.reverse vs.reverse := by
  induction ds generalizing vs with
  | nil => cases h; exact .nil
  | cons x ds ih => cases h with
    | cons a b => simp only [List.reverse_cons]; exact (ih b).append (.cons a .nil)
theorem RE.length (h : RE K ρ H env σ) : env.length = σ.length := Paired.length h
theorem RE.get {i : Nat} {d : D} (h : RE K ρ H env σ) (e : env[i]? = some (some d)) : ∃ v, σ[i]? = some (some v) ∧ RD K ρ H d v := by
  unfold RE at h; induction h generalizing i with
  | nil => simp at e
  | cons a b ih =>
    cases i with
    | zero =>
      simp at e
      obtain ⟨v, hv, r⟩ := a d e
      exact ⟨v, by simp [hv], r⟩
    | succ i => exact ih (by simpa using e)
theorem RE.set {i : Nat} {d : D} {v : V} (h : RE K ρ H env σ) (r : RD K ρ H d v) : RE K ρ H (env.set i (some d)) (σ.set i (some v)) := by
  unfold RE at h ⊢; induction h generalizing i with
  | nil => exact .nil
  | cons a b ih =>
    cases i with
    | zero => exact .cons (fun d' e => by cases e; exact ⟨v, rfl, r⟩) b
    | succ i => exact .cons a ih
theorem RE.wipe1 {i : Nat} {q : Option V} (h : RE K ρ H env σ) : RE K ρ H (env.set i none) (σ.set i q) := by
  unfold RE at h ⊢; induction h generalizing i with
  | nil => exact .nil
  | cons a b ih =>
    cases i with
    | zero => exact .cons (fun d' e => by cases e) b
    | succ i => exact .cons a ih
def derefL (M : Mem) : D → Option (List D)
  | .lst xs => some xs
  | .fzl xs => some xs
  | .ref l => match M[l]? with
    | some (.lst xs) => some xs
    | _ => none
  | _ => none
theorem derefL_ok {d : D} {v : V} {ds : List D} (m : MOk K ρ M H) (r : RD K ρ H d v) (e : derefL M d = some ds) : ∃ a xs, v = .ref a ∧ SqL K.K H a xs ∧ RDs K ρ H ds xs := by
  cases r with
  | lst h n r => cases e; exact ⟨_, _, rfl, .inl (.inl h), r⟩
  | fzl h r => cases e; exact ⟨_, _, rfl, h.sq, r⟩
  | ref h =>
    rename_i l a
    have e' : (match M[l]? with | some (.lst xs) => some xs | _ => none) = some ds := e
    split at e'
    · rename_i xs hx
      cases e'
      obtain ⟨u, hu, q⟩ := m.at_ _ _ _ hx h
      obtain ⟨ys, rfl, r⟩ := q
      exact ⟨_, _, rfl, .inl (.inl hu), r⟩
    · cases e'
  | _ => cases e
def derefW (M : Mem) : D → Option (List D)
  | .lst xs => some xs
  | .ref l => match M[l]? with
    | some (.lst xs) => some xs
    | _ => none
  | _ => none
theorem derefW_ok {d : D} {v : V} {ds : List D} (m : MOk K ρ M H) (r : RD K ρ H d v) (e : derefW M d = some ds) : ∃ a xs, v = .ref a ∧ H a = some (.lst xs) ∧ RDs K ρ H ds xs := by
  cases r with
  | lst h n r => cases e; exact ⟨_, _, rfl, h, r⟩
  | ref h =>
    rename_i l a
    have e' : (match M[l]? with | some (.lst xs) => some xs | _ => none) = some ds := e
    split at e'
    · rename_i xs hx
      cases e'
      obtain ⟨u, hu, q⟩ := m.at_ _ _ _ hx h
      obtain ⟨ys, rfl, r⟩ := q
      exact ⟨_, _, rfl, hu, r⟩
    · cases e'
  | _ => cases e
end
end DL

namespace DL
open PySem L2

def eVar (i : Nat) : Ev := fun env M => match env[i]? with
  | some (some d) => .ok d M
  | _ => .st
def eC (d : D) : Ev := fun _ M => .ok d M
def aNil : EvL := fun _ M => .ok [] M
def aCons (f : Ev) (g : EvL) : EvL := fun env M => (f env M).bindL fun d M => (g env M).bindL fun ds M => .ok (d :: ds) M
def eTup (f : EvL) : Ev := fun env M => (f env M).bind fun ds M => .ok (.tup ds) M
def eLst (f : EvL) : Ev := fun env M => (f env M).bind fun ds M => .ok (.lst ds) M
def eNew (f : EvL) : Ev := fun env M => (f env M).bind fun ds M => .ok (.ref M.length) (M ++ [.lst ds])
def eNewD : Ev := fun env M => .ok (.ref M.length) (M ++ [.dic []])

section
variable {X : Cx} {W : WX} {pos : Pos}
theorem de_var (i : Nat) {x : Str} (hN : X.N[i]? = some x := by rfl) (hv : Vis X.env.scope x := by first | exact Or.inl rfl | exact Or.inr (Or.inl rfl) | exact Or.inr (Or.inr rfl)) (hd : (x == ("__debug__" : Str)) = false := by decide)
    (hcd : (x == ("__classdict__" : Str)) = false := by decide) : DE X W (.Name x pos) (eVar i) := by
  refine ⟨tVar i, pe_var hN hv hd hcd, fun φ ρ env M σ H Q e m h => ?_⟩
  unfold eVar at h
  split at h
  · rename_i d hd
    obtain ⟨v, hv, r⟩ := e.get hd
    exact ⟨v, hv, h _ _ _ .refl m r⟩
  · exact h.elim
theorem de_int {i j} : DE X W (.Constant (.int i) j pos) (eC (.int i)) := ⟨_, pe_int, fun φ ρ env M σ H Q e m h => h _ _ _ .refl m (.int i)⟩
theorem de_bl {b j} : DE X W (.Constant (.bool b) j pos) (eC (.bl b)) := ⟨_, pe_bl, fun φ ρ env M σ H Q e m h => h _ _ _ .refl m (.bl b)⟩
theorem de_non {j} : DE X W (.Constant .none j pos) (eC .non) := ⟨_, pe_non, fun φ ρ env M σ H Q e m h => h _ _ _ .refl m .non⟩
theorem de_str {x j} : DE X W (.Constant (.str x) j pos) (eC (.str x)) := ⟨_, pe_str, fun φ ρ env M σ H Q e m h => h _ _ _ .refl m (.str x)⟩
theorem de_glo {x : Str} (hg : Gl X x) (hm : X.mg x = some (.ref (gadr X.K x))) (hd : (x == ("__debug__" : Str)) = false := by decide) : DE X W (.Name x pos) (eC (.glo x)) :=
  ⟨_, pe_glob hg hm (show RelV (.ref (gadr X.K x)) _ from rfl) hd, fun φ ρ env M σ H Q e m h => h _ _ _ .refl m .glo⟩
theorem da_nil : DA X W [] aNil := ⟨_, pa_nil, fun env M ds M' h => by cases h; rfl, fun φ ρ env M σ H Q e m h => h _ _ _ .refl m .nil⟩
theorem da_cons {a : Expr} {es : List Expr} {f : Ev} {g : EvL} (ha : DE X W a f) (hg : DA X W es g) (hs : starEach (a :: es) X.env = (false, eval a X.env) :: starEach es X.env := by rfl) : DA X W (a :: es) (aCons f g) := by
  obtain ⟨ta, pa, sa⟩ := ha
  obtain ⟨tg, pg, lg, sg⟩ := hg
  refine ⟨_, pa_cons pa pg hs, fun env M ds M' h => ?_, fun φ ρ env M σ H Q e m h => ?_⟩
  · unfold aCons at h
    cases h1 : f env M with
    | ok d M1 =>
      rw [h1] at h
      cases h2 : g env M1 with
      | ok ds2 M2 =>
        have h' : ((g env M1).bindL fun ds M => .ok (d :: ds) M) = .ok ds M' := h
        rw [h2] at h'
        cases h'
        simp [lg _ _ _ _ h2]
      | ex x M2 =>
        have h' : ((g env M1).bindL fun ds M => .ok (d :: ds) M) = .ok ds M' := h
        rw [h2] at h'
        cases h'
      | st =>
        have h' : ((g env M1).bindL fun ds M => .ok (d :: ds) M) = .ok ds M' := h
        rw [h2] at h'
        cases h'
    | ex x M1 => rw [h1] at h; cases h
    | st => rw [h1] at h; cases h
  · refine sa φ ρ env M σ H _ e m (Post.bindL h fun d M1 ρ1 H1 v a b c h1 => ?_)
    refine sg φ ρ1 env M1 σ H1 _ (e.ext a) b (PostL.bindL h1 fun ds M2 ρ2 H2 vs a2 b2 c2 h2 => ?_)
    exact h2 _ _ _ .refl b2 (.cons (c.ext a2) c2)
def tTupF (t : TA) : TE := fun σ H Q => t σ H fun xs H1 => xs.length ≤ sizeLine ∧ ∀ p o, H1 p = none → o.dict = none → Q (.ref p) (upd H1 p (.frz o (.tup xs)))
theorem lay_tup {pins : List (Addr × Obj)} {σ : L2.St} {H : Hp} {s : Shared} {xs : List V} {us : List Value} {Q : VK} (I : Inv X pins σ H s) (r : Vals xs us) (z : xs.length ≤ sizeLine)
    (q : ∀ p o, H p = none → o.dict = none → Q (.ref p) (upd H p (.frz o (.tup xs)))) : EP X pins σ Q (.ref s.heap.objs.size) { s with heap := s.heap.push { cls := .type "tuple", data := .seq us.toArray } } := by
  have at_ : (s.heap.push { cls := .type "tuple", data := .seq us.toArray }).get? s.heap.objs.size = some { cls := .type "tuple", data := .seq us.toArray } := Heap.get?_push_size _ rfl
  have lay : ObjOk X.prog X.w (upd H s.heap.objs.size (.frz { cls := .type "tuple", data := .seq us.toArray } (.tup xs))) (s.heap.push { cls := .type "tuple", data := .seq us.toArray }) s.heap.objs.size (.frz { cls := .type "tuple", data := .seq us.toArray } (.tup xs)) :=
    ⟨at_, z, us, r, _, at_, rfl, _, rfl⟩
  exact ⟨.ref s.heap.objs.size, _, I.laid (t' := s.toks) (fun b u e => Heap.get?_push_of_some _ e) (Nat.le_refl _) lay, rfl, q _ _ (I.hok.fresh (Nat.le_refl _)) rfl⟩
theorem pe_tupF {es : List Expr} {t : TA} {x1} (h : PA X es t) : PE X (.Tuple es x1 pos) (tTupF t) := by
  refine ⟨fun pins s σ H Q I hq => wpAny_Tuple_spliced (thn (h.run pos pins s σ H _ I hq) ?_)⟩
  rintro us s1 ⟨xs, H1, I1, r, z, q⟩
  exact ⟨by rw [← r.length]; exact z, lay_tup I1 r z q⟩
theorem frz_tup {K : Kx} {ρ : List Addr} {H : Hp} {M : Mem} {p : Addr} {o : Obj} {ds : List D} {xs : List V} (m : MOk K ρ M H) (h : H p = none) (d : o.dict = none) (r : RDs K ρ H ds xs) : RD K ρ (upd H p (.frz o (.tup xs))) (.tup ds) (.ref p) :=
  .tup (.inl ⟨⟨o, upd_same, d⟩, m.fresh h⟩) (r.ext (.new h))
theorem de_tup {es : List Expr} {f : EvL} {x1} (h : DA X W es f) (hl : es.length ≤ sizeLine := by show _ ≤ 16777216; decide) : DE X W (.Tuple es x1 pos) (eTup f) := by
  obtain ⟨t, p, l, s⟩ := h
  refine ⟨_, pe_tupF p, fun φ ρ env M σ H Q e m h => ?_⟩
  unfold eTup at h
  cases hf : f env M with
  | ok ds M1 =>
    rw [hf] at h
    refine s φ ρ env M σ H _ e m ?_
    rw [hf]
    intro ρ1 H1 vs a b c
    exact ⟨by rw [← c.length, l _ _ _ _ hf]; exact hl, fun p o hp d => h _ _ _ (a.trans (.new hp)) (b.new hp) (frz_tup b hp d c)⟩
  | ex x M1 =>
    rw [hf] at h
    refine s φ ρ env M σ H _ e m ?_
    rw [hf]
    exact h
  | st => rw [hf] at h; exact h.elim
theorem de_lst {es : List Expr} {f : EvL} (h : DA X W es f) (hl : es.length ≤ sizeLine := by show _ ≤ 16777216; decide) : DE X W (.List es pos) (eLst f) := by
  obtain ⟨t, p, l, s⟩ := h
  refine ⟨_, pe_lst p, fun φ ρ env M σ H Q e m h => ?_⟩
  unfold eLst at h
  cases hf : f env M with
  | ok ds M1 =>
    rw [hf] at h
    refine s φ ρ env M σ H _ e m ?_
    rw [hf]
    intro ρ1 H1 vs a b c
    refine ⟨by rw [← c.length, l _ _ _ _ hf]; exact hl, fun p hp => ?_⟩
    have ex : Ext ρ1 H1 ρ1 (upd H1 p (.lst vs)) := .new hp
    exact h _ _ _ (a.trans ex) (b.new hp) (.lst upd_same (b.fresh hp) (c.ext ex))
  | ex x M1 =>
    rw [hf] at h
    refine s φ ρ env M σ H _ e m ?_
    rw [hf]
    exact h
  | st => rw [hf] at h; exact h.elim
theorem de_new {es : List Expr} {f : EvL} (h : DA X W es f) (hl : es.length ≤ sizeLine := by show _ ≤ 16777216; decide) : DE X W (.List es pos) (eNew f) := by
  obtain ⟨t, p, l, s⟩ := h
  refine ⟨_, pe_lst p, fun φ ρ env M σ H Q e m h => ?_⟩
  unfold eNew at h
  cases hf : f env M with
  | ok ds M1 =>
    rw [hf] at h
    refine s φ ρ env M σ H _ e m ?_
    rw [hf]
    intro ρ1 H1 vs a b c
    refine ⟨by rw [← c.length, l _ _ _ _ hf]; exact hl, fun p hp => ?_⟩
    have ex : Ext ρ1 H1 (ρ1 ++ [p]) (upd H1 p (.lst vs)) := .push hp
    refine h _ _ _ (a.trans ex) (b.push hp ⟨vs, rfl, c.ext ex⟩) (.ref ?_)
    rw [← b.len, List.getElem?_concat_length]
  | ex x M1 =>
    rw [hf] at h
    refine s φ ρ env M σ H _ e m ?_
    rw [hf]
    exact h
  | st => rw [hf] at h; exact h.elim
end

abbrev Op2 := D → D → Mem → Out
def OpD (X : Cx) (W : WX) (f : Value → Value → Sem Value) (g : Op2) : Prop :=
  ∃ r, OpR X f r ∧ ∀ φ ρ M (σ : L2.St) H x y vx vy Q, MOk ⟨X.K, φ⟩ ρ M H → RD ⟨X.K, φ⟩ ρ H x vx → RD ⟨X.K, φ⟩ ρ H y vy → Post ⟨X.K, φ⟩ W ρ σ H (g x y M) Q → r vx vy H Q
def Out.or : Out → Out → Out
  | .st, r => r
  | r, _ => r
def gOr (g1 g2 : Op2) : Op2 := fun x y M => (g1 x y M).or (g2 x y M)
def gInt (c : Int → Int → Bool) (h : Int → Int → D) : Op2 := fun x y M => match x, y with
  | .int i, .int j => if c i j then .ok (h i j) M else .st
  | _, _ => .st
def gI (h : Int → Int → D) : Op2 := fun x y M => match x, y with
  | .int i, .int j => .ok (h i j) M
  | _, _ => .st
def eOp (g : Op2) (fa fb : Ev) : Ev := fun env M => (fa env M).bind fun x M => (fb env M).bind fun y M => g x y M
mutual
def toP : D → Option PyData
  | .non => some .none
  | .bl b => some (.bool b)
  | .int i => some (.int i)
  | .str x => some (.str x)
  | .tup xs => (toPs xs).map .tuple
  | .itm xs => (toPs xs).map .tuple
  | .lst xs => (toPs xs).map .list
  | .fzl xs => (toPs xs).map .list
  | .ref _ => none
  | .glo _ => none
  | .ty _ => none
  | .inst _ _ => none
  | .dcv _ => none
def toPs : List D → Option (List PyData)
  | [] => some []
  | x :: xs => match toP x, toPs xs with
    | some p, some ps => some (p :: ps)
    | _, _ => none
end
def eqD (x y : D) : Option Bool := match toP x, toP y with
  | some d, some e => if SeqAt.shaped d && SeqAt.shaped e then some (PyData.eqv d e) else none
  | _, _ => none
def valD (M : Mem) : D → D
  | .ref l => match M[l]? with
    | some (.lst xs) => .lst xs
    | _ => .ref l
  | d => d
def eqDS (x y : D) : Option Bool := match x, y with
  | .dcv _, .str _ => some false
  | _, _ => none
def gEq : Op2 := fun x y M => match eqD (valD M x) (valD M y) with
  | some b => .ok (.bl b) M
  | none => match eqDS x y with
    | some b => .ok (.bl b) M
    | none => .st
def gNe : Op2 := fun x y M => match eqD (valD M x) (valD M y) with
  | some b => .ok (.bl (!b)) M
  | none => .st
def isNon : D → Bool
  | .non => true
  | _ => false
def gIsN : Op2 := fun x y M => match y with
  | .non => .ok (.bl (isNon x)) M
  | _ => .st
section
variable {X : Cx} {W : WX} {pos : Pos} {a b c : Expr} {fa fb fc : Ev} {g g' : Op2}
theorem OpD.or {f : Value → Value → Sem Value} (h1 : OpD X W f g) (h2 : OpD X W f g') : OpD X W f (gOr g g') := by
  obtain ⟨r1, o1, s1⟩ := h1
  obtain ⟨r2, o2, s2⟩ := h2
  refine ⟨_, o1.or o2, fun φ ρ M σ H x y vx vy Q m rx ry h => ?_⟩
  unfold gOr at h
  cases hg : g x y M with
  | st =>
    rw [hg] at h
    exact .inr (s2 φ ρ M σ H x y vx vy Q m rx ry h)
  | ok d M1 =>
    rw [hg] at h
    exact .inl (s1 φ ρ M σ H x y vx vy Q m rx ry (by rw [hg]; exact h))
  | ex z M1 =>
    rw [hg] at h
    exact .inl (s1 φ ρ M σ H x y vx vy Q m rx ry (by rw [hg]; exact h))
theorem opd_int {f : Value → Value → Sem Value} {C : Int → Int → Prop} {h : Int → Int → V} {h' : Int → Int → D} {c : Int → Int → Bool} (o : OpR X f (rI C h)) (hc : ∀ i j, c i j = true → C i j) (hr : ∀ k ρ H i j, RD k ρ H (h' i j) (h i j)) : OpD X W f (gInt c h') := by
  refine ⟨_, o, fun φ ρ M σ H x y vx vy Q m rx ry h => ?_⟩
  cases rx with
  | int i =>
    cases ry with
    | int j =>
      have h : Post _ W ρ σ H (if c i j = true then .ok (h' i j) M else .st) Q := h
      by_cases z : c i j = true
      · rw [if_pos z] at h
        exact ⟨i, j, rfl, rfl, hc i j z, h _ _ _ .refl m (hr ..)⟩
      · rw [if_neg z] at h; exact h.elim
    | _ => exact h.elim
  | _ => cases ry <;> exact h.elim
theorem opd_i {f : Value → Value → Sem Value} {h : Int → Int → V} {h' : Int → Int → D} (o : OpR X f (rI0 h)) (hr : ∀ k ρ H i j, RD k ρ H (h' i j) (h i j)) : OpD X W f (gI h') := by
  refine ⟨_, o, fun φ ρ M σ H x y vx vy Q m rx ry h => ?_⟩
  cases rx with
  | int i =>
    cases ry with
    | int j => exact ⟨i, j, rfl, rfl, h _ _ _ .refl m (hr ..)⟩
    | _ => exact h.elim
  | _ => cases ry <;> exact h.elim
abbrev gAddI : Op2 := gI fun i j => .int (i + j)
abbrev gSubI : Op2 := gI fun i j => .int (i - j)
abbrev gLt : Op2 := gI fun i j => .bl (decide (i < j))
abbrev gLe : Op2 := gI fun i j => .bl (decide (i ≤ j))
abbrev gGt : Op2 := gI fun i j => .bl (decide (j < i))
abbrev gGe : Op2 := gI fun i j => .bl (decide (j ≤ i))
def cMulW (i j : Int) : Bool := decide (i.natAbs.log2 + j.natAbs.log2 < 1000000)
def cMul (i j : Int) : Bool := decide ((-(2 ^ 64) < i ∧ i < 2 ^ 64) ∨ (-(2 ^ 64) < j ∧ j < 2 ^ 64)) || cMulW i j
def cDivW (i j : Int) : Bool := decide (0 < j ∧ j.natAbs.log2 < 9000)
def cPos (i j : Int) : Bool := decide (0 < j)
def cPow (i j : Int) : Bool := decide (0 ≤ j ∧ j ≤ 1000000 ∧ i.natAbs < 2 ^ 64)
abbrev gMulI : Op2 := gInt cMul fun i j => .int (i * j)
abbrev gDivI : Op2 := gInt cDivW fun i j => .int (i / j)
abbrev gModI : Op2 := gInt cPos fun i j => .int (i % j)
abbrev gPowI : Op2 := gInt cPow fun i j => .int (i ^ j.toNat)
theorem opd_addI : OpD X W (binaryOp .Add) gAddI := opd_i op_add fun _ _ _ _ _ => .int _
theorem opd_lt : OpD X W (compareOp .Lt) gLt := opd_i op_lt fun _ _ _ _ _ => .bl _
theorem opd_gt : OpD X W (compareOp .Gt) gGt := opd_i op_gt fun _ _ _ _ _ => .bl _
theorem opd_ge : OpD X W (compareOp .GtE) gGe := opd_i op_ge fun _ _ _ _ _ => .bl _
theorem op_mul2 : OpR X (binaryOp .Mult) (rI (fun i j => CMul i j ∨ CMulW i j) fun i j => .int (i * j)) := by
  intro pins s σ H x y
  intro v u Q I rx ry h
  obtain ⟨i, j, e1, e2, hc, q⟩ := h
  rcases hc with hc | hc
  · exact op_mul pins s σ H x y v u Q I rx ry ⟨i, j, e1, e2, hc, q⟩
  · exact op_mulW pins s σ H x y v u Q I rx ry ⟨i, j, e1, e2, hc, q⟩
theorem opd_mulI : OpD X W (binaryOp .Mult) gMulI := opd_int op_mul2 (fun i j h => by
  unfold cMul at h
  rcases Bool.or_eq_true_iff.1 h with h | h
  · exact .inl (of_decide_eq_true (p := (-(2 ^ 64) < i ∧ i < 2 ^ 64) ∨ (-(2 ^ 64) < j ∧ j < 2 ^ 64)) h)
  · exact .inr (of_decide_eq_true (p := i.natAbs.log2 + j.natAbs.log2 < 1000000) h)) fun _ _ _ _ _ => .int _
theorem opd_divI : OpD X W (binaryOp .FloorDiv) gDivI := opd_int op_fdivW (fun i j h => of_decide_eq_true (p := 0 < j ∧ j.natAbs.log2 < 9000) h) fun _ _ _ _ _ => .int _
theorem opd_modI : OpD X W (binaryOp .Mod) gModI := opd_int op_mod (fun i j h => of_decide_eq_true h) fun _ _ _ _ _ => .int _
theorem opd_powI : OpD X W (binaryOp .Pow) gPowI := opd_int op_pow (fun i j h => of_decide_eq_true (p := 0 ≤ j ∧ j ≤ 1000000 ∧ i.natAbs < 2 ^ 64) h) fun _ _ _ _ _ => .int _
mutual
theorem toP_dp {k : Kx} {ρ : List Addr} {H : Hp} : ∀ {d : D} {v : V} {p : PyData}, RD k ρ H d v → toP d = some p → Dp k.K H v p
  | .non, _, _, .non, e => by simp [toP] at e; subst e; exact .non
  | .bl b, _, _, .bl _, e => by simp [toP] at e; subst e; exact .bl b
  | .int b, _, _, .int _, e => by simp [toP] at e; subst e; exact .int b
  | .str b, _, _, .str _, e => by simp [toP] at e; subst e; exact .str b
  | .tup xs, _, _, .tup h r, e => by
    simp only [toP, Option.map_eq_some_iff] at e
    obtain ⟨ps, e, rfl⟩ := e
    exact .tup h.sq (toPs_dp r e)
  | .itm xs, _, _, .itm h n r, e => by
    simp only [toP, Option.map_eq_some_iff] at e
    obtain ⟨ps, e, rfl⟩ := e
    exact .tup (.inl (.inl h)) (toPs_dp r e)
  | .lst xs, _, _, .lst h n r, e => by
    simp only [toP, Option.map_eq_some_iff] at e
    obtain ⟨ps, e, rfl⟩ := e
    exact .lst (.inl (.inl h)) (toPs_dp r e)
  | .fzl xs, _, _, .fzl h r, e => by
    simp only [toP, Option.map_eq_some_iff] at e
    obtain ⟨ps, e, rfl⟩ := e
    exact .lst h.sq (toPs_dp r e)
  | .ref _, _, _, .ref _, e => by simp [toP] at e
  | .glo _, _, _, .glo, e => by simp [toP] at e
  | .ty _, _, _, .ty _, e => by simp [toP] at e
  | .inst _ _, _, _, .inst _ _ _, e => by simp [toP] at e
  | .dcv _, _, _, .dcv _ _ _, e => by simp [toP] at e
theorem toPs_dp {k : Kx} {ρ : List Addr} {H : Hp} : ∀ {d : List D} {v : List V} {p : List PyData}, RDs k ρ H d v → toPs d = some p → DpAll k.K H v p
  | [], _, _, .nil, e => by simp [toPs] at e; subst e; exact .nil
  | x :: xs, _, _, .cons h t, e => by
    simp only [toPs] at e
    split at e
    · rename_i h1 h2
      cases e
      exact .cons (toP_dp h h1) (toPs_dp t h2)
    · cases e
end
theorem valD_dp {k : Kx} {ρ : List Addr} {H : Hp} {M : Mem} {d : D} {v : V} {p : PyData} (m : MOk k ρ M H) (r : RD k ρ H d v) (e : toP (valD M d) = some p) : Dp k.K H v p := by
  cases r with
  | ref h =>
    rename_i l a
    have e' : toP (match M[l]? with | some (.lst xs) => .lst xs | _ => .ref l) = some p := e
    split at e'
    · rename_i xs hx
      simp only [toP, Option.map_eq_some_iff] at e'
      obtain ⟨ps, e', rfl⟩ := e'
      obtain ⟨u, hu, q⟩ := m.at_ _ _ _ hx h
      obtain ⟨ys, rfl, r⟩ := q
      exact .lst (.inl (.inl hu)) (toPs_dp r e')
    · simp [toP] at e'
  | non => exact toP_dp (k := k) (ρ := ρ) .non e
  | bl b => exact toP_dp (k := k) (ρ := ρ) (.bl b) e
  | int b => exact toP_dp (k := k) (ρ := ρ) (.int b) e
  | str b => exact toP_dp (k := k) (ρ := ρ) (.str b) e
  | tup h r => exact toP_dp (k := k) (ρ := ρ) (.tup h r) e
  | itm h n r => exact toP_dp (k := k) (ρ := ρ) (.itm h n r) e
  | lst h n r => exact toP_dp (k := k) (ρ := ρ) (.lst h n r) e
  | fzl h r => exact toP_dp (k := k) (ρ := ρ) (.fzl h r) e
  | glo => exact toP_dp (k := k) (ρ := ρ) .glo e
  | ty n => exact toP_dp (k := k) (ρ := ρ) (.ty n) e
  | inst h n r => exact toP_dp (k := k) (ρ := ρ) (.inst h n r) e
  | dcv h n r => exact toP_dp (k := k) (ρ := ρ) (.dcv h n r) e
theorem eqD_some {x y : D} {b : Bool} (h : eqD x y = some b) : ∃ d e, toP x = some d ∧ toP y = some e ∧ SeqAt.shaped d = true ∧ SeqAt.shaped e = true ∧ PyData.eqv d e = b := by
  unfold eqD at h
  split at h
  · rename_i d e h1 h2
    split at h
    · rename_i h3
      simp only [Bool.and_eq_true] at h3
      exact ⟨d, e, h1, h2, h3.1, h3.2, Option.some.inj h⟩
    · cases h
  · cases h
open PyProof.Rows PySem.Spec in
theorem dict_no_str (l : Addr) (c : Value) (es : Array DictEntry) (n : Nat) (dd : Option Addr) (sl : Array (Option Value)) (b : Str) (u : Tok) :
    Meets (Builtin.«dict.__eq__» ⟨[.ref l, .str b u], []⟩) (fun _ R s => s.heap.get? l = some { cls := c, dict := dd, data := .dict es n, slots := sl } ∧ R (.ok (.ret .notImplemented)) s) :=
  .of_wp fun _ _ _ R s h => by
    (obtain ⟨hp, g, d, tk, os⟩ := s)
    obtain ⟨hl, h⟩ := h
    wp_walk using PySem.AutoSeq1.wpAny_loadPart' hl, wpAny_load hl
    refine wpAny_of_eq PySem.F.sub_str_dict ?_
    exact wpAny_bind (wpAny_rule (wpAny_pure ⟨_, rfl, h⟩))
open PyProof.Rows PySem.Spec in
theorem str_no_dict (l : Addr) (c : Value) (es : Array DictEntry) (n : Nat) (dd : Option Addr) (sl : Array (Option Value)) (b : Str) (u : Tok) :
    Meets (Builtin.«str.__eq__» ⟨[.str b u, .ref l], []⟩) (fun _ R s => s.heap.get? l = some { cls := c, dict := dd, data := .dict es n, slots := sl } ∧ R (.ok (.ret .notImplemented)) s) :=
  .of_wp fun _ _ _ R s h => by
    (obtain ⟨hp, g, d, tk, os⟩ := s)
    obtain ⟨hl, h⟩ := h
    wp_walk using PySem.AutoSeq1.wpAny_loadPart' hl, wpAny_load hl
    exact ⟨_, rfl, h⟩
def rEqDS : V → V → Hp → VK → Prop := fun x y H Q => ∃ a kvs t, x = .ref a ∧ y = .str t ∧ H a = some (.dK kvs) ∧ Q (.bl false) H
theorem op_eqDS (hu : X.A.units + 64 < cLine) : OpR X (compareOp .Eq) rEqDS := by
  (intro pins s σ H x y v u Q I rx ry h)
  obtain ⟨a, kvs, t, rfl, rfl, ha, q⟩ := h
  cases rx
  obtain ⟨tk, rfl⟩ := ry
  obtain ⟨hz, hs, ws, kv, hdo⟩ := dk_of I.hok ha
  obtain ⟨o, es, ep, h1, h2, h3, _, h5, _⟩ := hdo
  obtain ⟨cls, dd, data, sl⟩ := o
  obtain ⟨c1, c2, c3⟩ := h2
  simp only at c1 c2 c3 h3
  subst c1; subst c2; subst c3; subst h3
  have hu' : X.A.units < cLine := by omega
  have fin : EP X pins σ Q (.bool false) s := ⟨.bl false, H, I, rfl, q⟩
  show wpAny _ _ (richCompare .Eq (.ref a) (.str t tk)) _ _ s
  exact PySem.SeqAt.rc_eq_decline_or (k := false) ⟨_, h1, rfl⟩ (typeIs_str s t tk) (by decide) PySem.F.sub_str_dict PySem.F.slot_dict_eq PySem.F.slot_str_eq_refl
    (fun _ hq => call_meets PySem.F.slot_dict_eq ⟨_, h1, rfl⟩ PySem.F.entry_dict_eq (PySem.F.args_dict_eq_2 _ _) (dict_no_str a _ es ep none _ t tk) ⟨h1, hq⟩)
    (fun _ hq => call_meets PySem.F.slot_str_eq_refl (typeIs_str s t tk) PySem.F.entry_str_eq (PySem.F.args_str_eq_2 _ _) (str_no_dict a _ es ep none _ t tk) ⟨h1, hq⟩)
    (fun _ hq => wpAny_of_eq (rfl : isSame (.ref a) (.str t tk) = pure false) hq) (.inr hu') fin
theorem opd_eq (hu : X.A.units + 64 < cLine) : OpD X W (compareOp .Eq) gEq := by
  refine ⟨fun x y H Q => rEqD X.K x y H Q ∨ rEqDS x y H Q, fun pins s σ H x y v u Q I rx ry h => h.elim (op_eqD hu pins s σ H x y v u Q I rx ry) (op_eqDS hu pins s σ H x y v u Q I rx ry), fun φ ρ M σ H x y vx vy Q m rx ry h => ?_⟩
  unfold gEq at h
  split at h
  · rename_i b hb
    obtain ⟨d, e, h1, h2, h3, h4, rfl⟩ := eqD_some hb
    exact .inl ⟨d, e, valD_dp m rx h1, valD_dp m ry h2, h3, h4, h _ _ _ .refl m (.bl _)⟩
  · split at h
    · rename_i b hb
      unfold eqDS at hb
      split at hb
      · cases hb
        cases rx with
        | dcv hd n rk =>
          cases ry with
          | str t => exact .inr ⟨_, _, _, rfl, rfl, hd, h _ _ _ .refl m (.bl _)⟩
      · cases hb
    · exact h.elim
theorem opd_ne (hu : X.A.units + 64 < cLine) : OpD X W (compareOp .NotEq) gNe := by
  refine ⟨_, op_neD hu, fun φ ρ M σ H x y vx vy Q m rx ry h => ?_⟩
  unfold gNe at h
  split at h
  · rename_i b hb
    obtain ⟨d, e, h1, h2, h3, h4, rfl⟩ := eqD_some hb
    exact ⟨d, e, valD_dp m rx h1, valD_dp m ry h2, h3, h4, h _ _ _ .refl m (.bl _)⟩
  · exact h.elim
theorem de_op {op : Operator} (ho : OpD X W (binaryOp op) g) (ha : DE X W a fa) (hb : DE X W b fb) : DE X W (.BinOp a op b pos) (eOp g fa fb) := by
  obtain ⟨r, o, so⟩ := ho
  obtain ⟨ta, pa, sa⟩ := ha
  obtain ⟨tb, pb, sb⟩ := hb
  refine ⟨_, pe_op o pa pb, fun φ ρ env M σ H Q e m h => ?_⟩
  refine sa φ ρ env M σ H _ e m (Post.bind h fun d M1 ρ1 H1 v a1 b1 c1 h1 => ?_)
  refine sb φ ρ1 env M1 σ H1 _ (e.ext a1) b1 (Post.bind h1 fun d2 M2 ρ2 H2 v2 a2 b2 c2 h2 => ?_)
  exact so φ ρ2 M2 σ H2 d d2 v v2 Q b2 (c1.ext a2) c2 h2
theorem de_cmp {op : CmpOp} (ho : OpD X W (compareOp op) g) (ha : DE X W a fa) (hb : DE X W b fb) (hm : behindInMarks op b = false) : DE X W (.Compare a [op] [b] pos) (eOp g fa fb) := by
  obtain ⟨r, o, so⟩ := ho
  obtain ⟨ta, pa, sa⟩ := ha
  obtain ⟨tb, pb, sb⟩ := hb
  refine ⟨_, pe_cmpR o pa pb hm, fun φ ρ env M σ H Q e m h => ?_⟩
  refine sa φ ρ env M σ H _ e m (Post.bind h fun d M1 ρ1 H1 v a1 b1 c1 h1 => ?_)
  refine sb φ ρ1 env M1 σ H1 _ (e.ext a1) b1 (Post.bind h1 fun d2 M2 ρ2 H2 v2 a2 b2 c2 h2 => ?_)
  exact so φ ρ2 M2 σ H2 d d2 v v2 Q b2 (c1.ext a2) c2 h2
theorem PostT.post {k : Kx} {ρ : List Addr} {σ : L2.St} {H : Hp} {r : Out} {Q : Bool → Hp → Prop} (h : PostT k W ρ σ H r Q) : Post k W ρ σ H r (fun v H' => ∃ b, v = .bl b ∧ Q b H') := by
  cases r with
  | ok d M =>
    cases d with
    | bl b => exact fun ρ' H' v a m r => by cases r; exact ⟨b, rfl, h ρ' H' a m⟩
    | _ => exact h.elim
  | ex x M => exact h
  | st => exact h
theorem dt_cmp {op : CmpOp} (ho : OpD X W (compareOp op) g) (ha : DE X W a fa) (hb : DE X W b fb) (hm : behindInMarks op b = false) : DT X W (.Compare a [op] [b] pos) (eOp g fa fb) := by
  obtain ⟨r, o, so⟩ := ho
  obtain ⟨ta, pa, sa⟩ := ha
  obtain ⟨tb, pb, sb⟩ := hb
  refine ⟨_, pt_cmpR o pa pb hm, fun φ ρ env M σ H Q e m h => ?_⟩
  refine sa φ ρ env M σ H _ e m (Post.bind h.post fun d M1 ρ1 H1 v a1 b1 c1 h1 => ?_)
  refine sb φ ρ1 env M1 σ H1 _ (e.ext a1) b1 (Post.bind h1 fun d2 M2 ρ2 H2 v2 a2 b2 c2 h2 => ?_)
  exact so φ ρ2 M2 σ H2 d d2 v v2 _ b2 (c1.ext a2) c2 h2
theorem dt_val (ha : DE X W a fa) (he : ∀ whole, isTrue a X.env whole = (do let v ← whole; standAt a.pos; holding [v] (truthy v)) := by intro _; rfl) : DT X W a fa := by
  obtain ⟨ta, pa, sa⟩ := ha
  exact ⟨_, pt_val pa he, fun φ ρ env M σ H Q e m h => sa φ ρ env M σ H _ e m h.post⟩
def eChain (g g' : Op2) (fa fb fc : Ev) : Ev := fun env M => (fa env M).bind fun x M => (fb env M).bind fun y M => (g x y M).bind fun z M => match z with
  | .bl true => (fc env M).bind fun w M => g' y w M
  | .bl false => .ok (.bl false) M
  | _ => .st
def eNot (fa : Ev) : Ev := fun env M => (fa env M).bind fun x M => match x with
  | .bl b => .ok (.bl (!b)) M
  | _ => .st
def eAnd (fa fb : Ev) : Ev := fun env M => (fa env M).bind fun x M => match x with
  | .bl true => fb env M
  | .bl false => .ok (.bl false) M
  | _ => .st
def eOr (fa fb : Ev) : Ev := fun env M => (fa env M).bind fun x M => match x with
  | .bl true => .ok (.bl true) M
  | .bl false => fb env M
  | _ => .st
def eIf (ft fa fb : Ev) : Ev := fun env M => (ft env M).bind fun x M => match x with
  | .bl true => fa env M
  | .bl false => fb env M
  | _ => .st
theorem PostT.bind {k : Kx} {ρ : List Addr} {σ : L2.St} {H : Hp} {r : Out} {kk : D → Mem → Out} {Q : VK} {Q1 : Bool → Hp → Prop} (h : Post k W ρ σ H (r.bind kk) Q) (hb : ∀ d M, (∀ b, d ≠ .bl b) → kk d M = .st)
    (f : ∀ b M ρ' H', Ext ρ H ρ' H' → MOk k ρ' M H' → Post k W ρ' σ H' (kk (.bl b) M) Q → Q1 b H') : PostT k W ρ σ H r Q1 := by
  cases r with
  | ok d M =>
    cases d with
    | bl b => exact fun ρ' H' a m => f b M ρ' H' a m (Post.ext a h)
    | _ =>
      have h' : Post k W ρ σ H (kk _ M) Q := h
      rw [hb _ _ (by intro b z; cases z)] at h'
      exact h'.elim
  | ex x M => exact h
  | st => exact h
theorem PostT.bindT {k : Kx} {ρ : List Addr} {σ : L2.St} {H : Hp} {r : Out} {kk : D → Mem → Out} {Q : Bool → Hp → Prop} {Q1 : Bool → Hp → Prop} (h : PostT k W ρ σ H (r.bind kk) Q) (hb : ∀ d M, (∀ b, d ≠ .bl b) → kk d M = .st)
    (f : ∀ b M ρ' H', Ext ρ H ρ' H' → MOk k ρ' M H' → PostT k W ρ' σ H' (kk (.bl b) M) Q → Q1 b H') : PostT k W ρ σ H r Q1 := by
  cases r with
  | ok d M =>
    cases d with
    | bl b => exact fun ρ' H' a m => f b M ρ' H' a m (PostT.ext a h)
    | _ =>
      have h' : PostT k W ρ σ H (kk _ M) Q := h
      rw [hb _ _ (by intro b z; cases z)] at h'
      exact h'.elim
  | ex x M => exact h
  | st => exact h
theorem dt_not (ha : DT X W a fa) : DT X W (.UnaryOp .Not a pos) (eNot fa) := by
  obtain ⟨ta, pa, sa⟩ := ha
  refine ⟨_, pt_not pa, fun φ ρ env M σ H Q e m h => ?_⟩
  refine sa φ ρ env M σ H _ e m (PostT.bindT h (fun d M z => ?_) fun b M1 ρ1 H1 a1 b1 h1 => h1 _ _ .refl b1)
  cases d with
  | bl b => exact absurd rfl (z b)
  | _ => rfl
variable {rest : List Expr}
theorem DW.pt (h : DW X W a fa) : DT X W a fa := by
  obtain ⟨ta, pa, sa⟩ := h
  exact ⟨_, pa.pt, sa⟩
end
end DL

namespace DL
open PySem L2

def derefT : D → Option (List D)
  | .tup xs => some xs
  | _ => none
def gCatT : Op2 := fun x y M => match x, y with
  | .tup xs, .tup ys => if xs.length + ys.length ≤ sizeLine then .ok (.tup (xs ++ ys)) M else .st
  | _, _ => .st
def gCatL : Op2 := fun x y M => match derefW M x, derefW M y with
  | some xs, some ys => if xs.length + ys.length ≤ sizeLine then .ok (.lst (xs ++ ys)) M else .st
  | _, _ => .st
def gRepL : Op2 := fun x y M => match derefW M x, y with
  | some xs, .int k => if -(2 ^ 63) ≤ k ∧ k < 2 ^ 63 ∧ xs.length * k.toNat ≤ sizeLine then .ok (.lst (List.replicate k.toNat xs).flatten) M else .st
  | _, _ => .st
section
variable {K : Kx} {W : WX} {ρ ρ' ρ1 : List Addr} {σ : L2.St} {H H' H1 : Hp} {env : Env} {M : Mem} {p : Addr} {o u : HO}
theorem new_itm {ds : List D} {xs : List V} (m : MOk K ρ M H) (h : H p = none) (r : RDs K ρ H ds xs) : RD K ρ (upd H p (.tup xs)) (.itm ds) (.ref p) :=
  .itm upd_same (m.fresh h) (r.ext (.new h))
theorem new_lst {ds : List D} {xs : List V} (m : MOk K ρ M H) (h : H p = none) (r : RDs K ρ H ds xs) : RD K ρ (upd H p (.lst xs)) (.lst ds) (.ref p) :=
  .lst upd_same (m.fresh h) (r.ext (.new h))
theorem RDs.nil_iff {ds : List D} {vs : List V} (h : RDs K ρ H ds vs) : ds = [] ↔ vs = [] := by
  cases h <;> simp
theorem RDs.replicate {ds : List D} {vs : List V} (h : RDs K ρ H ds vs) (n : Nat) : RDs K ρ H (List.replicate n ds).flatten (List.replicate n vs).flatten := by
  induction n with
  | zero => exact .nil
  | succ n ih => simp only [List.replicate_succ, List.flatten_cons]; exact h.append ih
theorem atI_rd {ds : List D} {vs : List V} {i : Int} {d : D} (h : RDs K ρ H ds vs) (e : atI ds i = some d) : ∃ v, atI vs i = some v ∧ RD K ρ H d v := by
  unfold atI at e ⊢
  rw [← h.length]
  cases q : ixN ds.length i with
  | none => simp [q] at e
  | some j => rw [q] at e; exact h.get e
def cutD (xs : List D) (lo hi : Option Int) : List D := (xs.drop (HT.sIx xs.length 0 lo)).take (HT.sIx xs.length xs.length hi - HT.sIx xs.length 0 lo)
theorem cutD_rd {ds : List D} {vs : List V} {lo hi : Option Int} (h : RDs K ρ H ds vs) : RDs K ρ H (cutD ds lo hi) (cutV vs lo hi) := by
  unfold cutD cutV
  rw [← h.length]
  exact (h.drop _).take _
end
section
variable {X : Cx} {W : WX} {pos : Pos} {a b c : Expr} {fa fb fc : Ev} {g g' : Op2}
def rCatF (K : PySem.W.Frag) : R2 := fun x y H Q => ∃ a b xs ys, x = .ref a ∧ y = .ref b ∧ SqT K H a xs ∧ SqT K H b ys ∧ xs.length + ys.length ≤ sizeLine ∧
  (xs = [] → Q (.ref b) H) ∧ (ys = [] → Q (.ref a) H) ∧ ∀ p o, H p = none → o.dict = none → Q (.ref p) (upd H p (.frz o (.tup (xs ++ ys))))
theorem op_catF : OpR X (binaryOp .Add) (rCatF X.K) := by
  intro pins s σ H x y
  intro v u Q I rx ry h
  obtain ⟨a, b, xs, ys, e1, e2, ha, hb, hz, q0, q1, q2⟩ := h
  subst e1
  subst e2
  cases rx
  cases ry
  obtain ⟨i1, r1, p1, _⟩ := I.tuple ha
  obtain ⟨i2, r2, p2, _⟩ := I.tuple hb
  by_cases hx : xs = []
  · subst hx
    cases r1
    exact cat_tup0 p1 p2 ⟨V.ref b, H, I, rfl, q0 rfl⟩
  · refine HT.cat_tup p1 p2 (fun z => hx (r1.nil_iff.mp z)) (fun z => ⟨.ref a, H, I, rfl, q1 (r2.nil_iff.mp z)⟩) (fun z => ?_) (by rw [← r1.length, ← r2.length]; exact hz)
    exact lay_tup I (r1.append r2) (by rw [List.length_append]; exact hz) q2
theorem opd_catT : OpD X W (binaryOp .Add) gCatT := by
  refine ⟨_, op_catF, fun φ ρ M σ H x y vx vy Q m rx ry h => ?_⟩
  cases rx with
  | @tup ds p xs hx r =>
    cases ry with
    | @tup es q ys hy r2 =>
      have h : Post _ W ρ σ H (if ds.length + es.length ≤ sizeLine then .ok (.tup (ds ++ es)) M else .st) Q := h
      by_cases z : ds.length + es.length ≤ sizeLine
      · rw [if_pos z] at h
        refine ⟨_, _, xs, ys, rfl, rfl, hx.sq, hy.sq, by rw [← r.length, ← r2.length]; exact z, fun e => ?_, fun e2 => ?_, fun p o hp d => ?_⟩
        · have e' := r.nil_iff.mpr e
          subst e'
          exact h _ _ _ .refl m (.tup hy r2)
        · have e' := r2.nil_iff.mpr e2
          subst e'
          rw [List.append_nil] at h
          exact h _ _ _ .refl m (.tup hx r)
        · exact h _ _ _ (.new hp) (m.new hp) (frz_tup m hp d (r.append r2))
      · rw [if_neg z] at h; exact h.elim
    | _ => exact h.elim
  | _ => cases ry <;> exact h.elim
theorem opd_catL : OpD X W (binaryOp .Add) gCatL := by
  refine ⟨_, op_cat, fun φ ρ M σ H x y vx vy Q m rx ry h => ?_⟩
  unfold gCatL at h
  split at h
  · rename_i xs ys h1 h2
    split at h
    · rename_i z
      obtain ⟨a, vs, rfl, ha, r⟩ := derefW_ok m rx h1
      obtain ⟨b, ws, rfl, hb, r2⟩ := derefW_ok m ry h2
      exact ⟨_, _, vs, ws, rfl, rfl, ha, hb, by rw [← r.length, ← r2.length]; exact z, fun p hp => h _ _ _ (.new hp) (m.new hp) (new_lst m hp (r.append r2))⟩
    · exact h.elim
  · exact h.elim
theorem opd_repL : OpD X W (binaryOp .Mult) gRepL := by
  refine ⟨_, op_rep, fun φ ρ M σ H x y vx vy Q m rx ry h => ?_⟩
  unfold gRepL at h
  split at h
  · rename_i xs k h1
    split at h
    · rename_i z
      obtain ⟨a, vs, rfl, ha, r⟩ := derefW_ok m rx h1
      cases ry
      exact ⟨_, k, vs, rfl, rfl, ha, z.1, z.2.1, by rw [← r.length]; exact z.2.2, fun p hp => h _ _ _ (.new hp) (m.new hp) (new_lst m hp (r.replicate _))⟩
    · exact h.elim
  · exact h.elim
abbrev gAdd : Op2 := gOr gAddI (gOr gCatT gCatL)
abbrev gMul : Op2 := gOr gMulI gRepL
theorem opd_add : OpD X W (binaryOp .Add) gAdd := opd_addI.or (opd_catT.or opd_catL)
theorem opd_mul : OpD X W (binaryOp .Mult) gMul := opd_mulI.or opd_repL
def gIsB : Op2 := fun x y M => match x, y with
  | .bl a, .bl b => .ok (.bl (decide (a = b))) M
  | _, _ => .st
abbrev gIs : Op2 := gOr gIsN gIsB
def seqD (M : Mem) : D → Option (List D)
  | .tup xs => some xs
  | .itm xs => some xs
  | d => derefL M d
def gIx : Op2 := fun x y M => match seqD M x, y with
  | some xs, .int i => match atI xs i with
    | some d => .ok d M
    | none => .st
  | _, _ => .st
theorem seqD_ok {k : Kx} {ρ : List Addr} {H : Hp} {M : Mem} {d : D} {v : V} {ds : List D} (m : MOk k ρ M H) (r : RD k ρ H d v) (e : seqD M d = some ds) :
    ∃ a xs, v = .ref a ∧ (SqL k.K H a xs ∨ SqT k.K H a xs) ∧ RDs k ρ H ds xs := by
  cases r with
  | tup h r => cases e; exact ⟨_, _, rfl, .inr h.sq, r⟩
  | itm h n r => cases e; exact ⟨_, _, rfl, .inr (.inl (.inl h)), r⟩
  | ref h =>
    obtain ⟨a, xs, e1, s, r⟩ := derefL_ok m (.ref h) e
    exact ⟨a, xs, e1, .inl s, r⟩
  | lst h n r =>
    obtain ⟨a, xs, e1, s, r⟩ := derefL_ok m (.lst h n r) e
    exact ⟨a, xs, e1, .inl s, r⟩
  | fzl h r =>
    obtain ⟨a, xs, e1, s, r⟩ := derefL_ok m (.fzl h r) e
    exact ⟨a, xs, e1, .inl s, r⟩
  | _ => cases e
theorem de_ix (ha : DE X W a fa) (hb : DE X W b fb) (hs : PlainIx b := by exact fun _ _ => rfl) : DE X W (.Subscript a b pos) (eOp gIx fa fb) := by
  obtain ⟨ta, pa, sa⟩ := ha
  obtain ⟨tb, pb, sb⟩ := hb
  refine ⟨_, pe_ix (ix_list.or ix_tup) pa pb hs, fun φ ρ env M σ H Q e m h => ?_⟩
  refine sa φ ρ env M σ H _ e m (Post.bind h fun d M1 ρ1 H1 v a1 b1 c1 h1 => ?_)
  refine sb φ ρ1 env M1 σ H1 _ (e.ext a1) b1 (Post.bind h1 fun d2 M2 ρ2 H2 v2 a2 b2 c2 h2 => ?_)
  unfold gIx at h2
  split at h2
  · rename_i xs i hx
    obtain ⟨p, vs, rfl, sq, r⟩ := seqD_ok b2 (c1.ext a2) hx
    cases c2
    split at h2
    · rename_i dd hd
      obtain ⟨w, hw, rw'⟩ := atI_rd r hd
      rcases sq with sq | sq
      · exact .inl ⟨p, vs, i, w, rfl, rfl, sq, hw, h2 _ _ _ .refl b2 rw'⟩
      · exact .inr ⟨p, vs, i, w, rfl, rfl, sq, hw, h2 _ _ _ .refl b2 rw'⟩
    · exact h2.elim
  · exact h2.elim
abbrev EvO := Env → Mem → Out
def optI : D → Option (Option Int)
  | .non => some none
  | .int i => some (some i)
  | _ => none
def DO (X : Cx) (W : WX) (e : Option Expr) (f : EvO) : Prop := ∃ t, PO X e t ∧ (∀ env M d M', f env M = .ok d M' → ∃ o, optI d = some o) ∧ ∀ φ ρ env M σ H Q, RE ⟨X.K, φ⟩ ρ H env σ → MOk ⟨X.K, φ⟩ ρ M H →
  Post ⟨X.K, φ⟩ W ρ σ H (f env M) (fun v H' => (v = .non ∧ Q none H') ∨ ∃ i, v = .int i ∧ Q (some i) H') → t σ H Q
def oNone : EvO := fun _ M => .ok .non M
theorem do_none : DO X W none oNone := by
  refine ⟨_, po_none, fun env M d M' h => by cases h; exact ⟨_, rfl⟩, fun φ ρ env M σ H Q e m h => ?_⟩
  rcases h _ _ _ .refl m .non with ⟨_, q⟩ | ⟨i, z, _⟩
  · exact q
  · cases z
def toI (d : D) (M : Mem) : Out := match d with
  | .int i => .ok (.int i) M
  | _ => .st
def oSome (f : Ev) : EvO := fun env M => (f env M).bind toI
theorem do_some (ha : DE X W a fa) : DO X W (some a) (oSome fa) := by
  obtain ⟨ta, pa, sa⟩ := ha
  refine ⟨_, po_some pa, fun env M d M' h => ?_, fun φ ρ env M σ H Q e m h => ?_⟩
  · unfold oSome at h
    cases hf : fa env M with
    | ok d1 M1 =>
      rw [hf] at h
      have h' : toI d1 M1 = .ok d M' := h
      unfold toI at h'
      split at h'
      · cases h'; exact ⟨_, rfl⟩
      · cases h'
    | ex x M1 => rw [hf] at h; cases h
    | st => rw [hf] at h; cases h
  · refine sa φ ρ env M σ H _ e m (Post.bind h fun d M1 ρ1 H1 v a1 b1 c1 h1 => ?_)
    cases c1 with
    | int i =>
      rcases h1 _ _ _ .refl b1 (.int i) with ⟨z, _⟩ | ⟨j, z, q⟩
      · cases z
      · cases z; exact ⟨i, rfl, q⟩
    | _ => exact h1.elim
def slD (x l h : D) (M : Mem) : Out := match optI l, optI h with
  | some lo, some hi => match derefT x, derefL M x with
    | some xs, _ => .ok (.tup (cutD xs lo hi)) M
    | none, some xs => .ok (.lst (cutD xs lo hi)) M
    | none, none => .st
  | _, _ => .st
def eSl (fa : Ev) (fl fh : EvO) : Ev := fun env M => (fa env M).bind fun x M => (fl env M).bind fun l M => (fh env M).bind fun h M => slD x l h M
theorem cut_whole {ds : List D} {lo hi : Option Int} (h : HT.sIx ds.length 0 lo = 0 ∧ HT.sIx ds.length ds.length hi = ds.length) : cutD ds lo hi = ds := by
  unfold cutD
  rw [h.1, h.2]
  simp
theorem Post.bindE {k : Kx} {ρ : List Addr} {σ : L2.St} {H : Hp} {r : Out} {kk : D → Mem → Out} {Q Q1 : VK} (h : Post k W ρ σ H (r.bind kk) Q)
    (f : ∀ d M ρ' H' v, r = .ok d M → Ext ρ H ρ' H' → MOk k ρ' M H' → RD k ρ' H' d v → Post k W ρ' σ H' (kk d M) Q → Q1 v H') : Post k W ρ σ H r Q1 := by
  cases r with
  | ok d M => exact fun ρ' H' v a b c => f d M ρ' H' v rfl a b c (Post.ext a h)
  | ex x M => exact h
  | st => exact h
theorem opt_way {k : Kx} {ρ : List Addr} {H : Hp} {d : D} {v : V} {o : Option Int} {R : Option Int → Hp → Prop} (r : RD k ρ H d v) (e : optI d = some o) (q : R o H) : (v = .non ∧ R none H) ∨ ∃ i, v = .int i ∧ R (some i) H := by
  cases r with
  | non => cases e; exact .inl ⟨rfl, q⟩
  | int i => cases e; exact .inr ⟨i, rfl, q⟩
  | _ => cases e
def rSlF (K : PySem.W.Frag) : V → Option Int → Option Int → Hp → VK → Prop := fun x lo hi H Q => ∃ a xs, x = .ref a ∧ SqT K H a xs ∧
  (HT.sIx xs.length 0 lo = 0 ∧ HT.sIx xs.length xs.length hi = xs.length → Q (.ref a) H) ∧ ∀ p o, H p = none → o.dict = none → Q (.ref p) (upd H p (.frz o (.tup (cutV xs lo hi))))
theorem sl_tupF : SlR X (rSlF X.K) := by
  intro pins s σ H x v vl vu
  intro lo hi sl Q I rx hs pl pu h
  obtain ⟨a, xs, e, hx, q1, q2⟩ := h
  subst e
  by_cases hw : (HT.sIx xs.length 0 lo = 0) ∧ (HT.sIx xs.length xs.length hi = xs.length)
  · exact sl_tupA pins s σ H _ v vl vu lo hi sl Q I rx hs pl pu ⟨a, xs, rfl, hx, q1, fun z => absurd hw z⟩
  · cases rx
    obtain ⟨its, r, ht, hz⟩ := Inv.tuple I hx
    have hl : its.toArray.size = xs.length := by simp [r.length]
    refine ⟨"tuple", _, PyProof.Rows.slot_tuple_getitem.lookup, ht.typeIs, HT.getItem_tuple_cut ht hs pl pu (by rw [hl]; exact hw) ?_ (by rw [hl]; exact hz)⟩
    rw [hl]
    exact lay_tup I ((r.drop (HT.sIx xs.length 0 lo)).take (HT.sIx xs.length xs.length hi - HT.sIx xs.length 0 lo)) (Nat.le_trans (cutV_length xs lo hi) hz) q2
theorem de_sl {lo hi : Option Expr} {fl fh : EvO} {p2 : Pos} (ha : DE X W a fa) (hl : DO X W lo fl) (hh : DO X W hi fh) : DE X W (.Subscript a (.Slice lo hi none p2) pos) (eSl fa fl fh) := by
  obtain ⟨ta, pa, sa⟩ := ha
  obtain ⟨tl, pl, ol, sl⟩ := hl
  obtain ⟨th, ph, oh, sh⟩ := hh
  refine ⟨_, pe_slice (sl_list.or sl_tupF) pa pl ph, fun φ ρ env M σ H Q e m h => ?_⟩
  refine sa φ ρ env M σ H _ e m (Post.bind h fun d M1 ρ1 H1 v a1 b1 c1 h1 => ?_)
  refine sl φ ρ1 env M1 σ H1 _ (e.ext a1) b1 (Post.bindE h1 fun d2 M2 ρ2 H2 v2 e2 a2 b2 c2 h2 => ?_)
  obtain ⟨lo', hlo⟩ := ol _ _ _ _ e2
  refine opt_way (R := fun l H2 => th σ H2 fun u H3 => rSlL X.K v l u H3 Q ∨ rSlF X.K v l u H3 Q) c2 hlo ?_
  refine sh φ ρ2 env M2 σ H2 _ ((e.ext a1).ext a2) b2 (Post.bindE h2 fun d3 M3 ρ3 H3 v3 e3 a3 b3 c3 h3 => ?_)
  obtain ⟨hi', hhi⟩ := oh _ _ _ _ e3
  refine opt_way (R := fun u H3 => rSlL X.K v lo' u H3 Q ∨ rSlF X.K v lo' u H3 Q) c3 hhi ?_
  unfold slD at h3
  rw [hlo, hhi] at h3
  have h4 : Post ⟨X.K, φ⟩ W ρ3 σ H3 (match derefT d, derefL M3 d with
    | some xs, _ => .ok (.tup (cutD xs lo' hi')) M3
    | none, some xs => .ok (.lst (cutD xs lo' hi')) M3
    | none, none => .st) Q := h3
  have c4 := c1.ext (a2.trans a3)
  split at h4
  · rename_i xs _ hx
    cases c4 with
    | tup hh r =>
      cases hx
      refine .inr ⟨_, _, rfl, hh.sq, fun z => ?_, fun p o hp d => h4 _ _ _ (.new hp) (b3.new hp) (frz_tup b3 hp d (cutD_rd r))⟩
      rw [← r.length] at z
      rw [cut_whole z] at h4
      exact h4 _ _ _ .refl b3 (.tup hh r)
    | _ => cases hx
  · rename_i xs hx hl
    obtain ⟨p, vs, rfl, sq, r⟩ := derefL_ok b3 c4 hl
    exact .inl ⟨p, vs, rfl, sq, fun q hq => h4 _ _ _ (.new hq) (b3.new hq) (new_lst b3 hq (cutD_rd r))⟩
  · exact h4.elim
def negD (d : D) (M : Mem) : Out := match d with
  | .int i => .ok (.int (-i)) M
  | _ => .st
def eNeg (fa : Ev) : Ev := fun env M => (fa env M).bind negD
abbrev OpN := List D → Mem → Out
def CallD (X : Cx) (W : WX) (f : Value) (g : OpN) : Prop :=
  ∃ r, CallR X f r ∧ ∀ φ ρ M (σ : L2.St) H xs vs Q, MOk ⟨X.K, φ⟩ ρ M H → RDs ⟨X.K, φ⟩ ρ H xs vs → Post ⟨X.K, φ⟩ W ρ σ H (g xs M) Q → r vs H Q
def gnOr (g1 g2 : OpN) : OpN := fun xs M => (g1 xs M).or (g2 xs M)
theorem CallR.or {f : Value} {r r' : List V → Hp → VK → Prop} (h : CallR X f r) (h' : CallR X f r') :
    CallR X f (fun xs H Q => r xs H Q ∨ r' xs H Q) := by
  intro pins s σ H xs us Q I rx q
  rcases q with q | q
  · exact h pins s σ H xs us Q I rx q
  · exact h' pins s σ H xs us Q I rx q
theorem CallD.or {f : Value} {g g' : OpN} (h1 : CallD X W f g) (h2 : CallD X W f g') : CallD X W f (gnOr g g') := by
  obtain ⟨r1, o1, s1⟩ := h1
  obtain ⟨r2, o2, s2⟩ := h2
  refine ⟨_, CallR.or o1 o2, fun φ ρ M σ H xs vs Q m rx h => ?_⟩
  unfold gnOr at h
  cases hg : g xs M with
  | st =>
    rw [hg] at h
    exact .inr (s2 φ ρ M σ H xs vs Q m rx h)
  | ok d M1 =>
    rw [hg] at h
    exact .inl (s1 φ ρ M σ H xs vs Q m rx (by rw [hg]; exact h))
  | ex z M1 =>
    rw [hg] at h
    exact .inl (s1 φ ρ M σ H xs vs Q m rx (by rw [hg]; exact h))
def eCall (g : OpN) (f : EvL) : Ev := fun env M => (f env M).bind g
variable {es : List Expr} {f : EvL} {x : Str} {p : Pos}
theorem de_callB {id : String} {g : OpN} (hc : CallD X W (.builtin id) g) (hg : Gl X x) (hm : X.mg x = none) (hv : bootBuiltins x = some (.builtin id)) (ha : DA X W (a :: es) f) (hn : x ≠ "__name__" := by decide) (hdb : (x == ("__debug__" : Str)) = false := by decide)
    (he : starEach (a :: es) X.env = (false, eval a X.env) :: starEach es X.env := by rfl) (hpl : (backTo pos (starEach es X.env)).any (·.1) = false := by rfl) :
    DE X W (.Call (.Name x p) (a :: es) [] pos) (eCall g f) := by
  obtain ⟨r, o, so⟩ := hc
  obtain ⟨ta, pa, la, sa⟩ := ha
  refine ⟨_, pe_callB o hg hm hv pa hn hdb he hpl, fun φ ρ env M σ H Q e m h => ?_⟩
  exact sa φ ρ env M σ H _ e m (PostL.bind h fun d M1 ρ1 H1 v a1 b1 c1 h1 => so φ ρ1 M1 σ H1 d v Q b1 c1 h1)
theorem de_callTy {T : String} {g : OpN} (hc : CallD X W (.type T) g) (hg : Gl X x) (hm : X.mg x = none) (hv : bootBuiltins x = some (.type T)) (ha : DA X W (a :: es) f) (hn : x ≠ "__name__" := by decide) (hdb : (x == ("__debug__" : Str)) = false := by decide)
    (he : starEach (a :: es) X.env = (false, eval a X.env) :: starEach es X.env := by rfl) (hpl : (backTo pos (starEach es X.env)).any (·.1) = false := by rfl) :
    DE X W (.Call (.Name x p) (a :: es) [] pos) (eCall g f) := by
  obtain ⟨r, o, so⟩ := hc
  obtain ⟨ta, pa, la, sa⟩ := ha
  refine ⟨_, pe_callTy o hg hm hv pa hn hdb he hpl, fun φ ρ env M σ H Q e m h => ?_⟩
  exact sa φ ρ env M σ H _ e m (PostL.bind h fun d M1 ρ1 H1 v a1 b1 c1 h1 => so φ ρ1 M1 σ H1 d v Q b1 c1 h1)
end
end DL

namespace DL
open PySem L2

def nAbs : OpN := fun xs M => match xs with
  | [.int i] => .ok (.int (if i < 0 then -i else i)) M
  | _ => .st
def nMax2 : OpN := fun xs M => match xs with
  | [.int i, .int j] => .ok (.int (if j > i then j else i)) M
  | _ => .st
def nMin2 : OpN := fun xs M => match xs with
  | [.int i, .int j] => .ok (.int (if j < i then j else i)) M
  | _ => .st
def nInt : OpN := fun xs M => match xs with
  | [.int i] => .ok (.int i) M
  | [.bl b] => .ok (.int (if b then 1 else 0)) M
  | _ => .st
def intsD : List D → Option (List Int)
  | [] => some []
  | .int i :: r => (intsD r).map (i :: ·)
  | _ => none
def boolsD : List D → Option (List Bool)
  | [] => some []
  | .bl i :: r => (boolsD r).map (i :: ·)
  | _ => none
def readL (M : Mem) (xs : List D) : Option (List D) := match xs with
  | [d] => derefL M d
  | _ => none
def nSum : OpN := fun xs M => match (readL M xs).bind intsD with
  | some ns => .ok (.int ns.sum) M
  | none => .st
def nAny : OpN := fun xs M => match (readL M xs).bind boolsD with
  | some bs => .ok (.bl (bs.any id)) M
  | none => .st
def nLen : OpN := fun xs M => match xs with
  | [.str x] => if x.length ≤ sizeLine then .ok (.int x.length) M else .st
  | [d] => match seqD M d with
    | some ds => .ok (.int ds.length) M
    | none => .st
  | _ => .st
def nTup : OpN := fun xs M => match xs with
  | [.tup ds] => .ok (.tup ds) M
  | [d] => match derefL M d with
    | some ds => .ok (.tup ds) M
    | none => .st
  | _ => .st
section
variable {K : Kx} {ρ : List Addr} {H : Hp} {M : Mem}
theorem intsD_ok : ∀ {ds : List D} {vs : List V} {ns : List Int}, RDs K ρ H ds vs → intsD ds = some ns → vs = ns.map V.int
  | [], _, _, .nil, e => by cases e; rfl
  | d :: ds, _, ns, .cons h t, e => by
    cases h with
    | int i =>
      simp only [intsD, Option.map_eq_some_iff] at e
      obtain ⟨ms, e1, rfl⟩ := e
      rw [List.map_cons, intsD_ok t e1]
    | _ => cases e
theorem RDs.one {d : D} {vs : List V} (h : RDs K ρ H [d] vs) : ∃ v, vs = [v] ∧ RD K ρ H d v := by
  cases h with | cons a b => cases b; exact ⟨_, rfl, a⟩
theorem RDs.two {d e : D} {vs : List V} (h : RDs K ρ H [d, e] vs) : ∃ v w, vs = [v, w] ∧ RD K ρ H d v ∧ RD K ρ H e w := by
  cases h with | cons a b => cases b with | cons b c => cases c; exact ⟨_, _, rfl, a, b⟩
theorem readL_ok {xs : List D} {vs : List V} {ds : List D} (m : MOk K ρ M H) (r : RDs K ρ H xs vs) (e : readL M xs = some ds) : ∃ a ys, vs = [.ref a] ∧ SqL K.K H a ys ∧ RDs K ρ H ds ys := by
  unfold readL at e
  split at e
  · obtain ⟨v, rfl, rd⟩ := r.one
    obtain ⟨a, ys, rfl, s, r⟩ := derefL_ok m rd e
    exact ⟨a, ys, rfl, s, r⟩
  · cases e
theorem readI_ok {xs : List D} {vs : List V} {ns : List Int} (m : MOk K ρ M H) (r : RDs K ρ H xs vs) (e : (readL M xs).bind intsD = some ns) : ∃ a, vs = [.ref a] ∧ SqL K.K H a (ns.map V.int) := by
  obtain ⟨ds, e1, e2⟩ := Option.bind_eq_some_iff.mp e
  obtain ⟨a, ys, rfl, s, r⟩ := readL_ok m r e1
  rw [intsD_ok r e2] at s
  exact ⟨a, rfl, s⟩
end
section
variable {X : Cx} {W : WX}
theorem cd_abs : CallD X W (.builtin "abs") nAbs := by
  refine ⟨_, call_abs, fun φ ρ M σ H xs vs Q m r h => ?_⟩
  unfold nAbs at h
  split at h
  · obtain ⟨v, rfl, rd⟩ := r.one
    cases rd
    exact ⟨_, rfl, h _ _ _ .refl m (.int _)⟩
  · exact h.elim
theorem cd_max2 (hc : X.calm = true) : CallD X W (.builtin "max") nMax2 := by
  refine ⟨_, call_max2 hc, fun φ ρ M σ H xs vs Q m r h => ?_⟩
  unfold nMax2 at h
  split at h
  · obtain ⟨v, w, rfl, rd, rd2⟩ := r.two
    cases rd; cases rd2
    exact ⟨_, _, rfl, h _ _ _ .refl m (.int _)⟩
  · exact h.elim
theorem cd_min2 (hc : X.calm = true) : CallD X W (.builtin "min") nMin2 := by
  refine ⟨_, call_min2 hc, fun φ ρ M σ H xs vs Q m r h => ?_⟩
  unfold nMin2 at h
  split at h
  · obtain ⟨v, w, rfl, rd, rd2⟩ := r.two
    cases rd; cases rd2
    exact ⟨_, _, rfl, h _ _ _ .refl m (.int _)⟩
  · exact h.elim
theorem cd_int : CallD X W (.type "int") nInt := by
  refine ⟨_, call_int1, fun φ ρ M σ H xs vs Q m r h => ?_⟩
  unfold nInt at h
  split at h
  · obtain ⟨v, rfl, rd⟩ := r.one
    cases rd
    exact .inl ⟨_, rfl, h _ _ _ .refl m (.int _)⟩
  · obtain ⟨v, rfl, rd⟩ := r.one
    cases rd
    exact .inr ⟨_, rfl, h _ _ _ .refl m (.int _)⟩
  · exact h.elim
theorem cd_sum (hc : X.calm = true) : CallD X W (.builtin "sum") nSum := by
  refine ⟨_, cr_sum hc, fun φ ρ M σ H xs vs Q m r h => ?_⟩
  unfold nSum at h
  split at h
  · rename_i ns e
    obtain ⟨a, rfl, s⟩ := readI_ok m r e
    exact ⟨a, ns, rfl, s, h _ _ _ .refl m (.int _)⟩
  · exact h.elim
theorem cd_len : CallD X W (.builtin "len") nLen := by
  refine ⟨_, call_len, fun φ ρ M σ H xs vs Q m r h => ?_⟩
  unfold nLen at h
  split at h
  · obtain ⟨v, rfl, rd⟩ := r.one
    cases rd
    split at h
    · rename_i z
      exact ⟨_, _, rfl, ⟨z, rfl⟩, h _ _ _ .refl m (.int _)⟩
    · exact h.elim
  · obtain ⟨v, rfl, rd⟩ := r.one
    split at h
    · rename_i ds e
      obtain ⟨a, ys, rfl, s, r2⟩ := seqD_ok m rd e
      refine ⟨_, ds.length, rfl, ?_, h _ _ _ .refl m (.int _)⟩
      rcases s with s | s
      · exact .inl ⟨ys, s, r2.length⟩
      · exact .inr ⟨ys, s, r2.length⟩
    · exact h.elim
  · exact h.elim
end

def putSt (x : Int) : List Int → List Int
  | [] => [x]
  | y :: r => if x ≤ y then x :: y :: r else y :: putSt x r
def sortI : List Int → List Int
  | [] => []
  | x :: r => putSt x (sortI r)
def nSortI : OpN := fun xs M => match (readL M xs).bind intsD with
  | some ns => .ok (.lst ((sortI ns).map .int)) M
  | none => .st
section
variable {X : Cx} {W : WX}
end
def insP (x : Int × Int) : List (Int × Int) → List (Int × Int)
  | [] => [x]
  | y :: r => if SrtO.lexB y x then y :: insP x r else x :: y :: r
def sortP : List (Int × Int) → List (Int × Int)
  | [] => []
  | x :: r => insP x (sortP r)
theorem insP_perm (x : Int × Int) : ∀ l, (insP x l).Perm (x :: l)
  | [] => .refl _
  | y :: r => by
    unfold insP
    split
    · exact ((insP_perm x r).cons y).trans (.swap x y r)
    · exact .refl _
theorem sortP_perm : ∀ l, (sortP l).Perm l
  | [] => .refl _
  | x :: r => (insP_perm x _).trans ((sortP_perm r).cons x)
theorem lexB_swo : SrtO.Swo SrtO.lexB := by
  refine ⟨fun x y h => ?_, ?_⟩ <;> try intro x y z h1 h2
  · have := SrtO.lexB_iff.mp h
    exact SrtO.lexB_no.mpr (by omega)
  · have := SrtO.lexB_no.mp h1
    have := SrtO.lexB_no.mp h2
    exact SrtO.lexB_no.mpr (by omega)
theorem insP_sorted (x : Int × Int) : ∀ {l : List (Int × Int)}, SrtO.Srtd SrtO.lexB l → SrtO.Srtd SrtO.lexB (insP x l)
  | [], _ => List.pairwise_singleton _ _
  | y :: r, h => by
    unfold insP
    have h' := List.pairwise_cons.1 h
    split
    · rename_i q
      refine List.pairwise_cons.mpr ⟨fun z hz => ?_, insP_sorted x h'.2⟩
      rcases List.mem_cons.mp ((insP_perm x r).mem_iff.mp hz) with rfl | hz
      · exact lexB_swo.asym _ _ q
      · exact h'.1 z hz
    · rename_i q
      have q' : SrtO.lexB y x = false := by simpa using q
      exact List.pairwise_cons.mpr ⟨fun z hz => by
        rcases List.mem_cons.1 hz with rfl | hz
        · exact q'
        · exact lexB_swo.tr x y z q' (h'.1 z hz), h⟩
theorem sortP_sorted : ∀ l, SrtO.Srtd SrtO.lexB (sortP l)
  | [] => .nil
  | x :: r => insP_sorted x (sortP_sorted r)
def pairsD : List D → Option (List (Int × Int))
  | [] => some []
  | .tup [.int i, .int j] :: r => (pairsD r).map ((i, j) :: ·)
  | _ => none
def pairD (p : Int × Int) : D := .tup [.int p.1, .int p.2]
def nSortP : OpN := fun xs M => match (readL M xs).bind pairsD with
  | some ps => .ok (.lst ((sortP ps).map pairD)) M
  | none => .st
theorem Paired.mem {α β : Type} {F : α → β → Prop} : ∀ {l : List α} {m : List β} {x : α}, Paired F l m → x ∈ l → ∃ y ∈ m, F x y
  | _, _, _, .cons r t, h => by
    rcases List.mem_cons.1 h with rfl | h
    · exact ⟨_, List.mem_cons_self, r⟩
    · obtain ⟨y, hy, f⟩ := Paired.mem t h
      exact ⟨y, List.mem_cons_of_mem _ hy, f⟩
section
variable {X : Cx} {W : WX}
end
abbrev nSorted : OpN := gnOr nSortI nSortP
section
variable {X : Cx} {W : WX}
theorem de_ty {x : Str} {n : String} {pos : Pos} (hg : Gl X x) (hm : X.mg x = none) (hv : bootBuiltins x = some (.type n)) (hn : x ≠ "__name__" := by decide) (hd : (x == ("__debug__" : Str)) = false := by decide) : DE X W (.Name x pos) (eC (.ty n)) :=
  ⟨_, pe_bltn (v := .ty n) hg hm hv rfl hn hd, fun φ ρ env M σ H Q e m h => h _ _ _ .refl m (.ty n)⟩
end
end DL

namespace DL
open PySem L2

def gN (i : Nat) : Tg := fun d env M => .nx (env.set i (some d)) M
abbrev TgL := List D → Env → Mem → OutS
def gsNil : TgL := fun ds env M => match ds with
  | [] => .nx env M
  | _ => .st
def gsCons (g : Tg) (gs : TgL) : TgL := fun ds env M => match ds with
  | [] => .st
  | d :: r => match g d env M with
    | .nx e1 M1 => gs r e1 M1
    | _ => .st
def gT (n : Nat) (gs : TgL) : Tg := fun d env M => match d with
  | .tup ds => if ds.length = n then gs ds env M else .st
  | .itm ds => if ds.length = n then gs ds env M else .st
  | d => match derefL M d with
    | some ds => if ds.length = n then gs ds env M else .st
    | none => .st
def gSeq (K : PySem.W.Frag) (n : Nat) (t : TGs) : TG := fun v σ H Q => ∃ a xs, v = .ref a ∧ (SqT K H a xs ∨ SqL K H a xs) ∧ xs.length = n ∧ t xs σ H Q
theorem pg_seq {X : Cx} {es : List Expr} {k : Nat} {t : TGs} {n : Nat} {pos : Pos} (hc : X.calm = true) (h : PGs X es t) (hn : (assignEach es X.env).length = n := by rfl) (hst : (assignEach es X.env).findIdx? (·.1) = none := by rfl) : PG X (.Tuple es k pos) (gSeq X.K n t) := by
  (refine ⟨fun pins s σ H v u Q I r hw => ?_⟩)
  obtain ⟨a, xs, rfl, hq, hl, hw⟩ := hw
  rcases hq with hq | hq
  · exact (pg_tup (k := k) (pos := pos) hc h hn hst).run pins s σ H _ u Q I r ⟨a, xs, rfl, hq, hl, hw⟩
  · cases r
    (obtain ⟨its, rv, p, hz⟩ := I.list hq)
    have hs : its.toArray.size = n := by rw [← hl, rv.length]; simp
    (rw [PyProof.Rows.assign_Tuple])
    (refine wpAny_bind (wpAny_standAt ?_))
    unfold unpack
    rw [hn, hst, ← hs]
    refine wpAny_bind (wpAny_holding (PySem.W.kun_itemsOf (I.ok.hd hc) p.isList fun h' hx => ?_))
    (have I1 : Inv X pins σ H { s with heap := h' } := I.kept (t' := s.toks) fun b o e => hx b o (Nat.ne_of_lt (Heap.lt_size e)) e)
    (exact h.run pins _ σ H xs _ Q I1 (by simpa using rv) hw)
def gSub (fo fi : Ev) : Tg := fun d env M => match fo env M with
  | .ok (.ref l) M1 => match fi env M1 with
    | .ok (.int k) M2 => match M2[l]? with
      | some (.lst xs) => match ixN xs.length k with
        | some j => .nx env (M2.set l (.lst (xs.set j d)))
        | none => .st
      | _ => .st
    | _ => .st
  | _ => .st
def DGs (X : Cx) (es : List Expr) (f : TgL) : Prop := ∃ t, PGs X es t ∧ ∀ φ ρ env M σ H ds vs Q, RE ⟨X.K, φ⟩ ρ H env σ → MOk ⟨X.K, φ⟩ ρ M H → RDs ⟨X.K, φ⟩ ρ H ds vs → PostG ⟨X.K, φ⟩ ρ H (f ds env M) Q → t vs σ H Q
section
variable {X : Cx} {W : WX} {pos : Pos} {a b c : Expr} {fa fb fc : Ev} {g g' : Tg} {gs : TgL} {es : List Expr}
theorem dg_name (i : Nat) {x : Str} (hN : X.N.Nodup) (hi : X.N[i]? = some x := by rfl) (hx : Loc X.env.scope x := by first | exact .inl rfl | exact .inr rfl) (hf : X.fn x = true ∨ X.env.scope.names.lookup x = some .local := by first | exact .inl rfl | exact .inr rfl) : DG X (.Name x pos) (gN i) :=
  ⟨_, pg_name hN hi hx hf, fun φ ρ env M σ H d v Q e m r h => h _ _ _ .refl m (e.set r)⟩
theorem dgs_nil : DGs X [] gsNil := ⟨_, pgs_nil, fun φ ρ env M σ H ds vs Q e m r h => by
  cases r with
  | nil => exact ⟨rfl, h _ _ _ .refl m e⟩
  | cons _ _ => exact h.elim⟩
theorem dgs_cons (h1 : DG X a g) (h2 : DGs X es gs) (hs : (assignEach (a :: es) X.env).map (·.2) = assign a X.env :: (assignEach es X.env).map (·.2) := by rfl) : DGs X (a :: es) (gsCons g gs) := by
  obtain ⟨t1, p1, s1⟩ := h1
  obtain ⟨t2, p2, s2⟩ := h2
  refine ⟨_, pgs_cons p1 p2 hs, fun φ ρ env M σ H ds vs Q e m r h => ?_⟩
  cases r with
  | nil => exact h.elim
  | @cons d ds' v vs' r rr =>
    refine ⟨_, _, rfl, s1 φ ρ env M σ H d v _ e m r ?_⟩
    have h' : PostG ⟨X.K, φ⟩ ρ H (match g d env M with | .nx e1 M1 => gs ds' e1 M1 | _ => .st) Q := h
    cases hg : g d env M with
    | nx e1 M1 =>
      rw [hg] at h'
      intro ρ1 H1 σ1 a1 b1 c1
      exact s2 φ ρ1 e1 M1 σ1 H1 _ _ Q c1 b1 (rr.ext a1) (PostG.ext a1 h')
    | _ => rw [hg] at h'; exact h'.elim
theorem dg_tup {k : Nat} (hc : X.calm = true) (h : DGs X es gs) (n : Nat) (hn : (assignEach es X.env).length = n := by rfl) (hst : (assignEach es X.env).findIdx? (·.1) = none := by rfl) : DG X (.Tuple es k pos) (gT n gs) := by
  obtain ⟨t, p, s⟩ := h
  refine ⟨_, pg_seq hc p hn hst, fun φ ρ env M σ H d v Q e m r h => ?_⟩
  have lst : ∀ ds, derefL M d = some ds → PostG ⟨X.K, φ⟩ ρ H (if ds.length = n then gs ds env M else .st) Q → gSeq X.K n t v σ H Q := fun ds hx h' => by
    obtain ⟨a, xs, rfl, q, rr⟩ := derefL_ok m r hx
    split at h'
    · rename_i z
      exact ⟨a, xs, rfl, .inr q, by rw [← rr.length]; exact z, s φ ρ env M σ H _ _ Q e m rr h'⟩
    · exact h'.elim
  cases r with
  | @tup ds a xs hh rr =>
    have h' : PostG ⟨X.K, φ⟩ ρ H (if ds.length = n then gs ds env M else .st) Q := h
    split at h'
    · rename_i z
      exact ⟨_, _, rfl, .inl hh.sq, by rw [← rr.length]; exact z, s φ ρ env M σ H _ _ Q e m rr h'⟩
    · exact h'.elim
  | @itm ds a xs hh nn rr =>
    have h' : PostG ⟨X.K, φ⟩ ρ H (if ds.length = n then gs ds env M else .st) Q := h
    split at h'
    · rename_i z
      exact ⟨_, _, rfl, .inl (.inl (.inl hh)), by rw [← rr.length]; exact z, s φ ρ env M σ H _ _ Q e m rr h'⟩
    · exact h'.elim
  | @lst ds a xs hh nn rr => exact lst ds rfl h
  | @fzl ds a xs hh rr => exact lst ds rfl h
  | @ref l q hq =>
    have h' : PostG ⟨X.K, φ⟩ ρ H (match derefL M (.ref l) with | some ds => if ds.length = n then gs ds env M else .st | none => .st) Q := h
    split at h'
    · rename_i ds hx; exact lst ds hx h'
    · exact h'.elim
  | _ => exact h.elim
theorem dg_sub {i o : Expr} {fo fi : Ev} (ho : DE X W o fo) (hi : DE X W i fi) (ha : ∀ v, assign (.Subscript o i pos) X.env v = (holding [v] (eval o X.env) >>= fun a => holding [v, a] (eval i X.env) >>= fun b => standAt pos >>= fun _ => holding [v, a, b] (setItem a b v) >>= fun _ => release [v, a, b] []) := by intro _; rfl) : DG X (.Subscript o i pos) (gSub fo fi) := by
  obtain ⟨to, po, so⟩ := ho
  obtain ⟨ti, pi, si⟩ := hi
  refine ⟨_, pg_sub po pi set_list ha, fun φ ρ env M σ H d v Q e m r h => ?_⟩
  unfold gSub at h
  refine so φ ρ env M σ H _ e m ?_
  split at h
  · rename_i l M1 q1
    rw [q1]
    intro ρ1 H1 vo a1 b1 c1
    refine si φ ρ1 env M1 σ H1 _ (e.ext a1) b1 ?_
    split at h
    · rename_i k M2 q2
      rw [q2]
      intro ρ2 H2 vi a2 b2 c2
      split at h
      · rename_i xs q3
        split at h
        · rename_i j q4
          cases c2
          cases c1.ext a2 with
          | @ref _ p hl =>
            obtain ⟨u, hu, ys, e1, rr⟩ := b2.at_ _ _ _ q3 hl
            subst e1
            have hp : p ∈ ρ2 := List.mem_of_getElem? hl
            have ex : Ext ρ2 H2 ρ2 (upd H2 p (.lst (ys.set j v))) := .write (by rw [hu]; simp) hp (fun v e => by rw [hu] at e; cases e; trivial)
            refine ⟨p, ys, k, j, rfl, rfl, hu, by rw [← rr.length]; exact q4, ?_⟩
            exact h _ _ _ ((a1.trans a2).trans ex) (b2.set hl ⟨_, rfl, (rr.ext ex).set (r.ext ((a1.trans a2).trans ex)) j⟩) (e.ext ((a1.trans a2).trans ex))
        · exact h.elim
      · exact h.elim
    · exact h.elim
  · exact h.elim

def sSeq (s1 s2 : Sx) : Sx := fun env M => (s1 env M).bind s2
def sNil : Sx := fun env M => .nx env M
def sAsg (f : Ev) (g : Tg) : Sx := fun env M => (f env M).bindS env fun d M1 => g d env M1
def sExpr (f : Ev) : Sx := fun env M => (f env M).bindS env fun _ M1 => .nx env M1
def sRet (f : Ev) : Sx := fun env M => (f env M).bindS env fun d M1 => .rt d M1
def sRetN : Sx := fun _ M => .rt .non M
def sIf (ft : Ev) (s1 s2 : Sx) : Sx := fun env M => (ft env M).bindS env fun d M1 => match d with
  | .bl true => s1 env M1
  | .bl false => s2 env M1
  | _ => .st
def sBreak : Sx := fun env M => .bk env M
def sCont : Sx := fun env M => .ct env M
def sPar (i j : Nat) (f : EvL) : Sx := fun env M => (f env M).bindS env fun ds M1 => match ds with
  | [d, e] => .nx ((env.set i (some d)).set j (some e)) M1
  | _ => .st
def sPar3 (i j k : Nat) (f : EvL) : Sx := fun env M => (f env M).bindS env fun ds M1 => match ds with
  | [d, e, r] => .nx (((env.set i (some d)).set j (some e)).set k (some r)) M1
  | _ => .st
def sAug (i : Nat) (g : Op2) (f : Ev) : Sx := fun env M => match env[i]? with
  | some (some x) => (f env M).bindS env fun y M1 => (g x y M1).bindS env fun z M2 => .nx (env.set i (some z)) M2
  | _ => .st
variable {st : Stmt} {sts rest : List Stmt} {f1 f2 : Sx} {fl : EvL}
theorem db_nil : DB X W [] sNil := ⟨_, pss_nil, fun φ ρ env M σ H E e m h => h _ _ _ .refl m e⟩
theorem db_cons (h1 : DS X W st f1) (h2 : DB X W rest f2) : DB X W (st :: rest) (sSeq f1 f2) := by
  obtain ⟨t1, p1, s1⟩ := h1
  obtain ⟨t2, p2, s2⟩ := h2
  refine ⟨_, pss_cons p1 p2, fun φ ρ env M σ H E e m h => ?_⟩
  refine s1 φ ρ env M σ H _ e m ?_
  have h' : PostS ⟨X.K, φ⟩ W ρ H ((f1 env M).bind f2) E := h
  cases q : f1 env M with
  | nx e1 M1 =>
    rw [q] at h'
    intro ρ1 H1 σ1 a1 b1 c1
    exact s2 φ ρ1 e1 M1 σ1 H1 E c1 b1 (PostS.ext a1 h')
  | rt d M1 => rw [q] at h'; exact h'
  | bk d M1 => rw [q] at h'; exact h'
  | ct d M1 => rw [q] at h'; exact h'
  | ex x d M1 => rw [q] at h'; exact h'
  | st => rw [q] at h'; exact h'.elim
theorem db_one (h1 : DS X W st f1) : DB X W [st] f1 := by
  obtain ⟨t1, p1, s1⟩ := h1
  exact ⟨_, pss_one p1, s1⟩
theorem PostG.of {k : Kx} {ρ : List Addr} {H : Hp} {r : OutS} {E : Ends} (hx : (∃ e M, r = .nx e M) ∨ r = .st) (h : PostS k W ρ H r E) : PostG k ρ H r E.nx := by
  rcases hx with ⟨e, M, rfl⟩ | rfl
  · exact h
  · exact h
def TgOk (g : Tg) : Prop := ∀ d env M, (∃ e M', g d env M = .nx e M') ∨ g d env M = .st
theorem gSub_ok : TgOk (gSub fa fb) := fun d env M => by
  unfold gSub
  split
  · split
    · split
      · split
        · exact .inl ⟨_, _, rfl⟩
        · exact .inr rfl
      · exact .inr rfl
    · exact .inr rfl
  · exact .inr rfl
theorem ds_asg {tg : Expr} (he : DE X W a fa) (hg : DG X tg g) (ok : TgOk g) (hs : swapsWithSole [tg] a pos.line X.env = pure false := by rfl) (hw : swappedStores [tg] a X.env = pure none := by rfl)
    (h1 : (assignEach [tg] X.env).map (·.2) = [assign tg X.env] := by rfl) : DS X W (.Assign [tg] a pos) (sAsg fa g) := by
  obtain ⟨te, pe, se⟩ := he
  obtain ⟨tt, pt, st⟩ := hg
  refine ⟨_, ps_asg pe pt hs hw h1, fun φ ρ env M σ H E e m h => ?_⟩
  refine se φ ρ env M σ H _ e m (Post.bindS e h fun d M1 ρ1 H1 v a1 b1 c1 h1 => ?_)
  exact st φ ρ1 env M1 σ H1 d v _ (e.ext a1) b1 c1 (PostG.of (ok _ _ _) h1)
theorem ds_set (i : Nat) {x : Str} {pos' : Pos} (hN : X.N.Nodup) (he : DE X W a fa) (hi : X.N[i]? = some x := by rfl) (hx : Loc X.env.scope x := by first | exact .inl rfl | exact .inr rfl) (hs : swapsWith a (some (.Name x pos')) pos.line X.env = pure false := by rfl)
    (hf : X.fn x = true ∨ X.env.scope.names.lookup x = some .local := by first | exact .inl rfl | exact .inr rfl) : DS X W (.Assign [.Name x pos'] a pos) (sAsg fa (gN i)) := by
  obtain ⟨te, pe, se⟩ := he
  refine ⟨_, ps_set hN hi hx pe hs hf, fun φ ρ env M σ H E e m h => ?_⟩
  refine se φ ρ env M σ H _ e m (Post.bindS e h fun d M1 ρ1 H1 v a1 b1 c1 h1 => ?_)
  exact h1 _ _ _ .refl b1 ((e.ext a1).set c1)
theorem ds_expr (he : DE X W a fa) (hs : swapsWith a none pos.line X.env = pure false := by rfl) : DS X W (.Expr a pos) (sExpr fa) := by
  obtain ⟨te, pe, se⟩ := he
  refine ⟨_, ps_expr pe hs, fun φ ρ env M σ H E e m h => ?_⟩
  refine se φ ρ env M σ H _ e m (Post.bindS e h fun d M1 ρ1 H1 v a1 b1 c1 h1 => ?_)
  exact h1 _ _ _ .refl b1 (e.ext a1)
theorem ds_ret (he : DE X W a fa) : DS X W (.Return (some a) pos) (sRet fa) := by
  obtain ⟨te, pe, se⟩ := he
  refine ⟨_, ps_ret pe, fun φ ρ env M σ H E e m h => ?_⟩
  refine se φ ρ env M σ H _ e m (Post.bindS e h fun d M1 ρ1 H1 v a1 b1 c1 h1 => ?_)
  exact h1 _ _ _ .refl b1 c1
theorem PostT.bindS {k : Kx} {ρ : List Addr} {σ : L2.St} {H : Hp} {env : Env} {r : Out} {kk : D → Mem → OutS} {E : Ends} {Q1 : Bool → Hp → Prop} (he : RE k ρ H env σ) (h : PostS k W ρ H (r.bindS env kk) E) (hb : ∀ d M, (∀ b, d ≠ .bl b) → kk d M = .st)
    (f : ∀ b M ρ' H', Ext ρ H ρ' H' → MOk k ρ' M H' → PostS k W ρ' H' (kk (.bl b) M) E → Q1 b H') : PostT k W ρ σ H r Q1 := by
  cases r with
  | ok d M =>
    cases d with
    | bl b => exact fun ρ' H' a m => f b M ρ' H' a m (PostS.ext a h)
    | _ =>
      have h' : PostS k W ρ H (kk _ M) E := h
      rw [hb _ _ (by intro b z; cases z)] at h'
      exact h'.elim
  | ex x M => exact fun ρ' H' dx a b c => h ρ' H' σ dx a b (he.ext a) c
  | st => exact h
theorem ds_if {t : Expr} {ft : Ev} (ht : DT X W t ft) (h1 : DB X W sts f1) (h2 : DB X W rest f2) : DS X W (.If t sts rest pos) (sIf ft f1 f2) := by
  obtain ⟨tt, pt, st⟩ := ht
  obtain ⟨t1, p1, s1⟩ := h1
  obtain ⟨t2, p2, s2⟩ := h2
  refine ⟨_, ps_if pt p1 p2, fun φ ρ env M σ H E e m h => ?_⟩
  refine st φ ρ env M σ H _ e m (PostT.bindS e h (fun d M z => ?_) fun b M1 ρ1 H1 a1 b1 h1 => ?_)
  · cases d with
    | bl b => exact absurd rfl (z b)
    | _ => rfl
  · cases b with
    | true => exact iteT (s1 φ ρ1 env M1 σ H1 E (e.ext a1) b1 h1)
    | false => exact iteF (s2 φ ρ1 env M1 σ H1 E (e.ext a1) b1 h1)
theorem RDs.three {K : Kx} {ρ : List Addr} {H : Hp} {d e f : D} {vs : List V} (h : RDs K ρ H [d, e, f] vs) : ∃ v w u, vs = [v, w, u] ∧ RD K ρ H d v ∧ RD K ρ H e w ∧ RD K ρ H f u := by
  cases h with | cons a b => cases b with | cons b c => cases c with | cons c d => cases d; exact ⟨_, _, _, rfl, a, b, c⟩
end
end DL

namespace DL
open PySem L2

inductive OutI where
  | ok (ds : List D) (chk : Mem → Bool) (M : Mem)
  | ex (x : Exn) (M : Mem)
  | st
abbrev EvI := Env → Mem → OutI
def JW (K : Kx) (J : It) (ρ1 : List Addr) (H1 : Hp) (chk : Mem → Bool) (ds : List D) : Prop :=
  ∀ i ρ2 H2 M2, Ext ρ1 H1 ρ2 H2 → MOk K ρ2 M2 H2 → chk M2 = true →
    (∀ d, ds[i]? = some d → J.go i H2 ∧ ∀ x H', J.yld i H2 x H' → Ext ρ2 H2 ρ2 H' ∧ MOk K ρ2 M2 H' ∧ RD K ρ2 H' d x) ∧ (i = ds.length → J.stop i H2)
def PostI (K : Kx) (W : WX) (ρ : List Addr) (σ : L2.St) (H : Hp) (r : OutI) (R : It → Hp → Prop) : Prop := match r with
  | .ok ds chk M => ∀ ρ1 H1 J, Ext ρ H ρ1 H1 → MOk K ρ1 M H1 → chk M = true → (∀ φ', Hid K ⟨K.K, φ'⟩ H1 → JW ⟨K.K, φ'⟩ J ρ1 H1 chk ds) → R J H1
  | .ex x M => PostX K W ρ H x M σ
  | .st => False
def DI (X : Cx) (W : WX) (tg e : Expr) (f : EvI) : Prop := ∃ wi, PI X tg e wi ∧ ∀ φ ρ env M σ H R, RE ⟨X.K, φ⟩ ρ H env σ → MOk ⟨X.K, φ⟩ ρ M H → PostI ⟨X.K, φ⟩ W ρ σ H (f env M) R → wi σ H R
def Out.bindI (r : Out) (k : D → Mem → OutI) : OutI := match r with
  | .ok d M => k d M
  | .ex x M => .ex x M
  | .st => .st
def OutL.bindI (r : OutL) (k : List D → Mem → OutI) : OutI := match r with
  | .ok d M => k d M
  | .ex x M => .ex x M
  | .st => .st
mutual
def eqbD : D → D → Bool
  | .non, .non => true
  | .bl a, .bl b => a == b
  | .int a, .int b => a == b
  | .str a, .str b => decide (a = b)
  | .tup a, .tup b => eqbDs a b
  | .itm a, .itm b => eqbDs a b
  | .lst a, .lst b => eqbDs a b
  | .fzl a, .fzl b => eqbDs a b
  | .ref a, .ref b => a == b
  | .glo a, .glo b => decide (a = b)
  | .ty a, .ty b => a == b
  | .inst c a, .inst d b => decide (c = d) && eqbFs a b
  | .dcv a, .dcv b => eqbKs a b
  | _, _ => false
termination_by structural x => x
def eqbDs : List D → List D → Bool
  | [], [] => true
  | a :: as, b :: bs => eqbD a b && eqbDs as bs
  | _, _ => false
termination_by structural x => x
def eqbFs : List (Str × D) → List (Str × D) → Bool
  | [], [] => true
  | a :: as, b :: bs => decide (a.1 = b.1) && eqbD a.2 b.2 && eqbFs as bs
  | _, _ => false
termination_by structural x => x
def eqbKs : List (Key × D) → List (Key × D) → Bool
  | [], [] => true
  | a :: as, b :: bs => decide (a.1 = b.1) && eqbD a.2 b.2 && eqbKs as bs
  | _, _ => false
termination_by structural x => x
end
mutual
theorem eqbD_ok : ∀ {a b : D}, eqbD a b = true → a = b
  | .non, b, h => by cases b <;> first | rfl | cases h
  | .bl a, b, h => by cases b <;> first | (simp [eqbD] at h; rw [h]) | (simp [eqbD] at h)
  | .int a, b, h => by cases b <;> first | (simp [eqbD] at h; rw [h]) | (simp [eqbD] at h)
  | .str a, b, h => by cases b <;> first | (simp [eqbD] at h; rw [h]) | (simp [eqbD] at h)
  | .tup a, b, h => by cases b <;> first | (simp [eqbD] at h; rw [eqbDs_ok h]) | (simp [eqbD] at h)
  | .itm a, b, h => by cases b <;> first | (simp [eqbD] at h; rw [eqbDs_ok h]) | (simp [eqbD] at h)
  | .lst a, b, h => by cases b <;> first | (simp [eqbD] at h; rw [eqbDs_ok h]) | (simp [eqbD] at h)
  | .fzl a, b, h => by cases b <;> first | (simp [eqbD] at h; rw [eqbDs_ok h]) | (simp [eqbD] at h)
  | .ref a, b, h => by cases b <;> first | (simp [eqbD] at h; rw [h]) | (simp [eqbD] at h)
  | .glo a, b, h => by cases b <;> first | (simp [eqbD] at h; rw [h]) | (simp [eqbD] at h)
  | .ty a, b, h => by cases b <;> first | (simp [eqbD] at h; rw [h]) | (simp [eqbD] at h)
  | .inst c a, b, h => by cases b <;> first | (simp [eqbD] at h; rw [h.1, eqbFs_ok h.2]) | (simp [eqbD] at h)
  | .dcv a, b, h => by cases b <;> first | (simp [eqbD] at h; rw [eqbKs_ok h]) | (simp [eqbD] at h)
theorem eqbDs_ok : ∀ {a b : List D}, eqbDs a b = true → a = b
  | [], b, h => by cases b <;> first | rfl | cases h
  | a :: as, b, h => by
    cases b with
    | nil => cases h
    | cons b bs => simp [eqbDs] at h; rw [eqbD_ok h.1, eqbDs_ok h.2]
theorem eqbFs_ok : ∀ {a b : List (Str × D)}, eqbFs a b = true → a = b
  | [], b, h => by cases b <;> first | rfl | cases h
  | (f, a) :: as, b, h => by
    cases b with
    | nil => cases h
    | cons b bs =>
      obtain ⟨g, b⟩ := b
      simp [eqbFs] at h
      rw [h.1.1, eqbD_ok h.1.2, eqbFs_ok h.2]
theorem eqbKs_ok : ∀ {a b : List (Key × D)}, eqbKs a b = true → a = b
  | [], b, h => by cases b <;> first | rfl | cases h
  | (f, a) :: as, b, h => by
    cases b with
    | nil => cases h
    | cons b bs =>
      obtain ⟨g, b⟩ := b
      simp [eqbKs] at h
      rw [h.1.1, eqbD_ok h.1.2, eqbKs_ok h.2]
end
mutual
theorem eqbD_refl : ∀ a : D, eqbD a a = true
  | .non => rfl
  | .bl a => by simp [eqbD]
  | .int a => by simp [eqbD]
  | .str a => by simp [eqbD]
  | .tup a => by simp [eqbD, eqbDs_refl a]
  | .itm a => by simp [eqbD, eqbDs_refl a]
  | .lst a => by simp [eqbD, eqbDs_refl a]
  | .fzl a => by simp [eqbD, eqbDs_refl a]
  | .ref a => by simp [eqbD]
  | .glo a => by simp [eqbD]
  | .ty a => by simp [eqbD]
  | .inst c a => by simp [eqbD, eqbFs_refl a]
  | .dcv a => by simp [eqbD, eqbKs_refl a]
theorem eqbDs_refl : ∀ a : List D, eqbDs a a = true
  | [] => rfl
  | a :: as => by simp [eqbDs, eqbD_refl a, eqbDs_refl as]
theorem eqbFs_refl : ∀ a : List (Str × D), eqbFs a a = true
  | [] => rfl
  | (f, a) :: as => by simp [eqbFs, eqbD_refl a, eqbFs_refl as]
theorem eqbKs_refl : ∀ a : List (Key × D), eqbKs a a = true
  | [] => rfl
  | (f, a) :: as => by simp [eqbKs, eqbD_refl a, eqbKs_refl as]
end
def chkL (d : D) (xs : List D) : Mem → Bool := match d with
  | .ref l => fun M => match M[l]? with
    | some (.lst ys) => eqbDs ys xs
    | _ => false
  | _ => fun _ => true
theorem chkL_get {l : Nat} {xs : List D} {M : Mem} (h : chkL (.ref l) xs M = true) : M[l]? = some (.lst xs) := by
  have h' : (match M[l]? with | some (.lst ys) => eqbDs ys xs | _ => false) = true := h
  split at h'
  · rename_i q
    rw [q, eqbDs_ok h']
  · cases h'
theorem chkL_of {l : Nat} {xs : List D} {M : Mem} (h : M[l]? = some (.lst xs)) : chkL (.ref l) xs M = true := by
  show (match M[l]? with | some (.lst ys) => eqbDs ys xs | _ => false) = true
  rw [h]
  exact eqbDs_refl xs
abbrev cYes : Mem → Bool := fun _ => true
def rangeD (lo : Int) (n : Nat) : List D := (List.range n).map fun i => .int (lo + (i : Nat))
def inB (j : Int) : Bool := decide (-(2 ^ 62) ≤ j ∧ j < 2 ^ 62)
def iR1 (f : Ev) : EvI := fun env M => (f env M).bindI fun d M1 => match d with
  | .int j => if inB j then .ok (rangeD 0 j.toNat) cYes M1 else .st
  | _ => .st
def enumD (xs : List D) : List D := (List.range xs.length).zipWith (fun i x => .itm [.int (i : Nat), x]) xs
section
variable {K : Kx} {W : WX} {ρ ρ' ρ1 ρ2 : List Addr} {σ : L2.St} {H H' H1 H2 : Hp} {env : Env} {M M1 M2 : Mem} {a p : Addr} {o u : HO}
theorem PostI.ext {r : OutI} {R : It → Hp → Prop} (e : Ext ρ H ρ1 H1) (h : PostI K W ρ σ H r R) : PostI K W ρ1 σ H1 r R := by
  cases r with
  | ok ds c M => exact fun ρ2 H2 J a b c d => h ρ2 H2 J (e.trans a) b c d
  | ex x M => exact PostX.ext e h
  | st => exact h
theorem PostI.bind {r : Out} {k : D → Mem → OutI} {R : It → Hp → Prop} {Q1 : VK} (h : PostI K W ρ σ H (r.bindI k) R)
    (f : ∀ d M ρ' H' v, Ext ρ H ρ' H' → MOk K ρ' M H' → RD K ρ' H' d v → PostI K W ρ' σ H' (k d M) R → Q1 v H') : Post K W ρ σ H r Q1 := by
  cases r with
  | ok d M => exact fun ρ' H' v a b c => f d M ρ' H' v a b c (PostI.ext a h)
  | ex x M => exact h
  | st => exact h
theorem derefL_stay {d : D} {v : V} {ds : List D} (m : MOk K ρ M H) (r : RD K ρ H d v) (e : derefL M d = some ds) :
    ∃ a, v = .ref a ∧ (∃ xs, SqL K.K H a xs) ∧ chkL d ds M = true ∧ ∀ φ', Hid K ⟨K.K, φ'⟩ H → ∀ ρ2 H2 M2, Ext ρ H ρ2 H2 → MOk ⟨K.K, φ'⟩ ρ2 M2 H2 → chkL d ds M2 = true → ∃ xs, SqL K.K H2 a xs ∧ RDs ⟨K.K, φ'⟩ ρ2 H2 ds xs := by
  cases r with
  | lst h n r => cases e; exact ⟨_, rfl, ⟨_, .inl (.inl h)⟩, rfl, fun K' hh ρ2 H2 M2 ex m2 _ => ⟨_, .inl (.inl (ex.keep _ _ h n.1)), (r.hide hh).ext ex⟩⟩
  | fzl h r => cases e; exact ⟨_, rfl, ⟨_, h.sq⟩, rfl, fun K' hh ρ2 H2 M2 ex m2 _ => ⟨_, ((h.hide hh).ext ex).sq, (r.hide hh).ext ex⟩⟩
  | @ref l a h =>
    have e' : (match M[l]? with | some (.lst xs) => some xs | _ => none) = some ds := e
    split at e'
    · rename_i xs hx
      cases e'
      obtain ⟨u, hu, q⟩ := m.at_ _ _ _ hx h
      obtain ⟨ys, rfl, r⟩ := q
      refine ⟨_, rfl, ⟨_, .inl (.inl hu)⟩, chkL_of hx, fun K' hh ρ2 H2 M2 ex m2 c => ?_⟩
      obtain ⟨u2, hu2, q2⟩ := m2.at_ _ _ _ (chkL_get c) (get_pre ex h)
      obtain ⟨ys2, rfl, r2⟩ := q2
      exact ⟨_, .inl (.inl hu2), r2⟩
    · cases e'
  | _ => cases e
theorem jw_list {ds : List D} {chk : Mem → Bool} (h : ∀ ρ2 H2 M2, Ext ρ1 H1 ρ2 H2 → MOk K ρ2 M2 H2 → chk M2 = true → ∃ xs, SqL K.K H2 a xs ∧ RDs K ρ2 H2 ds xs) : JW K (Itl K.K a) ρ1 H1 chk ds := by
  intro i ρ2 H2 M2 ex m c
  obtain ⟨xs, s, r⟩ := h ρ2 H2 M2 ex m c
  refine ⟨fun d hd => ?_, fun hi => ⟨xs, s, by rw [← r.length, hi]; exact Nat.le_refl _⟩⟩
  obtain ⟨v, hv, rv⟩ := r.get hd
  refine ⟨⟨xs, v, s, hv⟩, fun x H' y => ?_⟩
  obtain ⟨rfl, y⟩ := y
  have := y xs s
  rw [hv] at this
  cases this
  exact ⟨.refl, m, rv⟩
theorem jw_tup {ds : List D} {xs : List V} (h : SqTf K ρ1 H1 a xs) (r : RDs K ρ1 H1 ds xs) : JW K (Itt K.K a) ρ1 H1 cYes ds := by
  intro i ρ2 H2 M2 ex m c
  have s := (h.ext ex).sq
  have r := r.ext ex
  refine ⟨fun d hd => ?_, fun hi => ⟨xs, s, by rw [← r.length, hi]; exact Nat.le_refl _⟩⟩
  obtain ⟨v, hv, rv⟩ := r.get hd
  refine ⟨⟨xs, v, s, hv⟩, fun x H' y => ?_⟩
  obtain ⟨rfl, y⟩ := y
  have := y xs s
  rw [hv] at this
  cases this
  exact ⟨.refl, m, rv⟩
theorem jw_range {lo : Int} {n : Nat} : JW K (Itr lo n) ρ1 H1 cYes (rangeD lo n) := by
  intro i ρ2 H2 M2 ex m c
  refine ⟨fun d hd => ?_, fun hi => by unfold rangeD at hi; simp at hi; show n ≤ i; omega⟩
  unfold rangeD at hd
  rw [List.getElem?_map] at hd
  cases q : (List.range n)[i]? with
  | none => rw [q] at hd; cases hd
  | some j =>
    rw [q] at hd
    obtain ⟨h1, h2⟩ := List.getElem?_eq_some_iff.mp q
    simp at h1 h2
    subst h2
    cases hd
    refine ⟨h1, fun x H' y => ?_⟩
    obtain ⟨rfl, rfl⟩ := y
    exact ⟨.refl, m, .int _⟩
theorem jw_enum {ds : List D} {chk : Mem → Bool} (h : ∀ ρ2 H2 M2, Ext ρ1 H1 ρ2 H2 → MOk K ρ2 M2 H2 → chk M2 = true → ∃ xs, SqL K.K H2 a xs ∧ RDs K ρ2 H2 ds xs) : JW K (Ite K.K a) ρ1 H1 chk (enumD ds) := by
  intro i ρ2 H2 M2 ex m c
  obtain ⟨xs, s, r⟩ := h ρ2 H2 M2 ex m c
  refine ⟨fun d hd => ?_, fun hi => ⟨xs, s, by rw [← r.length]; unfold enumD at hi; simp at hi; omega⟩⟩
  unfold enumD at hd
  rw [List.getElem?_zipWith] at hd
  cases q2 : ds[i]? with
  | none => rw [q2] at hd; cases q1 : (List.range ds.length)[i]? <;> rw [q1] at hd <;> cases hd
  | some e =>
    have hl := (List.getElem?_eq_some_iff.mp q2).1
    rw [q2, List.getElem?_range hl] at hd
    cases hd
    obtain ⟨v, hv, rv⟩ := r.get q2
    refine ⟨⟨xs, v, s, hv⟩, fun x H' y => ?_⟩
    obtain ⟨T, z, rfl, hT, rfl, y⟩ := y
    have := y xs s
    rw [hv] at this
    cases this
    exact ⟨.new hT, m.new hT, new_itm m hT (.cons (.int _) (.cons rv .nil))⟩
end
section
variable {X : Cx} {W : WX} {pos p : Pos} {a b tg : Expr} {fa fb : Ev}
theorem inB_ok {j : Int} (h : inB j = true) : -(2 ^ 62) ≤ j ∧ j < 2 ^ 62 := of_decide_eq_true (p := -(2 ^ 62) ≤ j ∧ j < 2 ^ 62) h
theorem di_range1 (hg : Gl X "range") (hm : X.mg "range" = none) (ha : DE X W a fa) (hs : starEach [a] X.env = [(false, eval a X.env)] := by rfl) (hs2 : starEach [a] X.env = (false, eval a X.env) :: starEach [] X.env := by rfl) : DI X W tg (.Call (.Name "range" p) [a] [] pos) (iR1 fa) := by
  obtain ⟨ta, pa, sa⟩ := ha
  refine ⟨_, pi_range1 hg hm (pa_cons pa pa_nil hs2) hs, fun φ ρ env M σ H R e m h => ?_⟩
  refine sa φ ρ env M σ H _ e m (PostI.bind h fun d M1 ρ1 H1 v a1 b1 c1 h1 => ?_)
  cases c1 with
  | int j =>
    have h1 : PostI ⟨X.K, φ⟩ W ρ1 σ H1 (if inB j = true then .ok (rangeD 0 j.toNat) cYes M1 else .st) R := h1
    split at h1
    · rename_i z
      exact ⟨j, rfl, (inB_ok z).1, (inB_ok z).2, h1 _ _ _ .refl b1 rfl fun K' hh => jw_range⟩
    · exact h1.elim
  | _ => exact h1.elim
end

def wipeE (env : Env) : List Nat → Env
  | [] => env
  | v :: vs => (wipeE env vs).set v none
theorem RE.drop1 {K : Kx} {ρ : List Addr} {H : Hp} {env : Env} {σ : L2.St} {i : Nat} (h : RE K ρ H env σ) : RE K ρ H (env.set i none) σ := by
  unfold RE at h ⊢; induction h generalizing i with
  | nil => exact .nil
  | cons a b ih =>
    cases i with
    | zero => exact .cons (fun d' e => by cases e) b
    | succ i => exact .cons a ih
theorem RE.forget {K : Kx} {ρ : List Addr} {H : Hp} {env : Env} {σ : L2.St} (h : RE K ρ H env σ) : ∀ vs, RE K ρ H (wipeE env vs) σ
  | [] => h
  | v :: vs => (h.forget vs).drop1
def forD (dead : List Nat) (chk : Mem → Bool) (g : Tg) (body : Sx) : List D → Env → Mem → OutS
  | [], env, M => if chk M then .nx (wipeE env dead) M else .st
  | d :: ds, env, M => if chk M then
      match g d (wipeE env dead) M with
      | .nx e1 M1 => match body e1 M1 with
        | .nx e2 M2 => forD dead chk g body ds e2 M2
        | .ct e2 M2 => forD dead chk g body ds e2 M2
        | .bk e2 M2 => .nx (wipeE e2 dead) M2
        | .rt d M2 => .rt d M2
        | .ex x e2 M2 => .ex x e2 M2
        | .st => .st
      | _ => .st
    else .st
def sFor (dead : List Nat) (fi : EvI) (g : Tg) (body : Sx) : Sx := fun env M => match fi env M with
  | .ok ds chk M1 => forD dead chk g body ds env M1
  | .ex x M1 => .ex x env M1
  | .st => .st
section
variable {X : Cx} {W : WX} {pos p : Pos} {it tg : Expr} {fi : EvI} {g : Tg} {fb : Sx} {body : List Stmt}
theorem ds_for (dead : List Nat) (hp : PassesOwn (model X.prog X.w) X.A X.env X.xe) (hc : X.calm = true) (hi : DI X W tg it fi) (hg : DG X tg g) (hb : DB X W body fb) (hs : ∀ x, foldedSetIterable it X.env x = pure x := by intro _; rfl) : DS X W (.For tg it body [] pos) (sFor dead fi g fb) := by
  obtain ⟨wi, pi, si⟩ := hi
  obtain ⟨tg', pg, sg⟩ := hg
  obtain ⟨tb, pb, sb⟩ := hb
  refine ⟨_, ps_for hp hc pi pg pb hs, fun φ ρ env M σ H E e m h => ?_⟩
  refine si φ ρ env M σ H _ e m ?_
  unfold sFor at h
  cases q : fi env M with
  | ex x M1 => rw [q] at h; exact fun ρ' H' dx a b c => h ρ' H' σ dx a b (e.ext a) c
  | st => rw [q] at h; exact h.elim
  | ok ds chk M1 =>
    rw [q] at h
    intro ρ1 H1 J a1 b1 ck1 jw0
    have jw := jw0 φ .refl
    refine ⟨fun i n σ' H' => n = ds.length - i ∧ i ≤ ds.length ∧ ∃ ρ' env' M', Ext ρ1 H1 ρ' H' ∧ MOk ⟨X.K, φ⟩ ρ' M' H' ∧ RE ⟨X.K, φ⟩ ρ' H' env' σ' ∧ PostS ⟨X.K, φ⟩ W ρ' H' (forD dead chk g fb (ds.drop i) env' M') E,
      ⟨ds.length, by simp, Nat.zero_le _, ρ1, env, M1, .refl, b1, e.ext a1, PostS.ext a1 (by simpa using h)⟩, ?_⟩
    rintro i n σ2 H2 ⟨rfl, hi, ρ2, env2, M2, ex2, m2, e2, h2⟩
    by_cases hlt : i < ds.length
    · rw [List.drop_eq_getElem_cons hlt] at h2
      unfold forD at h2
      split at h2
      · rename_i ck2
        obtain ⟨jg, js⟩ := jw i ρ2 H2 M2 ex2 m2 ck2
        obtain ⟨go, yl⟩ := jg ds[i] (by simp [hlt])
        refine .inr ⟨go, fun σ' H' => ∃ ρ' env' M', Ext ρ1 H1 ρ' H' ∧ MOk ⟨X.K, φ⟩ ρ' M' H' ∧ RE ⟨X.K, φ⟩ ρ' H' env' σ' ∧ PostS ⟨X.K, φ⟩ W ρ' H' (forD dead chk g fb (ds.drop (i + 1)) env' M') E,
          fun σ' H' z => ⟨ds.length - (i + 1), by omega, rfl, hlt, z⟩, fun x H3 y => ?_⟩
        obtain ⟨ex3, m3, r3⟩ := yl x H3 y
        refine sg φ ρ2 (wipeE env2 dead) M2 σ2 H3 ds[i] x _ ((e2.ext ex3).forget dead) m3 r3 ?_
        cases qg : g ds[i] (wipeE env2 dead) M2 with
        | nx e4 M4 =>
          rw [qg] at h2
          intro ρ4 H4 σ4 a4 b4 c4
          refine sb φ ρ4 e4 M4 σ4 H4 _ c4 b4 ?_
          have h2 := PostS.ext (ex3.trans a4) h2
          have ex4 := ex2.trans (ex3.trans a4)
          cases qb : fb e4 M4 with
          | nx e5 M5 =>
            simp only [qb] at h2
            exact fun ρ5 H5 σ5 a5 b5 c5 => ⟨ρ5, e5, M5, ex4.trans a5, b5, c5, PostS.ext a5 h2⟩
          | ct e5 M5 =>
            simp only [qb] at h2
            exact fun ρ5 H5 σ5 a5 b5 c5 => ⟨ρ5, e5, M5, ex4.trans a5, b5, c5, PostS.ext a5 h2⟩
          | bk e5 M5 => simp only [qb] at h2; exact fun ρ5 H5 σ5 a5 b5 c5 => h2 ρ5 H5 σ5 a5 b5 (c5.forget dead)
          | rt d M5 => simp only [qb] at h2; exact h2
          | ex x e5 M5 => simp only [qb] at h2; exact h2
          | st => simp only [qb] at h2; exact h2.elim
        | _ => rw [qg] at h2; exact h2.elim
      · exact h2.elim
    · have hi' : i = ds.length := by omega
      subst hi'
      rw [List.drop_length] at h2
      unfold forD at h2
      split at h2
      · rename_i ck2
        exact .inl ⟨(jw _ ρ2 H2 M2 ex2 m2 ck2).2 rfl, h2 _ _ _ .refl m2 (e2.forget dead)⟩
      · exact h2.elim
end
end DL

namespace DL
open PySem L2

def tOf (K : PySem.W.Frag) (W : WX) (f : Ev) : TE := fun σ H Q => ∃ φ ρ env M, RE ⟨K, φ⟩ ρ H env σ ∧ MOk ⟨K, φ⟩ ρ M H ∧ Post ⟨K, φ⟩ W ρ σ H (f env M) Q
def tOfT (K : PySem.W.Frag) (W : WX) (f : Ev) : TT := fun σ H Q => ∃ φ ρ env M, RE ⟨K, φ⟩ ρ H env σ ∧ MOk ⟨K, φ⟩ ρ M H ∧ PostT ⟨K, φ⟩ W ρ σ H (f env M) Q
theorem DE.canon {X : Cx} {W : WX} {e : Expr} {f : Ev} (h : DE X W e f) : PE X e (tOf X.K W f) := by
  obtain ⟨t, p, s⟩ := h
  exact ⟨fun pins st σ H Q I ⟨φ, ρ, env, M, a, b, c⟩ => p.run pins st σ H Q I (s φ ρ env M σ H Q a b c)⟩
theorem DT.canon {X : Cx} {W : WX} {e : Expr} {f : Ev} (h : DT X W e f) : PT X e (tOfT X.K W f) := by
  obtain ⟨t, p, s⟩ := h
  exact ⟨fun pins st σ H Q I ⟨φ, ρ, env, M, a, b, c⟩ => p.run pins st σ H Q I (s φ ρ env M σ H Q a b c)⟩
def PostGv (K : Kx) (vs : List Nat) (ρ : List Addr) (σ : L2.St) (H : Hp) (r : OutS) (Q : L2.St → Hp → Prop) : Prop := match r with
  | .nx e M => ∀ ρ' H' σ', Ext ρ H ρ' H' → MOk K ρ' M H' → RE K ρ' H' e σ' → (∀ i, i ∉ vs → σ'[i]? = σ[i]?) → σ'.length = σ.length → Q σ' H'
  | _ => False
def DGv (X : Cx) (vs : List Nat) (e : Expr) (f : Tg) : Prop := ∃ t, PG X e t ∧ ∀ φ ρ env M σ H d v Q, RE ⟨X.K, φ⟩ ρ H env σ → MOk ⟨X.K, φ⟩ ρ M H → RD ⟨X.K, φ⟩ ρ H d v → PostGv ⟨X.K, φ⟩ vs ρ σ H (f d env M) Q → t v σ H Q
def tOfG (K : PySem.W.Frag) (vs : List Nat) (f : Tg) : TG := fun v σ H Q => ∃ φ ρ env M d, RE ⟨K, φ⟩ ρ H env σ ∧ MOk ⟨K, φ⟩ ρ M H ∧ RD ⟨K, φ⟩ ρ H d v ∧ PostGv ⟨K, φ⟩ vs ρ σ H (f d env M) Q
theorem DGv.canon {X : Cx} {vs : List Nat} {e : Expr} {f : Tg} (h : DGv X vs e f) : PG X e (tOfG X.K vs f) := by
  obtain ⟨t, p, s⟩ := h
  exact ⟨fun pins st σ H v u Q I r ⟨φ, ρ, env, M, d, a, b, c, q⟩ => p.run pins st σ H v u Q I r (s φ ρ env M σ H d v Q a b c q)⟩
section
variable {X : Cx} {W : WX} {pos : Pos} {a : Expr} {es : List Expr} {g : Tg} {gs : TgL} {vs : List Nat}
theorem dgv_name (i : Nat) {x : Str} (hN : X.N.Nodup) (hv : i ∈ vs := by decide) (hi : X.N[i]? = some x := by rfl) (hx : Loc X.env.scope x := by first | exact .inl rfl | exact .inr rfl) (hf : X.fn x = true ∨ X.env.scope.names.lookup x = some .local := by first | exact .inl rfl | exact .inr rfl) : DGv X vs (.Name x pos) (gN i) :=
  ⟨_, pg_name hN hi hx hf, fun φ ρ env M σ H d v Q e m r h => h _ _ _ .refl m (e.set r) (fun j hj => List.getElem?_set_ne (fun z => hj (by rw [← z]; exact hv))) (List.length_set ..)⟩
end
theorem wipe_get (σ : L2.St) : ∀ (vs : List Nat) (i : Nat), (wipe σ vs)[i]? = if i ∈ vs then (if i < σ.length then some none else none) else σ[i]?
  | [], i => by simp [wipe]
  | v :: vs, i => by
    unfold wipe
    by_cases e : v = i
    · subst e
      rw [List.getElem?_set]
      simp [wipe_length]
    · rw [List.getElem?_set_ne e, wipe_get σ vs i]
      have : i ∈ v :: vs ↔ i ∈ vs := by simp [Ne.symm e]
      simp only [this]
theorem wipe_same {σ σ' : L2.St} {vs : List Nat} (h : ∀ i, i ∉ vs → σ'[i]? = σ[i]?) (l : σ'.length = σ.length) : wipe σ' vs = wipe σ vs := by
  apply List.ext_getElem?
  intro i
  rw [wipe_get, wipe_get, l]
  by_cases e : i ∈ vs
  · rw [if_pos e, if_pos e]
  · rw [if_neg e, if_neg e]; exact h i e
theorem wipe_wipe {σ : L2.St} {vs : List Nat} : wipe (wipe σ vs) vs = wipe σ vs := wipe_same (fun i hi => by rw [wipe_get, if_neg hi]) (wipe_length _ _)
theorem RE.wipe {K : Kx} {ρ : List Addr} {H : Hp} {env : Env} {σ : L2.St} (h : RE K ρ H env σ) : ∀ vs, RE K ρ H (wipeE env vs) (wipe σ vs)
  | [] => h
  | v :: vs => RE.wipe1 (h.wipe vs)

def fYes : Ev := fun _ M => .ok (.bl true) M
def DTs (X : Cx) (W : WX) (ifs : List Expr) (f : Ev) : Prop := ∃ t, PTs X ifs t ∧ ∀ φ ρ env M σ H Q, RE ⟨X.K, φ⟩ ρ H env σ → MOk ⟨X.K, φ⟩ ρ M H → PostT ⟨X.K, φ⟩ W ρ σ H (f env M) Q → t σ H Q
theorem DTs.canon {X : Cx} {W : WX} {e : List Expr} {f : Ev} (h : DTs X W e f) : PTs X e (tOfT X.K W f) := by
  obtain ⟨t, p, s⟩ := h
  exact ⟨fun pins st σ H Q I ⟨φ, ρ, env, M, a, b, c⟩ => p.run pins st σ H Q I (s φ ρ env M σ H Q a b c)⟩
theorem dts_nil {X : Cx} {W : WX} : DTs X W [] fYes := ⟨_, pts_nil, fun φ ρ env M σ H Q e m h => h _ _ .refl m⟩
abbrev W0 : WX := fun _ _ _ _ => False
def compD (chk : Mem → Bool) (g : Tg) (ft fe : Ev) (env : Env) : List D → Mem → OutL
  | [], M => if chk M then .ok [] M else .st
  | d :: ds, M => if chk M then
      match g d env M with
      | .nx e1 M1 => match ft e1 M1 with
        | .ok (.bl true) M2 => match fe e1 M2 with
          | .ok y M3 => (compD chk g ft fe env ds M3).bindL fun ys M4 => .ok (y :: ys) M4
          | _ => .st
        | .ok (.bl false) M2 => compD chk g ft fe env ds M2
        | _ => .st
      | _ => .st
    else .st
def eLc (vs : List Nat) (fi : EvI) (g : Tg) (ft fe : Ev) : Ev := fun env M => match fi env M with
  | .ok ds chk M1 => if ds.length ≤ sizeLine then (compD chk g ft fe (wipeE env vs) ds M1).bind fun ys M2 => .ok (.lst ys) M2 else .st
  | .ex x M1 => .ex x M1
  | .st => .st
theorem OutL.bindL_ok {r : OutL} {k : List D → Mem → OutL} {ds : List D} {M : Mem} (h : r.bindL k = .ok ds M) : ∃ d1 M1, r = .ok d1 M1 ∧ k d1 M1 = .ok ds M := by
  cases r with
  | ok d M1 => exact ⟨d, M1, rfl, h⟩
  | ex x M => cases h
  | st => cases h
theorem Ext.hidden {ρ ρ' : List Addr} {H H' : Hp} {a : Addr} {w : HO} (e : Ext ρ H ρ' H') (h : H a = none) (ow : ∀ u, H' a = some u → Own u) : Ext ρ H ρ' (upd H' a w) :=
  ⟨e.pre, fun b o q n z => by rw [upd_ne (ne_of_none q h)]; exact e.keep b o q n z, fun b q => by
    by_cases z : b = a
    · subst z; rw [upd_same] at q; cases q
    · rw [upd_ne z] at q; exact e.live b q, fun P t => (e.tabs P t).upd ow⟩
theorem Hid.less {K : Kx} {φ : List Addr} {a : Addr} {H : Hp} : Hid ⟨K.K, a :: K.φ⟩ K H := ⟨rfl, fun b h => .inl (List.mem_cons_of_mem _ h)⟩
structure LcI (K : Kx) (chk : Mem → Bool) (g : Tg) (ft fe : Ev) (env : Env) (ds : List D) (ρ1 : List Addr) (H1 : Hp) (Dd : Addr) (ys : List D) (Mf : Mem) (i : Nat) (H : Hp) : Prop where
  le : i ≤ ds.length
  ex : ∃ ρ' M' done rest acc, Ext ρ1 H1 ρ' H ∧ MOk ⟨K.K, Dd :: K.φ⟩ ρ' M' H ∧ H Dd = some (.lst acc) ∧ Dd ∉ ρ' ∧ RDs ⟨K.K, Dd :: K.φ⟩ ρ' H done acc ∧ done.length ≤ i ∧ ys = done ++ rest ∧ compD chk g ft fe env (ds.drop i) M' = .ok rest Mf
theorem lc_soundG {K : Kx} {g : Tg} {ft fe : Ev} {vs : List Nat} {J : It} {ρ1 : List Addr} {σ : L2.St} {H1 : Hp} {chk : Mem → Bool} {ds : List D} {env : Env} {M1 : Mem} {Dd : Addr} {Q : VK}
    (hz : ds.length ≤ sizeLine) (b1 : MOk K ρ1 M1 H1) (jw : ∀ φ', Hid K ⟨K.K, φ'⟩ H1 → JW ⟨K.K, φ'⟩ J ρ1 H1 chk ds) (he : RE K ρ1 H1 env (wipe σ vs)) (hD : H1 Dd = none) {ys : List D} {Mf : Mem} (hc : compD chk g ft fe env ds M1 = .ok ys Mf)
    (h : ∀ ρ' H' a acc, Ext ρ1 H1 ρ' H' → MOk K ρ' Mf H' → H1 a = none → H' a = some (.lst acc) → a ∉ ρ' → a ∉ K.φ → RDs K ρ' H' ys acc → MOk ⟨K.K, a :: K.φ⟩ ρ' Mf H' → RDs ⟨K.K, a :: K.φ⟩ ρ' H' ys acc → Q (.ref a) H') :
    ∃ Wv : Nat → Nat → Hp → Prop, (∃ m, Wv 0 m (upd H1 Dd (.lst []))) ∧ ∀ i m H, Wv i m H → (J.stop i H ∧ Q (.ref Dd) H) ∨ (J.go i H ∧ ∃ Nx : Hp → Prop, (∀ H', Nx H' → ∃ m', m' < m ∧ Wv (i + 1) m' H') ∧
      ∀ x H', J.yld i H x H' → tOfG K.K vs g x (wipe σ vs) H' fun σ2 H2 => wipe σ2 vs = wipe σ vs ∧ tOfT K.K W0 ft σ2 H2 fun b H3 => if b = true then tOf K.K W0 fe σ2 H3 fun y H4 => ∃ acc, H4 Dd = some (.lst acc) ∧ acc.length < sizeLine ∧ Nx (upd H4 Dd (.lst (acc ++ [y]))) else Nx H3) := by
  have ex0 : Ext ρ1 H1 ρ1 (upd H1 Dd (.lst [])) := .new hD
  have hid0 : Hid K ⟨K.K, Dd :: K.φ⟩ H1 := ⟨rfl, fun a z => by
    rcases List.mem_cons.mp z with rfl | z
    · exact .inr hD
    · exact .inl z⟩
  have jw := jw (Dd :: K.φ) hid0
  have he := he.hide hid0
  have fr := b1.fresh hD
  have m0 : MOk ⟨K.K, Dd :: K.φ⟩ ρ1 M1 (upd H1 Dd (.lst [])) := by
    have q := b1.new (o := .lst []) hD
    refine ⟨q.nd, q.len, fun a z => ?_, fun l ob a h1 h2 => ?_, q.tab⟩
    · rcases List.mem_cons.mp z with rfl | z
      · exact ⟨_, upd_same, trivial⟩
      · exact q.hid a z
    · obtain ⟨u, hu, r⟩ := b1.at_ l ob a h1 h2
      exact ⟨u, by rw [upd_ne (ne_of_none hu hD)]; exact hu, (r.hide hid0).ext ex0⟩
  have hm : Dd ∈ (⟨K.K, Dd :: K.φ⟩ : Kx).φ := List.mem_cons_self
  refine ⟨fun i m H => m = ds.length - i ∧ LcI K chk g ft fe env ds ρ1 H1 Dd ys Mf i H, ⟨ds.length, by simp, Nat.zero_le _, ρ1, M1, [], ys, [], ex0, m0, upd_same, fr.1, .nil, Nat.le_refl _, rfl, by simpa using hc⟩, ?_⟩
  rintro i m H2 ⟨rfl, hi, ρ2, M2, dn, rs, acc, ex2, m2, hacc, hn, rd, hl, rfl, hc2⟩
  by_cases hlt : i < ds.length
  · rw [List.drop_eq_getElem_cons hlt] at hc2
    unfold compD at hc2
    split at hc2
    · rename_i ck
      obtain ⟨jg, _⟩ := jw i ρ2 H2 M2 ex2 m2 ck
      obtain ⟨go, yl⟩ := jg ds[i] (by simp [hlt])
      refine .inr ⟨go, LcI K chk g ft fe env ds ρ1 H1 Dd (dn ++ rs) Mf (i + 1), fun H' z => ⟨ds.length - (i + 1), by omega, rfl, z⟩, fun x H3 y => ?_⟩
      obtain ⟨ex3, m3, r3⟩ := yl x H3 y
      refine ⟨Dd :: K.φ, ρ2, env, M2, ds[i], (he.ext ex2).ext ex3, m3, r3, ?_⟩
      split at hc2
      · rename_i e4 M4 qg
        rw [qg]
        intro ρ4 H4 σ4 a4 b4 c4 f4 l4
        refine ⟨by rw [wipe_same f4 l4, wipe_wipe], Dd :: K.φ, ρ4, e4, M4, c4, b4, ?_⟩
        have ex4 := ex3.trans a4
        split at hc2
        · -- kept
          rename_i M5 qt
          rw [qt]
          intro ρ5 H5 a5 b5
          refine iteT ⟨Dd :: K.φ, ρ5, e4, M5, c4.ext a5, b5, ?_⟩
          split at hc2
          · rename_i y0 M6 qe
            rw [qe]
            intro ρ6 H6 v6 a6 b6 c6
            have ex6 := ex4.trans (a5.trans a6)
            have hD6 : H6 Dd = some (.lst acc) := ex6.keep _ _ hacc hn
            have hn6 : Dd ∉ ρ6 := ex6.nin hacc hn
            obtain ⟨rs1, M7, q7, e7⟩ := OutL.bindL_ok hc2
            cases e7
            refine ⟨acc, hD6, by rw [← rd.length]; omega, ?_⟩
            exact ⟨hlt, ρ6, M6, dn ++ [y0], rs1, acc ++ [v6], (ex2.trans ex6).hidden hD (b6.owned hm), b6.hid' hm hn6 trivial, upd_same, hn6, ((rd.ext ex6).hid hm).append (.cons (c6.hid hm) .nil), by simp; omega, by simp, q7⟩
          · cases hc2
        · -- left out
          rename_i M5 qt
          rw [qt]
          intro ρ5 H5 a5 b5
          have ex5 := ex4.trans a5
          exact iteF ⟨hlt, ρ5, M5, dn, rs, acc, ex2.trans ex5, b5, ex5.keep _ _ hacc hn, ex5.nin hacc hn, rd.ext ex5, by omega, rfl, hc2⟩
        · cases hc2
      · cases hc2
    · cases hc2
  · have hi' : i = ds.length := by omega
    subst hi'
    rw [List.drop_length] at hc2
    unfold compD at hc2
    split at hc2
    · rename_i ck
      cases hc2
      rw [List.append_nil] at h
      have less : Hid ⟨K.K, Dd :: K.φ⟩ K H2 := Hid.less (φ := K.φ)
      have mf := m2.hide less fun a z => m2.hid a (List.mem_cons_of_mem _ z)
      have nd : Dd ∉ K.φ := fr.2
      exact .inl ⟨(jw _ ρ2 H2 _ ex2 m2 ck).2 rfl, h _ _ _ _ ex2 mf hD hacc hn nd (rd.hide less) m2 rd⟩
    · cases hc2
theorem comp_noex {chk : Mem → Bool} {g : Tg} {ft fe : Ev} {env : Env} : ∀ (ds : List D) (M1 : Mem) (x : Exn) (Mf : Mem), compD chk g ft fe env ds M1 ≠ .ex x Mf := by
  intro ds
  induction ds with
  | nil => intro M1 x Mf z; unfold compD at z; split at z <;> cases z
  | cons d ds ih =>
    intro M1 x Mf z
    unfold compD at z
    split at z
    · split at z
      · split at z
        · split at z
          · rename_i M6 qe
            cases qq : compD chk g ft fe env ds M6 with
            | ok a b => rw [qq] at z; cases z
            | ex a b => exact ih _ _ _ qq
            | st => rw [qq] at z; cases z
          · cases z
        · exact ih _ _ _ z
        · cases z
      · cases z
    · cases z
theorem Ext.more {ρ ρ' : List Addr} {H H' : Hp} {a : Addr} (e : Ext ρ H ρ' H') (h : H a = none) : Ext ρ H (ρ' ++ [a]) H' := by
  obtain ⟨t, ht, hn⟩ := e.pre
  refine ⟨⟨t ++ [a], by rw [ht, List.append_assoc], fun b hb => ?_⟩, fun a o q n z => e.keep a o q n z, e.live, e.tabs⟩
  rcases List.mem_append.mp hb with z | z
  · exact hn b z
  · obtain rfl := List.mem_singleton.mp z
    exact h
section
variable {K : Kx} {ρ : List Addr} {H : Hp} {a : Addr}
theorem nin_more {b : Addr} (n : b ∉ ρ ∧ b ∉ (⟨K.K, a :: K.φ⟩ : Kx).φ) : b ∉ ρ ++ [a] ∧ b ∉ K.φ :=
  ⟨fun z => by
    rcases List.mem_append.mp z with z | z
    · exact n.1 z
    · obtain rfl := List.mem_singleton.mp z
      exact n.2 List.mem_cons_self, fun z => n.2 (List.mem_cons_of_mem _ z)⟩
mutual
theorem RD.bare : ∀ {d v}, RD ⟨K.K, a :: K.φ⟩ ρ H d v → RD K (ρ ++ [a]) H d v
  | _, _, .non => .non
  | _, _, .bl b => .bl b
  | _, _, .int i => .int i
  | _, _, .str x => .str x
  | _, _, .tup h r => .tup (h.elim (fun z => .inl ⟨z.1, nin_more z.2⟩) .inr) (RDs.bare r)
  | _, _, .itm h n r => .itm h (nin_more n) (RDs.bare r)
  | _, _, .lst h n r => .lst h (nin_more n) (RDs.bare r)
  | _, _, .fzl h r => .fzl (h.elim (fun z => .inl ⟨z.1, nin_more z.2⟩) .inr) (RDs.bare r)
  | _, _, .ref h => .ref (by
    obtain ⟨hl, _⟩ := List.getElem?_eq_some_iff.mp h
    rw [List.getElem?_append_left hl]; exact h)
  | _, _, .glo => .glo
  | _, _, .ty n => .ty n
  | _, _, .inst h n r => .inst h (nin_more n) (RFs.bare r)
  | _, _, .dcv h n r => .dcv h (nin_more n) (RKv.bare r)
theorem RDs.bare : ∀ {ds vs}, RDs ⟨K.K, a :: K.φ⟩ ρ H ds vs → RDs K (ρ ++ [a]) H ds vs
  | _, _, .nil => .nil
  | _, _, .cons h t => .cons (RD.bare h) (RDs.bare t)
theorem RFs.bare : ∀ {ds vs}, RFs ⟨K.K, a :: K.φ⟩ ρ H ds vs → RFs K (ρ ++ [a]) H ds vs
  | _, _, .nil => .nil
  | _, _, .cons h t => .cons (RD.bare h) (RFs.bare t)
theorem RKv.bare : ∀ {ds vs}, RKv ⟨K.K, a :: K.φ⟩ ρ H ds vs → RKv K (ρ ++ [a]) H ds vs
  | _, _, .nil => .nil
  | _, _, .cons h t => .cons (RD.bare h) (RKv.bare t)
end
theorem RO.bare {b : Addr} {ob : Ob} {u : HO} (h : RO ⟨K.K, a :: K.φ⟩ ρ H b ob u) : RO K (ρ ++ [a]) H b ob u := by
  cases ob with
  | lst ds =>
    obtain ⟨xs, e, r⟩ := h
    exact ⟨xs, e, r.bare⟩
  | dic kvs =>
    obtain ⟨ks, e, r⟩ := h
    exact ⟨ks, e, L2.Paired.mapP r fun p q z => ⟨z.1, z.2.bare⟩⟩
  | ins c fs =>
    obtain ⟨dx, gs, e, r⟩ := h
    exact ⟨dx, gs, e, r.bare⟩
  | dct kvs =>
    obtain ⟨xs, e, r⟩ := h
    exact ⟨xs, e, r.mapR fun _ _ z => z.bare⟩
  | fnc i =>
    obtain ⟨T, pm, c, ct, h1, h2, h3, n1, n2⟩ := h
    exact ⟨T, pm, c, ct, h1, h2, h3, nin_more ⟨n1, n2⟩⟩
  | exc c fs =>
    obtain ⟨d, gs, e, x, y, r⟩ := h
    exact ⟨d, gs, e, fun dx q => ⟨(x dx q).1, nin_more (x dx q).2⟩, y, r.bare⟩
theorem MOk.more {M : Mem} {acc : List V} {ys : List D} (m : MOk ⟨K.K, a :: K.φ⟩ ρ M H) (h : H a = some (.lst acc)) (n : a ∉ ρ) (n2 : a ∉ K.φ) (r : RDs ⟨K.K, a :: K.φ⟩ ρ H ys acc) : MOk K (ρ ++ [a]) (M ++ [.lst ys]) H := by
  refine ⟨?_, by simp [m.len], fun b z => m.hid b (List.mem_cons_of_mem _ z), fun l ob b h1 h2 => ?_, m.tab⟩
  · rw [List.nodup_append]
    refine ⟨m.nd, by simp, fun b hb c hc => ?_⟩
    (obtain rfl := List.mem_singleton.mp hc)
    exact fun z => n (z ▸ hb)
  · by_cases hl : l < M.length
    · rw [List.getElem?_append_left hl] at h1
      rw [List.getElem?_append_left (by rw [m.len]; exact hl)] at h2
      obtain ⟨v, hv, r'⟩ := m.at_ l ob b h1 h2
      exact ⟨v, hv, r'.bare⟩
    · have hl3 : l = M.length := by
        have := (List.getElem?_eq_some_iff.mp h1).1
        simp at this; omega
      subst hl3
      rw [List.getElem?_concat_length] at h1
      rw [← m.len, List.getElem?_concat_length] at h2
      cases h1; cases h2
      exact ⟨_, h, acc, rfl, r.bare⟩
end
section
variable {X : Cx} {W : WX} {elt tg iter : Expr} {ifs : List Expr} {scope : Scope} {own : List (Str × Nat)} {pos : Pos} {fi : EvI} {g : Tg} {ft fe : Ev}
theorem lc_post {K : Kx} {vs : List Nat} {ρ : List Addr} {σ : L2.St} {H : Hp} {env : Env} {M : Mem} {Q : VK} (he : RE K ρ H env σ) (h : Post K W ρ σ H (eLc vs fi g ft fe env M) Q) :
    PostI K W ρ σ H (fi env M) (fun J H1 => ∀ Dd, H1 Dd = none → ∃ Wv : Nat → Nat → Hp → Prop, (∃ m, Wv 0 m (upd H1 Dd (.lst []))) ∧ ∀ i m H, Wv i m H → (J.stop i H ∧ Q (.ref Dd) H) ∨ (J.go i H ∧ ∃ Nx : Hp → Prop, (∀ H', Nx H' → ∃ m', m' < m ∧ Wv (i + 1) m' H') ∧
      ∀ x H', J.yld i H x H' → tOfG K.K vs g x (wipe σ vs) H' fun σ2 H2 => wipe σ2 vs = wipe σ vs ∧ tOfT K.K W0 ft σ2 H2 fun b H3 => if b = true then tOf K.K W0 fe σ2 H3 fun y H4 => ∃ acc, H4 Dd = some (.lst acc) ∧ acc.length < sizeLine ∧ Nx (upd H4 Dd (.lst (acc ++ [y]))) else Nx H3)) := by
  unfold eLc at h
  cases q : fi env M with
  | ex x M1 => rw [q] at h; exact h
  | st => rw [q] at h; exact h.elim
  | ok ds chk M1 =>
    rw [q] at h
    simp only at h
    split at h
    · rename_i hz
      intro ρ1 H1 J a1 b1 ck jw Dd hD
      cases qc : compD chk g ft fe (wipeE env vs) ds M1 with
      | ok ys Mf =>
        rw [qc] at h
        exact lc_soundG hz b1 jw ((he.ext a1).wipe vs) hD qc fun ρ' H' a acc ex m _ h1 h2 h3 r _ _ => h ρ' H' _ (a1.trans ex) m (.lst h1 ⟨h2, h3⟩ r)
      | ex x Mf =>
        exfalso
        exact comp_noex _ _ _ _ qc
      | st => rw [qc] at h; exact h.elim
    · exact h.elim
theorem de_lc (own : List (Str × Nat)) (hc : X.calm = true) (hN : X.N.Nodup) (hi : DI X W tg iter fi) (ok : BlkOk X.N X.env.scope scope own)
    (hg : ∀ (s : Shared) (H : Hp) (C : Addr) (cl : List (Str × Addr)) (fp : List Addr), DGv (X.blk s H scope (compEnvC scope cl C X.env) fp) (own.map (·.2)) tg g)
    (ht : ∀ (s : Shared) (H : Hp) (C : Addr) (cl : List (Str × Addr)) (fp : List Addr), DTs (X.blk s H scope (compEnvC scope cl C X.env) fp) W0 ifs ft)
    (he : ∀ (s : Shared) (H : Hp) (C : Addr) (cl : List (Str × Addr)) (fp : List Addr), DE (X.blk s H scope (compEnvC scope cl C X.env) fp) W0 elt fe) (hs : ∀ x, foldedSetIterable iter X.env x = pure x := by intro _; rfl) :
    DE X W (.ListComp elt [⟨tg, iter, ifs, 0⟩] scope pos) (eLc (own.map (·.2)) fi g ft fe) := by
  obtain ⟨wi, pi, si⟩ := hi
  refine ⟨_, pe_lc (g := tOfG X.K (own.map (·.2)) g) (tt := tOfT X.K W0 ft) (te := tOf X.K W0 fe) hc hN pi ok (fun s H C cl fp => (hg s H C cl fp).canon) (fun s H C cl fp => (ht s H C cl fp).canon) (fun s H C cl fp => (he s H C cl fp).canon) hs, fun φ ρ env M σ H Q e m h => ?_⟩
  exact si φ ρ env M σ H _ e m (lc_post e h)
end
end DL

namespace DL
open PySem L2 PyProof.Rows PySem.Spec
def Room (k : Nat) (A : Around) : Prop := L2.Room k A ∧ A.guards = some []
section
variable {j k : Nat} {A : Around}
theorem Room.rm (r : Room k A) : L2.Room k A := r.1
theorem Room.gd (r : Room k A) : A.guards = some [] := r.2
instance : CoeOut (Room k A) (L2.Room k A) := ⟨Room.rm⟩
theorem Room.mono (r : Room k A) (h : j ≤ k) : Room j A := ⟨r.1.mono h, r.2⟩
theorem Room.depth (r : Room k A) : A.depth < recursionLimit := r.1.depth
theorem Room.units (r : Room k A) : A.units + 64 < cLine := r.1.units
theorem Room.dp (r : Room k A) : A.depth + 3 * k + 5 < recursionLimit := r.1.dp
theorem Room.un (r : Room k A) : A.units + 16 * k + 200 < cLine := r.1.un
theorem Room.hd (r : Room k A) : A.handled = none := r.1.hd
theorem Room.deeper (r : Room (k + 1) A) (e : PySem.Env) : Room k (A.deeper e) := ⟨r.1.deeper e, r.2⟩
theorem Room.in1 (r : Room (k + 1) A) : Room k A.in1 := ⟨r.1.in1, r.2⟩
theorem Room.make (r : Room (k + 1) A) (C : Addr) (us : List Value) (kw : List (Str × Value)) : Room k (A.under (.builtin "type.__call__" ⟨.ref C :: us, kw⟩)) :=
  ⟨r.1.make C us kw, by unfold Around.under; simp only [r.2]; rfl⟩
end
section
variable (P : Program) (w : World) (K : PySem.W.Frag) (mg : Str → Option Value) (base : Heap) (cx : CXT)
def Comes (A : Around) (g : Addr) (args : Args) (out : List PySem.Env) (H : Hp) (Q : VK) (E : XK) (z : Shared) : Prop :=
  codeAny (model P w) A (.call (.ref g) args) (CR cx out P w H z Q E) z
variable (k : Nat) (g : Addr)
structure FnOk (df : FuncData) (ns : List Str) (pr : Sp) : Prop where
  many : ∀ xs H Q E, pr xs H Q E → xs.length = ns.length
  comes : ∀ A, Room k A → ∀ out z H, Env0 P w K mg base A out z H → ∀ args us xs, BindsTo z df args (ns.zip us) → Vals xs us → ∀ Q E, pr xs H Q E → Comes P w cx A g args out H Q E z
def FnR (pr : Sp) : Prop := ∀ A, Room k A → ∀ out z H, Env0 P w K mg base A out z H → ∀ us xs, Vals xs us → ∀ Q E, pr xs H Q E → Comes P w cx A g ⟨us, []⟩ out H Q E z
end
section
variable {P : Program} {w : World} {K : PySem.W.Frag} {mg : Str → Option Value} {base : Heap} {cx : CXT} {j k : Nat} {g : Addr} {df : FuncData} {ns N : List Str} {pr pr' : Sp} {x qual : Str} {params : Arguments} {body : List Stmt} {scope : Scope} {dvs : List V} {kws : List (Str × V)}
theorem FnOk.len (F : FnOk P w K mg base cx k g df ns pr) : ∀ xs H Q E, pr xs H Q E → xs.length = ns.length := F.many
theorem FnOk.run (F : FnOk P w K mg base cx k g df ns pr) (A : Around) (out : List PySem.Env) (z : Shared) (H : Hp) (args : Args) (us : List Value) (xs : List V) (Q : VK) (E : XK) (r : Room k A) (e : Env0 P w K mg base A out z H) (b : BindsTo z df args (ns.zip us)) (v : Vals xs us) (h : pr xs H Q E) :
    Comes P w cx A g args out H Q E z := F.comes A r out z H e args us xs b v Q E h
theorem FnOk.mono (F : FnOk P w K mg base cx j g df ns pr) (h : j ≤ k) : FnOk P w K mg base cx k g df ns pr := ⟨F.many, fun A r => F.comes A (r.mono h)⟩
theorem FnR.mono (F : FnR P w K mg base cx j g pr) (h : j ≤ k) : FnR P w K mg base cx k g pr := fun A r => F A (r.mono h)
theorem FnR.imp (F : FnR P w K mg base cx k g pr) (h : ∀ xs H Q E, pr' xs H Q E → pr xs H Q E) : FnR P w K mg base cx k g pr' := fun A r out z H e us xs v Q E q => F A r out z H e us xs v Q E (h _ _ _ _ q)
theorem FnR.run (F : FnR P w K mg base cx k g pr) (A : Around) (out : List PySem.Env) (z : Shared) (H : Hp) (us : List Value) (xs : List V) (Q : VK) (E : XK) (r : Room k A) (e : Env0 P w K mg base A out z H) (v : Vals xs us) (h : pr xs H Q E) : Comes P w cx A g ⟨us, []⟩ out H Q E z := F A r out z H e us xs v Q E h
theorem fnD_ok (F : FunD K x qual params body scope dvs kws g df) (S : FnScope N ns scope) (many : ∀ xs H Q E, pr xs H Q E → xs.length = ns.length)
    (bd : ∀ cdv A out z H xs Q E, Room k (A.deeper (envOfC qual scope z.heap.objs.size g cdv)) → pr xs H Q E →
      ∃ t, PSs (cxOf cx P w K mg base N qual scope g cdv A out z H E) body t ∧ t ⟨fun _ H' => Q .non H', Q, fun _ _ => False, fun _ _ => False⟩ (start N xs) H) : FnOk P w K mg base cx (k + 1) g df ns pr := by
  obtain ⟨_, _, _, _, _, _, _, cdv, _, _, rfl, lk, hcd, _⟩ := F.ex
  refine ⟨many, fun A r out z H e args us xs b v Q E h => ?_⟩
  refine StX.run_bnd lk hcd S r.rm e (G := fun ys H2 => ys = xs ∧ H2 = H) (fun A' Ex Q' go => b _ _ _ _ (go z H xs us e .refl rfl (fun _ _ t => t) v (many _ _ _ _ h) ⟨rfl, rfl⟩)) fun z2 H2 ys t rm => ?_
  obtain ⟨t1, t2⟩ := t
  rw [t1, t2]
  exact bd cdv A out z2 H xs Q E ⟨rm, r.gd⟩ h
end
section
variable {X : Cx} {cx : CXT} {k : Nat} {g : Addr} {df : FuncData} {ns : List Str} {pr : Sp} {dvs : List V} {ds : List Value} {pins : List (Addr × Obj)} {σ : L2.St} {H : Hp} {s : Shared} {Q : VK}
theorem end_of {s' : Shared} {E : XK} {t : Result} (ps : PassesAt cx X σ E) (J : Inv X pins σ H s) (h : CR cx X.stack X.prog X.w H s Q E t s') : match t with
    | .ok (.ret u) => EP X pins σ Q u s'
    | .ok _ => False
    | .error e => X.xe e s' := by
  cases t with
  | error e => exact ps pins H s e s' J h
  | ok fl => cases fl <;> first | exact J.after h | exact h
variable {E : L2.St → XK}
theorem run_fnSD {us : List Value} {vs : List V} (G : FnOk X.prog X.w X.K X.mg X.base cx k g df ns pr) (room : Room k X.A) (bi : Binds X.K df ns ds) (dv : Vals dvs ds) (ps : PassesAt cx X σ (E σ)) (J : Inv X pins σ H s) (va : Vals vs us)
    (wish : pr (vs ++ dvs) H Q (E σ)) : wpAny (model X.prog X.w) X.A (PySem.call (.ref g) us) (fun u s' => EP X pins σ Q u s') X.xe s := by
  have all := va.append dv
  have go := G.comes X.A room X.stack s H J.env0 ⟨us, []⟩ _ _ (bi s us J.kIn (all.length.symm.trans (G.many _ _ _ _ wish))) all Q (E σ) wish
  exact wpAny_call (codeAny_mono go fun t s' z => by
    have := end_of ps J z
    cases t with
    | error e => exact this
    | ok fl => cases fl <;> exact this)
variable {x : Str} {p pos : Pos} {a : Expr} {as : List Expr} {ta : TA}
theorem pe_callSD (G : FnOk X.prog X.w X.K X.mg X.base cx k g df ns pr) (room : Room k X.A) (gl : Gl X x) (at_ : X.mg x = some (.ref g)) (keep : PySem.W.keepIn X.K (.ref g) = true) (bi : Binds X.K df ns ds) (dv : Vals dvs ds)
    (ps : ∀ σ, PassesAt cx X σ (E σ)) (args : PA X (a :: as) ta) (nd : (x == ("__debug__" : Str)) = false := by decide) (st : starEach (a :: as) X.env = (false, eval a X.env) :: starEach as X.env := by rfl)
    (pl : (backTo pos (starEach as X.env)).any (·.1) = false := by rfl) : PE X (.Call (.Name x p) (a :: as) [] pos) (tCallSD pr dvs E ta) :=
  ⟨fun pins s σ H Q J wish => wpAny_Call_Name_kw (ld_glob J gl at_ (PySem.W.callWith_K (h₀ := X.base) J.ok.mod.kin keep (thn (args.run pos pins s σ H _ J wish) fun us s1 t => by
    obtain ⟨vs, H1, J1, va, w1⟩ := t
    exact ⟨J1.kIn, run_fnSD G room bi dv (ps σ) J1 va w1⟩) st pl) nd)⟩
end
section
variable {X : Cx} {cx : CXT} {k : Nat} {df : FuncData} {ns : List Str} {pr : Sp} {dvs : List V} {ds : List Value} {E : XK} {C q g : Addr} {f : Str}
end
end DL

namespace DL
open PySem L2 PyProof.Rows PySem.Spec

def PostF (K : Kx) (ρ : List Addr) (H : Hp) (r : Out) (Q : VK) (E : XK) : Prop := match r with
  | .ok d M => ∀ ρ' H' v, Ext ρ H ρ' H' → MOk K ρ' M H' → RD K ρ' H' d v → Q v H'
  | .ex x M => ∀ ρ' H' dx, Ext ρ H ρ' H' → MOk K ρ' M H' → ExR K ρ' H' x dx → E (.ref (gadr K.K x.cls)) dx H'
  | .st => False
def spF (K : PySem.W.Frag) (n : Nat) (F : Fn) : Sp := fun vs H Q E => ∃ φ ρ ds M, ds.length = n ∧ RDs ⟨K, φ⟩ ρ H ds vs ∧ MOk ⟨K, φ⟩ ρ M H ∧ PostF ⟨K, φ⟩ ρ H (F ds M) Q E
def endF : OutS → Out
  | .rt d M => .ok d M
  | .nx _ M => .ok .non M
  | .ex x _ M => .ex x M
  | _ => .st
def defn (n s : Nat) (body : Sx) : Fn := fun ds M => if ds.length = n then endF (body (ds.map some ++ List.replicate (s - n) none) M) else .st
mutual
def pureD : D → Bool
  | .tup xs => puresD xs
  | .itm xs => puresD xs
  | .lst xs => puresD xs
  | .fzl xs => puresD xs
  | .inst _ fs => puresF fs
  | .dcv kvs => puresK kvs
  | .ref _ => false
  | .non => true
  | .bl _ => true
  | .int _ => true
  | .str _ => true
  | .glo _ => true
  | .ty _ => true
def puresD : List D → Bool
  | [] => true
  | x :: xs => pureD x && puresD xs
def puresF : List (Str × D) → Bool
  | [] => true
  | x :: xs => pureD x.2 && puresF xs
def puresK : List (Key × D) → Bool
  | [] => true
  | x :: xs => pureD x.2 && puresK xs
end
def pureOb : Ob → Bool
  | .lst xs => puresD xs
  | .dic kvs => kvs.all fun p => pureD p.2
  | .ins _ fs => puresF fs
  | .dct kvs => kvs.all fun p => pureD p.2
  | .fnc _ => true
  | .exc _ fs => puresF fs
def obD : Ob → Option D
  | .lst xs => if puresD xs then some (.lst xs) else none
  | .dic kvs => if puresK kvs then some (.dcv kvs) else none
  | .ins c fs => if puresF fs then some (.inst c fs) else none
  | .dct _ => none
  | .fnc _ => none
  | .exc _ _ => none
def backE (n : Nat) (M : Mem) (d : D) : Option D := match d with
  | .ref l => if n ≤ l then (match M[l]? with
    | some ob => obD ob
    | none => none) else some (.ref l)
  | d => if pureD d then some d else none
def backL (n : Nat) (M : Mem) : List D → Option (List D)
  | [] => some []
  | d :: ds => match backE n M d, backL n M ds with
    | some e, some es => some (e :: es)
    | _, _ => none
def backC (n : Nat) (M : Mem) (d : D) : Option D := match d with
  | .lst ds => (backL n M ds).map .lst
  | .tup ds => (backL n M ds).map .tup
  | _ => none
def backD (n : Nat) (d : D) (M : Mem) : Option D := match d with
  | .ref l => if n ≤ l then (match M[l]? with
    | some ob => obD ob
    | none => none) else some (.ref l)
  | d => if pureD d then some d else backC n M d
def retF (r : Out) (n : Nat) (f : Mem → Option Mem) : Out := match r with
  | .ok d M => match f M, backD n d M with
    | some M', some d' => .ok d' M'
    | _, _ => .st
  | .ex x M => match f M with
    | some M' => if puresF x.fs then .ex x M' else .st
    | none => .st
  | .st => .st
def lowD (n : Nat) : D → Bool
  | .ref l => decide (l < n)
  | d => pureD d
def lowOb (n : Nat) : Ob → Bool
  | .lst xs => xs.all (lowD n)
  | .dic kvs => kvs.all fun p => lowD n p.2
  | .ins _ fs => fs.all fun p => lowD n p.2
  | .dct kvs => kvs.all fun p => lowD n p.2
  | .fnc _ => true
  | .exc _ fs => fs.all fun p => lowD n p.2
theorem lowD_of {n : Nat} {d : D} (h : pureD d = true) : lowD n d = true := by
  cases d <;> first | exact h | exact nomatch h
theorem lowL_of {n : Nat} : ∀ {xs : List D}, puresD xs = true → xs.all (lowD n) = true
  | [], _ => rfl
  | d :: ds, h => by
    have h' := Bool.and_eq_true_iff.mp h
    rw [List.all_cons, lowD_of h'.1, lowL_of h'.2]; rfl
theorem lowF_of {n : Nat} : ∀ {xs : List (Str × D)}, puresF xs = true → (xs.all fun p => lowD n p.2) = true
  | [], _ => rfl
  | d :: ds, h => by
    have h' := Bool.and_eq_true_iff.mp h
    rw [List.all_cons, lowD_of h'.1, lowF_of h'.2]; rfl
theorem lowOb_of {n : Nat} {ob : Ob} (h : pureOb ob = true) : lowOb n ob = true := by
  cases ob with
  | lst xs => exact lowL_of h
  | dic kvs => exact List.all_eq_true.mpr fun p hp => lowD_of (List.all_eq_true.mp h p hp)
  | ins c fs => exact lowF_of h
  | dct kvs => exact List.all_eq_true.mpr fun p hp => lowD_of (List.all_eq_true.mp h p hp)
  | fnc i => rfl
  | exc c fs => exact lowF_of h
def cutM (n : Nat) (M : Mem) : Option Mem := if (M.take n).all (lowOb n) then some (M.take n) else none
theorem cutM_pure {n : Nat} {M : Mem} (h : (M.take n).all pureOb = true) : cutM n M = some (M.take n) := by
  unfold cutM
  rw [if_pos (List.all_eq_true.mpr fun x hx => lowOb_of (List.all_eq_true.mp h x hx))]
def callF (F : Fn) (ds : List D) (M : Mem) : Out := if puresD ds then retF (F ds []) 0 (fun _ => some M) else (retF (F ds M) M.length (cutM M.length)).or (F ds M)
section
variable {K K' : Kx} {W : WX} {ρ ρ' : List Addr} {σ : L2.St} {H H' : Hp} {M M' : Mem}
def Sub (K K' : Kx) (ρ ρ' : List Addr) (H : Hp) : Prop := K'.K = K.K ∧ ∀ a o, H a = some o → a ∉ ρ → a ∉ K.φ → a ∉ ρ' ∧ a ∉ K'.φ
theorem SqTf.sub {a : Addr} {xs : List V} (s : Sub K K' ρ ρ' H) (h : SqTf K ρ H a xs) : SqTf K' ρ' H a xs := by
  rcases h with ⟨⟨o, e, d⟩, n⟩ | k
  · exact .inl ⟨⟨o, e, d⟩, s.2 a _ e n.1 n.2⟩
  · exact .inr (by rw [s.1]; exact k)
theorem SqLf.sub {a : Addr} {xs : List V} (s : Sub K K' ρ ρ' H) (h : SqLf K ρ H a xs) : SqLf K' ρ' H a xs := by
  rcases h with ⟨r, n⟩ | k
  · obtain ⟨o, e⟩ := Rd.tracked r
    exact .inl ⟨r, s.2 a o e n.1 n.2⟩
  · exact .inr (by rw [s.1]; exact k)
mutual
theorem RD.sub (s : Sub K K' ρ ρ' H) : ∀ {d v}, RD K ρ H d v → pureD d = true → RD K' ρ' H d v
  | _, _, .non, _ => .non
  | _, _, .bl b, _ => .bl b
  | _, _, .int i, _ => .int i
  | _, _, .str x, _ => .str x
  | _, _, .tup h r, p => .tup (h.sub s) (RDs.sub s r p)
  | _, _, .itm h n r, p => .itm h (s.2 _ _ h n.1 n.2) (RDs.sub s r p)
  | _, _, .lst h n r, p => .lst h (s.2 _ _ h n.1 n.2) (RDs.sub s r p)
  | _, _, .fzl h r, p => .fzl (h.sub s) (RDs.sub s r p)
  | _, _, .ref h, p => by cases p
  | _, _, .glo, _ => by rw [← s.1]; exact .glo
  | _, _, .ty n, _ => .ty n
  | _, _, .inst h n r, p => .inst (by rw [s.1]; exact h) (s.2 _ _ h n.1 n.2) (RFs.sub s r p)
  | _, _, .dcv h n r, p => .dcv h (s.2 _ _ h n.1 n.2) (RKv.sub s r p)
theorem RDs.sub (s : Sub K K' ρ ρ' H) : ∀ {ds vs}, RDs K ρ H ds vs → puresD ds = true → RDs K' ρ' H ds vs
  | _, _, .nil, _ => .nil
  | _, _, .cons h t, p => by
    have p' := Bool.and_eq_true_iff.mp p
    exact .cons (RD.sub s h p'.1) (RDs.sub s t p'.2)
theorem RFs.sub (s : Sub K K' ρ ρ' H) : ∀ {ds vs}, RFs K ρ H ds vs → puresF ds = true → RFs K' ρ' H ds vs
  | _, _, .nil, _ => .nil
  | _, _, .cons h t, p => by
    have p' := Bool.and_eq_true_iff.mp p
    exact .cons (RD.sub s h p'.1) (RFs.sub s t p'.2)
theorem RKv.sub (s : Sub K K' ρ ρ' H) : ∀ {ds vs}, RKv K ρ H ds vs → puresK ds = true → RKv K' ρ' H ds vs
  | _, _, .nil, _ => .nil
  | _, _, .cons h t, p => by
    have p' := Bool.and_eq_true_iff.mp p
    exact .cons (RD.sub s h p'.1) (RKv.sub s t p'.2)
end
theorem RKs.sub (s : Sub K K' ρ ρ' H) : ∀ {ds : List (Key × D)} {vs}, RKs K ρ H ds vs → (ds.all fun p => pureD p.2) = true → RKs K' ρ' H ds vs
  | _, _, .nil, _ => .nil
  | _, _, .cons h t, p => by
    have p' := Bool.and_eq_true_iff.mp p
    exact .cons ⟨h.1, h.2.sub s p'.1⟩ (RKs.sub s t p'.2)
mutual
theorem nkD_pure : ∀ {d : D} {k : NK}, nkD d = some k → pureD d = true
  | .int _, _, _ => rfl
  | .tup ds, k, h => by
    rw [nkD] at h
    obtain ⟨ks, q, _⟩ := Option.map_eq_some_iff.mp h
    exact nksD_pure q
  | .itm ds, k, h => by
    rw [nkD] at h
    obtain ⟨ks, q, _⟩ := Option.map_eq_some_iff.mp h
    exact nksD_pure q
  | .non, _, h => by simp [nkD] at h
  | .bl _, _, h => by simp [nkD] at h
  | .str _, _, h => by simp [nkD] at h
  | .lst _, _, h => by simp [nkD] at h
  | .fzl _, _, h => by simp [nkD] at h
  | .ref _, _, h => by simp [nkD] at h
  | .glo _, _, h => by simp [nkD] at h
  | .ty _, _, h => by simp [nkD] at h
  | .inst _ _, _, h => by simp [nkD] at h
  | .dcv _, _, h => by simp [nkD] at h
theorem nksD_pure : ∀ {ds : List D} {ks : List NK}, nksD ds = some ks → puresD ds = true
  | [], _, _ => rfl
  | d :: ds, ks, h => by
    rw [nksD] at h
    cases q : nkD d with
    | none => rw [q] at h; exact nomatch h
    | some k =>
      cases q2 : nksD ds with
      | none => rw [q, q2] at h; exact nomatch h
      | some ks2 => show (pureD d && puresD ds) = true; rw [nkD_pure q, nksD_pure q2]; rfl
end
theorem RKt.sub (s : Sub K K' ρ ρ' H) : ∀ {ds : List (NK × D)} {vs : List (NK × Addr × V)}, RKt K ρ H ds vs → (ds.all fun p => pureD p.2) = true → RKt K' ρ' H ds vs
  | _, _, .nil, _ => .nil
  | _, _, .cons h t, p => by
    rw [List.all_cons, Bool.and_eq_true] at p
    exact .cons ⟨h.1, h.2.1.elim fun d z => ⟨d, z.1, z.2.sub s (nkD_pure z.1)⟩, h.2.2.sub s p.1⟩ (RKt.sub s t p.2)
theorem RO.sub {a : Addr} {ob : Ob} {u : HO} (s : Sub K K' ρ ρ' H) (h : RO K ρ H a ob u) (p : pureOb ob = true) : RO K' ρ' H a ob u := by
  cases ob with
  | lst ds => obtain ⟨xs, rfl, r⟩ := h; exact ⟨xs, rfl, r.sub s p⟩
  | dic ds => obtain ⟨xs, rfl, r⟩ := h; exact ⟨xs, rfl, RKs.sub s r p⟩
  | ins c ds => obtain ⟨dx, xs, rfl, r⟩ := h; exact ⟨dx, xs, by rw [s.1], r.sub s p⟩
  | dct ds => obtain ⟨xs, rfl, r⟩ := h; exact ⟨xs, rfl, RKt.sub s r p⟩
  | fnc i => obtain ⟨T, pm, c, ct, h1, h2, ⟨o, vs, t, h3, r⟩, n⟩ := h; exact ⟨T, pm, c, ct, by rw [s.1]; exact h1, h2, ⟨o, vs, t, h3, r⟩, s.2 _ _ h3 n.1 n.2⟩
  | exc c fs => obtain ⟨d, gs, rfl, x, y, r⟩ := h; exact ⟨d, gs, by rw [s.1], fun dx q => ⟨(x dx q).1, s.2 _ _ (x dx q).1 (x dx q).2.1 (x dx q).2.2⟩, y, r.sub s p⟩
theorem RD.low {n : Nat} (s : Sub K K' ρ ρ' H) (lo : ∀ l a, l < n → ρ[l]? = some a → ρ'[l]? = some a) {d : D} {v : V} (r : RD K ρ H d v) (p : lowD n d = true) : RD K' ρ' H d v := by
  cases d with
  | ref l => cases r with | ref h => exact .ref (lo _ _ (of_decide_eq_true p) h)
  | _ => exact r.sub s p
theorem RDs.low {n : Nat} (s : Sub K K' ρ ρ' H) (lo : ∀ l a, l < n → ρ[l]? = some a → ρ'[l]? = some a) : ∀ {ds : List D} {vs : List V}, RDs K ρ H ds vs → ds.all (lowD n) = true → RDs K' ρ' H ds vs
  | _, _, .nil, _ => .nil
  | _, _, .cons h t, p => by
    rw [List.all_cons, Bool.and_eq_true] at p
    exact .cons (h.low s lo p.1) (RDs.low s lo t p.2)
theorem RFs.low {n : Nat} (s : Sub K K' ρ ρ' H) (lo : ∀ l a, l < n → ρ[l]? = some a → ρ'[l]? = some a) : ∀ {ds : List (Str × D)} {vs : List (Str × V)}, RFs K ρ H ds vs → (ds.all fun p => lowD n p.2) = true → RFs K' ρ' H ds vs
  | _, _, .nil, _ => .nil
  | _, _, .cons h t, p => by
    rw [List.all_cons, Bool.and_eq_true] at p
    exact .cons (h.low s lo p.1) (RFs.low s lo t p.2)
theorem RKs.low {n : Nat} (s : Sub K K' ρ ρ' H) (lo : ∀ l a, l < n → ρ[l]? = some a → ρ'[l]? = some a) : ∀ {ds : List (Key × D)} {vs : List (Key × V)}, RKs K ρ H ds vs → (ds.all fun p => lowD n p.2) = true → RKs K' ρ' H ds vs
  | _, _, .nil, _ => .nil
  | _, _, .cons h t, p => by
    rw [List.all_cons, Bool.and_eq_true] at p
    exact .cons ⟨h.1, h.2.low s lo p.1⟩ (RKs.low s lo t p.2)
theorem RKt.low {n : Nat} (s : Sub K K' ρ ρ' H) (lo : ∀ l a, l < n → ρ[l]? = some a → ρ'[l]? = some a) : ∀ {ds : List (NK × D)} {vs : List (NK × Addr × V)}, RKt K ρ H ds vs → (ds.all fun p => lowD n p.2) = true → RKt K' ρ' H ds vs
  | _, _, .nil, _ => .nil
  | _, _, .cons h t, p => by
    rw [List.all_cons, Bool.and_eq_true] at p
    exact .cons ⟨h.1, h.2.1.elim fun d z => ⟨d, z.1, z.2.sub s (nkD_pure z.1)⟩, h.2.2.low s lo p.1⟩ (RKt.low s lo t p.2)
theorem RO.low {n : Nat} {a : Addr} {ob : Ob} {u : HO} (s : Sub K K' ρ ρ' H) (lo : ∀ l a, l < n → ρ[l]? = some a → ρ'[l]? = some a) (h : RO K ρ H a ob u) (p : lowOb n ob = true) : RO K' ρ' H a ob u := by
  cases ob with
  | lst ds => obtain ⟨xs, rfl, r⟩ := h; exact ⟨xs, rfl, r.low s lo p⟩
  | dic ds => obtain ⟨xs, rfl, r⟩ := h; exact ⟨xs, rfl, RKs.low s lo r p⟩
  | ins c ds => obtain ⟨dx, xs, rfl, r⟩ := h; exact ⟨dx, xs, by rw [s.1], r.low s lo p⟩
  | dct ds => obtain ⟨xs, rfl, r⟩ := h; exact ⟨xs, rfl, RKt.low s lo r p⟩
  | fnc i => obtain ⟨T, pm, c, ct, h1, h2, ⟨o, vs, t, h3, r⟩, n⟩ := h; exact ⟨T, pm, c, ct, by rw [s.1]; exact h1, h2, ⟨o, vs, t, h3, r⟩, s.2 _ _ h3 n.1 n.2⟩
  | exc c fs => obtain ⟨d, gs, rfl, x, y, r⟩ := h; exact ⟨d, gs, by rw [s.1], fun dx q => ⟨(x dx q).1, s.2 _ _ (x dx q).1 (x dx q).2.1 (x dx q).2.2⟩, y, r.low s lo p⟩
theorem ExR.sub {x : Exn} {dx : Option Addr} (s : Sub K K' ρ ρ' H) (h : ExR K ρ H x dx) (p : puresF x.fs = true) : ExR K' ρ' H x dx := by
  cases dx with
  | none => exact h
  | some dx =>
    obtain ⟨n, gs, e, r⟩ := h
    exact ⟨s.2 _ _ e n.1 n.2, gs, e, r.sub s p⟩
theorem obD_ok {l : Nat} {a : Addr} {ob : Ob} {d' : D} (s : Sub K K' ρ ρ' H) (m : MOk K ρ M H) (hx : M[l]? = some ob) (h : ρ[l]? = some a) (e : obD ob = some d') (new : a ∉ ρ' ∧ a ∉ K'.φ) : RD K' ρ' H d' (.ref a) := by
  obtain ⟨u, hu, ro⟩ := m.at_ _ _ _ hx h
  cases ob with
  | lst xs =>
    obtain ⟨ys, rfl, rr⟩ := ro
    have e : (if puresD xs then some (D.lst xs) else none) = some d' := e
    split at e
    · rename_i p
      cases e
      exact .lst hu new (rr.sub s p)
    · cases e
  | dic kvs =>
    obtain ⟨ys, rfl, rr⟩ := ro
    have e : (if puresK kvs then some (D.dcv kvs) else none) = some d' := e
    split at e
    · rename_i p
      cases e
      exact .dcv hu new (rr.kv.sub s p)
    · cases e
  | ins c fs =>
    obtain ⟨dx, gs, rfl, rr⟩ := ro
    have e : (if puresF fs then some (D.inst c fs) else none) = some d' := e
    split at e
    · rename_i p
      cases e
      exact .inst (by rw [s.1]; exact hu) new (rr.sub s p)
    · cases e
  | dct kvs => exact nomatch e
  | fnc i => exact nomatch e
  | exc c fs => exact nomatch e
theorem backE_ok {n : Nat} {d d' : D} {v : V} (s : Sub K K' ρ ρ' H) (m : MOk K ρ M H) (r : RD K ρ H d v) (e : backE n M d = some d') (old : ∀ l a, l < n → ρ[l]? = some a → ρ'[l]? = some a) (new : ∀ l a, n ≤ l → ρ[l]? = some a → a ∉ ρ' ∧ a ∉ K'.φ) : RD K' ρ' H d' v := by
  unfold backE at e
  split at e
  · cases r with
    | @ref l a h =>
      split at e
      · rename_i hl
        split at e
        · rename_i ob hx
          exact obD_ok s m hx h e (new _ _ hl h)
        · cases e
      · rename_i hl
        cases e
        exact .ref (old _ _ (by omega) h)
  · split at e
    · rename_i p
      cases e
      exact r.sub s p
    · cases e
theorem backL_ok {n : Nat} (s : Sub K K' ρ ρ' H) (m : MOk K ρ M H) (old : ∀ l a, l < n → ρ[l]? = some a → ρ'[l]? = some a) (new : ∀ l a, n ≤ l → ρ[l]? = some a → a ∉ ρ' ∧ a ∉ K'.φ) : ∀ {ds ds' : List D} {vs : List V}, RDs K ρ H ds vs → backL n M ds = some ds' → RDs K' ρ' H ds' vs
  | _, _, _, .nil, e => by
    unfold backL at e
    cases e
    exact .nil
  | _, _, _, .cons h t, e => by
    unfold backL at e
    split at e
    · rename_i d2 ds2 q1 q2
      cases e
      exact .cons (backE_ok s m h q1 old new) (backL_ok s m old new t q2)
    · cases e
theorem back_ok {n : Nat} {d d' : D} {v : V} (s : Sub K K' ρ ρ' H) (m : MOk K ρ M H) (r : RD K ρ H d v) (e : backD n d M = some d') (old : ∀ l a, l < n → ρ[l]? = some a → ρ'[l]? = some a) (new : ∀ l a, n ≤ l → ρ[l]? = some a → a ∉ ρ' ∧ a ∉ K'.φ) : RD K' ρ' H d' v := by
  unfold backD at e
  split at e
  · exact backE_ok (d := .ref _) s m r e old new
  · split at e
    · rename_i p
      cases e
      exact r.sub s p
    · unfold backC at e
      split at e
      · cases q : backL n M _ with
        | none => (rw [q] at e; exact nomatch e)
        | some es =>
          rw [q] at e
          cases e
          cases r with
          | lst h n2 rr => exact .lst h (s.2 _ _ h n2.1 n2.2) (backL_ok s m old new rr q)
      · cases q : backL n M _ with
        | none => (rw [q] at e; exact nomatch e)
        | some es =>
          rw [q] at e
          cases e
          cases r with
          | tup h rr => exact .tup (h.sub s) (backL_ok s m old new rr q)
      · cases e
theorem MOk.empty (m : MOk K ρ M H) : MOk ⟨K.K, K.φ ++ ρ⟩ [] [] H := ⟨.nil, rfl, fun a z => m.ownAt ((List.mem_append.mp z).elim .inr .inl), fun l ob a h => by simp at h, m.tab⟩
theorem retF_keep {F : Fn} {ds : List D} {Q : VK} (m : MOk K ρ M H) (h : Post K W ρ σ H (retF (F ds M) M.length (cutM M.length)) Q) : PostF K ρ H (F ds M) Q (fun c d H => W c d σ H) := by
  have fin : ∀ {ρ1 : List Addr} {H1 : Hp} {M1 M2 : Mem}, Ext ρ H ρ1 H1 → MOk K ρ1 M1 H1 → cutM M.length M1 = some M2 → Ext ρ H ρ H1 ∧ MOk K ρ M2 H1 ∧ Sub K K ρ1 ρ H1 ∧ (∀ l a, l < M.length → ρ1[l]? = some a → ρ[l]? = some a) ∧ ∀ l a, M.length ≤ l → ρ1[l]? = some a → a ∉ ρ ∧ a ∉ K.φ :=
      fun {ρ1 H1 M1 M2} e b q => by
    obtain ⟨t, e1, e2⟩ := e.pre
    have hl := m.len
    unfold cutM at q
    split at q
    · rename_i hp
      cases q
      have ex : Ext ρ H ρ H1 := ⟨⟨[], by simp, by simp⟩, fun a o q n z => e.keep a o q n z, e.live, e.tabs⟩
      have s1 : Sub K K ρ1 ρ H1 := ⟨rfl, fun a o _ h1 h2 => ⟨fun z => h1 (by rw [e1]; exact List.mem_append_left _ z), h2⟩⟩
      have lo : ∀ l a, l < M.length → ρ1[l]? = some a → ρ[l]? = some a := fun l a h1 h2 => by
        rw [e1, List.getElem?_append_left (by omega)] at h2
        exact h2
      refine ⟨ex, ⟨m.nd, ?_, b.hid, fun l ob a h1 h2 => ?_, b.tab⟩, s1, lo, fun l a h1 h2 => ?_⟩
      · have := b.len
        rw [e1, List.length_append] at this
        rw [List.length_take]
        omega
      · rw [List.getElem?_take] at h1
        split at h1
        · rename_i hlt
          obtain ⟨u, hu, r⟩ := b.at_ l ob a h1 (by rw [e1, List.getElem?_append_left (by omega)]; exact h2)
          refine ⟨u, hu, r.low s1 lo ?_⟩
          have := List.all_eq_true.mp hp ob (List.mem_of_getElem? (i := l) (by rw [List.getElem?_take, if_pos hlt]; exact h1))
          exact this
        · cases h1
      · rw [e1, List.getElem?_append_right (by omega)] at h2
        exact m.fresh (e2 a (List.mem_of_getElem? h2))
    · cases q
  unfold retF at h
  split at h
  · rename_i d M1 q
    rw [q]
    split at h
    · rename_i M2 d' q1 q2
      intro ρ1 H1 v a b c
      obtain ⟨ex, m1, s1, lo, hi⟩ := fin a b q1
      exact h _ _ _ ex m1 (back_ok s1 b c q2 lo hi)
    · exact h.elim
  · rename_i x M1 q
    rw [q]
    split at h
    · rename_i M2 q1
      split at h
      · rename_i hp2
        intro ρ1 H1 dx a b c
        obtain ⟨ex, m1, s1, lo, hi⟩ := fin a b q1
        exact h _ _ _ ex m1 (c.sub s1 hp2)
      · exact h.elim
    · exact h.elim
  · exact h.elim
theorem callF_sound {n : Nat} {F : Fn} {ds : List D} {vs : List V} {Q : VK} (hn : ds.length = n) (r : RDs K ρ H ds vs) (m : MOk K ρ M H) (h : Post K W ρ σ H (callF F ds M) Q) : spF K.K n F vs H Q (fun c d H => W c d σ H) := by
  unfold callF at h
  split at h
  · rename_i hp
    have s : Sub K ⟨K.K, K.φ ++ ρ⟩ ρ [] H := ⟨rfl, fun a o e h1 h2 => ⟨by simp, by simp [h1, h2]⟩⟩
    refine ⟨K.φ ++ ρ, [], ds, [], hn, r.sub s hp, m.empty, ?_⟩
    have fin : ∀ {ρ1 : List Addr} {H1 : Hp}, Ext [] H ρ1 H1 → (∀ P ∈ tabsOf K.K, TabF H1 P) → Ext ρ H ρ H1 ∧ MOk K ρ M H1 ∧ Sub ⟨K.K, K.φ ++ ρ⟩ K ρ1 ρ H1 ∧ ∀ a ∈ ρ1, a ∉ ρ ∧ a ∉ K.φ := fun {ρ1 H1} e tb => by
      have ex : Ext ρ H ρ H1 := ⟨⟨[], by simp, by simp⟩, fun a o q _ z => e.keep a o q (by simp) z, e.live, e.tabs⟩
      refine ⟨ex, m.keep ex (fun a z => ?_) tb, ⟨rfl, fun a o q h1 h2 => ?_⟩, fun a z => ?_⟩
      · obtain ⟨u, hu, ow⟩ := m.ownAt (.inl z)
        rw [hu]
        exact e.keep a u hu (by simp) ow.nt
      · simp only [List.mem_append, not_or] at h2
        exact ⟨h2.2, h2.1⟩
      · obtain ⟨t, e1, e2⟩ := e.pre
        rw [e1] at z
        exact m.fresh (e2 a (by simpa using z))
    unfold retF at h
    split at h
    · rename_i d M1 q
      rw [q]
      split at h
      · rename_i M2 d' q1 q2
        cases q1
        intro ρ1 H1 v a b c
        obtain ⟨ex, m1, s1, nw⟩ := fin a b.tab
        exact h _ _ _ ex m1 (back_ok s1 b c q2 (fun l a hl => absurd hl (Nat.not_lt_zero _)) fun l a _ hl => nw a (List.mem_of_getElem? hl))
      · exact h.elim
    · rename_i x M1 q
      rw [q]
      split at h
      · rename_i M2 q1
        cases q1
        split at h
        · rename_i hp2
          intro ρ1 H1 dx a b c
          obtain ⟨ex, m1, s1, nw⟩ := fin a b.tab
          exact h _ _ _ ex m1 (c.sub s1 hp2)
        · exact h.elim
      · exact h.elim
    · exact h.elim
  · refine ⟨K.φ, ρ, ds, M, hn, r, m, ?_⟩
    by_cases z : retF (F ds M) M.length (cutM M.length) = .st
    · rw [z] at h
      have h : Post K W ρ σ H (F ds M) Q := h
      cases q : F ds M with
      | ok d M1 => rw [q] at h; exact h
      | ex x M1 => rw [q] at h; exact h
      | st => rw [q] at h; exact h.elim
    · have e : (retF (F ds M) M.length (cutM M.length)).or (F ds M) = retF (F ds M) M.length (cutM M.length) := by
        cases q : retF (F ds M) M.length (cutM M.length) with
        | ok d M1 => rfl
        | ex x M1 => rfl
        | st => exact absurd q z
      rw [e] at h
      exact retF_keep m h
end
def eFn (F : Fn) (f : EvL) : Ev := fun env M => (f env M).bind (callF F)
section
variable {X : Cx} {W : WX} {pos p : Pos} {a : Expr} {es : List Expr} {fl : EvL} {x : Str} {k : Nat} {fd : FuncData} {ps : List Str} {F : Fn}
theorem de_fn (G : FnOk X.prog X.w X.K X.mg X.base (L2.CX X.prog X.w) k (gadr X.K x) fd ps (spF X.K ps.length F)) (hr : Room k X.A) (hg : Gl X x) (hm : X.mg x = some (.ref (gadr X.K x))) (hk : PySem.W.keepIn X.K (.ref (gadr X.K x)) = true) (hb : Binds X.K fd ps [])
    (tk : Takes X W) (ha : DA X W (a :: es) fl) (hps : (a :: es).length = ps.length := by rfl) (hdb : (x == ("__debug__" : Str)) = false := by decide) (he : starEach (a :: es) X.env = (false, eval a X.env) :: starEach es X.env := by rfl) (hpl : (backTo pos (starEach es X.env)).any (·.1) = false := by rfl) :
    DE X W (.Call (.Name x p) (a :: es) [] pos) (eFn F fl) := by
  obtain ⟨ta, pa, la, sa⟩ := ha
  refine ⟨_, pe_callSD (E := fun σ c d H => W c d σ H) G hr hg hm hk hb .nil (fun σ => passAt tk σ) pa hdb he hpl, fun φ ρ env M σ H Q e m h => ?_⟩
  unfold eFn at h
  cases q : fl env M with
  | ok ds M1 =>
    rw [q] at h
    refine sa φ ρ env M σ H _ e m ?_
    rw [q]
    intro ρ1 H1 vs a1 b1 c1
    rw [List.append_nil]
    exact callF_sound (K := ⟨X.K, φ⟩) ((la _ _ _ _ q).trans hps) c1 b1 (Post.ext a1 h)
  | ex x M1 =>
    rw [q] at h
    refine sa φ ρ env M σ H _ e m ?_
    rw [q]
    exact h
  | st => rw [q] at h; exact h.elim
end
theorem run_body {P : Program} {w : World} {K : PySem.W.Frag} {mg : Str → Option Value} {base : Heap} {qual : Str} {body : List Stmt} {scope : Scope} {f : Addr} {N ps : List Str} {c : Sx} {cdv : Value} {A : Around} {outer : List PySem.Env} {s : Shared} {H0 H : Hp} {E : XK} {vs : List V} {Q : VK}
    (S : FnScope N ps scope) (hb : DB (cxOf (L2.CX P w) P w K mg base N qual scope f cdv A outer s H0 E) (fun c d _ H => E c d H) body c) (h : spF K ps.length (defn ps.length N.length c) vs H Q E) :
    ∃ t, PSs (cxOf (L2.CX P w) P w K mg base N qual scope f cdv A outer s H0 E) body t ∧ t { nx := fun _ H' => Q .non H', rt := Q } (start N vs) H := by
  obtain ⟨φ, ρ, ds, M, hl, r, m, q⟩ := h
  obtain ⟨t, pt, st⟩ := hb
  have hpl : ps.length ≤ N.length := by
    have := congrArg List.length S.pre
    rw [List.length_take] at this
    omega
  refine ⟨t, pt, st φ ρ (ds.map some ++ List.replicate (N.length - ps.length) none) M _ H _ ?_ m ?_⟩
  · show RE ⟨K, φ⟩ ρ H _ (L2.start N vs)
    unfold L2.start
    rw [← r.length, hl]
    have h1 : ∀ {ds : List D} {vs : List V}, RDs ⟨K, φ⟩ ρ H ds vs → RE ⟨K, φ⟩ ρ H (ds.map some) (vs.map some) := by
      intro ds
      induction ds with
      | nil => intro vs h; cases h; exact .nil
      | cons d ds ih => intro vs h; cases h with | cons a b => exact .cons (fun d' e => by cases e; exact ⟨_, rfl, a⟩) (ih b)
    have h2 : ∀ n, RE ⟨K, φ⟩ ρ H (List.replicate n none) (List.replicate n none) := by
      intro n
      induction n with
      | zero => exact .nil
      | succ n ih => exact .cons (fun d' e => by cases e) ih
    have app : ∀ {e1 e2 : Env} {s1 s2 : L2.St}, RE ⟨K, φ⟩ ρ H e1 s1 → RE ⟨K, φ⟩ ρ H e2 s2 → RE ⟨K, φ⟩ ρ H (e1 ++ e2) (s1 ++ s2) := by
      intro e1 e2 s1 s2 h h'
      unfold RE at h
      induction h with
      | nil => exact h'
      | cons a b ih => exact .cons a ih
    exact app (h1 r) (h2 _)
  · unfold defn at q
    rw [if_pos hl] at q
    cases qc : c (ds.map some ++ List.replicate (N.length - ps.length) none) M with
    | nx e1 M1 => rw [qc] at q; exact fun ρ' H' σ' a b c' => q ρ' H' _ a b .non
    | rt d M1 => rw [qc] at q; exact q
    | ex x e1 M1 => rw [qc] at q; exact fun ρ' H' σ' dx a b _ d => q ρ' H' dx a b d
    | bk e1 M1 => rw [qc] at q; exact q.elim
    | ct e1 M1 => rw [qc] at q; exact q.elim
    | st => rw [qc] at q; exact q.elim
theorem fn_ok {P : Program} {w : World} {K : PySem.W.Frag} {mg : Str → Option Value} {base : Heap} {x qual : Str} {params : Arguments} {body : List Stmt} {scope : Scope} {dvs : List V} {kws : List (Str × V)} {f : Addr} {fd : FuncData} {N ps : List Str} {k : Nat} {c : Sx}
    (F : FunD K x qual params body scope dvs kws f fd) (S : FnScope N ps scope)
    (hb : ∀ (cdv : Value) (A : Around) (outer : List PySem.Env) (s : Shared) (H : Hp) (E : XK), Room k (A.deeper (envOfC qual scope s.heap.objs.size f cdv)) → DB (cxOf (L2.CX P w) P w K mg base N qual scope f cdv A outer s H E) (fun c d _ H => E c d H) body c) :
    FnOk P w K mg base (L2.CX P w) (k + 1) f fd ps (spF K ps.length (defn ps.length N.length c)) := by
  refine fnD_ok F S (fun vs H Q E h => ?_) fun cdv A outer s H vs Q E hr h => ?_
  · obtain ⟨φ, ρ, ds, M, hl, r, _⟩ := h
    rw [← r.length, hl]
  · exact run_body S (hb cdv A outer s H E hr) h
theorem PostF.ext {K : Kx} {ρ ρ1 : List Addr} {H H1 : Hp} {r : Out} {Q : VK} {E : XK} (e : Ext ρ H ρ1 H1) (h : PostF K ρ H r Q E) : PostF K ρ1 H1 r Q E := by
  cases r with
  | ok d M => exact fun ρ' H' v a b c => h ρ' H' v (e.trans a) b c
  | ex x M => exact fun ρ' H' dx a b c => h ρ' H' dx (e.trans a) b c
  | st => exact h
end DL

namespace DL
open PySem L2 PyProof.Rows PySem.Spec

def keyD : D → Option Key
  | .int i => some (.inl i)
  | .str x => some (.inr x)
  | _ => none
def dOfK : Key → D
  | .inl i => .int i
  | .inr x => .str x
def getA (kvs : List (Key × D)) (k : Key) : Option D := match kvs with
  | [] => none
  | p :: r => if p.1 = k then some p.2 else getA r k
def hasA (kvs : List (Key × D)) (k : Key) : Bool := (getA kvs k).isSome
def putA (kvs : List (Key × D)) (k : Key) (v : D) : List (Key × D) :=
  if hasA kvs k then kvs.map (fun p => if p.1 = k then (p.1, v) else p)
  else kvs ++ [(k, v)]
def mergeA (kvs more : List (Key × D)) : List (Key × D) := more.foldl (fun acc p => putA acc p.1 p.2) kvs
section
variable {K : Kx} {ρ : List Addr} {H : Hp} {M : Mem}
theorem RKs.get : ∀ {ds : List (Key × D)} {vs : List (Key × V)} (k : Key), RKs K ρ H ds vs → (getA ds k = none ∧ valV vs k = none) ∨ ∃ d v, getA ds k = some d ∧ valV vs k = some v ∧ RD K ρ H d v
  | _, _, k, .nil => .inl ⟨rfl, rfl⟩
  | p :: ds, q :: vs, k, .cons h t => by
    unfold getA
    by_cases e : p.1 = k
    · rw [if_pos e, valV_pos (h.1.symm.trans e)]
      exact .inr ⟨_, _, rfl, rfl, h.2⟩
    · rw [if_neg e, valV_neg (fun z => e (h.1.trans z))]
      exact RKs.get k t
theorem RKs.put {ds : List (Key × D)} {vs : List (Key × V)} {k : Key} {d : D} {v : V} (h : RKs K ρ H ds vs) (r : RD K ρ H d v) : RKs K ρ H (putA ds k d) (putK vs k v) := by
  have ha : hasA ds k = (vs.any fun kv => decide (kv.1 = k)) := by
    rw [valV_any]
    unfold hasA
    rcases h.get k with ⟨e1, e2⟩ | ⟨_, _, e1, e2, _⟩ <;> rw [e1, e2] <;> rfl
  unfold putA putK
  rw [ha]
  split
  · rename_i hh
    clear ha hh
    unfold RKs at h
    induction h with
    | nil => exact .nil
    | @cons p q _ _ a b ih =>
      refine .cons ?_ ih
      show (if p.1 = k then (p.1, d) else p).1 = (if q.1 = k then (q.1, v) else q).1 ∧ RD K ρ H (if p.1 = k then (p.1, d) else p).2 (if q.1 = k then (q.1, v) else q).2
      by_cases e : p.1 = k
      · rw [if_pos e, if_pos (a.1.symm.trans e)]
        exact ⟨a.1, r⟩
      · rw [if_neg e, if_neg (fun z => e (a.1.trans z))]
        exact a
  · have app : ∀ {ds es : List (Key × D)} {vs ws : List (Key × V)}, RKs K ρ H ds vs → RKs K ρ H es ws → RKs K ρ H (ds ++ es) (vs ++ ws) := by
      intro ds es vs ws h h'
      unfold RKs at h
      induction h with
      | nil => exact h'
      | cons a b ih => exact .cons a ih
    exact app h (.cons ⟨rfl, r⟩ .nil)
theorem RKs.length {ds : List (Key × D)} {vs : List (Key × V)} (h : RKs K ρ H ds vs) : ds.length = vs.length := Paired.length h
end
def kvsD : List D → Option (List (Key × D))
  | [] => some []
  | .tup [k, v] :: r => match keyD k, kvsD r with
    | some k, some q => some ((k, v) :: q)
    | _, _ => none
  | _ => none
def nDict : OpN := fun xs M => match xs with
  | [.tup ds] => match kvsD ds with
    | some kvs => .ok (.ref M.length) (M ++ [.dic (mergeA [] kvs)])
    | none => .st
  | _ => .st
section
variable {X : Cx} {W : WX}
variable {pos p apos : Pos} {o e f a : Expr} {fo fe ff fa : Ev}
def sDput (fo fk fv : Ev) : Sx := fun env M => (fv env M).bindS env fun v M1 => (fo env M1).bindS env fun d M2 => (fk env M2).bindS env fun k M3 => match d, keyD k with
  | .ref l, some k => match M3[l]? with
    | some (.dic kvs) => if kvs.length < sizeLine then .nx env (M3.set l (.dic (putA kvs k v))) else .st
    | _ => .st
  | _, _ => .st
def eDget2 (fo fk fx : Ev) : Ev := fun env M => (fo env M).bind fun d M1 => match d with
  | .ref l => match M1[l]? with
    | some (.dic _) => (fk env M1).bind fun k M2 => (fx env M2).bind fun x M3 => match keyD k, M3[l]? with
      | some k, some (.dic kvs) => .ok ((getA kvs k).getD x) M3
      | _, _ => .st
    | _ => .st
  | _ => .st
def mAppend (fo : Ev) (fa : Ev) : Ev := fun env M => (fo env M).bind fun d M1 => match d with
  | .ref l => match M1[l]? with
    | some (.lst _) => (fa env M1).bind fun x M2 => match M2[l]? with
      | some (.lst xs) => if xs.length < sizeLine then .ok .non (M2.set l (.lst (xs ++ [x]))) else .st
      | _ => .st
    | _ => .st
  | _ => .st
theorem de_append (ho : DE X W o fo) (ha : DE X W a fa) (hs1 : starEach [a] X.env = (false, eval a X.env) :: starEach [] X.env := by rfl)
    (hbase : attributeBase o "append" X.env (eval o X.env) = eval o X.env := by rfl)
    (hfew : ((backTo pos (starEach [a] X.env)).all (fun x => !x.1) && (backToKw pos (keywordEach [] X.env)).all (fun x => x.1.isSome)
      && decide ([a].length + ([] : List Keyword).length + (if ([] : List Keyword).isEmpty then 0 else 1) < 30)) = true := by rfl)
    (hline : (apos.endLine == pos.line) = true := by rfl) (hplain : (backTo pos (starEach [] X.env)).any (·.1) = false := by rfl) : DE X W (.Call (.Attribute o "append" apos) [a] [] pos) (mAppend fo fa) := by
  obtain ⟨to, po, so⟩ := ho
  obtain ⟨ta, pa, sa⟩ := ha
  refine ⟨_, pe_bm PySem.F.plainAttrs_list PySem.F.slot_list_append PySem.F.type_list_append mt_append po (pa_cons pa pa_nil hs1) hbase hfew hline hs1 hplain, fun φ ρ env M σ H Q re m h => ?_⟩
  refine so φ ρ env M σ H _ re m (Post.bind h fun d M1 ρ1 H1 v a1 b1 c1 h1 => ?_)
  split at h1
  · rename_i l
    split at h1
    · rename_i xs0 hl0
      cases c1 with
      | @ref _ q hq =>
        obtain ⟨u0, hu0, ws0, e0, _⟩ := b1.at_ _ _ _ hl0 hq
        subst e0
        refine ⟨.inl ⟨rfl, _, .inl (.inl hu0)⟩, sa φ ρ1 env M1 σ H1 _ (re.ext a1) b1 (Post.bind h1 fun d2 M2 ρ2 H2 v2 a2 b2 c2 h2 => ?_)⟩
        split at h2
        · rename_i xs hl
          split at h2
          · rename_i hz
            have hq2 := get_pre a2 hq
            obtain ⟨u, hu', ws, e1, rr⟩ := b2.at_ _ _ _ hl hq2
            subst e1
            have ex : Ext ρ2 H2 ρ2 (upd H2 q (.lst (ws ++ [v2]))) := .write (by rw [hu']; simp) (List.mem_of_getElem? hq2) (fun v e => by rw [hu'] at e; cases e; trivial)
            refine ⟨q, ws, v2, rfl, rfl, hu', by rw [← rr.length]; exact hz, ?_⟩
            exact h2 _ _ _ ex (b2.set hq2 ⟨_, rfl, (rr.append (.cons c2 .nil)).ext ex⟩) .non
          · exact h2.elim
        · exact h2.elim
    · exact h1.elim
  · exact h1.elim
end
end DL

namespace DL
open PySem L2 PyProof.Rows PySem.Spec

def DataO : HO → Prop
  | .tup _ => True
  | .lst _ => True
  | .ins _ _ _ => True
  | .dK _ => True
  | .frz _ (.tup _) => True
  | .frz _ (.lst _) => True
  | _ => False
structure Tr (K K' : Kx) (ρ ρ' : List Addr) (H H' : Hp) : Prop where
  eq : K'.K = K.K
  mv : ∀ a o, H a = some o → DataO o → a ∉ ρ → a ∉ K.φ → H' a = some o ∧ a ∉ ρ' ∧ a ∉ K'.φ
section
variable {K K' : Kx} {ρ ρ' : List Addr} {H H' : Hp}
theorem SqTf.tr {a : Addr} {xs : List V} (t : Tr K K' ρ ρ' H H') (h : SqTf K ρ H a xs) : SqTf K' ρ' H' a xs := by
  rcases h with ⟨⟨o, e, d⟩, n⟩ | k
  · obtain ⟨h1, h2, h3⟩ := t.mv a _ e trivial n.1 n.2
    exact .inl ⟨⟨o, h1, d⟩, h2, h3⟩
  · exact .inr (by rw [t.eq]; exact k)
theorem SqLf.tr {a : Addr} {xs : List V} (t : Tr K K' ρ ρ' H H') (h : SqLf K ρ H a xs) : SqLf K' ρ' H' a xs := by
  rcases h with ⟨h | ⟨o, h⟩, n⟩ | k
  · obtain ⟨h1, h2, h3⟩ := t.mv a _ h trivial n.1 n.2
    exact .inl ⟨.inl h1, h2, h3⟩
  · obtain ⟨h1, h2, h3⟩ := t.mv a _ h trivial n.1 n.2
    exact .inl ⟨.inr ⟨o, h1⟩, h2, h3⟩
  · exact .inr (by rw [t.eq]; exact k)
mutual
theorem RD.tr (t : Tr K K' ρ ρ' H H') : ∀ {d v}, RD K ρ H d v → pureD d = true → RD K' ρ' H' d v
  | _, _, .non, _ => .non
  | _, _, .bl b, _ => .bl b
  | _, _, .int i, _ => .int i
  | _, _, .str x, _ => .str x
  | _, _, .tup h r, p => .tup (h.tr t) (RDs.tr t r p)
  | _, _, .itm h n r, p => by
    obtain ⟨h1, h2⟩ := t.mv _ _ h trivial n.1 n.2
    exact .itm h1 h2 (RDs.tr t r p)
  | _, _, .lst h n r, p => by
    obtain ⟨h1, h2⟩ := t.mv _ _ h trivial n.1 n.2
    exact .lst h1 h2 (RDs.tr t r p)
  | _, _, .fzl h r, p => .fzl (h.tr t) (RDs.tr t r p)
  | _, _, .ref h, p => by cases p
  | _, _, .glo, _ => by rw [← t.eq]; exact .glo
  | _, _, .ty n, _ => .ty n
  | _, _, .inst h n r, p => by
    obtain ⟨h1, h2⟩ := t.mv _ _ h trivial n.1 n.2
    exact .inst (by rw [t.eq]; exact h1) h2 (RFs.tr t r p)
  | _, _, .dcv h n r, p => by
    obtain ⟨h1, h2⟩ := t.mv _ _ h trivial n.1 n.2
    exact .dcv h1 h2 (RKv.tr t r p)
theorem RDs.tr (t : Tr K K' ρ ρ' H H') : ∀ {ds vs}, RDs K ρ H ds vs → puresD ds = true → RDs K' ρ' H' ds vs
  | _, _, .nil, _ => .nil
  | _, _, .cons h q, p => by
    have p' := Bool.and_eq_true_iff.mp p
    exact .cons (RD.tr t h p'.1) (RDs.tr t q p'.2)
theorem RFs.tr (t : Tr K K' ρ ρ' H H') : ∀ {ds vs}, RFs K ρ H ds vs → puresF ds = true → RFs K' ρ' H' ds vs
  | _, _, .nil, _ => .nil
  | _, _, .cons h q, p => by
    have p' := Bool.and_eq_true_iff.mp p
    exact .cons (RD.tr t h p'.1) (RFs.tr t q p'.2)
theorem RKv.tr (t : Tr K K' ρ ρ' H H') : ∀ {ds vs}, RKv K ρ H ds vs → puresK ds = true → RKv K' ρ' H' ds vs
  | _, _, .nil, _ => .nil
  | _, _, .cons h q, p => by
    have p' := Bool.and_eq_true_iff.mp p
    exact .cons (RD.tr t h p'.1) (RKv.tr t q p'.2)
end
theorem RKs.tr (t : Tr K K' ρ ρ' H H') : ∀ {ds : List (Key × D)} {vs}, RKs K ρ H ds vs → (ds.all fun p => pureD p.2) = true → RKs K' ρ' H' ds vs
  | _, _, .nil, _ => .nil
  | _, _, .cons h q, p => by
    have p' := Bool.and_eq_true_iff.mp p
    exact .cons ⟨h.1, h.2.tr t p'.1⟩ (RKs.tr t q p'.2)
def pureO : Option D → Option D
  | some d => if pureD d then some d else none
  | none => none
def envP (env : Env) : Env := env.map pureO
theorem RE.tr {env : Env} {σ : L2.St} (t : Tr K K' ρ ρ' H H') (h : RE K ρ H env σ) : RE K' ρ' H' (envP env) σ := by
  unfold RE at h ⊢
  unfold envP
  induction h with
  | nil => exact .nil
  | @cons o p _ _ a b ih =>
    refine .cons (fun d hd => ?_) ih
    cases o with
    | none => cases hd
    | some e =>
      have hd' : (if pureD e then some e else none) = some d := hd
      split at hd'
      · rename_i hp
        cases hd'
        obtain ⟨v, hv, r⟩ := a d rfl
        exact ⟨v, hv, r.tr t hp⟩
      · cases hd'
end

def itemsA (kvs : List (Key × D)) : List D := kvs.map fun p => .itm [dOfK p.1, p.2]
def valsA (kvs : List (Key × D)) : List D := kvs.map (·.2)
def eLcK (src : List (Key × D) → List D) (i : Nat) (vs : List Nat) (g : Tg) (ft fe : Ev) : Ev := fun env M => match env[i]? with
  | some (some (.ref l)) => match M[l]? with
    | some (.dic kvs) => if (kvs.all fun p => pureD p.2) && decide ((src kvs).length ≤ sizeLine) then
        match compD cYes g ft fe (wipeE (envP env) vs) (src kvs) [] with
        | .ok ys _ => if puresD ys then .ok (.lst ys) M else .st
        | _ => .st
      else .st
    | _ => .st
  | _ => .st
section
variable {X : Cx} {W : WX} {elt tg : Expr} {ifs : List Expr} {scope : Scope} {pos p apos : Pos} {g : Tg} {ft fe : Ev}
theorem frz_ne {H : Hp} {d a : Addr} {o : HO} {od : Obj} {ws : List (Key × V)} (h : H d = some (.frz od (.dK ws))) (ha : H a = some o) (k : DataO o) : a ≠ d := by
  rintro rfl
  rw [h] at ha
  cases ha
  exact k
end
end DL

namespace DL
open PySem L2 PyProof.Rows PySem.Spec

def getFD (f : Str) : List (Str × D) → Option D
  | [] => none
  | (g, d) :: r => if f == g then some d else getFD f r
def putFD (f : Str) (v : D) : List (Str × D) → List (Str × D)
  | [] => [(f, v)]
  | (g, x) :: r => if g = f then (g, v) :: r else (g, x) :: putFD f v r
section
variable {K : Kx} {W : WX} {ρ : List Addr} {H : Hp} {M : Mem} {σ : L2.St}
theorem RFs.look {f : Str} : ∀ {fs : List (Str × D)} {gs : List (Str × V)}, RFs K ρ H fs gs → (getFD f fs = none ∧ gs.lookup f = none) ∨ ∃ d v, getFD f fs = some d ∧ gs.lookup f = some v ∧ RD K ρ H d v
  | _, _, RFs.nil => .inl ⟨rfl, rfl⟩
  | _, _, @RFs.cons _ _ _ g d fs v gs h t => by
    unfold getFD
    rw [List.lookup_cons]
    cases e : f == g with
    | true => exact .inr ⟨d, v, rfl, rfl, h⟩
    | false => exact RFs.look t
theorem RFs.put {f : Str} {d : D} {v : V} (r : RD K ρ H d v) : ∀ {fs : List (Str × D)} {gs : List (Str × V)}, RFs K ρ H fs gs → RFs K ρ H (putFD f d fs) (putF f v gs)
  | _, _, .nil => .cons r .nil
  | _, _, @RFs.cons _ _ _ g x fs y gs h t => by
    unfold putFD putF
    by_cases e : g = f
    · rw [if_pos e, if_pos e]; exact .cons r t
    · rw [if_neg e, if_neg e]; exact .cons h (RFs.put r t)
theorem RFs.length : ∀ {fs : List (Str × D)} {gs : List (Str × V)}, RFs K ρ H fs gs → fs.length = gs.length
  | _, _, .nil => rfl
  | _, _, .cons _ t => congrArg (· + 1) (RFs.length t)
end
def makeF (c : Str) (F : Fn) (ds : List D) (M : Mem) : Out := if puresD ds then
    match F (.ref 0 :: ds) [.ins c []] with
    | .ok .non M2 => match (M2[0]? : Option Ob) with
      | some (Ob.ins c' fs) => if c' = c ∧ puresF fs = true then .ok (.inst c fs) M else .st
      | _ => .st
    | .ex x _ => if puresF x.fs then .ex x M else .st
    | _ => .st
  else .st
def eMake (c : Str) (F : Fn) (fl : EvL) : Ev := fun env M => (fl env M).bind (makeF c F)
section
variable {K : Kx} {W : WX} {ρ : List Addr} {H : Hp} {M : Mem} {σ : L2.St}
end
section
variable {X : Cx} {W : WX} {pos p apos pos' : Pos} {o a e : Expr} {es : List Expr} {fo fv : Ev} {fl : EvL} {x c f m : Str} {k : Nat} {fd : FuncData} {ps : List Str} {F : Fn} {fa pa : Addr}
end
end DL

namespace DL
open PySem L2 PyProof.Rows PySem.Spec

structure CalD (P : Program) (w : World) (K : PySem.W.Frag) (mg : Str → Option Value) (base : Heap) (k : Nat) (x : Str) (n : Nat) (F : Fn) : Prop where
  mg_ : mg x = some (.ref (gadr K x))
  kp : PySem.W.keepIn K (.ref (gadr K x)) = true
  ok : ∃ (fd : FuncData) (ps : List Str), ps.length = n ∧ FnOk P w K mg base (L2.CX P w) k (gadr K x) fd ps (spF K n F) ∧ L2.Binds K fd ps []
structure MetD (P : Program) (w : World) (K : PySem.W.Frag) (mg : Str → Option Value) (base : Heap) (k : Nat) (c m : Str) (n : Nat) (F : Fn) : Prop where
  cls : Cls K (gadr K c)
  ok : ∃ (fa : Addr) (fd : FuncData) (ps : List Str), ps.length = n ∧ Meth K (gadr K c) m fa ∧ FnOk P w K mg base (L2.CX P w) k fa fd ps (spF K n F) ∧ L2.Binds K fd ps []
structure PrpD (P : Program) (w : World) (K : PySem.W.Frag) (mg : Str → Option Value) (base : Heap) (k : Nat) (c m : Str) (F : Fn) : Prop where
  cls : Cls K (gadr K c)
  ok : ∃ (pa fa : Addr) (fd : FuncData) (ps : List Str), PropOf K (gadr K c) m pa fa ∧ FnOk P w K mg base (L2.CX P w) k fa fd ps (spF K 1 F) ∧ L2.Binds K fd ps []
structure MakD (P : Program) (w : World) (K : PySem.W.Frag) (mg : Str → Option Value) (base : Heap) (k : Nat) (x : Str) (n : Nat) (F : Fn) : Prop where
  mg_ : mg x = some (.ref (gadr K x))
  ok : ∃ (fa : Addr) (fd : FuncData) (ps : List Str), ps.length = n + 1 ∧ Mk K (gadr K x) fa ∧ FnOk P w K mg base (L2.CX P w) k fa fd ps (spF K (n + 1) F) ∧ L2.Binds K fd ps []
section
variable {X : Cx} {W : WX} {pos p apos : Pos} {o a : Expr} {es : List Expr} {fo : Ev} {fl : EvL} {x c m : Str} {k j n : Nat} {F : Fn}
theorem de_cal (C : CalD X.prog X.w X.K X.mg X.base k x n F) (hr : Room j X.A) (hk : k ≤ j) (hg : Gl X x) (tk : Takes X W) (ha : DA X W (a :: es) fl) (hn : (a :: es).length = n := by rfl) (hdb : (x == ("__debug__" : Str)) = false := by decide)
    (h1 : starEach (a :: es) X.env = (false, eval a X.env) :: starEach es X.env := by rfl) (h2 : (backTo pos (starEach es X.env)).any (·.1) = false := by rfl) : DE X W (.Call (.Name x p) (a :: es) [] pos) (eFn F fl) := by
  obtain ⟨fd, ps, hl, G, b⟩ := C.ok
  subst hl
  exact de_fn G (hr.mono hk) hg C.mg_ C.kp b tk ha hn hdb h1 h2
end

def newF (F : Fn) (ds : List D) (M : Mem) : Out := if puresD ds then
    match F ds [] with
    | .ok (.ref l) M1 => match (M1[l]? : Option Ob) with
      | some ob => if pureOb ob then .ok (.ref M.length) (M ++ [ob]) else .st
      | none => .st
    | .ex x _ => if puresF x.fs then .ex x M else .st
    | _ => .st
  else .st
def eFnN (F : Fn) (f : EvL) : Ev := fun env M => (f env M).bind (newF F)
section
variable {K : Kx} {W : WX} {ρ : List Addr} {H : Hp} {M : Mem} {σ : L2.St}
theorem newF_sound {n : Nat} {F : Fn} {ds : List D} {vs : List V} {Q : VK} (hn : ds.length = n) (r : RDs K ρ H ds vs) (m : MOk K ρ M H) (h : Post K W ρ σ H (newF F ds M) Q) : spF K.K n F vs H Q (fun c d H => W c d σ H) := by
  unfold newF at h
  split at h
  · rename_i hp
    have s : Sub K ⟨K.K, K.φ ++ ρ⟩ ρ [] H := ⟨rfl, fun a o e h1 h2 => ⟨by simp, by simp [h1, h2]⟩⟩
    refine ⟨K.φ ++ ρ, [], ds, [], hn, r.sub s hp, m.empty, ?_⟩
    have fin : ∀ {ρ1 : List Addr} {H1 : Hp}, Ext [] H ρ1 H1 → (∀ P ∈ tabsOf K.K, TabF H1 P) → Ext ρ H ρ H1 ∧ MOk K ρ M H1 ∧ Sub ⟨K.K, K.φ ++ ρ⟩ K ρ1 ρ H1 ∧ ∀ a ∈ ρ1, H a = none := fun {ρ1 H1} e tb => by
      have ex : Ext ρ H ρ H1 := ⟨⟨[], by simp, by simp⟩, fun a o q _ z => e.keep a o q (by simp) z, e.live, e.tabs⟩
      refine ⟨ex, m.keep ex (fun a z => ?_) tb, ⟨rfl, fun a o q h1 h2 => ?_⟩, fun a z => ?_⟩
      · obtain ⟨u, hu, ow⟩ := m.ownAt (.inl z)
        rw [hu]
        exact e.keep a u hu (by simp) ow.nt
      · simp only [List.mem_append, not_or] at h2
        exact ⟨h2.2, h2.1⟩
      · obtain ⟨t, e1, e2⟩ := e.pre
        rw [e1] at z
        exact e2 a (by simpa using z)
    split at h
    · rename_i l M1 q
      rw [q]
      split at h
      · rename_i ob hob
        split at h
        · rename_i hpo
          intro ρ1 H1 v a b c
          obtain ⟨ex, m1, s1, nw⟩ := fin a b.tab
          cases c with
          | @ref _ b0 hb0 =>
            have hn0 := nw b0 (List.mem_of_getElem? hb0)
            have fr := m.fresh hn0
            obtain ⟨u, hu, ro⟩ := b.at_ _ _ _ hob hb0
            have ex2 : Ext ρ H (ρ ++ [b0]) H1 := ⟨⟨[b0], rfl, fun a z => by
              have : a = b0 := by simpa using z
              subst this; exact hn0⟩, fun a o q n z => ex.keep a o q n z, ex.live, ex.tabs⟩
            have sb : Sub ⟨K.K, K.φ ++ ρ⟩ K ρ1 (ρ ++ [b0]) H1 := ⟨rfl, fun a o q h1 h2 => by
              simp only [List.mem_append, not_or] at h2
              refine ⟨fun z => ?_, h2.1⟩
              rcases List.mem_append.mp z with z | z
              · exact h2.2 z
              · have : a = b0 := by simpa using z
                subst this
                exact h1 (List.mem_of_getElem? hb0)⟩
            have m2 : MOk K (ρ ++ [b0]) (M ++ [ob]) H1 := by
              refine ⟨?_, by simp [m.len], m1.hid, fun l2 ob2 a2 h3 h4 => ?_, m1.tab⟩
              · rw [List.nodup_append]
                refine ⟨m.nd, by simp, fun a ha b hb z => ?_⟩
                obtain rfl := List.mem_singleton.mp hb
                exact fr.1 (z ▸ ha)
              · by_cases hl : l2 < M.length
                · rw [List.getElem?_append_left hl] at h3
                  rw [List.getElem?_append_left (by rw [m.len]; exact hl)] at h4
                  obtain ⟨v2, hv2, r2⟩ := m.at_ l2 ob2 a2 h3 h4
                  refine ⟨v2, a.keep a2 v2 hv2 (by simp) r2.own.nt, r2.ext ex2⟩
                · have hl2 : l2 < (M ++ [ob]).length := (List.getElem?_eq_some_iff.mp h3).1
                  have hl3 : l2 = M.length := by simp at hl2; omega
                  subst hl3
                  rw [List.getElem?_concat_length] at h3
                  rw [← m.len, List.getElem?_concat_length] at h4
                  cases h3; cases h4
                  exact ⟨u, hu, ro.sub sb hpo⟩
            exact h _ _ _ ex2 m2 (.ref (by rw [← m.len, List.getElem?_concat_length]))
        · exact h.elim
      · exact h.elim
    · rename_i x M1 q
      rw [q]
      split at h
      · rename_i hp2
        intro ρ1 H1 dx a b c
        obtain ⟨ex, m1, s1, nw⟩ := fin a b.tab
        exact h _ _ _ ex m1 (c.sub s1 hp2)
      · exact h.elim
    · exact h.elim
  · exact h.elim
end
section
variable {X : Cx} {W : WX} {pos p : Pos} {a b c : Expr} {es : List Expr} {fl : EvL} {x : Str} {k j n : Nat} {F : Fn} {fa fb fc : Ev}
theorem de_calN (C : CalD X.prog X.w X.K X.mg X.base k x n F) (hr : Room j X.A) (hk : k ≤ j) (hg : Gl X x) (tk : Takes X W) (ha : DA X W (a :: es) fl) (hn : (a :: es).length = n := by rfl) (hdb : (x == ("__debug__" : Str)) = false := by decide)
    (h1 : starEach (a :: es) X.env = (false, eval a X.env) :: starEach es X.env := by rfl) (h2 : (backTo pos (starEach es X.env)).any (·.1) = false := by rfl) : DE X W (.Call (.Name x p) (a :: es) [] pos) (eFnN F fl) := by
  obtain ⟨fd, ps, hl, G, bd⟩ := C.ok
  obtain ⟨ta, pa, la, sa⟩ := ha
  refine ⟨_, pe_callSD (E := fun σ c d H => W c d σ H) G (hr.mono hk) hg C.mg_ C.kp bd .nil (fun σ => passAt tk σ) pa hdb h1 h2, fun φ ρ env M σ H Q e m h => ?_⟩
  unfold eFnN at h
  cases q : fl env M with
  | ok ds M1 =>
    rw [q] at h
    refine sa φ ρ env M σ H _ e m ?_
    rw [q]
    intro ρ1 H1 vs a1 b1 c1
    rw [List.append_nil]
    exact newF_sound (K := ⟨X.K, φ⟩) ((la _ _ _ _ q).trans hn) c1 b1 (Post.ext a1 h)
  | ex x M1 =>
    rw [q] at h
    refine sa φ ρ env M σ H _ e m ?_
    rw [q]
    exact h
  | st => rw [q] at h; exact h.elim
end

theorem jw_itm {K : Kx} {ρ1 : List Addr} {H1 : Hp} {a : Addr} {ds : List D} {xs : List V} (h : H1 a = some (.tup xs)) (n : a ∉ ρ1) (r : RDs K ρ1 H1 ds xs) : JW K (Itt K.K a) ρ1 H1 cYes ds := by
  intro i ρ2 H2 M2 ex m c
  have s : SqT K.K H2 a xs := .inl (.inl (ex.keep _ _ h n))
  have r := r.ext ex
  refine ⟨fun d hd => ?_, fun hi => ⟨xs, s, by rw [← r.length, hi]; exact Nat.le_refl _⟩⟩
  obtain ⟨v, hv, rv⟩ := r.get hd
  refine ⟨⟨xs, v, s, hv⟩, fun x H' y => ?_⟩
  obtain ⟨rfl, y⟩ := y
  have := y xs s
  rw [hv] at this
  cases this
  exact ⟨.refl, m, rv⟩
def iA (f : Ev) : EvI := fun env M => (f env M).bindI fun d M1 => match d with
  | .tup xs => .ok xs cYes M1
  | .itm xs => .ok xs cYes M1
  | d => match derefL M1 d with
    | some xs => .ok xs (chkL d xs) M1
    | none => .st
def wiA (K : PySem.W.Frag) (te : TE) : TI := fun σ H R => te σ H fun x H1 => ∃ a, x = .ref a ∧ (((∃ xs, SqL K H1 a xs) ∧ R (Itl K a) H1) ∨ ((∃ xs, SqT K H1 a xs) ∧ R (Itt K a) H1))
section
variable {X : Cx} {W : WX} {a tg : Expr} {fa : Ev} {te : TE}
theorem pi_any (he : PE X a te) : PI X tg a (wiA X.K te) := by
  refine ⟨fun pins s0 σ H R I h => thn (he.run pins s0 σ H _ I h) fun u s1 ⟨x, H1, J, rx, b, ex, q⟩ => ?_⟩
  subst ex
  cases rx
  rcases q with ⟨⟨xs, hx⟩, q⟩ | ⟨⟨xs, hx⟩, q⟩
  · obtain ⟨us, ru, p, _⟩ := J.list hx
    exact wpAny_pyIter_list p.isList (pi_one (tk := s1.toks) J _ (turn_list b _) ⟨_, Heap.get?_push_size _ rfl, rfl, rfl⟩ q)
  · obtain ⟨us, ru, p, _⟩ := J.tuple hx
    exact wpAny_pyIter_tuple (show s1.heap.IsTuple b us.toArray from p) (pi_one (tk := s1.toks) J _ (turn_tuple b _) ⟨_, Heap.get?_push_size _ rfl, rfl, rfl⟩ q)
theorem di_any (ha : DE X W a fa) : DI X W tg a (iA fa) := by
  obtain ⟨ta, pa, sa⟩ := ha
  refine ⟨_, pi_any pa, fun φ ρ env M σ H R e m h => ?_⟩
  refine sa φ ρ env M σ H _ e m (PostI.bind h fun d M1 ρ1 H1 v a1 b1 c1 h1 => ?_)
  have lst : ∀ xs, derefL M1 d = some xs → PostI ⟨X.K, φ⟩ W ρ1 σ H1 (.ok xs (chkL d xs) M1) R → ∃ a, v = V.ref a ∧ (((∃ xs, SqL X.K H1 a xs) ∧ R (Itl X.K a) H1) ∨ ((∃ xs, SqT X.K H1 a xs) ∧ R (Itt X.K a) H1)) := fun xs hx h2 => by
    obtain ⟨q, rfl, s, ck, st⟩ := derefL_stay b1 c1 hx
    exact ⟨q, rfl, .inl ⟨s, h2 _ _ _ .refl b1 ck fun K' hh => jw_list (K := ⟨X.K, K'⟩) (st K' hh)⟩⟩
  cases c1 with
  | tup hh rr => exact ⟨_, rfl, .inr ⟨⟨_, hh.sq⟩, h1 _ _ _ .refl b1 rfl fun K' hd => jw_tup (K := ⟨X.K, K'⟩) (hh.hide hd) (rr.hide hd)⟩⟩
  | itm hh nn rr => exact ⟨_, rfl, .inr ⟨⟨_, .inl (.inl hh)⟩, h1 _ _ _ .refl b1 rfl fun K' hd => jw_itm (K := ⟨X.K, K'⟩) hh nn.1 (rr.hide hd)⟩⟩
  | lst hh nn rr => exact lst _ rfl h1
  | fzl hh rr => exact lst _ rfl h1
  | @ref l q hq =>
    cases hx : derefL M1 (.ref l) with
    | none => simp only [hx] at h1; exact h1.elim
    | some xs => simp only [hx] at h1; exact lst _ hx h1
  | _ => exact h1.elim
end

def spR (K : PySem.W.Frag) (F : Fn) : Sp := fun vs H Q E => ∃ φ ρ ds M, RDs ⟨K, φ⟩ ρ H ds vs ∧ MOk ⟨K, φ⟩ ρ M H ∧ PostF ⟨K, φ⟩ ρ H (F ds M) Q E
structure StrD (P : Program) (w : World) (K : PySem.W.Frag) (mg : Str → Option Value) (base : Heap) (k : Nat) (x : Str) (F : Fn) : Prop where
  mg_ : mg x = some (.ref (gadr K x))
  kp : PySem.W.keepIn K (.ref (gadr K x)) = true
  ok : FnR P w K mg base (L2.CX P w) k (gadr K x) (spR K F)
theorem RDs.split {K : Kx} {ρ : List Addr} {H : Hp} : ∀ (n : Nat) {ds : List D} {vs : List V}, RDs K ρ H ds vs → vs = vs.take n ++ vs.drop n ∧ RDs K ρ H (ds.take n) (vs.take n) ∧ RDs K ρ H (ds.drop n) (vs.drop n) := fun n ds vs r => ⟨(List.take_append_drop n vs).symm, r.take n, r.drop n⟩
section
variable {X : Cx} {W : WX} {pos p : Pos} {a : Expr} {es : List Expr} {fl : EvL} {x : Str} {k j : Nat} {F : Fn}
end
end DL

namespace DL
open PySem L2 PyProof.Rows PySem.Spec

mutual
theorem cstB_ok {K : PySem.W.Frag} : ∀ {d : D} {u : Value}, cstB K d u = true → ∃ v, RelV v u ∧ ∀ φ ρ H, RD ⟨K, φ⟩ ρ H d v
  | .non, u, h => by
    unfold cstB at h
    cases u <;> first | exact ⟨.non, rfl, fun _ _ _ => .non⟩ | cases h
  | .bl b, u, h => by
    unfold cstB at h
    cases u <;> first | exact ⟨.bl b, by rw [beq_iff_eq.mp h]; rfl, fun _ _ _ => .bl b⟩ | cases h
  | .int i, u, h => by
    unfold cstB at h
    cases u <;> first | exact ⟨.int i, ⟨_, by rw [of_decide_eq_true h]⟩, fun _ _ _ => .int i⟩ | cases h
  | .str x, u, h => by
    unfold cstB at h
    cases u <;> first | exact ⟨.str x, ⟨_, by rw [of_decide_eq_true h]⟩, fun _ _ _ => .str x⟩ | cases h
  | .tup ds, u, h => by
    unfold cstB at h
    cases u with
    | ref a =>
      simp only at h
      split at h
      · rename_i t its n sl q
        obtain ⟨h1, h2⟩ := Bool.and_eq_true_iff.mp h
        obtain ⟨h3, h4⟩ := Bool.and_eq_true_iff.mp h2
        obtain ⟨vs, rs, qs⟩ := cstsB_ok h4
        exact ⟨.ref a, rfl, fun φ ρ H => .tup (.inr ⟨_, its, n, q, congrArg Value.type (of_decide_eq_true h1), rfl, rfl, of_decide_eq_true h3, rs⟩) (qs φ ρ H)⟩
      · cases h
    | _ => cases h
  | .itm _, u, h => by unfold cstB at h; cases u <;> cases h
  | .lst _, u, h => by unfold cstB at h; cases u <;> cases h
  | .fzl _, u, h => by unfold cstB at h; cases u <;> cases h
  | .ref _, u, h => by unfold cstB at h; cases u <;> cases h
  | .glo _, u, h => by unfold cstB at h; cases u <;> cases h
  | .ty _, u, h => by unfold cstB at h; cases u <;> cases h
  | .inst _ _, u, h => by unfold cstB at h; cases u <;> cases h
  | .dcv _, u, h => by unfold cstB at h; cases u <;> cases h
theorem cstsB_ok {K : PySem.W.Frag} : ∀ {ds : List D} {us : List Value}, cstsB K ds us = true → ∃ vs, Vals vs us ∧ ∀ φ ρ H, RDs ⟨K, φ⟩ ρ H ds vs
  | [], [], _ => ⟨[], .nil, fun _ _ _ => .nil⟩
  | d :: ds, u :: us, h => by
    have h' := Bool.and_eq_true_iff.mp h
    obtain ⟨v, r, q⟩ := cstB_ok h'.1
    obtain ⟨vs, rs, qs⟩ := cstsB_ok h'.2
    exact ⟨v :: vs, .cons r rs, fun φ ρ H => .cons (q φ ρ H) (qs φ ρ H)⟩
  | [], _ :: _, h => by cases h
  | _ :: _, [], h => by cases h
end

theorem FdX.funD {K : PySem.W.Frag} {d : FdX} (hn : d.cl = none) (e : fnX K d = d.dv.val) (c : d.ok K = true) : ∃ g, FunD K d.name d.qual (defArgs d.st) (defBody d.st) (defScope d.st) (d.dv.dvs K) (d.dv.kws K) (d.adr K) g := by
  unfold FdX.ok at c
  unfold fnX at e
  rw [hn] at c e
  split at c
  · rename_i oc od g osl q
    rw [q] at e
    obtain ⟨n1, n2, n3, n4, n5, n6, n7, n8, n9, n10, n11, n12, n13, n14, n15⟩ := g
    obtain ⟨k0, c⟩ := Bool.and_eq_true_iff.mp c
    obtain ⟨k1, c⟩ := Bool.and_eq_true_iff.mp c
    obtain ⟨k2, c⟩ := Bool.and_eq_true_iff.mp c
    obtain ⟨k3, _⟩ := Bool.and_eq_true_iff.mp c
    have e2 : (some (n1, n2, n3, n4, n5, n6, n7, n15) : He.FnW) = some (d.name, d.qual, defArgs d.st, .stmts (defBody d.st), defScope d.st, mainGlobals, [], builtinsNs) := e
    injection e2 with e2
    injection e2 with a1 e2; injection e2 with a2 e2; injection e2 with a3 e2; injection e2 with a4 e2; injection e2 with a5 e2; injection e2 with a6 e2; injection e2 with a7 a8
    cases a1; cases a2; cases a3; cases a4; cases a5; cases a6; cases a7; cases a8
    exact ⟨_, ⟨oc, od, n8, n9, n10, n11, n12, n13, n14, osl, rfl, q, k1, He.dflB_ok k2, He.kwdB_ok k3⟩, k0⟩
  · cases c
theorem FdX.excD {K : PySem.W.Frag} {d : FdX} {q : Str × Str} (hn : d.cl = some q) (hd : d.dfl = []) (e : fnX K d = d.dv.val) (c : d.ok K = true) :
    ∃ (oc kV doc pm ct : Value) (od an : Option Addr) (cda cc : Addr) (osl : Array (Option Value)), K.lookup (d.adr K) = some ⟨oc, od, .func (PySem.W.ksFn d.name d.qual (defArgs d.st) (defBody d.st) (defScope d.st) .none kV doc pm an (.ref cda) ct cc), osl⟩ ∧ PySem.W.codeIn K (.ref cda) d.qual = true ∧
      (∃ (ccl : Value) (cdd : Option Addr) (ccs : Array (Option Value)) (vs : Array Value) (tf : Tok), K.lookup cda = some ⟨ccl, cdd, .fields vs, ccs⟩ ∧ vs[2]? = some (.str q.2 tf)) ∧
      ∃ (cl : Value) (cld : Option Addr) (csl : Array (Option Value)), K.lookup cc = some ⟨cl, cld, .cell (some (.ref (gadr K q.1))), csl⟩ := by
  unfold FdX.ok at c
  unfold fnX at e
  rw [hn] at c e
  split at c
  · rename_i oc od g osl hq
    rw [hq] at e
    obtain ⟨n1, n2, n3, n4, n5, n6, n7, n8, n9, n10, n11, n12, n13, n14, n15⟩ := g
    obtain ⟨k0, c⟩ := Bool.and_eq_true_iff.mp c
    obtain ⟨k1, c⟩ := Bool.and_eq_true_iff.mp c
    obtain ⟨k2, c⟩ := Bool.and_eq_true_iff.mp c
    obtain ⟨k3, c⟩ := Bool.and_eq_true_iff.mp c
    obtain ⟨c1, c2⟩ := Bool.and_eq_true_iff.mp c
    have e2 : (some (n1, n2, n3, n4, n5, n6, [], n15) : He.FnW) = some (d.name, d.qual, defArgs d.st, .stmts (defBody d.st), defScope d.st, mainGlobals, [], builtinsNs) := e
    injection e2 with e2
    injection e2 with a1 e2; injection e2 with a2 e2; injection e2 with a3 e2; injection e2 with a4 e2; injection e2 with a5 e2; injection e2 with a6 e2; injection e2 with a7 a8
    cases a1; cases a2; cases a3; cases a4; cases a5; cases a6; cases a8
    have hv : n8 = .none := by
      have e0 : d.dv.dvs K = [] := by
        show List.map _ d.dfl = []
        rw [hd]; rfl
      rw [e0] at k2
      dsimp only at k2
      cases n8 <;> first | rfl | cases k2
    subst hv
    dsimp only at c1 c2 k1
    split at c1
    · rename_i n cc
      obtain ⟨c3, c4⟩ := Bool.and_eq_true_iff.mp c1
      have hnm := of_decide_eq_true c3
      subst hnm
      split at c4
      · rename_i u1 u2 a u4 hcell
        have ha := of_decide_eq_true c4
        subst ha
        split at c2
        · rename_i cda
          split at c2
          · rename_i v1 v2 vs v4 hcode
            split at c2
            · rename_i sf tf hvs
              have hf := of_decide_eq_true c2
              subst hf
              exact ⟨oc, _, _, _, _, od, _, _, _, osl, hq, k1, ⟨_, _, _, _, _, ‹_›, ‹_›⟩, _, _, _, ‹_›⟩
            · cases c2
          · cases c2
        · cases c2
      · cases c4
    · cases c1
  · cases c
section
variable {ft : List Ft} {fn : List FdX} {K : PySem.W.Frag} {mg : Str → Option Value} {h : Heap}
theorem Says.fact (c : Says ft fn K) (i : Nat) {f : Ft} (e : ft[i]? = some f) : f K = true := by
  have z : ((ft.all fun f => f K) && fn.all fun d => d.ok K) = true := congrArg Prod.fst c
  exact List.all_eq_true.mp (Bool.and_eq_true_iff.mp z).1 f (List.mem_of_getElem? e)
theorem Says.def_ (c : Says ft fn K) (i : Nat) {d : FdX} (e : fn[i]? = some d) (hn : d.cl = none := by rfl) : ∃ g, FunD K d.name d.qual (defArgs d.st) (defBody d.st) (defScope d.st) (d.dv.dvs K) (d.dv.kws K) (d.adr K) g := by
  have z : ((ft.all fun f => f K) && fn.all fun d => d.ok K) = true := congrArg Prod.fst c
  have y : (fn.map fun d => fnX K d) = fn.map fun d => d.dv.val := congrArg Prod.snd c
  refine FdX.funD hn ?_ (List.all_eq_true.mp (Bool.and_eq_true_iff.mp z).2 d (List.mem_of_getElem? e))
  have y1 := congrArg (fun l => l[i]?) y
  simp only [List.getElem?_map, e, Option.map_some] at y1
  exact Option.some.inj y1
theorem Says.exc_ (c : Says ft fn K) (i : Nat) {d : FdX} (e : fn[i]? = some d) {q : Str × Str} (hn : d.cl = some q) : fnX K d = d.dv.val ∧ d.ok K = true := by
  have z : ((ft.all fun f => f K) && fn.all fun d => d.ok K) = true := congrArg Prod.fst c
  have y : (fn.map fun d => fnX K d) = fn.map fun d => d.dv.val := congrArg Prod.snd c
  refine ⟨?_, List.all_eq_true.mp (Bool.and_eq_true_iff.mp z).2 d (List.mem_of_getElem? e)⟩
  have y1 := congrArg (fun l => l[i]?) y
  simp only [List.getElem?_map, e, Option.map_some] at y1
  exact Option.some.inj y1
theorem tGlo_ok (X : K.In h) (G : h.Ns mainGlobals mg) {x : Str} (c : tGlo x K = true) : mg x = some (.ref (gadr K x)) := PySem.W.mg_of X G (of_decide_eq_true c)
theorem tFree_ok (X : K.In h) (G : h.Ns mainGlobals mg) {x : Str} (c : tFree x K = true) : mg x = none := PySem.W.mg_none_of X G (of_decide_eq_true c)
end
end DL

namespace DL
open PySem L2 PyProof.Rows

abbrev Mc := D → Sx
def seqM (M : Mem) : D → Option (Option (List D))
  | .tup xs => some (some xs)
  | .itm xs => some (some xs)
  | .lst xs => some (some xs)
  | .fzl xs => some (some xs)
  | .ref l => match M[l]? with
    | some (.lst xs) => some (some xs)
    | some (.dic []) => some none
    | _ => none
  | .dcv _ => some none
  | .non => some none
  | .bl _ => some none
  | .int _ => some none
  | .str _ => some none
  | _ => none
def setE (env : Env) : List Nat → List D → Env
  | i :: is, d :: ds => setE (env.set i (some d)) is ds
  | _, _ => env
def sMatch (fa : Ev) (f : Mc) : Sx := fun env M => (fa env M).bindS env fun d M1 => f d env M1
def mEnd : Mc := fun _ env M => .nx env M
def mSeq (is : List Nat) (g : Option Ev) (body : Sx) (rest : Mc) : Mc := fun d env M => match seqM M d with
  | some (some xs) => if xs.length = is.length then (match g with
    | none => body (setE env is xs) M
    | some g => (g (setE env is xs) M).bindS (setE env is xs) fun b M1 => match b with
      | .bl true => body (setE env is xs) M1
      | .bl false => rest d (setE env is xs) M1
      | _ => .st) else rest d env M
  | some none => rest d env M
  | none => .st

section
variable {X : Cx} {W : WX} {pins : List (Addr × Obj)} {σ : L2.St} {H : Hp} {s : Shared} {E : Value → Shared → Prop}
inductive CapS (X : Cx) : List Pattern → List Nat → Prop
  | nil : CapS X [] []
  | cons {x : Str} {pos : Pos} {ps : List Pattern} {is : List Nat} (i : Nat) (hi : X.N[i]? = some x) (hx : Loc X.env.scope x) (hf : X.fn x = true ∨ X.env.scope.names.lookup x = some .local) (t : CapS X ps is) : CapS X (.MatchAs none (some x) pos :: ps) (i :: is)
theorem CapS.len {ps : List Pattern} {is : List Nat} (h : CapS X ps is) : ps.length = is.length := by
  induction h with
  | nil => rfl
  | cons i _ _ _ _ ih => simp [ih]
end
section
variable {X : Cx} {W : WX} {pos : Pos} {a : Expr} {fa g : Ev} {cs : List MatchCase} {f rest : Mc} {fb : Sx} {body : List Stmt} {ps : List Pattern} {is : List Nat} {ge : Expr}
end
end DL

namespace DL
open PySem L2 PyProof.Rows PySem.Spec

abbrev fnSt : Fn := fun _ _ => .st
structure WrapOk (K : PySem.W.Frag) (x m : Str) (t g : String) : Prop where
  rd : ClX.CRead K (gadr K x) (.type "type")
  at_ : PySem.W.findCls K (.ref (gadr K x)) (.type "type") m = some (.get (.builtin g) (.ref (cadr K x m)) .none (.ref (gadr K x)))
  rc : ∃ rest, PySem.W.recIn K (cadr K x m) t = some (.ref (wadr K x m t) :: rest)
  fi : PySem.W.fnIn K (wadr K x m t) = true
  kp : PySem.W.keepIn K (.ref (wadr K x m t)) = true
structure CmtD (P : Program) (w : World) (K : PySem.W.Frag) (mg : Str → Option Value) (base : Heap) (k : Nat) (c m : Str) (n : Nat) (F : Fn) : Prop where
  mg_ : mg c = some (.ref (gadr K c))
  wr : WrapOk K c m "classmethod" "classmethod.__get__"
  ok : ∃ (fd : FuncData) (ps : List Str), ps.length = n + 1 ∧ FnOk P w K mg base (L2.CX P w) k (wadr K c m "classmethod") fd ps (spF K (n + 1) F) ∧ L2.Binds K fd ps []
structure SmtD (P : Program) (w : World) (K : PySem.W.Frag) (mg : Str → Option Value) (base : Heap) (k : Nat) (c m : Str) (n : Nat) (F : Fn) : Prop where
  mg_ : mg c = some (.ref (gadr K c))
  wr : WrapOk K c m "staticmethod" "staticmethod.__get__"
  ok : ∃ (fd : FuncData) (ps : List Str), ps.length = n ∧ FnOk P w K mg base (L2.CX P w) k (wadr K c m "staticmethod") fd ps (spF K n F) ∧ L2.Binds K fd ps []
def eCmt (c : Str) (F : Fn) (f : EvL) : Ev := fun env M => (f env M).bind fun ds M1 => callF F (.glo c :: ds) M1
section
variable {X : Cx} {W : WX} {pos p apos : Pos} {a : Expr} {es : List Expr} {fl : EvL} {c m : Str} {k j n : Nat} {F : Fn} {pl : Sem Bool}
end
end DL

namespace DL
open PySem L2 PyProof.Rows PySem.Spec

theorem enum_one {v : Value} {o : Obj} {G : Heap → Prop} (B : Begins v o G) :
    Meets (Builtin.«enumerate.__new__» ⟨[.type "enumerate", v], []⟩) (fun _ R s => G s.heap ∧
      R (.ok (.ret (.ref (s.heap.push o).objs.size))) { s with heap := (s.heap.push o).push { cls := .type "enumerate", data := .fields #[.none, .bool false, .ref s.heap.objs.size, rawInt 0, .none, .none] } }) :=
  .of_wp fun prog w A R z y => by
    obtain ⟨hp, g, d, tk, os⟩ := z
    obtain ⟨hg, h⟩ := y
    have known := sub_enumerate
    have q1 : ∀ {A' : Around} {E : Value → Shared → Prop} {Q : Value → Shared → Prop}, Q (.ref hp.objs.size) ⟨hp.push o, g, d, tk, os⟩ → wpAny (model prog w) A' (pyIter v) Q E ⟨hp, g, d, tk, os⟩ := fun q => B.iter _ _ _ _ ⟨hp, g, d, tk, os⟩ _ hg q
    wp_walk using q1
    (refine wpAny_stack_any fun st => wpAny_pure ?_)
    split
    · rename_i k _ _ _ _ _
      cases (k == Value.type "enumerate") <;> (wp_walk using q1; exact ⟨_, rfl, h⟩)
    · wp_walk using q1
      exact ⟨_, rfl, h⟩
theorem call_enum {prog : Program} {w : World} {A : Around} {E : Value → Shared → Prop} {s : Shared} {v : Value} {o : Obj} {G : Heap → Prop} {Q : Value → Shared → Prop} (B : Begins v o G) (h1 : G s.heap)
    (h : ∀ h', IsEnum h' (s.heap.objs.size + 1) s.heap.objs.size 0 .none → h'.get? s.heap.objs.size = some o → (∀ b ob, s.heap.get? b = some ob → h'.get? b = some ob) → Q (.ref (s.heap.objs.size + 1)) { s with heap := h' }) :
    wpAny (model prog w) A (call (.type "enumerate") [v]) Q E s := by
  refine callType_new F.called_enumerate (by decide) (F.typeCall_enumerate_1 _) (F.newCall_enumerate_1 _) (fun obj => F.args_object_init_2 obj _) F.entry_enumerate_new (enum_one B) ⟨h1, ?_⟩
  (have hz : (s.heap.push o).objs.size = s.heap.objs.size + 1 := Heap.size_push ..)
  show _ ∧ _
  rw [hz]
  have he : IsEnum ((s.heap.push o).push { cls := .type "enumerate", data := .fields #[.none, .bool false, .ref s.heap.objs.size, rawInt 0, .none, .none] }) (s.heap.objs.size + 1) s.heap.objs.size 0 .none := by
    have q := Heap.get?_push_size (s.heap.push o) (o := { cls := .type "enumerate", data := .fields #[.none, .bool false, .ref s.heap.objs.size, rawInt 0, .none, .none] }) rfl
    rw [hz] at q
    exact q
  exact ⟨⟨_, he, rfl⟩, h _ he (Heap.get?_push_of_some _ (Heap.get?_push_size _ B.free)) fun b ob x => Heap.get?_push_of_some _ (Heap.get?_push_of_some _ x)⟩
def Itu (K : PySem.W.Frag) (a : Addr) : It :=
  ⟨fun i H => ∃ xs x, SqT K H a xs ∧ xs[i]? = some x, fun i H v H' => ∃ p x, v = .ref p ∧ H p = none ∧ H' = upd H p (.tup [.int (i : Nat), x]) ∧ ∀ xs, SqT K H a xs → xs[i]? = some x, fun i H => ∃ xs, SqT K H a xs ∧ xs.length = i⟩
theorem tup_inj {X : Cx} {pins : List (Addr × Obj)} {σ : L2.St} {H : Hp} {s : Shared} {a : Addr} {xs ys : List V} (I : Inv X pins σ H s) (h : SqT X.K H a xs) (h' : SqT X.K H a ys) : ys = xs := I.tuple_inj h' h
theorem turn_enumT {P : Program} {w : World} {K : PySem.W.Frag} {elts : List Expr} {kk : Nat} {tpos : Pos} (a e it : Addr) :
    Turn P w K (.Tuple elts kk tpos) (Itu K a) [e, it] e (fun i h => (∃ old, IsEnum h e it ((0 : Int) + (i : Int)) old) ∧ h.IsTupleIter it a i ∧ e ≠ it) where
  mem := by simp
  obj := fun i h st b hb => by
    obtain ⟨⟨old, he⟩, ⟨oi, ei, _, di⟩, _⟩ := st
    have q : b = e ∨ b = it := by simpa using hb
    rcases q with rfl | rfl
    · exact ⟨_, he, fun v q => nomatch q⟩
    · exact ⟨oi, ei, fun v q => by rw [di] at q; cases q⟩
  keep := fun i h h' st k => by
    obtain ⟨⟨old, he⟩, hi, ne⟩ := st
    exact ⟨⟨old, k e (by simp) _ he⟩, hi.at fun o q => k it (by simp) o q, ne⟩
  item := by
    (intro X hP hw hK hc i pins s σ H E I hf st hg)
    subst hP hw hK
    obtain ⟨⟨old, he⟩, hit, ne⟩ := st
    obtain ⟨xs, x, hq, hx⟩ := hg
    (obtain ⟨its, rv, ht, hz⟩ := I.tuple hq)
    (obtain ⟨u, hu, ru⟩ := rv.get hx)
    obtain ⟨oa, ea, ca, na, da⟩ := id ht
    have ni : a ≠ it := by
      obtain ⟨oi, ei, ci, _⟩ := hit
      rintro rfl
      rw [ea] at ei; cases ei
      rw [ca] at ci
      exact absurd (Value.type.inj ci) (by decide)
    have ne2 : a ≠ e := by
      rintro rfl
      have he' : s.heap.get? a = some _ := he
      rw [ea] at he'; cases he'
      exact absurd (Value.type.inj ca) (by decide)
    have hl : i < its.toArray.size := by
      have := (List.getElem?_eq_some_iff.mp hu).1
      simpa using this
    have hh : X.A.in1.handled = none := I.ok.hd hc
    have W := GoesN.enumFrom (prog := X.prog) (w := X.w) (A := X.A) (elts := elts) (x1 := kk) (pos := tpos) 0 (Draws.tuple (prog := X.prog) (w := X.w) hh it a ni its.toArray) e ne (by simp [ne, ne2.symm]) (by simp)
    refine wpAny_mono (W.goes i s (fun v s2 => ∃ x' H', Inv X pins σ H' s2 ∧ RelV x' v ∧ (Itu X.K a).yld i H x' H' ∧ ((∃ old, IsEnum s2.heap e it ((0 : Int) + ((i + 1 : Nat) : Int)) old) ∧ s2.heap.IsTupleIter it a (i + 1) ∧ e ≠ it) ∧ ∀ b ∈ [e, it], H' b = none) E hl ⟨⟨old, he⟩, hit, ht⟩
      fun v h' tk Y St' k _ => ?_) (fun r s1 z => z) fun _ _ z => z
    obtain ⟨T, t, y, rfl, hT, hy, hv⟩ := Y
    have ey : y = u := by
      have h2 : its.toArray[i]? = some u := by simpa using hu
      rw [h2] at hy
      exact (Option.some.inj hy).symm
    subst ey
    obtain ⟨he', hit', _⟩ := St'
    obtain ⟨oT, eT, cT, nT, dT⟩ := hv
    (have hn : H T = none := I.hok.fresh hT)
    have hk : ∀ b ob, b ∉ [e, it] → s.heap.get? b = some ob → h'.get? b = some ob := fun b ob hb q => k b ob hb q
    have new : ObjOk X.prog X.w (upd H T (.tup [.int (i : Nat), x])) h' T (.tup [.int (i : Nat), x]) :=
      ⟨by show 2 ≤ sizeLine; decide, [.int (0 + (i : Int)) t, y], .cons ⟨t, by rw [Int.zero_add]⟩ (.cons ru .nil), ⟨oT, eT, cT, nT, dT⟩⟩
    have I1 : Inv X pins σ (upd H T (.tup [.int (i : Nat), x])) { s with heap := h', toks := tk } := I.turnedNew (ch := [e, it]) (t' := tk) hk hf hT new
    refine ⟨.ref T, _, I1, rfl, ⟨T, x, rfl, hn, rfl, fun ys hy => by rw [tup_inj I hq hy]; exact hx⟩, ⟨he', hit', ne⟩, fun b hb => ?_⟩
    have hb' : b < s.heap.objs.size := by
      have q : b = e ∨ b = it := by simpa using hb
      rcases q with z | z
      · rw [z]; exact Heap.lt_size he
      · rw [z]; obtain ⟨oi, ei, _⟩ := hit; exact Heap.lt_size ei
    rw [upd_ne (Nat.ne_of_lt (Nat.lt_of_lt_of_le hb' hT))]
    exact (hf b hb).1
  done := by
    (intro X hP hw hK hc i pins s σ H E I hf st hg)
    subst hP hw hK
    obtain ⟨⟨old, he⟩, hit, ne⟩ := st
    obtain ⟨xs, hq, hx⟩ := hg
    (obtain ⟨its, rv, ht, hz⟩ := I.tuple hq)
    have hh : X.A.in1.handled = none := I.ok.hd hc
    have hl : i = its.toArray.size := by
      have := rv.length
      simp
      omega
    obtain ⟨oa, ea, ca, na, da⟩ := id ht
    have ni : a ≠ it := by
      obtain ⟨oi, ei, ci, _⟩ := hit
      rintro rfl
      rw [ea] at ei; cases ei
      rw [ca] at ci
      exact absurd (Value.type.inj ci) (by decide)
    (obtain ⟨f0, f1, f2, f3, f4, f5⟩ := hf it (by simp))
    subst hl
    refine wpAny_pyNext_enum_endD (Draws.tuple (prog := X.prog) (w := X.w) (A := X.A.in1) hh it a ni its.toArray) he ⟨hit, ht⟩ fun h' eb => ⟨rfl, I.turned (t' := s.toks) (fun b o hb q => eb b o hb q) f0 f1 f3 f4 f5⟩
  self := fun A i z Q E st y => let ⟨⟨_, he⟩, _⟩ := st; wpAny_pyIter_enum he y
theorem jw_enumT {K : Kx} {ρ1 : List Addr} {H1 : Hp} {a : Addr} {ds : List D} (h : ∀ ρ2 H2, Ext ρ1 H1 ρ2 H2 → ∃ xs, SqT K.K H2 a xs ∧ RDs K ρ2 H2 ds xs) : JW K (Itu K.K a) ρ1 H1 cYes (enumD ds) := by
  intro i ρ2 H2 M2 ex m c
  obtain ⟨xs, s, r⟩ := h ρ2 H2 ex
  refine ⟨fun d hd => ?_, fun hi => ⟨xs, s, by rw [← r.length]; unfold enumD at hi; simp at hi; omega⟩⟩
  unfold enumD at hd
  rw [List.getElem?_zipWith] at hd
  cases q2 : ds[i]? with
  | none => rw [q2] at hd; cases q1 : (List.range ds.length)[i]? <;> rw [q1] at hd <;> cases hd
  | some e =>
    have hl := (List.getElem?_eq_some_iff.mp q2).1
    rw [q2, List.getElem?_range hl] at hd
    cases hd
    obtain ⟨v, hv, rv⟩ := r.get q2
    refine ⟨⟨xs, v, s, hv⟩, fun x H' y => ?_⟩
    obtain ⟨T, z, rfl, hT, rfl, y⟩ := y
    have := y xs s
    rw [hv] at this
    cases this
    exact ⟨.new hT, m.new hT, new_itm m hT (.cons (.int _) (.cons rv .nil))⟩
def iEnA (f : Ev) : EvI := fun env M => (f env M).bindI fun d M1 => match d with
  | .tup xs => .ok (enumD xs) cYes M1
  | .itm xs => .ok (enumD xs) cYes M1
  | d => match derefL M1 d with
    | some xs => .ok (enumD xs) (chkL d xs) M1
    | none => .st
def wiEn (K : PySem.W.Frag) (te : TA) : TI := fun σ H R => te σ H fun vs H1 => ∃ a, vs = [.ref a] ∧ ((∃ xs, SqL K H1 a xs ∧ R (Ite K a) H1) ∨ (∃ xs, SqT K H1 a xs ∧ R (Itu K a) H1))
section
variable {X : Cx} {W : WX} {pos p tpos : Pos} {a : Expr} {fa : Ev} {elts : List Expr} {kk : Nat} {ta : TA}
theorem pi_enumA (hg : Gl X "enumerate") (hm : X.mg "enumerate" = none) (ha : PA X [a] ta) (hs : starEach [a] X.env = [(false, eval a X.env)] := by rfl) :
    PI X (.Tuple elts kk tpos) (.Call (.Name "enumerate" p) [a] [] pos) (wiEn X.K ta) := by
  (refine ⟨fun pins s σ H R I h => ?_⟩)
  (refine Call_ (ld_blt I hg hm boot_enumerate (PyProof.Rows.callWith_type1 (thn (ha.run pos pins s σ H _ I h) fun us s1 ⟨vs, H1, I1, r1, q1⟩ => ?_) hs rfl)))
  obtain ⟨b, ex, q1⟩ := q1
  subst ex
  cases r1 with
  | cons r rr =>
    cases rr
    cases r
    have fresh : ∀ {c : Addr}, c ∈ [s1.heap.objs.size + 1, s1.heap.objs.size] → FpOk X pins H1 c := fun {c} hc => by
      have e' : c = s1.heap.objs.size + 1 ∨ c = s1.heap.objs.size := by simpa using hc
      have hle : s1.heap.objs.size ≤ (c : Nat) := by
        rcases e' with z | z
        · rw [z]; exact Nat.le_succ _
        · exact Nat.le_of_eq z.symm
      (exact I1.fpOk hle (I1.hok.fresh hle))
    rcases q1 with ⟨xs, hq, q⟩ | ⟨xs, hq, q⟩
    · (obtain ⟨its, rv, p', hz⟩ := I1.list hq)
      (refine call_enumerate_list p'.isList fun h' he hit hsz hk => wpAny_pyIter_enum he ?_)
      exact ⟨s1.heap.objs.size + 1, [s1.heap.objs.size + 1, s1.heap.objs.size], _, _, H1, rfl, I1.kept (t' := s1.toks) hk, turn_enum b _ _, ⟨⟨.none, he⟩, hit, Nat.succ_ne_self _⟩, fun c hc => fresh hc, q⟩
    · (obtain ⟨its, rv, p', hz⟩ := I1.tuple hq)
      refine call_enum (begins_tuple b its.toArray) p' fun h' he hit hk => wpAny_pyIter_enum he ?_
      exact ⟨s1.heap.objs.size + 1, [s1.heap.objs.size + 1, s1.heap.objs.size], _, _, H1, rfl, I1.kept (t' := s1.toks) hk, turn_enumT b _ _, ⟨⟨.none, he⟩, ⟨_, hit, rfl, rfl⟩, Nat.succ_ne_self _⟩, fun c hc => fresh hc, q⟩
theorem di_enumA (hg : Gl X "enumerate") (hm : X.mg "enumerate" = none) (ha : DE X W a fa) (hs : starEach [a] X.env = [(false, eval a X.env)] := by rfl) (hs2 : starEach [a] X.env = (false, eval a X.env) :: starEach [] X.env := by rfl) :
    DI X W (.Tuple elts kk tpos) (.Call (.Name "enumerate" p) [a] [] pos) (iEnA fa) := by
  obtain ⟨ta, pa, sa⟩ := ha
  refine ⟨_, pi_enumA hg hm (pa_cons pa pa_nil hs2) hs, fun φ ρ env M σ H R e m h => ?_⟩
  refine sa φ ρ env M σ H _ e m (PostI.bind h fun d M1 ρ1 H1 v a1 b1 c1 h1 => ?_)
  have lst : ∀ xs, derefL M1 d = some xs → PostI ⟨X.K, φ⟩ W ρ1 σ H1 (.ok (enumD xs) (chkL d xs) M1) R → ∃ a, [v] = [V.ref a] ∧ ((∃ xs, SqL X.K H1 a xs ∧ R (Ite X.K a) H1) ∨ (∃ xs, SqT X.K H1 a xs ∧ R (Itu X.K a) H1)) := fun xs hx h2 => by
    obtain ⟨q, rfl, ⟨ys, s⟩, ck, st⟩ := derefL_stay b1 c1 hx
    exact ⟨q, rfl, .inl ⟨ys, s, h2 _ _ _ .refl b1 ck fun K' hh => jw_enum (K := ⟨X.K, K'⟩) (st K' hh)⟩⟩
  cases c1 with
  | tup hh rr => exact ⟨_, rfl, .inr ⟨_, hh.sq, h1 _ _ _ .refl b1 rfl fun K' hd => jw_enumT (K := ⟨X.K, K'⟩) fun ρ2 H2 ex => ⟨_, ((hh.hide hd).ext ex).sq, (rr.hide hd).ext ex⟩⟩⟩
  | itm hh nn rr => exact ⟨_, rfl, .inr ⟨_, .inl (.inl hh), h1 _ _ _ .refl b1 rfl fun K' hd => jw_enumT (K := ⟨X.K, K'⟩) fun ρ2 H2 ex => ⟨_, .inl (.inl (ex.keep _ _ hh nn.1)), (rr.hide hd).ext ex⟩⟩⟩
  | lst hh nn rr => exact lst _ rfl h1
  | fzl hh rr => exact lst _ rfl h1
  | @ref l q hq =>
    have h1 : PostI ⟨X.K, φ⟩ W ρ1 σ H1 (match derefL M1 (.ref l) with | some xs => .ok (enumD xs) (chkL (.ref l) xs) M1 | none => .st) R := h1
    split at h1
    · rename_i xs hx
      exact lst xs hx h1
    · exact h1.elim
  | _ => exact h1.elim
end
end DL

namespace DL
open PySem L2 PyProof.Rows PySem.Spec

theorem str_contains {l : List Str} {x : Str} (h : l.contains x = true) : x ∈ l := by
  rw [List.contains_iff_mem] at h
  exact h
theorem de_glob {X : Cx} {W : WX} {c : Str} {pos : Pos} (hg : Gl X c) (hm : X.mg c = some (.ref (gadr X.K c))) (hd : (c == ("__debug__" : Str)) = false := by decide) : DE X W (.Name c pos) (eC (.glo c)) := de_glo hg hm hd

structure EqlD (P : Program) (w : World) (K : PySem.W.Frag) (mg : Str → Option Value) (base : Heap) (k : Nat) (c : Str) (F : Fn) : Prop where
  met : MetD P w K mg base k c "__eq__" 2 F
  nf : ∀ t ∈ builtinTs, PySem.W.notFirst K (gadr K c) (.type t) = true
end DL

namespace DL
open PySem L2 PyProof.Rows PySem.Spec
section
variable {P : Program} {w : World} {A : Around} {s : Shared} {E : Value → Shared → Prop}
end
section
variable {X : Cx} {W : WX} {o a : Expr} {fo fa : Ev} {pos apos : Pos}
end
def insU (x : Int) : List Int → List Int
  | [] => [x]
  | y :: r => if x < y then x :: y :: r else if x = y then y :: r else y :: insU x r
def srtU : List Int → List Int
  | [] => []
  | x :: r => insU x (srtU r)
section
variable {X : Cx} {W : WX}
end
end DL

namespace DL
open PySem L2 PyProof.Rows PySem.Spec
section
variable {X : Cx} {W : WX} {o a : Expr} {fo fa : Ev} {pos apos : Pos}
end
end DL

namespace DL
open PySem L2 PyProof.Rows PySem.Spec
section
variable {X : Cx} {W : WX}
end
end DL

namespace DL
open PySem L2 PyProof.Rows PySem.Spec
section
variable {X : Cx} {W : WX}
end
end DL

namespace DX
open PySem PySem.W PySem.Calls PyProof.Rows PySem.HandSPX

structure Bx.Ok (b : Bx) : Prop where
  FB : ExcBaseFacts b.B b.ne b.ini b.bm
  SF : StoreFacts b.B b.bm "object.__setattr__" "object"
  KF : KxsFacts b.B b.ini
theorem okVE : bVE.Ok := ⟨F.excBase_ValueError, F.store_ValueError, kxs_ValueError⟩
theorem okLE : bLE.Ok := ⟨F.excBase_LookupError, F.store_LookupError, kxs_LookupError⟩
theorem okIE : bIE.Ok := ⟨F.excBase_IndexError, F.store_IndexError, kxs_IndexError⟩
theorem okOE : bOE.Ok := ⟨F.excBase_OverflowError, F.store_OverflowError, kxs_OverflowError⟩

structure Txt (body : List Stmt) (ps : Arguments) (sc : Scope) (f : PySem.Str) : Prop where
  body : ∃ (p0 p1 p2 p3 p4 p5 q1 q2 q3 q4 : Pos) (m : PySem.Str) (j : Nat), (∀ env : Env, ∃ pl : Sem Bool, eval (.Call (.Attribute (.Call (.Name "super" p0) [] [] p1) "__init__" p2) [.Constant (.str m) j p3] [] p4) env = (attributeBase (.Call (.Name "super" p0) [] [] p1) "__init__" env (eval (.Call (.Name "super" p0) [] [] p1) env) >>= fun ov => standAt p2.atName >>= fun _ => holding [ov] (getMethod ov "__init__" pl) >>= fun fx => callWith p4 fx.1 fx.2 (backTo p4 (starEach [.Constant (.str m) j p3] env)) [])) ∧ body = [.Expr (.Call (.Attribute (.Call (.Name "super" p0) [] [] p1) "__init__" p2) [.Constant (.str m) j p3] [] p4) p5, .Assign [.Attribute (.Name "self" q1) f q2] (.Name f q3) q4]
  par : ∃ a : Arg, (ps.posonlyargs ++ ps.args).head? = some a ∧ a.arg = "self"
  kS : sc.names.lookup ("super" : PySem.Str) = some .globalImplicit
  kC : sc.names.lookup ("__class__" : PySem.Str) = some .free
  kI : sc.names.lookup ("self" : PySem.Str) = some .local
  kF : sc.names.lookup f = some .local
  noc : ∀ x ∈ sc.names, x.2 ≠ .cell
  co : sc.isCoroutine = false
  gen : sc.isGenerator = false
  kind : sc.kind = .function
  fd : (f == ("__debug__" : PySem.Str)) = false
  fs : (f == ("self" : PySem.Str)) = false
structure Pf (P : Program) (file : PySem.Str) : Prop where
  file : ((P.main.file : PySem.Str) == file) = true
  top : (P.main.scope.names.lookup ("super" : PySem.Str)).isSome = false
structure Fy (ag : PySem.Str → Value → Value → Args) (K : Frag) (file f : PySem.Str) (b : Bx) (cA fA : Addr) : Prop where
  iC : findIn K (.ref cA) "__init__" = some (some (.ref fA))
  tI : typeIn K (.ref fA) = some (.type "function")
  kC : keepIn K (.ref cA) = true
  exI : excInitIn K cA b.bm b.ne = true
  exO : excOver K cA b.bm = true
  sa : findIn K (.ref cA) "__setattr__" = some (some (.builtin "object.__setattr__"))
  tk : takerIn K cA f = some none
  hd : hasDictIn K cA = true
  exC : subIn K (.ref cA) (.type "BaseException") = some true
  tyC : typeIn K (.ref cA) = some (.type "type")
  suB : subIn K (.ref cA) (.type b.B) = some true
  sup : ks_superIn K cA cA "__init__" = some (some (.builtin b.ini))
  mro : mroIn K cA (.ref cA) = some true
  opq : nsIn K cStatics "thirdparty.any" = some none
  fn : ∃ (name qual : PySem.Str) (ps : Arguments) (body : List Stmt) (sc : Scope) (oc dV kV doc pm ct : Value) (od an : Option Addr) (cda cc : Addr) (osl : Array (Option Value)),
    K.lookup fA = some ⟨oc, od, .func (ksFn name qual ps body sc dV kV doc pm an (.ref cda) ct cc), osl⟩ ∧ codeIn K (.ref cda) qual = true ∧ Txt body ps sc f ∧
    (∀ (s : Shared) (x v : Value), BindsTo s (ksFn name qual ps body sc dV kV doc pm an (.ref cda) ct cc) (ag f x v) [("self", x), (f, v)]) ∧
    (∃ (ccl : Value) (cdd : Option Addr) (ccs : Array (Option Value)) (vs : Array Value) (tf : Tok), K.lookup cda = some ⟨ccl, cdd, .fields vs, ccs⟩ ∧ vs[2]? = some (.str file tf)) ∧
    ∃ (cl : Value) (cld : Option Addr) (csl : Array (Option Value)), K.lookup cc = some ⟨cl, cld, .cell (some (.ref cA)), csl⟩

abbrev Fx := Fy fun _ x v => ⟨[x, v], []⟩

structure Left (f : PySem.Str) (h h' : Heap) (x cA dx t1 : Addr) (v : Value) : Prop where
  keep : ∀ a o, a ≠ x → h.get? a = some o → h'.get? a = some o
  obj : h'.get? x = some (excO cA t1 |> fun o => { o with dict := some dx })
  dbig : h.objs.size ≤ dx
  dne : dx ≠ x
  ns : h'.Ns1 dx (fun y => if y = f then some v else none)
theorem ns_keeps {h h' : Heap} {L : Addr} {m : PySem.Str → Option Value} (hn : h.Ns L m) (k : ∀ o, h.get? L = some o → h'.get? L = some o) : h'.Ns L m := by
  obtain ⟨o, es, ep, ho, r⟩ := hn
  exact ⟨o, es, ep, k o ho, r⟩
section
open Builtin
open Builtin.ObjectAttr
theorem store_first {prog : Program} {w : World} {A : Around} {E : Value → Shared → Prop} {hh : Heap} {g : Array GenState} {d : Drawn} {t : Nat} {os : OsState} {K : Frag} {name : PySem.Str} {tk : Tok} {v : Value} {x cA : Addr} {fv : Array Value} {cd : ClassData} {bb : Bool} {Q : Fin → Shared → Prop}
    (X : K.In hh) (hx : hh.get? x = some { cls := .ref cA, data := .fields fv }) (hcd : clsIn K cA = some cd) (hdc : cd.hasDict = true)
    (hq : ∀ h' tk' dx, (∀ b o, b ≠ x → hh.get? b = some o → h'.get? b = some o) → hh.objs.size ≤ dx → dx ≠ x → h'.get? x = some { cls := .ref cA, dict := some dx, data := .fields fv } →
      h'.Ns1 dx (fun y => if y = name then some v else none) → Q (.done (.ret .none)) ⟨h', g, d, tk', os⟩) :
    wpAny (model prog w) A (storeInOwnDict (.ref x) (.ref cA) (.str name tk) name v bb) Q E ⟨hh, g, d, t, os⟩ := by
  have hxs : x ≠ hh.objs.size := Nat.ne_of_lt (Heap.lt_size hx)
  have hcls : Looks (model prog w) hh (classData cA) cd := looks_clsIn X hcd
  (obtain ⟨nm, bs, mro, ns, qn, hd, sn, sb, ab, col, del⟩ := cd)
  cases hdc
  unfold storeInOwnDict
  unfold ownDictForStores
  repeat (first | (with_reducible refine store_in_new ?_ ?_) | (with_reducible refine wpAny_loadPart_at hx ?_) | (with_reducible refine hcls.at ?_) | wp_step)
  · have q1 : ((hh.push { cls := .type "dict", data := .dict #[] }).get? hh.objs.size) = some _ := Heap.get?_push_at rfl rfl
    exact ⟨_, #[], _, (Heap.get?_update_ne _ _ _ _ hxs.symm).trans q1, rfl, fun e he => absurd he (by simp), fun _ => rfl⟩
  · intro h' tk' hn' hs
    have q2 : (hh.push { cls := .type "dict", data := .dict #[] }).get? x = some { cls := .ref cA, data := .fields fv } := (Heap.get?_push_of_some _ hx)
    refine hq h' tk' _ (fun b o hb ho => ?_) (Nat.le_refl _) hxs.symm ?_ hn'
    · refine (hs.2 b (Nat.ne_of_lt (Heap.lt_size ho))).trans ?_
      exact (Heap.get?_update_ne _ _ _ _ hb).trans (Heap.get?_push_of_some _ ho)
    · refine (hs.2 x hxs).trans ?_
      exact Heap.get?_update_self _ q2 rfl
end
section
variable {prog : Program} {w : World} {A : Around} {E : Value → Shared → Prop} {R : Result → Shared → Prop} {s : Shared} {K : Frag} {mg : PySem.Str → Option Value} {cA fA : Addr} {b : Bx} {file f : PySem.Str} {base : Heap}
theorem init_runs {ag : PySem.Str → Value → Value → Args} (T : Fy ag K file f b cA fA) (bo : b.Ok) (pf : Pf prog file) (hsu : mg "super" = none) (Mo : L2.Mod K mg base) (bk : ∀ a o, base.get? a = some o → s.heap.get? a = some o) {x t0 : Addr} {v : Value}
    (hlim : s.heap.NoLimit) (hx : s.heap.get? x = some (excO cA t0)) (hnk : K.lookup x = none) (hroom : A.depth < recursionLimit)
    (hq : ∀ h' tk dx t1, Left f s.heap h' x cA dx t1 v → R (.ok (.ret .none)) { s with heap := h', toks := tk }) :
    codeAny (model prog w) A (.call (.ref fA) (ag f (.ref x) v)) R s := by
  have X : K.In s.heap := fun a o e => bk a o (Mo.kin a o e)
  obtain ⟨name, qual, ps, body, sc, oc, dV, kV, doc, pm, ct, od, an, cda, cc, osl, hf, hcd, tx, hb, ⟨ccl, cdd, ccs, vs, tf, hcode, hvs⟩, cl, cld, csl, hcell⟩ := T.fn
  obtain ⟨p0, p1, p2, p3, p4, p5, q1, q2, q3, q4, m, j, hev, rfl⟩ := tx.body
  obtain ⟨ar, har, hself⟩ := tx.par
  refine ks_codeAny_call_defAt (fd := ksFn name qual ps _ sc dV kV doc pm an (.ref cda) ct cc) (binds := [("self", .ref x), (f, v)]) hroom (X _ _ hf) rfl hlim (codeRec_of X hcd) rfl (hb _ _ _) tx.noc ?_ (fun h₁ hns hk₁ => ?_) tx.co tx.gen tx.kind
  · intro y hy
    (rcases List.mem_cons.mp hy with rfl | hy)
    · exact tx.kI
    · (rcases List.mem_cons.mp hy with rfl | hy)
      · exact tx.kF
      · cases hy
  have X1 : K.In h₁ := X.keeps hk₁
  obtain ⟨mb, hbl, hbb⟩ := Mo.blt
  have G1 : h₁.Ns mainGlobals mg := Mo.glob.keeps fun a o e => hk₁ a o (bk a o e)
  have B1 : h₁.Ns builtinsNs mb := hbl.keeps fun a o e => hk₁ a o (bk a o e)
  have hx1 := hk₁ _ _ hx
  obtain ⟨nmC, N', qnC, bs, bm, hdct, sn, sub, ab, col, dd, k0, k1, k2, k3, k5, hC, hT⟩ := excInit_of X1 T.exI
  obtain ⟨cd, hcl, hhd⟩ := any_some T.hd
  obtain ⟨pl, he⟩ := hev (ksEnv qual sc s.heap.objs.size fA (.ref cda) cc)
  have hint : interactive (ksEnv qual sc s.heap.objs.size fA (.ref cda) cc) = false := by unfold interactive; simp [ksEnv, envX, tx.kind]
  refine ks_wpAt_execs_cons (ks_wpAt_Expr_any (ks_wpAt_MethodCall (pl := pl) ?_ he) hint)
  refine ks_wpAt_super_base (env := ksEnv qual sc s.heap.objs.size fA (.ref cda) cc) tx.kS tx.kC rfl rfl (X1 _ _ hf) rfl har rfl (X1 _ _ hcode) rfl hvs pf.file pf.top ?_
  refine ks_loadName_global tx.kind tx.kS (loadGlobal_builtin (env := ksEnv qual sc s.heap.objs.size fA (.ref cda) cc) G1 hsu B1 ((hbb "super" (by decide)).trans (by decide +kernel)) ⟨rfl, ?_⟩)
  refine wpAny_loadName_free tx.kind tx.kC rfl ⟨_, X1 _ _ hcell, rfl⟩ ?_
  rw [hself]
  refine wpAny_loadName_local (v := .ref x) tx.kind tx.kI hns ?_ ?_
  · have e : (("self" : PySem.Str) == f) = false := by
      have z := tx.fs
      simp only [beq_eq_false_iff_ne] at z ⊢
      exact fun q => z q.symm
    show List.lookup ("self" : PySem.Str) [(f, v), ("self", Value.ref x)] = _
    simp [List.lookup, e]
  have oC : ∃ oD, h₁.get? cA = some oD ∧ ∃ cdD, oD.data = .cls cdD := ⟨_, hC, _, rfl⟩
  obtain ⟨oD, hD1, cdD, hD2⟩ := oC
  (refine ks_wpAny_isType_cls hD1 hD2 ⟨rfl, ?_⟩)
  refine ks_wpAny_call_super hD1 hD2 hx1 rfl (fun c e => by cases e) (looks_mroIn X1 T.mro) (fun h₂ eso k₂ => ?_)
  have X2 : K.In h₂ := X1.keeps k₂
  have I2 : InstAt h₂ x (excO cA t0) cA none := ⟨k₂ _ _ hx1, rfl, rfl, trivial⟩
  have hsup := T.sup
  unfold ks_superIn at hsup
  rw [hcl, Option.bind_some] at hsup
  refine kxs_getMethod bo.KF eso (looks_opaque X2 T.opq) (l₀ := cd.mro) (fun A Q E s k q => wpAny_bind ((looks_clsIn X2 hcl) A _ E s k (wpAny_pure q))) rfl X2 hsup (I2.type.andThen (looks_subIn X2 T.suB)) (ks_ne X2 I2 hcl) rfl ?_
  have k₃ : ∀ a o, h₂.get? a = some o → (h₂.push (kxs_mw b.ini x)).get? a = some o := fun a o e => Heap.get?_push_of_some _ e
  have hu3 : (h₂.push (kxs_mw b.ini x)).get? h₂.objs.size = some (kxs_mw b.ini x) := Heap.get?_push_at rfl rfl
  refine kxs_callWith (i := b.ini) (x := x) rfl ?_
  refine evalArgs_plain (spliced_cons (wpAny_Constant_str (k := j) (pos := p3) (spliced_nil ⟨hu3, ?_⟩)))
  have hx3 : (h₂.push (kxs_mw b.ini x)).get? x = some (excObj cA t0 none .none) := k₃ _ _ (k₂ _ _ hx1)
  have hC3 := k₃ _ _ (k₂ _ _ hC)
  (refine wpAny_call (codeAny_of_tree ?_))
  show wpAny _ _ (callAny (.ref h₂.objs.size) ⟨_, []⟩) _ _ _
  unfold callAny
  refine wpAny_bind (wpAny_load hu3 ?_)
  have w1 : (Value.type "method-wrapper" == Value.type "method" || Value.type "method-wrapper" == Value.type "builtin_function_or_method" || Value.type "method-wrapper" == Value.type "method-wrapper") = true := by decide
  simp only [kxs_mw, w1, if_true]
  (refine KFB.if_so (by decide) ?_)
  refine wpAny_bind (check_bound_init bo.FB.toExcCallFacts hC3 hx3 rfl ?_)
  (refine wpAny_bind (wpAny_pure (wpAny_pure ?_)))
  refine ⟨plainId_quiet bo.FB.init.plain _, codeAny_builtin bo.FB.initEntry ?_⟩
  refine exc_init_tree hx3 (by show 1 ≤ sizeLine; rw [sizeLine_eq]; omega) fun h₄ k₄ e₄ t₄ => ?_
  have nx : ∀ a o, h₁.get? a = some o → a ≠ x → h₄.get? a = some o := fun a o e n => k₄ a o n (k₃ _ _ (k₂ _ _ e))
  have X4 : K.In h₄ := fun a o e => nx a o (X1 a o e) (fun q => by rw [q, hnk] at e; cases e)
  have nL : s.heap.objs.size ≠ x := Nat.ne_of_gt (Heap.lt_size hx)
  have ns4 : h₄.Ns s.heap.objs.size _ := ns_keeps hns fun o e => nx _ o e nL
  have I4 : InstAt h₄ x (excObj cA h₂.objs.size.succ none .none) cA none := ⟨by simpa using e₄, rfl, rfl, trivial⟩
  show _root_.PySem.wpAt _ _ _ (execs _ _) _ _ _
  refine ks_wpAt_execs_cons (wpAt_of_wpAny (plainObj_wpAny_Assign_Attribute ?_))
  refine wpAny_Name (wpAny_loadName_local (v := v) tx.kind tx.kF ns4 ?_ ?_) tx.fd
  · show List.lookup f [(f, v), ("self", Value.ref x)] = _
    simp [List.lookup]
  refine wpAny_Name (wpAny_loadName_local (v := .ref x) tx.kind tx.kI ns4 ?_ ?_) rfl
  · have e : (("self" : PySem.Str) == f) = false := by
      have z := tx.fs
      simp only [beq_eq_false_iff_ne] at z ⊢
      exact fun q => z q.symm
    show List.lookup ("self" : PySem.Str) [(f, v), ("self", Value.ref x)] = _
    simp [List.lookup, e]
  refine set_plain X4 I4 T.sa (osa_openX bo.SF X4 I4 T.exO T.tk fun bb => ?_)
  refine store_first X4 (fv := #[.ref h₂.objs.size.succ, .none, .none, .none, .bool false, .none]) (by simpa using e₄) hcl hhd fun h₅ tk₅ dx k₅ d1 d2 x5 n5 => ?_
  show _root_.PySem.wpAt _ _ _ (execs _ _) _ _ _
  refine wpAt_of_wpAny (wpAny_execs_nil ?_)
  exact hq h₅ tk₅ dx _ ⟨fun a o n e => k₅ a o n (nx a o (hk₁ a o e) n), x5, Nat.le_of_lt (Nat.lt_of_lt_of_le ns4.lt d1), d2, n5⟩
structure Got (f : PySem.Str) (h h' : Heap) (e cA d : Addr) (v : Value) : Prop where
  keep : ∀ a o, h.get? a = some o → h'.get? a = some o
  new : h.objs.size ≤ e
  obj : ∃ ob vs, h'.get? e = some ob ∧ ob.cls = .ref cA ∧ ob.dict = some d ∧ ob.data = .fields vs ∧ vs[1]? = some .none
  dbig : h.objs.size ≤ d
  dne : d ≠ e
  ns : h'.Ns1 d (fun y => if y = f then some v else none)
theorem made (T : Fx K file f b cA fA) (bo : b.Ok) (pf : Pf prog file) (hsu : mg "super" = none) (Mo : L2.Mod K mg base) (bk : ∀ a o, base.get? a = some o → s.heap.get? a = some o) {v : Value}
    (hlim : s.heap.NoLimit) (hroom : A.depth + 1 < recursionLimit) (hq : ∀ h' tk e d, Got f s.heap h' e cA d v → R (.ok (.ret (.ref e))) { s with heap := h', toks := tk }) :
    codeAny (model prog w) A (.call (.ref cA) ⟨[v], []⟩) R s := by
  have X : K.In s.heap := fun a o e => bk a o (Mo.kin a o e)
  obtain ⟨nmC, N', qnC, bs, bm, hdct, sn, sub, ab, col, dd, k0, k1, k2, k3, k5, hC, hT⟩ := excInit_of X T.exI
  obtain ⟨hh, g, dr, tk, os⟩ := s
  have k : ∀ a o, hh.get? a = some o → ((hh.push (kdv_tup [v])).push (excO cA hh.objs.size)).get? a = some o := fun a o e => Heap.get?_push_of_some _ (Heap.get?_push_of_some _ e)
  have ge : ((hh.push (kdv_tup [v])).push (excO cA hh.objs.size)).get? (hh.objs.size + 1) = some (excO cA hh.objs.size) := by heap_get
  have hnk : K.lookup (hh.objs.size + 1) = none := by
    cases e : K.lookup (hh.objs.size + 1) with
    | none => rfl
    | some o =>
      have z : hh.get? (hh.objs.size + 1) = some o := X _ _ e
      (exact absurd (Nat.lt_of_succ_lt (Heap.lt_size z)) (Nat.lt_irrefl _))
  refine call_own bo.FB hT hC (looks_findIn X T.iC) (fun self => bind_fn X self T.tI) (by show 1 ≤ sizeLine; rw [sizeLine_eq]; omega) ?_
  refine init_runs (s := ⟨(hh.push (kdv_tup [v])).push (excO cA hh.objs.size), g, dr, tk, os⟩) T bo pf hsu Mo (fun a o e => k a o (bk a o e)) (hlim.keeps k) ge hnk hroom ?_
  intro h' tk' dx t1 l
  have old : ∀ a o, hh.get? a = some o → h'.get? a = some o := fun a o e => l.keep a o (Nat.ne_of_lt (Nat.lt_succ_of_lt (Heap.lt_size e))) (k a o e)
  have z : hh.objs.size + 1 + 1 ≤ dx := by
    have q := l.dbig
    rw [Heap.size_push, Heap.size_push] at q
    exact q
  exact ⟨rfl, hq h' tk' (hh.objs.size + 1) dx ⟨old, Nat.le_succ _, ⟨_, _, l.obj, rfl, rfl, rfl, rfl⟩, (show hh.objs.size ≤ dx by omega), l.dne, l.ns⟩⟩
end
end DX
namespace DL
open PySem L2 PyProof.Rows PySem.Spec
theorem relO_one {v : V} {u : Value} {f : Str} (r : RelV v u) (g : Str) : RelO (List.lookup g [(f, v)]) (if g = f then some u else none) := by
  by_cases h : g = f
  · subst h
    rw [if_pos rfl]
    have q : List.lookup g [(g, v)] = some v := by simp [List.lookup]
    rw [q]; exact r
  · rw [if_neg h]
    have q : (g == f) = false := by simpa using h
    have q2 : List.lookup g [(f, v)] = none := by simp [List.lookup, q]
    rw [q2]; trivial
section
variable {X : Cx} {W : WX} {file f x : Str} {b : DX.Bx} {fI : Addr}
end
end DL

namespace DL
open PySem L2 PyProof.Rows PySem.Spec
abbrev Sui := Addr → Value → Option Addr → TS
inductive ClOk (X : Cx) : List ExceptHandler → List (Value × Option Nat × Sui) → Prop
  | nil : ClOk X [] []
  | one {x : Str} {c : Value} {ts : Sui} {b₀ : Stmt} {suite : List Stmt} {np p : Pos} {hds : List ExceptHandler} {l : List (Value × Option Nat × Sui)} (hc : Names X x c)
      (hsu : ∀ (a : Addr) (oe : Obj) (cls : Value) (d : Option Addr) (pz : List (Addr × Obj)), Zc cls d oe → (∃ vs, oe.data = .fields vs) → PSs (X.suite a ((a, oe) :: pz)) (b₀ :: suite) (ts a cls d)) (r : ClOk X hds l) :
      ClOk X (.ExceptHandler (some (.Name x np)) none (b₀ :: suite) p :: hds) ((c, none, ts) :: l)
  | as {x n : Str} {i : Nat} {c : Value} {ts : Sui} {b₀ : Stmt} {suite : List Stmt} {np p : Pos} {hds : List ExceptHandler} {l : List (Value × Option Nat × Sui)} (hc : Names X x c) (hi : X.N[i]? = some n) (hl : X.env.kindOf n = some .local)
      (hsu : ∀ (a : Addr) (oe : Obj) (cls : Value) (d : Option Addr) (pz : List (Addr × Obj)), Zc cls d oe → (∃ vs, oe.data = .fields vs) → PSs (X.suite a ((a, oe) :: pz)) (b₀ :: suite) (ts a cls d)) (r : ClOk X hds l) :
      ClOk X (.ExceptHandler (some (.Name x np)) (some n) (b₀ :: suite) p :: hds) ((c, some i, ts) :: l)
section
variable {X : Cx} {body : List Stmt} {h₀ : ExceptHandler} {hds : List ExceptHandler} {l : List (Value × Option Nat × Sui)} {pos : Pos} {tb : WX → TS} {Wo : WX}
end
end DL

namespace DL
open PySem L2 PyProof.Rows PySem.Spec
structure Cgt (K : Kx) (C : Str) (o : Option Nat) (a : Addr) (cls : Value) (d : Option Addr) (x : Exn) (ρ : List Addr) (σ : L2.St) (H : Hp) : Prop where
  c : x.cls = C
  cls : cls = .ref (gadr K.K C)
  d : ExR K ρ H x d
  s : ∀ i, o = some i → i < σ.length → σ[i]? = some (some (.ref a))
theorem ExR.ext {K : Kx} {ρ ρ' : List Addr} {H H' : Hp} {x : Exn} {dx : Option Addr} (e : Ext ρ H ρ' H') (h : ExR K ρ H x dx) : ExR K ρ' H' x dx := by
  cases dx with
  | none => exact h
  | some dx =>
    obtain ⟨n, gs, hd, r⟩ := h
    exact ⟨⟨e.nin hd n.1, n.2⟩, gs, e.keep _ _ hd n.1, r.ext e⟩
theorem Cgt.at_ {K : Kx} {C f : Str} {o : Option Nat} {a : Addr} {cls : Value} {d : Option Addr} {x : Exn} {ρ : List Addr} {σ : L2.St} {H : Hp} {v : D} (h : Cgt K C o a cls d x ρ σ H) (e : x.fs.lookup f = some v) : ∃ dx, d = some dx ∧ ExR K ρ H x (some dx) := by
  have q := h.d
  cases d with
  | none =>
    have q : x.fs = [] := q
    rw [q] at e; cases e
  | some dx => exact ⟨dx, rfl, q⟩
theorem Cgt.ext {K : Kx} {C : Str} {o : Option Nat} {a : Addr} {cls : Value} {d : Option Addr} {x : Exn} {ρ ρ' : List Addr} {σ : L2.St} {H H' : Hp} (e : Ext ρ H ρ' H') (h : Cgt K C o a cls d x ρ σ H) : Cgt K C o a cls d x ρ' σ H' := by
  exact ⟨h.c, h.cls, h.d.ext e, h.s⟩
structure Cla where
  cls : Str
  slot : Option Nat
  f : Exn → Sx
section
variable {X : Cx} {W : WX} {x n : Str} {o : Option Nat} {np p pos : Pos} {b₀ : Stmt} {suite body : List Stmt} {hds : List ExceptHandler} {cs : List Cla} {f : Exn → Sx} {fb : Sx} {h₀ : ExceptHandler} {c : Cla}
end

theorem RFs.lookup {K : Kx} {ρ : List Addr} {H : Hp} {f : Str} {d : D} : ∀ {fs : List (Str × D)} {gs : List (Str × V)}, RFs K ρ H fs gs → fs.lookup f = some d → ∃ v, gs.lookup f = some v ∧ RD K ρ H d v
  | _, _, .nil, e => by cases e
  | _, _, @RFs.cons _ _ _ g d' fs v vs h t, e => by
    by_cases q : (f == g) = true
    · rw [List.lookup_cons, q] at e
      cases e
      exact ⟨v, by rw [List.lookup_cons, q], h⟩
    · have q : (f == g) = false := by simpa using q
      rw [List.lookup_cons, q] at e
      rw [List.lookup_cons, q]
      exact RFs.lookup t e
section
variable {X : Cx} {C : Str} {o : Option Nat} {pos : Pos}
end
theorem tXf_ok {x f : Str} {K : PySem.W.Frag} (c : tXf x f K = true) : XfC K (gadr K x) ∧ PySem.W.findIn K (.ref (gadr K x)) f = some none := by
  obtain ⟨a, b⟩ := Bool.and_eq_true_iff.mp c
  exact ⟨xfB_ok a, of_decide_eq_true b⟩
end DL

namespace DL
open PySem L2 PyProof.Rows PySem.Spec
theorem and4 {a b : Bool} (h : (a && b) = true) : a = true ∧ b = true := Bool.and_eq_true_iff.mp h
theorem tExc_ok {ag : PySem.Str → Value → Value → Args} {K : PySem.W.Frag} {x f : Str} {b : DX.Bx} (c : tExc x f b K = true) {d : FdX} {file : Str} (hn : d.cl = some (x, file)) (hd : d.dfl = []) (q : fnX K d = d.dv.val ∧ d.ok K = true) (ha : d.adr K = cadr K x "__init__")
    (tx : DX.Txt (defBody d.st) (defArgs d.st) (defScope d.st) f)
    (hb : ∀ (kV doc pm ct : Value) (an : Option Addr) (cda : Value) (cc : Addr) (s : Shared) (u v : Value), BindsTo s (PySem.W.ksFn d.name d.qual (defArgs d.st) (defBody d.st) (defScope d.st) .none kV doc pm an cda ct cc) (ag f u v) [("self", u), (f, v)]) :
    DX.Fy ag K file f b (gadr K x) (cadr K x "__init__") := by
  obtain ⟨c1, c⟩ := and4 c
  obtain ⟨c2, c⟩ := and4 c
  obtain ⟨c3, c⟩ := and4 c
  obtain ⟨c4, c⟩ := and4 c
  obtain ⟨c5, c⟩ := and4 c
  obtain ⟨c6, c⟩ := and4 c
  obtain ⟨c7, c⟩ := and4 c
  obtain ⟨c8, c⟩ := and4 c
  obtain ⟨c9, c⟩ := and4 c
  obtain ⟨c10, c⟩ := and4 c
  obtain ⟨c11, c⟩ := and4 c
  obtain ⟨c12, c⟩ := and4 c
  obtain ⟨c13, c14⟩ := and4 c
  obtain ⟨oc, kV, doc, pm, ct, od, an, cda, cc, osl, h1, h2, h3, h4⟩ := FdX.excD hn hd q.1 q.2
  rw [ha] at h1
  exact ⟨of_decide_eq_true c1, of_decide_eq_true c2, c3, c4, c5, of_decide_eq_true c6, of_decide_eq_true c7, c8, of_decide_eq_true c9, of_decide_eq_true c10, of_decide_eq_true c11, of_decide_eq_true c12, of_decide_eq_true c13, of_decide_eq_true c14,
    ⟨_, _, _, _, _, oc, .none, kV, doc, pm, ct, od, an, cda, cc, osl, h1, h2, tx, fun s u v => hb _ _ _ _ _ _ _ _ _ _, h3, h4⟩⟩
end DL

namespace DL
open PySem L2 PyProof.Rows PySem.Spec
end DL

namespace DL
open PySem L2 PyProof.Rows PySem.Spec
end DL

namespace DL
open PySem L2 PyProof.Rows PySem.Spec
theorem roomG {k : Nat} (h : L2.Room k callerA) : Room k callerA := ⟨h, rfl⟩
def scr (vs : List Value) : Obj := { cls := .type "list", data := .seq vs.toArray }
theorem law_start {P : Program} {w : World} {K : PySem.W.Frag} {a : Addr} {h : Heap} {vs : List Value} {ns : List Int} (KX : K.In h) (ha : h.get? a = some (scr vs)) (hi : IntsAre vs ns) (hl : ns.length ≤ sizeLine) :
    ∃ H : Hp, SqL K H a (ns.map V.int) ∧ HOk P w H h ∧ ∀ b u, H b = some u → b = a ∧ K.lookup a = none ∧ u = .frz (scr vs) (.lst (ns.map V.int)) := by
  have rv := vals_ints hi
  by_cases hk : K.lookup a = none
  · let H : Hp := fun b => if b = a then some (.frz (scr vs) (.lst (ns.map V.int))) else none
    have at_ : ∀ b u, H b = some u → b = a ∧ u = .frz (scr vs) (.lst (ns.map V.int)) := fun b u z => by
      by_cases q : b = a
      · exact ⟨q, (Option.some.inj ((if_pos q).symm.trans z)).symm⟩
      · exact nomatch (if_neg q).symm.trans z
    refine ⟨H, .inl (.inr ⟨scr vs, if_pos rfl⟩), fun b u z => ?_, fun b u z => ⟨(at_ b u z).1, hk, (at_ b u z).2⟩⟩
    obtain ⟨rfl, rfl⟩ := at_ b u z
    exact ⟨ha, by simpa using hl, vs, _, rv, ha⟩
  · obtain ⟨o, ho⟩ := Option.ne_none_iff_exists'.mp hk
    have same := (KX a o ho).symm.trans ha
    obtain rfl := Option.some.inj same
    have nh : ∀ b u, (fun _ => none : Hp) b = some u → False := fun b u z => nomatch (show (none : Option HO) = some u from z)
    exact ⟨fun _ => none, .inr ⟨_, vs.toArray, _, ho, rfl, rfl, rfl, by simpa [hi.length] using hl, by simpa using rv⟩, fun b u z => (nh b u z).elim, fun b u z => (nh b u z).elim⟩
theorem law_callG {P : Program} {w : World} {K : PySem.W.Frag} {mg mb : Str → Option Value} {CX : CXT} {k : Nat} {fa a : Addr} {fd : FuncData} {x : Str} {sp : Sp} {z : Shared} {vs : List Value} {ns : List Int}
    (KX : K.In z.heap) (gl : z.heap.Ns mainGlobals mg) (bu : z.heap.Ns builtinsNs mb) (bb : ∀ x : Str, x ≠ "__name__" → mb x = bootBuiltins x) (li : z.heap.NoLimit) (ge : z.gens = #[])
    (ha : z.heap.get? a = some (scr vs)) (hi : IntsAre vs ns) (hl : ns.length ≤ sizeLine) (hr : Room k callerA)
    (F : ∀ base : Heap, K.In base → base.Ns mainGlobals mg → FnOk P w K mg base CX k fa fd [x] sp) (bi : ∀ (s : Shared) (u : Value), BindsTo s fd ⟨[u], []⟩ [(x, u)])
    (hsp : ∀ H : Hp, SqL K H a (ns.map V.int) → sp [.ref a] H (fun v _ => v = .bl true) fun _ _ _ => False)
    (hCX : ∀ H e s', CX [] H z (fun _ _ _ => False) e s' → False) :
    codeAny (model P w) callerA (.call (.ref fa) ⟨[.ref a], []⟩) (fun r s' => r = .ok (.ret (.bool true)) ∧ OldK z.heap s'.heap ∧ s'.os = z.os ∧ AllBare s'.gens) z := by
  obtain ⟨H, hS, hok, hA⟩ := law_start (P := P) (w := w) KX ha hi hl
  -- what is not the script stays in sight
  have see : ∀ {b : Addr} {o : Obj}, z.heap.get? b = some o → (b = a → K.lookup a = none → False) → (hidT z.heap H).get? b = some o := fun {b o} e n => hidT_get e (by
    cases q : H b with
    | none => rfl
    | some u => exact (n (hA b u q).1 (hA b u q).2.1).elim)
  have seeNs : ∀ {b : Addr} {m : Str → Option Value}, z.heap.Ns b m → (hidT z.heap H).Ns b m := fun {b m} t => by
    obtain ⟨o, es, ep, e, d, r⟩ := t
    exact ⟨o, es, ep, see e (fun q _ => by
      subst q
      obtain rfl := Option.some.inj (e.symm.trans ha)
      exact nomatch (show Data.seq vs.toArray _ = Data.dict es ep from d)), d, r⟩
  have seeK : K.In (hidT z.heap H) := fun b o e => see (KX b o e) fun q n => by subst q; exact nomatch e.symm.trans n
  have glob := seeNs gl
  have mo : Mod K mg (hidT z.heap H) := ⟨seeK, glob, ⟨mb, seeNs bu, bb⟩, by obtain ⟨mc, h1, h2⟩ := li; exact ⟨mc, seeNs h1, h2⟩⟩
  have none_ : ∀ {b : Addr} {p : Prop}, b ∈ ([] : List Addr) → p := fun q => nomatch q
  have start : Env0 P w K mg (hidT z.heap H) callerA [] z H := ⟨rfl, mo, fun b o e => of_hidT e, Nat.le_of_eq (hidT_size _ _), trivial, fun b hb => none_ (show b ∈ ([] : List Addr) from hb), hok, .of_eq ge⟩
  have go := (F _ seeK glob).run callerA [] z H ⟨[.ref a], []⟩ [.ref a] [.ref a] (fun v _ => v = .bl true) (fun _ _ _ => False) hr start (bi z (.ref a)) (.cons rfl .nil) (hsp H hS)
  refine codeAny_mono go fun r s' y => ?_
  match r, y with
  | .error e, y => exact (hCX H e s' y).elim
  | .ok .next, y => exact y.elim
  | .ok .brk, y => exact y.elim
  | .ok .cont, y => exact y.elim
  | .ok (.ret u), y =>
    obtain ⟨v, H', os, bare, un, hok', rv, rfl⟩ := y
    obtain rfl : u = Value.bool true := rv
    refine ⟨rfl, .of_keep fun b o e => ?_, os, bare⟩
    cases q : H b with
    | none => exact un.keep b o e q (fun t => none_ (show b ∈ ([] : List Addr) from t)) (fun t => none_ t)
    | some f =>
      obtain ⟨rfl, _, rfl⟩ := hA b f q
      have kept := (hok' b _ (un.frzs b _ _ q)).1
      exact (Option.some.inj ((hok b _ q).1.symm.trans e)) ▸ kept
abbrev Kept (P : Program) (n k : Nat) (cx : CXT) (par : Str) (w : World) (mg : Str → Option Value) (fa : Addr) (h : Heap) : Prop :=
  ∃ (K : PySem.W.Frag) (df : FuncData) (pr : Sp), K.In h ∧ (∀ z u, BindsTo z df ⟨[u], []⟩ [(par, u)]) ∧ (∀ (H : Hp) (a : Addr) (ns : List Int), ns.length ≤ n → SqL K H a (ns.map V.int) → pr [.ref a] H (fun v _ => v = .bl true) fun _ _ _ => False) ∧
    ∀ base : Heap, K.In base → base.Ns mainGlobals mg → FnOk P w K mg base cx k fa df [par] pr
theorem walk_ofG {l : PySem.W.OpenLaw} {n k : Nat} {q : Program} {more : List Str} {XP : (Str → Option Value) → Heap → Prop} {YP : World → Heap → Prop} {d : DefRec} {cx : CXT} {par : Str} (most : l.most = some n) (small : n ≤ sizeLine) (plain : d.params.defaults = []) (room : L2.Room k callerA)
    (F : ∀ w mg fa h, YP w h → h.Ns mainGlobals mg → mg d.name = some (.ref fa) → Kept l.prog n k cx par w mg fa h) (quiet : ∀ H z e z', cx [] H z (fun _ _ _ => False) e z' → False) : PySem.W.WalkO q more XP YP l.row.toRowW d [] (fun f vs => PySem.call f vs) :=
  Att.attach_call most plain fun w s0 s1 mg mb fa o pm cd doc a vs ns G Y ho hd hcd hmg ob it le ge => by
    obtain ⟨K, fd, sp, KX, b, hs, ok⟩ := F w mg fa _ Y G.T.g hmg
    exact law_callG KX G.T.g G.T.b G.T.builtins G.T.nolimit ge ob it (Nat.le_trans le small) (roomG room) ok b (fun H => hs H a ns le) fun H => quiet H s1
end DL

namespace DL
open PySem L2 PyProof.Rows PySem.Spec
end DL

namespace DL
open PySem L2 PyProof.Rows PySem.Spec
section
variable {X : Cx}
end
section
variable {X : Cx} {W : WX} {o a : Expr} {fo fa : Ev} {pos apos : Pos}
end
end DL

namespace DL
open PySem L2 PyProof.Rows PySem.Spec
section
variable {X : Cx} {W : WX}
end
end DL

namespace DL
open PySem L2 PyProof.Rows PySem.Spec
section
variable {X : Cx} {C : Str} {o : Option Nat} {pos p : Pos} {k : Nat}
end
end DL

namespace DL
open PySem L2 PyProof.Rows PySem.Spec
section
variable {prog : Program} {w : World} {A : Around} {E : Value → Shared → Prop} {s : Shared} {t : Addr} {vs : List Value}
end
section
variable {X : Cx} {W : WX}
end
end DL

namespace DL
open PySem L2 PyProof.Rows PySem.Spec
section
variable {X : Cx} {W : WX} {e : Expr} {f g : Ev} {pos p : Pos}
end
section
variable {X : Cx} {W : WX} {pos p apos : Pos} {o a f : Expr} {es : List Expr} {fo ff : Ev} {fl : EvL} {x c m : Str} {k j n : Nat} {F : Fn}
structure TbD (P : Program) (w : World) (K : PySem.W.Frag) (mg : Str → Option Value) (base : Heap) (k n : Nat) (tb : List (Str × Fn)) : Prop where
  all : ∀ x F, (x, F) ∈ tb → CalD P w K mg base k x n F
theorem CalD.mono {P : Program} {w : World} {K : PySem.W.Frag} {mg : Str → Option Value} {base : Heap} {j k n : Nat} {x : Str} {F : Fn} (C : CalD P w K mg base j x n F) (h : j ≤ k) : CalD P w K mg base k x n F := by
  obtain ⟨fd, ps, hl, G, bd⟩ := C.ok
  exact ⟨C.mg_, C.kp, fd, ps, hl, G.mono h, bd⟩
end
end DL

namespace DL
open PySem L2 PyProof.Rows PySem.Spec
section
variable {X : Cx} {W : WX} {o a : Expr} {fo fa : Ev} {pos apos : Pos}
end
end DL

namespace DL
open PySem L2 PyProof.Rows PySem.Spec
section
variable {X : Cx} {W : WX} {pins : List (Addr × Obj)} {σ : L2.St} {H H' : Hp} {s : Shared} {h' : Heap} {tk : Nat}
end
section
variable {X : Cx} {W : WX} {o : Expr} {fo : Ev} {p pos apos cpos : Pos} {k : Nat}
end
end DL

namespace DL
open PySem PySem.Spec GenW
open Sem (wp)

def twin : GenState → GenState
  | .suspended _ l c p fs cl => .suspended (fun _ => .unsupported "twin") l c p fs cl
  | x => x
theorem twin_seen (x : GenState) : (twin x).seen = x.seen := by cases x <;> rfl
theorem twin_bare (x : GenState) : (twin x).bare = x.bare := by cases x <;> rfl
def Asleep (x : GenState) : Prop := ∃ k l c p fs cl, x = .suspended k l c p fs cl

structure Tw (O : Nat → Option GenState) (s t : Shared) : Prop where
  heap : t.heap = s.heap
  drawn : t.drawn = s.drawn
  toks : t.toks = s.toks
  os : t.os = s.os
  size : t.gens.size = s.gens.size
  prot : ∀ i x, O i = some x → s.gens[i]? = some x ∧ t.gens[i]? = some (twin x) ∧ Asleep x
  same : ∀ i, O i = none → t.gens[i]? = s.gens[i]?
  plain : ∀ i, O i = none → ∀ k l c p fs cl, s.gens[i]? = some (.suspended k l c p fs cl) → splitAtGen fs = none

def EndPl : End → Prop
  | .ret _ => True
  | .susp _ _ _ _ _ _ fs => splitAtGen fs = none

section
variable {O : Nat → Option GenState} {s t : Shared}
theorem Tw.withHeap (h : Tw O s t) (hp : Heap) : Tw O { s with heap := hp } { t with heap := hp } := ⟨rfl, h.drawn, h.toks, h.os, h.size, h.prot, h.same, h.plain⟩
theorem Tw.lt (h : Tw O s t) {i : Nat} {x : GenState} (e : O i = some x) : i < s.gens.size := (Array.getElem?_eq_some_iff.mp (h.prot i x e).1).1
theorem Tw.push (h : Tw O s t) (c : Code) : Tw O { s with gens := s.gens.push (.fresh c) } { t with gens := t.gens.push (.fresh c) } := by
  refine ⟨h.heap, h.drawn, h.toks, h.os, by simp [h.size], fun i x e => ?_, fun i e => ?_, fun i e k l c' p fs cl q => ?_⟩
  · have lt := h.lt e
    obtain ⟨a, b, d⟩ := h.prot i x e
    refine ⟨?_, ?_, d⟩
    · show (s.gens.push (.fresh c))[i]? = some x
      rw [Array.getElem?_push_lt lt, ← Array.getElem?_eq_getElem lt]; exact a
    · show (t.gens.push (.fresh c))[i]? = some (twin x)
      have lt' : i < t.gens.size := by rw [h.size]; exact lt
      rw [Array.getElem?_push_lt lt', ← Array.getElem?_eq_getElem lt']; exact b
  · have := h.same i e
    show (t.gens.push (.fresh c))[i]? = (s.gens.push (.fresh c))[i]?
    rw [Array.getElem?_push, Array.getElem?_push, h.size]
    split
    · rfl
    · exact this
  · have q : (s.gens.push (.fresh c))[i]? = some (.suspended k l c' p fs cl) := q
    rw [Array.getElem?_push] at q
    split at q
    · cases q
    · exact h.plain i e _ _ _ _ _ _ q
theorem Tw.setGen (h : Tw O s t) {g : Nat} (e : O g = none) {x : GenState} (hx : ∀ k l c p fs cl, x = .suspended k l c p fs cl → splitAtGen fs = none) : Tw O (s.setGen g x) (t.setGen g x) := by
  refine ⟨h.heap, h.drawn, h.toks, h.os, by simp [Shared.setGen, h.size], fun i y q => ?_, fun i q => ?_, fun i q k l c p fs cl z => ?_⟩
  · have ne : g ≠ i := fun z => by rw [z, q] at e; cases e
    obtain ⟨a, b, d⟩ := h.prot i y q
    refine ⟨?_, ?_, d⟩
    · show (s.gens.setIfInBounds g x)[i]? = _
      rw [Array.getElem?_setIfInBounds_ne ne]; exact a
    · show (t.gens.setIfInBounds g x)[i]? = _
      rw [Array.getElem?_setIfInBounds_ne ne]; exact b
  · show (t.gens.setIfInBounds g x)[i]? = (s.gens.setIfInBounds g x)[i]?
    rw [Array.getElem?_setIfInBounds, Array.getElem?_setIfInBounds, h.size, h.same i q]
  · have z : (s.gens.setIfInBounds g x)[i]? = some (.suspended k l c p fs cl) := z
    rw [Array.getElem?_setIfInBounds] at z
    split at z
    · split at z
      · exact hx _ _ _ _ _ _ (Option.some.inj z)
      · cases z
    · exact h.plain i q _ _ _ _ _ _ z
theorem Tw.free (h : Tw O s t) {g : Nat} {x : GenState} (e : t.gens[g]? = some x) (n : ¬ Asleep x) : O g = none := by
  cases q : O g with
  | none => rfl
  | some y =>
    obtain ⟨_, b, k, l, c, p, fs, cl, rfl⟩ := h.prot g y q
    rw [b] at e
    cases e
    exact (n ⟨_, l, c, p, fs, cl, rfl⟩).elim
theorem Tw.look (h : Tw O s t) {g : Nat} {x : GenState} (e : t.gens[g]? = some x) : ∃ y, s.gens[g]? = some y ∧ y.seen = x.seen := by
  cases q : O g with
  | none => exact ⟨x, (h.same g q).symm.trans e, rfl⟩
  | some y =>
    obtain ⟨a, b, _⟩ := h.prot g y q
    rw [b] at e
    cases e
    exact ⟨y, a, (twin_seen y).symm⟩
theorem EndPl.state {e : End} (h : EndPl e) : ∀ k l c p fs cl, e.genState = .suspended k l c p fs cl → splitAtGen fs = none := by
  intro k l c p fs cl q
  cases e with
  | ret r => cases q
  | susp v g l' k' c' p' fs' =>
    have q : GenState.suspended k' l' c' p' fs' _ = .suspended k l c p fs cl := q
    cases q
    exact h
end

theorem no_run {M : Model} : ∀ {fs : List Frame} {Γ : PySem.Ctx} {p : Pos} {w : String} {s s' : Shared} {e : End}, ¬ Runs M Γ p (.unsupported w) fs s e s' := by
  have base : ∀ {Γ : PySem.Ctx} {p : Pos} {w : String} {s s' : Shared} {e : End}, ¬ Runs M Γ p (.unsupported w) [] s e s' := fun {Γ p w s s' e} h => by cases h
  intro fs Γ p w s s' e h
  cases fs with
  | nil => exact base h
  | cons F fs =>
    cases h with
    | segRet h1 h2 => exact base h1
    | segGen h1 h2 => exact base h1
    | segSuspOut h0 h1 => exact base h1
    | segSuspGen h0 h1 h2 h3 => exact base h1

theorem runs_tw {M : Model} {O : Nat → Option GenState} {Γ : PySem.Ctx} {p : Pos} {t : Sem PySem.Fin} {fs : List Frame} {z z' : Shared} {e : End} (h : Runs M Γ p t fs z e z') :
    splitAtGen fs = none → ∀ s, Tw O s z → ∃ s', Runs M Γ p t fs s e s' ∧ Tw O s' z' ∧ EndPl e := by
  induction h with
  | done => exact fun _ s T => ⟨s, .done, T, trivial⟩
  | raise => exact fun _ s T => ⟨s, .raise, T, trivial⟩
  | again q _ ih => exact fun f s T => let ⟨s', r, T', pl⟩ := ih rfl s T; ⟨s', .again q r, T', pl⟩
  | rule _ ih => exact fun f s T => let ⟨s', r, T', pl⟩ := ih rfl s T; ⟨s', .rule r, T', pl⟩
  | «at» _ ih => exact fun f s T => let ⟨s', r, T', pl⟩ := ih rfl s T; ⟨s', .at r, T', pl⟩
  | load ho _ ih => exact fun f s T => let ⟨s', r, T', pl⟩ := ih rfl s T; ⟨s', .load (by rw [← T.heap]; exact ho) r, T', pl⟩
  | update ha _ ih =>
    intro f s T
    obtain ⟨s', r, T', pl⟩ := ih rfl _ (T.withHeap _)
    rw [T.heap] at ha r
    exact ⟨s', .update ha r, T', pl⟩
  | loadIfAlive _ ih =>
    intro f s T
    obtain ⟨s', r, T', pl⟩ := ih rfl s T
    rw [T.heap] at r
    exact ⟨s', .loadIfAlive r, T', pl⟩
  | point _ ih => exact fun f s T => let ⟨s', r, T', pl⟩ := ih rfl s T; ⟨s', .point r, T', pl⟩
  | alloc _ ih =>
    intro f s T
    obtain ⟨s', r, T', pl⟩ := ih rfl _ (T.withHeap _)
    rw [T.heap] at r
    exact ⟨s', .alloc r, T', pl⟩
  | fresh _ ih =>
    intro f s T
    obtain ⟨s', r, T', pl⟩ := ih rfl { s with toks := s.toks + 1 } ⟨T.heap, T.drawn, by rw [T.toks], T.os, T.size, T.prot, T.same, T.plain⟩
    rw [T.toks] at r
    exact ⟨s', .fresh r, T', pl⟩
  | ask _ ih => exact fun f s T => let ⟨s', r, T', pl⟩ := ih rfl s T; ⟨s', .ask r, T', pl⟩
  | choose hn _ ih =>
    intro f s T
    obtain ⟨s', r, T', pl⟩ := ih rfl { s with drawn := s.drawn.bump _ } ⟨T.heap, by rw [T.drawn], T.toks, T.os, T.size, T.prot, T.same, T.plain⟩
    rw [T.drawn] at r
    exact ⟨s', .choose hn r, T', pl⟩
  | os _ ih =>
    intro f s T
    obtain ⟨s', r, T', pl⟩ := ih rfl { s with os := (Os.step s.os _).1 } ⟨T.heap, T.drawn, T.toks, by rw [T.os], T.size, T.prot, T.same, T.plain⟩
    rw [T.os] at r
    exact ⟨s', .os r, T', pl⟩
  | handled _ ih => exact fun f s T => let ⟨s', r, T', pl⟩ := ih rfl s T; ⟨s', .handled r, T', pl⟩
  | genState hg _ ih =>
    intro f s T
    obtain ⟨s', r, T', pl⟩ := ih rfl s T
    obtain ⟨y, a, b⟩ := T.look hg
    rw [← b] at r
    exact ⟨s', .genState a r, T', pl⟩
  | stack _ ih => exact fun f s T => let ⟨s', r, T', pl⟩ := ih rfl s T; ⟨s', .stack r, T', pl⟩
  | thread _ ih => exact fun f s T => let ⟨s', r, T', pl⟩ := ih rfl s T; ⟨s', .thread r, T', pl⟩
  | newGen _ ih =>
    intro f s T
    obtain ⟨s', r, T', pl⟩ := ih rfl _ (T.push _)
    rw [T.size] at r
    exact ⟨s', .newGen r, T', pl⟩
  | call _ _ ih1 ih2 =>
    intro f s T
    obtain ⟨s1, r1, T1, _⟩ := ih1 rfl s T
    obtain ⟨s', r, T', pl⟩ := ih2 rfl s1 T1
    exact ⟨s', .call r1 r, T', pl⟩
  | callSusp _ ih =>
    intro f s T
    obtain ⟨s1, r1, T1, pl⟩ := ih rfl s T
    exact ⟨s1, .callSusp r1, T1, (splitAtGen_append_none _ pl).trans rfl⟩
  | yield => exact fun _ s T => ⟨s, .yield, T, rfl⟩
  | resumeFresh hg _ qt _ ih1 ih2 =>
    intro f s T
    have q := T.free hg (fun ⟨_, _, _, _, _, _, z⟩ => by cases z)
    obtain ⟨s1, r1, T1, pl1⟩ := ih1 rfl _ (T.setGen q (x := .running) (fun _ _ _ _ _ _ z => by cases z))
    obtain ⟨s', r, T', pl⟩ := ih2 rfl _ (T1.setGen q pl1.state)
    exact ⟨s', .resumeFresh ((T.same _ q).symm.trans hg) r1 qt r, T', pl⟩
  | @resumeSuspended Γ p g r l k z k₀ l₀ c₀ p₀ fs cl e₁ z₁ e z' hg h1 qt _ ih1 ih2 =>
    intro f s T
    cases q : O g with
    | some x =>
      obtain ⟨_, b, k, l, c, p, fs, cl, rfl⟩ := T.prot g x q
      rw [b] at hg
      cases hg
      exact (no_run h1).elim
    | none =>
      have hs := (T.same _ q).symm.trans hg
      obtain ⟨s1, r1, T1, pl1⟩ := ih1 (T.plain g q _ _ _ _ _ _ hs) _ (T.setGen q (x := .running) (fun _ _ _ _ _ _ z => by cases z))
      obtain ⟨s', r, T', pl⟩ := ih2 rfl _ (T1.setGen q pl1.state)
      exact ⟨s', .resumeSuspended hs r1 qt r, T', pl⟩
  | resumeJustStarted hg hv _ ih =>
    intro f s T
    have q := T.free hg (fun ⟨_, _, _, _, _, _, z⟩ => by cases z)
    obtain ⟨s', r, T', pl⟩ := ih rfl s T
    exact ⟨s', .resumeJustStarted ((T.same _ q).symm.trans hg) hv r, T', pl⟩
  | resumeThrowFresh hg _ ih =>
    intro f s T
    have q := T.free hg (fun ⟨_, _, _, _, _, _, z⟩ => by cases z)
    obtain ⟨s', r, T', pl⟩ := ih rfl _ (T.setGen q (x := .finished) (fun _ _ _ _ _ _ z => by cases z))
    exact ⟨s', .resumeThrowFresh ((T.same _ q).symm.trans hg) r, T', pl⟩
  | resumeRunning hg _ ih =>
    intro f s T
    have q := T.free hg (fun ⟨_, _, _, _, _, _, z⟩ => by cases z)
    obtain ⟨s', r, T', pl⟩ := ih rfl s T
    exact ⟨s', .resumeRunning ((T.same _ q).symm.trans hg) r, T', pl⟩
  | resumeFinished hg _ ih =>
    intro f s T
    have q := T.free hg (fun ⟨_, _, _, _, _, _, z⟩ => by cases z)
    obtain ⟨s', r, T', pl⟩ := ih rfl s T
    exact ⟨s', .resumeFinished ((T.same _ q).symm.trans hg) r, T', pl⟩
  | segRet _ _ ih1 ih2 =>
    intro f s T
    rw [splitAtGen_ret] at f
    obtain ⟨s1, r1, T1, _⟩ := ih1 rfl s T
    obtain ⟨s', r, T', pl⟩ := ih2 (by simpa using f) s1 T1
    exact ⟨s', .segRet r1 r, T', pl⟩
  | segGen _ _ _ _ =>
    intro f
    rw [splitAtGen_gen] at f
    cases f
  | segSuspOut h0 _ ih =>
    intro f s T
    obtain ⟨s1, r1, T1, pl⟩ := ih rfl s T
    exact ⟨s1, .segSuspOut h0 r1, T1, (splitAtGen_append_none _ pl).trans (by rw [h0]; rfl)⟩
  | segSuspGen h0 _ _ _ _ _ =>
    intro f
    rw [f] at h0
    cases h0

section
variable {M : Model} {O : Nat → Option GenState}
theorem returns_tw {Γ : PySem.Ctx} {p : Pos} {s z z' : Shared} {r : Result} (h : Returns M Γ p z r z') (T : Tw O s z) : ∃ s', Returns M Γ p s r s' ∧ Tw O s' z' := by
  obtain ⟨s', a, b, _⟩ := runs_tw h rfl s T
  exact ⟨s', a, b⟩
theorem wakes_tw {Γ : PySem.Ctx} {p : Pos} {g : Nat} {r : Resume} {s z z' : Shared} {res : GenResult} (h : Wakes M Γ p g r z res z') (T : Tw O s z) : ∃ s', Wakes M Γ p g r s res s' ∧ Tw O s' z' := by
  unfold Wakes at h ⊢
  cases e : z.gens[g]? with
  | none => rw [e] at h; exact h.elim
  | some x =>
    cases q : O g with
    | some y =>
      obtain ⟨_, b, k, l, c, p, fs, cl, rfl⟩ := T.prot g y q
      rw [b] at e
      cases e
      simp only [b, twin] at h
      obtain ⟨_, _, h1, _⟩ := h
      exact (no_run h1).elim
    | none =>
      have es := (T.same g q).symm.trans e
      rw [es]
      rw [e] at h
      cases x with
      | fresh c =>
        cases r with
        | send v =>
          by_cases hv : v = .none
          · subst hv
            obtain ⟨e1, z1, h1, qt, hr, hz⟩ := h
            obtain ⟨s1, r1, T1, pl⟩ := runs_tw h1 rfl _ (T.setGen q (x := .running) (fun _ _ _ _ _ _ z => by cases z))
            exact ⟨_, ⟨e1, s1, r1, qt, hr, rfl⟩, by rw [hz]; exact T1.setGen q pl.state⟩
          · have h' : res = .justStarted ∧ z' = z := by
              cases v <;> first | exact (hv rfl).elim | exact h
            refine ⟨s, ?_, by rw [h'.2]; exact T⟩
            cases v <;> first | exact (hv rfl).elim | exact ⟨h'.1, rfl⟩
        | throw x => exact ⟨_, ⟨h.1, rfl⟩, by rw [h.2]; exact T.setGen q (fun _ _ _ _ _ _ z => by cases z)⟩
      | suspended k0 l0 c0 p0 fs cl =>
        obtain ⟨e1, z1, h1, qt, hr, hz⟩ := h
        obtain ⟨s1, r1, T1, pl⟩ := runs_tw h1 (T.plain g q _ _ _ _ _ _ es) _ (T.setGen q (x := .running) (fun _ _ _ _ _ _ z => by cases z))
        exact ⟨_, ⟨e1, s1, r1, qt, hr, rfl⟩, by rw [hz]; exact T1.setGen q pl.state⟩
      | running => exact ⟨s, ⟨h.1, rfl⟩, by rw [h.2]; exact T⟩
      | finished => exact ⟨s, ⟨h.1, rfl⟩, by rw [h.2]; exact T⟩
end

theorem wp_tw {α : Type} (M : Model) (O : Nat → Option GenState) (Γ : PySem.Ctx) (t : Sem α) : ∀ (Q : α → Pos → Shared → Prop) (E : Value → Pos → Shared → Prop) (p : Pos) (s z : Shared), Tw O s z → wp M Γ t Q E p z →
    wp M Γ t (fun a p' s' => ∃ z', Tw O s' z' ∧ Q a p' z') (fun e p' s' => ∃ z', Tw O s' z' ∧ E e p' z') p s := by
  induction t with
  | pure a => intro Q E p s z T h; exact ⟨z, T, h⟩
  | raise e => intro Q E p s z T h; exact ⟨z, T, h⟩
  | unsupported _ => intro Q E p s z _ h; exact h
  | finish _ => intro Q E p s z _ h; exact h
  | rule _ k ih => intro Q E p s z T h; exact ih () Q E p s z T h
  | «at» p' k ih => intro Q E p s z T h; exact ih () Q E p' s z T h
  | load a _ k ih => intro Q E p s z T h; obtain ⟨o, ho, h⟩ := h; exact ⟨o, by rw [← T.heap]; exact ho, ih o Q E p s z T h⟩
  | update a _ f k ih =>
    intro Q E p s z T h
    obtain ⟨h1, h2⟩ := h
    have := ih () Q E p _ _ (T.withHeap (z.heap.update a f)) h2
    rw [T.heap] at h1 this
    exact ⟨h1, this⟩
  | loadIfAlive a k ih => intro Q E p s z T h; have := ih _ Q E p s z T h; rw [T.heap] at this; exact this
  | point _ k ih => intro Q E p s z T h; exact ih () Q E p s z T h
  | register _ _ => intro Q E p s z _ h; exact h
  | alloc o k ih =>
    intro Q E p s z T h
    have := ih _ Q E p _ _ (T.withHeap (z.heap.push o)) h
    rw [T.heap] at this
    exact this
  | fresh k ih =>
    intro Q E p s z T h
    have := ih z.toks Q E p { s with toks := s.toks + 1 } { z with toks := z.toks + 1 } ⟨T.heap, T.drawn, by rw [T.toks], T.os, T.size, T.prot, T.same, T.plain⟩ h
    rw [T.toks] at this
    exact this
  | ask k ih => intro Q E p s z T h; exact ih _ Q E p s z T h
  | choose src m k ih =>
    intro Q E p s z T h
    obtain ⟨h1, h2⟩ := h
    have := ih _ Q E p { s with drawn := s.drawn.bump src } { z with drawn := z.drawn.bump src } ⟨T.heap, by rw [T.drawn], T.toks, T.os, T.size, T.prot, T.same, T.plain⟩ h2
    rw [T.drawn] at this
    exact ⟨h1, this⟩
  | os q _ k ih =>
    intro Q E p s z T h
    have := ih (Os.step z.os q).2 Q E p { s with os := (Os.step s.os q).1 } { z with os := (Os.step z.os q).1 } ⟨T.heap, T.drawn, T.toks, by rw [T.os], T.size, T.prot, T.same, T.plain⟩ h
    rw [T.os] at this
    exact this
  | call c hd _ _ k ih =>
    intro Q E p s z T h
    obtain ⟨r, z', hr, h⟩ := h
    obtain ⟨s', hr', T'⟩ := returns_tw hr T
    exact ⟨r, s', hr', ih r Q E p s' z' T' h⟩
  | handled own k ih => intro Q E p s z T h; exact ih _ Q E p s z T h
  | genState g k ih =>
    intro Q E p s z T h
    obtain ⟨st, hs, h⟩ := h
    obtain ⟨y, a, b⟩ := T.look hs
    have := ih _ Q E p s z T h
    rw [← b] at this
    exact ⟨y, a, this⟩
  | newGen c k ih =>
    intro Q E p s z T h
    have := ih _ Q E p _ _ (T.push c) h
    rw [T.size] at this
    exact this
  | resume g r _ k ih =>
    intro Q E p s z T h
    obtain ⟨res, z', hw, h⟩ := h
    obtain ⟨s', hw', T'⟩ := wakes_tw hw T
    exact ⟨res, s', hw', ih res Q E p s' z' T' h⟩
  | yield _ _ _ _ => intro Q E p s z _ h; exact h
  | stack k ih => intro Q E p s z T h; exact ih _ Q E p s z T h
  | fork _ _ => intro Q E p s z _ h; exact h
  | thread k ih => intro Q E p s z T h; exact ih _ Q E p s z T h
  | await _ _ _ _ _ => intro Q E p s z _ h; exact h

theorem wpAny_tw {α : Type} {M : Model} {A : Around} {O : Nat → Option GenState} {t : Sem α} {Q : α → Shared → Prop} {E : Value → Shared → Prop} {s z : Shared} (T : Tw O s z) (h : wpAny M A t Q E z) :
    wpAny M A t (fun a s' => ∃ z', Tw O s' z' ∧ Q a z') (fun e s' => ∃ z', Tw O s' z' ∧ E e z') s := fun Γ p hΓ => wp_tw M O Γ t _ _ p s z T (h Γ p hΓ)

def asleepAt (G : Array GenState) (i : Nat) : Option GenState := match G[i]? with
  | some (.suspended k l c p fs cl) => some (.suspended k l c p fs cl)
  | _ => none
def twins (s : Shared) : Shared := { s with gens := s.gens.map twin }
theorem asleepAt_some {G : Array GenState} {i : Nat} {x : GenState} (h : asleepAt G i = some x) : G[i]? = some x ∧ Asleep x := by
  unfold asleepAt at h
  split at h
  · rename_i k l c p fs cl q
    cases h
    exact ⟨q, _, _, _, _, _, _, rfl⟩
  · cases h
theorem asleepAt_of {G : Array GenState} {i : Nat} {x : GenState} (h : G[i]? = some x) (a : Asleep x) : asleepAt G i = some x := by
  obtain ⟨k, l, c, p, fs, cl, rfl⟩ := a
  unfold asleepAt
  rw [h]
theorem twins_tw (s : Shared) : Tw (asleepAt s.gens) s (twins s) := by
  refine ⟨rfl, rfl, rfl, rfl, by simp [twins], fun i x e => ?_, fun i e => ?_, fun i e k l c p fs cl q => ?_⟩
  · obtain ⟨a, b⟩ := asleepAt_some e
    refine ⟨a, ?_, b⟩
    show (s.gens.map twin)[i]? = some (twin x)
    rw [Array.getElem?_map, a]; rfl
  · show (s.gens.map twin)[i]? = s.gens[i]?
    rw [Array.getElem?_map]
    cases q : s.gens[i]? with
    | none => rfl
    | some x =>
      cases x with
      | suspended k l c p fs cl => rw [asleepAt_of q ⟨_, _, _, _, _, _, rfl⟩] at e; cases e
      | _ => rfl
  · rw [asleepAt_of q ⟨_, _, _, _, _, _, rfl⟩] at e; cases e
def KeepG (s s' : Shared) : Prop := ∀ (i : Nat) (x : GenState), s.gens[i]? = some x → Asleep x → s'.gens[i]? = some x
theorem KeepG.refl (s : Shared) : KeepG s s := fun _ _ h _ => h
theorem KeepG.trans {a b c : Shared} (h : KeepG a b) (h2 : KeepG b c) : KeepG a c := fun i x e q => h2 i x (h i x e q) q
theorem Tw.keepG {s s' z' : Shared} (T : Tw (asleepAt s.gens) s' z') : KeepG s s' := fun i x e a => (T.prot i x (asleepAt_of e a)).1
end DL

namespace DL
open PySem L2 PyProof.Rows PySem.Spec
section
variable {X : Cx} {W : WX} {o i : Expr} {fo fi : Ev} {pos : Pos}
end
section
variable {X : Cx} {W : WX} {scope : Scope} {own : List (Str × Nat)} {p1 p2 p3 p4 p5 p6 p7 pos : Pos} {x y : Str} {ck : Expr}
end
end DL

namespace DL
open PySem L2 PyProof.Rows PySem.Spec
abbrev Ix := List (Sum Nat Nat)
def pick (dl : List D) (ix : Ix) (ds : List D) : List D := ix.map fun p => match p with
  | .inl i => ds.getD i .non
  | .inr j => dl.getD j .non
def pickU (dl : List Value) (ix : Ix) (ds : List Value) : List Value := ix.map fun p => match p with
  | .inl i => ds.getD i .none
  | .inr j => dl.getD j .none
structure BndK (K : PySem.W.Frag) (fd : FuncData) (ps : List Str) (n : Nat) (ks : List Str) (dl : List D) (ix : Ix) : Prop where
  ex : ∃ (du : List Value) (dv : List V), Vals dv du ∧ (∀ φ ρ H, RDs ⟨K, φ⟩ ρ H dl dv) ∧ ∀ (s : Shared) (us ws : List Value), K.In s.heap → us.length = n → ws.length = ks.length → BindsTo s fd ⟨us, ks.zip ws⟩ (ps.zip (pickU du ix (us ++ ws)))
section
variable {K : PySem.W.Frag} {x qual : Str} {params : Arguments} {body : List Stmt} {scope : Scope} {dvs : List V} {kws : List (Str × V)} {f : Addr} {fd : FuncData} {ps ks : List Str} {n : Nat} {dl : List D} {ix : Ix}
end
section
variable {X : Cx} {W : WX} {pos p apos kpos : Pos} {o a : Expr} {es : List Expr} {kws : List Keyword} {fo fe : Ev} {fl fk : EvL} {x c m : Str} {nm : Option Str} {k j n : Nat} {F : Fn} {ks : List Str} {dl : List D} {ix : Ix}
structure CalK (P : Program) (w : World) (K : PySem.W.Frag) (mg : Str → Option Value) (base : Heap) (k : Nat) (x : Str) (n : Nat) (ks : List Str) (dl : List D) (ix : Ix) (F : Fn) : Prop where
  mg_ : mg x = some (.ref (gadr K x))
  kp : PySem.W.keepIn K (.ref (gadr K x)) = true
  ok : ∃ (fd : FuncData) (ps : List Str), FnOk P w K mg base (L2.CX P w) k (gadr K x) fd ps (spF K ix.length F) ∧ BndK K fd ps n ks dl ix
end
end DL

namespace DL
open PySem L2 PyProof.Rows PySem.Spec
section
variable {X : Cx} {W : WX} {scope : Scope} {p1 p2 p3 p4 p5 p6 p7 pos : Pos} {x y : Str} {kk : Nat} {kp : Pos}
end
section
variable {s : Shared} {prog : Program} {w : World} {A : Around} {E : Value → Shared → Prop}
end
section
variable {X : Cx} {W : WX} {a : Expr} {fa : Ev} {pos : Pos}
end
end DL
namespace DL
open PySem L2 PyProof.Rows PySem.Spec
end DL

namespace DL
open PySem L2 PyProof.Rows PySem.Spec
end DL

namespace DL
open PySem L2
def JWr (K : Kx) (J : It) (ds : List D) : Prop :=
  ∀ i ρ2 H2 M2, MOk K ρ2 M2 H2 →
    (∀ d, ds[i]? = some d → J.go i H2 ∧ ∀ x H', J.yld i H2 x H' → Ext ρ2 H2 ρ2 H' ∧ MOk K ρ2 M2 H' ∧ RD K ρ2 H' d x) ∧ (i = ds.length → J.stop i H2)
def PostR (K : Kx) (W : WX) (ρ : List Addr) (σ : L2.St) (H : Hp) (r : OutI) (R : It → Hp → Prop) : Prop := match r with
  | .ok ds chk M => ∀ ρ1 H1 J, Ext ρ H ρ1 H1 → MOk K ρ1 M H1 → JWr K J ds → R J H1
  | .ex x M => PostX K W ρ H x M σ
  | .st => False
def DIR (X : Cx) (W : WX) (tg e : Expr) (f : EvI) : Prop := ∃ wi, PI X tg e wi ∧ ∀ φ ρ env M σ H R, RE ⟨X.K, φ⟩ ρ H env σ → MOk ⟨X.K, φ⟩ ρ M H → PostR ⟨X.K, φ⟩ W ρ σ H (f env M) R → wi σ H R
def tOfI (K : PySem.W.Frag) (W : WX) (f : EvI) : TI := fun σ H R => ∃ φ ρ env M, RE ⟨K, φ⟩ ρ H env σ ∧ MOk ⟨K, φ⟩ ρ M H ∧ PostR ⟨K, φ⟩ W ρ σ H (f env M) R
theorem DIR.canon {X : Cx} {W : WX} {tg e : Expr} {f : EvI} (h : DIR X W tg e f) : PI X tg e (tOfI X.K W f) := by
  obtain ⟨t, p, s⟩ := h
  exact ⟨fun pins st σ H R I ⟨φ, ρ, env, M, a, b, c⟩ => p.run pins st σ H R I (s φ ρ env M σ H R a b c)⟩
theorem PostR.bind {K : Kx} {W : WX} {ρ : List Addr} {σ : L2.St} {H : Hp} {r : Out} {k : D → Mem → OutI} {R : It → Hp → Prop} {Q : VK} (h : PostR K W ρ σ H (r.bindI k) R) (hQ : ∀ d M1 ρ1 H1 v, Ext ρ H ρ1 H1 → MOk K ρ1 M1 H1 → RD K ρ1 H1 d v → PostR K W ρ1 σ H1 (k d M1) R → Q v H1) : Post K W ρ σ H r Q := by
  cases r with
  | ok d M1 =>
    intro ρ1 H1 v a b c
    refine hQ d M1 ρ1 H1 v a b c ?_
    have h : PostR K W ρ σ H (k d M1) R := h
    cases q : k d M1 with
    | ok ds ck M2 => rw [q] at h; exact fun ρ2 H2 J a2 b2 w => h ρ2 H2 J (a.trans a2) b2 w
    | ex x M2 => rw [q] at h; exact PostX.ext a h
    | st => rw [q] at h; exact h.elim
  | ex x M1 => exact h
  | st => exact h.elim
def compD2 (chk : Mem → Bool) (g : Tg) (ft : Ev) (vs1 : List Nat) (fi1 : EvI) (g1 : Tg) (ft1 fe : Ev) (env : Env) : List D → Mem → OutL
  | [], M => if chk M then .ok [] M else .st
  | d :: ds, M => if chk M then
      match g d env M with
      | .nx e1 M1 => match ft e1 M1 with
        | .ok (.bl true) M2 => match fi1 e1 M2 with
          | .ok ds1 _ M3 => match compD cYes g1 ft1 fe (wipeE e1 vs1) ds1 M3 with
            | .ok ys M4 => (compD2 chk g ft vs1 fi1 g1 ft1 fe env ds M4).bindL fun zs M5 => .ok (ys ++ zs) M5
            | _ => .st
          | _ => .st
        | .ok (.bl false) M2 => compD2 chk g ft vs1 fi1 g1 ft1 fe env ds M2
        | _ => .st
      | _ => .st
    else .st
structure L2O (K : Kx) (chk : Mem → Bool) (g : Tg) (ft : Ev) (vs1 : List Nat) (fi1 : EvI) (g1 : Tg) (ft1 fe : Ev) (env : Env) (ds : List D) (ρ1 : List Addr) (H1 : Hp) (Dd : Addr) (ys : List D) (Mf : Mem) (i : Nat) (H : Hp) : Prop where
  le : i ≤ ds.length
  ex : ∃ ρ' M' done rest acc, Ext ρ1 H1 ρ' H ∧ MOk ⟨K.K, Dd :: K.φ⟩ ρ' M' H ∧ H Dd = some (.lst acc) ∧ Dd ∉ ρ' ∧ RDs ⟨K.K, Dd :: K.φ⟩ ρ' H done acc ∧ ys = done ++ rest ∧ compD2 chk g ft vs1 fi1 g1 ft1 fe env (ds.drop i) M' = .ok rest Mf
structure L2N (K : Kx) (chk : Mem → Bool) (g : Tg) (ft : Ev) (vs1 : List Nat) (fi1 : EvI) (g1 : Tg) (ft1 fe : Ev) (env e1 : Env) (ds ds1 : List D) (σ2 : L2.St) (ρ1 : List Addr) (H1 : Hp) (Dd : Addr) (ys : List D) (Mf : Mem) (i j : Nat) (H : Hp) : Prop where
  le : j ≤ ds1.length
  ex : ∃ ρ' M' M4 done rest1 rest2 acc, Ext ρ1 H1 ρ' H ∧ MOk ⟨K.K, Dd :: K.φ⟩ ρ' M' H ∧ RE ⟨K.K, Dd :: K.φ⟩ ρ' H e1 σ2 ∧ H Dd = some (.lst acc) ∧ Dd ∉ ρ' ∧ RDs ⟨K.K, Dd :: K.φ⟩ ρ' H done acc ∧ ys = done ++ (rest1 ++ rest2) ∧ compD cYes g1 ft1 fe (wipeE e1 vs1) (ds1.drop j) M' = .ok rest1 M4 ∧ compD2 chk g ft vs1 fi1 g1 ft1 fe env (ds.drop (i + 1)) M4 = .ok rest2 Mf
section
variable {X : Cx} {W : WX} {elt tg iter tg1 iter1 : Expr} {ifs ifs1 : List Expr} {scope : Scope} {pos : Pos} {fi fi1 : EvI} {g g1 : Tg} {ft ft1 fe : Ev}
variable {a b : Expr} {fa fb : Ev} {p : Pos}
end
end DL

namespace DL
open PySem L2 PyProof.Rows PySem.Spec
structure IsX (K : PySem.W.Frag) (C c0 : Addr) : Prop where
  x : XfC K C
  ha : PySem.W.findIn K (Value.ref C) "__class__" = some (some (.builtin "object.__class__"))
  hn : PySem.W.specialIn K (Value.builtin "object.__class__") "__get__" = some (some (.builtin "getset_descriptor.__get__"))
  ht : PySem.W.takesIn K (Value.builtin "object.__class__") = some true
  hm : PySem.W.mroIn K C (Value.type "object") = some true
  hk : PySem.W.kitOne K (.ref C) (.ref c0) = some true
end DL

namespace DL
open PySem L2 PyProof.Rows PySem.Spec
mutual
def toPE : D → Option PyData
  | .non => some .none
  | .bl b => some (.bool b)
  | .int i => some (.int i)
  | .str x => some (.str x)
  | .tup xs => (toPEs xs).map .tuple
  | .itm xs => (toPEs xs).map .tuple
  | .lst xs => (toPEs xs).map .list
  | .dcv [] => some (.dict [])
  | _ => none
def toPEs : List D → Option (List PyData)
  | [] => some []
  | x :: xs => match toPE x, toPEs xs with
    | some p, some ps => some (p :: ps)
    | _, _ => none
end
section
variable {X : Cx} {pins : List (Addr × Obj)} {σ : List (Option V)} {H : Hp} {s : Shared} {K : Kx} {ρ : List Addr}
theorem ne_sys (I : Inv X pins σ H s) (hy : (X.K.lookup sysModules).isSome = true) {a : Addr} {o : HO} (h : H a = some o) : a ≠ sysModules := fun z => by
  subst z
  obtain ⟨oy, ho⟩ := Option.isSome_iff_exists.mp hy
  have := (I.bs sysModules oy (I.mod.kin _ _ ho)).2
  rw [this] at h
  cases h
mutual
theorem reads_E (I : Inv X pins σ H s) (hy : (X.K.lookup sysModules).isSome = true) (hK : K.K = X.K) : ∀ (d : D) (v : V) (p : PyData) (u : Value), RD K ρ H d v → toPE d = some p → RelV v u → ∃ as, Reads s.heap u p as ∧ sysModules ∉ as
  | .non, _, _, _, h, e, r => by cases e; cases h; cases r; exact ⟨_, .none, by simp⟩
  | .bl b, _, _, _, h, e, r => by cases e; cases h; cases r; exact ⟨_, .bool b, by simp⟩
  | .int i, _, _, _, h, e, r => by cases e; cases h; obtain ⟨t, rfl⟩ := r; exact ⟨_, .int i t, by simp⟩
  | .str x, _, _, _, h, e, r => by cases e; cases h; obtain ⟨t, rfl⟩ := r; exact ⟨_, .str x t, by simp⟩
  | .tup ds, v, p, u, hh, e, r => by
    have e : (toPEs ds).map PyData.tuple = some p := e
    obtain ⟨ps, q, rfl⟩ := Option.map_eq_some_iff.mp e
    cases hh with
    | tup h rr =>
      cases r
      have hq := h.sq
      rw [hK] at hq
      obtain ⟨its, rv, ⟨o, ho, hc, n, hd⟩, _⟩ := I.tuple hq
      obtain ⟨as, h1, h2⟩ := reads_Es I hy hK ds _ ps its rr q rv
      exact ⟨_, .tuple ho hc hd h1, h2⟩
  | .itm ds, v, p, u, hh, e, r => by
    have e : (toPEs ds).map PyData.tuple = some p := e
    obtain ⟨ps, q, rfl⟩ := Option.map_eq_some_iff.mp e
    cases hh with
    | itm h n rr =>
      cases r
      obtain ⟨its, rv, ⟨o, ho, hc, n', hd⟩, _⟩ := I.tuple (.inl (.inl h))
      obtain ⟨as, h1, h2⟩ := reads_Es I hy hK ds _ ps its rr q rv
      exact ⟨_, .tuple ho hc hd h1, h2⟩
  | .lst ds, v, p, u, hh, e, r => by
    have e : (toPEs ds).map PyData.list = some p := e
    obtain ⟨ps, q, rfl⟩ := Option.map_eq_some_iff.mp e
    cases hh with
    | lst h n rr =>
      cases r
      obtain ⟨its, rv, ⟨o, n', ho, hc, _, hd⟩, _⟩ := I.list (.inl (.inl h))
      obtain ⟨as, h1, h2⟩ := reads_Es I hy hK ds _ ps its rr q rv
      refine ⟨_, .list ho hc hd h1, ?_⟩
      rw [List.mem_cons, not_or]
      exact ⟨(ne_sys I hy h).symm, h2⟩
  | .dcv [], v, p, u, hh, e, r => by
    cases e
    cases hh with
    | dcv h n rr =>
      cases rr
      cases r
      obtain ⟨hz, hs, ws, kv, hdo⟩ := dk_of I.hok h
      cases kv with
      | nil =>
        obtain ⟨o, es, ep, h1, h2, h3, _, h5, _⟩ := hdo
        have hes : es.toList = [] := List.eq_nil_of_length_eq_zero h5.length
        refine ⟨_, .dict h1 h2.1 h3 (as := []) (bs := []) (by rw [hes]; exact .nil) (by rw [hes]; exact .nil), ?_⟩
        have := ne_sys I hy h
        simpa using this.symm
  | .dcv (_ :: _), _, _, _, _, e, _ => by cases e
  | .fzl _, _, _, _, _, e, _ => by cases e
  | .ref _, _, _, _, _, e, _ => by cases e
  | .glo _, _, _, _, _, e, _ => by cases e
  | .ty _, _, _, _, _, e, _ => by cases e
  | .inst _ _, _, _, _, _, e, _ => by cases e
theorem reads_Es (I : Inv X pins σ H s) (hy : (X.K.lookup sysModules).isSome = true) (hK : K.K = X.K) : ∀ (ds : List D) (vs : List V) (ps : List PyData) (us : List Value), RDs K ρ H ds vs → toPEs ds = some ps → Vals vs us → ∃ as, ReadsAll s.heap us ps as ∧ sysModules ∉ as
  | [], _, _, _, h, e, r => by cases e; cases h; cases r; exact ⟨_, .nil, by simp⟩
  | d :: ds, _, ps, _, hh, e, r => by
    cases hh with
    | cons h t =>
      cases r with
      | cons r1 r2 =>
        have e : (match toPE d, toPEs ds with | some p, some ps => some (p :: ps) | _, _ => none) = some ps := e
        cases q1 : toPE d with
        | none => rw [q1] at e; cases e
        | some p =>
          cases q2 : toPEs ds with
          | none => rw [q1, q2] at e; cases e
          | some ps' =>
            rw [q1, q2] at e
            cases e
            obtain ⟨as, a1, a2⟩ := reads_E I hy hK d _ p _ h q1 r1
            obtain ⟨bs, b1, b2⟩ := reads_Es I hy hK ds _ ps' _ t q2 r2
            exact ⟨_, .cons a1 b1, by rw [List.mem_append, not_or]; exact ⟨a2, b2⟩⟩
end
end
end DL

namespace DL
open PySem L2 PyProof.Rows PySem.Spec
section
variable {X : Cx} {W : WX} {pos p apos kpos : Pos} {o a : Expr} {es : List Expr} {kws : List Keyword} {fo fe : Ev} {fl fk : EvL} {x c m : Str} {nm : Option Str} {k j n : Nat} {F : Fn} {ks : List Str} {dl : List D} {ix : Ix}
end
end DL

namespace DL
open PySem L2 PyProof.Rows PySem.Spec
section
variable {X : Cx}
end
end DL

namespace DL
open PySem L2 PyProof.Rows PySem.Spec
section
variable {prog : Program} {w : World} {A : Around} {R : Result → Shared → Prop} {s : Shared} {elt t0 i0 t1 i1 : Expr} {c0 c1 : List Expr} {scope : Scope} {pos : Pos} {it acc : Value} {env : PySem.Env}
abbrev tests (cs : List Expr) (env : PySem.Env) : Sem Bool := forIn cs true fun c r => if r = true then do let ok ← isTrue c env (eval c env); pure (ForInStep.yield ok) else pure (ForInStep.yield r)
end
section
variable {X : Cx}
end
end DL

namespace DL
open PySem L2
abbrev SetI (w : World) (a : Addr) (ns : List Int) : HO := SetO w a (fun j => decide (j ∈ ns)) (srtU ns).length
structure ZcI (w : World) (K : Kx) (chk : Mem → Bool) (g : Tg) (ft fe : Ev) (env : Env) (ds : List D) (ρ1 : List Addr) (H1 : Hp) (Dd : Addr) (ns : List Int) (Mf : Mem) (i : Nat) (H : Hp) : Prop where
  le : i ≤ ds.length
  ex : ∃ ρ' M' done rest, Ext ρ1 H1 ρ' H ∧ MOk ⟨K.K, Dd :: K.φ⟩ ρ' M' H ∧ H Dd = some (SetI w Dd done) ∧ Dd ∉ ρ' ∧ ns = done ++ rest ∧ compD chk g ft fe env (ds.drop i) M' = .ok (rest.map .int) Mf
section
variable {X : Cx} {W : WX} {elt tg iter : Expr} {ifs : List Expr} {scope : Scope} {pos : Pos} {fi : EvI} {g : Tg} {ft fe : Ev}
end
structure ExtH (φ ρ : List Addr) (H : Hp) (ρ' : List Addr) (H' : Hp) : Prop where
  pre : ∃ t, ρ' = ρ ++ t ∧ ∀ a ∈ t, H a = none
  keep : ∀ (a : Addr) (o : HO), H a = some o → a ∉ ρ ∧ a ∉ φ → (_ : Nt o := by exact trivial) → H' a = some o
  live : ∀ a, H' a = none → H a = none
section
variable {K : Kx} {ρ ρ' ρ1 ρ2 : List Addr} {H H' H1 H2 : Hp} {φ : List Addr} {a : Addr}
theorem ExtH.nin {o : HO} (e : ExtH φ ρ H ρ' H') (h : H a = some o) (n : a ∉ ρ ∧ a ∉ φ) : a ∉ ρ' ∧ a ∉ φ := by
  obtain ⟨t, rfl, ht⟩ := e.pre
  refine ⟨fun z => ?_, n.2⟩
  rcases List.mem_append.mp z with z | z
  · exact n.1 z
  · rw [ht a z] at h; cases h
theorem ExtH.trans (a : ExtH φ ρ H ρ1 H1) (b : Ext ρ1 H1 ρ2 H2) : ExtH φ ρ H ρ2 H2 := by
  refine ⟨?_, fun x o h n z => b.keep x o (a.keep x o h n z) (a.nin h n).1 z, fun x h => a.live x (b.live x h)⟩
  obtain ⟨t, rfl, ht⟩ := a.pre
  obtain ⟨t2, rfl, ht2⟩ := b.pre
  refine ⟨t ++ t2, by simp, fun x hx => ?_⟩
  rcases List.mem_append.mp hx with z | z
  · exact ht x z
  · exact a.live x (ht2 x z)
theorem ExtH.hidden {w : HO} (e : ExtH φ ρ H ρ' H') (h : a ∈ φ) : ExtH φ ρ H ρ' (upd H' a w) := by
  refine ⟨e.pre, fun b o q n z => ?_, fun b q => ?_⟩
  · rw [upd_ne (fun z : b = a => n.2 (by rw [z]; exact h))]
    exact e.keep b o q n z
  · by_cases z : b = a
    · subst z; rw [upd_same] at q; cases q
    · rw [upd_ne z] at q; exact e.live b q
theorem SqTf.extH {xs : List V} (e : ExtH K.φ ρ H ρ' H') (h : SqTf K ρ H a xs) : SqTf K ρ' H' a xs := h.elim (fun ⟨⟨o, z, d⟩, n⟩ => .inl ⟨⟨o, e.keep _ _ z n, d⟩, e.nin z n⟩) .inr
theorem SqLf.extH {xs : List V} (e : ExtH K.φ ρ H ρ' H') (h : SqLf K ρ H a xs) : SqLf K ρ' H' a xs := h.elim (fun ⟨r, n⟩ => .inl (r.elim (fun z => ⟨.inl (e.keep _ _ z n), e.nin z n⟩) fun ⟨o, z⟩ => ⟨.inr ⟨o, e.keep _ _ z n⟩, e.nin z n⟩)) .inr
mutual
theorem RD.extH (e : ExtH K.φ ρ H ρ' H') : ∀ {d v}, RD K ρ H d v → RD K ρ' H' d v
  | _, _, .non => .non
  | _, _, .bl b => .bl b
  | _, _, .int i => .int i
  | _, _, .str x => .str x
  | _, _, .tup h r => .tup (h.extH e) (RDs.extH e r)
  | _, _, .itm h n r => .itm (e.keep _ _ h n) (e.nin h n) (RDs.extH e r)
  | _, _, .lst h n r => .lst (e.keep _ _ h n) (e.nin h n) (RDs.extH e r)
  | _, _, .fzl h r => .fzl (h.extH e) (RDs.extH e r)
  | _, _, @RD.ref _ _ _ l a h => .ref (by
      obtain ⟨t, rfl, _⟩ := e.pre
      obtain ⟨hl, _⟩ := List.getElem?_eq_some_iff.mp h
      rw [List.getElem?_append_left hl]; exact h)
  | _, _, .glo => .glo
  | _, _, .ty n => .ty n
  | _, _, .inst h n r => .inst (e.keep _ _ h n) (e.nin h n) (RFs.extH e r)
  | _, _, .dcv h n r => .dcv (e.keep _ _ h n) (e.nin h n) (RKv.extH e r)
theorem RDs.extH (e : ExtH K.φ ρ H ρ' H') : ∀ {ds vs}, RDs K ρ H ds vs → RDs K ρ' H' ds vs
  | _, _, .nil => .nil
  | _, _, .cons h t => .cons (RD.extH e h) (RDs.extH e t)
theorem RFs.extH (e : ExtH K.φ ρ H ρ' H') : ∀ {ds vs}, RFs K ρ H ds vs → RFs K ρ' H' ds vs
  | _, _, .nil => .nil
  | _, _, .cons h t => .cons (RD.extH e h) (RFs.extH e t)
theorem RKv.extH (e : ExtH K.φ ρ H ρ' H') : ∀ {ds vs}, RKv K ρ H ds vs → RKv K ρ' H' ds vs
  | _, _, .nil => .nil
  | _, _, .cons h t => .cons (RD.extH e h) (RKv.extH e t)
end
end
def JWH (K : Kx) (J : It) (ρ1 : List Addr) (H1 : Hp) (ds : List D) : Prop :=
  ∀ i ρ2 H2 M2, ExtH K.φ ρ1 H1 ρ2 H2 → MOk K ρ2 M2 H2 →
    (∀ d, ds[i]? = some d → J.go i H2 ∧ ∀ x H', J.yld i H2 x H' → Ext ρ2 H2 ρ2 H' ∧ MOk K ρ2 M2 H' ∧ RD K ρ2 H' d x) ∧ (i = ds.length → J.stop i H2)
def PostH (K : Kx) (W : WX) (ρ : List Addr) (σ : L2.St) (H : Hp) (r : OutI) (R : It → Hp → Prop) : Prop := match r with
  | .ok ds chk M => ∀ ρ1 H1 J, Ext ρ H ρ1 H1 → MOk K ρ1 M H1 → JWH K J ρ1 H1 ds → R J H1
  | .ex x M => PostX K W ρ H x M σ
  | .st => False
def DIH (X : Cx) (W : WX) (tg e : Expr) (f : EvI) : Prop := ∃ wi, PI X tg e wi ∧ ∀ φ ρ env M σ H R, RE ⟨X.K, φ⟩ ρ H env σ → MOk ⟨X.K, φ⟩ ρ M H → PostH ⟨X.K, φ⟩ W ρ σ H (f env M) R → wi σ H R
def tOfH (K : PySem.W.Frag) (W : WX) (f : EvI) : TI := fun σ H R => ∃ φ ρ env M, RE ⟨K, φ⟩ ρ H env σ ∧ MOk ⟨K, φ⟩ ρ M H ∧ PostH ⟨K, φ⟩ W ρ σ H (f env M) R
theorem DIH.canon {X : Cx} {W : WX} {tg e : Expr} {f : EvI} (h : DIH X W tg e f) : PI X tg e (tOfH X.K W f) := by
  obtain ⟨t, p, s⟩ := h
  exact ⟨fun pins st σ H R I ⟨φ, ρ, env, M, a, b, c⟩ => p.run pins st σ H R I (s φ ρ env M σ H R a b c)⟩
theorem PostH.bind {K : Kx} {W : WX} {ρ : List Addr} {σ : L2.St} {H : Hp} {r : Out} {k : D → Mem → OutI} {R : It → Hp → Prop} {Q : VK} (h : PostH K W ρ σ H (r.bindI k) R) (hQ : ∀ d M1 ρ1 H1 v, Ext ρ H ρ1 H1 → MOk K ρ1 M1 H1 → RD K ρ1 H1 d v → PostH K W ρ1 σ H1 (k d M1) R → Q v H1) : Post K W ρ σ H r Q := by
  cases r with
  | st => exact h
  | ex x M1 => exact h
  | ok d M1 =>
    intro ρ1 H1 v a b c
    have h : PostH K W ρ σ H (k d M1) R := h
    refine hQ d M1 ρ1 H1 v a b c ?_
    cases q : k d M1 with
    | ok ds ck M2 => rw [q] at h; exact fun ρ2 H2 J a2 b2 w => h ρ2 H2 J (a.trans a2) b2 w
    | ex x M2 => rw [q] at h; exact PostX.ext a h
    | st => rw [q] at h; exact h.elim
end DL

namespace DL
open PySem L2
def compE2 (chk : Mem → Bool) (g : Tg) (ft : Ev) (vs1 : List Nat) (fi1 : EvI) (g1 : Tg) (ft1 fe : Ev) (env : Env) : List D → Mem → OutL
  | [], M => if chk M then .ok [] M else .st
  | d :: ds, M => if chk M then
      match g d env M with
      | .nx e1 M1 => match ft e1 M1 with
        | .ok (.bl true) M2 => match fi1 e1 M2 with
          | .ok ds1 _ M3 => match compD cYes g1 ft1 fe (wipeE e1 vs1) ds1 M3 with
            | .ok ys M4 => (compE2 chk g ft vs1 fi1 g1 ft1 fe env ds M4).bindL fun zs M5 => .ok (ys ++ zs) M5
            | _ => .st
          | _ => .st
        | .ok (.bl false) M2 => compE2 chk g ft vs1 fi1 g1 ft1 fe env ds M2
        | _ => .st
      | _ => .st
    else .st
structure ZO (w : World) (K : Kx) (chk : Mem → Bool) (g : Tg) (ft : Ev) (vs1 : List Nat) (fi1 : EvI) (g1 : Tg) (ft1 fe : Ev) (env : Env) (ds : List D) (ρ1 : List Addr) (H1 : Hp) (Dd : Addr) (ns : List Int) (Mf : Mem) (i : Nat) (H : Hp) : Prop where
  le : i ≤ ds.length
  ex : ∃ ρ' M' done rest, Ext ρ1 H1 ρ' H ∧ MOk ⟨K.K, Dd :: K.φ⟩ ρ' M' H ∧ H Dd = some (SetI w Dd done) ∧ Dd ∉ ρ' ∧ ns = done ++ rest ∧ compE2 chk g ft vs1 fi1 g1 ft1 fe env (ds.drop i) M' = .ok (rest.map .int) Mf
structure ZN (w : World) (K : Kx) (chk : Mem → Bool) (g : Tg) (ft : Ev) (vs1 : List Nat) (fi1 : EvI) (g1 : Tg) (ft1 fe : Ev) (env e1 : Env) (ds ds1 : List D) (σ2 : L2.St) (ρ1 ρ6 : List Addr) (H1 H6 : Hp) (Dd : Addr) (ns : List Int) (Mf : Mem) (i j : Nat) (H : Hp) : Prop where
  le : j ≤ ds1.length
  ex : ∃ ρ' M' M4 done rest1 rest2, Ext ρ1 H1 ρ' H ∧ ExtH (Dd :: K.φ) ρ6 H6 ρ' H ∧ MOk ⟨K.K, Dd :: K.φ⟩ ρ' M' H ∧ RE ⟨K.K, Dd :: K.φ⟩ ρ' H e1 σ2 ∧ H Dd = some (SetI w Dd done) ∧ Dd ∉ ρ' ∧ ns = done ++ (rest1 ++ rest2) ∧ compD cYes g1 ft1 fe (wipeE e1 vs1) (ds1.drop j) M' = .ok (rest1.map .int) M4 ∧
    compE2 chk g ft vs1 fi1 g1 ft1 fe env (ds.drop (i + 1)) M4 = .ok (rest2.map .int) Mf
section
variable {X : Cx} {W : WX} {elt tg iter tg1 iter1 : Expr} {ifs ifs1 : List Expr} {scope : Scope} {pos : Pos} {fi fi1 : EvI} {g g1 : Tg} {ft ft1 fe : Ev}
end
section
variable {X : Cx} {W : WX}
end
end DL

namespace DL
open PySem L2 PyProof.Rows PySem.Spec
section
variable {X : Cx} {W : WX} {tg a b c : Expr} {fa fb : Ev} {p p2 pos pos2 : Pos}
end
def ItAt (t : Bool) (h : Heap) (it a : Addr) (i : Nat) : Prop := if t then h.IsTupleIter it a i else h.IsListIter it a i
theorem ItAt.obj {t : Bool} {h : Heap} {it a : Addr} {i : Nat} (z : ItAt t h it a i) : ∃ o, h.get? it = some o ∧ ∀ v, o.data ≠ .cell v := by
  cases t <;> (obtain ⟨o, e, _, d⟩ := z; exact ⟨o, e, fun v q => by rw [d] at q; cases q⟩)
structure Ap3 (z TI TO i1 i2 i3 a b c : Addr) : Prop where
  nd : [z, TI, TO, i1, i2, i3].Nodup
  na : ∀ x ∈ [z, TI, TO, i1, i2, i3], x ≠ a ∧ x ≠ b ∧ x ≠ c
theorem Ap3.sep {z TI TO i1 i2 i3 a b c : Addr} (D : Ap3 z TI TO i1 i2 i3 a b c) : ZipSep3 z TI TO i1 i2 i3 [i1, a] [i2, b] [i3, c] := by
  obtain ⟨nd, na⟩ := D
  simp only [List.nodup_cons, List.mem_cons, List.not_mem_nil, or_false, not_or, not_false_eq_true, List.nodup_nil, and_true] at nd
  obtain ⟨⟨z1, z2, z3, z4, z5⟩, ⟨t1, t2, t3, t4⟩, ⟨o1, o2, o3⟩, ⟨q1, q2⟩, r1⟩ := nd
  have za := na z (by simp)
  have ta := na TI (by simp)
  have oa := na TO (by simp)
  have ia := na i1 (by simp)
  have ja := na i2 (by simp)
  have ka := na i3 (by simp)
  constructor <;> simp_all [eq_comm, Ne.symm]
section
variable {X : Cx} {W : WX} {e e2 e3 : Expr} {ta : TA} {p pos tpos : Pos} {elts : List Expr} {kk : Nat}
end
end DL

namespace DL
open PySem L2
section
variable {X : Cx} {W : WX} {tg a b c : Expr} {fa fb fc : Ev} {p pos tpos : Pos} {elts : List Expr} {kk : Nat}
end
def compK (chk : Mem → Bool) (g : Tg) (ft fk fv : Ev) (env : Env) : List (Key × D) → List D → Mem → Option (List (Key × D) × Mem)
  | acc, [], M => if chk M then some (acc, M) else none
  | acc, d :: ds, M => if chk M then
      match g d env M with
      | .nx e1 M1 => match ft e1 M1 with
        | .ok (.bl true) M2 => match fk e1 M2 with
          | .ok y M3 => match keyD y with
            | some k => match fv e1 M3 with
              | .ok z M4 => compK chk g ft fk fv env (putA acc k z) ds M4
              | _ => none
            | none => none
          | _ => none
        | .ok (.bl false) M2 => compK chk g ft fk fv env acc ds M2
        | _ => none
      | _ => none
    else none
structure DcI (K : Kx) (chk : Mem → Bool) (g : Tg) (ft fk fv : Ev) (env : Env) (ds : List D) (ρ1 : List Addr) (H1 : Hp) (Dd : Addr) (kvs : List (Key × D)) (Mf : Mem) (i : Nat) (H : Hp) : Prop where
  le : i ≤ ds.length
  ex : ∃ ρ' M' done acc, Ext ρ1 H1 ρ' H ∧ MOk ⟨K.K, Dd :: K.φ⟩ ρ' M' H ∧ H Dd = some (.dK acc) ∧ Dd ∉ ρ' ∧ RKs ⟨K.K, Dd :: K.φ⟩ ρ' H done acc ∧ done.length ≤ i ∧ compK chk g ft fk fv env done (ds.drop i) M' = some (kvs, Mf)
section
variable {X : Cx} {W : WX} {kx vx tg iter : Expr} {ifs : List Expr} {scope : Scope} {pos : Pos} {fi : EvI} {g : Tg} {ft fk fv : Ev}
end
end DL

namespace DL
open PySem L2 PySem.Spec PySem.SeqAt
open AutoSeq1 (wpAny_loadPart')
open MeetsSeq MeetsSeq2 MeetsSeq3 SeqRoads2
section
variable {prog : Program} {w : World} {A : Around} {R : Result → Shared → Prop} {E : Value → Shared → Prop} {l : Addr} {x : Value} {items : Array Value} 
structure Seek (prog : Program) (w : World) (A : Around) (R : Result → Shared → Prop) (l : Addr) (x : Value) (items : Array Value) (I : Nat → Shared → Prop) : Prop where
  at_ : ∀ i s, I i s → ∃ n dd sl, s.heap.get? l = some { cls := .type "list", dict := dd, data := .seq items n, slots := sl }
  turn : ∀ (i : Nat) (h : i < items.size) (s : Shared), I i s → wpAny (model prog w) A.in1 (eqBool items[i] x) (fun r s' => if r = true then R (.ok (.ret (.bool true))) s' else I (i + 1) s') (fun e s' => R (.error e) s') s
  fin : ∀ s, I items.size s → R (.ok (.ret (.bool false))) s
end
mutual
def difD : D → D → Bool
  | .int i, .int j => decide (i ≠ j)
  | .str a, .str b => decide (a ≠ b)
  | .tup xs, .tup ys => difDs xs ys
  | .inst _ a, .inst _ b => difFs a b
  | _, _ => false
termination_by structural x => x
def difDs : List D → List D → Bool
  | [], [] => false
  | x :: xs, y :: ys => difD x y || difDs xs ys
  | _, _ => true
termination_by structural x => x
def difFs : List (Str × D) → List (Str × D) → Bool
  | x :: xs, y :: ys => difD x.2 y.2 || difFs xs ys
  | _, _ => false
termination_by structural x => x
end
section
variable {X : Cx} {pins : List (Addr × Obj)} {σ : L2.St} {H : Hp} {s : Shared} {K : Kx} {ρ : List Addr}
mutual
theorem difD_ok (hK : X.K = K.K) (I : Inv X pins σ H s) : ∀ {d e : D} {v : V}, RD K ρ H d v → RD K ρ H e v → difD d e = true → False
  | .int i, e, _, .int _, r2, h => by
    cases e with
    | int j =>
      cases r2
      simp [difD] at h
    | _ => simp [difD] at h
  | .str a, e, _, .str _, r2, h => by
    cases e with
    | str b =>
      cases r2
      simp [difD] at h
    | _ => simp [difD] at h
  | .tup xs, e, _, .tup hx rx, r2, h => by
    cases e with
    | tup ys =>
      cases r2 with
      | tup hy ry =>
        have h1 := hx.sq
        have h2 := hy.sq
        rw [← hK] at h1 h2
        have eq := I.tuple_inj h1 h2
        subst eq
        exact difDs_ok hK I rx ry (by simpa [difD] using h)
    | _ => simp [difD] at h
  | .inst c a, e, _, .inst hx nx rx, r2, h => by
    cases e with
    | inst c2 b =>
      cases r2 with
      | inst hy ny ry =>
        rw [hx] at hy
        simp only [Option.some.injEq, HO.ins.injEq] at hy
        obtain ⟨_, _, rfl⟩ := hy
        exact difFs_ok hK I rx ry (by simpa [difD] using h)
    | _ => simp [difD] at h
  | .non, e, _, _, _, h => by cases e <;> simp [difD] at h
  | .bl _, e, _, _, _, h => by cases e <;> simp [difD] at h
  | .itm _, e, _, _, _, h => by cases e <;> simp [difD] at h
  | .lst _, e, _, _, _, h => by cases e <;> simp [difD] at h
  | .fzl _, e, _, _, _, h => by cases e <;> simp [difD] at h
  | .ref _, e, _, _, _, h => by cases e <;> simp [difD] at h
  | .glo _, e, _, _, _, h => by cases e <;> simp [difD] at h
  | .ty _, e, _, _, _, h => by cases e <;> simp [difD] at h
  | .dcv _, e, _, _, _, h => by cases e <;> simp [difD] at h
theorem difDs_ok (hK : X.K = K.K) (I : Inv X pins σ H s) : ∀ {ds es : List D} {vs : List V}, RDs K ρ H ds vs → RDs K ρ H es vs → difDs ds es = true → False
  | [], [], _, _, _, h => by simp [difDs] at h
  | [], _ :: _, _, .nil, r2, h => by cases r2
  | _ :: _, [], _, .cons _ _, r2, h => by cases r2
  | d :: ds, e :: es, _, .cons r1 t1, .cons r2 t2, h => by
    simp only [difDs, Bool.or_eq_true] at h
    rcases h with h | h
    · exact difD_ok hK I r1 r2 h
    · exact difDs_ok hK I t1 t2 h
theorem difFs_ok (hK : X.K = K.K) (I : Inv X pins σ H s) : ∀ {ds es : List (Str × D)} {vs : List (Str × V)}, RFs K ρ H ds vs → RFs K ρ H es vs → difFs ds es = true → False
  | [], es, _, _, _, h => by cases es <;> simp [difFs] at h
  | _ :: _, [], _, _, _, h => by simp [difFs] at h
  | (_, d) :: ds, (_, e) :: es, _, .cons r1 t1, .cons r2 t2, h => by
    simp only [difFs, Bool.or_eq_true] at h
    rcases h with h | h
    · exact difD_ok hK I r1 r2 h
    · exact difFs_ok hK I t1 t2 h
end
end
end DL

namespace DL
open PySem L2 PyProof.Rows PySem.Spec
section
variable {X : Cx} {W : WX}
end
end DL

namespace DL
open PySem L2 PyProof.Rows PySem.Spec
def shI (ix : Ix) : Ix := ix.map fun p => match p with
  | .inl i => .inl (i + 1)
  | .inr j => .inr j
section
variable {K : Kx} {W : WX} {ρ : List Addr} {H : Hp} {M : Mem} {σ : L2.St}
end
structure MakK (P : Program) (w : World) (K : PySem.W.Frag) (mg : Str → Option Value) (base : Heap) (k : Nat) (x : Str) (n : Nat) (ks : List Str) (dl : List D) (ix : Ix) (F : Fn) : Prop where
  mg_ : mg x = some (.ref (gadr K x))
  ok : ∃ (fa : Addr) (fd : FuncData) (ps : List Str), Mk K (gadr K x) fa ∧ FnOk P w K mg base (L2.CX P w) k fa fd ps (spF K (ix.length + 1) F) ∧ BndK K fd ps (n + 1) ks dl (.inl 0 :: shI ix)
section
variable {X : Cx} {W : WX} {pos p : Pos} {a : Expr} {es : List Expr} {kws : List Keyword} {fl fk : EvL} {x : Str} {k j n : Nat} {F : Fn} {ks : List Str} {dl : List D} {ix : Ix}
end
end DL

namespace DL
open PySem L2 PyProof.Rows PySem.Spec
section
variable {X : Cx} {W : WX} {k : Nat} {e : Expr} {es : List Expr} {f : Ev} {fs : List Ev} {pos : Pos}
end
end DL

namespace DL
open PySem L2 PyProof.Rows PySem.Spec
section
variable {X : Cx} {W : WX} {c m : Str} {d : D} {p pos apos : Pos} {o a : Expr} {fo fa : Ev}
end
end DL

namespace DL
open PySem L2 PyProof.Rows PySem.Spec
theorem RDs.cut {K : Kx} {ρ : List Addr} {H : Hp} : ∀ {ds : List D} {vs : List V}, RDs K ρ H ds vs → ∀ i : Nat, RDs K ρ H (ds.eraseIdx i) (vs.eraseIdx i)
  | _, _, .nil, _ => .nil
  | _, _, .cons r t, 0 => t
  | _, _, .cons r t, i + 1 => .cons r (t.cut i)
section
variable {X : Cx} {W : WX} {o a : Expr} {fo fa : Ev} {pos apos : Pos}
end
end DL

namespace DL
open PySem L2 PyProof.Rows PySem.Spec
section
variable {A : Around} {prog : Program} {w : World} {R : Result → Shared → Prop} {I : Addr} {fp wr : List Addr} {n : Nat} {P : Nat → Value → Prop} {St : Nat → Heap → Prop}
end
section
variable {A : Around} {prog : Program} {w : World} {E : Value → Shared → Prop} {s : Shared}
end
section
variable {X : Cx}
end
end DL

namespace DL
open PySem L2 PyProof.Rows PySem.Spec
end DL

namespace DL
open PySem L2 PyProof.Rows PySem.Spec
def MaskU (m : Nat) : Prop := m = 7 ∨ m = 15 ∨ m = 31 ∨ m = 63 ∨ m = 127
theorem lcgU_all {m : Nat} (hm : MaskU m) {j : Nat} (hj : j ≤ m) : ∃ b, b ≤ m ∧ lcgN m b = j := by
  have key : ∀ z : Nat, ((List.range (z + 1)).all fun i => (List.range (z + 1)).any fun b => lcgN z b == i) = true → ∀ i, i ≤ z → ∃ b, b ≤ z ∧ lcgN z b = i := by
    intro n h j hj
    obtain ⟨b, hb, e⟩ := List.any_eq_true.mp (List.all_eq_true.mp h j (List.mem_range.mpr (Nat.lt_succ_of_le hj)))
    (exact ⟨b, Nat.le_of_lt_succ (List.mem_range.mp hb), beq_iff_eq.mp e⟩)
  rcases hm with e | e | e | e | e <;> subst e
  · exact key 7 (by decide +kernel) j hj
  · exact key 15 (by decide +kernel) j hj
  · exact key 31 (by decide +kernel) j hj
  · exact key 63 (by decide +kernel) j hj
  · exact key 127 (by decide +kernel) j hj
theorem lcgU_round {m : Nat} (hm : MaskU m) : lcgN m (m + 1) = 0 := by
  rcases hm with e | e | e | e | e <;> subst e <;> decide +kernel
theorem lcgU_mod {m : Nat} (hm : MaskU m) : ∀ k, lcgN m (m + 1 + k) = lcgN m k
  | 0 => lcgU_round hm
  | k + 1 => by
    show (lcgN m (m + 1 + k) * 5 + 1) % (m + 1) = _
    rw [lcgU_mod hm k]; rfl
theorem lcgU_I {m : Nat} (hm : MaskU m) {i j : Nat} (hi : i ≤ m) (hj : j ≤ m) : ∃ k, k ≤ m ∧ lcgI m i k = j := by
  obtain ⟨a, ha, ea⟩ := lcgU_all hm hi
  obtain ⟨b, hb, eb⟩ := lcgU_all hm hj
  rw [← ea]
  (rcases Nat.lt_or_ge b a with c | c)
  · (refine ⟨b + (m + 1) - a, by omega, ?_⟩)
    rw [lcgN_add, show a + (b + (m + 1) - a) = m + 1 + b by omega, lcgU_mod hm, eb]
  · (refine ⟨b - a, by omega, ?_⟩)
    rw [lcgN_add, show a + (b - a) = b by omega, eb]
theorem runU_meets {m : Nat} (hm : MaskU m) (h : Int) {j : Nat} (hj : j ≤ m) : ∃ n, n ≤ m + 12 ∧ runI m (SetTable.bits h) n = j := by
  obtain ⟨k, hk, e⟩ := lcgU_I hm (runI_le m (SetTable.bits h) 12) hj
  (exact ⟨12 + k, by omega, by rw [runI_tail (bits_lt h)]; exact e⟩)
theorem freeU {m : Nat} (hm : MaskU m) (owner : Array (Option Nat)) (h : Int) {j : Nat} (hj : j ≤ m) (hf : oAt owner j = none) :
    ∃ r, SetTable.layClean.free m owner (SetTable.turns m) (SetTable.bits h % (m + 1)) (SetTable.bits h) = some r ∧ oAt owner r = none := by
  obtain ⟨n, hn, e⟩ := runU_meets hm h hj
  have hway : way m h (off m (SetTable.bits h % (m + 1)) (SetTable.bits h) n) = j := by
    show (nth m (runAt m (SetTable.bits h % (m + 1)) (SetTable.bits h)) (off m _ _ n)).j = j
    rw [nth_off, itL_run]
    exact e
  obtain ⟨K, hK, k2, k3⟩ := st_least (p := fun i => oAt owner (way m h i) = none) (off m (SetTable.bits h % (m + 1)) (SetTable.bits h) n) (by
    show oAt owner (way m h _) = none
    rw [hway]
    exact hf)
  refine ⟨way m h K, free_spec m owner (SetTable.turns m) n _ _ K (by unfold SetTable.turns; omega) hK (fun k hk => ?_) ?_, k2⟩
  · have q := k3 k hk
    cases z0 : oAt owner (nth m (runAt m (SetTable.bits h % (m + 1)) (SetTable.bits h)) k).j with
    | none => exact absurd z0 q
    | some _ => rfl
  · have q2 : oAt owner (nth m (runAt m (SetTable.bits h % (m + 1)) (SetTable.bits h)) K).j = none := k2
    rw [q2]; rfl
theorem fm_congr {α β : Type} {f g : α → Option β} : ∀ {l : List α}, (∀ x ∈ l, f x = g x) → l.filterMap f = l.filterMap g
  | [], _ => rfl
  | a :: l, h => by
    rw [List.filterMap_cons, List.filterMap_cons, h a List.mem_cons_self, fm_congr fun x hx => h x (List.mem_cons_of_mem _ hx)]
theorem fm_len {α β : Type} (f : α → Option β) : ∀ l : List α, (∀ x ∈ l, f x ≠ none) → (l.filterMap f).length = l.length
  | [], _ => rfl
  | a :: l, h => by
    rw [List.filterMap_cons]
    cases q : f a with
    | none => exact absurd q (h a List.mem_cons_self)
    | some b =>
      show (l.filterMap f).length + 1 = l.length + 1
      rw [fm_len f l fun x hx => h x (List.mem_cons_of_mem _ hx)]
theorem fm_put {β : Type} (f f' : Nat → Option β) (j : Nat) (k : β) (h1 : f j = none) (h2 : f' j = some k) (h3 : ∀ i, i ≠ j → f' i = f i) : ∀ l : List Nat, l.Nodup → j ∈ l → (l.filterMap f').Perm (k :: l.filterMap f)
  | [], _, h => by cases h
  | a :: l, nd, h => by
    (obtain ⟨n1, n2⟩ := List.nodup_cons.mp nd)
    by_cases c : a = j
    · subst c
      rw [List.filterMap_cons, List.filterMap_cons, h1, h2]
      have : l.filterMap f' = l.filterMap f := fm_congr fun i hi => h3 i fun z => n1 (by rw [← z]; exact hi)
      simp only [this]
      exact List.Perm.refl _
    · have hl : j ∈ l := by
        (rcases List.mem_cons.mp h with z | z)
        · exact absurd z.symm c
        · exact z
      have ih := fm_put f f' j k h1 h2 h3 l n2 hl
      rw [List.filterMap_cons, List.filterMap_cons, h3 a c]
      cases q : f a with
      | none => exact ih
      | some b => exact (ih.cons b).trans (List.Perm.swap k b _)
structure OwnU (m k : Nat) (owner : Array (Option Nat)) : Prop where
  sz : owner.size = m + 1
  pm : ((List.range (m + 1)).filterMap fun j => oAt owner j).Perm (List.range k)
theorem OwnU.init (m : Nat) : OwnU m 0 (Array.replicate (m + 1) none) where
  sz := by simp
  pm := by
    have : ((List.range (m + 1)).filterMap fun j => oAt (Array.replicate (m + 1) none) j) = [] := by
      rw [List.filterMap_eq_nil_iff]
      intro j hj
      exact oAt_init (Nat.le_of_lt_succ (List.mem_range.mp hj))
    rw [this]
    exact List.Perm.refl _
theorem oAt_lt {owner : Array (Option Nat)} {r : Nat} (h : oAt owner r = none) : r < owner.size := by
  rcases Nat.lt_or_ge r owner.size with c | c
  · exact c
  · have : owner.getD r (some 0) = none := h
    rw [Array.getD_eq_getD_getElem?, Array.getElem?_eq_none c] at this
    cases this
theorem OwnU.step {m k : Nat} (hm : MaskU m) {owner : Array (Option Nat)} (W : OwnU m k owner) (hk : k ≤ m) (h : Int) :
    ∃ j, SetTable.layClean.free m owner (SetTable.turns m) (SetTable.bits h % (m + 1)) (SetTable.bits h) = some j ∧ OwnU m (k + 1) (owner.setIfInBounds j (some k)) := by
  have em : ∃ j, j ≤ m ∧ oAt owner j = none := by
    apply Classical.byContradiction
    intro no
    have := fm_len (fun j => oAt owner j) (List.range (m + 1)) fun j hj z => no ⟨j, Nat.le_of_lt_succ (List.mem_range.mp hj), z⟩
    rw [W.pm.length_eq, List.length_range, List.length_range] at this
    omega
  obtain ⟨j, hj, hf⟩ := em
  obtain ⟨r, e, hr⟩ := freeU hm owner h hj hf
  have lt := oAt_lt hr
  refine ⟨r, e, by rw [Array.size_setIfInBounds]; exact W.sz, ?_⟩
  have p := fm_put (fun j => oAt owner j) (fun j => oAt (owner.setIfInBounds r (some k)) j) r k hr (oAt_set_self (some k) lt) (fun i hi => oAt_set_ne _ hi) (List.range (m + 1)) List.nodup_range (List.mem_range.mpr (by rw [← W.sz]; exact lt))
  rw [List.range_succ (n := k)]
  exact p.trans ((W.pm.cons k).trans (List.perm_append_singleton k _).symm)
end DL

namespace DL
open PySem L2 PyProof.Rows PySem.Spec
section
variable {P : Program} {w : World} {A : Around} {E : Value → Shared → Prop} {s : Shared} {a o : Addr} {S T : Int → Bool} {n m : Nat}
end
end DL

namespace DL
open PySem L2 PyProof.Rows PySem.Spec
section
variable {P : Program} {w : World} {A : Around} {E : Value → Shared → Prop} {s : Shared} {a o : Addr} {S T : Int → Bool} {n m : Nat} {es : Array (Int × Value)} {ep : Nat} {t : SetTable} {ob : Obj}
end
end DL

namespace DL
open PySem L2 PyProof.Rows PySem.Spec
section
variable {P : Program} {w : World} {A : Around} {E : Value → Shared → Prop} {s : Shared} {a b : Addr} {S T : Int → Bool} {n m : Nat}
end
end DL

namespace DL
open PySem L2 PyProof.Rows PySem.Spec
section
variable {X : Cx} {W : WX}
end
end DL

namespace DL
open PySem L2 PyProof.Rows PySem.Spec
section
variable {K : Kx} {W : WX} {ρ : List Addr} {H : Hp} {M : Mem} {σ : L2.St}
end
section
variable {X : Cx} {W : WX} {pos p : Pos} {a : Expr} {es : List Expr} {kws : List Keyword} {fl fk : EvL} {x : Str} {k j n : Nat} {F : Fn} {ks : List Str} {dl : List D} {ix : Ix}
end
end DL

namespace DL
open PySem L2 PyProof.Rows PySem.Spec
section
variable {X : Cx} {W : WX}
end
end DL

namespace DL
open PySem L2 PyProof.Rows PySem.Spec
section
variable {X : Cx} {W : WX} {pos : Pos} {c : Expr} {ft : Ev} {fb : Sx} {body : List Stmt}
end
end DL

namespace DL
open PySem L2 PyProof.Rows PySem.Spec
section
variable {X : Cx} {W : WX}
variable {o a : Expr} {fo fa : Ev} {pos apos : Pos}
end
end DL

namespace DL
open PySem L2 PyProof.Rows PySem.Spec
section
variable {X : Cx} {W : WX} {o i : Expr} {fo fi : Ev} {pos : Pos}
end
end DL

namespace DL
open PySem L2 PyProof.Rows PySem.Spec
def RoomQ (k : Nat) (A : Around) : Prop := L2H.RoomH k A ∧ A.guards = some []
section
variable {j k : Nat} {A : Around}
theorem Room.q (r : Room k A) : RoomQ k A := ⟨⟨r.dp, r.un⟩, r.gd⟩
theorem RoomQ.mono (r : RoomQ k A) (h : j ≤ k) : RoomQ j A := ⟨r.1.mono h, r.2⟩
theorem RoomQ.deeper (r : RoomQ (k + 1) A) (e : PySem.Env) : RoomQ k (A.deeper e) := ⟨r.1.deeper e, r.2⟩
theorem RoomQ.in1 (r : RoomQ (k + 1) A) : RoomQ k A.in1 := by
  have a := r.1.dp
  have b := r.1.un
  refine ⟨⟨?_, ?_⟩, r.2⟩
  · show A.depth + 3 * k + 5 < _
    omega
  · show A.units + 1 + 16 * k + 200 < _
    omega
end
section
variable {P : Program} {w : World} {K : PySem.W.Frag} {mg : Str → Option Value} {base : Heap} {k : Nat} {g : Addr} {df : FuncData} {ns N : List Str} {pr : Sp} {x qual : Str} {params : Arguments} {body : List Stmt} {scope : Scope} {dvs : List V} {kws : List (Str × V)} {c : Sx}
structure FnHot (P : Program) (w : World) (K : PySem.W.Frag) (mg : Str → Option Value) (base : Heap) (k : Nat) (g : Addr) (df : FuncData) (ns : List Str) (pr : Sp) : Prop where
  many : ∀ xs H Q E, pr xs H Q E → xs.length = ns.length
  comes : ∀ A, RoomQ k A → ∀ out z H p, L2H.PinOk out H z p → Env0 P w K mg base A out z H → ∀ args us xs, BindsTo z df args (ns.zip us) → Vals xs us → ∀ Q E, pr xs H Q E → Comes P w (L2.CX P w) A g args out H Q E z
structure PrpH (P : Program) (w : World) (K : PySem.W.Frag) (mg : Str → Option Value) (base : Heap) (k : Nat) (c m : Str) (F : Fn) : Prop where
  cls : Cls K (gadr K c)
  ok : ∃ (pa fa : Addr) (fd : FuncData) (ps : List Str), PropOf K (gadr K c) m pa fa ∧ FnHot P w K mg base k fa fd ps (spF K 1 F) ∧ L2.Binds K fd ps []
structure MetH (P : Program) (w : World) (K : PySem.W.Frag) (mg : Str → Option Value) (base : Heap) (k : Nat) (c m : Str) (n : Nat) (F : Fn) : Prop where
  cls : Cls K (gadr K c)
  ok : ∃ (fa : Addr) (fd : FuncData) (ps : List Str), ps.length = n ∧ Meth K (gadr K c) m fa ∧ FnHot P w K mg base k fa fd ps (spF K n F) ∧ L2.Binds K fd ps []
end
def Pnd (X : Cx) : Prop := ∃ p : Addr × Obj, p ∈ X.pn
theorem Pnd.at {X : Cx} (h : Pnd X) {pins : List (Addr × Obj)} {σ : L2.St} {H : Hp} {s : Shared} (J : Inv X pins σ H s) : ∃ p, L2H.PinOk X.stack H s p := by
  obtain ⟨p, hp⟩ := h
  obtain ⟨a1, a2, a3⟩ := J.pin p (List.mem_append_left _ hp)
  exact ⟨p, a1, a2, fun hm => by
    rcases List.mem_cons.mp (J.stkSub p.1 hm) with q | q
    · exact a3.1 q
    · exact a3.2.1 q, a3.2.2⟩
section
variable {X : Cx} {W : WX} {k j n : Nat} {g C q : Addr} {df : FuncData} {ns : List Str} {pr : Sp} {pins : List (Addr × Obj)} {σ : L2.St} {H : Hp} {s : Shared} {Q : VK} {E : XK} {f c m : Str} {F : Fn} {o : Expr} {pos : Pos} {fo : Ev}
end
section
variable {X : Cx} {C : Str} {o : Option Nat} {pos p : Pos}
end
end DL

namespace DL
open PySem L2 PyProof.Rows PySem.Spec
end DL

namespace DL
open PySem L2 PyProof.Rows PySem.Spec
section
variable {X : Cx} {W : WX}
end
end DL

namespace DL
open PySem L2 PyProof.Rows PySem.Spec
section
variable {X : Cx} {W : WX} {k j n : Nat} {o a : Expr} {es : List Expr} {kws : List Keyword} {pos apos : Pos} {fo : Ev} {fl fk : EvL} {c f m : Str} {x : D} {F : Fn} {ks : List Str} {dl : List D} {ix : Ix}
structure MetK (P : Program) (w : World) (K : PySem.W.Frag) (mg : Str → Option Value) (base : Heap) (k : Nat) (c m : Str) (n : Nat) (ks : List Str) (dl : List D) (ix : Ix) (F : Fn) : Prop where
  cls : Cls K (gadr K c)
  ok : ∃ (fa : Addr) (fd : FuncData) (ps : List Str), Meth K (gadr K c) m fa ∧ FnOk P w K mg base (L2.CX P w) k fa fd ps (spF K ix.length F) ∧ BndK K fd ps (n + 1) ks dl ix
end
end DL

namespace DL
open PySem L2 PyProof.Rows PySem.Spec
structure CmsD (P : Program) (w : World) (K : PySem.W.Frag) (mg : Str → Option Value) (base : Heap) (k : Nat) (c m : Str) (F : Fn) : Prop where
  mg_ : mg c = some (.ref (gadr K c))
  wr : WrapOk K c m "classmethod" "classmethod.__get__"
  ok : FnR P w K mg base (L2.CX P w) k (wadr K c m "classmethod") (spR K F)
section
variable {X : Cx} {W : WX} {pos p apos : Pos} {a : Expr} {es : List Expr} {kws : List Keyword} {fl fk : EvL} {c m x : Str} {k j n : Nat} {F : Fn} {pl : Sem Bool} {ks : List Str} {dl : List D} {ix : Ix}
end
end DL

namespace DL
open PySem L2 PySem.Spec PyProof.Rows GenW

section
variable {O : Nat → Option GenState} {s z : Shared} {X : Cx} {pins : List (Addr × Obj)} {σ : L2.St} {H : Hp}
theorem Tw.bare (T : Tw O s z) (h : AllBare z.gens) : AllBare s.gens := fun y hy => by
  (obtain ⟨i, hi, e⟩ := Array.mem_iff_getElem.mp hy)
  have q : s.gens[i]? = some y := by rw [Array.getElem?_eq_getElem hi, e]
  cases o : O i with
  | none => exact h y (Array.mem_of_getElem? ((T.same i o).trans q))
  | some x =>
    obtain ⟨a, b, _⟩ := T.prot i x o
    rw [q] at a
    cases a
    have := h _ (Array.mem_of_getElem? b)
    rwa [twin_bare] at this
theorem Tw.inv (T : Tw O s z) (I : Inv X pins σ H z) : Inv X pins σ H s := by
  have hb := T.bare I.bare
  obtain ⟨h1, g1, d1, t1, o1⟩ := s
  obtain ⟨h2, g2, d2, t2, o2⟩ := z
  obtain rfl : h2 = h1 := T.heap
  exact ⟨I.ok, T.os ▸ I.os, hb, I.base, I.loc, I.cell, I.free, I.freeC, I.pin, I.hok, I.len⟩
theorem twins_bare (h : AllBare s.gens) : AllBare (twins s).gens := fun y hy => by
  have hy : y ∈ s.gens.map twin := hy
  obtain ⟨x, hx, rfl⟩ := Array.mem_map.mp hy
  rw [twin_bare]
  exact h x hx
theorem Inv.twins (I : Inv X pins σ H s) : Inv X pins σ H (DL.twins s) :=
  ⟨I.ok, I.os, twins_bare I.bare, I.base, I.loc, I.cell, I.free, I.freeC, I.pin, I.hok, I.len⟩
def Ins {α : Type} (Q : α → Shared → Prop) : Prop := ∀ (O : Nat → Option GenState) (a : α) (s z : Shared), Tw O s z → Q a z → Q a s
theorem kept {α : Type} {M : Model} {A : Around} {t : Sem α} {Q : α → Shared → Prop} {E : Value → Shared → Prop} (hQ : Ins Q) (hE : Ins E) (h : wpAny M A t Q E (twins s)) :
    wpAny M A t (fun a s' => Q a s' ∧ KeepG s s') (fun e s' => E e s' ∧ KeepG s s') s :=
  wpAny_mono (wpAny_tw (twins_tw s) h) (fun a s' ⟨z', T, q⟩ => ⟨hQ _ a s' z' T q, T.keepG⟩) fun e s' ⟨z', T, q⟩ => ⟨hE _ e s' z' T q, T.keepG⟩
end

def cut (n : Nat) (h : Heap) : Heap := ⟨h.objs.extract 0 n, h.life⟩
theorem cut_get {n : Nat} {h : Heap} {b : Addr} : (cut n h).get? b = if b < n then h.get? b else none := by
  have key : (h.objs.extract 0 n)[b]? = if b < n then h.objs[b]? else none := by
    rw [Array.getElem?_extract]
    by_cases hb : b < n
    · rw [if_pos hb]
      split
      · rw [Nat.zero_add]
      · rename_i q
        rw [Array.getElem?_eq_none]
        simp only [Nat.sub_zero, Nat.lt_min, not_and] at q
        have := q hb
        omega
    · rw [if_neg hb]
      split
      · rename_i q
        simp only [Nat.sub_zero, Nat.lt_min] at q
        exact absurd q.1 hb
      · rfl
  unfold cut Heap.get?
  simp only [key]
  by_cases hb : b < n
  · simp only [if_pos hb]
  · simp only [if_neg hb]
theorem cut_some {n : Nat} {h : Heap} {b : Addr} {o : Obj} : (cut n h).get? b = some o ↔ b < n ∧ h.get? b = some o := by
  rw [cut_get]
  by_cases hb : b < n
  · simp [hb]
  · simp [hb]
theorem cut_size {n : Nat} {h : Heap} (hn : n ≤ h.objs.size) : (cut n h).objs.size = n := by
  unfold cut
  simp [Array.size_extract, hn]
def cutS (n : Nat) (s : Shared) : Shared := { s with heap := cut n s.heap }
theorem cut_fun {n : Nat} {base h : Heap} : ∀ {l : List PySem.Env}, h.FunFrames base l → (∀ b ∈ frs l, b < n) → (cut n h).FunFrames base l
  | [], _, _ => trivial
  | env :: l, hh, hn => by
    obtain ⟨hk, ⟨L, o, hf, hb, ho, hd⟩, hr⟩ := hh
    refine ⟨hk, ⟨L, o, hf, hb, cut_some.mpr ⟨hn L (List.mem_filterMap.mpr ⟨env, List.mem_cons_self, hf⟩), ho⟩, hd⟩, cut_fun hr fun b hb => ?_⟩
    (obtain ⟨e, he, q⟩ := List.mem_filterMap.mp hb)
    exact hn b (List.mem_filterMap.mpr ⟨e, List.mem_cons_of_mem _ he, q⟩)

structure Gp where
  P : Program
  w : World
  K : PySem.W.Frag
  mg : Str → Option Value
  base : Heap
  N : List Str
  qual : Str
  scope : Scope
  f : Addr
  cd : Value
  A : Around
  outer : List PySem.Env
  n : Nat
  a : Addr
  g : Nat
  φ : List Addr
  T : List D
  fin : Option Exn
  pl : Bool
def Gp.env (G : Gp) : PySem.Env := envOfC G.qual G.scope G.n G.f G.cd
def Gp.X (G : Gp) (s : Shared) (H : Hp) (E : XK) (pn : List (Addr × Obj)) : Cx where
  prog := G.P
  w := G.w
  K := G.K
  mg := G.mg
  base := G.base
  A := G.A.deeper G.env
  N := G.N
  s_0 := s
  H_0 := H
  env := G.env
  outer := G.outer
  stack := G.env :: G.outer
  ex := []
  fn := fun _ => true
  calm := true
  pn := pn
  xe := fun e s' => wpAny (model G.P G.w) (G.A.deeper G.env) (leaving G.env e) (fun _ s'' => L2.CX G.P G.w G.outer H s E e s'' ∧ ∀ p ∈ pn, s''.heap.get? p.1 = some p.2) (fun _ _ => False) s'
section
variable {G : Gp} {s : Shared} {H : Hp} {E : XK} {pn : List (Addr × Obj)}
end

structure Chg (ρ : List Addr) (H : Hp) (ρ' : List Addr) (H' : Hp) : Prop where
  keep : ∀ (a : Addr) (o : HO), H a = some o → a ∉ ρ → (_ : Nt o := by exact trivial) → H' a = some o
  new : ∀ a ∈ ρ', a ∈ ρ ∨ H a = none
  live : ∀ a, H' a = none → H a = none
  tabs : ∀ P, TabF H P → TabF H' P
section
variable {ρ ρ' ρ1 ρ2 : List Addr} {H H' H1 H2 : Hp}
theorem Chg.refl : Chg ρ H ρ H := ⟨fun _ _ h _ _ => h, fun _ h => .inl h, fun _ h => h, fun _ h => h⟩
theorem Chg.trans (a : Chg ρ H ρ1 H1) (b : Chg ρ1 H1 ρ2 H2) : Chg ρ H ρ2 H2 := by
  refine ⟨fun x o h n nt => b.keep x o (a.keep x o h n nt) (fun z => ?_) nt, fun x h => ?_, fun x h => a.live x (b.live x h), fun P t => b.tabs P (a.tabs P t)⟩
  · rcases a.new x z with z | z
    · exact n z
    · rw [z] at h; cases h
  · rcases b.new x h with z | z
    · exact a.new x z
    · exact .inr (a.live x z)
theorem Ext.chg (e : Ext ρ H ρ' H') : Chg ρ H ρ' H' := by
  obtain ⟨t, rfl, ht⟩ := e.pre
  exact ⟨fun a o h n z => e.keep a o h n z, fun a h => (List.mem_append.mp h).imp id (ht a), e.live, e.tabs⟩
theorem Chg.left (c : Chg ρ H ρ' H') (τ : List Addr) : Chg (ρ ++ τ) H (ρ' ++ τ) H' := by
  refine ⟨fun a o h n nt => c.keep a o h (fun z => n (List.mem_append_left _ z)) nt, fun a h => ?_, c.live, c.tabs⟩
  rcases List.mem_append.mp h with z | z
  · exact (c.new a z).imp (List.mem_append_left _) id
  · exact .inl (List.mem_append_right _ z)
theorem Chg.right (c : Chg ρ H ρ' H') (τ : List Addr) : Chg (τ ++ ρ) H (τ ++ ρ') H' := by
  refine ⟨fun a o h n nt => c.keep a o h (fun z => n (List.mem_append_right _ z)) nt, fun a h => ?_, c.live, c.tabs⟩
  rcases List.mem_append.mp h with z | z
  · exact .inl (List.mem_append_left _ z)
  · exact (c.new a z).imp (List.mem_append_right _) id
end
structure StpX (K1 K2 : Kx) (H H' : Hp) : Prop where
  eq : K2.K = K1.K
  keep : ∀ (a : Addr) (o : HO), H a = some o → a ∉ K1.φ → (_ : Nt o := by exact trivial) → H' a = some o
  nin : ∀ a o, H a = some o → a ∉ K1.φ → a ∉ K2.φ
  tabs : ∀ P, TabF H P → TabF H' P
theorem Chg.stp {K : PySem.W.Frag} {φ ρ ρ' : List Addr} {H H' : Hp} (c : Chg ρ H ρ' H') : StpX ⟨K, φ ++ ρ⟩ ⟨K, φ ++ ρ'⟩ H H' := by
  refine ⟨rfl, fun a o h n nt => c.keep a o h (fun z => n (List.mem_append_right _ z)) nt, fun a o h n z => ?_, c.tabs⟩
  rcases List.mem_append.mp z with z | z
  · exact n (List.mem_append_left _ z)
  · rcases c.new a z with z | z
    · exact n (List.mem_append_right _ z)
    · rw [z] at h; cases h
section
variable {K1 K2 : Kx} {ρ : List Addr} {H H' : Hp}
theorem FzT.stp {a : Addr} {xs : List V} (s : StpX K1 K2 H H') (h : FzT H a xs) (n : a ∉ ρ ∧ a ∉ K1.φ) : FzT H' a xs ∧ a ∉ ρ ∧ a ∉ K2.φ := by
  obtain ⟨o, h, d⟩ := h
  exact ⟨⟨o, s.keep a _ h n.2, d⟩, n.1, s.nin a _ h n.2⟩
theorem SqTf.stp {a : Addr} {xs : List V} (s : StpX K1 K2 H H') (h : SqTf K1 ρ H a xs) : SqTf K2 ρ H' a xs := h.elim (fun z => .inl (FzT.stp s z.1 z.2)) fun z => .inr (by rw [s.eq]; exact z)
theorem SqLf.stp {a : Addr} {xs : List V} (s : StpX K1 K2 H H') (h : SqLf K1 ρ H a xs) : SqLf K2 ρ H' a xs := by
  rcases h with ⟨r, n⟩ | k
  · rcases r with e | ⟨o, e⟩
    · exact .inl ⟨.inl (s.keep a _ e n.2), n.1, s.nin a _ e n.2⟩
    · exact .inl ⟨.inr ⟨o, s.keep a _ e n.2⟩, n.1, s.nin a _ e n.2⟩
  · exact .inr (by rw [s.eq]; exact k)
mutual
theorem RD.stp (s : StpX K1 K2 H H') : ∀ {d v}, RD K1 ρ H d v → RD K2 ρ H' d v
  | _, _, .non => .non
  | _, _, .bl b => .bl b
  | _, _, .int i => .int i
  | _, _, .str x => .str x
  | _, _, .tup h r => .tup (h.stp s) (RDs.stp s r)
  | _, _, .itm h n r => .itm (s.keep _ _ h n.2) ⟨n.1, s.nin _ _ h n.2⟩ (RDs.stp s r)
  | _, _, .lst h n r => .lst (s.keep _ _ h n.2) ⟨n.1, s.nin _ _ h n.2⟩ (RDs.stp s r)
  | _, _, .fzl h r => .fzl (h.stp s) (RDs.stp s r)
  | _, _, .ref h => .ref h
  | _, _, .glo => by rw [← s.eq]; exact .glo
  | _, _, .ty n => .ty n
  | _, _, .inst h n r => .inst (by rw [s.eq]; exact s.keep _ _ h n.2) ⟨n.1, s.nin _ _ h n.2⟩ (RFs.stp s r)
  | _, _, .dcv h n r => .dcv (s.keep _ _ h n.2) ⟨n.1, s.nin _ _ h n.2⟩ (RKv.stp s r)
theorem RDs.stp (s : StpX K1 K2 H H') : ∀ {ds vs}, RDs K1 ρ H ds vs → RDs K2 ρ H' ds vs
  | _, _, .nil => .nil
  | _, _, .cons h t => .cons (RD.stp s h) (RDs.stp s t)
theorem RFs.stp (s : StpX K1 K2 H H') : ∀ {ds vs}, RFs K1 ρ H ds vs → RFs K2 ρ H' ds vs
  | _, _, .nil => .nil
  | _, _, .cons h t => .cons (RD.stp s h) (RFs.stp s t)
theorem RKv.stp (s : StpX K1 K2 H H') : ∀ {ds vs}, RKv K1 ρ H ds vs → RKv K2 ρ H' ds vs
  | _, _, .nil => .nil
  | _, _, .cons h t => .cons (RD.stp s h) (RKv.stp s t)
end
theorem RE.stp {env : Env} {σ : L2.St} (s : StpX K1 K2 H H') (h : RE K1 ρ H env σ) : RE K2 ρ H' env σ := L2.Paired.mapP h fun o p q d hd => by
  obtain ⟨v, hv, r⟩ := q d hd
  exact ⟨v, hv, r.stp s⟩
theorem RO.stp {a : Addr} {ob : Ob} {u : HO} (s : StpX K1 K2 H H') (h : RO K1 ρ H a ob u) : RO K2 ρ H' a ob u := by
  cases ob with
  | lst ds => obtain ⟨xs, rfl, r⟩ := h; exact ⟨xs, rfl, r.stp s⟩
  | dic ds => obtain ⟨xs, rfl, r⟩ := h; exact ⟨xs, rfl, L2.Paired.mapP r fun p q z => ⟨z.1, z.2.stp s⟩⟩
  | ins c ds => obtain ⟨dx, xs, rfl, r⟩ := h; exact ⟨dx, xs, by rw [s.eq], r.stp s⟩
  | dct ds => obtain ⟨xs, rfl, r⟩ := h; exact ⟨xs, rfl, r.mapR fun _ _ z => z.stp s⟩
  | fnc i => obtain ⟨T, pm, c, ct, h1, h2, ⟨o, vs, t, h3, r⟩, n⟩ := h; exact ⟨T, pm, c, ct, by rw [s.eq]; exact h1, h2, ⟨o, vs, t, s.keep _ _ h3 n.2, r⟩, n.1, s.nin _ _ h3 n.2⟩
  | exc c fs => obtain ⟨d, gs, rfl, x, y, r⟩ := h; exact ⟨d, gs, by rw [s.eq], fun dx q => ⟨s.keep _ _ (x dx q).1 (x dx q).2.2, (x dx q).2.1, s.nin _ _ (x dx q).1 (x dx q).2.2⟩, y, r.stp s⟩
theorem MOk.stp {M : Mem} (s : StpX K1 K2 H H') (m : MOk K1 ρ M H) (dis : ∀ b ∈ ρ, b ∉ K1.φ) (hid : ∀ a ∈ K2.φ, ∃ u, H' a = some u ∧ Own u) : MOk K2 ρ M H' :=
  ⟨m.nd, m.len, hid, fun l ob a h1 h2 => by
    obtain ⟨u, hu, r⟩ := m.at_ l ob a h1 h2
    exact ⟨u, s.keep a u hu (dis a (List.mem_of_getElem? h2)) r.own.nt, r.stp s⟩, fun P hP => s.tabs P (m.tab P (by rw [← s.eq]; exact hP))⟩
end
end DL

namespace DL
open PySem L2 PySem.Spec PyProof.Rows GenW

def GenObj (o : Obj) (g : Nat) : Prop :=
  o.cls = .type "generator" ∧ (∃ nm qn, o.data = .fields #[.int g 0, nm, qn]) ∧ ∀ (n : Int) (t : Tok), o.slots[0]? = some (some (.int n t)) → ¬ n > 0
structure Gp.Ok (G : Gp) : Prop where
  sc : ∃ ps, GScope G.N ps G.scope
  nocell : ∀ y ∈ G.scope.names, y.2 ≠ .cell
  hd : G.A.handled = none
  low : ∀ b ∈ frs G.outer, b < G.n
  bsz : G.base.objs.size ≤ G.n
  na : G.n < G.a
structure Slp where
  pins : List (Addr × Obj)
  gens : List (Nat × GenState)
abbrev Jw := Nat → List Addr → List Addr → List (Addr × Obj) → Hp → Shared → Prop
abbrev Alive (H : Hp) (l : List Addr) : Prop := ∀ b ∈ l, ∃ u, H b = some u ∧ DL.Own u
structure Wk (G : Gp) (ρc : List Addr) (pc : List (Addr × Obj)) (H : Hp) (s : Shared) : Prop where
  e0 : Env0 G.P G.w G.K G.mg G.base G.A G.outer s H
  pin : ∀ p ∈ pc, s.heap.get? p.1 = some p.2 ∧ H p.1 = none ∧ p.1 ≠ G.n ∧ p.1 ≠ G.a ∧ p.1 ∉ frs G.outer ∧ ∀ v, p.2.data ≠ .cell v
  hid : Alive H (G.φ ++ ρc)
  ga : ∃ go, s.heap.get? G.a = some go ∧ GenObj go G.g ∧ H G.a = none
structure OwnSt (G : Gp) (O : Slp) : Prop where
  pin : ∀ p ∈ O.pins, G.n ≤ p.1 ∧ p.1 ≠ G.a ∧ p.1 ∉ frs G.outer ∧ ∀ v, p.2.data ≠ .cell v
  gen : ∀ x ∈ O.gens, Asleep x.2 ∧ x.1 ≠ G.g
structure OwnOk (O : Slp) (pc : List (Addr × Obj)) (H : Hp) (s : Shared) : Prop where
  pin : ∀ p ∈ O.pins, s.heap.get? p.1 = some p.2 ∧ H p.1 = none
  apart : ∀ p ∈ O.pins, ∀ q ∈ pc, q.1 ≠ p.1
  gen : ∀ x ∈ O.gens, s.gens[x.1]? = some x.2
structure Stepd (G : Gp) (ρg : List Addr) (pc : List (Addr × Obj)) (H : Hp) (s : Shared) (ρg' : List Addr) (H' : Hp) (s' : Shared) : Prop where
  os : s'.os = s.os
  bare : AllBare s'.gens
  un : ∃ ch, Un (frs G.outer) ch H H' s.heap s'.heap ∧ ∀ b ∈ ch, G.n ≤ b ∧ ∀ p ∈ pc, p.1 ≠ b
  hok : HOk G.P G.w H' s'.heap
  pin : ∀ p ∈ pc, s'.heap.get? p.1 = some p.2 ∧ H' p.1 = none
  chg : Chg ρg H ρg' H'
  hid : Alive H' (G.φ ++ ρg')
  ga : ∃ go, s'.heap.get? G.a = some go ∧ GenObj go G.g ∧ H' G.a = none
def GYp (G : Gp) (J : Jw) : Protocol := fun m s₀ v s kap =>
  ∃ i ρg ρc pc H s2, m + i = G.T.length ∧ s₀ = s2.setGen G.g .running ∧ J i ρg ρc pc H s2 ∧
    ∃ d x H' ρg' O, G.T[i]? = some d ∧ (G.pl = true → ρg' = []) ∧ RelV x v ∧ RD ⟨G.K, G.φ ++ ρc⟩ ρg' H' d x ∧ Stepd G ρg pc H s2 ρg' H' s ∧ OwnSt G O ∧ OwnOk O pc H' s ∧
      ∀ ρc' pc' H2 s3, J (i + 1) ρg' ρc' pc' H2 s3 → Wk G ρc' pc' H2 s3 → s3.os = s.os → OwnOk O pc' H2 s3 → Chg ρc H' ρc' H2 → kap (.send .none) (s3.setGen G.g .running)
def EGz (G : Gp) (i : Nat) (ρg ρc : List Addr) (H : Hp) : XK := fun cls d H' => i = G.T.length ∧ ∃ x, G.fin = some x ∧ cls = .ref (gadr G.K x.cls) ∧ puresF x.fs = true ∧
  ∃ ρg', Chg ρg H ρg' H' ∧ Alive H' (G.φ ++ ρg') ∧ ExR ⟨G.K, G.φ ++ ρc⟩ ρg' H' x d
def GRe (G : Gp) (J : Jw) : GenEnd := fun m s₀ r s =>
  ∃ i ρg ρc pc H s2, m + i = G.T.length + 1 ∧ s₀ = s2.setGen G.g .running ∧ J i ρg ρc pc H s2 ∧
    (((r = .ok (.ret .none) ∨ r = .ok .next) ∧ i = G.T.length ∧ G.fin = none ∧ ∃ ρg' H', Stepd G ρg pc H s2 ρg' H' s) ∨
      ∃ e, r = .error e ∧ L2.CX G.P G.w G.outer H (cutS G.n s2) (EGz G i ρg ρc H) e s ∧ (∀ p ∈ pc, s.heap.get? p.1 = some p.2) ∧ ∃ go, s.heap.get? G.a = some go ∧ GenObj go G.g)
structure Wst where
  ρg : List Addr
  ρc : List Addr
  pc : List (Addr × Obj)
  H : Hp
  s : Shared
  go : Obj
def Gp.Xz (G : Gp) (Z : Wst) (i : Nat) : Cx := G.X (cutS G.n Z.s) Z.H (EGz G i Z.ρg Z.ρc Z.H) ((G.a, Z.go) :: Z.pc)
abbrev Gp.Kz (G : Gp) (Z : Wst) : Kx := ⟨G.K, G.φ ++ Z.ρc⟩
structure ZOk (G : Gp) (J : Jw) (Z : Wst) (i : Nat) (s₀ : Shared) : Prop where
  s0 : s₀ = Z.s.setGen G.g .running
  j : J i Z.ρg Z.ρc Z.pc Z.H Z.s
  wk : Wk G Z.ρc Z.pc Z.H Z.s
  sz : G.n < Z.s.heap.objs.size
  at_ : Z.s.heap.get? G.a = some Z.go
  go : GenObj Z.go G.g
structure GAt (G : Gp) (J : Jw) (Z : Wst) (i : Nat) (s₀ : Shared) (ip : List (Addr × Obj)) (pg : List (Nat × GenState)) (an : List (List Addr × Hp)) (ρ : List Addr) (M : Mem) (env : Env) (σ : L2.St) (H : Hp) (s : Shared) : Prop where
  z : ZOk G J Z i s₀
  inv : Inv (G.Xz Z i) ip σ H s
  young : ∀ p ∈ ip, G.n < p.1 ∧ p.1 ≠ G.a ∧ ∀ q ∈ Z.pc, q.1 ≠ p.1
  pg : ∀ x ∈ pg, s.gens[x.1]? = some x.2 ∧ Asleep x.2 ∧ x.1 ≠ G.g
  chg : Chg Z.ρg Z.H ρ H
  mok : MOk (G.Kz Z) ρ M H
  re : RE (G.Kz Z) ρ H env σ
  dis : ∀ b ∈ ρ, b ∉ G.φ ++ Z.ρc
  an : ∀ p ∈ an, Chg p.1 p.2 (ρ ++ Z.ρc) H

section
variable {G : Gp} {J : Jw} {Z : Wst} {i : Nat} {s₀ s : Shared} {ip : List (Addr × Obj)} {pg : List (Nat × GenState)} {an : List (List Addr × Hp)} {ρ : List Addr} {M : Mem} {env : Env} {σ : L2.St} {H : Hp}
theorem Gp.Ok.nocells (ok : G.Ok) : G.env.cells = [] := by
  show cellsFrom (G.n + 1) G.scope.names [] = []
  have : ∀ (l : List (Str × NameKind)) (n : Nat), (∀ y ∈ l, y.2 ≠ .cell) → cellsFrom n l [] = [] := by
    intro l
    induction l with
    | nil => intro n _; rfl
    | cons y l ih =>
      intro n h
      have h1 := h y List.mem_cons_self
      obtain ⟨x, k⟩ := y
      have h2 := ih n fun y hy => h y (List.mem_cons_of_mem _ hy)
      cases k <;> first | exact absurd rfl h1 | (simp only [cellsFrom]; exact h2)
  exact this _ _ ok.nocell
theorem un_cut {fs : List Addr} {n : Nat} {h : Heap} : Un fs [] H H (cut n h) h := by
  refine ⟨fun b o e _ _ _ => (cut_some.mp e).2, fun b o e _ _ _ => ⟨o.slots, (cut_some.mp e).2⟩, fun _ _ _ n _ => n, fun b o e _ => ⟨o, (cut_some.mp e).2⟩, fun _ _ e => e, fun _ _ _ e => e, fun b ps e => ⟨#[], by rw [e]; simp⟩⟩
theorem ok_X {E : XK} {pn pc : List (Addr × Obj)} {ρc : List Addr} (ok : G.Ok) (w : Wk G ρc pc H s) (sz : G.n < s.heap.objs.size) : (G.X (cutS G.n s) H E pn).Ok := by
  obtain ⟨ps, sc⟩ := ok.sc
  have nc : ∀ x, G.env.cells.lookup x = none := fun x => by rw [ok.nocells]; rfl
  have cs : (cut G.n s.heap).objs.size = G.n := cut_size (Nat.le_of_lt sz)
  refine ⟨w.e0.mod, sc.kind, rfl, rfl, ?_, fun x y c h => ?_, fun x h => ?_, fun x c _ h => ?_, fun _ => ok.hd, Around.frames_deeper w.e0.frames, .inr ⟨rfl, rfl⟩, fun b h => (by cases h), fun b o e => ?_, ?_, fun b o e h => (by cases h), fun b h => (by cases h), cut_fun w.e0.funs ok.low, w.e0.frf⟩
  · show (cut G.n s.heap).objs.size ≤ G.n
    exact Nat.le_of_eq cs
  · have h : G.env.cells.lookup x = some c := h
    rw [nc] at h; cases h
  · have hx : G.scope.names.lookup x = some .cell ∨ G.scope.names.lookup x = some .free := h
    rcases hx with e | e
    · exact absurd rfl (ok.nocell _ (PySem.mem_of_lookup e))
    · exact absurd rfl (sc.nofree _ (PySem.mem_of_lookup e))
  · have h : G.env.cells.lookup x = some c := h
    rw [nc] at h; cases h
  · obtain ⟨h1, h2⟩ := w.e0.bs b o e
    exact ⟨cut_some.mpr ⟨Nat.lt_of_lt_of_le (Heap.lt_size e) ok.bsz, h1⟩, h2⟩
  · show G.base.objs.size ≤ (cut G.n s.heap).objs.size
    rw [cs]; exact ok.bsz
theorem GAt.woken (ok : G.Ok) (g : GAt G J Z i s₀ ip pg an ρ M env σ H s) {ρc' : List Addr} {pc' : List (Addr × Obj)} {H2 : Hp} {s3 : Shared} {o : Obj} (ho : s.heap.get? G.n = some o)
    (j : J (i + 1) ρ ρc' pc' H2 s3) (w : Wk G ρc' pc' H2 s3) (os : s3.os = s.os) (ow : OwnOk ⟨(G.n, o) :: ip, pg⟩ pc' H2 s3) (c : Chg Z.ρc H ρc' H2) :
    ∃ Z', Z'.ρc = ρc' ∧ GAt G J Z' (i + 1) (s3.setGen G.g .running) ip pg an ρ M env σ H2 (s3.setGen G.g .running) := by
  obtain ⟨go, hgo, hg1, hg2⟩ := w.ga
  have en := ow.pin (G.n, o) List.mem_cons_self
  have sz : G.n < s3.heap.objs.size := Heap.lt_size en.1
  have nc : ∀ x, G.env.cells.lookup x = none := fun x => by rw [ok.nocells]; rfl
  have stp : StpX (⟨G.K, G.φ ++ Z.ρc⟩ : Kx) ⟨G.K, G.φ ++ ρc'⟩ H H2 := c.stp
  refine ⟨⟨ρ, ρc', pc', H2, s3, go⟩, rfl, ⟨rfl, j, w, sz, hgo, hg1⟩, ?_, fun p hp => ?_, fun x hx => ?_, .refl, ?_, ?_, fun b hb => ?_, fun p hp => ?_⟩
  · refine ⟨ok_X ok w sz, rfl, allBare_setGen w.e0.bare rfl, un_cut, ?_, fun x cc h => ?_, en.2, fun x cc h => ?_, fun p hp => ?_, w.e0.hok, g.inv.len⟩
    · obtain ⟨m, hm, hl⟩ := g.inv.loc
      refine ⟨m, ?_, fun k x v h1 h2 h3 => ?_⟩
      · obtain ⟨ob, es, ep, h4, r⟩ := hm
        have h4 : s.heap.get? G.n = some ob := h4
        rw [ho] at h4
        cases h4
        exact ⟨o, es, ep, en.1, r⟩
      · obtain ⟨u, ru, lk⟩ := hl k x v h1 h2 h3
        refine ⟨u, ru, ?_⟩
        rcases lk with lk | ⟨_, cc, h4, _⟩
        · exact .inl lk
        · have h4 : G.env.cells.lookup x = some cc := h4
          rw [nc] at h4; cases h4
    · have h : G.env.cells.lookup x = some cc := h
      rw [nc] at h; cases h
    · have h : G.env.cells.lookup x = some cc := h
      rw [nc] at h; cases h
    · rcases List.mem_append.mp hp with z | z
      · (rcases List.mem_cons.mp z with z | z)
        · rw [z]
          refine ⟨hgo, hg2, Nat.ne_of_gt ok.na, fun q => ?_, fun v q => ?_⟩
          · exact absurd (Nat.lt_trans (ok.low _ q) ok.na) (Nat.lt_irrefl _)
          · obtain ⟨nm, qn, e⟩ := hg1.2.1
            have q : go.data = .cell v := q
            rw [e] at q; cases q
        · obtain ⟨a1, a2, a3, _, a4, a5⟩ := w.pin p z
          exact ⟨a1, a2, a3, a4, a5⟩
      · obtain ⟨a1, a2⟩ := ow.pin p (List.mem_cons_of_mem _ z)
        obtain ⟨_, _, b3, b4, b5⟩ := g.inv.pin p (List.mem_append_right _ z)
        exact ⟨a1, a2, b3, b4, b5⟩
  · obtain ⟨a1, a2, _⟩ := g.young p hp
    exact ⟨a1, a2, fun q hq => ow.apart p (List.mem_cons_of_mem _ hp) q hq⟩
  · obtain ⟨_, b, d⟩ := g.pg x hx
    refine ⟨?_, b, d⟩
    show (s3.gens.setIfInBounds G.g .running)[x.1]? = _
    rw [Array.getElem?_setIfInBounds_ne (Ne.symm d)]
    exact ow.gen x hx
  · exact g.mok.stp stp g.dis w.hid
  · exact g.re.stp stp
  · intro h
    rcases List.mem_append.mp h with z | z
    · exact g.dis b hb (List.mem_append_left _ z)
    · rcases c.new b z with z | z
      · exact g.dis b hb (List.mem_append_right _ z)
      · obtain ⟨u, hu, _⟩ := g.mok.ownAt (.inl hb)
        rw [hu] at z; cases z
  · exact (g.an p hp).trans (c.right ρ)
end
end DL

namespace DL
open PySem L2 PySem.Spec PyProof.Rows GenW

section
variable {P : Program} {w : World} {A : Around} {R : GenEnd} {Y : Protocol} {n : Nat} {s₀ : Shared} {c : Code} {fs : List Frame} {s : Shared} {env : PySem.Env} {K : Flow → Sem PySem.Fin} {J : Value → Sem PySem.Fin} {gd : Bool → Bool} {lv : List Value → List Value}
end
end DL

namespace DL
open PySem L2 PySem.Spec PyProof.Rows GenW

inductive OutY where
  | nx (ys : List D) (e : Env) (M : Mem)
  | ct (ys : List D) (e : Env) (M : Mem)
  | bk (ys : List D) (e : Env) (M : Mem)
  | rt (ys : List D) (M : Mem)
  | ex (ys : List D) (x : Exn)
  | st
abbrev Gx := Env → Mem → OutY
def OutY.pre (zs : List D) : OutY → OutY
  | .nx ys e M => .nx (zs ++ ys) e M
  | .ct ys e M => .ct (zs ++ ys) e M
  | .bk ys e M => .bk (zs ++ ys) e M
  | .rt ys M => .rt (zs ++ ys) M
  | .ex ys x => .ex (zs ++ ys) x
  | .st => .st
def Fits (G : Gp) (i : Nat) : OutY → Prop
  | .nx ys _ _ => ∃ rest, G.T.drop i = ys ++ rest
  | .ct ys _ _ => ∃ rest, G.T.drop i = ys ++ rest
  | .bk ys _ _ => ∃ rest, G.T.drop i = ys ++ rest
  | .rt ys _ => ∃ rest, G.T.drop i = ys ++ rest
  | .ex ys x => G.T.drop i = ys ∧ G.fin = some x ∧ puresF x.fs = true
  | .st => False
theorem Fits.first {G : Gp} {i : Nat} {ys : List D} {r : OutY} (h : Fits G i (r.pre ys)) : ∃ rest, G.T.drop i = ys ++ rest := by
  cases r with
  | nx zs e M => obtain ⟨rest, h⟩ := h; exact ⟨_, h.trans (List.append_assoc ..)⟩
  | ct zs e M => obtain ⟨rest, h⟩ := h; exact ⟨_, h.trans (List.append_assoc ..)⟩
  | bk zs e M => obtain ⟨rest, h⟩ := h; exact ⟨_, h.trans (List.append_assoc ..)⟩
  | rt zs M => obtain ⟨rest, h⟩ := h; exact ⟨_, h.trans (List.append_assoc ..)⟩
  | ex zs x => exact ⟨_, h.1⟩
  | st => exact h.elim
theorem drop_after {T ys rest : List D} {i : Nat} (h : T.drop i = ys ++ rest) : T.drop (i + ys.length) = rest := by
  rw [← List.drop_drop, h, List.drop_left]
theorem Fits.second {G : Gp} {i : Nat} {ys : List D} {r : OutY} (h : Fits G i (r.pre ys)) : Fits G (i + ys.length) r := by
  cases r with
  | nx zs e M => obtain ⟨rest, h⟩ := h; exact ⟨rest, drop_after (h.trans (List.append_assoc ..))⟩
  | ct zs e M => obtain ⟨rest, h⟩ := h; exact ⟨rest, drop_after (h.trans (List.append_assoc ..))⟩
  | bk zs e M => obtain ⟨rest, h⟩ := h; exact ⟨rest, drop_after (h.trans (List.append_assoc ..))⟩
  | rt zs M => obtain ⟨rest, h⟩ := h; exact ⟨rest, drop_after (h.trans (List.append_assoc ..))⟩
  | ex zs x => exact ⟨drop_after h.1, h.2⟩
  | st => exact h.elim
structure GCode (G : Gp) (c : Code) (fs : List Frame) (gd : Bool → Bool) : Prop where
  over : G.A.over c fs = G.A.deeper G.env
  split : splitAtGen fs = none
  guard : (fs.any Frame.guarded) = false
  gd : gd false = false
abbrev SegG (G : Gp) (J : Jw) (n : Nat) (s₀ : Shared) (c : Code) (t : Sem PySem.Fin) (fs : List Frame) (s : Shared) : Prop := Seg (model G.P G.w) G.A (GRe G J) (GYp G J) (n + 1) s₀ c t fs s
structure GK (G : Gp) (J : Jw) (c : Code) (fs : List Frame) (K : Flow → Sem PySem.Fin) (Jx : Value → Sem PySem.Fin) (ip : List (Addr × Obj)) (pg : List (Nat × GenState)) (an : List (List Addr × Hp)) (i : Nat) (r : OutY) : Prop where
  nx : ∀ ys e M, r = .nx ys e M → ∀ Z n s₀ ρ σ H s, n + (i + ys.length) = G.T.length → GAt G J Z (i + ys.length) s₀ ip pg an ρ M e σ H s → SegG G J n s₀ c (K .next) fs s
  ct : ∀ ys e M, r = .ct ys e M → ∀ Z n s₀ ρ σ H s, n + (i + ys.length) = G.T.length → GAt G J Z (i + ys.length) s₀ ip pg an ρ M e σ H s → SegG G J n s₀ c (K .cont) fs s
  bk : ∀ ys e M, r = .bk ys e M → ∀ Z n s₀ ρ σ H s, n + (i + ys.length) = G.T.length → GAt G J Z (i + ys.length) s₀ ip pg an ρ M e σ H s → SegG G J n s₀ c (K .brk) fs s
  rt : ∀ ys M, r = .rt ys M → ∀ Z n s₀ ρ e σ H s, n + (i + ys.length) = G.T.length → GAt G J Z (i + ys.length) s₀ ip pg an ρ M e σ H s → SegG G J n s₀ c (K (.ret .none)) fs s
  ex : ∀ Z i n s₀ e s, n + i = G.T.length → ZOk G J Z i s₀ → (G.Xz Z i).xe e s → SegG G J n s₀ c (Jx e) fs s
def DGS (G : Gp) (q : Bool) (st : Stmt) (f : Gx) : Prop := ∀ (J : Jw) (ip : List (Addr × Obj)) (pg : List (Nat × GenState)) (an : List (List Addr × Hp)) (i n : Nat) (s₀ : Shared) (c : Code) (fs : List Frame) (K : Flow → Sem PySem.Fin) (Jx : Value → Sem PySem.Fin) (gd : Bool → Bool) (lv : List Value → List Value)
  (Z : Wst) (ρ : List Addr) (M : Mem) (env : Env) (σ : L2.St) (H : Hp) (s : Shared), (q = true → pg = []) → GCode G c fs gd → n + i = G.T.length → GAt G J Z i s₀ ip pg an ρ M env σ H s → Fits G i (f env M) → GK G J c fs K Jx ip pg an i (f env M) →
    SegG G J n s₀ c ((exec st G.env).wrap K Jx gd lv) fs s
theorem DGS.all {G : Gp} {q : Bool} {st : Stmt} {f : Gx} (h : DGS G false st f) : DGS G q st f := fun J ip pg an i n s₀ c fs K Jx gd lv Z ρ M env σ H s _ => h J ip pg an i n s₀ c fs K Jx gd lv Z ρ M env σ H s (fun z => by cases z)

section
variable {G : Gp} {J : Jw} {Z : Wst} {i : Nat} {s₀ s s' : Shared} {ip : List (Addr × Obj)} {pg : List (Nat × GenState)} {an : List (List Addr × Hp)} {ρ ρ' : List Addr} {M M' : Mem} {env e : Env} {σ σ' : L2.St} {H H' : Hp}
theorem GAt.disj (g : GAt G J Z i s₀ ip pg an ρ M env σ H s) (x : Ext ρ H ρ' H') : ∀ b ∈ ρ', b ∉ G.φ ++ Z.ρc := fun b hb hz => by
  obtain ⟨t, rfl, ht⟩ := x.pre
  rcases List.mem_append.mp hb with z | z
  · exact g.dis b z hz
  · obtain ⟨u, hu, _⟩ := g.mok.hid b hz
    rw [ht b z] at hu; cases hu
theorem GAt.step (g : GAt G J Z i s₀ ip pg an ρ M env σ H s) (I : Inv (G.Xz Z i) ip σ' H' s') (x : Ext ρ H ρ' H') (m : MOk (G.Kz Z) ρ' M' H') (r : RE (G.Kz Z) ρ' H' e σ') (k : KeepG s s') : GAt G J Z i s₀ ip pg an ρ' M' e σ' H' s' := by
  refine ⟨g.z, I, g.young, fun y hy => ?_, g.chg.trans x.chg, m, r, g.disj x, fun p hp => (g.an p hp).trans (x.chg.left _)⟩
  obtain ⟨a, b, d⟩ := g.pg y hy
  exact ⟨k _ _ a b, b, d⟩
end
end DL

namespace DL
open PySem L2 PySem.Spec PyProof.Rows GenW

section
variable {G : Gp} {J : Jw} {Z : Wst} {i : Nat} {s₀ s s' : Shared} {ip : List (Addr × Obj)} {pg : List (Nat × GenState)} {an : List (List Addr × Hp)} {ρ ρ' : List Addr} {M M' : Mem} {env e : Env} {σ σ' : L2.St} {H H' : Hp}
end

theorem GK.second {G : Gp} {J : Jw} {c : Code} {fs : List Frame} {K : Flow → Sem PySem.Fin} {Jx : Value → Sem PySem.Fin} {ip : List (Addr × Obj)} {pg : List (Nat × GenState)} {an : List (List Addr × Hp)} {i : Nat} {ys : List D} {r : OutY}
    (k : GK G J c fs K Jx ip pg an i (r.pre ys)) : GK G J c fs K Jx ip pg an (i + ys.length) r := by
  refine ⟨?_, ?_, ?_, ?_, k.ex⟩
  · intro zs e2 M2 r2 Z2 n2 s2 ρ2 σ2 H2 s3 hn2 g2
    rw [Nat.add_assoc, ← List.length_append] at hn2 g2
    exact k.nx _ e2 M2 (by rw [r2]; rfl) Z2 n2 s2 ρ2 σ2 H2 s3 hn2 g2
  · intro zs e2 M2 r2 Z2 n2 s2 ρ2 σ2 H2 s3 hn2 g2
    rw [Nat.add_assoc, ← List.length_append] at hn2 g2
    exact k.ct _ e2 M2 (by rw [r2]; rfl) Z2 n2 s2 ρ2 σ2 H2 s3 hn2 g2
  · intro zs e2 M2 r2 Z2 n2 s2 ρ2 σ2 H2 s3 hn2 g2
    rw [Nat.add_assoc, ← List.length_append] at hn2 g2
    exact k.bk _ e2 M2 (by rw [r2]; rfl) Z2 n2 s2 ρ2 σ2 H2 s3 hn2 g2
  · intro zs M2 r2 Z2 n2 s2 ρ2 e2 σ2 H2 s3 hn2 g2
    rw [Nat.add_assoc, ← List.length_append] at hn2 g2
    exact k.rt _ M2 (by rw [r2]; rfl) Z2 n2 s2 ρ2 e2 σ2 H2 s3 hn2 g2

section
variable {G : Gp} {J : Jw} {Z : Wst} {i : Nat} {s₀ s s' : Shared} {ip ip' : List (Addr × Obj)} {pg pg' : List (Nat × GenState)} {an an' : List (List Addr × Hp)} {ρ ρ' : List Addr} {M M' : Mem} {env e : Env} {σ σ' : L2.St} {H H' : Hp}
theorem GAt.less (g : GAt G J Z i s₀ ip pg an ρ M env σ H s) (h1 : ∀ p ∈ ip', p ∈ ip) (h2 : ∀ p ∈ pg', p ∈ pg) (h3 : ∀ p ∈ an', p ∈ an) : GAt G J Z i s₀ ip' pg' an' ρ M env σ H s :=
  ⟨g.z, g.inv.pins_of fun p hp => g.inv.pin p (List.mem_append_right _ (h1 p hp)), fun p hp => g.young p (h1 p hp), fun x hx => g.pg x (h2 x hx), g.chg, g.mok, g.re, g.dis, fun p hp => g.an p (h3 p hp)⟩
theorem GAt.forget (g : GAt G J Z i s₀ ip pg an ρ M env σ H s) (dead : List Nat) : GAt G J Z i s₀ ip pg an ρ M (wipeE env dead) σ H s := ⟨g.z, g.inv, g.young, g.pg, g.chg, g.mok, g.re.forget dead, g.dis, g.an⟩
theorem GAt.pinned (g : GAt G J Z i s₀ ip pg an ρ M env σ H s) {fp : List Addr} (hf : ∀ b ∈ fp, FpOk (G.Xz Z i) ip H b) (ho : ∀ b ∈ fp, ∃ o, s.heap.get? b = some o ∧ ∀ v, o.data ≠ .cell v) : GAt G J Z i s₀ (ip ++ pinsAt fp s.heap) pg an ρ M env σ H s := by
  refine ⟨g.z, g.inv.pinned hf ho, fun p hp => ?_, g.pg, g.chg, g.mok, g.re, g.dis, g.an⟩
  (rcases List.mem_append.mp hp with z | z)
  · exact g.young p z
  · obtain ⟨hb, e⟩ := of_pinsAt z
    obtain ⟨_, f1, _, f3, _, f5⟩ := hf p.1 hb
    have hn : (cut G.n Z.s.heap).objs.size ≤ p.1 := f3.elim (fun z => by cases z) id
    rw [cut_size (Nat.le_of_lt g.z.sz)] at hn
    have f1 : p.1 ≠ G.n := f1
    exact ⟨Nat.lt_of_le_of_ne hn (Ne.symm f1), fun z => f5 (G.a, Z.go) (List.mem_append_left _ List.mem_cons_self) z.symm, fun q hq => f5 q (List.mem_append_left _ (List.mem_cons_of_mem _ hq))⟩
theorem GAt.fp {fp : List Addr} {h0 : Heap} (g : GAt G J Z i s₀ (ip ++ pinsAt fp h0) pg an ρ M env σ H s) (hd : ∀ p ∈ ip, p.1 ∉ fp) (ho : ∀ b ∈ fp, ∃ o, h0.get? b = some o ∧ ∀ v, o.data ≠ .cell v) (nc : G.env.cells = []) : ∀ b ∈ fp, FpOk (G.Xz Z i) ip H b := fun b hb => by
  obtain ⟨o, e, hc⟩ := ho b hb
  have hm := mem_pinsAt hb e
  obtain ⟨_, a2, a3, a4, _⟩ := g.inv.pin (b, o) (List.mem_append_right _ (List.mem_append_right _ hm))
  obtain ⟨y1, y2, y3⟩ := g.young (b, o) (List.mem_append_right _ hm)
  refine ⟨a2, a3, a4, .inr ?_, fun x c q => ?_, fun p hp => ?_⟩
  · show (cut G.n Z.s.heap).objs.size ≤ b
    rw [cut_size (Nat.le_of_lt g.z.sz)]
    exact Nat.le_of_lt y1
  · have q : G.env.cells.lookup x = some c := q
    rw [nc] at q; cases q
  · rcases List.mem_append.mp hp with z | z
    · (rcases List.mem_cons.mp z with z | z)
      · rw [z]; exact Ne.symm y2
      · exact y3 p z
    · exact fun q => hd p z (by rw [q]; exact hb)
end
end DL

namespace DL
open PySem L2 PySem.Spec PyProof.Rows GenW

end DL

namespace DL
open PySem L2 PySem.Spec PyProof.Rows GenW

def GenAt (h : Heap) (a : Addr) (g : Nat) : Prop := ∃ o, h.get? a = some o ∧ GenObj o g
theorem GenAt.ty {s : Shared} {a : Addr} {g : Nat} (x : GenAt s.heap a g) : s.TypeIs (.ref a) "generator" := let ⟨o, ho, hc, _⟩ := x; ⟨o, ho, hc⟩
section
variable {w : World} {P : Program} {A : Around} {E : Value → Shared → Prop} {s : Shared}
theorem gen_number {M : Model} {a : Addr} {g : Nat} {Q : Nat → Shared → Prop} (hg : GenAt s.heap a g) (h : Q g s) : wpAny M A (Builtin.Generator.genNumber (.ref a)) Q E s := by
  obtain ⟨o, ho, _, ⟨nm, qn, hd⟩, hsl⟩ := hg
  (unfold Builtin.Generator.genNumber)
  (refine wpAny_bind (wpAny_load ho ?_))
  have go : wpAny M A (pure ((g : Int).toNat)) Q E s := by
    (rw [Int.toNat_natCast]; exact wpAny_pure h)
  dsimp only
  rw [hd]
  generalize q : o.slots[0]? = sl at hsl
  cases sl with
  | none => exact go
  | some v =>
    cases v with
    | none => exact go
    | some v =>
      cases v with
      | int n t =>
        have hn := hsl n t rfl
        show wpAny M A (if n > 0 then _ else _) Q E s
        rw [if_neg hn]
        exact go
      | _ => exact go
theorem resume_sleeps {R : GenEnd} {Y : Protocol} {n g : Nat} {gs : GenState} {M : Model} {rr : Resume} {ls : List Value} {α : Type} {kk : GenResult → Sem α} {Q : α → Shared → Prop} (at_ : s.gens[g]? = some gs) (goes : gs.Goes M A R Y n rr (s.setGen g .running))
    (ends : ∀ x z, R n (s.setGen g .running) x z → wpAny M A (kk (End.ret x).result) Q E (z.setGen g .finished))
    (hands : ∀ v z y, y.bare = true ∧ Asleep y → Y (n - 1) (s.setGen g .running) v z (fun r2 s2 => match (generalizing := false) n with | 0 => False | m + 1 => y.Goes M A R Y m r2 s2) → wpAny M A (kk (.yielded v)) Q E (z.setGen g y)) : wpAny M A (.resume g rr ls kk) Q E s := fun Γ p ing => by
  rw [Sem.wp_resume]
  have wk := fun c => Ctx.In.wake ing c p
  have quiet : ∀ en z, SegEnd R Y n (Seg.next M A R Y n) (s.setGen g .running) en z → en.quiet = true := fun en z he => by
    cases en with
    | ret x => rfl
    | susp v g0 l0 k0 c0 p0 f0 => exact he.1
  have rest : ∀ en z, SegEnd R Y n (Seg.next M A R Y n) (s.setGen g .running) en z → Sem.wp M Γ (kk en.result) (fun a _ s' => Q a s') (fun e _ s' => E e s') p (z.setGen g en.genState) := fun en z he => by
    cases en with
    | ret x => exact ends x z he Γ p ing
    | susp v g0 l0 k0 c0 p0 f0 =>
      refine hands v z _ ⟨End.bare_of_quiet he.1, _, _, _, _, _, _, rfl⟩ ?_ Γ p ing
      cases n <;> exact he.2
  cases gs with
  | running => exact goes.elim
  | finished => exact goes.elim
  | fresh c =>
    obtain ⟨rfl, hs⟩ := goes
    obtain ⟨en, z, hr, he⟩ := seg_iff.mp hs (Γ.wake c p) p rfl (wk c)
    refine ⟨_, _, ?_, rest en z he⟩
    unfold Wakes
    rw [at_]
    exact ⟨en, z, hr, quiet en z he, rfl, rfl⟩
  | suspended k0 l0 c0 p0 f0 cl =>
    obtain ⟨en, z, hr, he⟩ := seg_iff.mp goes (Γ.wake c0 p) p0 rfl (wk c0)
    refine ⟨_, _, ?_, rest en z he⟩
    unfold Wakes
    rw [at_]
    exact ⟨en, z, hr, quiet en z he, rfl, rfl⟩
theorem gen_special {a : Addr} {g n : Nat} {gs : GenState} {R : GenEnd} {Y : Protocol} {Q : Option Value → Shared → Prop} (hh : A.handled = none)
    (hl : s.heap.NoLimit) (hroom : A.depth < recursionLimit) (hg : GenAt s.heap a g) (hgs : s.gens[g]? = some gs)
    (hgo : gs.Goes (model P w) A.in1 R Y n (.send .none) (s.setGen g .running))
    (hY : ∀ u s₁ gs', gs'.bare = true ∧ Asleep gs' → Y (n - 1) (s.setGen g .running) u s₁ (fun r' s'' => match (generalizing := false) n with
        | 0 => False
        | m + 1 => gs'.Goes (model P w) A.in1 R Y m r' s'') → Q (some u) (s₁.setGen g gs'))
    (hR : ∀ r s₁, R n (s.setGen g .running) r s₁ → ((r = .ok (.ret .none) ∨ r = .ok .next) ∧ ∀ e h', StopX e h' → (∀ b o, s₁.heap.get? b = some o → h'.get? b = some o) → E e { s₁.setGen g .finished with heap := h' }) ∨
      ∃ e, r = .error e ∧ GenAt s₁.heap a g ∧ NotStop (model P w) e s₁.heap ∧ E e (s₁.setGen g .finished)) :
    wpAny (model P w) A (callSpecial? (.ref a) "__next__") Q E s := by
  refine wpAny_callSpecial?_slot (name := Str.ofString "__next__") hg.ty slot_gen_next (wpAny_call_entry slot_gen_next hg.ty entry_gen_next ?_ (args_gen_next _))
  (show wpAny _ A.in1 (Builtin.Generator.genWake (.ref a) (.send .none)) _ _ s)
  (unfold Builtin.Generator.genWake)
  refine wpAny_bind (wpAny_holding (gen_number hg (wpAny_bind (wpAny_genState hgs ?_))))
  cases gs with
  | running => exact hgo.elim
  | finished => exact hgo.elim
  | _ =>
    (refine wpAny_bind (wpAny_roomToWake hl hroom ?_))
    (show wpAny _ A.in1 (.resume g (.send .none) [] _) _ _ s)
    refine resume_sleeps hgs hgo (fun x s₁ hx => ?_) (fun v s₁ gs' hb hv => ?_)
    · rcases hR x s₁ hx with ⟨hr, hp⟩ | ⟨e, rfl, hg1, hns, hq⟩
      · have hrs : End.result (.ret x) = .returned .none := by
          (rcases hr with hr | hr <;> rw [hr] <;> rfl)
        first | rw [hrs] | simp only [hrs]
        (show wpAny _ A.in1 (newExc (.type "StopIteration") [] >>= _) _ _ _)
        refine wpAny_bind ?_
        simp only [newExc, newTuple]
        (refine wpAny_bind (wpAny_newObj_type ?_ (by size_fits)))
        (refine wpAny_bind (m := firstArgMember _ _) (wpAny_of_eq (a := Value.none) (by first | rfl | (simp only [firstArgMember]; rfl)) ?_))
        (refine wpAny_newObj_type ?_ (by size_fits))
        simp only [raiseNew]
        (refine wpAny_bind (wpAny_bind (wpAny_handled ?_)))
        first | rw [show (A.in1).handled = none from hh] | rw [hh]
        refine wpAny_throw ?_
        refine hp _ _ ⟨_, _, _, rfl, Heap.get?_push_size _ rfl, rfl, rfl, ?_⟩ fun b o hb => Heap.get?_push_of_some _ (Heap.get?_push_of_some _ hb)
        first
          | rfl
          | (rw [Array.getElem?_append_left (by decide)]; exact rfl)
          | kernel_rfl
      · obtain ⟨o, ho, hc, ⟨nm, qn, hd⟩, hsl⟩ := hg1
        (show wpAny _ A.in1 (Builtin.Generator.genLeft (.ref a) e) _ _ _)
        (unfold Builtin.Generator.genLeft Builtin.Generator.madeByALambda)
        (refine wpAny_bind (wpAny_bind (wpAny_load (o := o) ho (wpAny_pure ?_))))
        (refine wpAny_bind (hns _ _ _ _ rfl ?_))
        (rw [Bool.and_false, if_neg Bool.false_ne_true])
        (unfold Builtin.Generator.genEscaped)
        first
          | refine wpAny_bind (hns _ _ _ _ (Eq.refl _) ?_)
          | refine wpAny_bind (wpAny_pure (wpAny_bind (hns _ _ _ _ (Eq.refl _) ?_)))
        (rw [if_pos (show (!false) = true from rfl)])
        first
          | exact wpAny_throw hq
          | exact wpAny_bind (wpAny_throw hq)
    · exact wpAny_pure ⟨v, rfl, hY v s₁ gs' hb hv⟩
end

structure Sleeper (G : Gp) (J : Jw) (i : Nat) (ρg : List Addr) (O : Slp) (ρc : List Addr) (H : Hp) (os : OsState) (gs : GenState) : Prop where
  ost : OwnSt G O
  bare : gs.bare = true
  go : ∀ ρc' pc' H2 s3, J i ρg ρc' pc' H2 s3 → Wk G ρc' pc' H2 s3 → s3.os = os → OwnOk O pc' H2 s3 → Chg ρc H ρc' H2 → gs.Goes (model G.P G.w) G.A (GRe G J) (GYp G J) (G.T.length - i + 1) (.send .none) (s3.setGen G.g .running)

def WokeY (G : Gp) (J : Jw) (i : Nat) (v : Value) (s' : Shared) : Prop := ∃ gs' s₁ ρg ρc pc H s d x H' ρg' O', s' = s₁.setGen G.g gs' ∧ s'.gens[G.g]? = some gs' ∧ J i ρg ρc pc H s ∧ G.T[i]? = some d ∧ (G.pl = true → ρg' = []) ∧ RelV x v ∧ RD ⟨G.K, G.φ ++ ρc⟩ ρg' H' d x ∧
  Stepd G ρg pc H s ρg' H' s₁ ∧ Sleeper G J (i + 1) ρg' O' ρc H' s₁.os gs' ∧ OwnOk O' pc H' s₁ ∧ Asleep gs'
def WokeP (G : Gp) (J : Jw) (i : Nat) (s' : Shared) : Prop := i = G.T.length ∧ G.fin = none ∧ ∃ ρg ρc pc H s s₁ ρg' H' h', J i ρg ρc pc H s ∧ Stepd G ρg pc H s ρg' H' s₁ ∧ s' = { s₁.setGen G.g .finished with heap := h' } ∧ ∀ b o, s₁.heap.get? b = some o → h'.get? b = some o
def WokeE (G : Gp) (J : Jw) (i : Nat) (e : Value) (s' : Shared) : Prop := ∃ ρg ρc pc H s s₁, J i ρg ρc pc H s ∧ L2.CX G.P G.w G.outer H (cutS G.n s) (EGz G i ρg ρc H) e s₁ ∧ (∀ p ∈ pc, s₁.heap.get? p.1 = some p.2) ∧ s' = s₁.setGen G.g .finished
def Gp.NoSt (G : Gp) : Prop := ∀ x, G.fin = some x → PySem.W.subIn G.K (.ref (gadr G.K x.cls)) (.type "StopIteration") = some false
section
variable {G : Gp} {J : Jw} {i : Nat} {ρg ρc ρc' : List Addr} {O : Slp} {H H2 : Hp} {os : OsState} {gs : GenState} {A : Around} {pc : List (Addr × Obj)} {s : Shared}
theorem Wk.nolimit (w : Wk G ρc pc H s) : s.heap.NoLimit := w.e0.mod.nolimit.keeps fun b o e => (w.e0.bs b o e).1
theorem setGen_lt {s : Shared} {g : Nat} {x : GenState} (h : g + 1 ≤ (s.setGen g x).gens.size) : (s.setGen g x).gens[g]? = some x := by
  rw [setGen_size] at h
  exact setGen_at (by omega)
theorem cx_kin (ok : G.Ok) {E : XK} {e : Value} {s' : Shared} (w : Wk G ρc pc H s) (c : L2.CX G.P G.w G.outer H (cutS G.n s) E e s') : G.K.In s'.heap := by
  obtain ⟨a, B, H', cls, d, rfl, fl, hok, ub, _⟩ := c
  refine w.e0.mod.kin.keeps fun b o eb => fl.1 b o ?_
  obtain ⟨h1, h2⟩ := w.e0.bs b o eb
  refine ub.keep b o (cut_some.mpr ⟨Nat.lt_of_lt_of_le (Heap.lt_size eb) ok.bsz, h1⟩) h2 fun hm => ?_
  have := (w.e0.funs.mem hm).1
  rw [eb] at this; cases this
theorem Sleeper.special (S : Sleeper G J i ρg O ρc H os gs) (ok : G.Ok) (ns : G.NoSt) (hwk : ∀ ρg ρc pc H s, J i ρg ρc pc H s → Wk G ρc pc H s) (hA : A.in1 = G.A) (hh : A.handled = none) (hroom : A.depth < recursionLimit) (hle : i ≤ G.T.length) (j : J i ρg ρc' pc H2 s) (hos : s.os = os) (ow : OwnOk O pc H2 s) (cg : Chg ρc H ρc' H2) (hgs : s.gens[G.g]? = some gs) :
    wpAny (model G.P G.w) A (callSpecial? (.ref G.a) "__next__") (fun r s' => ∃ v, r = some v ∧ WokeY G J i v s') (fun e s' => (StopX e s'.heap ∧ WokeP G J i s') ∨ (WokeE G J i e s' ∧ NotStop (model G.P G.w) e s'.heap)) s := by
  have w := hwk _ _ _ _ _ j
  obtain ⟨go, hgo, hg1, _⟩ := w.ga
  have hlt : G.g + 1 ≤ s.gens.size := (Array.getElem?_eq_some_iff.mp hgs).1
  have G0 := S.go ρc' pc H2 s j w hos ow cg
  rw [← hA] at G0
  refine wpAny_gsz (n := G.g + 1) hlt (gen_special hh w.nolimit hroom ⟨go, hgo, hg1⟩ hgs G0 (fun v s₁ gs' hb hv => ?_) fun r s₁ hr => ?_)
  · intro hsz
    obtain ⟨i', ρg1, ρc1, pc1, H1, s1, hi, hs0, j1, d, x, H', ρg', O', hd, hpl, rv, rd, st, os', oo, kk⟩ := hv
    have hlt2 : i' < G.T.length := (List.getElem?_eq_some_iff.mp hd).1
    have hi : G.T.length - i + 1 - 1 + i' = G.T.length := hi
    have ei : i' = i := by omega
    subst ei
    refine ⟨v, rfl, gs', s₁, ρg1, ρc1, pc1, H1, s1, d, x, H', ρg', O', rfl, setGen_lt hsz, j1, hd, hpl, rv, rd, st, ⟨os', hb.1, fun ρc2 pc2 H3 s3 j3 w3 o3 ow3 c3 => ?_⟩, oo, hb.2⟩
    have := kk ρc2 pc2 H3 s3 j3 w3 o3 ow3 c3
    have e : G.T.length - i' = G.T.length - (i' + 1) + 1 := by omega
    rw [e, hA] at this
    exact this
  · obtain ⟨i', ρg1, ρc1, pc1, H1, s1, hi, hs0, j1, h⟩ := hr
    have hi : G.T.length - i + 1 + i' = G.T.length + 1 := hi
    rcases h with ⟨h1, h2, h3, ρg', H', st⟩ | ⟨e, h1, h2, h3, h4⟩
    · have ei : i' = i := by omega
      subst ei
      refine .inl ⟨h1, fun e h' hs hk _ => .inl ⟨hs, h2, h3, ρg1, ρc1, pc1, H1, s1, s₁, ρg', H', h', j1, st, rfl, hk⟩⟩
    · have ei : i' = i := by omega
      subst ei
      have w1 := hwk _ _ _ _ _ j1
      have nst : NotStop (model G.P G.w) e s₁.heap := notStop_of (fun cls d H hE => by
        obtain ⟨_, x, hx, hc, _⟩ := hE
        rw [hc]
        exact ns x hx) (cx_kin ok w1 h2) h2
      exact .inr ⟨e, h1, h4, nst, fun _ => .inr ⟨⟨ρg1, ρc1, pc1, H1, s1, s₁, j1, h2, h3, rfl⟩, nst⟩⟩
theorem Sleeper.next (S : Sleeper G J i ρg O ρc H os gs) (ok : G.Ok) (ns : G.NoSt) (hwk : ∀ ρg ρc pc H s, J i ρg ρc pc H s → Wk G ρc pc H s) (hA : A.in1 = G.A) (hh : A.handled = none) (hroom : A.depth < recursionLimit) (hle : i ≤ G.T.length) (j : J i ρg ρc' pc H2 s) (hos : s.os = os) (ow : OwnOk O pc H2 s) (cg : Chg ρc H ρc' H2) (hgs : s.gens[G.g]? = some gs) :
    wpAny (model G.P G.w) A (pyNext (.ref G.a)) (fun r s' => (∃ v, r = some v ∧ WokeY G J i v s') ∨ (r = none ∧ WokeP G J i s')) (fun e s' => WokeE G J i e s') s := by
  unfold pyNext
  refine wpAny_bind (wpAny_attempt (wpAny_mono (S.special ok ns hwk hA hh hroom hle j hos ow cg hgs) (fun r s' ⟨v, hr, hv⟩ => ?_) fun e s' he => ?_))
  · subst hr
    exact wpAny_pure (.inl ⟨v, rfl, hv⟩)
  · rcases he with ⟨⟨b, o, vs, rfl, ho, hc, hd, h5⟩, hp⟩ | ⟨he, hns⟩
    · refine wpAny_bind (wpAny_isInstance (T := "StopIteration") (b := true) ⟨o, ho, hc⟩ isSubtype_stop ?_)
      exact wpAny_pure (.inr ⟨rfl, hp⟩)
    · refine wpAny_bind (hns _ _ _ _ rfl ?_)
      (rw [if_neg Bool.false_ne_true])
      exact wpAny_throw he
end
end DL

namespace DL
open PySem L2 PySem.Spec PyProof.Rows GenW

abbrev GenF := List D → Option (List D × Option Exn)
structure MadeG (P : Program) (w : World) (K : PySem.W.Frag) (mg : Str → Option Value) (base : Heap) (k : Nat) (outer : List PySem.Env) (φ ρ0 : List Addr) (T : List D) (fin : Option Exn) (pl : Bool) (H : Hp) (s : Shared) (Gf : Around → Gp) (a : Addr) (g : Nat) (o : Obj) (c : Code) (s' : Shared) : Prop where
  ids : ∀ A, (Gf A).P = P ∧ (Gf A).w = w ∧ (Gf A).K = K ∧ (Gf A).mg = mg ∧ (Gf A).base = base ∧ (Gf A).outer = outer ∧ (Gf A).A = A ∧ (Gf A).φ = φ ∧ (Gf A).T = T ∧ (Gf A).fin = fin ∧ (Gf A).a = a ∧ (Gf A).g = g ∧ (Gf A).n = s.heap.objs.size ∧ (Gf A).pl = pl
  hi : s.heap.objs.size < a
  os : s'.os = s.os
  bare : AllBare s'.gens
  old : ∀ (i : Nat) (x : GenState), s.gens[i]? = some x → s'.gens[i]? = some x
  keep : ∀ b o, s.heap.get? b = some o → s'.heap.get? b = some o
  atn : s'.heap.get? s.heap.objs.size = some o
  ata : s'.heap.IsGen a g
  atg : s'.gens[g]? = some (.fresh c)
  go : ∀ A, Room k A → (Gf A).Ok ∧ ∀ J : Jw, (∀ i ρg ρc pc H s, J i ρg ρc pc H s → Wk (Gf A) ρc pc H s) → Sleeper (Gf A) J 0 [] ⟨[(s.heap.objs.size, o)], []⟩ ρ0 H s.os (.fresh c)
structure GFnOk (P : Program) (w : World) (K : PySem.W.Frag) (mg : Str → Option Value) (base : Heap) (k : Nat) (f : Addr) (fd : FuncData) (ps : List Str) (pl : Bool) (F : GenF) : Prop where
  run : ∀ (A : Around) (outer : List PySem.Env) (s : Shared) (H : Hp) (args : Args) (us : List Value) (vs : List V) (φ ρ0 : List Addr) (ds : List D) (T : List D) (fin : Option Exn), Room k A → Env0 P w K mg base A outer s H → BindsTo s fd args (ps.zip us) → Vals vs us → RDs ⟨K, φ ++ ρ0⟩ [] H ds vs → ds.length = ps.length → F ds = some (T, fin) → (∀ q ∈ tabsOf K, TabF H q) →
    codeAny (model P w) A (.call (.ref f) args) (fun r s' => ∃ Gf a g o c, r = .ok (.ret (.ref a)) ∧ MadeG P w K mg base k outer φ ρ0 T fin pl H s Gf a g o c s') s
end DL

namespace DL
open PySem L2 PySem.Spec PyProof.Rows GenW

structure Cons (G : Gp) (X : Cx) : Prop where
  P : G.P = X.prog
  w : G.w = X.w
  K : G.K = X.K
  mg : G.mg = X.mg
  base : G.base = X.base
  outer : G.outer = X.stack
  s0 : X.s_0.heap.objs.size ≤ G.n
  loc : X.env.locals < G.n
  cel : ∀ x c, X.env.cells.lookup x = some c → c < G.n
section
variable {G : Gp} {X : Cx} {pins : List (Addr × Obj)} {σ : L2.St} {H H' : Hp} {s s' : Shared} {ρg ρg' : List Addr} {pc : List (Addr × Obj)}
theorem Stepd.inv (st : Stepd G ρg pc H s ρg' H' s') (C : Cons G X) (I : Inv X pins σ H s) (hpc : ∀ p ∈ X.pn ++ pins, p ∈ pc) : Inv X pins σ H' s' := by
  obtain ⟨ch, un, hch⟩ := st.un
  have hok : HOk X.prog X.w H' s'.heap := by rw [← C.P, ← C.w]; exact st.hok
  rw [C.outer] at un
  refine I.call' st.os un hok st.bare fun b hb => ?_
  obtain ⟨h1, h2⟩ := hch b hb
  exact ⟨.inr (Nat.le_trans C.s0 h1), fun z => absurd C.loc (Nat.not_lt.mpr (by rw [← z]; exact h1)), fun x c e z => absurd (C.cel x c e) (Nat.not_lt.mpr (by rw [z]; exact h1)), fun p hp => h2 p (hpc p hp)⟩
theorem _root_.L2.Inv.more (I : Inv X pins σ H s) (k : ∀ b o, s.heap.get? b = some o → s'.heap.get? b = some o) (os : s'.os = s.os) (bare : AllBare s'.gens) : Inv X pins σ H s' :=
  I.call' (ch := []) os (Un.kept k) (I.hok.kept k) bare fun b z => by cases z
theorem Cons.wk (C : Cons G X) (I : Inv X pins σ H s) (hA : G.A.frames = X.A.frames) {ρc : List Addr} (hpc : ∀ p ∈ pc, p ∈ X.pn ++ pins) (old : ∀ p ∈ pc, p.1 ≠ G.n ∧ p.1 ≠ G.a) (hid : Alive H (G.φ ++ ρc)) (ga : ∃ go, s.heap.get? G.a = some go ∧ GenObj go G.g ∧ H G.a = none) : Wk G ρc pc H s := by
  have e := I.env0
  refine ⟨⟨?_, ?_, ?_, ?_, ?_, ?_, ?_, e.bare⟩, fun p hp => ?_, hid, ga⟩
  · rw [hA, C.outer]; exact e.frames
  · rw [C.K, C.mg, C.base]; exact e.mod
  · rw [C.base]; exact e.bs
  · rw [C.base]; exact e.bsz
  · rw [C.base, C.outer]; exact e.funs
  · rw [C.outer]; exact e.frf
  · rw [C.P, C.w]; exact e.hok
  · obtain ⟨a1, a2, a3, a4, a5⟩ := I.pin p (hpc p hp)
    refine ⟨a1, a2, (old p hp).1, (old p hp).2, fun z => ?_, a5⟩
    rw [C.outer] at z
    rcases List.mem_cons.mp (I.stkSub _ z) with z | z
    · exact a3 z
    · exact a4 z
end
structure CalGn (P : Program) (w : World) (K : PySem.W.Frag) (mg : Str → Option Value) (base : Heap) (k : Nat) (x : Str) (n : Nat) (pl : Bool) (F : GenF) : Prop where
  mg_ : mg x = some (.ref (gadr K x))
  kp : PySem.W.keepIn K (.ref (gadr K x)) = true
  ok : ∃ (fd : FuncData) (ps : List Str), ps.length = n ∧ GFnOk P w K mg base k (gadr K x) fd ps pl F ∧ L2.Binds K fd ps []
structure GenX (X : Cx) (k : Nat) (φ : List Addr) (pins : List (Addr × Obj)) (σ : L2.St) (ρ : List Addr) (H : Hp) (T : List D) (fin : Option Exn) (pl : Bool) (u : Value) (s' : Shared) : Prop where
  go : ∃ (s1 : Shared) (Gf : Around → Gp) (a : Addr) (g : Nat) (o : Obj) (c : Code), u = .ref a ∧ Inv X pins σ H s1 ∧ MadeG X.prog X.w X.K X.mg X.base k X.stack φ ρ T fin pl H s1 Gf a g o c s'
section
variable {X : Cx} {W : WX} {pos p : Pos} {a : Expr} {es : List Expr} {fl : EvL} {x : Str} {k j n : Nat} {pl : Bool} {F : GenF}
end

end DL

namespace DL
open PySem L2 PySem.Spec PyProof.Rows GenW

theorem MOk.chg {K : PySem.W.Frag} {φ ρ : List Addr} {M : Mem} {ρg ρg' : List Addr} {H H' : Hp} (m : MOk ⟨K, φ ++ ρg⟩ ρ M H) (c : Chg ρg H ρg' H') (dis : ∀ b ∈ ρ, b ∉ ρg) (hid : Alive H' (φ ++ ρg')) : MOk ⟨K, φ ++ ρg'⟩ ρ M H' :=
  ⟨m.nd, m.len, hid, fun l ob a h1 h2 => by
    obtain ⟨u, hu, r⟩ := m.at_ l ob a h1 h2
    exact ⟨u, c.keep a u hu (dis a (List.mem_of_getElem? h2)) r.own.nt, r.stp c.stp⟩, fun q hq => c.tabs q (m.tab q hq)⟩
structure SeenG (K : PySem.W.Frag) (φ ρ : List Addr) (M : Mem) (H0 : Hp) (ρg : List Addr) (H : Hp) : Prop where
  mok : MOk ⟨K, φ ++ ρg⟩ ρ M H
  dis : ∀ b ∈ ρ, b ∉ ρg
  keep : ∀ (a : Addr) (o : HO), H0 a = some o → (_ : Nt o := by exact trivial) → H a = some o
  tabs : ∀ P, TabF H0 P → TabF H P
  live : ∀ a, H a = none → H0 a = none
  new : ∀ b ∈ ρg, H0 b = none
theorem SeenG.ext {K : PySem.W.Frag} {φ ρ : List Addr} {M : Mem} {H0 : Hp} {ρg : List Addr} {H : Hp} (x : SeenG K φ ρ M H0 ρg H) : Ext ρ H0 ρ H := ⟨⟨[], by simp, by simp⟩, fun a o h _ z => x.keep a o h z, x.live, x.tabs⟩
theorem SeenG.step {K : PySem.W.Frag} {φ ρ : List Addr} {M : Mem} {H0 : Hp} {ρg ρg' : List Addr} {H H' : Hp} (x : SeenG K φ ρ M H0 ρg H) (c : Chg ρg H ρg' H') (hid : Alive H' (φ ++ ρg')) : SeenG K φ ρ M H0 ρg' H' := by
  have nin : ∀ b ∈ ρg', b ∈ ρg ∨ H b = none := c.new
  refine ⟨x.mok.chg c x.dis hid, fun b hb z => ?_, fun a o h nt => ?_, fun q t => c.tabs q (x.tabs q t), fun a h => x.live a (c.live a h), fun b hb => ?_⟩
  · rcases nin b z with z | z
    · exact x.dis b hb z
    · obtain ⟨u, hu, _⟩ := x.mok.ownAt (.inl hb)
      rw [hu] at z; cases z
  · refine c.keep a o (x.keep a o h nt) (fun z => ?_) nt
    rw [x.new a z] at h; cases h
  · rcases nin b hb with z | z
    · exact x.new b z
    · exact x.live b z
theorem SeenG.start {K : PySem.W.Frag} {φ ρ : List Addr} {M : Mem} {H : Hp} (m : MOk ⟨K, φ⟩ ρ M H) : SeenG K φ ρ M H [] H :=
  ⟨by rw [List.append_nil]; exact m, (fun b _ h => nomatch h), (fun _ _ h _ => h), (fun _ h => h), (fun _ h => h), (fun b h => nomatch h)⟩
theorem less_hid {K : PySem.W.Frag} {φ ρg : List Addr} {H : Hp} : Hid ⟨K, φ ++ ρg⟩ ⟨K, φ⟩ H := ⟨rfl, fun a h => .inl (List.mem_append_left _ h)⟩
section
variable {X : Cx} {W : WX} {pins : List (Addr × Obj)} {σ : L2.St} {H : Hp} {s s' : Shared}
end
section
variable {X : Cx} {W : WX} {pos p : Pos} {e : Expr} {nm : Str} {k j : Nat} {pl : Bool} {f : Env → Mem → Option (List D × Option Exn × Mem)}
end
end DL

namespace DL
open PySem L2 PySem.Spec PyProof.Rows GenW
end DL

namespace DL
open PySem L2 PyProof.Rows PySem.Spec
mutual
theorem NK.hash_eq (w w' : World) : ∀ k : NK, (NK.nk k).hash w = (NK.nk k).hash w'
  | .num i => rfl
  | .tup ks => by rw [NK.nk, NestedKey.hash, NestedKey.hash, NK.hashes_eq w w' ks]
theorem NK.hashes_eq (w w' : World) : ∀ ks : List NK, NestedKey.hashes w (NK.nks ks) = NestedKey.hashes w' (NK.nks ks)
  | [] => rfl
  | k :: ks => by rw [NK.nks, NestedKey.hashes, NestedKey.hashes, NK.hash_eq w w' k, NK.hashes_eq w w' ks]
end
mutual
theorem NK.nk_inj : ∀ {k k' : NK}, NK.nk k = NK.nk k' → k = k'
  | .num i, .num j, h => by
    rw [NK.nk, NK.nk] at h
    injection h with h
    rw [h]
  | .tup ks, .tup ks', h => by
    rw [NK.nk, NK.nk] at h
    injection h with h
    rw [NK.nks_inj h]
  | .num _, .tup _, h => by
    rw [NK.nk, NK.nk] at h
    exact nomatch h
  | .tup _, .num _, h => by
    rw [NK.nk, NK.nk] at h
    exact nomatch h
theorem NK.nks_inj : ∀ {ks ks' : List NK}, NK.nks ks = NK.nks ks' → ks = ks'
  | [], [], _ => rfl
  | k :: ks, k' :: ks', h => by
    rw [NK.nks, NK.nks] at h
    injection h with h1 h2
    rw [NK.nk_inj h1, NK.nks_inj h2]
  | [], _ :: _, h => by
    rw [NK.nks, NK.nks] at h
    exact nomatch h
  | _ :: _, [], h => by
    rw [NK.nks, NK.nks] at h
    exact nomatch h
end
def getT (kvs : List (NK × D)) (k : NK) : Option D := (kvs.find? fun p => decide (p.1 = k)).map (·.2)
def putT (kvs : List (NK × D)) (k : NK) (v : D) : List (NK × D) := if (getT kvs k).isSome then kvs.map fun p => if p.1 = k then (p.1, v) else p else kvs ++ [(k, v)]
def vPut (k : NK) (v : V) (p : NK × Addr × V) : NK × Addr × V := if p.1 = k then (p.1, p.2.1, v) else p
def vGet (xs : List (NK × Addr × V)) (k : NK) : Option (Addr × V) := (xs.find? fun p => decide (p.1 = k)).map (·.2)
def vStore (xs : List (NK × Addr × V)) (k : NK) (a : Addr) (v : V) : List (NK × Addr × V) := if (vGet xs k).isSome then xs.map (vPut k v) else xs ++ [(k, a, v)]
section
variable {K : Kx} {ρ : List Addr} {H : Hp} {kvs : List (NK × D)} {xs : List (NK × Addr × V)} {ys : List (NK × Addr × Value)} {k : NK}
theorem RKt.get (r : RKt K ρ H kvs xs) (k : NK) : (getT kvs k = none ∧ vGet xs k = none) ∨ ∃ d a v, getT kvs k = some d ∧ vGet xs k = some (a, v) ∧ RD K ρ H d v := by
  unfold RKt at r
  induction r with
  | nil => left; exact ⟨rfl, rfl⟩
  | @cons p q ps qs h t ih =>
    by_cases e : p.1 = k
    · have e2 : q.1 = k := h.1 ▸ e
      refine .inr ⟨p.2, q.2.1, q.2.2, ?_, ?_, h.2.2⟩
      · unfold getT; rw [List.find?_cons_of_pos (by simpa using e)]; rfl
      · unfold vGet; rw [List.find?_cons_of_pos (by simpa using e2)]; rfl
    · (have e2 : ¬ q.1 = k := fun z => e (h.1.trans z))
      have g1 : getT (p :: ps) k = getT ps k := by unfold getT; rw [List.find?_cons_of_neg (by simpa using e)]
      have g2 : vGet (q :: qs) k = vGet qs k := by unfold vGet; rw [List.find?_cons_of_neg (by simpa using e2)]
      rw [g1, g2]
      exact ih
theorem RKt.repl {d : D} {v : V} (r : RKt K ρ H kvs xs) (h : RD K ρ H d v) : RKt K ρ H (kvs.map fun p => if p.1 = k then (p.1, d) else p) (xs.map (vPut k v)) := by
  unfold RKt at r ⊢
  induction r with
  | nil => exact .nil
  | @cons p q ps qs hh t ih =>
    refine .cons ?_ ih
    show _ = (vPut k v q).1 ∧ _
    unfold vPut
    dsimp only
    by_cases e : p.1 = k
    · rw [if_pos e, if_pos (hh.1 ▸ e)]
      exact ⟨hh.1, hh.2.1, h⟩
    · rw [if_neg e, if_neg (fun z => e (hh.1.trans z))]
      exact hh
theorem RKt.put {d dk : D} {v : V} {a : Addr} (r : RKt K ρ H kvs xs) (h : RD K ρ H d v) (hk : nkD dk = some k) (rk : RD K ρ H dk (.ref a)) : RKt K ρ H (putT kvs k d) (vStore xs k a v) := by
  unfold putT vStore
  rcases r.get k with ⟨g1, g2⟩ | ⟨_, _, _, g1, g2, _⟩
  · rw [g1, g2]
    exact Paired.snoc r ⟨rfl, ⟨dk, hk, rk⟩, h⟩
  · rw [g1, g2]
    exact r.repl h
theorem RKt.length (r : RKt K ρ H kvs xs) : kvs.length = xs.length := Paired.length r
abbrev RlX (xs : List (NK × Addr × V)) (ys : List (NK × Addr × Value)) : Prop := Paired (fun p q => p.1 = q.1 ∧ p.2.1 = q.2.1 ∧ RelV p.2.2 q.2.2) xs ys
def nkX (ys : List (NK × Addr × Value)) : List (NestedKey × Addr × Value) := ys.map fun x => (x.1.nk, x.2)
theorem RlX.get (r : RlX xs ys) (k : NK) : (vGet xs k = none ∧ atKey (nkX ys) k.nk = none) ∨ ∃ a v u, vGet xs k = some (a, v) ∧ atKey (nkX ys) k.nk = some (a, u) ∧ RelV v u := by
  unfold RlX at r
  induction r with
  | nil => left; exact ⟨rfl, rfl⟩
  | @cons p q ps qs h t ih =>
    by_cases e : p.1 = k
    · have e2 : q.1 = k := h.1 ▸ e
      refine .inr ⟨p.2.1, p.2.2, q.2.2, ?_, ?_, h.2.2⟩
      · unfold vGet; rw [List.find?_cons_of_pos (by simpa using e)]; rfl
      · rw [h.2.1]
        show ((((q.1.nk, q.2) :: nkX qs).find? fun x => decide (x.1 = k.nk)).map (·.2)) = _
        rw [List.find?_cons_of_pos (by simp [e2])]; rfl
    · have e2 : ¬ q.1.nk = k.nk := fun z => e (h.1.trans (NK.nk_inj z))
      have g1 : vGet (p :: ps) k = vGet ps k := by unfold vGet; rw [List.find?_cons_of_neg (by simpa using e)]
      have g2 : atKey (nkX (q :: qs)) k.nk = atKey (nkX qs) k.nk := by
        show ((((q.1.nk, q.2) :: nkX qs).find? fun x => decide (x.1 = k.nk)).map (·.2)) = _
        rw [List.find?_cons_of_neg (by simp [e2])]; rfl
      rw [g1, g2]
      exact ih
def yPut (k : NK) (u : Value) (p : NK × Addr × Value) : NK × Addr × Value := if p.1 = k then (p.1, p.2.1, u) else p
theorem nkX_put (ys : List (NK × Addr × Value)) (k : NK) (u : Value) : (nkX ys).map (putAt k.nk u) = nkX (ys.map (yPut k u)) := by
  unfold nkX
  (rw [List.map_map, List.map_map])
  refine List.map_congr_left fun q _ => ?_
  show putAt k.nk u (q.1.nk, q.2) = ((yPut k u q).1.nk, (yPut k u q).2)
  unfold putAt yPut
  by_cases e : q.1 = k
  · rw [if_pos (show q.1.nk = k.nk by rw [e]), if_pos e]
  · rw [if_neg (fun z => e (NK.nk_inj z)), if_neg e]
theorem RlX.put (r : RlX xs ys) {a : Addr} {v : V} {u : Value} (h : RelV v u) : ∃ ys', storedH (nkX ys) k.nk a u = nkX ys' ∧ RlX (vStore xs k a v) ys' := by
  rcases r.get k with ⟨g1, g2⟩ | ⟨a2, v2, u2, g1, g2, _⟩
  · refine ⟨ys ++ [(k, a, u)], ?_, ?_⟩
    · rw [storedH_new g2]; unfold nkX; rw [List.map_append]; rfl
    · unfold vStore; rw [g1]; exact Paired.snoc r ⟨rfl, rfl, h⟩
  · refine ⟨ys.map (yPut k u), ?_, ?_⟩
    · rw [storedH_old g2, nkX_put]
    · unfold vStore; rw [g1]
      show RlX (xs.map (vPut k v)) (ys.map (yPut k u))
      clear g1 g2
      unfold RlX at r ⊢
      induction r with
      | nil => exact .nil
      | @cons p q ps qs hh t ih =>
        refine .cons ?_ ih
        show (vPut k v p).1 = (yPut k u q).1 ∧ (vPut k v p).2.1 = (yPut k u q).2.1 ∧ RelV (vPut k v p).2.2 (yPut k u q).2.2
        unfold vPut yPut
        by_cases e : p.1 = k
        · rw [if_pos e, if_pos (hh.1 ▸ e)]
          exact ⟨hh.1, hh.2.1, h⟩
        · rw [if_neg e, if_neg (fun z => e (hh.1.trans z))]
          exact hh
end
end DL

namespace DL
open PySem L2 PyProof.Rows PySem.Spec
section
variable {X : Cx} {pins : List (Addr × Obj)} {σ : L2.St} {H : Hp} {s : Shared} {φ ρ : List Addr}
mutual
theorem RD.nested (I : Inv X pins σ H s) : ∀ (d : D) (k : NK) (v : V) (u : Value), RD ⟨X.K, φ⟩ ρ H d v → nkD d = some k → RelV v u → NestedIs s.heap k.nk u
  | .int i, k, _, _, r, h, rv => by
    rw [nkD] at h
    cases h
    cases r
    obtain ⟨t, rfl⟩ := (show ∃ t, _ = Value.int i t from rv)
    exact .int i t
  | .tup ds, k, _, _, r, h, rv => by
    rw [nkD] at h
    obtain ⟨ks, q, rfl⟩ := Option.map_eq_some_iff.mp h
    cases r with
    | @tup _ a xs hh rr =>
      obtain rfl : _ = Value.ref a := rv
      obtain ⟨its, vs, ⟨o, e1, e2, n, e3⟩, _⟩ := I.tuple hh.sq
      exact .tup e1 e2 e3 (by simpa using RDs.nested I ds ks xs its rr q vs)
  | .itm ds, k, _, _, r, h, rv => by
    rw [nkD] at h
    obtain ⟨ks, q, rfl⟩ := Option.map_eq_some_iff.mp h
    cases r with
    | @itm _ a xs hh nn rr =>
      obtain rfl : _ = Value.ref a := rv
      obtain ⟨its, vs, ⟨o, e1, e2, n, e3⟩, _⟩ := I.tuple (SqT.of hh)
      exact .tup e1 e2 e3 (by simpa using RDs.nested I ds ks xs its rr q vs)
  | .non, _, _, _, _, h, _ => by simp [nkD] at h
  | .bl _, _, _, _, _, h, _ => by simp [nkD] at h
  | .str _, _, _, _, _, h, _ => by simp [nkD] at h
  | .lst _, _, _, _, _, h, _ => by simp [nkD] at h
  | .fzl _, _, _, _, _, h, _ => by simp [nkD] at h
  | .ref _, _, _, _, _, h, _ => by simp [nkD] at h
  | .glo _, _, _, _, _, h, _ => by simp [nkD] at h
  | .ty _, _, _, _, _, h, _ => by simp [nkD] at h
  | .inst _ _, _, _, _, _, h, _ => by simp [nkD] at h
  | .dcv _, _, _, _, _, h, _ => by simp [nkD] at h
theorem RDs.nested (I : Inv X pins σ H s) : ∀ (ds : List D) (ks : List NK) (vs : List V) (us : List Value), RDs ⟨X.K, φ⟩ ρ H ds vs → nksD ds = some ks → Vals vs us → NestedAll s.heap (NK.nks ks) us
  | [], ks, _, _, r, h, rv => by
    rw [nksD] at h
    cases h
    cases r
    cases rv
    exact .nil
  | d :: ds, ks, _, _, r, h, rv => by
    rw [nksD] at h
    cases r with
    | cons r1 r2 =>
      cases rv with
      | cons v1 v2 =>
        cases q : nkD d with
        | none => rw [q] at h; exact nomatch h
        | some k =>
          cases q2 : nksD ds with
          | none => rw [q, q2] at h; exact nomatch h
          | some ks2 =>
            rw [q, q2] at h
            cases h
            exact .cons (RD.nested I d k _ _ r1 q v1) (RDs.nested I ds ks2 _ _ r2 q2 v2)
end
def DtK (K : PySem.W.Frag) (H : Hp) (a : Addr) (y : V) (k : NK) (kvs : List (NK × D)) (xs : List (NK × Addr × V)) (b : Addr) : Prop :=
  ∃ φ ρ d, H a = some (.ext (DctAt a xs)) ∧ RKt ⟨K, φ⟩ ρ H kvs xs ∧ y = .ref b ∧ nkD d = some k ∧ RD ⟨K, φ⟩ ρ H d (.ref b) ∧ k.nk.depth ≤ 8
section
variable {a b : Addr} {y v : V} {u r : Value} {k : NK} {kvs : List (NK × D)} {xs : List (NK × Addr × V)} {A : Around} {E : Value → Shared → Prop}
theorem DtK.is (I : Inv X pins σ H s) (g : DtK X.K H a y k kvs xs b) : (nestedKind X.prog X.w).is s.heap k.nk b := by
  obtain ⟨φ, ρ, d, _, _, _, h1, h2, h3⟩ := g
  exact ⟨RD.nested I d _ _ _ h2 h1 rfl, h3⟩
end
end
end DL

namespace DL
open PySem L2 PyProof.Rows PySem.Spec
section
variable {X : Cx} {W : WX} {φ ρ : List Addr} {H : Hp} {M : Mem}
variable {o i e a : Expr} {fo fi fe fa : Ev} {pos : Pos}
end
end DL

namespace DL
open PySem L2 PyProof.Rows PySem.Spec

structure Exc0 (K : PySem.W.Frag) (C : Addr) : Prop where
  ex : PySem.W.excIn K C rteM "RuntimeError.__new__" = true
  kp : (PySem.W.keepIn K (.ref C)) = true
  sub : PySem.W.subIn K (.ref C) (.type "BaseException") = some true
  ty : PySem.W.typeIn K (.ref C) = some (.type "type")
theorem tExc0_ok {K : PySem.W.Frag} {x : Str} (c : tExc0 x K = true) : Exc0 K (gadr K x) := by
  obtain ⟨c1, c⟩ := Bool.and_eq_true_iff.mp c
  obtain ⟨c2, c⟩ := Bool.and_eq_true_iff.mp c
  obtain ⟨c3, c4⟩ := Bool.and_eq_true_iff.mp c
  (exact ⟨c1, c2, of_decide_eq_true c3, of_decide_eq_true c4⟩)
end DL

namespace DL
open PySem L2 PyProof.Rows PySem.Spec
section
variable {prog : Program} {w : World} {A : Around} {E : Value → Shared → Prop} {s : Shared} {K : PySem.W.Frag} {x y C f : Addr} {ox : Obj} {od : Option Obj} {tb : Value}
end
end DL

namespace DL
open PySem L2 PyProof.Rows PySem.Spec
section
variable {X : Cx} {W : WX} {o : Expr} {fo : Ev} {c m : Str} {k j : Nat} {F : Fn} {pos : Pos}
end
end DL

namespace DL
open PySem L2 PyProof.Rows PySem.Spec
section
variable {X : Cx} {W : WX}
end
section
variable {X : Cx} {W : WX} {pos p : Pos} {fk : EvL} {x : Str} {k j : Nat} {F : Fn} {kws : List Keyword} {ks : List Str} {dl : List D} {ix : Ix}
end
end DL

namespace DL
open PySem L2 PySem.Spec PyProof.Rows GenW

section
variable {X : Cx} {W : WX} {pos : Pos} {tg it : Expr} {body : List Stmt} {k j : Nat} {pl : Bool} {f : Env → Mem → Option (List D × Option Exn × Mem)} {cs : List Str}
end
section
variable {X : Cx} {W : WX} {x n : Str} {o : Option Nat} {np p pos : Pos} {b₀ : Stmt} {suite body : List Stmt} {hds : List ExceptHandler} {cs : List Cla} {f : Exn → Sx} {fb : Sx} {h₀ : ExceptHandler} {c : Cla}
end
end DL

namespace DL
open PySem L2 PySem.Spec PyProof.Rows GenW

section
variable {K : PySem.W.Frag} {φ ρg ρ : List Addr} {H : Hp} {M : Mem} {x : Exn} {env : Env} {σ : L2.St}
theorem MOk.less (m : MOk ⟨K, φ ++ ρg⟩ ρ M H) : MOk ⟨K, φ⟩ ρ M H := m.hide less_hid fun b hb => m.hid b (List.mem_append_left _ hb)
theorem ExR.less {d : Option Addr} (h : ExR ⟨K, φ ++ ρg⟩ ρ H x d) : ExR ⟨K, φ⟩ ρ H x d := by
  cases d with
  | none => exact h
  | some dx =>
    obtain ⟨⟨n1, n2⟩, gs, e, r⟩ := h
    exact ⟨⟨n1, fun z => n2 (List.mem_append_left _ z)⟩, gs, e, r.hide less_hid⟩
theorem PostG.less {r : OutS} {Q : L2.St → Hp → Prop} (h : PostG ⟨K, φ⟩ ρ H r Q) : PostG ⟨K, φ ++ ρg⟩ ρ H r Q := by
  cases r with
  | nx e M => exact fun ρ' H' σ' a b c => h ρ' H' σ' a b.less (c.hide less_hid)
  | _ => exact h
theorem PostS.less {W : WX} {r : OutS} {D : Ends} (h : PostS ⟨K, φ⟩ W ρ H r D) : PostS ⟨K, φ ++ ρg⟩ W ρ H r D := by
  cases r with
  | nx e M => exact fun ρ' H' σ' a b c => h ρ' H' σ' a b.less (c.hide less_hid)
  | rt d M => exact fun ρ' H' v a b c => h ρ' H' v a b.less (c.hide less_hid)
  | bk e M => exact fun ρ' H' σ' a b c => h ρ' H' σ' a b.less (c.hide less_hid)
  | ct e M => exact fun ρ' H' σ' a b c => h ρ' H' σ' a b.less (c.hide less_hid)
  | ex x e M => exact fun ρ' H' σ' dx a b c d => h ρ' H' σ' dx a b.less (c.hide less_hid) d.less
  | st => exact h.elim
end
section
variable {X : Cx} {W : WX} {pos : Pos} {tg it : Expr} {body : List Stmt} {k j : Nat} {pl : Bool} {f : Env → Mem → Option (List D × Option Exn × Mem)} {gt : Tg} {fb : Sx}
end
end DL

namespace DL
open PySem L2 PyProof.Rows PySem.Spec

section
variable {X : Cx} {W : WX}
end
end DL

namespace DL
open PySem L2 PySem.Spec PyProof.Rows GenW

def DictO (o : Obj) : Prop := ∃ es ep, o.data = .dict es ep ∧ StrKeys es
theorem DictO.ns {h : Heap} {C : Addr} {o : Obj} (d : DictO o) (e : h.get? C = some o) : ∃ m, h.Ns C m := by
  obtain ⟨es, ep, q, k⟩ := d
  exact ⟨fun n => nsFind es n, o, es, ep, e, q, k, fun _ => rfl⟩
theorem DictO.of {h : Heap} {C : Addr} {m : Str → Option Value} (x : h.Ns C m) : ∃ o, h.get? C = some o ∧ DictO o := by
  obtain ⟨o, es, ep, e, q, k, _⟩ := x
  exact ⟨o, e, es, ep, q, k⟩
theorem DictO.nocell {o : Obj} (d : DictO o) : ∀ v, o.data ≠ .cell v := fun v q => by
  obtain ⟨es, ep, e, _⟩ := d
  rw [e] at q; cases q
section
variable {X : Cx} {W : WX} {pos p1 p2 : Pos} {e : Expr} {y : Str} {scope : Scope} {k j : Nat} {pl : Bool} {f : Env → Mem → Option (List D × Option Exn × Mem)}
end
end DL

namespace DL
open PySem L2 PySem.Spec PyProof.Rows

section
variable {K : Kx} {W : WX} {ρ : List Addr} {H : Hp} {M : Mem} {σ : L2.St}
end
section
variable {X : Cx} {W : WX} {pos p : Pos} {a : Expr} {es : List Expr} {fl : EvL} {x : Str} {k j n : Nat} {F : Fn}
end
end DL

namespace DL
open PySem L2 PySem.Spec PyProof.Rows

section
variable {X : Cx} {W : WX} {pos apos : Pos} {o a : Expr} {es : List Expr} {fo : Ev} {fl : EvL} {c m : Str} {k j n : Nat} {F : Fn}
end
end DL

namespace DL
open PySem L2 PySem.Spec PyProof.Rows

section
variable {X : Cx} {W : WX} {pos : Pos} {e a : Expr} {fe fa : Ev}
end
end DL

namespace DL
open PySem L2 PySem.Spec PyProof.Rows

def upD (l : Nat) : D → D
  | .ref j => if j < l then .ref j else .ref (j + 1)
  | d => d
section
variable {K : Kx} {ρ : List Addr} {H : Hp} {l : Nat}
def mapOb (f : D → D) : Ob → Ob
  | .lst ds => .lst (ds.map f)
  | .ins c fs => .ins c (fs.map fun p => (p.1, f p.2))
  | .dic kvs => .dic (kvs.map fun p => (p.1, f p.2))
  | .dct kvs => .dct kvs
  | .fnc i => .fnc i
  | .exc c fs => .exc c fs
end
end DL

namespace DL
open PySem L2 PySem.Spec PyProof.Rows

theorem erase_perm {α : Type} : ∀ {xs : List α} {l : Nat} {d : α}, xs[l]? = some d → (d :: xs.eraseIdx l).Perm xs
  | [], l, d, h => by simp at h
  | x :: xs, 0, d, h => by
    have : x = d := by simpa using h
    subst this
    exact List.Perm.refl _
  | x :: xs, l + 1, d, h => by
    rw [List.eraseIdx_cons_succ]
    exact (List.Perm.swap x d _).trans ((erase_perm (xs := xs) (l := l) (by simpa using h)).cons x)
def flatD (d : D) : Bool := pureD d || (match d with
  | .ref _ => true
  | _ => false)
def flatOb : Ob → Bool
  | .lst ds => ds.all flatD
  | .ins _ fs => fs.all fun p => flatD p.2
  | .dic kvs => kvs.all fun p => flatD p.2
  | .dct _ => false
  | .fnc _ => false
  | .exc _ _ => false
structure Lk (K K1 : Kx) (l : Nat) (d0 : Addr) (ws : List (Key × V)) (ρ2 : List Addr) (H' H2 : Hp) : Prop where
  eq : K1.K = K.K
  fi : ∀ a, a ∉ K1.φ → a ≠ d0 → a ∉ K.φ
  at_ : ρ2[l]? = some d0
  frz : ∃ od, H' d0 = some (.frz od (.dK ws))
  h2 : H2 = upd H' d0 (.dK ws)
section
variable {K K1 : Kx} {l : Nat} {d0 : Addr} {ws : List (Key × V)} {ρ2 : List Addr} {H' H2 : Hp}
theorem mem_lk (at_ : ρ2[l]? = some d0) {a : Addr} (h : a ∈ ρ2) : a = d0 ∨ a ∈ ρ2.eraseIdx l := by
  exact List.mem_cons.mp ((erase_perm at_).symm.subset h)
theorem Lk.tr (L : Lk K K1 l d0 ws ρ2 H' H2) : Tr K1 K (ρ2.eraseIdx l) ρ2 H' H2 := ⟨L.eq.symm, fun a o e k n1 n2 => by
  obtain ⟨od, fz⟩ := L.frz
  have nd := frz_ne fz e k
  exact ⟨by rw [L.h2, upd_ne nd]; exact e, fun z => (mem_lk L.at_ z).elim nd n1, L.fi a n2 nd⟩⟩
theorem RD.back (L : Lk K K1 l d0 ws ρ2 H' H2) {d : D} {v : V} (r : RD K1 (ρ2.eraseIdx l) H' d v) (h : flatD d = true) : RD K ρ2 H2 (upD l d) v := by
  cases r with
  | @ref j a hj =>
    rw [List.getElem?_eraseIdx] at hj
    show RD K ρ2 H2 (if j < l then .ref j else .ref (j + 1)) (.ref a)
    by_cases z : j < l
    · rw [if_pos z] at hj ⊢; exact .ref hj
    · rw [if_neg z] at hj ⊢; exact .ref hj
  | non => exact .non
  | bl b => exact .bl b
  | int i => exact .int i
  | str x => exact .str x
  | glo => exact RD.tr L.tr .glo rfl
  | ty n => exact .ty n
  | tup h1 r => exact RD.tr L.tr (.tup h1 r) ((Bool.or_false _).symm.trans h)
  | itm h1 n r => exact RD.tr L.tr (.itm h1 n r) ((Bool.or_false _).symm.trans h)
  | lst h1 n r => exact RD.tr L.tr (.lst h1 n r) ((Bool.or_false _).symm.trans h)
  | fzl h1 r => exact RD.tr L.tr (.fzl h1 r) ((Bool.or_false _).symm.trans h)
  | inst h1 n r => exact RD.tr L.tr (.inst h1 n r) ((Bool.or_false _).symm.trans h)
  | dcv h1 n r => exact RD.tr L.tr (.dcv h1 n r) ((Bool.or_false _).symm.trans h)
theorem RDs.back (L : Lk K K1 l d0 ws ρ2 H' H2) : ∀ {ds : List D} {vs : List V}, RDs K1 (ρ2.eraseIdx l) H' ds vs → ds.all flatD = true → RDs K ρ2 H2 (ds.map (upD l)) vs
  | _, _, .nil, _ => .nil
  | _, _, .cons h t, p => by
    rw [List.all_cons] at p
    obtain ⟨p1, p2⟩ := Bool.and_eq_true_iff.mp p
    exact .cons (h.back L p1) (RDs.back L t p2)
theorem RFs.back (L : Lk K K1 l d0 ws ρ2 H' H2) : ∀ {fs : List (Str × D)} {gs : List (Str × V)}, RFs K1 (ρ2.eraseIdx l) H' fs gs → (fs.all fun p => flatD p.2) = true → RFs K ρ2 H2 (fs.map fun p => (p.1, upD l p.2)) gs
  | _, _, .nil, _ => .nil
  | _, _, .cons h t, p => by
    rw [List.all_cons] at p
    obtain ⟨p1, p2⟩ := Bool.and_eq_true_iff.mp p
    exact .cons (h.back L p1) (RFs.back L t p2)
theorem RO.back (L : Lk K K1 l d0 ws ρ2 H' H2) {a : Addr} {ob : Ob} {u : HO} (r : RO K1 (ρ2.eraseIdx l) H' a ob u) (h : flatOb ob = true) : RO K ρ2 H2 a (mapOb (upD l) ob) u := by
  cases ob with
  | lst ds => obtain ⟨xs, e, r⟩ := r; exact ⟨xs, e, r.back L h⟩
  | ins c fs => obtain ⟨dx, gs, e, r⟩ := r; exact ⟨dx, gs, by rw [← L.eq]; exact e, r.back L h⟩
  | dct kvs => cases h
  | fnc i => cases h
  | exc c fs => cases h
  | dic kvs =>
    obtain ⟨ks, e, r⟩ := r
    refine ⟨ks, e, ?_⟩
    clear e
    unfold RKs at r ⊢
    induction r with
    | nil => exact .nil
    | cons h1 t ih =>
      have h' : (flatD _ && List.all _ _) = true := h
      obtain ⟨p1, p2⟩ := Bool.and_eq_true_iff.mp h'
      exact .cons ⟨h1.1, h1.2.back L p1⟩ (ih p2)
def upO (l : Nat) : Option D → Option D
  | some d => if flatD d then some (upD l d) else none
  | none => none
def upM (l : Nat) (kvs : List (Key × D)) (M : Mem) : Mem := (M.map (mapOb (upD l))).insertIdx l (.dic kvs)
theorem RE.back (L : Lk K K1 l d0 ws ρ2 H' H2) {env : Env} {σ : L2.St} (h : RE K1 (ρ2.eraseIdx l) H' env σ) : RE K ρ2 H2 (env.map (upO l)) σ := by
  unfold RE at h ⊢
  induction h with
  | nil => exact .nil
  | @cons o p _ _ a b ih =>
    refine .cons (fun d hd => ?_) ih
    cases o with
    | none => cases hd
    | some e =>
      have hd' : (if flatD e then some (upD l e) else none) = some d := hd
      split at hd'
      · rename_i hp
        cases hd'
        obtain ⟨v, hv, r⟩ := a e rfl
        exact ⟨v, hv, r.back L hp⟩
      · cases hd'
theorem MOk.back (L : Lk K K1 l d0 ws ρ2 H' H2) {M : Mem} {kvs : List (Key × D)} (m : MOk K1 (ρ2.eraseIdx l) M H') (hf : M.all flatOb = true) (hφ : ∀ a ∈ K.φ, a ≠ d0 → a ∈ K1.φ) (rk : RKs K ρ2 H2 kvs ws) : MOk K ρ2 (upM l kvs M) H2 := by
  obtain ⟨hl, el⟩ := List.getElem?_eq_some_iff.mp L.at_
  obtain ⟨od, fz⟩ := L.frz
  have nin : d0 ∉ ρ2.eraseIdx l := fun z => by
    obtain ⟨j, hj⟩ := List.getElem?_of_mem z
    have hlm : j < M.length := by
      rw [← m.len]
      exact (List.getElem?_eq_some_iff.mp hj).1
    obtain ⟨u, hu, r⟩ := m.at_ j M[j] d0 (by simp [hlm]) hj
    rw [fz] at hu
    cases hu
    cases q : M[j] with
    | lst ds => rw [q] at r; obtain ⟨_, e, _⟩ := r; cases e
    | dic ds => rw [q] at r; obtain ⟨_, e, _⟩ := r; cases e
    | ins c ds => rw [q] at r; obtain ⟨_, _, e, _⟩ := r; cases e
    | dct ds => rw [q] at r; obtain ⟨_, e, _⟩ := r; cases e
    | fnc i => rw [q] at r; obtain ⟨_, _, _, _, _, e, _⟩ := r; cases e
    | exc c fs => rw [q] at r; obtain ⟨_, _, e, _⟩ := r; cases e
  have len : M.length = ρ2.length - 1 := by rw [← m.len, List.length_eraseIdx, if_pos hl]
  refine ⟨?_, ?_, fun a ha => ?_, fun j ob a h1 h2 => ?_, fun q hq => by rw [L.h2]; exact (m.tab q (by rw [L.eq]; exact hq)).thaw fz⟩
  · exact (erase_perm L.at_).nodup_iff.mp (List.nodup_cons.mpr ⟨nin, m.nd⟩)
  · unfold upM
    rw [List.length_insertIdx, List.length_map]
    split <;> omega
  · by_cases z : a = d0
    · subst z; exact ⟨.dK ws, by rw [L.h2, upd_same], trivial⟩
    · obtain ⟨u, hu, ow⟩ := m.hid a (hφ a ha z)
      exact ⟨u, by rw [L.h2, upd_ne z]; exact hu, ow⟩
  · unfold upM at h1
    have key : ∀ i ob0, M[i]? = some ob0 → (ρ2.eraseIdx l)[i]? = some a → ∃ u, H2 a = some u ∧ RO K ρ2 H2 a (mapOb (upD l) ob0) u := fun i ob0 g1 g2 => by
      obtain ⟨u, hu, r⟩ := m.at_ i ob0 a g1 g2
      have na : a ≠ d0 := fun z => nin (z ▸ List.mem_of_getElem? g2)
      exact ⟨u, by rw [L.h2, upd_ne na]; exact hu, r.back L (List.all_eq_true.mp hf _ (List.mem_of_getElem? g1))⟩
    rcases Nat.lt_trichotomy j l with z | z | z
    · rw [List.getElem?_insertIdx_of_lt z, List.getElem?_map] at h1
      obtain ⟨ob0, h3, rfl⟩ := Option.map_eq_some_iff.mp h1
      exact key j ob0 h3 (by rw [List.getElem?_eraseIdx, if_pos z]; exact h2)
    · subst z
      rw [List.getElem?_insertIdx_self, if_pos (by rw [List.length_map]; omega)] at h1
      cases h1
      rw [L.at_] at h2
      cases h2
      exact ⟨_, by rw [L.h2, upd_same], ws, rfl, rk⟩
    · rw [List.getElem?_insertIdx_of_gt z, List.getElem?_map] at h1
      obtain ⟨ob0, h3, rfl⟩ := Option.map_eq_some_iff.mp h1
      exact key (j - 1) ob0 h3 (by rw [List.getElem?_eraseIdx, if_neg (by omega), show j - 1 + 1 = j by omega]; exact h2)
end

def OutS.back (l : Nat) (kvs : List (Key × D)) : OutS → OutS
  | .nx e M => if M.all flatOb then .nx (e.map (upO l)) (upM l kvs M) else .st
  | .rt d M => if M.all flatOb && flatD d then .rt (upD l d) (upM l kvs M) else .st
  | _ => .st
section
variable {X : Cx} {W : WX} {pos : Pos} {body : List Stmt} {g : Tg} {fb : Sx} {elts : List Expr} {kk : Nat} {tpos apos cpos xpos : Pos} {x : Str}
end
end DL

namespace DL
open PySem L2 PyProof.Rows PySem.Spec
section
variable {X : Cx}
end
section
variable {X : Cx} {W : WX} {o : Expr} {fo : Ev} {p pos apos cpos : Pos} {k : Nat}
end
end DL

namespace DL
open PySem L2 PySem.Spec PyProof.Rows

mutual
def tupA : D → Bool
  | .int _ => true
  | .bl _ => true
  | .str _ => true
  | .non => true
  | .tup ds => tupAs ds
  | _ => false
termination_by structural x => x
def tupAs : List D → Bool
  | [] => true
  | d :: ds => tupA d && tupAs ds
termination_by structural x => x
end
section
variable {K : Kx} {W : WX} {ρ : List Addr} {H : Hp} {M : Mem} {σ : L2.St}
mutual
theorem RD.tupA {ρc : List Addr} (m : MOk K ρ M H) : ∀ {d v}, RD ⟨K.K, []⟩ ρc H d v → tupA d = true → RD K ρ H d v
  | _, _, .non, _ => .non
  | _, _, .bl b, _ => .bl b
  | _, _, .int i, _ => .int i
  | _, _, .str x, _ => .str x
  | _, _, .tup (a := a) h r, p => .tup (h.elim (fun z => .inl ⟨z.1, ⟨fun y => by
      obtain ⟨⟨o, e, _⟩, _⟩ := z
      obtain ⟨u, hu, ow⟩ := m.ownAt (.inl y)
      rw [hu] at e; cases e; exact ow, fun y => by
      obtain ⟨⟨o, e, _⟩, _⟩ := z
      obtain ⟨u, hu, ow⟩ := m.ownAt (.inr y)
      rw [hu] at e; cases e; exact ow⟩⟩) .inr) (RDs.tupA m r p)
  | _, _, .itm _ _ _, p => by cases p
  | _, _, .lst _ _ _, p => by cases p
  | _, _, .fzl _ _, p => by cases p
  | _, _, .ref _, p => by cases p
  | _, _, .glo, p => by cases p
  | _, _, .ty _, p => by cases p
  | _, _, .inst _ _ _, p => by cases p
  | _, _, .dcv _ _ _, p => by cases p
theorem RDs.tupA {ρc : List Addr} (m : MOk K ρ M H) : ∀ {ds vs}, RDs ⟨K.K, []⟩ ρc H ds vs → tupAs ds = true → RDs K ρ H ds vs
  | _, _, .nil, _ => .nil
  | _, _, .cons h q, p => by
    have p' := Bool.and_eq_true_iff.mp p
    exact .cons (RD.tupA m h p'.1) (RDs.tupA m q p'.2)
end
end
section
variable {X : Cx} {W : WX} {pos p : Pos} {a : Expr} {es : List Expr} {fl : EvL} {x : Str} {k j n : Nat} {F : Fn}
end
end DL

namespace DL
open PySem L2 PyProof.Rows PySem.Spec
section
variable {K : PySem.W.Frag} {d : Addr} {od : Obj} {u : HO} {vs : List Nat} {g : Tg} {ft fe : Ev} {σ : L2.St} {H : Hp}
end
section
variable {X : Cx} {W : WX} {g : Tg} {ft : Ev}
variable {scope : Scope} {own : List (Str × Nat)} {p1 p2 p3 p4 p6 pos : Pos} {x y : Str} {ifs : List Expr}
end
end DL

namespace DL
open PySem L2 PySem.Spec PyProof.Rows

section
variable {P : Program} {w : World} {K : PySem.W.Frag} {mg : Str → Option Value} {base : Heap} {k : Nat} {N ps : List Str} {T : Arguments × Expr × Scope} {fe : Ev}
end
section
variable {P : Program} {w : World} {K : PySem.W.Frag}
end
section
variable {X : Cx} {W : WX} {pos p : Pos} {a : Expr} {es : List Expr} {fo : Ev} {fl : EvL} {k j n : Nat} {F : Nat → Fn} {x : Str}
end
end DL

namespace DL
open PySem L2 PySem.Spec PyProof.Rows
section
variable {X : Cx} {pins : List (Addr × Obj)} {σ : L2.St} {H : Hp} {s : Shared} {h' : Heap}
theorem TabF.more {P c : Addr} {ps : Array Value} {a b : Int} {oc : Obj} {vs : Array Value} {t : Tok} (hP : H P = some (.tbl ps)) (nc : H c = none) (tr : TriplesOk ps.toList) (al : ∀ (pos : Pos) (cv : Value), codeAmong pos ps.toList = some cv → ∃ c, cv = .ref c ∧ FzC H c)
    (hd : oc.data = .fields vs) (hv : vs[1]? = some (.str LQ t)) : TabF (L2.upd (L2.upd H P (.tbl (ps ++ #[rawInt a, rawInt b, .ref c]))) c (.frz oc (.ext fun _ => True))) P := by
  have nPc : P ≠ c := ne_of_none hP nc
  refine ⟨_, by rw [upd_ne nPc, upd_same], ?_, fun pos cv e => ?_⟩
  · rw [Array.toList_append]
    exact PySem.TriplesOk_snoc _ _ _ _ tr
  · rw [Array.toList_append] at e
    have fr : FzC (L2.upd (L2.upd H P (.tbl (ps ++ #[rawInt a, rawInt b, .ref c]))) c (.frz oc (.ext fun _ => True))) c := ⟨oc, vs, t, upd_same, hd, hv⟩
    rcases among_snoc _ tr e with z | z
    · obtain ⟨c0, e1, o, us, x, e2, e3⟩ := al pos cv z
      exact ⟨c0, e1, o, us, x, by rw [upd_ne (ne_of_none e2 nc), upd_ne (fun q => by rw [q, hP] at e2; cases e2)]; exact e2, e3⟩
    · exact ⟨c, z, fr⟩
where
  among_snoc {p' : Pos} {a b : Int} {c cv : Value} (l : List Value) (h : TriplesOk l) (hc : codeAmong p' (l ++ [rawInt a, rawInt b, c]) = some cv) : codeAmong p' l = some cv ∨ cv = c := by
    fun_induction
      TriplesOk l with
    | case1 =>
      (simp only [List.nil_append, rawInt, codeAmong] at hc)
      split at hc
      · (exact .inr (Option.some.inj hc).symm)
      · exact nomatch hc
    | case2 a t b u x rest ih =>
      (simp only [List.cons_append, codeAmong] at hc ⊢)
      split at hc
      · rename_i q
        rw [if_pos q]; exact .inl hc
      · rename_i q
        rw [if_neg q]; exact ih h hc
    | case3 l a1 a2 => exact h.elim
end
section
variable {X : Cx} {W : WX} {params : Arguments} {body : Expr} {scope : Scope} {pos : Pos} {i : Nat} {c P : Addr}
structure Mkr (X : Cx) (c P : Addr) : Prop where
  tabs : tabsOf X.K = [P]
  tb : LamX.TabB X.base X.mg c P
  code : X.env.code = .ref c
  qual : X.env.qual ++ "<lambda>" = LQ
end
end DL

namespace DL
open PySem L2 PySem.Spec PyProof.Rows
structure Zst (z TI TO i1 i2 l1 l2 S : Addr) (xs ys : Array Value) (i : Nat) (h : Heap) : Prop where
  ti : IsPair h TI (.ref i1) (.ref i2)
  it1 : h.IsListIter i1 l1 i
  it2 : h.IsListIter i2 l2 i
  li1 : h.IsList l1 xs
  li2 : h.IsList l2 ys
  zip : (IsZip h z TI TO .none ∧ ∃ a b, IsPair h TO a b) ∨ ∃ T f oT, IsZipHeld h z TI TO T f ∧ h.get? T = some oT ∧ T ≠ z ∧ T ≠ i1 ∧ T ≠ i2 ∧ T ≠ S
section
variable {P : Program} {w : World} {A : Around} {E : Value → Shared → Prop} {s : Shared} {z TI TO i1 i2 l1 l2 S : Addr} {xs ys : Array Value} {i : Nat}
theorem Zst.item {Q : Option Value → Shared → Prop} {x y : Value} (D : ZipApart z TI TO i1 i2 l1 l2) (q : Zst z TI TO i1 i2 l1 l2 S xs ys i s.heap) (hS : S < s.heap.objs.size) (hx : xs[i]? = some x) (hy : ys[i]? = some y)
    (hQ : ∀ h', Zst z TI TO i1 i2 l1 l2 S xs ys (i + 1) h' → IsPair h' s.heap.objs.size x y → h'.objs.size = s.heap.objs.size + 1 → (∀ c o, c ≠ z → c ≠ TO → c ≠ i1 → c ≠ i2 → s.heap.get? c = some o → h'.get? c = some o) → Q (some (.ref s.heap.objs.size)) { s with heap := h' }) :
    wpAny (model P w) A (pyNext (.ref z)) Q E s := by
  obtain ⟨t, a1, a2, b1, b2, zz⟩ := q
  (have lt : ∀ {c o}, s.heap.get? c = some o → s.heap.objs.size ≠ c := fun e => Nat.ne_of_gt (Heap.lt_size e))
  have n1 : s.heap.objs.size ≠ i1 := by obtain ⟨_, e, _⟩ := a1; exact lt e
  have n2 : s.heap.objs.size ≠ i2 := by obtain ⟨_, e, _⟩ := a2; exact lt e
  rcases zz with ⟨hz, a, b, hTO⟩ | ⟨T, f, oT, hz, hT, r1, r2, r3, r4⟩
  · refine wpAny_pyNext_zip_item D hz t hTO a1 a2 b1 b2 hx hy fun h' c1 c2 c3 c4 c5 c6 k => hQ h' ⟨k _ _ D.TIz D.TITO D.TIi1 D.TIi2 t, c3, c4, b1.at fun o e => k _ o D.l1z D.l1TO D.l1i1 D.l1i2 e, b2.at fun o e => k _ o D.l2z D.l2TO D.l2i1 D.l2i2 e, .inr ?_⟩ c5 c6 k
    exact ⟨s.heap.objs.size, false, _, c1, c5, lt hz, n1, n2, Nat.ne_of_gt hS⟩
  · refine wpAny_pyNext_zip_item_held D hz hT t a1 a2 b1 b2 hx hy fun h' c1 c3 c4 c5 c6 k => hQ h' ⟨k _ _ D.TIz D.TIi1 D.TIi2 t, c3, c4, b1.at fun o e => k _ o D.l1z D.l1i1 D.l1i2 e, b2.at fun o e => k _ o D.l2z D.l2i1 D.l2i2 e, .inr ?_⟩ c5 c6 fun c o e1 _ e3 e4 e => k c o e1 e3 e4 e
    exact ⟨T, true, oT, c1, k _ _ r1 r2 r3 hT, r1, r2, r3, r4⟩
theorem Zst.done {Q : Option Value → Shared → Prop} (hh : A.handled = none) (D : ZipApart z TI TO i1 i2 l1 l2) (q : Zst z TI TO i1 i2 l1 l2 S xs ys i s.heap) (he : xs[i]? = none ∨ ys[i]? = none)
    (hQ : ∀ h', (∀ c o, c ≠ z → c ≠ TO → c ≠ i1 → c ≠ i2 → s.heap.get? c = some o → h'.get? c = some o) → Q none { s with heap := h' }) : wpAny (model P w) A (pyNext (.ref z)) Q E s := by
  obtain ⟨t, a1, a2, b1, b2, zz⟩ := q
  rcases zz with ⟨hz, a, b, hTO⟩ | ⟨T, f, oT, hz, hT, r1, r2, r3, r4⟩
  · exact wpAny_pyNext_zip_end hh D hz t hTO a1 a2 b1 b2 he fun h' k => hQ h' k
  · exact wpAny_pyNext_zip_end_held hh D hz hT t a1 a2 b1 b2 he fun h' k => hQ h' fun c o e1 _ e3 e4 e => k c o e1 e3 e4 e
end
structure Zps (xs ys : Array Value) (lo : Addr) (h : Heap) (as : List Addr) : Prop where
  nd : as.Pairwise (· < ·)
  lo : ∀ a ∈ as, lo < a
  at_ : ∀ (j : Nat) (a : Addr), as[j]? = some a → ∃ x y, xs[j]? = some x ∧ ys[j]? = some y ∧ IsPair h a x y
section
variable {P : Program} {w : World} {A : Around} {s : Shared} {R : Result → Shared → Prop} {z TI TO i1 i2 l1 l2 S : Addr} {xs ys : Array Value}
end
section
variable {P : Program} {w : World} {A : Around} {E : Value → Shared → Prop} {s : Shared} {z TI TO i1 i2 l1 l2 : Addr} {xs ys : Array Value}
end
section
variable {X : Cx} {W : WX} {pins : List (Addr × Obj)} {σ : L2.St} {e1 e2 : Expr} {fl : EvL} {p p2 q pos : Pos}
end
theorem tNoTab_ok {K : PySem.W.Frag} {H : Hp} (h : tNoTab K = true) : ∀ P ∈ tabsOf K, TabF H P := fun P hP => by
  rw [List.isEmpty_iff.mp h] at hP
  cases hP
end DL

namespace DL
open PySem L2 PyProof.Rows PySem.Spec
end DL

namespace DL
open PySem L2 PyProof.Rows PySem.Spec
section
variable {P : Program} {w : World} {K : PySem.W.Frag} {mg : Str → Option Value} {base : Heap} {cx : CXT} {k : Nat} {g : Addr} {df : FuncData} {ns N : List Str} {pr : Sp} {x qual : Str} {params : Arguments} {body : List Stmt} {scope : Scope} {dvs : List V} {kws : List (Str × V)}
end
end DL

namespace DL
open PySem L2 PyProof.Rows PySem.Spec

section
variable {X : Cx} {W : WX}
end
section
variable {X : Cx} {c T : Addr}
end
end DL

namespace DL
open PySem L2 PyProof.Rows PySem.Spec
section
variable {X : Cx} {W : WX} {e : Expr} {f g : Ev}
end
end DL

namespace DL
open PySem L2 PyProof.Rows PySem.Spec
theorem RDs.but {K : Kx} {ρ : List Addr} {H : Hp} : ∀ {ds : List D} {vs : List V}, RDs K ρ H ds vs → RDs K ρ H ds.dropLast vs.dropLast
  | _, _, .nil => .nil
  | _, _, .cons r .nil => .nil
  | _, _, .cons r (.cons r2 t) => .cons r (RDs.but (.cons r2 t))
section
variable {X : Cx} {W : WX} {o : Expr} {fo : Ev} {pos apos : Pos}
end
end DL

namespace DL
open PySem L2 PyProof.Rows PySem.Spec
end DL

namespace DL
open PySem L2 PyProof.Rows PySem.Spec PySem.W
end DL

namespace DL
open PySem L2 PyProof.Rows PySem.Spec
end DL

namespace DL
open PySem L2 PyProof.Rows PySem.Spec
section
variable {X : Cx} {W : WX} {pos p apos : Pos} {a : Expr} {es : List Expr} {kws : List Keyword} {fl fk : EvL} {c m x : Str} {k j n : Nat} {F : Fn} {pl : Sem Bool} {ks : List Str} {dl : List D} {ix : Ix}
end
end DL

namespace DL
open PySem L2 PyProof.Rows PySem.Spec
structure CmtK (P : Program) (w : World) (K : PySem.W.Frag) (mg : Str → Option Value) (base : Heap) (k : Nat) (c m : Str) (n : Nat) (ks : List Str) (dl : List D) (ix : Ix) (F : Fn) : Prop where
  mg_ : mg c = some (.ref (gadr K c))
  wr : WrapOk K c m "classmethod" "classmethod.__get__"
  ok : ∃ (fd : FuncData) (ps : List Str), FnOk P w K mg base (L2.CX P w) k (wadr K c m "classmethod") fd ps (spF K ix.length F) ∧ BndK K fd ps (n + 1) ks dl ix
structure SmtK (P : Program) (w : World) (K : PySem.W.Frag) (mg : Str → Option Value) (base : Heap) (k : Nat) (c m : Str) (n : Nat) (ks : List Str) (dl : List D) (ix : Ix) (F : Fn) : Prop where
  mg_ : mg c = some (.ref (gadr K c))
  wr : WrapOk K c m "staticmethod" "staticmethod.__get__"
  ok : ∃ (fd : FuncData) (ps : List Str), FnOk P w K mg base (L2.CX P w) k (wadr K c m "staticmethod") fd ps (spF K ix.length F) ∧ BndK K fd ps n ks dl ix
section
variable {X : Cx} {W : WX} {pos p apos : Pos} {kws : List Keyword} {fk : EvL} {c m : Str} {k j n : Nat} {F : Fn} {pl : Sem Bool} {ks : List Str} {dl : List D} {ix : Ix}
end
end DL

namespace DX
open PySem PySem.W PySem.Calls PyProof.Rows PySem.HandSPX
section
variable {prog : Program}
variable {w : World} {A : Around} {E : Value → Shared → Prop} {R : Result → Shared → Prop} {h : Heap} {g : Array GenState} {d : Drawn} {t : Nat} {os : OsState}
variable {nm q : PySem.Str} {C N : Addr} {bs bm bmB : List Value} {hdct : Bool} {sn : List PySem.Str} {sub : List Value} {ab : Bool} {col : Option Bool} {dd : Option Addr} {k0 k1 k2 k3 k5 : Option Value} {B newId initId : String} {kx : PySem.Str} {kv : Value}

theorem kw_check {M : Model} (F : ExcBaseFacts B newId initId bmB) (hT : ∀ X : String, bm.contains (.type X) = bmB.contains (.type X)) {Q : Unit → Shared → Prop}
    (hC : h.get? C = some (excClassObj nm q C N bs bm hdct sn sub ab col dd k0 k1 k2 k3 k5 newId)) (hq : Q () ⟨h, g, d, t, os⟩) : wpAny M A (checkBuiltinCall newId ⟨[.ref C], [(kx, kv)]⟩) Q E ⟨h, g, d, t, os⟩ := by
  (have hcont : (Value.ref C :: bm).contains (.type B) = true := by rw [List.contains_cons, hT, F.hasB, Bool.or_true])
  have hstar := F.noStar
  (simp only [checkBuiltinCall, F.newKind, F.newSplit, F.newRow])
  (repeat (first | refine wpAny_loadPart_at hC ?_ | (refine wpAny_isSubtype_exc hC ?_; rw [hcont]) | refine wpAny_staticBase_exc hC ?_ | refine wpAny_madeBy_exc hC ?_ | simp only [bne_self_eq_false, Bool.false_eq_true, if_false] | wp_step))
  exact hq

theorem kw_new (F : ExcBaseFacts B newId initId bmB) (hT : ∀ X : String, bm.contains (.type X) = bmB.contains (.type X)) (hC : h.get? C = some (excClassObj nm q C N bs bm hdct sn sub ab col dd k0 k1 k2 k3 k5 newId))
    (hq : R (.ok (.ret (.ref (h.objs.size + 1)))) ⟨(h.push (kdv_tup [])).push (excO C h.objs.size), g, d, t, os⟩) :
    codeAny (model prog w) A (.builtin newId ⟨[.ref C], [(kx, kv)]⟩) R ⟨h, g, d, t, os⟩ := by
  have hends := F.ends
  (have hcB : (Value.ref C :: bm).contains (.type B) = true := by rw [List.contains_cons, hT, F.hasB, Bool.or_true])
  (have hcA : (Value.ref C :: bm).contains (.type "AttributeError") = false := by rw [List.contains_cons, hT, F.noAttr]; rfl)
  (have hcN : (Value.ref C :: bm).contains (.type "NameError") = false := by rw [List.contains_cons, hT, F.noName]; rfl)
  refine _root_.PySem.codeAny_builtinAt F.entry ?_
  (unfold Builtin.«BaseException.__new__»)
  refine _root_.PySem.wpAt_bind ?_
  show _root_.PySem.wpAt _ _ _ (stack >>= _) _ _ _
  refine _root_.PySem.wpAt_bind (_root_.PySem.wpAt_stack fun p below => _root_.PySem.wpAt_of_wpAny ?_)
  wp_walk
  refine _root_.PySem.wpAt_of_wpAny ?_
  rw [F.owner]
  repeat (first | with_reducible refine wpAny_madeHere_exc F.canon hC ?_ | with_reducible refine wpAny_loadPart_at hC ?_ | (with_reducible refine wpAny_isSubtype_exc hC ?_; first | rw [hcB] | rw [hcA] | rw [hcN]) | (fail_if_success skip) | wp_step)
  show R _ _
  rw [Heap.size_push]
  exact hq

theorem kw_type (F : ExcBaseFacts B newId initId bmB) (hT : ∀ X : String, bm.contains (.type X) = bmB.contains (.type X)) {fI : Addr} {Q : Fin → Shared → Prop} (hC : h.get? C = some (excClassObj nm q C N bs bm hdct sn sub ab col dd k0 k1 k2 k3 k5 newId))
    (hi : W.Looks (model prog w) h (typeLookup (.ref C) "__init__") (some (.ref fI))) (hb : ∀ self, W.Looks (model prog w) h (bindSpecial (.ref fI) self) (.ref fI, [self]))
    (hq : codeAny (model prog w) A (.call (.ref fI) ⟨[.ref (h.objs.size + 1)], [(kx, kv)]⟩) (fun r s' => match r with | .ok (.ret v) => v = .none ∧ Q (.done (.ret (.ref (h.objs.size + 1)))) s' | .ok _ => False | .error e => E e s')
      ⟨(h.push (W.kdv_tup [])).push (excO C h.objs.size), g, d, t, os⟩) :
    wpAny (model prog w) A (Builtin.«type.__call__» ⟨[.ref C], [(kx, kv)]⟩) Q E ⟨h, g, d, t, os⟩ := by
  repeat (first | with_reducible refine wpAny_loadPart_at hC ?_ | with_reducible refine wpAny_madeBy_exc hC ?_ | (fail_if_success skip) | wp_step)
  refine codeAny_call_builtin_code (Code.quiet_builtin _ F.quiet) (kw_check F hT hC ?_)
  refine kw_new F hT hC ?_
  show wpAny _ _ _ _ _ _
  have k : ∀ b o, h.get? b = some o → ((h.push (W.kdv_tup [])).push (excO C h.objs.size)).get? b = some o := fun b o e => Heap.get?_push_of_some _ (Heap.get?_push_of_some _ e)
  have hC₁ := k _ _ hC
  have hget : ((h.push (W.kdv_tup [])).push (excO C h.objs.size)).get? (h.objs.size + 1) = some (excO C h.objs.size) := by heap_get
  (have hcC : (Value.ref C :: bm).contains (.ref C) = true := by simp)
  have i1 := hi.keeps k
  (have b1 := (hb (.ref (h.objs.size + 1))).keeps k)
  unfold isInstance
  repeat (first | with_reducible refine wpAny_loadPart_at hget ?_ | (with_reducible refine wpAny_isSubtype_exc hC₁ ?_; rw [hcC]) | (fail_if_success skip) | wp_step)
  (show wpAny _ _ (typeLookup (.ref C) _) _ _ _)
  refine i1.at ?_
  (refine wpAny_holding (wpAny_bind (b1.at ?_)))
  (refine wpAny_bind (wpAny_call (codeAny_mono hq fun r s' z => ?_)))
  (rcases r with e | (v | _ | _ | _) <;> first | exact z | exact z.elim | skip)
  obtain ⟨rfl, z⟩ := z
  first
    | exact (wpAny_pure (wpAny_pure z))
    | (wp_walk; exact z)

theorem kw_call (F : ExcBaseFacts B newId initId bmB) (hT : ∀ X : String, bm.contains (.type X) = bmB.contains (.type X)) {fI : Addr} (hC : h.get? C = some (excClassObj nm q C N bs bm hdct sn sub ab col dd k0 k1 k2 k3 k5 newId))
    (hi : W.Looks (model prog w) h (typeLookup (.ref C) "__init__") (some (.ref fI))) (hb : ∀ self, W.Looks (model prog w) h (bindSpecial (.ref fI) self) (.ref fI, [self]))
    (hq : codeAny (model prog w) (A.under (.builtin "type.__call__" ⟨[.ref C], [(kx, kv)]⟩)) (.call (.ref fI) ⟨[.ref (h.objs.size + 1)], [(kx, kv)]⟩) (W.InitBack (h.objs.size + 1) R)
      ⟨(h.push (W.kdv_tup [])).push (excO C h.objs.size), g, d, t, os⟩) :
    codeAny (model prog w) A (.call (.ref C) ⟨[], [(kx, kv)]⟩) R ⟨h, g, d, t, os⟩ := by
  have f1 := tc_lookup
  have f2 := tc_bind (.ref C)
  (have hTy : (⟨h, g, d, t, os⟩ : Shared).TypeIs (.ref C) "type" := ⟨_, hC, rfl⟩)
  refine codeAny_of_tree ?_
  (show wpAny _ _ (callAny (.ref C) _) _ _ _)
  (repeat (any_goals (first | assumption | with_reducible refine wpAny_loadPart_at hC ?_ | wp_step)))
  refine ⟨rfl, ?_⟩
  refine codeAny_call_builtin_at (Code.quiet_builtin _ (by decide +kernel)) entry_typeCall (wpAny_check_type_call_sub hC (kw_type F hT hC hi hb ?_))
  (refine codeAny_mono hq fun r s' z => ?_)
  (rcases r with e | (v | _ | _ | _) <;> exact z)
end
end DX

namespace DX
open PySem PySem.W PySem.Calls PyProof.Rows PySem.HandSPX
abbrev Fxk := Fy fun f x v => ⟨[x], [(f, v)]⟩
section
variable {prog : Program} {w : World} {A : Around} {R : Result → Shared → Prop} {s : Shared} {K : Frag} {mg : PySem.Str → Option Value} {cA fA : Addr} {b : Bx} {file f : PySem.Str} {base : Heap}
theorem madeK (T : Fxk K file f b cA fA) (bo : b.Ok) (pf : Pf prog file) (hsu : mg "super" = none) (Mo : L2.Mod K mg base) (bk : ∀ a o, base.get? a = some o → s.heap.get? a = some o) {v : Value}
    (hlim : s.heap.NoLimit) (hroom : A.depth + 1 < recursionLimit) (hq : ∀ h' tk e d, Got f s.heap h' e cA d v → R (.ok (.ret (.ref e))) { s with heap := h', toks := tk }) :
    codeAny (model prog w) A (.call (.ref cA) ⟨[], [(f, v)]⟩) R s := by
  have X : K.In s.heap := fun a o e => bk a o (Mo.kin a o e)
  obtain ⟨nmC, N', qnC, bs, bm, hdct, sn, sub, ab, col, dd, k0, k1, k2, k3, k5, hC, hT⟩ := excInit_of X T.exI
  obtain ⟨hh, g, dr, tk, os⟩ := s
  have k : ∀ a o, hh.get? a = some o → ((hh.push (kdv_tup [])).push (excO cA hh.objs.size)).get? a = some o := fun a o e => Heap.get?_push_of_some _ (Heap.get?_push_of_some _ e)
  have ge : ((hh.push (kdv_tup [])).push (excO cA hh.objs.size)).get? (hh.objs.size + 1) = some (excO cA hh.objs.size) := by heap_get
  have hnk : K.lookup (hh.objs.size + 1) = none := by
    cases e : K.lookup (hh.objs.size + 1) with
    | none => rfl
    | some o =>
      have z : hh.get? (hh.objs.size + 1) = some o := X _ _ e
      (exact absurd (Nat.lt_of_succ_lt (Heap.lt_size z)) (Nat.lt_irrefl _))
  refine kw_call bo.FB hT hC (looks_findIn X T.iC) (fun self => bind_fn X self T.tI) ?_
  refine init_runs (s := ⟨(hh.push (kdv_tup [])).push (excO cA hh.objs.size), g, dr, tk, os⟩) T bo pf hsu Mo (fun a o e => k a o (bk a o e)) (hlim.keeps k) ge hnk hroom ?_
  intro h' tk' dx t1 l
  have old : ∀ a o, hh.get? a = some o → h'.get? a = some o := fun a o e => l.keep a o (Nat.ne_of_lt (Nat.lt_succ_of_lt (Heap.lt_size e))) (k a o e)
  have z : hh.objs.size + 1 + 1 ≤ dx := by
    have q := l.dbig
    rw [Heap.size_push, Heap.size_push] at q
    exact q
  exact ⟨rfl, hq h' tk' (hh.objs.size + 1) dx ⟨old, Nat.le_succ _, ⟨_, _, l.obj, rfl, rfl, rfl, rfl⟩, (show hh.objs.size ≤ dx by omega), l.dne, l.ns⟩⟩
end
end DX
namespace DL
open PySem L2 PyProof.Rows PySem.Spec
theorem xc_ok {P : Program} {w : World} {H : Hp} {h : Heap} {a C : Addr} {d : Option Addr} {oe : Obj} {vs : Array Value} (e : h.get? a = some oe) (z : oe.cls = .ref C) (zd : oe.dict = d) (zf : oe.data = .fields vs) : ObjOk P w H h a (.ext (XcAt a C d)) :=
  ⟨⟨oe, vs, e, z, zd, zf⟩, ⟨oe, e⟩, fun _ _ ⟨o, v, q, r⟩ k => ⟨o, v, k o q, r⟩⟩
section
variable {X : Cx}
variable {pins : List (Addr × Obj)} {σ : L2.St} {H : Hp} {s : Shared}
theorem took {f : Str} {C e d : Addr} {v : V} {u : Value} {Q : VK} {hp h' : Heap} {g : Array GenState} {dr : Drawn} {tk tk' : Nat} {os : OsState} (I : Inv X pins σ H ⟨hp, g, dr, tk, os⟩) (M : DX.Got f hp h' e C d u) (rv : RelV v u)
    (q : ∀ d e, H d = none → H e = none → d ≠ e → Q (.ref e) (upd (upd H d (.xd [(f, v)])) e (.ext (XcAt e C (some d))))) :
    ∃ (x : V) (H' : Hp), Inv X pins σ H' ⟨h', g, dr, tk', os⟩ ∧ RelV x (.ref e) ∧ Q x H' := by
  (obtain ⟨oe, fv, hoe, hc, hd, hdat, h1⟩ := M.obj)
  (obtain ⟨G', g1, g2⟩ := restrict h' fun b => decide (b ≠ e))
  (have gk : ∀ b, b ≠ e → G'.get? b = h'.get? b := fun b hb => g1 b (decide_eq_true hb))
  (have ge : G'.get? e = none := g2 e (by simp))
  (have old : ∀ b o, hp.get? b = some o → G'.get? b = some o := fun b o q => (gk b (Nat.ne_of_lt (Nat.lt_of_lt_of_le (Heap.lt_size q) M.new))).trans (M.keep b o q))
  have ob : ObjOk X.prog X.w (upd H d (.xd [(f, v)])) G' d (.xd [(f, v)]) := ⟨_, M.ns.at (fun o q => (gk d M.dne).trans q), fun f => relO_one rv f⟩
  have J : Inv X pins σ (upd H d (.xd [(f, v)])) ⟨G', g, dr, tk', os⟩ := I.laid (t' := tk') old M.dbig ob
  have hn : H e = none := I.hok.fresh M.new
  have hn2 : (upd H d (.xd [(f, v)])) e = none := by rw [upd_ne (Ne.symm M.dne)]; exact hn
  have J2 : Inv X pins σ (upd (upd H d (.xd [(f, v)])) e (.ext (XcAt e C (some d)))) ⟨h', g, dr, tk', os⟩ := J.laidN (t' := tk') (fun b o q => by
    by_cases hb : b = e
    · (have q' : G'.get? b = some o := q)
      rw [hb, ge] at q'; cases q'
    · exact (gk b hb).symm.trans q) ge hn2 (xc_ok hoe hc hd hdat)
  exact ⟨.ref e, _, J2, rfl, q d e (I.hok.fresh M.dbig) hn M.dne⟩
end
section
variable {X : Cx} {W : WX} {file f x : Str} {b : DX.Bx} {fI : Addr}
abbrev tMkX (K : PySem.W.Frag) (f x : Str) (ta : TA) : TE := fun σ H Q => ta σ H fun vs H1 => ∃ v, vs = [v] ∧ ∀ d e, H1 d = none → H1 e = none → d ≠ e → Q (.ref e) (upd (upd H1 d (.xd [(f, v)])) e (.ext (XcAt e (gadr K x) (some d))))
theorem pe_mkX {a : Expr} {ta : TA} {p pos : Pos} {k : Nat} (T : DX.Fx X.K file f b (gadr X.K x) fI) (bo : b.Ok) (pf : DX.Pf X.prog file) (hsu : X.mg "super" = none) (hm : X.mg x = some (.ref (gadr X.K x))) (hr : Room k X.A) (ha : PA X [a] ta) (hg : Gl X x) (hdb : (x == ("__debug__" : Str)) = false)
    (he : starEach (a :: []) X.env = (false, eval a X.env) :: starEach [] X.env) (hpl : (backTo pos (starEach [] X.env)).any (·.1) = false) :
    PE X (.Call (.Name x p) [a] [] pos) (tMkX X.K f x ta) := by
  (refine ⟨fun pins s σ H Q I h => ?_⟩)
  (refine wpAny_Call_Name_kw (ld_glob I hg hm ?_ hdb))
  (refine PySem.W.callWith_K (h₀ := X.base) I.ok.mod.kin T.kC (thn (ha.run pos pins s σ H _ I h) fun us s1 hh => ?_) he hpl)
  (obtain ⟨vs, H1, I1, r1, v, ev, q1⟩ := hh)
  subst ev
  refine ⟨I1.kIn, ?_⟩
  cases r1 with
  | cons rv rn =>
    rename_i v' us'
    cases rn
    show wpAny _ _ (call (.ref (gadr X.K x)) [v']) _ _ _
    have hlim := I1.nolimit
    have bk := I1.bk
    have Mo := I1.mod
    (obtain ⟨hp, g, dr, tk, os⟩ := s1)
    refine wpAny_call (DX.made T bo pf hsu Mo bk hlim (by have := hr.dp; omega) fun h' tk' e d M => ?_)
    exact took I1 M rv q1
theorem pe_mkXK {kws : List Keyword} {ta : TA} {p pos : Pos} {k : Nat} (T : DX.Fxk X.K file f b (gadr X.K x) fI) (bo : b.Ok) (pf : DX.Pf X.prog file) (hsu : X.mg "super" = none) (hm : X.mg x = some (.ref (gadr X.K x))) (hr : Room k X.A) (ha : PK X kws ta) (hg : Gl X x) (hdb : (x == ("__debug__" : Str)) = false)
    (hks : (backToKw pos (keywordEach kws X.env)).filterMap (·.1) = [f]) (hall : (backToKw pos (keywordEach kws X.env)).all (·.1.isSome) = true)
    (hpl : ((backTo pos (starEach [] X.env)).any (·.1) || (backToKw pos (keywordEach kws X.env)).any (·.1.isNone)) = false) :
    PE X (.Call (.Name x p) [] kws pos) (tMkX X.K f x ta) := by
  (refine ⟨fun pins s σ H Q I h => ?_⟩)
  (refine wpAny_Call_Name_kw (ld_glob I hg hm ?_ hdb))
  refine PySem.W.callWith_KW0 (h₀ := X.base) I.ok.mod.kin T.kC hall ?_ hpl
  refine thn (ha.run pos pins s σ H _ I h) fun us s1 hh => ?_
  (obtain ⟨vs, H1, I1, r1, v, ev, q1⟩ := hh)
  subst ev
  refine ⟨I1.kIn, ?_⟩
  rw [hks]
  cases r1 with
  | cons rv rn =>
    rename_i v' us'
    cases rn
    show wpAny _ _ (call (.ref (gadr X.K x)) [] [(f, v')]) _ _ _
    have hlim := I1.nolimit
    have bk := I1.bk
    have Mo := I1.mod
    (obtain ⟨hp, g, dr, tk, os⟩ := s1)
    refine wpAny_call (DX.madeK T bo pf hsu Mo bk hlim (by have := hr.dp; omega) fun h' tk' e d M => ?_)
    exact took I1 M rv q1
end

section
variable {K : Kx} {ρ : List Addr} {H : Hp} {M : Mem}
def excD (M : Mem) (d : D) : Option (Str × List (Str × D)) := match d with
  | .ref l => match M[l]? with
    | some (.exc c fs) => some (c, fs)
    | _ => none
  | _ => none
theorem excD_ok {d : D} {v : V} {c : Str} {fs : List (Str × D)} (m : MOk K ρ M H) (r : RD K ρ H d v) (e : excD M d = some (c, fs)) :
    ∃ a dx gs, v = .ref a ∧ H a = some (.ext (XcAt a (gadr K.K c) dx)) ∧ (∀ x, dx = some x → H x = some (.xd gs)) ∧ (dx = none → gs = []) ∧ RFs K ρ H fs gs := by
  unfold excD at e
  split at e
  · rename_i l
    split at e
    · rename_i c' fs' hl
      cases e
      cases r with
      | @ref _ a ha =>
        obtain ⟨u, hu, dx, gs, rfl, h1, h2, h3⟩ := m.at_ _ _ _ hl ha
        exact ⟨a, dx, gs, rfl, hu, fun x q => (h1 x q).1, h2, h3⟩
    · cases e
  · cases e
end
def newX (x : Str) (fs : List (Str × D)) (M : Mem) : Out := .ok (.ref M.length) (M ++ [.exc x fs])
section
variable {K : Kx} {W : WX} {ρ : List Addr} {H : Hp} {M : Mem} {σ : L2.St}
theorem newX_sound {x f : Str} {d : D} {v : V} {Q : VK} (m : MOk K ρ M H) (r : RD K ρ H d v) (h : Post K W ρ σ H (newX x [(f, d)] M) Q) {dx e : Addr} (h1 : H dx = none) (h2 : H e = none) (ne : dx ≠ e) :
    Q (.ref e) (upd (upd H dx (.xd [(f, v)])) e (.ext (XcAt e (gadr K.K x) (some dx)))) := by
  have m1 := m.new (o := .xd [(f, v)]) h1
  have e1 : Ext ρ H ρ (upd H dx (.xd [(f, v)])) := .new h1
  have h3 : (upd H dx (.xd [(f, v)])) e = none := by rw [upd_ne (Ne.symm ne)]; exact h2
  have e2 : Ext ρ (upd H dx (.xd [(f, v)])) (ρ ++ [e]) (upd (upd H dx (.xd [(f, v)])) e (.ext (XcAt e (gadr K.K x) (some dx)))) := .push h3
  have fr := m.fresh h1
  have hx : (upd (upd H dx (.xd [(f, v)])) e (.ext (XcAt e (gadr K.K x) (some dx)))) dx = some (.xd [(f, v)]) := by rw [upd_ne ne, upd_same]
  have m2 : MOk K (ρ ++ [e]) (M ++ [.exc x [(f, d)]]) (upd (upd H dx (.xd [(f, v)])) e (.ext (XcAt e (gadr K.K x) (some dx)))) := m1.push h3 ⟨some dx, [(f, v)], rfl, fun y q => by
    cases q
    exact ⟨hx, fun z => by
      rcases List.mem_append.mp z with z | z
      · exact fr.1 z
      · exact ne (List.mem_singleton.mp z), fr.2⟩, fun q => (nomatch q), .cons (RD.ext (e1.trans e2) r) .nil⟩
  have gx : (ρ ++ [e])[M.length]? = some e := by rw [← m.len, List.getElem?_append_right (Nat.le_refl _), Nat.sub_self]; rfl
  exact h _ _ _ (e1.trans e2) m2 (.ref gx)
theorem newX_sound0 {x : Str} {Q : VK} (m : MOk K ρ M H) (h : Post K W ρ σ H (newX x [] M) Q) {e : Addr} (h2 : H e = none) :
    Q (.ref e) (upd H e (.ext (XcAt e (gadr K.K x) none))) := by
  have e2 : Ext ρ H (ρ ++ [e]) (upd H e (.ext (XcAt e (gadr K.K x) none))) := .push h2
  have m2 : MOk K (ρ ++ [e]) (M ++ [.exc x []]) (upd H e (.ext (XcAt e (gadr K.K x) none))) := m.push h2 ⟨none, [], rfl, fun y q => (nomatch q), fun _ => rfl, .nil⟩
  have gx : (ρ ++ [e])[M.length]? = some e := by rw [← m.len, List.getElem?_append_right (Nat.le_refl _), Nat.sub_self]; rfl
  exact h _ _ _ e2 m2 (.ref gx)
end
def eMakeX (x f : Str) (fa : Ev) : Ev := fun env M => (fa env M).bind fun d M1 => newX x [(f, d)] M1
def eMakeX0 (x : Str) : Ev := fun _ M => newX x [] M
section
variable {X : Cx} {W : WX} {file f x : Str} {b : DX.Bx} {fI : Addr}
theorem de_mkX {a : Expr} {fa : Ev} {p pos : Pos} {k : Nat} (T : DX.Fx X.K file f b (gadr X.K x) fI) (bo : b.Ok) (pf : DX.Pf X.prog file) (hsu : X.mg "super" = none) (hm : X.mg x = some (.ref (gadr X.K x))) (hr : Room k X.A) (ha : DE X W a fa) (hg : Gl X x := by rfl) (hdb : (x == ("__debug__" : Str)) = false := by decide)
    (hst : starEach (a :: []) X.env = (false, eval a X.env) :: starEach [] X.env := by rfl) (hpl : (backTo pos (starEach [] X.env)).any (·.1) = false := by rfl) :
    DE X W (.Call (.Name x p) [a] [] pos) (eMakeX x f fa) := by
  obtain ⟨ta, pa, sa⟩ := ha
  refine ⟨_, pe_mkX T bo pf hsu hm hr (pa_cons pa pa_nil hst) hg hdb hst hpl, fun φ ρ env M σ H Q e m h => ?_⟩
  refine sa φ ρ env M σ H _ e m (Post.bind h fun d M1 ρ1 H1 v a1 b1 c1 h1 => ?_)
  exact ⟨v, rfl, fun dx y q1 q2 ne => newX_sound (K := ⟨X.K, φ⟩) b1 c1 h1 q1 q2 ne⟩
theorem de_mkXK {a : Expr} {fa : Ev} {p pos kp : Pos} {k : Nat} (T : DX.Fxk X.K file f b (gadr X.K x) fI) (bo : b.Ok) (pf : DX.Pf X.prog file) (hsu : X.mg "super" = none) (hm : X.mg x = some (.ref (gadr X.K x))) (hr : Room k X.A) (ha : DE X W a fa) (hg : Gl X x := by rfl) (hdb : (x == ("__debug__" : Str)) = false := by decide)
    (hks : (backToKw pos (keywordEach [⟨some f, a, kp⟩] X.env)).filterMap (·.1) = [f] := by rfl) (hall : (backToKw pos (keywordEach [⟨some f, a, kp⟩] X.env)).all (·.1.isSome) = true := by rfl)
    (hpl : ((backTo pos (starEach [] X.env)).any (·.1) || (backToKw pos (keywordEach [⟨some f, a, kp⟩] X.env)).any (·.1.isNone)) = false := by rfl) :
    DE X W (.Call (.Name x p) [] [⟨some f, a, kp⟩] pos) (eMakeX x f fa) := by
  obtain ⟨ta, pa, sa⟩ := ha
  refine ⟨_, pe_mkXK T bo pf hsu hm hr (pk_cons pa pk_nil) hg hdb hks hall hpl, fun φ ρ env M σ H Q e m h => ?_⟩
  refine sa φ ρ env M σ H _ e m (Post.bind h fun d M1 ρ1 H1 v a1 b1 c1 h1 => ?_)
  exact ⟨v, rfl, fun dx y q1 q2 ne => newX_sound (K := ⟨X.K, φ⟩) b1 c1 h1 q1 q2 ne⟩
theorem de_mkX0 {p pos : Pos} (T : Exc0 X.K (gadr X.K x)) (hm : X.mg x = some (.ref (gadr X.K x))) (hg : Gl X x := by rfl) (hdb : (x == ("__debug__" : Str)) = false := by decide) : DE X W (.Call (.Name x p) [] [] pos) (eMakeX0 x) := by
  refine ⟨fun σ H Q => ∀ e, H e = none → Q (.ref e) (upd H e (.ext (XcAt e (gadr X.K x) none))), ⟨fun pins s σ H Q I h => ?_⟩, fun φ ρ env M σ H Q e m h y q2 => newX_sound0 (K := ⟨X.K, φ⟩) m h q2⟩
  (refine wpAny_Call_Name_kw (ld_glob I hg hm ?_ hdb))
  refine PySem.W.callWith_K0 I.kIn T.kp ?_
  obtain ⟨bm, N, nm, qn, bs, hdct, sn, sub, ab, col, dd, k0, k1, k2, k3, k5, mN, hC, hN, hni, T2⟩ := exc_obj I.kIn T.ex
  refine wpAny_call_exc_subT PySem.F.excBase_RuntimeError T2 hC hN hni (fun h' e hm => ?_) (by show 0 ≤ sizeLine; exact Nat.zero_le _)
  have hn : H e = none := I.hok.gone hm.new
  (obtain ⟨t, ht, _, _⟩ := hm.there)
  exact ⟨.ref e, _, I.laidN hm.keeps hm.new hn (xc_ok ht rfl rfl rfl), rfl, h e hn⟩
end
def eXFld (x f : Str) (fo : Ev) : Ev := fun env M => (fo env M).bind fun d M1 => match excD M1 d with
  | some (c, fs) => if c = x then (match fs.lookup f with
    | some v => .ok v M1
    | none => .st) else .st
  | none => .st
theorem de_xfld {X : Cx} {W : WX} {x f : Str} {e : Expr} {fo : Ev} {pos : Pos} (T : XfC X.K (gadr X.K x)) (hno : PySem.W.findIn X.K (.ref (gadr X.K x)) f = some none) (he : DE X W e fo) (hb : attributeBase e f X.env (eval e X.env) = eval e X.env := by rfl) :
    DE X W (.Attribute e f pos) (eXFld x f fo) := by
  obtain ⟨te, pe, se⟩ := he
  refine ⟨fun σ H Q => te σ H fun y H1 => ∃ a dd fs v, y = .ref a ∧ H1 a = some (.ext (XcAt a (gadr X.K x) (some dd))) ∧ H1 dd = some (.xd fs) ∧ fs.lookup f = some v ∧ Q v H1, ⟨fun pins s σ H Q I h => ?_⟩, fun φ ρ env M σ H Q e m h => ?_⟩
  · refine attr_of hb (thn (pe.run pins s σ H _ I h) fun u s1 hh => ?_)
    obtain ⟨y, H1, I1, ry, a, dd, fs, v, rfl, ha, hd, l, q⟩ := hh
    (obtain rfl : u = Value.ref a := ry)
    obtain ⟨⟨oe, vs, he, hc, hdc, hf⟩, _, _⟩ := I1.hok a _ ha
    have hx : ObjOk X.prog X.w H1 s1.heap dd (.xd fs) := I1.hok dd _ hd
    obtain ⟨mA, hns, hr⟩ := hx
    (obtain ⟨od, ho, hl⟩ := lookIn_ns hns)
    obtain ⟨u, hu, ru⟩ := RelO.some_of (v := v) (o := mA f) (by rw [← l]; exact hr f)
    have J : PySem.W.InstAt s1.heap a oe (gadr X.K x) (some od) := ⟨he, hc, by unfold PySem.W.notCls; rw [hf] <;> rfl, by rw [hdc]; exact ho⟩
    (exact HandSPX.exc_get I1.kIn J T.ga T.gg T.exC (PySem.W.findObj_own T.hdC hno rfl (by rw [hl, hu])) (handed_of ru) ⟨v, H1, I1.tok _, ru, q⟩)
  · refine se φ ρ env M σ H _ e m (Post.bind h fun d M1 ρ1 H1 v a1 b1 c1 h1 => ?_)
    split at h1
    · rename_i c fs hx
      split at h1
      · rename_i hc
        subst hc
        split at h1
        · rename_i w hw
          obtain ⟨a, dx, gs, rfl, ha, hd, hz, r⟩ := excD_ok b1 c1 hx
          obtain ⟨u, hu, ru⟩ := RFs.lookup r hw
          cases dx with
          | none => rw [hz rfl] at hu; exact nomatch hu
          | some dd => exact ⟨a, dd, gs, u, rfl, ha, hd dd rfl, hu, h1 _ _ _ .refl b1 ru⟩
        · exact h1.elim
      · exact h1.elim
    · exact h1.elim
structure XkC (K : PySem.W.Frag) (C : Addr) : Prop where
  cl : (PySem.W.clsIn K C).isSome = true
  ga : (PySem.W.findIn K (.ref C) "__getattribute__" = some (some (.builtin "BaseException.__getattribute__")))
  gt : PySem.W.findIn K (.ref C) "__getattr__" = some none
  sb : PySem.W.subIn K (.ref C) (.type "BaseException") = some true
  ca : (PySem.W.findIn K (.ref C) "__class__" = some (some (.builtin "object.__class__")))
  gs : PySem.W.specialIn K (.builtin "object.__class__") "__get__" = some (some (.builtin "getset_descriptor.__get__"))
  tk : PySem.W.takesIn K (.builtin "object.__class__") = some true
  mr : PySem.W.mroIn K C (.type "object") = some true
theorem tXk_ok {K : PySem.W.Frag} {x : Str} (h : tXk x K = true) : XkC K (gadr K x) := by
  obtain ⟨h1, h⟩ := and4 h
  obtain ⟨h2, h⟩ := and4 h
  obtain ⟨h3, h⟩ := and4 h
  obtain ⟨h4, h⟩ := and4 h
  obtain ⟨h5, h⟩ := and4 h
  obtain ⟨h6, h⟩ := and4 h
  obtain ⟨h7, h8⟩ := and4 h
  exact ⟨h1, of_decide_eq_true h2, of_decide_eq_true h3, of_decide_eq_true h4, of_decide_eq_true h5, of_decide_eq_true h6, of_decide_eq_true h7, of_decide_eq_true h8⟩
def rIsV (K : PySem.W.Frag) : List V → Hp → VK → Prop := fun xs H Q => ∃ (a C : Addr) (d : Option Addr) (gs : List (Str × V)) (c : V) (cv : Value) (b : Bool), xs = [.ref a, c] ∧ ClsV c cv ∧ H a = some (.ext (XcAt a C d)) ∧ (∀ x, d = some x → H x = some (.xd gs)) ∧ XkC K C ∧ PySem.W.kitOne K (.ref C) cv = some b ∧ Q (.bl b) H
theorem call_isV {X : Cx} : CallR X (.builtin "isinstance") (rIsV X.K) := by
  (intro pins s σ H xs us Q I r h)
  obtain ⟨a, C, d, gs, c, cv, b, rfl, k, ha, hd, T, e, q⟩ := h
  (obtain ⟨u1, u2, rfl, r1, r2⟩ := vals2 r)
  have e2 := k.eq r2
  subst e2
  (cases (show u1 = Value.ref a from r1))
  obtain ⟨⟨oe, vs, he, hc, hdc, hf⟩, _, _⟩ := I.hok a _ ha
  have J : ∃ od, PySem.W.InstAt s.heap a oe C od := by
    cases d with
    | none => exact ⟨none, he, hc, by unfold PySem.W.notCls; rw [hf] <;> rfl, by rw [hdc]; trivial⟩
    | some dd =>
      have hx : ObjOk X.prog X.w H s.heap dd (.xd gs) := I.hok dd _ (hd dd rfl)
      obtain ⟨mA, hns, hr⟩ := hx
      (obtain ⟨od, ho, hl⟩ := lookIn_ns hns)
      exact ⟨some od, he, hc, by unfold PySem.W.notCls; rw [hf] <;> rfl, by rw [hdc]; exact ho⟩
  obtain ⟨od, J⟩ := J
  exact PySem.W.kia_one (PySem.W.kitx_exc T.cl T.ga T.gt T.sb T.ca T.gs T.tk T.mr) I.kIn J e (fun z => nomatch z) fun tk => ⟨.bl b, H, I.tok tk, rfl, q⟩
def sameQ : D → D → Bool
  | .glo a, .glo b => decide (a = b)
  | .ty a, .ty b => decide (a = b)
  | _, _ => false
def nIsV (q : D) (ys ns : List Str) : OpN := fun xs M => match xs with
  | [d, e] => if sameQ q e = true then (match excD M d with
    | some (y, _) => if ys.contains y then .ok (.bl true) M else if ns.contains y then .ok (.bl false) M else .st
    | none => .st) else .st
  | _ => .st
theorem cd_isV {X : Cx} {W : WX} {q : D} {all ys ns : List Str} (A : tXks all X.K = true) (T : tIsV q ys ns X.K = true) (hs : (ys ++ ns).all (fun y => all.contains y) = true := by decide) : CallD X W (.builtin "isinstance") (nIsV q ys ns) := by
  refine ⟨_, call_isV, fun φ ρ M σ H xs vs Q m r h => ?_⟩
  have known : ∀ y, y ∈ ys ++ ns → XkC X.K (gadr X.K y) := fun y hy => tXk_ok (List.all_eq_true.mp A y (str_contains (List.all_eq_true.mp hs y hy)))
  unfold nIsV at h
  split at h
  · rename_i d e
    obtain ⟨v, w, rfl, rd, rd2⟩ := r.two
    split at h
    · rename_i hq
      obtain ⟨cv, hcv, hk⟩ : ∃ cv, qV X.K q = some cv ∧ ClsV w cv := by
        cases q <;> cases e <;> first | exact (nomatch (show false = true from hq)) | skip
        · have e := of_decide_eq_true hq
          subst e
          cases rd2
          exact ⟨_, rfl, .own _⟩
        · have e := of_decide_eq_true hq
          subst e
          cases rd2
          exact ⟨_, rfl, .ty _⟩
      unfold tIsV at T
      rw [hcv] at T
      obtain ⟨T1, T2⟩ := and4 T
      split at h
      · rename_i y fs hx
        obtain ⟨a, dx, gs, rfl, ha, hd, hz, rf⟩ := excD_ok m rd hx
        split at h
        · rename_i hy
          exact ⟨a, _, dx, gs, w, cv, true, rfl, hk, ha, hd, known y (List.mem_append_left _ (str_contains hy)), of_decide_eq_true (List.all_eq_true.mp T1 y (str_contains hy)), h _ _ _ .refl m (.bl _)⟩
        · split at h
          · rename_i hy
            exact ⟨a, _, dx, gs, w, cv, false, rfl, hk, ha, hd, known y (List.mem_append_right _ (str_contains hy)), of_decide_eq_true (List.all_eq_true.mp T2 y (str_contains hy)), h _ _ _ .refl m (.bl _)⟩
          · exact h.elim
      · exact h.elim
    · exact h.elim
  · exact h.elim
end DL


namespace HL
open PySem DL
def c_bags_drop_1 : Sx :=
  (sIf (eOp gGt (eVar 5) (eVar 6)) (sExpr (mAppend (eVar 3) (eTup (aCons (eVar 4) (aCons (eOp gSubI (eVar 5) (eVar 6)) aNil)))))
    sNil)
def c_bags_drop_2 : Sx :=
  (sSeq (sAug 2 gSubI (eVar 6))
    c_bags_drop_1)
def c_bags_drop_3 : Sx :=
  (sSeq (sAsg (eCall nMin2 (aCons (eVar 2) (aCons (eVar 5) aNil))) (gN 6))
    c_bags_drop_2)
def c_bags_drop_4 : Sx :=
  (sRet (eCall nTup (aCons (eVar 3) aNil)))
def c_bags_drop_5 : Sx :=
  (sSeq (sFor [0, 1, 4, 5, 6] (iA (eVar 0)) (gT 2 (gsCons (gN 4) (gsCons (gN 5) gsNil))) c_bags_drop_3)
    c_bags_drop_4)
def c_bags_drop : Sx :=
  (sSeq (sPar 2 3 (aCons (eVar 1) (aCons (eNew aNil) aNil)))
    c_bags_drop_5)
def F_bags_drop : Fn := defn 2 7 c_bags_drop
def c_bags_from_counts : Sx :=
  (sRet (eCall nTup (aCons (eCall nSorted (aCons (eLcK itemsA 0 [1, 2] (gT 2 (gsCons (gN 1) (gsCons (gN 2) gsNil))) (eOp gGt (eVar 2) (eC (.int 0))) (eTup (aCons (eVar 1) (aCons (eVar 2) aNil)))) aNil)) aNil)))
def F_bags_from_counts : Fn := defn 1 3 c_bags_from_counts
def c_bags_add_1 : Sx :=
  (sDput (eVar 2) (eVar 3) (eOp gAdd (eDget2 (eVar 2) (eVar 3) (eC (.int 0))) (eVar 4)))
def c_bags_add_2 : Sx :=
  (sRet (eFn F_bags_from_counts (aCons (eVar 2) aNil)))
def c_bags_add_3 : Sx :=
  (sSeq (sFor [0, 1, 3, 4] (iA (eVar 1)) (gT 2 (gsCons (gN 3) (gsCons (gN 4) gsNil))) c_bags_add_1)
    c_bags_add_2)
def c_bags_add : Sx :=
  (sSeq (sAsg (eCall nDict (aCons (eVar 0) aNil)) (gN 2))
    c_bags_add_3)
def F_bags_add : Fn := defn 2 5 c_bags_add
def c_bags_subtract_1 : Sx :=
  (sDput (eVar 2) (eVar 3) (eOp gSubI (eDget2 (eVar 2) (eVar 3) (eC (.int 0))) (eVar 4)))
def c_bags_subtract_2 : Sx :=
  (sRet (eIf (eCall nAny (aCons (eLcK valsA 2 [4] (gN 4) fYes (eOp gLt (eVar 4) (eC (.int 0)))) aNil)) (eC .non) (eFn F_bags_from_counts (aCons (eVar 2) aNil))))
def c_bags_subtract_3 : Sx :=
  (sSeq (sFor [0, 1, 3, 4] (iA (eVar 1)) (gT 2 (gsCons (gN 3) (gsCons (gN 4) gsNil))) c_bags_subtract_1)
    c_bags_subtract_2)
def c_bags_subtract : Sx :=
  (sSeq (sAsg (eCall nDict (aCons (eVar 0) aNil)) (gN 2))
    c_bags_subtract_3)
def F_bags_subtract : Fn := defn 2 5 c_bags_subtract
def c_effects_join_parts_1 : Sx :=
  (sRet (eTup (aCons (eFn F_bags_add (aCons (eOp gIx (eVar 0) (eC (.int 0))) (aCons (eVar 2) aNil))) (aCons (eOp gAdd (eOp gIx (eVar 0) (eC (.int 1))) (eVar 3)) (aCons (eFn F_bags_add (aCons (eVar 4) (aCons (eVar 5) aNil))) aNil)))))
def c_effects_join_parts_2 : Sx :=
  (sSeq (sAsg (eFn F_bags_drop (aCons (eFn F_bags_add (aCons (eOp gIx (eVar 0) (eC (.int 2))) (aCons (eFn F_bags_subtract (aCons (eVar 2) (aCons (eVar 4) aNil))) aNil))) (aCons (eVar 3) aNil))) (gN 5))
    c_effects_join_parts_1)
def c_effects_join_parts : Sx :=
  (sSeq (sAsg (eVar 1) (gT 3 (gsCons (gN 2) (gsCons (gN 3) (gsCons (gN 4) gsNil)))))
    c_effects_join_parts_2)
def F_effects_join_parts : Fn := defn 2 6 c_effects_join_parts
def c_q_pool_1 : Sx :=
  (sRet (eNew (aCons (eOp gMul (eVar 3) (eCall nInt (aCons (eOp gGe (eVar 3) (eOp gPowI (eC (.int 10)) (eC (.int 18)))) aNil))) (aCons (eOp gModI (eOp gMul (eVar 4) (eVar 4)) (eC (.int 2147483629))) aNil))))
def c_q_pool_2 : Sx :=
  (sSeq (sAsg (eOp gModI (eOp gMul (eOp gAdd (eOp gAdd (eOp gAdd (eOp gModI (eVar 3) (eC (.int 2147483629))) (eOp gMul (eOp gMul (eC (.int 7919)) (eVar 1)) (eVar 1))) (eOp gMul (eC (.int 31)) (eVar 1))) (eC (.int 17))) (eC (.int 48271))) (eC (.int 2147483647))) (gN 4))
    c_q_pool_1)
def c_q_pool_3 : Sx :=
  (sSeq (sAsg (eCall nAbs (aCons (eVar 2) aNil)) (gN 3))
    c_q_pool_2)
def c_q_pool_4 : Sx :=
  (sSeq (sIf (eOp gLt (eVar 1) (eCall nLen (aCons (eVar 0) aNil))) (sAsg (eOp gIx (eVar 0) (eVar 1)) (gN 2))
    sNil)
    c_q_pool_3)
def c_q_pool : Sx :=
  (sSeq (sAsg (eOp gAdd (eOp gMul (eC (.int 11)) (eCall nSum (aCons (eSl (eVar 0) oNone (oSome (eC (.int 63)))) aNil))) (eVar 1)) (gN 2))
    c_q_pool_4)
def F_q_pool : Fn := defn 2 5 c_q_pool
def c_q_draw_1 : Sx :=
  (sRet (eVar 2))
def c_q_draw_2 : Sx :=
  (sSeq (sAsg (eOp gDivI (eOp gIx (eVar 0) (eC (.int 0))) (eVar 1)) (gSub (eVar 0) (eC (.int 0))))
    c_q_draw_1)
def c_q_draw_3 : Sx :=
  (sRet (eOp gModI (eOp gDivI (eOp gModI (eOp gMul (eOp gIx (eVar 0) (eC (.int 1))) (eOp gIx (eVar 0) (eC (.int 1)))) (eC (.int 2147483629))) (eC (.int 16))) (eVar 1)))
def c_q_draw_4 : Sx :=
  (sSeq (sAsg (eOp gModI (eOp gAdd (eOp gMul (eOp gIx (eVar 0) (eC (.int 1))) (eC (.int 48271))) (eC (.int 11))) (eC (.int 2147483647))) (gSub (eVar 0) (eC (.int 1))))
    c_q_draw_3)
def c_q_draw : Sx :=
  (sSeq (sIf (eOp gGt (eOp gIx (eVar 0) (eC (.int 0))) (eC (.int 0))) (sSeq (sAsg (eOp gModI (eOp gIx (eVar 0) (eC (.int 0))) (eVar 1)) (gN 2))
    c_q_draw_2)
    sNil)
    c_q_draw_4)
def F_q_draw : Fn := defn 2 3 c_q_draw
def c_bags_scale : Sx :=
  (sRet (eIf (eOp gGt (eVar 1) (eC (.int 0))) (eCall nTup (aCons (eLc [2, 3] (iA (eVar 0)) (gT 2 (gsCons (gN 2) (gsCons (gN 3) gsNil))) fYes (eTup (aCons (eVar 2) (aCons (eOp gMul (eVar 3) (eVar 1)) aNil)))) aNil)) (eTup aNil)))
def F_bags_scale : Fn := defn 2 4 c_bags_scale
def c_effects_repeat_parts_1 : Sx :=
  (sRet (eTup (aCons (eFn F_bags_scale (aCons (eVar 2) (aCons (eVar 1) aNil))) (aCons (eOp gMul (eVar 3) (eVar 1)) (aCons (eFn F_bags_add (aCons (eVar 4) (aCons (eVar 5) aNil))) aNil)))))
def c_effects_repeat_parts_2 : Sx :=
  (sSeq (sAsg (eFn F_bags_scale (aCons (eFn F_bags_drop (aCons (eVar 2) (aCons (eVar 3) aNil))) (aCons (eOp gSubI (eVar 1) (eC (.int 1))) aNil))) (gN 5))
    c_effects_repeat_parts_1)
def c_effects_repeat_parts_3 : Sx :=
  (sSeq (sAsg (eVar 0) (gT 3 (gsCons (gN 2) (gsCons (gN 3) (gsCons (gN 4) gsNil)))))
    c_effects_repeat_parts_2)
def c_effects_repeat_parts : Sx :=
  (sSeq (sIf (eOp gEq (eVar 1) (eC (.int 0))) (sRet (eC (.tup [.tup [], .int 0, .tup []])))
    sNil)
    c_effects_repeat_parts_3)
def F_effects_repeat_parts : Fn := defn 2 6 c_effects_repeat_parts
def c_effects_program_parts_1 (R_effects_program_parts : Fn) (R_effects_step_parts : Fn) : Sx :=
  (sAsg (eFn F_effects_join_parts (aCons (eVar 1) (aCons (eFn R_effects_step_parts (aCons (eVar 2) aNil)) aNil))) (gN 1))
def c_effects_program_parts_2 (R_effects_program_parts : Fn) (R_effects_step_parts : Fn) : Sx :=
  (sRet (eVar 1))
def c_effects_program_parts_3 (R_effects_program_parts : Fn) (R_effects_step_parts : Fn) : Sx :=
  (sSeq (sFor [0, 2] (iA (eVar 0)) (gN 2) (c_effects_program_parts_1 R_effects_program_parts R_effects_step_parts))
    (c_effects_program_parts_2 R_effects_program_parts R_effects_step_parts))
def c_effects_program_parts (R_effects_program_parts : Fn) (R_effects_step_parts : Fn) : Sx :=
  (sSeq (sAsg (eC (.tup [.tup [], .int 0, .tup []])) (gN 1))
    (c_effects_program_parts_3 R_effects_program_parts R_effects_step_parts))
def c_effects_step_parts_1 (R_effects_program_parts : Fn) (R_effects_step_parts : Fn) : Sx :=
  (sRet (eTup (aCons (eVar 4) (aCons (eC (.int 0)) (aCons (eVar 4) aNil)))))
def c_effects_step_parts (R_effects_program_parts : Fn) (R_effects_step_parts : Fn) : Sx :=
  (sMatch (eVar 0) (mSeq [1, 2, 3] (some (eOp gEq (eVar 1) (eC (.str "insert")))) (sSeq (sAsg (eFn F_bags_scale (aCons (eTup (aCons (eTup (aCons (eVar 2) (aCons (eC (.int 1)) aNil))) aNil)) (aCons (eVar 3) aNil))) (gN 4))
    (c_effects_step_parts_1 R_effects_program_parts R_effects_step_parts)) (mSeq [1, 3] none (sRet (eTup (aCons (eTup aNil) (aCons (eVar 3) (aCons (eTup aNil) aNil))))) (mSeq [1, 3, 5] none (sRet (eFn F_effects_repeat_parts (aCons (eFn R_effects_program_parts (aCons (eVar 5) aNil)) (aCons (eVar 3) aNil)))) mEnd))))
mutual
def F_effects_program_parts : Nat → Fn
  | 0 => fnSt
  | n + 1 => defn 1 3 (c_effects_program_parts (F_effects_program_parts n) (F_effects_step_parts n))
def F_effects_step_parts : Nat → Fn
  | 0 => fnSt
  | n + 1 => defn 1 6 (c_effects_step_parts (F_effects_program_parts n) (F_effects_step_parts n))
end
def c_q_step_sums_1 (R_q_step_sums : Fn) (R_q_sums : Fn) : Sx :=
  (sRet (eLst (aCons (eVar 2) (aCons (eVar 2) aNil))))
def c_q_step_sums_2 (R_q_step_sums : Fn) (R_q_sums : Fn) : Sx :=
  (sRet (eLst (aCons (eOp gMul (eVar 3) (eOp gIx (eVar 0) (eC (.int 1)))) (aCons (eOp gAdd (eVar 4) (eOp gMul (eOp gSubI (eOp gIx (eVar 0) (eC (.int 1))) (eC (.int 1))) (eCall nMax2 (aCons (eC (.int 0)) (aCons (eVar 3) aNil))))) aNil))))
def c_q_step_sums_3 (R_q_step_sums : Fn) (R_q_sums : Fn) : Sx :=
  (sSeq (sAsg (eFn R_q_sums (aCons (eOp gIx (eVar 0) (eC (.int 2))) (aCons (eVar 1) aNil))) (gT 2 (gsCons (gN 3) (gsCons (gN 4) gsNil))))
    (c_q_step_sums_2 R_q_step_sums R_q_sums))
def c_q_step_sums_4 (R_q_step_sums : Fn) (R_q_sums : Fn) : Sx :=
  (sSeq (sIf (eOp gEq (eOp gIx (eVar 0) (eC (.int 1))) (eC (.int 0))) (sRet (eLst (aCons (eC (.int 0)) (aCons (eC (.int 0)) aNil))))
    sNil)
    (c_q_step_sums_3 R_q_step_sums R_q_sums))
def c_q_step_sums_5 (R_q_step_sums : Fn) (R_q_sums : Fn) : Sx :=
  (sSeq (sIf (eOp gEq (eOp gIx (eVar 0) (eC (.int 0))) (eC (.str "remove"))) (sRet (eLst (aCons (eNeg (eOp gIx (eVar 0) (eC (.int 1)))) (aCons (eC (.int 0)) aNil))))
    sNil)
    (c_q_step_sums_4 R_q_step_sums R_q_sums))
def c_q_step_sums (R_q_step_sums : Fn) (R_q_sums : Fn) : Sx :=
  (sSeq (sIf (eOp gEq (eOp gIx (eVar 0) (eC (.int 0))) (eC (.str "insert"))) (sSeq (sAsg (eIf (eOp gLe (eOp gIx (eVar 0) (eC (.int 1))) (eVar 1)) (eOp gIx (eVar 0) (eC (.int 2))) (eC (.int 0))) (gN 2))
    (c_q_step_sums_1 R_q_step_sums R_q_sums))
    sNil)
    (c_q_step_sums_5 R_q_step_sums R_q_sums))
def c_q_sums_1 (R_q_step_sums : Fn) (R_q_sums : Fn) : Sx :=
  (sPar 2 3 (aCons (eOp gAdd (eVar 2) (eVar 5)) (aCons (eCall nMax2 (aCons (eOp gAdd (eVar 3) (eVar 5)) (aCons (eVar 6) aNil))) aNil)))
def c_q_sums_2 (R_q_step_sums : Fn) (R_q_sums : Fn) : Sx :=
  (sSeq (sAsg (eFn R_q_step_sums (aCons (eVar 4) (aCons (eVar 1) aNil))) (gT 2 (gsCons (gN 5) (gsCons (gN 6) gsNil))))
    (c_q_sums_1 R_q_step_sums R_q_sums))
def c_q_sums_3 (R_q_step_sums : Fn) (R_q_sums : Fn) : Sx :=
  (sRet (eLst (aCons (eVar 2) (aCons (eVar 3) aNil))))
def c_q_sums_4 (R_q_step_sums : Fn) (R_q_sums : Fn) : Sx :=
  (sSeq (sFor [0, 4, 5, 6] (iA (eVar 0)) (gN 4) (c_q_sums_2 R_q_step_sums R_q_sums))
    (c_q_sums_3 R_q_step_sums R_q_sums))
def c_q_sums (R_q_step_sums : Fn) (R_q_sums : Fn) : Sx :=
  (sSeq (sAsg (eTup (aCons (eC (.int 0)) (aCons (eC (.int 0)) aNil))) (gT 2 (gsCons (gN 2) (gsCons (gN 3) gsNil))))
    (c_q_sums_4 R_q_step_sums R_q_sums))
mutual
def F_q_step_sums : Nat → Fn
  | 0 => fnSt
  | n + 1 => defn 2 5 (c_q_step_sums (F_q_step_sums n) (F_q_sums n))
def F_q_sums : Nat → Fn
  | 0 => fnSt
  | n + 1 => defn 2 7 (c_q_sums (F_q_step_sums n) (F_q_sums n))
end
def c_failures_counted : Sx :=
  (sRet (eAnd (eOp gEq (eOp gIx (eVar 0) (eC (.int 0))) (eC (.str "insert"))) (eOr (eOp gIs (eVar 1) (eC .non)) (eOp gLt (eOp gIx (eVar 0) (eC (.int 1))) (eVar 1)))))
def F_failures_counted : Fn := defn 2 2 c_failures_counted
def c_failures_balance_1 (R_failures_balance : Fn) (R_failures_step_balance : Fn) : Sx :=
  (sAug 2 gAddI (eVar 5))
def c_failures_balance_2 (R_failures_balance : Fn) (R_failures_step_balance : Fn) : Sx :=
  (sSeq (sAsg (eCall nMax2 (aCons (eVar 3) (aCons (eOp gSubI (eVar 6) (eVar 2)) aNil))) (gN 3))
    (c_failures_balance_1 R_failures_balance R_failures_step_balance))
def c_failures_balance_3 (R_failures_balance : Fn) (R_failures_step_balance : Fn) : Sx :=
  (sSeq (sAsg (eFn R_failures_step_balance (aCons (eVar 4) (aCons (eVar 1) aNil))) (gT 2 (gsCons (gN 5) (gsCons (gN 6) gsNil))))
    (c_failures_balance_2 R_failures_balance R_failures_step_balance))
def c_failures_balance_4 (R_failures_balance : Fn) (R_failures_step_balance : Fn) : Sx :=
  (sRet (eTup (aCons (eVar 2) (aCons (eVar 3) aNil))))
def c_failures_balance_5 (R_failures_balance : Fn) (R_failures_step_balance : Fn) : Sx :=
  (sSeq (sFor [0, 4, 5, 6] (iA (eVar 0)) (gN 4) (c_failures_balance_3 R_failures_balance R_failures_step_balance))
    (c_failures_balance_4 R_failures_balance R_failures_step_balance))
def c_failures_balance (R_failures_balance : Fn) (R_failures_step_balance : Fn) : Sx :=
  (sSeq (sAsg (eTup (aCons (eC (.int 0)) (aCons (eC (.int 0)) aNil))) (gT 2 (gsCons (gN 2) (gsCons (gN 3) gsNil))))
    (c_failures_balance_5 R_failures_balance R_failures_step_balance))
def c_failures_step_balance_1 (R_failures_balance : Fn) (R_failures_step_balance : Fn) : Sx :=
  (sRet (eTup (aCons (eOp gMul (eOp gIx (eVar 0) (eC (.int 1))) (eVar 2)) (aCons (eOp gSubI (eVar 3) (eOp gMul (eCall nMin2 (aCons (eVar 2) (aCons (eC (.int 0)) aNil))) (eOp gSubI (eOp gIx (eVar 0) (eC (.int 1))) (eC (.int 1))))) aNil))))
def c_failures_step_balance_2 (R_failures_balance : Fn) (R_failures_step_balance : Fn) : Sx :=
  (sSeq (sIf (eOp gEq (eOp gIx (eVar 0) (eC (.int 1))) (eC (.int 0))) (sRet (eTup (aCons (eC (.int 0)) (aCons (eC (.int 0)) aNil))))
    sNil)
    (c_failures_step_balance_1 R_failures_balance R_failures_step_balance))
def c_failures_step_balance_3 (R_failures_balance : Fn) (R_failures_step_balance : Fn) : Sx :=
  (sSeq (sAsg (eFn R_failures_balance (aCons (eOp gIx (eVar 0) (eC (.int 2))) (aCons (eVar 1) aNil))) (gT 2 (gsCons (gN 2) (gsCons (gN 3) gsNil))))
    (c_failures_step_balance_2 R_failures_balance R_failures_step_balance))
def c_failures_step_balance_4 (R_failures_balance : Fn) (R_failures_step_balance : Fn) : Sx :=
  (sSeq (sIf (eOp gEq (eOp gIx (eVar 0) (eC (.int 0))) (eC (.str "remove"))) (sRet (eTup (aCons (eNeg (eOp gIx (eVar 0) (eC (.int 1)))) (aCons (eOp gIx (eVar 0) (eC (.int 1))) aNil))))
    sNil)
    (c_failures_step_balance_3 R_failures_balance R_failures_step_balance))
def c_failures_step_balance (R_failures_balance : Fn) (R_failures_step_balance : Fn) : Sx :=
  (sSeq (sIf (eOp gEq (eOp gIx (eVar 0) (eC (.int 0))) (eC (.str "insert"))) (sRet (eTup (aCons (eIf (eFn F_failures_counted (aCons (eVar 0) (aCons (eVar 1) aNil))) (eOp gIx (eVar 0) (eC (.int 2))) (eC (.int 0))) (aCons (eC (.int 0)) aNil))))
    sNil)
    (c_failures_step_balance_4 R_failures_balance R_failures_step_balance))
mutual
def F_failures_balance : Nat → Fn
  | 0 => fnSt
  | n + 1 => defn 2 7 (c_failures_balance (F_failures_balance n) (F_failures_step_balance n))
def F_failures_step_balance : Nat → Fn
  | 0 => fnSt
  | n + 1 => defn 2 4 (c_failures_step_balance (F_failures_balance n) (F_failures_step_balance n))
end
def c_programs_count_steps_1 (R_programs_count_steps : Fn) : Sx :=
  (sIf (eOp gEq (eOp gIx (eVar 3) (eC (.int 0))) (eC (.str "repeat"))) (sAug 2 gAddI (eOp gMul (eOp gIx (eVar 3) (eC (.int 1))) (eFn R_programs_count_steps (aCons (eOp gIx (eVar 3) (eC (.int 2))) (aCons (eVar 1) aNil)))))
    (sIf (eOr (eOp gIs (eVar 1) (eC .non)) (eOp gEq (eOp gIx (eVar 3) (eC (.int 0))) (eVar 1))) (sAug 2 gAddI (eOp gIx (eVar 3) (eNeg (eC (.int 1)))))
    sNil))
def c_programs_count_steps_2 (R_programs_count_steps : Fn) : Sx :=
  (sRet (eVar 2))
def c_programs_count_steps_3 (R_programs_count_steps : Fn) : Sx :=
  (sSeq (sFor [0, 3] (iA (eVar 0)) (gN 3) (c_programs_count_steps_1 R_programs_count_steps))
    (c_programs_count_steps_2 R_programs_count_steps))
def c_programs_count_steps (R_programs_count_steps : Fn) : Sx :=
  (sSeq (sAsg (eC (.int 0)) (gN 2))
    (c_programs_count_steps_3 R_programs_count_steps))
def F_programs_count_steps : Nat → Fn
  | 0 => fnSt
  | n + 1 => defn 2 4 (c_programs_count_steps (F_programs_count_steps n))
def c_failures_failure_within_1 (R_failures_failure_within : Fn) (R_failures_find_failure : Fn) : Sx :=
  (sRet (eOp gAdd (eOp gMul (eVar 5) (eFn (F_programs_count_steps 16) (aCons (eOp gIx (eVar 1) (eC (.int 2))) (aCons (eC .non) aNil)))) (eIf (eOp gIs (eVar 6) (eC .non)) (eC (.int 0)) (eVar 6))))
def c_failures_failure_within_2 (R_failures_failure_within : Fn) (R_failures_find_failure : Fn) : Sx :=
  (sSeq (sAsg (eFn R_failures_find_failure (aCons (eOp gAdd (eVar 0) (eOp gMul (eVar 5) (eVar 3))) (aCons (eOp gIx (eVar 1) (eC (.int 2))) (aCons (eVar 2) aNil)))) (gN 6))
    (c_failures_failure_within_1 R_failures_failure_within R_failures_find_failure))
def c_failures_failure_within_3 (R_failures_failure_within : Fn) (R_failures_find_failure : Fn) : Sx :=
  (sSeq (sAsg (eIf (eOp gLt (eVar 0) (eVar 4)) (eC (.int 0)) (eOp gAdd (eOp gDivI (eOp gSubI (eVar 0) (eVar 4)) (eNeg (eVar 3))) (eC (.int 1)))) (gN 5))
    (c_failures_failure_within_2 R_failures_failure_within R_failures_find_failure))
def c_failures_failure_within_4 (R_failures_failure_within : Fn) (R_failures_find_failure : Fn) : Sx :=
  (sSeq (sAsg (eFn (F_failures_balance 30) (aCons (eOp gIx (eVar 1) (eC (.int 2))) (aCons (eVar 2) aNil))) (gT 2 (gsCons (gN 3) (gsCons (gN 4) gsNil))))
    (c_failures_failure_within_3 R_failures_failure_within R_failures_find_failure))
def c_failures_failure_within (R_failures_failure_within : Fn) (R_failures_find_failure : Fn) : Sx :=
  (sSeq (sIf (eOp gEq (eOp gIx (eVar 1) (eC (.int 0))) (eC (.str "remove"))) (sRet (eVar 0))
    sNil)
    (c_failures_failure_within_4 R_failures_failure_within R_failures_find_failure))
def c_failures_find_failure_1 (R_failures_failure_within : Fn) (R_failures_find_failure : Fn) : Sx :=
  (sAug 4 gAddI (eFn (F_programs_count_steps 16) (aCons (eTup (aCons (eVar 5) aNil)) (aCons (eC .non) aNil))))
def c_failures_find_failure_2 (R_failures_failure_within : Fn) (R_failures_find_failure : Fn) : Sx :=
  (sSeq (sAug 3 gAddI (eVar 6))
    (c_failures_find_failure_1 R_failures_failure_within R_failures_find_failure))
def c_failures_find_failure_3 (R_failures_failure_within : Fn) (R_failures_find_failure : Fn) : Sx :=
  (sSeq (sIf (eOp gLt (eVar 3) (eVar 7)) (sRet (eOp gAdd (eVar 4) (eFn R_failures_failure_within (aCons (eVar 3) (aCons (eVar 5) (aCons (eVar 2) aNil))))))
    sNil)
    (c_failures_find_failure_2 R_failures_failure_within R_failures_find_failure))
def c_failures_find_failure_4 (R_failures_failure_within : Fn) (R_failures_find_failure : Fn) : Sx :=
  (sSeq (sAsg (eFn (F_failures_step_balance 30) (aCons (eVar 5) (aCons (eVar 2) aNil))) (gT 2 (gsCons (gN 6) (gsCons (gN 7) gsNil))))
    (c_failures_find_failure_3 R_failures_failure_within R_failures_find_failure))
def c_failures_find_failure_5 (R_failures_failure_within : Fn) (R_failures_find_failure : Fn) : Sx :=
  (sRet (eC .non))
def c_failures_find_failure_6 (R_failures_failure_within : Fn) (R_failures_find_failure : Fn) : Sx :=
  (sSeq (sFor [0, 1, 5, 6, 7] (iA (eVar 1)) (gN 5) (c_failures_find_failure_4 R_failures_failure_within R_failures_find_failure))
    (c_failures_find_failure_5 R_failures_failure_within R_failures_find_failure))
def c_failures_find_failure (R_failures_failure_within : Fn) (R_failures_find_failure : Fn) : Sx :=
  (sSeq (sPar 3 4 (aCons (eVar 0) (aCons (eC (.int 0)) aNil)))
    (c_failures_find_failure_6 R_failures_failure_within R_failures_find_failure))
mutual
def F_failures_failure_within : Nat → Fn
  | 0 => fnSt
  | n + 1 => defn 3 7 (c_failures_failure_within (F_failures_failure_within n) (F_failures_find_failure n))
def F_failures_find_failure : Nat → Fn
  | 0 => fnSt
  | n + 1 => defn 3 8 (c_failures_find_failure (F_failures_failure_within n) (F_failures_find_failure n))
end
end HL

namespace L_k05
open PySem PySem.Spec PyProof.Rows L2 DL HL
structure Hd (P : Program) (K : PySem.W.Frag) (mg : Str → Option Value) (base : Heap) : Prop where
  kin : K.In base
  ns : base.Ns mainGlobals mg
  says : Says ft fn K
  pf : DX.Pf P FILE
section
variable {P : Program} {K : PySem.W.Frag} {mg : Str → Option Value} {base : Heap}
theorem Hd.glo_law (Y : Hd P K mg base) : mg "law" = some (.ref (gadr K "law")) := tGlo_ok Y.kin Y.ns (Y.says.fact 0 (f := (tGlo "law")) rfl)
theorem Hd.free_range (Y : Hd P K mg base) : mg "range" = none := tFree_ok Y.kin Y.ns (Y.says.fact 1 (f := (tFree "range")) rfl)
theorem Hd.free_max (Y : Hd P K mg base) : mg "max" = none := tFree_ok Y.kin Y.ns (Y.says.fact 2 (f := (tFree "max")) rfl)
theorem Hd.free_min (Y : Hd P K mg base) : mg "min" = none := tFree_ok Y.kin Y.ns (Y.says.fact 3 (f := (tFree "min")) rfl)
theorem Hd.free_len (Y : Hd P K mg base) : mg "len" = none := tFree_ok Y.kin Y.ns (Y.says.fact 4 (f := (tFree "len")) rfl)
theorem Hd.glo__law_pool (Y : Hd P K mg base) : mg "_law_pool" = some (.ref (gadr K "_law_pool")) := tGlo_ok Y.kin Y.ns (Y.says.fact 5 (f := (tGlo "_law_pool")) rfl)
theorem Hd.free_sum (Y : Hd P K mg base) : mg "sum" = none := tFree_ok Y.kin Y.ns (Y.says.fact 6 (f := (tFree "sum")) rfl)
theorem Hd.free_abs (Y : Hd P K mg base) : mg "abs" = none := tFree_ok Y.kin Y.ns (Y.says.fact 7 (f := (tFree "abs")) rfl)
theorem Hd.free_int (Y : Hd P K mg base) : mg "int" = none := tFree_ok Y.kin Y.ns (Y.says.fact 8 (f := (tFree "int")) rfl)
theorem Hd.glo__law_draw (Y : Hd P K mg base) : mg "_law_draw" = some (.ref (gadr K "_law_draw")) := tGlo_ok Y.kin Y.ns (Y.says.fact 9 (f := (tGlo "_law_draw")) rfl)
theorem Hd.glo__law_fields_hold (Y : Hd P K mg base) : mg "_law_fields_hold" = some (.ref (gadr K "_law_fields_hold")) := tGlo_ok Y.kin Y.ns (Y.says.fact 10 (f := (tGlo "_law_fields_hold")) rfl)
theorem Hd.glo_InvalidUser (Y : Hd P K mg base) : mg "InvalidUser" = some (.ref (gadr K "InvalidUser")) := tGlo_ok Y.kin Y.ns (Y.says.fact 11 (f := (tGlo "InvalidUser")) rfl)
theorem Hd.free_super (Y : Hd P K mg base) : mg "super" = none := tFree_ok Y.kin Y.ns (Y.says.fact 12 (f := (tFree "super")) rfl)
theorem Hd.xf_InvalidUser_value (Y : Hd P K mg base) : XfC K (gadr K "InvalidUser") ∧ PySem.W.findIn K (.ref (gadr K "InvalidUser")) "value" = some none := tXf_ok (Y.says.fact 14 (f := (tXf "InvalidUser" "value")) rfl)
theorem Hd.glo_InvalidBag (Y : Hd P K mg base) : mg "InvalidBag" = some (.ref (gadr K "InvalidBag")) := tGlo_ok Y.kin Y.ns (Y.says.fact 15 (f := (tGlo "InvalidBag")) rfl)
theorem Hd.xf_InvalidBag_value (Y : Hd P K mg base) : XfC K (gadr K "InvalidBag") ∧ PySem.W.findIn K (.ref (gadr K "InvalidBag")) "value" = some none := tXf_ok (Y.says.fact 17 (f := (tXf "InvalidBag" "value")) rfl)
theorem Hd.glo_InvalidCount (Y : Hd P K mg base) : mg "InvalidCount" = some (.ref (gadr K "InvalidCount")) := tGlo_ok Y.kin Y.ns (Y.says.fact 18 (f := (tGlo "InvalidCount")) rfl)
theorem Hd.xf_InvalidCount_value (Y : Hd P K mg base) : XfC K (gadr K "InvalidCount") ∧ PySem.W.findIn K (.ref (gadr K "InvalidCount")) "value" = some none := tXf_ok (Y.says.fact 20 (f := (tXf "InvalidCount" "value")) rfl)
theorem Hd.glo_InvalidNumber (Y : Hd P K mg base) : mg "InvalidNumber" = some (.ref (gadr K "InvalidNumber")) := tGlo_ok Y.kin Y.ns (Y.says.fact 21 (f := (tGlo "InvalidNumber")) rfl)
theorem Hd.xf_InvalidNumber_value (Y : Hd P K mg base) : XfC K (gadr K "InvalidNumber") ∧ PySem.W.findIn K (.ref (gadr K "InvalidNumber")) "value" = some none := tXf_ok (Y.says.fact 23 (f := (tXf "InvalidNumber" "value")) rfl)
theorem Hd.glo_ParseError (Y : Hd P K mg base) : mg "ParseError" = some (.ref (gadr K "ParseError")) := tGlo_ok Y.kin Y.ns (Y.says.fact 24 (f := (tGlo "ParseError")) rfl)
theorem Hd.xf_ParseError_position (Y : Hd P K mg base) : XfC K (gadr K "ParseError") ∧ PySem.W.findIn K (.ref (gadr K "ParseError")) "position" = some none := tXf_ok (Y.says.fact 26 (f := (tXf "ParseError" "position")) rfl)
theorem Hd.glo_InvalidSequence (Y : Hd P K mg base) : mg "InvalidSequence" = some (.ref (gadr K "InvalidSequence")) := tGlo_ok Y.kin Y.ns (Y.says.fact 27 (f := (tGlo "InvalidSequence")) rfl)
theorem Hd.xf_InvalidSequence_index (Y : Hd P K mg base) : XfC K (gadr K "InvalidSequence") ∧ PySem.W.findIn K (.ref (gadr K "InvalidSequence")) "index" = some none := tXf_ok (Y.says.fact 29 (f := (tXf "InvalidSequence" "index")) rfl)
theorem Hd.glo_InvalidEffect (Y : Hd P K mg base) : mg "InvalidEffect" = some (.ref (gadr K "InvalidEffect")) := tGlo_ok Y.kin Y.ns (Y.says.fact 30 (f := (tGlo "InvalidEffect")) rfl)
theorem Hd.xf_InvalidEffect_part (Y : Hd P K mg base) : XfC K (gadr K "InvalidEffect") ∧ PySem.W.findIn K (.ref (gadr K "InvalidEffect")) "part" = some none := tXf_ok (Y.says.fact 32 (f := (tXf "InvalidEffect" "part")) rfl)
theorem Hd.glo_InvalidProgram (Y : Hd P K mg base) : mg "InvalidProgram" = some (.ref (gadr K "InvalidProgram")) := tGlo_ok Y.kin Y.ns (Y.says.fact 33 (f := (tGlo "InvalidProgram")) rfl)
theorem Hd.xf_InvalidProgram_path (Y : Hd P K mg base) : XfC K (gadr K "InvalidProgram") ∧ PySem.W.findIn K (.ref (gadr K "InvalidProgram")) "path" = some none := tXf_ok (Y.says.fact 35 (f := (tXf "InvalidProgram" "path")) rfl)
theorem Hd.glo_LimitExceeded (Y : Hd P K mg base) : mg "LimitExceeded" = some (.ref (gadr K "LimitExceeded")) := tGlo_ok Y.kin Y.ns (Y.says.fact 36 (f := (tGlo "LimitExceeded")) rfl)
theorem Hd.xf_LimitExceeded_count (Y : Hd P K mg base) : XfC K (gadr K "LimitExceeded") ∧ PySem.W.findIn K (.ref (gadr K "LimitExceeded")) "count" = some none := tXf_ok (Y.says.fact 38 (f := (tXf "LimitExceeded" "count")) rfl)
theorem Hd.glo_OutOfRange (Y : Hd P K mg base) : mg "OutOfRange" = some (.ref (gadr K "OutOfRange")) := tGlo_ok Y.kin Y.ns (Y.says.fact 39 (f := (tGlo "OutOfRange")) rfl)
theorem Hd.xf_OutOfRange_value (Y : Hd P K mg base) : XfC K (gadr K "OutOfRange") ∧ PySem.W.findIn K (.ref (gadr K "OutOfRange")) "value" = some none := tXf_ok (Y.says.fact 41 (f := (tXf "OutOfRange" "value")) rfl)
theorem Hd.glo_EmptyHeap (Y : Hd P K mg base) : mg "EmptyHeap" = some (.ref (gadr K "EmptyHeap")) := tGlo_ok Y.kin Y.ns (Y.says.fact 42 (f := (tGlo "EmptyHeap")) rfl)
theorem Hd.xf_EmptyHeap_index (Y : Hd P K mg base) : XfC K (gadr K "EmptyHeap") ∧ PySem.W.findIn K (.ref (gadr K "EmptyHeap")) "index" = some none := tXf_ok (Y.says.fact 44 (f := (tXf "EmptyHeap" "index")) rfl)
theorem Hd.glo_InvalidObservations (Y : Hd P K mg base) : mg "InvalidObservations" = some (.ref (gadr K "InvalidObservations")) := tGlo_ok Y.kin Y.ns (Y.says.fact 45 (f := (tGlo "InvalidObservations")) rfl)
theorem Hd.xf_InvalidObservations_index (Y : Hd P K mg base) : XfC K (gadr K "InvalidObservations") ∧ PySem.W.findIn K (.ref (gadr K "InvalidObservations")) "index" = some none := tXf_ok (Y.says.fact 47 (f := (tXf "InvalidObservations" "index")) rfl)
theorem Hd.glo_NothingToUndo (Y : Hd P K mg base) : mg "NothingToUndo" = some (.ref (gadr K "NothingToUndo")) := tGlo_ok Y.kin Y.ns (Y.says.fact 48 (f := (tGlo "NothingToUndo")) rfl)
theorem Hd.exc0_NothingToUndo (Y : Hd P K mg base) : tExc0 "NothingToUndo" K = true := (Y.says.fact 49 (f := (tExc0 "NothingToUndo")) rfl)
theorem Hd.free_enumerate (Y : Hd P K mg base) : mg "enumerate" = none := tFree_ok Y.kin Y.ns (Y.says.fact 50 (f := (tFree "enumerate")) rfl)
theorem Hd.glo__law_own (Y : Hd P K mg base) : mg "_law_own" = some (.ref (gadr K "_law_own")) := tGlo_ok Y.kin Y.ns (Y.says.fact 51 (f := (tGlo "_law_own")) rfl)
theorem Hd.xks (Y : Hd P K mg base) : tXks ["InvalidNumber", "InvalidCount", "InvalidBag", "InvalidProgram", "InvalidEffect", "InvalidSequence", "InvalidObservations", "InvalidUser", "ParseError", "EmptyHeap", "OutOfRange", "LimitExceeded", "NothingToUndo"] K = true := (Y.says.fact 52 (f := (tXks ["InvalidNumber", "InvalidCount", "InvalidBag", "InvalidProgram", "InvalidEffect", "InvalidSequence", "InvalidObservations", "InvalidUser", "ParseError", "EmptyHeap", "OutOfRange", "LimitExceeded", "NothingToUndo"])) rfl)
theorem Hd.isv_InvalidBag (Y : Hd P K mg base) : tIsV (.glo "InvalidBag") ["InvalidBag"] ["InvalidNumber", "InvalidCount", "InvalidProgram", "InvalidEffect", "InvalidSequence", "InvalidObservations", "InvalidUser", "ParseError", "EmptyHeap", "OutOfRange", "LimitExceeded", "NothingToUndo"] K = true := (Y.says.fact 53 (f := (tIsV (.glo "InvalidBag") ["InvalidBag"] ["InvalidNumber", "InvalidCount", "InvalidProgram", "InvalidEffect", "InvalidSequence", "InvalidObservations", "InvalidUser", "ParseError", "EmptyHeap", "OutOfRange", "LimitExceeded", "NothingToUndo"])) rfl)
theorem Hd.free_isinstance (Y : Hd P K mg base) : mg "isinstance" = none := tFree_ok Y.kin Y.ns (Y.says.fact 54 (f := (tFree "isinstance")) rfl)
theorem Hd.isv_InvalidCount (Y : Hd P K mg base) : tIsV (.glo "InvalidCount") ["InvalidCount"] ["InvalidNumber", "InvalidBag", "InvalidProgram", "InvalidEffect", "InvalidSequence", "InvalidObservations", "InvalidUser", "ParseError", "EmptyHeap", "OutOfRange", "LimitExceeded", "NothingToUndo"] K = true := (Y.says.fact 55 (f := (tIsV (.glo "InvalidCount") ["InvalidCount"] ["InvalidNumber", "InvalidBag", "InvalidProgram", "InvalidEffect", "InvalidSequence", "InvalidObservations", "InvalidUser", "ParseError", "EmptyHeap", "OutOfRange", "LimitExceeded", "NothingToUndo"])) rfl)
theorem Hd.isv_InvalidNumber (Y : Hd P K mg base) : tIsV (.glo "InvalidNumber") ["InvalidNumber"] ["InvalidCount", "InvalidBag", "InvalidProgram", "InvalidEffect", "InvalidSequence", "InvalidObservations", "InvalidUser", "ParseError", "EmptyHeap", "OutOfRange", "LimitExceeded", "NothingToUndo"] K = true := (Y.says.fact 56 (f := (tIsV (.glo "InvalidNumber") ["InvalidNumber"] ["InvalidCount", "InvalidBag", "InvalidProgram", "InvalidEffect", "InvalidSequence", "InvalidObservations", "InvalidUser", "ParseError", "EmptyHeap", "OutOfRange", "LimitExceeded", "NothingToUndo"])) rfl)
theorem Hd.isv_InvalidEffect (Y : Hd P K mg base) : tIsV (.glo "InvalidEffect") ["InvalidEffect"] ["InvalidNumber", "InvalidCount", "InvalidBag", "InvalidProgram", "InvalidSequence", "InvalidObservations", "InvalidUser", "ParseError", "EmptyHeap", "OutOfRange", "LimitExceeded", "NothingToUndo"] K = true := (Y.says.fact 57 (f := (tIsV (.glo "InvalidEffect") ["InvalidEffect"] ["InvalidNumber", "InvalidCount", "InvalidBag", "InvalidProgram", "InvalidSequence", "InvalidObservations", "InvalidUser", "ParseError", "EmptyHeap", "OutOfRange", "LimitExceeded", "NothingToUndo"])) rfl)
theorem Hd.isv_InvalidProgram (Y : Hd P K mg base) : tIsV (.glo "InvalidProgram") ["InvalidProgram"] ["InvalidNumber", "InvalidCount", "InvalidBag", "InvalidEffect", "InvalidSequence", "InvalidObservations", "InvalidUser", "ParseError", "EmptyHeap", "OutOfRange", "LimitExceeded", "NothingToUndo"] K = true := (Y.says.fact 58 (f := (tIsV (.glo "InvalidProgram") ["InvalidProgram"] ["InvalidNumber", "InvalidCount", "InvalidBag", "InvalidEffect", "InvalidSequence", "InvalidObservations", "InvalidUser", "ParseError", "EmptyHeap", "OutOfRange", "LimitExceeded", "NothingToUndo"])) rfl)
theorem Hd.isv_InvalidObservations (Y : Hd P K mg base) : tIsV (.glo "InvalidObservations") ["InvalidObservations"] ["InvalidNumber", "InvalidCount", "InvalidBag", "InvalidProgram", "InvalidEffect", "InvalidSequence", "InvalidUser", "ParseError", "EmptyHeap", "OutOfRange", "LimitExceeded", "NothingToUndo"] K = true := (Y.says.fact 59 (f := (tIsV (.glo "InvalidObservations") ["InvalidObservations"] ["InvalidNumber", "InvalidCount", "InvalidBag", "InvalidProgram", "InvalidEffect", "InvalidSequence", "InvalidUser", "ParseError", "EmptyHeap", "OutOfRange", "LimitExceeded", "NothingToUndo"])) rfl)
theorem Hd.isv_InvalidSequence (Y : Hd P K mg base) : tIsV (.glo "InvalidSequence") ["InvalidSequence"] ["InvalidNumber", "InvalidCount", "InvalidBag", "InvalidProgram", "InvalidEffect", "InvalidObservations", "InvalidUser", "ParseError", "EmptyHeap", "OutOfRange", "LimitExceeded", "NothingToUndo"] K = true := (Y.says.fact 60 (f := (tIsV (.glo "InvalidSequence") ["InvalidSequence"] ["InvalidNumber", "InvalidCount", "InvalidBag", "InvalidProgram", "InvalidEffect", "InvalidObservations", "InvalidUser", "ParseError", "EmptyHeap", "OutOfRange", "LimitExceeded", "NothingToUndo"])) rfl)
theorem Hd.isv_EmptyHeap (Y : Hd P K mg base) : tIsV (.glo "EmptyHeap") ["EmptyHeap"] ["InvalidNumber", "InvalidCount", "InvalidBag", "InvalidProgram", "InvalidEffect", "InvalidSequence", "InvalidObservations", "InvalidUser", "ParseError", "OutOfRange", "LimitExceeded", "NothingToUndo"] K = true := (Y.says.fact 61 (f := (tIsV (.glo "EmptyHeap") ["EmptyHeap"] ["InvalidNumber", "InvalidCount", "InvalidBag", "InvalidProgram", "InvalidEffect", "InvalidSequence", "InvalidObservations", "InvalidUser", "ParseError", "OutOfRange", "LimitExceeded", "NothingToUndo"])) rfl)
theorem Hd.isv_ParseError (Y : Hd P K mg base) : tIsV (.glo "ParseError") ["ParseError"] ["InvalidNumber", "InvalidCount", "InvalidBag", "InvalidProgram", "InvalidEffect", "InvalidSequence", "InvalidObservations", "InvalidUser", "EmptyHeap", "OutOfRange", "LimitExceeded", "NothingToUndo"] K = true := (Y.says.fact 62 (f := (tIsV (.glo "ParseError") ["ParseError"] ["InvalidNumber", "InvalidCount", "InvalidBag", "InvalidProgram", "InvalidEffect", "InvalidSequence", "InvalidObservations", "InvalidUser", "EmptyHeap", "OutOfRange", "LimitExceeded", "NothingToUndo"])) rfl)
theorem Hd.isv_InvalidUser (Y : Hd P K mg base) : tIsV (.glo "InvalidUser") ["InvalidUser"] ["InvalidNumber", "InvalidCount", "InvalidBag", "InvalidProgram", "InvalidEffect", "InvalidSequence", "InvalidObservations", "ParseError", "EmptyHeap", "OutOfRange", "LimitExceeded", "NothingToUndo"] K = true := (Y.says.fact 63 (f := (tIsV (.glo "InvalidUser") ["InvalidUser"] ["InvalidNumber", "InvalidCount", "InvalidBag", "InvalidProgram", "InvalidEffect", "InvalidSequence", "InvalidObservations", "ParseError", "EmptyHeap", "OutOfRange", "LimitExceeded", "NothingToUndo"])) rfl)
theorem Hd.isv_LimitExceeded (Y : Hd P K mg base) : tIsV (.glo "LimitExceeded") ["LimitExceeded"] ["InvalidNumber", "InvalidCount", "InvalidBag", "InvalidProgram", "InvalidEffect", "InvalidSequence", "InvalidObservations", "InvalidUser", "ParseError", "EmptyHeap", "OutOfRange", "NothingToUndo"] K = true := (Y.says.fact 64 (f := (tIsV (.glo "LimitExceeded") ["LimitExceeded"] ["InvalidNumber", "InvalidCount", "InvalidBag", "InvalidProgram", "InvalidEffect", "InvalidSequence", "InvalidObservations", "InvalidUser", "ParseError", "EmptyHeap", "OutOfRange", "NothingToUndo"])) rfl)
theorem Hd.isv_OutOfRange (Y : Hd P K mg base) : tIsV (.glo "OutOfRange") ["OutOfRange"] ["InvalidNumber", "InvalidCount", "InvalidBag", "InvalidProgram", "InvalidEffect", "InvalidSequence", "InvalidObservations", "InvalidUser", "ParseError", "EmptyHeap", "LimitExceeded", "NothingToUndo"] K = true := (Y.says.fact 65 (f := (tIsV (.glo "OutOfRange") ["OutOfRange"] ["InvalidNumber", "InvalidCount", "InvalidBag", "InvalidProgram", "InvalidEffect", "InvalidSequence", "InvalidObservations", "InvalidUser", "ParseError", "EmptyHeap", "LimitExceeded", "NothingToUndo"])) rfl)
theorem Hd.isv_NothingToUndo (Y : Hd P K mg base) : tIsV (.glo "NothingToUndo") ["NothingToUndo"] ["InvalidNumber", "InvalidCount", "InvalidBag", "InvalidProgram", "InvalidEffect", "InvalidSequence", "InvalidObservations", "InvalidUser", "ParseError", "EmptyHeap", "OutOfRange", "LimitExceeded"] K = true := (Y.says.fact 66 (f := (tIsV (.glo "NothingToUndo") ["NothingToUndo"] ["InvalidNumber", "InvalidCount", "InvalidBag", "InvalidProgram", "InvalidEffect", "InvalidSequence", "InvalidObservations", "InvalidUser", "ParseError", "EmptyHeap", "OutOfRange", "LimitExceeded"])) rfl)
theorem Hd.glo__law_under (Y : Hd P K mg base) : mg "_law_under" = some (.ref (gadr K "_law_under")) := tGlo_ok Y.kin Y.ns (Y.says.fact 67 (f := (tGlo "_law_under")) rfl)
theorem Hd.isv_LookupError (Y : Hd P K mg base) : tIsV (.ty "LookupError") ["EmptyHeap", "OutOfRange"] ["InvalidNumber", "InvalidCount", "InvalidBag", "InvalidProgram", "InvalidEffect", "InvalidSequence", "InvalidObservations", "InvalidUser", "ParseError", "LimitExceeded", "NothingToUndo"] K = true := (Y.says.fact 68 (f := (tIsV (.ty "LookupError") ["EmptyHeap", "OutOfRange"] ["InvalidNumber", "InvalidCount", "InvalidBag", "InvalidProgram", "InvalidEffect", "InvalidSequence", "InvalidObservations", "InvalidUser", "ParseError", "LimitExceeded", "NothingToUndo"])) rfl)
theorem Hd.free_LookupError (Y : Hd P K mg base) : mg "LookupError" = none := tFree_ok Y.kin Y.ns (Y.says.fact 69 (f := (tFree "LookupError")) rfl)
theorem Hd.isv_ValueError (Y : Hd P K mg base) : tIsV (.ty "ValueError") ["InvalidNumber", "InvalidCount", "InvalidBag", "InvalidProgram", "InvalidEffect", "InvalidSequence", "InvalidObservations", "InvalidUser", "ParseError"] ["EmptyHeap", "OutOfRange", "LimitExceeded", "NothingToUndo"] K = true := (Y.says.fact 70 (f := (tIsV (.ty "ValueError") ["InvalidNumber", "InvalidCount", "InvalidBag", "InvalidProgram", "InvalidEffect", "InvalidSequence", "InvalidObservations", "InvalidUser", "ParseError"] ["EmptyHeap", "OutOfRange", "LimitExceeded", "NothingToUndo"])) rfl)
theorem Hd.free_ValueError (Y : Hd P K mg base) : mg "ValueError" = none := tFree_ok Y.kin Y.ns (Y.says.fact 71 (f := (tFree "ValueError")) rfl)
theorem Hd.glo_HeapError (Y : Hd P K mg base) : mg "HeapError" = some (.ref (gadr K "HeapError")) := tGlo_ok Y.kin Y.ns (Y.says.fact 72 (f := (tGlo "HeapError")) rfl)
theorem Hd.isv_HeapError (Y : Hd P K mg base) : tIsV (.glo "HeapError") ["InvalidNumber", "InvalidCount", "InvalidBag", "InvalidProgram", "InvalidEffect", "InvalidSequence", "InvalidObservations", "InvalidUser", "ParseError"] ["EmptyHeap", "OutOfRange", "LimitExceeded", "NothingToUndo"] K = true := (Y.says.fact 73 (f := (tIsV (.glo "HeapError") ["InvalidNumber", "InvalidCount", "InvalidBag", "InvalidProgram", "InvalidEffect", "InvalidSequence", "InvalidObservations", "InvalidUser", "ParseError"] ["EmptyHeap", "OutOfRange", "LimitExceeded", "NothingToUndo"])) rfl)
theorem Hd.isv_RuntimeError (Y : Hd P K mg base) : tIsV (.ty "RuntimeError") ["NothingToUndo"] ["InvalidNumber", "InvalidCount", "InvalidBag", "InvalidProgram", "InvalidEffect", "InvalidSequence", "InvalidObservations", "InvalidUser", "ParseError", "EmptyHeap", "OutOfRange", "LimitExceeded"] K = true := (Y.says.fact 74 (f := (tIsV (.ty "RuntimeError") ["NothingToUndo"] ["InvalidNumber", "InvalidCount", "InvalidBag", "InvalidProgram", "InvalidEffect", "InvalidSequence", "InvalidObservations", "InvalidUser", "ParseError", "EmptyHeap", "OutOfRange", "LimitExceeded"])) rfl)
theorem Hd.free_RuntimeError (Y : Hd P K mg base) : mg "RuntimeError" = none := tFree_ok Y.kin Y.ns (Y.says.fact 75 (f := (tFree "RuntimeError")) rfl)
theorem Hd.isv_OverflowError (Y : Hd P K mg base) : tIsV (.ty "OverflowError") ["LimitExceeded"] ["InvalidNumber", "InvalidCount", "InvalidBag", "InvalidProgram", "InvalidEffect", "InvalidSequence", "InvalidObservations", "InvalidUser", "ParseError", "EmptyHeap", "OutOfRange", "NothingToUndo"] K = true := (Y.says.fact 76 (f := (tIsV (.ty "OverflowError") ["LimitExceeded"] ["InvalidNumber", "InvalidCount", "InvalidBag", "InvalidProgram", "InvalidEffect", "InvalidSequence", "InvalidObservations", "InvalidUser", "ParseError", "EmptyHeap", "OutOfRange", "NothingToUndo"])) rfl)
theorem Hd.free_OverflowError (Y : Hd P K mg base) : mg "OverflowError" = none := tFree_ok Y.kin Y.ns (Y.says.fact 77 (f := (tFree "OverflowError")) rfl)
theorem Hd.isv_IndexError (Y : Hd P K mg base) : tIsV (.ty "IndexError") ["OutOfRange"] ["InvalidNumber", "InvalidCount", "InvalidBag", "InvalidProgram", "InvalidEffect", "InvalidSequence", "InvalidObservations", "InvalidUser", "ParseError", "EmptyHeap", "LimitExceeded", "NothingToUndo"] K = true := (Y.says.fact 78 (f := (tIsV (.ty "IndexError") ["OutOfRange"] ["InvalidNumber", "InvalidCount", "InvalidBag", "InvalidProgram", "InvalidEffect", "InvalidSequence", "InvalidObservations", "InvalidUser", "ParseError", "EmptyHeap", "LimitExceeded", "NothingToUndo"])) rfl)
theorem Hd.free_IndexError (Y : Hd P K mg base) : mg "IndexError" = none := tFree_ok Y.kin Y.ns (Y.says.fact 79 (f := (tFree "IndexError")) rfl)
theorem Hd.isv_KeyError (Y : Hd P K mg base) : tIsV (.ty "KeyError") [] ["InvalidNumber", "InvalidCount", "InvalidBag", "InvalidProgram", "InvalidEffect", "InvalidSequence", "InvalidObservations", "InvalidUser", "ParseError", "EmptyHeap", "OutOfRange", "LimitExceeded", "NothingToUndo"] K = true := (Y.says.fact 80 (f := (tIsV (.ty "KeyError") [] ["InvalidNumber", "InvalidCount", "InvalidBag", "InvalidProgram", "InvalidEffect", "InvalidSequence", "InvalidObservations", "InvalidUser", "ParseError", "EmptyHeap", "OutOfRange", "LimitExceeded", "NothingToUndo"])) rfl)
theorem Hd.free_KeyError (Y : Hd P K mg base) : mg "KeyError" = none := tFree_ok Y.kin Y.ns (Y.says.fact 81 (f := (tFree "KeyError")) rfl)
theorem Hd.notab (Y : Hd P K mg base) : tNoTab K = true := (Y.says.fact 82 (f := (tNoTab)) rfl)
theorem tx_InvalidUser : DX.Txt (defBody s_InvalidUser_init) (defArgs s_InvalidUser_init) (defScope s_InvalidUser_init) "value" :=
  ⟨⟨_, _, _, _, _, _, _, _, _, _, _, _, fun env => ⟨_, rfl⟩, rfl⟩, ⟨_, rfl, rfl⟩, by decide +kernel, by decide +kernel, by decide +kernel, by decide +kernel, by decide +kernel, rfl, rfl, rfl, by decide +kernel, by decide +kernel⟩
theorem Hd.exc_InvalidUser (Y : Hd P K mg base) : DX.Fx K FILE "value" DX.bVE (gadr K "InvalidUser") (cadr K "InvalidUser" "__init__") :=
  tExc_ok (Y.says.fact 13 (f := (tExc "InvalidUser" "value" DX.bVE)) rfl) rfl rfl (Y.says.exc_ 6 (d := d_InvalidUser_init) rfl (q := ("InvalidUser", FILE)) rfl) rfl tx_InvalidUser fun _ _ _ _ _ _ _ _ _ _ => BindsTo.of_eq (by rfl)
theorem Hd.exck_InvalidUser (Y : Hd P K mg base) : DX.Fxk K FILE "value" DX.bVE (gadr K "InvalidUser") (cadr K "InvalidUser" "__init__") :=
  tExc_ok (Y.says.fact 13 (f := (tExc "InvalidUser" "value" DX.bVE)) rfl) rfl rfl (Y.says.exc_ 6 (d := d_InvalidUser_init) rfl (q := ("InvalidUser", FILE)) rfl) rfl tx_InvalidUser fun _ _ _ _ _ _ _ _ _ _ => BindsTo.of_eq (by rfl)
theorem tx_InvalidBag : DX.Txt (defBody s_InvalidBag_init) (defArgs s_InvalidBag_init) (defScope s_InvalidBag_init) "value" :=
  ⟨⟨_, _, _, _, _, _, _, _, _, _, _, _, fun env => ⟨_, rfl⟩, rfl⟩, ⟨_, rfl, rfl⟩, by decide +kernel, by decide +kernel, by decide +kernel, by decide +kernel, by decide +kernel, rfl, rfl, rfl, by decide +kernel, by decide +kernel⟩
theorem Hd.exc_InvalidBag (Y : Hd P K mg base) : DX.Fx K FILE "value" DX.bVE (gadr K "InvalidBag") (cadr K "InvalidBag" "__init__") :=
  tExc_ok (Y.says.fact 16 (f := (tExc "InvalidBag" "value" DX.bVE)) rfl) rfl rfl (Y.says.exc_ 7 (d := d_InvalidBag_init) rfl (q := ("InvalidBag", FILE)) rfl) rfl tx_InvalidBag fun _ _ _ _ _ _ _ _ _ _ => BindsTo.of_eq (by rfl)
theorem Hd.exck_InvalidBag (Y : Hd P K mg base) : DX.Fxk K FILE "value" DX.bVE (gadr K "InvalidBag") (cadr K "InvalidBag" "__init__") :=
  tExc_ok (Y.says.fact 16 (f := (tExc "InvalidBag" "value" DX.bVE)) rfl) rfl rfl (Y.says.exc_ 7 (d := d_InvalidBag_init) rfl (q := ("InvalidBag", FILE)) rfl) rfl tx_InvalidBag fun _ _ _ _ _ _ _ _ _ _ => BindsTo.of_eq (by rfl)
theorem tx_InvalidCount : DX.Txt (defBody s_InvalidCount_init) (defArgs s_InvalidCount_init) (defScope s_InvalidCount_init) "value" :=
  ⟨⟨_, _, _, _, _, _, _, _, _, _, _, _, fun env => ⟨_, rfl⟩, rfl⟩, ⟨_, rfl, rfl⟩, by decide +kernel, by decide +kernel, by decide +kernel, by decide +kernel, by decide +kernel, rfl, rfl, rfl, by decide +kernel, by decide +kernel⟩
theorem Hd.exc_InvalidCount (Y : Hd P K mg base) : DX.Fx K FILE "value" DX.bVE (gadr K "InvalidCount") (cadr K "InvalidCount" "__init__") :=
  tExc_ok (Y.says.fact 19 (f := (tExc "InvalidCount" "value" DX.bVE)) rfl) rfl rfl (Y.says.exc_ 8 (d := d_InvalidCount_init) rfl (q := ("InvalidCount", FILE)) rfl) rfl tx_InvalidCount fun _ _ _ _ _ _ _ _ _ _ => BindsTo.of_eq (by rfl)
theorem Hd.exck_InvalidCount (Y : Hd P K mg base) : DX.Fxk K FILE "value" DX.bVE (gadr K "InvalidCount") (cadr K "InvalidCount" "__init__") :=
  tExc_ok (Y.says.fact 19 (f := (tExc "InvalidCount" "value" DX.bVE)) rfl) rfl rfl (Y.says.exc_ 8 (d := d_InvalidCount_init) rfl (q := ("InvalidCount", FILE)) rfl) rfl tx_InvalidCount fun _ _ _ _ _ _ _ _ _ _ => BindsTo.of_eq (by rfl)
theorem tx_InvalidNumber : DX.Txt (defBody s_InvalidNumber_init) (defArgs s_InvalidNumber_init) (defScope s_InvalidNumber_init) "value" :=
  ⟨⟨_, _, _, _, _, _, _, _, _, _, _, _, fun env => ⟨_, rfl⟩, rfl⟩, ⟨_, rfl, rfl⟩, by decide +kernel, by decide +kernel, by decide +kernel, by decide +kernel, by decide +kernel, rfl, rfl, rfl, by decide +kernel, by decide +kernel⟩
theorem Hd.exc_InvalidNumber (Y : Hd P K mg base) : DX.Fx K FILE "value" DX.bVE (gadr K "InvalidNumber") (cadr K "InvalidNumber" "__init__") :=
  tExc_ok (Y.says.fact 22 (f := (tExc "InvalidNumber" "value" DX.bVE)) rfl) rfl rfl (Y.says.exc_ 9 (d := d_InvalidNumber_init) rfl (q := ("InvalidNumber", FILE)) rfl) rfl tx_InvalidNumber fun _ _ _ _ _ _ _ _ _ _ => BindsTo.of_eq (by rfl)
theorem Hd.exck_InvalidNumber (Y : Hd P K mg base) : DX.Fxk K FILE "value" DX.bVE (gadr K "InvalidNumber") (cadr K "InvalidNumber" "__init__") :=
  tExc_ok (Y.says.fact 22 (f := (tExc "InvalidNumber" "value" DX.bVE)) rfl) rfl rfl (Y.says.exc_ 9 (d := d_InvalidNumber_init) rfl (q := ("InvalidNumber", FILE)) rfl) rfl tx_InvalidNumber fun _ _ _ _ _ _ _ _ _ _ => BindsTo.of_eq (by rfl)
theorem tx_ParseError : DX.Txt (defBody s_ParseError_init) (defArgs s_ParseError_init) (defScope s_ParseError_init) "position" :=
  ⟨⟨_, _, _, _, _, _, _, _, _, _, _, _, fun env => ⟨_, rfl⟩, rfl⟩, ⟨_, rfl, rfl⟩, by decide +kernel, by decide +kernel, by decide +kernel, by decide +kernel, by decide +kernel, rfl, rfl, rfl, by decide +kernel, by decide +kernel⟩
theorem Hd.exc_ParseError (Y : Hd P K mg base) : DX.Fx K FILE "position" DX.bVE (gadr K "ParseError") (cadr K "ParseError" "__init__") :=
  tExc_ok (Y.says.fact 25 (f := (tExc "ParseError" "position" DX.bVE)) rfl) rfl rfl (Y.says.exc_ 10 (d := d_ParseError_init) rfl (q := ("ParseError", FILE)) rfl) rfl tx_ParseError fun _ _ _ _ _ _ _ _ _ _ => BindsTo.of_eq (by rfl)
theorem Hd.exck_ParseError (Y : Hd P K mg base) : DX.Fxk K FILE "position" DX.bVE (gadr K "ParseError") (cadr K "ParseError" "__init__") :=
  tExc_ok (Y.says.fact 25 (f := (tExc "ParseError" "position" DX.bVE)) rfl) rfl rfl (Y.says.exc_ 10 (d := d_ParseError_init) rfl (q := ("ParseError", FILE)) rfl) rfl tx_ParseError fun _ _ _ _ _ _ _ _ _ _ => BindsTo.of_eq (by rfl)
theorem tx_InvalidSequence : DX.Txt (defBody s_InvalidSequence_init) (defArgs s_InvalidSequence_init) (defScope s_InvalidSequence_init) "index" :=
  ⟨⟨_, _, _, _, _, _, _, _, _, _, _, _, fun env => ⟨_, rfl⟩, rfl⟩, ⟨_, rfl, rfl⟩, by decide +kernel, by decide +kernel, by decide +kernel, by decide +kernel, by decide +kernel, rfl, rfl, rfl, by decide +kernel, by decide +kernel⟩
theorem Hd.exc_InvalidSequence (Y : Hd P K mg base) : DX.Fx K FILE "index" DX.bVE (gadr K "InvalidSequence") (cadr K "InvalidSequence" "__init__") :=
  tExc_ok (Y.says.fact 28 (f := (tExc "InvalidSequence" "index" DX.bVE)) rfl) rfl rfl (Y.says.exc_ 11 (d := d_InvalidSequence_init) rfl (q := ("InvalidSequence", FILE)) rfl) rfl tx_InvalidSequence fun _ _ _ _ _ _ _ _ _ _ => BindsTo.of_eq (by rfl)
theorem Hd.exck_InvalidSequence (Y : Hd P K mg base) : DX.Fxk K FILE "index" DX.bVE (gadr K "InvalidSequence") (cadr K "InvalidSequence" "__init__") :=
  tExc_ok (Y.says.fact 28 (f := (tExc "InvalidSequence" "index" DX.bVE)) rfl) rfl rfl (Y.says.exc_ 11 (d := d_InvalidSequence_init) rfl (q := ("InvalidSequence", FILE)) rfl) rfl tx_InvalidSequence fun _ _ _ _ _ _ _ _ _ _ => BindsTo.of_eq (by rfl)
theorem tx_InvalidEffect : DX.Txt (defBody s_InvalidEffect_init) (defArgs s_InvalidEffect_init) (defScope s_InvalidEffect_init) "part" :=
  ⟨⟨_, _, _, _, _, _, _, _, _, _, _, _, fun env => ⟨_, rfl⟩, rfl⟩, ⟨_, rfl, rfl⟩, by decide +kernel, by decide +kernel, by decide +kernel, by decide +kernel, by decide +kernel, rfl, rfl, rfl, by decide +kernel, by decide +kernel⟩
theorem Hd.exc_InvalidEffect (Y : Hd P K mg base) : DX.Fx K FILE "part" DX.bVE (gadr K "InvalidEffect") (cadr K "InvalidEffect" "__init__") :=
  tExc_ok (Y.says.fact 31 (f := (tExc "InvalidEffect" "part" DX.bVE)) rfl) rfl rfl (Y.says.exc_ 12 (d := d_InvalidEffect_init) rfl (q := ("InvalidEffect", FILE)) rfl) rfl tx_InvalidEffect fun _ _ _ _ _ _ _ _ _ _ => BindsTo.of_eq (by rfl)
theorem Hd.exck_InvalidEffect (Y : Hd P K mg base) : DX.Fxk K FILE "part" DX.bVE (gadr K "InvalidEffect") (cadr K "InvalidEffect" "__init__") :=
  tExc_ok (Y.says.fact 31 (f := (tExc "InvalidEffect" "part" DX.bVE)) rfl) rfl rfl (Y.says.exc_ 12 (d := d_InvalidEffect_init) rfl (q := ("InvalidEffect", FILE)) rfl) rfl tx_InvalidEffect fun _ _ _ _ _ _ _ _ _ _ => BindsTo.of_eq (by rfl)
theorem tx_InvalidProgram : DX.Txt (defBody s_InvalidProgram_init) (defArgs s_InvalidProgram_init) (defScope s_InvalidProgram_init) "path" :=
  ⟨⟨_, _, _, _, _, _, _, _, _, _, _, _, fun env => ⟨_, rfl⟩, rfl⟩, ⟨_, rfl, rfl⟩, by decide +kernel, by decide +kernel, by decide +kernel, by decide +kernel, by decide +kernel, rfl, rfl, rfl, by decide +kernel, by decide +kernel⟩
theorem Hd.exc_InvalidProgram (Y : Hd P K mg base) : DX.Fx K FILE "path" DX.bVE (gadr K "InvalidProgram") (cadr K "InvalidProgram" "__init__") :=
  tExc_ok (Y.says.fact 34 (f := (tExc "InvalidProgram" "path" DX.bVE)) rfl) rfl rfl (Y.says.exc_ 13 (d := d_InvalidProgram_init) rfl (q := ("InvalidProgram", FILE)) rfl) rfl tx_InvalidProgram fun _ _ _ _ _ _ _ _ _ _ => BindsTo.of_eq (by rfl)
theorem Hd.exck_InvalidProgram (Y : Hd P K mg base) : DX.Fxk K FILE "path" DX.bVE (gadr K "InvalidProgram") (cadr K "InvalidProgram" "__init__") :=
  tExc_ok (Y.says.fact 34 (f := (tExc "InvalidProgram" "path" DX.bVE)) rfl) rfl rfl (Y.says.exc_ 13 (d := d_InvalidProgram_init) rfl (q := ("InvalidProgram", FILE)) rfl) rfl tx_InvalidProgram fun _ _ _ _ _ _ _ _ _ _ => BindsTo.of_eq (by rfl)
theorem tx_LimitExceeded : DX.Txt (defBody s_LimitExceeded_init) (defArgs s_LimitExceeded_init) (defScope s_LimitExceeded_init) "count" :=
  ⟨⟨_, _, _, _, _, _, _, _, _, _, _, _, fun env => ⟨_, rfl⟩, rfl⟩, ⟨_, rfl, rfl⟩, by decide +kernel, by decide +kernel, by decide +kernel, by decide +kernel, by decide +kernel, rfl, rfl, rfl, by decide +kernel, by decide +kernel⟩
theorem Hd.exc_LimitExceeded (Y : Hd P K mg base) : DX.Fx K FILE "count" DX.bOE (gadr K "LimitExceeded") (cadr K "LimitExceeded" "__init__") :=
  tExc_ok (Y.says.fact 37 (f := (tExc "LimitExceeded" "count" DX.bOE)) rfl) rfl rfl (Y.says.exc_ 14 (d := d_LimitExceeded_init) rfl (q := ("LimitExceeded", FILE)) rfl) rfl tx_LimitExceeded fun _ _ _ _ _ _ _ _ _ _ => BindsTo.of_eq (by rfl)
theorem Hd.exck_LimitExceeded (Y : Hd P K mg base) : DX.Fxk K FILE "count" DX.bOE (gadr K "LimitExceeded") (cadr K "LimitExceeded" "__init__") :=
  tExc_ok (Y.says.fact 37 (f := (tExc "LimitExceeded" "count" DX.bOE)) rfl) rfl rfl (Y.says.exc_ 14 (d := d_LimitExceeded_init) rfl (q := ("LimitExceeded", FILE)) rfl) rfl tx_LimitExceeded fun _ _ _ _ _ _ _ _ _ _ => BindsTo.of_eq (by rfl)
theorem tx_OutOfRange : DX.Txt (defBody s_OutOfRange_init) (defArgs s_OutOfRange_init) (defScope s_OutOfRange_init) "value" :=
  ⟨⟨_, _, _, _, _, _, _, _, _, _, _, _, fun env => ⟨_, rfl⟩, rfl⟩, ⟨_, rfl, rfl⟩, by decide +kernel, by decide +kernel, by decide +kernel, by decide +kernel, by decide +kernel, rfl, rfl, rfl, by decide +kernel, by decide +kernel⟩
theorem Hd.exc_OutOfRange (Y : Hd P K mg base) : DX.Fx K FILE "value" DX.bIE (gadr K "OutOfRange") (cadr K "OutOfRange" "__init__") :=
  tExc_ok (Y.says.fact 40 (f := (tExc "OutOfRange" "value" DX.bIE)) rfl) rfl rfl (Y.says.exc_ 15 (d := d_OutOfRange_init) rfl (q := ("OutOfRange", FILE)) rfl) rfl tx_OutOfRange fun _ _ _ _ _ _ _ _ _ _ => BindsTo.of_eq (by rfl)
theorem Hd.exck_OutOfRange (Y : Hd P K mg base) : DX.Fxk K FILE "value" DX.bIE (gadr K "OutOfRange") (cadr K "OutOfRange" "__init__") :=
  tExc_ok (Y.says.fact 40 (f := (tExc "OutOfRange" "value" DX.bIE)) rfl) rfl rfl (Y.says.exc_ 15 (d := d_OutOfRange_init) rfl (q := ("OutOfRange", FILE)) rfl) rfl tx_OutOfRange fun _ _ _ _ _ _ _ _ _ _ => BindsTo.of_eq (by rfl)
theorem tx_EmptyHeap : DX.Txt (defBody s_EmptyHeap_init) (defArgs s_EmptyHeap_init) (defScope s_EmptyHeap_init) "index" :=
  ⟨⟨_, _, _, _, _, _, _, _, _, _, _, _, fun env => ⟨_, rfl⟩, rfl⟩, ⟨_, rfl, rfl⟩, by decide +kernel, by decide +kernel, by decide +kernel, by decide +kernel, by decide +kernel, rfl, rfl, rfl, by decide +kernel, by decide +kernel⟩
theorem Hd.exc_EmptyHeap (Y : Hd P K mg base) : DX.Fx K FILE "index" DX.bLE (gadr K "EmptyHeap") (cadr K "EmptyHeap" "__init__") :=
  tExc_ok (Y.says.fact 43 (f := (tExc "EmptyHeap" "index" DX.bLE)) rfl) rfl rfl (Y.says.exc_ 16 (d := d_EmptyHeap_init) rfl (q := ("EmptyHeap", FILE)) rfl) rfl tx_EmptyHeap fun _ _ _ _ _ _ _ _ _ _ => BindsTo.of_eq (by rfl)
theorem Hd.exck_EmptyHeap (Y : Hd P K mg base) : DX.Fxk K FILE "index" DX.bLE (gadr K "EmptyHeap") (cadr K "EmptyHeap" "__init__") :=
  tExc_ok (Y.says.fact 43 (f := (tExc "EmptyHeap" "index" DX.bLE)) rfl) rfl rfl (Y.says.exc_ 16 (d := d_EmptyHeap_init) rfl (q := ("EmptyHeap", FILE)) rfl) rfl tx_EmptyHeap fun _ _ _ _ _ _ _ _ _ _ => BindsTo.of_eq (by rfl)
theorem tx_InvalidObservations : DX.Txt (defBody s_InvalidObservations_init) (defArgs s_InvalidObservations_init) (defScope s_InvalidObservations_init) "index" :=
  ⟨⟨_, _, _, _, _, _, _, _, _, _, _, _, fun env => ⟨_, rfl⟩, rfl⟩, ⟨_, rfl, rfl⟩, by decide +kernel, by decide +kernel, by decide +kernel, by decide +kernel, by decide +kernel, rfl, rfl, rfl, by decide +kernel, by decide +kernel⟩
theorem Hd.exc_InvalidObservations (Y : Hd P K mg base) : DX.Fx K FILE "index" DX.bVE (gadr K "InvalidObservations") (cadr K "InvalidObservations" "__init__") :=
  tExc_ok (Y.says.fact 46 (f := (tExc "InvalidObservations" "index" DX.bVE)) rfl) rfl rfl (Y.says.exc_ 17 (d := d_InvalidObservations_init) rfl (q := ("InvalidObservations", FILE)) rfl) rfl tx_InvalidObservations fun _ _ _ _ _ _ _ _ _ _ => BindsTo.of_eq (by rfl)
theorem Hd.exck_InvalidObservations (Y : Hd P K mg base) : DX.Fxk K FILE "index" DX.bVE (gadr K "InvalidObservations") (cadr K "InvalidObservations" "__init__") :=
  tExc_ok (Y.says.fact 46 (f := (tExc "InvalidObservations" "index" DX.bVE)) rfl) rfl rfl (Y.says.exc_ 17 (d := d_InvalidObservations_init) rfl (q := ("InvalidObservations", FILE)) rfl) rfl tx_InvalidObservations fun _ _ _ _ _ _ _ _ _ _ => BindsTo.of_eq (by rfl)
end
theorem sc_q_pool : FnScope ["_law_script", "_law_k", "_law_cell", "_law_great", "_law_mixed"] ["_law_script", "_law_k"] (defScope s_q_pool) := ⟨rfl, rfl, rfl, by decide +kernel, rfl, by decide +kernel, by decide +kernel⟩
theorem Hd.b_q_pool {P : Program} {w : World} {K : PySem.W.Frag} {mg : Str → Option Value} {base : Heap} (Y : Hd P K mg base) (cdv : Value) (A : Around) (outer : List PySem.Env) (s : Shared) (H : Hp) (E : XK) (a : Addr) (hr : DL.Room 0 (A.deeper (envOfC "_law_pool" (defScope s_q_pool) s.heap.objs.size a cdv))) :
    DB (cxOf (L2.CX P w) P w K mg base ["_law_script", "_law_k", "_law_cell", "_law_great", "_law_mixed"] "_law_pool" (defScope s_q_pool) a cdv A outer s H E) (fun c d _ H => E c d H) (defBody s_q_pool) c_q_pool :=
  (db_cons (ds_set 2 sc_q_pool.nd (de_op opd_add (de_op opd_mul de_int (by exact (de_callB (cd_sum rfl) rfl (Y.free_sum) rfl (da_cons (de_sl (de_var 0) do_none (do_some de_int)) da_nil)))) (de_var 1)))
    (db_cons (ds_if (dt_cmp opd_lt (de_var 1) (by exact (de_callB cd_len rfl (Y.free_len) rfl (da_cons (de_var 0) da_nil))) (nomark _)) (db_one (ds_set 2 sc_q_pool.nd (de_ix (de_var 0) (de_var 1))))
    db_nil)
    (db_cons (ds_set 3 sc_q_pool.nd (by exact (de_callB cd_abs rfl (Y.free_abs) rfl (da_cons (de_var 2) da_nil))))
    (db_cons (ds_set 4 sc_q_pool.nd (de_op opd_modI (de_op opd_mul (de_op opd_add (de_op opd_add (de_op opd_add (de_op opd_modI (de_var 3) de_int) (de_op opd_mul (de_op opd_mul de_int (de_var 1)) (de_var 1))) (de_op opd_mul de_int (de_var 1))) de_int) de_int) de_int))
    (db_one (ds_ret (de_new (da_cons (de_op opd_mul (de_var 3) (by exact (de_callTy cd_int rfl (Y.free_int) rfl (da_cons (de_cmp opd_ge (de_var 3) (de_op opd_powI de_int de_int) (nomark _)) da_nil)))) (da_cons (de_op opd_modI (de_op opd_mul (de_var 4) (de_var 4)) de_int) da_nil)))))))))
theorem Hd.ok_q_pool {P : Program} {w : World} {K : PySem.W.Frag} {mg : Str → Option Value} {base : Heap} (Y : Hd P K mg base) : CalD P w K mg base 1 "_law_pool" 2 F_q_pool :=
  by obtain ⟨fd_q_pool, D_q_pool⟩ := Y.says.def_ 0 (d := d_q_pool) rfl; exact ⟨Y.glo__law_pool, D_q_pool.kp, fd_q_pool, ["_law_script", "_law_k"], rfl, fn_ok D_q_pool sc_q_pool fun cdv A outer s H E hr => Y.b_q_pool cdv A outer s H E _ hr, D_q_pool.bindsN fun _ _ _ _ _ _ us hl => match us, hl with | [_, _], _ => rfl⟩
theorem sc_q_draw : FnScope ["_law_pool_here", "_law_many", "_law_found"] ["_law_pool_here", "_law_many"] (defScope s_q_draw) := ⟨rfl, rfl, rfl, by decide +kernel, rfl, by decide +kernel, by decide +kernel⟩
theorem Hd.b_q_draw {P : Program} {w : World} {K : PySem.W.Frag} {mg : Str → Option Value} {base : Heap} (Y : Hd P K mg base) (cdv : Value) (A : Around) (outer : List PySem.Env) (s : Shared) (H : Hp) (E : XK) (a : Addr) (hr : DL.Room 0 (A.deeper (envOfC "_law_draw" (defScope s_q_draw) s.heap.objs.size a cdv))) :
    DB (cxOf (L2.CX P w) P w K mg base ["_law_pool_here", "_law_many", "_law_found"] "_law_draw" (defScope s_q_draw) a cdv A outer s H E) (fun c d _ H => E c d H) (defBody s_q_draw) c_q_draw :=
  (db_cons (ds_if (dt_cmp opd_gt (de_ix (de_var 0) de_int) de_int (nomark _)) (db_cons (ds_set 2 sc_q_draw.nd (de_op opd_modI (de_ix (de_var 0) de_int) (de_var 1)))
    (db_cons (ds_asg (de_op opd_divI (de_ix (de_var 0) de_int) (de_var 1)) (dg_sub (W := W0) (de_var 0) de_int) gSub_ok)
    (db_one (ds_ret (de_var 2)))))
    db_nil)
    (db_cons (ds_asg (de_op opd_modI (de_op opd_add (de_op opd_mul (de_ix (de_var 0) de_int) de_int) de_int) de_int) (dg_sub (W := W0) (de_var 0) de_int) gSub_ok)
    (db_one (ds_ret (de_op opd_modI (de_op opd_divI (de_op opd_modI (de_op opd_mul (de_ix (de_var 0) de_int) (de_ix (de_var 0) de_int)) de_int) de_int) (de_var 1))))))
theorem Hd.ok_q_draw {P : Program} {w : World} {K : PySem.W.Frag} {mg : Str → Option Value} {base : Heap} (Y : Hd P K mg base) : CalD P w K mg base 1 "_law_draw" 2 F_q_draw :=
  by obtain ⟨fd_q_draw, D_q_draw⟩ := Y.says.def_ 1 (d := d_q_draw) rfl; exact ⟨Y.glo__law_draw, D_q_draw.kp, fd_q_draw, ["_law_pool_here", "_law_many"], rfl, fn_ok D_q_draw sc_q_draw fun cdv A outer s H E hr => Y.b_q_draw cdv A outer s H E _ hr, D_q_draw.bindsN fun _ _ _ _ _ _ us hl => match us, hl with | [_, _], _ => rfl⟩
def c_q_fields_hold_1 : Sx :=
  (sRet (eC (.bl true)))
def c_q_fields_hold_2 : Sx :=
  (sSeq (sIf (eOp gNe (eLst (aCons (eXFld "InvalidObservations" "index" (eMakeX "InvalidObservations" "index" (eVar 0))) (aCons (eXFld "OutOfRange" "value" (eMakeX "OutOfRange" "value" (eVar 0))) (aCons (eXFld "LimitExceeded" "count" (eMakeX "LimitExceeded" "count" (eVar 0))) aNil)))) (eOp gMul (eLst (aCons (eVar 0) aNil)) (eC (.int 3)))) (sRet (eC (.bl false)))
    sNil)
    c_q_fields_hold_1)
def c_q_fields_hold_3 : Sx :=
  (sSeq (sIf (eOp gNe (eLst (aCons (eXFld "InvalidSequence" "index" (eMakeX "InvalidSequence" "index" (eVar 0))) (aCons (eXFld "ParseError" "position" (eMakeX "ParseError" "position" (eVar 0))) (aCons (eXFld "EmptyHeap" "index" (eMakeX "EmptyHeap" "index" (eVar 0))) aNil)))) (eOp gMul (eLst (aCons (eVar 0) aNil)) (eC (.int 3)))) (sRet (eC (.bl false)))
    sNil)
    c_q_fields_hold_2)
def c_q_fields_hold_4 : Sx :=
  (sSeq (sIf (eOp gNe (eLst (aCons (eXFld "InvalidUser" "value" (eMakeX "InvalidUser" "value" (eVar 0))) (aCons (eXFld "InvalidProgram" "path" (eMakeX "InvalidProgram" "path" (eVar 0))) (aCons (eXFld "InvalidEffect" "part" (eMakeX "InvalidEffect" "part" (eVar 0))) aNil)))) (eOp gMul (eLst (aCons (eVar 0) aNil)) (eC (.int 3)))) (sRet (eC (.bl false)))
    sNil)
    c_q_fields_hold_3)
def c_q_fields_hold_5 : Sx :=
  (sSeq (sIf (eOp gNe (eLst (aCons (eXFld "InvalidNumber" "value" (eMakeX "InvalidNumber" "value" (eVar 0))) (aCons (eXFld "InvalidCount" "value" (eMakeX "InvalidCount" "value" (eVar 0))) (aCons (eXFld "InvalidBag" "value" (eMakeX "InvalidBag" "value" (eVar 0))) aNil)))) (eOp gMul (eLst (aCons (eVar 0) aNil)) (eC (.int 3)))) (sRet (eC (.bl false)))
    sNil)
    c_q_fields_hold_4)
def c_q_fields_hold_6 : Sx :=
  (sSeq (sIf (eOp gNe (eLst (aCons (eXFld "InvalidObservations" "index" (eMakeX "InvalidObservations" "index" (eVar 0))) (aCons (eXFld "EmptyHeap" "index" (eMakeX "EmptyHeap" "index" (eVar 0))) (aCons (eXFld "OutOfRange" "value" (eMakeX "OutOfRange" "value" (eVar 0))) (aCons (eXFld "LimitExceeded" "count" (eMakeX "LimitExceeded" "count" (eVar 0))) aNil))))) (eOp gMul (eLst (aCons (eVar 0) aNil)) (eC (.int 4)))) (sRet (eC (.bl false)))
    sNil)
    c_q_fields_hold_5)
def c_q_fields_hold_7 : Sx :=
  (sSeq (sIf (eOp gNe (eLst (aCons (eXFld "InvalidProgram" "path" (eMakeX "InvalidProgram" "path" (eVar 0))) (aCons (eXFld "InvalidEffect" "part" (eMakeX "InvalidEffect" "part" (eVar 0))) (aCons (eXFld "InvalidSequence" "index" (eMakeX "InvalidSequence" "index" (eVar 0))) (aCons (eXFld "ParseError" "position" (eMakeX "ParseError" "position" (eVar 0))) aNil))))) (eOp gMul (eLst (aCons (eVar 0) aNil)) (eC (.int 4)))) (sRet (eC (.bl false)))
    sNil)
    c_q_fields_hold_6)
def c_q_fields_hold : Sx :=
  (sSeq (sIf (eOp gNe (eLst (aCons (eXFld "InvalidNumber" "value" (eMakeX "InvalidNumber" "value" (eVar 0))) (aCons (eXFld "InvalidCount" "value" (eMakeX "InvalidCount" "value" (eVar 0))) (aCons (eXFld "InvalidBag" "value" (eMakeX "InvalidBag" "value" (eVar 0))) (aCons (eXFld "InvalidUser" "value" (eMakeX "InvalidUser" "value" (eVar 0))) aNil))))) (eOp gMul (eLst (aCons (eVar 0) aNil)) (eC (.int 4)))) (sRet (eC (.bl false)))
    sNil)
    c_q_fields_hold_7)
def F_q_fields_hold : Fn := defn 1 1 c_q_fields_hold
theorem sc_q_fields_hold : FnScope ["_law_a"] ["_law_a"] (defScope s_q_fields_hold) := ⟨rfl, rfl, rfl, by decide +kernel, rfl, by decide +kernel, by decide +kernel⟩
theorem Hd.b_q_fields_hold {P : Program} {w : World} {K : PySem.W.Frag} {mg : Str → Option Value} {base : Heap} (Y : Hd P K mg base) (cdv : Value) (A : Around) (outer : List PySem.Env) (s : Shared) (H : Hp) (E : XK) (a : Addr) (hr : DL.Room 0 (A.deeper (envOfC "_law_fields_hold" (defScope s_q_fields_hold) s.heap.objs.size a cdv))) :
    DB (cxOf (L2.CX P w) P w K mg base ["_law_a"] "_law_fields_hold" (defScope s_q_fields_hold) a cdv A outer s H E) (fun c d _ H => E c d H) (defBody s_q_fields_hold) c_q_fields_hold :=
  (db_cons (ds_if (dt_cmp (opd_ne hr.units) (de_lst (da_cons (de_xfld Y.xf_InvalidNumber_value.1 Y.xf_InvalidNumber_value.2 (by exact (de_mkX Y.exc_InvalidNumber DX.okVE Y.pf (Y.free_super) Y.glo_InvalidNumber hr (de_var 0)))) (da_cons (de_xfld Y.xf_InvalidCount_value.1 Y.xf_InvalidCount_value.2 (by exact (de_mkX Y.exc_InvalidCount DX.okVE Y.pf (Y.free_super) Y.glo_InvalidCount hr (de_var 0)))) (da_cons (de_xfld Y.xf_InvalidBag_value.1 Y.xf_InvalidBag_value.2 (by exact (de_mkX Y.exc_InvalidBag DX.okVE Y.pf (Y.free_super) Y.glo_InvalidBag hr (de_var 0)))) (da_cons (de_xfld Y.xf_InvalidUser_value.1 Y.xf_InvalidUser_value.2 (by exact (de_mkX Y.exc_InvalidUser DX.okVE Y.pf (Y.free_super) Y.glo_InvalidUser hr (de_var 0)))) da_nil))))) (de_op opd_mul (de_lst (da_cons (de_var 0) da_nil)) de_int) (nomark _)) (db_one (ds_ret de_bl))
    db_nil)
    (db_cons (ds_if (dt_cmp (opd_ne hr.units) (de_lst (da_cons (de_xfld Y.xf_InvalidProgram_path.1 Y.xf_InvalidProgram_path.2 (by exact (de_mkX Y.exc_InvalidProgram DX.okVE Y.pf (Y.free_super) Y.glo_InvalidProgram hr (de_var 0)))) (da_cons (de_xfld Y.xf_InvalidEffect_part.1 Y.xf_InvalidEffect_part.2 (by exact (de_mkX Y.exc_InvalidEffect DX.okVE Y.pf (Y.free_super) Y.glo_InvalidEffect hr (de_var 0)))) (da_cons (de_xfld Y.xf_InvalidSequence_index.1 Y.xf_InvalidSequence_index.2 (by exact (de_mkX Y.exc_InvalidSequence DX.okVE Y.pf (Y.free_super) Y.glo_InvalidSequence hr (de_var 0)))) (da_cons (de_xfld Y.xf_ParseError_position.1 Y.xf_ParseError_position.2 (by exact (de_mkX Y.exc_ParseError DX.okVE Y.pf (Y.free_super) Y.glo_ParseError hr (de_var 0)))) da_nil))))) (de_op opd_mul (de_lst (da_cons (de_var 0) da_nil)) de_int) (nomark _)) (db_one (ds_ret de_bl))
    db_nil)
    (db_cons (ds_if (dt_cmp (opd_ne hr.units) (de_lst (da_cons (de_xfld Y.xf_InvalidObservations_index.1 Y.xf_InvalidObservations_index.2 (by exact (de_mkX Y.exc_InvalidObservations DX.okVE Y.pf (Y.free_super) Y.glo_InvalidObservations hr (de_var 0)))) (da_cons (de_xfld Y.xf_EmptyHeap_index.1 Y.xf_EmptyHeap_index.2 (by exact (de_mkX Y.exc_EmptyHeap DX.okLE Y.pf (Y.free_super) Y.glo_EmptyHeap hr (de_var 0)))) (da_cons (de_xfld Y.xf_OutOfRange_value.1 Y.xf_OutOfRange_value.2 (by exact (de_mkX Y.exc_OutOfRange DX.okIE Y.pf (Y.free_super) Y.glo_OutOfRange hr (de_var 0)))) (da_cons (de_xfld Y.xf_LimitExceeded_count.1 Y.xf_LimitExceeded_count.2 (by exact (de_mkX Y.exc_LimitExceeded DX.okOE Y.pf (Y.free_super) Y.glo_LimitExceeded hr (de_var 0)))) da_nil))))) (de_op opd_mul (de_lst (da_cons (de_var 0) da_nil)) de_int) (nomark _)) (db_one (ds_ret de_bl))
    db_nil)
    (db_cons (ds_if (dt_cmp (opd_ne hr.units) (de_lst (da_cons (de_xfld Y.xf_InvalidNumber_value.1 Y.xf_InvalidNumber_value.2 (by exact (de_mkXK Y.exck_InvalidNumber DX.okVE Y.pf (Y.free_super) Y.glo_InvalidNumber hr (de_var 0)))) (da_cons (de_xfld Y.xf_InvalidCount_value.1 Y.xf_InvalidCount_value.2 (by exact (de_mkXK Y.exck_InvalidCount DX.okVE Y.pf (Y.free_super) Y.glo_InvalidCount hr (de_var 0)))) (da_cons (de_xfld Y.xf_InvalidBag_value.1 Y.xf_InvalidBag_value.2 (by exact (de_mkXK Y.exck_InvalidBag DX.okVE Y.pf (Y.free_super) Y.glo_InvalidBag hr (de_var 0)))) da_nil)))) (de_op opd_mul (de_lst (da_cons (de_var 0) da_nil)) de_int) (nomark _)) (db_one (ds_ret de_bl))
    db_nil)
    (db_cons (ds_if (dt_cmp (opd_ne hr.units) (de_lst (da_cons (de_xfld Y.xf_InvalidUser_value.1 Y.xf_InvalidUser_value.2 (by exact (de_mkXK Y.exck_InvalidUser DX.okVE Y.pf (Y.free_super) Y.glo_InvalidUser hr (de_var 0)))) (da_cons (de_xfld Y.xf_InvalidProgram_path.1 Y.xf_InvalidProgram_path.2 (by exact (de_mkXK Y.exck_InvalidProgram DX.okVE Y.pf (Y.free_super) Y.glo_InvalidProgram hr (de_var 0)))) (da_cons (de_xfld Y.xf_InvalidEffect_part.1 Y.xf_InvalidEffect_part.2 (by exact (de_mkXK Y.exck_InvalidEffect DX.okVE Y.pf (Y.free_super) Y.glo_InvalidEffect hr (de_var 0)))) da_nil)))) (de_op opd_mul (de_lst (da_cons (de_var 0) da_nil)) de_int) (nomark _)) (db_one (ds_ret de_bl))
    db_nil)
    (db_cons (ds_if (dt_cmp (opd_ne hr.units) (de_lst (da_cons (de_xfld Y.xf_InvalidSequence_index.1 Y.xf_InvalidSequence_index.2 (by exact (de_mkXK Y.exck_InvalidSequence DX.okVE Y.pf (Y.free_super) Y.glo_InvalidSequence hr (de_var 0)))) (da_cons (de_xfld Y.xf_ParseError_position.1 Y.xf_ParseError_position.2 (by exact (de_mkXK Y.exck_ParseError DX.okVE Y.pf (Y.free_super) Y.glo_ParseError hr (de_var 0)))) (da_cons (de_xfld Y.xf_EmptyHeap_index.1 Y.xf_EmptyHeap_index.2 (by exact (de_mkXK Y.exck_EmptyHeap DX.okLE Y.pf (Y.free_super) Y.glo_EmptyHeap hr (de_var 0)))) da_nil)))) (de_op opd_mul (de_lst (da_cons (de_var 0) da_nil)) de_int) (nomark _)) (db_one (ds_ret de_bl))
    db_nil)
    (db_cons (ds_if (dt_cmp (opd_ne hr.units) (de_lst (da_cons (de_xfld Y.xf_InvalidObservations_index.1 Y.xf_InvalidObservations_index.2 (by exact (de_mkXK Y.exck_InvalidObservations DX.okVE Y.pf (Y.free_super) Y.glo_InvalidObservations hr (de_var 0)))) (da_cons (de_xfld Y.xf_OutOfRange_value.1 Y.xf_OutOfRange_value.2 (by exact (de_mkXK Y.exck_OutOfRange DX.okIE Y.pf (Y.free_super) Y.glo_OutOfRange hr (de_var 0)))) (da_cons (de_xfld Y.xf_LimitExceeded_count.1 Y.xf_LimitExceeded_count.2 (by exact (de_mkXK Y.exck_LimitExceeded DX.okOE Y.pf (Y.free_super) Y.glo_LimitExceeded hr (de_var 0)))) da_nil)))) (de_op opd_mul (de_lst (da_cons (de_var 0) da_nil)) de_int) (nomark _)) (db_one (ds_ret de_bl))
    db_nil)
    (db_one (ds_ret de_bl)))))))))
theorem Hd.ok_q_fields_hold {P : Program} {w : World} {K : PySem.W.Frag} {mg : Str → Option Value} {base : Heap} (Y : Hd P K mg base) : CalD P w K mg base 1 "_law_fields_hold" 1 F_q_fields_hold :=
  by obtain ⟨fd_q_fields_hold, D_q_fields_hold⟩ := Y.says.def_ 2 (d := d_q_fields_hold) rfl; exact ⟨Y.glo__law_fields_hold, D_q_fields_hold.kp, fd_q_fields_hold, ["_law_a"], rfl, fn_ok D_q_fields_hold sc_q_fields_hold fun cdv A outer s H E hr => Y.b_q_fields_hold cdv A outer s H E _ hr, D_q_fields_hold.bindsN fun _ _ _ _ _ _ us hl => match us, hl with | [_], _ => rfl⟩
def c_q_own_1 : Sx :=
  (sRet (eOp gAdd (eVar 1) (eLst (aCons (eCall (nIsV (.glo "NothingToUndo") ["NothingToUndo"] ["InvalidNumber", "InvalidCount", "InvalidBag", "InvalidProgram", "InvalidEffect", "InvalidSequence", "InvalidObservations", "InvalidUser", "ParseError", "EmptyHeap", "OutOfRange", "LimitExceeded"]) (aCons (eVar 0) (aCons (eC (.glo "NothingToUndo")) aNil))) aNil))))
def c_q_own_2 : Sx :=
  (sSeq (sAsg (eOp gAdd (eVar 1) (eLst (aCons (eCall (nIsV (.glo "OutOfRange") ["OutOfRange"] ["InvalidNumber", "InvalidCount", "InvalidBag", "InvalidProgram", "InvalidEffect", "InvalidSequence", "InvalidObservations", "InvalidUser", "ParseError", "EmptyHeap", "LimitExceeded", "NothingToUndo"]) (aCons (eVar 0) (aCons (eC (.glo "OutOfRange")) aNil))) (aCons (eCall (nIsV (.glo "LimitExceeded") ["LimitExceeded"] ["InvalidNumber", "InvalidCount", "InvalidBag", "InvalidProgram", "InvalidEffect", "InvalidSequence", "InvalidObservations", "InvalidUser", "ParseError", "EmptyHeap", "OutOfRange", "NothingToUndo"]) (aCons (eVar 0) (aCons (eC (.glo "LimitExceeded")) aNil))) aNil)))) (gN 1))
    c_q_own_1)
def c_q_own_3 : Sx :=
  (sSeq (sAsg (eOp gAdd (eVar 1) (eLst (aCons (eCall (nIsV (.glo "InvalidUser") ["InvalidUser"] ["InvalidNumber", "InvalidCount", "InvalidBag", "InvalidProgram", "InvalidEffect", "InvalidSequence", "InvalidObservations", "ParseError", "EmptyHeap", "OutOfRange", "LimitExceeded", "NothingToUndo"]) (aCons (eVar 0) (aCons (eC (.glo "InvalidUser")) aNil))) (aCons (eCall (nIsV (.glo "ParseError") ["ParseError"] ["InvalidNumber", "InvalidCount", "InvalidBag", "InvalidProgram", "InvalidEffect", "InvalidSequence", "InvalidObservations", "InvalidUser", "EmptyHeap", "OutOfRange", "LimitExceeded", "NothingToUndo"]) (aCons (eVar 0) (aCons (eC (.glo "ParseError")) aNil))) (aCons (eCall (nIsV (.glo "EmptyHeap") ["EmptyHeap"] ["InvalidNumber", "InvalidCount", "InvalidBag", "InvalidProgram", "InvalidEffect", "InvalidSequence", "InvalidObservations", "InvalidUser", "ParseError", "OutOfRange", "LimitExceeded", "NothingToUndo"]) (aCons (eVar 0) (aCons (eC (.glo "EmptyHeap")) aNil))) aNil))))) (gN 1))
    c_q_own_2)
def c_q_own_4 : Sx :=
  (sSeq (sAsg (eOp gAdd (eVar 1) (eLst (aCons (eCall (nIsV (.glo "InvalidSequence") ["InvalidSequence"] ["InvalidNumber", "InvalidCount", "InvalidBag", "InvalidProgram", "InvalidEffect", "InvalidObservations", "InvalidUser", "ParseError", "EmptyHeap", "OutOfRange", "LimitExceeded", "NothingToUndo"]) (aCons (eVar 0) (aCons (eC (.glo "InvalidSequence")) aNil))) (aCons (eCall (nIsV (.glo "InvalidObservations") ["InvalidObservations"] ["InvalidNumber", "InvalidCount", "InvalidBag", "InvalidProgram", "InvalidEffect", "InvalidSequence", "InvalidUser", "ParseError", "EmptyHeap", "OutOfRange", "LimitExceeded", "NothingToUndo"]) (aCons (eVar 0) (aCons (eC (.glo "InvalidObservations")) aNil))) aNil)))) (gN 1))
    c_q_own_3)
def c_q_own_5 : Sx :=
  (sSeq (sAsg (eOp gAdd (eVar 1) (eLst (aCons (eCall (nIsV (.glo "InvalidProgram") ["InvalidProgram"] ["InvalidNumber", "InvalidCount", "InvalidBag", "InvalidEffect", "InvalidSequence", "InvalidObservations", "InvalidUser", "ParseError", "EmptyHeap", "OutOfRange", "LimitExceeded", "NothingToUndo"]) (aCons (eVar 0) (aCons (eC (.glo "InvalidProgram")) aNil))) (aCons (eCall (nIsV (.glo "InvalidEffect") ["InvalidEffect"] ["InvalidNumber", "InvalidCount", "InvalidBag", "InvalidProgram", "InvalidSequence", "InvalidObservations", "InvalidUser", "ParseError", "EmptyHeap", "OutOfRange", "LimitExceeded", "NothingToUndo"]) (aCons (eVar 0) (aCons (eC (.glo "InvalidEffect")) aNil))) aNil)))) (gN 1))
    c_q_own_4)
def c_q_own : Sx :=
  (sSeq (sAsg (eLst (aCons (eCall (nIsV (.glo "InvalidNumber") ["InvalidNumber"] ["InvalidCount", "InvalidBag", "InvalidProgram", "InvalidEffect", "InvalidSequence", "InvalidObservations", "InvalidUser", "ParseError", "EmptyHeap", "OutOfRange", "LimitExceeded", "NothingToUndo"]) (aCons (eVar 0) (aCons (eC (.glo "InvalidNumber")) aNil))) (aCons (eCall (nIsV (.glo "InvalidCount") ["InvalidCount"] ["InvalidNumber", "InvalidBag", "InvalidProgram", "InvalidEffect", "InvalidSequence", "InvalidObservations", "InvalidUser", "ParseError", "EmptyHeap", "OutOfRange", "LimitExceeded", "NothingToUndo"]) (aCons (eVar 0) (aCons (eC (.glo "InvalidCount")) aNil))) (aCons (eCall (nIsV (.glo "InvalidBag") ["InvalidBag"] ["InvalidNumber", "InvalidCount", "InvalidProgram", "InvalidEffect", "InvalidSequence", "InvalidObservations", "InvalidUser", "ParseError", "EmptyHeap", "OutOfRange", "LimitExceeded", "NothingToUndo"]) (aCons (eVar 0) (aCons (eC (.glo "InvalidBag")) aNil))) aNil)))) (gN 1))
    c_q_own_5)
def F_q_own : Fn := defn 1 2 c_q_own
theorem sc_q_own : FnScope ["_law_error", "_law_found"] ["_law_error"] (defScope s_q_own) := ⟨rfl, rfl, rfl, by decide +kernel, rfl, by decide +kernel, by decide +kernel⟩
theorem Hd.b_q_own {P : Program} {w : World} {K : PySem.W.Frag} {mg : Str → Option Value} {base : Heap} (Y : Hd P K mg base) (cdv : Value) (A : Around) (outer : List PySem.Env) (s : Shared) (H : Hp) (E : XK) (a : Addr) (hr : DL.Room 0 (A.deeper (envOfC "_law_own" (defScope s_q_own) s.heap.objs.size a cdv))) :
    DB (cxOf (L2.CX P w) P w K mg base ["_law_error", "_law_found"] "_law_own" (defScope s_q_own) a cdv A outer s H E) (fun c d _ H => E c d H) (defBody s_q_own) c_q_own :=
  (db_cons (ds_set 1 sc_q_own.nd (de_lst (da_cons (by exact (de_callB (cd_isV Y.xks Y.isv_InvalidNumber) rfl (Y.free_isinstance) rfl (da_cons (de_var 0) (da_cons (de_glob rfl Y.glo_InvalidNumber) da_nil)))) (da_cons (by exact (de_callB (cd_isV Y.xks Y.isv_InvalidCount) rfl (Y.free_isinstance) rfl (da_cons (de_var 0) (da_cons (de_glob rfl Y.glo_InvalidCount) da_nil)))) (da_cons (by exact (de_callB (cd_isV Y.xks Y.isv_InvalidBag) rfl (Y.free_isinstance) rfl (da_cons (de_var 0) (da_cons (de_glob rfl Y.glo_InvalidBag) da_nil)))) da_nil)))))
    (db_cons (ds_set 1 sc_q_own.nd (de_op opd_add (de_var 1) (de_lst (da_cons (by exact (de_callB (cd_isV Y.xks Y.isv_InvalidProgram) rfl (Y.free_isinstance) rfl (da_cons (de_var 0) (da_cons (de_glob rfl Y.glo_InvalidProgram) da_nil)))) (da_cons (by exact (de_callB (cd_isV Y.xks Y.isv_InvalidEffect) rfl (Y.free_isinstance) rfl (da_cons (de_var 0) (da_cons (de_glob rfl Y.glo_InvalidEffect) da_nil)))) da_nil)))))
    (db_cons (ds_set 1 sc_q_own.nd (de_op opd_add (de_var 1) (de_lst (da_cons (by exact (de_callB (cd_isV Y.xks Y.isv_InvalidSequence) rfl (Y.free_isinstance) rfl (da_cons (de_var 0) (da_cons (de_glob rfl Y.glo_InvalidSequence) da_nil)))) (da_cons (by exact (de_callB (cd_isV Y.xks Y.isv_InvalidObservations) rfl (Y.free_isinstance) rfl (da_cons (de_var 0) (da_cons (de_glob rfl Y.glo_InvalidObservations) da_nil)))) da_nil)))))
    (db_cons (ds_set 1 sc_q_own.nd (de_op opd_add (de_var 1) (de_lst (da_cons (by exact (de_callB (cd_isV Y.xks Y.isv_InvalidUser) rfl (Y.free_isinstance) rfl (da_cons (de_var 0) (da_cons (de_glob rfl Y.glo_InvalidUser) da_nil)))) (da_cons (by exact (de_callB (cd_isV Y.xks Y.isv_ParseError) rfl (Y.free_isinstance) rfl (da_cons (de_var 0) (da_cons (de_glob rfl Y.glo_ParseError) da_nil)))) (da_cons (by exact (de_callB (cd_isV Y.xks Y.isv_EmptyHeap) rfl (Y.free_isinstance) rfl (da_cons (de_var 0) (da_cons (de_glob rfl Y.glo_EmptyHeap) da_nil)))) da_nil))))))
    (db_cons (ds_set 1 sc_q_own.nd (de_op opd_add (de_var 1) (de_lst (da_cons (by exact (de_callB (cd_isV Y.xks Y.isv_OutOfRange) rfl (Y.free_isinstance) rfl (da_cons (de_var 0) (da_cons (de_glob rfl Y.glo_OutOfRange) da_nil)))) (da_cons (by exact (de_callB (cd_isV Y.xks Y.isv_LimitExceeded) rfl (Y.free_isinstance) rfl (da_cons (de_var 0) (da_cons (de_glob rfl Y.glo_LimitExceeded) da_nil)))) da_nil)))))
    (db_one (ds_ret (de_op opd_add (de_var 1) (de_lst (da_cons (by exact (de_callB (cd_isV Y.xks Y.isv_NothingToUndo) rfl (Y.free_isinstance) rfl (da_cons (de_var 0) (da_cons (de_glob rfl Y.glo_NothingToUndo) da_nil)))) da_nil))))))))))
theorem Hd.ok_q_own {P : Program} {w : World} {K : PySem.W.Frag} {mg : Str → Option Value} {base : Heap} (Y : Hd P K mg base) : CalD P w K mg base 1 "_law_own" 1 F_q_own :=
  by obtain ⟨fd_q_own, D_q_own⟩ := Y.says.def_ 3 (d := d_q_own) rfl; exact ⟨Y.glo__law_own, D_q_own.kp, fd_q_own, ["_law_error"], rfl, fn_ok D_q_own sc_q_own fun cdv A outer s H E hr => Y.b_q_own cdv A outer s H E _ hr, D_q_own.bindsN fun _ _ _ _ _ _ us hl => match us, hl with | [_], _ => rfl⟩
def c_q_under_1 : Sx :=
  (sRet (eOp gAdd (eVar 1) (eLst (aCons (eCall (nIsV (.ty "KeyError") [] ["InvalidNumber", "InvalidCount", "InvalidBag", "InvalidProgram", "InvalidEffect", "InvalidSequence", "InvalidObservations", "InvalidUser", "ParseError", "EmptyHeap", "OutOfRange", "LimitExceeded", "NothingToUndo"]) (aCons (eVar 0) (aCons (eC (.ty "KeyError")) aNil))) aNil))))
def c_q_under_2 : Sx :=
  (sSeq (sAsg (eOp gAdd (eVar 1) (eLst (aCons (eCall (nIsV (.ty "IndexError") ["OutOfRange"] ["InvalidNumber", "InvalidCount", "InvalidBag", "InvalidProgram", "InvalidEffect", "InvalidSequence", "InvalidObservations", "InvalidUser", "ParseError", "EmptyHeap", "LimitExceeded", "NothingToUndo"]) (aCons (eVar 0) (aCons (eC (.ty "IndexError")) aNil))) (aCons (eCall (nIsV (.ty "OverflowError") ["LimitExceeded"] ["InvalidNumber", "InvalidCount", "InvalidBag", "InvalidProgram", "InvalidEffect", "InvalidSequence", "InvalidObservations", "InvalidUser", "ParseError", "EmptyHeap", "OutOfRange", "NothingToUndo"]) (aCons (eVar 0) (aCons (eC (.ty "OverflowError")) aNil))) (aCons (eCall (nIsV (.ty "RuntimeError") ["NothingToUndo"] ["InvalidNumber", "InvalidCount", "InvalidBag", "InvalidProgram", "InvalidEffect", "InvalidSequence", "InvalidObservations", "InvalidUser", "ParseError", "EmptyHeap", "OutOfRange", "LimitExceeded"]) (aCons (eVar 0) (aCons (eC (.ty "RuntimeError")) aNil))) aNil))))) (gN 1))
    c_q_under_1)
def c_q_under : Sx :=
  (sSeq (sAsg (eLst (aCons (eCall (nIsV (.glo "HeapError") ["InvalidNumber", "InvalidCount", "InvalidBag", "InvalidProgram", "InvalidEffect", "InvalidSequence", "InvalidObservations", "InvalidUser", "ParseError"] ["EmptyHeap", "OutOfRange", "LimitExceeded", "NothingToUndo"]) (aCons (eVar 0) (aCons (eC (.glo "HeapError")) aNil))) (aCons (eCall (nIsV (.ty "ValueError") ["InvalidNumber", "InvalidCount", "InvalidBag", "InvalidProgram", "InvalidEffect", "InvalidSequence", "InvalidObservations", "InvalidUser", "ParseError"] ["EmptyHeap", "OutOfRange", "LimitExceeded", "NothingToUndo"]) (aCons (eVar 0) (aCons (eC (.ty "ValueError")) aNil))) (aCons (eCall (nIsV (.ty "LookupError") ["EmptyHeap", "OutOfRange"] ["InvalidNumber", "InvalidCount", "InvalidBag", "InvalidProgram", "InvalidEffect", "InvalidSequence", "InvalidObservations", "InvalidUser", "ParseError", "LimitExceeded", "NothingToUndo"]) (aCons (eVar 0) (aCons (eC (.ty "LookupError")) aNil))) aNil)))) (gN 1))
    c_q_under_2)
def F_q_under : Fn := defn 1 2 c_q_under
theorem sc_q_under : FnScope ["_law_error", "_law_found"] ["_law_error"] (defScope s_q_under) := ⟨rfl, rfl, rfl, by decide +kernel, rfl, by decide +kernel, by decide +kernel⟩
theorem Hd.b_q_under {P : Program} {w : World} {K : PySem.W.Frag} {mg : Str → Option Value} {base : Heap} (Y : Hd P K mg base) (cdv : Value) (A : Around) (outer : List PySem.Env) (s : Shared) (H : Hp) (E : XK) (a : Addr) (hr : DL.Room 0 (A.deeper (envOfC "_law_under" (defScope s_q_under) s.heap.objs.size a cdv))) :
    DB (cxOf (L2.CX P w) P w K mg base ["_law_error", "_law_found"] "_law_under" (defScope s_q_under) a cdv A outer s H E) (fun c d _ H => E c d H) (defBody s_q_under) c_q_under :=
  (db_cons (ds_set 1 sc_q_under.nd (de_lst (da_cons (by exact (de_callB (cd_isV Y.xks Y.isv_HeapError) rfl (Y.free_isinstance) rfl (da_cons (de_var 0) (da_cons (de_glob rfl Y.glo_HeapError) da_nil)))) (da_cons (by exact (de_callB (cd_isV Y.xks Y.isv_ValueError) rfl (Y.free_isinstance) rfl (da_cons (de_var 0) (da_cons (by exact (de_ty rfl (Y.free_ValueError) rfl)) da_nil)))) (da_cons (by exact (de_callB (cd_isV Y.xks Y.isv_LookupError) rfl (Y.free_isinstance) rfl (da_cons (de_var 0) (da_cons (by exact (de_ty rfl (Y.free_LookupError) rfl)) da_nil)))) da_nil)))))
    (db_cons (ds_set 1 sc_q_under.nd (de_op opd_add (de_var 1) (de_lst (da_cons (by exact (de_callB (cd_isV Y.xks Y.isv_IndexError) rfl (Y.free_isinstance) rfl (da_cons (de_var 0) (da_cons (by exact (de_ty rfl (Y.free_IndexError) rfl)) da_nil)))) (da_cons (by exact (de_callB (cd_isV Y.xks Y.isv_OverflowError) rfl (Y.free_isinstance) rfl (da_cons (de_var 0) (da_cons (by exact (de_ty rfl (Y.free_OverflowError) rfl)) da_nil)))) (da_cons (by exact (de_callB (cd_isV Y.xks Y.isv_RuntimeError) rfl (Y.free_isinstance) rfl (da_cons (de_var 0) (da_cons (by exact (de_ty rfl (Y.free_RuntimeError) rfl)) da_nil)))) da_nil))))))
    (db_one (ds_ret (de_op opd_add (de_var 1) (de_lst (da_cons (by exact (de_callB (cd_isV Y.xks Y.isv_KeyError) rfl (Y.free_isinstance) rfl (da_cons (de_var 0) (da_cons (by exact (de_ty rfl (Y.free_KeyError) rfl)) da_nil)))) da_nil)))))))
theorem Hd.ok_q_under {P : Program} {w : World} {K : PySem.W.Frag} {mg : Str → Option Value} {base : Heap} (Y : Hd P K mg base) : CalD P w K mg base 1 "_law_under" 1 F_q_under :=
  by obtain ⟨fd_q_under, D_q_under⟩ := Y.says.def_ 4 (d := d_q_under) rfl; exact ⟨Y.glo__law_under, D_q_under.kp, fd_q_under, ["_law_error"], rfl, fn_ok D_q_under sc_q_under fun cdv A outer s H E hr => Y.b_q_under cdv A outer s H E _ hr, D_q_under.bindsN fun _ _ _ _ _ _ us hl => match us, hl with | [_], _ => rfl⟩
def c_law_1 : Sx :=
  (sIf (eOp gNe (eFn F_q_own (aCons (eVar 6) aNil)) (eLc [8] (iR1 (eC (.int 13))) (gN 8) fYes (eOp gEq (eVar 8) (eVar 5)))) (sRet (eC (.bl false)))
    sNil)
def c_law_2 : Sx :=
  (sIf (eOp gNe (eLc [6] (iA (eSl (eVar 4) (oSome (eC (.int 9))) oNone)) (gN 6) fYes (eFn F_q_under (aCons (eVar 6) aNil))) (eVar 7)) (sRet (eC (.bl false)))
    sNil)
def c_law_3 : Sx :=
  (sSeq (sExpr (mAppend (eVar 7) (eLst (aCons (eC (.bl false)) (aCons (eC (.bl false)) (aCons (eC (.bl false)) (aCons (eC (.bl false)) (aCons (eC (.bl false)) (aCons (eC (.bl true)) (aCons (eC (.bl false)) aNil))))))))))
    c_law_2)
def c_law_4 : Sx :=
  (sSeq (sExpr (mAppend (eVar 7) (eLst (aCons (eC (.bl false)) (aCons (eC (.bl false)) (aCons (eC (.bl false)) (aCons (eC (.bl false)) (aCons (eC (.bl true)) (aCons (eC (.bl false)) (aCons (eC (.bl false)) aNil))))))))))
    c_law_3)
def c_law_5 : Sx :=
  (sSeq (sAsg (eNew (aCons (eLst (aCons (eC (.bl false)) (aCons (eC (.bl false)) (aCons (eC (.bl true)) (aCons (eC (.bl false)) (aCons (eC (.bl false)) (aCons (eC (.bl false)) (aCons (eC (.bl false)) aNil)))))))) (aCons (eLst (aCons (eC (.bl false)) (aCons (eC (.bl false)) (aCons (eC (.bl true)) (aCons (eC (.bl true)) (aCons (eC (.bl false)) (aCons (eC (.bl false)) (aCons (eC (.bl false)) aNil)))))))) aNil))) (gN 7))
    c_law_4)
def c_law_6 : Sx :=
  (sSeq (sIf (eOp gNe (eLc [6] (iA (eSl (eVar 4) oNone (oSome (eC (.int 9))))) (gN 6) fYes (eFn F_q_under (aCons (eVar 6) aNil))) (eOp gMul (eLst (aCons (eOp gAdd (eLst (aCons (eC (.bl true)) (aCons (eC (.bl true)) aNil))) (eOp gMul (eLst (aCons (eC (.bl false)) aNil)) (eC (.int 5)))) aNil)) (eC (.int 9)))) (sRet (eC (.bl false)))
    sNil)
    c_law_5)
def c_law_7 : Sx :=
  (sSeq (sFor [1, 2, 3, 5, 6, 7] (iEnA (eVar 4)) (gT 2 (gsCons (gN 5) (gsCons (gN 6) gsNil))) c_law_1)
    c_law_6)
def c_law_8 : Sx :=
  (sSeq (sAsg (eOp gAdd (eVar 4) (eLst (aCons (eMakeX "EmptyHeap" "index" (eVar 3)) (aCons (eMakeX "OutOfRange" "value" (eVar 3)) (aCons (eMakeX "LimitExceeded" "count" (eVar 3)) (aCons (eMakeX0 "NothingToUndo") aNil)))))) (gN 4))
    c_law_7)
def c_law_9 : Sx :=
  (sSeq (sAsg (eOp gAdd (eVar 4) (eLst (aCons (eMakeX "InvalidSequence" "index" (eVar 3)) (aCons (eMakeX "InvalidObservations" "index" (eVar 3)) (aCons (eMakeX "InvalidUser" "value" (eVar 3)) (aCons (eMakeX "ParseError" "position" (eVar 3)) aNil)))))) (gN 4))
    c_law_8)
def c_law_10 : Sx :=
  (sSeq (sAsg (eLst (aCons (eMakeX "InvalidNumber" "value" (eVar 3)) (aCons (eMakeX "InvalidCount" "value" (eVar 3)) (aCons (eMakeX "InvalidBag" "value" (eVar 3)) (aCons (eMakeX "InvalidProgram" "path" (eVar 3)) (aCons (eMakeX "InvalidEffect" "part" (eVar 3)) aNil)))))) (gN 4))
    c_law_9)
def c_law_11 : Sx :=
  (sSeq (sIf (eNot (eFn F_q_fields_hold (aCons (eVar 3) aNil))) (sRet (eC (.bl false)))
    sNil)
    c_law_10)
def c_law_12 : Sx :=
  (sSeq (sAsg (eOp gIx (eLst (aCons (eC .non) (aCons (eFn F_q_draw (aCons (eVar 2) (aCons (eC (.int 99)) aNil))) (aCons (eC (.str "x")) (aCons (eTup (aCons (eC (.int 1)) (aCons (eC (.int 2)) aNil))) aNil))))) (eFn F_q_draw (aCons (eVar 2) (aCons (eC (.int 4)) aNil)))) (gN 3))
    c_law_11)
def c_law_13 : Sx :=
  (sSeq (sAsg (eFnN F_q_pool (aCons (eVar 0) (aCons (eVar 1) aNil))) (gN 2))
    c_law_12)
def c_law_14 : Sx :=
  (sRet (eC (.bl true)))
def c_law : Sx :=
  (sSeq (sFor [1, 2, 3, 4, 5, 6, 7] (iR1 (eCall nMax2 (aCons (eC (.int 1)) (aCons (eCall nMin2 (aCons (eCall nLen (aCons (eVar 0) aNil)) (aCons (eC (.int 4)) aNil))) aNil)))) (gN 1) c_law_13)
    c_law_14)
def F_law : Fn := defn 1 9 c_law
theorem sc_law : FnScope ["_law_script", "_law_k", "_law_pool_here", "_law_a", "_law_some", "_law_at", "_law_error", "_law_expected", "_law_other"] ["_law_script"] (defScope s_law) := ⟨rfl, rfl, rfl, by decide +kernel, rfl, by decide +kernel, by decide +kernel⟩
theorem Hd.b_law {P : Program} {w : World} {K : PySem.W.Frag} {mg : Str → Option Value} {base : Heap} (Y : Hd P K mg base) (cdv : Value) (A : Around) (outer : List PySem.Env) (s : Shared) (H : Hp) (E : XK) (a : Addr) (hr : DL.Room 1 (A.deeper (envOfC "law" (defScope s_law) s.heap.objs.size a cdv))) :
    DB (cxOf (L2.CX P w) P w K mg base ["_law_script", "_law_k", "_law_pool_here", "_law_a", "_law_some", "_law_at", "_law_error", "_law_expected", "_law_other"] "law" (defScope s_law) a cdv A outer s H E) (fun c d _ H => E c d H) (defBody s_law) c_law :=
  (db_cons (ds_for [1, 2, 3, 4, 5, 6, 7] (passes_of rfl) rfl (di_range1 rfl (Y.free_range) (by exact (de_callB (cd_max2 rfl) rfl (Y.free_max) rfl (da_cons de_int (da_cons (by exact (de_callB (cd_min2 rfl) rfl (Y.free_min) rfl (da_cons (by exact (de_callB cd_len rfl (Y.free_len) rfl (da_cons (de_var 0) da_nil))) (da_cons de_int da_nil)))) da_nil))))) (dg_name 1 sc_law.nd) (db_cons (ds_set 2 sc_law.nd (de_calN (Y.ok_q_pool (P := P) (w := w)) hr (by decide) rfl (takes_of rfl rfl rfl rfl) (da_cons (de_var 0) (da_cons (de_var 1) da_nil))))
    (db_cons (ds_set 3 sc_law.nd (de_ix (de_lst (da_cons de_non (da_cons (by exact (de_cal (Y.ok_q_draw (P := P) (w := w)) hr (by decide) rfl (takes_of rfl rfl rfl rfl) (da_cons (de_var 2) (da_cons de_int da_nil)))) (da_cons de_str (da_cons (de_tup (da_cons de_int (da_cons de_int da_nil))) da_nil))))) (by exact (de_cal (Y.ok_q_draw (P := P) (w := w)) hr (by decide) rfl (takes_of rfl rfl rfl rfl) (da_cons (de_var 2) (da_cons de_int da_nil))))))
    (db_cons (ds_if (dt_not (dt_val (by exact (de_cal (Y.ok_q_fields_hold (P := P) (w := w)) hr (by decide) rfl (takes_of rfl rfl rfl rfl) (da_cons (de_var 3) da_nil))))) (db_one (ds_ret de_bl))
    db_nil)
    (db_cons (ds_set 4 sc_law.nd (de_lst (da_cons (by exact (de_mkX Y.exc_InvalidNumber DX.okVE Y.pf (Y.free_super) Y.glo_InvalidNumber hr (de_var 3))) (da_cons (by exact (de_mkX Y.exc_InvalidCount DX.okVE Y.pf (Y.free_super) Y.glo_InvalidCount hr (de_var 3))) (da_cons (by exact (de_mkX Y.exc_InvalidBag DX.okVE Y.pf (Y.free_super) Y.glo_InvalidBag hr (de_var 3))) (da_cons (by exact (de_mkX Y.exc_InvalidProgram DX.okVE Y.pf (Y.free_super) Y.glo_InvalidProgram hr (de_var 3))) (da_cons (by exact (de_mkX Y.exc_InvalidEffect DX.okVE Y.pf (Y.free_super) Y.glo_InvalidEffect hr (de_var 3))) da_nil)))))))
    (db_cons (ds_set 4 sc_law.nd (de_op opd_add (de_var 4) (de_lst (da_cons (by exact (de_mkX Y.exc_InvalidSequence DX.okVE Y.pf (Y.free_super) Y.glo_InvalidSequence hr (de_var 3))) (da_cons (by exact (de_mkX Y.exc_InvalidObservations DX.okVE Y.pf (Y.free_super) Y.glo_InvalidObservations hr (de_var 3))) (da_cons (by exact (de_mkX Y.exc_InvalidUser DX.okVE Y.pf (Y.free_super) Y.glo_InvalidUser hr (de_var 3))) (da_cons (by exact (de_mkX Y.exc_ParseError DX.okVE Y.pf (Y.free_super) Y.glo_ParseError hr (de_var 3))) da_nil)))))))
    (db_cons (ds_set 4 sc_law.nd (de_op opd_add (de_var 4) (de_lst (da_cons (by exact (de_mkX Y.exc_EmptyHeap DX.okLE Y.pf (Y.free_super) Y.glo_EmptyHeap hr (de_var 3))) (da_cons (by exact (de_mkX Y.exc_OutOfRange DX.okIE Y.pf (Y.free_super) Y.glo_OutOfRange hr (de_var 3))) (da_cons (by exact (de_mkX Y.exc_LimitExceeded DX.okOE Y.pf (Y.free_super) Y.glo_LimitExceeded hr (de_var 3))) (da_cons (by exact (de_mkX0 (tExc0_ok Y.exc0_NothingToUndo) Y.glo_NothingToUndo)) da_nil)))))))
    (db_cons (ds_for [1, 2, 3, 5, 6, 7] (passes_of rfl) rfl (di_enumA rfl (Y.free_enumerate) (de_var 4)) (dg_tup rfl (dgs_cons (dg_name 5 sc_law.nd) (dgs_cons (dg_name 6 sc_law.nd) dgs_nil)) 2) (db_one (ds_if (dt_cmp (opd_ne hr.units) (by exact (de_cal (Y.ok_q_own (P := P) (w := w)) hr (by decide) rfl (takes_of rfl rfl rfl rfl) (da_cons (de_var 6) da_nil))) (de_lc [("_law_other", 8)] rfl sc_law.nd (di_range1 rfl (Y.free_range) de_int) (blkOk_by (N := ["_law_script", "_law_k", "_law_pool_here", "_law_a", "_law_some", "_law_at", "_law_error", "_law_expected", "_law_other"]) (sc := defScope s_law) (by decide +kernel)) (fun _ _ _ _ _ => (dgv_name 8 sc_law.nd)) (fun _ _ _ _ _ => dts_nil) (fun _ _ _ _ _ => (de_cmp (opd_eq hr.units) (de_var 8) (de_var 5) (nomark _)))) (nomark _)) (db_one (ds_ret de_bl))
    db_nil)))
    (db_cons (ds_if (dt_cmp (opd_ne hr.units) (de_lc [("_law_error", 6)] rfl sc_law.nd (di_any (de_sl (de_var 4) do_none (do_some de_int))) (blkOk_by (N := ["_law_script", "_law_k", "_law_pool_here", "_law_a", "_law_some", "_law_at", "_law_error", "_law_expected", "_law_other"]) (sc := defScope s_law) (by decide +kernel)) (fun _ _ _ _ _ => (dgv_name 6 sc_law.nd)) (fun _ _ _ _ _ => dts_nil) (fun _ _ _ _ _ => (by exact (de_cal (Y.ok_q_under (P := P) (w := w)) hr (by decide) rfl takes0 (da_cons (de_var 6) da_nil))))) (de_op opd_mul (de_lst (da_cons (de_op opd_add (de_lst (da_cons de_bl (da_cons de_bl da_nil))) (de_op opd_mul (de_lst (da_cons de_bl da_nil)) de_int)) da_nil)) de_int) (nomark _)) (db_one (ds_ret de_bl))
    db_nil)
    (db_cons (ds_set 7 sc_law.nd (de_new (da_cons (de_lst (da_cons de_bl (da_cons de_bl (da_cons de_bl (da_cons de_bl (da_cons de_bl (da_cons de_bl (da_cons de_bl da_nil)))))))) (da_cons (de_lst (da_cons de_bl (da_cons de_bl (da_cons de_bl (da_cons de_bl (da_cons de_bl (da_cons de_bl (da_cons de_bl da_nil)))))))) da_nil))))
    (db_cons (ds_expr (by exact (de_append (de_var 7) (de_lst (da_cons de_bl (da_cons de_bl (da_cons de_bl (da_cons de_bl (da_cons de_bl (da_cons de_bl (da_cons de_bl da_nil)))))))))))
    (db_cons (ds_expr (by exact (de_append (de_var 7) (de_lst (da_cons de_bl (da_cons de_bl (da_cons de_bl (da_cons de_bl (da_cons de_bl (da_cons de_bl (da_cons de_bl da_nil)))))))))))
    (db_one (ds_if (dt_cmp (opd_ne hr.units) (de_lc [("_law_error", 6)] rfl sc_law.nd (di_any (de_sl (de_var 4) (do_some de_int) do_none)) (blkOk_by (N := ["_law_script", "_law_k", "_law_pool_here", "_law_a", "_law_some", "_law_at", "_law_error", "_law_expected", "_law_other"]) (sc := defScope s_law) (by decide +kernel)) (fun _ _ _ _ _ => (dgv_name 6 sc_law.nd)) (fun _ _ _ _ _ => dts_nil) (fun _ _ _ _ _ => (by exact (de_cal (Y.ok_q_under (P := P) (w := w)) hr (by decide) rfl takes0 (da_cons (de_var 6) da_nil))))) (de_var 7) (nomark _)) (db_one (ds_ret de_bl))
    db_nil))))))))))))))
    (db_one (ds_ret de_bl)))
end L_k05

namespace DL
open PySem L2

def wO (r : Out) (P : D → Mem → Prop) : Prop := match r with
  | .ok d M => P d M
  | _ => False
def wL (r : OutL) (P : List D → Mem → Prop) : Prop := match r with
  | .ok d M => P d M
  | _ => False
def wI (r : OutI) (P : List D → (Mem → Bool) → Mem → Prop) : Prop := match r with
  | .ok d c M => P d c M
  | _ => False
def ifB (x : D) (A B : Prop) : Prop := match x with
  | .bl true => A
  | .bl false => B
  | _ => False
theorem ifB_bl {b : Bool} {A B : Prop} : ifB (.bl b) A B = if b = true then A else B := by cases b <;> rfl
def notB (x : D) (k : Bool → Prop) : Prop := match x with
  | .bl b => k !b
  | _ => False
theorem notB_bl {b : Bool} {k : Bool → Prop} : notB (.bl b) k = k !b := rfl
structure Wi where
  nx : Env → Mem → Prop
  rt : D → Mem → Prop := fun _ _ => False
  bk : Env → Mem → Prop := fun _ _ => False
  ct : Env → Mem → Prop := fun _ _ => False
def wS (r : OutS) (P : Wi) : Prop := match r with
  | .nx e M => P.nx e M
  | .rt d M => P.rt d M
  | .bk e M => P.bk e M
  | .ct e M => P.ct e M
  | _ => False
section
variable {r : Out} {fa fb fc ft : Ev} {fl : EvL} {env : Env} {M : Mem} {P : D → Mem → Prop} {PL : List D → Mem → Prop} {W : Wi} {g g' : Op2} {G : Tg} {s s1 s2 : Sx} {n : OpN} {F : Fn}
theorem wO_ok {d : D} : wO (.ok d M) P = P d M := rfl
theorem wO_bind {k : D → Mem → Out} : wO (r.bind k) P = wO r fun d M => wO (k d M) P := by cases r <;> rfl
theorem wO_bindL {r : OutL} {k : List D → Mem → Out} : wO (r.bind k) P = wL r fun d M => wO (k d M) P := by cases r <;> rfl
theorem wL_bind {k : D → Mem → OutL} : wL (r.bindL k) PL = wO r fun d M => wL (k d M) PL := by cases r <;> rfl
theorem wS_bind {k : D → Mem → OutS} : wS (r.bindS env k) W = wO r fun d M => wS (k d M) W := by cases r <;> rfl
theorem wS_bindL {r : OutL} {k : List D → Mem → OutS} : wS (r.bindS env k) W = wL r fun d M => wS (k d M) W := by cases r <;> rfl
theorem w_var0 {e0 : D} {env : Env} : wO (eVar 0 (some e0 :: env) M) P = P e0 M := rfl
theorem w_varS {i : Nat} {o : Option D} {env : Env} : wO (eVar (i + 1) (o :: env) M) P = wO (eVar i env M) P := by
  unfold eVar
  rw [List.getElem?_cons_succ]
theorem w_c {d : D} : wO (eC d env M) P = P d M := rfl
theorem w_nil : wL (aNil env M) PL = PL [] M := rfl
theorem w_cons {h : Ev} : wL (aCons h fl env M) PL = wO (h env M) fun d M => wL (fl env M) fun ds M => PL (d :: ds) M := by unfold aCons; rw [wL_bind]; congr; funext d M; cases fl env M <;> rfl
theorem w_tup : wO (eTup fl env M) P = wL (fl env M) fun ds M => P (.tup ds) M := by unfold eTup; rw [wO_bindL]; rfl
theorem w_lst : wO (eLst fl env M) P = wL (fl env M) fun ds M => P (.lst ds) M := by unfold eLst; rw [wO_bindL]; rfl
theorem w_new : wO (eNew fl env M) P = wL (fl env M) fun ds M => P (.ref M.length) (M ++ [.lst ds]) := by unfold eNew; rw [wO_bindL]; rfl
theorem w_newD : wO (eNewD env M) P = P (.ref M.length) (M ++ [.dic []]) := rfl
theorem w_op : wO (eOp g fa fb env M) P = wO (fa env M) fun x M => wO (fb env M) fun y M => wO (g x y M) P := by unfold eOp; rw [wO_bind]; congr; funext d M; rw [wO_bind]
theorem w_gI {h : Int → Int → D} {i j : Int} : wO (gI h (.int i) (.int j) M) P = P (h i j) M := rfl
theorem w_gInt {c : Int → Int → Bool} {h : Int → Int → D} {i j : Int} : wO (gInt c h (.int i) (.int j) M) P = (c i j = true ∧ P (h i j) M) := by
  unfold gInt
  by_cases e : c i j = true
  · simp [e, wO]
  · simp [e, wO]
theorem w_add {i j : Int} : wO (gAdd (.int i) (.int j) M) P = P (.int (i + j)) M := rfl
theorem w_mul {i j : Int} (h : cMul i j = true) : wO (gMul (.int i) (.int j) M) P = P (.int (i * j)) M := by
  unfold gMul gOr gMulI gInt
  simp [h, wO, Out.or]
theorem w_chain : wO (eChain g g' fa fb fc env M) P = wO (fa env M) fun x M => wO (fb env M) fun y M => wO (g x y M) fun z M => ifB z (wO (fc env M) fun u M => wO (g' y u M) P) (P (.bl false) M) := by
  unfold eChain
  rw [wO_bind]
  congr
  funext x M
  rw [wO_bind]
  congr
  funext y M
  rw [wO_bind]
  congr
  funext z M
  cases z with
  | bl b =>
    cases b with
    | true => simp only [wO_bind, ifB]
    | false => rfl
  | _ => rfl
theorem w_not : wO (eNot fa env M) P = wO (fa env M) fun x M => notB x fun b => P (.bl b) M := by
  unfold eNot
  rw [wO_bind]
  congr
  funext d M
  cases d <;> rfl
theorem w_and : wO (eAnd fa fb env M) P = wO (fa env M) fun x M => ifB x (wO (fb env M) P) (P (.bl false) M) := by
  unfold eAnd
  rw [wO_bind]
  congr
  funext d M
  cases d with
  | bl b => cases b <;> rfl
  | _ => rfl
theorem w_or : wO (eOr fa fb env M) P = wO (fa env M) fun x M => ifB x (P (.bl true) M) (wO (fb env M) P) := by
  unfold eOr
  rw [wO_bind]
  congr
  funext d M
  cases d with
  | bl b => cases b <;> rfl
  | _ => rfl
theorem w_if : wO (eIf ft fa fb env M) P = wO (ft env M) fun x M => ifB x (wO (fa env M) P) (wO (fb env M) P) := by
  unfold eIf
  rw [wO_bind]
  congr
  funext d M
  cases d with
  | bl b => cases b <;> rfl
  | _ => rfl
theorem w_call : wO (eCall n fl env M) P = wL (fl env M) fun ds M => wO (n ds M) P := by unfold eCall; rw [wO_bindL]
theorem w_fn : wO (eFn F fl env M) P = wL (fl env M) fun ds M => wO (callF F ds M) P := by unfold eFn; rw [wO_bindL]
theorem w_fnN : wO (eFnN F fl env M) P = wL (fl env M) fun ds M => wO (newF F ds M) P := by unfold eFnN; rw [wO_bindL]
theorem w_make {c : Str} : wO (eMake c F fl env M) P = wL (fl env M) fun ds M => wO (makeF c F ds M) P := by unfold eMake; rw [wO_bindL]
theorem w_seq : wS (sSeq s1 s2 env M) W = wS (s1 env M) { W with nx := fun e M => wS (s2 e M) W } := by unfold sSeq; cases s1 env M <;> rfl
theorem w_snil : wS (sNil env M) W = W.nx env M := rfl
theorem w_asg : wS (sAsg fa G env M) W = wO (fa env M) fun d M => wS (G d env M) W := by unfold sAsg; rw [wS_bind]
theorem w_expr : wS (sExpr fa env M) W = wO (fa env M) fun d M => W.nx env M := by unfold sExpr; rw [wS_bind]; rfl
theorem w_ret : wS (sRet fa env M) W = wO (fa env M) fun d M => W.rt d M := by unfold sRet; rw [wS_bind]; rfl
theorem w_retN : wS (sRetN env M) W = W.rt .non M := rfl
theorem w_brk : wS (sBreak env M) W = W.bk env M := rfl
theorem w_cont : wS (sCont env M) W = W.ct env M := rfl
theorem w_sif : wS (sIf ft s1 s2 env M) W = wO (ft env M) fun x M => ifB x (wS (s1 env M) W) (wS (s2 env M) W) := by
  unfold sIf
  rw [wS_bind]
  congr
  funext d M
  cases d with
  | bl b => cases b <;> rfl
  | _ => rfl
theorem w_gN {i : Nat} {d : D} : wS (gN i d env M) W = W.nx (env.set i (some d)) M := rfl
theorem w_par {i j : Nat} : wS (sPar i j fl env M) W = wL (fl env M) fun ds M => match ds with
  | [a, b] => W.nx ((env.set i (some a)).set j (some b)) M
  | _ => False := by
  unfold sPar
  rw [wS_bindL]
  congr
  funext ds M
  rcases ds with _ | ⟨a, _ | ⟨b, _ | ⟨c, ds⟩⟩⟩ <;> rfl
theorem w_par3 {i j l : Nat} : wS (sPar3 i j l fl env M) W = wL (fl env M) fun ds M => match ds with
  | [a, b, c] => W.nx (((env.set i (some a)).set j (some b)).set l (some c)) M
  | _ => False := by
  unfold sPar3
  rw [wS_bindL]
  congr
  funext ds M
  rcases ds with _ | ⟨a, _ | ⟨b, _ | ⟨c, _ | ⟨d, ds⟩⟩⟩⟩ <;> rfl
theorem w_gsNil : wS (gsNil [] env M) W = W.nx env M := rfl
theorem w_gsCons {gs : TgL} {d : D} {ds : List D} : wS (gsCons G gs (d :: ds) env M) W = wS (G d env M) { nx := fun e M => wS (gs ds e M) W } := by
  unfold gsCons
  simp only
  cases G d env M <;> rfl
theorem wO_ex {r : Out} {P : D → Mem → Prop} (h : wO r P) : ∃ d M, r = .ok d M ∧ P d M := by
  cases r with
  | ok d M => exact ⟨d, M, rfl, h⟩
  | _ => exact h.elim
theorem w_defn {n k : Nat} {c : Sx} {ds : List D} (h : ds.length = n) : wO (defn n k c ds M) P = wS (c (ds.map some ++ List.replicate (k - n) none) M) { nx := fun _ M => P .non M, rt := P } := by
  unfold defn
  rw [if_pos h]
  cases c (ds.map some ++ List.replicate (k - n) none) M <;> rfl
theorem w_defn1 {k : Nat} {c : Sx} {a : D} : wO (defn 1 k c [a] M) P = wS (c (some a :: List.replicate (k - 1) none) M) { nx := fun _ M => P .non M, rt := P } := w_defn rfl
theorem w_defn2 {k : Nat} {c : Sx} {a b : D} : wO (defn 2 k c [a, b] M) P = wS (c (some a :: some b :: List.replicate (k - 2) none) M) { nx := fun _ M => P .non M, rt := P } := w_defn rfl
theorem w_defn3 {k : Nat} {c : Sx} {a b d : D} : wO (defn 3 k c [a, b, d] M) P = wS (c (some a :: some b :: some d :: List.replicate (k - 3) none) M) { nx := fun _ M => P .non M, rt := P } := w_defn rfl
theorem w_defn4 {k : Nat} {c : Sx} {a b d e : D} : wO (defn 4 k c [a, b, d, e] M) P = wS (c (some a :: some b :: some d :: some e :: List.replicate (k - 4) none) M) { nx := fun _ M => P .non M, rt := P } := w_defn rfl
theorem w_defn5 {k : Nat} {c : Sx} {a b d e f : D} : wO (defn 5 k c [a, b, d, e, f] M) P = wS (c (some a :: some b :: some d :: some e :: some f :: List.replicate (k - 5) none) M) { nx := fun _ M => P .non M, rt := P } := w_defn rfl
theorem w_for {dead : List Nat} {fi : EvI} : wS (sFor dead fi G s env M) W = wI (fi env M) fun ds chk M => wS (forD dead chk G s ds env M) W := by
  unfold sFor
  cases fi env M <;> rfl
theorem w_forD {dead : List Nat} {chk : Mem → Bool} {ds : List D} {W : Wi} (I : Nat → Env → Mem → Prop) (h0 : I 0 (wipeE env dead) M) (hc : ∀ i e M, I i e M → chk M = true)
    (hs : ∀ i d e M, ds[i]? = some d → I i e M → wS (G d e M) { nx := fun e M => wS (s e M) { nx := fun e M => I (i + 1) (wipeE e dead) M, ct := fun e M => I (i + 1) (wipeE e dead) M, bk := fun e M => W.nx (wipeE e dead) M, rt := W.rt } }) (he : ∀ e M, I ds.length e M → W.nx e M) : wS (forD dead chk G s ds env M) W := by
  have : ∀ (n : Nat) (ds' : List D) (e : Env) (M : Mem), ds.drop n = ds' → n ≤ ds.length → I n (wipeE e dead) M → wS (forD dead chk G s ds' e M) W := by
    intro n ds'
    induction ds' generalizing n with
    | nil =>
      intro e M hd hn hI
      have : n = ds.length := by
        have := congrArg List.length hd
        simp at this
        omega
      subst this
      unfold forD
      rw [if_pos (hc _ _ _ hI)]
      exact he _ _ hI
    | cons d ds' ih =>
      intro e M hd hn hI
      have hg : ds[n]? = some d := by
        have := congrArg (fun l => l[0]?) hd
        simpa using this
      have hlt : n < ds.length := (List.getElem?_eq_some_iff.mp hg).1
      have hd' : ds.drop (n + 1) = ds' := by
        have := congrArg List.tail hd
        simpa using this
      unfold forD
      rw [if_pos (hc _ _ _ hI)]
      have q := hs n d _ M hg hI
      cases qg : G d (wipeE e dead) M with
      | nx e1 M1 =>
        rw [qg] at q
        simp only
        have q : wS (s e1 M1) _ := q
        cases qs : s e1 M1 with
        | nx e2 M2 => rw [qs] at q; exact ih (n + 1) e2 M2 hd' hlt q
        | ct e2 M2 => rw [qs] at q; exact ih (n + 1) e2 M2 hd' hlt q
        | bk e2 M2 => rw [qs] at q; exact q
        | rt d M2 => rw [qs] at q; exact q
        | ex x e2 M2 => rw [qs] at q; exact q.elim
        | st => rw [qs] at q; exact q.elim
      | _ => rw [qg] at q; exact q.elim
  exact this 0 ds env M (by simp) (Nat.zero_le _) h0
end
end DL

namespace DL
open PySem L2

abbrev Bag := List (Int × Int)
def bagD (b : Bag) : D := .tup (b.map pairD)
def Val (b : Bag) : Prop := b.Pairwise (fun p q => p.1 < q.1) ∧ ∀ p ∈ b, 1 ≤ p.2
def cum : Bag → Int → Int
  | [], _ => 0
  | p :: b, x => (if p.1 ≤ x then p.2 else 0) + cum b x
def cnt : Bag → Int → Int
  | [], _ => 0
  | p :: b, x => (if p.1 = x then p.2 else 0) + cnt b x
def tot : Bag → Int
  | [] => 0
  | p :: b => p.2 + tot b
theorem cnt_cum : ∀ (b : Bag) (x : Int), cnt b x = cum b x - cum b (x - 1)
  | [], x => by simp [cnt, cum]
  | p :: b, x => by
    unfold cnt cum
    rw [cnt_cum b x]
    split <;> split <;> split <;> omega
theorem Val.tail {p : Int × Int} {b : Bag} (h : Val (p :: b)) : Val b := ⟨(List.pairwise_cons.mp h.1).2, fun q hq => h.2 q (List.mem_cons_of_mem _ hq)⟩
theorem Val.lt {p : Int × Int} {b : Bag} (h : Val (p :: b)) : ∀ q ∈ b, p.1 < q.1 := (List.pairwise_cons.mp h.1).1
theorem Val.pos {p : Int × Int} {b : Bag} (h : Val (p :: b)) : 1 ≤ p.2 := h.2 p List.mem_cons_self
theorem cum_low : ∀ {b : Bag} {x : Int}, (∀ q ∈ b, x < q.1) → cum b x = 0
  | [], x, _ => rfl
  | p :: b, x, h => by
    unfold cum
    rw [cum_low fun q hq => h q (List.mem_cons_of_mem _ hq), if_neg]
    · omega
    · have := h p List.mem_cons_self; omega
theorem cum_nonneg : ∀ {b : Bag} (x : Int), (∀ p ∈ b, 0 ≤ p.2) → 0 ≤ cum b x
  | [], x, _ => Int.le_refl 0
  | p :: b, x, h => by
    unfold cum
    have := cum_nonneg (b := b) x fun q hq => h q (List.mem_cons_of_mem _ hq)
    have := h p List.mem_cons_self
    split <;> omega
theorem Val.nn {b : Bag} (h : Val b) : ∀ p ∈ b, 0 ≤ p.2 := fun p hp => by have := h.2 p hp; omega
theorem bag_ext : ∀ {a b : Bag}, Val a → Val b → (∀ x, cum a x = cum b x) → a = b
  | [], [], _, _, _ => rfl
  | [], q :: b, _, hb, h => by
    have h1 := h q.1
    unfold cum at h1
    rw [if_pos (Int.le_refl _), cum_low (b := b) (hb.lt)] at h1
    have := hb.pos
    have e : cum ([] : Bag) q.1 = 0 := rfl
    omega
  | p :: a, [], ha, _, h => by
    have h1 := h p.1
    unfold cum at h1
    rw [if_pos (Int.le_refl _), cum_low (b := a) (ha.lt)] at h1
    have := ha.pos
    have e : cum ([] : Bag) p.1 = 0 := rfl
    omega
  | p :: a, q :: b, ha, hb, h => by
    have pp := ha.pos
    have qp := hb.pos
    have e1 : p.1 = q.1 := by
      rcases Int.lt_trichotomy p.1 q.1 with l | l | l
      · have h1 := h p.1
        rw [cum_low (b := q :: b) fun z hz => by
          rcases List.mem_cons.1 hz with rfl | hz
          · exact l
          · have := hb.lt z hz; omega] at h1
        unfold cum at h1
        rw [if_pos (Int.le_refl _), cum_low (b := a) (ha.lt)] at h1
        omega
      · exact l
      · have h1 := h q.1
        rw [cum_low (b := p :: a) fun z hz => by
          rcases List.mem_cons.1 hz with rfl | hz
          · exact l
          · have := ha.lt z hz; omega] at h1
        unfold cum at h1
        rw [if_pos (Int.le_refl _), cum_low (b := b) (hb.lt)] at h1
        omega
    have e2 : p.2 = q.2 := by
      have h1 := h p.1
      unfold cum at h1
      rw [if_pos (Int.le_refl _), cum_low (b := a) (ha.lt), if_pos (by omega), cum_low (b := b) (fun z hz => by have := hb.lt z hz; omega)] at h1
      omega
    have e3 : a = b := bag_ext ha.tail hb.tail fun x => by
      have h1 := h x
      unfold cum at h1
      rw [e1, e2] at h1
      omega
    rw [e3]
    congr 1
    exact Prod.ext e1 e2
theorem cum_top : ∀ (b : Bag), ∃ N, ∀ x, N ≤ x → cum b x = tot b
  | [] => ⟨0, fun _ _ => rfl⟩
  | p :: b => by
    obtain ⟨N, h⟩ := cum_top b
    refine ⟨max N p.1, fun x hx => ?_⟩
    unfold cum tot
    rw [h x (by omega), if_pos (by omega)]
def getI : Bag → Int → Int
  | [], _ => 0
  | p :: b, k => if p.1 = k then p.2 else getI b k
def putI : Bag → Int → Int → Bag
  | [], k, v => [(k, v)]
  | p :: b, k, v => if p.1 = k then (k, v) :: b else p :: putI b k v
def Dst (b : Bag) : Prop := (b.map (·.1)).Nodup
theorem putI_keys : ∀ (b : Bag) (k v : Int), (putI b k v).map (·.1) = if k ∈ b.map (·.1) then b.map (·.1) else b.map (·.1) ++ [k]
  | [], k, v => by simp [putI]
  | p :: b, k, v => by
    unfold putI
    by_cases e : p.1 = k
    · simp [e]
    · rw [if_neg e, List.map_cons, putI_keys b k v]
      have e' : ¬ k = p.1 := fun z => e z.symm
      by_cases h : k ∈ b.map (·.1)
      · rw [if_pos h, if_pos (by simp only [List.map_cons, List.mem_cons]; exact .inr h)]; rfl
      · rw [if_neg h, if_neg (by simp only [List.map_cons, List.mem_cons, not_or]; exact ⟨e', h⟩)]; rfl
theorem Dst.put {b : Bag} (h : Dst b) (k v : Int) : Dst (putI b k v) := by
  unfold Dst
  rw [putI_keys]
  split
  · exact h
  · rename_i q
    rw [List.nodup_append]
    refine ⟨h, by simp, fun a ha c hc => ?_⟩
    obtain rfl := List.mem_singleton.1 hc
    exact fun z => q (z ▸ ha)
theorem getI_cnt : ∀ {b : Bag} (k : Int), Dst b → getI b k = cnt b k
  | [], k, _ => rfl
  | p :: b, k, h => by
    have h' := List.nodup_cons.mp (show (p.1 :: b.map (·.1)).Nodup from h)
    unfold getI cnt
    by_cases e : p.1 = k
    · rw [if_pos e, if_pos e]
      have : ∀ {b : Bag}, k ∉ b.map (·.1) → cnt b k = 0 := by
        intro b
        induction b with
        | nil => intro _; rfl
        | cons q b ih =>
          intro h
          simp only [List.map_cons, List.mem_cons, not_or] at h
          unfold cnt
          rw [if_neg (fun z => h.1 z.symm), ih h.2]
          omega
      rw [this (e ▸ h'.1)]
      omega
    · rw [if_neg e, if_neg e, getI_cnt k h'.2]
      omega
theorem cum_put : ∀ (b : Bag) (k v x : Int), cum (putI b k v) x = cum b x + (if k ≤ x then v - getI b k else 0)
  | [], k, v, x => by simp [putI, cum, getI]
  | p :: b, k, v, x => by
    unfold putI getI
    by_cases e : p.1 = k
    · rw [if_pos e, if_pos e]
      unfold cum
      simp only [e]
      split <;> omega
    · rw [if_neg e, if_neg e]
      unfold cum
      rw [cum_put b k v x]
      omega
def canon (b : Bag) : Bag := sortP (b.filter fun p => decide (0 < p.2))
theorem cum_perm {a b : Bag} (h : a.Perm b) (x : Int) : cum a x = cum b x := by
  induction h with
  | nil => rfl
  | cons p _ ih => unfold cum; rw [ih]
  | swap p q l => unfold cum; unfold cum; omega
  | trans _ _ i1 i2 => exact i1.trans i2
theorem cum_filter : ∀ (b : Bag) (x : Int), (∀ p ∈ b, 0 ≤ p.2) → cum (b.filter fun p => decide (0 < p.2)) x = cum b x
  | [], x, _ => rfl
  | p :: b, x, h => by
    have ih := cum_filter b x fun q hq => h q (List.mem_cons_of_mem _ hq)
    have hp := h p List.mem_cons_self
    rw [List.filter_cons]
    split
    · unfold cum; rw [ih]
    · rename_i q
      have : p.2 = 0 := by
        have : ¬ 0 < p.2 := by simpa using q
        omega
      conv => rhs; unfold cum
      rw [ih, this]
      split <;> omega
theorem cum_canon {b : Bag} (h : ∀ p ∈ b, 0 ≤ p.2) (x : Int) : cum (canon b) x = cum b x := by
  unfold canon
  rw [cum_perm (sortP_perm _), cum_filter b x h]
theorem val_canon {b : Bag} (h : Dst b) : Val (canon b) := by
  have hf : Dst (b.filter fun p => decide (0 < p.2)) := List.Nodup.sublist ((List.filter_sublist).map _) h
  refine ⟨?_, fun p hp => ?_⟩
  · have hn : ((canon b).map (·.1)).Nodup := ((sortP_perm _).map _).nodup_iff.mpr hf
    have hs : (canon b).Pairwise (fun x y => SrtO.lexB y x = false) := sortP_sorted _
    have hn2 : (canon b).Pairwise (fun x y => x.1 ≠ y.1) := List.pairwise_map.mp hn
    exact (List.pairwise_and_iff.mpr ⟨hs, hn2⟩).imp fun {x y} z => by
      have := SrtO.lexB_no.mp z.1
      have := z.2
      omega
  · have := (sortP_perm _).mem_iff.mp hp
    have := (List.mem_filter.mp this).2
    have : 0 < p.2 := of_decide_eq_true this
    omega

def takeB : Int → Bag → Bag
  | _, [] => []
  | l, p :: b => if 0 < l then (p.1, min l p.2) :: takeB (l - min l p.2) b else takeB l b
def dropB : Int → Bag → Bag
  | _, [] => []
  | l, p :: b => if min l p.2 < p.2 then (p.1, p.2 - min l p.2) :: dropB (l - min l p.2) b else dropB (l - min l p.2) b
theorem dropB_keys : ∀ (l : Int) (b : Bag), ∀ q ∈ dropB l b, ∃ p ∈ b, p.1 = q.1
  | _, [], q, h => by cases h
  | l, p :: b, q, h => by
    unfold dropB at h
    split at h
    · rcases List.mem_cons.1 h with rfl | h
      · exact ⟨p, List.mem_cons_self, rfl⟩
      · obtain ⟨z, hz, e⟩ := dropB_keys _ b q h
        exact ⟨z, List.mem_cons_of_mem _ hz, e⟩
    · obtain ⟨z, hz, e⟩ := dropB_keys _ b q h
      exact ⟨z, List.mem_cons_of_mem _ hz, e⟩
theorem val_drop : ∀ {l : Int} {b : Bag}, Val b → Val (dropB l b)
  | _, [], _ => ⟨.nil, by simp [dropB]⟩
  | l, p :: b, h => by
    unfold dropB
    split
    · have ih := val_drop (l := l - min l p.2) h.tail
      refine ⟨List.pairwise_cons.mpr ⟨fun q hq => ?_, ih.1⟩, fun q hq => ?_⟩
      · obtain ⟨z, hz, e⟩ := dropB_keys _ b q hq
        have := h.lt z hz
        show p.1 < q.1
        omega
      · rcases List.mem_cons.1 hq with rfl | hq
        · show 1 ≤ p.2 - min l p.2
          omega
        · exact ih.2 q hq
    · exact val_drop h.tail
theorem cum_drop : ∀ {l : Int} {b : Bag} (x : Int), Val b → 0 ≤ l → cum (dropB l b) x = max (cum b x - l) 0
  | l, [], x, _, h => by unfold dropB cum; omega
  | l, p :: b, x, hb, h => by
    have h0 := cum_nonneg x hb.tail.nn
    have hp := hb.pos
    have ih := cum_drop (l := l - min l p.2) x hb.tail (by omega)
    by_cases e : p.1 ≤ x
    · unfold dropB
      split
      · unfold cum
        rw [ih]
        simp only
        rw [if_pos e, if_pos e]
        omega
      · rw [ih]
        show _ = max ((if p.1 ≤ x then p.2 else 0) + cum b x - l) 0
        rw [if_pos e]
        omega
    · have z : ∀ q ∈ b, x < q.1 := fun q hq => by have := hb.lt q hq; omega
      have e2 : cum (dropB l (p :: b)) x = 0 := cum_low fun q hq => by
        obtain ⟨y, hy, e3⟩ := dropB_keys _ _ q hq
        rcases List.mem_cons.1 hy with rfl | hy
        · omega
        · have := z y hy; omega
      rw [e2]
      unfold cum
      rw [if_neg e, cum_low z]
      omega
theorem tot_cum {a b : Bag} {f : Int → Int} {c : Int} (h : ∀ x, cum a x = f (cum b x)) : tot a = f (tot b) := by
  obtain ⟨N, hN⟩ := cum_top a
  obtain ⟨N', hN'⟩ := cum_top b
  have := h (max N N')
  rw [hN _ (by omega), hN' _ (by omega)] at this
  exact this
theorem tot_cum2 {a b c : Bag} {f : Int → Int → Int} (h : ∀ x, cum a x = f (cum b x) (cum c x)) : tot a = f (tot b) (tot c) := by
  obtain ⟨N, hN⟩ := cum_top a
  obtain ⟨N', hN'⟩ := cum_top b
  obtain ⟨N2, hN2⟩ := cum_top c
  have := h (max N (max N' N2))
  rw [hN _ (by omega), hN' _ (by omega), hN2 _ (by omega)] at this
  exact this
theorem cum_le_tot : ∀ {b : Bag} (x : Int), (∀ p ∈ b, 0 ≤ p.2) → cum b x ≤ tot b
  | [], x, _ => Int.le_refl 0
  | p :: b, x, h => by
    unfold cum tot
    have := cum_le_tot (b := b) x fun q hq => h q (List.mem_cons_of_mem _ hq)
    have := h p List.mem_cons_self
    split <;> omega
theorem pures_pairs : ∀ b : Bag, puresD (b.map pairD) = true
  | [] => rfl
  | p :: b => by
    show (pureD (pairD p) && puresD (b.map pairD)) = true
    rw [pures_pairs b]
    rfl
theorem pure_bag (b : Bag) : pureD (bagD b) = true := pures_pairs b
theorem w_callM {F : Fn} {ds : List D} {M : Mem} {P : D → Mem → Prop} (hp : puresD ds = false) (h : wO (F ds M) fun d M1 => pureD d = true ∧ (M1.take M.length).all pureOb = true ∧ P d (M1.take M.length)) : wO (callF F ds M) P := by
  unfold callF
  rw [if_neg (by rw [hp]; decide)]
  obtain ⟨d, M1, e, h1, h2, h3⟩ := wO_ex h
  rw [e]
  have hb : backD M.length d M1 = some d := by
    unfold backD
    split
    · cases h1
    · rw [if_pos h1]
  have hc : cutM M.length M1 = some (M1.take M.length) := by
    exact cutM_pure h2
  show wO (Out.or (match cutM M.length M1, backD M.length d M1 with
    | some M', some d' => .ok d' M'
    | _, _ => .st) _) P
  rw [hb, hc]
  exact h3
theorem w_newF {F : Fn} {ds : List D} {M : Mem} {P : D → Mem → Prop} (hp : puresD ds = true) (h : wO (F ds []) fun d M1 => ∃ l ob, d = .ref l ∧ M1[l]? = some ob ∧ pureOb ob = true ∧ P (.ref M.length) (M ++ [ob])) : wO (newF F ds M) P := by
  unfold newF
  rw [if_pos hp]
  obtain ⟨d, M1, e, l, ob, rfl, h1, h2, h3⟩ := wO_ex h
  rw [e]
  simp only [h1, h2, if_true]
  exact h3
end DL

namespace DL
open PySem L2
section
variable {fa fb fc ft fe fo : Ev} {fl : EvL} {env : Env} {M : Mem} {P : D → Mem → Prop} {PL : List D → Mem → Prop} {W : Wi} {G : Tg}
theorem w_gT2 {gs : TgL} {a b : D} : wS (gT 2 gs (.tup [a, b]) env M) W = wS (gs [a, b] env M) W := rfl
theorem w_gT3 {gs : TgL} {a b c : D} : wS (gT 3 gs (.tup [a, b, c]) env M) W = wS (gs [a, b, c] env M) W := rfl
theorem w_gTi2 {gs : TgL} {a b : D} : wS (gT 2 gs (.itm [a, b]) env M) W = wS (gs [a, b] env M) W := rfl
theorem w_neg {fa : Ev} : wO (eNeg fa env M) P = wO (fa env M) fun d M => wO (negD d M) P := by unfold eNeg; rw [wO_bind]
theorem w_negI {i : Int} : wO (negD (.int i) M) P = P (.int (-i)) M := rfl
theorem w_t20 {a b : D} : wO (gIx (.tup [a, b]) (.int 0) M) P = P a M := rfl
theorem w_t21 {a b : D} : wO (gIx (.tup [a, b]) (.int 1) M) P = P b M := rfl
theorem w_t30 {a b c : D} : wO (gIx (.tup [a, b, c]) (.int 0) M) P = P a M := rfl
theorem w_t31 {a b c : D} : wO (gIx (.tup [a, b, c]) (.int 1) M) P = P b M := rfl
theorem w_t32 {a b c : D} : wO (gIx (.tup [a, b, c]) (.int 2) M) P = P c M := rfl
theorem w_ixR {l : Nat} {xs : List D} {i : Int} {d : D} (h : M[l]? = some (.lst xs)) (ha : atI xs i = some d) : wO (gIx (.ref l) (.int i) M) P = P d M := by
  unfold gIx
  have : seqD M (.ref l) = some xs := by show derefL M (.ref l) = _; unfold derefL; simp only [h]
  simp only [this, ha]
  rfl
def appW (d : D) (fa : Ev) (env : Env) (M : Mem) (P : D → Mem → Prop) : Prop := match d with
  | .ref l => match M[l]? with
    | some (.lst _) => wO (fa env M) fun x M2 => match M2[l]? with
      | some (.lst xs) => xs.length < sizeLine ∧ P .non (M2.set l (.lst (xs ++ [x])))
      | _ => False
    | _ => False
  | _ => False
theorem w_app : wO (mAppend fo fa env M) P = wO (fo env M) fun d M => appW d fa env M P := by
  unfold mAppend
  rw [wO_bind]
  congr
  funext d M
  unfold appW
  cases d with
  | ref l =>
    simp only
    cases h : M[l]? with
    | none => rfl
    | some ob =>
      cases ob with
      | lst ys =>
        simp only
        rw [wO_bind]
        congr
        funext x M2
        cases h2 : M2[l]? with
        | none => rfl
        | some ob2 =>
          cases ob2 with
          | lst xs =>
            simp only
            by_cases hz : xs.length < sizeLine
            · rw [if_pos hz]; simp [hz, wO]
            · rw [if_neg hz]; simp [hz, wO]
          | _ => rfl
      | _ => rfl
  | _ => rfl
theorem w_min2 {i j : Int} : wO (nMin2 [.int i, .int j] M) P = P (.int (min i j)) M := by
  show P (.int (if j < i then j else i)) M = _
  have : (if j < i then j else i) = min i j := by omega
  rw [this]
theorem w_max2 {i j : Int} : wO (nMax2 [.int i, .int j] M) P = P (.int (max i j)) M := by
  show P (.int (if j > i then j else i)) M = _
  have : (if j > i then j else i) = max i j := by omega
  rw [this]
theorem intsD_map : ∀ ns : List Int, intsD (ns.map D.int) = some ns
  | [] => rfl
  | n :: ns => by
    show (intsD (ns.map D.int)).map (n :: ·) = _
    rw [intsD_map ns]
    rfl
theorem w_sumL {ns : List Int} : wO (nSum [.lst (ns.map D.int)] M) P = P (.int ns.sum) M := by
  unfold nSum
  have : (readL M [.lst (ns.map D.int)]).bind intsD = some ns := intsD_map ns
  rw [this]
  rfl
theorem w_lenT {xs : List D} : wO (nLen [.tup xs] M) P = P (.int xs.length) M := rfl
end
def foldP (f : Int → Int → Int) (a : Bag) : Bag → Bag
  | [] => a
  | p :: b => foldP f (putI a p.1 (f (getI a p.1) p.2)) b
theorem Val.dst {b : Bag} (h : Val b) : Dst b := by
  unfold Dst
  exact List.pairwise_map.mpr (h.1.imp fun {x y} z => by omega)
end DL

namespace DL
open PySem L2
mutual
def okD : D → Bool
  | .non => true
  | .bl _ => true
  | .int _ => true
  | .str x => PyData.strOk x
  | .tup xs => okDs xs
  | .itm xs => okDs xs
  | .lst xs => okDs xs
  | .fzl xs => okDs xs
  | .ref _ => false
  | .glo _ => false
  | .ty _ => false
  | .inst _ _ => false
  | .dcv _ => false
def okDs : List D → Bool
  | [] => true
  | x :: xs => okD x && okDs xs
end
mutual
def dpD : D → Nat
  | .tup xs => dpDs xs + 1
  | .itm xs => dpDs xs + 1
  | .lst xs => dpDs xs + 1
  | .fzl xs => dpDs xs + 1
  | .non => 0
  | .bl _ => 0
  | .int _ => 0
  | .str _ => 0
  | .ref _ => 0
  | .glo _ => 0
  | .ty _ => 0
  | .inst _ _ => 0
  | .dcv _ => 0
def dpDs : List D → Nat
  | [] => 0
  | x :: xs => max (dpD x) (dpDs xs)
end
mutual
def eqvD : D → D → Bool
  | .non, .non => true
  | .bl a, .bl b => a == b
  | .bl a, .int j => (if a then 1 else 0) == j
  | .int i, .bl b => i == (if b then 1 else 0)
  | .int i, .int j => i == j
  | .str x, .str y => x == y
  | .lst xs, .lst ys => eqvDs xs ys
  | .lst xs, .fzl ys => eqvDs xs ys
  | .fzl xs, .lst ys => eqvDs xs ys
  | .fzl xs, .fzl ys => eqvDs xs ys
  | .tup xs, .tup ys => eqvDs xs ys
  | .tup xs, .itm ys => eqvDs xs ys
  | .itm xs, .tup ys => eqvDs xs ys
  | .itm xs, .itm ys => eqvDs xs ys
  | _, _ => false
def eqvDs : List D → List D → Bool
  | [], [] => true
  | x :: xs, y :: ys => eqvD x y && eqvDs xs ys
  | _, _ => false
end
mutual
theorem toP_ok : ∀ {d : D}, okD d = true → ∃ p, toP d = some p ∧ p.canLay0 = true ∧ p.depth = dpD d
  | .non, _ => ⟨.none, rfl, by simp [PyData.canLay0], by simp [PyData.depth, dpD]⟩
  | .bl b, _ => ⟨.bool b, rfl, by simp [PyData.canLay0], by simp [PyData.depth, dpD]⟩
  | .int i, _ => ⟨.int i, rfl, by simp [PyData.canLay0], by simp [PyData.depth, dpD]⟩
  | .str x, h => ⟨.str x, rfl, by simpa [PyData.canLay0, okD] using h, by simp [PyData.depth, dpD]⟩
  | .tup xs, h => by
    obtain ⟨p, e, c, q⟩ := toPs_ok (show okDs xs = true by simpa [okD] using h)
    exact ⟨.tuple p, by simp [toP, e], by simpa [PyData.canLay0] using c, by simp [PyData.depth, dpD, q, Nat.add_comm]⟩
  | .itm xs, h => by
    obtain ⟨p, e, c, q⟩ := toPs_ok (show okDs xs = true by simpa [okD] using h)
    exact ⟨.tuple p, by simp [toP, e], by simpa [PyData.canLay0] using c, by simp [PyData.depth, dpD, q, Nat.add_comm]⟩
  | .lst xs, h => by
    obtain ⟨p, e, c, q⟩ := toPs_ok (show okDs xs = true by simpa [okD] using h)
    exact ⟨.list p, by simp [toP, e], by simpa [PyData.canLay0] using c, by simp [PyData.depth, dpD, q, Nat.add_comm]⟩
  | .fzl xs, h => by
    obtain ⟨p, e, c, q⟩ := toPs_ok (show okDs xs = true by simpa [okD] using h)
    exact ⟨.list p, by simp [toP, e], by simpa [PyData.canLay0] using c, by simp [PyData.depth, dpD, q, Nat.add_comm]⟩
  | .ref _, h => by simp [okD] at h
  | .glo _, h => by simp [okD] at h
  | .ty _, h => by simp [okD] at h
  | .inst _ _, h => by simp [okD] at h
  | .dcv _, h => by simp [okD] at h
theorem toPs_ok : ∀ {d : List D}, okDs d = true → ∃ p, toPs d = some p ∧ PyData.canLayAll0 p = true ∧ PyData.depthAll p = dpDs d
  | [], _ => ⟨[], rfl, by simp [PyData.canLayAll0], by simp [PyData.depthAll, dpDs]⟩
  | x :: xs, h => by
    have h' : okD x = true ∧ okDs xs = true := by simpa [okDs] using h
    obtain ⟨p, e, c, q⟩ := toP_ok h'.1
    obtain ⟨ps, es, cs, qs⟩ := toPs_ok h'.2
    exact ⟨p :: ps, by simp [toPs, e, es], by simp [PyData.canLayAll0, c, cs], by simp [PyData.depthAll, dpDs, q, qs]⟩
end
mutual
theorem eqv_eq : ∀ {x y : D} {p q : PyData}, toP x = some p → toP y = some q → PyData.eqv p q = eqvD x y := by
  intro x y p q hx hy
  cases x with
  | tup xs =>
    obtain ⟨ps, e, rfl⟩ : ∃ ps, toPs xs = some ps ∧ p = .tuple ps := by
      simp only [toP, Option.map_eq_some_iff] at hx
      obtain ⟨a, b, c⟩ := hx
      exact ⟨a, b, c.symm⟩
    cases y <;> simp only [toP, Option.map_eq_some_iff, Option.some.injEq, reduceCtorEq] at hy
    all_goals first
      | (obtain ⟨qs, e2, rfl⟩ := hy; simp only [PyData.eqv, eqvD]; first | done | exact eqvs_eq e e2)
      | (subst hy; simp only [PyData.eqv, eqvD])
  | itm xs =>
    obtain ⟨ps, e, rfl⟩ : ∃ ps, toPs xs = some ps ∧ p = .tuple ps := by
      simp only [toP, Option.map_eq_some_iff] at hx
      obtain ⟨a, b, c⟩ := hx
      exact ⟨a, b, c.symm⟩
    cases y <;> simp only [toP, Option.map_eq_some_iff, Option.some.injEq, reduceCtorEq] at hy
    all_goals first
      | (obtain ⟨qs, e2, rfl⟩ := hy; simp only [PyData.eqv, eqvD]; first | done | exact eqvs_eq e e2)
      | (subst hy; simp only [PyData.eqv, eqvD])
  | lst xs =>
    obtain ⟨ps, e, rfl⟩ : ∃ ps, toPs xs = some ps ∧ p = .list ps := by
      simp only [toP, Option.map_eq_some_iff] at hx
      obtain ⟨a, b, c⟩ := hx
      exact ⟨a, b, c.symm⟩
    cases y <;> simp only [toP, Option.map_eq_some_iff, Option.some.injEq, reduceCtorEq] at hy
    all_goals first
      | (obtain ⟨qs, e2, rfl⟩ := hy; simp only [PyData.eqv, eqvD]; first | done | exact eqvs_eq e e2)
      | (subst hy; simp only [PyData.eqv, eqvD])
  | fzl xs =>
    obtain ⟨ps, e, rfl⟩ : ∃ ps, toPs xs = some ps ∧ p = .list ps := by
      simp only [toP, Option.map_eq_some_iff] at hx
      obtain ⟨a, b, c⟩ := hx
      exact ⟨a, b, c.symm⟩
    cases y <;> simp only [toP, Option.map_eq_some_iff, Option.some.injEq, reduceCtorEq] at hy
    all_goals first
      | (obtain ⟨qs, e2, rfl⟩ := hy; simp only [PyData.eqv, eqvD]; first | done | exact eqvs_eq e e2)
      | (subst hy; simp only [PyData.eqv, eqvD])
  | non =>
    simp only [toP, Option.some.injEq] at hx
    subst hx
    cases y <;> simp only [toP, Option.map_eq_some_iff, Option.some.injEq, reduceCtorEq] at hy
    all_goals first
      | (obtain ⟨qs, e2, rfl⟩ := hy; simp only [PyData.eqv, eqvD])
      | (subst hy; simp only [PyData.eqv, eqvD])
  | bl b =>
    simp only [toP, Option.some.injEq] at hx
    subst hx
    cases y <;> simp only [toP, Option.map_eq_some_iff, Option.some.injEq, reduceCtorEq] at hy
    all_goals first
      | (obtain ⟨qs, e2, rfl⟩ := hy; simp only [PyData.eqv, eqvD])
      | (subst hy; simp only [PyData.eqv, eqvD])
  | int b =>
    simp only [toP, Option.some.injEq] at hx
    subst hx
    cases y <;> simp only [toP, Option.map_eq_some_iff, Option.some.injEq, reduceCtorEq] at hy
    all_goals first
      | (obtain ⟨qs, e2, rfl⟩ := hy; simp only [PyData.eqv, eqvD])
      | (subst hy; simp only [PyData.eqv, eqvD])
  | str b =>
    simp only [toP, Option.some.injEq] at hx
    subst hx
    cases y <;> simp only [toP, Option.map_eq_some_iff, Option.some.injEq, reduceCtorEq] at hy
    all_goals first
      | (obtain ⟨qs, e2, rfl⟩ := hy; simp only [PyData.eqv, eqvD])
      | (subst hy; simp only [PyData.eqv, eqvD])
  | _ => simp [toP] at hx
theorem eqvs_eq : ∀ {x y : List D} {p q : List PyData}, toPs x = some p → toPs y = some q → PyData.eqvAll p q = eqvDs x y := by
  intro x y p q hx hy
  cases x with
  | nil =>
    simp only [toPs, Option.some.injEq] at hx
    subst hx
    cases y with
    | nil => simp only [toPs, Option.some.injEq] at hy; subst hy; rfl
    | cons b ys =>
      cases h1 : toP b with
      | none => simp [toPs, h1] at hy
      | some z =>
        cases h2 : toPs ys with
        | none => simp [toPs, h1, h2] at hy
        | some zs => simp [toPs, h1, h2] at hy; subst hy; simp only [PyData.eqvAll, eqvDs]
  | cons a xs =>
    cases g1 : toP a with
    | none => simp [toPs, g1] at hx
    | some u =>
      cases g2 : toPs xs with
      | none => simp [toPs, g1, g2] at hx
      | some us =>
        simp [toPs, g1, g2] at hx
        subst hx
        cases y with
        | nil => simp only [toPs, Option.some.injEq] at hy; subst hy; simp only [PyData.eqvAll, eqvDs]
        | cons b ys =>
          cases h1 : toP b with
          | none => simp [toPs, h1] at hy
          | some z =>
            cases h2 : toPs ys with
            | none => simp [toPs, h1, h2] at hy
            | some zs =>
              simp [toPs, h1, h2] at hy
              subst hy
              simp only [PyData.eqvAll, eqvDs]
              rw [eqv_eq g1 h1, eqvs_eq g2 h2]
end
end DL

namespace DL
open PySem L2
theorem wI_bind {r : Out} {k : D → Mem → OutI} {P : List D → (Mem → Bool) → Mem → Prop} : wI (r.bindI k) P = wO r fun d M => wI (k d M) P := by cases r <;> rfl
def itD (d : D) (M : Mem) : OutI := match d with
  | .tup xs => .ok xs cYes M
  | .itm xs => .ok xs cYes M
  | d => match derefL M d with
    | some xs => .ok xs (chkL d xs) M
    | none => .st
theorem w_iA {f : Ev} {env : Env} {M : Mem} {P : List D → (Mem → Bool) → Mem → Prop} : wI (iA f env M) P = wO (f env M) fun d M => wI (itD d M) P := wI_bind
theorem w_cmt {c : Str} {F : Fn} {fl : EvL} {env : Env} {M : Mem} {P : D → Mem → Prop} : wO (eCmt c F fl env M) P = wL (fl env M) fun ds M => wO (callF F (.glo c :: ds) M) P := by
  unfold eCmt
  cases fl env M <;> rfl
theorem pb (b : Bag) : pureD (bagD b) = true := pure_bag b
theorem le_line {n : Nat} (h : n ≤ 4000000) : n ≤ sizeLine := by rw [PySem.sizeLine_eq]; omega
end DL
namespace HL
open PySem DL
def addB (a b : Bag) : Bag := canon (foldP (· + ·) a b)
def subB (a b : Bag) : Bag := canon (foldP (· - ·) a b)
theorem dst_fold (f : Int → Int → Int) : ∀ (b : Bag) {a : Bag}, Dst a → Dst (foldP f a b)
  | [], a, h => h
  | p :: b, a, h => dst_fold f b (h.put _ _)
def hasB (a b : Bag) : Bool := !(foldP (· - ·) a b).any (fun p => decide (p.2 < 0))
end HL

namespace HL
open PySem DL
theorem val_sub {a : Bag} (h : Val a) (b : Bag) : Val (subB a b) := val_canon (dst_fold _ b h.dst)
theorem val_add {a : Bag} (h : Val a) (b : Bag) : Val (addB a b) := val_canon (dst_fold _ b h.dst)
theorem cum_fold (s : Int) (f : Int → Int → Int) (hf : ∀ a b, f a b = a + s * b) : ∀ (b : Bag) (a : Bag) (x : Int), cum (foldP f a b) x = cum a x + s * cum b x
  | [], a, x => by
    have : cum ([] : Bag) x = 0 := rfl
    rw [this]
    show cum a x = _
    omega
  | p :: b, a, x => by
    unfold foldP
    rw [cum_fold s f hf b _ x, cum_put, hf]
    show _ = cum a x + s * ((if p.1 ≤ x then p.2 else 0) + cum b x)
    split <;> simp only [Int.mul_add, Int.mul_zero] <;> omega
theorem getI_fold_sub (a b : Bag) (ha : Dst a) (k : Int) : getI (foldP (· - ·) a b) k = cnt a k - cnt b k := by
  rw [getI_cnt k (dst_fold _ b ha), cnt_cum, cnt_cum, cnt_cum, cum_fold (-1) (· - ·) (fun a b => by omega), cum_fold (-1) (· - ·) (fun a b => by omega)]
  omega
theorem mem_get : ∀ {b : Bag} {p : Int × Int}, Dst b → p ∈ b → getI b p.1 = p.2
  | [], p, _, h => by cases h
  | q :: b, p, hd, h => by
    have h' := List.nodup_cons.mp (show (q.1 :: b.map (·.1)).Nodup from hd)
    unfold getI
    rcases List.mem_cons.1 h with rfl | h
    · rw [if_pos rfl]
    · rw [if_neg fun z => h'.1 (by rw [z]; exact List.mem_map_of_mem h)]
      exact mem_get h'.2 h
theorem get_mem : ∀ (b : Bag) (k : Int), getI b k = 0 ∨ ∃ p ∈ b, p.1 = k ∧ getI b k = p.2
  | [], k => .inl rfl
  | q :: b, k => by
    unfold getI
    by_cases e : q.1 = k
    · exact .inr ⟨q, List.mem_cons_self, e, by rw [if_pos e]⟩
    · rw [if_neg e]
      rcases get_mem b k with h | ⟨p, hp, h1, h2⟩
      · exact .inl h
      · exact .inr ⟨p, List.mem_cons_of_mem _ hp, h1, h2⟩
theorem cnt_nn : ∀ {b : Bag} (x : Int), (∀ p ∈ b, 0 ≤ p.2) → 0 ≤ cnt b x
  | [], x, _ => Int.le_refl 0
  | p :: b, x, h => by
    unfold cnt
    have := cnt_nn (b := b) x fun q hq => h q (List.mem_cons_of_mem _ hq)
    have := h p List.mem_cons_self
    split <;> omega
theorem cum_addN {a b : Bag} (ha : Val a) (hb : ∀ p ∈ b, 0 ≤ p.2) (x : Int) : cum (addB a b) x = cum a x + cum b x := by
  unfold addB
  rw [cum_canon (fun p hp => by
    have hd := dst_fold (· + ·) b ha.dst
    have e1 := mem_get hd hp
    rw [getI_cnt _ hd, cnt_cum, cum_fold 1 (· + ·) (fun a b => by omega), cum_fold 1 (· + ·) (fun a b => by omega)] at e1
    have h1 := cnt_nn p.1 ha.nn
    have h2 := cnt_nn p.1 hb
    rw [cnt_cum] at h1 h2
    omega), cum_fold 1 (· + ·) (fun a b => by omega)]
  omega
theorem cum_add {a b : Bag} (ha : Val a) (hb : Val b) (x : Int) : cum (addB a b) x = cum a x + cum b x := cum_addN ha hb.nn x
theorem hasB_iff {a b : Bag} (ha : Val a) : hasB a b = true ↔ ∀ k, cnt b k ≤ cnt a k := by
  unfold hasB
  rw [Bool.not_eq_true', List.any_eq_false]
  have hd := dst_fold (· - ·) b ha.dst
  constructor
  · intro h k
    rcases get_mem (foldP (· - ·) a b) k with g | ⟨p, hp, rfl, g⟩
    · rw [getI_fold_sub a b ha.dst] at g; omega
    · have := h p hp
      rw [getI_fold_sub a b ha.dst] at g
      simp at this
      omega
  · intro h p hp
    have e1 := mem_get hd hp
    rw [getI_fold_sub a b ha.dst] at e1
    have := h p.1
    simp
    omega
theorem cum_sub {a b : Bag} (ha : Val a) (h : hasB a b = true) (x : Int) : cum (subB a b) x = cum a x - cum b x := by
  unfold subB
  rw [cum_canon (fun p hp => by
    unfold hasB at h
    rw [Bool.not_eq_true', List.any_eq_false] at h
    have := h p hp
    simp at this
    exact this), cum_fold (-1) (· - ·) (fun a b => by omega)]
  omega
theorem cum_mono {b : Bag} (h : Val b) {x y : Int} (l : x ≤ y) : cum b x ≤ cum b y := by
  have nn := h.nn
  clear h
  induction b with
  | nil => exact Int.le_refl _
  | cons p b ih =>
    have := ih fun q hq => nn q (List.mem_cons_of_mem _ hq)
    have := nn p List.mem_cons_self
    unfold cum
    split <;> split <;> omega
theorem tot_add {a b : Bag} (ha : Val a) (hb : Val b) : tot (addB a b) = tot a + tot b := tot_cum2 (f := fun a b => a + b) (cum_add ha hb)
theorem tot_sub {a b : Bag} (ha : Val a) (h : hasB a b = true) : tot (subB a b) = tot a - tot b := tot_cum2 (f := fun a b => a - b) (cum_sub ha h)
theorem tot_drop {b : Bag} {l : Int} (h : Val b) (hl : 0 ≤ l) : tot (dropB l b) = max (tot b - l) 0 := tot_cum (f := fun a => max (a - l) 0) (c := 0) fun x => cum_drop x h hl
theorem cnt_add {a b : Bag} (ha : Val a) (hb : Val b) (k : Int) : cnt (addB a b) k = cnt a k + cnt b k := by
  rw [cnt_cum, cum_add ha hb, cum_add ha hb, cnt_cum, cnt_cum]
  omega
theorem cnt_sub {a b : Bag} (ha : Val a) (h : hasB a b = true) (k : Int) : cnt (subB a b) k = cnt a k - cnt b k := by
  rw [cnt_cum, cum_sub ha h, cum_sub ha h, cnt_cum, cnt_cum]
  omega
theorem cnt_drop {b : Bag} {l : Int} (h : Val b) (hl : 0 ≤ l) (k : Int) : cnt (dropB l b) k ≤ cnt b k := by
  rw [cnt_cum, cum_drop _ h hl, cum_drop _ h hl, cnt_cum]
  have := cum_mono h (show k - 1 ≤ k by omega)
  omega
def scaleB (b : Bag) (n : Int) : Bag := if 0 < n then b.map fun p => (p.1, p.2 * n) else []
structure Ef where
  I : Bag
  r : Int
  S : Bag
structure Ef.Ok (e : Ef) : Prop where
  vi : Val e.I
  vs : Val e.S
  has : hasB e.I e.S = true
  r0 : 0 ≤ e.r
  rt : tot e.I - tot e.S ≤ e.r
def Ef.a (e : Ef) (x : Int) : Int := cum e.I x - e.r
def Ef.s (e : Ef) (x : Int) : Int := cum e.S x
def Ef.C (e : Ef) : Bag := subB e.I e.S
def idE : Ef := ⟨[], 0, []⟩
def joinE (e f : Ef) : Ef := ⟨addB e.I f.I, e.r + f.r, addB f.S (dropB f.r (addB e.S (subB f.I f.S)))⟩
def powE (e : Ef) (n : Int) : Ef := if n = 0 then idE else ⟨scaleB e.I n, e.r * n, addB e.S (scaleB (dropB e.r e.I) (n - 1))⟩
def Ef.rm (e : Ef) (h : Bag) : Bag := takeB e.r (addB h e.C)
section
variable {e f : Ef}
theorem Ef.Ok.vc (h : e.Ok) : Val e.C := val_sub h.vi _
theorem Ef.Ok.cumC (h : e.Ok) (x : Int) : cum e.C x = cum e.I x - cum e.S x := cum_sub h.vi h.has x
theorem Ef.Ok.totC (h : e.Ok) : tot e.C = tot e.I - tot e.S := tot_sub h.vi h.has
theorem Ef.Ok.le (h : e.Ok) (x : Int) : cum e.S x ≤ cum e.I x := by
  have := cum_nonneg x h.vc.nn
  rw [h.cumC] at this
  omega
theorem Ef.Ok.as (h : e.Ok) (x : Int) : e.a x ≤ e.s x := by
  have h1 := cum_le_tot x h.vc.nn
  rw [h.cumC, h.totC] at h1
  have := h.rt
  unfold Ef.a Ef.s
  omega
theorem joinE_ok (he : e.Ok) (hf : f.Ok) : (joinE e f).Ok := by
  have v := val_add he.vs f.C
  have vd := val_drop (l := f.r) v
  refine ⟨val_add he.vi _, val_add hf.vs _, ?_, ?_, ?_⟩
  · refine (hasB_iff (a := addB e.I f.I) (val_add he.vi _)).mpr fun k => ?_
    show cnt (addB f.S (dropB f.r (addB e.S f.C))) k ≤ cnt (addB e.I f.I) k
    rw [cnt_add hf.vs vd, cnt_add he.vi hf.vi]
    have h1 := cnt_drop v hf.r0 k
    rw [cnt_add he.vs hf.vc] at h1
    have h2 : cnt f.C k = cnt f.I k - cnt f.S k := cnt_sub hf.vi hf.has k
    have h3 := (hasB_iff he.vi).mp he.has k
    omega
  · have := he.r0; have := hf.r0; show 0 ≤ e.r + f.r; omega
  · show tot (addB e.I f.I) - tot (addB f.S (dropB f.r (addB e.S f.C))) ≤ e.r + f.r
    rw [tot_add he.vi hf.vi, tot_add hf.vs vd, tot_drop v hf.r0, tot_add he.vs hf.vc, hf.totC]
    have := he.rt
    omega
end
end HL

namespace HL
open PySem DL
class Ctr where
  c : Int
  d : Int
def Near [Ctr] (n : Int) : Prop := (Ctr.c - 400000 ≤ n ∧ n ≤ Ctr.c + 400000) ∨ (Ctr.d - 400000 ≤ n ∧ n ≤ Ctr.d + 400000)
class Zero0 [k : Ctr] : Prop where
  z : k.c = 0
variable [Ctr]
def KeyB (b : Bag) : Prop := ∀ p ∈ b, Near p.1
theorem len_span : ∀ {b : Bag} {lo hi : Int}, b.Pairwise (fun p q => p.1 < q.1) → (∀ p ∈ b, lo ≤ p.1 ∧ p.1 ≤ hi) → (b.length : Int) ≤ max (hi - lo + 1) 0
  | [], lo, hi, _, _ => by simp; omega
  | p :: b, lo, hi, hp, h => by
    have hq := List.pairwise_cons.mp hp
    have ih := len_span (b := b) (lo := lo + 1) (hi := hi) hq.2 fun q hm => by
      have := hq.1 q hm
      have := h p List.mem_cons_self
      have := h q (List.mem_cons_of_mem _ hm)
      omega
    have := h p List.mem_cons_self
    simp only [List.length_cons]
    omega
theorem key_len {b : Bag} (h : Val b) (k : KeyB b) : b.length ≤ 1800001 := by
  have cut : ∀ (f : Int × Int → Bool) (b : Bag), (b.filter f).length + (b.filter fun p => !f p).length = b.length := fun f b => by
    induction b with
    | nil => rfl
    | cons p b ih => cases q : f p <;> simp [q] <;> omega
  have h1 := len_span (b := b.filter fun p => decide (Ctr.c - 400000 ≤ p.1 ∧ p.1 ≤ Ctr.c + 400000)) (lo := Ctr.c - 400000) (hi := Ctr.c + 400000) (h.1.filter _) fun p hp => of_decide_eq_true (List.mem_filter.mp hp).2
  have h2 := len_span (b := b.filter fun p => !decide (Ctr.c - 400000 ≤ p.1 ∧ p.1 ≤ Ctr.c + 400000)) (lo := Ctr.d - 400000) (hi := Ctr.d + 400000) (h.1.filter _) fun p hp => by
    obtain ⟨m, q⟩ := List.mem_filter.mp hp
    rcases k p m with z | z
    · simp [z] at q
    · exact z
  have h3 := cut (fun p => decide (Ctr.c - 400000 ≤ p.1 ∧ p.1 ≤ Ctr.c + 400000)) b
  omega
theorem key_put {b : Bag} {k v : Int} (h : KeyB b) (hk : Near k) : KeyB (putI b k v) := by
  induction b with
  | nil =>
    intro p hp
    (obtain rfl := List.mem_singleton.mp hp)
    exact hk
  | cons q b ih =>
    intro p hp
    unfold putI at hp
    split at hp
    · rcases List.mem_cons.1 hp with rfl | hp
      · exact hk
      · exact h p (List.mem_cons_of_mem _ hp)
    · rcases List.mem_cons.1 hp with rfl | hp
      · exact h _ List.mem_cons_self
      · exact ih (fun r hr => h r (List.mem_cons_of_mem _ hr)) p hp
theorem key_fold {f : Int → Int → Int} : ∀ {b a : Bag}, KeyB a → KeyB b → KeyB (foldP f a b)
  | [], a, h, _ => h
  | p :: b, a, h, h2 => by
    unfold foldP
    exact key_fold (b := b) (key_put h (h2 p List.mem_cons_self)) fun q hq => h2 q (List.mem_cons_of_mem _ hq)
theorem key_canon {b : Bag} (h : KeyB b) : KeyB (canon b) := fun p hp => by
  unfold canon at hp
  have := (sortP_perm _).mem_iff.mp hp
  exact h p (List.mem_filter.mp this).1
theorem key_add {a b : Bag} (h : KeyB a) (h2 : KeyB b) : KeyB (addB a b) := key_canon (key_fold h h2)
theorem key_sub {a b : Bag} (h : KeyB a) (h2 : KeyB b) : KeyB (subB a b) := key_canon (key_fold h h2)
theorem key_drop {b : Bag} {l : Int} (h : KeyB b) : KeyB (dropB l b) := fun p hp => by
  obtain ⟨q, hq, e⟩ := dropB_keys l b p hp
  rw [← e]
  exact h q hq
def BIG : Int := 2 ^ 400000
structure Em (e : Ef) (B : Int) : Prop where
  ok : e.Ok
  ki : KeyB e.I
  ks : KeyB e.S
  ti : tot e.I ≤ B
  rb : e.r ≤ B
section
variable {e f : Ef} {B C : Int}
theorem Em.mono (h : Em e B) (l : B ≤ C) : Em e C := ⟨h.ok, h.ki, h.ks, Int.le_trans h.ti l, Int.le_trans h.rb l⟩
theorem Em.b0 (h : Em e B) : 0 ≤ B := Int.le_trans h.ok.r0 h.rb
theorem Em.li (h : Em e B) : e.I.length ≤ 1800001 := key_len h.ok.vi h.ki
theorem Em.ls (h : Em e B) : e.S.length ≤ 1800001 := key_len h.ok.vs h.ks
theorem Em.kc (h : Em e B) : KeyB e.C := key_sub h.ki h.ks
theorem Em.join (he : Em e B) (hf : Em f C) : Em (joinE e f) (B + C) := by
  have h1 := he.ti; have h2 := he.rb; have h3 := hf.ti; have h4 := hf.rb
  refine ⟨joinE_ok he.ok hf.ok, key_add he.ki hf.ki, key_add hf.ks (key_drop (key_add he.ks hf.kc)), ?_, ?_⟩
  · show tot (addB e.I f.I) ≤ _
    rw [tot_add he.ok.vi hf.ok.vi]; omega
  · show e.r + f.r ≤ _
    omega
end
end HL

namespace HL
open PySem DL
variable [Ctr]
section
variable {e f : Ef} {B C : Int} {M : Mem} {b : Bag} {P : D → Mem → Prop} {W : Wi} {env : DL.Env}
instance : DecidableEq Ef := fun a b => by
  cases a; cases b
  simp only [Ef.mk.injEq]
  exact inferInstance
end
end HL

namespace HL
open PySem DL
variable [Ctr]
theorem all_set {M : Mem} {l : Nat} {ob : Ob} (h : M.all pureOb = true) (ho : pureOb ob = true) : (M.set l ob).all pureOb = true := by
  rw [List.all_eq_true] at h ⊢
  intro x hx
  rcases List.mem_or_eq_of_mem_set hx with q | rfl
  · exact h x q
  · exact ho
theorem c11 {i j : Int} (h : -(2 ^ 64) < i ∧ i < 2 ^ 64) : cMul i j = true := by
  unfold cMul
  rw [decide_eq_true (Or.inl h)]
  rfl
theorem c12 {i j : Int} (h : -(2 ^ 64) < j ∧ j < 2 ^ 64) : cMul i j = true := by
  unfold cMul
  rw [decide_eq_true (Or.inr h)]
  rfl
theorem cdv {i m : Int} (h : 0 < m) (h2 : m ≤ 1000000000000000000000000000001) : cDivW i m = true := by
  unfold cDivW
  refine decide_eq_true ⟨h, ?_⟩
  have hne : m.natAbs ≠ 0 := by omega
  refine (Nat.log2_lt hne).mpr (Nat.lt_of_lt_of_le (m := 2 ^ 100) ?_ (Nat.pow_le_pow_right (by decide) (by decide)))
  show m.natAbs < 1267650600228229401496703205376
  omega
theorem w_set2 {l : Nat} {i : Int} {j : Nat} {fo fi : Ev} {v : D} {xs : List D} {env : DL.Env} {M : Mem} {W : Wi} (h1 : fo env M = .ok (.ref l) M) (h2 : fi env M = .ok (.int i) M) (hl : M[l]? = some (.lst xs)) (hi : L2.ixN xs.length i = some j) : wS (gSub fo fi v env M) W = W.nx env (M.set l (.lst (xs.set j v))) := by
  unfold gSub
  simp only [h1, h2, hl, hi]
  rfl
theorem sp_draw {l : Nat} {M : Mem} {m x0 x1 : Int} {P : D → Mem → Prop} (hl : M[l]? = some (.lst [.int x0, .int x1])) (hx : 0 ≤ x0) (hm : 0 < m) (hm2 : m ≤ 1000000000000000000000000000001) (hp : M.all pureOb = true)
    (hP : ∀ r y0 y1, 0 ≤ r → r < m → 0 ≤ y0 → P (.int r) (M.set l (.lst [.int y0, .int y1]))) : wO (callF F_q_draw [.ref l, .int m] M) P := by
  refine w_callM rfl ?_
  have hlt : l < M.length := (List.getElem?_eq_some_iff.mp hl).1
  have fin : ∀ r y0 y1 : Int, 0 ≤ r → r < m → 0 ≤ y0 → pureD (.int r) = true ∧ ((M.set l (.lst [.int y0, .int y1])).take M.length).all pureOb = true ∧ P (.int r) ((M.set l (.lst [.int y0, .int y1])).take M.length) := fun r y0 y1 a b c => by
    have e : (M.set l (.lst [.int y0, .int y1])).take M.length = M.set l (.lst [.int y0, .int y1]) := List.take_of_length_le (by simp)
    rw [e]
    exact ⟨rfl, all_set hp rfl, hP r y0 y1 a b c⟩
  simp only [F_q_draw, c_q_draw, c_q_draw_1, c_q_draw_2, c_q_draw_3, c_q_draw_4, w_defn1, w_defn2, w_defn3, w_defn4, w_defn5, w_seq, w_snil, w_asg, w_expr, w_ret, w_retN, w_brk, w_cont, w_sif, ifB_bl, notB_bl, w_gN, w_par, w_par3, w_gsNil, w_gsCons, w_gT2, w_gT3, w_gTi2, w_var0, w_varS, w_c, w_nil, w_cons, w_tup, w_lst, w_new, w_newD, w_op, w_gI, w_add, w_chain, w_not, w_and, w_or, w_if, w_call, w_fn, w_fnN, w_make, w_neg, w_negI, w_t20, w_t21, w_t30, w_t31, w_t32, w_min2, w_max2, w_lenT, w_for, w_iA, wO_ok, w_cmt, List.map, List.replicate, List.set, List.append, wipeE, decide_eq_true_eq, Bool.not_true, Bool.not_false, Bool.false_eq_true, if_true, if_false, Bool.not_eq_true, decide_eq_false_iff_not, Bool.true_eq_false, reduceIte, decide_true, decide_false, Nat.reduceSub, Nat.add_zero]
  rw [w_ixR (d := .int x0) hl rfl]
  simp only [w_gI, ifB_bl, decide_eq_true_eq]
  by_cases h0 : x0 > 0
  · rw [if_pos h0]
    try simp only [w_defn1, w_defn2, w_defn3, w_defn4, w_defn5, w_seq, w_snil, w_asg, w_expr, w_ret, w_retN, w_brk, w_cont, w_sif, ifB_bl, notB_bl, w_gN, w_par, w_par3, w_gsNil, w_gsCons, w_gT2, w_gT3, w_gTi2, w_var0, w_varS, w_c, w_nil, w_cons, w_tup, w_lst, w_new, w_newD, w_op, w_gI, w_add, w_chain, w_not, w_and, w_or, w_if, w_call, w_fn, w_fnN, w_make, w_neg, w_negI, w_t20, w_t21, w_t30, w_t31, w_t32, w_min2, w_max2, w_lenT, w_for, w_iA, wO_ok, w_cmt, List.map, List.replicate, List.set, List.append, wipeE, decide_eq_true_eq, Bool.not_true, Bool.not_false, Bool.false_eq_true, if_true, if_false, Bool.not_eq_true, decide_eq_false_iff_not, Bool.true_eq_false, reduceIte, decide_true, decide_false, Nat.reduceSub, Nat.add_zero]
    rw [w_ixR (d := .int x0) hl rfl]
    simp only [w_defn1, w_defn2, w_defn3, w_defn4, w_defn5, w_seq, w_snil, w_asg, w_expr, w_ret, w_retN, w_brk, w_cont, w_sif, ifB_bl, notB_bl, w_gN, w_par, w_par3, w_gsNil, w_gsCons, w_gT2, w_gT3, w_gTi2, w_var0, w_varS, w_c, w_nil, w_cons, w_tup, w_lst, w_new, w_newD, w_op, w_gI, w_add, w_chain, w_not, w_and, w_or, w_if, w_call, w_fn, w_fnN, w_make, w_neg, w_negI, w_t20, w_t21, w_t30, w_t31, w_t32, w_min2, w_max2, w_lenT, w_for, w_iA, wO_ok, w_cmt, List.map, List.replicate, List.set, List.append, wipeE, decide_eq_true_eq, Bool.not_true, Bool.not_false, Bool.false_eq_true, if_true, if_false, Bool.not_eq_true, decide_eq_false_iff_not, Bool.true_eq_false, reduceIte, decide_true, decide_false, Nat.reduceSub, Nat.add_zero, w_gInt]
    refine ⟨decide_eq_true hm, ?_⟩
    rw [w_ixR (d := .int x0) hl rfl]
    simp only [w_gInt, w_defn1, w_defn2, w_defn3, w_defn4, w_defn5, w_seq, w_snil, w_asg, w_expr, w_ret, w_retN, w_brk, w_cont, w_sif, ifB_bl, notB_bl, w_gN, w_par, w_par3, w_gsNil, w_gsCons, w_gT2, w_gT3, w_gTi2, w_var0, w_varS, w_c, w_nil, w_cons, w_tup, w_lst, w_new, w_newD, w_op, w_gI, w_add, w_chain, w_not, w_and, w_or, w_if, w_call, w_fn, w_fnN, w_make, w_neg, w_negI, w_t20, w_t21, w_t30, w_t31, w_t32, w_min2, w_max2, w_lenT, w_for, w_iA, wO_ok, w_cmt, List.map, List.replicate, List.set, List.append, wipeE, decide_eq_true_eq, Bool.not_true, Bool.not_false, Bool.false_eq_true, if_true, if_false, Bool.not_eq_true, decide_eq_false_iff_not, Bool.true_eq_false, reduceIte, decide_true, decide_false, Nat.reduceSub, Nat.add_zero]
    refine ⟨cdv hm hm2, ?_⟩
    rw [w_set2 (l := l) (i := 0) (j := 0) rfl rfl hl rfl]
    simp only [w_defn1, w_defn2, w_defn3, w_defn4, w_defn5, w_seq, w_snil, w_asg, w_expr, w_ret, w_retN, w_brk, w_cont, w_sif, ifB_bl, notB_bl, w_gN, w_par, w_par3, w_gsNil, w_gsCons, w_gT2, w_gT3, w_gTi2, w_var0, w_varS, w_c, w_nil, w_cons, w_tup, w_lst, w_new, w_newD, w_op, w_gI, w_add, w_chain, w_not, w_and, w_or, w_if, w_call, w_fn, w_fnN, w_make, w_neg, w_negI, w_t20, w_t21, w_t30, w_t31, w_t32, w_min2, w_max2, w_lenT, w_for, w_iA, wO_ok, w_cmt, List.map, List.replicate, List.set, List.append, wipeE, decide_eq_true_eq, Bool.not_true, Bool.not_false, Bool.false_eq_true, if_true, if_false, Bool.not_eq_true, decide_eq_false_iff_not, Bool.true_eq_false, reduceIte, decide_true, decide_false, Nat.reduceSub, Nat.add_zero]
    exact fin _ _ _ (Int.emod_nonneg _ (by omega)) (Int.emod_lt_of_pos _ hm) (Int.ediv_nonneg hx (by omega))
  · rw [if_neg h0]
    try simp only [w_defn1, w_defn2, w_defn3, w_defn4, w_defn5, w_seq, w_snil, w_asg, w_expr, w_ret, w_retN, w_brk, w_cont, w_sif, ifB_bl, notB_bl, w_gN, w_par, w_par3, w_gsNil, w_gsCons, w_gT2, w_gT3, w_gTi2, w_var0, w_varS, w_c, w_nil, w_cons, w_tup, w_lst, w_new, w_newD, w_op, w_gI, w_add, w_chain, w_not, w_and, w_or, w_if, w_call, w_fn, w_fnN, w_make, w_neg, w_negI, w_t20, w_t21, w_t30, w_t31, w_t32, w_min2, w_max2, w_lenT, w_for, w_iA, wO_ok, w_cmt, List.map, List.replicate, List.set, List.append, wipeE, decide_eq_true_eq, Bool.not_true, Bool.not_false, Bool.false_eq_true, if_true, if_false, Bool.not_eq_true, decide_eq_false_iff_not, Bool.true_eq_false, reduceIte, decide_true, decide_false, Nat.reduceSub, Nat.add_zero]
    rw [w_ixR (d := .int x1) hl rfl]
    rw [w_mul (c12 ⟨by decide, by decide⟩)]
    simp only [w_defn1, w_defn2, w_defn3, w_defn4, w_defn5, w_seq, w_snil, w_asg, w_expr, w_ret, w_retN, w_brk, w_cont, w_sif, ifB_bl, notB_bl, w_gN, w_par, w_par3, w_gsNil, w_gsCons, w_gT2, w_gT3, w_gTi2, w_var0, w_varS, w_c, w_nil, w_cons, w_tup, w_lst, w_new, w_newD, w_op, w_gI, w_add, w_chain, w_not, w_and, w_or, w_if, w_call, w_fn, w_fnN, w_make, w_neg, w_negI, w_t20, w_t21, w_t30, w_t31, w_t32, w_min2, w_max2, w_lenT, w_for, w_iA, wO_ok, w_cmt, List.map, List.replicate, List.set, List.append, wipeE, decide_eq_true_eq, Bool.not_true, Bool.not_false, Bool.false_eq_true, if_true, if_false, Bool.not_eq_true, decide_eq_false_iff_not, Bool.true_eq_false, reduceIte, decide_true, decide_false, Nat.reduceSub, Nat.add_zero, w_gInt]
    refine ⟨rfl, ?_⟩
    rw [w_set2 (l := l) (i := 1) (j := 1) rfl rfl hl rfl]
    simp only [List.set]
    generalize hy : (x1 * 48271 + 11) % 2147483647 = y
    have y0 : 0 ≤ y := by rw [← hy]; exact Int.emod_nonneg _ (by decide)
    have y1 : y < 2147483647 := by rw [← hy]; exact Int.emod_lt_of_pos _ (by decide)
    have hl2 : (M.set l (.lst [.int x0, .int y]))[l]? = some (.lst [.int x0, .int y]) := List.getElem?_set_self hlt
    simp only [w_defn1, w_defn2, w_defn3, w_defn4, w_defn5, w_seq, w_snil, w_asg, w_expr, w_ret, w_retN, w_brk, w_cont, w_sif, ifB_bl, notB_bl, w_gN, w_par, w_par3, w_gsNil, w_gsCons, w_gT2, w_gT3, w_gTi2, w_var0, w_varS, w_c, w_nil, w_cons, w_tup, w_lst, w_new, w_newD, w_op, w_gI, w_add, w_chain, w_not, w_and, w_or, w_if, w_call, w_fn, w_fnN, w_make, w_neg, w_negI, w_t20, w_t21, w_t30, w_t31, w_t32, w_min2, w_max2, w_lenT, w_for, w_iA, wO_ok, w_cmt, List.map, List.replicate, List.set, List.append, wipeE, decide_eq_true_eq, Bool.not_true, Bool.not_false, Bool.false_eq_true, if_true, if_false, Bool.not_eq_true, decide_eq_false_iff_not, Bool.true_eq_false, reduceIte, decide_true, decide_false, Nat.reduceSub, Nat.add_zero]
    rw [w_ixR (d := .int y) hl2 rfl]
    try simp only [w_defn1, w_defn2, w_defn3, w_defn4, w_defn5, w_seq, w_snil, w_asg, w_expr, w_ret, w_retN, w_brk, w_cont, w_sif, ifB_bl, notB_bl, w_gN, w_par, w_par3, w_gsNil, w_gsCons, w_gT2, w_gT3, w_gTi2, w_var0, w_varS, w_c, w_nil, w_cons, w_tup, w_lst, w_new, w_newD, w_op, w_gI, w_add, w_chain, w_not, w_and, w_or, w_if, w_call, w_fn, w_fnN, w_make, w_neg, w_negI, w_t20, w_t21, w_t30, w_t31, w_t32, w_min2, w_max2, w_lenT, w_for, w_iA, wO_ok, w_cmt, List.map, List.replicate, List.set, List.append, wipeE, decide_eq_true_eq, Bool.not_true, Bool.not_false, Bool.false_eq_true, if_true, if_false, Bool.not_eq_true, decide_eq_false_iff_not, Bool.true_eq_false, reduceIte, decide_true, decide_false, Nat.reduceSub, Nat.add_zero]
    try rw [w_ixR (d := .int y) hl2 rfl]
    rw [w_mul (c12 ⟨by omega, by omega⟩)]
    simp only [w_defn1, w_defn2, w_defn3, w_defn4, w_defn5, w_seq, w_snil, w_asg, w_expr, w_ret, w_retN, w_brk, w_cont, w_sif, ifB_bl, notB_bl, w_gN, w_par, w_par3, w_gsNil, w_gsCons, w_gT2, w_gT3, w_gTi2, w_var0, w_varS, w_c, w_nil, w_cons, w_tup, w_lst, w_new, w_newD, w_op, w_gI, w_add, w_chain, w_not, w_and, w_or, w_if, w_call, w_fn, w_fnN, w_make, w_neg, w_negI, w_t20, w_t21, w_t30, w_t31, w_t32, w_min2, w_max2, w_lenT, w_for, w_iA, wO_ok, w_cmt, List.map, List.replicate, List.set, List.append, wipeE, decide_eq_true_eq, Bool.not_true, Bool.not_false, Bool.false_eq_true, if_true, if_false, Bool.not_eq_true, decide_eq_false_iff_not, Bool.true_eq_false, reduceIte, decide_true, decide_false, Nat.reduceSub, Nat.add_zero, w_gInt]
    refine ⟨rfl, cdv (by decide) (by decide), decide_eq_true hm, ?_⟩
    exact fin _ _ _ (Int.emod_nonneg _ (by omega)) (Int.emod_lt_of_pos _ hm) hx

theorem w_sl {xs : List D} {n : Int} {fa : Ev} {env : DL.Env} {M : Mem} {P : D → Mem → Prop} (h : fa env M = .ok (.fzl xs) M) : wO (eSl fa oNone (oSome (eC (.int n))) env M) P = P (.lst (cutD xs none (some n))) M := by
  unfold eSl
  rw [h]
  rfl
theorem cut_int (ns : List Int) (lo hi : Option Int) : ∃ ms : List Int, cutD (ns.map D.int) lo hi = ms.map D.int := by
  unfold cutD
  exact ⟨(ns.drop _).take _, by rw [List.map_take, List.map_drop]⟩
theorem w_lenF {xs : List D} {M : Mem} {P : D → Mem → Prop} : wO (nLen [.fzl xs] M) P = P (.int xs.length) M := rfl
theorem w_ixF {xs : List D} {i : Int} {d : D} {M : Mem} {P : D → Mem → Prop} (ha : L2.atI xs i = some d) : wO (gIx (.fzl xs) (.int i) M) P = P d M := by
  unfold gIx
  have : seqD M (.fzl xs) = some xs := rfl
  simp only [this, ha]
  rfl
theorem w_abs {i : Int} {M : Mem} {P : D → Mem → Prop} : wO (nAbs [.int i] M) P = P (.int (if i < 0 then -i else i)) M := rfl
theorem w_intB {b : Bool} {M : Mem} {P : D → Mem → Prop} : wO (nInt [.bl b] M) P = P (.int (if b then 1 else 0)) M := rfl
theorem sp_pool_ {ns : List Int} {k : Int} {M : Mem} {P : D → Mem → Prop} (h0 : 0 ≤ k) (h1 : k ≤ 63) (hP : ∀ x0 x1, 0 ≤ x0 → P (.ref M.length) (M ++ [.lst [.int x0, .int x1]])) : wO (newF F_q_pool [.fzl (ns.map .int), .int k] M) P := by
  have hpi : ∀ ns : List Int, puresD (ns.map D.int) = true := fun ns => by
    induction ns with
    | nil => rfl
    | cons n ns ih => show (pureD (.int n) && puresD (ns.map D.int)) = true; rw [ih]; rfl
  refine w_newF (by show (puresD (ns.map D.int) && _) = true; rw [hpi]; rfl) ?_
  obtain ⟨ms, hms⟩ := cut_int ns none (some 63)
  have rest : ∀ cell : Int, wS (c_q_pool_3 [some (.fzl (ns.map D.int)), some (.int k), some (.int cell), none, none] []) { nx := fun _ M1 => ∃ l ob, D.non = .ref l ∧ M1[l]? = some ob ∧ pureOb ob = true ∧ P (.ref M.length) (M ++ [ob]), rt := fun d M1 => ∃ l ob, d = .ref l ∧ M1[l]? = some ob ∧ pureOb ob = true ∧ P (.ref M.length) (M ++ [ob]) } := by
    intro cell
    simp only [c_q_pool_3, c_q_pool_2, c_q_pool_1, w_defn1, w_defn2, w_defn3, w_defn4, w_defn5, w_seq, w_snil, w_asg, w_expr, w_ret, w_retN, w_brk, w_cont, w_sif, ifB_bl, notB_bl, w_gN, w_par, w_par3, w_gsNil, w_gsCons, w_gT2, w_gT3, w_gTi2, w_var0, w_varS, w_c, w_nil, w_cons, w_tup, w_lst, w_new, w_newD, w_op, w_gI, w_add, w_chain, w_not, w_and, w_or, w_if, w_call, w_fn, w_fnN, w_make, w_neg, w_negI, w_t20, w_t21, w_t30, w_t31, w_t32, w_min2, w_max2, w_lenT, w_for, w_iA, wO_ok, w_cmt, List.map, List.replicate, List.set, List.append, wipeE, decide_eq_true_eq, Bool.not_true, Bool.not_false, Bool.false_eq_true, if_true, if_false, Bool.not_eq_true, decide_eq_false_iff_not, Bool.true_eq_false, reduceIte, decide_true, decide_false, Nat.reduceSub, Nat.add_zero, w_abs, w_gInt]
    generalize hg : (if cell < 0 then -cell else cell) = g
    have g0 : 0 ≤ g := by rw [← hg]; split <;> omega
    refine ⟨rfl, ?_⟩
    rw [w_mul (c11 ⟨by decide, by decide⟩), w_mul (c12 ⟨by omega, by omega⟩)]
    simp only [w_add]
    rw [w_mul (c11 ⟨by decide, by decide⟩)]
    simp only [w_add]
    rw [w_mul (c12 ⟨by decide, by decide⟩)]
    simp only [w_defn1, w_defn2, w_defn3, w_defn4, w_defn5, w_seq, w_snil, w_asg, w_expr, w_ret, w_retN, w_brk, w_cont, w_sif, ifB_bl, notB_bl, w_gN, w_par, w_par3, w_gsNil, w_gsCons, w_gT2, w_gT3, w_gTi2, w_var0, w_varS, w_c, w_nil, w_cons, w_tup, w_lst, w_new, w_newD, w_op, w_gI, w_add, w_chain, w_not, w_and, w_or, w_if, w_call, w_fn, w_fnN, w_make, w_neg, w_negI, w_t20, w_t21, w_t30, w_t31, w_t32, w_min2, w_max2, w_lenT, w_for, w_iA, wO_ok, w_cmt, List.map, List.replicate, List.set, List.append, wipeE, decide_eq_true_eq, Bool.not_true, Bool.not_false, Bool.false_eq_true, if_true, if_false, Bool.not_eq_true, decide_eq_false_iff_not, Bool.true_eq_false, reduceIte, decide_true, decide_false, Nat.reduceSub, Nat.add_zero, w_gInt]
    refine ⟨rfl, ?_⟩
    refine ⟨rfl, ?_⟩
    simp only [w_defn1, w_defn2, w_defn3, w_defn4, w_defn5, w_seq, w_snil, w_asg, w_expr, w_ret, w_retN, w_brk, w_cont, w_sif, ifB_bl, notB_bl, w_gN, w_par, w_par3, w_gsNil, w_gsCons, w_gT2, w_gT3, w_gTi2, w_var0, w_varS, w_c, w_nil, w_cons, w_tup, w_lst, w_new, w_newD, w_op, w_gI, w_add, w_chain, w_not, w_and, w_or, w_if, w_call, w_fn, w_fnN, w_make, w_neg, w_negI, w_t20, w_t21, w_t30, w_t31, w_t32, w_min2, w_max2, w_lenT, w_for, w_iA, wO_ok, w_cmt, List.map, List.replicate, List.set, List.append, wipeE, decide_eq_true_eq, Bool.not_true, Bool.not_false, Bool.false_eq_true, if_true, if_false, Bool.not_eq_true, decide_eq_false_iff_not, Bool.true_eq_false, reduceIte, decide_true, decide_false, Nat.reduceSub, Nat.add_zero, w_intB, decide_eq_true_eq]
    generalize hb : (if (10 : Int) ^ Int.toNat 18 ≤ g then (1 : Int) else 0) = b
    have hb1 : 0 ≤ b ∧ b ≤ 1 := by rw [← hb]; split <;> omega
    generalize hy : (g % 2147483629 + 7919 * k * k + 31 * k + 17) * 48271 % 2147483647 = y
    have y0 : 0 ≤ y := by rw [← hy]; exact Int.emod_nonneg _ (by decide)
    have y1 : y < 2147483647 := by rw [← hy]; exact Int.emod_lt_of_pos _ (by decide)
    rw [w_mul (c12 ⟨by omega, by omega⟩), w_mul (c12 ⟨by omega, by omega⟩)]
    simp only [w_defn1, w_defn2, w_defn3, w_defn4, w_defn5, w_seq, w_snil, w_asg, w_expr, w_ret, w_retN, w_brk, w_cont, w_sif, ifB_bl, notB_bl, w_gN, w_par, w_par3, w_gsNil, w_gsCons, w_gT2, w_gT3, w_gTi2, w_var0, w_varS, w_c, w_nil, w_cons, w_tup, w_lst, w_new, w_newD, w_op, w_gI, w_add, w_chain, w_not, w_and, w_or, w_if, w_call, w_fn, w_fnN, w_make, w_neg, w_negI, w_t20, w_t21, w_t30, w_t31, w_t32, w_min2, w_max2, w_lenT, w_for, w_iA, wO_ok, w_cmt, List.map, List.replicate, List.set, List.append, wipeE, decide_eq_true_eq, Bool.not_true, Bool.not_false, Bool.false_eq_true, if_true, if_false, Bool.not_eq_true, decide_eq_false_iff_not, Bool.true_eq_false, reduceIte, decide_true, decide_false, Nat.reduceSub, Nat.add_zero, w_gInt]
    exact ⟨rfl, 0, _, rfl, rfl, rfl, hP _ _ (Int.mul_nonneg g0 hb1.1)⟩
  simp only [F_q_pool, c_q_pool, c_q_pool_4, w_defn1, w_defn2, w_defn3, w_defn4, w_defn5, w_seq, w_snil, w_asg, w_expr, w_ret, w_retN, w_brk, w_cont, w_sif, ifB_bl, notB_bl, w_gN, w_par, w_par3, w_gsNil, w_gsCons, w_gT2, w_gT3, w_gTi2, w_var0, w_varS, w_c, w_nil, w_cons, w_tup, w_lst, w_new, w_newD, w_op, w_gI, w_add, w_chain, w_not, w_and, w_or, w_if, w_call, w_fn, w_fnN, w_make, w_neg, w_negI, w_t20, w_t21, w_t30, w_t31, w_t32, w_min2, w_max2, w_lenT, w_for, w_iA, wO_ok, w_cmt, List.map, List.replicate, List.set, List.append, wipeE, decide_eq_true_eq, Bool.not_true, Bool.not_false, Bool.false_eq_true, if_true, if_false, Bool.not_eq_true, decide_eq_false_iff_not, Bool.true_eq_false, reduceIte, decide_true, decide_false, Nat.reduceSub, Nat.add_zero]
  rw [w_sl (xs := ns.map D.int) rfl, hms, w_sumL, w_mul (c11 ⟨by decide, by decide⟩)]
  simp only [w_defn1, w_defn2, w_defn3, w_defn4, w_defn5, w_seq, w_snil, w_asg, w_expr, w_ret, w_retN, w_brk, w_cont, w_sif, ifB_bl, notB_bl, w_gN, w_par, w_par3, w_gsNil, w_gsCons, w_gT2, w_gT3, w_gTi2, w_var0, w_varS, w_c, w_nil, w_cons, w_tup, w_lst, w_new, w_newD, w_op, w_gI, w_add, w_chain, w_not, w_and, w_or, w_if, w_call, w_fn, w_fnN, w_make, w_neg, w_negI, w_t20, w_t21, w_t30, w_t31, w_t32, w_min2, w_max2, w_lenT, w_for, w_iA, wO_ok, w_cmt, List.map, List.replicate, List.set, List.append, wipeE, decide_eq_true_eq, Bool.not_true, Bool.not_false, Bool.false_eq_true, if_true, if_false, Bool.not_eq_true, decide_eq_false_iff_not, Bool.true_eq_false, reduceIte, decide_true, decide_false, Nat.reduceSub, Nat.add_zero, w_lenF]
  by_cases hk : k < ((ns.map D.int).length : Int)
  · rw [if_pos hk]
    have hk2 : k.toNat < ns.length := by simp at hk; omega
    rw [w_ixF (d := .int ns[k.toNat]) (by
      unfold L2.atI L2.ixN
      rw [if_pos h0, if_pos hk]
      show (ns.map D.int)[k.toNat]? = _
      rw [List.getElem?_map, List.getElem?_eq_getElem hk2]
      rfl)]
    exact rest ns[k.toNat]
  · rw [if_neg hk]
    exact rest (11 * ms.sum + k)
def StP (l : Nat) (M : Mem) : Prop := (∃ x0 x1 : Int, 0 ≤ x0 ∧ M[l]? = some (.lst [.int x0, .int x1])) ∧ M.all pureOb = true
def Nxt (l : Nat) (M M' : Mem) : Prop := StP l M' ∧ M'.length = M.length ∧ ∀ j, j ≠ l → M'[j]? = M[j]?
theorem Nxt.trans {l : Nat} {M M1 M2 : Mem} (a : Nxt l M M1) (b : Nxt l M1 M2) : Nxt l M M2 := ⟨b.1, b.2.1.trans a.2.1, fun j h => (b.2.2 j h).trans (a.2.2 j h)⟩
theorem sp_drawS {l : Nat} {M : Mem} {m : Int} {P : D → Mem → Prop} (h : StP l M) (hm : 0 < m) (hm2 : m ≤ 1000000000000000000000000000001) (hP : ∀ r M', 0 ≤ r → r < m → Nxt l M M' → P (.int r) M') : wO (callF F_q_draw [.ref l, .int m] M) P := by
  obtain ⟨⟨x0, x1, hx, hl⟩, hp⟩ := h
  have hlt : l < M.length := (List.getElem?_eq_some_iff.mp hl).1
  refine sp_draw hl hx hm hm2 hp fun r y0 y1 a b c => hP _ _ a b ⟨⟨⟨y0, y1, c, List.getElem?_set_self hlt⟩, all_set hp rfl⟩, by simp, fun j h => List.getElem?_set_ne (Ne.symm h)⟩
abbrev Tri := Int × Int × Int
structure TriOk (T : List Tri) (i : Nat) : Prop where
  len : T.length = i
  key : ∀ (j : Nat) t, T[j]? = some t → t.1 = -3 + (j : Int)
  bnd : ∀ t ∈ T, 0 ≤ t.2.2 ∧ t.2.2 ≤ t.2.1 ∧ t.2.1 ≤ 1000000000000000000000000000000
theorem TriOk.snoc {T : List Tri} {i : Nat} (h : TriOk T i) {m s : Int} (h0 : 0 ≤ s) (h1 : s ≤ m) (h2 : m ≤ 1000000000000000000000000000000) : TriOk (T ++ [(-3 + (i : Int), m, s)]) (i + 1) := by
  refine ⟨by simp [h.len], fun j t hj => ?_, fun t ht => ?_⟩
  · by_cases e : j < T.length
    · rw [List.getElem?_append_left e] at hj
      exact h.key j t hj
    · have : j = T.length := by
        have := (List.getElem?_eq_some_iff.mp hj).1
        simp at this
        omega
      subst this
      rw [List.getElem?_concat_length] at hj
      cases hj
      rw [h.len]
  · rcases List.mem_append.mp ht with q | q
    · exact h.bnd t q
    · obtain rfl := List.mem_singleton.mp q
      exact ⟨h0, h1, h2⟩
theorem range_at {lo : Int} {n i : Nat} {d : D} (h : (rangeD lo n)[i]? = some d) : i < n ∧ d = .int (lo + (i : Int)) := by
  unfold rangeD at h
  rw [List.getElem?_map] at h
  cases q : (List.range n)[i]? with
  | none => rw [q] at h; cases h
  | some j =>
    rw [q] at h
    cases h
    obtain ⟨h1, h2⟩ := List.getElem?_eq_some_iff.mp q
    simp at h1 h2
    subst h2
    exact ⟨h1, rfl⟩
section
variable [Zero0]
end
end HL

namespace HL
open PySem DL
variable [Ctr]
def r1W (d : D) (M : Mem) (P : List D → (Mem → Bool) → Mem → Prop) : Prop := match d with
  | .int j => inB j = true ∧ P (rangeD 0 j.toNat) cYes M
  | _ => False
theorem w_iR1 {f : Ev} {env : DL.Env} {M : Mem} {P : List D → (Mem → Bool) → Mem → Prop} : wI (iR1 f env M) P = wO (f env M) fun d M => r1W d M P := by
  unfold iR1
  rw [wI_bind]
  congr
  funext d M
  cases d with
  | int j =>
    simp only [r1W]
    by_cases h : inB j = true
    · rw [if_pos h]; simp [h, wI]
    · rw [if_neg h]; simp [h, wI]
  | _ => rfl
theorem w_r1I {j : Int} {M : Mem} {P : List D → (Mem → Bool) → Mem → Prop} : r1W (.int j) M P = (inB j = true ∧ P (rangeD 0 j.toNat) cYes M) := rfl
theorem inB_of {j : Int} (h : -1000000 ≤ j) (h2 : j ≤ 1000000) : inB j = true := decide_eq_true (p := -(2 ^ 62) ≤ j ∧ j < 2 ^ 62) (by omega)
theorem turns (n : Nat) (k : Int) (h : n ≤ 63) (k1 : 1 ≤ k) (hk : k ≤ 63) : inB (max 1 (min (n : Int) k)) = true ∧ ((max 1 (min (n : Int) k)).toNat : Int) ≤ k := ⟨inB_of (by omega) (by omega), by omega⟩
section
variable {a b : Bag} {M : Mem} {P : D → Mem → Prop}
theorem add_assoc {c : Bag} (ha : Val a) (hb : Val b) (hc : Val c) : addB (addB a b) c = addB a (addB b c) := bag_ext (val_add (val_add ha b) c) (val_add ha _) fun x => by
  rw [cum_add (val_add ha b) hc, cum_add ha hb, cum_add ha (val_add hb c), cum_add hb hc]; omega
end
end HL

namespace HL
open PySem DL
variable [Ctr]
section
variable {a b : Bag} {M : Mem} {P : D → Mem → Prop} {e : Ef} {B : Int}
end
end HL

namespace HL
open PySem DL
variable [Ctr]
inductive Stp where
  | ins (n c : Int)
  | rem (c : Int)
  | rep (c : Int) (p : List Stp)
abbrev Prg := List Stp
mutual
def stpD : Stp → D
  | .ins n c => .tup [.str "insert", .int n, .int c]
  | .rem c => .tup [.str "remove", .int c]
  | .rep c p => .tup [.str "repeat", .int c, .tup (prgDs p)]
def prgDs : Prg → List D
  | [] => []
  | s :: p => stpD s :: prgDs p
end
mutual
def nestS : Stp → Nat
  | .ins _ _ => 0
  | .rem _ => 0
  | .rep _ p => nestP p + 1
def nestP : Prg → Nat
  | [] => 0
  | s :: p => max (nestS s) (nestP p)
end
mutual
def bndS : Stp → Int
  | .ins _ c => c
  | .rem c => c
  | .rep c p => bndP p * c
def bndP : Prg → Int
  | [] => 0
  | s :: p => bndS s + bndP p
end
mutual
def stpE : Stp → Ef
  | .ins n c => ⟨scaleB [(n, 1)] c, 0, scaleB [(n, 1)] c⟩
  | .rem c => ⟨[], c, []⟩
  | .rep c p => powE (prgF idE p) c
def prgF : Ef → Prg → Ef
  | a, [] => a
  | a, s :: p => prgF (joinE a (stpE s)) p
end
mutual
def okS : Stp → Prop
  | .ins n c => Near n ∧ 0 ≤ c ∧ c < BIG
  | .rem c => 0 ≤ c
  | .rep c p => (0 ≤ c ∧ c < BIG) ∧ bndP p < BIG ∧ okP p
def okP : Prg → Prop
  | [] => True
  | s :: p => okS s ∧ okP p
end
section
variable {Q : Stp → Prop} (hi : ∀ n c, Q (.ins n c)) (hr : ∀ c, Q (.rem c)) (hp : ∀ c p, (∀ s ∈ p, Q s) → Q (.rep c p))
include hi hr hp
mutual
theorem stp_ind : ∀ s, Q s
  | .ins n c => hi n c
  | .rem c => hr c
  | .rep c p => hp c p (stp_inds p)
theorem stp_inds : ∀ (p : Prg), ∀ s ∈ p, Q s
  | [], _, h => by cases h
  | s :: p, t, h => by
    rcases List.mem_cons.1 h with e | h
    · rw [e]; exact stp_ind s
    · exact stp_inds p t h
end
end
end HL

namespace HL
open PySem DL
variable [Ctr]
section
variable {env : DL.Env} {M : Mem} {W : Wi} {P : D → Mem → Prop} {d : D} {xs : List D}
theorem enum_at {i : Nat} (h : (enumD xs)[i]? = some d) : ∃ x, xs[i]? = some x ∧ d = .itm [.int (i : Nat), x] := by
  unfold enumD at h
  rw [List.getElem?_zipWith] at h
  cases q : xs[i]? with
  | none => rw [q] at h; cases e : (List.range xs.length)[i]? <;> rw [e] at h <;> cases h
  | some x =>
    have hi := (List.getElem?_eq_some_iff.mp q).1
    rw [q, List.getElem?_range hi] at h
    cases h
    exact ⟨x, rfl, rfl⟩
def enW (d : D) (M : Mem) (P : List D → (Mem → Bool) → Mem → Prop) : Prop := wI (match d with
  | .tup xs => .ok (enumD xs) cYes M
  | .itm xs => .ok (enumD xs) cYes M
  | d => match derefL M d with
    | some xs => .ok (enumD xs) (chkL d xs) M
    | none => .st) P
theorem w_iEnA {f : Ev} {P : List D → (Mem → Bool) → Mem → Prop} : wI (iEnA f env M) P = wO (f env M) fun d M => enW d M P := by
  unfold iEnA
  rw [wI_bind]
  rfl
end
end HL

namespace HL
open PySem DL
variable [Ctr]
section
variable [Zero0] {l a : Nat} {M : Mem} {P : D → Mem → Prop}
end
end HL

namespace HL
open PySem DL
variable [Ctr]
section
variable {env : DL.Env} {M : Mem} {P : D → Mem → Prop} {PL : List D → Mem → Prop} {chk : Mem → Bool} {g : Tg} {ft fe : Ev} {vs : List Nat} {fi : EvI} {d : D} {ds : List D}
theorem w_lcX : wO (eLc vs fi g ft fe env M) P = wI (fi env M) fun ds chk M1 => ds.length ≤ sizeLine ∧ wL (compD chk g ft fe (wipeE env vs) ds M1) fun ys M2 => P (.lst ys) M2 := by
  unfold eLc
  cases fi env M with
  | ok ds chk M1 =>
    show wO (if ds.length ≤ sizeLine then _ else _) P = (ds.length ≤ sizeLine ∧ _)
    by_cases h : ds.length ≤ sizeLine
    · rw [if_pos h, wO_bindL]; simp only [h, true_and]; rfl
    · rw [if_neg h]; simp only [h, false_and]; rfl
  | _ => rfl
theorem w_cp0 : wL (compD chk g ft fe env [] M) PL = (chk M = true ∧ PL [] M) := by
  unfold compD
  by_cases h : chk M = true
  · rw [if_pos h]; simp [h, wL]
  · rw [if_neg h]; simp [h, wL]
theorem w_cpS : wL (compD chk g ft fe env (d :: ds) M) PL = (chk M = true ∧ wS (g d env M) { nx := fun e1 M1 => wO (ft e1 M1) fun b M2 => ifB b (wO (fe e1 M2) fun y M3 => wL (compD chk g ft fe env ds M3) fun ys M4 => PL (y :: ys) M4) (wL (compD chk g ft fe env ds M2) PL) }) := by
  rw [compD]
  by_cases h : chk M = true
  · rw [if_pos h]
    simp only [h, true_and]
    cases g d env M with
    | nx e1 M1 =>
      show wL (match ft e1 M1 with
        | .ok (.bl true) M2 => _
        | .ok (.bl false) M2 => _
        | _ => _) PL = wO (ft e1 M1) _
      cases ft e1 M1 with
      | ok b M2 =>
        cases b with
        | bl q =>
          cases q with
          | true =>
            simp only [wO_ok, ifB]
            cases fe e1 M2 with
            | ok y M3 =>
              simp only [wO_ok]
              cases compD chk g ft fe env ds M3 <;> rfl
            | _ => rfl
          | false => rfl
        | _ => rfl
      | _ => rfl
    | _ => rfl
  · rw [if_neg h]; simp [h, wL]
end
section
variable {e f h : Ef} {B : Int} {M : Mem} {P : D → Mem → Prop}
end
end HL

namespace HL
open PySem DL
variable [Ctr]
section
variable {e f : Ef} {B : Int} {M : Mem} {P : D → Mem → Prop} {b : Bag}
end
end HL

namespace HL
open PySem DL
variable [Ctr]
section
variable {e f : Ef} {B n c x : Int} {M : Mem} {P : D → Mem → Prop}
end
end HL

namespace HL
open PySem DL
variable [Ctr]
section
variable [Zero0] {l a : Nat} {M : Mem} {P : D → Mem → Prop}
mutual
def smlS : Stp → Prop
  | .ins n c => (-2 ≤ n ∧ n ≤ 3) ∧ 0 ≤ c ∧ c ≤ 2
  | .rem c => 0 ≤ c ∧ c ≤ 2
  | .rep c p => (0 ≤ c ∧ c ≤ 3) ∧ p.length ≤ 3 ∧ smlP p
def smlP : Prg → Prop
  | [] => True
  | s :: p => smlS s ∧ smlP p
end
end
end HL

namespace HL
open PySem DL
variable [Ctr]
section
variable {e f b : Ef} {B C n m : Int} {M : Mem} {P : D → Mem → Prop}
end
end HL

namespace HL
open PySem DL
variable [Ctr]
section
variable {e f : Ef} {B C n m : Int} {M : Mem} {P : D → Mem → Prop} {I S : Bag} {r : Int}
end
end HL

namespace HL
open PySem DL
variable [Ctr]
section
variable {e f : Ef} {B C n m : Int} {M : Mem} {P : D → Mem → Prop} {I S : Bag} {r : Int}
end
end HL

namespace HL
open PySem DL
variable [Ctr]
def putN (n : Int) (s : Nat) (b : Bag) : Bag := if 0 < s then b ++ [(n, (s : Int))] else b
structure InsideOk (X : Bag) (L : List Bag) : Prop where
  val : ∀ b ∈ L, Val b
  keys : ∀ b ∈ L, ∀ p ∈ b, ∃ q ∈ X, q.1 = p.1
  le : ∀ b ∈ L, ∀ k, cnt b k ≤ cnt X k
  nd : L.Nodup
  all : ∀ b, Val b → (∀ k, cnt b k ≤ cnt X k) → b ∈ L
end HL

namespace HL
open PySem DL
variable [Ctr]
section
variable {M : Mem} {P : D → Mem → Prop} {n : Int} {X : Bag}
theorem w_catL {xs ys : List D} (h : xs.length + ys.length ≤ sizeLine) : wO (gAdd (.lst xs) (.lst ys) M) P = P (.lst (xs ++ ys)) M := by
  have e : gAdd (.lst xs) (.lst ys) M = gCatL (.lst xs) (.lst ys) M := rfl
  rw [e]
  unfold gCatL derefW
  simp only
  rw [if_pos h]
  rfl
def gPut (n : Int) (s : Nat) : D → Option D
  | .tup xs => some (.tup (if 0 < s then xs ++ [.tup [.int n, .int s]] else xs))
  | _ => none
theorem gPut_bag (n : Int) (s : Nat) (b : Bag) : gPut n s (bagD b) = some (bagD (putN n s b)) := by
  show some (D.tup (if 0 < s then b.map pairD ++ [.tup [.int n, .int s]] else b.map pairD)) = some (.tup ((putN n s b).map pairD))
  unfold putN
  split <;> simp [pairD]
theorem fm_put (n : Int) (s : Nat) : ∀ L : List Bag, (L.map bagD).filterMap (gPut n s) = (L.map (putN n s)).map bagD
  | [] => rfl
  | b :: L => by rw [List.map_cons, List.filterMap_cons, gPut_bag, fm_put n s L]; rfl
end
end HL

namespace L_k05
open PySem DL HL L2
instance inst0 : Ctr := ⟨0, 0⟩
instance inst1 : Zero0 := ⟨rfl⟩
def nmsX : List Str := ["InvalidNumber", "InvalidCount", "InvalidBag", "InvalidProgram", "InvalidEffect", "InvalidSequence", "InvalidObservations", "InvalidUser", "ParseError", "EmptyHeap", "OutOfRange", "LimitExceeded", "NothingToUndo"]
def exs (a : D) : List Ob := [.exc "InvalidNumber" [("value", a)], .exc "InvalidCount" [("value", a)], .exc "InvalidBag" [("value", a)], .exc "InvalidProgram" [("path", a)], .exc "InvalidEffect" [("part", a)], .exc "InvalidSequence" [("index", a)], .exc "InvalidObservations" [("index", a)],
  .exc "InvalidUser" [("value", a)], .exc "ParseError" [("position", a)], .exc "EmptyHeap" [("index", a)], .exc "OutOfRange" [("value", a)], .exc "LimitExceeded" [("count", a)], .exc "NothingToUndo" []]
section
variable {M : Mem} {P : D → Mem → Prop} {l : Nat} {c : Str} {fs : List (Str × D)} {ys ns : List Str} {q : D} {env : DL.Env} {x f : Str} {fa : Ev}
theorem w_isV (hl : M[l]? = some (.exc c fs)) (hc : c ∈ nmsX) (hs : (nmsX.all fun x => ys.contains x || ns.contains x) = true) (hq : sameQ q q = true) : wO (nIsV q ys ns [.ref l, q] M) P = P (.bl (ys.contains c)) M := by
  unfold nIsV
  have e : excD M (.ref l) = some (c, fs) := by
    unfold excD
    simp only [hl]
  simp only [hq, if_true, e]
  have h := List.all_eq_true.mp hs c hc
  cases h1 : ys.contains c with
  | true => rfl
  | false =>
    rw [h1, Bool.false_or] at h
    rw [h]
    rfl
theorem w_mkX : wO (eMakeX x f fa env M) P = wO (fa env M) fun d M1 => P (.ref M1.length) (M1 ++ [.exc x [(f, d)]]) := by
  unfold eMakeX
  rw [wO_bind]
  rfl
theorem w_mkX0 : wO (eMakeX0 x env M) P = P (.ref M.length) (M ++ [.exc x []]) := rfl
theorem w_addL {xs ys : List D} (h : xs.length + ys.length ≤ 60) : wO (gAdd (.lst xs) (.lst ys) M) P = P (.lst (xs ++ ys)) M := w_catL (le_line (by omega))
theorem is_NothingToUndo (hl : M[l]? = some (.exc c fs)) (hc : c ∈ nmsX) : wO (nIsV (.glo "NothingToUndo") ["NothingToUndo"] ["InvalidNumber", "InvalidCount", "InvalidBag", "InvalidProgram", "InvalidEffect", "InvalidSequence", "InvalidObservations", "InvalidUser", "ParseError", "EmptyHeap", "OutOfRange", "LimitExceeded"] [.ref l, (.glo "NothingToUndo")] M) P = P (.bl ((["NothingToUndo"] : List Str).contains c)) M := w_isV hl hc (by decide +kernel) rfl
theorem is_OutOfRange (hl : M[l]? = some (.exc c fs)) (hc : c ∈ nmsX) : wO (nIsV (.glo "OutOfRange") ["OutOfRange"] ["InvalidNumber", "InvalidCount", "InvalidBag", "InvalidProgram", "InvalidEffect", "InvalidSequence", "InvalidObservations", "InvalidUser", "ParseError", "EmptyHeap", "LimitExceeded", "NothingToUndo"] [.ref l, (.glo "OutOfRange")] M) P = P (.bl ((["OutOfRange"] : List Str).contains c)) M := w_isV hl hc (by decide +kernel) rfl
theorem is_LimitExceeded (hl : M[l]? = some (.exc c fs)) (hc : c ∈ nmsX) : wO (nIsV (.glo "LimitExceeded") ["LimitExceeded"] ["InvalidNumber", "InvalidCount", "InvalidBag", "InvalidProgram", "InvalidEffect", "InvalidSequence", "InvalidObservations", "InvalidUser", "ParseError", "EmptyHeap", "OutOfRange", "NothingToUndo"] [.ref l, (.glo "LimitExceeded")] M) P = P (.bl ((["LimitExceeded"] : List Str).contains c)) M := w_isV hl hc (by decide +kernel) rfl
theorem is_InvalidUser (hl : M[l]? = some (.exc c fs)) (hc : c ∈ nmsX) : wO (nIsV (.glo "InvalidUser") ["InvalidUser"] ["InvalidNumber", "InvalidCount", "InvalidBag", "InvalidProgram", "InvalidEffect", "InvalidSequence", "InvalidObservations", "ParseError", "EmptyHeap", "OutOfRange", "LimitExceeded", "NothingToUndo"] [.ref l, (.glo "InvalidUser")] M) P = P (.bl ((["InvalidUser"] : List Str).contains c)) M := w_isV hl hc (by decide +kernel) rfl
theorem is_ParseError (hl : M[l]? = some (.exc c fs)) (hc : c ∈ nmsX) : wO (nIsV (.glo "ParseError") ["ParseError"] ["InvalidNumber", "InvalidCount", "InvalidBag", "InvalidProgram", "InvalidEffect", "InvalidSequence", "InvalidObservations", "InvalidUser", "EmptyHeap", "OutOfRange", "LimitExceeded", "NothingToUndo"] [.ref l, (.glo "ParseError")] M) P = P (.bl ((["ParseError"] : List Str).contains c)) M := w_isV hl hc (by decide +kernel) rfl
theorem is_EmptyHeap (hl : M[l]? = some (.exc c fs)) (hc : c ∈ nmsX) : wO (nIsV (.glo "EmptyHeap") ["EmptyHeap"] ["InvalidNumber", "InvalidCount", "InvalidBag", "InvalidProgram", "InvalidEffect", "InvalidSequence", "InvalidObservations", "InvalidUser", "ParseError", "OutOfRange", "LimitExceeded", "NothingToUndo"] [.ref l, (.glo "EmptyHeap")] M) P = P (.bl ((["EmptyHeap"] : List Str).contains c)) M := w_isV hl hc (by decide +kernel) rfl
theorem is_InvalidSequence (hl : M[l]? = some (.exc c fs)) (hc : c ∈ nmsX) : wO (nIsV (.glo "InvalidSequence") ["InvalidSequence"] ["InvalidNumber", "InvalidCount", "InvalidBag", "InvalidProgram", "InvalidEffect", "InvalidObservations", "InvalidUser", "ParseError", "EmptyHeap", "OutOfRange", "LimitExceeded", "NothingToUndo"] [.ref l, (.glo "InvalidSequence")] M) P = P (.bl ((["InvalidSequence"] : List Str).contains c)) M := w_isV hl hc (by decide +kernel) rfl
theorem is_InvalidObservations (hl : M[l]? = some (.exc c fs)) (hc : c ∈ nmsX) : wO (nIsV (.glo "InvalidObservations") ["InvalidObservations"] ["InvalidNumber", "InvalidCount", "InvalidBag", "InvalidProgram", "InvalidEffect", "InvalidSequence", "InvalidUser", "ParseError", "EmptyHeap", "OutOfRange", "LimitExceeded", "NothingToUndo"] [.ref l, (.glo "InvalidObservations")] M) P = P (.bl ((["InvalidObservations"] : List Str).contains c)) M := w_isV hl hc (by decide +kernel) rfl
theorem is_InvalidProgram (hl : M[l]? = some (.exc c fs)) (hc : c ∈ nmsX) : wO (nIsV (.glo "InvalidProgram") ["InvalidProgram"] ["InvalidNumber", "InvalidCount", "InvalidBag", "InvalidEffect", "InvalidSequence", "InvalidObservations", "InvalidUser", "ParseError", "EmptyHeap", "OutOfRange", "LimitExceeded", "NothingToUndo"] [.ref l, (.glo "InvalidProgram")] M) P = P (.bl ((["InvalidProgram"] : List Str).contains c)) M := w_isV hl hc (by decide +kernel) rfl
theorem is_InvalidEffect (hl : M[l]? = some (.exc c fs)) (hc : c ∈ nmsX) : wO (nIsV (.glo "InvalidEffect") ["InvalidEffect"] ["InvalidNumber", "InvalidCount", "InvalidBag", "InvalidProgram", "InvalidSequence", "InvalidObservations", "InvalidUser", "ParseError", "EmptyHeap", "OutOfRange", "LimitExceeded", "NothingToUndo"] [.ref l, (.glo "InvalidEffect")] M) P = P (.bl ((["InvalidEffect"] : List Str).contains c)) M := w_isV hl hc (by decide +kernel) rfl
theorem is_InvalidNumber (hl : M[l]? = some (.exc c fs)) (hc : c ∈ nmsX) : wO (nIsV (.glo "InvalidNumber") ["InvalidNumber"] ["InvalidCount", "InvalidBag", "InvalidProgram", "InvalidEffect", "InvalidSequence", "InvalidObservations", "InvalidUser", "ParseError", "EmptyHeap", "OutOfRange", "LimitExceeded", "NothingToUndo"] [.ref l, (.glo "InvalidNumber")] M) P = P (.bl ((["InvalidNumber"] : List Str).contains c)) M := w_isV hl hc (by decide +kernel) rfl
theorem is_InvalidCount (hl : M[l]? = some (.exc c fs)) (hc : c ∈ nmsX) : wO (nIsV (.glo "InvalidCount") ["InvalidCount"] ["InvalidNumber", "InvalidBag", "InvalidProgram", "InvalidEffect", "InvalidSequence", "InvalidObservations", "InvalidUser", "ParseError", "EmptyHeap", "OutOfRange", "LimitExceeded", "NothingToUndo"] [.ref l, (.glo "InvalidCount")] M) P = P (.bl ((["InvalidCount"] : List Str).contains c)) M := w_isV hl hc (by decide +kernel) rfl
theorem is_InvalidBag (hl : M[l]? = some (.exc c fs)) (hc : c ∈ nmsX) : wO (nIsV (.glo "InvalidBag") ["InvalidBag"] ["InvalidNumber", "InvalidCount", "InvalidProgram", "InvalidEffect", "InvalidSequence", "InvalidObservations", "InvalidUser", "ParseError", "EmptyHeap", "OutOfRange", "LimitExceeded", "NothingToUndo"] [.ref l, (.glo "InvalidBag")] M) P = P (.bl ((["InvalidBag"] : List Str).contains c)) M := w_isV hl hc (by decide +kernel) rfl
theorem is_KeyError (hl : M[l]? = some (.exc c fs)) (hc : c ∈ nmsX) : wO (nIsV (.ty "KeyError") [] ["InvalidNumber", "InvalidCount", "InvalidBag", "InvalidProgram", "InvalidEffect", "InvalidSequence", "InvalidObservations", "InvalidUser", "ParseError", "EmptyHeap", "OutOfRange", "LimitExceeded", "NothingToUndo"] [.ref l, (.ty "KeyError")] M) P = P (.bl (([] : List Str).contains c)) M := w_isV hl hc (by decide +kernel) rfl
theorem is_IndexError (hl : M[l]? = some (.exc c fs)) (hc : c ∈ nmsX) : wO (nIsV (.ty "IndexError") ["OutOfRange"] ["InvalidNumber", "InvalidCount", "InvalidBag", "InvalidProgram", "InvalidEffect", "InvalidSequence", "InvalidObservations", "InvalidUser", "ParseError", "EmptyHeap", "LimitExceeded", "NothingToUndo"] [.ref l, (.ty "IndexError")] M) P = P (.bl ((["OutOfRange"] : List Str).contains c)) M := w_isV hl hc (by decide +kernel) rfl
theorem is_OverflowError (hl : M[l]? = some (.exc c fs)) (hc : c ∈ nmsX) : wO (nIsV (.ty "OverflowError") ["LimitExceeded"] ["InvalidNumber", "InvalidCount", "InvalidBag", "InvalidProgram", "InvalidEffect", "InvalidSequence", "InvalidObservations", "InvalidUser", "ParseError", "EmptyHeap", "OutOfRange", "NothingToUndo"] [.ref l, (.ty "OverflowError")] M) P = P (.bl ((["LimitExceeded"] : List Str).contains c)) M := w_isV hl hc (by decide +kernel) rfl
theorem is_RuntimeError (hl : M[l]? = some (.exc c fs)) (hc : c ∈ nmsX) : wO (nIsV (.ty "RuntimeError") ["NothingToUndo"] ["InvalidNumber", "InvalidCount", "InvalidBag", "InvalidProgram", "InvalidEffect", "InvalidSequence", "InvalidObservations", "InvalidUser", "ParseError", "EmptyHeap", "OutOfRange", "LimitExceeded"] [.ref l, (.ty "RuntimeError")] M) P = P (.bl ((["NothingToUndo"] : List Str).contains c)) M := w_isV hl hc (by decide +kernel) rfl
theorem is_HeapError (hl : M[l]? = some (.exc c fs)) (hc : c ∈ nmsX) : wO (nIsV (.glo "HeapError") ["InvalidNumber", "InvalidCount", "InvalidBag", "InvalidProgram", "InvalidEffect", "InvalidSequence", "InvalidObservations", "InvalidUser", "ParseError"] ["EmptyHeap", "OutOfRange", "LimitExceeded", "NothingToUndo"] [.ref l, (.glo "HeapError")] M) P = P (.bl ((["InvalidNumber", "InvalidCount", "InvalidBag", "InvalidProgram", "InvalidEffect", "InvalidSequence", "InvalidObservations", "InvalidUser", "ParseError"] : List Str).contains c)) M := w_isV hl hc (by decide +kernel) rfl
theorem is_ValueError (hl : M[l]? = some (.exc c fs)) (hc : c ∈ nmsX) : wO (nIsV (.ty "ValueError") ["InvalidNumber", "InvalidCount", "InvalidBag", "InvalidProgram", "InvalidEffect", "InvalidSequence", "InvalidObservations", "InvalidUser", "ParseError"] ["EmptyHeap", "OutOfRange", "LimitExceeded", "NothingToUndo"] [.ref l, (.ty "ValueError")] M) P = P (.bl ((["InvalidNumber", "InvalidCount", "InvalidBag", "InvalidProgram", "InvalidEffect", "InvalidSequence", "InvalidObservations", "InvalidUser", "ParseError"] : List Str).contains c)) M := w_isV hl hc (by decide +kernel) rfl
theorem is_LookupError (hl : M[l]? = some (.exc c fs)) (hc : c ∈ nmsX) : wO (nIsV (.ty "LookupError") ["EmptyHeap", "OutOfRange"] ["InvalidNumber", "InvalidCount", "InvalidBag", "InvalidProgram", "InvalidEffect", "InvalidSequence", "InvalidObservations", "InvalidUser", "ParseError", "LimitExceeded", "NothingToUndo"] [.ref l, (.ty "LookupError")] M) P = P (.bl ((["EmptyHeap", "OutOfRange"] : List Str).contains c)) M := w_isV hl hc (by decide +kernel) rfl
def ownL (c : Str) : List D := nmsX.map fun x => .bl ([x].contains c)
theorem e_own (hM : M.all pureOb = true) (hl : M[l]? = some (.exc c fs)) (hc : c ∈ nmsX) : callF F_q_own [.ref l] M = .ok (.lst (ownL c)) M := by
  have h : wO (callF F_q_own [.ref l] M) fun d M' => d = .lst (ownL c) ∧ M' = M := by
    refine w_callM rfl ?_
    have is_NothingToUndo_ := fun P => is_NothingToUndo (P := P) hl hc
    have is_OutOfRange_ := fun P => is_OutOfRange (P := P) hl hc
    have is_LimitExceeded_ := fun P => is_LimitExceeded (P := P) hl hc
    have is_InvalidUser_ := fun P => is_InvalidUser (P := P) hl hc
    have is_ParseError_ := fun P => is_ParseError (P := P) hl hc
    have is_EmptyHeap_ := fun P => is_EmptyHeap (P := P) hl hc
    have is_InvalidSequence_ := fun P => is_InvalidSequence (P := P) hl hc
    have is_InvalidObservations_ := fun P => is_InvalidObservations (P := P) hl hc
    have is_InvalidProgram_ := fun P => is_InvalidProgram (P := P) hl hc
    have is_InvalidEffect_ := fun P => is_InvalidEffect (P := P) hl hc
    have is_InvalidNumber_ := fun P => is_InvalidNumber (P := P) hl hc
    have is_InvalidCount_ := fun P => is_InvalidCount (P := P) hl hc
    have is_InvalidBag_ := fun P => is_InvalidBag (P := P) hl hc
    simp only [F_q_own, c_q_own, w_defn1, w_defn2, w_defn3, w_defn4, w_defn5, w_seq, w_snil, w_asg, w_expr, w_ret, w_retN, w_brk, w_cont, w_sif, ifB_bl, notB_bl, w_gN, w_par, w_par3, w_gsNil, w_gsCons, w_gT2, w_gT3, w_gTi2, w_var0, w_varS, w_c, w_nil, w_cons, w_tup, w_lst, w_new, w_newD, w_op, w_gI, w_add, w_chain, w_not, w_and, w_or, w_if, w_call, w_fn, w_fnN, w_make, w_neg, w_negI, w_t20, w_t21, w_t30, w_t31, w_t32, w_min2, w_max2, w_lenT, w_for, w_iA, wO_ok, w_cmt, List.map, List.replicate, List.set, List.append, wipeE, decide_eq_true_eq, Bool.not_true, Bool.not_false, Bool.false_eq_true, if_true, if_false, Bool.not_eq_true, decide_eq_false_iff_not, Bool.true_eq_false, reduceIte, decide_true, decide_false, Nat.reduceSub, Nat.add_zero, w_addL, is_NothingToUndo_, is_OutOfRange_, is_LimitExceeded_, is_InvalidUser_, is_ParseError_, is_EmptyHeap_, is_InvalidSequence_, is_InvalidObservations_, is_InvalidProgram_, is_InvalidEffect_, is_InvalidNumber_, is_InvalidCount_, is_InvalidBag_]
    simp only [c_q_own_5, w_defn1, w_defn2, w_defn3, w_defn4, w_defn5, w_seq, w_snil, w_asg, w_expr, w_ret, w_retN, w_brk, w_cont, w_sif, ifB_bl, notB_bl, w_gN, w_par, w_par3, w_gsNil, w_gsCons, w_gT2, w_gT3, w_gTi2, w_var0, w_varS, w_c, w_nil, w_cons, w_tup, w_lst, w_new, w_newD, w_op, w_gI, w_add, w_chain, w_not, w_and, w_or, w_if, w_call, w_fn, w_fnN, w_make, w_neg, w_negI, w_t20, w_t21, w_t30, w_t31, w_t32, w_min2, w_max2, w_lenT, w_for, w_iA, wO_ok, w_cmt, List.map, List.replicate, List.set, List.append, wipeE, decide_eq_true_eq, Bool.not_true, Bool.not_false, Bool.false_eq_true, if_true, if_false, Bool.not_eq_true, decide_eq_false_iff_not, Bool.true_eq_false, reduceIte, decide_true, decide_false, Nat.reduceSub, Nat.add_zero, w_addL, is_NothingToUndo_, is_OutOfRange_, is_LimitExceeded_, is_InvalidUser_, is_ParseError_, is_EmptyHeap_, is_InvalidSequence_, is_InvalidObservations_, is_InvalidProgram_, is_InvalidEffect_, is_InvalidNumber_, is_InvalidCount_, is_InvalidBag_]
    rw [w_addL (by simp)]
    simp only [c_q_own_4, w_defn1, w_defn2, w_defn3, w_defn4, w_defn5, w_seq, w_snil, w_asg, w_expr, w_ret, w_retN, w_brk, w_cont, w_sif, ifB_bl, notB_bl, w_gN, w_par, w_par3, w_gsNil, w_gsCons, w_gT2, w_gT3, w_gTi2, w_var0, w_varS, w_c, w_nil, w_cons, w_tup, w_lst, w_new, w_newD, w_op, w_gI, w_add, w_chain, w_not, w_and, w_or, w_if, w_call, w_fn, w_fnN, w_make, w_neg, w_negI, w_t20, w_t21, w_t30, w_t31, w_t32, w_min2, w_max2, w_lenT, w_for, w_iA, wO_ok, w_cmt, List.map, List.replicate, List.set, List.append, wipeE, decide_eq_true_eq, Bool.not_true, Bool.not_false, Bool.false_eq_true, if_true, if_false, Bool.not_eq_true, decide_eq_false_iff_not, Bool.true_eq_false, reduceIte, decide_true, decide_false, Nat.reduceSub, Nat.add_zero, w_addL, is_NothingToUndo_, is_OutOfRange_, is_LimitExceeded_, is_InvalidUser_, is_ParseError_, is_EmptyHeap_, is_InvalidSequence_, is_InvalidObservations_, is_InvalidProgram_, is_InvalidEffect_, is_InvalidNumber_, is_InvalidCount_, is_InvalidBag_]
    rw [w_addL (by simp)]
    simp only [c_q_own_3, w_defn1, w_defn2, w_defn3, w_defn4, w_defn5, w_seq, w_snil, w_asg, w_expr, w_ret, w_retN, w_brk, w_cont, w_sif, ifB_bl, notB_bl, w_gN, w_par, w_par3, w_gsNil, w_gsCons, w_gT2, w_gT3, w_gTi2, w_var0, w_varS, w_c, w_nil, w_cons, w_tup, w_lst, w_new, w_newD, w_op, w_gI, w_add, w_chain, w_not, w_and, w_or, w_if, w_call, w_fn, w_fnN, w_make, w_neg, w_negI, w_t20, w_t21, w_t30, w_t31, w_t32, w_min2, w_max2, w_lenT, w_for, w_iA, wO_ok, w_cmt, List.map, List.replicate, List.set, List.append, wipeE, decide_eq_true_eq, Bool.not_true, Bool.not_false, Bool.false_eq_true, if_true, if_false, Bool.not_eq_true, decide_eq_false_iff_not, Bool.true_eq_false, reduceIte, decide_true, decide_false, Nat.reduceSub, Nat.add_zero, w_addL, is_NothingToUndo_, is_OutOfRange_, is_LimitExceeded_, is_InvalidUser_, is_ParseError_, is_EmptyHeap_, is_InvalidSequence_, is_InvalidObservations_, is_InvalidProgram_, is_InvalidEffect_, is_InvalidNumber_, is_InvalidCount_, is_InvalidBag_]
    rw [w_addL (by simp)]
    simp only [c_q_own_2, w_defn1, w_defn2, w_defn3, w_defn4, w_defn5, w_seq, w_snil, w_asg, w_expr, w_ret, w_retN, w_brk, w_cont, w_sif, ifB_bl, notB_bl, w_gN, w_par, w_par3, w_gsNil, w_gsCons, w_gT2, w_gT3, w_gTi2, w_var0, w_varS, w_c, w_nil, w_cons, w_tup, w_lst, w_new, w_newD, w_op, w_gI, w_add, w_chain, w_not, w_and, w_or, w_if, w_call, w_fn, w_fnN, w_make, w_neg, w_negI, w_t20, w_t21, w_t30, w_t31, w_t32, w_min2, w_max2, w_lenT, w_for, w_iA, wO_ok, w_cmt, List.map, List.replicate, List.set, List.append, wipeE, decide_eq_true_eq, Bool.not_true, Bool.not_false, Bool.false_eq_true, if_true, if_false, Bool.not_eq_true, decide_eq_false_iff_not, Bool.true_eq_false, reduceIte, decide_true, decide_false, Nat.reduceSub, Nat.add_zero, w_addL, is_NothingToUndo_, is_OutOfRange_, is_LimitExceeded_, is_InvalidUser_, is_ParseError_, is_EmptyHeap_, is_InvalidSequence_, is_InvalidObservations_, is_InvalidProgram_, is_InvalidEffect_, is_InvalidNumber_, is_InvalidCount_, is_InvalidBag_]
    rw [w_addL (by simp)]
    simp only [c_q_own_1, w_defn1, w_defn2, w_defn3, w_defn4, w_defn5, w_seq, w_snil, w_asg, w_expr, w_ret, w_retN, w_brk, w_cont, w_sif, ifB_bl, notB_bl, w_gN, w_par, w_par3, w_gsNil, w_gsCons, w_gT2, w_gT3, w_gTi2, w_var0, w_varS, w_c, w_nil, w_cons, w_tup, w_lst, w_new, w_newD, w_op, w_gI, w_add, w_chain, w_not, w_and, w_or, w_if, w_call, w_fn, w_fnN, w_make, w_neg, w_negI, w_t20, w_t21, w_t30, w_t31, w_t32, w_min2, w_max2, w_lenT, w_for, w_iA, wO_ok, w_cmt, List.map, List.replicate, List.set, List.append, wipeE, decide_eq_true_eq, Bool.not_true, Bool.not_false, Bool.false_eq_true, if_true, if_false, Bool.not_eq_true, decide_eq_false_iff_not, Bool.true_eq_false, reduceIte, decide_true, decide_false, Nat.reduceSub, Nat.add_zero, w_addL, is_NothingToUndo_, is_OutOfRange_, is_LimitExceeded_, is_InvalidUser_, is_ParseError_, is_EmptyHeap_, is_InvalidSequence_, is_InvalidObservations_, is_InvalidProgram_, is_InvalidEffect_, is_InvalidNumber_, is_InvalidCount_, is_InvalidBag_]
    rw [w_addL (by simp)]
    refine ⟨rfl, by rw [List.take_length]; exact hM, rfl, List.take_length⟩
  obtain ⟨d, M', e, rfl, rfl⟩ := wO_ex h
  exact e
def undL (c : Str) : List D := [.bl ((["InvalidNumber", "InvalidCount", "InvalidBag", "InvalidProgram", "InvalidEffect", "InvalidSequence", "InvalidObservations", "InvalidUser", "ParseError"] : List Str).contains c), .bl ((["InvalidNumber", "InvalidCount", "InvalidBag", "InvalidProgram", "InvalidEffect", "InvalidSequence", "InvalidObservations", "InvalidUser", "ParseError"] : List Str).contains c),
  .bl ((["EmptyHeap", "OutOfRange"] : List Str).contains c), .bl ((["OutOfRange"] : List Str).contains c), .bl ((["LimitExceeded"] : List Str).contains c), .bl ((["NothingToUndo"] : List Str).contains c), .bl (([] : List Str).contains c)]
theorem e_under (hM : M.all pureOb = true) (hl : M[l]? = some (.exc c fs)) (hc : c ∈ nmsX) : callF F_q_under [.ref l] M = .ok (.lst (undL c)) M := by
  have h : wO (callF F_q_under [.ref l] M) fun d M' => d = .lst (undL c) ∧ M' = M := by
    refine w_callM rfl ?_
    have is_KeyError_ := fun P => is_KeyError (P := P) hl hc
    have is_IndexError_ := fun P => is_IndexError (P := P) hl hc
    have is_OverflowError_ := fun P => is_OverflowError (P := P) hl hc
    have is_RuntimeError_ := fun P => is_RuntimeError (P := P) hl hc
    have is_HeapError_ := fun P => is_HeapError (P := P) hl hc
    have is_ValueError_ := fun P => is_ValueError (P := P) hl hc
    have is_LookupError_ := fun P => is_LookupError (P := P) hl hc
    simp only [F_q_under, c_q_under, w_defn1, w_defn2, w_defn3, w_defn4, w_defn5, w_seq, w_snil, w_asg, w_expr, w_ret, w_retN, w_brk, w_cont, w_sif, ifB_bl, notB_bl, w_gN, w_par, w_par3, w_gsNil, w_gsCons, w_gT2, w_gT3, w_gTi2, w_var0, w_varS, w_c, w_nil, w_cons, w_tup, w_lst, w_new, w_newD, w_op, w_gI, w_add, w_chain, w_not, w_and, w_or, w_if, w_call, w_fn, w_fnN, w_make, w_neg, w_negI, w_t20, w_t21, w_t30, w_t31, w_t32, w_min2, w_max2, w_lenT, w_for, w_iA, wO_ok, w_cmt, List.map, List.replicate, List.set, List.append, wipeE, decide_eq_true_eq, Bool.not_true, Bool.not_false, Bool.false_eq_true, if_true, if_false, Bool.not_eq_true, decide_eq_false_iff_not, Bool.true_eq_false, reduceIte, decide_true, decide_false, Nat.reduceSub, Nat.add_zero, w_addL, is_KeyError_, is_IndexError_, is_OverflowError_, is_RuntimeError_, is_HeapError_, is_ValueError_, is_LookupError_]
    simp only [c_q_under_2, w_defn1, w_defn2, w_defn3, w_defn4, w_defn5, w_seq, w_snil, w_asg, w_expr, w_ret, w_retN, w_brk, w_cont, w_sif, ifB_bl, notB_bl, w_gN, w_par, w_par3, w_gsNil, w_gsCons, w_gT2, w_gT3, w_gTi2, w_var0, w_varS, w_c, w_nil, w_cons, w_tup, w_lst, w_new, w_newD, w_op, w_gI, w_add, w_chain, w_not, w_and, w_or, w_if, w_call, w_fn, w_fnN, w_make, w_neg, w_negI, w_t20, w_t21, w_t30, w_t31, w_t32, w_min2, w_max2, w_lenT, w_for, w_iA, wO_ok, w_cmt, List.map, List.replicate, List.set, List.append, wipeE, decide_eq_true_eq, Bool.not_true, Bool.not_false, Bool.false_eq_true, if_true, if_false, Bool.not_eq_true, decide_eq_false_iff_not, Bool.true_eq_false, reduceIte, decide_true, decide_false, Nat.reduceSub, Nat.add_zero, w_addL, is_KeyError_, is_IndexError_, is_OverflowError_, is_RuntimeError_, is_HeapError_, is_ValueError_, is_LookupError_]
    rw [w_addL (by simp)]
    simp only [c_q_under_1, w_defn1, w_defn2, w_defn3, w_defn4, w_defn5, w_seq, w_snil, w_asg, w_expr, w_ret, w_retN, w_brk, w_cont, w_sif, ifB_bl, notB_bl, w_gN, w_par, w_par3, w_gsNil, w_gsCons, w_gT2, w_gT3, w_gTi2, w_var0, w_varS, w_c, w_nil, w_cons, w_tup, w_lst, w_new, w_newD, w_op, w_gI, w_add, w_chain, w_not, w_and, w_or, w_if, w_call, w_fn, w_fnN, w_make, w_neg, w_negI, w_t20, w_t21, w_t30, w_t31, w_t32, w_min2, w_max2, w_lenT, w_for, w_iA, wO_ok, w_cmt, List.map, List.replicate, List.set, List.append, wipeE, decide_eq_true_eq, Bool.not_true, Bool.not_false, Bool.false_eq_true, if_true, if_false, Bool.not_eq_true, decide_eq_false_iff_not, Bool.true_eq_false, reduceIte, decide_true, decide_false, Nat.reduceSub, Nat.add_zero, w_addL, is_KeyError_, is_IndexError_, is_OverflowError_, is_RuntimeError_, is_HeapError_, is_ValueError_, is_LookupError_]
    rw [w_addL (by simp)]
    refine ⟨rfl, by rw [List.take_length]; exact hM, rfl, List.take_length⟩
  obtain ⟨d, M', e, rfl, rfl⟩ := wO_ex h
  exact e
def isTr : Out → Bool
  | .ok (.bl true) _ => true
  | _ => false
theorem f_int : ∀ n : Nat, n < 99 → isTr (F_q_fields_hold [.int (n : Nat)] []) = true := by decide +kernel
theorem f_non : isTr (F_q_fields_hold [.non] []) = true := by decide +kernel
theorem f_str : isTr (F_q_fields_hold [.str "x"] []) = true := by decide +kernel
theorem f_tup : isTr (F_q_fields_hold [.tup [.int 1, .int 2]] []) = true := by decide +kernel
end
end L_k05

namespace L_k05
open PySem DL HL L2
section
variable {M : Mem} {P : D → Mem → Prop} {W : Wi} {l : Nat} {a : D} {s k p t4 t5 t6 t7 t8 : Option D}
def refs (n : Nat) : List D := [.ref n, .ref (n + 1), .ref (n + 2), .ref (n + 3), .ref (n + 4), .ref (n + 5), .ref (n + 6), .ref (n + 7), .ref (n + 8), .ref (n + 9), .ref (n + 10), .ref (n + 11), .ref (n + 12)]
theorem mk_all (h : wS (c_law_7 [s, k, p, some a, some (.lst (refs M.length)), t5, t6, t7, t8] (M ++ exs a)) W) : wS (c_law_10 [s, k, p, some a, t4, t5, t6, t7, t8] M) W := by
  obtain ⟨C7, hC7⟩ : ∃ C, C = c_law_7 := ⟨_, rfl⟩
  rw [← hC7] at h
  simp only [c_law_10, w_defn1, w_defn2, w_defn3, w_defn4, w_defn5, w_seq, w_snil, w_asg, w_expr, w_ret, w_retN, w_brk, w_cont, w_sif, ifB_bl, notB_bl, w_gN, w_par, w_par3, w_gsNil, w_gsCons, w_gT2, w_gT3, w_gTi2, w_var0, w_varS, w_c, w_nil, w_cons, w_tup, w_lst, w_new, w_newD, w_op, w_gI, w_add, w_chain, w_not, w_and, w_or, w_if, w_call, w_fn, w_fnN, w_make, w_neg, w_negI, w_t20, w_t21, w_t30, w_t31, w_t32, w_min2, w_max2, w_lenT, w_for, w_iA, wO_ok, w_cmt, List.map, List.replicate, List.set, List.append, wipeE, decide_eq_true_eq, Bool.not_true, Bool.not_false, Bool.false_eq_true, if_true, if_false, Bool.not_eq_true, decide_eq_false_iff_not, Bool.true_eq_false, reduceIte, decide_true, decide_false, Nat.reduceSub, Nat.add_zero, w_mkX]
  simp only [c_law_9, w_defn1, w_defn2, w_defn3, w_defn4, w_defn5, w_seq, w_snil, w_asg, w_expr, w_ret, w_retN, w_brk, w_cont, w_sif, ifB_bl, notB_bl, w_gN, w_par, w_par3, w_gsNil, w_gsCons, w_gT2, w_gT3, w_gTi2, w_var0, w_varS, w_c, w_nil, w_cons, w_tup, w_lst, w_new, w_newD, w_op, w_gI, w_add, w_chain, w_not, w_and, w_or, w_if, w_call, w_fn, w_fnN, w_make, w_neg, w_negI, w_t20, w_t21, w_t30, w_t31, w_t32, w_min2, w_max2, w_lenT, w_for, w_iA, wO_ok, w_cmt, List.map, List.replicate, List.set, List.append, wipeE, decide_eq_true_eq, Bool.not_true, Bool.not_false, Bool.false_eq_true, if_true, if_false, Bool.not_eq_true, decide_eq_false_iff_not, Bool.true_eq_false, reduceIte, decide_true, decide_false, Nat.reduceSub, Nat.add_zero, w_mkX]
  rw [w_addL (by simp)]
  simp only [c_law_8, ← hC7, w_defn1, w_defn2, w_defn3, w_defn4, w_defn5, w_seq, w_snil, w_asg, w_expr, w_ret, w_retN, w_brk, w_cont, w_sif, ifB_bl, notB_bl, w_gN, w_par, w_par3, w_gsNil, w_gsCons, w_gT2, w_gT3, w_gTi2, w_var0, w_varS, w_c, w_nil, w_cons, w_tup, w_lst, w_new, w_newD, w_op, w_gI, w_add, w_chain, w_not, w_and, w_or, w_if, w_call, w_fn, w_fnN, w_make, w_neg, w_negI, w_t20, w_t21, w_t30, w_t31, w_t32, w_min2, w_max2, w_lenT, w_for, w_iA, wO_ok, w_cmt, List.map, List.replicate, List.set, List.append, wipeE, decide_eq_true_eq, Bool.not_true, Bool.not_false, Bool.false_eq_true, if_true, if_false, Bool.not_eq_true, decide_eq_false_iff_not, Bool.true_eq_false, reduceIte, decide_true, decide_false, Nat.reduceSub, Nat.add_zero, w_mkX, w_mkX0]
  rw [w_addL (by simp)]
  simp only [w_defn1, w_defn2, w_defn3, w_defn4, w_defn5, w_seq, w_snil, w_asg, w_expr, w_ret, w_retN, w_brk, w_cont, w_sif, ifB_bl, notB_bl, w_gN, w_par, w_par3, w_gsNil, w_gsCons, w_gT2, w_gT3, w_gTi2, w_var0, w_varS, w_c, w_nil, w_cons, w_tup, w_lst, w_new, w_newD, w_op, w_gI, w_add, w_chain, w_not, w_and, w_or, w_if, w_call, w_fn, w_fnN, w_make, w_neg, w_negI, w_t20, w_t21, w_t30, w_t31, w_t32, w_min2, w_max2, w_lenT, w_for, w_iA, wO_ok, w_cmt, List.map, List.replicate, List.set, List.append, wipeE, decide_eq_true_eq, Bool.not_true, Bool.not_false, Bool.false_eq_true, if_true, if_false, Bool.not_eq_true, decide_eq_false_iff_not, Bool.true_eq_false, reduceIte, decide_true, decide_false, Nat.reduceSub, Nat.add_zero, List.length_append, List.length_cons, List.length_nil, List.append_assoc, List.cons_append, List.nil_append, Nat.add_assoc, Nat.reduceAdd]
  exact h
theorem exs_at {i : Nat} (hi : i < 13) : ∃ c fs, nmsX[i]? = some c ∧ (M ++ exs a)[M.length + i]? = some (.exc c fs) ∧ c ∈ nmsX := by
  have e : (M ++ exs a)[M.length + i]? = (exs a)[i]? := by
    rw [List.getElem?_append_right (by omega), Nat.add_sub_cancel_left]
  rw [e]
  have go : ∀ i, i < 13 → ∃ c fs, nmsX[i]? = some c ∧ (exs a)[i]? = some (.exc c fs) ∧ c ∈ nmsX := fun i hi =>
    match i, hi with
    | 0, _ => ⟨_, _, rfl, rfl, by decide⟩
    | 1, _ => ⟨_, _, rfl, rfl, by decide⟩
    | 2, _ => ⟨_, _, rfl, rfl, by decide⟩
    | 3, _ => ⟨_, _, rfl, rfl, by decide⟩
    | 4, _ => ⟨_, _, rfl, rfl, by decide⟩
    | 5, _ => ⟨_, _, rfl, rfl, by decide⟩
    | 6, _ => ⟨_, _, rfl, rfl, by decide⟩
    | 7, _ => ⟨_, _, rfl, rfl, by decide⟩
    | 8, _ => ⟨_, _, rfl, rfl, by decide⟩
    | 9, _ => ⟨_, _, rfl, rfl, by decide⟩
    | 10, _ => ⟨_, _, rfl, rfl, by decide⟩
    | 11, _ => ⟨_, _, rfl, rfl, by decide⟩
    | 12, _ => ⟨_, _, rfl, rfl, by decide⟩
    | n + 13, h => absurd h (by omega)
  exact go i hi
theorem exs_pure (hM : M.all pureOb = true) (ha : pureD a = true) : (M ++ exs a).all pureOb = true := by
  rw [List.all_append, hM]
  have e : ∀ x y : Str, pureOb (.exc x [(y, a)]) = true := fun x y => by
    show (pureD a && true) = true
    rw [ha]; rfl
  unfold exs
  simp only [List.all_cons, e]
  rfl
def idxL (i : Nat) : List D := (List.range 13).map fun j => .bl (decide (j = i))
section
variable {x1 x2 x3 x4 x6 x7 x8 : Option D}
def EV (x1 x2 x3 x4 x6 x7 x8 : Option D) (s : Option D) (i : Nat) : DL.Env := [s, x1, x2, x3, x4, some (.int (i : Nat)), x6, x7, x8]
theorem cmp_0 : eLc [8] (iR1 (eC (.int 13))) (gN 8) fYes (eOp gEq (eVar 8) (eVar 5)) (EV x1 x2 x3 x4 x6 x7 x8 s 0) M = .ok (.lst (idxL 0)) M := by kernel_rfl
theorem ne_0 : gNe (.lst (ownL "InvalidNumber")) (.lst (idxL 0)) M = .ok (.bl false) M := by kernel_rfl
theorem cmp_1 : eLc [8] (iR1 (eC (.int 13))) (gN 8) fYes (eOp gEq (eVar 8) (eVar 5)) (EV x1 x2 x3 x4 x6 x7 x8 s 1) M = .ok (.lst (idxL 1)) M := by kernel_rfl
theorem ne_1 : gNe (.lst (ownL "InvalidCount")) (.lst (idxL 1)) M = .ok (.bl false) M := by kernel_rfl
theorem cmp_2 : eLc [8] (iR1 (eC (.int 13))) (gN 8) fYes (eOp gEq (eVar 8) (eVar 5)) (EV x1 x2 x3 x4 x6 x7 x8 s 2) M = .ok (.lst (idxL 2)) M := by kernel_rfl
theorem ne_2 : gNe (.lst (ownL "InvalidBag")) (.lst (idxL 2)) M = .ok (.bl false) M := by kernel_rfl
theorem cmp_3 : eLc [8] (iR1 (eC (.int 13))) (gN 8) fYes (eOp gEq (eVar 8) (eVar 5)) (EV x1 x2 x3 x4 x6 x7 x8 s 3) M = .ok (.lst (idxL 3)) M := by kernel_rfl
theorem ne_3 : gNe (.lst (ownL "InvalidProgram")) (.lst (idxL 3)) M = .ok (.bl false) M := by kernel_rfl
theorem cmp_4 : eLc [8] (iR1 (eC (.int 13))) (gN 8) fYes (eOp gEq (eVar 8) (eVar 5)) (EV x1 x2 x3 x4 x6 x7 x8 s 4) M = .ok (.lst (idxL 4)) M := by kernel_rfl
theorem ne_4 : gNe (.lst (ownL "InvalidEffect")) (.lst (idxL 4)) M = .ok (.bl false) M := by kernel_rfl
theorem cmp_5 : eLc [8] (iR1 (eC (.int 13))) (gN 8) fYes (eOp gEq (eVar 8) (eVar 5)) (EV x1 x2 x3 x4 x6 x7 x8 s 5) M = .ok (.lst (idxL 5)) M := by kernel_rfl
theorem ne_5 : gNe (.lst (ownL "InvalidSequence")) (.lst (idxL 5)) M = .ok (.bl false) M := by kernel_rfl
theorem cmp_6 : eLc [8] (iR1 (eC (.int 13))) (gN 8) fYes (eOp gEq (eVar 8) (eVar 5)) (EV x1 x2 x3 x4 x6 x7 x8 s 6) M = .ok (.lst (idxL 6)) M := by kernel_rfl
theorem ne_6 : gNe (.lst (ownL "InvalidObservations")) (.lst (idxL 6)) M = .ok (.bl false) M := by kernel_rfl
theorem cmp_7 : eLc [8] (iR1 (eC (.int 13))) (gN 8) fYes (eOp gEq (eVar 8) (eVar 5)) (EV x1 x2 x3 x4 x6 x7 x8 s 7) M = .ok (.lst (idxL 7)) M := by kernel_rfl
theorem ne_7 : gNe (.lst (ownL "InvalidUser")) (.lst (idxL 7)) M = .ok (.bl false) M := by kernel_rfl
theorem cmp_8 : eLc [8] (iR1 (eC (.int 13))) (gN 8) fYes (eOp gEq (eVar 8) (eVar 5)) (EV x1 x2 x3 x4 x6 x7 x8 s 8) M = .ok (.lst (idxL 8)) M := by kernel_rfl
theorem ne_8 : gNe (.lst (ownL "ParseError")) (.lst (idxL 8)) M = .ok (.bl false) M := by kernel_rfl
theorem cmp_9 : eLc [8] (iR1 (eC (.int 13))) (gN 8) fYes (eOp gEq (eVar 8) (eVar 5)) (EV x1 x2 x3 x4 x6 x7 x8 s 9) M = .ok (.lst (idxL 9)) M := by kernel_rfl
theorem ne_9 : gNe (.lst (ownL "EmptyHeap")) (.lst (idxL 9)) M = .ok (.bl false) M := by kernel_rfl
theorem cmp_10 : eLc [8] (iR1 (eC (.int 13))) (gN 8) fYes (eOp gEq (eVar 8) (eVar 5)) (EV x1 x2 x3 x4 x6 x7 x8 s 10) M = .ok (.lst (idxL 10)) M := by kernel_rfl
theorem ne_10 : gNe (.lst (ownL "OutOfRange")) (.lst (idxL 10)) M = .ok (.bl false) M := by kernel_rfl
theorem cmp_11 : eLc [8] (iR1 (eC (.int 13))) (gN 8) fYes (eOp gEq (eVar 8) (eVar 5)) (EV x1 x2 x3 x4 x6 x7 x8 s 11) M = .ok (.lst (idxL 11)) M := by kernel_rfl
theorem ne_11 : gNe (.lst (ownL "LimitExceeded")) (.lst (idxL 11)) M = .ok (.bl false) M := by kernel_rfl
theorem cmp_12 : eLc [8] (iR1 (eC (.int 13))) (gN 8) fYes (eOp gEq (eVar 8) (eVar 5)) (EV x1 x2 x3 x4 x6 x7 x8 s 12) M = .ok (.lst (idxL 12)) M := by kernel_rfl
theorem ne_12 : gNe (.lst (ownL "NothingToUndo")) (.lst (idxL 12)) M = .ok (.bl false) M := by kernel_rfl
theorem own_at : ∀ i, i < 13 → ∃ c, nmsX[i]? = some c ∧ eLc [8] (iR1 (eC (.int 13))) (gN 8) fYes (eOp gEq (eVar 8) (eVar 5)) (EV x1 x2 x3 x4 x6 x7 x8 s i) M = .ok (.lst (idxL i)) M ∧ gNe (.lst (ownL c)) (.lst (idxL i)) M = .ok (.bl false) M := fun i hi =>
  match i, hi with
  | 0, _ => ⟨_, rfl, cmp_0, ne_0⟩
  | 1, _ => ⟨_, rfl, cmp_1, ne_1⟩
  | 2, _ => ⟨_, rfl, cmp_2, ne_2⟩
  | 3, _ => ⟨_, rfl, cmp_3, ne_3⟩
  | 4, _ => ⟨_, rfl, cmp_4, ne_4⟩
  | 5, _ => ⟨_, rfl, cmp_5, ne_5⟩
  | 6, _ => ⟨_, rfl, cmp_6, ne_6⟩
  | 7, _ => ⟨_, rfl, cmp_7, ne_7⟩
  | 8, _ => ⟨_, rfl, cmp_8, ne_8⟩
  | 9, _ => ⟨_, rfl, cmp_9, ne_9⟩
  | 10, _ => ⟨_, rfl, cmp_10, ne_10⟩
  | 11, _ => ⟨_, rfl, cmp_11, ne_11⟩
  | 12, _ => ⟨_, rfl, cmp_12, ne_12⟩
  | n + 13, h => absurd h (by omega)
theorem own_turn {i : Nat} (hi : i < 13) (hM : M.all pureOb = true) (ha : pureD a = true) (hW : W.nx (EV x1 x2 x3 x4 (some (.ref (M.length + i))) x7 x8 s i) (M ++ exs a)) : wS (c_law_1 (EV x1 x2 x3 x4 (some (.ref (M.length + i))) x7 x8 s i) (M ++ exs a)) W := by
  obtain ⟨c, fs, hc, hl, hm⟩ := exs_at (M := M) (a := a) hi
  have own := e_own (exs_pure hM ha) hl hm
  obtain ⟨M3, hM3⟩ : ∃ M3, M3 = M ++ exs a := ⟨_, rfl⟩
  rw [← hM3] at own hW ⊢
  obtain ⟨L, hL⟩ : ∃ L, L = M.length + i := ⟨_, rfl⟩
  rw [← hL] at own hW ⊢
  obtain ⟨c', hc', e8, ne⟩ := own_at (M := M3) (x1 := x1) (x2 := x2) (x3 := x3) (x4 := x4) (x6 := some (.ref L)) (x7 := x7) (x8 := x8) (s := s) i hi
  have ec : c = c' := Option.some.inj (hc.symm.trans hc')
  rw [← ec] at ne
  have f : (eFn F_q_own (aCons (eVar 6) aNil)) (EV x1 x2 x3 x4 (some (.ref L)) x7 x8 s i) M3 = .ok (.lst (ownL c)) M3 := own
  obtain ⟨fo, hf⟩ : ∃ fo, fo = eFn F_q_own (aCons (eVar 6) aNil) := ⟨_, rfl⟩
  obtain ⟨fe, he⟩ : ∃ fe, fe = eLc [8] (iR1 (eC (.int 13))) (gN 8) fYes (eOp gEq (eVar 8) (eVar 5)) := ⟨_, rfl⟩
  rw [← hf] at f
  rw [← he] at e8
  unfold c_law_1
  rw [← hf, ← he]
  simp only [w_if, w_op, f, e8, wO_ok, ne, w_defn1, w_defn2, w_defn3, w_defn4, w_defn5, w_seq, w_snil, w_asg, w_expr, w_ret, w_retN, w_brk, w_cont, w_sif, ifB_bl, notB_bl, w_gN, w_par, w_par3, w_gsNil, w_gsCons, w_gT2, w_gT3, w_gTi2, w_var0, w_varS, w_c, w_nil, w_cons, w_tup, w_lst, w_new, w_newD, w_op, w_gI, w_add, w_chain, w_not, w_and, w_or, w_if, w_call, w_fn, w_fnN, w_make, w_neg, w_negI, w_t20, w_t21, w_t30, w_t31, w_t32, w_min2, w_max2, w_lenT, w_for, w_iA, wO_ok, w_cmt, List.map, List.replicate, List.set, List.append, wipeE, decide_eq_true_eq, Bool.not_true, Bool.not_false, Bool.false_eq_true, if_true, if_false, Bool.not_eq_true, decide_eq_false_iff_not, Bool.true_eq_false, reduceIte, decide_true, decide_false, Nat.reduceSub, Nat.add_zero]
  exact hW
end
end
end L_k05

namespace L_k05
open PySem DL HL L2
section
variable {M : Mem} {P : D → Mem → Prop} {W : Wi} {l n : Nat} {a : D} {s x1 x2 x3 x5 x6 x7 x8 : Option D} {chk : Mem → Bool} {fu : Ev} {env : DL.Env} {PL : List D → Mem → Prop}
theorem cp_und : ∀ {ds ys : List D}, Paired (fun d y => fu (env.set 6 (some d)) M = .ok y M) ds ys → chk M = true → (∀ d, (env.set 6 (some d)).set 6 none = env.set 6 none) → PL ys M → wL (compD chk (gN 6) fYes fu env ds M) PL := by
  intro ds ys h hc hw
  induction h generalizing PL with
  | nil => intro q; rw [w_cp0]; exact ⟨hc, q⟩
  | cons a b ih =>
    intro q
    rw [w_cpS]
    refine ⟨hc, ?_⟩
    rw [w_gN]
    show wO (fu _ M) _
    rw [a]
    exact ih q
def tf (l : List Bool) : D := .lst (l.map .bl)
theorem take9 : ∃ chk, iA (eSl (eVar 4) oNone (oSome (eC (.int 9)))) [s, x1, x2, x3, some (.lst (refs n)), x5, x6, x7, x8] M = .ok [.ref n, .ref (n + 1), .ref (n + 2), .ref (n + 3), .ref (n + 4), .ref (n + 5), .ref (n + 6), .ref (n + 7), .ref (n + 8)] chk M ∧ chk M = true := ⟨_, rfl, rfl⟩
theorem drop9 : ∃ chk, iA (eSl (eVar 4) (oSome (eC (.int 9))) oNone) [s, x1, x2, x3, some (.lst (refs n)), x5, x6, x7, x8] M = .ok [.ref (n + 9), .ref (n + 10), .ref (n + 11), .ref (n + 12)] chk M ∧ chk M = true := ⟨_, rfl, rfl⟩
def nine : D := .lst [undL "InvalidNumber" |> .lst, undL "InvalidCount" |> .lst, undL "InvalidBag" |> .lst, undL "InvalidProgram" |> .lst, undL "InvalidEffect" |> .lst, undL "InvalidSequence" |> .lst, undL "InvalidObservations" |> .lst, undL "InvalidUser" |> .lst, undL "ParseError" |> .lst]
def four : D := .lst [undL "EmptyHeap" |> .lst, undL "OutOfRange" |> .lst, undL "LimitExceeded" |> .lst, undL "NothingToUndo" |> .lst]
theorem rhs9 : ∃ y, eOp gMul (eLst (aCons (eOp gAdd (eLst (aCons (eC (.bl true)) (aCons (eC (.bl true)) aNil))) (eOp gMul (eLst (aCons (eC (.bl false)) aNil)) (eC (.int 5)))) aNil)) (eC (.int 9)) env M = .ok y M ∧ gNe nine y M = .ok (.bl false) M := ⟨_, rfl, by kernel_rfl⟩
theorem und_at {i : Nat} (hi : i < 13) {o : List Ob} (hM : (M ++ exs a ++ o).all pureOb = true) : ∃ c, nmsX[i]? = some c ∧ callF F_q_under [.ref (M.length + i)] (M ++ exs a ++ o) = .ok (.lst (undL c)) (M ++ exs a ++ o) := by
  obtain ⟨c, fs, hc, hl, hm⟩ := exs_at (M := M) (a := a) hi
  refine ⟨c, hc, e_under hM (fs := fs) ?_ hm⟩
  rw [List.getElem?_append_left (List.getElem?_eq_some_iff.mp hl).1]
  exact hl

theorem comp9 (hM : M.all pureOb = true) (ha : pureD a = true) (h : P nine (M ++ exs a)) : wO (eLc [6] (iA (eSl (eVar 4) oNone (oSome (eC (.int 9))))) (gN 6) fYes (eFn F_q_under (aCons (eVar 6) aNil)) [s, x1, x2, x3, some (.lst (refs M.length)), x5, x6, x7, x8] (M ++ exs a)) P := by
  have hp := exs_pure hM ha
  obtain ⟨chk, e, hc⟩ := take9 (n := M.length) (M := M ++ exs a) (s := s) (x1 := x1) (x2 := x2) (x3 := x3) (x5 := x5) (x6 := x6) (x7 := x7) (x8 := x8)
  rw [w_lcX, e]
  show _ ∧ _
  refine ⟨le_line (show 9 ≤ 4000000 by decide), ?_⟩
  have u : ∀ i, i < 13 → ∃ c, nmsX[i]? = some c ∧ callF F_q_under [.ref (M.length + i)] (M ++ exs a) = .ok (.lst (undL c)) (M ++ exs a) := fun i hi => by
    obtain ⟨c, h1, h2⟩ := und_at (M := M) (a := a) hi (o := []) (by rw [List.append_nil]; exact hp)
    rw [List.append_nil] at h2
    exact ⟨c, h1, h2⟩
  have v : ∀ i (hi : i < 13) c, nmsX[i]? = some c → callF F_q_under [.ref (M.length + i)] (M ++ exs a) = .ok (.lst (undL c)) (M ++ exs a) := fun i hi c hc => by
    obtain ⟨c', h1, h2⟩ := u i hi
    rw [hc] at h1
    cases h1
    exact h2
  refine cp_und (.cons (v 0 (by decide) _ rfl) (.cons (v 1 (by decide) _ rfl) (.cons (v 2 (by decide) _ rfl) (.cons (v 3 (by decide) _ rfl) (.cons (v 4 (by decide) _ rfl) (.cons (v 5 (by decide) _ rfl) (.cons (v 6 (by decide) _ rfl) (.cons (v 7 (by decide) _ rfl) (.cons (v 8 (by decide) _ rfl) .nil))))))))) hc (fun d => by simp [wipeE]) h
theorem comp4 {o : Ob} (hM : M.all pureOb = true) (ha : pureD a = true) (ho : pureOb o = true) (h : P four (M ++ exs a ++ [o])) : wO (eLc [6] (iA (eSl (eVar 4) (oSome (eC (.int 9))) oNone)) (gN 6) fYes (eFn F_q_under (aCons (eVar 6) aNil)) [s, x1, x2, x3, some (.lst (refs M.length)), x5, x6, x7, x8] (M ++ exs a ++ [o])) P := by
  have hp : (M ++ exs a ++ [o]).all pureOb = true := by
    rw [List.all_append, exs_pure hM ha]
    show (true && (pureOb o && true)) = true
    rw [ho]; rfl
  obtain ⟨chk, e, hc⟩ := drop9 (n := M.length) (M := M ++ exs a ++ [o]) (s := s) (x1 := x1) (x2 := x2) (x3 := x3) (x5 := x5) (x6 := x6) (x7 := x7) (x8 := x8)
  rw [w_lcX, e]
  show _ ∧ _
  refine ⟨le_line (show 4 ≤ 4000000 by decide), ?_⟩
  have v : ∀ i (hi : i < 13) c, nmsX[i]? = some c → callF F_q_under [.ref (M.length + i)] (M ++ exs a ++ [o]) = .ok (.lst (undL c)) (M ++ exs a ++ [o]) := fun i hi c hc => by
    obtain ⟨c', h1, h2⟩ := und_at (M := M) (a := a) hi (o := [o]) hp
    rw [hc] at h1
    cases h1
    exact h2
  refine cp_und (.cons (v 9 (by decide) _ rfl) (.cons (v 10 (by decide) _ rfl) (.cons (v 11 (by decide) _ rfl) (.cons (v 12 (by decide) _ rfl) .nil)))) hc (fun d => by simp [wipeE]) h
theorem set_concat {o o' : Ob} {M : Mem} : (M ++ [o]).set M.length o' = M ++ [o'] := by
  rw [List.set_append_right _ _ (Nat.le_refl _), Nat.sub_self]; rfl
theorem gNe_ref {xs ys : List D} (h : M[l]? = some (.lst ys)) : gNe (.lst xs) (.ref l) M = gNe (.lst xs) (.lst ys) M := by
  unfold gNe
  have e1 : valD M (.ref l) = .lst ys := by
    show (match M[l]? with
      | some (.lst xs) => D.lst xs
      | _ => D.ref l) = _
    rw [h]
  have e2 : ∀ z : List D, valD M (.lst z) = .lst z := fun z => rfl
  rw [e1, e2, e2]
def row (b1 b2 b3 b4 b5 b6 b7 : Bool) : D := .lst [.bl b1, .bl b2, .bl b3, .bl b4, .bl b5, .bl b6, .bl b7]
theorem ne4 : gNe four (.lst [row false false true false false false false, row false false true true false false false, row false false false false true false false, row false false false false false true false]) M = .ok (.bl false) M := by kernel_rfl
theorem if_seq {fb : Ev} {s1 s2 : Sx} : wS (sSeq (sIf fb s1 sNil) s2 env M) W = wO (fb env M) fun x M => ifB x (wS (s1 env M) { nx := fun e M => wS (s2 e M) W, rt := W.rt, bk := W.bk, ct := W.ct }) (wS (s2 env M) W) := by
  rw [w_seq, w_sif]
  rfl
theorem tail (hM : M.all pureOb = true) (ha : pureD a = true) (hW : ∀ y1 y2 y3 y4 y5 y6 y7 M', M'.all pureOb = true → W.nx [s, y1, y2, y3, y4, y5, y6, y7, none] M') : wS (c_law_6 [s, x1, x2, x3, some (.lst (refs M.length)), x5, x6, x7, none] (M ++ exs a)) W := by
  have hp := exs_pure hM ha
  obtain ⟨fe, he⟩ : ∃ fe, fe = eLc [6] (iA (eSl (eVar 4) oNone (oSome (eC (.int 9))))) (gN 6) fYes (eFn F_q_under (aCons (eVar 6) aNil)) := ⟨_, rfl⟩
  obtain ⟨fr, hr⟩ : ∃ fr, fr = eOp gMul (eLst (aCons (eOp gAdd (eLst (aCons (eC (.bl true)) (aCons (eC (.bl true)) aNil))) (eOp gMul (eLst (aCons (eC (.bl false)) aNil)) (eC (.int 5)))) aNil)) (eC (.int 9)) := ⟨_, rfl⟩
  obtain ⟨C5, hC5⟩ : ∃ C, C = c_law_5 := ⟨_, rfl⟩
  unfold c_law_6
  rw [← he, ← hr, ← hC5]
  rw [if_seq, w_op, he]
  refine comp9 hM ha ?_
  obtain ⟨y, hy, ny⟩ := rhs9 (M := M ++ exs a) (env := [s, x1, x2, x3, some (.lst (refs M.length)), x5, x6, x7, none])
  rw [hr, hy]
  show wO (gNe nine y (M ++ exs a)) _
  rw [ny]
  show wS (C5 _ _) W
  obtain ⟨r1, h1⟩ : ∃ r, r = row false false true false false false false := ⟨_, rfl⟩
  obtain ⟨r2, h2⟩ : ∃ r, r = row false false true true false false false := ⟨_, rfl⟩
  obtain ⟨r3, h3⟩ : ∃ r, r = row false false false false true false false := ⟨_, rfl⟩
  obtain ⟨r4, h4⟩ : ∃ r, r = row false false false false false true false := ⟨_, rfl⟩
  obtain ⟨C2, hC2⟩ : ∃ C, C = c_law_2 := ⟨_, rfl⟩
  obtain ⟨M3, hM3⟩ : ∃ M3, M3 = M ++ exs a := ⟨_, rfl⟩
  have at_ : ∀ o : Ob, (M3 ++ [o])[M3.length]? = some o := fun o => List.getElem?_concat_length
  rw [hC5, ← hM3]
  simp only [c_law_5, w_defn1, w_defn2, w_defn3, w_defn4, w_defn5, w_seq, w_snil, w_asg, w_expr, w_ret, w_retN, w_brk, w_cont, w_sif, ifB_bl, notB_bl, w_gN, w_par, w_par3, w_gsNil, w_gsCons, w_gT2, w_gT3, w_gTi2, w_var0, w_varS, w_c, w_nil, w_cons, w_tup, w_lst, w_new, w_newD, w_op, w_gI, w_add, w_chain, w_not, w_and, w_or, w_if, w_call, w_fn, w_fnN, w_make, w_neg, w_negI, w_t20, w_t21, w_t30, w_t31, w_t32, w_min2, w_max2, w_lenT, w_for, w_iA, wO_ok, w_cmt, List.map, List.replicate, List.set, List.append, wipeE, decide_eq_true_eq, Bool.not_true, Bool.not_false, Bool.false_eq_true, if_true, if_false, Bool.not_eq_true, decide_eq_false_iff_not, Bool.true_eq_false, reduceIte, decide_true, decide_false, Nat.reduceSub, Nat.add_zero]
  simp only [c_law_4, w_defn1, w_defn2, w_defn3, w_defn4, w_defn5, w_seq, w_snil, w_asg, w_expr, w_ret, w_retN, w_brk, w_cont, w_sif, ifB_bl, notB_bl, w_gN, w_par, w_par3, w_gsNil, w_gsCons, w_gT2, w_gT3, w_gTi2, w_var0, w_varS, w_c, w_nil, w_cons, w_tup, w_lst, w_new, w_newD, w_op, w_gI, w_add, w_chain, w_not, w_and, w_or, w_if, w_call, w_fn, w_fnN, w_make, w_neg, w_negI, w_t20, w_t21, w_t30, w_t31, w_t32, w_min2, w_max2, w_lenT, w_for, w_iA, wO_ok, w_cmt, List.map, List.replicate, List.set, List.append, wipeE, decide_eq_true_eq, Bool.not_true, Bool.not_false, Bool.false_eq_true, if_true, if_false, Bool.not_eq_true, decide_eq_false_iff_not, Bool.true_eq_false, reduceIte, decide_true, decide_false, Nat.reduceSub, Nat.add_zero, w_app, appW, at_, set_concat]
  refine ⟨by show 2 < sizeLine; rw [PySem.sizeLine_eq]; omega, ?_⟩
  simp only [c_law_3, ← hC2, w_defn1, w_defn2, w_defn3, w_defn4, w_defn5, w_seq, w_snil, w_asg, w_expr, w_ret, w_retN, w_brk, w_cont, w_sif, ifB_bl, notB_bl, w_gN, w_par, w_par3, w_gsNil, w_gsCons, w_gT2, w_gT3, w_gTi2, w_var0, w_varS, w_c, w_nil, w_cons, w_tup, w_lst, w_new, w_newD, w_op, w_gI, w_add, w_chain, w_not, w_and, w_or, w_if, w_call, w_fn, w_fnN, w_make, w_neg, w_negI, w_t20, w_t21, w_t30, w_t31, w_t32, w_min2, w_max2, w_lenT, w_for, w_iA, wO_ok, w_cmt, List.map, List.replicate, List.set, List.append, wipeE, decide_eq_true_eq, Bool.not_true, Bool.not_false, Bool.false_eq_true, if_true, if_false, Bool.not_eq_true, decide_eq_false_iff_not, Bool.true_eq_false, reduceIte, decide_true, decide_false, Nat.reduceSub, Nat.add_zero, w_app, appW, at_, set_concat]
  refine ⟨by show 3 < sizeLine; rw [PySem.sizeLine_eq]; omega, ?_⟩
  show wS (C2 [s, x1, x2, x3, some (.lst (refs M.length)), x5, x6, some (.ref M3.length), none] (M3 ++ [.lst [row false false true false false false false, row false false true true false false false, row false false false false true false false, row false false false false false true false]])) W
  obtain ⟨ob, hob⟩ : ∃ ob, ob = Ob.lst [row false false true false false false false, row false false true true false false false, row false false false false true false false, row false false false false false true false] := ⟨_, rfl⟩
  have po : pureOb ob = true := by rw [hob]; rfl
  rw [← hob, hC2, hM3]
  obtain ⟨fe, he⟩ : ∃ fe, fe = eLc [6] (iA (eSl (eVar 4) (oSome (eC (.int 9))) oNone)) (gN 6) fYes (eFn F_q_under (aCons (eVar 6) aNil)) := ⟨_, rfl⟩
  unfold c_law_2
  rw [← he, w_sif, w_op, he]
  refine comp4 hM ha po ?_
  show wO (gNe four (.ref (M ++ exs a).length) (M ++ exs a ++ [ob])) _
  have e := gNe_ref (M := M ++ exs a ++ [ob]) (l := (M ++ exs a).length) (xs := [undL "EmptyHeap" |> .lst, undL "OutOfRange" |> .lst, undL "LimitExceeded" |> .lst, undL "NothingToUndo" |> .lst]) (ys := [row false false true false false false false, row false false true true false false false, row false false false false true false false, row false false false false false true false]) (by rw [← hob]; exact List.getElem?_concat_length)
  have e' : gNe four (.ref (M ++ exs a).length) (M ++ exs a ++ [ob]) = .ok (.bl false) (M ++ exs a ++ [ob]) := e.trans ne4
  rw [e']
  refine hW _ _ _ _ _ _ _ _ ?_
  rw [List.all_append, hp]
  show (true && (pureOb ob && true)) = true
  rw [po]; rfl

def Good (a : D) : Prop := a = .non ∨ (∃ n : Nat, n < 99 ∧ a = .int (n : Nat)) ∨ a = .str "x" ∨ a = .tup [.int 1, .int 2]
theorem Good.pure (h : Good a) : pureD a = true := by
  rcases h with rfl | ⟨n, _, rfl⟩ | rfl | rfl <;> rfl
theorem isTr_call {F : Fn} (hp : puresD [a] = true) (h : isTr (F [a] []) = true) : callF F [a] M = .ok (.bl true) M := by
  unfold callF
  rw [if_pos hp]
  unfold isTr at h
  split at h
  · rename_i M' e
    rw [e]
    rfl
  · cases h
theorem fields_ok (h : Good a) : callF F_q_fields_hold [a] M = .ok (.bl true) M := by
  have p : puresD [a] = true := by
    show (pureD a && true) = true
    rw [h.pure]; rfl
  refine isTr_call p ?_
  rcases h with rfl | ⟨n, hn, rfl⟩ | rfl | rfl
  · exact f_non
  · exact f_int n hn
  · exact f_str
  · exact f_tup
theorem pick {r k : Int} (r0 : 0 ≤ r) (r1 : r < 99) (k0 : 0 ≤ k) (k1 : k < 4) (h : ∀ a, Good a → P a M) : wO (gIx (.lst [.non, .int r, .str "x", .tup [.int 1, .int 2]]) (.int k) M) P := by
  obtain ⟨n, rfl⟩ : ∃ n : Nat, r = (n : Nat) := ⟨r.toNat, by omega⟩
  have hk : k = 0 ∨ k = 1 ∨ k = 2 ∨ k = 3 := by omega
  rcases hk with rfl | rfl | rfl | rfl
  · exact h _ (.inl rfl)
  · exact h _ (.inr (.inl ⟨n, by omega, rfl⟩))
  · exact h _ (.inr (.inr (.inl rfl)))
  · exact h _ (.inr (.inr (.inr rfl)))
theorem enum_at {i : Nat} {d : D} (h : (enumD (refs n))[i]? = some d) : i < 13 ∧ d = .itm [.int (i : Nat), .ref (n + i)] := by
  have e : enumD (refs n) = (List.range 13).map fun i => .itm [.int (i : Nat), .ref (n + i)] := rfl
  rw [e, List.getElem?_map] at h
  cases q : (List.range 13)[i]? with
  | none => rw [q] at h; cases h
  | some j =>
    rw [q] at h
    obtain ⟨h1, h2⟩ := List.getElem?_eq_some_iff.mp q
    rw [List.getElem_range] at h2
    rw [List.length_range] at h1
    cases h
    exact ⟨h1, by rw [h2]⟩
theorem loop (hM : M.all pureOb = true) (ha : pureD a = true) (hW : ∀ y1 y2 y3 y4 y5 y6 y7 M', M'.all pureOb = true → W.nx [s, y1, y2, y3, y4, y5, y6, y7, none] M') : wS (c_law_7 [s, x1, x2, x3, some (.lst (refs M.length)), x5, x6, x7, none] (M ++ exs a)) W := by
  obtain ⟨C1, hC1⟩ : ∃ C, C = c_law_1 := ⟨_, rfl⟩
  obtain ⟨C6, hC6⟩ : ∃ C, C = c_law_6 := ⟨_, rfl⟩
  obtain ⟨R, hR⟩ : ∃ R, R = refs M.length := ⟨_, rfl⟩
  obtain ⟨M3, hM3⟩ : ∃ M3, M3 = M ++ exs a := ⟨_, rfl⟩
  rw [← hR, ← hM3]
  unfold c_law_7
  rw [← hC1, ← hC6]
  simp only [w_defn1, w_defn2, w_defn3, w_defn4, w_defn5, w_seq, w_snil, w_asg, w_expr, w_ret, w_retN, w_brk, w_cont, w_sif, ifB_bl, notB_bl, w_gN, w_par, w_par3, w_gsNil, w_gsCons, w_gT2, w_gT3, w_gTi2, w_var0, w_varS, w_c, w_nil, w_cons, w_tup, w_lst, w_new, w_newD, w_op, w_gI, w_add, w_chain, w_not, w_and, w_or, w_if, w_call, w_fn, w_fnN, w_make, w_neg, w_negI, w_t20, w_t21, w_t30, w_t31, w_t32, w_min2, w_max2, w_lenT, w_for, w_iA, wO_ok, w_cmt, List.map, List.replicate, List.set, List.append, wipeE, decide_eq_true_eq, Bool.not_true, Bool.not_false, Bool.false_eq_true, if_true, if_false, Bool.not_eq_true, decide_eq_false_iff_not, Bool.true_eq_false, reduceIte, decide_true, decide_false, Nat.reduceSub, Nat.add_zero, w_iEnA]
  show wS (forD [1, 2, 3, 5, 6, 7] (chkL (.lst R) R) (gT 2 (gsCons (gN 5) (gsCons (gN 6) gsNil))) C1 (enumD R) _ M3) _
  refine w_forD (fun i e M' => e = [s, none, none, none, some (.lst R), none, none, none, none] ∧ M' = M3) ⟨by simp [wipeE], rfl⟩ (fun _ _ _ _ => rfl) ?_ ?_
  · rintro i d e M' hd ⟨rfl, rfl⟩
    rw [hR] at hd
    obtain ⟨hi, rfl⟩ := enum_at hd
    simp only [w_defn1, w_defn2, w_defn3, w_defn4, w_defn5, w_seq, w_snil, w_asg, w_expr, w_ret, w_retN, w_brk, w_cont, w_sif, ifB_bl, notB_bl, w_gN, w_par, w_par3, w_gsNil, w_gsCons, w_gT2, w_gT3, w_gTi2, w_var0, w_varS, w_c, w_nil, w_cons, w_tup, w_lst, w_new, w_newD, w_op, w_gI, w_add, w_chain, w_not, w_and, w_or, w_if, w_call, w_fn, w_fnN, w_make, w_neg, w_negI, w_t20, w_t21, w_t30, w_t31, w_t32, w_min2, w_max2, w_lenT, w_for, w_iA, wO_ok, w_cmt, List.map, List.replicate, List.set, List.append, wipeE, decide_eq_true_eq, Bool.not_true, Bool.not_false, Bool.false_eq_true, if_true, if_false, Bool.not_eq_true, decide_eq_false_iff_not, Bool.true_eq_false, reduceIte, decide_true, decide_false, Nat.reduceSub, Nat.add_zero]
    rw [hC1, hM3]
    exact own_turn (x1 := none) (x2 := none) (x3 := none) (x4 := some (.lst R)) (x7 := none) (x8 := none) (s := s) hi hM ha ⟨by simp [EV, wipeE], rfl⟩
  · rintro e M' ⟨rfl, rfl⟩
    rw [hC6, hM3, hR]
    exact tail hM ha hW
end
theorem law_true (ns : List Int) (h : ns.length ≤ 63) : ∃ M, F_law [.fzl (ns.map .int)] [] = .ok (.bl true) M := by
  obtain ⟨C10, hC10⟩ : ∃ C, C = c_law_10 := ⟨_, rfl⟩
  obtain ⟨C11, hC11⟩ : ∃ C, C = c_law_11 := ⟨_, rfl⟩
  have key : wO (F_law [.fzl (ns.map .int)] []) fun d _ => d = .bl true := by
    simp only [F_law, c_law, w_defn1, w_defn2, w_defn3, w_defn4, w_defn5, w_seq, w_snil, w_asg, w_expr, w_ret, w_retN, w_brk, w_cont, w_sif, ifB_bl, notB_bl, w_gN, w_par, w_par3, w_gsNil, w_gsCons, w_gT2, w_gT3, w_gTi2, w_var0, w_varS, w_c, w_nil, w_cons, w_tup, w_lst, w_new, w_newD, w_op, w_gI, w_add, w_chain, w_not, w_and, w_or, w_if, w_call, w_fn, w_fnN, w_make, w_neg, w_negI, w_t20, w_t21, w_t30, w_t31, w_t32, w_min2, w_max2, w_lenT, w_for, w_iA, wO_ok, w_cmt, List.map, List.replicate, List.set, List.append, wipeE, decide_eq_true_eq, Bool.not_true, Bool.not_false, Bool.false_eq_true, if_true, if_false, Bool.not_eq_true, decide_eq_false_iff_not, Bool.true_eq_false, reduceIte, decide_true, decide_false, Nat.reduceSub, Nat.add_zero, w_iR1, w_lenF, w_max2, w_min2, w_r1I, List.length_map]
    obtain ⟨t1, t2⟩ := turns ns.length 4 h (by omega) (by omega)
    refine ⟨t1, ?_⟩
    generalize hs : D.fzl (ns.map .int) = s
    refine w_forD (fun i e M => e = [some s, none, none, none, none, none, none, none, none] ∧ M.all pureOb = true) ⟨rfl, rfl⟩ (fun _ _ _ _ => rfl) ?_ ?_
    · rintro i d e M hd ⟨he, hM⟩
      obtain ⟨hi, rfl⟩ := range_at hd
      rw [he]
      simp only [c_law_13, w_defn1, w_defn2, w_defn3, w_defn4, w_defn5, w_seq, w_snil, w_asg, w_expr, w_ret, w_retN, w_brk, w_cont, w_sif, ifB_bl, notB_bl, w_gN, w_par, w_par3, w_gsNil, w_gsCons, w_gT2, w_gT3, w_gTi2, w_var0, w_varS, w_c, w_nil, w_cons, w_tup, w_lst, w_new, w_newD, w_op, w_gI, w_add, w_chain, w_not, w_and, w_or, w_if, w_call, w_fn, w_fnN, w_make, w_neg, w_negI, w_t20, w_t21, w_t30, w_t31, w_t32, w_min2, w_max2, w_lenT, w_for, w_iA, wO_ok, w_cmt, List.map, List.replicate, List.set, List.append, wipeE, decide_eq_true_eq, Bool.not_true, Bool.not_false, Bool.false_eq_true, if_true, if_false, Bool.not_eq_true, decide_eq_false_iff_not, Bool.true_eq_false, reduceIte, decide_true, decide_false, Nat.reduceSub, Nat.add_zero]
      rw [← hs]
      refine sp_pool_ (k := 0 + (i : Int)) (by omega) (by omega) fun a0 a1 hx => ?_
      rw [hs]
      have st0 : StP M.length (M ++ [.lst [.int a0, .int a1]]) := ⟨⟨a0, a1, hx, List.getElem?_concat_length⟩, by rw [List.all_append, hM]; rfl⟩
      simp only [c_law_12, ← hC11, w_defn1, w_defn2, w_defn3, w_defn4, w_defn5, w_seq, w_snil, w_asg, w_expr, w_ret, w_retN, w_brk, w_cont, w_sif, ifB_bl, notB_bl, w_gN, w_par, w_par3, w_gsNil, w_gsCons, w_gT2, w_gT3, w_gTi2, w_var0, w_varS, w_c, w_nil, w_cons, w_tup, w_lst, w_new, w_newD, w_op, w_gI, w_add, w_chain, w_not, w_and, w_or, w_if, w_call, w_fn, w_fnN, w_make, w_neg, w_negI, w_t20, w_t21, w_t30, w_t31, w_t32, w_min2, w_max2, w_lenT, w_for, w_iA, wO_ok, w_cmt, List.map, List.replicate, List.set, List.append, wipeE, decide_eq_true_eq, Bool.not_true, Bool.not_false, Bool.false_eq_true, if_true, if_false, Bool.not_eq_true, decide_eq_false_iff_not, Bool.true_eq_false, reduceIte, decide_true, decide_false, Nat.reduceSub, Nat.add_zero]
      refine sp_drawS st0 (by decide) (by decide) fun r M1 r0 r1 n1 => ?_
      try simp only [w_defn1, w_defn2, w_defn3, w_defn4, w_defn5, w_seq, w_snil, w_asg, w_expr, w_ret, w_retN, w_brk, w_cont, w_sif, ifB_bl, notB_bl, w_gN, w_par, w_par3, w_gsNil, w_gsCons, w_gT2, w_gT3, w_gTi2, w_var0, w_varS, w_c, w_nil, w_cons, w_tup, w_lst, w_new, w_newD, w_op, w_gI, w_add, w_chain, w_not, w_and, w_or, w_if, w_call, w_fn, w_fnN, w_make, w_neg, w_negI, w_t20, w_t21, w_t30, w_t31, w_t32, w_min2, w_max2, w_lenT, w_for, w_iA, wO_ok, w_cmt, List.map, List.replicate, List.set, List.append, wipeE, decide_eq_true_eq, Bool.not_true, Bool.not_false, Bool.false_eq_true, if_true, if_false, Bool.not_eq_true, decide_eq_false_iff_not, Bool.true_eq_false, reduceIte, decide_true, decide_false, Nat.reduceSub, Nat.add_zero]
      refine sp_drawS n1.1 (by decide) (by decide) fun k M2 k0 k1 n2 => ?_
      refine pick r0 r1 k0 k1 fun a ga => ?_
      try simp only [w_defn1, w_defn2, w_defn3, w_defn4, w_defn5, w_seq, w_snil, w_asg, w_expr, w_ret, w_retN, w_brk, w_cont, w_sif, ifB_bl, notB_bl, w_gN, w_par, w_par3, w_gsNil, w_gsCons, w_gT2, w_gT3, w_gTi2, w_var0, w_varS, w_c, w_nil, w_cons, w_tup, w_lst, w_new, w_newD, w_op, w_gI, w_add, w_chain, w_not, w_and, w_or, w_if, w_call, w_fn, w_fnN, w_make, w_neg, w_negI, w_t20, w_t21, w_t30, w_t31, w_t32, w_min2, w_max2, w_lenT, w_for, w_iA, wO_ok, w_cmt, List.map, List.replicate, List.set, List.append, wipeE, decide_eq_true_eq, Bool.not_true, Bool.not_false, Bool.false_eq_true, if_true, if_false, Bool.not_eq_true, decide_eq_false_iff_not, Bool.true_eq_false, reduceIte, decide_true, decide_false, Nat.reduceSub, Nat.add_zero]
      rw [hC11]
      unfold c_law_11
      rw [← hC10]
      have fo := fields_ok (M := M2) ga
      rw [if_seq]
      have ev : eNot (eFn F_q_fields_hold (aCons (eVar 3) aNil)) [some s, some (.int (0 + (i : Int))), some (.ref M.length), some a, none, none, none, none, none] M2 = .ok (.bl false) M2 := by
        show (callF F_q_fields_hold [a] M2).bind _ = _
        rw [fo]
        rfl
      rw [ev]
      show wS (C10 _ M2) _
      rw [hC10]
      refine mk_all ?_
      refine loop n2.1.2 ga.pure fun y1 y2 y3 y4 y5 y6 y7 M' hM' => ⟨rfl, hM'⟩
    · rintro e M ⟨he, hM⟩
      simp only [c_law_14, w_defn1, w_defn2, w_defn3, w_defn4, w_defn5, w_seq, w_snil, w_asg, w_expr, w_ret, w_retN, w_brk, w_cont, w_sif, ifB_bl, notB_bl, w_gN, w_par, w_par3, w_gsNil, w_gsCons, w_gT2, w_gT3, w_gTi2, w_var0, w_varS, w_c, w_nil, w_cons, w_tup, w_lst, w_new, w_newD, w_op, w_gI, w_add, w_chain, w_not, w_and, w_or, w_if, w_call, w_fn, w_fnN, w_make, w_neg, w_negI, w_t20, w_t21, w_t30, w_t31, w_t32, w_min2, w_max2, w_lenT, w_for, w_iA, wO_ok, w_cmt, List.map, List.replicate, List.set, List.append, wipeE, decide_eq_true_eq, Bool.not_true, Bool.not_false, Bool.false_eq_true, if_true, if_false, Bool.not_eq_true, decide_eq_false_iff_not, Bool.true_eq_false, reduceIte, decide_true, decide_false, Nat.reduceSub, Nat.add_zero]
  obtain ⟨d, M, e, rfl⟩ := wO_ex key
  exact ⟨M, e⟩
end L_k05

namespace L_k05
open PySem PySem.Spec PyProof.Rows L2 DL HL
def spL (K : PySem.W.Frag) : Sp := fun vs H Q _ => ∃ (a : Addr) (ns : List Int), vs = [.ref a] ∧ ns.length ≤ 63 ∧ SqL K H a (ns.map V.int) ∧ ∀ H', Q (.bl true) H'
theorem ints_rd {K : Kx} {ρ : List Addr} {H : Hp} : ∀ ns : List Int, RDs K ρ H (ns.map D.int) (ns.map V.int)
  | [] => .nil
  | n :: ns => .cons (.int n) (ints_rd ns)
theorem quiet {P : Program} {w : World} {K : PySem.W.Frag} {mg : Str → Option Value} {base : Heap} {k : Nat} {f : Addr} {fd : FuncData} {ps : List Str} {sp : Sp} (h : ∀ vs H Q E, sp vs H Q E → sp vs H Q fun _ _ _ => False) (F : DL.FnOk P w K mg base (L2.CX P w) k f fd ps sp) : DL.FnOk P w K mg base L2.CX0 k f fd ps sp := by
  refine ⟨F.len, fun A hr outer z H e0 args us vs b r Q E q => codeAny_mono (F.run A outer z H args us vs Q (fun _ _ _ => False) hr e0 b r (h _ _ _ _ q)) fun v z' y => ?_⟩
  cases v with
  | error e =>
    obtain ⟨_, _, _, _, _, _, _, _, _, _, _, _, y⟩ := (show L2.CX P w outer H z (fun _ _ _ => False) e z' from y)
    exact y.elim
  | ok v => cases v <;> exact y
theorem ends {P : Program} {w : World} {K : PySem.W.Frag} {h : Heap} {mg : Str → Option Value} {f : Addr} (KX : K.In h) (G : h.Ns mainGlobals mg) (hf : mg ("law" : Str) = some (.ref f)) (c : Says ft fn K) (pf : DX.Pf P FILE) :
    ∃ fd : FuncData, (∀ (z : Shared) (v : Value), BindsTo z fd ⟨[v], []⟩ [("_law_script", v)]) ∧ ∀ base : Heap, K.In base → base.Ns mainGlobals mg → DL.FnOk P w K mg base L2.CX0 2 f fd ["_law_script"] (spL K) := by
  obtain ⟨fd, F⟩ := c.def_ 5 (d := d_law) rfl
  have e := hf.symm.trans (⟨KX, G, c, pf⟩ : Hd P K mg h).glo_law
  cases e
  have b := FunD.bindsA (ps := ["_law_script"]) F fun _ _ _ _ _ _ us hl => match us, hl with | [_], _ => rfl
  refine ⟨fd, fun z v => b z [v] rfl, fun base k1 k2 => ?_⟩
  have Y : Hd P K mg base := ⟨k1, k2, c, pf⟩
  refine quiet (fun vs H Q E q => q) (fnD_ok F sc_law (fun vs H Q E q => ?_) fun cdv A outer z H vs Q E hr q => run_body sc_law (Y.b_law cdv A outer z H E _ hr) ?_)
  · obtain ⟨a, ns, rfl, _⟩ := q
    rfl
  · obtain ⟨a, ns, rfl, hl, hs, hq⟩ := q
    obtain ⟨M, hM⟩ := law_true ns hl
    have hf : SqLf ⟨K, []⟩ [] H a (ns.map V.int) := hs.elim (fun z => .inl ⟨z, by simp, by simp⟩) .inr
    refine ⟨[], [], [.fzl (ns.map .int)], [], rfl, .cons (.fzl hf (ints_rd ns)) .nil, ⟨.nil, rfl, fun a z => by simp at z, fun l ob a z => by simp at z, tNoTab_ok Y.notab⟩, ?_⟩
    show PostF _ _ _ (F_law _ _) _ _
    rw [hM]
    intro ρ1 H1 v _ _ r
    cases r
    exact hq H1
end L_k05
open PySem PyProof.Rows PySem.W PySem.Calls
theorem PySem.Challenge.cw_heapeffects_k05_classes_of_errors_holds : PySem.Challenge.rw_heapeffects_k05_classes_of_errors.Holds := by
  w_on; o_law
  refine HandSHeadRun.head_any (r := OpenLaw.row PySem.Challenge.rw_heapeffects_k05_classes_of_errors) (q := view (OpenLaw.row PySem.Challenge.rw_heapeffects_k05_classes_of_errors).prog [21]) (H := L_k05.hk) (ob := L_k05.ob) (M := 12000) (loose := L_k05.nms) (d := HandSHeadRun.topDef (OpenLaw.row PySem.Challenge.rw_heapeffects_k05_classes_of_errors).prog 21) (kwd := []) L_k05.obEq
    (by kernel_rfl) (fun z => by kernel_rfl) L_k05.runs (by kernel_rfl) (by kernel_rfl) (by kernel_rfl) (by rfl) (by first | assumption | decide +kernel) (by decide +kernel) ⟨rfl, rfl, rfl, rfl, rfl, by decide +kernel⟩ ?hw ?hc
  case hw => w_witness2
  case hc =>
    refine DL.walk_ofG (l := PySem.Challenge.rw_heapeffects_k05_classes_of_errors) (n := 63) (k := 2) (par := "_law_script") (cx := L2.CX0) rfl (by decide) (by kernel_rfl) ⟨rfl, by decide, by decide⟩ ?F ?G
    case F =>
      intro w mg fa h Y G hmg0
      obtain ⟨K, KX, c⟩ := Y
      have hmg : mg (PySem.Str.ofString "law") = some (.ref fa) := by
        have e : (HandSHeadRun.topDef (OpenLaw.row PySem.Challenge.rw_heapeffects_k05_classes_of_errors).prog 21).name = ("law" : PySem.Str) := by kernel_rfl
        rw [← e]
        exact hmg0
      obtain ⟨fd, hb, hF⟩ := L_k05.ends (P := PySem.Challenge.rw_heapeffects_k05_classes_of_errors.prog) (w := w) KX G hmg c ⟨by kernel_rfl, by kernel_rfl⟩
      exact ⟨K, fd, L_k05.spL K, KX, hb, fun H a ns hl hS => ⟨a, ns, rfl, hl, hS, fun _ => rfl⟩, hF⟩
    case G => exact fun _ _ _ _ z => z

