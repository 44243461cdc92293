import PyProof.Rows.All
import Wide.All
import OpenK.AllK
import Wide.FinOn
import HandS.ForMost
import HandS.Exc
import HandS.WordsExc
import HandS.Walk
import HandS.HeadHook1
import HandS.HeadHook2
import HandS.Flow
import HandS.Deep
import HandS.TupAny
import HandS.TupMul
import HandS.FStr
import HandS.IsInst
import HandS.Defaults
import HandS.Wide
import HandS.Conv
import HandS.Zip
import HandS.SortKw
import HandS.TupSets
import HandS.RaiseMore
import HandS.Codes
import HandS.Style
import HandS.Small
import HandS.ClsMeth
import HandS.Property
import HandS.MakeKw
import HandS.OwnEq
import HandS.Replace
import HandS.Lambda
import KE.GoesEnum
import HandS.TryOnly
import HandS.HeadHook4
import PyProof.InstEq
import PyProof.CallStr
import OpenK.KOps
import KE.DataFind
import HandS.Star
import HandS.SortOrd
import HandS.SortRule
import HandS.SortInts
import HandS.Zip0
import KE.KDictZip
import KE.KExcSuper
import KE.KExcIs
import KE.KTryMore
import KE.KStateDown
import Lean
import HandS.Head0
import HandS.Head1
import HandS.Head2
import HandS.HeadEnd
import HandS.HeadNt
import PyProof.DictUpdate
import PyProof.DictDisplay
import HandS.List
import HandS.More
import HandS.Text
import HandS.SetFor
import HandS.Strs
import KE.DataMinMax
import HandS.TupLen
import KE.KDictCopyH
import KE.KDictSum
import KE.KDictPairs
import KE.KDictKeyed
import KE.SortKeyHeap
import HandS.ListItems
import HandS.ExcOwn
import HandS.ExcInit
import HandS.ExcIs
import HandS.ExcField
import HandS.HotCalls
import KE.GoesZip
import KE.GoesMore
import HandS.TupLe
import HandS.HeadHook3
import HandS.DictComp
import HandS.TryMany
import HandS.DictEq
import KE.DataEq
import PySem.Challenge.RW_budgetfolds_k01_limits_and_errors
section
set_option Elab.async false
set_option linter.all false
set_option maxRecDepth 100000
set_option maxHeartbeats 2000000
namespace DL
open PySem PySem.Spec PyProof.Rows L2
/-- a def that has cells holds lambdas: the table of its code object, the lambdas' name -/
def tb1 (K : PySem.W.Frag) (x : Addr × Obj) : Option (Addr × Str) := match x.2.data with
  | .func fd => if fd.scope.names.any (fun y => y.2 == NameKind.cell) then (match fd.code with
      | .ref c => (match K.lookup c with
          | some oc => (match oc.data with
              | .fields vs => (match (vs[11]? : Option Value) with
                  | some (.ref P) => some (P, fd.qualname ++ ".<locals>.<lambda>")
                  | _ => none)
              | _ => none)
          | none => none)
      | _ => none) else none
  | _ => none
/-- .. and its code object -/
def tb2 (K : PySem.W.Frag) (x : Addr × Obj) : Option (Addr × Addr) := match x.2.data with
  | .func fd => if fd.scope.names.any (fun y => y.2 == NameKind.cell) then (match fd.code with
      | .ref c => (match K.lookup c with
          | some oc => (match oc.data with
              | .fields vs => (match (vs[11]? : Option Value) with
                  | some (.ref P) => some (c, P)
                  | _ => none)
              | _ => none)
          | none => none)
      | _ => none) else none
  | _ => none
@[irreducible] def tbC (K : PySem.W.Frag) : List (Addr × Addr) := K.filterMap (tb2 K)
@[irreducible] def tbOf (K : PySem.W.Frag) : List (Addr × Str) := K.filterMap (tb1 K)
end DL
set_option maxHeartbeats 2000000
namespace DL
open PySem PySem.Spec PyProof.Rows L2
end DL
set_option maxHeartbeats 2000000
namespace DL
open PySem PySem.Spec PyProof.Rows L2
end DL
set_option maxHeartbeats 2000000
namespace DL
open PySem PySem.Spec PyProof.Rows L2
end DL
set_option maxHeartbeats 2000000
namespace DL
open PySem PySem.Spec PyProof.Rows L2
end DL
set_option maxHeartbeats 2000000
namespace DL
open PySem PySem.Spec PyProof.Rows L2
end DL
set_option maxHeartbeats 2000000
namespace DL
open PySem PySem.Spec PyProof.Rows L2
end DL
set_option maxHeartbeats 2000000
namespace DL
open PySem PySem.Spec PyProof.Rows L2
end DL
set_option maxHeartbeats 2000000
namespace PySem
open Sem (wp)
end PySem
namespace DL
open PySem PySem.Spec PyProof.Rows L2
end DL
set_option maxHeartbeats 2000000
namespace DL
open PySem PySem.Spec PyProof.Rows L2
end DL
set_option maxHeartbeats 2000000
namespace DL
open PySem PySem.Spec PyProof.Rows L2
end DL
set_option maxHeartbeats 2000000
namespace DL
open PySem PySem.Spec PyProof.Rows L2
end DL
set_option maxHeartbeats 2000000
namespace DL
open PySem PySem.Spec PyProof.Rows L2
end DL
set_option maxHeartbeats 2000000
namespace DL
open PySem PySem.Spec PyProof.Rows L2
end DL
set_option maxHeartbeats 2000000
namespace DL
open PySem PySem.Spec PyProof.Rows L2
end DL
set_option maxHeartbeats 2000000
namespace DL
open PySem PySem.Spec PyProof.Rows L2
section
def tys : List String := ["NoneType", "bool", "int", "str", "tuple", "list", "dict"]
def kOne (K : PySem.W.Frag) (t u : Value) (b : Bool) : Bool := decide (PySem.W.kitOne K t u = some b)
/-- what K must tell of the own classes -/
def isiB (K : PySem.W.Frag) (cls : List Str) : Bool := cls.all fun c =>
  He.eqO (PySem.W.findIn K (.ref (He.ga K c)) "__class__") (some (some (.builtin "object.__class__"))) && He.eqO (PySem.W.specialIn K (.builtin "object.__class__") "__get__") (some (some (.builtin "getset_descriptor.__get__"))) &&
  decide (PySem.W.takesIn K (.builtin "object.__class__") = some true) && decide (PySem.W.mroIn K (He.ga K c) (.type "object") = some true) && (He.Fa.cls c).ok K &&
  (cls.all fun n => kOne K (.ref (He.ga K c)) (.ref (He.ga K n)) (decide (c = n))) && (tys.all fun t => kOne K (.ref (He.ga K c)) (.type t) false && kOne K (.type t) (.ref (He.ga K c)) false)
end
end DL
set_option maxHeartbeats 2000000
namespace DL
open PySem PySem.Spec PyProof.Rows L2
end DL
set_option maxHeartbeats 2000000
namespace PySem.W
open PySem PySem.Calls PyProof.Rows Builtin
end PySem.W
set_option maxHeartbeats 2000000
namespace PySem.W
open PySem PySem.Calls PyProof.Rows Builtin
end PySem.W
namespace DL
open PySem PySem.Spec PyProof.Rows L2
/-- what K must tell for the own == of the class cn -/
def eqB (K : PySem.W.Frag) (cls : List Str) (cn : Str) : Bool :=
  (tys.all fun t => PySem.W.notFirst K (He.ga K cn) (.type t)) && (cls.all fun c => PySem.W.notFirst K (He.ga K cn) (.ref (He.ga K c))) &&
  He.eqO (PySem.W.findIn K (.ref (He.ga K cn)) "__ne__") (some (some (.builtin "object.__ne__"))) && decide (PySem.W.mroIn K (He.ga K cn) (.type "object") = some true) &&
  He.eqO (PySem.W.findIn K (.ref (He.ga K cn)) "__bool__") (some none) && He.eqO (PySem.W.findIn K (.ref (He.ga K cn)) "__len__") (some none)
end DL
set_option maxHeartbeats 2000000
namespace DL
open PySem PySem.Spec PyProof.Rows L2
end DL
set_option maxHeartbeats 2000000
namespace DL
open PySem PySem.Spec PyProof.Rows L2
end DL
set_option maxHeartbeats 2000000
namespace DL
open PySem PySem.Spec PyProof.Rows L2
end DL
set_option maxHeartbeats 2000000
namespace DL
open PySem PySem.Spec PyProof.Rows L2
end DL
set_option maxHeartbeats 2000000
namespace DL
open PySem PySem.Spec PyProof.Rows L2
end DL
set_option maxHeartbeats 2000000
namespace DL
open PySem PySem.Spec PyProof.Rows L2
end DL
set_option maxHeartbeats 2000000
namespace DL
open PySem PySem.Spec PyProof.Rows L2
end DL
set_option maxHeartbeats 2000000
namespace DL
end DL
namespace DL
open PySem PySem.Spec PyProof.Rows L2
end DL
set_option maxHeartbeats 2000000
set_option maxHeartbeats 2000000
namespace DL
open PySem PySem.Spec PyProof.Rows L2
end DL
set_option maxHeartbeats 2000000
namespace DL
open PySem PySem.Spec PyProof.Rows L2
end DL
set_option maxHeartbeats 2000000
namespace DL
open PySem PySem.Spec PyProof.Rows L2
end DL
set_option maxHeartbeats 2000000
namespace DL
open PySem PySem.Spec PyProof.Rows L2
/-- the __init__ of one field -/
def xiBody (f : Str) : List Stmt → Bool
  | [.Expr (.Call (.Attribute (.Call (.Name a _) [] [] _) b p) [] [] q) _, .Assign [.Attribute (.Name c _) d _] (.Name e _) _] =>
    a == "super" && b == "__init__" && c == "self" && d == f && e == f && p.endLine == q.line
  | _ => false
def xRight : List Str := ["InvalidText", "InvalidPart", "InvalidNumber", "InvalidSite", "InvalidChoice", "InvalidName", "InvalidWish", "InvalidClaim", "InvalidPlace", "NotAProgram", "NotARule", "InvalidFunctions", "InvalidRules", "InvalidSeen", "InvalidChanges"]
def xThere : List Str := ["UnknownName", "InUse", "NotOpen"]
def xCan : List Str := ["TooMany", "OverBudget", "NothingToUndo", "Broken"]
/-- the base under which a class stands, and the built-in one -/
def xOver (c : Str) : Option (Str × String) :=
  if xRight.contains c then some ("NotRight", "ValueError") else if xThere.contains c then some ("NotThere", "LookupError") else if xCan.contains c then some ("CannotBe", "ArithmeticError") else none
def xsub (c n : Str) : Bool := n == c || (xOver c).any fun p => p.1 == n
def xsubT (c : Str) (t : String) : Bool := (xOver c).any fun p => p.2 == t
def xFld : List Str := ["given", "index", "most", "shown"]
/-- what K must tell of a class whose instances are caught -/
def xcB (K : PySem.W.Frag) (c : Str) : Bool :=
  (PySem.W.clsIn K (He.ga K c)).isSome && He.eqO (PySem.W.findIn K (.ref (He.ga K c)) "__getattribute__") (some (some (.builtin "BaseException.__getattribute__"))) && He.eqO (PySem.W.findIn K (.ref (He.ga K c)) "__getattr__") (some none) &&
  decide (PySem.W.subIn K (.ref (He.ga K c)) (.type "BaseException") = some true) && He.eqO (PySem.W.findIn K (.ref (He.ga K c)) "__class__") (some (some (.builtin "object.__class__"))) &&
  He.eqO (PySem.W.specialIn K (.builtin "object.__class__") "__get__") (some (some (.builtin "getset_descriptor.__get__"))) && decide (PySem.W.takesIn K (.builtin "object.__class__") = some true) &&
  decide (PySem.W.mroIn K (He.ga K c) (.type "object") = some true) && PySem.W.hasDictIn K (He.ga K c) && xFld.all fun f => He.eqO (PySem.W.findIn K (.ref (He.ga K c)) f) (some none)
def xsB (K : PySem.W.Frag) (cs ns : List Str) (ts : List String) : Bool := cs.all fun c => xcB K c && (ns.all fun n => kOne K (.ref (He.ga K c)) (.ref (He.ga K n)) (xsub c n)) && ts.all fun t => kOne K (.ref (He.ga K c)) (.type t) (xsubT c t)
/-- each of these classes is caught by the three bases -/
def xmB (K : PySem.W.Frag) (cs : List Str) : Bool := cs.all fun c => decide (PySem.W.exmAny K (.ref (He.ga K c)) [.ref (He.ga K "NotRight"), .ref (He.ga K "NotThere"), .ref (He.ga K "CannotBe")] = some true)
/-- among these classes each is caught by its own name alone -/
def xlB (K : PySem.W.Frag) (cs hs : List Str) : Bool := cs.all fun c => hs.all fun h => decide (PySem.W.exmOne K (.ref (He.ga K c)) (.ref (He.ga K h)) = some (decide (c = h)))
def xFile (K : PySem.W.Frag) (file : Str) : Value → Bool
  | .ref cda => (match K.lookup cda with
      | some ⟨_, _, .fields vs, _⟩ => (match (vs[2]? : Option Value) with
          | some (.str fl _) => fl == file
          | _ => false)
      | _ => false)
  | _ => false
def xCell (K : PySem.W.Frag) (Ca : Addr) : List (Str × Addr) → Bool
  | [(n, cc)] => n == "__class__" && (match K.lookup cc with
      | some ⟨_, _, .cell (some (.ref D)), _⟩ => D == Ca
      | _ => false)
  | _ => false
def xPar (f : Str) : Arguments → Bool
  | ⟨[], [⟨a, _, _⟩, ⟨b, _, _⟩], none, [], [], none, []⟩ => a == "self" && b == f
  | _ => false
def xScope (f : Str) (sc : Scope) : Bool :=
  decide (sc.kind = .function) && !sc.isCoroutine && !sc.isGenerator && (sc.names.all fun x => !decide (x.2 = .cell)) && decide (sc.names.lookup ("super" : Str) = some .globalImplicit) && decide (sc.names.lookup ("__class__" : Str) = some .free) &&
  decide (sc.names.lookup ("self" : Str) = some .local) && decide (sc.names.lookup f = some .local)
def xFn (K : PySem.W.Frag) (Ca : Addr) (f file : Str) : Option Obj → Bool
  | some ⟨_, _, .func fd, _⟩ => fd.name == "__init__" && decide (fd.globals = mainGlobals) && decide (fd.builtins = builtinsNs) && (match fd.body with
      | .stmts b => xiBody f b
      | _ => false) && xCell K Ca fd.closure && PySem.W.codeIn K fd.code fd.qualname && xFile K file fd.code && xPar f fd.params && (match fd.defaults with
      | .none => true
      | _ => false) && xScope f fd.scope
  | _ => false
def xiBody2 (f g : Str) : List Stmt → Bool
  | [.Expr (.Call (.Attribute (.Call (.Name a _) [] [] _) b p) [] [] q) _, .Assign [.Attribute (.Name c _) d _] (.Name e _) _, .Assign [.Attribute (.Name c2 _) d2 _] (.Name e2 _) _] =>
    a == "super" && b == "__init__" && c == "self" && d == f && e == f && c2 == "self" && d2 == g && e2 == g && p.endLine == q.line
  | _ => false
def xPar2 (f g : Str) : Arguments → Bool
  | ⟨[], [⟨a, _, _⟩, ⟨b, _, _⟩, ⟨c, _, _⟩], none, [], [], none, []⟩ => a == "self" && b == f && c == g
  | _ => false
def xScope2 (f g : Str) (sc : Scope) : Bool :=
  decide (sc.kind = .function) && !sc.isCoroutine && !sc.isGenerator && (sc.names.all fun x => !decide (x.2 = .cell)) && decide (sc.names.lookup ("super" : Str) = some .globalImplicit) && decide (sc.names.lookup ("__class__" : Str) = some .free) &&
  decide (sc.names.lookup ("self" : Str) = some .local) && decide (sc.names.lookup f = some .local) && decide (sc.names.lookup g = some .local)
def xFn2 (K : PySem.W.Frag) (Ca : Addr) (f g file : Str) : Option Obj → Bool
  | some ⟨_, _, .func fd, _⟩ => fd.name == "__init__" && decide (fd.globals = mainGlobals) && decide (fd.builtins = builtinsNs) && (match fd.body with
      | .stmts b => xiBody2 f g b
      | _ => false) && xCell K Ca fd.closure && PySem.W.codeIn K fd.code fd.qualname && xFile K file fd.code && xPar2 f g fd.params && (match fd.defaults with
      | .none => true
      | _ => false) && xScope2 f g fd.scope
  | _ => false
def xNames : String → Option (String × String × String × List Value)
  | "ValueError" => some ("ValueError", "ValueError.__new__", "ValueError.__init__", [.type "ValueError", .type "Exception", .type "BaseException", .type "object"])
  | "LookupError" => some ("LookupError", "LookupError.__new__", "LookupError.__init__", [.type "LookupError", .type "Exception", .type "BaseException", .type "object"])
  | "ArithmeticError" => some ("ArithmeticError", "ArithmeticError.__new__", "ArithmeticError.__init__", [.type "ArithmeticError", .type "Exception", .type "BaseException", .type "object"])
  | _ => none
/-- an own class of errors, made with one field -/
def xnB (K : PySem.W.Frag) (c f file : Str) (B : String) : Bool := (match xNames B with
  | some (B, newId, i, bmB) => PySem.W.excInitIn K (He.ga K c) bmB newId && PySem.W.excOver K (He.ga K c) bmB && decide (PySem.W.subIn K (.ref (He.ga K c)) (.type B) = some true) && He.eqO (PySem.W.ks_superIn K (He.ga K c) (He.ga K c) "__init__") (some (some (.builtin i)))
  | none => false) && He.eqO (PySem.W.findIn K (.ref (He.ga K c)) "__init__") (some (some (.ref (He.ma K (He.ga K c) "__init__")))) && decide (PySem.W.typeIn K (.ref (He.ma K (He.ga K c) "__init__")) = some (.type "function")) &&
  He.eqO (PySem.W.findIn K (.ref (He.ga K c)) "__setattr__") (some (some (.builtin "object.__setattr__"))) && He.eqO (PySem.W.takerIn K (He.ga K c) f) (some none) && PySem.W.hasDictIn K (He.ga K c) &&
  decide (PySem.W.subIn K (.ref (He.ga K c)) (.type "BaseException") = some true) && decide (PySem.W.typeIn K (.ref (He.ga K c)) = some (.type "type")) && PySem.W.keepIn K (.ref (He.ga K c)) && decide (PySem.W.mroIn K (He.ga K c) (.ref (He.ga K c)) = some true) &&
  He.eqO (PySem.W.nsIn K mainGlobals "super") (some none) && He.eqO (PySem.W.nsIn K cStatics "thirdparty.any") (some none) && (f == ("given" : Str) || f == ("index" : Str) || f == ("most" : Str)) && (PySem.W.clsIn K (He.ga K c)).isSome &&
  xFn K (He.ga K c) f file (K.lookup (He.ma K (He.ga K c) "__init__"))
/-- an own class of errors, made with two fields -/
def xn2B (K : PySem.W.Frag) (c f g file : Str) (B : String) : Bool := (match xNames B with
  | some (B, newId, i, bmB) => PySem.W.excInitIn K (He.ga K c) bmB newId && PySem.W.excOver K (He.ga K c) bmB && decide (PySem.W.subIn K (.ref (He.ga K c)) (.type B) = some true) && He.eqO (PySem.W.ks_superIn K (He.ga K c) (He.ga K c) "__init__") (some (some (.builtin i)))
  | none => false) && He.eqO (PySem.W.findIn K (.ref (He.ga K c)) "__init__") (some (some (.ref (He.ma K (He.ga K c) "__init__")))) && decide (PySem.W.typeIn K (.ref (He.ma K (He.ga K c) "__init__")) = some (.type "function")) &&
  He.eqO (PySem.W.findIn K (.ref (He.ga K c)) "__setattr__") (some (some (.builtin "object.__setattr__"))) && He.eqO (PySem.W.takerIn K (He.ga K c) f) (some none) && He.eqO (PySem.W.takerIn K (He.ga K c) g) (some none) && PySem.W.hasDictIn K (He.ga K c) &&
  decide (PySem.W.subIn K (.ref (He.ga K c)) (.type "BaseException") = some true) && decide (PySem.W.typeIn K (.ref (He.ga K c)) = some (.type "type")) && PySem.W.keepIn K (.ref (He.ga K c)) && decide (PySem.W.mroIn K (He.ga K c) (.ref (He.ga K c)) = some true) &&
  He.eqO (PySem.W.nsIn K mainGlobals "super") (some none) && He.eqO (PySem.W.nsIn K cStatics "thirdparty.any") (some none) && (f == ("index" : Str) && g == ("shown" : Str)) && (PySem.W.clsIn K (He.ga K c)).isSome &&
  xFn2 K (He.ga K c) f g file (K.lookup (He.ma K (He.ga K c) "__init__"))
/-- an own class of errors without fields -/
def xzB (K : PySem.W.Frag) (c : Str) (B : String) : Bool := (match xNames B with
  | some (_, newId, _, bmB) => PySem.W.excIn K (He.ga K c) bmB newId
  | none => false) && decide (PySem.W.subIn K (.ref (He.ga K c)) (.type "BaseException") = some true) && decide (PySem.W.typeIn K (.ref (He.ga K c)) = some (.type "type")) && PySem.W.keepIn K (.ref (He.ga K c))
/-- the table of a def that makes lambdas -/
def lamB (K : PySem.W.Frag) (x q : Str) : Bool := match K.lookup (He.ga K x) with
  | some ⟨_, _, .func fd, _⟩ => (match fd.code with
      | .ref c => (tbC K).any fun p => p.1 == c && (tbOf K).contains (p.2, q) && (tbOf K).all fun t => t.1 != p.2 || t.2 == q
      | _ => false)
  | _ => false
end DL
set_option maxHeartbeats 2000000
namespace DL
open PySem PySem.Spec PyProof.Rows L2
def isLst (o : Obj) : Bool := match o.cls with
  | .type n => decide (n = "list")
  | _ => false
/-- tables of code objects stand without a class -/
def isTb (o : Obj) : Bool := match o.cls, o.data with
  | .none, .fields _ => true
  | _, _ => false
def frL (g : Addr → Option Obj) (as : List Addr) : PySem.W.Frag := (He.frG g as).filter fun q => !isLst q.2 && !isTb q.2
theorem frL_mem {g : Addr → Option Obj} {as : List Addr} {a : Addr} {o : Obj} (h : (frL g as).lookup a = some o) : g a = some o ∧ isLst o = false ∧ isTb o = false := by
  obtain ⟨h1, h2⟩ := List.mem_filter.mp (He.lookup_mem h)
  exact ⟨He.frG_mem h1, by simpa using h2⟩
theorem frL_in {as : List Addr} {h : Heap} : (frL h.get? as).In h := fun _ _ e => (frL_mem e).1
inductive At where
  | fn (x : Str) | me (c m : Str) | pr (c f : Str) | cm (c m : Str)
def prA (K : PySem.W.Frag) (c f : Str) : Addr := match PySem.W.recIn K (He.ma K (He.ga K c) f) "property" with
  | some (.ref g :: _) => g
  | _ => 0
def At.ad (K : PySem.W.Frag) : At → Addr
  | .fn x => He.ga K x
  | .me c m => He.ma K (He.ga K c) m
  | .pr c f => prA K c f
  | .cm c m => He5.wf K (He.ga K c) "classmethod" m
def fnA (K : PySem.W.Frag) (p : At) : He.FnW := match K.lookup (p.ad K) with
  | some ⟨_, _, .func fd, _⟩ => some (fd.name, fd.qualname, fd.params, fd.body, fd.scope, fd.globals, fd.closure, fd.builtins)
  | _ => none
structure DefA where
  at_ : At
  name : Str
  qual : Str
  params : Arguments
  body : List Stmt
  scope : Scope
  dfl : List He.Dv := []
def DefA.val (d : DefA) : He.FnW := some (d.name, d.qual, d.params, .stmts d.body, d.scope, mainGlobals, [], builtinsNs)
def DefA.dvs (K : PySem.W.Frag) (d : DefA) : List V := d.dfl.map (He.Dv.v K)
def DefA.ok (K : PySem.W.Frag) (d : DefA) : Bool := PySem.W.keepIn K (.ref (d.at_.ad K)) && (match K.lookup (d.at_.ad K) with
  | some ⟨_, _, .func fd, _⟩ => PySem.W.codeIn K fd.code d.qual && He.dflB K fd.defaults (d.dvs K)
  | _ => false)
inductive Fb where
  | fa (f : He.Fa) | pro (c f : Str) | tup (x : Str) (vs : List He.Dv) | isi (cls : List Str) | pr (cls : List Str) (cn : Str) | cmf (c m : Str) | exn (c f file : Str) (B : String) | exs (cs ns : List Str) (ts : List String) | exm (cs : List Str) | exz (c : Str) (B : String) | ex2 (c f g file : Str) (B : String) | lam (x q : Str) | sysm | exl (cs hs : List Str) | exo (c b : Str)
def Fb.ok (K : PySem.W.Frag) : Fb → Bool
  | .fa f => f.ok K
  | .pro c f => (He.eqO (PySem.W.findIn K (.ref (He.ga K c)) f) (some (some (.ref (He.ma K (He.ga K c) f)))) && He.eqO (PySem.W.specialIn K (.ref (He.ma K (He.ga K c) f)) "__get__") (some (some (.builtin "property.__get__")))) &&
      (decide (PySem.W.takesIn K (.ref (He.ma K (He.ga K c) f)) = some true) && (match PySem.W.recIn K (He.ma K (He.ga K c) f) "property" with
        | some (.ref _ :: _) => true
        | _ => false))
  | .tup x vs => (He.Fa.glo x).ok K && He.tupB K x vs
  | .isi cls => isiB K cls
  | .pr cls cn => eqB K cls cn && isiB K cls && cls.contains cn
  | .cmf c m => He5.wrapB K (He.ga K c) "classmethod" "classmethod.__get__" m && PySem.W.fnIn K (He5.wf K (He.ga K c) "classmethod" m) && PySem.W.readsIn K (He.ga K c) (.type "type")
  | .exn c f file B => xnB K c f file B
  | .exs cs ns ts => xsB K cs ns ts
  | .exm cs => xmB K cs
  | .exz c B => xzB K c B
  | .ex2 c f g file B => xn2B K c f g file B
  | .lam x q => lamB K x q
  | .sysm => (K.lookup sysModules).isSome
  | .exl cs hs => xlB K cs hs
  | .exo c b => decide (PySem.W.exmOne K (.ref (He.ga K c)) (.ref (He.ga K b)) = some true)
abbrev AlA : Type := Bool × List He.FnW
def obsA (fb : List Fb) (fn : List DefA) (K : PySem.W.Frag) : AlA := ((fb.all fun f => f.ok K) && fn.all fun d => d.ok K, fn.map fun d => fnA K d.at_)
def valA (fn : List DefA) : AlA := (true, fn.map DefA.val)
def SaysA (fb : List Fb) (fn : List DefA) (K : PySem.W.Frag) : Prop := obsA fb fn K = valA fn
/-- a code object at c with an empty table at P -/
def codeB (c P : Addr) (o : Obj) : Bool := decide (c ≠ P) && (match o.cls with
  | .type n => n == "code"
  | _ => false) && (match o.data with
  | .fields vs => (match (vs[11]? : Option Value) with
      | some (.ref p) => p == P
      | _ => false) && (match vs.getD 11 .none with
      | .ref p => p == P
      | _ => false) && (match vs.getD 18 .none, vs.getD 7 .none, vs.getD 9 .none, vs.getD 10 .none with
      | .str _ _, .int _ _, .bool _, .int _ _ => true
      | _, _, _, _ => false)
  | _ => false)
def tabB (o : Obj) : Bool := match o with
  | ⟨.none, .none, .fields vs, sl⟩ => vs.isEmpty && sl.isEmpty
  | _ => false
def tbsB (g : Addr → Option Obj) (K : PySem.W.Frag) : Bool := (tbC K).all fun p => (match g p.1 with
  | some o => codeB p.1 p.2 o
  | none => false) && (match g p.2 with
  | some o => tabB o
  | none => false)
/-- the tables are empty, their code objects stand -/
def TbsOk (K : PySem.W.Frag) (h : Heap) : Prop := ∀ p ∈ tbC K, h.get? p.2 = some { cls := .none, data := .fields #[] } ∧ PySem.W.CodeHd h p.1 p.2
theorem tabB_ok {o : Obj} (h : tabB o = true) : o = { cls := .none, data := .fields #[] } := by
  unfold tabB at h
  split at h
  · rename_i vs sl
    rw [Bool.and_eq_true, Array.isEmpty_iff, Array.isEmpty_iff] at h
    rw [h.1, h.2]
  · cases h
theorem codeB_ok {c P : Addr} {o : Obj} {h : Heap} (e : h.get? c = some o) (hb : codeB c P o = true) : PySem.W.CodeHd h c P := by
  unfold codeB at hb
  rw [Bool.and_eq_true, Bool.and_eq_true] at hb
  obtain ⟨⟨h1, h2⟩, h3⟩ := hb
  have h1 := of_decide_eq_true h1
  obtain ⟨oc, od, dt, osl⟩ := o
  cases dt with
  | fields vs =>
    have h3 : (((match (vs[11]? : Option Value) with
      | some (.ref p) => p == P
      | _ => false) && (match vs.getD 11 .none with
      | .ref p => p == P
      | _ => false)) && (match vs.getD 18 .none, vs.getD 7 .none, vs.getD 9 .none, vs.getD 10 .none with
      | .str _ _, .int _ _, .bool _, .int _ _ => true
      | _, _, _, _ => false)) = true := h3
    rw [Bool.and_eq_true, Bool.and_eq_true] at h3
    obtain ⟨⟨k1, k2⟩, k3⟩ := h3
    have c1 : ∀ oc : Value, (match oc with
        | .type n => n == "code"
        | _ => false) = true → oc = .type "code" := fun oc h2 => by
      cases oc with
      | type n => rw [beq_iff_eq.mp (show (n == "code") = true from h2)]
      | _ => cases h2
    have c1 := c1 oc h2
    subst c1
    have e1 : (vs[11]? : Option Value) = some (.ref P) := by
      split at k1
      · rename_i p q
        rw [q, beq_iff_eq.mp k1]
      · cases k1
    have e2 : vs.getD 11 .none = .ref P := by
      split at k2
      · rename_i p q
        rw [q, beq_iff_eq.mp k2]
      · cases k2
    split at k3
    · rename_i a b c d e' f g a1 a2 a3 a4
      exact ⟨_, vs, _, _, _, _, _, _, _, e, rfl, rfl, e1, e2, a1, a2, a3, a4, h1⟩
    · cases k3
  | _ => cases h3
theorem tbsB_ok {K : PySem.W.Frag} {h : Heap} (e : tbsB h.get? K = true) : TbsOk K h := fun p hp => by
  unfold tbsB at e
  have z := List.all_eq_true.mp e p hp
  rw [Bool.and_eq_true] at z
  obtain ⟨z1, z2⟩ := z
  constructor
  · split at z2
    · rename_i o q
      rw [q, tabB_ok z2]
    · cases z2
  · split at z1
    · rename_i o q
      exact codeB_ok q z1
    · cases z1
def obsT (fb : List Fb) (fn : List DefA) (g : Addr → Option Obj) (K : PySem.W.Frag) : AlA := ((obsA fb fn K).1 && tbsB g K, (obsA fb fn K).2)
theorem obsT_ok {fb : List Fb} {fn : List DefA} {g : Addr → Option Obj} {K : PySem.W.Frag} (e : obsT fb fn g K = valA fn) : SaysA fb fn K ∧ tbsB g K = true := by
  have e1 : ((obsA fb fn K).1 && tbsB g K) = true := congrArg (fun z : AlA => z.1) e
  have e2 : (obsA fb fn K).2 = fn.map DefA.val := congrArg (fun z : AlA => z.2) e
  rw [Bool.and_eq_true] at e1
  exact ⟨Prod.ext e1.1 e2, e1.2⟩
end DL
namespace DL
open PySem PySem.Spec PyProof.Rows L2
end DL
set_option maxHeartbeats 400000
namespace DL
open PySem PySem.Spec PyProof.Rows L2
def obsRG (as : List Addr) (fb : List Fb) (fn : List DefA) (g : Addr → Option Obj) : AlA := obsT fb fn g (frL g as)
def hookR (as : List Addr) (fb : List Fb) (fn : List DefA) : PySem.W.Hook where
  α := AlA
  obs := fun s => obsRG as fb fn s.heap.get?
  val := fun _ => valA fn
  says := fun _ h => ∃ K : PySem.W.Frag, K.In h ∧ (∀ a o, K.lookup a = some o → isLst o = false ∧ isTb o = false) ∧ SaysA fb fn K ∧ TbsOk K h
  of := fun _ _ e => ⟨_, frL_in, fun a o q => (frL_mem q).2, (obsT_ok e).1, tbsB_ok (obsT_ok e).2⟩
  keeps := fun _ _ _ ⟨K, hK, hl, c, t⟩ k => ⟨K, PySem.W.Frag.In.keeps hK k, hl, c, fun p hp => ⟨k _ _ (t p hp).1, (t p hp).2.keeps k⟩⟩
end DL
set_option maxHeartbeats 0
namespace Wk
open PySem PySem.Spec PyProof.Rows L2 DL
def clsR : List PySem.Str := []
def topR (i : Nat) : Stmt := PySem.Challenge.pw_budgetfolds_k01_limits_and_errors.main.body.getD i (.Pass ⟨0, 0, 0, 0⟩)
def d0 : DefA := ⟨(.fn "_law_given"), "_law_given", "_law_given", defArgs (topR 41), defBody (topR 41), defScope (topR 41), []⟩
def d1 : DefA := ⟨(.fn "_law_raised_right"), "_law_raised_right", "_law_raised_right", defArgs (topR 43), defBody (topR 43), defScope (topR 43), []⟩
def d2 : DefA := ⟨(.fn "_law_kept_right"), "_law_kept_right", "_law_kept_right", defArgs (topR 42), defBody (topR 42), defScope (topR 42), []⟩
def d3 : DefA := ⟨(.fn "_law_sorts"), "_law_sorts", "_law_sorts", defArgs (topR 38), defBody (topR 38), defScope (topR 38), []⟩
def d4 : DefA := ⟨(.fn "_law_bases"), "_law_bases", "_law_bases", defArgs (topR 39), defBody (topR 39), defScope (topR 39), []⟩
def d5 : DefA := ⟨(.fn "_law_due"), "_law_due", "_law_due", defArgs (topR 40), defBody (topR 40), defScope (topR 40), []⟩
def d6 : DefA := ⟨(.fn "_law_right"), "_law_right", "_law_right", defArgs (topR 44), defBody (topR 44), defScope (topR 44), []⟩
def d7 : DefA := ⟨(.fn "law"), "law", "law", defArgs (topR 45), defBody (topR 45), defScope (topR 45), []⟩
def fn : List DefA := [d0, d1, d2, d3, d4, d5, d6, d7]
def fb : List Fb := [.fa (.free "ArithmeticError"), .fa (.free "IndexError"), .fa (.free "KeyError"), .fa (.free "LookupError"), .fa (.free "ValueError"), .fa (.free "ZeroDivisionError"), .fa (.free "int"), .fa (.free "isinstance"), .fa (.free "len"), .fa (.free "range"), .fa (.free "repr"), .fa (.int "MOST_BUDGET" (1000000000000000000000000000000)), .fa (.int "MOST_CALLS" (4)), .fa (.int "MOST_CHANGES" (5)), .fa (.int "MOST_DEPTH" (4)), .fa (.int "MOST_FUNCTIONS" (6)), .fa (.int "MOST_GROWTH" (400)), .fa (.int "MOST_RULES" (5)), .fa (.int "MOST_SITES" (60)), .fa (.int "MOST_SIZE" (50)), .fa (.int "MOST_THRESHOLD" (60)), .fa (.int "MOST_TIMES" (9)), .fa (.glo "Broken"), .fa (.glo "CannotBe"), .fa (.glo "InUse"), .fa (.glo "InvalidChanges"), .fa (.glo "InvalidChoice"), .fa (.glo "InvalidClaim"), .fa (.glo "InvalidFunctions"), .fa (.glo "InvalidName"), .fa (.glo "InvalidNumber"), .fa (.glo "InvalidPart"), .fa (.glo "InvalidPlace"), .fa (.glo "InvalidRules"), .fa (.glo "InvalidSeen"), .fa (.glo "InvalidSite"), .fa (.glo "InvalidText"), .fa (.glo "InvalidWish"), .fa (.glo "NotAProgram"), .fa (.glo "NotARule"), .fa (.glo "NotOpen"), .fa (.glo "NotRight"), .fa (.glo "NotThere"), .fa (.glo "NothingToUndo"), .fa (.glo "OverBudget"), .fa (.glo "TooMany"), .fa (.glo "UnknownName"), .exz "NothingToUndo" "ArithmeticError", .ex2 "Broken" "index" "shown" "/claim/cut.py" "ArithmeticError", .exn "InUse" "index" "/claim/cut.py" "LookupError", .exn "InvalidChanges" "index" "/claim/cut.py" "ValueError", .exn "InvalidChoice" "given" "/claim/cut.py" "ValueError", .exn "InvalidClaim" "given" "/claim/cut.py" "ValueError", .exn "InvalidFunctions" "index" "/claim/cut.py" "ValueError", .exn "InvalidName" "given" "/claim/cut.py" "ValueError", .exn "InvalidNumber" "given" "/claim/cut.py" "ValueError", .exn "InvalidPart" "given" "/claim/cut.py" "ValueError", .exn "InvalidPlace" "given" "/claim/cut.py" "ValueError", .exn "InvalidRules" "index" "/claim/cut.py" "ValueError", .exn "InvalidSeen" "index" "/claim/cut.py" "ValueError", .exn "InvalidSite" "given" "/claim/cut.py" "ValueError", .exn "InvalidText" "given" "/claim/cut.py" "ValueError", .exn "InvalidWish" "given" "/claim/cut.py" "ValueError", .exn "NotAProgram" "given" "/claim/cut.py" "ValueError", .exn "NotARule" "given" "/claim/cut.py" "ValueError", .exn "NotOpen" "given" "/claim/cut.py" "LookupError", .exn "OverBudget" "most" "/claim/cut.py" "ArithmeticError", .exn "TooMany" "most" "/claim/cut.py" "ArithmeticError", .exn "UnknownName" "given" "/claim/cut.py" "LookupError", .exs ["Broken", "InUse", "InvalidChanges", "InvalidChoice", "InvalidClaim", "InvalidFunctions", "InvalidName", "InvalidNumber", "InvalidPart", "InvalidPlace", "InvalidRules", "InvalidSeen", "InvalidSite", "InvalidText", "InvalidWish", "NotAProgram", "NotARule", "NotOpen", "NothingToUndo", "OverBudget", "TooMany", "UnknownName"] ["Broken", "CannotBe", "InUse", "InvalidChanges", "InvalidChoice", "InvalidClaim", "InvalidFunctions", "InvalidName", "InvalidNumber", "InvalidPart", "InvalidPlace", "InvalidRules", "InvalidSeen", "InvalidSite", "InvalidText", "InvalidWish", "NotAProgram", "NotARule", "NotOpen", "NotRight", "NotThere", "NothingToUndo", "OverBudget", "TooMany", "UnknownName"] ["ArithmeticError", "IndexError", "KeyError", "LookupError", "ValueError", "ZeroDivisionError"], .exo "Broken" "CannotBe", .exo "InvalidText" "NotRight", .exo "UnknownName" "NotThere", .isi clsR, .fa (.glo "_law_given"), .fa (.glo "_law_raised_right"), .fa (.glo "_law_kept_right"), .fa (.glo "_law_sorts"), .fa (.glo "_law_bases"), .fa (.glo "_law_due"), .fa (.glo "_law_right"), .fa (.glo "law")]
def ls0 : List PySem.Str := ["NotRight", "InvalidText", "InvalidPart", "InvalidNumber", "InvalidSite", "InvalidChoice", "InvalidName", "InvalidWish", "InvalidClaim", "InvalidPlace", "NotAProgram", "NotARule", "InvalidFunctions", "InvalidRules", "InvalidSeen", "InvalidChanges", "NotThere", "UnknownName", "InUse", "NotOpen", "CannotBe", "TooMany", "OverBudget", "NothingToUndo", "Broken", "MOST_FUNCTIONS", "MOST_SIZE", "MOST_CALLS", "MOST_TIMES", "MOST_THRESHOLD"]
def ls1 : List PySem.Str := ["MOST_DEPTH", "MOST_BUDGET", "MOST_SITES", "MOST_GROWTH", "MOST_RULES", "MOST_CHANGES", "_law_sorts", "_law_bases", "_law_due", "_law_given", "_law_kept_right", "_law_raised_right", "_law_right"]
def ls : List PySem.Str := ls0 ++ ls1
abbrev R : PySem.W.OpenRow := PySem.W.OpenLaw.row PySem.Challenge.rw_budgetfolds_k01_limits_and_errors
def asl : List Addr := [2, 3, 23, 24, 31, 42, 43, 45, 46, 52, 63, 64, 66, 67, 73, 84, 85, 87, 88, 94, 105, 106, 108, 109, 115, 126, 127, 129, 130, 136, 147, 148, 150, 151, 157, 168, 169, 171, 172, 178, 189, 190, 192, 193, 199, 210, 211, 213, 214, 220, 231, 232, 234, 235, 241, 252, 253, 255, 256, 262, 273, 274, 276, 277, 283, 294, 295, 297, 298, 304, 315, 316, 318, 319, 325, 336, 337, 339, 340, 351, 352, 359, 370, 371, 373, 374, 380, 391, 392, 394, 395, 401, 412, 413, 415, 416, 427, 428, 435, 446, 447, 449, 450, 456, 467, 468, 470, 471, 482, 483, 489, 500, 501, 503, 504, 512, 513, 519, 520, 526, 527, 533, 534, 538, 539, 545, 546, 550, 551, 555, 556]
abbrev hk : PySem.W.Hook := hookR asl fb fn
def ob (s : PySem.W.SharedT) : AlA := obsRG asl fb fn (HandSHeadRun.getT s)
theorem run (w : World) : HandSHeadRun.RunEq R (PySem.W.view R.prog [45]) hk ob 40000 ls w := by
  intro os
  kernel_rfl
end Wk
set_option maxHeartbeats 2000000
namespace DL
open PySem PySem.Spec PyProof.Rows L2
end DL
set_option maxHeartbeats 2000000
namespace DL
open PySem PySem.Spec PyProof.Rows L2
end DL
set_option maxHeartbeats 2000000
namespace DL
open PySem PySem.Spec PyProof.Rows L2
end DL
set_option maxHeartbeats 2000000
namespace DL
open PySem PySem.Spec PyProof.Rows L2
end DL
set_option maxHeartbeats 2000000
namespace DL
open PySem PySem.Spec PyProof.Rows L2
end DL
set_option maxHeartbeats 2000000
namespace DL
open PySem PySem.Spec PyProof.Rows L2
end DL
set_option maxHeartbeats 2000000
namespace DL
open PySem PySem.Spec PyProof.Rows L2
end DL
set_option maxHeartbeats 4000000
namespace L2
open PySem PySem.Spec PyProof.Rows
end L2
namespace DL
open PySem PySem.Spec PyProof.Rows L2
end DL
set_option maxHeartbeats 2000000
namespace DL
open PySem PySem.Spec PyProof.Rows L2
end DL
set_option maxHeartbeats 2000000
namespace DL
open PySem PySem.Spec PyProof.Rows L2
end DL
namespace DL
open PySem PySem.Spec PyProof.Rows L2
end DL
set_option maxHeartbeats 2000000
namespace DL
open PySem PySem.Spec PyProof.Rows L2
end DL
set_option maxHeartbeats 2000000
namespace DL
open PySem PySem.Spec PyProof.Rows L2
end DL
set_option maxHeartbeats 2000000
namespace DL
open PySem PySem.Spec PyProof.Rows L2 PySem.W
end DL
set_option maxHeartbeats 2000000
namespace DL
open PySem PySem.Spec PyProof.Rows L2
end DL
set_option maxHeartbeats 2000000
namespace DL
open PySem PySem.Spec PyProof.Rows L2
end DL
set_option maxHeartbeats 2000000
namespace DL
open PySem PySem.Spec PyProof.Rows L2
end DL
set_option maxHeartbeats 2000000
namespace DL
open PySem PySem.Spec PyProof.Rows L2
end DL
set_option maxHeartbeats 2000000
namespace DL
open PySem PySem.Spec PyProof.Rows L2
end DL
set_option maxHeartbeats 2000000
namespace DL
open PySem PySem.Spec PyProof.Rows L2
end DL
set_option maxHeartbeats 2000000
namespace DL
open PySem PySem.Spec PyProof.Rows L2
end DL
set_option maxHeartbeats 2000000
namespace DL
open PySem PySem.Spec PyProof.Rows L2
end DL
set_option maxHeartbeats 2000000
namespace DL
open PySem PySem.Spec PyProof.Rows L2 PySem.W
end DL
set_option maxHeartbeats 2000000
namespace DL
open PySem PySem.Spec PyProof.Rows L2
end DL
set_option maxHeartbeats 2000000
namespace DL
open PySem PySem.Spec PyProof.Rows L2
end DL
set_option maxHeartbeats 2000000
namespace DL
open PySem PySem.Spec PyProof.Rows L2
end DL
set_option maxHeartbeats 2000000
namespace DL
open PySem PySem.Spec PyProof.Rows L2
end DL
set_option maxHeartbeats 2000000
namespace DL
open PySem PySem.Spec PyProof.Rows L2
end DL
set_option maxHeartbeats 2000000
namespace DL
open PySem PySem.Spec PyProof.Rows L2 PySem.W
end DL
set_option maxHeartbeats 2000000
namespace DL
open PySem PySem.Spec PyProof.Rows L2
end DL
set_option maxHeartbeats 2000000
namespace DL
open PySem PySem.Spec PyProof.Rows L2
end DL
set_option maxHeartbeats 2000000
namespace DL
open PySem PySem.Spec PyProof.Rows L2
end DL
set_option maxHeartbeats 4000000
namespace DL
open PySem PySem.Spec PyProof.Rows L2
end DL
set_option maxHeartbeats 2000000
namespace DL
open PySem PySem.Spec PyProof.Rows L2
end DL
set_option maxHeartbeats 2000000
namespace DL
open PySem PySem.Spec PyProof.Rows L2 L2H
end DL
set_option maxHeartbeats 2000000
namespace DL
open PySem PySem.Spec PyProof.Rows L2 L2H
end DL
set_option maxHeartbeats 2000000
namespace DL
open PySem PySem.Spec PyProof.Rows L2 L2H LamX
end DL
set_option maxHeartbeats 2000000
namespace DL
open PySem PySem.Spec PyProof.Rows L2 L2H LamX
end DL
set_option maxHeartbeats 2000000
namespace DL
open PySem PySem.Spec PyProof.Rows L2 L2H LamX
end DL
set_option maxHeartbeats 2000000
namespace DL
open PySem PySem.Spec PyProof.Rows L2 L2H LamX
end DL
set_option maxHeartbeats 2000000
namespace DL
open PySem PySem.Spec PyProof.Rows L2
end DL
set_option maxHeartbeats 2000000
namespace DL
open PySem PySem.Spec PyProof.Rows L2
end DL
set_option maxHeartbeats 2000000
namespace DL
open PySem PySem.Spec PyProof.Rows L2
end DL
set_option maxHeartbeats 2000000
namespace DL
open PySem PySem.Spec PyProof.Rows L2
end DL
set_option maxHeartbeats 2000000
namespace DL
open PySem PySem.Spec PyProof.Rows L2
end DL
set_option maxHeartbeats 2000000
namespace DL
open PySem PySem.Spec PyProof.Rows L2
end DL
set_option maxHeartbeats 2000000
namespace DL
open PySem PySem.Spec PyProof.Rows L2
end DL
set_option maxHeartbeats 2000000
namespace DL
open PySem PySem.Spec PyProof.Rows L2
end DL
set_option maxHeartbeats 2000000
namespace DL
open PySem PySem.Spec PyProof.Rows L2
end DL
set_option maxHeartbeats 400000
namespace DL
open PySem PySem.Spec PyProof.Rows L2
end DL
set_option maxHeartbeats 2000000
namespace DL
open PySem PySem.Spec PyProof.Rows L2
end DL
set_option maxHeartbeats 2000000
namespace DL
open PySem PySem.Spec PyProof.Rows L2
end DL
set_option maxHeartbeats 2000000
namespace DL
open PySem PySem.Spec PyProof.Rows L2
end DL
set_option maxHeartbeats 2000000
namespace DL
open PySem PySem.Spec PyProof.Rows L2
end DL
set_option maxHeartbeats 2000000
namespace DL
open PySem PySem.Spec PyProof.Rows L2
end DL
set_option maxHeartbeats 2000000
namespace DL
open PySem PySem.Spec PyProof.Rows L2
end DL
set_option maxHeartbeats 2000000
namespace DL
open PySem PySem.Spec PyProof.Rows L2
end DL
set_option maxHeartbeats 2000000
namespace DL
open PySem PySem.Spec PyProof.Rows L2
end DL
set_option maxHeartbeats 2000000
namespace DL
open PySem PySem.Spec PyProof.Rows L2
end DL
set_option maxHeartbeats 2000000
namespace DL
open PySem PySem.Spec PyProof.Rows L2 L2H LamX
end DL
set_option maxHeartbeats 2000000
namespace DL
open PySem PySem.Spec PyProof.Rows L2
end DL
set_option maxHeartbeats 2000000
namespace PySem.SeqAt
open PySem
end PySem.SeqAt
namespace DL
open PySem PySem.Spec PyProof.Rows L2 PySem.SeqAt
end DL
set_option maxHeartbeats 2000000
namespace DL
open PySem PySem.Spec PyProof.Rows L2
end DL
set_option maxHeartbeats 2000000
namespace DL
open PySem PySem.Spec PyProof.Rows L2
end DL
set_option maxHeartbeats 2000000
namespace DL
open PySem PySem.Spec PyProof.Rows L2
end DL
set_option maxHeartbeats 2000000
namespace PySem
open PySem.HandSPX
end PySem
namespace DL
open PySem PySem.Spec PyProof.Rows L2
end DL
set_option maxHeartbeats 2000000
namespace DL
open PySem PySem.Spec PyProof.Rows L2
end DL
set_option maxHeartbeats 4000000
namespace DL
open PySem PyProof.Rows L2
end DL
set_option maxHeartbeats 4000000
namespace DL
open PySem PyProof.Rows L2
end DL
set_option maxHeartbeats 4000000
namespace DL
open PySem PyProof.Rows L2
end DL
set_option maxHeartbeats 4000000
namespace DL
open PySem PyProof.Rows L2
end DL
set_option maxHeartbeats 4000000
namespace DL
open PySem PyProof.Rows L2
end DL
set_option maxHeartbeats 4000000
set_option maxHeartbeats 4000000
set_option maxHeartbeats 4000000
set_option maxHeartbeats 4000000
set_option maxHeartbeats 0
set_option maxHeartbeats 4000000
open PySem PySem.W PySem.Calls PyProof.Rows

end
set_option Elab.async false
set_option linter.all false
set_option maxRecDepth 100000
set_option maxHeartbeats 2000000
namespace DL
open PySem PySem.Spec PyProof.Rows L2
inductive D where
  | non | bl (b : Bool) | int (i : Int) | str (x : Str) | ty (n : String) | glo (x : Str)
  | tup (xs : List D) | lst (xs : List D) | ins (c : Str) (fs : List (Str × D)) | dic (kvs : List (D × D)) | tdc (kvs : List (List Int × D)) | exn (c : Str) (fs : List (Str × D))
/-- a caught exception's object -/
def exH (a : Addr) (o : Obj) : HO := .ext fun h => h.get? a = some o
abbrev Te := List Int × Addr × Value
def entI (x : Te) : DictEntry := ⟨reduceHash (Builtin.Tuple.tupleHashOf (x.1.map hashInt)), .ref x.2.1, x.2.2⟩
def tdO (a : Addr) (ep : Nat) (xs : List Te) : HO := .ext fun h => (a == sysModules) = false ∧ ∃ o, h.get? a = some o ∧ o.ExactDict ∧ o.data = .dict (xs.map entI).toArray ep
mutual
inductive Is (K : PySem.W.Frag) (F : Hp) : V → D → Prop
  | non : Is K F .non .non
  | bl (b : Bool) : Is K F (.bl b) (.bl b)
  | int (i : Int) : Is K F (.int i) (.int i)
  | str (x : Str) : Is K F (.str x) (.str x)
  | ty (n : String) : Is K F (.ty n) (.ty n)
  | glo (x : Str) : Is K F (.ref (He.ga K x)) (.glo x)
  | tup {a : Addr} {xs : List V} {ds : List D} : SqT K F a xs → IsAll K F xs ds → Is K F (.ref a) (.tup ds)
  | lst {a : Addr} {xs : List V} {ds : List D} : Rd F a (.lst xs) → IsAll K F xs ds → Is K F (.ref a) (.lst ds)
  | ins {a dx : Addr} {c : Str} {vs : List (Str × V)} {fs : List (Str × D)} : F a = some (.ins (He.ga K c) dx vs) → IsFs K F vs fs → Is K F (.ref a) (.ins c fs)
  | dic {a : Addr} {ks : List (Key × V)} {kvs : List (D × D)} : F a = some (.dK ks) → IsKv K F ks kvs → Is K F (.ref a) (.dic kvs)
  | tdc {a : Addr} {ep : Nat} {xs : List Te} {kvs : List (List Int × D)} : F a = some (tdO a ep xs) → IsTd K F xs kvs → (kvs.map (·.1)).Nodup → kvs.length ≤ 100000 → Is K F (.ref a) (.tdc kvs)
  | exn {a dx : Addr} {o : Obj} {ws : Array Value} {c : Str} {vs : List (Str × V)} {fs : List (Str × D)} : F a = some (exH a o) → o.cls = .ref (He.ga K c) → o.dict = some dx → o.data = .fields ws → F dx = some (.xd vs) → IsFs K F vs fs → Is K F (.ref a) (.exn c fs)
  | exn0 {a : Addr} {o : Obj} {ws : Array Value} {c : Str} : F a = some (exH a o) → o.cls = .ref (He.ga K c) → o.dict = none → o.data = .fields ws → Is K F (.ref a) (.exn c [])
inductive IsAll (K : PySem.W.Frag) (F : Hp) : List V → List D → Prop
  | nil : IsAll K F [] []
  | cons {v : V} {vs : List V} {d : D} {ds : List D} : Is K F v d → IsAll K F vs ds → IsAll K F (v :: vs) (d :: ds)
inductive IsFs (K : PySem.W.Frag) (F : Hp) : List (Str × V) → List (Str × D) → Prop
  | nil : IsFs K F [] []
  | cons {f : Str} {v : V} {vs : List (Str × V)} {d : D} {ds : List (Str × D)} : Is K F v d → IsFs K F vs ds → IsFs K F ((f, v) :: vs) ((f, d) :: ds)
inductive IsKv (K : PySem.W.Frag) (F : Hp) : List (Key × V) → List (D × D) → Prop
  | nil : IsKv K F [] []
  | int {i : Int} {v : V} {vs : List (Key × V)} {d : D} {ds : List (D × D)} : Is K F v d → IsKv K F vs ds → IsKv K F ((.inl i, v) :: vs) ((.int i, d) :: ds)
  | str {x : Str} {v : V} {vs : List (Key × V)} {d : D} {ds : List (D × D)} : Is K F v d → IsKv K F vs ds → IsKv K F ((.inr x, v) :: vs) ((.str x, d) :: ds)
inductive IsTd (K : PySem.W.Frag) (F : Hp) : List Te → List (List Int × D) → Prop
  | nil : IsTd K F [] []
  | cons {k : List Int} {b : Addr} {v : V} {u : Value} {d : D} {xs : List Te} {ds : List (List Int × D)} : SqT K F b (k.map V.int) → Is K F v d → RelV v u → IsTd K F xs ds → IsTd K F ((k, b, u) :: xs) ((k, d) :: ds)
end
def Sub (F H : Hp) : Prop := ∀ a o, F a = some o → H a = some o
theorem Sub.refl (H : Hp) : Sub H H := fun _ _ h => h
theorem Sub.trans {F G H : Hp} (a : Sub F G) (b : Sub G H) : Sub F H := fun x o h => b x o (a x o h)
theorem Sub.rd {F H : Hp} (s : Sub F H) {a : Addr} {u : HO} (h : Rd F a u) : Rd H a u := by
  rcases h with h | ⟨o, h⟩
  · exact .inl (s _ _ h)
  · exact .inr ⟨o, s _ _ h⟩
theorem Sub.l {K : PySem.W.Frag} {F H : Hp} {a : Addr} {xs : List V} (s : Sub F H) (h : SqL K F a xs) : SqL K H a xs := by
  rcases h with h | h
  · exact .inl (s.rd h)
  · exact .inr h
theorem Sub.t {K : PySem.W.Frag} {F H : Hp} {a : Addr} {xs : List V} (s : Sub F H) (h : SqT K F a xs) : SqT K H a xs := by
  rcases h with h | h
  · exact .inl (s.rd h)
  · exact .inr h
section
variable {K : PySem.W.Frag} {F F' : Hp}
mutual
theorem Is.up (s : Sub F F') : ∀ {v : V} {d : D}, Is K F v d → Is K F' v d
  | _, _, .non => .non
  | _, _, .bl b => .bl b
  | _, _, .int i => .int i
  | _, _, .str x => .str x
  | _, _, .ty n => .ty n
  | _, _, .glo x => .glo x
  | _, _, .tup h r => .tup (s.t h) (IsAll.up s r)
  | _, _, .lst h r => .lst (s.rd h) (IsAll.up s r)
  | _, _, .ins h r => .ins (s _ _ h) (IsFs.up s r)
  | _, _, .dic h r => .dic (s _ _ h) (IsKv.up s r)
  | _, _, .tdc h r n l => .tdc (s _ _ h) (IsTd.up s r) n l
  | _, _, .exn h e1 e2 e3 h2 r => .exn (s _ _ h) e1 e2 e3 (s _ _ h2) (IsFs.up s r)
  | _, _, .exn0 h e1 e2 e3 => .exn0 (s _ _ h) e1 e2 e3
theorem IsAll.up (s : Sub F F') : ∀ {vs : List V} {ds : List D}, IsAll K F vs ds → IsAll K F' vs ds
  | _, _, .nil => .nil
  | _, _, .cons h r => .cons (Is.up s h) (IsAll.up s r)
theorem IsFs.up (s : Sub F F') : ∀ {vs : List (Str × V)} {ds : List (Str × D)}, IsFs K F vs ds → IsFs K F' vs ds
  | _, _, .nil => .nil
  | _, _, .cons h r => .cons (Is.up s h) (IsFs.up s r)
theorem IsKv.up (s : Sub F F') : ∀ {vs : List (Key × V)} {ds : List (D × D)}, IsKv K F vs ds → IsKv K F' vs ds
  | _, _, .nil => .nil
  | _, _, .int h r => .int (Is.up s h) (IsKv.up s r)
  | _, _, .str h r => .str (Is.up s h) (IsKv.up s r)
theorem IsTd.up (s : Sub F F') : ∀ {vs : List Te} {ds : List (List Int × D)}, IsTd K F vs ds → IsTd K F' vs ds
  | _, _, .nil => .nil
  | _, _, .cons b h q r => .cons (s.t b) (Is.up s h) q (IsTd.up s r)
end
theorem IsAll.len : ∀ {vs : List V} {ds : List D}, IsAll K F vs ds → vs.length = ds.length
  | _, _, .nil => rfl
  | _, _, .cons _ r => by rw [List.length_cons, List.length_cons, IsAll.len r]
theorem IsAll.get : ∀ {vs : List V} {ds : List D} {i : Nat} {d : D}, IsAll K F vs ds → ds[i]? = some d → ∃ v, vs[i]? = some v ∧ Is K F v d
  | _, _, _, _, .nil, h => by simp at h
  | _, _, 0, _, .cons h _, e => by simp at e; subst e; exact ⟨_, rfl, h⟩
  | _, _, i + 1, _, .cons _ r, e => IsAll.get (i := i) r (by simpa using e)
theorem IsAll.getV : ∀ {vs : List V} {ds : List D} {i : Nat} {v : V}, IsAll K F vs ds → vs[i]? = some v → ∃ d, ds[i]? = some d ∧ Is K F v d
  | _, _, _, _, .nil, h => by simp at h
  | _, _, 0, _, .cons h _, e => by simp at e; subst e; exact ⟨_, rfl, h⟩
  | _, _, i + 1, _, .cons _ r, e => IsAll.getV (i := i) r (by simpa using e)
theorem IsAll.app : ∀ {vs us : List V} {ds es : List D}, IsAll K F vs ds → IsAll K F us es → IsAll K F (vs ++ us) (ds ++ es)
  | _, _, _, _, .nil, h => h
  | _, _, _, _, .cons h r, s => .cons h (IsAll.app r s)
theorem IsAll.take : ∀ {vs : List V} {ds : List D} (n : Nat), IsAll K F vs ds → IsAll K F (vs.take n) (ds.take n)
  | _, _, 0, _ => .nil
  | _, _, _ + 1, .nil => .nil
  | _, _, n + 1, .cons h r => .cons h (IsAll.take n r)
theorem IsAll.drop : ∀ {vs : List V} {ds : List D} (n : Nat), IsAll K F vs ds → IsAll K F (vs.drop n) (ds.drop n)
  | _, _, 0, r => r
  | _, _, _ + 1, .nil => .nil
  | _, _, n + 1, .cons _ r => IsAll.drop n r
theorem IsAll.set : ∀ {vs : List V} {ds : List D} {v : V} {d : D} (i : Nat), IsAll K F vs ds → Is K F v d → IsAll K F (vs.set i v) (ds.set i d)
  | _, _, _, _, _, .nil, _ => .nil
  | _, _, _, _, 0, .cons _ r, h => .cons h r
  | _, _, _, _, i + 1, .cons h r, q => .cons h (IsAll.set i r q)
theorem IsAll.rep {v : V} {d : D} (h : Is K F v d) : ∀ n : Nat, IsAll K F (List.replicate n v) (List.replicate n d)
  | 0 => .nil
  | n + 1 => .cons h (IsAll.rep h n)
theorem IsFs.look : ∀ {vs : List (Str × V)} {fs : List (Str × D)} {f : Str} {d : D}, IsFs K F vs fs → fs.lookup f = some d → ∃ v, vs.lookup f = some v ∧ Is K F v d
  | _, _, _, _, .nil, h => by simp at h
  | (g, v) :: vs, _ :: ds, f, d, .cons h r, e => by
    rw [List.lookup_cons] at e ⊢
    cases hx : f == g with
    | true =>
      rw [hx] at e
      cases e
      exact ⟨v, rfl, h⟩
    | false =>
      rw [hx] at e
      exact IsFs.look r e
theorem IsFs.none : ∀ {vs : List (Str × V)} {fs : List (Str × D)} {f : Str}, IsFs K F vs fs → fs.lookup f = .none → vs.lookup f = .none
  | _, _, _, .nil, _ => rfl
  | (g, v) :: vs, _ :: ds, f, .cons h r, e => by
    rw [List.lookup_cons] at e ⊢
    cases hx : f == g with
    | true =>
      rw [hx] at e
      cases e
    | false =>
      rw [hx] at e
      exact IsFs.none r e
theorem IsFs.len : ∀ {vs : List (Str × V)} {ds : List (Str × D)}, IsFs K F vs ds → vs.length = ds.length
  | _, _, .nil => rfl
  | _, _, .cons _ r => by rw [List.length_cons, List.length_cons, IsFs.len r]
end
/-- o.f = d -/
def putD (f : Str) (d : D) : List (Str × D) → List (Str × D)
  | [] => [(f, d)]
  | (g, e) :: r => if g = f then (f, d) :: r else (g, e) :: putD f d r
theorem IsFs.put {K : PySem.W.Frag} {F : Hp} {f : Str} {v : V} {d : D} (q : Is K F v d) : ∀ {vs : List (Str × V)} {fs : List (Str × D)}, IsFs K F vs fs → IsFs K F (putF f v vs) (putD f d fs)
  | _, _, .nil => .cons q .nil
  | (g, w) :: vs, _ :: ds, .cons h r => by
    unfold putF putD
    by_cases e : g = f
    · subst e
      rw [if_pos rfl, if_pos rfl]
      exact .cons q r
    · rw [if_neg e, if_neg e]
      exact .cons h (IsFs.put q r)
theorem tb_12 {K : PySem.W.Frag} {x : Addr × Obj} {P : Addr} {q : Str} (h : tb1 K x = some (P, q)) : ∃ c, tb2 K x = some (c, P) := by
  unfold tb1 at h
  unfold tb2
  split at h
  · rename_i fd e
    split at h
    · rename_i e2
      split at h
      · rename_i c e3
        split at h
        · rename_i oc e4
          split at h
          · rename_i vs e5
            split at h
            · rename_i P' e6
              cases h
              exact ⟨c, by simp only [e, if_pos e2, e3, e4, e5, e6]⟩
            · cases h
          · cases h
        · cases h
      · cases h
    · cases h
  · cases h
theorem tbC_eq (K : PySem.W.Frag) : tbC K = K.filterMap (tb2 K) := by unfold tbC; rfl
theorem tbOf_eq (K : PySem.W.Frag) : tbOf K = K.filterMap (tb1 K) := by unfold tbOf; rfl
theorem tbOf_C {K : PySem.W.Frag} {p : Addr × Str} (h : p ∈ tbOf K) : ∃ c, (c, p.1) ∈ tbC K := by
  rw [tbOf_eq] at h
  rw [tbC_eq]
  obtain ⟨x, hx, e⟩ := List.mem_filterMap.mp h
  obtain ⟨c, e2⟩ := tb_12 (P := p.1) (q := p.2) e
  exact ⟨c, List.mem_filterMap.mpr ⟨x, hx, e2⟩⟩
/-- each code object that the table at P tells bears the name q, and is known to stay -/
def TabF (F H : Hp) (P : Addr) (q : Str) : Prop := ∃ ps : Array Value, H P = some (.tbl ps) ∧ TriplesOk ps.toList ∧ ∀ (pos : Pos) (cv : Value), codeAmong pos ps.toList = some cv → ∃ c, cv = .ref c ∧ F c = some (LamX.CodeO c q)
def TabsF (K : PySem.W.Frag) (F H : Hp) : Prop := ∀ p ∈ tbOf K, TabF F H p.1 p.2
theorem TabsF.ext {K : PySem.W.Frag} {F H F' H' : Hp} (t : TabsF K F H) (uf : Sub F F') (e : Sub H H') : TabsF K F' H' := fun p hp => by
  obtain ⟨ps, h1, h2, h3⟩ := t p hp
  refine ⟨ps, e _ _ h1, h2, fun pos cv hc => ?_⟩
  obtain ⟨c, e1, e2⟩ := h3 pos cv hc
  exact ⟨c, e1, uf _ _ e2⟩
theorem TabsF.up {K : PySem.W.Frag} {F H F' : Hp} (t : TabsF K F H) (uf : Sub F F') : TabsF K F' H := t.ext uf (Sub.refl _)
/-- what is no table is written -/
theorem TabsF.wr {K : PySem.W.Frag} {F H F' H' : Hp} (t : TabsF K F H) (uf : Sub F F') {a : Addr} (n : ∀ ps, H a ≠ some (.tbl ps)) (e : ∀ b o, b ≠ a → H b = some o → H' b = some o) : TabsF K F' H' := fun p hp => by
  obtain ⟨ps, h1, h2, h3⟩ := t p hp
  refine ⟨ps, e _ _ (fun z => n ps (by rw [← z]; exact h1)) h1, h2, fun pos cv hc => ?_⟩
  obtain ⟨c, e1, e2⟩ := h3 pos cv hc
  exact ⟨c, e1, uf _ _ e2⟩
theorem TabsF.upd {K : PySem.W.Frag} {F H : Hp} (t : TabsF K F H) {a : Addr} {o : HO} (n : ∀ ps, H a ≠ some (.tbl ps)) : TabsF K F (upd H a o) := t.wr (Sub.refl _) n fun b u z h => by rw [upd_ne z]; exact h
/-- what is known of codes stays known -/
theorem TabsF.strip {K : PySem.W.Frag} {F H F' : Hp} (t : TabsF K F H) (e : ∀ c q, F c = some (LamX.CodeO c q) → F' c = some (LamX.CodeO c q)) : TabsF K F' H := fun p hp => by
  obtain ⟨ps, h1, h2, h3⟩ := t p hp
  refine ⟨ps, h1, h2, fun pos cv hc => ?_⟩
  obtain ⟨c, e1, e2⟩ := h3 pos cv hc
  exact ⟨c, e1, e _ _ e2⟩
theorem codeO_lst {c : Addr} {q : Str} {ks : List V} : LamX.CodeO c q ≠ .lst ks := fun z => by unfold LamX.CodeO at z; cases z
theorem codeO_ins {c : Addr} {q : Str} {x y : Addr} {ks : List (Str × V)} : LamX.CodeO c q ≠ .ins x y ks := fun z => by unfold LamX.CodeO at z; cases z
theorem heap_size (n : Nat) : ∃ h : Heap, h.objs.size = n := by
  induction n with
  | zero => exact ⟨{}, rfl⟩
  | succ n ih =>
    obtain ⟨h, e⟩ := ih
    exact ⟨h.push { cls := .none, data := .plain }, by rw [Heap.size_push, e]⟩
theorem codeO_tdO {c : Addr} {q : Str} {ep : Nat} {xs : List Te} : LamX.CodeO c q ≠ tdO c ep xs := fun z => by
  unfold LamX.CodeO tdO at z
  obtain ⟨h, hs⟩ := heap_size c
  have e := congrFun (HO.ext.inj z) (h.push { cls := .none, data := .fields #[.none, .str q 0] })
  have g : (h.push { cls := .none, data := .fields #[.none, .str q 0] }).get? c = some { cls := .none, data := .fields #[.none, .str q 0] } := by rw [← hs]; exact Heap.get?_push_size h rfl
  have y := e.mp ⟨_, _, 0, g, rfl, rfl⟩
  obtain ⟨_, o, ho, _, hd⟩ := y
  rw [g] at ho
  cases ho
  cases hd
/-- a table may have grown, all else stands -/
def Kept (o : HO) (r : Option HO) : Prop := r = some o ∨ ((∃ ps, o = .tbl ps) ∧ ∃ qs, r = some (.tbl qs))
theorem Kept.ne {o : HO} {r : Option HO} (k : Kept o r) : r ≠ none := by
  rcases k with k | ⟨_, qs, k⟩ <;> rw [k] <;> exact fun z => nomatch z
theorem Kept.nt {o : HO} {r : Option HO} (k : Kept o r) (n : ∀ ps, o ≠ .tbl ps) : r = some o := k.elim id fun ⟨⟨ps, e⟩, _⟩ => absurd e (n ps)
theorem Kept.trans {o : HO} {r r' : Option HO} (k : Kept o r) (k' : ∀ u, r = some u → Kept u r') : Kept o r' := by
  rcases k with k | ⟨e, qs, k⟩
  · exact k' _ k
  · rcases k' _ k with z | ⟨_, z⟩
    · exact .inr ⟨e, qs, z⟩
    · exact .inr ⟨e, z⟩
theorem Kept.sub {o : HO} {H H' : Hp} {a : Addr} (k : Kept o (H a)) (e : Sub H H') : Kept o (H' a) := k.trans fun u h => .inl (e _ _ h)
theorem tdO_nt {a : Addr} {ep : Nat} {xs : List Te} (ps : Array Value) : tdO a ep xs ≠ .tbl ps := fun z => by
  unfold tdO at z
  cases z
/-- what a slot's own thing holds (a thing that nobody else knows) -/
inductive Cell where
  | lst (ds : List D) | ins (c : Str) (fs : List (Str × D)) | dic (kvs : List (D × D)) | tdc (kvs : List (List Int × D))
inductive Sl where
  | no | val (d : D) | own (c : Cell) | io (j : Nat)
/-- the slots; the things that were handed in to be changed -/
structure S where
  sl : List Sl
  io : List Cell
inductive Res (α : Type) where
  | ok (a : α) (s : S) | exc (c : Str) (fs : List (Str × D)) (s : S) | bad
abbrev M (α : Type) := S → Res α
/-- a def's value: a datum, or a thing of its own -/
inductive RV where
  | val (d : D) | own (c : Cell)
inductive Out where
  | nx (s : S) | rt (r : RV) (s : S) | bk (s : S) | ct (s : S) | exc (c : Str) (fs : List (Str × D)) (s : S) | bad
def CellAt (K : PySem.W.Frag) (F H : Hp) (a : Addr) : Cell → Prop
  | .lst ds => ∃ xs, H a = some (.lst xs) ∧ IsAll K F xs ds
  | .ins c fs => ∃ dx vs, H a = some (.ins (He.ga K c) dx vs) ∧ IsFs K F vs fs
  | .dic kvs => ∃ ks, H a = some (.dK ks) ∧ IsKv K F ks kvs
  | .tdc kvs => ∃ ep xs, H a = some (tdO a ep xs) ∧ IsTd K F xs kvs ∧ (kvs.map (·.1)).Nodup ∧ kvs.length ≤ 100000
theorem CellAt.up {K : PySem.W.Frag} {F F' H H' : Hp} {a : Addr} {c : Cell} (h : CellAt K F H a c) (s : Sub F F') (e : ∀ o, H a = some o → H' a = some o) : CellAt K F' H' a c := by
  cases c with
  | lst ds => obtain ⟨xs, h1, h2⟩ := h; exact ⟨xs, e _ h1, h2.up s⟩
  | ins c fs => obtain ⟨dx, vs, h1, h2⟩ := h; exact ⟨dx, vs, e _ h1, h2.up s⟩
  | dic kvs => obtain ⟨ks, h1, h2⟩ := h; exact ⟨ks, e _ h1, h2.up s⟩
  | tdc kvs => obtain ⟨ep, ks, h1, h2, h3⟩ := h; exact ⟨ep, ks, e _ h1, h2.up s, h3⟩
/-- the thing is no table -/
theorem CellAt.nt {K : PySem.W.Frag} {F H : Hp} {a : Addr} {c : Cell} (h : CellAt K F H a c) (ps : Array Value) : H a ≠ some (.tbl ps) := by
  cases c with
  | lst ds => obtain ⟨xs, h1, h2⟩ := h; rw [h1]; exact fun z => nomatch z
  | ins c fs => obtain ⟨dx, vs, h1, h2⟩ := h; rw [h1]; exact fun z => nomatch z
  | dic kvs => obtain ⟨ks, h1, h2⟩ := h; rw [h1]; exact fun z => nomatch z
  | tdc kvs => obtain ⟨ep, ks, h1, h2⟩ := h; rw [h1]; exact fun z => tdO_nt ps (Option.some.inj z)
theorem CellAt.upK {K : PySem.W.Frag} {F F' H H' : Hp} {a : Addr} {c : Cell} (h : CellAt K F H a c) (s : Sub F F') (e : ∀ o, H a = some o → Kept o (H' a)) : CellAt K F' H' a c :=
  h.up s fun o q => (e o q).nt fun ps z => h.nt ps (by rw [← z]; exact q)
theorem CellAt.there {K : PySem.W.Frag} {F H : Hp} {a : Addr} {c : Cell} (h : CellAt K F H a c) : ∃ o, H a = some o := by
  cases c with
  | lst ds => obtain ⟨xs, h1, h2⟩ := h; exact ⟨_, h1⟩
  | ins c fs => obtain ⟨dx, vs, h1, h2⟩ := h; exact ⟨_, h1⟩
  | dic kvs => obtain ⟨ks, h1, h2⟩ := h; exact ⟨_, h1⟩
  | tdc kvs => obtain ⟨ep, ks, h1, h2⟩ := h; exact ⟨_, h1⟩
/-- what is fixed through a def: the text, the heap at the entry and what of it is known to stay, what was handed in to be changed -/
structure Ct where
  K : PySem.W.Frag
  H0 : Hp
  F0 : Hp
  A : List Addr
def SlotOk (C : Ct) (F H : Hp) (o : Option (Option V)) : Sl → Prop
  | .no => True
  | .val d => ∃ v, o = some (some v) ∧ Is C.K F v d
  | .own c => ∃ a, o = some (some (.ref a)) ∧ F a = none ∧ C.H0 a = none ∧ CellAt C.K F H a c
  | .io j => ∃ a, o = some (some (.ref a)) ∧ C.A[j]? = some a
def OwnAt (σ : L2.St) (sl : List Sl) (i : Nat) (a : Addr) : Prop := σ[i]? = some (some (.ref a)) ∧ ∃ c, sl[i]? = some (.own c)
/-- at the entry: what is known to stay stands, tables are not among it -/
def S0 (C : Ct) : Prop := Sub C.F0 C.H0 ∧ ∀ p ∈ tbOf C.K, C.F0 p.1 = none ∧ C.H0 p.1 ≠ none
structure Rel (C : Ct) (σ : L2.St) (H F : Hp) (s : S) : Prop where
  sub : Sub F H
  keep : ∀ a o, C.H0 a = some o → a ∉ C.A → Kept o (H a)
  f0 : ∀ a, C.H0 a ≠ none → F a = C.F0 a
  len : s.sl.length = σ.length
  slot : ∀ (i : Nat) (x : Sl), s.sl[i]? = some x → SlotOk C F H σ[i]? x
  iol : s.io.length = C.A.length
  io : ∀ (j : Nat) (a : Addr) (c : Cell), C.A[j]? = some a → s.io[j]? = some c → C.F0 a = none ∧ CellAt C.K F H a c
  ap : ∀ (i j : Nat) (a : Addr), OwnAt σ s.sl i a → OwnAt σ s.sl j a → i = j
  inn : ∀ a ∈ C.A, C.H0 a ≠ none
  nd : C.A.Nodup
  s0 : S0 C
  tabs : TabsF C.K F H
section
variable {C : Ct} {σ : L2.St} {H F H' F' : Hp} {s : S}
theorem Rel.ioF (r : Rel C σ H F s) {j : Nat} {a : Addr} {c : Cell} (h : C.A[j]? = some a) (e : s.io[j]? = some c) : F a = none := by
  rw [r.f0 a (r.inn a (List.mem_of_getElem? h))]
  exact (r.io j a c h e).1
theorem Rel.tf0 (r : Rel C σ H F s) : ∀ p ∈ tbOf C.K, F p.1 = none := fun p hp => by
  rw [r.f0 p.1 (r.s0.2 p hp).2]
  exact (r.s0.2 p hp).1
/-- more was made: what stood stands, what is known to stay is among what is new or was known -/
structure Ext (H F H' F' : Hp) : Prop where
  h : Sub H H'
  f : Sub F F'
  s : Sub F' H'
  o : ∀ a, H a ≠ none → F' a = F a
theorem Ext.refl (h : Sub F H) : Ext H F H F := ⟨Sub.refl _, Sub.refl _, h, fun _ _ => rfl⟩
theorem Ext.trans {H2 F2 : Hp} (a : Ext H F H' F') (b : Ext H' F' H2 F2) : Ext H F H2 F2 := ⟨a.h.trans b.h, a.f.trans b.f, b.s, fun x h => by
  rw [b.o x ?_, a.o x h]
  cases e : H x with
  | none => exact absurd e h
  | some o => rw [a.h x o e]; exact fun z => nomatch z⟩
theorem Ext.new {p : Addr} {o : HO} (h : Sub F H) (n : H p = none) : Ext H F (upd H p o) (upd F p o) where
  h := fun a u e => by rw [upd_ne (ne_of_none e n)]; exact e
  f := fun a u e => by rw [upd_ne (ne_of_none (h a u e) n)]; exact e
  s := fun a u e => by
    by_cases q : a = p
    · subst q; rw [upd_same] at e ⊢; exact e
    · rw [upd_ne q] at e ⊢; exact h a u e
  o := fun a e => upd_ne fun z => e (by rw [z]; exact n)
theorem Rel.ext (r : Rel C σ H F s) (e : Ext H F H' F') : Rel C σ H' F' s where
  sub := e.s
  keep := fun a o h n => (r.keep a o h n).sub e.h
  f0 := fun a h => by
    have h2 : H a ≠ none := by
      cases q : C.H0 a with
      | none => exact absurd q h
      | some o =>
        by_cases m : a ∈ C.A
        · obtain ⟨j, hj⟩ := List.getElem?_of_mem m
          cases z : s.io[j]? with
          | none =>
            have l1 := List.getElem?_eq_none_iff.mp z
            have l2 : j < C.A.length := (List.getElem?_eq_some_iff.mp hj).1
            rw [r.iol] at l1
            omega
          | some c =>
            obtain ⟨o, ho⟩ := (r.io j a c hj z).2.there
            rw [ho]; exact fun z => nomatch z
        · exact (r.keep a o q m).ne
    rw [e.o a h2]
    exact r.f0 a h
  len := r.len
  slot := fun i x h => by
    have q := r.slot i x h
    cases x with
    | no => trivial
    | val d => obtain ⟨v, h1, h2⟩ := q; exact ⟨v, h1, h2.up e.f⟩
    | own c =>
      obtain ⟨a, h1, h2, h3, h4⟩ := q
      obtain ⟨o, ho⟩ := h4.there
      exact ⟨a, h1, by rw [e.o a (by rw [ho]; exact fun z => nomatch z)]; exact h2, h3, h4.up e.f (e.h a)⟩
    | io j => exact q
  iol := r.iol
  io := fun j a c h1 h2 => ⟨(r.io j a c h1 h2).1, (r.io j a c h1 h2).2.up e.f (e.h a)⟩
  ap := r.ap
  inn := r.inn
  nd := r.nd
  s0 := r.s0
  tabs := r.tabs.ext e.f e.h
end
/-- an exception's fields -/
def XAt (K : PySem.W.Frag) (F H : Hp) (a : Option Addr) (fs : List (Str × D)) : Prop := match a with
  | some a => ∃ vs, H a = some (.xd vs) ∧ IsFs K F vs fs
  | none => fs = []
section
variable (C : Ct) (W : WX)
/-- what is wanted of a result -/
def Post {α : Type} (σ : L2.St) (F : Hp) (r : Res α) (P : α → S → Hp → Hp → Prop) : Prop := match r with
  | .ok a s' => ∀ H' F', Rel C σ H' F' s' → Sub F F' → P a s' H' F'
  | .exc c fs s' => ∀ (a : Option Addr) H' F', Rel C σ H' F' s' → Sub F F' → XAt C.K F' H' a fs → W (.ref (He.ga C.K c)) a σ H'
  | .bad => False
def tD (f : M D) : TE := fun σ H Q => ∃ F s, Rel C σ H F s ∧ Post C W σ F (f s) fun d _ H' F' => ∀ v, Is C.K F' v d → Q v H'
/-- a new thing of one's own -/
def tO (f : M Cell) : TE := fun σ H Q => ∃ F s, Rel C σ H F s ∧ Post C W σ F (f s) fun c s' H' F' => ∀ a, (∀ i, ¬ OwnAt σ s'.sl i a) → C.H0 a = none → F' a = none → CellAt C.K F' H' a c → Q (.ref a) H'
def tB (f : M Bool) : TT := fun σ H Q => ∃ F s, Rel C σ H F s ∧ Post C W σ F (f s) fun b _ H' _ => Q b H'
def tA (f : M (List D)) : TA := fun σ H Q => ∃ F s, Rel C σ H F s ∧ Post C W σ F (f s) fun ds _ H' F' => ∀ vs, IsAll C.K F' vs ds → Q vs H'
def RetOk (F H : Hp) (v : V) : RV → Prop
  | .val d => Is C.K F v d
  | .own c => ∃ a, v = .ref a ∧ F a = none ∧ C.H0 a = none ∧ CellAt C.K F H a c
def PostS (F : Hp) (o : Out) (nx : L2.St → Hp → Prop) (rt : VK) (bk ct : L2.St → Hp → Prop) : Prop := match o with
  | .nx s' => ∀ σ' H' F', Rel C σ' H' F' s' → Sub F F' → nx σ' H'
  | .rt r s' => ∀ v σ' H' F', Rel C σ' H' F' s' → Sub F F' → RetOk C F' H' v r → rt v H'
  | .bk s' => ∀ σ' H' F', Rel C σ' H' F' s' → Sub F F' → bk σ' H'
  | .ct s' => ∀ σ' H' F', Rel C σ' H' F' s' → Sub F F' → ct σ' H'
  | .exc c fs s' => ∀ (a : Option Addr) σ' H' F', Rel C σ' H' F' s' → Sub F F' → XAt C.K F' H' a fs → W (.ref (He.ga C.K c)) a σ' H'
  | .bad => False
def tS (f : S → Out) : TS := fun E σ H => ∃ F s, Rel C σ H F s ∧ PostS C W F (f s) E.nx E.rt E.bk E.ct
end
abbrev DE (X : Cx) (C : Ct) (W : WX) (e : Expr) (f : M D) : Prop := PE X e (tD C W f)
abbrev DO (X : Cx) (C : Ct) (W : WX) (e : Expr) (f : M Cell) : Prop := PE X e (tO C W f)
abbrev DT (X : Cx) (C : Ct) (W : WX) (e : Expr) (f : M Bool) : Prop := PT X e (tB C W f)
abbrev DW (X : Cx) (C : Ct) (W : WX) (e : Expr) (f : M Bool) : Prop := PW X e (tB C W f)
abbrev DA (X : Cx) (C : Ct) (W : WX) (es : List Expr) (f : M (List D)) : Prop := PA X es (tA C W f)
abbrev DS (X : Cx) (C : Ct) (W : WX) (st : Stmt) (f : S → Out) : Prop := PS X st (tS C W f)
abbrev DB (X : Cx) (C : Ct) (W : WX) (st : List Stmt) (f : S → Out) : Prop := PSs X st (tS C W f)
theorem pe_imp {X : Cx} {e : Expr} {t u : TE} (h : PE X e t) (i : ∀ σ H Q, u σ H Q → t σ H Q) : PE X e u := ⟨fun pins s σ H Q I q => h.run pins s σ H Q I (i _ _ _ q)⟩
theorem pt_imp {X : Cx} {e : Expr} {t u : TT} (h : PT X e t) (i : ∀ σ H Q, u σ H Q → t σ H Q) : PT X e u := ⟨fun pins s σ H Q I q => h.run pins s σ H Q I (i _ _ _ q)⟩
theorem pw_imp {X : Cx} {e : Expr} {t u : TT} (h : PW X e t) (i : ∀ σ H Q, u σ H Q → t σ H Q) : PW X e u := ⟨fun wh pins s σ H Q I q => h.run wh pins s σ H Q I (i _ _ _ q)⟩
theorem pa_imp {X : Cx} {es : List Expr} {t u : TA} (h : PA X es t) (i : ∀ σ H Q, u σ H Q → t σ H Q) : PA X es u := ⟨fun pos pins s σ H Q I q => h.run pos pins s σ H Q I (i _ _ _ q)⟩
theorem ps_imp {X : Cx} {st : Stmt} {t u : TS} (h : PS X st t) (i : ∀ E σ H, u E σ H → t E σ H) : PS X st u := ⟨fun pins s σ H E I q => h.run pins s σ H E I (i _ _ _ q)⟩
theorem pss_imp {X : Cx} {st : List Stmt} {t u : TS} (h : PSs X st t) (i : ∀ E σ H, u E σ H → t E σ H) : PSs X st u := ⟨fun pins s σ H E I q => h.run pins s σ H E I (i _ _ _ q)⟩
def Res.bind {α β : Type} (r : Res α) (k : α → M β) : Res β := match r with
  | .ok a s => k a s
  | .exc c fs s => .exc c fs s
  | .bad => .bad
def mbind {α β : Type} (f : M α) (k : α → M β) : M β := fun s => (f s).bind k
def mret {α : Type} (a : α) : M α := fun s => .ok a s
section
variable {C : Ct} {W : WX} {σ : L2.St} {F : Hp} {α β : Type}
theorem Post.mono {r : Res α} {P P' : α → S → Hp → Hp → Prop} (q : Post C W σ F r P) (h : ∀ a s' H' F', Rel C σ H' F' s' → Sub F F' → P a s' H' F' → P' a s' H' F') : Post C W σ F r P' := by
  cases r with
  | ok a s' => exact fun H' F' r u => h a s' H' F' r u (q H' F' r u)
  | exc c fs s' => exact q
  | bad => exact q.elim
theorem Post.bind {r : Res α} {k : α → M β} {P : β → S → Hp → Hp → Prop} (q : Post C W σ F (r.bind k) P) : Post C W σ F r fun a s1 _ F1 => Post C W σ F1 (k a s1) P := by
  cases r with
  | ok a s1 =>
    intro H1 F1 r1 u1
    have q : Post C W σ F (k a s1) P := q
    cases e2 : k a s1 with
    | ok b s2 => rw [e2] at q; exact fun H' F' r' u' => q H' F' r' (u1.trans u')
    | exc c fs s2 => rw [e2] at q; exact fun a H' F' r' u' => q a H' F' r' (u1.trans u')
    | bad => rw [e2] at q; exact q.elim
  | exc c fs s1 => exact q
  | bad => exact q.elim
end
def mopt {α : Type} (a : Option α) : M α := fun s => match a with
  | some x => .ok x s
  | none => .bad
end DL
set_option maxHeartbeats 2000000
namespace DL
open PySem PySem.Spec PyProof.Rows L2
section
variable {C : Ct} {W : WX} {X : Cx} {σ : L2.St} {H F : Hp} {s : S}
def Cell.d : Cell → D
  | .lst ds => .lst ds
  | .ins c fs => .ins c fs
  | .dic kvs => .dic kvs
  | .tdc kvs => .tdc kvs
def S.put (s : S) (i : Nat) (x : Sl) : S := { s with sl := s.sl.set i x }
def eVar (i : Nat) : M D := fun s => match s.sl[i]? with
  | some (.val d) => .ok d s
  | some (.own c) => .ok c.d (s.put i (.val c.d))
  | _ => .bad
theorem CellAt.isd {K : PySem.W.Frag} {F F' H : Hp} {a : Addr} {c : Cell} (h : CellAt K F H a c) (u : Sub F F') (e : ∀ o, H a = some o → F' a = some o) : Is K F' (.ref a) c.d := by
  cases c with
  | lst ds => obtain ⟨xs, h1, h2⟩ := h; exact .lst (.inl (e _ h1)) (h2.up u)
  | ins c fs => obtain ⟨dx, vs, h1, h2⟩ := h; exact .ins (e _ h1) (h2.up u)
  | dic kvs => obtain ⟨ks, h1, h2⟩ := h; exact .dic (e _ h1) (h2.up u)
  | tdc kvs => obtain ⟨ep, ks, h1, h2, h3, h4⟩ := h; exact .tdc (e _ h1) (h2.up u) h3 h4
/-- what was a slot's own stands from now on -/
theorem Rel.freeze (r : Rel C σ H F s) {i : Nat} {c : Cell} (h : s.sl[i]? = some (.own c)) :
    ∃ a F', σ[i]? = some (some (.ref a)) ∧ Sub F F' ∧ Is C.K F' (.ref a) c.d ∧ Rel C σ H F' (s.put i (.val c.d)) := by
  obtain ⟨a, h1, h2, h3, h4⟩ := r.slot i _ h
  obtain ⟨o, ho⟩ := h4.there
  have hi : i < s.sl.length := (List.getElem?_eq_some_iff.mp h).1
  have uf : Sub F (upd F a o) := fun b u e => by rw [upd_ne (ne_of_none e h2)]; exact e
  have isd : Is C.K (upd F a o) (.ref a) c.d := h4.isd uf fun u e => by rw [upd_same]; rw [ho] at e; exact e
  refine ⟨a, upd F a o, h1, uf, isd, ?_⟩
  refine ⟨fun b u e => ?_, r.keep, fun b e => ?_, ?_, fun j x e => ?_, r.iol, fun j b c' e1 e2 => ⟨(r.io j b c' e1 e2).1, (r.io j b c' e1 e2).2.up uf fun _ z => z⟩, fun j k b e1 e2 => ?_, r.inn, r.nd, r.s0, r.tabs.up uf⟩
  · by_cases q : b = a
    · subst q; rw [upd_same] at e; rw [ho]; exact e
    · rw [upd_ne q] at e; exact r.sub _ _ e
  · rw [upd_ne fun z => e (by rw [z]; exact h3)]
    exact r.f0 b e
  · show (s.sl.set i _).length = _
    rw [List.length_set]
    exact r.len
  · have e : (s.sl.set i (.val c.d))[j]? = some x := e
    by_cases q : i = j
    · subst q
      rw [List.getElem?_set_self hi] at e
      cases e
      exact ⟨.ref a, h1, isd⟩
    · rw [List.getElem?_set_ne q] at e
      have z := r.slot j x e
      cases x with
      | no => trivial
      | val d => obtain ⟨v, z1, z2⟩ := z; exact ⟨v, z1, z2.up uf⟩
      | own c' =>
        obtain ⟨b, z1, z2, z3, z4⟩ := z
        have ne : b ≠ a := fun y => by
          subst y
          exact q (r.ap i j b ⟨h1, c, h⟩ ⟨z1, c', e⟩)
        exact ⟨b, z1, by rw [upd_ne ne]; exact z2, z3, z4.up uf fun _ z => z⟩
      | io k => exact z
  · obtain ⟨e1, c1, e1'⟩ := e1
    obtain ⟨e2, c2, e2'⟩ := e2
    have e1' : (s.sl.set i (.val c.d))[j]? = some (.own c1) := e1'
    have e2' : (s.sl.set i (.val c.d))[k]? = some (.own c2) := e2'
    have nj : i ≠ j := fun q => by subst q; rw [List.getElem?_set_self hi] at e1'; cases e1'
    have nk : i ≠ k := fun q => by subst q; rw [List.getElem?_set_self hi] at e2'; cases e2'
    rw [List.getElem?_set_ne nj] at e1'
    rw [List.getElem?_set_ne nk] at e2'
    exact r.ap j k b ⟨e1, c1, e1'⟩ ⟨e2, c2, e2'⟩
theorem d_var {e : Expr} {i : Nat} (h : PE X e (tVar i)) : DE X C W e (eVar i) := by
  refine pe_imp h fun σ H Q ⟨F, s, r, q⟩ => ?_
  unfold eVar at q
  cases h1 : s.sl[i]? with
  | none => rw [h1] at q; exact q.elim
  | some x =>
    rw [h1] at q
    cases x with
    | val d =>
      obtain ⟨v, e1, e2⟩ := r.slot i _ h1
      exact ⟨v, e1, q H F r (Sub.refl _) v e2⟩
    | own c =>
      obtain ⟨a, F', e1, u, e2, r'⟩ := r.freeze h1
      exact ⟨_, e1, q H F' r' u _ e2⟩
    | _ => exact q.elim
theorem d_const {e : Expr} {v : V} {d : D} (h : PE X e (tC v)) (hd : ∀ K F, Is K F v d) : DE X C W e (mret d) :=
  pe_imp h fun σ H Q ⟨F, s, r, q⟩ => q H F r (Sub.refl _) v (hd _ _)
theorem d_int {i : Int} {j pos} : DE X C W (.Constant (.int i) j pos) (mret (.int i)) := d_const pe_int fun _ _ => .int i
theorem d_str {x : Str} {j pos} : DE X C W (.Constant (.str x) j pos) (mret (.str x)) := d_const pe_str fun _ _ => .str x
theorem d_bl {b : Bool} {j pos} : DE X C W (.Constant (.bool b) j pos) (mret (.bl b)) := d_const pe_bl fun _ _ => .bl b
theorem d_non {j pos} : DE X C W (.Constant .none j pos) (mret .non) := d_const pe_non fun _ _ => .non
/-- a two-place operation: g tells what it gives -/
def OpV (K : PySem.W.Frag) (r : R2) (g : D → D → Option D) : Prop :=
  ∀ (H F : Hp) (x y : V) (d e d' : D), Sub F H → Is K F x d → Is K F y e → g d e = some d' → ∀ Q : VK, (∀ v H' F', Ext H F H' F' → Is K F' v d' → Q v H') → r x y H Q
def OpD (X : Cx) (f : Value → Value → Sem Value) (g : D → D → Option D) : Prop := ∃ r, OpR X f r ∧ OpV X.K r g
def bin (g : D → D → Option D) (fa fb : M D) : M D := mbind fa fun a => mbind fb fun b => mopt (g a b)
def un (g : D → Option D) (fa : M D) : M D := mbind fa fun a => mopt (g a)
variable {fa fb fc : M D} {a b c : Expr} {pos : Pos} {g g' : D → D → Option D}
theorem post_val {P : D → S → Hp → Hp → Prop} {o : Option D} (q : Post C W σ F (mopt o s) P) (r : Rel C σ H F s) : ∃ d', o = some d' ∧ ∀ H' F', Ext H F H' F' → P d' s H' F' := by
  cases o with
  | none => exact q.elim
  | some d' => exact ⟨d', rfl, fun H' F' e => q H' F' (r.ext e) e.f⟩
theorem t_bin {rr : R2} (ov : OpV C.K rr g) (σ : L2.St) (H : Hp) (Q : VK) (h : tD C W (bin g fa fb) σ H Q) : tOp rr (tD C W fa) (tD C W fb) σ H Q := by
  obtain ⟨F, s, r, q⟩ := h
  refine ⟨F, s, r, (Post.bind q).mono fun d s1 H1 F1 r1 u1 q1 x ix => ⟨F1, s1, r1, (Post.bind q1).mono fun e s2 H2 F2 r2 u2 q2 y iy => ?_⟩⟩
  obtain ⟨d', e1, q3⟩ := post_val q2 r2
  exact ov H2 F2 x y d e d' r2.sub (ix.up u2) iy e1 Q fun v H' F' ex iv => q3 H' F' ex v iv
theorem d_op {op : Operator} (hK : C.K = X.K) (ho : OpD X (binaryOp op) g) (ha : DE X C W a fa) (hb : DE X C W b fb) : DE X C W (.BinOp a op b pos) (bin g fa fb) := by
  obtain ⟨r, o1, o2⟩ := ho
  exact pe_imp (pe_op o1 ha hb) (t_bin (by rw [hK]; exact o2))
theorem d_cmp {op : CmpOp} (hK : C.K = X.K) (ho : OpD X (compareOp op) g) (ha : DE X C W a fa) (hb : DE X C W b fb) (hm : behindInMarks op b = false := by first | exact nomark _ | rfl) : DE X C W (.Compare a [op] [b] pos) (bin g fa fb) := by
  obtain ⟨r, o1, o2⟩ := ho
  exact pe_imp (pe_cmpR o1 ha hb hm) (t_bin (by rw [hK]; exact o2))
/-- a bool's truth -/
def dB : D → Option Bool
  | .bl b => some b
  | _ => none
def asB (f : M D) : M Bool := mbind f fun d => mopt (dB d)
theorem t_test (te : TE) (f : M D) (h : ∀ σ H Q, tD C W f σ H Q → te σ H Q) (σ : L2.St) (H : Hp) (Q : Bool → Hp → Prop) (q : tB C W (asB f) σ H Q) : tTest te σ H Q := by
  obtain ⟨F, s, r, q⟩ := q
  refine h σ H _ ⟨F, s, r, (Post.bind q).mono fun d s1 H1 F1 r1 u1 q1 v iv => ?_⟩
  cases iv with
  | bl b => exact ⟨b, rfl, q1 H1 F1 r1 (Sub.refl _)⟩
  | _ => exact q1.elim
/-- a comparison as a test -/
theorem dt_cmp {op : CmpOp} (hK : C.K = X.K) (ho : OpD X (compareOp op) g) (ha : DE X C W a fa) (hb : DE X C W b fb) (hm : behindInMarks op b = false := by first | exact nomark _ | rfl) : DT X C W (.Compare a [op] [b] pos) (asB (bin g fa fb)) := by
  obtain ⟨r, o1, o2⟩ := ho
  exact pt_imp (pt_cmpR o1 ha hb hm) (t_test _ _ (t_bin (by rw [hK]; exact o2)))
/-- a op b op' c -/
def chain (g g' : D → D → Option D) (fa fb fc : M D) : M D := mbind fa fun a => mbind fb fun b => mbind (mopt (g a b)) fun t => mbind (mopt (dB t)) fun k => if k = true then mbind fc fun c => mopt (g' b c) else mret (.bl false)
theorem post_optB {α : Type} {P : α → S → Hp → Hp → Prop} {o : Option α} (q : Post C W σ F (mopt o s) P) (r : Rel C σ H F s) : ∃ d', o = some d' ∧ ∀ H' F', Ext H F H' F' → P d' s H' F' := by
  cases o with
  | none => exact q.elim
  | some d' => exact ⟨d', rfl, fun H' F' e => q H' F' (r.ext e) e.f⟩
theorem t_chain {rr rr' : R2} (ov : OpV C.K rr g) (ov' : OpV C.K rr' g') (σ : L2.St) (H : Hp) (Q : VK) (h : tD C W (chain g g' fa fb fc) σ H Q) : tChain rr rr' (tD C W fa) (tD C W fb) (tD C W fc) σ H Q := by
  obtain ⟨F, s, r, q⟩ := h
  refine ⟨F, s, r, (Post.bind q).mono fun d s1 H1 F1 r1 u1 q1 x ix => ⟨F1, s1, r1, (Post.bind q1).mono fun e s2 H2 F2 r2 u2 q2 y iy => ?_⟩⟩
  obtain ⟨t, e1, q3⟩ := post_optB (Post.bind q2) r2
  refine ov H2 F2 x y d e t r2.sub (ix.up u2) iy e1 _ fun v H3 F3 ex iv => ?_
  obtain ⟨k, e2, q4⟩ := post_optB (Post.bind (q3 H3 F3 ex)) (r2.ext ex)
  have q5 := q4 H3 F3 (Ext.refl ex.s)
  cases iv with
  | bl b =>
    cases e2
    refine ⟨k, rfl, ?_⟩
    cases k with
    | true =>
      rw [if_pos rfl] at q5 ⊢
      refine ⟨F3, s2, r2.ext ex, (Post.bind q5).mono fun c s4 H4 F4 r4 u4 q6 w iw => ?_⟩
      obtain ⟨t', e3, q7⟩ := post_optB q6 r4
      exact ov' H4 F4 y w e c t' r4.sub ((iy.up ex.f).up u4) iw e3 Q fun v' H' F' ex' iv' => q7 H' F' ex' v' iv'
    | false =>
      rw [if_neg Bool.false_ne_true] at q5 ⊢
      exact q5 H3 F3 (r2.ext ex) (Sub.refl _) _ (.bl false)
  | _ => cases e2
theorem d_chain {op op' : CmpOp} (hK : C.K = X.K) (ho : OpD X (compareOp op) g) (ho' : OpD X (compareOp op') g') (ha : DE X C W a fa) (hb : DE X C W b fb) (hc : DE X C W c fc)
    (hm : lastMarks [op, op'] [b, c] = false := by with_unfolding_all rfl) : DE X C W (.Compare a [op, op'] [b, c] pos) (chain g g' fa fb fc) := by
  obtain ⟨r, o1, o2⟩ := ho
  obtain ⟨r', o1', o2'⟩ := ho'
  exact pe_imp (pe_chain o1 o1' ha hb hc hm) (t_chain (by rw [hK]; exact o2) (by rw [hK]; exact o2'))
end
end DL
set_option maxHeartbeats 2000000
namespace DL
open PySem PySem.Spec PyProof.Rows L2
mutual
def D.py : D → PyData
  | .non => .none
  | .bl b => .bool b
  | .int i => .int i
  | .str x => .str x
  | .tup xs => .tuple (D.pys xs)
  | .lst xs => .list (D.pys xs)
  | _ => .dict []
def D.pys : List D → List PyData
  | [] => []
  | x :: xs => D.py x :: D.pys xs
end
mutual
/-- numbers, texts, None, truths, tuples and lists of these, to a depth -/
def D.ok : Nat → D → Bool
  | _, .non => true
  | _, .bl _ => true
  | _, .int _ => true
  | _, .str x => PyData.strOk x
  | n + 1, .tup xs => D.oks n xs
  | n + 1, .lst xs => D.oks n xs
  | _, _ => false
def D.oks : Nat → List D → Bool
  | _, [] => true
  | n, x :: xs => D.ok n x && D.oks n xs
end
mutual
theorem ok_lay : ∀ (n : Nat) (d : D), d.ok n = true → d.py.canLay0 = true ∧ d.py.depth ≤ n
  | _, .non, _ => by simp [D.py, PyData.canLay0, PyData.depth]
  | _, .bl _, _ => by simp [D.py, PyData.canLay0, PyData.depth]
  | _, .int _, _ => by simp [D.py, PyData.canLay0, PyData.depth]
  | _, .str x, h => by
    have h : PyData.strOk x = true := by simpa [D.ok] using h
    simp [D.py, PyData.canLay0, PyData.depth, h]
  | n + 1, .tup xs, h => by
    have q := oks_lay n xs (by simpa [D.ok] using h)
    simp only [D.py, PyData.canLay0, PyData.depth]
    exact ⟨q.1, by omega⟩
  | n + 1, .lst xs, h => by
    have q := oks_lay n xs (by simpa [D.ok] using h)
    simp only [D.py, PyData.canLay0, PyData.depth]
    exact ⟨q.1, by omega⟩
  | 0, .tup _, h => by simp [D.ok] at h
  | 0, .lst _, h => by simp [D.ok] at h
  | _, .ty _, h => by simp [D.ok] at h
  | _, .glo _, h => by simp [D.ok] at h
  | _, .ins _ _, h => by simp [D.ok] at h
  | _, .dic _, h => by simp [D.ok] at h
  | _, .tdc _, h => by simp [D.ok] at h
  | _, .exn _ _, h => by simp [D.ok] at h
theorem oks_lay : ∀ (n : Nat) (ds : List D), D.oks n ds = true → PyData.canLayAll0 (D.pys ds) = true ∧ PyData.depthAll (D.pys ds) ≤ n
  | n, [], _ => by simp [D.pys, PyData.canLayAll0, PyData.depthAll]
  | n, d :: ds, h => by
    rw [D.oks, Bool.and_eq_true] at h
    have q1 := ok_lay n d h.1
    have q2 := oks_lay n ds h.2
    simp only [D.pys, PyData.canLayAll0, PyData.depthAll, q1.1, q2.1]
    exact ⟨rfl, by omega⟩
end
theorem ok_shaped {n : Nat} {d : D} (h : d.ok n = true) (hn : n ≤ 64) : SeqAt.shaped d.py = true := by
  have q := ok_lay n d h
  unfold SeqAt.shaped
  rw [q.1, Bool.true_and]
  exact decide_eq_true (Nat.le_trans q.2 hn)
mutual
theorem Is.dp {K : PySem.W.Frag} {F : Hp} : ∀ {v : V} {d : D} (n : Nat), Is K F v d → d.ok n = true → Dp K F v d.py
  | _, _, _, .non, _ => by rw [D.py]; exact .non
  | _, _, _, .bl b, _ => by rw [D.py]; exact .bl b
  | _, _, _, .int i, _ => by rw [D.py]; exact .int i
  | _, _, _, .str x, _ => by rw [D.py]; exact .str x
  | _, _, n + 1, .tup h r, o => by rw [D.py]; exact .tup h (IsAll.dp n r (by simpa [D.ok] using o))
  | _, _, n + 1, .lst h r, o => by rw [D.py]; exact .lst (.inl h) (IsAll.dp n r (by simpa [D.ok] using o))
  | _, _, 0, .tup h r, o => by simp [D.ok] at o
  | _, _, 0, .lst h r, o => by simp [D.ok] at o
  | _, _, _, .ty _, o => by simp [D.ok] at o
  | _, _, _, .glo _, o => by simp [D.ok] at o
  | _, _, _, .ins _ _, o => by simp [D.ok] at o
  | _, _, _, .dic _ _, o => by simp [D.ok] at o
  | _, _, _, .tdc _ _ _ _, o => by simp [D.ok] at o
  | _, _, _, .exn _ _ _ _ _ _, o => by simp [D.ok] at o
  | _, _, _, .exn0 _ _ _ _, o => by simp [D.ok] at o
theorem IsAll.dp {K : PySem.W.Frag} {F : Hp} : ∀ {vs : List V} {ds : List D} (n : Nat), IsAll K F vs ds → D.oks n ds = true → DpAll K F vs (D.pys ds)
  | _, _, _, .nil, _ => by rw [D.pys]; exact .nil
  | _, _, n, .cons h r, o => by
    rw [D.oks, Bool.and_eq_true] at o
    rw [D.pys]
    exact .cons (Is.dp n h o.1) (IsAll.dp n r o.2)
end
mutual
theorem dp_up {K : PySem.W.Frag} {F H : Hp} (s : Sub F H) : ∀ {v : V} {d : PyData}, Dp K F v d → Dp K H v d
  | _, _, .non => .non
  | _, _, .bl b => .bl b
  | _, _, .int i => .int i
  | _, _, .str x => .str x
  | _, _, .lst h r => .lst (s.l h) (dps_up s r)
  | _, _, .tup h r => .tup (s.t h) (dps_up s r)
theorem dps_up {K : PySem.W.Frag} {F H : Hp} (s : Sub F H) : ∀ {v : List V} {d : List PyData}, DpAll K F v d → DpAll K H v d
  | _, _, .nil => .nil
  | _, _, .cons h r => .cons (dp_up s h) (dps_up s r)
end
/-- what is told of lengths -/
abbrev LN : Nat := 1000000
theorem ln_line {n : Nat} (h : n ≤ LN) : n ≤ sizeLine := by rw [sizeLine_eq]; exact Nat.le_trans h (by decide)
theorem ln_lt {n : Nat} (h : n < LN) : n < sizeLine := by rw [sizeLine_eq]; exact Nat.lt_trans h (by decide)
section
variable {X : Cx} {K : PySem.W.Frag}
theorem OpV.or {r r' : R2} {g : D → D → Option D} (h : ∀ (H F : Hp) (x y : V) (d e d' : D), Sub F H → Is K F x d → Is K F y e → g d e = some d' → ∀ Q : VK, (∀ v H' F', Ext H F H' F' → Is K F' v d' → Q v H') → r x y H Q ∨ r' x y H Q) :
    OpV K (fun x y H Q => r x y H Q ∨ r' x y H Q) g := h
def addD : D → D → Option D
  | .int i, .int j => some (.int (i + j))
  | .str x, .str y => if x.length + y.length ≤ LN then some (.str (x ++ y)) else none
  | .lst xs, .lst ys => if xs.length + ys.length ≤ LN then some (.lst (xs ++ ys)) else none
  | .tup xs, .tup ys => if xs.length + ys.length ≤ LN then some (.tup (xs ++ ys)) else none
  | _, _ => none
/-- list + list, however they are known -/
def rCatR : R2 := fun x y H Q => ∃ l b xs zs, x = .ref l ∧ y = .ref b ∧ Rd H l (.lst xs) ∧ Rd H b (.lst zs) ∧ xs.length + zs.length ≤ sizeLine ∧ ∀ p, H p = none → Q (.ref p) (upd H p (.lst (xs ++ zs)))
theorem rd_lst {pins : List (Addr × Obj)} {σ : L2.St} {H : Hp} {s : Shared} {l : Addr} {xs : List V} (I : Inv X pins σ H s) (hH : Rd H l (.lst xs)) : xs.length ≤ sizeLine ∧ ∃ (its : List Value) (n : Nat), Vals xs its ∧ xs.length = its.length ∧ s.heap.get? l = some { cls := .type "list", data := .seq its.toArray n } := by
  obtain ⟨z, its, n, r, e⟩ := hH.ok I.hok
  exact ⟨z, its, n, r, r.length, e⟩
theorem op_catR : OpR X (binaryOp .Add) rCatR := by
  intro pins s σ H x y v u Q I rx ry h
  obtain ⟨l, b, xs, zs, rfl, rfl, hH, hB, hz, q⟩ := h
  cases rx
  cases ry
  obtain ⟨z, its, n, r, hl, e⟩ := rd_lst I hH
  obtain ⟨z2, its2, n2, r2, hl2, e2⟩ := rd_lst I hB
  refine PySem.P.add_list e e2 ?_ (by rw [List.size_toArray, List.size_toArray]; omega)
  have ea : its.toArray ++ its2.toArray = (its ++ its2).toArray := by simp
  rw [ea]
  exact ⟨.ref _, _, I.lnew (t' := s.toks) (r.append r2) (by rw [List.length_append]; omega), rfl, q _ I.fresh⟩
theorem ext_new {H F : Hp} {p : Addr} {o : HO} (s : Sub F H) (n : H p = none) : Ext H F (upd H p o) (upd F p o) := Ext.new s n
theorem new_lst {H F : Hp} {p : Addr} {xs : List V} {ds : List D} (s : Sub F H) (n : H p = none) (h : IsAll K F xs ds) : Is K (upd F p (.lst xs)) (.ref p) (.lst ds) := .lst (.inl upd_same) (h.up (ext_new s n).f)
theorem new_tup {H F : Hp} {p : Addr} {xs : List V} {ds : List D} (s : Sub F H) (n : H p = none) (h : IsAll K F xs ds) : Is K (upd F p (.tup xs)) (.ref p) (.tup ds) := .tup (.inl (.inl upd_same)) (h.up (ext_new s n).f)
theorem o_add : OpD X (binaryOp .Add) addD := by
  refine ⟨_, op_add.or (op_add_str.or (op_catR.or op_catA)), ?_⟩
  intro H F x y d e d' su hx hy hg Q q
  cases hx with
  | int i =>
    cases hy with
    | int j => cases hg; exact .inl ⟨i, j, rfl, rfl, q _ H F (Ext.refl su) (.int _)⟩
    | _ => cases hg
  | str a =>
    cases hy with
    | str b =>
      have hg : (if a.length + b.length ≤ LN then some (D.str (a ++ b)) else none) = some d' := hg
      by_cases hl : a.length + b.length ≤ LN
      · rw [if_pos hl] at hg
        cases hg
        exact .inr (.inl ⟨a, b, rfl, rfl, ln_line hl, q _ H F (Ext.refl su) (.str _)⟩)
      · rw [if_neg hl] at hg
        cases hg
    | _ => cases hg
  | lst h1 h2 =>
    cases hy with
    | @lst b zs es h3 h4 =>
      rename_i a xs ds
      have hg : (if ds.length + es.length ≤ LN then some (D.lst (ds ++ es)) else none) = some d' := hg
      by_cases hl : ds.length + es.length ≤ LN
      · rw [if_pos hl] at hg
        cases hg
        exact .inr (.inr (.inl ⟨a, b, xs, zs, rfl, rfl, su.rd h1, su.rd h3, by rw [h2.len, h4.len]; exact ln_line hl, fun p n => q _ _ _ (ext_new su n) (new_lst su n (h2.app h4))⟩))
      · rw [if_neg hl] at hg
        cases hg
    | _ => cases hg
  | tup h1 h2 =>
    cases hy with
    | @tup b zs es h3 h4 =>
      rename_i a xs ds
      have hg : (if ds.length + es.length ≤ LN then some (D.tup (ds ++ es)) else none) = some d' := hg
      by_cases hl : ds.length + es.length ≤ LN
      · rw [if_pos hl] at hg
        cases hg
        refine .inr (.inr (.inr ⟨a, b, xs, zs, rfl, rfl, su.t h1, su.t h3, by rw [h2.len, h4.len]; exact ln_line hl, fun e => ?_, fun _ e => ?_, fun _ _ p n => q _ _ _ (ext_new su n) (new_tup su n (h2.app h4))⟩))
        · subst e
          cases h2
          exact q _ H F (Ext.refl su) (.tup h3 h4)
        · subst e
          cases h4
          exact q _ H F (Ext.refl su) (.tup h1 (by rw [List.append_nil]; exact h2))
      · rw [if_neg hl] at hg
        cases hg
    | _ => cases hg
  | _ => cases hg
def small64b (i : Int) : Bool := decide (-(2 ^ 64) < i) && decide (i < 2 ^ 64)
def modD : D → D → Option D
  | .int i, .int j => if 0 < j then some (.int (i % j)) else none
  | _, _ => none
theorem o_mod : OpD X (binaryOp .Mod) modD := by
  refine ⟨_, op_mod, ?_⟩
  intro H F x y d e d' su hx hy hg Q q
  cases hx with
  | int i =>
    cases hy with
    | int j =>
      have hg : (if 0 < j then some (D.int (i % j)) else none) = some d' := hg
      by_cases hl : 0 < j
      · rw [if_pos hl] at hg
        cases hg
        exact ⟨i, j, rfl, rfl, hl, q _ H F (Ext.refl su) (.int _)⟩
      · rw [if_neg hl] at hg
        cases hg
    | _ => cases hg
  | _ => cases hg
def powD : D → D → Option D
  | .int i, .int j => if 0 ≤ j ∧ j ≤ 1000 ∧ i.natAbs < 2 ^ 64 then some (.int (i ^ j.toNat)) else none
  | _, _ => none
theorem o_pow : OpD X (binaryOp .Pow) powD := by
  refine ⟨_, op_pow, ?_⟩
  intro H F x y d e d' su hx hy hg Q q
  cases hx with
  | int i =>
    cases hy with
    | int j =>
      have hg : (if 0 ≤ j ∧ j ≤ 1000 ∧ i.natAbs < 2 ^ 64 then some (D.int (i ^ j.toNat)) else none) = some d' := hg
      by_cases hl : 0 ≤ j ∧ j ≤ 1000 ∧ i.natAbs < 2 ^ 64
      · rw [if_pos hl] at hg
        cases hg
        exact ⟨i, j, rfl, rfl, ⟨hl.1, by omega, hl.2.2⟩, q _ H F (Ext.refl su) (.int _)⟩
      · rw [if_neg hl] at hg
        cases hg
    | _ => cases hg
  | _ => cases hg
def eqD : D → D → Option D
  | .str x, .str y => some (.bl (decide (x = y)))
  | .int i, .int j => some (.bl (decide (i = j)))
  | d, e => if (d.ok 10 && e.ok 10) = true then some (.bl (PyData.eqv d.py e.py)) else none
def neD : D → D → Option D
  | .str x, .str y => some (.bl (!decide (x = y)))
  | .int i, .int j => some (.bl (!decide (i = j)))
  | d, e => if (d.ok 10 && e.ok 10) = true then some (.bl (!PyData.eqv d.py e.py)) else none
theorem eqD_of (d e : D) {d' : D} (h : eqD d e = some d') : (∃ x y, d = .str x ∧ e = .str y ∧ d' = .bl (decide (x = y))) ∨ (∃ x y, d = .int x ∧ e = .int y ∧ d' = .bl (decide (x = y))) ∨ ((d.ok 10 && e.ok 10) = true ∧ d' = .bl (PyData.eqv d.py e.py)) := by
  have key : ∀ {c : Bool} {u v : D}, (if c = true then some u else none) = some v → c = true ∧ v = u := fun {c u v} h => by
    cases c with
    | true => rw [if_pos rfl] at h; cases h; exact ⟨rfl, rfl⟩
    | false => rw [if_neg Bool.false_ne_true] at h; cases h
  unfold eqD at h
  split at h
  · cases h; exact .inl ⟨_, _, rfl, rfl, rfl⟩
  · cases h; exact .inr (.inl ⟨_, _, rfl, rfl, rfl⟩)
  · exact .inr (.inr (key h))
theorem neD_of (d e : D) {d' : D} (h : neD d e = some d') : (∃ x y, d = .str x ∧ e = .str y ∧ d' = .bl (!decide (x = y))) ∨ (∃ x y, d = .int x ∧ e = .int y ∧ d' = .bl (!decide (x = y))) ∨ ((d.ok 10 && e.ok 10) = true ∧ d' = .bl (!PyData.eqv d.py e.py)) := by
  have key : ∀ {c : Bool} {u v : D}, (if c = true then some u else none) = some v → c = true ∧ v = u := fun {c u v} h => by
    cases c with
    | true => rw [if_pos rfl] at h; cases h; exact ⟨rfl, rfl⟩
    | false => rw [if_neg Bool.false_ne_true] at h; cases h
  unfold neD at h
  split at h
  · cases h; exact .inl ⟨_, _, rfl, rfl, rfl⟩
  · cases h; exact .inr (.inl ⟨_, _, rfl, rfl, rfl⟩)
  · exact .inr (.inr (key h))
theorem vstr_dec {x y : Str} : decide (V.str x = V.str y) = decide (x = y) := by
  by_cases e : x = y
  · subst e; simp
  · rw [decide_eq_false e, decide_eq_false (fun z => e (V.str.inj z))]
theorem vint_dec {x y : Int} : decide (V.int x = V.int y) = decide (x = y) := by
  by_cases e : x = y
  · subst e; simp
  · rw [decide_eq_false e, decide_eq_false (fun z => e (V.int.inj z))]
theorem o_eq (hu : X.A.units + 64 < cLine) : OpD X (compareOp .Eq) eqD := by
  refine ⟨_, op_eq.or (op_eqD hu), ?_⟩
  intro H F x y d e d' su hx hy hg Q q
  rcases eqD_of d e hg with ⟨a, b, rfl, rfl, rfl⟩ | ⟨a, b, rfl, rfl, rfl⟩ | ⟨h, rfl⟩
  · cases hx; cases hy
    refine .inl ⟨rfl, ?_⟩
    rw [vstr_dec]
    exact q _ H F (Ext.refl su) (.bl _)
  · cases hx; cases hy
    refine .inl ⟨rfl, ?_⟩
    rw [vint_dec]
    exact q _ H F (Ext.refl su) (.bl _)
  · rw [Bool.and_eq_true] at h
    exact .inr ⟨d.py, e.py, dp_up su (hx.dp 10 h.1), dp_up su (hy.dp 10 h.2), ok_shaped h.1 (by decide), ok_shaped h.2 (by decide), q _ H F (Ext.refl su) (.bl _)⟩
theorem o_ne (hu : X.A.units + 64 < cLine) : OpD X (compareOp .NotEq) neD := by
  refine ⟨_, op_ne.or (op_neD hu), ?_⟩
  intro H F x y d e d' su hx hy hg Q q
  rcases neD_of d e hg with ⟨a, b, rfl, rfl, rfl⟩ | ⟨a, b, rfl, rfl, rfl⟩ | ⟨h, rfl⟩
  · cases hx; cases hy
    refine .inl ⟨rfl, ?_⟩
    rw [vstr_dec]
    exact q _ H F (Ext.refl su) (.bl _)
  · cases hx; cases hy
    refine .inl ⟨rfl, ?_⟩
    rw [vint_dec]
    exact q _ H F (Ext.refl su) (.bl _)
  · rw [Bool.and_eq_true] at h
    exact .inr ⟨d.py, e.py, dp_up su (hx.dp 10 h.1), dp_up su (hy.dp 10 h.2), ok_shaped h.1 (by decide), ok_shaped h.2 (by decide), q _ H F (Ext.refl su) (.bl _)⟩
def cmpI (p : Int → Int → Bool) : D → D → Option D
  | .int i, .int j => some (.bl (p i j))
  | _, _ => none
theorem opv_int {p : Int → Int → Bool} : OpV K (rI0 fun i j => .bl (p i j)) (cmpI p) := by
  intro H F x y d e d' su hx hy hg Q q
  cases hx with
  | int i =>
    cases hy with
    | int j => cases hg; exact ⟨i, j, rfl, rfl, q _ H F (Ext.refl su) (.bl _)⟩
    | _ => cases hg
  | _ => cases hg
theorem o_lt : OpD X (compareOp .Lt) (cmpI fun i j => decide (i < j)) := ⟨_, op_lt, opv_int⟩
end
end DL
set_option maxHeartbeats 2000000
namespace DL
open PySem PySem.Spec PyProof.Rows L2
section
variable {X : Cx} {K : PySem.W.Frag}
theorem if_some {c : Prop} [Decidable c] {α : Type} {u v : α} (h : (if c then some u else none) = some v) : c ∧ v = u := by
  by_cases e : c
  · rw [if_pos e] at h; cases h; exact ⟨e, rfl⟩
  · rw [if_neg e] at h; cases h
theorem ifb_some {c : Bool} {α : Type} {u v : α} (h : (if c = true then some u else none) = some v) : c = true ∧ v = u := if_some h
def repS (x : Str) (n : Nat) : Str := ⟨(List.replicate n x.cps.toList).flatten.toArray⟩
def rMulS : R2 := fun x y H Q => ∃ z k, x = .str z ∧ y = .int k ∧ 0 ≤ k ∧ k ≤ 1000 ∧ z.length ≤ 1000 ∧ Q (.str (repS z k.toNat)) H
theorem fold_cat : ∀ (n : Nat) (a : Array Nat) (acc : Array Nat), (List.replicate n a).foldl (· ++ ·) acc = acc ++ (List.replicate n a.toList).flatten.toArray
  | 0, a, acc => by simp
  | n + 1, a, acc => by
    rw [List.replicate_succ, List.foldl_cons, fold_cat n a (acc ++ a), List.replicate_succ, List.flatten_cons]
    apply Array.ext'
    simp
theorem op_mulS : OpR X (binaryOp .Mult) rMulS := by
  intro pins s σ H x y v u Q I rx ry h
  obtain ⟨z, k, rfl, rfl, h0, h1, hz, q⟩ := h
  obtain ⟨t, rfl⟩ := rx
  obtain ⟨t', rfl⟩ := ry
  have hl : (repS z k.toNat).length = k.toNat * z.length := by
    unfold repS Str.length
    simp
  refine PySem.P.mul_str (by rw [decide_eq_false (by omega), decide_eq_false (by omega)]; rfl) (fun hn _ => ?_) (fun hn _ => ?_) ?_
  · have hk : 0 < k := by omega
    have e : (1000 : Int) ≤ (2 ^ 63 - 1) / k := by
      refine Int.le_ediv_of_mul_le hk ?_
      have : (1000 : Int) * k ≤ 1000 * 1000 := Int.mul_le_mul_of_nonneg_left h1 (by decide)
      omega
    omega
  · unfold Builtin.Str.tooLong
    have a1 : z.length * k.toNat ≤ 1000 * 1000 := Nat.mul_le_mul hz (by omega)
    exact decide_eq_false (by rw [sizeLine_eq]; omega)
  · by_cases hn : k < 1
    · rw [if_pos hn]
      have hk : k = 0 := by omega
      subst hk
      exact ⟨by decide, .str _, H, I.tok _, ⟨_, rfl⟩, q⟩
    · rw [if_neg hn]
      by_cases hc : (k == 1 || z.length == 0) = true
      · rw [if_pos hc]
        have e : repS z k.toNat = z := by
          rw [Bool.or_eq_true, beq_iff_eq, beq_iff_eq] at hc
          rcases hc with hc | hc
          · subst hc
            unfold repS
            apply Str.ext'
            simp
          · have hz0 : z.cps = #[] := Array.eq_empty_of_size_eq_zero hc
            unfold repS
            apply Str.ext'
            rw [hz0]
            simp
        rw [e] at q
        exact ⟨.str z, H, I, ⟨t, rfl⟩, q⟩
      · rw [if_neg hc]
        have e : (⟨(List.replicate k.toNat z.cps).foldl (· ++ ·) #[]⟩ : Str) = repS z k.toNat := by
          unfold repS
          apply Str.ext'
          rw [fold_cat]
          simp
        rw [e]
        refine ⟨?_, .str _, H, I.tok _, ⟨_, rfl⟩, q⟩
        rw [hl]
        have a1 : k.toNat * z.length ≤ 1000 * 1000 := Nat.mul_le_mul (by omega) hz
        rw [sizeLine_eq]
        omega
/-- list * int, however the list is known -/
def rRepR : R2 := fun x y H Q => ∃ l k xs, x = .ref l ∧ y = .int k ∧ Rd H l (.lst xs) ∧ -(2 ^ 63) ≤ k ∧ k < 2 ^ 63 ∧ xs.length * k.toNat ≤ sizeLine ∧
  ∀ p, H p = none → Q (.ref p) (upd H p (.lst (List.replicate k.toNat xs).flatten))
theorem op_repR : OpR X (binaryOp .Mult) rRepR := by
  intro pins s σ H x y v u Q I rx ry h
  obtain ⟨l, k, xs, rfl, rfl, hH, h1, h2, hz, q⟩ := h
  cases rx
  obtain ⟨t, rfl⟩ := ry
  obtain ⟨z, its, n, r, hl, e⟩ := rd_lst I hH
  have hlen : its.toArray.size * k.toNat ≤ sizeLine := by rw [List.size_toArray, ← hl]; exact hz
  have hcap : ¬ its.toArray.size * k.toNat > (2 ^ 63 - 1) / 8 := by
    have : (sizeLine : Nat) ≤ (2 ^ 63 - 1) / 8 := by decide
    omega
  have hfit : ¬ (!Builtin.List.listFitsIndex k) = true := by
    rw [fitsIndex_both h1 h2]
    exact Bool.false_ne_true
  have hlong : ¬ Builtin.List.listTooLong (its.toArray.size * k.toNat) = true := by
    rw [notLongL hlen]
    exact Bool.false_ne_true
  have hnew : List.foldl (fun x1 x2 => x1 ++ x2) #[] (List.replicate (if its.toArray.isEmpty = true then 0 else k.toNat) its.toArray) = (List.replicate k.toNat its).flatten.toArray := by
    have f0 : ∀ m : Nat, List.foldl (fun x1 x2 => x1 ++ x2) #[] (List.replicate m its.toArray) = (List.replicate m its).flatten.toArray := fun m => by
      have := foldl_rep its m []
      rw [List.nil_append] at this
      exact this
    rw [f0]
    cases its with
    | nil => simp
    | cons a r' => rw [if_neg (by simp)]
  refine wpAny_binaryOp_repeat_ref (T := "list") (U := "int") (by decide) ⟨_, e, rfl⟩ (fun s' => typeIs_int s' k t) noFill_list_mul F.fills_int_mul F.slot_int_rmul repeat_list F.slot_int_index.lookup
    (call_meets F.slot_int_rmul (typeIs_int s k t) F.entry_int_rmul (F.args_int_rmul_2 _ _) (int___rmul___int_list k t l its.toArray n)
      ⟨e, rfl, ⟨_, e, rfl⟩, call_meets F.slot_list_mul ⟨_, e, rfl⟩ F.entry_list_mul (F.args_list_mul_2 _ _) (AutoListH.list___mul___list_int_3 l its.toArray n k t hfit hcap hlong) ⟨e, ?_⟩⟩)
  rw [hnew]
  exact ⟨.ref _, _, I.lnew (t' := s.toks) (r.rep k.toNat) (by rw [PyProof.Rows.lm_len_rep_flat, Nat.mul_comm]; exact hz), rfl, q _ I.fresh⟩
def mulD : D → D → Option D
  | .int i, .int j => if (small64b i || small64b j) = true then some (.int (i * j)) else none
  | .str x, .int k => if (decide (0 ≤ k) && decide (k ≤ 1000) && decide (x.length ≤ 1000)) = true then some (.str (repS x k.toNat)) else none
  | .lst xs, .int k => if (decide (0 ≤ k) && decide (k ≤ 1000) && decide (xs.length ≤ 1000)) = true then some (.lst (List.replicate k.toNat xs).flatten) else none
  | .tup xs, .int k => if (decide (2 ≤ k) && decide (k ≤ 1000) && decide (xs.length ≤ 1000) && !xs.isEmpty) = true then some (.tup (List.replicate k.toNat xs).flatten) else none
  | _, _ => none
theorem IsAll.reps {F : Hp} {vs : List V} {ds : List D} (h : IsAll K F vs ds) : ∀ n : Nat, IsAll K F (List.replicate n vs).flatten (List.replicate n ds).flatten
  | 0 => .nil
  | n + 1 => by
    rw [List.replicate_succ, List.replicate_succ, List.flatten_cons, List.flatten_cons]
    exact h.app (IsAll.reps h n)
theorem o_mul : OpD X (binaryOp .Mult) mulD := by
  refine ⟨_, op_mul.or (op_mulS.or (op_repR.or op_repT)), ?_⟩
  intro H F x y d e d' su hx hy hg Q q
  cases hx with
  | int i =>
    cases hy with
    | int j =>
      obtain ⟨h, rfl⟩ := ifb_some (show (if (small64b i || small64b j) = true then some (D.int (i * j)) else none) = some d' from hg)
      have hc : CMul i j := by
        unfold small64b at h
        rw [Bool.or_eq_true, Bool.and_eq_true, Bool.and_eq_true] at h
        rcases h with ⟨a, b⟩ | ⟨a, b⟩
        · exact .inl ⟨of_decide_eq_true a, of_decide_eq_true b⟩
        · exact .inr ⟨of_decide_eq_true a, of_decide_eq_true b⟩
      exact .inl ⟨i, j, rfl, rfl, hc, q _ H F (Ext.refl su) (.int _)⟩
    | _ => cases hg
  | str a =>
    cases hy with
    | int k =>
      obtain ⟨h, rfl⟩ := ifb_some (show (if (decide (0 ≤ k) && decide (k ≤ 1000) && decide (a.length ≤ 1000)) = true then some (D.str (repS a k.toNat)) else none) = some d' from hg)
      simp only [Bool.and_eq_true, decide_eq_true_eq] at h
      exact .inr (.inl ⟨a, k, rfl, rfl, h.1.1, h.1.2, h.2, q _ H F (Ext.refl su) (.str _)⟩)
    | _ => cases hg
  | lst h1 h2 =>
    rename_i a xs ds
    cases hy with
    | int k =>
      obtain ⟨h, rfl⟩ := ifb_some (show (if (decide (0 ≤ k) && decide (k ≤ 1000) && decide (ds.length ≤ 1000)) = true then some (D.lst (List.replicate k.toNat ds).flatten) else none) = some d' from hg)
      simp only [Bool.and_eq_true, decide_eq_true_eq] at h
      refine .inr (.inr (.inl ⟨a, k, xs, rfl, rfl, su.rd h1, by omega, by omega, ?_, fun p n => q _ _ _ (ext_new su n) (new_lst su n (h2.reps _))⟩))
      have a1 : xs.length * k.toNat ≤ 1000 * 1000 := Nat.mul_le_mul (by rw [h2.len]; exact h.2) (by omega)
      rw [sizeLine_eq]
      omega
    | _ => cases hg
  | tup h1 h2 =>
    rename_i a xs ds
    cases hy with
    | int k =>
      obtain ⟨h, rfl⟩ := ifb_some (show (if (decide (2 ≤ k) && decide (k ≤ 1000) && decide (ds.length ≤ 1000) && !ds.isEmpty) = true then some (D.tup (List.replicate k.toNat ds).flatten) else none) = some d' from hg)
      simp only [Bool.and_eq_true, decide_eq_true_eq] at h
      refine .inr (.inr (.inr ⟨a, k, xs, rfl, rfl, su.t h1, fun e => ?_, h.1.1.1, h.1.1.2, by rw [h2.len]; exact h.1.2, fun p n => q _ _ _ (ext_new su n) (new_tup su n (h2.reps _))⟩))
      subst e
      cases h2
      exact absurd h.2 (by decide)
    | _ => cases hg
  | _ => cases hg
def D.isNon : D → Bool
  | .non => true
  | _ => false
def isD : D → D → Option D
  | d, .non => some (.bl d.isNon)
  | _, _ => none
def isntD : D → D → Option D
  | d, .non => some (.bl (!d.isNon))
  | _, _ => none
end
end DL
set_option maxHeartbeats 2000000
namespace DL
open PySem PySem.Spec PyProof.Rows L2
section
variable {C : Ct} {W : WX} {X : Cx} {σ : L2.St} {H F : Hp} {s : S} {fa fb fc : M D} {a b c : Expr} {pos : Pos} {K : PySem.W.Frag}
def View (K : PySem.W.Frag) (F H : Hp) (v : V) (d : D) : Prop := Is K F v d ∨ ∃ a c, v = .ref a ∧ d = Cell.d c ∧ CellAt K F H a c
def peekD (s : S) (i : Nat) : Option D := match s.sl[i]? with
  | some (.val d) => some d
  | some (.own c) => some c.d
  | some (.io j) => (s.io[j]?).map Cell.d
  | _ => none
def mpeek (i : Nat) : M D := fun s => mopt (peekD s i) s
def atD : D → D → Option D
  | .lst xs, .int i => atI xs i
  | .tup xs, .int i => atI xs i
  | .str z, .int i => if z.length ≤ LN then (atI z.cps.toList i).map fun c => .str ⟨#[c]⟩ else none
  | _, _ => none
theorem IsAll.at {F : Hp} {vs : List V} {ds : List D} {i : Int} {d : D} (h : IsAll K F vs ds) (e : atI ds i = some d) : ∃ v, atI vs i = some v ∧ Is K F v d := by
  unfold atI at e ⊢
  rw [h.len]
  cases q : ixN ds.length i with
  | none => rw [q] at e; cases e
  | some j =>
    rw [q] at e
    exact h.get e
theorem ix_view {x y : V} {d e d' : D} (su : Sub F H) (hx : View K F H x d) (hy : Is K F y e) (hg : atD d e = some d') : ∃ v, Is K F v d' ∧ ∀ Q : VK, Q v H → rIx K x y H Q := by
  have lst : ∀ {a : Addr} {xs : List V} {ds : List D}, Rd H a (.lst xs) → IsAll K F xs ds → atD (.lst ds) e = some d' → ∃ v, Is K F v d' ∧ ∀ Q : VK, Q v H → rIx K (.ref a) y H Q := fun {a xs ds} h1 h2 hg => by
    cases hy with
    | int i =>
      obtain ⟨v, e1, e2⟩ := h2.at hg
      exact ⟨v, e2, fun Q q => .inl ⟨a, xs, i, v, rfl, rfl, .inl h1, e1, q⟩⟩
    | _ => cases hg
  rcases hx with hx | ⟨a, c, rfl, rfl, hc⟩
  · cases hx with
    | lst h1 h2 => exact lst (su.rd h1) h2 hg
    | tup h1 h2 =>
      rename_i a xs ds
      cases hy with
      | int i =>
        obtain ⟨v, e1, e2⟩ := h2.at hg
        exact ⟨v, e2, fun Q q => .inr (.inl ⟨a, xs, i, v, rfl, rfl, su.t h1, e1, q⟩)⟩
      | _ => cases hg
    | str z =>
      cases hy with
      | int i =>
        have hg : (if z.length ≤ LN then (atI z.cps.toList i).map fun c => D.str ⟨#[c]⟩ else none) = some d' := hg
        by_cases hl : z.length ≤ LN
        · rw [if_pos hl] at hg
          obtain ⟨c, e1, rfl⟩ := Option.map_eq_some_iff.mp hg
          exact ⟨_, .str _, fun Q q => .inr (.inr ⟨z, i, c, rfl, rfl, ln_line hl, e1, q⟩)⟩
        · rw [if_neg hl] at hg
          cases hg
      | _ => cases hg
    | _ => cases hg
  · cases c with
    | lst ds => obtain ⟨xs, h1, h2⟩ := hc; exact lst (.inl h1) h2 hg
    | _ => cases hg
theorem d_ix (hK : C.K = X.K) (ha : DE X C W a fa) (hb : DE X C W b fb) (hs : PlainIx b := by exact fun _ _ => rfl) : DE X C W (.Subscript a b pos) (bin atD fa fb) := by
  refine pe_imp (pe_ix ix_seq ha hb hs) (t_bin fun H F x y d e d' su hx hy hg Q q => ?_)
  rw [hK] at hx hy
  obtain ⟨v, iv, k⟩ := ix_view su (.inl hx) hy hg
  exact k Q (q v H F (Ext.refl su) (by rw [hK]; exact iv))
def mhas (i : Nat) : M Unit := fun s => match peekD s i with
  | some _ => .ok () s
  | none => .bad
/-- first a slot, then b, then the slot's thing as it stands then -/
def slotThen (i : Nat) (fb : M D) (g : D → D → Option D) : M D := mbind (mhas i) fun _ => mbind fb fun k => mbind (mpeek i) fun d => mopt (g d k)
def UnV (K : PySem.W.Frag) (r : V → Hp → VK → Prop) (g : D → Option D) : Prop :=
  ∀ (H F : Hp) (x : V) (d d' : D), Sub F H → Is K F x d → g d = some d' → ∀ Q : VK, (∀ v H' F', Ext H F H' F' → Is K F' v d' → Q v H') → r x H Q
theorem t_un {rr : V → Hp → VK → Prop} {g : D → Option D} (ov : UnV C.K rr g) (σ : L2.St) (H : Hp) (Q : VK) (h : tD C W (un g fa) σ H Q) : tUn rr (tD C W fa) σ H Q := by
  obtain ⟨F, s, r, q⟩ := h
  refine ⟨F, s, r, (Post.bind q).mono fun d s1 H1 F1 r1 u1 q1 x ix => ?_⟩
  obtain ⟨d', e1, q3⟩ := post_val q1 r1
  exact ov H1 F1 x d d' r1.sub ix e1 Q fun v H' F' ex iv => q3 H' F' ex v iv
def negD : D → Option D
  | .int i => some (.int (-i))
  | _ => none
theorem d_neg (ha : DE X C W a fa) : DE X C W (.UnaryOp .USub a pos) (un negD fa) :=
  pe_imp (pe_un un_neg ha) (t_un fun H F x d d' su hx hg Q q => by
    cases hx with
    | int i => cases hg; exact ⟨i, rfl, q _ H F (Ext.refl su) (.int _)⟩
    | _ => cases hg)
def truD : D → Option Bool
  | .non => some false
  | .bl b => some b
  | .int i => some (i != 0)
  | .str y => if y.length ≤ LN then some ((y.length : Int) != 0) else none
  | .tup xs => some (!xs.isEmpty)
  | .lst xs => some (!xs.isEmpty)
  | .dic kvs => some (!kvs.isEmpty)
  | _ => none
theorem isEmpty_all {F : Hp} {vs : List V} {ds : List D} (h : IsAll K F vs ds) : (!ds.isEmpty) = !vs.isEmpty := by
  cases h <;> rfl
theorem tru_view {x : V} {d : D} {k : Bool} (su : Sub F H) (hx : View K F H x d) (hg : truD d = some k) : TruV K x H k := by
  rcases hx with hx | ⟨a, c, rfl, rfl, hc⟩
  · cases hx with
    | non => cases hg; rfl
    | bl b => cases hg; rfl
    | int i => cases hg; rfl
    | str y =>
      have hg : (if y.length ≤ LN then some ((y.length : Int) != 0) else none) = some k := hg
      obtain ⟨h1, rfl⟩ := if_some hg
      exact ⟨ln_line h1, rfl⟩
    | tup h1 h2 => cases hg; exact .inr (.inl ⟨_, su.t h1, isEmpty_all h2⟩)
    | lst h1 h2 => cases hg; exact .inl ⟨_, .inl (su.rd h1), isEmpty_all h2⟩
    | dic h1 h2 => cases hg; exact .inr (.inr ⟨_, su _ _ h1, by cases h2 <;> rfl⟩)
    | _ => cases hg
  · cases c with
    | lst ds => obtain ⟨xs, h1, h2⟩ := hc; cases hg; exact .inl ⟨_, .inl (.inl h1), isEmpty_all h2⟩
    | ins _ _ => cases hg
    | dic kvs => obtain ⟨ks, h1, h2⟩ := hc; cases hg; exact .inr (.inr ⟨_, h1, by cases h2 <;> rfl⟩)
    | tdc _ => cases hg
/-- a value's truth -/
def tru (f : M D) : M Bool := mbind f fun d => mopt (truD d)
theorem dt_truth (hK : C.K = X.K) (ha : DE X C W a fa) (he : ∀ whole, isTrue a X.env whole = (do let v ← whole; standAt a.pos; holding [v] (truthy v)) := by intro _; rfl) : DT X C W a (tru fa) := by
  refine pt_imp (pt_truth ha he) fun σ H Q ⟨F, s, r, q⟩ => ⟨F, s, r, (Post.bind q).mono fun d s1 H1 F1 r1 u1 q1 v iv => ?_⟩
  obtain ⟨k, e1, q2⟩ := post_optB q1 r1
  rw [hK] at iv
  exact ⟨k, tru_view r1.sub (.inl iv) e1, q2 H1 F1 (Ext.refl r1.sub)⟩
def eAnd (fa fb : M D) : M D := mbind fa fun d => mbind (mopt (truD d)) fun k => if k = true then fb else mret d
def eOr (fa fb : M D) : M D := mbind fa fun d => mbind (mopt (truD d)) fun k => if k = true then mret d else fb
variable {rest : List Expr} {ta tb : M Bool}
theorem d_one {op} (h : DE X C W a fa) : DE X C W (.BoolOp op [a] pos) fa := pe_one h
theorem d_and (hK : C.K = X.K) (ha : DE X C W a fa) (hb : DE X C W (.BoolOp .And (b :: rest) pos) fb) : DE X C W (.BoolOp .And (a :: b :: rest) pos) (eAnd fa fb) := by
  refine pe_imp (pe_andT ha hb) fun σ H Q ⟨F, s, r, q⟩ => ⟨F, s, r, (Post.bind q).mono fun d s1 H1 F1 r1 u1 q1 v iv => ?_⟩
  obtain ⟨k, e1, q2⟩ := post_optB (Post.bind q1) r1
  have q3 := q2 H1 F1 (Ext.refl r1.sub)
  have iv' := iv
  rw [hK] at iv'
  refine ⟨k, tru_view r1.sub (.inl iv') e1, ?_⟩
  cases k with
  | true => rw [if_pos rfl] at q3 ⊢; exact ⟨F1, s1, r1, q3⟩
  | false => rw [if_neg Bool.false_ne_true] at q3 ⊢; exact q3 H1 F1 r1 (Sub.refl _) v iv
def notD (d : D) : Option D := (truD d).map fun k => .bl (!k)
theorem d_not (hK : C.K = X.K) (ha : DE X C W a fa) : DE X C W (.UnaryOp .Not a pos) (un notD fa) := by
  refine pe_imp (pe_notT ha) fun σ H Q ⟨F, s, r, q⟩ => ⟨F, s, r, (Post.bind q).mono fun d s1 H1 F1 r1 u1 q1 v iv => ?_⟩
  obtain ⟨d', e1, q2⟩ := post_val q1 r1
  obtain ⟨k, e2, rfl⟩ := Option.map_eq_some_iff.mp e1
  rw [hK] at iv
  exact ⟨k, tru_view r1.sub (.inl iv) e2, q2 H1 F1 (Ext.refl r1.sub) _ (.bl _)⟩
/-- tests -/
def tAndB (ta tb : M Bool) : M Bool := mbind ta fun k => if k = true then tb else mret false
def tOrB (ta tb : M Bool) : M Bool := mbind ta fun k => if k = true then mret true else tb
def tNotB (ta : M Bool) : M Bool := mbind ta fun k => mret (!k)
theorem dt_pw (h : DW X C W a ta) : DT X C W a ta := h.pt
theorem dw_or1 (ha : DT X C W a ta) : DW X C W (.BoolOp .Or [a] pos) ta := pw_or1 ha
theorem dw_or (ha : DT X C W a ta) (hb : DW X C W (.BoolOp .Or (b :: rest) pos) tb) : DW X C W (.BoolOp .Or (a :: b :: rest) pos) (tOrB ta tb) := by
  refine pw_imp (pw_or ha hb) fun σ H Q ⟨F, s, r, q⟩ => ⟨F, s, r, (Post.bind q).mono fun k s1 H1 F1 r1 u1 q1 => ?_⟩
  cases k with
  | true => rw [if_pos rfl] at q1 ⊢; exact q1 H1 F1 r1 (Sub.refl _)
  | false => rw [if_neg Bool.false_ne_true] at q1 ⊢; exact ⟨F1, s1, r1, q1⟩
theorem dt_not (ha : DT X C W a ta) : DT X C W (.UnaryOp .Not a pos) (tNotB ta) :=
  pt_imp (pt_not ha) fun σ H Q ⟨F, s, r, q⟩ => ⟨F, s, r, (Post.bind q).mono fun k s1 H1 F1 r1 u1 q1 => q1 H1 F1 r1 (Sub.refl _)⟩
def eIf (t : M Bool) (fa fb : M D) : M D := mbind t fun k => if k = true then fa else fb
variable {es : List Expr} {fs : M (List D)}
def aCons (fa : M D) (fs : M (List D)) : M (List D) := mbind fa fun d => mbind fs fun ds => mret (d :: ds)
theorem da_nil : DA X C W [] (mret []) := pa_imp pa_nil fun σ H Q ⟨F, s, r, q⟩ => q H F r (Sub.refl _) [] .nil
theorem da_cons (ha : DE X C W a fa) (hr : DA X C W es fs) (hs : starEach (a :: es) X.env = (false, eval a X.env) :: starEach es X.env := by rfl) : DA X C W (a :: es) (aCons fa fs) := by
  refine pa_imp (pa_cons ha hr hs) fun σ H Q ⟨F, s, r, q⟩ => ⟨F, s, r, (Post.bind q).mono fun d s1 H1 F1 r1 u1 q1 x ix => ⟨F1, s1, r1, (Post.bind q1).mono fun ds s2 H2 F2 r2 u2 q2 xs ixs => ?_⟩⟩
  exact q2 H2 F2 r2 (Sub.refl _) _ (.cons (ix.up u2) ixs)
def eTup (fs : M (List D)) : M D := mbind fs fun ds => if ds.length ≤ LN then mret (.tup ds) else fun _ => .bad
def eLst (fs : M (List D)) : M D := mbind fs fun ds => if ds.length ≤ LN then mret (.lst ds) else fun _ => .bad
def oLst (fs : M (List D)) : M Cell := mbind fs fun ds => if ds.length ≤ LN then mret (.lst ds) else fun _ => .bad
theorem post_ite {α : Type} {c : Prop} [Decidable c] {x : α} {P : α → S → Hp → Hp → Prop} (q : Post C W σ F ((if c then mret x else fun _ => .bad : M α) s) P) (r : Rel C σ H F s) : c ∧ ∀ H' F', Ext H F H' F' → P x s H' F' := by
  by_cases h : c
  · rw [if_pos h] at q
    exact ⟨h, fun H' F' e => q H' F' (r.ext e) e.f⟩
  · rw [if_neg h] at q
    exact q.elim
theorem d_tup {k} (h : DA X C W es fs) : DE X C W (.Tuple es k pos) (eTup fs) := by
  refine pe_imp (pe_tup h) fun σ H Q ⟨F, s, r, q⟩ => ⟨F, s, r, (Post.bind q).mono fun ds s1 H1 F1 r1 u1 q1 xs ixs => ?_⟩
  obtain ⟨hl, q2⟩ := post_ite q1 r1
  exact ⟨by rw [ixs.len]; exact ln_line hl, fun p n => q2 _ _ (ext_new r1.sub n) _ (new_tup r1.sub n ixs)⟩
theorem d_lst (h : DA X C W es fs) : DE X C W (.List es pos) (eLst fs) := by
  refine pe_imp (pe_lst h) fun σ H Q ⟨F, s, r, q⟩ => ⟨F, s, r, (Post.bind q).mono fun ds s1 H1 F1 r1 u1 q1 xs ixs => ?_⟩
  obtain ⟨hl, q2⟩ := post_ite q1 r1
  exact ⟨by rw [ixs.len]; exact ln_line hl, fun p n => q2 _ _ (ext_new r1.sub n) _ (new_lst r1.sub n ixs)⟩
/-- a new thing that is not known to stay -/
theorem ext_own {p : Addr} {o : HO} (su : Sub F H) (n : H p = none) : Ext H F (upd H p o) F where
  h := fun a u e => by rw [upd_ne (ne_of_none e n)]; exact e
  f := Sub.refl _
  s := fun a u e => by rw [upd_ne (ne_of_none (su a u e) n)]; exact su a u e
  o := fun _ _ => rfl
theorem Rel.newH (r : Rel C σ H F s) {p : Addr} (n : H p = none) : C.H0 p = none := by
  cases e : C.H0 p with
  | none => rfl
  | some o =>
    by_cases m : p ∈ C.A
    · obtain ⟨j, hj⟩ := List.getElem?_of_mem m
      cases z : s.io[j]? with
      | none =>
        have l1 := List.getElem?_eq_none_iff.mp z
        have l2 : j < C.A.length := (List.getElem?_eq_some_iff.mp hj).1
        rw [r.iol] at l1
        omega
      | some c =>
        obtain ⟨o, ho⟩ := (r.io j p c hj z).2.there
        rw [n] at ho
        cases ho
    · exact absurd n (r.keep p o e m).ne
theorem Rel.newF (r : Rel C σ H F s) {p : Addr} (n : H p = none) : F p = none := by
  cases e : F p with
  | none => rfl
  | some o => rw [r.sub p o e] at n; cases n
theorem Rel.newO (r : Rel C σ H F s) {p : Addr} (n : H p = none) : ∀ i, ¬ OwnAt σ s.sl i p := fun i ⟨e, c, h⟩ => by
  obtain ⟨a, e1, _, _, e4⟩ := r.slot i _ h
  rw [e] at e1
  cases e1
  obtain ⟨o, ho⟩ := e4.there
  rw [n] at ho
  cases ho
theorem o_lst (h : DA X C W es fs) : DO X C W (.List es pos) (oLst fs) := by
  refine pe_imp (pe_lst h) fun σ H Q ⟨F, s, r, q⟩ => ⟨F, s, r, (Post.bind q).mono fun ds s1 H1 F1 r1 u1 q1 xs ixs => ?_⟩
  obtain ⟨hl, q2⟩ := post_ite q1 r1
  refine ⟨by rw [ixs.len]; exact ln_line hl, fun p n => q2 _ _ (ext_own r1.sub n) p (fun i h => r1.newO n i h) (r1.newH n) (r1.newF n) ⟨xs, upd_same, ixs⟩⟩
end
end DL
set_option maxHeartbeats 2000000
namespace DL
open PySem PySem.Spec PyProof.Rows L2
section
variable {C : Ct} {W : WX} {X : Cx} {σ : L2.St} {H F : Hp} {s : S} {fa fb fc : M D} {a b c e : Expr} {es : List Expr} {fs : M (List D)} {pos p : Pos} {K : PySem.W.Frag} {x : Str} {bid T : String}
abbrev RC := List V → Hp → VK → Prop
def OpC (K : PySem.W.Frag) (r : RC) (g : List D → Option D) : Prop :=
  ∀ (H F : Hp) (vs : List V) (ds : List D) (d' : D), Sub F H → IsAll K F vs ds → g ds = some d' → ∀ Q : VK, (∀ v H' F', Ext H F H' F' → Is K F' v d' → Q v H') → r vs H Q
def CalD (X : Cx) (f : Value) (g : List D → Option D) : Prop := ∃ r, CallR X f r ∧ OpC X.K r g
def cal (g : List D → Option D) (fs : M (List D)) : M D := mbind fs fun ds => mopt (g ds)
def calN (g : List D → Option (List D)) (fs : M (List D)) : M Cell := mbind fs fun ds => mbind (mopt (g ds)) fun xs => mret (.lst xs)
def calL (g : List D → Option (List D)) (fs : M (List D)) : M D := mbind fs fun ds => mbind (mopt (g ds)) fun xs => mret (.lst xs)
theorem t_cal {rr : RC} {g : List D → Option D} (ov : OpC C.K rr g) (σ : L2.St) (H : Hp) (Q : VK) (h : tD C W (cal g fs) σ H Q) : tCB rr (tA C W fs) σ H Q := by
  obtain ⟨F, s, r, q⟩ := h
  refine ⟨F, s, r, (Post.bind q).mono fun ds s1 H1 F1 r1 u1 q1 xs ixs => ?_⟩
  obtain ⟨d', e1, q3⟩ := post_val q1 r1
  exact ov H1 F1 xs ds d' r1.sub ixs e1 Q fun v H' F' ex iv => q3 H' F' ex v iv
theorem d_callB {g : List D → Option D} (hK : C.K = X.K) (hc : CalD X (.builtin bid) g) (hm : X.mg x = none) (hv : bootBuiltins x = some (.builtin bid)) (ha : DA X C W (e :: es) fs) (hg : Gl X x := by rfl) (hn : x ≠ "__name__" := by decide) (hdb : (x == ("__debug__" : Str)) = false := by decide)
    (he : starEach (e :: es) X.env = (false, eval e X.env) :: starEach es X.env := by rfl) (hpl : (backTo pos (starEach es X.env)).any (·.1) = false := by rfl) : DE X C W (.Call (.Name x p) (e :: es) [] pos) (cal g fs) := by
  obtain ⟨r, o1, o2⟩ := hc
  exact pe_imp (pe_callB o1 hg hm hv ha hn hdb he hpl) (t_cal (by rw [hK]; exact o2))
theorem d_callT {g : List D → Option D} (hK : C.K = X.K) (hc : CalD X (.type T) g) (hm : X.mg x = none) (hv : bootBuiltins x = some (.type T)) (ha : DA X C W (e :: es) fs) (hg : Gl X x := by rfl) (hn : x ≠ "__name__" := by decide) (hdb : (x == ("__debug__" : Str)) = false := by decide)
    (he : starEach (e :: es) X.env = (false, eval e X.env) :: starEach es X.env := by rfl) (hpl : (backTo pos (starEach es X.env)).any (·.1) = false := by rfl) : DE X C W (.Call (.Name x p) (e :: es) [] pos) (cal g fs) := by
  obtain ⟨r, o1, o2⟩ := hc
  exact pe_imp (pe_callTy o1 hg hm hv ha hn hdb he hpl) (t_cal (by rw [hK]; exact o2))
def lenD : D → Option Int
  | .str z => if z.length ≤ LN then some z.length else none
  | .lst xs => some xs.length
  | .tup xs => some xs.length
  | _ => none
def lenC : List D → Option D
  | [d] => (lenD d).map .int
  | _ => none
def rLenA (K : PySem.W.Frag) : RC := fun xs H Q => (∃ p ys, xs = [.ref p] ∧ (SqL K H p ys ∨ SqT K H p ys) ∧ Q (.int ys.length) H) ∨ ∃ z, xs = [.str z] ∧ z.length ≤ sizeLine ∧ Q (.int z.length) H
theorem len_view {v : V} {d : D} {n : Int} (su : Sub F H) (h : View K F H v d) (hg : lenD d = some n) {Q : VK} (q : Q (.int n) H) : rLenA K [v] H Q := by
  rcases h with h | ⟨a, c, rfl, rfl, hc⟩
  · cases h with
    | str z =>
      obtain ⟨h1, rfl⟩ := if_some (show (if z.length ≤ LN then some (z.length : Int) else none) = some n from hg)
      exact .inr ⟨z, rfl, ln_line h1, q⟩
    | lst h1 h2 => cases hg; exact .inl ⟨_, _, rfl, .inl (.inl (su.rd h1)), by rw [h2.len]; exact q⟩
    | tup h1 h2 => cases hg; exact .inl ⟨_, _, rfl, .inr (su.t h1), by rw [h2.len]; exact q⟩
    | _ => cases hg
  · cases c with
    | lst ds => obtain ⟨xs, h1, h2⟩ := hc; cases hg; exact .inl ⟨_, _, rfl, .inl (.inl (.inl h1)), by rw [h2.len]; exact q⟩
    | _ => cases hg
theorem c_len : CalD X (.builtin "len") lenC := by
  refine ⟨rLenA X.K, call_len_seq.or call_len_str, ?_⟩
  intro H F vs ds d' su h hg Q q
  cases h with
  | cons h r =>
    cases r with
    | cons _ _ => cases hg
    | nil =>
      obtain ⟨n, e1, rfl⟩ := Option.map_eq_some_iff.mp hg
      exact len_view su (.inl h) e1 (q _ H F (Ext.refl su) (.int _))
  | nil => cases hg
def intC : List D → Option D
  | [.int i] => some (.int i)
  | [.bl k] => some (.int (if k then 1 else 0))
  | _ => none
theorem c_int : CalD X (.type "int") intC := by
  refine ⟨_, call_int1, ?_⟩
  intro H F vs ds d' su h hg Q q
  cases h with
  | nil => cases hg
  | cons h r =>
    cases r with
    | nil =>
      cases h with
      | int i => cases hg; exact .inl ⟨i, rfl, q _ H F (Ext.refl su) (.int _)⟩
      | bl k => cases hg; exact .inr ⟨k, rfl, q _ H F (Ext.refl su) (.int _)⟩
      | _ => cases hg
    | cons _ _ => cases h <;> cases hg
def itemsD : D → Option (List D)
  | .lst xs => some xs
  | .tup xs => some xs
  | _ => none
def tupC : List D → Option D
  | [d] => (itemsD d).map .tup
  | _ => none
theorem one1 {α : Type} {vs : List V} {ds : List D} {y : α} {g : List D → Option α} {k : D → Option α} (h : IsAll K F vs ds) (hg : g ds = some y) (hk : ∀ ds y, g ds = some y → ∃ d, ds = [d] ∧ k d = some y) : ∃ v d, vs = [v] ∧ Is K F v d ∧ k d = some y := by
  obtain ⟨d, rfl, e⟩ := hk ds y hg
  cases h with
  | cons h r => cases r; exact ⟨_, d, rfl, h, e⟩
def rRepr (K : PySem.W.Frag) : RC := fun vs H Q => ∃ x d, vs = [x] ∧ Dp K H x d ∧ d.canLay0 = true ∧ d.depth ≤ 64 ∧ d.showable = true ∧ d.shown.length ≤ sizeLine ∧ Q (.str d.shown) H
theorem call_reprD (hg : X.A.guards = some []) (hu : X.A.units + 65 < cLine) : CallR X (.builtin "repr") (rRepr X.K) := by
  intro pins s σ H xs us Q I r h
  obtain ⟨x, d, rfl, hd, hl, hdp, hs, hz, q⟩ := h
  obtain ⟨u, rfl, ru⟩ := vals1 r
  obtain ⟨as, rd⟩ := Dp.reads I d x u hd ru
  cases rd with
  | none => exact PySem.P.repr_of_none ⟨.str _, H, I.tok _, ⟨_, rfl⟩, by simpa only [PyData.shown] using q⟩
  | bool b =>
    simp only [PyData.shown] at q
    exact PySem.P.repr_of_bool ⟨.str _, H, I.tok _, ⟨_, rfl⟩, by cases b <;> exact q⟩
  | int i t =>
    simp only [PyData.shown] at q
    exact PySem.P.repr_of_int (by simpa [PyData.showable] using hs) ⟨.str _, H, I.tok _, ⟨_, rfl⟩, q⟩
  | str z t =>
    simp only [PyData.shown] at q hz
    exact PySem.P.repr_of_str ⟨.str _, H, I.tok _, ⟨_, rfl⟩, q⟩ hz
  | list h1 h2 h3 h4 =>
    exact repr_of_reads' (.list h1 h2 h3 h4) hs (fun z => by rw [PyData.hasDict_of_canLay _ hl] at z; cases z) hg (by omega) (fun _ _ e => e) (fun h' u' tk hk => ⟨.str _, H, I.kept hk, ⟨_, rfl⟩, q⟩) hz
  | tuple h1 h2 h3 h4 =>
    exact repr_of_reads' (.tuple h1 h2 h3 h4) hs (fun z => by rw [PyData.hasDict_of_canLay _ hl] at z; cases z) hg (by omega) (fun _ _ e => e) (fun h' u' tk hk => ⟨.str _, H, I.kept hk, ⟨_, rfl⟩, q⟩) hz
  | dict _ _ _ _ _ => simp [PyData.canLay0] at hl
def reprC : List D → Option D
  | [d] => if (d.ok 10 && d.py.showable && decide (d.py.shown.length ≤ LN)) = true then some (.str d.py.shown) else none
  | _ => none
theorem c_repr (hg : X.A.guards = some []) (hu : X.A.units + 65 < cLine) : CalD X (.builtin "repr") reprC := by
  refine ⟨_, call_reprD hg hu, ?_⟩
  intro H F vs ds d' su h hg Q q
  obtain ⟨v, d, rfl, iv, e⟩ := one1 (k := fun d => if (d.ok 10 && d.py.showable && decide (d.py.shown.length ≤ LN)) = true then some (D.str d.py.shown) else none) h hg fun ds y e => by
    unfold reprC at e
    split at e
    · exact ⟨_, rfl, e⟩
    · cases e
  obtain ⟨z, rfl⟩ := ifb_some e
  simp only [Bool.and_eq_true, decide_eq_true_eq] at z
  have l := ok_lay 10 d z.1.1
  exact ⟨v, d.py, rfl, dp_up su (iv.dp 10 z.1.1), l.1, by omega, z.1.2, ln_line z.2, q _ H F (Ext.refl su) (.str _)⟩
end
end DL
set_option maxHeartbeats 2000000
namespace DL
open PySem PySem.Spec PyProof.Rows L2
section
variable {C : Ct} {W : WX} {X : Cx} {σ : L2.St} {H F : Hp} {s : S} {fa fb fc : M D} {a b c e : Expr} {es : List Expr} {fs : M (List D)} {pos p apos : Pos} {K : PySem.W.Frag} {x : Str} {bid T : String}
def tP (C : Ct) (W : WX) (f : M (Option Int)) : TO := fun σ H Q => ∃ F s, Rel C σ H F s ∧ Post C W σ F (f s) fun o _ H' _ => Q o H'
abbrev DP (X : Cx) (C : Ct) (W : WX) (e : Option Expr) (f : M (Option Int)) : Prop := PO X e (tP C W f)
theorem po_imp {X : Cx} {e : Option Expr} {t u : TO} (h : PO X e t) (i : ∀ σ H Q, u σ H Q → t σ H Q) : PO X e u := ⟨fun pins s σ H Q I q => h.run pins s σ H Q I (i _ _ _ q)⟩
def dI : D → Option (Option Int)
  | .int i => some (some i)
  | _ => none
def pSome (f : M D) : M (Option Int) := mbind f fun d => mopt (dI d)
theorem dp_none : DP X C W none (mret none) := po_imp po_none fun σ H Q ⟨F, s, r, q⟩ => q H F r (Sub.refl _)
theorem dp_some (h : DE X C W e fa) : DP X C W (some e) (pSome fa) := po_imp (po_some h) fun σ H Q ⟨F, s, r, q⟩ => ⟨F, s, r, (Post.bind q).mono fun d s1 H1 F1 r1 u1 q1 v iv => by
  cases iv with
  | int i => exact ⟨i, rfl, q1 H1 F1 r1 (Sub.refl _)⟩
  | _ => exact q1.elim⟩
def cutG {α : Type} (xs : List α) (lo hi : Option Int) : List α := (xs.drop (HT.sIx xs.length 0 lo)).take (HT.sIx xs.length xs.length hi - HT.sIx xs.length 0 lo)
theorem IsAll.cut {vs : List V} {ds : List D} (h : IsAll K F vs ds) (lo hi : Option Int) : IsAll K F (cutV vs lo hi) (cutG ds lo hi) := by
  unfold cutV cutG
  rw [h.len]
  exact (h.drop _).take _
def slD : D → Option Int → Option Int → Option D
  | .lst xs, lo, hi => some (.lst (cutG xs lo hi))
  | .tup xs, lo, hi => some (.tup (cutG xs lo hi))
  | .str z, lo, hi => if z.length ≤ LN then some (.str (cutS z lo hi)) else none
  | _, _, _ => none
def slice (fe : M D) (fl fh : M (Option Int)) : M D := mbind fe fun d => mbind fl fun l => mbind fh fun h => mopt (slD d l h)
theorem cut_whole {α : Type} {xs : List α} {lo hi : Option Int} (h : HT.sIx xs.length 0 lo = 0 ∧ HT.sIx xs.length xs.length hi = xs.length) : cutG xs lo hi = xs := by
  unfold cutG
  rw [h.1, h.2, List.drop_zero, Nat.sub_zero, List.take_length]
theorem d_slice {lo hi : Option Expr} {fl fh : M (Option Int)} {p2 : Pos} (hK : C.K = X.K) (he : DE X C W e fa) (hl : DP X C W lo fl) (hh : DP X C W hi fh) : DE X C W (.Subscript e (.Slice lo hi none p2) pos) (slice fa fl fh) := by
  refine pe_imp (pe_slice (sl_list.or (sl_tupA.or sl_str)) he hl hh) fun σ H Q ⟨F, s, r, q⟩ => ⟨F, s, r, (Post.bind q).mono fun d s1 H1 F1 r1 u1 q1 v iv => ⟨F1, s1, r1, (Post.bind q1).mono fun l s2 H2 F2 r2 u2 q2 => ⟨F2, s2, r2, (Post.bind q2).mono fun h s3 H3 F3 r3 u3 q3 => ?_⟩⟩⟩
  obtain ⟨d', e1, q4⟩ := post_val q3 r3
  have iv := (iv.up u2).up u3
  rw [hK] at iv
  have q4 : ∀ H' F', Ext H3 F3 H' F' → ∀ v, Is X.K F' v d' → Q v H' := by rw [← hK]; exact q4
  cases iv with
  | lst h1 h2 => cases e1; exact .inl ⟨_, _, rfl, .inl (r3.sub.rd h1), fun p n => q4 _ _ (ext_new r3.sub n) _ (new_lst r3.sub n (h2.cut l h))⟩
  | tup h1 h2 =>
    cases e1
    refine .inr (.inl ⟨_, _, rfl, r3.sub.t h1, fun w => ?_, fun _ p n => q4 _ _ (ext_new r3.sub n) _ (new_tup r3.sub n (h2.cut l h))⟩)
    rw [h2.len] at w
    rw [cut_whole w] at q4
    exact q4 _ _ (Ext.refl r3.sub) _ (.tup h1 h2)
  | str z =>
    obtain ⟨z1, rfl⟩ := if_some (show (if z.length ≤ LN then some (D.str (cutS z l h)) else none) = some d' from e1)
    exact .inr (.inr ⟨z, rfl, ln_line z1, q4 _ _ (Ext.refl r3.sub) _ (.str _)⟩)
  | _ => cases e1
def fmtD : D → Option D
  | .str y => if y.length ≤ LN then some (.str y) else none
  | .int i => if i.natAbs.log2 < 1920 then some (.str (Str.ofString (toString i))) else none
  | _ => none
def catS (acc : Str) : D → Option Str
  | .str y => if (acc ++ y).length ≤ LN then some (acc ++ y) else none
  | _ => none
def joins : Str → List (M D) → M D
  | acc, [] => mret (.str acc)
  | acc, f :: r => mbind f fun d => mbind (mopt (catS acc d)) fun acc' => joins acc' r
def txt : D → Option Str
  | .str z => some z
  | _ => none
def metS (g : Str → List D → Option D) (fo : M D) (fs : M (List D)) : M D := mbind fo fun d => mbind (mopt (txt d)) fun z => mbind fs fun ds => mopt (g z ds)
/-- a module's name: a class or def -/
theorem d_glo {n : Str} (hK : C.K = X.K) (hm : X.mg n = some (.ref (He.ga X.K n))) (hg : Gl X n := by rfl) (hd : (n == ("__debug__" : Str)) = false := by decide) : DE X C W (.Name n pos) (mret (.glo n)) :=
  pe_imp (pe_glob (v := .ref (He.ga X.K n)) hg hm rfl hd) fun σ H Q ⟨F, s, r, q⟩ => q H F r (Sub.refl _) _ (by rw [← hK]; exact .glo n)
/-- a module's constant -/
theorem d_glob {n : Str} {v : V} {u : Value} {d : D} (hm : X.mg n = some u) (r : RelV v u) (hd' : ∀ F, Is C.K F v d) (hg : Gl X n := by rfl) (hd : (n == ("__debug__" : Str)) = false := by decide) : DE X C W (.Name n pos) (mret d) :=
  pe_imp (pe_glob hg hm r hd) fun σ H Q ⟨F, s, rr, q⟩ => q H F rr (Sub.refl _) _ (hd' F)
end
end DL
set_option maxHeartbeats 2000000
namespace DL
open PySem PySem.Spec PyProof.Rows L2
section
variable {C : Ct} {W : WX} {X : Cx} {σ : L2.St} {H F : Hp} {s : S} {fa fb fc : M D} {a b c e : Expr} {es : List Expr} {fs : M (List D)} {pos p apos : Pos} {K : PySem.W.Frag} {x : Str}
theorem set_get {α : Type} {l : List α} {i j : Nat} {x y : α} (h : (l.set i x)[j]? = some y) : (j = i ∧ y = x ∧ i < l.length) ∨ (j ≠ i ∧ l[j]? = some y) := by
  by_cases q : i = j
  · subst q
    by_cases hl : i < l.length
    · rw [List.getElem?_set_self hl] at h
      cases h
      exact .inl ⟨rfl, rfl, hl⟩
    · rw [List.getElem?_eq_none (by simpa using hl)] at h
      cases h
  · rw [List.getElem?_set_ne q] at h
    exact .inr ⟨fun z => q z.symm, h⟩
/-- a slot is given something else -/
theorem Rel.put (r : Rel C σ H F s) {i : Nat} {x : Sl} {o : Option V} (hs : i < s.sl.length → SlotOk C F H (some o) x) (hown : ∀ c, x = .own c → ∃ a, o = some (.ref a) ∧ ∀ j, ¬ OwnAt σ s.sl j a) : Rel C (σ.set i o) H F (s.put i x) where
  sub := r.sub
  keep := r.keep
  f0 := r.f0
  len := by
    show (s.sl.set i x).length = (σ.set i o).length
    rw [List.length_set, List.length_set]
    exact r.len
  slot := fun j y e => by
    rcases set_get (show (s.sl.set i x)[j]? = some y from e) with ⟨rfl, rfl, hl⟩ | ⟨hj, e⟩
    · rw [List.getElem?_set_self (by rw [← r.len]; exact hl)]
      exact hs hl
    · rw [List.getElem?_set_ne (Ne.symm hj)]
      exact r.slot j y e
  iol := r.iol
  io := r.io
  ap := fun j k b e1 e2 => by
    obtain ⟨s1, c1, e1⟩ := e1
    obtain ⟨s2, c2, e2⟩ := e2
    have key : ∀ {m : Nat} {cm : Cell}, (σ.set i o)[m]? = some (some (.ref b)) → (s.sl.set i x)[m]? = some (.own cm) → (m = i ∧ x = .own cm ∧ o = some (.ref b)) ∨ (m ≠ i ∧ OwnAt σ s.sl m b) := fun {m cm} a1 a2 => by
      rcases set_get a2 with ⟨rfl, z, hl⟩ | ⟨hm, z⟩
      · rw [List.getElem?_set_self (by rw [← r.len]; exact hl)] at a1
        exact .inl ⟨rfl, z.symm, Option.some.inj a1⟩
      · rw [List.getElem?_set_ne (Ne.symm hm)] at a1
        exact .inr ⟨hm, a1, cm, z⟩
    rcases key s1 e1 with ⟨rfl, h1, h2⟩ | ⟨h1, h2⟩
    · rcases key s2 e2 with ⟨rfl, _, _⟩ | ⟨h3, h4⟩
      · rfl
      · obtain ⟨a, z1, z2⟩ := hown _ h1
        rw [h2] at z1
        cases z1
        exact absurd h4 (z2 k)
    · rcases key s2 e2 with ⟨rfl, h3, h4⟩ | ⟨h3, h4⟩
      · obtain ⟨a, z1, z2⟩ := hown _ h3
        rw [h4] at z1
        cases z1
        exact absurd h2 (z2 j)
      · exact r.ap j k b h2 h4
  inn := r.inn
  nd := r.nd
  s0 := r.s0
  tabs := r.tabs
theorem Rel.putV (r : Rel C σ H F s) {i : Nat} {v : V} {d : D} (h : Is C.K F v d) : Rel C (σ.set i (some v)) H F (s.put i (.val d)) :=
  r.put (fun _ => ⟨v, rfl, h⟩) fun c z => nomatch z
theorem Rel.putO (r : Rel C σ H F s) {i : Nat} {a : Addr} {c : Cell} (h1 : ∀ j, ¬ OwnAt σ s.sl j a) (h2 : C.H0 a = none) (h3 : F a = none) (h4 : CellAt C.K F H a c) : Rel C (σ.set i (some (.ref a))) H F (s.put i (.own c)) :=
  r.put (fun _ => ⟨a, rfl, h3, h2, h4⟩) fun c' z => ⟨a, rfl, h1⟩
def sNx : S → Out := fun s => .nx s
def sSeq (f g : S → Out) : S → Out := fun s => match f s with
  | .nx s' => g s'
  | o => o
variable {f g : S → Out} {st : Stmt} {rest : List Stmt}
theorem PostS.up {F F1 : Hp} (u : Sub F F1) {o : Out} {nx : L2.St → Hp → Prop} {rt : VK} {bk ct : L2.St → Hp → Prop} (q : PostS C W F o nx rt bk ct) : PostS C W F1 o nx rt bk ct := by
  cases o with
  | nx s' => exact fun σ' H' F' r u' => q σ' H' F' r (u.trans u')
  | rt r s' => exact fun v σ' H' F' r1 u' r2 => q v σ' H' F' r1 (u.trans u') r2
  | bk s' => exact fun σ' H' F' r u' => q σ' H' F' r (u.trans u')
  | ct s' => exact fun σ' H' F' r u' => q σ' H' F' r (u.trans u')
  | exc c fs s' => exact fun a σ' H' F' r u' => q a σ' H' F' r (u.trans u')
  | bad => exact q
theorem PostS.imp {F : Hp} {o : Out} {nx nx' : L2.St → Hp → Prop} {rt rt' : VK} {bk bk' ct ct' : L2.St → Hp → Prop} (q : PostS C W F o nx rt bk ct) (h1 : ∀ σ H, nx σ H → nx' σ H) (h2 : ∀ v H, rt v H → rt' v H) (h3 : ∀ σ H, bk σ H → bk' σ H) (h4 : ∀ σ H, ct σ H → ct' σ H) : PostS C W F o nx' rt' bk' ct' := by
  cases o with
  | nx s' => exact fun σ' H' F' r u => h1 _ _ (q σ' H' F' r u)
  | rt r s' => exact fun v σ' H' F' r1 u r2 => h2 _ _ (q v σ' H' F' r1 u r2)
  | bk s' => exact fun σ' H' F' r u => h3 _ _ (q σ' H' F' r u)
  | ct s' => exact fun σ' H' F' r u => h4 _ _ (q σ' H' F' r u)
  | exc c fs s' => exact q
  | bad => exact q
theorem db_nil : DB X C W [] sNx := pss_imp pss_nil fun E σ H ⟨F, s, r, q⟩ => q σ H F r (Sub.refl _)
theorem db_one (h : DS X C W st f) : DB X C W [st] f := pss_one h
theorem db_cons (h1 : DS X C W st f) (h2 : DB X C W rest g) : DB X C W (st :: rest) (sSeq f g) := by
  refine pss_imp (pss_cons h1 h2) fun E σ H ⟨F, s, r, q⟩ => ⟨F, s, r, ?_⟩
  unfold sSeq at q
  cases h : f s with
  | nx s' => rw [h] at q; exact fun σ' H' F' r' u' => ⟨F', s', r', q.up u'⟩
  | _ => rw [h] at q; exact q
/-- a result, then a statement's end -/
def sOf {α : Type} (f : M α) (k : α → S → Out) : S → Out := fun s => match f s with
  | .ok a s' => k a s'
  | .exc c fs s' => .exc c fs s'
  | .bad => .bad
theorem post_of {α : Type} {fm : M α} {k : α → S → Out} {nx : L2.St → Hp → Prop} {rt : VK} {bk ct : L2.St → Hp → Prop} (q : PostS C W F (sOf fm k s) nx rt bk ct) : Post C W σ F (fm s) fun a s' _ F' => PostS C W F' (k a s') nx rt bk ct := by
  unfold sOf at q
  cases h : fm s with
  | ok a s' => rw [h] at q; exact fun _ _ _ u => q.up u
  | exc c fs s' => rw [h] at q; exact fun a H' F' r u x => q a σ H' F' r u x
  | bad => rw [h] at q; exact q
def sRet (f : M D) : S → Out := sOf f fun d s => .rt (.val d) s
def sRetO (f : M Cell) : S → Out := sOf f fun c s => .rt (.own c) s
def sRetN : S → Out := fun s => .rt (.val .non) s
theorem ds_ret (h : DE X C W e fa) : DS X C W (.Return (some e) pos) (sRet fa) :=
  ps_imp (ps_ret h) fun E σ H ⟨F, s, r, q⟩ => ⟨F, s, r, (post_of q).mono fun d s1 H1 F1 r1 u1 q1 v iv => q1 v σ H1 F1 r1 (Sub.refl _) iv⟩
theorem ds_retO {fo : M Cell} (h : DO X C W e fo) : DS X C W (.Return (some e) pos) (sRetO fo) :=
  ps_imp (ps_ret h) fun E σ H ⟨F, s, r, q⟩ => ⟨F, s, r, (post_of q).mono fun c s1 H1 F1 r1 u1 q1 a h1 h2 h3 h4 => q1 (.ref a) σ H1 F1 r1 (Sub.refl _) ⟨a, rfl, h3, h2, h4⟩⟩
def sDrop (f : M D) : S → Out := sOf f fun _ s => .nx s
def sIf (t : M Bool) (f g : S → Out) : S → Out := sOf t fun b => if b = true then f else g
theorem ds_if {t : M Bool} {as bs : List Stmt} (hc : DT X C W c t) (ha : DB X C W as f) (hb : DB X C W bs g) : DS X C W (.If c as bs pos) (sIf t f g) := by
  refine ps_imp (ps_if hc ha hb) fun E σ H ⟨F, s, r, q⟩ => ⟨F, s, r, (post_of q).mono fun k s1 H1 F1 r1 u1 q1 => ?_⟩
  cases k with
  | true => rw [if_pos rfl] at q1 ⊢; exact ⟨F1, s1, r1, q1⟩
  | false => rw [if_neg Bool.false_ne_true] at q1 ⊢; exact ⟨F1, s1, r1, q1⟩
def sSet (i : Nat) (f : M D) : S → Out := sOf f fun d s => .nx (s.put i (.val d))
def sSetO (i : Nat) (f : M Cell) : S → Out := sOf f fun c s => .nx (s.put i (.own c))
/-- where a name of the def stands -/
structure Nm (X : Cx) (i : Nat) (x : Str) : Prop where
  nd : X.N.Nodup
  ix : X.N[i]? = some x
  lo : Loc X.env.scope x
  fn : X.fn x = true ∨ X.env.scope.names.lookup x = some .local
theorem ds_set {i : Nat} {p' : Pos} (n : Nm X i x) (h : DE X C W e fa) (hs : swapsWith e (some (.Name x p')) pos.line X.env = pure false := by rfl) : DS X C W (.Assign [.Name x p'] e pos) (sSet i fa) :=
  ps_imp (ps_set n.nd n.ix n.lo h hs n.fn) fun E σ H ⟨F, s, r, q⟩ => ⟨F, s, r, (post_of q).mono fun d s1 H1 F1 r1 u1 q1 v iv => q1 _ _ _ (r1.putV iv) (Sub.refl _)⟩
theorem ds_setO {i : Nat} {p' : Pos} {fo : M Cell} (n : Nm X i x) (h : DO X C W e fo) (hs : swapsWith e (some (.Name x p')) pos.line X.env = pure false := by rfl) : DS X C W (.Assign [.Name x p'] e pos) (sSetO i fo) :=
  ps_imp (ps_set n.nd n.ix n.lo h hs n.fn) fun E σ H ⟨F, s, r, q⟩ => ⟨F, s, r, (post_of q).mono fun d s1 H1 F1 r1 u1 q1 a h1 h2 h3 h4 => q1 _ _ _ (r1.putO h1 h2 h3 h4) (Sub.refl _)⟩
/-- the thing at a slot that may be changed -/
def S.cell (s : S) (i : Nat) : Option Cell := match s.sl[i]? with
  | some (.own c) => some c
  | some (.io j) => s.io[j]?
  | _ => none
def S.setCell (s : S) (i : Nat) (c : Cell) : S := match s.sl[i]? with
  | some (.io j) => { s with io := s.io.set j c }
  | _ => s.put i (.own c)
theorem Rel.cell (r : Rel C σ H F s) {i : Nat} {c : Cell} (h : s.cell i = some c) : ∃ a, σ[i]? = some (some (.ref a)) ∧ F a = none ∧ CellAt C.K F H a c ∧
    ∀ (o : HO) (c' : Cell), (∀ F', Sub F F' → CellAt C.K F (upd H a o) a c') → Rel C σ (upd H a o) F (s.setCell i c') := by
  unfold S.cell at h
  cases h1 : s.sl[i]? with
  | none => rw [h1] at h; cases h
  | some x =>
    rw [h1] at h
    have fin : ∀ {a : Addr} {o : HO} {c' : Cell} {s' : S}, F a = none → (C.H0 a = none ∨ a ∈ C.A) → s'.sl.length = s.sl.length → s'.io.length = s.io.length →
        (∀ (j : Nat) (y : Sl), s'.sl[j]? = some y → SlotOk C F (upd H a o) σ[j]? y) → (∀ (j : Nat) (b : Addr) (c : Cell), C.A[j]? = some b → s'.io[j]? = some c → CellAt C.K F (upd H a o) b c) →
        (∀ (j : Nat) (b : Addr), OwnAt σ s'.sl j b → OwnAt σ s.sl j b) → (∀ ps, H a ≠ some (.tbl ps)) → Rel C σ (upd H a o) F s' := fun {a o c' s'} hF hA hl hio hsl hio2 hap hnt =>
      ⟨fun b u e => by rw [upd_ne (ne_of_none e hF)]; exact r.sub _ _ e, fun b u e m => by
          rw [upd_ne fun z => ?_]
          · exact r.keep b u e m
          · subst z
            rcases hA with z | z
            · rw [z] at e; cases e
            · exact m z, r.f0, by rw [hl]; exact r.len, hsl, by rw [hio]; exact r.iol, fun j b c e1 e2 => ⟨by
            have hj : j < s.io.length := by rw [← hio]; exact (List.getElem?_eq_some_iff.mp e2).1
            exact (r.io j b s.io[j] e1 (List.getElem?_eq_getElem hj)).1, hio2 j b c e1 e2⟩, fun j k b e1 e2 => r.ap j k b (hap _ _ e1) (hap _ _ e2), r.inn, r.nd, r.s0, r.tabs.upd hnt⟩
    have oth : ∀ {b a : Addr} {o : HO} {c : Cell}, CellAt C.K F H b c → b ≠ a → CellAt C.K F (upd H a o) b c := fun {b a o c} h ne => h.up (Sub.refl _) fun u e => by rw [upd_ne ne]; exact e
    cases x with
    | own c0 =>
      cases h
      obtain ⟨a, e1, e2, e3, e4⟩ := r.slot i _ h1
      refine ⟨a, e1, e2, e4, fun o c' hc' => ?_⟩
      have hs : s.setCell i c' = s.put i (.own c') := by unfold S.setCell; rw [h1]
      rw [hs]
      refine fin (c' := c') e2 (.inl e3) (by show (s.sl.set i _).length = _; rw [List.length_set]) rfl (fun j y e => ?_) (fun j b c e5 e6 => ?_) (fun j b ⟨z1, c1, z2⟩ => ?_) e4.nt
      · rcases set_get (show (s.sl.set i (.own c'))[j]? = some y from e) with ⟨rfl, rfl, hl⟩ | ⟨hj, e⟩
        · exact ⟨a, e1, e2, e3, hc' F (Sub.refl _)⟩
        · have z := r.slot j y e
          cases y with
          | no => trivial
          | val d => exact z
          | own c1 =>
            obtain ⟨b, y1, y2, y3, y4⟩ := z
            exact ⟨b, y1, y2, y3, oth y4 fun w => hj (by subst w; exact r.ap j i b ⟨y1, c1, e⟩ ⟨e1, c, h1⟩)⟩
          | io k => exact z
      · refine oth (r.io j b c e5 e6).2 fun w => ?_
        subst w
        exact r.inn b (List.mem_of_getElem? e5) e3
      · rcases set_get (show (s.sl.set i (.own c'))[j]? = some (.own c1) from z2) with ⟨rfl, _, _⟩ | ⟨hj, e⟩
        · exact ⟨z1, c, h1⟩
        · exact ⟨z1, c1, e⟩
    | io k =>
      have h : s.io[k]? = some c := h
      obtain ⟨a, e1, e2⟩ := r.slot i _ h1
      have e4 := r.io k a c e2 h
      refine ⟨a, e1, r.ioF e2 h, e4.2, fun o c' hc' => ?_⟩
      have hs : s.setCell i c' = { s with io := s.io.set k c' } := by unfold S.setCell; rw [h1]
      rw [hs]
      refine fin (c' := c') (r.ioF e2 h) (.inr (List.mem_of_getElem? e2)) rfl (by show (s.io.set k c').length = _; rw [List.length_set]) (fun j y e => ?_) (fun j b c1 e5 e6 => ?_) (fun j b z => z) e4.2.nt
      · have z := r.slot j y e
        cases y with
        | no => trivial
        | val d => exact z
        | own c1 =>
          obtain ⟨b, y1, y2, y3, y4⟩ := z
          exact ⟨b, y1, y2, y3, oth y4 fun w => by subst w; exact r.inn b (List.mem_of_getElem? e2) y3⟩
        | io k => exact z
      · rcases set_get (show (s.io.set k c')[j]? = some c1 from e6) with ⟨rfl, rfl, hl⟩ | ⟨hj, e6⟩
        · rw [e2] at e5
          cases e5
          exact hc' F (Sub.refl _)
        · refine oth (r.io j b c1 e5 e6).2 fun w => ?_
          subst w
          exact hj ((List.getElem?_inj (List.getElem?_eq_some_iff.mp e5).1 r.nd).mp (e5.trans e2.symm))
    | _ => cases h
def lstOf : Cell → Option (List D)
  | .lst ds => some ds
  | _ => none
/-- x.append(e) -/
def sApp (i : Nat) (f : M D) : S → Out := sOf (mbind (mhas i) fun _ => mbind (fun s => mopt ((s.cell i).bind lstOf) s) fun _ => f) fun d s => match (s.cell i).bind lstOf with
  | some ds => if ds.length < LN then .nx (s.setCell i (.lst (ds ++ [d]))) else .bad
  | none => .bad
theorem ds_app {i : Nat} {cpos : Pos} {o : Expr} (hK : C.K = X.K) (ho : PE X o (tVar i)) (ha : DE X C W e fa)
    (hbase : attributeBase o "append" X.env (eval o X.env) = eval o X.env := by rfl)
    (hfew : ((backTo cpos (starEach [e] X.env)).all (fun x => !x.1) && (backToKw cpos (keywordEach [] X.env)).all (fun x => x.1.isSome)
      && decide ([e].length + ([] : List Keyword).length + (if ([] : List Keyword).isEmpty then 0 else 1) < 30)) = true := by rfl)
    (hline : (apos.endLine == cpos.line) = true := by rfl) (hs : starEach [e] X.env = (false, eval e X.env) :: starEach [] X.env := by rfl) (hplain : (backTo cpos (starEach [] X.env)).any (·.1) = false := by rfl)
    (hsw : swapsWith (.Call (.Attribute o "append" apos) [e] [] cpos) none pos.line X.env = pure false := by rfl) :
    DS X C W (.Expr (.Call (.Attribute o "append" apos) [e] [] cpos) pos) (sApp i fa) := by
  refine ps_imp (ps_expr (pe_bm PySem.F.plainAttrs_list PySem.F.slot_list_append PySem.F.type_list_append mt_append ho (pa_cons ha pa_nil hs) hbase hfew hline hs hplain) hsw) fun E σ H ⟨F, s, r, q⟩ => ?_
  have q1 := Post.bind (post_of (σ := σ) (F := F) q)
  unfold mhas at q1
  cases h0 : peekD s i with
  | none => rw [h0] at q1; exact q1.elim
  | some d0 =>
    rw [h0] at q1
    have q2 := Post.bind (q1 H F r (Sub.refl _))
    cases h1 : (s.cell i).bind lstOf with
    | none =>
      have q2 : Post C W σ F (mopt ((s.cell i).bind lstOf) s) _ := q2
      rw [h1] at q2
      exact q2.elim
    | some ds0 =>
      have q2 : Post C W σ F (mopt ((s.cell i).bind lstOf) s) fun a s1 _ F1 => Post C W σ F1 (fa s1) fun d s' _ F2 => PostS C W F2 (match (s'.cell i).bind lstOf with
        | some ds => if ds.length < LN then .nx (s'.setCell i (.lst (ds ++ [d]))) else .bad
        | none => .bad) E.nx E.rt E.bk E.ct := q2
      rw [h1] at q2
      have q3 := q2 H F r (Sub.refl _)
      obtain ⟨c0, e0, l0⟩ := Option.bind_eq_some_iff.mp h1
      obtain ⟨a, e1, hF, e2, _⟩ := r.cell e0
      refine ⟨.ref a, e1, ?_, ?_⟩
      · cases c0 with
        | lst ds => obtain ⟨xs, z1, z2⟩ := e2; exact .inl ⟨rfl, xs, .inl (.inl z1)⟩
        | _ => cases l0
      · refine ⟨F, s, r, q3.mono fun d s1 H1 F1 r1 u1 q4 v iv => ?_⟩
        cases h2 : (s1.cell i).bind lstOf with
        | none => rw [h2] at q4; exact q4.elim
        | some ds =>
          rw [h2] at q4
          obtain ⟨c1, e3, l1⟩ := Option.bind_eq_some_iff.mp h2
          obtain ⟨a', e4, hF', e5, rr⟩ := r1.cell e3
          rw [e1] at e4
          cases e4
          cases c1 with
          | lst ds1 =>
            cases l1
            obtain ⟨xs, z1, z2⟩ := e5
            by_cases hl : ds.length < LN
            · have q4 : PostS C W F1 (if ds.length < LN then .nx (s1.setCell i (.lst (ds ++ [d]))) else .bad) E.nx E.rt E.bk E.ct := q4
              rw [if_pos hl] at q4
              exact ⟨a, xs, v, rfl, rfl, z1, by rw [z2.len]; exact ln_lt hl, q4 _ _ _ (rr (.lst (xs ++ [v])) (.lst (ds ++ [d])) fun F' u => ⟨xs ++ [v], upd_same, z2.app (.cons iv .nil)⟩) (Sub.refl _)⟩
            · have q4 : PostS C W F1 (if ds.length < LN then .nx (s1.setCell i (.lst (ds ++ [d]))) else .bad) E.nx E.rt E.bk E.ct := q4
              rw [if_neg hl] at q4
              exact q4.elim
          | _ => cases l1
end
end DL
set_option maxHeartbeats 2000000
namespace PySem
open Sem (wp)
end PySem
namespace DL
open PySem PySem.Spec PyProof.Rows L2
/-- a list, a tuple or a text, walked -/
def iSeq (K : PySem.W.Frag) (tl : TE) : TI := fun σ H R => tl σ H fun x H1 => (∃ a xs, x = .ref a ∧ SqL K H1 a xs ∧ R (Itl K a) H1) ∨ (∃ a xs, x = .ref a ∧ SqT K H1 a xs ∧ R (Itt K a) H1) ∨ (∃ z, x = .str z ∧ R (Its z) H1)
theorem pi_seq {X : Cx} {tg l : Expr} {tl : TE} (hl : PE X l tl) : PI X tg l (iSeq X.K tl) := by
  refine ⟨fun pins s σ H R I h => ?_⟩
  refine thn (hl.run pins s σ H _ I h) fun v s1 ⟨x, H1, I1, r1, q1⟩ => ?_
  have fp1 : ∀ b, b ∈ [s1.heap.objs.size] → FpOk X pins H1 b := fun b hb => by
    have e : b = s1.heap.objs.size := by simpa using hb
    subst e
    exact I1.fpOk (Nat.le_refl _) (I1.hok.fresh (Nat.le_refl _))
  rcases q1 with ⟨a, xs, e, hq, q⟩ | ⟨a, xs, e, hq, q⟩ | ⟨z, e, q⟩
  · subst e
    cases r1
    obtain ⟨its, rv, p, hz⟩ := I1.list hq
    refine wpAny_pyIter_list p.isList ?_
    exact ⟨s1.heap.objs.size, [s1.heap.objs.size], _, _, H1, rfl, I1.kept (t' := s1.toks) fun b o e => Heap.get?_push_of_some _ e, turn_list a _, ⟨_, Heap.get?_push_size _ rfl, rfl, rfl⟩, fp1, q⟩
  · subst e
    cases r1
    obtain ⟨its, rv, p, hz⟩ := I1.tuple hq
    refine wpAny_pyIter_tuple (show s1.heap.IsTuple a its.toArray from p) ?_
    exact ⟨s1.heap.objs.size, [s1.heap.objs.size], _, _, H1, rfl, I1.kept (t' := s1.toks) fun b o e => Heap.get?_push_of_some _ e, turn_tuple a _, ⟨_, Heap.get?_push_size _ rfl, rfl, rfl⟩, fp1, q⟩
  · subst e
    obtain ⟨t, rfl⟩ := r1
    cases ha : z.cps.all (· < 128)
    · exact wpAny_pyIter_wide ha (pi_one (tk := s1.toks) I1 _ (turn_str _ z t "str_iterator" (.inr rfl)) ⟨_, Heap.get?_push_size _ rfl, rfl, rfl⟩ q)
    · exact wpAny_pyIter_ascii ha (pi_one (tk := s1.toks) I1 _ (turn_str _ z t "str_ascii_iterator" (.inl rfl)) ⟨_, Heap.get?_push_size _ rfl, rfl, rfl⟩ q)
end DL
set_option maxHeartbeats 2000000
namespace DL
open PySem PySem.Spec PyProof.Rows L2
mutual
inductive Pat where
  | nm (i : Nat) | tp (ps : Pats) | ix (i : Nat) (k : Int) | tl (ps : Pats)
inductive Pats where
  | nil | cons (p : Pat) (ps : Pats)
end
mutual
def Pat.bind : Pat → D → S → Option S
  | .nm i, d, s => some (s.put i (.val d))
  | .tp ps, .tup ds, s => ps.bind ds s
  | .tp _, _, _ => none
  | .ix i k, d, s => match s.cell i with
    | some (.lst ds) => (ixN ds.length k).map fun j => s.setCell i (.lst (ds.set j d))
    | _ => none
  | .tl ps, .lst ds, s => ps.bind ds s
  | .tl _, _, _ => none
def Pats.bind : Pats → List D → S → Option S
  | .nil, [], s => some s
  | .cons p ps, d :: ds, s => (p.bind d s).bind fun s1 => ps.bind ds s1
  | _, _, _ => none
end
def Pats.len : Pats → Nat
  | .nil => 0
  | .cons _ ps => ps.len + 1
mutual
def Pat.g (K : PySem.W.Frag) : Pat → TG
  | .nm i => gName i
  | .tp ps => gTup K ps.len (Pats.gs K ps)
  | .ix i k => gSub (tVar i) (tC (.int k)) rSetL
  | .tl ps => gLst K ps.len (Pats.gs K ps)
def Pats.gs (K : PySem.W.Frag) : Pats → TGs
  | .nil => gNil
  | .cons p ps => gCons (p.g K) (Pats.gs K ps)
end
mutual
def Pat.inn : Pat → List Nat → Bool
  | .nm i, vs => vs.contains i
  | .tp ps, vs => ps.inn vs
  | .ix _ _, _ => true
  | .tl ps, vs => ps.inn vs
def Pats.inn : Pats → List Nat → Bool
  | .nil, _ => true
  | .cons p ps, vs => p.inn vs && ps.inn vs
end
theorem wipe_get (σ : L2.St) : ∀ (vs : List Nat) (j : Nat), j ∈ vs → (wipe σ vs)[j]? = if j < σ.length then some none else none
  | [], j, h => by simp at h
  | v :: vs, j, h => by
    unfold wipe
    by_cases e : v = j
    · subst e
      by_cases hl : v < σ.length
      · rw [List.getElem?_set_self (by rw [wipe_length]; exact hl), if_pos hl]
      · rw [List.getElem?_eq_none (by rw [List.length_set, wipe_length]; omega), if_neg hl]
    · rw [List.getElem?_set_ne e]
      refine wipe_get σ vs j ?_
      rcases List.mem_cons.mp h with z | z
      · exact absurd z.symm e
      · exact z
theorem wipe_set {σ : L2.St} {i : Nat} {o : Option V} {vs : List Nat} (h : i ∈ vs) : wipe (σ.set i o) vs = wipe σ vs := by
  refine List.ext_getElem? fun j => ?_
  by_cases m : j ∈ vs
  · rw [wipe_get _ _ _ m, wipe_get _ _ _ m, List.length_set]
  · rw [wipe_out m, wipe_out m, List.getElem?_set_ne]
    intro z
    subst z
    exact m h
section
variable {C : Ct} {W : WX} {X : Cx} {σ : L2.St} {H F : Hp} {s : S} {fa fb fc : M D} {a b c e : Expr} {es : List Expr} {fs : M (List D)} {pos p apos : Pos} {K : PySem.W.Frag} {x : Str} {st : Stmt} {body : List Stmt} {f : S → Out} {tg iter : Expr} {fi : M (List D)}
theorem Pats.bindLen : ∀ (p : Pats) {ds : List D} {s s' : S}, p.bind ds s = some s' → ds.length = p.len
  | .nil, [], _, _, _ => rfl
  | .nil, _ :: _, _, _, e => by unfold Pats.bind at e; cases e
  | .cons p ps, [], _, _, e => by unfold Pats.bind at e; cases e
  | .cons p ps, d :: ds, s, s', e => by
    unfold Pats.bind at e
    obtain ⟨s1, _, e2⟩ := Option.bind_eq_some_iff.mp e
    show ds.length + 1 = ps.len + 1
    rw [Pats.bindLen ps e2]
mutual
theorem Pat.ok : ∀ (p : Pat) {v : V} {d : D} {σ : L2.St} {H : Hp} {s s' : S}, Rel C σ H F s → Is C.K F v d → p.bind d s = some s' → ∀ {Q : L2.St → Hp → Prop}, (∀ σ' H', Rel C σ' H' F s' → (∀ vs, p.inn vs = true → wipe σ' vs = wipe σ vs) → Q σ' H') → p.g C.K v σ H Q
  | .nm i, v, d, σ, H, s, s', r, iv, e, Q, q => by
    unfold Pat.bind at e
    cases e
    exact q _ _ (r.putV iv) fun vs h => wipe_set (by unfold Pat.inn at h; simpa using h)
  | .ix i k, v, d, σ, H, s, s', r, iv, e, Q, q => by
    unfold Pat.bind at e
    split at e
    · rename_i ds hc
      obtain ⟨j, hj, rfl⟩ := Option.map_eq_some_iff.mp e
      obtain ⟨a, e1, _, ⟨xs, h1, h2⟩, rr⟩ := r.cell hc
      unfold Pat.g
      exact ⟨.ref a, e1, a, xs, k, j, rfl, rfl, h1, by rw [h2.len]; exact hj, q σ _ (rr _ _ fun F' u => ⟨_, upd_same, h2.set j iv⟩) fun _ _ => rfl⟩
    · cases e
  | .tp ps, v, d, σ, H, s, s', r, iv, e, Q, q => by
    unfold Pat.bind at e
    cases iv with
    | tup h1 h2 =>
      rename_i a xs ds
      unfold Pat.g
      exact ⟨a, xs, rfl, r.sub.t h1, by rw [h2.len, Pats.bindLen ps e], Pats.ok ps r h2 e fun σ' H' r' hw => q σ' H' r' fun vs h => hw vs (by unfold Pat.inn at h; exact h)⟩
    | _ => cases e
  | .tl ps, v, d, σ, H, s, s', r, iv, e, Q, q => by
    unfold Pat.bind at e
    cases iv with
    | lst h1 h2 =>
      rename_i a xs ds
      unfold Pat.g
      exact ⟨a, xs, rfl, .inl (r.sub.rd h1), by rw [h2.len, Pats.bindLen ps e], Pats.ok ps r h2 e fun σ' H' r' hw => q σ' H' r' fun vs h => hw vs (by unfold Pat.inn at h; exact h)⟩
    | _ => cases e
theorem Pats.ok : ∀ (p : Pats) {vs : List V} {ds : List D} {σ : L2.St} {H : Hp} {s s' : S}, Rel C σ H F s → IsAll C.K F vs ds → p.bind ds s = some s' → ∀ {Q : L2.St → Hp → Prop}, (∀ σ' H', Rel C σ' H' F s' → (∀ vs, p.inn vs = true → wipe σ' vs = wipe σ vs) → Q σ' H') → p.gs C.K vs σ H Q
  | .nil, vs, ds, σ, H, s, s', r, iv, e, Q, q => by
    unfold Pats.bind at e
    cases iv with
    | nil => cases e; unfold Pats.gs; exact ⟨rfl, q σ H r fun _ _ => rfl⟩
    | cons _ _ => cases e
  | .cons p ps, vs, ds, σ, H, s, s', r, iv, e, Q, q => by
    unfold Pats.bind at e
    cases iv with
    | nil => cases e
    | cons h1 h2 =>
      rename_i v vs d ds
      obtain ⟨s1, e1, e2⟩ := Option.bind_eq_some_iff.mp e
      unfold Pats.gs
      refine ⟨v, vs, rfl, Pat.ok p r h1 e1 fun σ1 H1 r1 hw1 => Pats.ok ps r1 h2 e2 fun σ' H' r' hw => q σ' H' r' fun ws h => ?_⟩
      unfold Pats.inn at h
      rw [Bool.and_eq_true] at h
      rw [hw ws h.2, hw1 ws h.1]
end
variable (C W) in
/-- an iterable's items -/
def tI (fi : M (List D)) : TI := fun σ H R => ∃ F s, Rel C σ H F s ∧ Post C W σ F (fi s) fun ds s' H' F' =>
  ∀ (J : It) (G : Hp → Prop) (Y : Nat → Hp → V → Hp → Prop), Walk J ds.length G Y → (∀ H2 F2, Sub F' F2 → Sub F2 H2 → G H2) →
    (∀ i H2 F2 x H3, Sub F' F2 → Sub F2 H2 → i < ds.length → Y i H2 x H3 → ∃ F3 d, Ext H2 F2 H3 F3 ∧ ds[i]? = some d ∧ Is C.K F3 x d) → R J H'
abbrev DI (X : Cx) (C : Ct) (W : WX) (tg e : Expr) (f : M (List D)) : Prop := PI X tg e (tI C W f)
theorem pi_imp {X : Cx} {tg e : Expr} {t u : TI} (h : PI X tg e t) (i : ∀ σ H R, u σ H R → t σ H R) : PI X tg e u := ⟨fun pins s σ H R I q => h.run pins s σ H R I (i _ _ _ q)⟩
def sgnD (z : Str) : List D := z.cps.toList.map fun c => .str ⟨#[c]⟩
def walkD : D → Option (List D)
  | .lst ds => some ds
  | .tup ds => some ds
  | .str z => some (sgnD z)
  | _ => none
def iOf (f : M D) : M (List D) := mbind f fun d => mopt (walkD d)
theorem post_mopt {α : Type} {o : Option α} {P : α → S → Hp → Hp → Prop} (q : Post C W σ F (mopt o s) P) (r : Rel C σ H F s) : ∃ a, o = some a ∧ ∀ H' F', Ext H F H' F' → P a s H' F' := by
  cases o with
  | none => exact q.elim
  | some a => exact ⟨a, rfl, fun H' F' e => q H' F' (r.ext e) e.f⟩
theorem di_of (hK : C.K = X.K) (h : DE X C W e fa) : DI X C W tg e (iOf fa) := by
  refine pi_imp (pi_seq h) fun σ H R ⟨F, s, r, q⟩ => ⟨F, s, r, (Post.bind q).mono fun d s1 H1 F1 r1 u1 q1 v iv => ?_⟩
  obtain ⟨ds, e1, q2⟩ := post_mopt q1 r1
  have q3 := q2 H1 F1 (Ext.refl r1.sub)
  rw [hK] at iv q3
  cases iv with
  | lst h1 h2 =>
    rename_i a xs _
    cases e1
    refine .inl ⟨a, xs, rfl, .inl (r1.sub.rd h1), q3 _ _ _ (by rw [← h2.len]; exact walk_list) (fun H2 F2 u1 u2 => (.inl (u2.rd (u1.rd h1)) : SqL X.K H2 a xs)) fun i H2 F2 x H3 u1 u2 hi y => ?_⟩
    obtain ⟨rfl, y⟩ := y
    obtain ⟨d, e2, e3⟩ := h2.getV y
    exact ⟨F2, d, Ext.refl u2, e2, e3.up u1⟩
  | tup h1 h2 =>
    rename_i a xs _
    cases e1
    refine .inr (.inl ⟨a, xs, rfl, r1.sub.t h1, q3 _ _ _ (by rw [← h2.len]; exact walk_tup) (fun H2 F2 u1 u2 => u2.t (u1.t h1)) fun i H2 F2 x H3 u1 u2 hi y => ?_⟩)
    obtain ⟨rfl, y⟩ := y
    obtain ⟨d, e2, e3⟩ := h2.getV y
    exact ⟨F2, d, Ext.refl u2, e2, e3.up u1⟩
  | str z =>
    cases e1
    have hl : (sgnD z).length = z.cps.size := by simp [sgnD]
    refine .inr (.inr ⟨z, rfl, q3 _ _ _ (by rw [hl]; exact walk_str) (fun H2 F2 u1 u2 => trivial) fun i H2 F2 x H3 u1 u2 hi y => ?_⟩)
    obtain ⟨rfl, c, y1, rfl⟩ := y
    refine ⟨F2, .str ⟨#[c]⟩, Ext.refl u2, ?_, .str _⟩
    unfold sgnD
    rw [List.getElem?_map, Array.getElem?_toList, y1]
    first | done | rfl
  | _ => cases e1
def rngD (lo : Int) (n : Nat) : List D := (List.range n).map fun (i : Nat) => .int (lo + (i : Int))
def rng1 : List D → Option (List D)
  | [.int j] => if -(2 ^ 62) ≤ j ∧ j < 2 ^ 62 then some (rngD 0 j.toNat) else none
  | _ => none
def iRng (k : List D → Option (List D)) (fs : M (List D)) : M (List D) := mbind fs fun ds => mopt (k ds)
theorem rng_yields {lo : Int} {n : Nat} (i : Nat) (H2 F2 : Hp) (x : V) (H3 : Hp) (u2 : Sub F2 H2) (hi : i < (rngD lo n).length) (y : YFn (fun i => .int (lo + (i : Nat))) i H2 x H3) : ∃ F3 d, Ext H2 F2 H3 F3 ∧ (rngD lo n)[i]? = some d ∧ Is K F3 x d := by
  obtain ⟨rfl, rfl⟩ := y
  refine ⟨F2, .int (lo + i), Ext.refl u2, ?_, .int _⟩
  have hi : i < n := by simpa [rngD] using hi
  unfold rngD
  rw [List.getElem?_map, List.getElem?_range hi]
  rfl
theorem rng_len {lo : Int} {n : Nat} : (rngD lo n).length = n := by simp [rngD]
theorem one_all {F : Hp} {vs : List V} {j : Int} (h : IsAll K F vs [.int j]) : vs = [.int j] := by
  cases h with
  | cons h1 h2 => cases h1; cases h2; rfl
theorem di_range1 {p : Pos} (hg : Gl X "range") (hm : X.mg "range" = none) (ha : DA X C W [a] fs) (hs : starEach [a] X.env = [(false, eval a X.env)] := by rfl) : DI X C W tg (.Call (.Name "range" p) [a] [] pos) (iRng rng1 fs) := by
  refine pi_imp (pi_range1 hg hm ha hs) fun σ H R ⟨F, s, r, q⟩ => ⟨F, s, r, (Post.bind q).mono fun d s1 H1 F1 r1 u1 q1 v iv => ?_⟩
  obtain ⟨ds, e1, q2⟩ := post_mopt q1 r1
  have q3 := q2 H1 F1 (Ext.refl r1.sub)
  unfold rng1 at e1
  split at e1
  · rename_i j
    by_cases hj : -(2 ^ 62) ≤ j ∧ j < 2 ^ 62
    · rw [if_pos hj] at e1
      cases e1
      refine ⟨j, one_all iv, hj.1, hj.2, q3 _ _ _ (by rw [rng_len]; exact walk_range) (fun _ _ _ _ => trivial) fun i H2 F2 x H3 u1 u2 hi y => rng_yields i H2 F2 x H3 u2 hi y⟩
    · rw [if_neg hj] at e1; cases e1
  · cases e1
def enumFrom (k : Nat) : List D → List D
  | [] => []
  | d :: ds => .tup [.int (k : Nat), d] :: enumFrom (k + 1) ds
def listOf1 : List D → Option (List D)
  | [.lst ds] => some ds
  | [.tup ds] => some ds
  | _ => none
def iEnu (fs : M (List D)) : M (List D) := mbind fs fun ds => mopt ((listOf1 ds).map (enumFrom 0))
def forD (p : Pat) (f : S → Out) : List D → S → Out
  | [], s => .nx s
  | d :: ds, s => match p.bind d s with
    | none => .bad
    | some s1 => match f s1 with
      | .nx s2 => forD p f ds s2
      | .ct s2 => forD p f ds s2
      | .bk s2 => .nx s2
      | .rt v s2 => .rt v s2
      | .exc c fs s2 => .exc c fs s2
      | .bad => .bad
def sFor (fi : M (List D)) (p : Pat) (f : S → Out) : S → Out := sOf fi fun ds => forD p f ds
theorem drop_of {α : Type} {ds : List α} {i : Nat} {d : α} (h : ds[i]? = some d) : ds.drop i = d :: ds.drop (i + 1) := by
  obtain ⟨hi, e⟩ := List.getElem?_eq_some_iff.mp h
  rw [List.drop_eq_getElem_cons hi, e]
theorem ds_for {pt : Pat} (hK : C.K = X.K) (hp : PassesOwn (model X.prog X.w) X.A X.env X.xe) (hc : X.calm = true) (hi : DI X C W tg iter fi) (hg : PG X tg (pt.g X.K)) (hb : DB X C W body f)
    (hs : ∀ x, foldedSetIterable iter X.env x = pure x := by intro _; rfl) : DS X C W (.For tg iter body [] pos) (sFor fi pt f) := by
  refine ps_imp (ps_for hp hc hi hg hb hs) fun E σ H ⟨F, s, r, q⟩ => ⟨F, s, r, (post_of q).mono fun ds s1 H1 F1 r1 u1 q1 J G Y wk hG hY => ?_⟩
  refine for_it wk (fun i σ' H' => ∃ F2 s2, Rel C σ' H' F2 s2 ∧ Sub F1 F2 ∧ PostS C W F2 (forD pt f (ds.drop i) s2) E.nx E.rt E.bk E.ct) ⟨F1, s1, r1, Sub.refl _, q1⟩ (fun i σ' H' _ ⟨F2, s2, r2, u2, _⟩ => hG H' F2 u2 r2.sub) (fun i x σ' H' H3 hi ⟨F2, s2, r2, u2, q2⟩ y => ?_) fun σ' H' ⟨F2, s2, r2, u2, q2⟩ => ?_
  · obtain ⟨F3, d, ex, ed, ix⟩ := hY i H' F2 x H3 u2 r2.sub hi y
    rw [drop_of ed] at q2
    unfold forD at q2
    cases e1 : pt.bind d s2 with
    | none => rw [e1] at q2; exact q2.elim
    | some s3 =>
      rw [e1] at q2
      rw [← hK]
      refine Pat.ok pt (r2.ext ex) ix e1 fun σ3 H4 r3 _ => ⟨F3, s3, r3, ?_⟩
      have q2 : PostS C W F2 (match f s3 with
        | .nx s2 => forD pt f (ds.drop (i + 1)) s2
        | .ct s2 => forD pt f (ds.drop (i + 1)) s2
        | .bk s2 => .nx s2
        | .rt v s2 => .rt v s2
        | .exc c fs s2 => .exc c fs s2
        | .bad => .bad) E.nx E.rt E.bk E.ct := q2
      cases e2 : f s3 with
      | nx s4 => rw [e2] at q2; exact fun σ4 H4 F4 r4 u4 => ⟨F4, s4, r4, (u2.trans ex.f).trans u4, PostS.up (ex.f.trans u4) q2⟩
      | ct s4 => rw [e2] at q2; exact fun σ4 H4 F4 r4 u4 => ⟨F4, s4, r4, (u2.trans ex.f).trans u4, PostS.up (ex.f.trans u4) q2⟩
      | bk s4 => rw [e2] at q2; exact fun σ4 H4 F4 r4 u4 => q2 σ4 H4 F4 r4 (ex.f.trans u4)
      | rt v s4 => rw [e2] at q2; exact PostS.up ex.f q2
      | exc c fs s4 => rw [e2] at q2; exact PostS.up ex.f q2
      | bad => rw [e2] at q2; exact q2
  · rw [List.drop_of_length_le (Nat.le_refl _)] at q2
    exact q2 σ' H' F2 r2 (Sub.refl _)
end
end DL
set_option maxHeartbeats 2000000
namespace DL
open PySem PySem.Spec PyProof.Rows L2
def Sl.keep : Sl → Sl
  | .val d => .val d
  | .io j => .io j
  | _ => .no
def wipeL (vs : List Nat) : Nat → List Sl → List Sl
  | _, [] => []
  | i, x :: r => (if vs.contains i then .no else x) :: wipeL vs (i + 1) r
def backL (vs : List Nat) : Nat → List Sl → List Sl → List Sl
  | i, x :: r, y :: r' => (if vs.contains i then x.keep else y) :: backL vs (i + 1) r r'
  | _, _, _ => []
def S.wipe (s : S) (vs : List Nat) : S := { s with sl := wipeL vs 0 s.sl }
def S.back (s0 s : S) (vs : List Nat) : S := { s with sl := backL vs 0 s0.sl s.sl }
theorem wipeL_get (vs : List Nat) : ∀ (l : List Sl) (k i : Nat), (wipeL vs k l)[i]? = (l[i]?).map fun x => if vs.contains (k + i) then .no else x
  | [], k, i => by simp [wipeL]
  | x :: r, k, 0 => by unfold wipeL; rfl
  | x :: r, k, i + 1 => by
    unfold wipeL
    rw [List.getElem?_cons_succ, List.getElem?_cons_succ, wipeL_get vs r, show k + 1 + i = k + (i + 1) by omega]
theorem wipeL_len (vs : List Nat) : ∀ (l : List Sl) (k : Nat), (wipeL vs k l).length = l.length
  | [], k => rfl
  | x :: r, k => by unfold wipeL; rw [List.length_cons, List.length_cons, wipeL_len vs r]
theorem backL_get (vs : List Nat) : ∀ (l m : List Sl) (k i : Nat), l.length = m.length → (backL vs k l m)[i]? = if vs.contains (k + i) then (l[i]?).map Sl.keep else m[i]?
  | [], [], k, i, _ => by simp [backL]
  | [], _ :: _, _, _, h => by simp at h
  | _ :: _, [], _, _, h => by simp at h
  | x :: r, y :: r', k, 0, h => by
    unfold backL
    rw [List.getElem?_cons_zero, List.getElem?_cons_zero, List.getElem?_cons_zero, Nat.add_zero]
    split <;> rfl
  | x :: r, y :: r', k, i + 1, h => by
    unfold backL
    rw [List.getElem?_cons_succ, List.getElem?_cons_succ, List.getElem?_cons_succ, backL_get vs r r' (k + 1) i (by simpa using h), show k + 1 + i = k + (i + 1) by omega]
theorem backL_len (vs : List Nat) : ∀ (l m : List Sl) (k : Nat), l.length = m.length → (backL vs k l m).length = m.length
  | [], [], k, _ => rfl
  | [], _ :: _, _, h => by simp at h
  | _ :: _, [], _, h => by simp at h
  | x :: r, y :: r', k, h => by unfold backL; rw [List.length_cons, List.length_cons, backL_len vs r r' _ (by simpa using h)]
section
variable {C : Ct} {W : WX} {X : Cx} {σ : L2.St} {H F : Hp} {s : S} {fa fb fc fe : M D} {a b c e : Expr} {es : List Expr} {fs : M (List D)} {pos p apos : Pos} {K : PySem.W.Frag} {x : Str} {st : Stmt} {body : List Stmt} {f : S → Out} {tg iter elt : Expr} {fi : M (List D)}
theorem wipe_ref {vs : List Nat} {i : Nat} {a : Addr} (h : (wipe σ vs)[i]? = some (some (.ref a))) : σ[i]? = some (some (.ref a)) := (wipe_some h).1
theorem Rel.wipe (r : Rel C σ H F s) (vs : List Nat) : Rel C (L2.wipe σ vs) H F (s.wipe vs) where
  sub := r.sub
  keep := r.keep
  f0 := r.f0
  len := by show (wipeL vs 0 s.sl).length = _; rw [wipeL_len, wipe_length]; exact r.len
  slot := fun i x e => by
    have e : (wipeL vs 0 s.sl)[i]? = some x := e
    rw [wipeL_get, Nat.zero_add] at e
    obtain ⟨y, e1, rfl⟩ := Option.map_eq_some_iff.mp e
    by_cases m : vs.contains i
    · rw [if_pos m]; trivial
    · rw [if_neg m, wipe_out (by simpa using m)]
      exact r.slot i y e1
  iol := r.iol
  io := r.io
  ap := fun i j a ⟨e1, c1, h1⟩ ⟨e2, c2, h2⟩ => by
    have key : ∀ {i : Nat} {c : Cell}, (wipeL vs 0 s.sl)[i]? = some (.own c) → s.sl[i]? = some (.own c) := fun {i c} e => by
      rw [wipeL_get, Nat.zero_add] at e
      obtain ⟨y, e1, e2⟩ := Option.map_eq_some_iff.mp e
      by_cases m : vs.contains i
      · rw [if_pos m] at e2; cases e2
      · rw [if_neg m] at e2; rw [e1, e2]
    exact r.ap i j a ⟨wipe_ref e1, c1, key h1⟩ ⟨wipe_ref e2, c2, key h2⟩
  inn := r.inn
  nd := r.nd
  s0 := r.s0
  tabs := r.tabs
/-- behind a block: its own names as they were -/
theorem Rel.back {H' F' : Hp} {s' : S} {vs : List Nat} (r : Rel C σ H F s) (r' : Rel C (L2.wipe σ vs) H' F' s') (u : Sub F F') : Rel C σ H' F' (s.back s' vs) := by
  have hl : s.sl.length = s'.sl.length := by rw [r.len, r'.len, wipe_length]
  refine ⟨r'.sub, r'.keep, r'.f0, ?_, fun i x e => ?_, r'.iol, r'.io, fun i j a ⟨e1, c1, h1⟩ ⟨e2, c2, h2⟩ => ?_, r'.inn, r'.nd, r'.s0, r'.tabs⟩
  · show (backL vs 0 s.sl s'.sl).length = _
    rw [backL_len _ _ _ _ hl, r'.len, wipe_length]
  · have e : (backL vs 0 s.sl s'.sl)[i]? = some x := e
    rw [backL_get _ _ _ _ _ hl, Nat.zero_add] at e
    by_cases m : vs.contains i
    · rw [if_pos m] at e
      obtain ⟨y, e1, rfl⟩ := Option.map_eq_some_iff.mp e
      have z := r.slot i y e1
      cases y with
      | val d => obtain ⟨v, z1, z2⟩ := z; exact ⟨v, z1, z2.up u⟩
      | io j => exact z
      | _ => trivial
    · rw [if_neg m] at e
      have z := r'.slot i x e
      rw [wipe_out (by simpa using m)] at z
      exact z
  · have key : ∀ {i : Nat} {c : Cell}, σ[i]? = some (some (.ref a)) → (backL vs 0 s.sl s'.sl)[i]? = some (.own c) → OwnAt (L2.wipe σ vs) s'.sl i a := fun {i c} e1 e => by
      rw [backL_get _ _ _ _ _ hl, Nat.zero_add] at e
      by_cases m : vs.contains i
      · rw [if_pos m] at e
        obtain ⟨y, _, e2⟩ := Option.map_eq_some_iff.mp e
        cases y <;> cases e2
      · rw [if_neg m] at e
        exact ⟨by rw [wipe_out (by simpa using m)]; exact e1, c, e⟩
    exact r'.ap i j a (key e1 h1) (key e2 h2)
def Ct.more (C : Ct) (a : Addr) : Ct := { C with H0 := upd C.H0 a (.lst []), A := C.A ++ [a] }
def S.more (s : S) (c : Cell) : S := { s with io := s.io ++ [c] }
def S.less (s : S) : S := { s with io := s.io.dropLast }
def S.top (s : S) : Option Cell := s.io.getLast?
def ioLt (n : Nat) : List Sl → Bool
  | [] => true
  | .io j :: r => decide (j < n) && ioLt n r
  | _ :: r => ioLt n r
theorem ioLt_get {n : Nat} : ∀ {l : List Sl} {i j : Nat}, ioLt n l = true → l[i]? = some (.io j) → j < n
  | [], _, _, _, e => by simp at e
  | x :: r, 0, j, h, e => by
    have e : x = .io j := by simpa using e
    subst e
    unfold ioLt at h
    rw [Bool.and_eq_true] at h
    exact of_decide_eq_true h.1
  | x :: r, i + 1, j, h, e => by
    refine ioLt_get (l := r) (i := i) ?_ (by simpa using e)
    cases x <;> unfold ioLt at h <;> first | exact h | (rw [Bool.and_eq_true] at h; exact h.2)
theorem Rel.more (r : Rel C σ H F s) {a : Addr} (n : H a = none) : Rel (C.more a) σ (upd H a (.lst [])) F (s.more (.lst [])) := by
  have n0 := r.newH n
  have nF := r.newF n
  have nF0 : C.F0 a = none := by
    cases e : C.F0 a with
    | none => rfl
    | some o => rw [r.s0.1 a o e] at n0; cases n0
  have nO := r.newO n
  have hA : a ∉ C.A := fun m => r.inn a m n0
  refine ⟨fun b u e => by rw [upd_ne (ne_of_none e nF)]; exact r.sub _ _ e, fun b u e m => ?_, fun b e => ?_, r.len, fun i x e => ?_, ?_, fun j b c e1 e2 => ?_, r.ap, fun b m => ?_, ?_, ⟨fun b u e => ?_, fun p hp => ⟨(r.s0.2 p hp).1, ?_⟩⟩, r.tabs.upd fun ps z => by rw [n] at z; cases z⟩
  · have m : b ∉ C.A ++ [a] := m
    have ne : b ≠ a := fun z => m (by rw [z]; simp)
    have e : upd C.H0 a (.lst []) b = some u := e
    rw [upd_ne ne] at e ⊢
    exact r.keep b u e fun z => m (List.mem_append_left _ z)
  · show F b = C.F0 b
    have e : upd C.H0 a (.lst []) b ≠ none := e
    by_cases z : b = a
    · rw [z, nF, nF0]
    · rw [upd_ne z] at e; exact r.f0 b e
  · have z := r.slot i x e
    cases x with
    | no => trivial
    | val d => exact z
    | own c =>
      obtain ⟨b, z1, z2, z3, z4⟩ := z
      have ne : b ≠ a := fun w => nO i ⟨by rw [← w]; exact z1, c, e⟩
      exact ⟨b, z1, z2, by show upd C.H0 a _ b = none; rw [upd_ne ne]; exact z3, z4.up (Sub.refl _) fun u e => by rw [upd_ne ne]; exact e⟩
    | io j =>
      obtain ⟨b, z1, z2⟩ := z
      exact ⟨b, z1, by show (C.A ++ [a])[j]? = _; rw [List.getElem?_append_left (List.getElem?_eq_some_iff.mp z2).1]; exact z2⟩
  · show (s.io ++ [_]).length = (C.A ++ [a]).length
    rw [List.length_append, List.length_append, r.iol]; rfl
  · have e1 : (C.A ++ [a])[j]? = some b := e1
    have e2 : (s.io ++ [.lst []])[j]? = some c := e2
    by_cases hj : j < C.A.length
    · rw [List.getElem?_append_left hj] at e1
      rw [List.getElem?_append_left (by rw [r.iol]; exact hj)] at e2
      obtain ⟨z1, z2⟩ := r.io j b c e1 e2
      have ne : b ≠ a := fun w => hA (by rw [← w]; exact List.mem_of_getElem? e1)
      exact ⟨z1, z2.up (Sub.refl _) fun u e => by rw [upd_ne ne]; exact e⟩
    · have hj : C.A.length ≤ j := by omega
      rw [List.getElem?_append_right hj] at e1
      rw [List.getElem?_append_right (by rw [r.iol]; exact hj), r.iol] at e2
      have hz : j - C.A.length = 0 := by
        cases q : j - C.A.length with
        | zero => rfl
        | succ k => rw [q] at e1; simp at e1
      rw [hz] at e1 e2
      cases e1
      cases e2
      exact ⟨nF0, [], upd_same, .nil⟩
  · show upd C.H0 a _ b ≠ none
    rcases List.mem_append.mp m with z | z
    · rw [upd_ne fun w => hA (by rw [← w]; exact z)]; exact r.inn b z
    · have z : b = a := by simpa using z
      rw [z, upd_same]; exact fun w => nomatch w
  · show (C.A ++ [a]).Nodup
    rw [List.nodup_append]
    exact ⟨r.nd, by simp, fun x hx y hy => by
      have hy : y = a := by simpa using hy
      rw [hy]; exact fun w => hA (by rw [← w]; exact hx)⟩
  · show upd C.H0 a _ b = some u
    have e : C.F0 b = some u := e
    rw [upd_ne fun w => by rw [w, nF0] at e; cases e]
    exact r.s0.1 b u e
  · show upd C.H0 a _ p.1 ≠ none
    rw [upd_ne fun w => (r.s0.2 p hp).2 (by rw [w]; exact n0)]
    exact (r.s0.2 p hp).2
theorem more_last {a : Addr} : (C.more a).A[C.A.length]? = some a := by show (C.A ++ [a])[C.A.length]? = _; simp
theorem top_at {l : List Cell} {n : Nat} (h : l.length = n + 1) : l.getLast? = l[n]? := by
  rw [List.getLast?_eq_getElem?, h]; rfl
/-- what the new list holds now -/
theorem Rel.top {a : Addr} {c : Cell} (r : Rel (C.more a) σ H F s) (h : s.top = some c) : F a = none ∧ CellAt C.K F H a c ∧
    ∀ (o : HO) (c' : Cell), CellAt C.K F (upd H a o) a c' → Rel (C.more a) σ (upd H a o) F { s with io := s.io.dropLast ++ [c'] } := by
  have hl : s.io.length = C.A.length + 1 := by rw [r.iol]; show (C.A ++ [a]).length = _; simp
  unfold S.top at h
  rw [top_at hl] at h
  have q := r.io _ a c more_last h
  have nF : F a = none := r.ioF more_last h
  refine ⟨nF, q.2, fun o c' hc' => ?_⟩
  have hH0 : (C.more a).H0 a ≠ none := by show upd C.H0 a _ a ≠ none; rw [upd_same]; exact fun w => nomatch w
  have hmem : a ∈ (C.more a).A := by show a ∈ C.A ++ [a]; simp
  have oth : ∀ {b : Addr} {c : Cell}, CellAt C.K F H b c → b ≠ a → CellAt C.K F (upd H a o) b c := fun {b c} h ne => h.up (Sub.refl _) fun u e => by rw [upd_ne ne]; exact e
  have hio : ∀ j, (s.io.dropLast ++ [c'])[j]? = if j = C.A.length then some c' else s.io[j]? := fun j => by
    have hd : s.io.dropLast.length = C.A.length := by rw [List.length_dropLast, hl]; rfl
    by_cases e : j = C.A.length
    · rw [if_pos e, List.getElem?_append_right (by omega), hd, e]; simp
    · rw [if_neg e]
      by_cases hj : j < C.A.length
      · rw [List.getElem?_append_left (by omega), List.getElem?_dropLast, if_pos (by omega)]
      · rw [List.getElem?_append_right (by omega), List.getElem?_eq_none (by simp; omega), List.getElem?_eq_none (by omega)]
  refine ⟨fun b u e => by rw [upd_ne (ne_of_none e nF)]; exact r.sub _ _ e, fun b u e m => by rw [upd_ne fun w => m (by rw [w]; exact hmem)]; exact r.keep b u e m, r.f0, r.len, fun i x e => ?_, ?_, fun j b c e1 e2 => ?_, r.ap, r.inn, r.nd, r.s0, r.tabs.upd q.2.nt⟩
  · have z := r.slot i x e
    cases x with
    | own c =>
      obtain ⟨b, z1, z2, z3, z4⟩ := z
      exact ⟨b, z1, z2, z3, oth z4 fun w => by subst w; exact hH0 z3⟩
    | _ => exact z
  · show (s.io.dropLast ++ [c']).length = _
    rw [← r.iol, List.length_append, List.length_dropLast, hl]; rfl
  · have e2 : (s.io.dropLast ++ [c'])[j]? = some c := e2
    rw [hio] at e2
    by_cases e : j = C.A.length
    · rw [if_pos e] at e2
      cases e2
      rw [e, more_last] at e1
      cases e1
      exact ⟨q.1, hc'⟩
    · rw [if_neg e] at e2
      have z := r.io j b c e1 e2
      refine ⟨z.1, oth z.2 fun w => e ?_⟩
      rw [w] at e1
      exact (List.getElem?_inj (List.getElem?_eq_some_iff.mp e1).1 r.nd).mp (e1.trans more_last.symm)
theorem Rel.less {a : Addr} (r : Rel (C.more a) σ H F s) (n0 : C.H0 a = none) (hio : ioLt C.A.length s.sl = true) (nd : C.A.Nodup) (inn : ∀ a ∈ C.A, C.H0 a ≠ none) (s0 : S0 C) : Rel C σ H F s.less ∧ ∀ i, ¬ OwnAt σ s.sl i a := by
  have hl : s.io.length = C.A.length + 1 := by rw [r.iol]; show (C.A ++ [a]).length = _; simp
  have key : ∀ {b : Addr}, C.H0 b ≠ none → (C.more a).H0 b = C.H0 b := fun {b} h => by
    show upd C.H0 a _ b = _
    rw [upd_ne fun w => h (by rw [w]; exact n0)]
  refine ⟨⟨r.sub, fun b u e m => r.keep b u (by rw [key (by rw [e]; exact fun z => nomatch z)]; exact e) fun z => ?_, fun b e => r.f0 b (by rw [key e]; exact e), r.len, fun i x e => ?_, ?_, fun j b c e1 e2 => ?_, r.ap, inn, nd, s0, r.tabs⟩, fun i ⟨e1, c, e2⟩ => ?_⟩
  · rcases List.mem_append.mp (show b ∈ C.A ++ [a] from z) with z | z
    · exact m z
    · have z : b = a := by simpa using z
      rw [z, n0] at e; cases e
  · have e : s.sl[i]? = some x := e
    have z := r.slot i x e
    cases x with
    | own c =>
      obtain ⟨b, z1, z2, z3, z4⟩ := z
      refine ⟨b, z1, z2, ?_, z4⟩
      have z3 : upd C.H0 a (.lst []) b = none := z3
      by_cases w : b = a
      · rw [w]; exact n0
      · rw [upd_ne w] at z3; exact z3
    | io j =>
      obtain ⟨b, z1, z2⟩ := z
      have z2 : (C.A ++ [a])[j]? = some b := z2
      rw [List.getElem?_append_left (ioLt_get hio e)] at z2
      exact ⟨b, z1, z2⟩
    | _ => exact z
  · show s.io.dropLast.length = _
    rw [List.length_dropLast, hl]; rfl
  · have hj : j < C.A.length := (List.getElem?_eq_some_iff.mp e1).1
    have e2 : s.io.dropLast[j]? = some c := e2
    rw [List.getElem?_dropLast, if_pos (by omega)] at e2
    exact r.io j b c (by show (C.A ++ [a])[j]? = _; rw [List.getElem?_append_left hj]; exact e1) e2
  · obtain ⟨b, z1, z2, z3, z4⟩ := r.slot i _ e2
    rw [e1] at z1
    cases z1
    have z3 : upd C.H0 a (.lst []) a = none := z3
    rw [upd_same] at z3
    cases z3
def pushL (s : S) (y : D) : Option S := match s.top with
  | some (.lst acc) => if acc.length < LN then some { s with io := s.io.dropLast ++ [.lst (acc ++ [y])] } else none
  | _ => none
/-- the turns -/
def lcD (vs : List Nat) (p : Pat) (t : M Bool) (fe : M D) : List D → S → Option S
  | [], s => some s
  | d :: ds, s => (p.bind d (s.wipe vs)).bind fun s1 => match t s1 with
    | .ok true s2 => (match fe s2 with
      | .ok y s3 => (pushL s3 y).bind fun s4 => lcD vs p t fe ds s4
      | _ => none)
    | .ok false s2 => lcD vs p t fe ds s2
    | _ => none
def lcEnd (vs : List Nat) (s : S) (o : Option S) : Res (List D) := match o with
  | some s' => (match s'.top with
    | some (.lst ys) => if ioLt s.io.length s'.sl = true then .ok ys (s.back (s'.wipe vs).less vs) else .bad
    | _ => .bad)
  | none => .bad
def eLcL (vs : List Nat) (fi : M (List D)) (p : Pat) (t : M Bool) (fe : M D) : M (List D) := mbind fi fun ds s => lcEnd vs s (lcD vs p t fe ds (s.more (.lst [])))
def eLc (vs : List Nat) (fi : M (List D)) (p : Pat) (t : M Bool) (fe : M D) : M D := mbind (eLcL vs fi p t fe) fun ys => mret (.lst ys)
def oLc (vs : List Nat) (fi : M (List D)) (p : Pat) (t : M Bool) (fe : M D) : M Cell := mbind (eLcL vs fi p t fe) fun ys => mret (.lst ys)
abbrev WN : WX := fun _ _ _ _ => False
def mYes : M Bool := mret true
abbrev DTs (X : Cx) (C : Ct) (W : WX) (ifs : List Expr) (f : M Bool) : Prop := PTs X ifs (tB C W f)
theorem dts_nil : DTs X C W [] mYes := ⟨fun pins s σ H Q I ⟨F, s', r, q⟩ => pts_nil.run pins s σ H Q I (q H F r (Sub.refl _))⟩
theorem dts_one {t : M Bool} (h : DT X C W a t) : DTs X C W [a] t := pts_one h
/-- whatever is fixed -/
def tBx (K : PySem.W.Frag) (t : M Bool) : TT := fun σ H Q => ∃ C' : Ct, C'.K = K ∧ tB C' WN t σ H Q
def tDx (K : PySem.W.Frag) (f : M D) : TE := fun σ H Q => ∃ C' : Ct, C'.K = K ∧ tD C' WN f σ H Q
theorem dts_x {X : Cx} {ifs : List Expr} {t : M Bool} {K : PySem.W.Frag} (h : ∀ C' : Ct, C'.K = K → DTs X C' WN ifs t) : PTs X ifs (tBx K t) := ⟨fun pins s σ H Q I ⟨C', e, q⟩ => (h C' e).run pins s σ H Q I q⟩
theorem d_x {X : Cx} {e : Expr} {f : M D} {K : PySem.W.Frag} (h : ∀ C' : Ct, C'.K = K → DE X C' WN e f) : PE X e (tDx K f) := ⟨fun pins s σ H Q I ⟨C', e, q⟩ => (h C' e).run pins s σ H Q I q⟩
theorem wipe_wipe {vs : List Nat} : L2.wipe (L2.wipe σ vs) vs = L2.wipe σ vs := by
  refine List.ext_getElem? fun j => ?_
  by_cases m : j ∈ vs
  · rw [wipe_get _ _ _ m, wipe_get _ _ _ m, wipe_length]
  · rw [wipe_out m]
theorem lc_turns {vs : List Nat} {pt : Pat} {t : M Bool} {J : It} {G : Hp → Prop} {Y : Nat → Hp → V → Hp → Prop} {H1 F1 : Hp} {s1 : S} {ds : List D} (hpt : pt.inn vs = true) (r0 : Rel C σ H1 F1 s1) (wk : Walk J ds.length G Y)
    (hG : ∀ H2 F2, Sub F1 F2 → Sub F2 H2 → G H2) (hY : ∀ i H2 F2 x H3, Sub F1 F2 → Sub F2 H2 → i < ds.length → Y i H2 x H3 → ∃ F3 d, Ext H2 F2 H3 F3 ∧ ds[i]? = some d ∧ Is C.K F3 x d)
    {Dd : Addr} (nD : H1 Dd = none) {Qd : Hp → Prop} {sE : S} (hq : lcD vs pt t fe ds (s1.more (.lst [])) = some sE)
    (fin : ∀ H' F', Rel (C.more Dd) (L2.wipe σ vs) H' F' (sE.wipe vs) → Sub F1 F' → Qd H') :
    ∃ W : Nat → Nat → Hp → Prop, (∃ m, W 0 m (upd H1 Dd (.lst []))) ∧ ∀ i m H, W i m H →
      (J.stop i H ∧ Qd H) ∨ (J.go i H ∧ ∃ Nx : Hp → Prop, (∀ H', Nx H' → ∃ m', m' < m ∧ W (i + 1) m' H') ∧ ∀ x H', J.yld i H x H' → pt.g C.K x (L2.wipe σ vs) H' fun σ2 H2 => L2.wipe σ2 vs = L2.wipe σ vs ∧ tBx C.K t σ2 H2 fun b H3 =>
        if b = true then tDx C.K fe σ2 H3 fun y H4 => ∃ acc, H4 Dd = some (.lst acc) ∧ acc.length < sizeLine ∧ Nx (upd H4 Dd (.lst (acc ++ [y]))) else Nx H3) := by
  refine lc_it wk (fun i H' => ∃ F2 s2 sx, Rel (C.more Dd) (L2.wipe σ vs) H' F2 sx ∧ sx = s2.wipe vs ∧ Sub F1 F2 ∧ lcD vs pt t fe (ds.drop i) s2 = some sE) ⟨F1, _, _, (r0.more nD).wipe vs, rfl, Sub.refl _, hq⟩
    (fun i H' _ ⟨F2, s2, sx, r2, _, u2, _⟩ => hG H' F2 u2 r2.sub) (fun i x H' H3 hi ⟨F2, s2, sx, r2, ex2, u2, hl⟩ y => ?_) fun H' ⟨F2, s2, sx, r2, ex2, u2, hl⟩ => ?_
  · obtain ⟨F3, d, ex, ed, ix⟩ := hY i H' F2 x H3 u2 r2.sub hi y
    rw [drop_of ed] at hl
    unfold lcD at hl
    obtain ⟨s3, e1, hl⟩ := Option.bind_eq_some_iff.mp hl
    subst ex2
    refine Pat.ok (C := C.more Dd) pt (r2.ext ex) ix e1 fun σ3 H3' r3 hw => ⟨by rw [hw vs hpt, wipe_wipe], C.more Dd, rfl, F3, s3, r3, ?_⟩
    have hw3 : L2.wipe σ3 vs = L2.wipe σ vs := by rw [hw vs hpt, wipe_wipe]
    cases e2 : t s3 with
    | bad => rw [e2] at hl; cases hl
    | exc c' fs' s4 => rw [e2] at hl; cases hl
    | ok k s4 =>
      rw [e2] at hl
      intro H4 F4 r4 u4
      have r5 := r4.wipe vs
      rw [hw3] at r5
      cases k with
      | false =>
        simp only []
        rw [if_neg Bool.false_ne_true]
        exact ⟨F4, s4, _, r5, rfl, (u2.trans ex.f).trans u4, hl⟩
      | true =>
        simp only []
        rw [if_pos trivial]
        refine ⟨C.more Dd, rfl, F4, s4, r4, ?_⟩
        have hl : (match fe s4 with
          | .ok y s3 => (pushL s3 y).bind fun s4 => lcD vs pt t fe (ds.drop (i + 1)) s4
          | _ => none) = some sE := hl
        cases e3 : fe s4 with
        | bad => rw [e3] at hl; cases hl
        | exc c' fs' s4 => rw [e3] at hl; cases hl
        | ok yv s6 =>
          rw [e3] at hl
          obtain ⟨s7, e4, hl⟩ := Option.bind_eq_some_iff.mp hl
          intro H6 F6 r6 u6 v iv
          unfold pushL at e4
          split at e4
          · rename_i acc e5
            by_cases hlen : acc.length < LN
            · rw [if_pos hlen] at e4
              cases e4
              obtain ⟨nF, ⟨xs, hx, ia⟩, k⟩ := r6.top e5
              have r7 := (k (.lst (xs ++ [v])) (.lst (acc ++ [yv])) ⟨xs ++ [v], upd_same, ia.app (.cons iv .nil)⟩).wipe vs
              rw [hw3] at r7
              exact ⟨xs, hx, by rw [ia.len]; exact ln_lt hlen, F6, _, _, r7, rfl, ((u2.trans ex.f).trans u4).trans u6, hl⟩
            · rw [if_neg hlen] at e4; cases e4
          · cases e4
  · rw [List.drop_of_length_le (Nat.le_refl _)] at hl
    unfold lcD at hl
    cases hl
    subst ex2
    exact fin H' F2 r2 u2
theorem lc_end {vs : List Nat} {H1 F1 H' F' : Hp} {s1 sE : S} {a : Addr} {ys : List D} {s2 : S} (r1 : Rel C σ H1 F1 s1) (nD : H1 a = none) (he : lcEnd vs s1 (some sE) = .ok ys s2) (r : Rel (C.more a) (L2.wipe σ vs) H' F' (sE.wipe vs)) (u : Sub F1 F') :
    Rel C σ H' F' s2 ∧ F' a = none ∧ C.H0 a = none ∧ CellAt C.K F' H' a (.lst ys) ∧ ∀ i, ¬ OwnAt σ s2.sl i a := by
  unfold lcEnd at he
  have n0 := r1.newH nD
  split at he
  · rename_i s' e0
    cases e0
    split at he
    · rename_i ys' e1
      by_cases h : ioLt s1.io.length sE.sl = true
      · rw [if_pos h] at he
        cases he
        have htop : (sE.wipe vs).top = some (.lst ys) := e1
        obtain ⟨nF, hc, _⟩ := r.top htop
        have hio : ioLt C.A.length (sE.wipe vs).sl = true := by
          rw [← r1.iol]
          have : ∀ (l : List Sl) (k : Nat), ioLt s1.io.length l = true → ioLt s1.io.length (wipeL vs k l) = true := by
            intro l
            induction l with
            | nil => intro k h; exact h
            | cons x r ih =>
              intro k h
              unfold wipeL
              by_cases m : vs.contains k
              · rw [if_pos m]
                refine ih (k + 1) ?_
                cases x <;> unfold ioLt at h <;> first | exact h | (rw [Bool.and_eq_true] at h; exact h.2)
              · rw [if_neg m]
                cases x with
                | io j =>
                  unfold ioLt at h ⊢
                  rw [Bool.and_eq_true] at h ⊢
                  exact ⟨h.1, ih (k + 1) h.2⟩
                | _ => exact ih (k + 1) h
          exact this _ _ h
        obtain ⟨rl, nO⟩ := r.less n0 hio r1.nd r1.inn r1.s0
        have rb := r1.back rl u
        refine ⟨rb, nF, n0, hc, fun i ⟨e1, c, e2⟩ => ?_⟩
        have e2 : (backL vs 0 s1.sl (sE.wipe vs).sl)[i]? = some (.own c) := e2
        have hl : s1.sl.length = (sE.wipe vs).sl.length := by rw [r1.len, r.len, wipe_length]
        rw [backL_get _ _ _ _ _ hl, Nat.zero_add] at e2
        by_cases m : vs.contains i
        · rw [if_pos m] at e2
          obtain ⟨y, _, e3⟩ := Option.map_eq_some_iff.mp e2
          cases y <;> cases e3
        · rw [if_neg m] at e2
          exact nO i ⟨by rw [wipe_out (by simpa using m)]; exact e1, c, e2⟩
      · rw [if_neg h] at he; cases he
    · cases he
  · rename_i e0; cases e0
section
variable {scope : Scope} {own : List (Str × Nat)} {pt : Pat} {t : M Bool} {ifs : List Expr}
theorem lc_tLc {Q : VK} {P : List D → S → Hp → Hp → Prop} (hK : C.K = X.K) (hpt : pt.inn (own.map (·.2)) = true) (h : ∃ F s, Rel C σ H F s ∧ Post C W σ F (eLcL (own.map (·.2)) fi pt t fe s) P)
    (fin : ∀ ys s2 H' F' a, Rel C σ H' F' s2 → F' a = none → C.H0 a = none → CellAt C.K F' H' a (.lst ys) → (∀ i, ¬ OwnAt σ s2.sl i a) → (∀ H'' F'', Rel C σ H'' F'' s2 → Sub F' F'' → P ys s2 H'' F'') → Q (.ref a) H') :
    ∃ F s, Rel C σ H F s ∧ Post C W σ F (fi s) fun ds s' H' F' => ∀ (J : It) (G : Hp → Prop) (Y : Nat → Hp → V → Hp → Prop), Walk J ds.length G Y → (∀ H2 F2, Sub F' F2 → Sub F2 H2 → G H2) →
      (∀ i H2 F2 x H3, Sub F' F2 → Sub F2 H2 → i < ds.length → Y i H2 x H3 → ∃ F3 d, Ext H2 F2 H3 F3 ∧ ds[i]? = some d ∧ Is C.K F3 x d) →
      ∀ D, H' D = none → ∃ W : Nat → Nat → Hp → Prop, (∃ m, W 0 m (upd H' D (.lst []))) ∧ ∀ i m H, W i m H →
        (J.stop i H ∧ Q (.ref D) H) ∨ (J.go i H ∧ ∃ Nx : Hp → Prop, (∀ H', Nx H' → ∃ m', m' < m ∧ W (i + 1) m' H') ∧ ∀ x H', J.yld i H x H' → pt.g C.K x (L2.wipe σ (own.map (·.2))) H' fun σ2 H2 => L2.wipe σ2 (own.map (·.2)) = L2.wipe σ (own.map (·.2)) ∧ tBx C.K t σ2 H2 fun b H3 =>
          if b = true then tDx C.K fe σ2 H3 fun y H4 => ∃ acc, H4 D = some (.lst acc) ∧ acc.length < sizeLine ∧ Nx (upd H4 D (.lst (acc ++ [y]))) else Nx H3) := by
  obtain ⟨F, s, r, q⟩ := h
  refine ⟨F, s, r, (Post.bind q).mono fun ds s1 H1 F1 r1 u1 q1 J G Y wk hG hY Dd nD => ?_⟩
  cases e1 : lcD (own.map (·.2)) pt t fe ds (s1.more (.lst [])) with
  | none => rw [e1] at q1; exact q1.elim
  | some sE =>
    rw [e1] at q1
    cases e2 : lcEnd (own.map (·.2)) s1 (some sE) with
    | bad => rw [e2] at q1; exact q1.elim
    | exc c' fs' s2 => unfold lcEnd at e2; split at e2 <;> (try split at e2) <;> (try split at e2) <;> cases e2
    | ok ys s2 =>
      rw [e2] at q1
      refine lc_turns hpt r1 wk hG hY nD e1 fun H' F' rE uE => ?_
      obtain ⟨r2, nF, n0, hc, nO⟩ := lc_end r1 nD e2 rE uE
      exact fin ys s2 H' F' Dd r2 nF n0 hc nO fun H'' F'' r'' u'' => q1 H'' F'' r'' (uE.trans u'')
/-- a block's context -/
abbrev Blk (X : Cx) (scope : Scope) (P : Cx → Prop) : Prop := ∀ (s : Shared) (H : Hp) (c : Addr) (cl : List (Str × Addr)) (fp : List Addr), P (X.blk s H scope (compEnvC scope cl c X.env) fp)
theorem d_lc (hK : C.K = X.K) (hc : X.calm = true) (hN : X.N.Nodup) (hi : DI X C W tg iter fi) (ok : BlkOk X.N X.env.scope scope own) (hpt : pt.inn (own.map (·.2)) = true)
    (hg : Blk X scope fun Y => PG Y tg (pt.g X.K)) (ht : ∀ C' : Ct, C'.K = X.K → Blk X scope fun Y => DTs Y C' WN ifs t) (he : ∀ C' : Ct, C'.K = X.K → Blk X scope fun Y => DE Y C' WN elt fe)
    (hs : ∀ x, foldedSetIterable iter X.env x = pure x := by intro _; rfl) : DE X C W (.ListComp elt [⟨tg, iter, ifs, 0⟩] scope pos) (eLc (own.map (·.2)) fi pt t fe) := by
  refine pe_imp (pe_lc hc hN hi ok hg (fun s H c cl fp => dts_x fun C' e => ht C' e s H c cl fp) (fun s H c cl fp => d_x fun C' e => he C' e s H c cl fp) hs) fun σ H Q ⟨F, s, r, q⟩ => ?_
  rw [← hK]
  refine lc_tLc hK hpt ⟨F, s, r, Post.bind q⟩ fun ys s2 H' F' a r2 nF n0 hc nO k => ?_
  obtain ⟨xs, hx, ia⟩ := hc
  have uf : Sub F' (upd F' a (.lst xs)) := fun b u e => by rw [upd_ne (ne_of_none e nF)]; exact e
  have r3 : Rel C σ H' (upd F' a (.lst xs)) s2 := by
    refine ⟨fun b u e => ?_, r2.keep, fun b e => ?_, r2.len, fun j x e => ?_, r2.iol, fun j b c' e1 e2 => ⟨(r2.io j b c' e1 e2).1, (r2.io j b c' e1 e2).2.up uf fun _ z => z⟩, r2.ap, r2.inn, r2.nd, r2.s0, r2.tabs.up uf⟩
    · by_cases q : b = a
      · subst q; rw [upd_same] at e; rw [hx]; exact e
      · rw [upd_ne q] at e; exact r2.sub _ _ e
    · rw [upd_ne fun z => e (by rw [z]; exact n0)]
      exact r2.f0 b e
    · have z := r2.slot j x e
      cases x with
      | no => trivial
      | val d => obtain ⟨v, z1, z2⟩ := z; exact ⟨v, z1, z2.up uf⟩
      | own c' =>
        obtain ⟨b, z1, z2, z3, z4⟩ := z
        have ne : b ≠ a := fun y => by
          subst y
          exact nO j ⟨z1, c', e⟩
        exact ⟨b, z1, by rw [upd_ne ne]; exact z2, z3, z4.up uf fun _ z => z⟩
      | io k => exact z
  exact k H' _ r3 uf H' _ r3 (Sub.refl _) (.ref a) (.lst (.inl upd_same) (ia.up uf))
end
end
end DL
set_option maxHeartbeats 2000000
namespace DL
open PySem PySem.Spec PyProof.Rows L2
inductive FR where
  | rt (v : RV) (io : List Cell) | exc (c : Str) (fs : List (Str × D)) (io : List Cell) | bad
abbrev Fn := List Sl → List Cell → FR
def outFR : Out → FR
  | .nx s => .rt (.val .non) s.io
  | .rt v s => .rt v s.io
  | .exc c fs s => .exc c fs s.io
  | _ => .bad
/-- n: how many names the def has -/
def bodyFn (n : Nat) (f : S → Out) : Fn := fun as io => outFR (f ⟨as ++ List.replicate (n - as.length) .no, io⟩)
section
variable (K : PySem.W.Frag)
def ArgOk (F : Hp) (A : List Addr) (v : V) : Sl → Prop
  | .val d => Is K F v d
  | .io j => ∃ a, v = .ref a ∧ A[j]? = some a
  | _ => False
structure Entry (F H : Hp) (A : List Addr) (vs : List V) (as : List Sl) (io : List Cell) : Prop where
  sub : Sub F H
  nd : A.Nodup
  inn : ∀ a ∈ A, H a ≠ none
  iol : io.length = A.length
  io : ∀ (j : Nat) (a : Addr) (c : Cell), A[j]? = some a → io[j]? = some c → F a = none ∧ CellAt K F H a c
  len : as.length = vs.length
  args : ∀ (i : Nat) (x : Sl), as[i]? = some x → ∃ v, vs[i]? = some v ∧ ArgOk K F A v x
  tabs : TabsF K F H
  tf0 : ∀ p ∈ tbOf K, F p.1 = none
structure After (F H : Hp) (A : List Addr) (io : List Cell) (H' F' : Hp) : Prop where
  sub : Sub F' H'
  f : Sub F F'
  keep : ∀ a o, H a = some o → a ∉ A → Kept o (H' a)
  o : ∀ a, H a ≠ none → F' a = F a
  iol : io.length = A.length
  io : ∀ (j : Nat) (a : Addr) (c : Cell), A[j]? = some a → io[j]? = some c → CellAt K F' H' a c
  tabs : TabsF K F' H'
def RetAt (H F' H' : Hp) (v : V) : RV → Prop
  | .val d => Is K F' v d
  | .own c => ∃ a, v = .ref a ∧ F' a = none ∧ H a = none ∧ CellAt K F' H' a c
def FPost (F H : Hp) (A : List Addr) (r : FR) (Q : VK) (E : XK) : Prop := match r with
  | .rt rv io => ∀ v H' F', After K F H A io H' F' → RetAt K H F' H' v rv → Q v H'
  | .exc c fs io => ∀ (a : Option Addr) H' F', After K F H A io H' F' → XAt K F' H' a fs → E (.ref (He.ga K c)) a H'
  | .bad => False
/-- what a def promises -/
def spD (np : Nat) (r : Fn) : Sp := fun vs H Q E => ∃ F A as io, Entry K F H A vs as io ∧ as.length = np ∧ FPost K F H A (r as io) Q E
end
/-- FnOk where nothing guards (for repr of what holds things) -/
structure FnG (gd : Bool) (P : Program) (w : World) (K : PySem.W.Frag) (mg : Str → Option Value) (base : Heap) (CX : CXT) (k : Nat) (f : Addr) (fd : FuncData) (ps : List Str) (sp : Sp) : Prop where
  len : ∀ vs H Q E, sp vs H Q E → vs.length = ps.length
  run : ∀ (A : Around) (outer : List Env) (s : Shared) (H : Hp) (args : Args) (us : List Value) (vs : List V) (Q : VK) (E : XK), (gd = true → A.guards = some []) → Room k A → Env0 P w K mg base A outer s H → BindsTo s fd args (ps.zip us) → Vals vs us → sp vs H Q E →
    codeAny (model P w) A (.call (.ref f) args) (CR CX outer P w H s Q E) s
theorem FnG.mono {gd gd' : Bool} {P : Program} {w : World} {K : PySem.W.Frag} {mg : Str → Option Value} {base : Heap} {CX : CXT} {j k : Nat} {f : Addr} {fd : FuncData} {ps : List Str} {sp : Sp} (F : FnG gd P w K mg base CX j f fd ps sp) (h : j ≤ k) (hg : gd = true → gd' = true) :
    FnG gd' P w K mg base CX k f fd ps sp := ⟨F.len, fun A outer s H args us vs Q E g hr => F.run A outer s H args us vs Q E (fun z => g (hg z)) (hr.mono h)⟩
theorem FnG.imp {gd : Bool} {P : Program} {w : World} {K : PySem.W.Frag} {mg : Str → Option Value} {base : Heap} {CX : CXT} {k : Nat} {f : Addr} {fd : FuncData} {ps : List Str} {sp sp' : Sp} (F : FnG gd P w K mg base CX k f fd ps sp)
    (h : ∀ vs H Q E, sp' vs H Q E → sp vs H Q E) : FnG gd P w K mg base CX k f fd ps sp' :=
  ⟨fun vs H Q E q => F.len vs H Q E (h _ _ _ _ q), fun A outer s H args us vs Q E g hr he hb hv hs => F.run A outer s H args us vs Q E g hr he hb hv (h _ _ _ _ hs)⟩
/-- HandS's fn_of with the guards -/
theorem fng_of {gd : Bool} {CX : CXT} {P : Program} {w : World} {K : PySem.W.Frag} {mg : Str → Option Value} {base : Heap} {k : Nat} {f : Addr} {name qual : Str} {params : Arguments} {body : List Stmt} {scope : Scope} {dV kV doc pm cdv ct oc : Value} {an od : Option Addr}
    {osl : Array (Option Value)} {N ps : List Str} {sp : Sp} (lk : K.lookup f = some ⟨oc, od, .func (PySem.W.fnOf name qual params body scope dV kV doc pm an cdv ct), osl⟩) (hcd : PySem.W.codeIn K cdv qual = true) (S : FnScope N ps scope)
    (len : ∀ vs H Q E, sp vs H Q E → vs.length = ps.length)
    (hbody : ∀ (A : Around) (outer : List Env) (s : Shared) (H : Hp) (vs : List V) (Q : VK) (E : XK), (gd = true → A.guards = some []) → Room k (A.deeper (envOfC qual scope s.heap.objs.size f cdv)) → sp vs H Q E →
      ∃ t, PSs (cxOf CX P w K mg base N qual scope f cdv A outer s H E) body t ∧ t { nx := fun _ H' => Q .non H', rt := Q } (L2.start N vs) H) :
    FnG gd P w K mg base CX (k + 1) f (PySem.W.fnOf name qual params body scope dV kV doc pm an cdv ct) ps sp := by
  refine ⟨len, fun A outer s H args us vs Q E hgd hr e0 hb r hsp => ?_⟩
  have hl := len _ _ _ _ hsp
  have KX : K.In s.heap := e0.mod.kin.keeps fun b o e => (e0.bs b o e).1
  have lim : s.heap.NoLimit := e0.mod.nolimit.keeps fun b o e => (e0.bs b o e).1
  have hkind : ∀ y ∈ ps.zip us, scope.names.lookup y.1 = some .local ∨ (scope.names.lookup y.1 = some .cell ∧ ((cellsFrom (s.heap.objs.size + 1) scope.names []).lookup y.1).isSome = true) := fun ⟨n, v⟩ hy => by
    rcases S.par n (List.of_mem_zip hy).1 with q | q
    · exact .inl q
    · exact .inr ⟨q, PySem.W.cellsFrom_some _ _ _ (.inl q)⟩
  refine codeAny_call_function hr.depth (KX _ _ lk) rfl S.co S.gen rfl (PySem.W.codeRec_of KX hcd) (hb _ _ _ _ ?_)
  refine wpAny_newFunctionEnv_cells S.kind hkind fun env he s1 x => ?_
  subst he
  refine ⟨lim.keeps x.toInCall.keep, codeAny_func ?_⟩
  obtain ⟨t, ht, hq⟩ := hbody A outer s H vs Q E hgd (hr.deeper _) hsp
  have I : Inv (cxOf CX P w K mg base N qual scope f cdv A outer s H E) [] (L2.start N vs) H s1 := inv_start S hr.hd e0 hl r x
  refine wpAny_mono (ht.run [] s1 (L2.start N vs) H _ I hq) (fun fl s' hs => ?_) fun e s' hs => hs
  have fin : ∀ {σ' : L2.St} {H' : Hp} {v : V} {u : Value}, Inv (cxOf CX P w K mg base N qual scope f cdv A outer s H E) [] σ' H' s' → RelV v u → Q v H' → CE outer P w H s Q u s' :=
    fun {σ' H' v u} J rv q => ⟨v, H', J.os, J.bare, J.base, J.hok, rv, q⟩
  cases fl with
  | ret u =>
    obtain ⟨v, σ', H', J, rv, q⟩ := hs
    exact fin J rv q
  | next =>
    obtain ⟨σ', H', J, q⟩ := hs
    exact fin (v := V.non) (u := Value.none) J rfl q
  | brk =>
    obtain ⟨_, _, _, q⟩ := hs
    exact False.elim q
  | cont =>
    obtain ⟨_, _, _, q⟩ := hs
    exact False.elim q
theorem replicate_get {α : Type} {n i : Nat} {x y : α} (h : (List.replicate n x)[i]? = some y) : y = x := by
  rw [List.getElem?_replicate] at h
  split at h
  · exact (Option.some.inj h).symm
  · cases h
theorem Entry.rel {K : PySem.W.Frag} {F H : Hp} {A : List Addr} {vs : List V} {as : List Sl} {io : List Cell} {N : List Str} (e : Entry K F H A vs as io) : Rel ⟨K, H, F, A⟩ (L2.start N vs) H F ⟨as ++ List.replicate (N.length - as.length) .no, io⟩ where
  sub := e.sub
  keep := fun a o h _ => .inl h
  f0 := fun _ _ => rfl
  len := by
    unfold L2.start
    rw [List.length_append, List.length_append, List.length_replicate, List.length_replicate, List.length_map, e.len]
  slot := fun i x h => by
    have h : (as ++ List.replicate (N.length - as.length) .no)[i]? = some x := h
    by_cases hi : i < as.length
    · rw [List.getElem?_append_left hi] at h
      obtain ⟨v, h1, h2⟩ := e.args i x h
      have hs : (L2.start N vs)[i]? = some (some v) := by
        unfold L2.start
        rw [List.getElem?_append_left (by rw [List.length_map, ← e.len]; exact hi), List.getElem?_map, h1]
        rfl
      cases x with
      | val d => exact ⟨v, hs, h2⟩
      | io j => obtain ⟨a, rfl, h3⟩ := h2; exact ⟨a, hs, h3⟩
      | no => trivial
      | own c => exact h2.elim
    · rw [List.getElem?_append_right (by omega)] at h
      rw [replicate_get h]
      trivial
  iol := e.iol
  io := e.io
  ap := fun i j a ⟨_, c, h⟩ _ => by
    have h : (as ++ List.replicate (N.length - as.length) .no)[i]? = some (.own c) := h
    by_cases hi : i < as.length
    · rw [List.getElem?_append_left hi] at h
      obtain ⟨v, _, h2⟩ := e.args i _ h
      exact h2.elim
    · rw [List.getElem?_append_right (by omega)] at h
      cases replicate_get h
  inn := e.inn
  nd := e.nd
  s0 := ⟨e.sub, fun p hp => ⟨e.tf0 p hp, by obtain ⟨ps, h, _⟩ := e.tabs p hp; show H p.1 ≠ none; rw [h]; exact fun z => nomatch z⟩⟩
  tabs := e.tabs
theorem Rel.after {K : PySem.W.Frag} {F H H' F' : Hp} {A : List Addr} {σ : L2.St} {s : S} (r : Rel ⟨K, H, F, A⟩ σ H' F' s) (u : Sub F F') : After K F H A s.io H' F' :=
  ⟨r.sub, u, r.keep, r.f0, r.iol, fun j a c h1 h2 => (r.io j a c h1 h2).2, r.tabs⟩
theorem Fun.g {P : Program} {w : World} {K : PySem.W.Frag} {mg : Str → Option Value} {base : Heap} {gd : Bool} {CX : CXT} {x qual : Str} {st : Stmt} {f : Addr} {fd : FuncData} {N ps : List Str} {k : Nat} {g : S → Out} (F : L2.Fun K x qual st f fd) (S : FnScope N ps (defScope st))
    (hbody : ∀ (cdv : Value) (A : Around) (outer : List Env) (s : Shared) (H : Hp) (E : XK) (C : Ct), (gd = true → (A.deeper (envOfC qual (defScope st) s.heap.objs.size f cdv)).guards = some []) → Room k (A.deeper (envOfC qual (defScope st) s.heap.objs.size f cdv)) → C.K = K →
      DB (cxOf CX P w K mg base N qual (defScope st) f cdv A outer s H E) C (fun c d _ H => E c d H) (defBody st) g) :
    FnG gd P w K mg base CX (k + 1) f fd ps (spD K ps.length (bodyFn N.length g)) := by
  obtain ⟨oc, od, kV, doc, pm, an, cdv, ct, osl, rfl, lk, hcd⟩ := F.ex
  refine fng_of lk hcd S (fun vs H Q E ⟨F, A, as, io, e, hl, _⟩ => by rw [← e.len, hl]) fun A outer s H vs Q E hgd hr ⟨F, Al, as, io, e, hl, q⟩ => ⟨_, hbody cdv A outer s H E ⟨K, H, F, Al⟩ hgd hr rfl, F, _, e.rel, ?_⟩
  unfold bodyFn at q
  cases h : g ⟨as ++ List.replicate (N.length - as.length) .no, io⟩ with
  | nx s' =>
    rw [h] at q
    exact fun σ' H' F' r u => q .non H' F' (r.after u) .non
  | rt rv s' =>
    rw [h] at q
    exact fun v σ' H' F' r u ret => q v H' F' (r.after u) (by cases rv <;> exact ret)
  | exc c fs s' =>
    rw [h] at q
    exact fun a σ' H' F' r u x => q a H' F' (r.after u) x
  | bk s' => rw [h] at q; exact q.elim
  | ct s' => rw [h] at q; exact q.elim
  | bad => rw [h] at q; exact q.elim
end DL
set_option maxHeartbeats 2000000
namespace DL
open PySem PySem.Spec PyProof.Rows L2
abbrev wx (E : XK) : WX := fun c d _ H => E c d H
inductive AV where
  | val (d : D) | sl (i : Nat)
inductive AvAll (K : PySem.W.Frag) (σ : L2.St) (F : Hp) : List V → List AV → Prop
  | nil : AvAll K σ F [] []
  | val {v : V} {vs : List V} {d : D} {as : List AV} : Is K F v d → AvAll K σ F vs as → AvAll K σ F (v :: vs) (.val d :: as)
  | sl {a : Addr} {vs : List V} {i : Nat} {as : List AV} : σ[i]? = some (some (.ref a)) → AvAll K σ F vs as → AvAll K σ F (.ref a :: vs) (.sl i :: as)
theorem AvAll.up {K : PySem.W.Frag} {σ : L2.St} {F F' : Hp} (s : Sub F F') : ∀ {vs : List V} {as : List AV}, AvAll K σ F vs as → AvAll K σ F' vs as
  | _, _, .nil => .nil
  | _, _, .val h r => .val (h.up s) (r.up s)
  | _, _, .sl h r => .sl h (r.up s)
theorem AvAll.len {K : PySem.W.Frag} {σ : L2.St} {F : Hp} : ∀ {vs : List V} {as : List AV}, AvAll K σ F vs as → vs.length = as.length
  | _, _, .nil => rfl
  | _, _, .val _ r => by rw [List.length_cons, List.length_cons, AvAll.len r]
  | _, _, .sl _ r => by rw [List.length_cons, List.length_cons, AvAll.len r]
section
variable (C : Ct) (W : WX)
def tG (f : M (List AV)) : TA := fun σ H Q => ∃ F s, Rel C σ H F s ∧ Post C W σ F (f s) fun as _ H' F' => ∀ vs, AvAll C.K σ F' vs as → Q vs H'
/-- a datum, or a new thing of one's own -/
def tR (f : M RV) : TE := fun σ H Q => ∃ F s, Rel C σ H F s ∧ Post C W σ F (f s) fun rv s' H' F' => ∀ v, RetOk C F' H' v rv → (∀ a c, rv = .own c → v = .ref a → ∀ i, ¬ OwnAt σ s'.sl i a) → Q v H'
end
abbrev DG (X : Cx) (C : Ct) (W : WX) (es : List Expr) (f : M (List AV)) : Prop := PA X es (tG C W f)
abbrev DR (X : Cx) (C : Ct) (W : WX) (e : Expr) (f : M RV) : Prop := PE X e (tR C W f)
def gVal (f : M D) (fs : M (List AV)) : M (List AV) := mbind f fun d => mbind fs fun as => mret (.val d :: as)
def mcell (i : Nat) : M Cell := fun s => mopt (s.cell i) s
def gSl (i : Nat) (fs : M (List AV)) : M (List AV) := mbind (mcell i) fun _ => mbind fs fun as => mret (.sl i :: as)
def rD (f : M RV) : M D := mbind f fun rv => match rv with
  | .val d => mret d
  | .own c => mret c.d
def rO (f : M RV) : M Cell := mbind f fun rv => match rv with
  | .val _ => fun _ => .bad
  | .own c => mret c
section
variable {C : Ct} {W : WX} {X : Cx} {σ : L2.St} {H F H' F' : Hp} {s : S} {fa : M D} {a b e : Expr} {es : List Expr} {fs : M (List AV)} {fr : M RV} {pos p : Pos} {K : PySem.W.Frag}
theorem g_nil : DG X C W [] (mret []) := pa_imp pa_nil fun σ H Q ⟨F, s, r, q⟩ => q H F r (Sub.refl _) [] .nil
theorem g_val (ha : DE X C W a fa) (hr : DG X C W es fs) (hs : starEach (a :: es) X.env = (false, eval a X.env) :: starEach es X.env := by rfl) : DG X C W (a :: es) (gVal fa fs) := by
  refine pa_imp (pa_cons ha hr hs) fun σ H Q ⟨F, s, r, q⟩ => ⟨F, s, r, (Post.bind q).mono fun d s1 H1 F1 r1 u1 q1 x ix => ⟨F1, s1, r1, (Post.bind q1).mono fun ds s2 H2 F2 r2 u2 q2 xs ixs => ?_⟩⟩
  exact q2 H2 F2 r2 (Sub.refl _) _ (.val (ix.up u2) ixs)
theorem d_of_r (h : DR X C W e fr) : DE X C W e (rD fr) := by
  refine pe_imp h fun σ H Q ⟨F, s, r, q⟩ => ⟨F, s, r, (Post.bind q).mono fun rv s1 H1 F1 r1 u1 q1 v ret hno => ?_⟩
  cases rv with
  | val d => exact q1 H1 F1 r1 (Sub.refl _) v ret
  | own c =>
    obtain ⟨p, rfl, hF, h0, hc⟩ := ret
    have hp := hno p c rfl rfl
    obtain ⟨o, ho⟩ := hc.there
    have uf : Sub F1 (upd F1 p o) := fun b u e => by rw [upd_ne (ne_of_none e hF)]; exact e
    refine q1 H1 (upd F1 p o) ⟨fun b u e => ?_, r1.keep, fun b e => ?_, r1.len, fun j x e => ?_, r1.iol, fun j b c' e1 e2 => ⟨(r1.io j b c' e1 e2).1, (r1.io j b c' e1 e2).2.up uf fun _ z => z⟩, r1.ap, r1.inn, r1.nd, r1.s0, r1.tabs.up uf⟩ uf _ (hc.isd uf fun u e => by rw [upd_same]; rw [ho] at e; exact e)
    · by_cases q : b = p
      · subst q; rw [upd_same] at e; rw [ho]; exact e
      · rw [upd_ne q] at e; exact r1.sub _ _ e
    · rw [upd_ne fun z => e (by rw [z]; exact h0)]
      exact r1.f0 b e
    · have z := r1.slot j x e
      cases x with
      | no => trivial
      | val d => obtain ⟨v, z1, z2⟩ := z; exact ⟨v, z1, z2.up uf⟩
      | own c' =>
        obtain ⟨b, z1, z2, z3, z4⟩ := z
        have ne : b ≠ p := fun y => by
          subst y
          exact hp j ⟨z1, c', e⟩
        exact ⟨b, z1, by rw [upd_ne ne]; exact z2, z3, z4.up uf fun _ z => z⟩
      | io k => exact z
structure RelH (C : Ct) (σ : L2.St) (H F : Hp) (s : S) (hs : List Addr) : Prop where
  sub : Sub F H
  keep : ∀ a o, C.H0 a = some o → a ∉ C.A → Kept o (H a)
  f0 : ∀ a, C.H0 a ≠ none → F a = C.F0 a
  len : s.sl.length = σ.length
  slot : ∀ (i : Nat) (x : Sl), s.sl[i]? = some x → match x with
    | .no => True
    | .val d => ∃ v, σ[i]? = some (some v) ∧ Is C.K F v d
    | .own c => ∃ a, σ[i]? = some (some (.ref a)) ∧ F a = none ∧ C.H0 a = none ∧ (a ∈ hs ∨ CellAt C.K F H a c)
    | .io j => ∃ a, σ[i]? = some (some (.ref a)) ∧ C.A[j]? = some a
  iol : s.io.length = C.A.length
  io : ∀ (j : Nat) (a : Addr) (c : Cell), C.A[j]? = some a → s.io[j]? = some c → C.F0 a = none ∧ (a ∈ hs ∨ CellAt C.K F H a c)
  ap : ∀ (i j : Nat) (a : Addr), OwnAt σ s.sl i a → OwnAt σ s.sl j a → i = j
  inn : ∀ a ∈ C.A, C.H0 a ≠ none
  nd : C.A.Nodup
  s0 : S0 C
  tabs : TabsF C.K F H
theorem RelH.done (r : RelH C σ H F s []) : Rel C σ H F s := by
  refine ⟨r.sub, r.keep, r.f0, r.len, fun i x e => ?_, r.iol, fun j a c h1 h2 => ⟨(r.io j a c h1 h2).1, (r.io j a c h1 h2).2.elim (fun z => absurd z (by simp)) id⟩, r.ap, r.inn, r.nd, r.s0, r.tabs⟩
  have z := r.slot i x e
  cases x with
  | own c => obtain ⟨a, h1, h2, h3, h4⟩ := z; exact ⟨a, h1, h2, h3, h4.elim (fun z => absurd z (by simp)) id⟩
  | _ => exact z
theorem RelH.fill {hs : List Addr} {i : Nat} {p : Addr} {c c' : Cell} (r : RelH C σ H F s (p :: hs)) (hi : s.cell i = some c) (hp : σ[i]? = some (some (.ref p))) (hc : CellAt C.K F H p c') : RelH C σ H F (s.setCell i c') hs := by
  unfold S.cell at hi
  unfold S.setCell
  cases h1 : s.sl[i]? with
  | none => rw [h1] at hi; cases hi
  | some x =>
    rw [h1] at hi
    cases x with
    | no => cases hi
    | val d => cases hi
    | own c0 =>
      obtain ⟨p0, e1, e2, e3, _⟩ := r.slot i _ h1
      rw [hp] at e1
      cases e1
      refine ⟨r.sub, r.keep, r.f0, by show (s.sl.set i _).length = _; rw [List.length_set]; exact r.len, fun j x e => ?_, r.iol, fun j a c h3 h4 => ?_, fun j k b ⟨z1, c1, z2⟩ ⟨z3, c3, z4⟩ => ?_, r.inn, r.nd, r.s0, r.tabs⟩
      · rcases set_get (show (s.sl.set i (.own c'))[j]? = some x from e) with ⟨rfl, rfl, hl⟩ | ⟨hj, e⟩
        · exact ⟨p, hp, e2, e3, .inr hc⟩
        · have z := r.slot j x e
          cases x with
          | own c1 =>
            obtain ⟨b, y1, y2, y3, y4⟩ := z
            refine ⟨b, y1, y2, y3, y4.imp (fun m => ?_) id⟩
            rcases List.mem_cons.mp m with m | m
            · exact absurd (r.ap j i p ⟨by rw [← m]; exact y1, c1, e⟩ ⟨hp, c0, h1⟩) hj
            · exact m
          | _ => exact z
      · obtain ⟨y1, y2⟩ := r.io j a c h3 h4
        refine ⟨y1, y2.imp (fun m => ?_) id⟩
        rcases List.mem_cons.mp m with m | m
        · exact absurd e3 (by rw [← m]; exact r.inn a (List.mem_of_getElem? h3))
        · exact m
      · have key : ∀ {j : Nat} {c1 : Cell}, (s.sl.set i (.own c'))[j]? = some (.own c1) → ∃ c, s.sl[j]? = some (.own c) := fun {j c1} e => by
          rcases set_get e with ⟨rfl, _, _⟩ | ⟨_, e⟩
          · exact ⟨c0, h1⟩
          · exact ⟨c1, e⟩
        exact r.ap j k b ⟨z1, key z2⟩ ⟨z3, key z4⟩
    | io k =>
      obtain ⟨p0, e1, e2⟩ := r.slot i _ h1
      rw [hp] at e1
      cases e1
      have hi : s.io[k]? = some c := hi
      refine ⟨r.sub, r.keep, r.f0, r.len, fun j x e => ?_, by show (s.io.set k c').length = _; rw [List.length_set]; exact r.iol, fun j a c1 h3 h4 => ?_, r.ap, r.inn, r.nd, r.s0, r.tabs⟩
      · have z := r.slot j x e
        cases x with
        | own c1 =>
          obtain ⟨b, y1, y2, y3, y4⟩ := z
          refine ⟨b, y1, y2, y3, y4.imp (fun m => ?_) id⟩
          rcases List.mem_cons.mp m with m | m
          · exact absurd y3 (by rw [m]; exact r.inn p (List.mem_of_getElem? e2))
          · exact m
        | _ => exact z
      · rcases set_get (show (s.io.set k c')[j]? = some c1 from h4) with ⟨rfl, rfl, hl⟩ | ⟨hj, h4⟩
        · rw [e2] at h3
          cases h3
          exact ⟨(r.io _ _ c e2 hi).1, .inr hc⟩
        · obtain ⟨y1, y2⟩ := r.io j a c1 h3 h4
          refine ⟨y1, y2.imp (fun m => ?_) id⟩
          rcases List.mem_cons.mp m with m | m
          · subst m
            exact absurd ((List.getElem?_inj (List.getElem?_eq_some_iff.mp h3).1 r.nd).mp (h3.trans e2.symm)) hj
          · exact m
def gathA : Nat → List AV → List Sl
  | _, [] => []
  | k, .val d :: r => .val d :: gathA k r
  | k, .sl _ :: r => .io k :: gathA (k + 1) r
def gathI : List AV → List Nat
  | [] => []
  | .val _ :: r => gathI r
  | .sl i :: r => i :: gathI r
def cellsAt (s : S) : List Nat → Option (List Cell)
  | [] => some []
  | i :: r => (s.cell i).bind fun c => (cellsAt s r).map fun cs => c :: cs
def placeOf (s : S) (i : Nat) : Bool × Nat := match s.sl[i]? with
  | some (.io j) => (true, j)
  | _ => (false, i)
def notIn (p : Bool × Nat) (s : S) : List Nat → Bool
  | [] => true
  | i :: r => !(p == placeOf s i) && notIn p s r
/-- no thing twice -/
def apart (s : S) : List Nat → Bool
  | [] => true
  | i :: r => notIn (placeOf s i) s r && apart s r
def putAll (s : S) : List Nat → List Cell → S
  | i :: r, c :: cs => putAll (s.setCell i c) r cs
  | _, _ => s
/-- the addresses of the things -/
inductive Ads (σ : L2.St) : List Nat → List Addr → Prop
  | nil : Ads σ [] []
  | cons {i : Nat} {a : Addr} {is : List Nat} {A : List Addr} : σ[i]? = some (some (.ref a)) → Ads σ is A → Ads σ (i :: is) (a :: A)
theorem Ads.len : ∀ {is : List Nat} {A : List Addr}, Ads σ is A → is.length = A.length
  | _, _, .nil => rfl
  | _, _, .cons _ r => by rw [List.length_cons, List.length_cons, Ads.len r]
theorem avAll_ads : ∀ {vs : List V} {as : List AV}, AvAll K σ F vs as → ∃ A, Ads σ (gathI as) A ∧ ∀ (pre : List Addr) (i : Nat) (x : Sl), (gathA pre.length as)[i]? = some x → ∃ v, vs[i]? = some v ∧ ArgOk K F (pre ++ A) v x
  | _, _, .nil => ⟨[], .nil, fun _ _ _ h => by simp [gathA] at h⟩
  | _, _, .val h r => by
    obtain ⟨A, h1, h2⟩ := avAll_ads r
    refine ⟨A, h1, fun pre i x e => ?_⟩
    cases i with
    | zero => unfold gathA at e; simp at e; subst e; exact ⟨_, rfl, h⟩
    | succ i => unfold gathA at e; exact h2 pre i x (by simpa using e)
  | _, _, .sl (a := a) h r => by
    obtain ⟨A, h1, h2⟩ := avAll_ads r
    refine ⟨a :: A, .cons h h1, fun pre i x e => ?_⟩
    cases i with
    | zero => unfold gathA at e; simp at e; subst e; exact ⟨_, rfl, a, rfl, by simp⟩
    | succ i =>
      unfold gathA at e
      have := h2 (pre ++ [a]) i x (by rw [List.length_append]; simpa using e)
      rw [List.append_assoc] at this
      exact this
theorem cellsAt_len : ∀ {is : List Nat} {cs : List Cell}, cellsAt s is = some cs → cs.length = is.length
  | [], cs, h => by unfold cellsAt at h; cases h; rfl
  | i :: r, cs, h => by
    unfold cellsAt at h
    obtain ⟨c, _, h⟩ := Option.bind_eq_some_iff.mp h
    obtain ⟨cs', h3, rfl⟩ := Option.map_eq_some_iff.mp h
    rw [List.length_cons, List.length_cons, cellsAt_len h3]
/-- each is there, known to nobody -/
theorem cells_there (r : Rel C σ H F s) : ∀ {is : List Nat} {A : List Addr} {cs : List Cell}, Ads σ is A → cellsAt s is = some cs → (∀ (j : Nat) (a : Addr) (c : Cell), A[j]? = some a → cs[j]? = some c → F a = none ∧ CellAt C.K F H a c) ∧ ∀ a ∈ A, F a = none ∧ (C.H0 a = none ∨ a ∈ C.A) ∧ ∃ o, H a = some o
  | _, _, cs, .nil, h => ⟨fun _ _ _ e => by simp at e, fun _ z => by simp at z⟩
  | i :: is, p :: A, cs, .cons hp ha, h => by
    unfold cellsAt at h
    obtain ⟨c, hc, h⟩ := Option.bind_eq_some_iff.mp h
    obtain ⟨cs', h3, rfl⟩ := Option.map_eq_some_iff.mp h
    obtain ⟨k1, k2⟩ := cells_there r ha h3
    obtain ⟨a', e1, e2, e3, _⟩ := r.cell hc
    rw [hp] at e1
    cases e1
    refine ⟨fun j a c' h1 h2 => ?_, fun a m => ?_⟩
    · cases j with
      | zero => simp at h1 h2; subst h1 h2; exact ⟨e2, e3⟩
      | succ j => exact k1 j a c' (by simpa using h1) (by simpa using h2)
    · rcases List.mem_cons.mp m with rfl | m
      · refine ⟨e2, ?_, e3.there⟩
        unfold S.cell at hc
        split at hc
        · rename_i h1
          obtain ⟨b, z1, _, z3, _⟩ := r.slot i _ h1
          rw [hp] at z1; cases z1
          exact .inl z3
        · rename_i h1
          obtain ⟨b, z1, z2⟩ := r.slot i _ h1
          rw [hp] at z1; cases z1
          exact .inr (List.mem_of_getElem? z2)
        · cases hc
      · exact k2 a m
theorem place_addr (r : Rel C σ H F s) {i j : Nat} {a : Addr} {c c' : Cell} (hi : σ[i]? = some (some (.ref a))) (hj : σ[j]? = some (some (.ref a))) (ci : s.cell i = some c) (cj : s.cell j = some c') : placeOf s i = placeOf s j := by
  unfold S.cell at ci cj
  unfold placeOf
  cases h1 : s.sl[i]? with
  | none => rw [h1] at ci; cases ci
  | some x =>
    cases h2 : s.sl[j]? with
    | none => rw [h2] at cj; cases cj
    | some y =>
      rw [h1] at ci
      rw [h2] at cj
      cases x with
      | own c1 =>
        cases y with
        | own c2 => rw [r.ap i j a ⟨hi, c1, h1⟩ ⟨hj, c2, h2⟩]
        | io k =>
          obtain ⟨b, z1, _, z3, _⟩ := r.slot i _ h1
          obtain ⟨b', y1, y2⟩ := r.slot j _ h2
          rw [hi] at z1; cases z1
          rw [hj] at y1; cases y1
          exact absurd z3 (r.inn a (List.mem_of_getElem? y2))
        | _ => cases cj
      | io k =>
        cases y with
        | own c2 =>
          obtain ⟨b, z1, _, z3, _⟩ := r.slot j _ h2
          obtain ⟨b', y1, y2⟩ := r.slot i _ h1
          rw [hj] at z1; cases z1
          rw [hi] at y1; cases y1
          exact absurd z3 (r.inn a (List.mem_of_getElem? y2))
        | io k' =>
          obtain ⟨b, z1, z2⟩ := r.slot i _ h1
          obtain ⟨b', y1, y2⟩ := r.slot j _ h2
          rw [hi] at z1; cases z1
          rw [hj] at y1; cases y1
          rw [(List.getElem?_inj (List.getElem?_eq_some_iff.mp z2).1 r.nd).mp (z2.trans y2.symm)]
        | _ => cases cj
      | _ => cases ci
theorem ads_nodup (r : Rel C σ H F s) : ∀ {is : List Nat} {A : List Addr} {cs : List Cell}, Ads σ is A → cellsAt s is = some cs → apart s is = true → A.Nodup
  | _, _, _, .nil, _, _ => .nil
  | i :: is, p :: A, cs, .cons hp ha, h, hap => by
    unfold cellsAt at h
    obtain ⟨c, hc, h⟩ := Option.bind_eq_some_iff.mp h
    obtain ⟨cs', h3, rfl⟩ := Option.map_eq_some_iff.mp h
    unfold apart at hap
    rw [Bool.and_eq_true] at hap
    refine List.nodup_cons.mpr ⟨?_, ads_nodup r ha h3 hap.2⟩
    have key : ∀ {is : List Nat} {A : List Addr} {cs : List Cell}, Ads σ is A → cellsAt s is = some cs → notIn (placeOf s i) s is = true → p ∉ A := fun {is A cs} ha => by
      clear h h3 hap
      induction ha generalizing cs with
      | nil => intro _ _ m; simp at m
      | cons hq ha ih =>
        intro h hn m
        unfold cellsAt at h
        obtain ⟨c2, hc2, h⟩ := Option.bind_eq_some_iff.mp h
        obtain ⟨cs2, h4, rfl⟩ := Option.map_eq_some_iff.mp h
        unfold notIn at hn
        rw [Bool.and_eq_true] at hn
        rcases List.mem_cons.mp m with rfl | m
        · rw [place_addr r hp hq hc hc2] at hn
          simp at hn
        · exact ih h4 hn.2 m
    exact key ha h3 hap.1
theorem Rel.holes (r : Rel C σ H F s) {A : List Addr} {io : List Cell} (hA : ∀ a ∈ A, F a = none ∧ (C.H0 a = none ∨ a ∈ C.A) ∧ ∃ o, H a = some o) (f : After C.K F H A io H' F') : RelH C σ H' F' s A := by
  have there : ∀ a, C.H0 a ≠ none → H a ≠ none := fun a h => by
    cases q : C.H0 a with
    | none => exact absurd q h
    | some o =>
      by_cases m : a ∈ C.A
      · obtain ⟨j, hj⟩ := List.getElem?_of_mem m
        cases z : s.io[j]? with
        | none =>
          have l1 := List.getElem?_eq_none_iff.mp z
          have l2 : j < C.A.length := (List.getElem?_eq_some_iff.mp hj).1
          rw [r.iol] at l1
          omega
        | some c =>
          obtain ⟨o, ho⟩ := (r.io j a c hj z).2.there
          rw [ho]; exact fun z => nomatch z
      · exact (r.keep a o q m).ne
  have up : ∀ {a : Addr} {c : Cell}, CellAt C.K F H a c → a ∈ A ∨ CellAt C.K F' H' a c := fun {a c} h => by
    by_cases m : a ∈ A
    · exact .inl m
    · exact .inr (h.upK f.f fun o e => f.keep a o e m)
  refine ⟨f.sub, fun a o e m => (r.keep a o e m).trans fun u hu => f.keep a u hu fun z => ?_, fun a e => by rw [f.o a (there a e)]; exact r.f0 a e, r.len, fun i x e => ?_, r.iol, fun j a c h1 h2 => ⟨(r.io j a c h1 h2).1, up (r.io j a c h1 h2).2⟩, r.ap, r.inn, r.nd, r.s0, f.tabs⟩
  · rcases (hA a z).2.1 with y | y
    · rw [y] at e; cases e
    · exact m y
  · have z := r.slot i x e
    cases x with
    | no => trivial
    | val d => obtain ⟨v, z1, z2⟩ := z; exact ⟨v, z1, z2.up f.f⟩
    | own c =>
      obtain ⟨a, z1, z2, z3, z4⟩ := z
      obtain ⟨o, ho⟩ := z4.there
      exact ⟨a, z1, by rw [f.o a (by rw [ho]; exact fun z => nomatch z)]; exact z2, z3, up z4⟩
    | io k => exact z
theorem setCell_cell {i j : Nat} {c c' : Cell} (h : s.cell j = some c) : ∃ c2, (s.setCell i c').cell j = some c2 := by
  unfold S.setCell
  unfold S.cell at h ⊢
  cases h1 : s.sl[i]? with
  | none =>
    refine ⟨c, ?_⟩
    show (match (s.sl.set i (.own c'))[j]? with | some (.own c) => some c | some (.io k) => s.io[k]? | _ => none) = _
    rw [List.set_eq_of_length_le (List.getElem?_eq_none_iff.mp h1)]
    exact h
  | some x =>
    have own : ∃ c2, (match (s.sl.set i (.own c'))[j]? with | some (.own c) => some c | some (.io k) => s.io[k]? | _ => none) = some c2 := by
      by_cases e : i = j
      · subst e
        rw [List.getElem?_set_self (List.getElem?_eq_some_iff.mp h1).1]
        exact ⟨c', rfl⟩
      · rw [List.getElem?_set_ne e]
        exact ⟨c, h⟩
    cases x with
    | io k =>
      show ∃ c2, (match s.sl[j]? with | some (.own c) => some c | some (.io k') => (s.io.set k c')[k']? | _ => none) = some c2
      cases h2 : s.sl[j]? with
      | none => rw [h2] at h; cases h
      | some y =>
        rw [h2] at h
        cases y with
        | own c1 => exact ⟨c1, rfl⟩
        | io k' =>
          have h : s.io[k']? = some c := h
          show ∃ c2, (s.io.set k c')[k']? = some c2
          by_cases e : k = k'
          · subst e
            rw [List.getElem?_set_self (List.getElem?_eq_some_iff.mp h).1]
            exact ⟨c', rfl⟩
          · rw [List.getElem?_set_ne e]; exact ⟨c, h⟩
        | _ => cases h
    | _ => exact own
theorem setCell_own {i j : Nat} {c' c2 : Cell} {c : Cell} (hi : s.cell i = some c) (h : (s.setCell i c').sl[j]? = some (.own c2)) : ∃ c3, s.sl[j]? = some (.own c3) := by
  unfold S.setCell at h
  unfold S.cell at hi
  cases h1 : s.sl[i]? with
  | none => rw [h1] at hi; cases hi
  | some x =>
    rw [h1] at h hi
    cases x with
    | io k => exact ⟨c2, h⟩
    | own c4 =>
      rcases set_get (show (s.sl.set i (.own c'))[j]? = some (.own c2) from h) with ⟨rfl, _, _⟩ | ⟨_, e⟩
      · exact ⟨c4, h1⟩
      · exact ⟨c2, e⟩
    | _ => cases hi
theorem RelH.all : ∀ {is : List Nat} {A : List Addr} {cs cs' : List Cell} {s : S}, RelH C σ H F s A → Ads σ is A → (∀ i ∈ is, ∃ c, s.cell i = some c) → cs'.length = A.length → (∀ (j : Nat) (a : Addr) (c : Cell), A[j]? = some a → cs'[j]? = some c → CellAt C.K F H a c) →
    Rel C σ H F (putAll s is cs') ∧ ∀ (j : Nat) (c : Cell), (putAll s is cs').sl[j]? = some (Sl.own c) → ∃ c' : Cell, s.sl[j]? = some (Sl.own c')
  | _, _, cs, cs', s, r, .nil, _, hl, _ => by
    cases cs' with
    | cons _ _ => simp at hl
    | nil => exact ⟨r.done, fun j c h => ⟨c, h⟩⟩
  | i :: is, p :: A, cs, cs', s, r, .cons hp ha, hc, hl, hio => by
    cases cs' with
    | nil => simp at hl
    | cons c' cs' =>
      obtain ⟨c0, h0⟩ := hc i (by simp)
      have r2 := r.fill h0 hp (hio 0 p c' rfl rfl)
      obtain ⟨k1, k2⟩ := RelH.all (cs := []) (cs' := cs') r2 ha (fun j m => by
        obtain ⟨c, h⟩ := hc j (List.mem_cons_of_mem _ m)
        exact setCell_cell h) (by simpa using hl) (fun j a c h1 h2 => hio (j + 1) a c (by simpa using h1) (by simpa using h2))
      exact ⟨k1, fun j c h => by
        obtain ⟨c1, h1⟩ := k2 j c h
        exact setCell_own h0 h1⟩
theorem cellsAt_mem : ∀ {is : List Nat} {cs : List Cell}, cellsAt s is = some cs → ∀ i ∈ is, ∃ c, s.cell i = some c
  | [], _, _, i, m => by simp at m
  | j :: is, cs, h, i, m => by
    unfold cellsAt at h
    obtain ⟨c, hc, h⟩ := Option.bind_eq_some_iff.mp h
    obtain ⟨cs', h, _⟩ := Option.map_eq_some_iff.mp h
    rcases List.mem_cons.mp m with rfl | m
    · exact ⟨c, hc⟩
    · exact cellsAt_mem h i m
/-- the call itself: r of the arguments; what was handed in is as r says -/
def runFn (r : Fn) (dds : List D) (as : List AV) : M RV := fun s => match cellsAt s (gathI as) with
  | some cs => if apart s (gathI as) = true then (match r (gathA 0 as ++ dds.map .val) cs with
    | .rt v io => .ok v (putAll s (gathI as) io)
    | .exc c fs io => .exc c fs (putAll s (gathI as) io)
    | .bad => .bad) else .bad
  | none => .bad
theorem run_sp {np : Nat} {r : Fn} {dds : List D} {dvs : List V} {as : List AV} {vs : List V} {Q : VK} {E : XK} (hd : ∀ F, IsAll C.K F dvs dds) (hr : Rel C σ H F s) (hv : AvAll C.K σ F vs as) (hn : (vs ++ dvs).length = np)
    (q : Post C (wx E) σ F (runFn r dds as s) fun (rv : RV) s' H' F' => ∀ v, RetOk C F' H' v rv → (∀ a c, rv = .own c → v = .ref a → ∀ i, ¬ OwnAt σ s'.sl i a) → Q v H') : spD C.K np r (vs ++ dvs) H Q E := by
  unfold runFn at q
  cases hc : cellsAt s (gathI as) with
  | none => rw [hc] at q; exact q.elim
  | some cs =>
    rw [hc] at q
    by_cases hap : apart s (gathI as) = true
    · have q : Post C (wx E) σ F (if apart s (gathI as) = true then (match r (gathA 0 as ++ dds.map .val) cs with
        | .rt v io => .ok v (putAll s (gathI as) io)
        | .exc c fs io => .exc c fs (putAll s (gathI as) io)
        | .bad => .bad) else .bad) _ := q
      rw [if_pos hap] at q
      obtain ⟨A, hA, hargs⟩ := avAll_ads hv
      obtain ⟨k1, k2⟩ := cells_there hr hA hc
      have hAd := ads_nodup hr hA hc hap
      have hlen : (gathA 0 as).length = vs.length := by
        rw [hv.len]
        have : ∀ (as : List AV) (k : Nat), (gathA k as).length = as.length := by
          intro as
          induction as with
          | nil => intro k; rfl
          | cons x r ih => intro k; cases x <;> (unfold gathA; rw [List.length_cons, List.length_cons, ih])
        exact this as 0
      refine ⟨F, A, gathA 0 as ++ dds.map .val, cs, ⟨hr.sub, hAd, fun a m => ?_, by rw [cellsAt_len hc, hA.len], k1, ?_, fun i x e => ?_, hr.tabs, hr.tf0⟩, ?_, ?_⟩
      · obtain ⟨_, _, o, ho⟩ := k2 a m
        rw [ho]; exact fun z => nomatch z
      · rw [List.length_append, List.length_append, hlen, List.length_map, (hd F).len]
      · by_cases hi : i < (gathA 0 as).length
        · rw [List.getElem?_append_left hi] at e
          obtain ⟨v, h1, h2⟩ := hargs [] i x e
          exact ⟨v, by rw [List.getElem?_append_left (by rw [← hlen]; exact hi)]; exact h1, h2⟩
        · rw [List.getElem?_append_right (by omega), List.getElem?_map] at e
          obtain ⟨d, e1, rfl⟩ := Option.map_eq_some_iff.mp e
          obtain ⟨v, h1, h2⟩ := (hd F).get e1
          exact ⟨v, by rw [List.getElem?_append_right (by omega), ← hlen]; exact h1, h2⟩
      · rw [List.length_append, List.length_map, hlen, ← hn, List.length_append, (hd F).len]
      · cases hf : r (gathA 0 as ++ dds.map .val) cs with
        | bad => rw [hf] at q; exact q.elim
        | rt rv io =>
          rw [hf] at q
          intro v H' F' af ret
          obtain ⟨r2, own2⟩ := RelH.all (cs := cs) (hr.holes k2 af) hA (cellsAt_mem hc) af.iol af.io
          refine q H' F' r2 af.f v ?_ fun a c e1 e2 i ⟨z1, c1, z2⟩ => ?_
          · cases rv with
            | val d => exact ret
            | own c =>
              obtain ⟨a, e1, e2, e3, e4⟩ := ret
              exact ⟨a, e1, e2, hr.newH e3, e4⟩
          · subst e1 e2
            obtain ⟨a', e1, e2, e3, e4⟩ := ret
            cases e1
            obtain ⟨c', z3⟩ := own2 i c1 z2
            exact hr.newO e3 i ⟨z1, c', z3⟩
        | exc c fs io =>
          rw [hf] at q
          intro a H' F' af x
          obtain ⟨r2, own2⟩ := RelH.all (cs := cs) (hr.holes k2 af) hA (cellsAt_mem hc) af.iol af.io
          exact q a H' F' r2 af.f x
    · have q : Post C (wx E) σ F (if apart s (gathI as) = true then (match r (gathA 0 as ++ dds.map .val) cs with
        | .rt v io => .ok v (putAll s (gathI as) io)
        | .exc c fs io => .exc c fs (putAll s (gathI as) io)
        | .bad => .bad) else .bad) _ := q
      rw [if_neg hap] at q
      exact q.elim
def mCall (np : Nat) (r : Fn) (dds : List D) (fs : M (List AV)) : M RV := mbind fs fun as => if as.length + dds.length = np then runFn r dds as else fun _ => .bad
theorem run_fng {gd : Bool} {CX : CXT} {k : Nat} {f : Addr} {fd : FuncData} {ps : List Str} {sp : Sp} {E : XK} {dvs : List V} {ds : List Value} {pins : List (Addr × Obj)} {Q : VK} {us : List Value} {vs : List V} {s : Shared} (F : FnG gd X.prog X.w X.K X.mg X.base CX k f fd ps sp) (hgd : gd = true → X.A.guards = some []) (hr : Room k X.A) (hb : Binds X.K fd ps ds) (hd : Vals dvs ds) (hx : Passes CX X E)
    (I : Inv X pins σ H s) (r : Vals vs us) (h : sp (vs ++ dvs) H Q E) : wpAny (model X.prog X.w) X.A (call (.ref f) us) (EP X pins σ Q) X.xe s := by
  have r2 : Vals (vs ++ dvs) (us ++ ds) := r.append hd
  have hl : (us ++ ds).length = ps.length := by rw [← r2.length]; exact F.len _ _ _ _ h
  refine wpAny_call (codeAny_mono (F.run X.A X.stack s H ⟨us, []⟩ (us ++ ds) (vs ++ dvs) Q E hgd hr I.env0 (hb s us I.kIn hl) r2 h) fun r s' hq => ?_)
  cases r with
  | error e => exact hx pins σ H s e s' I hq
  | ok fl =>
    cases fl with
    | ret u => exact I.after hq
    | next => exact False.elim hq
    | brk => exact False.elim hq
    | cont => exact False.elim hq
/-- a def that may be called by its name -/
structure CallOk (gd : Bool) (P : Program) (w : World) (K : PySem.W.Frag) (mg : Str → Option Value) (base : Heap) (k : Nat) (x : Str) (np : Nat) (dds : List D) (r : Fn) : Prop where
  ex : ∃ (f : Addr) (fd : FuncData) (ps : List Str) (ds : List Value) (dvs : List V), mg x = some (.ref f) ∧ PySem.W.keepIn K (.ref f) = true ∧ Binds K fd ps ds ∧ Vals dvs ds ∧ (∀ F, IsAll K F dvs dds) ∧ ps.length = np ∧ FnG gd P w K mg base (L2.CX P w) k f fd ps (spD K np r)
theorem r_call {gd : Bool} {k : Nat} {x : Str} {np : Nat} {dds : List D} {r : Fn} {E : XK} {p pos : Pos} (hK : C.K = X.K) (F : CallOk gd X.prog X.w X.K X.mg X.base k x np dds r) (hgd : gd = true → X.A.guards = some []) (hr : Room k X.A) (hg : Gl X x) (hx : Passes (L2.CX X.prog X.w) X E)
    (ha : DG X C (wx E) (e :: es) fs) (hdb : (x == ("__debug__" : Str)) = false := by decide) (he : starEach (e :: es) X.env = (false, eval e X.env) :: starEach es X.env := by rfl) (hpl : (backTo pos (starEach es X.env)).any (·.1) = false := by rfl) :
    DR X C (wx E) (.Call (.Name x p) (e :: es) [] pos) (mCall np r dds fs) := by
  obtain ⟨f, fd, ps, ds, dvs, hm, hk, hb, hd, hdd, hps, F⟩ := F.ex
  refine ⟨fun pins s σ H Q I h => ?_⟩
  obtain ⟨F0, s0, r0, q0⟩ := h
  refine wpAny_Call_Name_kw (ld_glob I hg hm ?_ hdb)
  refine PySem.W.callWith_K (h₀ := X.base) I.ok.mod.kin hk (thn (ha.run pos pins s σ H (fun vs H1 => spD X.K np r (vs ++ dvs) H1 Q E) I ⟨F0, s0, r0, (Post.bind q0).mono fun as s1 H1 F1 r1 u1 q1 vs hv => ?_⟩) fun us s1 ⟨vs, H1, I1, r, q⟩ => ⟨I1.kIn, ?_⟩) he hpl
  · rw [← hK]
    by_cases hl : as.length + dds.length = np
    · rw [if_pos hl] at q1
      exact run_sp (fun F => by rw [hK]; exact hdd F) r1 hv (by rw [List.length_append, hv.len, (hdd F1).len]; exact hl) q1
    · rw [if_neg hl] at q1
      exact q1.elim
  · exact run_fng F hgd hr hb hd hx I1 r q
end
end DL
set_option maxHeartbeats 2000000
namespace DL
open PySem PySem.Spec PyProof.Rows L2
/-- a value and things of one's own, side by side -/
inductive RvAll (C : Ct) (σ : L2.St) (F H : Hp) (sl : List Sl) : List V → List RV → List Addr → Prop
  | nil : RvAll C σ F H sl [] [] []
  | val {v : V} {vs : List V} {d : D} {rs : List RV} {A : List Addr} : Is C.K F v d → RvAll C σ F H sl vs rs A → RvAll C σ F H sl (v :: vs) (.val d :: rs) A
  | own {a : Addr} {vs : List V} {c : Cell} {rs : List RV} {A : List Addr} : F a = none → C.H0 a = none → CellAt C.K F H a c → (∀ i, ¬ OwnAt σ sl i a) → a ∉ A → RvAll C σ F H sl vs rs A → RvAll C σ F H sl (.ref a :: vs) (.own c :: rs) (a :: A)
section
variable (C : Ct) (W : WX)
def tRs (f : M (List RV)) : TA := fun σ H Q => ∃ F s, Rel C σ H F s ∧ Post C W σ F (f s) fun rs s' H' F' => ∀ vs A, RvAll C σ F' H' s'.sl vs rs A → Q vs H'
end
abbrev DRs (X : Cx) (C : Ct) (W : WX) (es : List Expr) (f : M (List RV)) : Prop := PA X es (tRs C W f)
def rsVal (f : M D) (fs : M (List RV)) : M (List RV) := mbind f fun d => mbind fs fun rs => mret (.val d :: rs)
def putRs : List Nat → List RV → S → Option S
  | [], [], s => some s
  | i :: is, .val d :: rs, s => putRs is rs (s.put i (.val d))
  | i :: is, .own c :: rs, s => putRs is rs (s.put i (.own c))
  | _, _, _ => none
def putσ : List Nat → List V → L2.St → L2.St
  | i :: is, v :: vs, σ => putσ is vs (σ.set i (some v))
  | _, _, σ => σ
section
variable {C : Ct} {W : WX} {X : Cx} {σ : L2.St} {H F H' F' : Hp} {s : S} {fa fb : M D} {fo : M Cell} {a b c e tg : Expr} {es : List Expr} {fs : M (List RV)} {pos p apos : Pos} {K : PySem.W.Frag} {x : Str}
theorem rs_nil : DRs X C W [] (mret []) := pa_imp pa_nil fun σ H Q ⟨F, s, r, q⟩ => q H F r (Sub.refl _) [] [] .nil
theorem rs_val (ha : DE X C W a fa) (hr : DRs X C W es fs) (hs : starEach (a :: es) X.env = (false, eval a X.env) :: starEach es X.env := by rfl) : DRs X C W (a :: es) (rsVal fa fs) := by
  refine pa_imp (pa_cons ha hr hs) fun σ H Q ⟨F, s, r, q⟩ => ⟨F, s, r, (Post.bind q).mono fun d s1 H1 F1 r1 u1 q1 x ix => ⟨F1, s1, r1, (Post.bind q1).mono fun ds s2 H2 F2 r2 u2 q2 xs A ixs => ?_⟩⟩
  exact q2 H2 F2 r2 (Sub.refl _) _ A (.val (ix.up u2) ixs)
theorem RvAll.less {a : Addr} (n0 : C.H0 a = none) {sl : List Sl} : ∀ {vs : List V} {rs : List RV} {A : List Addr}, RvAll (C.more a) σ F H sl vs rs A → RvAll C σ F H sl vs rs A ∧ a ∉ A
  | _, _, _, .nil => ⟨.nil, by simp⟩
  | _, _, _, .val h r => let ⟨k1, k2⟩ := RvAll.less n0 r; ⟨.val h k1, k2⟩
  | _, _, _, .own (a := b) h1 h2 h3 h4 h5 r => by
    obtain ⟨k1, k2⟩ := RvAll.less n0 r
    have h2 : upd C.H0 a (.lst []) b = none := h2
    have ne : a ≠ b := fun z => by rw [z, upd_same] at h2; cases h2
    rw [upd_ne (Ne.symm ne)] at h2
    exact ⟨.own h1 h2 h3 h4 h5 k1, by simp only [List.mem_cons, not_or]; exact ⟨ne, k2⟩⟩
theorem putRs_rel : ∀ {is : List Nat} {vs : List V} {rs : List RV} {A : List Addr} {σ : L2.St} {s s' : S}, Rel C σ H F s → RvAll C σ F H s.sl vs rs A → putRs is rs s = some s' → Rel C (putσ is vs σ) H F s' ∧ is.length = vs.length
  | [], _, _, _, σ, s, s', r, .nil, e => by unfold putRs at e; cases e; exact ⟨r, rfl⟩
  | _ :: _, _, _, _, σ, s, s', r, .nil, e => by unfold putRs at e; cases e
  | [], _, _, _, σ, s, s', r, .val _ _, e => by unfold putRs at e; cases e
  | [], _, _, _, σ, s, s', r, .own .., e => by unfold putRs at e; cases e
  | i :: is, _, _, _, σ, s, s', r, .val (v := v) (d := d) h rr, e => by
    unfold putRs at e
    have key : ∀ {vs : List V} {rs : List RV} {A : List Addr}, RvAll C σ F H s.sl vs rs A → RvAll C (σ.set i (some v)) F H (s.put i (.val d)).sl vs rs A := fun {vs rs A} rr => by
      induction rr with
      | nil => exact .nil
      | val h _ ih => exact .val h ih
      | own h1 h2 h3 h4 h5 _ ih =>
        refine .own h1 h2 h3 (fun j ⟨z1, c, z2⟩ => ?_) h5 ih
        rcases set_get (show (s.sl.set i (.val d))[j]? = some (.own c) from z2) with ⟨_, z, _⟩ | ⟨hj, z2⟩
        · cases z
        · rw [List.getElem?_set_ne (Ne.symm hj)] at z1
          exact h4 j ⟨z1, c, z2⟩
    obtain ⟨k1, k2⟩ := putRs_rel (r.putV h) (key rr) e
    exact ⟨k1, by rw [List.length_cons, List.length_cons, k2]⟩
  | i :: is, _, _, _, σ, s, s', r, .own (a := a) (c := c) (A := A) h1 h2 h3 h4 h5 rr, e => by
    unfold putRs at e
    have key : ∀ {vs : List V} {rs : List RV} {A : List Addr}, RvAll C σ F H s.sl vs rs A → a ∉ A → RvAll C (σ.set i (some (.ref a))) F H (s.put i (.own c)).sl vs rs A := fun {vs rs A} rr hn => by
      induction rr with
      | nil => exact .nil
      | val h _ ih => exact .val h (ih hn)
      | own h1 h2 h3 h4 h5 _ ih =>
        simp only [List.mem_cons, not_or] at hn
        refine .own h1 h2 h3 (fun j ⟨z1, c', z2⟩ => ?_) h5 (ih hn.2)
        rcases set_get (show (s.sl.set i (.own c))[j]? = some (.own c') from z2) with ⟨rfl, z, hl⟩ | ⟨hj, z2⟩
        · rw [List.getElem?_set_self (by rw [← r.len]; exact hl)] at z1
          cases z1
          exact hn.1 rfl
        · rw [List.getElem?_set_ne (Ne.symm hj)] at z1
          exact h4 j ⟨z1, c', z2⟩
    obtain ⟨k1, k2⟩ := putRs_rel (r.putO h4 h2 h1 h3) (key rr h5) e
    exact ⟨k1, by rw [List.length_cons, List.length_cons, k2]⟩
def sPar (is : List Nat) (fs : M (List RV)) : S → Out := sOf fs fun rs s => match putRs is rs s with
  | some s' => .nx s'
  | none => .bad
theorem sPar_post {is : List Nat} {nx : L2.St → Hp → Prop} {rt : VK} {bk ct : L2.St → Hp → Prop} (q : PostS C W F (sPar is fs s) nx rt bk ct) : Post C W σ F (fs s) fun rs s' H' F' => ∀ vs A, RvAll C σ F' H' s'.sl vs rs A → Rel C σ H' F' s' → is.length = vs.length ∧ nx (putσ is vs σ) H' := by
  refine (post_of q).mono fun rs s1 H1 F1 r1 u1 q1 vs A rv r => ?_
  cases h : putRs is rs s1 with
  | none => rw [h] at q1; exact q1.elim
  | some s2 =>
    rw [h] at q1
    obtain ⟨k1, k2⟩ := putRs_rel r rv h
    exact ⟨k2, q1 _ _ _ k1 (Sub.refl _)⟩
/-- a, b = x, y -/
theorem ds_par2 {i j : Nat} {x y : Str} {px py pt : Pos} {kt k2 : Nat} {pt2 : Pos} (hc : X.calm = true) (n1 : Nm X i x) (n2 : Nm X j y) (hij : i ≠ j)
    (hx : X.env.scope.names.lookup x = some .local) (hy : X.env.scope.names.lookup y = some .local) (ha : DRs X C W [a, b] fs)
    (hw : swappedStores [.Tuple [.Name x px, .Name y py] kt pt] (.Tuple [a, b] k2 pt2) X.env = pure (some [x, y]) := by rfl)
    (hs : swapsWithSole [.Tuple [.Name x px, .Name y py] kt pt] (.Tuple [a, b] k2 pt2) pos.line X.env = pure false := by rfl) :
    DS X C W (.Assign [.Tuple [.Name x px, .Name y py] kt pt] (.Tuple [a, b] k2 pt2) pos) (sPar [i, j] fs) := by
  refine ps_imp (ps_par hc n1.nd n1.ix n2.ix hij hx hy ha hw hs) fun E σ H ⟨F, s, r, q⟩ => ⟨F, s, r, (sPar_post q).mono fun rs s1 H1 F1 r1 u1 q1 vs A rv => ?_⟩
  obtain ⟨hl, q2⟩ := q1 vs A rv r1
  match vs, hl, q2 with
  | [v, w], _, q2 => exact ⟨v, w, rfl, q2⟩
def sAsg (f : M D) (pt : Pat) : S → Out := sOf f fun d s => match pt.bind d s with
  | some s' => .nx s'
  | none => .bad
theorem ds_setLc {i : Nat} {y : Str} {py : Pos} {elt tg iter : Expr} {ifs : List Expr} {scope : Scope} {own : List (Str × Nat)} {spos : Pos} {fi : M (List D)} {pt : Pat} {t : M Bool} {fe : M D} (hK : C.K = X.K) (hc : X.calm = true) (n : Nm X i y) (hyl : X.env.scope.names.lookup y = some .local)
    (hsw : swapsWith (.ListComp elt [⟨tg, iter, ifs, 0⟩] scope pos) (some (.Name y py)) spos.line X.env = pure true) (hi : DI X C W tg iter fi) (ok : BlkOk X.N X.env.scope scope own) (hpt : pt.inn (own.map (·.2)) = true)
    (hg : Blk X scope fun Y => PG Y tg (pt.g X.K)) (ht : ∀ C' : Ct, C'.K = X.K → Blk X scope fun Y => DTs Y C' WN ifs t) (he : ∀ C' : Ct, C'.K = X.K → Blk X scope fun Y => DE Y C' WN elt fe)
    (hs : ∀ x, foldedSetIterable iter X.env x = pure x := by intro _; rfl) : DS X C W (.Assign [.Name y py] (.ListComp elt [⟨tg, iter, ifs, 0⟩] scope pos) spos) (sSetO i (oLc (own.map (·.2)) fi pt t fe)) := by
  refine ps_imp (ps_setLc hc n.nd n.ix hyl hsw hi ok hg (fun s H c cl fp => dts_x fun C' e => ht C' e s H c cl fp) (fun s H c cl fp => d_x fun C' e => he C' e s H c cl fp) hs) fun E σ H ⟨F, s, r, q⟩ => ?_
  rw [← hK]
  refine lc_tLc (Q := fun x H1 => gName i x σ H1 E.nx) hK hpt ⟨F, s, r, Post.bind (post_of q)⟩ fun ys s2 H' F' a r2 nF n0 hc nO k => ?_
  exact k H' F' r2 (Sub.refl _) H' F' r2 (Sub.refl _) _ _ _ (r2.putO nO n0 nF hc) (Sub.refl _)
def sSetIx (i : Nat) (fk fe : M D) : S → Out := sOf fe fun d => sOf (mbind (mcell i) fun _ => fk) fun k s => match s.cell i, k with
  | some (.lst ds), .int n => (match ixN ds.length n with
    | some j => .nx (s.setCell i (.lst (ds.set j d)))
    | none => .bad)
  | _, _ => .bad
def sSetF (i : Nat) (cn f : Str) (fe : M D) : S → Out := sOf fe fun d s => match s.cell i with
  | some (.ins c' fs) => if c' = cn ∧ fs.length < 1000 then .nx (s.setCell i (.ins c' (putD f d fs))) else .bad
  | _ => .bad
end
end DL
set_option maxHeartbeats 2000000
namespace DL
open PySem PySem.Spec PyProof.Rows L2
section
variable {C : Ct} {W : WX} {X : Cx} {σ : L2.St} {H F H' F' : Hp} {s : S} {fa fb : M D} {a b e o : Expr} {es : List Expr} {fs : M (List AV)} {fr : M RV} {pos p apos : Pos} {K : PySem.W.Frag} {x m : Str}
def flatD : D → Option D
  | .non => some .non
  | .bl b => some (.bl b)
  | .int i => some (.int i)
  | .str z => some (.str z)
  | _ => none
/-- a op slot's thing -/
def binP (g : D → D → Option D) (fa : M D) (i : Nat) : M D := mbind fa fun d => mbind (mpeek i) fun e => mopt ((g d e).bind flatD)
def runMake (cn : Str) (r : Fn) (dds : List D) (as : List AV) : M RV := fun s => match cellsAt s (gathI as) with
  | some cs => if apart s (gathI as) = true then (match r (.io 0 :: (gathA 1 as ++ dds.map .val)) (.ins cn [] :: cs) with
    | .rt (.val .non) (c :: io) => .ok (.own c) (putAll s (gathI as) io)
    | .exc c fs (_ :: io) => .exc c fs (putAll s (gathI as) io)
    | _ => .bad) else .bad
  | none => .bad
def mMake (np : Nat) (cn : Str) (r : Fn) (dds : List D) (fs : M (List AV)) : M RV := mbind fs fun as => if as.length + dds.length + 1 = np then runMake cn r dds as else fun _ => .bad
def insOf (cn m : Str) : D → Bool
  | .ins c fs => decide (c = cn) && (fs.lookup m).isNone
  | _ => false
/-- the object: a datum -/
def recvD (cn m : Str) (fo : M D) : M AV := mbind fo fun d => if insOf cn m d = true then mret (.val d) else fun _ => .bad
/-- .. a slot's own thing, to be changed -/
def recvS (cn m : Str) (i : Nat) : M AV := mbind (mcell i) fun c => if insOf cn m c.d = true then mret (.sl i) else fun _ => .bad
def mMeth (np : Nat) (r : Fn) (dds : List D) (fo : M AV) (fs : M (List AV)) : M RV := mbind fo fun o => mbind fs fun as => if as.length + dds.length + 1 = np then runFn r dds (o :: as) else fun _ => .bad
def noExc {α : Type} (f : M α) : M α := fun s => match f s with
  | .ok a s' => .ok a s'
  | _ => .bad
def mProp (r : Fn) (fo : M AV) : M RV := mbind fo fun o => noExc (runFn r [] [o])
end
end DL
set_option maxHeartbeats 2000000
namespace DL
open PySem PySem.Spec PyProof.Rows L2
section
variable {C : Ct} {W : WX} {X : Cx} {σ : L2.St} {H F H' F' : Hp} {s : S} {fa fb : M D} {a b e o : Expr} {es : List Expr} {fs : M (List AV)} {fr : M RV} {pos p apos : Pos} {K : PySem.W.Frag} {x m : Str} {st : Stmt} {sts : List Stmt}
theorem pg_nm {i : Nat} (n : Nm X i x) : PG X (.Name x pos) ((Pat.nm i).g X.K) := by
  unfold Pat.g
  exact pg_name n.nd n.ix n.lo n.fn
structure Cst (K : PySem.W.Frag) (mg : Str → Option Value) (x : Str) (d : D) : Prop where
  ex : ∃ (u : Value) (v : V), mg x = some u ∧ RelV v u ∧ ∀ F, Is K F v d
theorem d_cst {n : Str} {d : D} (hK : C.K = X.K) (h : Cst X.K X.mg n d) (hg : Gl X n := by rfl) (hd : (n == ("__debug__" : Str)) = false := by decide) : DE X C W (.Name n pos) (mret d) := by
  obtain ⟨u, v, h1, h2, h3⟩ := h.ex
  exact d_glob h1 h2 (fun F => by rw [hK]; exact h3 F) hg hd
theorem d_ty {T : String} (hm : X.mg x = none) (hv : bootBuiltins x = some (.type T)) (hg : Gl X x := by rfl) (hn : x ≠ "__name__" := by decide) (hd : (x == ("__debug__" : Str)) = false := by decide) : DE X C W (.Name x pos) (mret (.ty T)) :=
  d_const (pe_bltn (v := .ty T) hg hm hv rfl hn hd) fun _ _ => .ty T
def tyN : D → Option String
  | .non => some "NoneType"
  | .bl _ => some "bool"
  | .int _ => some "int"
  | .str _ => some "str"
  | .tup _ => some "tuple"
  | .lst _ => some "list"
  | .dic _ => some "dict"
  | _ => none
def isiT (cls : List Str) : D → D → Option Bool
  | .ins c _, .glo n => if cls.contains c && cls.contains n then some (decide (c = n)) else none
  | .ins c _, .ty t => if cls.contains c && tys.contains t then some false else none
  | d, .glo n => if cls.contains n then (tyN d).map fun _ => false else none
  | d, .ty t => if tys.contains t then (tyN d).bind fun u => kitB u t else none
  | _, _ => none
def isiC (cls : List Str) : List D → Option D
  | [d, e] => (isiT cls d e).map .bl
  | _ => none
structure Isi (K : PySem.W.Frag) (cls : List Str) : Prop where
  ok : isiB K cls = true
def sRetR (f : M RV) : S → Out := sOf f fun rv s => .rt rv s
theorem ds_retR (h : DR X C W e fr) : DS X C W (.Return (some e) pos) (sRetR fr) :=
  ps_imp (ps_ret h) fun E σ H ⟨F, s, r, q⟩ => ⟨F, s, r, (post_of q).mono fun rv s1 H1 F1 r1 u1 q1 v iv _ => q1 v σ H1 F1 r1 (Sub.refl _) iv⟩
end
abbrev Bx (P : Program) (w : World) (K : PySem.W.Frag) (mg : Str → Option Value) (base : Heap) (N : List Str) (qual : Str) (scope : Scope) (f : Addr) (cdv : Value) (A : Around) (outer : List Env) (s : Shared) (H : Hp) (E : XK) : Cx := cxOf (L2.CX P w) P w K mg base N qual scope f cdv A outer s H E
theorem FunD.g {P : Program} {w : World} {K : PySem.W.Frag} {mg : Str → Option Value} {base : Heap} {gd : Bool} {x qual : Str} {params : Arguments} {body : List Stmt} {scope : Scope} {dvs : List V} {kws : List (Str × V)} {f : Addr} {fd : FuncData} {N ps : List Str} {k : Nat} {g : S → Out} (F : FunD K x qual params body scope dvs kws f fd) (S : FnScope N ps scope)
    (hbody : ∀ (cdv : Value) (A : Around) (outer : List Env) (s : Shared) (H : Hp) (E : XK) (C : Ct), (gd = true → (A.deeper (envOfC qual scope s.heap.objs.size f cdv)).guards = some []) → Room k (A.deeper (envOfC qual scope s.heap.objs.size f cdv)) → C.K = K →
      Passes (L2.CX P w) (Bx P w K mg base N qual scope f cdv A outer s H E) E → PassesOwn (model P w) (A.deeper (envOfC qual scope s.heap.objs.size f cdv)) (envOfC qual scope s.heap.objs.size f cdv) (Bx P w K mg base N qual scope f cdv A outer s H E).xe →
      DB (Bx P w K mg base N qual scope f cdv A outer s H E) C (wx E) body g) :
    FnG gd P w K mg base (L2.CX P w) (k + 1) f fd ps (spD K ps.length (bodyFn N.length g)) := by
  obtain ⟨oc, od, dV, kV, doc, pm, an, cdv, ct, osl, rfl, lk, hcd, _, _⟩ := F.ex
  refine fng_of lk hcd S (fun vs H Q E ⟨F, A, as, io, e, hl, _⟩ => by rw [← e.len, hl]) fun A outer s H vs Q E hgd hr ⟨F, Al, as, io, e, hl, q⟩ => ⟨_, hbody cdv A outer s H E ⟨K, H, F, Al⟩ hgd hr rfl ?_ ?_, F, _, e.rel, ?_⟩
  · exact passes_call (takes_of (X := Bx P w K mg base N qual scope f cdv A outer s H E) (E := E) rfl rfl rfl rfl) fun _ _ _ _ h => h
  · exact passes_of (X := Bx P w K mg base N qual scope f cdv A outer s H E) rfl
  unfold bodyFn at q
  cases h : g ⟨as ++ List.replicate (N.length - as.length) .no, io⟩ with
  | nx s' =>
    rw [h] at q
    exact fun σ' H' F' r u => q .non H' F' (r.after u) .non
  | rt rv s' =>
    rw [h] at q
    exact fun v σ' H' F' r u ret => q v H' F' (r.after u) (by cases rv <;> exact ret)
  | exc c fs s' =>
    rw [h] at q
    exact fun a σ' H' F' r u x => q a H' F' (r.after u) x
  | bk s' => rw [h] at q; exact q.elim
  | ct s' => rw [h] at q; exact q.elim
  | bad => rw [h] at q; exact q.elim
end DL
set_option maxHeartbeats 2000000
namespace DL
open PySem PySem.Spec PyProof.Rows L2
theorem nm {X : Cx} {x : Str} (i : Nat) (nd : X.N.Nodup) (ix : X.N[i]? = some x := by rfl) (lo : Loc X.env.scope x := by first | exact .inl rfl | exact .inr rfl) (fn : X.fn x = true ∨ X.env.scope.names.lookup x = some .local := by first | exact .inl rfl | exact .inr rfl) : Nm X i x := ⟨nd, ix, lo, fn⟩
theorem un65 {k : Nat} {A : Around} (r : Room k A) : A.units + 65 < cLine := by have := r.un; omega
end DL
set_option maxHeartbeats 2000000
namespace PySem.W
open PySem PySem.Calls PyProof.Rows Builtin
end PySem.W
set_option maxHeartbeats 2000000
namespace PySem.W
open PySem PySem.Calls PyProof.Rows Builtin
end PySem.W
namespace DL
open PySem PySem.Spec PyProof.Rows L2
def tyA (cls : List Str) : D → Option (String ⊕ Str)
  | .ins c _ => if cls.contains c then some (.inr c) else none
  | d => (tyN d).map .inl
theorem Env0.at {P : Program} {w : World} {K : PySem.W.Frag} {mg : Str → Option Value} {base : Heap} {A A' : Around} {outer : List Env} {s : Shared} {H : Hp} (e : Env0 P w K mg base A outer s H) (h : A'.frames = A.frames) : Env0 P w K mg base A' outer s H := ⟨by rw [h]; exact e.frames, e.mod, e.bs, e.bsz, e.funs, e.frf, e.hok, e.bare⟩
section
variable {C : Ct} {W : WX} {X : Cx} {σ : L2.St} {H F H' F' : Hp} {s : S} {fa fb : M D} {a b e o : Expr} {es : List Expr} {fs : M (List AV)} {fr : M RV} {pos p apos : Pos} {K : PySem.W.Frag} {x m : Str}
/-- of an instance of the class cn -/
def insAt (cn : Str) : D → Option Unit
  | .ins c _ => if c = cn then some () else none
  | _ => none
def mEqO (cls : List Str) (cn : Str) (r : Fn) (ng : Bool) (fa fb : M D) : M D := mbind fa fun a => mbind (mopt (insAt cn a)) fun _ => mbind fb fun b => mbind (mopt (tyA cls b)) fun _ => mbind (runFn r [] [.val a, .val b]) fun rv => match rv with
  | .val (.bl k) => mret (.bl (if ng then !k else k))
  | _ => fun _ => .bad
def mStrO (cn : Str) (r : Fn) (fa : M D) : M D := mbind fa fun a => mbind (mopt (insAt cn a)) fun _ => mbind (runFn r [] [.val a]) fun rv => match rv with
  | .val (.str z) => mret (.str z)
  | _ => fun _ => .bad
end
end DL
set_option maxHeartbeats 2000000
namespace DL
open PySem PySem.Spec PyProof.Rows L2
def permL {α : Type} (idx : List Nat) (as : List α) : List α := idx.filterMap fun i => as[i]?
section
variable {C : Ct} {W : WX} {X : Cx} {σ : L2.St} {H F H' F' : Hp} {s : S} {fa fb : M D} {a b e o : Expr} {es : List Expr} {kws : List Keyword} {fs : M (List AV)} {fr : M RV} {pos p apos kpos : Pos} {K : PySem.W.Frag} {x m : Str} {nm : Option Str}
theorem AvAll.get : ∀ {vs : List V} {as : List AV} {i : Nat}, AvAll K σ F vs as → (vs[i]? = none ∧ as[i]? = none) ∨ ∃ v a, vs[i]? = some v ∧ as[i]? = some a ∧ AvAll K σ F [v] [a]
  | _, _, i, .nil => .inl ⟨by simp, by simp⟩
  | _, _, 0, .val h r => .inr ⟨_, _, rfl, rfl, .val h .nil⟩
  | _, _, 0, .sl h r => .inr ⟨_, _, rfl, rfl, .sl h .nil⟩
  | _, _, i + 1, .val h r => by simpa using AvAll.get (i := i) r
  | _, _, i + 1, .sl h r => by simpa using AvAll.get (i := i) r
def mCallK (nk np : Nat) (r : Fn) (idx : List Nat) (fs : M (List AV)) : M RV := mbind fs fun as => if as.length = nk ∧ (permL idx as).length = np then runFn r [] (permL idx as) else fun _ => .bad
def mMethK (nk np : Nat) (r : Fn) (idx : List Nat) (fo : M AV) (fs : M (List AV)) : M RV := mbind fo fun o => mbind fs fun as => if as.length = nk ∧ (permL idx as).length + 1 = np then runFn r [] (o :: permL idx as) else fun _ => .bad
def mMakeK (nk np : Nat) (cn : Str) (r : Fn) (idx : List Nat) (fs : M (List AV)) : M RV := mbind fs fun as => if as.length = nk ∧ (permL idx as).length + 1 = np then runMake cn r [] (permL idx as) else fun _ => .bad
end
end DL
set_option maxHeartbeats 2000000
namespace DL
open PySem PySem.Spec PyProof.Rows L2
end DL
set_option maxHeartbeats 2000000
namespace DL
open PySem PySem.Spec PyProof.Rows L2
section
variable {X : Cx} {C : Ct} {W : WX} {e : Expr} {fa : M D} {pos p2 p3 p4 : Pos}
theorem IsAll.snoc {K : PySem.W.Frag} {F : Hp} {vs : List V} {ds : List D} {v : V} {d : D} (h : IsAll K F vs ds) (hv : Is K F v d) : IsAll K F (vs ++ [v]) (ds ++ [d]) := by
  induction vs generalizing ds with
  | nil => cases h; exact .cons hv .nil
  | cons w vs ih =>
    cases h with
    | cons a b => exact .cons a (ih b)
theorem IsAll.back {K : PySem.W.Frag} {F : Hp} : {vs : List V} → {ds : List D} → IsAll K F vs ds → IsAll K F vs.reverse ds.reverse
  | _, _, .nil => .nil
  | _, _, .cons a b => by
    rw [List.reverse_cons, List.reverse_cons]
    exact (IsAll.back b).snoc a
end
end DL
set_option maxHeartbeats 2000000
namespace DL
open PySem PySem.Spec PyProof.Rows L2
end DL
set_option maxHeartbeats 2000000
namespace DL
open PySem PySem.Spec PyProof.Rows L2
end DL
set_option maxHeartbeats 2000000
namespace DL
open PySem PySem.Spec PyProof.Rows L2
end DL
set_option maxHeartbeats 2000000
namespace DL
open PySem PySem.Spec PyProof.Rows L2
section
variable {C : Ct} {W : WX} {X : Cx} {σ : L2.St} {H F : Hp} {s : S} {fa fb fc fe : M D} {a b c e : Expr} {es : List Expr} {fs : M (List D)} {pos p apos : Pos} {K : PySem.W.Frag} {x : Str} {st : Stmt} {body : List Stmt} {f : S → Out} {tg iter elt : Expr} {fi : M (List D)}
theorem Rel.forget (r : Rel C σ H F s) (vs : List Nat) : Rel C σ H F (s.wipe vs) where
  sub := r.sub
  keep := r.keep
  f0 := r.f0
  len := by show (wipeL vs 0 s.sl).length = _; rw [wipeL_len]; exact r.len
  slot := fun i x e => by
    have e : (wipeL vs 0 s.sl)[i]? = some x := e
    rw [wipeL_get, Nat.zero_add] at e
    obtain ⟨y, e1, rfl⟩ := Option.map_eq_some_iff.mp e
    by_cases m : vs.contains i
    · rw [if_pos m]; trivial
    · rw [if_neg m]
      exact r.slot i y e1
  iol := r.iol
  io := r.io
  ap := fun i j a ⟨e1, c1, h1⟩ ⟨e2, c2, h2⟩ => by
    have key : ∀ {i : Nat} {c : Cell}, (wipeL vs 0 s.sl)[i]? = some (.own c) → s.sl[i]? = some (.own c) := fun {i c} e => by
      rw [wipeL_get, Nat.zero_add] at e
      obtain ⟨y, e1, e2⟩ := Option.map_eq_some_iff.mp e
      by_cases m : vs.contains i
      · rw [if_pos m] at e2; cases e2
      · rw [if_neg m] at e2; rw [e1, e2]
    exact r.ap i j a ⟨e1, c1, key h1⟩ ⟨e2, c2, key h2⟩
  inn := r.inn
  nd := r.nd
  s0 := r.s0
  tabs := r.tabs
def wipeO (vs : List Nat) (f : S → Out) : S → Out := fun s => match f s with
  | .nx s' => .nx (s'.wipe vs)
  | .ct s' => .ct (s'.wipe vs)
  | .bk s' => .bk (s'.wipe vs)
  | .rt v s' => .rt v s'
  | .exc c fs s' => .exc c fs s'
  | .bad => .bad
theorem PostS.wipe {vs : List Nat} {o : Out} {nx : L2.St → Hp → Prop} {rt : VK} {bk ct : L2.St → Hp → Prop}
    (q : PostS C W F (match o with
      | .nx s' => .nx (s'.wipe vs)
      | .ct s' => .ct (s'.wipe vs)
      | .bk s' => .bk (s'.wipe vs)
      | .rt v s' => .rt v s'
      | .exc c fs s' => .exc c fs s'
      | .bad => .bad) nx rt bk ct) : PostS C W F o nx rt bk ct := by
  cases o with
  | nx s' => exact fun σ' H' F' r u => q σ' H' F' (r.forget vs) u
  | ct s' => exact fun σ' H' F' r u => q σ' H' F' (r.forget vs) u
  | bk s' => exact fun σ' H' F' r u => q σ' H' F' (r.forget vs) u
  | rt v s' => exact q
  | exc c fs s' => exact q
  | bad => exact q
theorem db_wipe {body : List Stmt} (vs : List Nat) (h : DB X C W body f) : DB X C W body (wipeO vs f) :=
  pss_imp h fun E σ H ⟨F, s, r, q⟩ => ⟨F, s, r, PostS.wipe q⟩
def iWipe (vs : List Nat) (fi : M (List D)) : M (List D) := mbind fi fun ds s => .ok ds (s.wipe vs)
theorem di_wipe (vs : List Nat) (h : DI X C W tg e fi) : DI X C W tg e (iWipe vs fi) := by
  refine pi_imp h fun σ H R ⟨F, s, r, q⟩ => ⟨F, s, r, (Post.bind q).mono fun ds s1 H1 F1 r1 u1 q1 => ?_⟩
  exact q1 H1 F1 (r1.forget vs) (Sub.refl _)
/-- for, with what is forgotten at each turn's end -/
def sForW (vs : List Nat) (fi : M (List D)) (p : Pat) (f : S → Out) : S → Out := sFor (iWipe vs fi) p (wipeO vs f)
theorem ds_forW {pt : Pat} (vs : List Nat) (hK : C.K = X.K) (hp : PassesOwn (model X.prog X.w) X.A X.env X.xe) (hc : X.calm = true) (hi : DI X C W tg iter fi) (hg : PG X tg (pt.g X.K)) (hb : DB X C W body f)
    (hs : ∀ x, foldedSetIterable iter X.env x = pure x := by intro _; rfl) : DS X C W (.For tg iter body [] pos) (sForW vs fi pt f) :=
  ds_for hK hp hc (di_wipe vs hi) hg (db_wipe vs hb) hs
def sAugV (i : Nat) (g : D → D → Option D) (fe : M D) : S → Out := fun s => match s.sl[i]? with
  | some (.val a) => sOf fe (fun y s => match g a y with
    | some d => .nx (s.put i (.val d))
    | none => .bad) s
  | _ => .bad
def itemsT : D → Option (List D)
  | .lst xs => some xs
  | .tup xs => some xs
  | _ => none
def aStar (fa : M D) (fs : M (List D)) : M (List D) := mbind fa fun d => mbind (mopt (itemsT d)) fun xs => mbind fs fun ds => mret (xs ++ ds)
end
end DL
set_option maxHeartbeats 2000000
namespace DL
end DL
namespace SrtO
open PySem PyProof.Rows Srt
section
variable {prog : Program} {w : World} {A : Around} {E : Value → Shared → Prop} {s : Shared}
/-- what is sorted: tuples of ints, none empty -/
def TupsL (h : Heap) (vs : List Value) : Prop := ∀ v, v ∈ vs → ∃ ns, TS.TupInts h v ns ∧ ns ≠ []
theorem TupsL.keeps {h h' : Heap} {vs : List Value} (x : TupsL h vs) (k : ∀ b o, h.get? b = some o → o.cls = .type "tuple" → h'.get? b = some o) : TupsL h' vs := fun v hv =>
  let ⟨ns, t, r⟩ := x v hv; ⟨ns, t.keeps k, r⟩
end
end SrtO
namespace DL
open PySem PySem.Spec PyProof.Rows L2
end DL
set_option maxHeartbeats 2000000
namespace DZ
open PySem PySem.Spec PyProof.Rows RZ
section
variable {prog : Program} {w : World} {A : Around} {E : Value → Shared → Prop} {s : Shared} {z TI TO T i1 i2 l1 l2 : Addr} {k : Nat} {xs ys : Array Value} {f : Bool} {oT : Obj}
/-- both iterators stand at k -/
structure At2 (h : Heap) (TI i1 i2 l1 l2 : Addr) (xs ys : Array Value) (k : Nat) : Prop where
  ti : IsPair h TI (.ref i1) (.ref i2)
  a : h.IsTupleIter i1 l1 k
  b : h.IsTupleIter i2 l2 k
  x : h.IsTuple l1 xs
  y : h.IsTuple l2 ys
theorem At2.keep {h h' : Heap} (t : At2 h TI i1 i2 l1 l2 xs ys k) (kk : ∀ b o, b = TI ∨ b = i1 ∨ b = i2 ∨ b = l1 ∨ b = l2 → h.get? b = some o → h'.get? b = some o) : At2 h' TI i1 i2 l1 l2 xs ys k :=
  ⟨kk _ _ (by simp) t.ti, t.a.at fun o e => kk _ o (by simp) e, t.b.at fun o e => kk _ o (by simp) e, t.x.at fun o e => kk _ o (by simp) e, t.y.at fun o e => kk _ o (by simp) e⟩
theorem next_held {Q : Value → Shared → Prop} {x y : Value} (D : ZipApart z TI TO i1 i2 l1 l2) (hz : IsZipHeld s.heap z TI TO T f) (hT : s.heap.get? T = some oT) (t : At2 s.heap TI i1 i2 l1 l2 xs ys k)
    (ex : xs[k]? = some x) (ey : ys[k]? = some y)
    (hQ : ∀ h', IsZipHeld h' z TI TO T true → h'.IsTupleIter i1 l1 (k + 1) → h'.IsTupleIter i2 l2 (k + 1) → IsPair h' s.heap.objs.size x y →
      (∀ c o, c ≠ z → c ≠ i1 → c ≠ i2 → s.heap.get? c = some o → h'.get? c = some o) → Q (.ref s.heap.objs.size) { s with heap := h' }) :
    wpAny (model prog w) A (Builtin.«zip.__next__» ⟨[.ref z], []⟩) (fun fin s' => ∃ v, fin = .done (.ret v) ∧ Q v s') E s := by
  show wpAny _ _ (field (.ref z) 2 >>= _) _ _ _
  refine wpAny_bind (wpAny_field hz rfl (x := .bool false) rfl (show wpAny _ _ (field (.ref z) 3 >>= _) _ _ _ from wpAny_bind (wpAny_field hz rfl (x := .ref TI) rfl (wpAny_bind (wpAny_seqItems t.ti rfl ?_)))))
  refine (show wpAny _ _ (Builtin.SmallTypes.ownedTupleIsFree (.ref z) >>= _) _ _ _ from wpAny_bind (wpAny_tupleHeld_zip hz hT fun h1 z1 s1 => ?_))
  simp only [Bool.false_eq_true, if_false]
  refine wpAny_bind ?_
  rw [← Array.forIn_toList]
  simp only [List.forIn_cons, List.forIn_nil]
  refine wpAny_bind (wpAny_bind (wpAny_holding (show wpAny _ _ (Builtin.SmallTypes.nextOf (.ref i1) >>= _) _ _ _ from wpAny_bind ?_)))
  refine nextOf_tuple_item (s := { s with heap := h1 }) (t.a.extBut s1.extBut D.i1z) (t.x.extBut s1.extBut D.l1z) ex fun h2 a2 s2 => wpAny_pure (wpAny_pure ?_)
  refine wpAny_bind (wpAny_bind (wpAny_holding (show wpAny _ _ (Builtin.SmallTypes.nextOf (.ref i2) >>= _) _ _ _ from wpAny_bind ?_)))
  refine nextOf_tuple_item (s := { s with heap := h2 }) ((t.b.extBut s1.extBut D.i2z).extBut s2.extBut D.i12.symm) ((t.y.extBut s1.extBut D.l2z).extBut s2.extBut D.l2i1) ey fun h3 b3 s3 => wpAny_pure (wpAny_pure (wpAny_pure ?_))
  refine (show wpAny _ _ (newTuple [x, y] >>= _) _ _ _ from wpAny_bind (wpAny_newTuple ?_))
  have sz : h3.objs.size = s.heap.objs.size := by rw [s3.1, s2.1, s1.1]
  have up : ∀ c o, h3.get? c = some o → (h3.push { cls := .type "tuple", data := .seq #[x, y] }).get? c = some o := fun c o e => Heap.get?_push_of_some _ e
  refine wpAny_pure ⟨_, rfl, (show Q (.ref h3.objs.size) _ from ?_)⟩
  have hp : IsPair (h3.push { cls := .type "tuple", data := .seq #[x, y] }) h3.objs.size x y := Heap.get?_push_size _ rfl
  rw [sz] at hp ⊢
  exact hQ _ (up _ _ (s3.extBut _ _ D.i2z.symm (s2.extBut _ _ D.i1z.symm z1))) ((a2.extBut s3.extBut D.i12).at (up _)) (b3.at (up _)) hp fun c o c1 c2 c3 e => up _ _ (s3.extBut _ _ c3 (s2.extBut _ _ c2 (s1.extBut _ _ c1 e)))
theorem stop_held {Q : Fin → Shared → Prop} (hh : A.handled = none) (D : ZipApart z TI TO i1 i2 l1 l2) (hz : IsZipHeld s.heap z TI TO T f) (hT : s.heap.get? T = some oT) (t : At2 s.heap TI i1 i2 l1 l2 xs ys k)
    (hend : xs[k]? = none ∨ ys[k]? = none)
    (hE : ∀ h' e, (∀ c o, c ≠ z → c ≠ i1 → c ≠ i2 → s.heap.get? c = some o → h'.get? c = some o) → (∃ o, h'.get? e = some o ∧ o.cls = .type "StopIteration") → E (.ref e) { s with heap := h' }) :
    wpAny (model prog w) A (Builtin.«zip.__next__» ⟨[.ref z], []⟩) Q E s := by
  show wpAny _ _ (field (.ref z) 2 >>= _) _ _ _
  refine wpAny_bind (wpAny_field hz rfl (x := .bool false) rfl (show wpAny _ _ (field (.ref z) 3 >>= _) _ _ _ from wpAny_bind (wpAny_field hz rfl (x := .ref TI) rfl (wpAny_bind (wpAny_seqItems t.ti rfl ?_)))))
  refine (show wpAny _ _ (Builtin.SmallTypes.ownedTupleIsFree (.ref z) >>= _) _ _ _ from wpAny_bind (wpAny_tupleHeld_zip hz hT fun h1 z1 s1 => ?_))
  simp only [Bool.false_eq_true, if_false]
  refine wpAny_bind ?_
  rw [← Array.forIn_toList]
  simp only [List.forIn_cons, List.forIn_nil]
  refine wpAny_bind (wpAny_bind (wpAny_holding (show wpAny _ _ (Builtin.SmallTypes.nextOf (.ref i1) >>= _) _ _ _ from wpAny_bind ?_)))
  have a1 := t.a.extBut s1.extBut D.i1z
  have x1 := t.x.extBut s1.extBut D.l1z
  cases ex : xs[k]? with
  | none => exact nextOf_tuple_end (s := { s with heap := h1 }) hh a1 x1 ex fun h2 e s2 he => hE h2 e (fun c o c1 c2 _ q => s2 _ _ c2 (s1.extBut _ _ c1 q)) he
  | some x =>
    have ey : ys[k]? = none := hend.resolve_left (by rw [ex]; exact fun q => nomatch q)
    refine nextOf_tuple_item (s := { s with heap := h1 }) a1 x1 ex fun h2 a2 s2 => wpAny_pure (wpAny_pure ?_)
    refine wpAny_bind (wpAny_bind (wpAny_holding (show wpAny _ _ (Builtin.SmallTypes.nextOf (.ref i2) >>= _) _ _ _ from wpAny_bind ?_)))
    exact nextOf_tuple_end (s := { s with heap := h2 }) hh ((t.b.extBut s1.extBut D.i2z).extBut s2.extBut D.i12.symm) ((t.y.extBut s1.extBut D.l2z).extBut s2.extBut D.l2i1) ey fun h3 e s3 he =>
      hE h3 e (fun c o c1 c2 c3 q => s3 _ _ c3 (s2.extBut _ _ c2 (s1.extBut _ _ c1 q))) he
theorem pyNext_held {Q : Option Value → Shared → Prop} {x y : Value} (D : ZipApart z TI TO i1 i2 l1 l2) (hz : IsZipHeld s.heap z TI TO T f) (hT : s.heap.get? T = some oT) (t : At2 s.heap TI i1 i2 l1 l2 xs ys k)
    (ex : xs[k]? = some x) (ey : ys[k]? = some y)
    (hQ : ∀ h', IsZipHeld h' z TI TO T true → h'.IsTupleIter i1 l1 (k + 1) → h'.IsTupleIter i2 l2 (k + 1) → IsPair h' s.heap.objs.size x y →
      (∀ c o, c ≠ z → c ≠ i1 → c ≠ i2 → s.heap.get? c = some o → h'.get? c = some o) → Q (some (.ref s.heap.objs.size)) { s with heap := h' }) :
    wpAny (model prog w) A (pyNext (.ref z)) Q E s := by
  have ty : s.TypeIs (.ref z) "zip" := ⟨_, hz, rfl⟩
  unfold pyNext
  refine wpAny_bind (wpAny_attempt (wpAny_callSpecial?_slot (name := Str.ofString "__next__") ty F.slot_zip_next (wpAny_call_entry F.slot_zip_next ty F.entry_zip_next ?_ (F.args_zip_next_1 _))))
  exact next_held D hz hT t ex ey fun h' b1 b2 b3 b4 b5 => wpAny_pure (hQ h' b1 b2 b3 b4 b5)
theorem pyStop_held {Q : Option Value → Shared → Prop} (hh : A.handled = none) (D : ZipApart z TI TO i1 i2 l1 l2) (hz : IsZipHeld s.heap z TI TO T f) (hT : s.heap.get? T = some oT) (t : At2 s.heap TI i1 i2 l1 l2 xs ys k)
    (hend : xs[k]? = none ∨ ys[k]? = none) (hQ : ∀ h', (∀ c o, c ≠ z → c ≠ i1 → c ≠ i2 → s.heap.get? c = some o → h'.get? c = some o) → Q none { s with heap := h' }) :
    wpAny (model prog w) A (pyNext (.ref z)) Q E s := by
  have ty : s.TypeIs (.ref z) "zip" := ⟨_, hz, rfl⟩
  unfold pyNext
  refine wpAny_bind (wpAny_attempt (wpAny_callSpecial?_slot (name := Str.ofString "__next__") ty F.slot_zip_next (wpAny_call_entry F.slot_zip_next ty F.entry_zip_next ?_ (F.args_zip_next_1 _))))
  refine stop_held hh D hz hT t hend fun h' e kk ⟨o, ho, hc⟩ => ?_
  exact wpAny_bind (wpAny_isInstance (T := "StopIteration") (b := true) ⟨o, ho, hc⟩ isSubtype_stop (wpAny_pure (hQ _ kk)))
end
section
variable {prog : Program} {w : World}
/-- what stands while the pairs are stored -/
def Mid (z TI TO i1 i2 l1 l2 d : Addr) (xs ys : Array Value) (i : Nat) (h : Heap) : Prop :=
  At2 h TI i1 i2 l1 l2 xs ys i ∧ ((IsZip h z TI TO .none ∧ ∃ a b, IsPair h TO a b) ∨ ∃ T f oT, IsZipHeld h z TI TO T f ∧ h.get? T = some oT ∧ T ≠ z ∧ T ≠ i1 ∧ T ≠ i2 ∧ T ≠ d)
theorem src (z TI TO i1 i2 l1 l2 d : Addr) (D : ZipApart z TI TO i1 i2 l1 l2) (xs ys : Array Value) (A : Around) (hA : A.handled = none)
    (nd : d ≠ z ∧ d ≠ TI ∧ d ≠ TO ∧ d ≠ i1 ∧ d ≠ i2 ∧ d ≠ l1 ∧ d ≠ l2) :
    PairSrc prog w A z d [z, TO, i1, i2] (min xs.size ys.size) (fun i k v => xs[i]? = some k ∧ ys[i]? = some v) (Mid z TI TO i1 i2 l1 l2 d xs ys) := by
  obtain ⟨nz, nTI, nTO, n1, n2, nl1, nl2⟩ := nd
  have w4 : ∀ {c : Addr}, c ∉ [z, TO, i1, i2] → c ≠ z ∧ c ≠ TO ∧ c ≠ i1 ∧ c ≠ i2 := fun h => by
    simp only [List.mem_cons, List.not_mem_nil, or_false, not_or] at h
    exact h
  constructor
  · simp only [List.mem_cons, List.not_mem_nil, or_false, not_or]
    exact ⟨nz, nTO, n1, n2⟩
  · rintro i h h' ⟨t, q⟩ kk
    refine ⟨t.keep fun b o hb e => kk b o (fun q => by subst q; rcases hb with h | h | h | h | h <;> first | exact nTI h | exact n1 h | exact n2 h | exact nl1 h | exact nl2 h) e, ?_⟩
    rcases q with ⟨q, a, b, q2⟩ | ⟨T, f, oT, q, q2, q3⟩
    · exact .inl ⟨kk _ _ (Ne.symm nz) q, a, b, kk _ _ (Ne.symm nTO) q2⟩
    · exact .inr ⟨T, f, oT, kk _ _ (Ne.symm nz) q, kk _ _ q3.2.2.2 q2, q3⟩
  · rintro i s Q E' hi ⟨t, q⟩ hd hQ
    have ex := Array.getElem?_eq_getElem (xs := xs) (i := i) (Nat.lt_of_lt_of_le hi (Nat.min_le_left ..))
    have ey := Array.getElem?_eq_getElem (xs := ys) (i := i) (Nat.lt_of_lt_of_le hi (Nat.min_le_right ..))
    have ne : ∀ {c o}, s.heap.get? c = some o → s.heap.objs.size ≠ c := fun e => Nat.ne_of_gt (Heap.lt_size e)
    have m1 : s.heap.objs.size ≠ i1 := let ⟨_, e, _⟩ := t.a; ne e
    have m2 : s.heap.objs.size ≠ i2 := let ⟨_, e, _⟩ := t.b; ne e
    rcases q with ⟨q, a, b, q2⟩ | ⟨T, f, oT, q, q2, r1, r2, r3, r4⟩
    · refine pyNext_zipT_item D q t.ti q2 t.a t.b t.x t.y ex ey fun h' b1 b2 b3 b4 b5 b6 kk => ?_
      have u : ∀ {c o}, c ≠ z → c ≠ TO → c ≠ i1 → c ≠ i2 → s.heap.get? c = some o → h'.get? c = some o := fun p1 p2 p3 p4 e => kk _ _ p1 p2 p3 p4 e
      refine hQ s.heap.objs.size _ _ h' s.toks ⟨ex, ey⟩ (.inl ⟨_, b5, rfl, _, rfl⟩) ⟨⟨u D.TIz D.TITO D.TIi1 D.TIi2 t.ti, b3, b4, t.x.at fun o e => u D.l1z D.l1TO D.l1i1 D.l1i2 e, t.y.at fun o e => u D.l2z D.l2TO D.l2i1 D.l2i2 e⟩,
        .inr ⟨s.heap.objs.size, false, _, b1, b5, ne q, m1, m2, Nat.ne_of_gt hd⟩⟩ fun c o hc e => let ⟨p1, p2, p3, p4⟩ := w4 hc; u p1 p2 p3 p4 e
    · refine pyNext_held D q q2 t ex ey fun h' b1 b3 b4 b5 kk => ?_
      refine hQ s.heap.objs.size _ _ h' s.toks ⟨ex, ey⟩ (.inl ⟨_, b5, rfl, _, rfl⟩) ⟨⟨kk _ _ D.TIz D.TIi1 D.TIi2 t.ti, b3, b4, t.x.at fun o e => kk _ o D.l1z D.l1i1 D.l1i2 e, t.y.at fun o e => kk _ o D.l2z D.l2i1 D.l2i2 e⟩,
        .inr ⟨T, true, oT, b1, kk _ _ r1 r2 r3 q2, r1, r2, r3, r4⟩⟩ fun c o hc e => let ⟨p1, _, p3, p4⟩ := w4 hc; kk c o p1 p3 p4 e
  · rintro s Q E' ⟨t, q⟩ hQ
    have he : xs[min xs.size ys.size]? = none ∨ ys[min xs.size ys.size]? = none := by
      rcases Nat.le_total xs.size ys.size with h | h
      · exact .inl (Array.getElem?_eq_none (by rw [Nat.min_eq_left h]; exact Nat.le_refl _))
      · exact .inr (Array.getElem?_eq_none (by rw [Nat.min_eq_right h]; exact Nat.le_refl _))
    rcases q with ⟨q, a, b, q2⟩ | ⟨T, f, oT, q, q2, _⟩
    · exact pyNext_zipT_end hA D q t.ti q2 t.a t.b t.x t.y he fun h' kk => hQ h' s.toks fun c o hc e => let ⟨p1, p2, p3, p4⟩ := w4 hc; kk c o p1 p2 p3 p4 e
    · exact pyStop_held hA D q q2 t he fun h' kk => hQ h' s.toks fun c o hc e => let ⟨p1, _, p3, p4⟩ := w4 hc; kk c o p1 p3 p4 e
theorem arg (z TI TO i1 i2 l1 l2 : Addr) (D : ZipApart z TI TO i1 i2 l1 l2) (xs ys : Array Value) :
    PairArg prog w "zip" z [z, TI, TO, i1, i2, l1, l2] [z, TO, i1, i2] (min xs.size ys.size) (fun i k v => xs[i]? = some k ∧ ys[i]? = some v)
      (fun h => At2 h TI i1 i2 l1 l2 xs ys 0 ∧ IsZip h z TI TO .none ∧ ∃ a b, IsPair h TO a b) where
  type := fun s ok => ⟨_, ok.2.1, rfl⟩
  notDict := by decide
  keep := fun h h' ⟨t, q, a, b, q2⟩ kk => ⟨t.keep fun b o _ e => kk b o e, kk _ _ q, a, b, kk _ _ q2⟩
  there := fun h ⟨⟨q1, ⟨o1, h1, _⟩, ⟨o2, h2, _⟩, ⟨o3, h3, _⟩, ⟨o4, h4, _⟩⟩, q, a, b, q2⟩ c hc => by
    simp only [List.mem_cons, List.not_mem_nil, or_false] at hc
    rcases hc with rfl | rfl | rfl | rfl | rfl | rfl | rfl <;> first | exact ⟨_, q⟩ | exact ⟨_, q1⟩ | exact ⟨_, q2⟩ | exact ⟨_, h1⟩ | exact ⟨_, h2⟩ | exact ⟨_, h3⟩ | exact ⟨_, h4⟩
  sub := fun b hb => by
    simp only [List.mem_cons, List.not_mem_nil, or_false] at hb ⊢
    rcases hb with h | h | h | h <;> simp [h]
  noKeys := fun A s Q E hA ok h => getAttrOr_miss_zip ok.2.1 rfl rfl rfl zip_no_keys (by decide +kernel) hA h
  iter := fun A s d Q E hA ⟨t, q, a, b, q2⟩ hd hdf h => by
    simp only [List.mem_cons, List.not_mem_nil, or_false, not_or] at hdf
    exact wpAny_pyIter_zip q (h z [z, TO, i1, i2] _ s.heap s.toks (src z TI TO i1 i2 l1 l2 d D xs ys A hA hdf) ⟨t, .inl ⟨q, a, b, q2⟩⟩ (fun _ _ e => e) fun b hb => .inl hb)
end
end DZ
set_option maxHeartbeats 2000000
namespace DL
open PySem PySem.Spec PyProof.Rows L2
def keyOf : D → Option Key
  | .int i => some (.inl i)
  | .str x => some (.inr x)
  | _ => none
def sameK : D → D → Bool
  | .int i, .int j => decide (i = j)
  | .str x, .str y => decide (x = y)
  | _, _ => false
def getKv (k : D) : List (D × D) → Option D
  | [] => none
  | (k', d) :: r => if sameK k' k = true then some d else getKv k r
def hasKv (k : D) : List (D × D) → Bool
  | [] => false
  | (k', d) :: r => sameK k' k || hasKv k r
def replKv (k d : D) : List (D × D) → List (D × D)
  | [] => []
  | (k', d') :: r => (if sameK k' k = true then (k', d) else (k', d')) :: replKv k d r
def putKv (kvs : List (D × D)) (k d : D) : List (D × D) := if hasKv k kvs = true then replKv k d kvs else kvs ++ [(k, d)]
section
variable {K : PySem.W.Frag} {F H : Hp}
theorem same_of {a b : D} {k l : Key} (h1 : keyOf a = some k) (h2 : keyOf b = some l) : sameK a b = decide (k = l) := by
  cases a <;> cases h1 <;> cases b <;> cases h2 <;> simp [sameK]
/-- entries by keys -/
theorem IsKv.cons {k : Key} {v : V} {vs : List (Key × V)} {dk d : D} {ds : List (D × D)} (hk : keyOf dk = some k) (h : Is K F v d) (r : IsKv K F vs ds) : IsKv K F ((k, v) :: vs) ((dk, d) :: ds) := by
  cases dk <;> cases hk <;> first | exact .int h r | exact .str h r
theorem IsKv.inv {ks : List (Key × V)} {ds : List (D × D)} (h : IsKv K F ks ds) : (ks = [] ∧ ds = []) ∨ ∃ k v vs dk d es, ks = (k, v) :: vs ∧ ds = (dk, d) :: es ∧ keyOf dk = some k ∧ Is K F v d ∧ IsKv K F vs es := by
  cases h with
  | nil => exact .inl ⟨rfl, rfl⟩
  | int h r => exact .inr ⟨_, _, _, _, _, _, rfl, rfl, rfl, h, r⟩
  | str h r => exact .inr ⟨_, _, _, _, _, _, rfl, rfl, rfl, h, r⟩
theorem IsKv.val {dk : D} {k : Key} (hk : keyOf dk = some k) : ∀ {ks : List (Key × V)} {ds : List (D × D)}, IsKv K F ks ds → (∀ d, getKv dk ds = some d → ∃ v, valV ks k = some v ∧ Is K F v d) ∧ (valV ks k).isSome = hasKv dk ds := by
  intro ks
  induction ks with
  | nil =>
    intro ds h
    cases h
    exact ⟨fun d e => by simp [getKv] at e, rfl⟩
  | cons p ks ih =>
    intro ds h
    rcases h.inv with ⟨e, _⟩ | ⟨k', v, vs, dk', d', es, e, rfl, hk', hv, r⟩
    · cases e
    · cases e
      obtain ⟨i1, i2⟩ := ih r
      have hs := same_of hk' hk
      by_cases q : k' = k
      · subst q
        rw [valV_pos rfl]
        simp only [getKv, hasKv, hs, decide_true, if_true, Bool.true_or, Option.isSome_some]
        exact ⟨fun d e => ⟨v, rfl, by cases e; exact hv⟩, trivial⟩
      · rw [valV_neg q]
        simp only [getKv, hasKv, hs, decide_eq_false q, Bool.false_eq_true, if_false, Bool.false_or]
        exact ⟨i1, i2⟩
theorem IsKv.repl {dk d : D} {k : Key} {v : V} (hk : keyOf dk = some k) (hv : Is K F v d) : ∀ {ks : List (Key × V)} {ds : List (D × D)}, IsKv K F ks ds → IsKv K F (ks.map fun kv => if kv.1 = k then (kv.1, v) else kv) (replKv dk d ds) := by
  intro ks
  induction ks with
  | nil => intro ds h; cases h; exact .nil
  | cons p ks ih =>
    intro ds h
    rcases h.inv with ⟨e, _⟩ | ⟨k', v', vs, dk', d', es, e, rfl, hk', hv', r⟩
    · cases e
    · cases e
      have hs := same_of hk' hk
      rw [List.map_cons, replKv, hs]
      by_cases q : k' = k
      · simp only [q, decide_true, if_true]
        subst q
        exact .cons hk' hv (ih r)
      · simp only [q, decide_false, if_false, Bool.false_eq_true]
        exact .cons hk' hv' (ih r)
theorem IsKv.app : ∀ {ks ls : List (Key × V)} {ds es : List (D × D)}, IsKv K F ks ds → IsKv K F ls es → IsKv K F (ks ++ ls) (ds ++ es)
  | _, _, _, _, .nil, h => h
  | _, _, _, _, .int h r, s => .int h (IsKv.app r s)
  | _, _, _, _, .str h r, s => .str h (IsKv.app r s)
theorem IsKv.put {dk d : D} {k : Key} {v : V} (hk : keyOf dk = some k) (hv : Is K F v d) {ks : List (Key × V)} {ds : List (D × D)} (h : IsKv K F ks ds) : IsKv K F (putK ks k v) (putKv ds dk d) := by
  unfold putK putKv
  rw [valV_any, (h.val hk).2]
  split
  · exact h.repl hk hv
  · exact h.app (.cons hk hv .nil)
theorem IsKv.len : ∀ {ks : List (Key × V)} {ds : List (D × D)}, IsKv K F ks ds → ks.length = ds.length
  | _, _, .nil => rfl
  | _, _, .int _ r => by rw [List.length_cons, List.length_cons, IsKv.len r]
  | _, _, .str _ r => by rw [List.length_cons, List.length_cons, IsKv.len r]
end
end DL
set_option maxHeartbeats 2000000
namespace DL
open PySem PySem.Spec PyProof.Rows L2
def mMakeN (n m np : Nat) (cn : Str) (r : Fn) (idx : List Nat) (dds : List D) (fs gs : M (List AV)) : M RV := mbind fs fun as => mbind gs fun bs =>
  if as.length = n ∧ bs.length = m ∧ (permL idx (as ++ (bs ++ dds.map .val))).length + 1 = np then runMake cn r [] (permL idx (as ++ (bs ++ dds.map .val))) else fun _ => .bad
section
variable {C : Ct} {W : WX} {X : Cx} {σ : L2.St} {H F H' F' : Hp} {s : S} {fa fb : M D} {a b e o : Expr} {es : List Expr} {kws : List Keyword} {fs gs : M (List AV)} {fr : M RV} {pos p apos kpos : Pos} {K : PySem.W.Frag} {x : Str} {nm : Option Str}
theorem AvAll.app : ∀ {vs us : List V} {as bs : List AV}, AvAll K σ F vs as → AvAll K σ F us bs → AvAll K σ F (vs ++ us) (as ++ bs)
  | _, _, _, _, .nil, h => h
  | _, _, _, _, .val h r, s => .val h (AvAll.app r s)
  | _, _, _, _, .sl h r, s => .sl h (AvAll.app r s)
end
end DL
set_option maxHeartbeats 2000000
namespace DL
open PySem PySem.Spec PyProof.Rows L2
end DL
set_option maxHeartbeats 2000000
namespace DL
open PySem PySem.Spec PyProof.Rows L2
end DL
set_option maxHeartbeats 2000000
namespace DL
open PySem PySem.Spec PyProof.Rows L2
theorem DefA.funD {K : PySem.W.Frag} {d : DefA} (e : fnA K d.at_ = d.val) (c : d.ok K = true) : ∃ fd, FunD K d.name d.qual d.params d.body d.scope (d.dvs K) [] (d.at_.ad K) fd := by
  obtain ⟨kp, c2⟩ := He.ba c
  unfold fnA at e
  cases q : K.lookup (d.at_.ad K) with
  | none =>
    rw [q] at c2
    cases c2
  | some o =>
    obtain ⟨oc, od, dt, osl⟩ := o
    rw [q] at c2 e
    cases dt with
    | func fd =>
      obtain ⟨n1, n2, n3, n4, n5, n6, n7, n8, n9, n10, n11, n12, n13, n14, n15⟩ := fd
      have e2 : (some (n1, n2, n3, n4, n5, n6, n7, n15) : He.FnW) = some (d.name, d.qual, d.params, .stmts d.body, d.scope, mainGlobals, [], builtinsNs) := e
      simp only [Option.some.injEq, Prod.mk.injEq] at e2
      obtain ⟨h1, h2, h3, h4, h5, h6, h7, h8⟩ := e2
      subst h1 h2 h3 h4 h5 h6 h7 h8
      have c3 : (PySem.W.codeIn K n13 d.qual && He.dflB K n8 (d.dvs K)) = true := c2
      obtain ⟨k1, k2⟩ := He.ba c3
      exact ⟨_, ⟨oc, od, n8, n9, n10, n11, n12, n13, n14, osl, rfl, q, k1, He.dflB_ok k2, .inl rfl⟩, kp⟩
    | _ => cases c2
section
variable {K : PySem.W.Frag} {h : Heap} {mg : Str → Option Value}
theorem int_cst (X : K.In h) (G : h.Ns mainGlobals mg) {x : Str} {i : Int} (c : (He.Fa.int x i).ok K = true) : Cst K mg x (.int i) := by
  obtain ⟨t, e⟩ := He.int_ok X G c
  exact ⟨_, .int i, e, ⟨t, rfl⟩, fun F => .int i⟩
end
section
variable {fb : List Fb} {fn : List DefA} {K : PySem.W.Frag}
theorem SaysA.fact (c : SaysA fb fn K) (i : Nat) {f : Fb} (h : fb[i]? = some f := by rfl) : f.ok K = true := by
  have c1 := (He.ba (show ((fb.all fun f => f.ok K) && fn.all fun d => d.ok K) = true from congrArg (fun z : AlA => z.1) c)).1
  exact List.all_eq_true.mp c1 f (List.mem_of_getElem? h)
theorem SaysA.def_ (c : SaysA fb fn K) (i : Nat) {d : DefA} (h : fn[i]? = some d := by rfl) : ∃ fd, FunD K d.name d.qual d.params d.body d.scope (d.dvs K) [] (d.at_.ad K) fd := by
  have c2 := (He.ba (show ((fb.all fun f => f.ok K) && fn.all fun d => d.ok K) = true from congrArg (fun z : AlA => z.1) c)).2
  have e : fn.map (fun d => fnA K d.at_) = fn.map DefA.val := congrArg (fun z : AlA => z.2) c
  have e2 : (fn.map fun d => fnA K d.at_)[i]? = (fn.map DefA.val)[i]? := by rw [e]
  rw [List.getElem?_map, List.getElem?_map, h] at e2
  exact DefA.funD (Option.some.inj e2) (List.all_eq_true.mp c2 d (List.mem_of_getElem? h))
end
theorem law_callG {P : Program} {w : World} {K : PySem.W.Frag} {mg mb : Str → Option Value} {CX : CXT} {k : Nat} {fa a : Addr} {fd : FuncData} {x : Str} {sp : Sp} {s₁ : Shared} {vs : List Value} {ns : List Int}
    (KX : K.In s₁.heap) (hnl : ∀ a o, K.lookup a = some o → isLst o = false ∧ isTb o = false) (hns : s₁.heap.Ns mainGlobals mg) (hb : s₁.heap.Ns builtinsNs mb) (hbb : ∀ x : Str, x ≠ "__name__" → mb x = bootBuiltins x) (hlim : s₁.heap.NoLimit) (hg : s₁.gens = #[])
    (hT : TbsOk K s₁.heap) (hbm : ∃ (bm : Addr) (ob : Obj), mg "__builtins__" = some (.ref bm) ∧ bm ≠ builtinsNs ∧ s₁.heap.get? bm = some ob ∧ ob.cls = .type "module" ∧ ob.dict = some builtinsNs ∧ ob.data = .plain)
    (ha : s₁.heap.get? a = some { cls := .type "list", data := .seq vs.toArray }) (hi : IntsAre vs ns) (hl : ns.length ≤ sizeLine) (hr : Room k callerA)
    (F : ∀ base : Heap, K.In base → base.Ns mainGlobals mg → (∀ p ∈ tbC K, LamX.TabB base mg p.1 p.2) → FnG true P w K mg base CX k fa fd [x] sp) (hbind : ∀ (s : Shared) (u : Value), BindsTo s fd ⟨[u], []⟩ [(x, u)])
    (hsp : ∀ (H : Hp) (o : Obj), (∀ p ∈ tbC K, H p.2 = some (.tbl #[])) → H a = some (.frz o (.lst (ns.map V.int))) → sp [.ref a] H (fun v _ => v = .bl true) fun _ _ _ => False)
    (hCX : ∀ H e s', CX [] H s₁ (fun _ _ _ => False) e s' → False) :
    codeAny (model P w) callerA (.call (.ref fa) ⟨[.ref a], []⟩) (fun r s' => r = .ok (.ret (.bool true)) ∧ OldK s₁.heap s'.heap ∧ s'.os = s₁.os ∧ AllBare s'.gens) s₁ := by
  have rv := vals_ints hi
  have lenV := hi.length
  have inT : ∀ b : Addr, b ∈ (tbC K).map (·.2) → s₁.heap.get? b = some { cls := .none, data := .fields #[] } := fun b m => by
    obtain ⟨p, hp, e⟩ := List.mem_map.mp m
    exact e ▸ (hT p hp).1
  have aT : a ∉ (tbC K).map (·.2) := fun m => by
    have q := inT a m
    rw [ha] at q
    cases congrArg Obj.data (Option.some.inj q)
  have noT : ∀ b : Addr, b ∈ (tbC K).map (·.2) → K.lookup b = none := fun b m => by
    cases q : K.lookup b with
    | none => rfl
    | some o =>
      have e := KX b o q
      rw [inT b m] at e
      cases e
      exact absurd (hnl b _ q).2 (by simp [isTb])
  have noAt : K.lookup a = none := by
    cases q : K.lookup a with
    | none => rfl
    | some o =>
      have e := KX a o q
      rw [ha] at e
      cases e
      exact absurd (hnl a _ q).1 (by simp [isLst])
  -- what is tracked: the script and the tables
  obtain ⟨H, hH⟩ : ∃ H : Hp, H = fun b => if b = a then some (.frz { cls := .type "list", data := .seq vs.toArray } (.lst (ns.map V.int))) else if b ∈ (tbC K).map (·.2) then some (.tbl #[]) else none := ⟨_, rfl⟩
  have Ha : H a = some (.frz { cls := .type "list", data := .seq vs.toArray } (.lst (ns.map V.int))) := by rw [hH]; exact if_pos rfl
  have HT : ∀ b, b ∈ (tbC K).map (·.2) → H b = some (.tbl #[]) := fun b m => by
    rw [hH]
    exact (if_neg fun z : b = a => aT (by rw [← z]; exact m)).trans (if_pos m)
  have HO : ∀ b, b ≠ a → b ∉ (tbC K).map (·.2) → H b = none := fun b n m => by
    rw [hH]
    exact (if_neg n).trans (if_neg m)
  have hok : HOk P w H s₁.heap := fun b u z => by
    by_cases e : b = a
    · rw [e, Ha] at z
      cases z
      rw [e]
      exact ⟨ha, by rw [List.length_map]; exact hl, vs, _, rv, ha⟩
    · by_cases m : b ∈ (tbC K).map (·.2)
      · rw [HT b m] at z
        cases z
        exact inT b m
      · rw [HO b e m] at z
        cases z
  have base_of : ∀ {b : Addr} {o : Obj}, s₁.heap.get? b = some o → H b = none → (hidT s₁.heap H).get? b = some o := fun e n => hidT_get e n
  have free : ∀ {b : Addr} {o : Obj}, s₁.heap.get? b = some o → (∀ vs n, o.data ≠ .seq vs n) → o.data ≠ .fields #[] → H b = none := fun {b o} e h1 h2 => by
    refine HO b (fun z => ?_) fun m => ?_
    · rw [z, ha] at e
      cases e
      exact h1 _ _ rfl
    · rw [inT b m] at e
      cases e
      exact h2 rfl
  have freeD : ∀ {b : Addr} {o : Obj} {es : Array DictEntry} {ep : Nat}, s₁.heap.get? b = some o → o.data = .dict es ep → H b = none := fun {b o es ep} e d => free e (fun vs n z => by rw [d] at z; cases z) fun z => by rw [d] at z; cases z
  have nsK : ∀ {b : Addr} {m : Str → Option Value}, s₁.heap.Ns b m → (hidT s₁.heap H).Ns b m := fun {b m} ⟨o, es, ep, e, d, r⟩ => ⟨o, es, ep, base_of e (freeD e d), d, r⟩
  have hKb : K.In (hidT s₁.heap H) := fun b o e => base_of (KX b o e) (HO b (fun z => by rw [z, noAt] at e; cases e) fun m => by rw [noT b m] at e; cases e)
  have hM : Mod K mg (hidT s₁.heap H) := ⟨hKb, nsK hns, ⟨mb, nsK hb, hbb⟩, let ⟨mc, h1, h2⟩ := hlim; ⟨mc, nsK h1, h2⟩⟩
  have TB : ∀ p ∈ tbC K, LamX.TabB (hidT s₁.heap H) mg p.1 p.2 := fun p hp => by
    obtain ⟨hTp, o, us, file, tf, flags, tg, inF, text, tt, e1, r1, r2, r3, rest⟩ := hT p hp
    have mP : p.2 ∈ (tbC K).map (·.2) := List.mem_map.mpr ⟨p, hp, rfl⟩
    refine ⟨?_, ?_, fun z => ?_⟩
    · refine ⟨o, us, file, tf, flags, tg, inF, text, tt, base_of e1 (free e1 (fun vs n z => ?_) fun z => ?_), r1, r2, r3, rest⟩
      · rw [r2] at z
        cases z
      · rw [r2] at z
        cases z
        simp at r3
    · obtain ⟨bm, ob, b1, b2, b3, b4, b5, b6⟩ := hbm
      refine ⟨bm, ob, b1, b2, fun q => ?_, fun q => ?_, base_of b3 (free b3 (fun vs n z => ?_) fun z => ?_), b4, b5, b6⟩
      · obtain ⟨o, es, ep, e, hd, _⟩ := hns
        rw [q, e] at b3
        cases b3
        rw [hd] at b6
        cases b6
      · rw [q, hTp] at b3
        cases b3
        cases b6
      · rw [b6] at z
        cases z
      · rw [b6] at z
        cases z
    · obtain ⟨o, es, ep, e, hd, _⟩ := hns
      rw [z, hTp] at e
      cases e
      cases hd
  have e0 : Env0 P w K mg (hidT s₁.heap H) callerA [] s₁ H := ⟨rfl, hM, fun b o e => of_hidT e, Nat.le_of_eq (hidT_size _ _), trivial, fun b hb => absurd (show b ∈ ([] : List Addr) from hb) (by simp), hok, .of_eq hg⟩
  refine codeAny_mono ((F _ hKb (nsK hns) TB).run callerA [] s₁ H ⟨[.ref a], []⟩ [.ref a] [.ref a] _ _ (fun _ => rfl) hr e0 (hbind s₁ (.ref a)) (.cons rfl .nil) (hsp H _ (fun p hp => HT _ (List.mem_map.mpr ⟨p, hp, rfl⟩)) Ha)) fun r s' h => ?_
  cases r with
  | error e => exact (hCX H e s' h).elim
  | ok fl =>
    cases fl with
    | next => exact False.elim h
    | brk => exact False.elim h
    | cont => exact False.elim h
    | ret u =>
      obtain ⟨v, H', os, bare, un, hok', r', q⟩ := h
      have q' : v = .bl true := q
      subst q'
      obtain rfl : u = Value.bool true := r'
      have key : ∀ b o, b ∉ (tbC K).map (·.2) → s₁.heap.get? b = some o → s'.heap.get? b = some o := fun b o nb e => by
        by_cases z : b = a
        · rw [z] at e ⊢
          obtain ⟨e1, _⟩ := hok' a _ (un.frzs a _ _ Ha)
          rw [ha] at e
          cases e
          exact e1
        · exact un.keep b o e (HO b z nb) (by intro z; exact absurd (show b ∈ ([] : List Addr) from z) (by simp)) (by simp)
      have grown : ∀ b, b ∈ (tbC K).map (·.2) → ∃ more : Array Value, s'.heap.get? b = some { cls := .none, data := .fields more } := fun b m => by
        obtain ⟨more, z⟩ := un.tbls b #[] (HT b m)
        exact ⟨_, hok' b _ z⟩
      refine ⟨rfl, ⟨fun b o e => ?_, fun b o e => ?_⟩, os, bare⟩
      · by_cases m : b ∈ (tbC K).map (·.2)
        · obtain ⟨more, hm⟩ := grown b m
          obtain ⟨p, hp, ep⟩ := List.mem_map.mp m
          rw [inT b m] at e
          cases e
          subst ep
          exact .inr (.inl ⟨((hT p hp).2.tab (hT p hp).1).isCodeTable, rfl, #[], more, rfl, by rw [Array.empty_append]; exact hm⟩)
        · exact .inl (key b o m e)
      · by_cases m : b ∈ (tbC K).map (·.2)
        · obtain ⟨more, hm⟩ := grown b m
          exact ⟨_, hm⟩
        · exact ⟨o, key b o m e⟩
/-- a law by its raw meaning -/
theorem law_sp {K : PySem.W.Frag} {r : Fn} {a : Addr} {ns : List Int} {io : List Cell} (h : r [.val (.lst (ns.map .int))] [] = .rt (.val (.bl true)) io) (H : Hp) (o : Obj) (hT : ∀ p ∈ tbC K, H p.2 = some (.tbl #[])) (hH : H a = some (.frz o (.lst (ns.map V.int)))) :
    spD K 1 r [.ref a] H (fun v _ => v = .bl true) fun _ _ _ => False := by
  obtain ⟨F, hF⟩ : ∃ F : Hp, F = fun b => if b = a then H b else none := ⟨_, rfl⟩
  have all : ∀ ns : List Int, IsAll K F (ns.map V.int) (ns.map D.int) := fun ns => by
    induction ns with
    | nil => exact .nil
    | cons n r ih => exact .cons (.int n) ih
  have Fa : F a = some (.frz o (.lst (ns.map V.int))) := by rw [hF, ← hH]; exact if_pos rfl
  have Fs : Sub F H := fun b u e => by
    rw [hF] at e
    by_cases z : b = a
    · exact (if_pos z).symm.trans e
    · cases (if_neg z).symm.trans e
  refine ⟨F, [], [.val (.lst (ns.map .int))], [], ⟨Fs, by simp, fun _ z => by simp at z, rfl, fun j a c e => by simp at e, rfl, fun i x e => ?_, fun p hp => ?_, fun p hp => ?_⟩, rfl, ?_⟩
  · cases i with
    | zero => simp at e; subst e; exact ⟨.ref a, rfl, .lst (.inr ⟨o, Fa⟩) (all ns)⟩
    | succ i => simp at e
  · obtain ⟨c, hc⟩ := tbOf_C hp
    exact ⟨#[], hT _ hc, trivial, fun pos cv hc => by simp [codeAmong] at hc⟩
  · obtain ⟨c, hc⟩ := tbOf_C hp
    rw [hF]
    exact if_neg fun z => by
      have q := hT _ hc
      rw [show (c, p.1).2 = a from z, hH] at q
      cases q
  · rw [h]
    intro v H' F' _ ret
    cases ret
    rfl
theorem walk_G {l : PySem.W.OpenLaw} {n k : Nat} {q : Program} {loose : List Str} {XP : (Str → Option Value) → Heap → Prop} {YP : World → Heap → Prop} {d : DefRec} {x : Str} {r : Fn}
    (hn : l.most = some n) (hn2 : n ≤ sizeLine) (hdf : d.params.defaults = []) (hr : Room k callerA)
    (F : ∀ (w : World) (mg : Str → Option Value) (fa : Addr) (h : Heap), YP w h → h.Ns mainGlobals mg → mg d.name = some (.ref fa) →
      ∃ (K : PySem.W.Frag) (fd : FuncData), K.In h ∧ (∀ a o, K.lookup a = some o → isLst o = false ∧ isTb o = false) ∧ TbsOk K h ∧ (∀ (s : Shared) (u : Value), BindsTo s fd ⟨[u], []⟩ [(x, u)]) ∧
        ∀ base : Heap, K.In base → base.Ns mainGlobals mg → (∀ p ∈ tbC K, LamX.TabB base mg p.1 p.2) → FnG true l.prog w K mg base (L2.CX l.prog w) k fa fd [x] (spD K 1 r))
    (hlaw : ∀ ns : List Int, ns.length ≤ n → ∃ io, r [.val (.lst (ns.map .int))] [] = .rt (.val (.bl true)) io) :
    PySem.W.WalkO q loose XP YP l.row.toRowW d [] (fun f vs => PySem.call f vs) := by
  refine Att.attach_call hn hdf fun w s₀ s₁ mg mb fa o pm cd doc a vs ns G Y ho hd hcd hmg hobj hints hlen hg => ?_
  obtain ⟨K, fd, KX, hnl, hT, hb, hF⟩ := F w mg fa _ Y G.T.g hmg
  obtain ⟨io, hio⟩ := hlaw ns hlen
  refine law_callG KX hnl G.T.g G.T.b G.T.builtins G.T.nolimit hg hT G.T.bmain hobj hints (Nat.le_trans hlen hn2) hr hF hb (fun H o hT hH => law_sp hio H o hT hH) fun H e s' h => ?_
  obtain ⟨_, _, _, _, _, _, _, _, _, _, _, _, z⟩ := h
  exact z.elim
end DL
namespace DL
open PySem PySem.Spec PyProof.Rows L2
end DL
set_option maxHeartbeats 400000
namespace DL
open PySem PySem.Spec PyProof.Rows L2
theorem obsRG_eq {as : List Addr} {fb : List Fb} {fn : List DefA} {g : Addr → Option Obj} {s : Shared} (h : ∀ a, g a = s.heap.get? a) : obsRG as fb fn g = (hookR as fb fn).obs s := by
  have e : g = s.heap.get? := funext h
  rw [e]
  rfl
end DL
set_option maxHeartbeats 0
namespace Wk
open PySem PySem.Spec PyProof.Rows L2 DL
theorem ob_eq (s : PySem.W.SharedT) : ob s = hk.obs s.abs := obsRG_eq (HandSHeadRun.getT_eq s)
end Wk
set_option maxHeartbeats 2000000
namespace DL
open PySem PySem.Spec PyProof.Rows L2
end DL
set_option maxHeartbeats 2000000
namespace DL
open PySem PySem.Spec PyProof.Rows L2
section
variable {C : Ct} {W : WX} {X : Cx} {σ : L2.St} {H F : Hp} {s : S} {st : Stmt} {f : S → Out}
def S.frz (s : S) (i : Nat) : S := match s.sl[i]? with
  | some (.own c) => s.put i (.val c.d)
  | _ => s
theorem Rel.frz (r : Rel C σ H F s) (i : Nat) : ∃ F', Sub F F' ∧ Rel C σ H F' (s.frz i) := by
  unfold S.frz
  split
  · rename_i c h
    obtain ⟨a, F', _, u, _, r'⟩ := r.freeze h
    exact ⟨F', u, r'⟩
  · exact ⟨F, Sub.refl _, r⟩
def frzO (i : Nat) (f : S → Out) : S → Out := fun s => match f s with
  | .nx s' => .nx (s'.frz i)
  | o => o
theorem ds_frz (i : Nat) (h : DS X C W st f) : DS X C W st (frzO i f) := by
  refine ps_imp h fun E σ H ⟨F, s, r, q⟩ => ⟨F, s, r, ?_⟩
  unfold frzO at q
  cases e : f s with
  | nx s' =>
    rw [e] at q
    intro σ' H' F' r' u
    obtain ⟨F2, u2, r2⟩ := r'.frz i
    exact q σ' H' F2 r2 (u.trans u2)
  | _ => rw [e] at q; exact q
end
end DL
set_option maxHeartbeats 2000000
namespace DL
open PySem PySem.Spec PyProof.Rows L2
end DL
set_option maxHeartbeats 2000000
namespace DL
open PySem PySem.Spec PyProof.Rows L2
mutual
def D.lf : D → Bool
  | .non => true
  | .bl _ => true
  | .int _ => true
  | .str _ => true
  | .ty _ => true
  | .glo _ => true
  | .tup xs => D.lfs xs
  | _ => false
def D.lfs : List D → Bool
  | [] => true
  | x :: xs => D.lf x && D.lfs xs
end
def lessA (F : Hp) (a : Addr) : Hp := fun b => if b = a then none else F b
section
variable {K : PySem.W.Frag} {F : Hp} {a : Addr} {zs : List V}
theorem lessA_ne {b : Addr} (h : b ≠ a) : lessA F a b = F b := if_neg h
theorem lessA_rd {b : Addr} {u : HO} (ha : F a = some (.lst zs)) (hu : ∀ z, u ≠ .lst z) (h : Rd F b u) : Rd (lessA F a) b u := by
  have ne : b ≠ a := fun e => by
    subst e
    rcases h with h | ⟨o, h⟩
    · rw [ha] at h; cases h; exact hu _ rfl
    · rw [ha] at h; cases h
  rcases h with h | ⟨o, h⟩
  · exact .inl (by rw [lessA_ne ne]; exact h)
  · exact .inr ⟨o, by rw [lessA_ne ne]; exact h⟩
theorem lessA_sq {b : Addr} {xs : List V} (ha : F a = some (.lst zs)) (h : SqT K F b xs) : SqT K (lessA F a) b xs := by
  rcases h with h | h
  · exact .inl (lessA_rd ha (fun z e => nomatch e) h)
  · exact .inr h
mutual
theorem Is.less (ha : F a = some (.lst zs)) : ∀ {v : V} {d : D}, d.lf = true → Is K F v d → Is K (lessA F a) v d
  | _, _, _, .non => .non
  | _, _, _, .bl b => .bl b
  | _, _, _, .int i => .int i
  | _, _, _, .str x => .str x
  | _, _, _, .ty n => .ty n
  | _, _, _, .glo x => .glo x
  | _, _, l, .tup h r => .tup (lessA_sq ha h) (IsAll.less ha (by simpa only [D.lf] using l) r)
  | _, _, l, .lst h r => by simp [D.lf] at l
  | _, _, l, .ins h r => by simp [D.lf] at l
  | _, _, l, .dic h r => by simp [D.lf] at l
  | _, _, l, .tdc h r n m => by simp [D.lf] at l
  | _, _, l, .exn _ _ _ _ _ _ => by simp [D.lf] at l
  | _, _, l, .exn0 _ _ _ _ => by simp [D.lf] at l
theorem IsAll.less (ha : F a = some (.lst zs)) : ∀ {vs : List V} {ds : List D}, D.lfs ds = true → IsAll K F vs ds → IsAll K (lessA F a) vs ds
  | _, _, _, .nil => .nil
  | _, _, l, .cons h r => by
    simp only [D.lfs, Bool.and_eq_true] at l
    exact .cons (Is.less ha l.1 h) (IsAll.less ha l.2 r)
end
end
end DL
set_option maxHeartbeats 2000000
namespace DL
open PySem PySem.Spec PyProof.Rows L2
section
variable {C : Ct} {W : WX} {X : Cx} {σ : L2.St} {H F H' F' : Hp} {s : S} {es : List Expr} {fs : M (List RV)} {K : PySem.W.Frag}
theorem RvAll.ext (e : Ext H F H' F') : ∀ {sl : List Sl} {vs : List V} {rs : List RV} {A : List Addr}, RvAll C σ F H sl vs rs A → RvAll C σ F' H' sl vs rs A
  | _, _, _, _, .nil => .nil
  | _, _, _, _, .val h r => .val (h.up e.f) (RvAll.ext e r)
  | _, _, _, _, .own h1 h2 h3 h4 h5 r => by
    obtain ⟨o, ho⟩ := h3.there
    exact .own (by rw [e.o _ (by rw [ho]; exact fun z => nomatch z)]; exact h1) h2 (h3.up e.f (e.h _)) h4 h5 (RvAll.ext e r)
end
end DL
set_option maxHeartbeats 2000000
namespace DL
open PySem PySem.Spec PyProof.Rows L2
end DL
set_option maxHeartbeats 2000000
namespace DL
open PySem PySem.Spec PyProof.Rows L2
end DL
set_option maxHeartbeats 4000000
namespace L2
open PySem PySem.Spec PyProof.Rows
end L2
namespace DL
open PySem PySem.Spec PyProof.Rows L2
end DL
set_option maxHeartbeats 2000000
namespace DL
open PySem PySem.Spec PyProof.Rows L2
def insL (ds : List D) (k : Int) (d : D) : List D := ds.take k.toNat ++ [d] ++ ds.drop k.toNat
def kIns (i : Nat) (kd : D × D) (s : S) : Out := match (s.cell i).bind lstOf, kd.1 with
  | some ds, .int k => if ds.length < LN ∧ 0 ≤ k ∧ k ≤ 1000000 then .nx (s.setCell i (.lst (insL ds k kd.2))) else .bad
  | _, _ => .bad
def sIns (i : Nat) (fk fe : M D) : S → Out := sOf (mbind (mhas i) fun _ => mbind (fun s => mopt ((s.cell i).bind lstOf) s) fun _ => mbind fk fun k => mbind fe fun d => mret (k, d)) (kIns i)
@[simp] theorem q_ins (i : Nat) (fk fe : M D) (s : S) : sIns i fk fe s = sOf (mbind (mhas i) fun _ => mbind (fun s => mopt ((s.cell i).bind lstOf) s) fun _ => mbind fk fun k => mbind fe fun d => mret (k, d)) (kIns i) s := rfl
end DL
set_option maxHeartbeats 2000000
namespace DL
open PySem PySem.Spec PyProof.Rows L2
end DL
namespace DL
open PySem PySem.Spec PyProof.Rows L2
end DL
set_option maxHeartbeats 2000000
namespace DL
open PySem PySem.Spec PyProof.Rows L2
end DL
set_option maxHeartbeats 2000000
namespace DL
open PySem PySem.Spec PyProof.Rows L2
end DL
set_option maxHeartbeats 2000000
namespace DL
open PySem PySem.Spec PyProof.Rows L2 PySem.W
end DL
set_option maxHeartbeats 2000000
namespace DL
open PySem PySem.Spec PyProof.Rows L2
section
variable {K : PySem.W.Frag} {F : Hp}
def getT (k : List Int) (kvs : List (List Int × D)) : Option D := (kvs.find? fun kv => decide (kv.1 = k)).map (·.2)
def putT (kvs : List (List Int × D)) (k : List Int) (d : D) : List (List Int × D) := if (getT k kvs).isSome = true then kvs.map (fun kv => if kv.1 = k then (kv.1, d) else kv) else kvs ++ [(k, d)]
theorem IsTd.keys : ∀ {xs : List Te} {kvs : List (List Int × D)}, IsTd K F xs kvs → xs.map (·.1) = kvs.map (·.1)
  | _, _, .nil => rfl
  | _, _, .cons _ _ _ r => by rw [List.map_cons, List.map_cons, IsTd.keys r]
theorem IsTd.len {xs : List Te} {kvs : List (List Int × D)} (h : IsTd K F xs kvs) : xs.length = kvs.length := by
  have := congrArg List.length h.keys
  simpa using this
theorem IsTd.val (k : List Int) : ∀ {xs : List Te} {kvs : List (List Int × D)}, IsTd K F xs kvs → (∀ d, getT k kvs = some d → ∃ p v, atKey xs k = some p ∧ RelV v p.2 ∧ Is K F v d) ∧ (atKey xs k).isSome = (getT k kvs).isSome
  | _, _, .nil => ⟨fun d h => (nomatch (show (none : Option D) = some d from h)), rfl⟩
  | _, _, .cons (k := k') (b := bb) (v := vv) (u := uu) (d := d') b h q r => by
    obtain ⟨i1, i2⟩ := IsTd.val k r
    by_cases e : k' = k
    · refine ⟨fun d h' => ?_, ?_⟩
      · simp only [getT, List.find?_cons, e, decide_true, Option.map_some, Option.some.injEq] at h'
        subst h'
        exact ⟨(bb, uu), vv, by simp [atKey, List.find?_cons, e], q, h⟩
      · simp [atKey, getT, List.find?_cons, e]
    · simp only [atKey, getT, List.find?_cons, e, decide_false] at i1 i2 ⊢
      exact ⟨i1, i2⟩
theorem IsTd.repl {k : List Int} {v : V} {u : Value} {d : D} (hv : Is K F v d) (ru : RelV v u) : ∀ {xs : List Te} {kvs : List (List Int × D)}, IsTd K F xs kvs → IsTd K F (xs.map (putAt k u)) (kvs.map fun kv => if kv.1 = k then (kv.1, d) else kv)
  | _, _, .nil => .nil
  | _, _, .cons (k := k') b h q r => by
    rw [List.map_cons, List.map_cons]
    by_cases e : k' = k
    · simp only [putAt, e, if_true]
      exact .cons (by rw [← e]; exact b) hv ru (IsTd.repl hv ru r)
    · simp only [putAt, e, if_false]
      exact .cons b h q (IsTd.repl hv ru r)
theorem IsTd.app : ∀ {xs ys : List Te} {kvs ls : List (List Int × D)}, IsTd K F xs kvs → IsTd K F ys ls → IsTd K F (xs ++ ys) (kvs ++ ls)
  | _, _, _, _, .nil, s => s
  | _, _, _, _, .cons b h q r, s => .cons b h q (IsTd.app r s)
theorem IsTd.put {k : List Int} {b : Addr} {v : V} {u : Value} {d : D} (hb : SqT K F b (k.map V.int)) (hv : Is K F v d) (ru : RelV v u) {xs : List Te} {kvs : List (List Int × D)} (h : IsTd K F xs kvs) : IsTd K F (storedH xs k b u) (putT kvs k d) := by
  unfold storedH putT
  rw [(h.val k).2]
  split
  · exact h.repl hv ru
  · exact h.app (.cons hb hv ru .nil)
end
section
variable {C : Ct} {W : WX} {X : Cx} {σ : L2.St} {H F : Hp} {s : S} {fa fb : M D} {a b : Expr} {pos : Pos}
def lenTC : List D → Option D
  | [.tdc kvs] => some (.int (kvs.length : Int))
  | _ => none
end
end DL
set_option maxHeartbeats 2000000
namespace DL
open PySem PySem.Spec PyProof.Rows L2
end DL
set_option maxHeartbeats 2000000
namespace DL
open PySem PySem.Spec PyProof.Rows L2
end DL
set_option maxHeartbeats 2000000
namespace DL
open PySem PySem.Spec PyProof.Rows L2
end DL
set_option maxHeartbeats 2000000
namespace DL
open PySem PySem.Spec PyProof.Rows L2
end DL
set_option maxHeartbeats 2000000
namespace DL
open PySem PySem.Spec PyProof.Rows L2
end DL
set_option maxHeartbeats 2000000
namespace DL
open PySem PySem.Spec PyProof.Rows L2
end DL
set_option maxHeartbeats 2000000
namespace DL
open PySem PySem.Spec PyProof.Rows L2
end DL
set_option maxHeartbeats 2000000
namespace DL
open PySem PySem.Spec PyProof.Rows L2 PySem.W
end DL
set_option maxHeartbeats 2000000
namespace DL
open PySem PySem.Spec PyProof.Rows L2
end DL
set_option maxHeartbeats 2000000
namespace DL
open PySem PySem.Spec PyProof.Rows L2
end DL
set_option maxHeartbeats 2000000
namespace DL
open PySem PySem.Spec PyProof.Rows L2
end DL
set_option maxHeartbeats 2000000
namespace DL
open PySem PySem.Spec PyProof.Rows L2
/-- what of F is no instance and no dict stands in G -/
def Strip (F G : Hp) : Prop := ∀ b o, F b = some o → (∃ xs, o = .lst xs) ∨ (∃ xs, o = .tup xs) ∨ (∃ p u, o = .frz p u) → G b = some o
section
variable {K : PySem.W.Frag} {F G : Hp}
theorem Strip.rl (S : Strip F G) {a : Addr} {xs : List V} (h : Rd F a (.lst xs)) : Rd G a (.lst xs) := by
  rcases h with h | ⟨o, h⟩
  · exact .inl (S _ _ h (.inl ⟨_, rfl⟩))
  · exact .inr ⟨o, S _ _ h (.inr (.inr ⟨_, _, rfl⟩))⟩
theorem Strip.rt (S : Strip F G) {a : Addr} {xs : List V} (h : SqT K F a xs) : SqT K G a xs := by
  rcases h with h | h
  · rcases h with h | ⟨o, h⟩
    · exact .inl (.inl (S _ _ h (.inr (.inl ⟨_, rfl⟩))))
    · exact .inl (.inr ⟨o, S _ _ h (.inr (.inr ⟨_, _, rfl⟩))⟩)
  · exact .inr h
end
theorem IsFs.app1 {K : PySem.W.Frag} {F : Hp} {f : Str} {v : V} {d : D} (q : Is K F v d) : ∀ {vs : List (Str × V)} {fs : List (Str × D)}, IsFs K F vs fs → IsFs K F (vs ++ [(f, v)]) (fs ++ [(f, d)])
  | _, _, .nil => .cons q .nil
  | _, _, .cons h r => .cons h (IsFs.app1 q r)
def Sl.nown : Sl → Bool
  | .own _ => false
  | _ => true
/-- what stands while the dict is filled -/
structure RelN (C : Ct) (σ : L2.St) (H F : Hp) (s : S) (i : Nat) (a b dx : Addr) (c f : Str) (vs : List (Str × V)) (fs : List (Str × D)) (ep : Nat) (xs : List Te) (kvs : List (List Int × D)) : Prop where
  A : C.A = [a]
  sub : Sub F H
  keep : ∀ x o, C.H0 x = some o → x ∉ C.A → Kept o (H x)
  f0 : ∀ x, C.H0 x ≠ none → F x = C.F0 x
  len : s.sl.length = σ.length
  slot : ∀ (k : Nat) (x : Sl), s.sl[k]? = some x → SlotOk C F H σ[k]? x
  own : s.sl.all Sl.nown = true
  hi : s.sl[i]? = some (.io 0)
  ha : H a = some (.ins (He.ga C.K c) dx (vs ++ [(f, .ref b)]))
  hb : H b = some (tdO b ep xs)
  ifs : IsFs C.K F vs fs
  itd : IsTd C.K F xs kvs
  nk : (kvs.map (·.1)).Nodup
  kl : kvs.length ≤ 100000
  fa : F a = none
  fb : F b = none
  h0b : C.H0 b = none
  inn : ∀ x ∈ C.A, C.H0 x ≠ none
  nd : C.A.Nodup
  s0 : S0 C
  tabs : TabsF C.K F H
section
variable {C : Ct} {W : WX} {σ : L2.St} {H F H' F' : Hp} {s : S} {i : Nat} {a b dx : Addr} {c f : Str} {vs : List (Str × V)} {fs : List (Str × D)} {ep : Nat} {xs : List Te} {kvs : List (List Int × D)}
def lessN (F : Hp) (a b : Addr) : Hp := fun x => if x = a ∨ x = b then none else F x
theorem lessN_ne {x : Addr} (h : x ≠ a) (k : x ≠ b) : lessN F a b x = F x := if_neg fun e => e.elim h k
theorem RelN.ne (r : RelN C σ H F s i a b dx c f vs fs ep xs kvs) : a ≠ b := fun e => by
  have h := r.ha
  rw [e, r.hb] at h
  exact nomatch (show HO.ext _ = HO.ins _ _ _ from Option.some.inj h)
theorem RelN.there (r : RelN C σ H F s i a b dx c f vs fs ep xs kvs) {x : Addr} (h : C.H0 x ≠ none) : H x ≠ none := by
  cases q : C.H0 x with
  | none => exact absurd q h
  | some o =>
    by_cases m : x ∈ C.A
    · rw [r.A] at m
      rw [List.mem_singleton.mp m, r.ha]
      exact fun z => nomatch z
    · exact (r.keep x o q m).ne
/-- what was lent comes back -/
theorem RelN.back {F1 : Hp} {s2 : S} (r : RelN C σ H F s i a b dx c f vs fs ep xs kvs) (u1 : Sub F F1) (e3 : ∀ x, x ≠ a → x ≠ b → F1 x = F x) (eb : F1 b = some (tdO b ep xs)) (ea : F1 a = some (.ins (He.ga C.K c) dx (vs ++ [(f, .ref b)])))
    (r2 : Rel ⟨C.K, H, F1, []⟩ σ H' F' s2) (u2 : Sub F1 F') : RelN C σ H' (lessN F' a b) s i a b dx c f vs fs ep xs kvs ∧ Sub F (lessN F' a b) ∧ Strip F' (lessN F' a b) := by
  have uf : Sub F (lessN F' a b) := fun x o e => by
    have h1 : x ≠ a := fun z => by rw [z, r.fa] at e; cases e
    have h2 : x ≠ b := fun z => by rw [z, r.fb] at e; cases e
    rw [lessN_ne h1 h2]; exact u2 _ _ (u1 _ _ e)
  have kk : ∀ x o, H x = some o → Kept o (H' x) := fun x o h => r2.keep x o h fun z => nomatch z
  refine ⟨⟨r.A, fun x o e => ?_, fun x o h m => (r.keep x o h m).trans (kk x), fun x h => ?_, r.len, fun k x e => ?_, r.own, r.hi, (kk _ _ r.ha).nt (fun _ z => nomatch z), (kk _ _ r.hb).nt tdO_nt, r.ifs.up uf, r.itd.up uf, r.nk, r.kl, if_pos (.inl rfl), if_pos (.inr rfl), r.h0b, r.inn, r.nd, r.s0,
    r2.tabs.strip fun x q e => by
      rw [lessN_ne (fun z => by rw [z, u2 _ _ ea] at e; exact codeO_ins (Option.some.inj e).symm) (fun z => by rw [z, u2 _ _ eb] at e; exact codeO_tdO (Option.some.inj e).symm)]
      exact e⟩, uf, fun x o e k => ?_⟩
  · by_cases h : x = a ∨ x = b
    · rw [lessN, if_pos h] at e; cases e
    · rw [lessN, if_neg h] at e; exact r2.sub _ _ e
  · have hb : x ≠ b := fun z => h (by rw [z]; exact r.h0b)
    by_cases ha : x = a
    · subst ha
      rw [lessN, if_pos (.inl rfl), ← r.f0 x h, r.fa]
    · rw [lessN_ne ha hb, r2.f0 x (r.there h)]
      show F1 x = _
      rw [e3 x ha hb]; exact r.f0 x h
  · have q := r.slot k x e
    cases x with
    | no => trivial
    | val d => obtain ⟨v, h1, h2⟩ := q; exact ⟨v, h1, h2.up uf⟩
    | own c' =>
      have := List.all_eq_true.mp r.own _ (List.mem_of_getElem? e)
      cases this
    | io m => exact q
  · have h1 : x ≠ a := fun z => by
      subst z
      rw [u2 _ _ ea] at e
      cases e
      rcases k with ⟨_, k⟩ | ⟨_, k⟩ | ⟨_, _, k⟩ <;> cases k
    have h2 : x ≠ b := fun z => by
      subst z
      rw [u2 _ _ eb] at e
      cases e
      rcases k with ⟨_, k⟩ | ⟨_, k⟩ | ⟨_, _, k⟩ <;> exact nomatch k
    rw [lessN_ne h1 h2]; exact e
theorem RelN.put (r : RelN C σ H F s i a b dx c f vs fs ep xs kvs) {j : Nat} (hij : i ≠ j) {v : V} {d : D} (iv : Is C.K F v d) : RelN C (σ.set j (some v)) H F (s.put j (.val d)) i a b dx c f vs fs ep xs kvs := by
  refine ⟨r.A, r.sub, r.keep, r.f0, by show (s.sl.set j _).length = _; rw [List.length_set, List.length_set]; exact r.len, fun k x e => ?_, ?_, ?_, r.ha, r.hb, r.ifs, r.itd, r.nk, r.kl, r.fa, r.fb, r.h0b, r.inn, r.nd, r.s0, r.tabs⟩
  · rcases set_get (show (s.sl.set j (.val d))[k]? = some x from e) with ⟨rfl, rfl, hl⟩ | ⟨hj, e⟩
    · exact ⟨v, by rw [List.getElem?_set_self (by rw [← r.len]; exact hl)], iv⟩
    · rw [List.getElem?_set_ne fun z => hj z.symm]
      exact r.slot k x e
  · rw [List.all_eq_true]
    intro x hx
    obtain ⟨k, hk⟩ := List.getElem?_of_mem hx
    rcases set_get (show (s.sl.set j (.val d))[k]? = some x from hk) with ⟨rfl, rfl, hl⟩ | ⟨hj, e⟩
    · rfl
    · exact List.all_eq_true.mp r.own x (List.mem_of_getElem? e)
  · show (s.sl.set j _)[i]? = _
    rw [List.getElem?_set_ne fun z => hij z.symm]
    exact r.hi
/-- filled -/
theorem RelN.done (r : RelN C σ H F s i a b dx c f vs fs ep xs kvs) : ∃ F', Rel C σ H F' ⟨s.sl, [.ins c (fs ++ [(f, .tdc kvs)])]⟩ ∧ Sub F F' := by
  have ne := r.ne
  have uf : Sub F (upd F b (tdO b ep xs)) := fun x o e => by
    rw [upd_ne fun z => by rw [z, r.fb] at e; cases e]; exact e
  refine ⟨upd F b (tdO b ep xs), ⟨fun x o e => ?_, r.keep, fun x h => ?_, r.len, fun k x e => ?_, by rw [r.A]; rfl, fun k p c' h1 h2 => ?_, fun k l p ⟨_, c', h⟩ => ?_, r.inn, r.nd, r.s0, r.tabs.up uf⟩, uf⟩
  · by_cases h : x = b
    · subst h; rw [upd_same] at e; rw [r.hb]; exact e
    · rw [upd_ne h] at e; exact r.sub _ _ e
  · rw [upd_ne fun z => h (by rw [z]; exact r.h0b)]
    exact r.f0 x h
  · have q := r.slot k x e
    cases x with
    | no => trivial
    | val d => obtain ⟨v, h1, h2⟩ := q; exact ⟨v, h1, h2.up uf⟩
    | own c' =>
      have := List.all_eq_true.mp r.own _ (List.mem_of_getElem? e)
      cases this
    | io m => exact q
  · have hk : k = 0 ∧ p = a := by
      rw [r.A] at h1
      cases k with
      | zero => exact ⟨rfl, (Option.some.inj h1).symm⟩
      | succ k => cases h1
    obtain ⟨rfl, rfl⟩ := hk
    cases h2
    have ia : C.H0 p ≠ none := r.inn p (by rw [r.A]; exact List.mem_singleton.mpr rfl)
    exact ⟨by rw [← r.f0 p ia]; exact r.fa, dx, _, r.ha, IsFs.app1 (.tdc upd_same (r.itd.up uf) r.nk r.kl) (r.ifs.up uf)⟩
  · have h : s.sl[k]? = some (.own c') := h
    have := List.all_eq_true.mp r.own _ (List.mem_of_getElem? h)
    cases this
end
end DL
set_option maxHeartbeats 2000000
namespace DL
open PySem PySem.Spec PyProof.Rows L2
end DL
set_option maxHeartbeats 2000000
namespace DLI
open PySem PySem.Calls PyProof.Rows PySem.W
/-- the tuples so far: f tells their items -/
structure Tups (h0 : Heap) (own : List Addr) (S : Addr) (f : Nat → Value → Value → Prop) (i : Nat) (acc : List Value) (h : Heap) : Prop where
  len : acc.length = i
  at_ : ∀ j v, acc[j]? = some v → ∃ T x y, v = .ref T ∧ f j x y ∧ h.get? T = some { cls := .type "tuple", data := .seq #[x, y] } ∧ T ∉ own ∧ T ≠ S ∧ h0.get? T = none
  nd : acc.Nodup
  keep : ∀ b o, h0.get? b = some o → b ∉ own → b ≠ S → h.get? b = some o
theorem Tups.frame {h0 h h' : Heap} {own : List Addr} {S : Addr} {f : Nat → Value → Value → Prop} {i : Nat} {acc : List Value} (t : Tups h0 own S f i acc h) (k : ∀ b o, b ∉ own → b ≠ S → h.get? b = some o → h'.get? b = some o) : Tups h0 own S f i acc h' :=
  ⟨t.len, fun j v e => let ⟨T, x, y, h1, h2, h3, h4, h5, h6⟩ := t.at_ j v e; ⟨T, x, y, h1, h2, k _ _ h4 h5 h3, h4, h5, h6⟩, t.nd, fun b o e n m => k _ _ n m (t.keep b o e n m)⟩
theorem Tups.push {h0 h h' : Heap} {own : List Addr} {S T : Addr} {f : Nat → Value → Value → Prop} {i : Nat} {acc : List Value} {x y : Value} (t : Tups h0 own S f i acc h) (k : ∀ b o, b ∉ own → b ≠ S → h.get? b = some o → h'.get? b = some o)
    (hf : f i x y) (hT : h'.get? T = some { cls := .type "tuple", data := .seq #[x, y] }) (h1 : T ∉ own) (h2 : T ≠ S) (hn : h.get? T = none) : Tups h0 own S f (i + 1) (acc ++ [.ref T]) h' := by
  have t' := t.frame k
  have h6 : h0.get? T = none := by
    cases q : h0.get? T with
    | none => rfl
    | some o => rw [t.keep T o q h1 h2] at hn; cases hn
  refine ⟨by rw [List.length_append, List.length_singleton, t.len], fun j v e => ?_, ?_, t'.keep⟩
  rotate_left
  · rw [List.nodup_append]
    refine ⟨t.nd, by simp, fun v hv u hu e => ?_⟩
    obtain ⟨j, hj⟩ := List.getElem?_of_mem hv
    obtain ⟨T', x, y, e1, _, e2, _⟩ := t.at_ j v hj
    have hu : u = .ref T := by simpa using hu
    rw [← e, e1] at hu
    cases hu
    rw [e2] at hn; cases hn
  by_cases hj : j < acc.length
  · rw [List.getElem?_append_left hj] at e
    exact t'.at_ j v e
  · rw [List.getElem?_append_right (by omega)] at e
    have hj0 : j - acc.length = 0 := by
      by_cases z : j - acc.length = 0
      · exact z
      · rw [List.getElem?_eq_none (by simp; omega)] at e; cases e
    rw [hj0] at e
    cases e
    have : j = i := by have := t.len; omega
    subst this
    exact ⟨T, x, y, rfl, hf, hT, h1, h2, h6⟩
end DLI
namespace DL
open PySem PySem.Spec PyProof.Rows L2 PySem.W
end DL
set_option maxHeartbeats 2000000
namespace DL
open PySem PySem.Spec PyProof.Rows L2
end DL
set_option maxHeartbeats 2000000
namespace DL
open PySem PySem.Spec PyProof.Rows L2
end DL
set_option maxHeartbeats 2000000
namespace DL
open PySem PySem.Spec PyProof.Rows L2
section
open Builtin Builtin.ObjectAttr
variable {prog : Program} {w : World} {A : Around} {E : Value → Shared → Prop} {R : Result → Shared → Prop} {hp : Heap} {g : Array GenState} {d : Drawn} {t : Nat} {os : OsState}
theorem xi_osa {K : PySem.W.Frag} {B : String} {bmB : List Value} {nm : Str} {tk : Tok} {v : Value} {x Ca : Addr} {fv : Array Value} (SF : PySem.StoreFacts B bmB "object.__setattr__" "object") (X : K.In hp) (hx : hp.get? x = some { cls := .ref Ca, data := .fields fv })
    (hv : PySem.W.excOver K Ca bmB = true) (ht : PySem.W.takerIn K Ca nm = some none) (hh : PySem.W.hasDictIn K Ca = true)
    (hq : ∀ h' tk' dx, (∀ b o, b ≠ x → hp.get? b = some o → h'.get? b = some o) → hp.objs.size ≤ dx → dx ≠ x → h'.get? x = some { cls := .ref Ca, dict := some dx, data := .fields fv } →
      h'.Ns1 dx (fun y => if y = nm then some v else none) → R (.ok (.ret .none)) ⟨h', g, d, tk', os⟩) :
    codeAny (model prog w) A (.call (.builtin "object.__setattr__") ⟨[.ref x, .str nm tk, v], []⟩) R ⟨hp, g, d, t, os⟩ := by
  have hxs : x ≠ hp.objs.size := Nat.ne_of_lt (Heap.lt_size hx)
  refine PySem.W.osa_openX (od := none) SF X ⟨hx, rfl, rfl, trivial⟩ hv ht fun b => ?_
  obtain ⟨cd, hc, hd⟩ := PySem.W.any_some hh
  have hcls : PySem.W.Looks (model prog w) hp (classData Ca) cd := PySem.W.looks_clsIn X hc
  obtain ⟨n1, bs, mro, ns, qn, hd1, sn, sb, ab, col, del⟩ := cd
  dsimp only at hd
  subst hd
  unfold storeInOwnDict ownDictForStores
  repeat (first | with_reducible refine HandSPX.store_in_new ?_ ?_ | with_reducible refine wpAny_loadPart_at hx ?_ | with_reducible refine hcls.at ?_ | wp_step)
  · exact ⟨_, #[], _, (Heap.get?_update_ne _ _ _ _ hxs.symm).trans (Heap.get?_push_at rfl rfl), rfl, fun e he => absurd he (by simp), fun _ => rfl⟩
  · intro h' tk' hn' hs
    have hx₁ : (hp.push { cls := .type "dict", data := .dict #[] }).get? x = some { cls := .ref Ca, data := .fields fv } := Heap.get?_push_of_some _ hx
    refine hq h' tk' hp.objs.size (fun b o hb ho => ?_) (Nat.le_refl _) hxs.symm ?_ hn'
    · exact (hs.2 b (Nat.ne_of_lt (Heap.lt_size ho))).trans ((Heap.get?_update_ne _ _ _ _ hb).trans (Heap.get?_push_of_some _ ho))
    · exact (hs.2 x hxs).trans (Heap.get?_update_self _ hx₁ rfl)
end
structure XIn (K : PySem.W.Frag) (P : Program) (Ca : Addr) (f : Str) (fI : Addr) (B newId i : String) (bmB : List Value) : Prop where
  FB : ExcBaseFacts B newId i bmB
  KF : PySem.W.KxsFacts B i
  SF : StoreFacts B bmB "object.__setattr__" "object"
  init : PySem.W.excInitIn K Ca bmB newId = true
  over : PySem.W.excOver K Ca bmB = true
  hi : PySem.W.findIn K (.ref Ca) "__init__" = some (some (.ref fI))
  ty : PySem.W.typeIn K (.ref fI) = some (.type "function")
  hs : PySem.W.findIn K (.ref Ca) "__setattr__" = some (some (.builtin "object.__setattr__"))
  ht : PySem.W.takerIn K Ca f = some none
  hh : PySem.W.hasDictIn K Ca = true
  hB : PySem.W.subIn K (.ref Ca) (.type B) = some true
  exC : PySem.W.subIn K (.ref Ca) (.type "BaseException") = some true
  tyC : PySem.W.typeIn K (.ref Ca) = some (.type "type")
  kC : PySem.W.keepIn K (.ref Ca) = true
  sup : PySem.W.ks_superIn K Ca Ca "__init__" = some (some (.builtin i))
  sub : PySem.W.mroIn K Ca (.ref Ca) = some true
  nos : PySem.W.nsIn K mainGlobals "super" = some none
  opq : PySem.W.nsIn K cStatics "thirdparty.any" = some none
  fsf : (f == ("self" : Str)) = false
  fdb : (f == ("__debug__" : Str)) = false
  cl : ∃ cd, PySem.W.clsIn K Ca = some cd
  fn : ∃ (qual : Str) (params : Arguments) (body : List Stmt) (scope : Scope) (dV kV doc pm ct oc : Value) (an od : Option Addr) (osl : Array (Option Value)) (cda cc : Addr) (ar : Arg) (vs : Array Value) (file : Str) (tf : Tok) (ccl cl : Value) (cdd cld : Option Addr) (ccs csl : Array (Option Value)),
    K.lookup fI = some ⟨oc, od, .func (PySem.W.ksFn "__init__" qual params body scope dV kV doc pm an (.ref cda) ct cc), osl⟩ ∧ xiBody f body = true ∧ PySem.W.codeIn K (.ref cda) qual = true ∧
    (params.posonlyargs ++ params.args).head? = some ar ∧ ar.arg = "self" ∧ (∀ (e u : Value) (ca : Args), ca = ⟨[e, u], []⟩ ∨ ca = ⟨[e], [(f, u)]⟩ → bindArgs (PySem.W.ksFn "__init__" qual params body scope dV kV doc pm an (.ref cda) ct cc) ca = (pure [(("self" : Str), e), (f, u)] : Sem (List (Str × Value)))) ∧
    K.lookup cda = some ⟨ccl, cdd, .fields vs, ccs⟩ ∧ vs[2]? = some (.str file tf) ∧ ((P.main.file : Str) == file) = true ∧ K.lookup cc = some ⟨cl, cld, .cell (some (.ref Ca)), csl⟩ ∧
    scope.kind = .function ∧ scope.isCoroutine = false ∧ scope.isGenerator = false ∧ (∀ x ∈ scope.names, x.2 ≠ .cell) ∧ scope.names.lookup ("super" : Str) = some .globalImplicit ∧ scope.names.lookup ("__class__" : Str) = some .free ∧
    scope.names.lookup ("self" : Str) = some .local ∧ scope.names.lookup f = some .local
  top : (P.main.scope.names.lookup ("super" : Str)).isSome = false
theorem xi_eval {env : Env} {o : Expr} {nm : Str} {p2 p3 : Pos} (h : (p2.endLine == p3.line) = true) : eval (.Call (.Attribute o nm p2) [] [] p3) env = (do
      let ov ← attributeBase o nm env (eval o env)
      standAt p2.atName
      let (f, first) ← holding [ov] (getMethod ov nm (do return (← importBound o env).getD true))
      callWith p3 f first (backTo p3 (starEach [] env)) []) := by
  show (do
    let ov ← attributeBase o nm env (eval o env)
    standAt p2.atName
    methodCall o nm p2 p3 env ov 0 [] []) = _
  unfold methodCall methodCallPos
  simp only [h, Bool.or_true, if_true]
  rfl
theorem ns_keep {h h' : Heap} {a : Addr} {m : Str → Option Value} (x : h.Ns a m) (k : ∀ o, h.get? a = some o → h'.get? a = some o) : h'.Ns a m := let ⟨o, es, ep, e, r⟩ := x; ⟨o, es, ep, k _ e, r⟩
section
variable {prog : Program} {w : World} {A : Around} {K : PySem.W.Frag} {s : Shared} {R : Result → Shared → Prop} {f : Str} {Ca fI e t0 : Addr} {B newId i : String} {bmB : List Value} {u : Value} {mg mb : Str → Option Value}
/-- the method-wrapper called: the args are laid anew -/
theorem xi_mw {E : Value → Shared → Prop} {q t0 : Addr} {Q : Value → Shared → Prop} (T : XIn K prog Ca f fI B newId i bmB) (X : K.In s.heap) (hq : s.heap.get? q = some (PySem.W.kxs_mw i e)) (he : s.heap.get? e = some (HandSPX.excO Ca t0))
    (h : ∀ h', (∀ b o, b ≠ e → s.heap.get? b = some o → h'.get? b = some o) → h'.get? e = some (HandSPX.excO Ca s.heap.objs.size) → Q .none { s with heap := h' }) :
    wpAny (model prog w) A (call (.ref q) []) Q E s := by
  obtain ⟨nm, N', qn, bs, bm, hdct, sn, sub, ab, col, dd, k0, k1, k2, k3, k5, hC, hT⟩ := PySem.W.excInit_of X T.init
  obtain ⟨hh, g, d, tk, os⟩ := s
  refine wpAny_call (codeAny_of_tree ?_)
  show wpAny _ A.in1 (callAny (.ref q) ⟨[], []⟩) _ _ _
  simp only [callAny]
  refine wpAny_bind (wpAny_load hq ?_)
  simp only [PySem.W.kxs_mw, show (Value.type "method-wrapper" == Value.type "method" || Value.type "method-wrapper" == Value.type "builtin_function_or_method" || Value.type "method-wrapper" == Value.type "method-wrapper") = true by decide, if_true]
  refine PySem.W.KFB.if_so (by decide) ?_
  refine wpAny_bind (PySem.W.check_bound_init T.FB.toExcCallFacts hC he rfl ?_)
  refine wpAny_bind (wpAny_pure (wpAny_pure ?_))
  refine ⟨plainId_quiet T.FB.init.plain _, codeAny_builtin T.FB.initEntry ?_⟩
  exact PySem.W.exc_init_tree (cls := .ref Ca) (t0 := t0) (dv := none) (c2 := .none) (c3 := .none) (b4 := .bool false) he (Nat.zero_le _) fun h' k1 k2 k3 => h h' k1 k2
/-- C.__init__(e, u) -/
theorem xi_init (T : XIn K prog Ca f fI B newId i bmB) {ca : Args} (hca : ca = ⟨[.ref e, u], []⟩ ∨ ca = ⟨[.ref e], [(f, u)]⟩) (hroom : A.depth < recursionLimit) (X : K.In s.heap) (hlim : s.heap.NoLimit) (hG : s.heap.Ns mainGlobals mg) (hB : s.heap.Ns builtinsNs mb) (hbb : ∀ x : Str, x ≠ "__name__" → mb x = bootBuiltins x)
    (he : s.heap.get? e = some (HandSPX.excO Ca t0)) (heK : K.lookup e = none)
    (hR : ∀ h' t1 dx tk, (∀ b o, b ≠ e → s.heap.get? b = some o → h'.get? b = some o) → h'.get? e = some ({ cls := .ref Ca, dict := some dx, data := .fields #[.ref t1, .none, .none, .none, .bool false, .none] } : Obj) → s.heap.objs.size ≤ dx → dx ≠ e →
      h'.Ns1 dx (fun y => if y = f then some u else none) → R (.ok (.ret .none)) { s with heap := h', toks := tk }) :
    codeAny (model prog w) A (.call (.ref fI) ca) R s := by
  obtain ⟨qual, params, body, scope, dV, kV, doc, pm, ct, oc, an, od, osl, cda, cc, ar, vs, file, tf, ccl, cl, cdd, cld, ccs, csl, lk, hbody, hcd, hpar, harg, hbind, lcode, hvs, hfile, lcell, sk, sco, sgen, scell, ssup, scls, sself, sf⟩ := T.fn
  obtain ⟨cdC, hcl⟩ := T.cl
  unfold xiBody at hbody
  split at hbody
  · rename_i a p0 p1 b p2 p3 p4 c p5 d p6 e' p7 p8
    simp only [Bool.and_eq_true, beq_iff_eq] at hbody
    obtain ⟨⟨⟨⟨⟨rfl, rfl⟩, rfl⟩, rfl⟩, rfl⟩, hline⟩ := hbody
    have hline : (p2.endLine == p3.line) = true := beq_iff_eq.mpr hline
    refine PySem.ks_codeAny_call_defAt (fd := PySem.W.ksFn "__init__" qual params _ scope dV kV doc pm an (.ref cda) ct cc) (binds := [(("self" : Str), .ref e), (e', u)]) hroom (X _ _ lk) rfl hlim (PySem.W.codeRec_of X hcd) rfl (.of_eq (hbind _ _ _ hca)) scell (fun x hx => ?_) (fun h₁ hns hk₁ => ?_) sco sgen sk
    · simp only [List.mem_cons, List.not_mem_nil, or_false] at hx
      rcases hx with rfl | rfl
      · exact sself
      · exact sf
    · obtain ⟨hp, g, dr, tk, os⟩ := s
      have X1 : K.In h₁ := fun b o z => hk₁ _ _ (X _ _ z)
      have he1 := hk₁ _ _ he
      have hself : ([(("self" : Str), Value.ref e), (e', u)] : List (Str × Value)).reverse.lookup (("self" : Str)) = some (Value.ref e) := by
        have z : (("self" : Str) == e') = false := by rw [BEq.comm]; exact T.fsf
        simp [List.lookup, z]
      obtain ⟨oD, hD1, hD2⟩ : ∃ oD, h₁.get? Ca = some oD ∧ oD.data = .cls cdC := by
        unfold PySem.W.clsIn at hcl
        split at hcl
        · rename_i c d cd' sl ho
          cases hcl
          exact ⟨_, X1 _ _ ho, rfl⟩
        · cases hcl
      have hint : interactive (PySem.W.ksEnv qual scope hp.objs.size fI (.ref cda) cc) = false := by
        unfold interactive
        show (scope.kind == ScopeKind.module && _) = false
        rw [sk]
        rfl
      refine PySem.ks_wpAt_execs_cons (PySem.ks_wpAt_Expr_any (PySem.ks_wpAt_MethodCall (PySem.ks_wpAt_super_base (f := fI) (cc := cda) (env := PySem.W.ksEnv qual scope hp.objs.size fI (.ref cda) cc) ssup scls (by decide) rfl (X1 _ _ lk) rfl hpar rfl (X1 _ _ lcode) rfl hvs hfile T.top ?_) (xi_eval hline)) (hi := hint))
      refine PySem.W.ks_loadName_global sk ssup (Calls.loadGlobal_builtin (env := PySem.W.ksEnv qual scope hp.objs.size fI (.ref cda) cc) (ns_keep hG (hk₁ _)) (PySem.W.mg_none_of X hG T.nos) (ns_keep hB (hk₁ _)) ((hbb _ (by decide +kernel)).trans (show bootBuiltins "super" = some (.type "super") from by first | rfl | decide +kernel)) ⟨rfl, ?_⟩)
      refine wpAny_loadName_free sk scls rfl ⟨_, X1 _ _ lcell, rfl⟩ ?_
      refine wpAny_loadName_local sk (by rw [harg]; exact sself) hns (by rw [harg]; exact hself) ?_
      refine PySem.ks_wpAny_isType_cls hD1 hD2 ⟨rfl, ?_⟩
      refine PySem.ks_wpAny_call_super hD1 hD2 he1 rfl (fun c z => nomatch z) (PySem.W.looks_mroIn X1 T.sub) (fun h₂ e2 k2 => ?_)
      have X2 : K.In h₂ := fun b o z => k2 _ _ (X1 _ _ z)
      have hI : PySem.W.Looks (model prog w) h₂ (isInstance (.ref e) (.type B)) true := PySem.W.Looks.andThen (fun A Q E s k q => wpAny_typeOf_ref (k _ _ (k2 _ _ he1)) q) (PySem.W.looks_subIn X2 T.hB)
      have hxC : e ≠ Ca := fun z => by
        rw [z, hD1] at he1
        cases he1
        cases hD2
      have hsup := T.sup
      unfold PySem.W.ks_superIn at hsup
      rw [hcl] at hsup
      refine PySem.W.kxs_getMethod T.KF e2 (PySem.W.looks_opaque X2 T.opq) (l₀ := cdC.mro) (fun A Q E s k q => wpAny_bind ((PySem.W.looks_clsIn X2 hcl) A _ E s k (wpAny_pure q))) rfl X2 hsup hI hxC (by decide) ?_
      have hx3 : (h₂.push (PySem.W.kxs_mw i e)).get? h₂.objs.size = some (PySem.W.kxs_mw i e) := Heap.get?_push_size _ rfl
      refine PySem.W.kxs_callWith (i := i) (x := e) rfl (evalArgs_empty ⟨hx3, ?_⟩)
      have k3 : ∀ b o, h₁.get? b = some o → (h₂.push (PySem.W.kxs_mw i e)).get? b = some o := fun b o z => Heap.get?_push_of_some _ (k2 _ _ z)
      refine xi_mw (t0 := t0) T (fun b o z => k3 _ _ (X1 _ _ z)) hx3 (k3 _ _ he1) fun h₄ k4 e4 => ?_
      have hns4 : h₄.Ns hp.objs.size (fun x => ([(("self" : Str), Value.ref e), (e', u)] : List (Str × Value)).reverse.lookup x) := ns_keep hns fun o z => by
        refine k4 _ _ (fun y => ?_) (k3 _ _ z)
        have y2 := Heap.lt_size he
        rw [← y] at y2
        exact Nat.lt_irrefl _ y2
      have X4 : K.In h₄ := fun b o z => k4 _ _ (fun y => by rw [y, heK] at z; cases z) (k3 _ _ (X1 _ _ z))
      have e1 : ([(("self" : Str), Value.ref e), (e', u)] : List (Str × Value)).reverse.lookup e' = some u := by simp [List.lookup]
      refine PySem.ks_wpAt_execs_cons (PySem.ks_wpAt_Assign_Attr ?_)
      refine PySem.wpAt_of_wpAny (wpAny_Name ?_ T.fdb)
      refine wpAny_loadName_local (env := PySem.W.ksEnv qual scope hp.objs.size fI (.ref cda) cc) (m := fun x => ([(("self" : Str), Value.ref e), (e', u)] : List (Str × Value)).reverse.lookup x) (v := u) sk sf hns4 e1 ?_
      refine wpAny_Name ?_ (by decide)
      refine wpAny_loadName_local (env := PySem.W.ksEnv qual scope hp.objs.size fI (.ref cda) cc) (m := fun x => ([(("self" : Str), Value.ref e), (e', u)] : List (Str × Value)).reverse.lookup x) (v := .ref e) sk sself hns4 hself ?_
      refine PySem.W.set_plain (od := none) X4 ⟨e4, rfl, rfl, trivial⟩ T.hs (xi_osa T.SF X4 e4 T.over T.ht T.hh fun h₅ tk5 dx k5 dn dne e5 n5 => ?_)
      refine PySem.wpAt_of_wpAny (wpAny_execs_nil ?_)
      have k04 : ∀ b o, b ≠ e → hp.get? b = some o → h₄.get? b = some o := fun b o n z => k4 _ _ n (k3 _ _ (hk₁ _ _ z))
      obtain ⟨oL, esL, epL, eL, _⟩ := hns4
      exact hR h₅ _ dx tk5 (fun b o n z => k5 _ _ n (k04 _ _ n z)) e5 (Nat.le_trans (Nat.le_of_lt (Heap.lt_size eL)) dn) dne n5
  · cases hbody
end
def tMkX (Ca : Addr) (f : Str) (te : TE) : L2.St → Hp → XK → Prop := fun σ H Q => te σ H fun y H1 => ∀ d, H1 d = none → Q (.ref Ca) (some d) (upd H1 d (.xd [(f, y)]))
section
variable {X : Cx} {f x : Str} {Ca fI : Addr} {B newId i : String} {bmB : List Value} {p pos : Pos} {e : Expr} {te : TE} {k : Nat}
def mkXQ (Ca : Addr) (f : Str) (Q : XK) : List V → Hp → Prop := fun vs H1 => match vs with
  | [y] => ∀ d, H1 d = none → Q (.ref Ca) (some d) (upd H1 d (.xd [(f, y)]))
  | _ => False
theorem pmk_xi (T : XIn X.K X.prog Ca f fI B newId i bmB) (hr : Room (k + 1) X.A) (hg : Gl X x) (hm : X.mg x = some (.ref Ca)) (he : PE X e te)
    (hdb : (x == ("__debug__" : Str)) = false := by decide) (hse : starEach [e] X.env = (false, eval e X.env) :: starEach [] X.env := by rfl) (hpl : (backTo pos (starEach [] X.env)).any (·.1) = false := by rfl) :
    PMk X (.Call (.Name x p) [e] [] pos) (tMkX Ca f te) := by
  intro pins s σ H Q I h
  refine wpAny_Call_Name_kw (ld_glob I hg hm ?_ hdb)
  refine PySem.W.callWith_K (h₀ := X.base) I.ok.mod.kin T.kC (thn ((pa_cons he pa_nil hse).run pos pins s σ H (mkXQ Ca f Q) I h) fun us s1 ⟨vs, H1, I1, r1, q1⟩ => ⟨I1.kIn, ?_⟩) hse hpl
  match vs, r1, q1 with
  | [y], .cons (b := u) ry rn, q1 =>
      cases rn
      have q1 : ∀ d, H1 d = none → Q (.ref Ca) (some d) (upd H1 d (.xd [(f, y)])) := q1
      show wpAny _ _ (call (.ref Ca) [u]) _ _ _
      obtain ⟨hp, g, dr, tk, os⟩ := s1
      obtain ⟨nm, N', qn, bs, bm, hdct, sn, sub, ab, col, dd, k0, k1, k2, k3, k5, hC, hT⟩ := PySem.W.excInit_of I1.kIn T.init
      have kk : ∀ b o, hp.get? b = some o → ((hp.push (PySem.W.kdv_tup [u])).push (HandSPX.excO Ca hp.objs.size)).get? b = some o := fun b o z => Heap.get?_push_of_some _ (Heap.get?_push_of_some _ z)
      have hget : ((hp.push (PySem.W.kdv_tup [u])).push (HandSPX.excO Ca hp.objs.size)).get? (hp.objs.size + 1) = some (HandSPX.excO Ca hp.objs.size) := by heap_get
      have fresh : hp.get? (hp.objs.size + 1) = none := by
        cases z : hp.get? (hp.objs.size + 1) with
        | none => rfl
        | some o => exact absurd (Heap.lt_size z) (Nat.not_lt.mpr (Nat.le_succ _))
      have heK : X.K.lookup (hp.objs.size + 1) = none := by
        cases z : X.K.lookup (hp.objs.size + 1) with
        | none => rfl
        | some o => rw [I1.kIn _ _ z] at fresh; cases fresh
      obtain ⟨mb, nsb, bb⟩ := I1.mod.blt
      have bk := I1.bk
      refine wpAny_call (HandSPX.call_own T.FB hT hC (PySem.W.looks_findIn I1.kIn T.hi) (fun self => PySem.W.bind_fn I1.kIn self T.ty) (by show 1 ≤ sizeLine; rw [sizeLine_eq]; omega) ?_)
      refine xi_init (t0 := hp.objs.size) T (.inl rfl) (hr.make Ca [u] []).depth (fun b o z => kk _ _ (I1.kIn _ _ z)) (I1.nolimit.keeps kk) (ns_keep (I1.mod.glob) fun o z => kk _ _ (bk _ _ z)) (ns_keep nsb fun o z => kk _ _ (bk _ _ z)) bb hget heK fun h' t1 dx tk' kp he' hdx dne hns => ⟨rfl, ?_⟩
      have hdx0 : hp.objs.size ≤ dx := by
        have z : hp.objs.size ≤ ((hp.push (PySem.W.kdv_tup [u])).push (HandSPX.excO Ca hp.objs.size)).objs.size := by rw [Heap.size_push, Heap.size_push]; omega
        exact Nat.le_trans z hdx
      obtain ⟨G, g1, g2⟩ := restrict h' fun b => decide (b ≠ hp.objs.size + 1)
      have gk : ∀ b, b ≠ hp.objs.size + 1 → G.get? b = h'.get? b := fun b hb => g1 b (decide_eq_true hb)
      have ge : G.get? (hp.objs.size + 1) = none := g2 _ (by simp)
      have up : ∀ b o, hp.get? b = some o → G.get? b = some o := fun b o z => by
        have nb : b ≠ hp.objs.size + 1 := fun y => by rw [y, fresh] at z; cases z
        rw [gk b nb]
        exact kp b o nb (kk b o z)
      have nH1 : H1 (hp.objs.size + 1) = none := I1.hok.fresh (Nat.le_succ _)
      have J : Inv X pins σ (upd H1 dx (.xd [(f, y)])) ⟨G, g, dr, tk', os⟩ := I1.laid (t' := tk') up hdx0 ⟨_, hns.at fun o z => (gk _ dne).trans z, relO_put (fs := []) ry fun _ => True.intro⟩
      refine ⟨hp.objs.size + 1, _, _, ⟨G, g, dr, tk', os⟩, _, .ref Ca, some dx, rfl, J, fun b o z => ?_, ge, he', ⟨rfl, rfl⟩, rfl, rfl, ?_, rfl, I1.bare, raises_own T.exC T.tyC, q1 dx (I1.hok.fresh hdx0)⟩
      · have nb : b ≠ hp.objs.size + 1 := fun y => by rw [y, ge] at z; cases z
        rw [gk b nb] at z
        exact z
      · rw [upd_ne (Ne.symm dne)]
        exact nH1
end
def sRaise (c f : Str) (fa : M D) : S → Out := fun s => match fa s with
  | .ok d s' => .exc c [(f, d)] s'
  | .exc c fs s' => .exc c fs s'
  | .bad => .bad
end DL
set_option maxHeartbeats 4000000
namespace DL
open PySem PySem.Spec PyProof.Rows L2
end DL
set_option maxHeartbeats 2000000
namespace DL
open PySem PySem.Spec PyProof.Rows L2
structure IsE (K : PySem.W.Frag) (cs ns : List Str) (ts : List String) : Prop where
  ok : xsB K cs ns ts = true
def isET (cs ns : List Str) (ts : List String) : D → D → Option Bool
  | .exn c _, .glo n => if cs.contains c && ns.contains n then some (xsub c n) else none
  | .exn c _, .ty t => if cs.contains c && ts.contains t then some (xsubT c t) else none
  | _, _ => none
def isEC (cs ns : List Str) (ts : List String) : List D → Option D
  | [d, e] => (isET cs ns ts d e).map .bl
  | _ => none
/-- the exception at a, as it is known -/
def ExAt (K : PySem.W.Frag) (H : Hp) (a : Addr) (c : Str) : Prop := ∃ (o : Obj) (ws : Array Value), H a = some (exH a o) ∧ o.cls = .ref (He.ga K c) ∧ o.data = .fields ws ∧ (o.dict = none ∨ ∃ dx vs, o.dict = some dx ∧ H dx = some (.xd vs))
def rIsX (K : PySem.W.Frag) : List V → Hp → VK → Prop := fun xs H Q => ∃ (a : Addr) (c : Str) (v2 : V) (cv : Value) (b : Bool), xs = [.ref a, v2] ∧ ExAt K H a c ∧ xcB K c = true ∧ (∀ u, RelV v2 u → u = cv) ∧ PySem.W.kitOne K (.ref (He.ga K c)) cv = some b ∧ Q (.bl b) H
section
variable {X : Cx} {K : PySem.W.Frag} {c : Str}
theorem xc_is (h : xcB K c = true) {a : Addr} {o : Obj} {od : Option Obj} : PySem.W.KitX K (.ref a) (.ref (He.ga K c)) (fun hp => PySem.W.InstAt hp a o (He.ga K c) od) := by
  unfold xcB at h
  simp only [Bool.and_eq_true] at h
  obtain ⟨⟨⟨⟨⟨⟨⟨⟨⟨h1, h2⟩, h3⟩, h4⟩, h5⟩, h6⟩, h7⟩, h8⟩, h9⟩, _⟩ := h
  exact PySem.W.kitx_exc h1 (He.eqO_ok h2) (He.eqO_ok h3) (of_decide_eq_true h4) (He.eqO_ok h5) (He.eqO_ok h6) (of_decide_eq_true h7) (of_decide_eq_true h8)
theorem xc_f (h : xcB K c = true) : XfC K (He.ga K c) ∧ ∀ f, xFld.contains f = true → PySem.W.findIn K (.ref (He.ga K c)) f = some none := by
  unfold xcB at h
  simp only [Bool.and_eq_true] at h
  obtain ⟨⟨⟨⟨⟨⟨⟨⟨⟨h1, h2⟩, h3⟩, h4⟩, h5⟩, h6⟩, h7⟩, h8⟩, h9⟩, h10⟩ := h
  exact ⟨⟨He.eqO_ok h2, He.eqO_ok h3, of_decide_eq_true h4, h9⟩, fun f m => He.eqO_ok (List.all_eq_true.mp h10 f (by simpa using m))⟩
theorem exAt_inst {P : Program} {w : World} {H : Hp} {h : Heap} {a : Addr} (hok : HOk P w H h) (e : ExAt K H a c) : ∃ o od, PySem.W.InstAt h a o (He.ga K c) od := by
  obtain ⟨o, ws, h1, h2, h3, h4⟩ := e
  have x : ObjOk P w H h a (exH a o) := hok a _ h1
  have ho : h.get? a = some o := x.1
  have nc : PySem.W.notCls o = true := by
    unfold PySem.W.notCls
    rw [h3]
  rcases h4 with h4 | ⟨dx, vs, h4, h5⟩
  · exact ⟨o, none, ho, h2, nc, by rw [h4]; trivial⟩
  · have y : ObjOk P w H h dx (.xd vs) := hok dx _ h5
    obtain ⟨mA, ⟨od, es, ep, e1, _⟩, _⟩ := y
    exact ⟨o, some od, ho, h2, nc, by rw [h4]; exact e1⟩
theorem call_isX : CallR X (.builtin "isinstance") (rIsX X.K) := by
  intro pins s σ H xs us Q I r h
  obtain ⟨a, c, v2, cv, b, rfl, ea, hx, hcv, hk, q⟩ := h
  cases r with
  | cons rx rr =>
    cases rr with
    | cons rt rr =>
      cases rr
      cases rx
      have ec := hcv _ rt
      subst ec
      obtain ⟨o, od, J⟩ := exAt_inst I.hok ea
      exact PySem.W.kia_one (xc_is hx) I.kIn J hk (fun z => nomatch z) fun tk => ⟨.bl b, H, I.kept (t' := tk) fun _ _ z => z, rfl, q⟩
theorem exAt_of {F H : Hp} {v : V} {c : Str} {fs : List (Str × D)} (su : Sub F H) (i : Is K F v (.exn c fs)) : ∃ a, v = .ref a ∧ ExAt K H a c := by
  cases i with
  | exn h e1 e2 e3 h2 r => exact ⟨_, rfl, _, _, su _ _ h, e1, e3, .inr ⟨_, _, e2, su _ _ h2⟩⟩
  | exn0 h e1 e2 e3 => exact ⟨_, rfl, _, _, su _ _ h, e1, e3, .inl e2⟩
theorem c_isE {cs ns : List Str} {ts : List String} (hi : IsE X.K cs ns ts) : CalD X (.builtin "isinstance") (isEC cs ns ts) := by
  refine ⟨_, call_isX, ?_⟩
  intro H F vs ds d' su h hg Q q
  cases h with
  | nil => cases hg
  | cons h1 h2 =>
    cases h2 with
    | nil => cases hg
    | cons h3 h4 =>
      cases h4 with
      | cons _ _ => cases hg
      | nil =>
        rename_i v d v2 d2
        obtain ⟨k, hk, rfl⟩ := Option.map_eq_some_iff.mp (show (isET cs ns ts d d2).map D.bl = some d' from hg)
        have fin : ∀ {c : Str} {fs : List (Str × D)} {cv : Value}, d = .exn c fs → cs.contains c = true → (∀ u, RelV v2 u → u = cv) → PySem.W.kitOne X.K (.ref (He.ga X.K c)) cv = some k → rIsX X.K [v, v2] H Q := fun {c fs cv} e hc hu hk2 => by
          subst e
          obtain ⟨a, rfl, ea⟩ := exAt_of su h1
          have z := List.all_eq_true.mp hi.ok c (by simpa using hc)
          simp only [Bool.and_eq_true] at z
          exact ⟨a, c, v2, cv, k, rfl, ea, z.1.1, hu, hk2, q _ H F (Ext.refl su) (.bl k)⟩
        cases d with
        | exn c fs =>
          cases h3 with
          | glo n =>
            have hk : (if cs.contains c && ns.contains n then some (xsub c n) else none) = some k := hk
            by_cases z : (cs.contains c && ns.contains n) = true
            · rw [if_pos z, Option.some.injEq] at hk
              subst hk
              rw [Bool.and_eq_true] at z
              have y := List.all_eq_true.mp hi.ok c (by simpa using z.1)
              simp only [Bool.and_eq_true] at y
              exact fin rfl z.1 (fun u hu => hu) (of_decide_eq_true (List.all_eq_true.mp y.1.2 n (by simpa using z.2)))
            · rw [if_neg z] at hk; cases hk
          | ty t =>
            have hk : (if cs.contains c && ts.contains t then some (xsubT c t) else none) = some k := hk
            by_cases z : (cs.contains c && ts.contains t) = true
            · rw [if_pos z, Option.some.injEq] at hk
              subst hk
              rw [Bool.and_eq_true] at z
              have y := List.all_eq_true.mp hi.ok c (by simpa using z.1)
              simp only [Bool.and_eq_true] at y
              exact fin rfl z.1 (fun u hu => hu) (of_decide_eq_true (List.all_eq_true.mp y.2 t (by simpa using z.2)))
            · rw [if_neg z] at hk; cases hk
          | _ => cases hk
        | _ => cases hk
end
def xfD (cs : List Str) (f : Str) : D → Option D
  | .exn c fs => if cs.contains c && xFld.contains f then fs.lookup f else none
  | _ => none
def eXf (cs : List Str) (f : Str) (fa : M D) : M D := mbind fa fun d => mopt (xfD cs f d)
section
variable {C : Ct} {W : WX} {X : Cx} {fa : M D} {e : Expr} {pos : Pos} {f : Str}
theorem d_exf {cs ns : List Str} {ts : List String} (hK : C.K = X.K) (hi : IsE X.K cs ns ts) (he : DE X C W e fa) (hb : attributeBase e f X.env (eval e X.env) = eval e X.env := by rfl) : DE X C W (.Attribute e f pos) (eXf cs f fa) := by
  refine ⟨fun pins s σ H Q I h => ?_⟩
  obtain ⟨F, s0, r0, q0⟩ := h
  refine attr_of hb (thn (he.run pins s σ H (fun v H1 => ∃ a c o dx ws vs w, v = .ref a ∧ xcB X.K c = true ∧ xFld.contains f = true ∧ H1 a = some (exH a o) ∧ o.cls = .ref (He.ga X.K c) ∧ o.dict = some dx ∧ o.data = .fields ws ∧ H1 dx = some (.xd vs) ∧ vs.lookup f = some w ∧ Q w H1) I ⟨F, s0, r0, (Post.bind q0).mono fun d s1 H1 F1 r1 u1 q1 v iv => ?_⟩) fun u s1 hh => ?_)
  · obtain ⟨w, hw, q2⟩ := post_mopt q1 r1
    have q2 := q2 H1 F1 (Ext.refl r1.sub)
    cases d with
    | exn c fs =>
      have hw : (if cs.contains c && xFld.contains f then fs.lookup f else none) = some w := hw
      by_cases z : (cs.contains c && xFld.contains f) = true
      · rw [if_pos z] at hw
        rw [Bool.and_eq_true] at z
        have y := List.all_eq_true.mp hi.ok c (by simpa using z.1)
        simp only [Bool.and_eq_true] at y
        cases iv with
        | exn h1 e1 e2 e3 h2 r =>
          obtain ⟨v', l, iv'⟩ := r.look hw
          exact ⟨_, c, _, _, _, _, v', rfl, y.1.1, z.2, r1.sub _ _ h1, by rw [← hK]; exact e1, e2, e3, r1.sub _ _ h2, l, q2 v' iv'⟩
        | exn0 h1 e1 e2 e3 => cases hw
      · rw [if_neg z] at hw; cases hw
    | _ => cases hw
  · obtain ⟨x, H1, I1, rx, a, c, o, dx, ws, vs, w, ex, hx, hf, h1, e1, e2, e3, h2, l, q⟩ := hh
    subst ex
    obtain rfl : u = Value.ref a := rx
    have ho : s1.heap.get? a = some o := (show ObjOk X.prog X.w H1 s1.heap a (exH a o) from I1.hok a _ h1).1
    have hd : ObjOk X.prog X.w H1 s1.heap dx (.xd vs) := I1.hok dx _ h2
    obtain ⟨mA, hns, hr⟩ := hd
    obtain ⟨od, hod, hl⟩ := lookIn_ns hns
    obtain ⟨u, hu, ru⟩ := RelO.some_of (v := w) (o := mA f) (by rw [← l]; exact hr f)
    obtain ⟨T, hno⟩ := xc_f hx
    have J : PySem.W.InstAt s1.heap a o (He.ga X.K c) (some od) := ⟨ho, e1, by unfold PySem.W.notCls; rw [e3], by rw [e2]; exact hod⟩
    exact HandSPX.exc_get I1.kIn J T.ga T.gg T.exC (PySem.W.findObj_own T.hdC (hno f hf) rfl (by rw [hl, hu])) (handed_of ru) ⟨w, H1, I1.tok _, ru, q⟩
end
end DL
set_option maxHeartbeats 2000000
namespace DL
open PySem PySem.Spec PyProof.Rows L2 L2H
theorem hUn5 {k : Nat} {A : Around} (r : RoomH k A) : A.units + 65 < cLine := by have := r.un; omega
/-- the context of such a def's body -/
abbrev Bh (P : Program) (w : World) (K : PySem.W.Frag) (mg : Str → Option Value) (base : Heap) (N : List Str) (qual : Str) (scope : Scope) (f : Addr) (cdv : Value) (A : Around) (outer : List Env) (s : Shared) (H : Hp) (E : XK) : Cx :=
  { cxOf (L2.CX P w) P w K mg base N qual scope f cdv A outer s H E with calm := false }
structure FnT (gd : Bool) (P : Program) (w : World) (K : PySem.W.Frag) (mg : Str → Option Value) (base : Heap) (CX : CXT) (k : Nat) (f : Addr) (fd : FuncData) (ps : List Str) (sp : Sp) : Prop where
  len : ∀ vs H Q E, sp vs H Q E → vs.length = ps.length
  run : ∀ (A : Around) (outer : List Env) (s : Shared) (H : Hp) (args : Args) (us : List Value) (vs : List V) (Q : VK) (E : XK), (gd = true → A.guards = some []) → RoomH k A → Env0 P w K mg base A outer s H → BindsTo s fd args (ps.zip us) → Vals vs us → sp vs H Q E →
    codeAny (model P w) A (.call (.ref f) args) (CR CX outer P w H s Q E) s
theorem inv_startT {P : Program} {w : World} {K : PySem.W.Frag} {mg : Str → Option Value} {base : Heap} {N ps : List Str} {qual : Str} {scope : Scope} {f : Addr} {cd : Value} {A : Around} {outer : List Env} {s s1 : Shared} {H : Hp} {E : XK} {us : List Value} {vs : List V}
    (S : FnScope N ps scope) (e0 : Env0 P w K mg base A outer s H) (hl : vs.length = ps.length) (r : Vals vs us)
    (x : InCallC s s.heap.objs.size (bindL (envOfC qual scope s.heap.objs.size f cd).kindOf (ps.zip us) fun _ => none) (cellsFrom (s.heap.objs.size + 1) scope.names []) (bindC (envOfC qual scope s.heap.objs.size f cd).kindOf (ps.zip us) fun _ => none) s1) :
    Inv (Bh P w K mg base N qual scope f cd A outer s H E) [] (L2.start N vs) H s1 := by
  have hpl : ps.length ≤ N.length := by have := congrArg List.length S.pre; rw [List.length_take] at this; omega
  obtain ⟨h1, tk, rfl, hk⟩ := x.done
  have noA : ∀ b : Addr, b ∉ (Bh P w K mg base N qual scope f cd A outer s H E).ex := fun b z => absurd (show b ∈ ([] : List Addr) from z) (by simp)
  refine ⟨⟨e0.mod, S.kind, rfl, rfl, Nat.le_refl _, fun y z c h1 h2 => ?_, fun y hy => ?_, fun y c _ h => ?_, (fun z => Bool.noConfusion (show false = true from z)), Around.frames_deeper e0.frames, .inr ⟨rfl, rfl⟩, fun b z => absurd z (noA b), e0.bs, e0.bsz, fun b _ _ => noA b, fun b z => absurd z (noA b), e0.funs, e0.frf⟩,
    rfl, e0.bare, Un.kept hk, ⟨_, x.toInCall.ns, fun i y v h1 h2 h3 => ?_⟩, fun y c h => ⟨_, x.cell y c h⟩, e0.hok.fresh (Nat.le_refl _), fun y c h => ?_, fun q hq => absurd (show q ∈ ([] : List (Addr × Obj)) ++ [] from hq) (by simp), e0.hok.kept hk, ?_⟩
  · exact name_of_addr x.apart (PySem.mem_of_lookup h1) (PySem.mem_of_lookup h2)
  · have hy : scope.names.lookup y = some .cell ∨ scope.names.lookup y = some .free := hy
    rcases hy with hy | hy
    · exact cell_has hy
    · exact absurd rfl (S.nofree _ (PySem.mem_of_lookup hy))
  · exact Nat.le_of_lt (x.above y c (PySem.mem_of_lookup h))
  · have hi : i < vs.length := by
      unfold L2.start at h2
      by_cases hi : i < vs.length
      · exact hi
      · rw [List.getElem?_append_right (by simpa using hi)] at h2
        rw [List.getElem?_replicate] at h2
        split at h2 <;> cases h2
    have ha : vs[i]? = some v := by
      unfold L2.start at h2
      rw [List.getElem?_append_left (by simpa using hi), List.getElem?_map] at h2
      cases e : vs[i]? with
      | none => rw [e] at h2; cases h2
      | some a => rw [e] at h2; cases h2; rfl
    obtain ⟨u, hu, rv⟩ := r.get ha
    have hp : ps[i]? = some y := by
      rw [← S.pre, List.getElem?_take_of_lt (by omega)]; exact h1
    have ndP : ps.Nodup := by rw [← S.pre]; exact S.nd.sublist (List.take_sublist _ _)
    refine ⟨u, rv, ?_⟩
    rcases S.par y (List.mem_of_getElem? hp) with k | k
    · exact .inl ⟨k, bindL_get ndP hp hu k⟩
    · obtain ⟨c, e⟩ := cell_has (n := s.heap.objs.size + 1) k
      refine .inr ⟨.inl k, c, e, ?_⟩
      have q := x.cell y c e
      rw [bindC_get ndP hp hu (by show scope.names.lookup y ≠ _; rw [k]; decide)] at q
      exact q
  · exact e0.hok.fresh (Nat.le_of_lt (x.above y c (PySem.mem_of_lookup h)))
  · unfold L2.start
    show _ = N.length
    rw [List.length_append, List.length_map, List.length_replicate]
    omega
theorem FunD.t {P : Program} {w : World} {K : PySem.W.Frag} {mg : Str → Option Value} {base : Heap} {gd : Bool} {x qual : Str} {params : Arguments} {body : List Stmt} {scope : Scope} {dvs : List V} {kws : List (Str × V)} {f : Addr} {fd : FuncData} {N ps : List Str} {k : Nat} {g : S → Out} (F : FunD K x qual params body scope dvs kws f fd) (S : FnScope N ps scope)
    (hbody : ∀ (cdv : Value) (A : Around) (outer : List Env) (s : Shared) (H : Hp) (E : XK) (C : Ct), (gd = true → (A.deeper (envOfC qual scope s.heap.objs.size f cdv)).guards = some []) → RoomH k (A.deeper (envOfC qual scope s.heap.objs.size f cdv)) → C.K = K →
      Passes (L2.CX P w) (Bh P w K mg base N qual scope f cdv A outer s H E) E →
      DB (Bh P w K mg base N qual scope f cdv A outer s H E) C (wx E) body g) :
    FnT gd P w K mg base (L2.CX P w) (k + 1) f fd ps (spD K ps.length (bodyFn N.length g)) := by
  obtain ⟨oc, od, dV, kV, doc, pm, an, cdv, ct, osl, rfl, lk, hcd, _, _⟩ := F.ex
  refine ⟨fun vs H Q E ⟨F, A, as, io, e, hl, _⟩ => by rw [← e.len, hl], fun A outer s H args us vs Q E hgd hr e0 hb r ⟨F1, Al, as, io, e, hl, q⟩ => ?_⟩
  have hlv : vs.length = ps.length := by rw [← e.len, hl]
  have KX : K.In s.heap := e0.mod.kin.keeps fun b o e => (e0.bs b o e).1
  have lim : s.heap.NoLimit := e0.mod.nolimit.keeps fun b o e => (e0.bs b o e).1
  have hkind : ∀ y ∈ ps.zip us, scope.names.lookup y.1 = some .local ∨ (scope.names.lookup y.1 = some .cell ∧ ((cellsFrom (s.heap.objs.size + 1) scope.names []).lookup y.1).isSome = true) := fun ⟨n, v⟩ hy => by
    rcases S.par n (List.of_mem_zip hy).1 with q | q
    · exact .inl q
    · exact .inr ⟨q, PySem.W.cellsFrom_some _ _ _ (.inl q)⟩
  refine codeAny_call_function hr.depth (KX _ _ lk) rfl S.co S.gen rfl (PySem.W.codeRec_of KX hcd) (hb _ _ _ _ ?_)
  refine wpAny_newFunctionEnv_cells S.kind hkind fun env he s1 x => ?_
  subst he
  refine ⟨lim.keeps x.toInCall.keep, codeAny_func ?_⟩
  have ht := hbody cdv A outer s H E ⟨K, H, F1, Al⟩ hgd (hr.deeper _) rfl (passes_call (takes_of (X := Bh P w K mg base N qual scope f cdv A outer s H E) (E := E) rfl rfl rfl rfl) fun _ _ _ _ h => h)
  have I : Inv (Bh P w K mg base N qual scope f cdv A outer s H E) [] (L2.start N vs) H s1 := inv_startT S e0 hlv r x
  refine wpAny_mono (ht.run [] s1 (L2.start N vs) H { nx := fun _ H' => Q .non H', rt := Q } I ⟨F1, _, e.rel, ?_⟩) (fun fl s' hs => ?_) fun e s' hs => hs
  · unfold bodyFn at q
    cases h : g ⟨as ++ List.replicate (N.length - as.length) .no, io⟩ with
    | nx s' =>
      rw [h] at q
      exact fun σ' H' F' r u => q .non H' F' (r.after u) .non
    | rt rv s' =>
      rw [h] at q
      exact fun v σ' H' F' r u ret => q v H' F' (r.after u) (by cases rv <;> exact ret)
    | exc c fs s' =>
      rw [h] at q
      exact fun a σ' H' F' r u x => q a H' F' (r.after u) x
    | bk s' => rw [h] at q; exact q.elim
    | ct s' => rw [h] at q; exact q.elim
    | bad => rw [h] at q; exact q.elim
  · have fin : ∀ {σ' : L2.St} {H' : Hp} {v : V} {u : Value}, Inv (Bh P w K mg base N qual scope f cdv A outer s H E) [] σ' H' s' → L2.RelV v u → Q v H' → CE outer P w H s Q u s' :=
      fun {σ' H' v u} J rv q => ⟨v, H', J.os, J.bare, J.base, J.hok, rv, q⟩
    cases fl with
    | ret u =>
      obtain ⟨v, σ', H', J, rv, q⟩ := hs
      exact fin J rv q
    | next =>
      obtain ⟨σ', H', J, q⟩ := hs
      exact fin (v := V.non) (u := Value.none) J rfl q
    | brk =>
      obtain ⟨_, _, _, q⟩ := hs
      exact False.elim q
    | cont =>
      obtain ⟨_, _, _, q⟩ := hs
      exact False.elim q
end DL
set_option maxHeartbeats 2000000
namespace DL
open PySem PySem.Spec PyProof.Rows L2 L2H
theorem exH_own {a x : Addr} {o : Obj} : exH a o ≠ .own x := fun z => by unfold exH at z; cases z
theorem exH_tup {a : Addr} {o : Obj} {xs : List V} : exH a o ≠ .tup xs := fun z => by unfold exH at z; cases z
theorem exH_frz {a : Addr} {o p : Obj} {u : HO} : exH a o ≠ .frz p u := fun z => by unfold exH at z; cases z
theorem exH_tbl {a : Addr} {o : Obj} {ps : Array Value} : exH a o ≠ .tbl ps := fun z => by unfold exH at z; cases z
section
variable {X : Cx} {a : Addr} {oe : Obj} {pn : List (Addr × Obj)} {σ : L2.St} {H : Hp} {s : Shared} {ws : Array Value}
/-- the caught exception is told of in the heap -/
theorem _root_.L2.Inv.track (I : Inv (X.suite a ((a, oe) :: pn)) [] σ H s) (n0 : X.s_0.heap.get? a = none) (np : ∀ q ∈ pn, q.1 ≠ a) : Inv (X.suite a pn) [] σ (upd H a (exH a oe)) s := by
  have P0 := I.pin (a, oe) (by simp)
  obtain ⟨g, na, nL, nF, nc⟩ := P0
  have na : H a = none := na
  have ok := I.ok
  refine ⟨⟨ok.mod, ok.kind, ok.glob, ok.blt, ok.above, ok.inj, ok.has, ok.cab, ok.hd, ok.frames, ok.stk, ok.exf, ok.bs, ok.bsz, ok.noex, ok.exfs, ok.funs, ok.frf⟩, I.os, I.bare, ⟨I.base.keep, I.base.slot, fun b o e n hx => ?_, I.base.there, fun b xs e => ?_, fun b o u e => ?_, fun b ps e => ?_⟩, I.loc, I.cell, ?_, fun x c e => ?_, fun p hp => ?_, fun b u z => ?_, I.len⟩
  · have nb : b ≠ a := fun z => by
      rw [z] at e
      have e : X.s_0.heap.get? a = some o := e
      rw [n0] at e
      cases e
    rw [upd_ne nb]
    exact I.base.free b o e n hx
  · have q := I.base.tups b xs e
    rw [upd_ne (ne_of_none q na)]
    exact q
  · have q := I.base.frzs b o u e
    rw [upd_ne (ne_of_none q na)]
    exact q
  · obtain ⟨more, q⟩ := I.base.tbls b ps e
    exact ⟨more, by rw [upd_ne (ne_of_none q na)]; exact q⟩
  · rw [upd_ne (Ne.symm nL)]
    exact I.free
  · obtain ⟨v, o, e1, e2⟩ := I.cell x c e
    have nca : c ≠ a := fun z => by
      rw [z] at e1
      have g : s.heap.get? a = some oe := g
      rw [g] at e1
      cases e1
      exact nc _ e2
    rw [upd_ne nca]
    exact I.freeC x c e
  · have hp : p ∈ pn := by simpa using hp
    obtain ⟨k1, k2, k3, k4, k5⟩ := I.pin p (by simp [hp])
    exact ⟨k1, by rw [upd_ne (np p hp)]; exact k2, k3, k4, k5⟩
  · by_cases e : b = a
    · subst e
      rw [upd_same] at z
      cases z
      exact ⟨g, ⟨oe, g⟩, fun h1 h2 x k => k _ x⟩
    · rw [upd_ne e] at z
      exact (I.hok b u z).stay (fun c w' hc q => q) (fun c q => by rw [upd_ne (ne_of_none q na)]; exact q) fun c xs q => by rw [upd_ne (ne_of_none q na)]; exact q
/-- .. and no more -/
theorem _root_.L2.Inv.untrack (I : Inv (X.suite a pn) [] σ H s) (e : H a = some (exH a oe)) (hd : oe.data = .fields ws) (nL : a ≠ X.env.locals) (nF : a ∉ X.fs) : Inv (X.suite a ((a, oe) :: pn)) [] σ (del H a) s := by
  have ok := I.ok
  have g : s.heap.get? a = some oe := (show ObjOk X.prog X.w H s.heap a (exH a oe) from I.hok a _ e).1
  have nn : ∀ b, H b = none → del H a b = none := fun b n => by
    unfold del
    split
    · rfl
    · exact n
  have ne : ∀ {b u}, H b = some u → exH a oe ≠ u → b ≠ a := fun {b u} z h y => by
    rw [y, e] at z
    exact h (Option.some.inj z)
  refine ⟨⟨ok.mod, ok.kind, ok.glob, ok.blt, ok.above, ok.inj, ok.has, ok.cab, ok.hd, ok.frames, ok.stk, ok.exf, ok.bs, ok.bsz, ok.noex, ok.exfs, ok.funs, ok.frf⟩, I.os, I.bare, ⟨I.base.keep, I.base.slot, fun b o e n hx => nn _ (I.base.free b o e n hx), I.base.there, fun b xs e => ?_, fun b o u e => ?_, fun b ps e => ?_⟩, I.loc, I.cell, nn _ I.free, fun x c e => nn _ (I.freeC x c e), fun p hp => ?_, fun b u z => ?_, I.len⟩
  · have q := I.base.tups b xs e
    rw [del_ne (ne q exH_tup)]
    exact q
  · have q := I.base.frzs b o u e
    rw [del_ne (ne q exH_frz)]
    exact q
  · obtain ⟨more, q⟩ := I.base.tbls b ps e
    exact ⟨more, by rw [del_ne (ne q exH_tbl)]; exact q⟩
  · have hp : p = (a, oe) ∨ p ∈ pn := by simpa using hp
    rcases hp with rfl | hp
    · exact ⟨g, del_same, nL, nF, fun v z => by rw [show ((a, oe) : Addr × Obj).2.data = _ from hd] at z; cases z⟩
    · obtain ⟨k1, k2, k3, k4, k5⟩ := I.pin p (by simp [hp])
      exact ⟨k1, nn _ k2, k3, k4, k5⟩
  · have nb : b ≠ a := fun y => by rw [y, del_same] at z; cases z
    rw [del_ne nb] at z
    exact (I.hok b u z).stay (fun c w' hc q => q) (fun c q => by rw [del_ne (ne q exH_own)]; exact q) fun c xs q => by rw [del_ne (ne q exH_tup)]; exact q
end
mutual
def D.xf : D → Bool
  | .tup xs => D.xfs xs
  | .lst xs => D.xfs xs
  | .ins _ fs => D.xff fs
  | .tdc kvs => D.xft kvs
  | .dic kvs => D.xfk kvs
  | .exn _ _ => false
  | _ => true
def D.xfs : List D → Bool
  | [] => true
  | x :: xs => D.xf x && D.xfs xs
def D.xff : List (Str × D) → Bool
  | [] => true
  | (_, x) :: xs => D.xf x && D.xff xs
def D.xft : List (List Int × D) → Bool
  | [] => true
  | (_, x) :: xs => D.xf x && D.xft xs
def D.xfk : List (D × D) → Bool
  | [] => true
  | (_, x) :: xs => D.xf x && D.xfk xs
end
def Cell.xf : Cell → Bool
  | .lst ds => D.xfs ds
  | .ins _ fs => D.xff fs
  | .tdc kvs => D.xft kvs
  | .dic kvs => D.xfk kvs
/-- what of F is no exception's stands in G -/
def StripX (F G : Hp) : Prop := ∀ b o, F b = some o → ((∃ xs, o = .lst xs) ∨ (∃ xs, o = .tup xs) ∨ (∃ p u, o = .frz p u) ∨ (∃ C d fs, o = .ins C d fs) ∨ (∃ ks, o = .dK ks) ∨ ∃ ep xs, o = tdO b ep xs) → G b = some o
section
variable {K : PySem.W.Frag} {F G : Hp}
theorem StripX.rl (S : StripX F G) {a : Addr} {xs : List V} (h : Rd F a (.lst xs)) : Rd G a (.lst xs) := by
  rcases h with h | ⟨o, h⟩
  · exact .inl (S _ _ h (.inl ⟨_, rfl⟩))
  · exact .inr ⟨o, S _ _ h (.inr (.inr (.inl ⟨_, _, rfl⟩)))⟩
theorem StripX.rt (S : StripX F G) {a : Addr} {xs : List V} (h : SqT K F a xs) : SqT K G a xs := by
  rcases h with h | h
  · rcases h with h | ⟨o, h⟩
    · exact .inl (.inl (S _ _ h (.inr (.inl ⟨_, rfl⟩))))
    · exact .inl (.inr ⟨o, S _ _ h (.inr (.inr (.inl ⟨_, _, rfl⟩)))⟩)
  · exact .inr h
mutual
theorem xf_is (S : StripX F G) : ∀ (d : D) {v : V}, d.xf = true → Is K F v d → Is K G v d
  | .exn _ _, _, l, _ => by simp [D.xf] at l
  | .non, _, _, .non => .non
  | .bl b, _, _, .bl _ => .bl b
  | .int i, _, _, .int _ => .int i
  | .str x, _, _, .str _ => .str x
  | .ty n, _, _, .ty _ => .ty n
  | .glo x, _, _, .glo _ => .glo x
  | .tup ds, _, l, .tup h r => .tup (S.rt h) (xf_all S ds (by simpa only [D.xf] using l) r)
  | .lst ds, _, l, .lst h r => .lst (S.rl h) (xf_all S ds (by simpa only [D.xf] using l) r)
  | .ins c fs, _, l, .ins h r => .ins (S _ _ h (.inr (.inr (.inr (.inl ⟨_, _, _, rfl⟩))))) (xf_fs S fs (by simpa only [D.xf] using l) r)
  | .dic kvs, _, l, .dic h r => .dic (S _ _ h (.inr (.inr (.inr (.inr (.inl ⟨_, rfl⟩)))))) (xf_kv S kvs (by simpa only [D.xf] using l) r)
  | .tdc kvs, _, l, .tdc h r n m => .tdc (S _ _ h (.inr (.inr (.inr (.inr (.inr ⟨_, _, rfl⟩)))))) (xf_td S kvs (by simpa only [D.xf] using l) r) n m
termination_by d => sizeOf d
theorem xf_all (S : StripX F G) : ∀ (ds : List D) {vs : List V}, D.xfs ds = true → IsAll K F vs ds → IsAll K G vs ds
  | [], _, _, .nil => .nil
  | d :: ds, _, l, .cons h r => by
    simp only [D.xfs, Bool.and_eq_true] at l
    exact .cons (xf_is S d l.1 h) (xf_all S ds l.2 r)
termination_by ds => sizeOf ds
theorem xf_fs (S : StripX F G) : ∀ (ds : List (Str × D)) {vs : List (Str × V)}, D.xff ds = true → IsFs K F vs ds → IsFs K G vs ds
  | [], _, _, .nil => .nil
  | (_, d) :: ds, _, l, .cons h r => by
    simp only [D.xff, Bool.and_eq_true] at l
    exact .cons (xf_is S d l.1 h) (xf_fs S ds l.2 r)
termination_by ds => sizeOf ds
theorem xf_td (S : StripX F G) : ∀ (ds : List (List Int × D)) {vs : List Te}, D.xft ds = true → IsTd K F vs ds → IsTd K G vs ds
  | [], _, _, .nil => .nil
  | (_, d) :: ds, _, l, .cons b h q r => by
    simp only [D.xft, Bool.and_eq_true] at l
    exact .cons (S.rt b) (xf_is S d l.1 h) q (xf_td S ds l.2 r)
termination_by ds => sizeOf ds
theorem xf_kv (S : StripX F G) : ∀ (ds : List (D × D)) {vs : List (Key × V)}, D.xfk ds = true → IsKv K F vs ds → IsKv K G vs ds
  | [], _, _, .nil => .nil
  | (_, d) :: ds, _, l, .int h r => by
    simp only [D.xfk, Bool.and_eq_true] at l
    exact .int (xf_is S d l.1 h) (xf_kv S ds l.2 r)
  | (_, d) :: ds, _, l, .str h r => by
    simp only [D.xfk, Bool.and_eq_true] at l
    exact .str (xf_is S d l.1 h) (xf_kv S ds l.2 r)
termination_by ds => sizeOf ds
end
/-- .. of an own thing whose object stands -/
theorem xf_cell (S : StripX F G) {H H' : Hp} {a : Addr} {c : Cell} (l : c.xf = true) (h : CellAt K F H a c) (e : ∀ o, H a = some o → H' a = some o) : CellAt K G H' a c := by
  cases c with
  | lst ds => obtain ⟨xs, h1, h2⟩ := h; exact ⟨xs, e _ h1, xf_all S ds l h2⟩
  | ins c fs => obtain ⟨dx, vs, h1, h2⟩ := h; exact ⟨dx, vs, e _ h1, xf_fs S fs l h2⟩
  | dic kvs => obtain ⟨ks, h1, h2⟩ := h; exact ⟨ks, e _ h1, xf_kv S kvs l h2⟩
  | tdc kvs => obtain ⟨ep, ks, h1, h2, h3⟩ := h; exact ⟨ep, ks, e _ h1, xf_td S kvs l h2, h3⟩
end
theorem exH_codeO {a : Addr} {o : Obj} {q : Str} : LamX.CodeO a q ≠ exH a o := fun z => by
  unfold LamX.CodeO exH at z
  obtain ⟨h, hs⟩ := heap_size a
  have g : ∀ t : Nat, (h.push { cls := .none, data := .fields #[.none, .str q t] }).get? a = some { cls := .none, data := .fields #[.none, .str q t] } := fun t => by rw [← hs]; exact Heap.get?_push_size h rfl
  have y : ∀ t : Nat, o = { cls := .none, data := .fields #[.none, .str q t] } := fun t => by
    have e := congrFun (HO.ext.inj z) (h.push { cls := .none, data := .fields #[.none, .str q t] })
    have x := e.mp ⟨_, _, t, g t, rfl, rfl⟩
    have x : (h.push { cls := .none, data := .fields #[.none, .str q t] }).get? a = some o := x
    rw [g t] at x
    exact (Option.some.inj x).symm
  have w := (y 0).symm.trans (y 1)
  simp at w
theorem exH_tdO {a : Addr} {o : Obj} {ws : Array Value} (hd : o.data = .fields ws) {ep : Nat} {xs : List Te} : tdO a ep xs ≠ exH a o := fun z => by
  unfold tdO exH at z
  obtain ⟨h, hs⟩ := heap_size a
  have nf : o.isFreed = false := Obj.isFreed_of_fields hd
  have g : (h.push o).get? a = some o := by rw [← hs]; exact Heap.get?_push_size h nf
  have e := congrFun (HO.ext.inj z) (h.push o)
  obtain ⟨_, o', e1, _, e2⟩ := e.mpr g
  rw [g] at e1
  cases e1
  rw [hd] at e2
  cases e2
end DL
set_option maxHeartbeats 2000000
namespace DL
open PySem PySem.Spec PyProof.Rows L2 L2H LamX
theorem _root_.L2.Inv.repin {X : Cx} {a : Addr} {pn1 pn2 pins1 pins2 : List (Addr × Obj)} {σ : L2.St} {H : Hp} {s : Shared} (I : Inv (X.suite a pn1) pins1 σ H s)
    (h : ∀ p ∈ pn2 ++ pins2, s.heap.get? p.1 = some p.2 ∧ H p.1 = none ∧ p.1 ≠ X.env.locals ∧ p.1 ∉ X.fs ∧ ∀ v, p.2.data ≠ .cell v) : Inv (X.suite a pn2) pins2 σ H s :=
  have ok := I.ok
  ⟨⟨ok.mod, ok.kind, ok.glob, ok.blt, ok.above, ok.inj, ok.has, ok.cab, ok.hd, ok.frames, ok.stk, ok.exf, ok.bs, ok.bsz, ok.noex, ok.exfs, ok.funs, ok.frf⟩, I.os, I.bare, I.base, I.loc, I.cell, I.free, I.freeC, h, I.hok, I.len⟩
section
variable {X : Cx} {Ng : List Str} {x a n back x1 x2 x3 q : Str} {sg : Scope} {g : Addr} {cdg : Value} {i j : Nat} {gR gS : S → Out} {b0 : Stmt} {suite rest : List Stmt} {cs : List Str} {pb p1 p2 p3 np1 np2 np3 tpos pos pos' : Pos} {jj : Nat}
abbrev tcx (X : Cx) (Ng : List Str) (x : Str) (sg : Scope) (g : Addr) (cdg : Value) (s : Shared) (H : Hp) : Cx := (cxOf C8.CX0 X.prog X.w X.K X.mg X.base Ng x sg g cdg X.A X.stack s H C8.E0).nox
/-- the suite's reading -/
def tsX (K : PySem.W.Frag) (gS : S → Out) (a : Addr) (cls : Value) (d : Option Addr) : TS := fun D σ H => ∀ (oe : Obj) (ws : Array Value), Zc cls d oe → oe.data = .fields ws →
  ∃ (F3 : Hp) (rv : RV) (s0 s' : S), Rel ⟨K, upd H a (exH a oe), F3, []⟩ σ (upd H a (exH a oe)) F3 s0 ∧ gS s0 = .rt rv s' ∧ F3 a = some (exH a oe) ∧
    ∀ v σ' H' F', Rel ⟨K, upd H a (exH a oe), F3, []⟩ σ' H' F' s' → Sub F3 F' → RetOk ⟨K, upd H a (exH a oe), F3, []⟩ F' H' v rv → D.rt v (del H' a)
end
end DL
set_option maxHeartbeats 2000000
namespace DL
open PySem PySem.Spec PyProof.Rows L2 L2H LamX
end DL
set_option maxHeartbeats 2000000
namespace DL
open PySem PySem.Spec PyProof.Rows L2 L2H LamX
/-- the context of the def that tries -/
abbrev tcy (P : Program) (w : World) (K : PySem.W.Frag) (mg : Str → Option Value) (base : Heap) (A : Around) (stack : List Env) (Ng : List Str) (x : Str) (sg : Scope) (g : Addr) (cdg : Value) (s : Shared) (H : Hp) : Cx := (cxOf C8.CX0 P w K mg base Ng x sg g cdg A stack s H C8.E0).nox
end DL
set_option maxHeartbeats 2000000
namespace DL
open PySem PySem.Spec PyProof.Rows L2 L2H LamX
/-- what is asked of the program's main -/
structure XMain (P : Program) (file : Str) : Prop where
  fl : ((P.main.file : Str) == file) = true
  top : (P.main.scope.names.lookup ("super" : Str)).isSome = false
/-- an own class of errors, of one field -/
structure XC (K : PySem.W.Frag) (P : Program) (c f : Str) : Prop where
  ex : ∃ fI B newId i bmB, XIn K P (He.ga K c) f fI B newId i bmB
theorem xi_bind {qual f : Str} {params : Arguments} {body : List Stmt} {scope : Scope} {kV doc pm ct : Value} {an : Option Addr} {cd : Value} {cc : Addr} (hp : xPar f params = true) (hf : (f == ("given" : Str) || f == ("index" : Str) || f == ("most" : Str)) = true) (e u : Value) :
    bindArgs (PySem.W.ksFn "__init__" qual params body scope .none kV doc pm an cd ct cc) ⟨[e, u], []⟩ = (pure [(("self" : Str), e), (f, u)] : Sem (List (Str × Value))) := by
  unfold xPar at hp
  split at hp
  · rename_i a x1 x2 b x3 x4
    rw [Bool.and_eq_true, beq_iff_eq, beq_iff_eq] at hp
    obtain ⟨rfl, rfl⟩ := hp
    simp only [Bool.or_eq_true, beq_iff_eq] at hf
    rcases hf with (rfl | rfl) | rfl <;> rfl
  · cases hp
theorem xi_bindk {qual f : Str} {params : Arguments} {body : List Stmt} {scope : Scope} {kV doc pm ct : Value} {an : Option Addr} {cd : Value} {cc : Addr} (hp : xPar f params = true) (hf : (f == ("given" : Str) || f == ("index" : Str) || f == ("most" : Str)) = true) (e u : Value) :
    bindArgs (PySem.W.ksFn "__init__" qual params body scope .none kV doc pm an cd ct cc) ⟨[e], [(f, u)]⟩ = (pure [(("self" : Str), e), (f, u)] : Sem (List (Str × Value))) := by
  unfold xPar at hp
  split at hp
  · rename_i a x1 x2 b x3 x4
    rw [Bool.and_eq_true, beq_iff_eq, beq_iff_eq] at hp
    obtain ⟨rfl, rfl⟩ := hp
    simp only [Bool.or_eq_true, beq_iff_eq] at hf
    rcases hf with (rfl | rfl) | rfl <;> rfl
  · cases hp
theorem xCell_ok {K : PySem.W.Frag} {Ca : Addr} {l : List (Str × Addr)} (h : xCell K Ca l = true) : ∃ cc cl cld csl, l = [(("__class__" : Str), cc)] ∧ K.lookup cc = some ⟨cl, cld, .cell (some (.ref Ca)), csl⟩ := by
  cases l with
  | nil => cases h
  | cons p r =>
    cases r with
    | cons _ _ => cases h
    | nil =>
      obtain ⟨nn, cc⟩ := p
      simp only [xCell, Bool.and_eq_true, beq_iff_eq] at h
      obtain ⟨rfl, h⟩ := h
      cases e : K.lookup cc with
      | none => rw [e] at h; cases h
      | some o =>
        rw [e] at h
        obtain ⟨q1, q2, dt, q3⟩ := o
        cases dt with
        | cell v =>
          cases v with
          | none => cases h
          | some u =>
            cases u with
            | ref D =>
              have h : (D == Ca) = true := h
              rw [beq_iff_eq] at h
              subst h
              exact ⟨cc, q1, q2, q3, rfl, e⟩
            | _ => cases h
        | _ => cases h
theorem xFile_ok {K : PySem.W.Frag} {file : Str} {v : Value} (h : xFile K file v = true) : ∃ cda r1 r2 vs r3 tf, v = .ref cda ∧ K.lookup cda = some ⟨r1, r2, .fields vs, r3⟩ ∧ (vs[2]? : Option Value) = some (.str file tf) := by
  cases v with
  | ref cda =>
    simp only [xFile] at h
    cases e : K.lookup cda with
    | none => rw [e] at h; cases h
    | some o =>
      rw [e] at h
      obtain ⟨r1, r2, dt, r3⟩ := o
      cases dt with
      | fields vs =>
        simp only at h
        cases e2 : (vs[2]? : Option Value) with
        | none => rw [e2] at h; cases h
        | some z =>
          rw [e2] at h
          cases z with
          | str fl tf =>
            simp only [beq_iff_eq] at h
            subst h
            exact ⟨cda, r1, r2, vs, r3, tf, rfl, e, e2⟩
          | _ => cases h
      | _ => cases h
  | _ => cases h
theorem xPar_ok {f : Str} {p : Arguments} (h : xPar f p = true) : ∃ x1 x2 x3 x4, p = ⟨[], [⟨"self", x1, x2⟩, ⟨f, x3, x4⟩], none, [], [], none, []⟩ := by
  unfold xPar at h
  split at h
  · rename_i a x1 x2 b x3 x4
    rw [Bool.and_eq_true, beq_iff_eq, beq_iff_eq] at h
    obtain ⟨rfl, rfl⟩ := h
    exact ⟨x1, x2, x3, x4, rfl⟩
  · cases h
theorem xFn_ok {K : PySem.W.Frag} {P : Program} {Ca fI : Addr} {f file : Str} (hP : ((P.main.file : Str) == file) = true) (hf : (f == ("given" : Str) || f == ("index" : Str) || f == ("most" : Str)) = true) (h : xFn K Ca f file (K.lookup fI) = true) :
    ∃ (qual : Str) (params : Arguments) (body : List Stmt) (scope : Scope) (dV kV doc pm ct oc : Value) (an od : Option Addr) (osl : Array (Option Value)) (cda cc : Addr) (ar : Arg) (vs : Array Value) (file : Str) (tf : Tok) (ccl cl : Value) (cdd cld : Option Addr) (ccs csl : Array (Option Value)),
      K.lookup fI = some ⟨oc, od, .func (PySem.W.ksFn "__init__" qual params body scope dV kV doc pm an (.ref cda) ct cc), osl⟩ ∧ xiBody f body = true ∧ PySem.W.codeIn K (.ref cda) qual = true ∧
      (params.posonlyargs ++ params.args).head? = some ar ∧ ar.arg = "self" ∧ (∀ (e u : Value) (ca : Args), ca = ⟨[e, u], []⟩ ∨ ca = ⟨[e], [(f, u)]⟩ → bindArgs (PySem.W.ksFn "__init__" qual params body scope dV kV doc pm an (.ref cda) ct cc) ca = (pure [(("self" : Str), e), (f, u)] : Sem (List (Str × Value)))) ∧
      K.lookup cda = some ⟨ccl, cdd, .fields vs, ccs⟩ ∧ vs[2]? = some (.str file tf) ∧ ((P.main.file : Str) == file) = true ∧ K.lookup cc = some ⟨cl, cld, .cell (some (.ref Ca)), csl⟩ ∧
      scope.kind = .function ∧ scope.isCoroutine = false ∧ scope.isGenerator = false ∧ (∀ x ∈ scope.names, x.2 ≠ .cell) ∧ scope.names.lookup ("super" : Str) = some .globalImplicit ∧ scope.names.lookup ("__class__" : Str) = some .free ∧
      scope.names.lookup ("self" : Str) = some .local ∧ scope.names.lookup f = some .local := by
  cases hl : K.lookup fI with
  | none => rw [hl] at h; cases h
  | some o =>
    rw [hl] at h
    obtain ⟨oc, od, dt, osl⟩ := o
    cases dt with
    | func fd =>
      obtain ⟨n1, n2, n3, n4, n5, n6, n7, n8, n9, n10, n11, n12, n13, n14, n15⟩ := fd
      cases n4 with
      | expr _ => simp [xFn] at h
      | stmts b =>
        cases n8 with
        | none =>
          have h : (n1 == "__init__" && decide (n6 = mainGlobals) && decide (n15 = builtinsNs) && xiBody f b && xCell K Ca n7 && PySem.W.codeIn K n13 n2 && xFile K file n13 && xPar f n3 && true && xScope f n5) = true := h
          simp only [Bool.and_eq_true, beq_iff_eq, decide_eq_true_eq] at h
          obtain ⟨⟨⟨⟨⟨⟨⟨⟨⟨rfl, rfl⟩, rfl⟩, k4⟩, k5⟩, k6⟩, k7⟩, k8⟩, _⟩, k10⟩ := h
          obtain ⟨cc, q1, q2, q3, rfl, eq1⟩ := xCell_ok k5
          obtain ⟨cda, r1, r2, vs, r3, tf, rfl, eq2, eq3⟩ := xFile_ok k7
          obtain ⟨x1, x2, x3, x4, hp⟩ := xPar_ok k8
          unfold xScope at k10
          simp only [Bool.and_eq_true, Bool.not_eq_true', decide_eq_true_eq, List.all_eq_true, decide_eq_false_iff_not] at k10
          obtain ⟨⟨⟨⟨⟨⟨⟨s1, s2⟩, s3⟩, s4⟩, s5⟩, s6⟩, s7⟩, s8⟩ := k10
          exact ⟨n2, n3, b, n5, .none, n9, n10, n11, n14, oc, n12, od, osl, cda, cc, ⟨"self", x1, x2⟩, vs, file, tf, r1, q1, r2, q2, r3, q3, rfl, k4, k6, by rw [hp]; rfl, rfl, fun e u ca hca => by
            rcases hca with rfl | rfl
            · exact xi_bind k8 hf e u
            · exact xi_bindk k8 hf e u, eq2, eq3, hP, eq1, s1, s2, s3, s4, s5, s6, s7, s8⟩
        | _ => simp [xFn] at h
    | _ => cases h
theorem xc_of {K : PySem.W.Frag} {P : Program} {c f file : Str} {B : String} (h : xnB K c f file B = true) (hP : XMain P file) : XC K P c f := by
  unfold xnB at h
  simp only [Bool.and_eq_true] at h
  obtain ⟨⟨⟨⟨⟨⟨⟨⟨⟨⟨⟨⟨⟨⟨h1, h2⟩, h3⟩, h4⟩, h5⟩, h6⟩, h7⟩, h8⟩, h9⟩, h10⟩, h11⟩, h12⟩, h13⟩, h14⟩, h15⟩ := h
  have key : ∀ {B newId i : String} {bmB : List Value}, ExcBaseFacts B newId i bmB → PySem.W.KxsFacts B i → StoreFacts B bmB "object.__setattr__" "object" →
      (PySem.W.excInitIn K (He.ga K c) bmB newId && PySem.W.excOver K (He.ga K c) bmB && decide (PySem.W.subIn K (.ref (He.ga K c)) (.type B) = some true) && He.eqO (PySem.W.ks_superIn K (He.ga K c) (He.ga K c) "__init__") (some (some (.builtin i)))) = true → XC K P c f := fun {B newId i bmB} FB KF SF hb => by
    simp only [Bool.and_eq_true] at hb
    obtain ⟨⟨⟨b1, b2⟩, b3⟩, b4⟩ := hb
    refine ⟨He.ma K (He.ga K c) "__init__", B, newId, i, bmB, ?_⟩
    have hfn := xFn_ok hP.fl h13 h15
    exact {
      FB := FB, KF := KF, SF := SF, init := b1, over := b2, hi := He.eqO_ok h2, ty := of_decide_eq_true h3, hs := He.eqO_ok h4, ht := He.eqO_ok h5, hh := h6, hB := of_decide_eq_true b3, exC := of_decide_eq_true h7, tyC := of_decide_eq_true h8
      kC := h9, sup := He.eqO_ok b4, sub := of_decide_eq_true h10, nos := He.eqO_ok h11, opq := He.eqO_ok h12
      fsf := by
        simp only [Bool.or_eq_true, beq_iff_eq] at h13
        rcases h13 with (rfl | rfl) | rfl <;> decide
      fdb := by
        simp only [Bool.or_eq_true, beq_iff_eq] at h13
        rcases h13 with (rfl | rfl) | rfl <;> decide
      cl := Option.isSome_iff_exists.mp h14, fn := hfn, top := hP.top }
  unfold xNames at h1
  split at h1
  · rename_i e
    split at e
    · cases e; exact key F.excBase_ValueError PySem.W.kxs_ValueError F.store_ValueError h1
    · cases e; exact key F.excBase_LookupError PySem.W.kxs_LookupError F.store_LookupError h1
    · cases e; exact key F.excBase_ArithmeticError PySem.W.kxs_ArithmeticError F.store_ArithmeticError h1
    · cases e
  · cases h1
end DL
set_option maxHeartbeats 2000000
namespace DL
open PySem PySem.Spec PyProof.Rows L2
section
variable {X : Cx}
def rRepr0 : RC := fun vs H Q => ∃ a, vs = [.ref a] ∧ H a = some (.dK []) ∧ Q (.str (PyData.shown (.dict []))) H
theorem call_repr0 (hg : X.A.guards = some []) (hu : X.A.units + 65 < cLine) : CallR X (.builtin "repr") rRepr0 := by
  intro pins s σ H xs us Q I r h
  obtain ⟨a, rfl, ea, q⟩ := h
  obtain rfl := Vals.ref1 r
  obtain ⟨_, ns, vs, kv, o, es, ep, e, ex, ed, _, pr, _⟩ := dk_of I.hok ea
  cases kv
  have e0 : es.toList = [] := by
    generalize es.toList = l at pr
    cases pr
    rfl
  have dp : PyData.depth (.dict []) ≤ 60 := by decide
  refine repr_of_reads' (d := .dict []) (as := [a]) (.dict (as := []) (bs := []) e ex.1 ed (by rw [e0]; exact .nil) (by rw [e0]; exact .nil)) (by decide) (fun _ m => ?_) hg (by omega) (fun _ _ e => e) (fun h' u' tk hk => ⟨.str _, H, I.kept hk, ⟨_, rfl⟩, q⟩) (by decide)
  rw [List.mem_singleton] at m
  subst m
  simp at ns
/-- as reprC, and of an empty dict -/
def reprZ : List D → Option D
  | [.dic []] => some (.str (PyData.shown (.dict [])))
  | ds => reprC ds
theorem c_reprZ (hg : X.A.guards = some []) (hu : X.A.units + 65 < cLine) : CalD X (.builtin "repr") reprZ := by
  obtain ⟨r, h1, h2⟩ := c_repr hg hu
  refine ⟨_, (call_repr0 hg hu).or h1, fun H F vs ds d' su h hg Q q => ?_⟩
  by_cases z : ds = [.dic []]
  · subst z
    cases hg
    cases h with
    | cons i t =>
      cases t
      cases i with
      | dic a b => cases b; exact .inl ⟨_, rfl, su _ _ a, q _ H F (Ext.refl su) (.str _)⟩
  · have e : reprZ ds = reprC ds := by
      unfold reprZ
      split
      · exact absurd rfl z
      · rfl
    rw [e] at hg
    exact .inr (h2 H F vs ds d' su h hg Q q)
end
/-- repr of a datum, or of an instance of cn -/
def mReprA (cn : Str) (r : Fn) (fa : M D) : M D := mbind fa fun a => match insAt cn a with
  | some _ => mbind (runFn r [] [.val a]) fun rv => match rv with
    | .val (.str z) => mret (.str z)
    | _ => fun _ => .bad
  | none => mopt (reprZ [a])
end DL
set_option maxHeartbeats 2000000
namespace DL
open PySem PySem.Spec PyProof.Rows L2
end DL
set_option maxHeartbeats 2000000
namespace DL
open PySem PySem.Spec PyProof.Rows L2
end DL
set_option maxHeartbeats 2000000
namespace DL
open PySem PySem.Spec PyProof.Rows L2
section
variable {X : Cx}
/-- as eqD, and a text is no dict -/
def eqZ : D → D → Option D
  | .str _, .dic _ => some (.bl false)
  | d, e => eqD d e
end
end DL
set_option maxHeartbeats 2000000
namespace DL
open PySem PySem.Spec PyProof.Rows L2
end DL
set_option maxHeartbeats 2000000
namespace DL
open PySem PySem.Spec PyProof.Rows L2
end DL
set_option maxHeartbeats 2000000
namespace DL
open PySem PySem.Spec PyProof.Rows L2
section
variable {X : Cx} {pins : List (Addr × Obj)} {σ : L2.St} {H F : Hp} {s : Shared}
def eqT0 : D → D → Option D
  | .tup xs, .tup [] => some (.bl xs.isEmpty)
  | _, _ => none
end
@[simp] theorem q_eqT0 (xs : List D) : eqT0 (.tup xs) (.tup []) = some (.bl xs.isEmpty) := rfl
end DL
set_option maxHeartbeats 2000000
namespace DL
open PySem PySem.Spec PyProof.Rows L2
end DL
set_option maxHeartbeats 2000000
namespace DL
open PySem PySem.Spec PyProof.Rows L2
@[simp] theorem q_lenTC (kvs : List (List Int × D)) : lenTC [.tdc kvs] = some (.int (kvs.length : Int)) := rfl
end DL
set_option maxHeartbeats 400000
namespace DL
open PySem PySem.Spec PyProof.Rows L2
abbrev TabD : Type := Str × List (Str × He.Dv)
abbrev AlV : Type := (AlA × Bool) × List (Option (List (Option (Str × Int))))
def valV (fn : List DefA) (ts : List TabD) (w : World) : AlV := ((valA fn, true), ts.map fun t => some (He.keysIn w.params (t.2.map (·.1))))
end DL
set_option maxHeartbeats 2000000
namespace DL
open PySem PySem.Spec PyProof.Rows L2
def getKD (kvs : List (Str × D)) : D → Option D
  | .str z => some ((kvs.lookup z).getD .non)
  | _ => none
@[simp] theorem q_getKD (kvs : List (Str × D)) (z : Str) : getKD kvs (.str z) = some ((kvs.lookup z).getD .non) := rfl
end DL
set_option maxHeartbeats 2000000
namespace DL
open PySem PySem.Spec PyProof.Rows L2
end DL
set_option maxHeartbeats 2000000
namespace DL
open PySem PySem.Spec PyProof.Rows L2
def sliceN : D → Option Int → Option Int → Option (List D)
  | .lst xs, l, h => some (cutG xs l h)
  | _, _, _ => none
def oSlice (fa : M D) (fl fh : M (Option Int)) : M Cell := mbind fa fun a => mbind fl fun l => mbind fh fun h => mbind (mopt (sliceN a l h)) fun xs => mret (.lst xs)
def kPop (i : Nat) (d : D) : M D := fun s => match (s.cell i).bind lstOf, d with
  | some ds, .int k => if 0 ≤ k ∧ k ≤ 1000000 then (match ds[k.toNat]? with
    | some y => .ok y (s.setCell i (.lst (ds.eraseIdx k.toNat)))
    | none => .bad) else .bad
  | _, _ => .bad
def mPop (i : Nat) (fj : M D) : M D := mbind (mhas i) fun _ => mbind (fun s => mopt ((s.cell i).bind lstOf) s) fun _ => mbind fj (kPop i)
@[simp] theorem q_oSlice (fa : M D) (fl fh : M (Option Int)) (s : S) : oSlice fa fl fh s = mbind fa (fun a => mbind fl fun l => mbind fh fun h => mbind (mopt (sliceN a l h)) fun xs => mret (.lst xs)) s := rfl
@[simp] theorem q_mPop (i : Nat) (fj : M D) (s : S) : mPop i fj s = mbind (mhas i) (fun _ => mbind (fun s => mopt ((s.cell i).bind lstOf) s) fun _ => mbind fj (kPop i)) s := rfl
end DL
set_option maxHeartbeats 2000000
namespace DL
open PySem PySem.Spec PyProof.Rows L2
def setIx1 (i : Nat) (fk : M D) (d : D) : M Unit := mbind (mbind (mcell i) fun _ => fk) fun k s => match s.cell i, k with
  | some (.lst ds), .int n => (match ixN ds.length n with
    | some j => .ok () (s.setCell i (.lst (ds.set j d)))
    | none => .bad)
  | _, _ => .bad
def setsIx (i j : Nat) (fk fl : M D) (d : D) : M Unit := match d with
  | .tup [d1, d2] => mbind (setIx1 i fk d1) fun _ => setIx1 j fl d2
  | _ => fun _ => .bad
def sSetIx2 (i j : Nat) (fk fl fe : M D) : S → Out := sOf (mbind fe (setsIx i j fk fl)) fun _ s => .nx s
@[simp] theorem q_setIx2 (i j : Nat) (fk fl fe : M D) (s : S) : sSetIx2 i j fk fl fe s = sOf (mbind fe (setsIx i j fk fl)) (fun _ s => .nx s) s := rfl
@[simp] theorem q_setsIx (i j : Nat) (fk fl : M D) (d1 d2 : D) (s : S) : setsIx i j fk fl (.tup [d1, d2]) s = mbind (setIx1 i fk d1) (fun _ => setIx1 j fl d2) s := rfl
@[simp] theorem q_setIx1 (i : Nat) (fk : M D) (d : D) (s : S) : setIx1 i fk d s = mbind (mbind (mcell i) fun _ => fk) (fun k s => match s.cell i, k with
  | some (.lst ds), .int n => (match ixN ds.length n with
    | some j => .ok () (s.setCell i (.lst (ds.set j d)))
    | none => .bad)
  | _, _ => .bad) s := rfl
end DL
set_option maxHeartbeats 2000000
namespace DL
open PySem PySem.Spec PyProof.Rows L2
end DL
set_option maxHeartbeats 2000000
namespace DL
open PySem PySem.Spec PyProof.Rows L2
def lolV (s : S) (i : Nat) (dss : List (List D)) : S := s.put i (.val (.lst (dss.map D.lst)))
def isVal : Sl → Bool
  | .own _ => false
  | .io _ => false
  | _ => true
def vals (s : S) : Bool := s.io.isEmpty && s.sl.all isVal
structure LolAt (K : PySem.W.Frag) (F H0 H : Hp) (σ : L2.St) (i : Nat) (dss : List (List D)) (a : Addr) (bs : List Addr) : Prop where
  sl : σ[i]? = some (some (.ref a))
  aF : F a = none
  a0 : H0 a = none
  ab : a ∉ bs
  nd : bs.Nodup
  ha : H a = some (.lst (bs.map V.ref))
  bl : bs.length = dss.length
  bb : ∀ (k : Nat) (b : Addr) (ds : List D), bs[k]? = some b → dss[k]? = some ds → F b = none ∧ H0 b = none ∧ ∃ xs, H b = some (.lst xs) ∧ IsAll K F xs ds
def lolF (F H : Hp) (a : Addr) (bs : List Addr) : Hp := fun x => if x = a ∨ x ∈ bs then H x else F x
def lolI (F H : Hp) (bs : List Addr) : Hp := fun x => if x ∈ bs then H x else F x
def lolB (F : Hp) (a : Addr) (bs : List Addr) : Hp := fun x => if x = a ∨ x ∈ bs then none else F x
section
variable {K : PySem.W.Frag} {F F' : Hp}
theorem lf_rd {b : Addr} {u : HO} (g : ∀ b u, F b = some u → (∀ z, u ≠ .lst z) → F' b = some u) (hu : ∀ z, u ≠ .lst z) (h : Rd F b u) : Rd F' b u := by
  rcases h with h | ⟨o, h⟩
  · exact .inl (g _ _ h hu)
  · exact .inr ⟨o, g _ _ h fun z e => nomatch e⟩
theorem lf_sq {b : Addr} {xs : List V} (g : ∀ b u, F b = some u → (∀ z, u ≠ .lst z) → F' b = some u) (h : SqT K F b xs) : SqT K F' b xs := by
  rcases h with h | h
  · exact .inl (lf_rd g (fun z e => nomatch e) h)
  · exact .inr h
mutual
theorem Is.lfG (g : ∀ b u, F b = some u → (∀ z, u ≠ .lst z) → F' b = some u) : ∀ {v : V} {d : D}, d.lf = true → Is K F v d → Is K F' v d
  | _, _, _, .non => .non
  | _, _, _, .bl b => .bl b
  | _, _, _, .int i => .int i
  | _, _, _, .str x => .str x
  | _, _, _, .ty n => .ty n
  | _, _, _, .glo x => .glo x
  | _, _, l, .tup h r => .tup (lf_sq g h) (IsAll.lfG g (by simpa only [D.lf] using l) r)
  | _, _, l, .lst h r => by simp [D.lf] at l
  | _, _, l, .ins h r => by simp [D.lf] at l
  | _, _, l, .dic h r => by simp [D.lf] at l
  | _, _, l, .tdc h r n m => by simp [D.lf] at l
  | _, _, l, .exn _ _ _ _ _ _ => by simp [D.lf] at l
  | _, _, l, .exn0 _ _ _ _ => by simp [D.lf] at l
theorem IsAll.lfG (g : ∀ b u, F b = some u → (∀ z, u ≠ .lst z) → F' b = some u) : ∀ {vs : List V} {ds : List D}, D.lfs ds = true → IsAll K F vs ds → IsAll K F' vs ds
  | _, _, _, .nil => .nil
  | _, _, l, .cons h r => by
    simp only [D.lfs, Bool.and_eq_true] at l
    exact .cons (Is.lfG g l.1 h) (IsAll.lfG g l.2 r)
end
end
section
variable {C : Ct} {W : WX} {X : Cx} {σ : L2.St} {H F H' F' : Hp} {s s' : S} {i : Nat} {dss : List (List D)} {a : Addr} {bs : List Addr}
theorem LolAt.mem (L : LolAt C.K F C.H0 H σ i dss a bs) {b : Addr} (h : b ∈ bs) : F b = none ∧ C.H0 b = none ∧ ∃ xs, H b = some (.lst xs) := by
  obtain ⟨k, hk⟩ := List.getElem?_of_mem h
  have hl := (List.getElem?_eq_some_iff.mp hk).1
  rw [L.bl] at hl
  obtain ⟨h1, h2, xs, h3, _⟩ := L.bb k b _ hk (List.getElem?_eq_getElem hl)
  exact ⟨h1, h2, xs, h3⟩
theorem LolAt.ls (L : LolAt C.K F C.H0 H σ i dss a bs) {x : Addr} (h : x = a ∨ x ∈ bs) : F x = none ∧ C.H0 x = none ∧ ∃ xs, H x = some (.lst xs) := by
  rcases h with rfl | h
  · exact ⟨L.aF, L.a0, _, L.ha⟩
  · exact L.mem h
theorem LolAt.upF (L : LolAt C.K F C.H0 H σ i dss a bs) : Sub F (lolF F H a bs) := fun x o e => by
  unfold lolF
  by_cases q : x = a ∨ x ∈ bs
  · rw [(L.ls q).1] at e; cases e
  · rw [if_neg q]; exact e
theorem LolAt.subF (L : LolAt C.K F C.H0 H σ i dss a bs) (su : Sub F H) : Sub (lolF F H a bs) H := fun x o e => by
  unfold lolF at e
  by_cases q : x = a ∨ x ∈ bs
  · rw [if_pos q] at e; exact e
  · rw [if_neg q] at e; exact su _ _ e
theorem lolF_in {x : Addr} (h : x = a ∨ x ∈ bs) : lolF F H a bs x = H x := if_pos h
theorem lolF_out {x : Addr} (h : ¬ (x = a ∨ x ∈ bs)) : lolF F H a bs x = F x := if_neg h
theorem lolB_out {x : Addr} (h : ¬ (x = a ∨ x ∈ bs)) : lolB F a bs x = F x := if_neg h
theorem lolB_in {x : Addr} (h : x = a ∨ x ∈ bs) : lolB F a bs x = none := if_pos h
theorem all_lsts {K : PySem.W.Frag} {F : Hp} : ∀ (bs : List Addr) (dss : List (List D)), bs.length = dss.length → (∀ (k : Nat) (b : Addr) (ds : List D), bs[k]? = some b → dss[k]? = some ds → ∃ xs, F b = some (.lst xs) ∧ IsAll K F xs ds) → IsAll K F (bs.map V.ref) (dss.map D.lst)
  | [], [], _, _ => .nil
  | [], _ :: _, h, _ => by simp at h
  | _ :: _, [], h, _ => by simp at h
  | b :: bs, ds :: dss, h, g => by
    obtain ⟨xs, h1, h2⟩ := g 0 b ds rfl rfl
    exact .cons (.lst (.inl h1) h2) (all_lsts bs dss (by simpa using h) fun k c es e1 e2 => g (k + 1) c es (by simpa using e1) (by simpa using e2))
theorem LolAt.all (L : LolAt C.K F C.H0 H σ i dss a bs) : IsAll C.K (lolF F H a bs) (bs.map V.ref) (dss.map D.lst) := all_lsts bs dss L.bl fun k b ds e1 e2 => by
  obtain ⟨_, _, xs, h3, h4⟩ := L.bb k b ds e1 e2
  exact ⟨xs, by rw [lolF_in (.inr (List.mem_of_getElem? e1))]; exact h3, h4.up L.upF⟩
theorem vals_io (hv : vals s = true) : s.io = [] := by
  unfold vals at hv
  simp only [Bool.and_eq_true, List.isEmpty_iff] at hv
  exact hv.1
theorem vals_sl (hv : vals s = true) {j : Nat} {x : Sl} (h : s.sl[j]? = some x) : isVal x = true := by
  unfold vals at hv
  simp only [Bool.and_eq_true, List.all_eq_true] at hv
  exact hv.2 x (List.mem_of_getElem? h)
theorem Rel.noA (r : Rel C σ H F s) (hv : vals s = true) : C.A = [] := by
  have := r.iol
  rw [vals_io hv] at this
  exact List.length_eq_zero_iff.mp this.symm
theorem LolAt.tb (L : LolAt C.K F C.H0 H σ i dss a bs) (r : Rel C σ H F s) {p : Addr × Str} (hp : p ∈ tbOf C.K) : ¬ (p.1 = a ∨ p.1 ∈ bs) := fun z => by
  obtain ⟨ps, h1, _⟩ := r.tabs p hp
  obtain ⟨_, _, xs, h⟩ := L.ls z
  rw [h1] at h
  cases h
/-- all frozen -/
theorem LolAt.view (L : LolAt C.K F C.H0 H σ i dss a bs) (r : Rel C σ H F s) (hv : vals s = true) : Rel ⟨C.K, H, lolF F H a bs, []⟩ σ H (lolF F H a bs) (lolV s i dss) where
  sub := L.subF r.sub
  keep := fun x o e _ => .inl e
  f0 := fun x _ => rfl
  len := by
    show (s.sl.set i _).length = _
    rw [List.length_set]
    exact r.len
  slot := fun j x e => by
    rcases set_get (show (s.sl.set i _)[j]? = some x from e) with ⟨rfl, rfl, _⟩ | ⟨_, e⟩
    · exact ⟨_, L.sl, .lst (.inl (by rw [lolF_in (.inl rfl)]; exact L.ha)) L.all⟩
    · have z := r.slot j x e
      have y := vals_sl hv e
      cases x with
      | no => trivial
      | val d => obtain ⟨v, z1, z2⟩ := z; exact ⟨v, z1, z2.up L.upF⟩
      | own c => cases y
      | io k => cases y
  iol := by show s.io.length = 0; rw [vals_io hv]; rfl
  io := fun j b c e _ => by simp at e
  ap := fun j k b e1 e2 => by
    obtain ⟨z1, c1, z2⟩ := e1
    rcases set_get (show (s.sl.set i _)[j]? = some (.own c1) from z2) with ⟨_, z, _⟩ | ⟨_, z⟩
    · cases z
    · cases vals_sl hv z
  inn := fun b h => by cases h
  nd := List.nodup_nil
  s0 := ⟨L.subF r.sub, fun p hp => by
    obtain ⟨ps, h1, _⟩ := r.tabs p hp
    exact ⟨by show lolF F H a bs p.1 = none; rw [lolF_out (L.tb r hp)]; exact r.tf0 p hp, by show H p.1 ≠ none; rw [h1]; exact fun z => nomatch z⟩⟩
  tabs := r.tabs.up L.upF
/-- .. and own again -/
theorem LolAt.back (L : LolAt C.K F C.H0 H σ i dss a bs) (r : Rel C σ H F s) (hv : vals s = true) {σ' : L2.St} (r2 : Rel ⟨C.K, H, lolF F H a bs, []⟩ σ' H' F' s') (u : Sub (lolF F H a bs) F') :
    Rel C σ H' (lolB F' a bs) s ∧ LolAt C.K (lolB F' a bs) C.H0 H' σ i dss a bs ∧ Sub F (lolB F' a bs) ∧ ∀ v d, d.lf = true → Is C.K F' v d → Is C.K (lolB F' a bs) v d := by
  have fa : ∀ x, (x = a ∨ x ∈ bs) → F' x = H x := fun x h => by
    obtain ⟨_, _, xs, h3⟩ := L.ls h
    rw [h3]
    exact u _ _ (by rw [lolF_in h]; exact h3)
  have ha : ∀ x, (x = a ∨ x ∈ bs) → H' x = H x := fun x h => by
    obtain ⟨_, _, xs, h3⟩ := L.ls h
    rw [h3]
    exact r2.sub _ _ (by rw [fa x h]; exact h3)
  have uf : Sub F (lolB F' a bs) := fun x o e => by
    by_cases q : x = a ∨ x ∈ bs
    · rw [(L.ls q).1] at e; cases e
    · rw [lolB_out q]
      exact u _ _ (L.upF _ _ e)
  have sb : Sub (lolB F' a bs) F' := fun x o e => by
    by_cases q : x = a ∨ x ∈ bs
    · rw [lolB_in q] at e; cases e
    · rw [lolB_out q] at e; exact e
  have hA := r.noA hv
  have k0 : ∀ x o, C.H0 x = some o → Kept o (H x) := fun x o e => r.keep x o e (by rw [hA]; exact fun z => nomatch z)
  refine ⟨⟨fun x o e => r2.sub _ _ (sb _ _ e), fun x o e _ => (k0 x o e).trans fun w h => r2.keep x w h (fun z => nomatch z), fun x e => ?_, r.len, fun j x e => ?_, r.iol, fun j b c e1 _ => ?_, r.ap, r.inn, r.nd, r.s0, r2.tabs.strip fun c q e => ?_⟩, ⟨L.sl, lolB_in (.inl rfl), L.a0, L.ab, L.nd, by rw [ha a (.inl rfl)]; exact L.ha, L.bl, fun k b ds e1 e2 => ?_⟩, uf, fun v d l h => h.lfG (fun x o e z => ?_) l⟩
  · have q : ¬ (x = a ∨ x ∈ bs) := fun z => e (L.ls z).2.1
    rw [lolB_out q]
    have hx : H x ≠ none := by
      cases y : C.H0 x with
      | none => exact absurd y e
      | some o => exact (k0 x o y).ne
    have := r2.f0 x hx
    rw [this]
    show lolF F H a bs x = _
    rw [lolF_out q]
    exact r.f0 x e
  · have z := r.slot j x e
    have y := vals_sl hv e
    cases x with
    | no => trivial
    | val d => obtain ⟨v, z1, z2⟩ := z; exact ⟨v, z1, z2.up uf⟩
    | own c => cases y
    | io k => cases y
  · rw [hA] at e1
    simp at e1
  · have q : ¬ (c = a ∨ c ∈ bs) := fun z => by
      obtain ⟨_, _, xs, h3⟩ := L.ls z
      rw [fa c z, h3] at e
      exact codeO_lst (Option.some.inj e).symm
    rw [lolB_out q]
    exact e
  · obtain ⟨h1, h2, xs, h3, h4⟩ := L.bb k b ds e1 e2
    have m : b = a ∨ b ∈ bs := .inr (List.mem_of_getElem? e1)
    exact ⟨lolB_in m, h2, xs, by rw [ha b m]; exact h3, h4.up uf⟩
  · have q : ¬ (x = a ∨ x ∈ bs) := fun y => by
      obtain ⟨_, _, xs, h3⟩ := L.ls y
      rw [fa x y, h3] at e
      cases e
      exact z _ rfl
    rw [lolB_out q]
    exact e
theorem LolAt.ext (L : LolAt C.K F C.H0 H σ i dss a bs) (e : Ext H F H' F') : LolAt C.K F' C.H0 H' σ i dss a bs where
  sl := L.sl
  aF := by rw [e.o a (by rw [L.ha]; exact fun z => nomatch z)]; exact L.aF
  a0 := L.a0
  ab := L.ab
  nd := L.nd
  ha := e.h _ _ L.ha
  bl := L.bl
  bb := fun k b ds e1 e2 => by
    obtain ⟨h1, h2, xs, h3, h4⟩ := L.bb k b ds e1 e2
    exact ⟨by rw [e.o b (by rw [h3]; exact fun z => nomatch z)]; exact h1, h2, xs, e.h _ _ h3, h4.up e.f⟩
theorem LolAt.app (L : LolAt C.K F C.H0 H σ i dss a bs) {p : Addr} {xs : List V} {ds : List D} (n : H p = none) (h0 : C.H0 p = none) (hF : F p = none) (hx : IsAll C.K F xs ds) :
    LolAt C.K F C.H0 (upd (upd H p (.lst xs)) a (.lst (bs.map V.ref ++ [V.ref p]))) σ i (dss ++ [ds]) a (bs ++ [p]) := by
  have pa : p ≠ a := fun z => by rw [z, L.ha] at n; cases n
  have pb : ∀ b ∈ bs, b ≠ p := fun b h z => by
    obtain ⟨_, _, ys, e⟩ := L.mem h
    rw [z, n] at e
    cases e
  refine ⟨L.sl, L.aF, L.a0, fun h => ?_, ?_, by rw [upd_same, List.map_append]; rfl, by rw [List.length_append, List.length_append, L.bl]; rfl, fun k b es e1 e2 => ?_⟩
  · rcases List.mem_append.mp h with h | h
    · exact L.ab h
    · exact pa (List.mem_singleton.mp h).symm
  · rw [List.nodup_append]
    exact ⟨L.nd, by simp, fun b h c hc z => by
      have : c = p := by simpa using hc
      subst this
      exact pb b h z⟩
  · by_cases hk : k < bs.length
    · rw [List.getElem?_append_left hk] at e1
      rw [List.getElem?_append_left (by rw [← L.bl]; exact hk)] at e2
      obtain ⟨h1, h2, ys, h3, h4⟩ := L.bb k b es e1 e2
      have m := List.mem_of_getElem? e1
      exact ⟨h1, h2, ys, by rw [upd_ne fun z => L.ab (by rw [← z]; exact m), upd_ne (pb b m)]; exact h3, h4⟩
    · have kl : k = bs.length := by
        have := (List.getElem?_eq_some_iff.mp e1).1
        rw [List.length_append] at this
        simp at this
        omega
      subst kl
      rw [List.getElem?_append_right (Nat.le_refl _), Nat.sub_self] at e1
      rw [L.bl, List.getElem?_append_right (Nat.le_refl _), Nat.sub_self] at e2
      cases e1
      cases e2
      exact ⟨hF, h0, xs, by rw [upd_ne pa, upd_same], hx⟩
/-- a slot's own thing left aside -/
theorem Rel.drop (r : Rel C σ H F s) (i : Nat) : Rel C σ H F (s.put i .no) := by
  refine ⟨r.sub, r.keep, r.f0, by show (s.sl.set i .no).length = _; rw [List.length_set]; exact r.len, fun j x e => ?_, r.iol, r.io, fun j k b ⟨z1, c1, z2⟩ ⟨z3, c2, z4⟩ => ?_, r.inn, r.nd, r.s0, r.tabs⟩
  · rcases set_get (show (s.sl.set i .no)[j]? = some x from e) with ⟨rfl, rfl, _⟩ | ⟨_, e⟩
    · trivial
    · exact r.slot j x e
  · have key : ∀ {j : Nat} {c : Cell}, (s.sl.set i .no)[j]? = some (.own c) → s.sl[j]? = some (.own c) := fun {j c} e => by
      rcases set_get e with ⟨_, z, _⟩ | ⟨_, e⟩
      · cases z
      · exact e
    exact r.ap j k b ⟨z1, c1, key z2⟩ ⟨z3, c2, key z4⟩
/-- the inner ones frozen, the outer one own -/
theorem LolAt.done (L : LolAt C.K F C.H0 H σ i dss a bs) (r : Rel C σ H F s) (hv : vals s = true) : ∃ F', Sub F F' ∧ Rel C σ H F' (s.put i (.own (.lst (dss.map D.lst)))) := by
  have uf : Sub F (lolI F H bs) := fun x o e => by
    by_cases q : x ∈ bs
    · rw [(L.mem q).1] at e; cases e
    · unfold lolI; rw [if_neg q]; exact e
  have inb : ∀ x ∈ bs, lolI F H bs x = H x := fun x q => if_pos q
  have outb : ∀ x, x ∉ bs → lolI F H bs x = F x := fun x q => if_neg q
  have aB : a ∉ bs := L.ab
  refine ⟨lolI F H bs, uf, ⟨fun x o e => ?_, r.keep, fun x e => ?_, ?_, fun j x e => ?_, r.iol, fun j b c e1 _ => ?_, fun j k b e1 e2 => ?_, r.inn, r.nd, r.s0, r.tabs.up uf⟩⟩
  · by_cases q : x ∈ bs
    · rw [inb x q] at e; exact e
    · rw [outb x q] at e; exact r.sub _ _ e
  · rw [outb x fun q => e (L.mem q).2.1]
    exact r.f0 x e
  · show (s.sl.set i _).length = _
    rw [List.length_set]
    exact r.len
  · rcases set_get (show (s.sl.set i _)[j]? = some x from e) with ⟨rfl, rfl, _⟩ | ⟨_, e⟩
    · refine ⟨a, L.sl, by rw [outb a aB]; exact L.aF, L.a0, bs.map V.ref, L.ha, all_lsts bs dss L.bl fun k b ds e1 e2 => ?_⟩
      obtain ⟨_, _, xs, h3, h4⟩ := L.bb k b ds e1 e2
      exact ⟨xs, by rw [inb b (List.mem_of_getElem? e1)]; exact h3, h4.up uf⟩
    · have z := r.slot j x e
      have y := vals_sl hv e
      cases x with
      | no => trivial
      | val d => obtain ⟨v, z1, z2⟩ := z; exact ⟨v, z1, z2.up uf⟩
      | own c => cases y
      | io k => cases y
  · rw [r.noA hv] at e1
    simp at e1
  · have key : ∀ {m : Nat} {cm : Cell}, (s.sl.set i (.own (.lst (dss.map D.lst))))[m]? = some (.own cm) → m = i := fun {m cm} z => by
      rcases set_get z with ⟨q, _, _⟩ | ⟨_, z⟩
      · exact q
      · cases vals_sl hv z
    obtain ⟨_, c1, e1⟩ := e1
    obtain ⟨_, c2, e2⟩ := e2
    rw [key e1, key e2]
end
end DL
set_option maxHeartbeats 2000000
namespace DL
open PySem PySem.Spec PyProof.Rows L2
structure XZ (K : PySem.W.Frag) (Ca : Addr) (B newId i : String) (bmB : List Value) : Prop where
  FB : ExcBaseFacts B newId i bmB
  q : PySem.W.excIn K Ca bmB newId = true
  exC : PySem.W.subIn K (.ref Ca) (.type "BaseException") = some true
  tyC : PySem.W.typeIn K (.ref Ca) = some (.type "type")
  kC : PySem.W.keepIn K (.ref Ca) = true
def XZc (K : PySem.W.Frag) (c : Str) : Prop := ∃ B newId i bmB, XZ K (He.ga K c) B newId i bmB
theorem xz_of {K : PySem.W.Frag} {c : Str} {B : String} (h : xzB K c B = true) : XZc K c := by
  unfold xzB at h
  simp only [Bool.and_eq_true] at h
  obtain ⟨⟨⟨h1, h2⟩, h3⟩, h4⟩ := h
  have key : ∀ {B newId i : String} {bmB : List Value}, ExcBaseFacts B newId i bmB → PySem.W.excIn K (He.ga K c) bmB newId = true → XZc K c := fun {B newId i bmB} FB hb => ⟨B, newId, i, bmB, FB, hb, of_decide_eq_true h2, of_decide_eq_true h3, h4⟩
  unfold xNames at h1
  split at h1
  · rename_i e
    split at e
    · cases e; exact key F.excBase_ValueError h1
    · cases e; exact key F.excBase_LookupError h1
    · cases e; exact key F.excBase_ArithmeticError h1
    · cases e
  · cases h1
section
variable {X : Cx}
/-- X() -/
theorem pmk_own0 {C : Addr} {bmB : List Value} {B newId initId : String} {x : Str} {p pos : Pos} (T : XZ X.K C B newId initId bmB) (gC : X.mg x = some (.ref C)) (hg : Gl X x)
    (hdb : (x == ("__debug__" : Str)) = false := by decide) :
    PMk X (.Call (.Name x p) [] [] pos) (fun σ H Q => Q (.ref C) none H) := by
  intro pins s σ H Q I h
  refine wpAny_Call_Name_kw (ld_glob I hg gC ?_ hdb)
  refine PySem.W.callWith_K0 I.kIn T.kC ?_
  show wpAny _ _ (call (.ref C) []) _ _ _
  obtain ⟨bm, N, nm, qn, bs, hdct, sn, sub, ab, col, dd, k0, k1, k2, k3, k5, mN, hC, hN, hni, T2⟩ := exc_obj I.kIn T.q
  refine wpAny_call_exc_subT T.FB T2 hC hN hni (fun h' e hm => ?_) (Nat.zero_le _)
  exact mk_of I hm (raises_own T.exC T.tyC) h (I.hok.gone hm.new)
end
def sRaise0 (c : Str) : S → Out := fun s => .exc c [] s
end DL
set_option maxHeartbeats 2000000
namespace DL
open PySem PySem.Spec PyProof.Rows L2
end DL
set_option maxHeartbeats 2000000
namespace DL
open PySem PySem.Spec PyProof.Rows L2
/-- a clause: its class, the slot of its name, its suite -/
abbrev Hd1 := Value × Option Nat × (Addr → Value → Option Addr → TS)
def endsOf (D : Ends) : Option Nat → Ends
  | some i => { nx := fun σ' H' => D.nx (σ'.set i none) H', rt := D.rt, bk := fun σ' H' => D.bk (σ'.set i none) H', ct := fun σ' H' => D.ct (σ'.set i none) H' }
  | none => D
def putOf (σ : L2.St) (a : Addr) : Option Nat → L2.St
  | some i => σ.set i (some (.ref a))
  | none => σ
/-- what is wished of an exception of the body: one of the clauses takes it -/
def wAsL (K : PySem.W.Frag) (L : Nat) (D : Ends) : List Hd1 → WX
  | [] => fun _ _ _ _ => False
  | (c, o, ts) :: r => fun cls d σ H => ∃ b, PySem.W.exmOne K cls c = some b ∧ (b = true → ∀ a, H a = none → σ.length = L → ts a cls d (endsOf D o) (putOf σ a o) H) ∧ (b = false → wAsL K L D r cls d σ H)
inductive HdAs (X : Cx) : List ExceptHandler → List Hd1 → Prop
  | nil : HdAs X [] []
  | named {x : Str} {c : Value} {n : Str} {i : Nat} {ts : Addr → Value → Option Addr → TS} {b₀ : Stmt} {suite : List Stmt} {np pos' : Pos} {hds : List ExceptHandler} {l : List Hd1} (hc : Names X x c) (hi : X.N[i]? = some n) (hln : X.env.kindOf n = some .local)
      (hsu : ∀ (a : Addr) (oe : Obj) (cls : Value) (d : Option Addr) (pn : List (Addr × Obj)), Zc cls d oe → (∃ vs, oe.data = .fields vs) → X.s_0.heap.get? a = none → (∀ q ∈ pn, q.1 ≠ a) → PSs (X.suite a ((a, oe) :: pn)) (b₀ :: suite) (ts a cls d)) (r : HdAs X hds l) :
      HdAs X (.ExceptHandler (some (.Name x np)) (some n) (b₀ :: suite) pos' :: hds) ((c, some i, ts) :: l)
  | plain {x : Str} {c : Value} {ts : Addr → Value → Option Addr → TS} {b₀ : Stmt} {suite : List Stmt} {np pos' : Pos} {hds : List ExceptHandler} {l : List Hd1} (hc : Names X x c)
      (hsu : ∀ (a : Addr) (oe : Obj) (cls : Value) (d : Option Addr) (pn : List (Addr × Obj)), Zc cls d oe → (∃ vs, oe.data = .fields vs) → X.s_0.heap.get? a = none → (∀ q ∈ pn, q.1 ≠ a) → PSs (X.suite a ((a, oe) :: pn)) (b₀ :: suite) (ts a cls d)) (r : HdAs X hds l) :
      HdAs X (.ExceptHandler (some (.Name x np)) none (b₀ :: suite) pos' :: hds) ((c, none, ts) :: l)
section
variable {X : Cx} {body : List Stmt} {h₀ : ExceptHandler} {hds : List ExceptHandler} {l : List Hd1} {pos : Pos} {tb : WX → TS}
theorem ps_tryL (hs : X.stack = X.env :: X.outer) (hf : X.env.frame = some X.env.locals) (hex : X.ex = []) (hN : X.N.Nodup)
    (hb : ∀ (W : WX) (pn : List (Addr × Obj)) (xe : Value → Shared → Prop), Takes (X.tr pn xe) W → PassesOwn (model X.prog X.w) X.A X.env xe → PSs (X.tr pn xe) body (tb W))
    (hh : HdAs X (h₀ :: hds) l) : PS X (.Try body (h₀ :: hds) [] [] pos) (fun D σ H => tb (wAsL X.K X.N.length D l) D σ H) := by
  refine ⟨fun pins s σ H D I h => ?_⟩
  have ok := I.ok
  have hfr : X.A.frames = some (X.env :: X.outer) := by rw [ok.frames, hs]
  refine wpAny_Try_except ?_
  refine wpAny_mono ((hb (wAsL X.K X.N.length D l) (X.pn ++ pins) (fun e s₁ => wpAny (model X.prog X.w) X.A (noteFrame e X.env) (fun _ s₂ => wpAny (model X.prog X.w) X.A (setFlight e none) (fun _ s₃ =>
    wpAny (model X.prog X.w) X.A (handleBy e X.env (h₀ :: hds)) (SP X pins D) X.xe s₃) X.xe s₂) X.xe s₁) (fun u s' xx => ?_) PassesOwn.looking).run [] s σ H D (I.toTry _) h) (fun f s1 hsp => ?_) (fun e s1 he => he)
  · -- what the body let out
    obtain ⟨a, B, sI, pins', σ', H', cls, d, rfl, J', nb, up, sky, na, os, ag, w⟩ := xx
    have J : Inv X pins σ' H' sI := J'.ofTry ok
    have sky' : Sky B (X.env :: X.outer) a (Zc cls d) X.env.locals s'.heap := by rw [← hs]; exact sky
    show wpAny (model X.prog X.w) X.A (noteFrame (.ref a) X.env) _ _ _
    refine Sky.land Zc.steady hfr hf sky' fun h3 fl3 up3 => ?_
    have J3 : Inv X pins σ' H' { s' with heap := h3 } := J.landed nb fl3.1 (up.trans up3) os ag
    obtain ⟨oe3, vs3, he3, hz3, hd3⟩ := fl3.there
    have notFr : ∀ {h : Heap} {o : Obj} {vs : Array Value}, h.FunFrames B (X.env :: X.outer) → h.get? a = some o → o.data = .fields vs → a ∉ frs (X.env :: X.outer) := fun {h o vs} ff e dd m => by
      obtain ⟨_, o', e', hnf⟩ := ff.mem m
      rw [e] at e'
      cases e'
      exact hnf _ dd
    have nfr := notFr fl3.2.2.1 he3 hd3
    have nL : a ≠ X.env.locals := fun z => nfr (List.mem_filterMap.mpr ⟨X.env, List.mem_cons_self, by rw [hf, z]⟩)
    have nF : a ∉ X.fs := fun m => by
      obtain ⟨e, he, q⟩ := List.mem_filterMap.mp m
      exact nfr (List.mem_filterMap.mpr ⟨e, List.mem_cons_of_mem _ he, q⟩)
    have S3 := J3.suite he3 hd3 na nL nF
    have nst : a ∉ frs X.stack := by rw [hs]; exact nfr
    have nB : B.get? a = none := fl3.2.1
    have n0 : X.s_0.heap.get? a = none := by
      cases z : X.s_0.heap.get? a with
      | none => rfl
      | some o =>
        obtain ⟨o', e'⟩ := J.base.there a o z (by rw [hex]; simp)
        rw [nb a o' e' nst] at nB
        cases nB
    have npn : ∀ q ∈ X.pn ++ pins, q.1 ≠ a := fun q hq z => by
      have e' := (J.pin q hq).1
      rw [z] at e'
      rw [nb a _ e' nst] at nB
      cases nB
    have LT : PySem.W.Looks (model X.prog X.w) h3 (typeOf (.ref a)) cls := fun A Q E s k q => wpAny_typeOf_ref (k _ _ he3) (by rw [hz3.1]; exact q)
    have test : ∀ {x : Str} {c : Value} {np : Pos} {Q : Value → Shared → Prop} {E : Value → Shared → Prop}, Names X x c → Q c { s' with heap := h3 } → wpAny (model X.prog X.w) (X.A.mark (some (.ref a))) (eval (.Name x np) X.env) Q E { s' with heap := h3 } := fun {x c np Q E} hc q => by
      obtain ⟨hg, hdbg, hm | ⟨hm, hv, hnn⟩⟩ := hc
      · exact ld_glob (X := X.suite a ((a, oe3) :: (X.pn ++ pins))) S3 hg hm q hdbg
      · exact ld_blt (X := X.suite a ((a, oe3) :: (X.pn ++ pins))) S3 hg hm hv q hnn hdbg
    have go : ∀ {hds' : List ExceptHandler} {l' : List Hd1}, HdAs X hds' l' → wAsL X.K X.N.length D l' cls d σ' H' → wpAny (model X.prog X.w) X.A (handleBy (.ref a) X.env hds') (SP X pins D) X.xe { s' with heap := h3 } := by
      intro hds' l' hk
      induction hk with
      | nil => intro w; exact w.elim
      | @named x c n i ts b₀ suite np pos' hds2 l2 hc hi hln hsu r ih =>
        intro w
        obtain ⟨b, hb1, hyes, hno⟩ := w
        refine wpAny_handleBy_cons (codeAny_handlers_test ?_) (by intro q; cases q)
        refine test hc ((PySem.W.exm_one (M := model X.prog X.w) (J3.kIn) LT hb1).here ?_)
        cases b with
        | false =>
          show wpAny _ X.A (handleBy (.ref a) X.env hds2) _ _ _
          exact ih (hno rfl)
        | true =>
          refine codeAny_handlers_suite_as ?_
          refine HandSPX.lands_againZ fl3 fun h4 fl4 up4 => ?_
          have J4 : Inv X pins σ' H' { s' with heap := h4 } := J.landed nb fl4.1 ((up.trans up3).trans up4) os ag
          obtain ⟨oe4, vs4, he4, hz4, hd4⟩ := fl4.there
          have S4 := J4.suite he4 hd4 na nL nF
          refine store_ok (X := X.suite a ((a, oe4) :: (X.pn ++ pins))) (v := .ref a) S4 hN hi (.inl hln) rfl (fun s5 S5 => ?_) (.inr hln)
          refine wpAny_mono ((hsu a oe4 cls d (X.pn ++ pins) hz4 ⟨_, hd4⟩ n0 npn).run [] s5 _ H' _ S5 (hyes rfl a na J.len)) (fun f s6 hsp => ?_) (fun _ _ z => False.elim z)
          have end_ : ∀ {σ6 : L2.St} {H6 : Hp} {Q : Shared → Prop}, Inv (X.suite a ((a, oe4) :: (X.pn ++ pins))) [] σ6 H6 s6 → (∀ s7, Inv X pins (σ6.set i none) H6 s7 → Q s7) →
              wpAny (model X.prog X.w) X.A (do bindName X.env n .none; unbindBehindTheSuite X.env n pos') (fun _ s7 => Q s7) X.xe s6 := fun {σ6 H6 Q} S6 hq => gone_ok (S6.unsuite ok) hN hi hln hq
          cases f with
          | ret u =>
            obtain ⟨v6, σ6, H6, S6, r6, q6⟩ := hsp
            exact end_ S6 fun s7 J7 => ⟨_, _, _, J7, r6, q6⟩
          | next => obtain ⟨σ6, H6, S6, q6⟩ := hsp; exact end_ S6 fun s7 J7 => ⟨_, _, J7, q6⟩
          | brk => obtain ⟨σ6, H6, S6, q6⟩ := hsp; exact end_ S6 fun s7 J7 => ⟨_, _, J7, q6⟩
          | cont => obtain ⟨σ6, H6, S6, q6⟩ := hsp; exact end_ S6 fun s7 J7 => ⟨_, _, J7, q6⟩
      | @plain x c ts b₀ suite np pos' hds2 l2 hc hsu r ih =>
        intro w
        obtain ⟨b, hb1, hyes, hno⟩ := w
        refine wpAny_handleBy_cons (codeAny_handlers_test ?_) (by intro q; cases q)
        refine test hc ((PySem.W.exm_one (M := model X.prog X.w) (J3.kIn) LT hb1).here ?_)
        cases b with
        | false =>
          show wpAny _ X.A (handleBy (.ref a) X.env hds2) _ _ _
          exact ih (hno rfl)
        | true =>
          refine codeAny_handlers_suite ?_
          refine HandSPX.lands_againZ fl3 fun h4 fl4 up4 => ?_
          have J4 : Inv X pins σ' H' { s' with heap := h4 } := J.landed nb fl4.1 ((up.trans up3).trans up4) os ag
          obtain ⟨oe4, vs4, he4, hz4, hd4⟩ := fl4.there
          have S4 := J4.suite he4 hd4 na nL nF
          refine wpAny_mono ((hsu a oe4 cls d (X.pn ++ pins) hz4 ⟨_, hd4⟩ n0 npn).run [] _ _ H' _ S4 (hyes rfl a na J.len)) (fun f s6 hsp => ?_) (fun _ _ z => False.elim z)
          cases f with
          | ret u => obtain ⟨v6, σ6, H6, S6, r6, q6⟩ := hsp; exact ⟨_, _, _, S6.unsuite ok, r6, q6⟩
          | next => obtain ⟨σ6, H6, S6, q6⟩ := hsp; exact ⟨_, _, S6.unsuite ok, q6⟩
          | brk => obtain ⟨σ6, H6, S6, q6⟩ := hsp; exact ⟨_, _, S6.unsuite ok, q6⟩
          | cont => obtain ⟨σ6, H6, S6, q6⟩ := hsp; exact ⟨_, _, S6.unsuite ok, q6⟩
    exact go hh w
  · cases f with
    | next =>
      obtain ⟨σ', H', J', q⟩ := hsp
      exact wpAny_execs_nil ⟨σ', H', J'.ofTry ok, q⟩
    | brk =>
      obtain ⟨σ', H', J', q⟩ := hsp
      exact ⟨σ', H', J'.ofTry ok, q⟩
    | cont =>
      obtain ⟨σ', H', J', q⟩ := hsp
      exact ⟨σ', H', J'.ofTry ok, q⟩
    | ret u =>
      obtain ⟨v, σ', H', J', r, q⟩ := hsp
      exact ⟨v, σ', H', J'.ofTry ok, r, q⟩
end
end DL
set_option maxHeartbeats 2000000
namespace DL
open PySem PySem.Spec PyProof.Rows L2 L2H LamX
/-- the clauses: class, whether it names the exception, suite -/
abbrev Hd2 := Str × Bool × (S → Out)
section
variable {X : Cx} {Ng : List Str} {x a n back q : Str} {sg : Scope} {g : Addr} {cdg : Value} {i j : Nat} {gR gS : S → Out} {b0 : Stmt} {suite rest : List Stmt} {cs : List Str} {pb p1 p2 p3 pos : Pos}
inductive HsOk (X : Cx) (Ng : List Str) (x : Str) (sg : Scope) (g : Addr) (cdg : Value) (n : Str) : List ExceptHandler → List Hd2 → Prop
  | nil : HsOk X Ng x sg g cdg n [] []
  | named {y : Str} {gk : S → Out} {b0 : Stmt} {suite : List Stmt} {np pos' : Pos} {hds : List ExceptHandler} {hs : List Hd2} (h1 : sg.names.lookup y = some .globalImplicit) (k1 : (y == ("__debug__" : Str)) = false) (m1 : X.mg y = some (.ref (He.ga X.K y)))
      (hS : ∀ (a : Addr) (pn : List (Addr × Obj)) (s : Shared) (H : Hp) (C : Ct), C.K = X.K → DB ((tcx X Ng x sg g cdg s H).suite a pn) C (wx C8.E0) (b0 :: suite) gk) (r : HsOk X Ng x sg g cdg n hds hs) :
      HsOk X Ng x sg g cdg n (.ExceptHandler (some (.Name y np)) (some n) (b0 :: suite) pos' :: hds) ((y, true, gk) :: hs)
  | plain {y : Str} {gk : S → Out} {b0 : Stmt} {suite : List Stmt} {np pos' : Pos} {hds : List ExceptHandler} {hs : List Hd2} (h1 : sg.names.lookup y = some .globalImplicit) (k1 : (y == ("__debug__" : Str)) = false) (m1 : X.mg y = some (.ref (He.ga X.K y)))
      (hS : ∀ (a : Addr) (pn : List (Addr × Obj)) (s : Shared) (H : Hp) (C : Ct), C.K = X.K → DB ((tcx X Ng x sg g cdg s H).suite a pn) C (wx C8.E0) (b0 :: suite) gk) (r : HsOk X Ng x sg g cdg n hds hs) :
      HsOk X Ng x sg g cdg n (.ExceptHandler (some (.Name y np)) none (b0 :: suite) pos' :: hds) ((y, false, gk) :: hs)
end
/-- the clauses of a def of the program, as W knows them -/
inductive HsW (gd : Bool) (P : Program) (w : World) (K : PySem.W.Frag) (mg : Str → Option Value) (base : Heap) (k : Nat) (Ng : List Str) (x : Str) (sg : Scope) (g : Addr) (n : Str) : List ExceptHandler → List Hd2 → Prop
  | nil : HsW gd P w K mg base k Ng x sg g n [] []
  | named {y : Str} {gk : S → Out} {b0 : Stmt} {suite : List Stmt} {np pos' : Pos} {hds : List ExceptHandler} {hs : List Hd2} (h1 : sg.names.lookup y = some .globalImplicit) (k1 : (y == ("__debug__" : Str)) = false) (m1 : mg y = some (.ref (He.ga K y)))
      (hS : ∀ (cdv : Value) (A : Around) (stack : List Env) (ae : Addr) (pn : List (Addr × Obj)) (s : Shared) (H : Hp) (C : Ct), (gd = true → ((tcy P w K mg base A stack Ng x sg g cdv s H).suite ae pn).A.guards = some []) → RoomH k ((tcy P w K mg base A stack Ng x sg g cdv s H).suite ae pn).A → C.K = K →
      Passes (L2.CX P w) ((tcy P w K mg base A stack Ng x sg g cdv s H).suite ae pn) C8.E0 → DB ((tcy P w K mg base A stack Ng x sg g cdv s H).suite ae pn) C (wx C8.E0) (b0 :: suite) gk) (r : HsW gd P w K mg base k Ng x sg g n hds hs) : HsW gd P w K mg base k Ng x sg g n (.ExceptHandler (some (.Name y np)) (some n) (b0 :: suite) pos' :: hds) ((y, true, gk) :: hs)
  | plain {y : Str} {gk : S → Out} {b0 : Stmt} {suite : List Stmt} {np pos' : Pos} {hds : List ExceptHandler} {hs : List Hd2} (h1 : sg.names.lookup y = some .globalImplicit) (k1 : (y == ("__debug__" : Str)) = false) (m1 : mg y = some (.ref (He.ga K y)))
      (hS : ∀ (cdv : Value) (A : Around) (stack : List Env) (ae : Addr) (pn : List (Addr × Obj)) (s : Shared) (H : Hp) (C : Ct), (gd = true → ((tcy P w K mg base A stack Ng x sg g cdv s H).suite ae pn).A.guards = some []) → RoomH k ((tcy P w K mg base A stack Ng x sg g cdv s H).suite ae pn).A → C.K = K →
      Passes (L2.CX P w) ((tcy P w K mg base A stack Ng x sg g cdv s H).suite ae pn) C8.E0 → DB ((tcy P w K mg base A stack Ng x sg g cdv s H).suite ae pn) C (wx C8.E0) (b0 :: suite) gk) (r : HsW gd P w K mg base k Ng x sg g n hds hs) : HsW gd P w K mg base k Ng x sg g n (.ExceptHandler (some (.Name y np)) none (b0 :: suite) pos' :: hds) ((y, false, gk) :: hs)
theorem HsW.ok {gd : Bool} {X : Cx} {k : Nat} {Ng : List Str} {x n : Str} {sg : Scope} {g : Addr} {hds : List ExceptHandler} {hs : List Hd2} (h : HsW gd X.prog X.w X.K X.mg X.base k Ng x sg g n hds hs) (cdv : Value) (hgd : gd = true → X.A.guards = some []) (hr : Room (k + 1) X.A) : HsOk X Ng x sg g cdv n hds hs := by
  have none_ : ∀ {Y : Cx}, Passes (L2.CX X.prog X.w) Y C8.E0 := fun _ _ _ _ _ _ _ ⟨_, _, _, _, _, _, _, _, _, _, _, _, z⟩ => z.elim
  induction h with
  | nil => exact .nil
  | named h1 k1 m1 hS _ ih => exact .named h1 k1 m1 (fun ae pn s H C hK => hS cdv X.A X.stack ae pn s H C (fun z => hgd z) ⟨by have := (hr.deeper (envOfC x sg s.heap.objs.size g cdv)).dp; exact this, by have := (hr.deeper (envOfC x sg s.heap.objs.size g cdv)).un; exact this⟩ hK none_) ih
  | plain h1 k1 m1 hS _ ih => exact .plain h1 k1 m1 (fun ae pn s H C hK => hS cdv X.A X.stack ae pn s H C (fun z => hgd z) ⟨by have := (hr.deeper (envOfC x sg s.heap.objs.size g cdv)).dp; exact this, by have := (hr.deeper (envOfC x sg s.heap.objs.size g cdv)).un; exact this⟩ hK none_) ih
end DL
set_option maxHeartbeats 2000000
namespace DL
open PySem PySem.Spec PyProof.Rows L2
end DL
set_option maxHeartbeats 2000000
namespace PySem.SeqAt
open PySem
end PySem.SeqAt
namespace DL
open PySem PySem.Spec PyProof.Rows L2 PySem.SeqAt
end DL
set_option maxHeartbeats 2000000
namespace DL
open PySem PySem.Spec PyProof.Rows L2
section
open Builtin Builtin.ObjectAttr
variable {prog : Program} {w : World} {A : Around} {E : Value → Shared → Prop} {R : Result → Shared → Prop} {hp : Heap} {g : Array GenState} {d : Drawn} {t : Nat} {os : OsState}
/-- a further field -/
theorem xi_osa2 {K : PySem.W.Frag} {B : String} {bmB : List Value} {nm : Str} {tk : Tok} {v : Value} {x Ca dx : Addr} {fv : Array Value} {m0 : Str → Option Value} {nl : List Str} (SF : PySem.StoreFacts B bmB "object.__setattr__" "object") (X : K.In hp) (hx : hp.get? x = some { cls := .ref Ca, dict := some dx, data := .fields fv })
    (hns : hp.Ns1 dx m0) (hw : Within m0 nl) (hz : nl.length ≤ 1000) {oD : Obj} (hoD : hp.get? dx = some oD)
    (hv : PySem.W.excOver K Ca bmB = true) (ht : PySem.W.takerIn K Ca nm = some none) (hh : PySem.W.hasDictIn K Ca = true)
    (hq : ∀ h' tk', (∀ b o, b ≠ dx → hp.get? b = some o → h'.get? b = some o) → h'.Ns1 dx (fun y => if y = nm then some v else m0 y) → R (.ok (.ret .none)) ⟨h', g, d, tk', os⟩) :
    codeAny (model prog w) A (.call (.builtin "object.__setattr__") ⟨[.ref x, .str nm tk, v], []⟩) R ⟨hp, g, d, t, os⟩ := by
  refine PySem.W.osa_openX (od := some oD) SF X ⟨hx, rfl, rfl, hoD⟩ hv ht fun b => ?_
  obtain ⟨cd, hc, hd⟩ := PySem.W.any_some hh
  have hcls : PySem.W.Looks (model prog w) hp (classData Ca) cd := PySem.W.looks_clsIn X hc
  obtain ⟨n1, bs, mro, ns, qn, hd1, sn, sb, ab, col, del⟩ := cd
  dsimp only at hd
  subst hd
  unfold storeInOwnDict ownDictForStores
  repeat (first | with_reducible refine OEX.store_in_old hns hw hz ?_ | with_reducible refine wpAny_loadPart_at hx ?_ | with_reducible refine hcls.at ?_ | wp_step)
  intro h' tk' hn' hs
  exact hq h' tk' (fun b o hb ho => (hs.2 b hb).trans ho) hn'
end
structure XIn2 (K : PySem.W.Frag) (P : Program) (Ca : Addr) (f g : Str) (fI : Addr) (B newId i : String) (bmB : List Value) : Prop where
  FB : ExcBaseFacts B newId i bmB
  KF : PySem.W.KxsFacts B i
  SF : StoreFacts B bmB "object.__setattr__" "object"
  init : PySem.W.excInitIn K Ca bmB newId = true
  over : PySem.W.excOver K Ca bmB = true
  hi : PySem.W.findIn K (.ref Ca) "__init__" = some (some (.ref fI))
  ty : PySem.W.typeIn K (.ref fI) = some (.type "function")
  hs : PySem.W.findIn K (.ref Ca) "__setattr__" = some (some (.builtin "object.__setattr__"))
  ht : PySem.W.takerIn K Ca f = some none
  ht2 : PySem.W.takerIn K Ca g = some none
  hh : PySem.W.hasDictIn K Ca = true
  hB : PySem.W.subIn K (.ref Ca) (.type B) = some true
  exC : PySem.W.subIn K (.ref Ca) (.type "BaseException") = some true
  tyC : PySem.W.typeIn K (.ref Ca) = some (.type "type")
  kC : PySem.W.keepIn K (.ref Ca) = true
  sup : PySem.W.ks_superIn K Ca Ca "__init__" = some (some (.builtin i))
  sub : PySem.W.mroIn K Ca (.ref Ca) = some true
  nos : PySem.W.nsIn K mainGlobals "super" = some none
  opq : PySem.W.nsIn K cStatics "thirdparty.any" = some none
  fsf : (f == ("self" : Str)) = false
  fdb : (f == ("__debug__" : Str)) = false
  gsf : (g == ("self" : Str)) = false
  gdb : (g == ("__debug__" : Str)) = false
  gf : (g == f) = false
  cl : ∃ cd, PySem.W.clsIn K Ca = some cd
  fn : ∃ (qual : Str) (params : Arguments) (body : List Stmt) (scope : Scope) (dV kV doc pm ct oc : Value) (an od : Option Addr) (osl : Array (Option Value)) (cda cc : Addr) (ar : Arg) (vs : Array Value) (file : Str) (tf : Tok) (ccl cl : Value) (cdd cld : Option Addr) (ccs csl : Array (Option Value)),
    K.lookup fI = some ⟨oc, od, .func (PySem.W.ksFn "__init__" qual params body scope dV kV doc pm an (.ref cda) ct cc), osl⟩ ∧ xiBody2 f g body = true ∧ PySem.W.codeIn K (.ref cda) qual = true ∧
    (params.posonlyargs ++ params.args).head? = some ar ∧ ar.arg = "self" ∧ (∀ (e u v : Value) (ca : Args), ca = ⟨[e, u, v], []⟩ ∨ ca = ⟨[e], [(g, v), (f, u)]⟩ → bindArgs (PySem.W.ksFn "__init__" qual params body scope dV kV doc pm an (.ref cda) ct cc) ca = (pure [(("self" : Str), e), (f, u), (g, v)] : Sem (List (Str × Value)))) ∧
    K.lookup cda = some ⟨ccl, cdd, .fields vs, ccs⟩ ∧ vs[2]? = some (.str file tf) ∧ ((P.main.file : Str) == file) = true ∧ K.lookup cc = some ⟨cl, cld, .cell (some (.ref Ca)), csl⟩ ∧
    scope.kind = .function ∧ scope.isCoroutine = false ∧ scope.isGenerator = false ∧ (∀ x ∈ scope.names, x.2 ≠ .cell) ∧ scope.names.lookup ("super" : Str) = some .globalImplicit ∧ scope.names.lookup ("__class__" : Str) = some .free ∧
    scope.names.lookup ("self" : Str) = some .local ∧ scope.names.lookup f = some .local ∧ scope.names.lookup g = some .local
  top : (P.main.scope.names.lookup ("super" : Str)).isSome = false
section
variable {prog : Program} {w : World} {A : Around} {K : PySem.W.Frag} {s : Shared} {R : Result → Shared → Prop} {f f2 : Str} {Ca fI e t0 : Addr} {B newId i : String} {bmB : List Value} {u u2 : Value} {mg mb : Str → Option Value}
/-- the method-wrapper called: the args are laid anew -/
theorem xi_mw2 {E : Value → Shared → Prop} {q t0 : Addr} {Q : Value → Shared → Prop} (T : XIn2 K prog Ca f f2 fI B newId i bmB) (X : K.In s.heap) (hq : s.heap.get? q = some (PySem.W.kxs_mw i e)) (he : s.heap.get? e = some (HandSPX.excO Ca t0))
    (h : ∀ h', (∀ b o, b ≠ e → s.heap.get? b = some o → h'.get? b = some o) → h'.get? e = some (HandSPX.excO Ca s.heap.objs.size) → Q .none { s with heap := h' }) :
    wpAny (model prog w) A (call (.ref q) []) Q E s := by
  obtain ⟨nm, N', qn, bs, bm, hdct, sn, sub, ab, col, dd, k0, k1, k2, k3, k5, hC, hT⟩ := PySem.W.excInit_of X T.init
  obtain ⟨hh, g, d, tk, os⟩ := s
  refine wpAny_call (codeAny_of_tree ?_)
  show wpAny _ A.in1 (callAny (.ref q) ⟨[], []⟩) _ _ _
  simp only [callAny]
  refine wpAny_bind (wpAny_load hq ?_)
  simp only [PySem.W.kxs_mw, show (Value.type "method-wrapper" == Value.type "method" || Value.type "method-wrapper" == Value.type "builtin_function_or_method" || Value.type "method-wrapper" == Value.type "method-wrapper") = true by decide, if_true]
  refine PySem.W.KFB.if_so (by decide) ?_
  refine wpAny_bind (PySem.W.check_bound_init T.FB.toExcCallFacts hC he rfl ?_)
  refine wpAny_bind (wpAny_pure (wpAny_pure ?_))
  refine ⟨plainId_quiet T.FB.init.plain _, codeAny_builtin T.FB.initEntry ?_⟩
  exact PySem.W.exc_init_tree (cls := .ref Ca) (t0 := t0) (dv := none) (c2 := .none) (c3 := .none) (b4 := .bool false) he (Nat.zero_le _) fun h' k1 k2 k3 => h h' k1 k2
theorem xi_init2 (T : XIn2 K prog Ca f f2 fI B newId i bmB) {ca : Args} (hca : ca = ⟨[.ref e, u, u2], []⟩ ∨ ca = ⟨[.ref e], [(f2, u2), (f, u)]⟩) (hroom : A.depth < recursionLimit) (X : K.In s.heap) (hlim : s.heap.NoLimit) (hG : s.heap.Ns mainGlobals mg) (hB : s.heap.Ns builtinsNs mb) (hbb : ∀ x : Str, x ≠ "__name__" → mb x = bootBuiltins x)
    (he : s.heap.get? e = some (HandSPX.excO Ca t0)) (heK : K.lookup e = none)
    (hR : ∀ h' t1 dx tk, (∀ b o, b ≠ e → s.heap.get? b = some o → h'.get? b = some o) → h'.get? e = some ({ cls := .ref Ca, dict := some dx, data := .fields #[.ref t1, .none, .none, .none, .bool false, .none] } : Obj) → s.heap.objs.size ≤ dx → dx ≠ e →
      h'.Ns1 dx (fun y => if y = f2 then some u2 else if y = f then some u else none) → R (.ok (.ret .none)) { s with heap := h', toks := tk }) :
    codeAny (model prog w) A (.call (.ref fI) ca) R s := by
  obtain ⟨qual, params, body, scope, dV, kV, doc, pm, ct, oc, an, od, osl, cda, cc, ar, vs, file, tf, ccl, cl, cdd, cld, ccs, csl, lk, hbody, hcd, hpar, harg, hbind, lcode, hvs, hfile, lcell, sk, sco, sgen, scell, ssup, scls, sself, sf, sf2⟩ := T.fn
  obtain ⟨cdC, hcl⟩ := T.cl
  unfold xiBody2 at hbody
  split at hbody
  · rename_i a p0 p1 b p2 p3 p4 c p5 d p6 e' p7 p8 c2 q5 d2 q6 g' q7 q8
    simp only [Bool.and_eq_true, beq_iff_eq] at hbody
    obtain ⟨⟨⟨⟨⟨⟨⟨⟨rfl, rfl⟩, rfl⟩, rfl⟩, rfl⟩, rfl⟩, rfl⟩, rfl⟩, hline⟩ := hbody
    have hline : (p2.endLine == p3.line) = true := beq_iff_eq.mpr hline
    refine PySem.ks_codeAny_call_defAt (fd := PySem.W.ksFn "__init__" qual params _ scope dV kV doc pm an (.ref cda) ct cc) (binds := [(("self" : Str), .ref e), (e', u), (g', u2)]) hroom (X _ _ lk) rfl hlim (PySem.W.codeRec_of X hcd) rfl (.of_eq (hbind _ _ _ _ hca)) scell (fun x hx => ?_) (fun h₁ hns hk₁ => ?_) sco sgen sk
    · simp only [List.mem_cons, List.not_mem_nil, or_false] at hx
      rcases hx with rfl | rfl | rfl
      · exact sself
      · exact sf
      · exact sf2
    · obtain ⟨hp, g, dr, tk, os⟩ := s
      have X1 : K.In h₁ := fun b o z => hk₁ _ _ (X _ _ z)
      have he1 := hk₁ _ _ he
      have hself : ([(("self" : Str), Value.ref e), (e', u), (g', u2)] : List (Str × Value)).reverse.lookup (("self" : Str)) = some (Value.ref e) := by
        have z : (("self" : Str) == e') = false := by rw [BEq.comm]; exact T.fsf
        have z2 : (("self" : Str) == g') = false := by rw [BEq.comm]; exact T.gsf
        simp [List.lookup, z, z2]
      obtain ⟨oD, hD1, hD2⟩ : ∃ oD, h₁.get? Ca = some oD ∧ oD.data = .cls cdC := by
        unfold PySem.W.clsIn at hcl
        split at hcl
        · rename_i c d cd' sl ho
          cases hcl
          exact ⟨_, X1 _ _ ho, rfl⟩
        · cases hcl
      have hint : interactive (PySem.W.ksEnv qual scope hp.objs.size fI (.ref cda) cc) = false := by
        unfold interactive
        show (scope.kind == ScopeKind.module && _) = false
        rw [sk]
        rfl
      refine PySem.ks_wpAt_execs_cons (PySem.ks_wpAt_Expr_any (PySem.ks_wpAt_MethodCall (PySem.ks_wpAt_super_base (f := fI) (cc := cda) (env := PySem.W.ksEnv qual scope hp.objs.size fI (.ref cda) cc) ssup scls (by decide) rfl (X1 _ _ lk) rfl hpar rfl (X1 _ _ lcode) rfl hvs hfile T.top ?_) (xi_eval hline)) (hi := hint))
      refine PySem.W.ks_loadName_global sk ssup (Calls.loadGlobal_builtin (env := PySem.W.ksEnv qual scope hp.objs.size fI (.ref cda) cc) (ns_keep hG (hk₁ _)) (PySem.W.mg_none_of X hG T.nos) (ns_keep hB (hk₁ _)) ((hbb _ (by decide +kernel)).trans (show bootBuiltins "super" = some (.type "super") from by first | rfl | decide +kernel)) ⟨rfl, ?_⟩)
      refine wpAny_loadName_free sk scls rfl ⟨_, X1 _ _ lcell, rfl⟩ ?_
      refine wpAny_loadName_local sk (by rw [harg]; exact sself) hns (by rw [harg]; exact hself) ?_
      refine PySem.ks_wpAny_isType_cls hD1 hD2 ⟨rfl, ?_⟩
      refine PySem.ks_wpAny_call_super hD1 hD2 he1 rfl (fun c z => nomatch z) (PySem.W.looks_mroIn X1 T.sub) (fun h₂ e2 k2 => ?_)
      have X2 : K.In h₂ := fun b o z => k2 _ _ (X1 _ _ z)
      have hI : PySem.W.Looks (model prog w) h₂ (isInstance (.ref e) (.type B)) true := PySem.W.Looks.andThen (fun A Q E s k q => wpAny_typeOf_ref (k _ _ (k2 _ _ he1)) q) (PySem.W.looks_subIn X2 T.hB)
      have hxC : e ≠ Ca := fun z => by
        rw [z, hD1] at he1
        cases he1
        cases hD2
      have hsup := T.sup
      unfold PySem.W.ks_superIn at hsup
      rw [hcl] at hsup
      refine PySem.W.kxs_getMethod T.KF e2 (PySem.W.looks_opaque X2 T.opq) (l₀ := cdC.mro) (fun A Q E s k q => wpAny_bind ((PySem.W.looks_clsIn X2 hcl) A _ E s k (wpAny_pure q))) rfl X2 hsup hI hxC (by decide) ?_
      have hx3 : (h₂.push (PySem.W.kxs_mw i e)).get? h₂.objs.size = some (PySem.W.kxs_mw i e) := Heap.get?_push_size _ rfl
      refine PySem.W.kxs_callWith (i := i) (x := e) rfl (evalArgs_empty ⟨hx3, ?_⟩)
      have k3 : ∀ b o, h₁.get? b = some o → (h₂.push (PySem.W.kxs_mw i e)).get? b = some o := fun b o z => Heap.get?_push_of_some _ (k2 _ _ z)
      refine xi_mw2 (t0 := t0) T (fun b o z => k3 _ _ (X1 _ _ z)) hx3 (k3 _ _ he1) fun h₄ k4 e4 => ?_
      have hns4 : h₄.Ns hp.objs.size (fun x => ([(("self" : Str), Value.ref e), (e', u), (g', u2)] : List (Str × Value)).reverse.lookup x) := ns_keep hns fun o z => by
        refine k4 _ _ (fun y => ?_) (k3 _ _ z)
        have y2 := Heap.lt_size he
        rw [← y] at y2
        exact Nat.lt_irrefl _ y2
      have X4 : K.In h₄ := fun b o z => k4 _ _ (fun y => by rw [y, heK] at z; cases z) (k3 _ _ (X1 _ _ z))
      have e1 : ([(("self" : Str), Value.ref e), (e', u), (g', u2)] : List (Str × Value)).reverse.lookup e' = some u := by
        have z : (e' == g') = false := by rw [BEq.comm]; exact T.gf
        simp [List.lookup, z]
      have e2' : ([(("self" : Str), Value.ref e), (e', u), (g', u2)] : List (Str × Value)).reverse.lookup g' = some u2 := by simp [List.lookup]
      refine PySem.ks_wpAt_execs_cons (PySem.ks_wpAt_Assign_Attr ?_)
      refine PySem.wpAt_of_wpAny (wpAny_Name ?_ T.fdb)
      refine wpAny_loadName_local (env := PySem.W.ksEnv qual scope hp.objs.size fI (.ref cda) cc) (m := fun x => ([(("self" : Str), Value.ref e), (e', u), (g', u2)] : List (Str × Value)).reverse.lookup x) (v := u) sk sf hns4 e1 ?_
      refine wpAny_Name ?_ (by decide)
      refine wpAny_loadName_local (env := PySem.W.ksEnv qual scope hp.objs.size fI (.ref cda) cc) (m := fun x => ([(("self" : Str), Value.ref e), (e', u), (g', u2)] : List (Str × Value)).reverse.lookup x) (v := .ref e) sk sself hns4 hself ?_
      refine PySem.W.set_plain (od := none) X4 ⟨e4, rfl, rfl, trivial⟩ T.hs (xi_osa T.SF X4 e4 T.over T.ht T.hh fun h₅ tk5 dx k5 dn dne e5 n5 => ?_)
      have k04 : ∀ b o, b ≠ e → hp.get? b = some o → h₄.get? b = some o := fun b o n z => k4 _ _ n (k3 _ _ (hk₁ _ _ z))
      have X5 : K.In h₅ := fun b o z => k5 _ _ (fun y => by rw [y, heK] at z; cases z) (X4 _ _ z)
      have nhe : hp.objs.size ≠ e := fun y => by
        have y2 := Heap.lt_size he
        rw [← y] at y2
        exact Nat.lt_irrefl _ y2
      have hns5 : h₅.Ns hp.objs.size (fun x => ([(("self" : Str), Value.ref e), (e', u), (g', u2)] : List (Str × Value)).reverse.lookup x) := ns_keep hns4 fun o z => k5 _ _ nhe z
      have hw : Within (fun y => if y = e' then some u else none) [e'] := Within.cons e' u (fun y hy => absurd rfl hy)
      obtain ⟨oD5, esD5, epD5, hoD5, hdD5, _⟩ := n5.count hw
      refine PySem.ks_wpAt_execs_cons (PySem.ks_wpAt_Assign_Attr ?_)
      refine PySem.wpAt_of_wpAny (wpAny_Name ?_ T.gdb)
      refine wpAny_loadName_local (env := PySem.W.ksEnv qual scope hp.objs.size fI (.ref cda) cc) (m := fun x => ([(("self" : Str), Value.ref e), (e', u), (g', u2)] : List (Str × Value)).reverse.lookup x) (v := u2) sk sf2 hns5 e2' ?_
      refine wpAny_Name ?_ (by decide)
      refine wpAny_loadName_local (env := PySem.W.ksEnv qual scope hp.objs.size fI (.ref cda) cc) (m := fun x => ([(("self" : Str), Value.ref e), (e', u), (g', u2)] : List (Str × Value)).reverse.lookup x) (v := .ref e) sk sself hns5 hself ?_
      refine PySem.W.set_plain (od := some oD5) X5 ⟨e5, rfl, rfl, hoD5⟩ T.hs (xi_osa2 T.SF X5 e5 n5 hw (by simp) hoD5 T.over T.ht2 T.hh fun h₆ tk6 k6 n6 => ?_)
      refine PySem.wpAt_of_wpAny (wpAny_execs_nil ?_)
      obtain ⟨oL, esL, epL, eL, _⟩ := hns4
      have dn' : hp.objs.size ≤ dx := Nat.le_trans (Nat.le_of_lt (Heap.lt_size eL)) dn
      exact hR h₆ _ dx tk6 (fun b o n z => k6 _ _ (fun y => absurd (Heap.lt_size z) (Nat.not_lt.mpr (by rw [y]; exact dn'))) (k5 _ _ n (k04 _ _ n z))) (k6 _ _ (Ne.symm dne) e5) dn' dne n6
  · cases hbody
end
def tMkX2 (Ca : Addr) (f f2 : Str) (te te2 : TE) : L2.St → Hp → XK → Prop := fun σ H Q => te σ H fun y H1 => te2 σ H1 fun y2 H2 => ∀ d, H2 d = none → Q (.ref Ca) (some d) (upd H2 d (.xd [(f2, y2), (f, y)]))
section
variable {X : Cx} {f f2 x : Str} {Ca fI : Addr} {B newId i : String} {bmB : List Value} {p pos : Pos} {e e2 : Expr} {te te2 : TE} {k : Nat}
def mkXQ2 (Ca : Addr) (f f2 : Str) (Q : XK) : List V → Hp → Prop := fun vs H1 => match vs with
  | [y, y2] => ∀ d, H1 d = none → Q (.ref Ca) (some d) (upd H1 d (.xd [(f2, y2), (f, y)]))
  | _ => False
theorem pmk_xi2 (T : XIn2 X.K X.prog Ca f f2 fI B newId i bmB) (hr : Room (k + 1) X.A) (hg : Gl X x) (hm : X.mg x = some (.ref Ca)) (he : PE X e te) (he2 : PE X e2 te2)
    (hdb : (x == ("__debug__" : Str)) = false := by decide) (hse : starEach [e, e2] X.env = (false, eval e X.env) :: starEach [e2] X.env := by rfl) (hse2 : starEach [e2] X.env = (false, eval e2 X.env) :: starEach [] X.env := by rfl) (hpl : (backTo pos (starEach [e2] X.env)).any (·.1) = false := by rfl) :
    PMk X (.Call (.Name x p) [e, e2] [] pos) (tMkX2 Ca f f2 te te2) := by
  intro pins s σ H Q I h
  refine wpAny_Call_Name_kw (ld_glob I hg hm ?_ hdb)
  refine PySem.W.callWith_K (h₀ := X.base) I.ok.mod.kin T.kC (thn ((pa_cons he (pa_cons he2 pa_nil hse2) hse).run pos pins s σ H (mkXQ2 Ca f f2 Q) I h) fun us s1 ⟨vs, H1, I1, r1, q1⟩ => ⟨I1.kIn, ?_⟩) hse hpl
  match vs, r1, q1 with
  | [y, y2], .cons (b := u) ry (.cons (b := u2) ry2 rn), q1 =>
      cases rn
      have q1 : ∀ d, H1 d = none → Q (.ref Ca) (some d) (upd H1 d (.xd [(f2, y2), (f, y)])) := q1
      show wpAny _ _ (call (.ref Ca) [u, u2]) _ _ _
      obtain ⟨hp, g, dr, tk, os⟩ := s1
      obtain ⟨nm, N', qn, bs, bm, hdct, sn, sub, ab, col, dd, k0, k1, k2, k3, k5, hC, hT⟩ := PySem.W.excInit_of I1.kIn T.init
      have kk : ∀ b o, hp.get? b = some o → ((hp.push (PySem.W.kdv_tup [u, u2])).push (HandSPX.excO Ca hp.objs.size)).get? b = some o := fun b o z => Heap.get?_push_of_some _ (Heap.get?_push_of_some _ z)
      have hget : ((hp.push (PySem.W.kdv_tup [u, u2])).push (HandSPX.excO Ca hp.objs.size)).get? (hp.objs.size + 1) = some (HandSPX.excO Ca hp.objs.size) := by heap_get
      have fresh : hp.get? (hp.objs.size + 1) = none := by
        cases z : hp.get? (hp.objs.size + 1) with
        | none => rfl
        | some o => exact absurd (Heap.lt_size z) (Nat.not_lt.mpr (Nat.le_succ _))
      have heK : X.K.lookup (hp.objs.size + 1) = none := by
        cases z : X.K.lookup (hp.objs.size + 1) with
        | none => rfl
        | some o => rw [I1.kIn _ _ z] at fresh; cases fresh
      obtain ⟨mb, nsb, bb⟩ := I1.mod.blt
      have bk := I1.bk
      refine wpAny_call (HandSPX.call_own T.FB hT hC (PySem.W.looks_findIn I1.kIn T.hi) (fun self => PySem.W.bind_fn I1.kIn self T.ty) (by show 2 ≤ sizeLine; rw [sizeLine_eq]; omega) ?_)
      refine xi_init2 (t0 := hp.objs.size) T (.inl rfl) (hr.make Ca [u, u2] []).depth (fun b o z => kk _ _ (I1.kIn _ _ z)) (I1.nolimit.keeps kk) (ns_keep (I1.mod.glob) fun o z => kk _ _ (bk _ _ z)) (ns_keep nsb fun o z => kk _ _ (bk _ _ z)) bb hget heK fun h' t1 dx tk' kp he' hdx dne hns => ⟨rfl, ?_⟩
      have hdx0 : hp.objs.size ≤ dx := by
        have z : hp.objs.size ≤ ((hp.push (PySem.W.kdv_tup [u, u2])).push (HandSPX.excO Ca hp.objs.size)).objs.size := by rw [Heap.size_push, Heap.size_push]; omega
        exact Nat.le_trans z hdx
      obtain ⟨G, g1, g2⟩ := restrict h' fun b => decide (b ≠ hp.objs.size + 1)
      have gk : ∀ b, b ≠ hp.objs.size + 1 → G.get? b = h'.get? b := fun b hb => g1 b (decide_eq_true hb)
      have ge : G.get? (hp.objs.size + 1) = none := g2 _ (by simp)
      have up : ∀ b o, hp.get? b = some o → G.get? b = some o := fun b o z => by
        have nb : b ≠ hp.objs.size + 1 := fun y => by rw [y, fresh] at z; cases z
        rw [gk b nb]
        exact kp b o nb (kk b o z)
      have nH1 : H1 (hp.objs.size + 1) = none := I1.hok.fresh (Nat.le_succ _)
      have J : Inv X pins σ (upd H1 dx (.xd [(f2, y2), (f, y)])) ⟨G, g, dr, tk', os⟩ := I1.laid (t' := tk') up hdx0 ⟨_, hns.at fun o z => (gk _ dne).trans z, relO_put (fs := [(f, y)]) ry2 (relO_put (fs := []) ry fun _ => True.intro)⟩
      refine ⟨hp.objs.size + 1, _, _, ⟨G, g, dr, tk', os⟩, _, .ref Ca, some dx, rfl, J, fun b o z => ?_, ge, he', ⟨rfl, rfl⟩, rfl, rfl, ?_, rfl, I1.bare, raises_own T.exC T.tyC, q1 dx (I1.hok.fresh hdx0)⟩
      · have nb : b ≠ hp.objs.size + 1 := fun y => by rw [y, ge] at z; cases z
        rw [gk b nb] at z
        exact z
      · rw [upd_ne (Ne.symm dne)]
        exact nH1
end
structure XC2 (K : PySem.W.Frag) (P : Program) (c f g : Str) : Prop where
  ex : ∃ fI B newId i bmB, XIn2 K P (He.ga K c) f g fI B newId i bmB
theorem xi_bind2 {qual f g : Str} {params : Arguments} {body : List Stmt} {scope : Scope} {kV doc pm ct : Value} {an : Option Addr} {cd : Value} {cc : Addr} (hp : xPar2 f g params = true) (hf : (f == ("index" : Str) && g == ("shown" : Str)) = true) (e u v : Value) :
    bindArgs (PySem.W.ksFn "__init__" qual params body scope .none kV doc pm an cd ct cc) ⟨[e, u, v], []⟩ = (pure [(("self" : Str), e), (f, u), (g, v)] : Sem (List (Str × Value))) := by
  unfold xPar2 at hp
  split at hp
  · rename_i a x1 x2 b x3 x4 c x5 x6
    rw [Bool.and_eq_true, Bool.and_eq_true, beq_iff_eq, beq_iff_eq, beq_iff_eq] at hp
    obtain ⟨⟨rfl, rfl⟩, rfl⟩ := hp
    rw [Bool.and_eq_true, beq_iff_eq, beq_iff_eq] at hf
    obtain ⟨rfl, rfl⟩ := hf
    first | rfl | kernel_rfl
  · cases hp
theorem xi_bindk2 {qual f g : Str} {params : Arguments} {body : List Stmt} {scope : Scope} {kV doc pm ct : Value} {an : Option Addr} {cd : Value} {cc : Addr} (hp : xPar2 f g params = true) (hf : (f == ("index" : Str) && g == ("shown" : Str)) = true) (e u v : Value) :
    bindArgs (PySem.W.ksFn "__init__" qual params body scope .none kV doc pm an cd ct cc) ⟨[e], [(g, v), (f, u)]⟩ = (pure [(("self" : Str), e), (f, u), (g, v)] : Sem (List (Str × Value))) := by
  unfold xPar2 at hp
  split at hp
  · rename_i a x1 x2 b x3 x4 c x5 x6
    rw [Bool.and_eq_true, Bool.and_eq_true, beq_iff_eq, beq_iff_eq, beq_iff_eq] at hp
    obtain ⟨⟨rfl, rfl⟩, rfl⟩ := hp
    rw [Bool.and_eq_true, beq_iff_eq, beq_iff_eq] at hf
    obtain ⟨rfl, rfl⟩ := hf
    first | rfl | kernel_rfl
  · cases hp
theorem xPar2_ok {f g : Str} {p : Arguments} (h : xPar2 f g p = true) : ∃ x1 x2 x3 x4 x5 x6, p = ⟨[], [⟨"self", x1, x2⟩, ⟨f, x3, x4⟩, ⟨g, x5, x6⟩], none, [], [], none, []⟩ := by
  unfold xPar2 at h
  split at h
  · rename_i a x1 x2 b x3 x4 c x5 x6
    rw [Bool.and_eq_true, Bool.and_eq_true, beq_iff_eq, beq_iff_eq, beq_iff_eq] at h
    obtain ⟨⟨rfl, rfl⟩, rfl⟩ := h
    exact ⟨x1, x2, x3, x4, x5, x6, rfl⟩
  · cases h
theorem xFn2_ok {K : PySem.W.Frag} {P : Program} {Ca fI : Addr} {f g file : Str} (hP : ((P.main.file : Str) == file) = true) (hf : (f == ("index" : Str) && g == ("shown" : Str)) = true) (h : xFn2 K Ca f g file (K.lookup fI) = true) :
    ∃ (qual : Str) (params : Arguments) (body : List Stmt) (scope : Scope) (dV kV doc pm ct oc : Value) (an od : Option Addr) (osl : Array (Option Value)) (cda cc : Addr) (ar : Arg) (vs : Array Value) (file : Str) (tf : Tok) (ccl cl : Value) (cdd cld : Option Addr) (ccs csl : Array (Option Value)),
      K.lookup fI = some ⟨oc, od, .func (PySem.W.ksFn "__init__" qual params body scope dV kV doc pm an (.ref cda) ct cc), osl⟩ ∧ xiBody2 f g body = true ∧ PySem.W.codeIn K (.ref cda) qual = true ∧
      (params.posonlyargs ++ params.args).head? = some ar ∧ ar.arg = "self" ∧ (∀ (e u v : Value) (ca : Args), ca = ⟨[e, u, v], []⟩ ∨ ca = ⟨[e], [(g, v), (f, u)]⟩ → bindArgs (PySem.W.ksFn "__init__" qual params body scope dV kV doc pm an (.ref cda) ct cc) ca = (pure [(("self" : Str), e), (f, u), (g, v)] : Sem (List (Str × Value)))) ∧
      K.lookup cda = some ⟨ccl, cdd, .fields vs, ccs⟩ ∧ vs[2]? = some (.str file tf) ∧ ((P.main.file : Str) == file) = true ∧ K.lookup cc = some ⟨cl, cld, .cell (some (.ref Ca)), csl⟩ ∧
      scope.kind = .function ∧ scope.isCoroutine = false ∧ scope.isGenerator = false ∧ (∀ x ∈ scope.names, x.2 ≠ .cell) ∧ scope.names.lookup ("super" : Str) = some .globalImplicit ∧ scope.names.lookup ("__class__" : Str) = some .free ∧
      scope.names.lookup ("self" : Str) = some .local ∧ scope.names.lookup f = some .local ∧ scope.names.lookup g = some .local := by
  cases hl : K.lookup fI with
  | none => rw [hl] at h; cases h
  | some o =>
    rw [hl] at h
    obtain ⟨oc, od, dt, osl⟩ := o
    cases dt with
    | func fd =>
      obtain ⟨n1, n2, n3, n4, n5, n6, n7, n8, n9, n10, n11, n12, n13, n14, n15⟩ := fd
      cases n4 with
      | expr _ => simp [xFn2] at h
      | stmts b =>
        cases n8 with
        | none =>
          have h : (n1 == "__init__" && decide (n6 = mainGlobals) && decide (n15 = builtinsNs) && xiBody2 f g b && xCell K Ca n7 && PySem.W.codeIn K n13 n2 && xFile K file n13 && xPar2 f g n3 && true && xScope2 f g n5) = true := h
          simp only [Bool.and_eq_true, beq_iff_eq, decide_eq_true_eq] at h
          obtain ⟨⟨⟨⟨⟨⟨⟨⟨⟨rfl, rfl⟩, rfl⟩, k4⟩, k5⟩, k6⟩, k7⟩, k8⟩, _⟩, k10⟩ := h
          obtain ⟨cc, q1, q2, q3, rfl, eq1⟩ := xCell_ok k5
          obtain ⟨cda, r1, r2, vs, r3, tf, rfl, eq2, eq3⟩ := xFile_ok k7
          obtain ⟨x1, x2, x3, x4, x5, x6, hp⟩ := xPar2_ok k8
          unfold xScope2 at k10
          simp only [Bool.and_eq_true, Bool.not_eq_true', decide_eq_true_eq, List.all_eq_true, decide_eq_false_iff_not] at k10
          obtain ⟨⟨⟨⟨⟨⟨⟨⟨s1, s2⟩, s3⟩, s4⟩, s5⟩, s6⟩, s7⟩, s8⟩, s9⟩ := k10
          exact ⟨n2, n3, b, n5, .none, n9, n10, n11, n14, oc, n12, od, osl, cda, cc, ⟨"self", x1, x2⟩, vs, file, tf, r1, q1, r2, q2, r3, q3, rfl, k4, k6, by rw [hp]; rfl, rfl, fun e u v ca hca => by
            rcases hca with rfl | rfl
            · exact xi_bind2 k8 hf e u v
            · exact xi_bindk2 k8 hf e u v, eq2, eq3, hP, eq1, s1, s2, s3, s4, s5, s6, s7, s8, s9⟩
        | _ => simp [xFn2] at h
    | _ => cases h
theorem x2c_of {K : PySem.W.Frag} {P : Program} {c f g file : Str} {B : String} (h : xn2B K c f g file B = true) (hP : XMain P file) : XC2 K P c f g := by
  unfold xn2B at h
  simp only [Bool.and_eq_true] at h
  obtain ⟨⟨⟨⟨⟨⟨⟨⟨⟨⟨⟨⟨⟨⟨⟨h1, h2⟩, h3⟩, h4⟩, h5⟩, h5b⟩, h6⟩, h7⟩, h8⟩, h9⟩, h10⟩, h11⟩, h12⟩, h13⟩, h14⟩, h15⟩ := h
  have key : ∀ {B newId i : String} {bmB : List Value}, ExcBaseFacts B newId i bmB → PySem.W.KxsFacts B i → StoreFacts B bmB "object.__setattr__" "object" →
      (PySem.W.excInitIn K (He.ga K c) bmB newId && PySem.W.excOver K (He.ga K c) bmB && decide (PySem.W.subIn K (.ref (He.ga K c)) (.type B) = some true) && He.eqO (PySem.W.ks_superIn K (He.ga K c) (He.ga K c) "__init__") (some (some (.builtin i)))) = true → XC2 K P c f g := fun {B newId i bmB} FB KF SF hb => by
    simp only [Bool.and_eq_true] at hb
    obtain ⟨⟨⟨b1, b2⟩, b3⟩, b4⟩ := hb
    refine ⟨He.ma K (He.ga K c) "__init__", B, newId, i, bmB, ?_⟩
    have hfn := xFn2_ok hP.fl ((Bool.and_eq_true _ _).mpr h13) h15
    exact {
      FB := FB, KF := KF, SF := SF, init := b1, over := b2, hi := He.eqO_ok h2, ty := of_decide_eq_true h3, hs := He.eqO_ok h4, ht := He.eqO_ok h5, ht2 := He.eqO_ok h5b, hh := h6, hB := of_decide_eq_true b3, exC := of_decide_eq_true h7, tyC := of_decide_eq_true h8
      kC := h9, sup := He.eqO_ok b4, sub := of_decide_eq_true h10, nos := He.eqO_ok h11, opq := He.eqO_ok h12
      fsf := by
        obtain ⟨e1, e2⟩ := h13
        rw [beq_iff_eq] at e1 e2
        subst e1 e2
        decide
      fdb := by
        obtain ⟨e1, e2⟩ := h13
        rw [beq_iff_eq] at e1 e2
        subst e1 e2
        decide
      gsf := by
        obtain ⟨e1, e2⟩ := h13
        rw [beq_iff_eq] at e1 e2
        subst e1 e2
        decide
      gdb := by
        obtain ⟨e1, e2⟩ := h13
        rw [beq_iff_eq] at e1 e2
        subst e1 e2
        decide
      gf := by
        obtain ⟨e1, e2⟩ := h13
        rw [beq_iff_eq] at e1 e2
        subst e1 e2
        decide
      cl := Option.isSome_iff_exists.mp h14, fn := hfn, top := hP.top }
  unfold xNames at h1
  split at h1
  · rename_i e
    split at e
    · cases e; exact key F.excBase_ValueError PySem.W.kxs_ValueError F.store_ValueError h1
    · cases e; exact key F.excBase_LookupError PySem.W.kxs_LookupError F.store_LookupError h1
    · cases e; exact key F.excBase_ArithmeticError PySem.W.kxs_ArithmeticError F.store_ArithmeticError h1
    · cases e
  · cases h1
end DL
set_option maxHeartbeats 2000000
namespace DL
open PySem PySem.Spec PyProof.Rows L2
end DL
set_option maxHeartbeats 2000000
namespace DL
open PySem PySem.Spec PyProof.Rows L2
theorem exH_ok {P : Program} {w : World} {H : Hp} {h : Heap} {a : Addr} {o : Obj} (e : h.get? a = some o) : ObjOk P w H h a (exH a o) :=
  ⟨e, ⟨o, e⟩, fun _ _ z k => k _ z⟩
section
variable {fs ex : List Addr} {H : Hp} {h h' : Heap} {a : Addr} {o : HO}
theorem un_put (k : ∀ b u, h.get? b = some u → h'.get? b = some u) (ha : h.get? a = none) (n : H a = none) : Un fs ex H (upd H a o) h h' := by
  have low : ∀ {b : Addr} {u : Obj}, h.get? b = some u → b ≠ a := fun {b u} q z => by rw [z, ha] at q; cases q
  have old : ∀ {b : Addr} {u : HO}, H b = some u → upd H a o b = some u := fun {b u} q => by rw [upd_ne (ne_of_none q n)]; exact q
  constructor
  case keep => exact fun b u q _ _ _ => k b u q
  case slot => exact fun b u q _ _ _ => ⟨u.slots, k b u q⟩
  case free => exact fun b u q z _ => (upd_ne (low q)).trans z
  case there => exact fun b u q _ => ⟨u, k b u q⟩
  case tups => exact fun b xs q => old q
  case frzs => exact fun b u xs q => old q
  case tbls => exact fun b ps q => ⟨#[], by simpa using old q⟩
theorem hok_put {P : Program} {w : World} (x : HOk P w H h) (k : ∀ b u, h.get? b = some u → h'.get? b = some u) (n : H a = none) (new : ObjOk P w (upd H a o) h' a o) : HOk P w (upd H a o) h' := by
  intro b u e
  have old : ∀ {c : Addr} {v : HO}, H c = some v → upd H a o c = some v := fun {c v} q => by rw [upd_ne (ne_of_none q n)]; exact q
  by_cases hb : b = a
  · rw [hb, upd_same] at e
    cases e
    rw [hb]
    exact new
  · rw [upd_ne hb] at e
    exact (x b u e).stay (fun c v _ q => k c v q) (fun c q => old q) fun c xs q => old q
end
section
variable {X : Cx} {e : Expr} {t : L2.St → Hp → XK → Prop}
/-- what makes an error, as an expression -/
theorem pe_mk (he : PMk X e t) : PE X e (fun σ H Q => t σ H fun cls d H' => ∀ a oe vs, H' a = none → Zc cls d oe → oe.data = .fields vs → Q (.ref a) (upd H' a (exH a oe))) := by
  refine ⟨fun pins s σ H Q I h => ?_⟩
  refine wpAny_mono (he pins s σ H _ I h) (fun u s1 hu => ?_) fun _ _ x => x
  obtain ⟨a, oe, vs, sI, H', cls, d, rfl, J, k, hne, ha, hz, hd, h1, na, os, ag, r, q⟩ := hu
  have J2 : Inv X pins σ (upd H' a (exH a oe)) { sI with heap := s1.heap, toks := s1.toks } := J.un (un_put k hne na) (hok_put J.hok k na (exH_ok ha))
  exact ⟨.ref a, upd H' a (exH a oe), ⟨J2.ok, os.trans J2.os, ag, J2.base, J2.loc, J2.cell, J2.free, J2.freeC, J2.pin, J2.hok, J2.len⟩, rfl, q a oe vs na hz hd⟩
end
def eEx (c f : Str) (fa : M D) : M D := mbind fa fun d => mret (.exn c [(f, d)])
def eEx0 (c : Str) : M D := mret (.exn c [])
def eEx2 (c f f2 : Str) (fa fb : M D) : M D := mbind fa fun d => mbind fb fun d2 => mret (.exn c [(f2, d2), (f, d)])
section
variable {C : Ct} {W : WX} {X : Cx} {fa fb : M D} {e e2 : Expr} {pos p : Pos} {f f2 x : Str} {k : Nat}
theorem ext_ex {H F : Hp} {dx a : Addr} {fs : List (Str × V)} {oe : Obj} (s : Sub F H) (nd : H dx = none) (na : upd H dx (.xd fs) a = none) : Ext H F (upd (upd H dx (.xd fs)) a (exH a oe)) (upd (upd F dx (.xd fs)) a (exH a oe)) :=
  (Ext.new s nd).trans (Ext.new (Ext.new s nd).s na)
theorem is_ex {K : PySem.W.Frag} {H F : Hp} {dx a : Addr} {c : Str} {vs : List (Str × V)} {fs : List (Str × D)} {oe : Obj} {ws : Array Value} (s : Sub F H) (nd : H dx = none) (na : upd H dx (.xd vs) a = none) (hz : Zc (.ref (He.ga K c)) (some dx) oe) (hd : oe.data = .fields ws) (ifs : IsFs K F vs fs) :
    Is K (upd (upd F dx (.xd vs)) a (exH a oe)) (.ref a) (.exn c fs) := by
  have ne : dx ≠ a := fun z => by rw [z, upd_same] at na; cases na
  exact .exn upd_same hz.1 hz.2 hd (by rw [upd_ne ne, upd_same]) (ifs.up (ext_ex (oe := oe) s nd na).f)
theorem d_exv (hK : C.K = X.K) (T : XC X.K X.prog x f) (hr : Room (k + 1) X.A) (hg : Gl X x) (hm : X.mg x = some (.ref (He.ga X.K x))) (ha : DE X C W e fa)
    (hdb : (x == ("__debug__" : Str)) = false := by decide) (hse : starEach [e] X.env = (false, eval e X.env) :: starEach [] X.env := by rfl) (hpl : (backTo pos (starEach [] X.env)).any (·.1) = false := by rfl) :
    DE X C W (.Call (.Name x p) [e] [] pos) (eEx x f fa) := by
  obtain ⟨fI, B, newId, i, bmB, T⟩ := T
  refine pe_imp (pe_mk (pmk_xi T hr hg hm ha hdb hse hpl)) fun σ H Q ⟨F, s, r, q⟩ => ⟨F, s, r, (Post.bind q).mono fun d s1 H1 F1 r1 u1 q1 y iy dx nd a oe vs na hz hd => ?_⟩
  have hz : Zc (.ref (He.ga C.K x)) (some dx) oe := by rw [hK]; exact hz
  have xx := ext_ex (oe := oe) r1.sub nd na
  exact q1 _ _ (r1.ext xx) xx.f _ (is_ex r1.sub nd na hz hd (.cons iy .nil))
theorem d_ex0 (hK : C.K = X.K) (T : XZc X.K x) (hg : Gl X x) (hm : X.mg x = some (.ref (He.ga X.K x)))
    (hdb : (x == ("__debug__" : Str)) = false := by decide) : DE X C W (.Call (.Name x p) [] [] pos) (eEx0 x) := by
  obtain ⟨B, newId, i, bmB, T⟩ := T
  refine pe_imp (pe_mk (pmk_own0 T hm hg hdb)) fun σ H Q ⟨F, s, r, q⟩ => fun a oe vs na hz hd => ?_
  have hz : Zc (.ref (He.ga C.K x)) none oe := by rw [hK]; exact hz
  have xx := Ext.new (o := exH a oe) r.sub na
  exact q _ _ (r.ext xx) xx.f _ (.exn0 upd_same hz.1 hz.2 hd)
end
end DL
set_option maxHeartbeats 2000000
namespace PySem
open PySem.HandSPX
section
variable {M : Model} {A : Around} {E : Value → Shared → Prop} {h : Heap} {g : Array GenState} {d : Drawn} {t : Nat} {os : OsState}
variable {nm q : Str} {C N : Addr} {bs bm bmB : List Value} {hdct : Bool} {sn : List Str} {sub : List Value} {ab : Bool} {col : Option Bool} {dd : Option Addr} {k0 k1 k2 k3 k5 : Option Value} {B newId initId : String} {kw : List (Str × Value)}
theorem kw_check_new (F : ExcBaseFacts B newId initId bmB) (hT : ∀ X : String, bm.contains (.type X) = bmB.contains (.type X)) {Q : Unit → Shared → Prop}
    (hC : h.get? C = some (excClassObj nm q C N bs bm hdct sn sub ab col dd k0 k1 k2 k3 k5 newId)) (hq : Q () ⟨h, g, d, t, os⟩) : wpAny M A (checkBuiltinCall newId ⟨[.ref C], kw⟩) Q E ⟨h, g, d, t, os⟩ := by
  have hcont : (Value.ref C :: bm).contains (.type B) = true := by rw [List.contains_cons, hT, F.hasB, Bool.or_true]
  have hstar := F.noStar
  simp only [checkBuiltinCall, F.newKind, F.newSplit, F.newRow]
  repeat (first | refine wpAny_loadPart_at hC ?_ | (refine wpAny_isSubtype_exc hC ?_; rw [hcont]) | refine wpAny_staticBase_exc hC ?_ | refine wpAny_madeBy_exc hC ?_ | simp only [bne_self_eq_false, Bool.false_eq_true, if_false] | wp_step)
  exact hq
end
section
variable {prog : Program} {w : World} {A : Around} {E : Value → Shared → Prop} {R : Result → Shared → Prop} {h : Heap} {g : Array GenState} {d : Drawn} {t : Nat} {os : OsState}
variable {nm q : Str} {C N : Addr} {bs bm bmB : List Value} {hdct : Bool} {sn : List Str} {sub : List Value} {ab : Bool} {col : Option Bool} {dd : Option Addr} {k0 k1 k2 k3 k5 : Option Value} {B newId initId : String} {kw : List (Str × Value)}
theorem kw_new (F : ExcBaseFacts B newId initId bmB) (hT : ∀ X : String, bm.contains (.type X) = bmB.contains (.type X))
    (hC : h.get? C = some (excClassObj nm q C N bs bm hdct sn sub ab col dd k0 k1 k2 k3 k5 newId))
    (hq : R (.ok (.ret (.ref (h.objs.size + 1)))) ⟨(h.push (W.kdv_tup [])).push (excO C h.objs.size), g, d, t, os⟩) :
    codeAny (model prog w) A (.builtin newId ⟨[.ref C], kw⟩) R ⟨h, g, d, t, os⟩ := by
  have hends := F.ends
  have hcB : (Value.ref C :: bm).contains (.type B) = true := by rw [List.contains_cons, hT, F.hasB, Bool.or_true]
  have hcA : (Value.ref C :: bm).contains (.type "AttributeError") = false := by rw [List.contains_cons, hT, F.noAttr]; rfl
  have hcN : (Value.ref C :: bm).contains (.type "NameError") = false := by rw [List.contains_cons, hT, F.noName]; rfl
  refine codeAny_builtinAt F.entry ?_
  unfold Builtin.«BaseException.__new__»
  refine wpAt_bind ?_
  show wpAt _ _ _ (stack >>= _) _ _ _
  refine wpAt_bind (wpAt_stack fun p below => wpAt_of_wpAny ?_)
  wp_walk
  refine wpAt_of_wpAny ?_
  rw [F.owner]
  repeat (first | with_reducible refine wpAny_madeHere_exc F.canon hC ?_ | with_reducible refine wpAny_loadPart_at hC ?_ | (with_reducible refine wpAny_isSubtype_exc hC ?_; first | rw [hcB] | rw [hcA] | rw [hcN]) | wp_step)
  show R _ _
  rw [Heap.size_push]
  exact hq
theorem kw_type_call (F : ExcBaseFacts B newId initId bmB) (hT : ∀ X : String, bm.contains (.type X) = bmB.contains (.type X)) {fI : Addr} {Q : Fin → Shared → Prop}
    (hC : h.get? C = some (excClassObj nm q C N bs bm hdct sn sub ab col dd k0 k1 k2 k3 k5 newId))
    (hi : W.Looks (model prog w) h (typeLookup (.ref C) "__init__") (some (.ref fI))) (hb : ∀ self, W.Looks (model prog w) h (bindSpecial (.ref fI) self) (.ref fI, [self]))
    (hq : codeAny (model prog w) A (.call (.ref fI) ⟨[.ref (h.objs.size + 1)], kw⟩)
      (fun r s' => match r with | .ok (.ret v) => v = .none ∧ Q (.done (.ret (.ref (h.objs.size + 1)))) s' | .ok _ => False | .error e => E e s')
      ⟨(h.push (W.kdv_tup [])).push (excO C h.objs.size), g, d, t, os⟩) :
    wpAny (model prog w) A (Builtin.«type.__call__» ⟨[.ref C], kw⟩) Q E ⟨h, g, d, t, os⟩ := by
  repeat (first | with_reducible refine wpAny_loadPart_at hC ?_ | with_reducible refine wpAny_madeBy_exc hC ?_ | wp_step)
  refine codeAny_call_builtin_code (Code.quiet_builtin _ F.quiet) (kw_check_new F hT hC ?_)
  refine kw_new F hT hC ?_
  show wpAny _ _ _ _ _ _
  have k : ∀ b o, h.get? b = some o → ((h.push (W.kdv_tup [])).push (excO C h.objs.size)).get? b = some o := fun b o e => Heap.get?_push_of_some _ (Heap.get?_push_of_some _ e)
  have hC₁ := k _ _ hC
  have hget : ((h.push (W.kdv_tup [])).push (excO C h.objs.size)).get? (h.objs.size + 1) = some (excO C h.objs.size) := by heap_get
  have hcC : (Value.ref C :: bm).contains (.ref C) = true := by simp
  have i1 := hi.keeps k
  have b1 := (hb (.ref (h.objs.size + 1))).keeps k
  unfold isInstance
  repeat (first | with_reducible refine wpAny_loadPart_at hget ?_ | (with_reducible refine wpAny_isSubtype_exc hC₁ ?_; rw [hcC]) | wp_step)
  show wpAny _ _ (typeLookup (.ref C) _) _ _ _
  refine i1.at ?_
  refine wpAny_holding (wpAny_bind (b1.at ?_))
  refine wpAny_bind (wpAny_call (codeAny_mono hq fun r s' z => ?_))
  rcases r with e | (v | _ | _ | _) <;> first | exact z | exact z.elim | skip
  obtain ⟨rfl, z⟩ := z
  first
    | exact wpAny_pure (wpAny_pure z)
    | (wp_walk; exact z)
theorem kw_call (F : ExcBaseFacts B newId initId bmB) (hT : ∀ X : String, bm.contains (.type X) = bmB.contains (.type X)) {fI : Addr}
    (hC : h.get? C = some (excClassObj nm q C N bs bm hdct sn sub ab col dd k0 k1 k2 k3 k5 newId))
    (hi : W.Looks (model prog w) h (typeLookup (.ref C) "__init__") (some (.ref fI))) (hb : ∀ self, W.Looks (model prog w) h (bindSpecial (.ref fI) self) (.ref fI, [self]))
    (hq : codeAny (model prog w) (A.under (.builtin "type.__call__" ⟨[.ref C], kw⟩)) (.call (.ref fI) ⟨[.ref (h.objs.size + 1)], kw⟩) (W.InitBack (h.objs.size + 1) R)
      ⟨(h.push (W.kdv_tup [])).push (excO C h.objs.size), g, d, t, os⟩) :
    codeAny (model prog w) A (.call (.ref C) ⟨[], kw⟩) R ⟨h, g, d, t, os⟩ := by
  have f1 := tc_lookup
  have f2 := tc_bind (.ref C)
  have hTy : (⟨h, g, d, t, os⟩ : Shared).TypeIs (.ref C) "type" := ⟨_, hC, rfl⟩
  refine codeAny_of_tree ?_
  show wpAny _ _ (callAny (.ref C) _) _ _ _
  repeat (any_goals (first | assumption | with_reducible refine wpAny_loadPart_at hC ?_ | wp_step))
  refine ⟨rfl, ?_⟩
  refine codeAny_call_builtin_at (Code.quiet_builtin _ (by decide +kernel)) entry_typeCall (wpAny_check_type_call_sub hC (kw_type_call F hT hC hi hb ?_))
  refine codeAny_mono hq fun r s' z => ?_
  rcases r with e | (v | _ | _ | _) <;> exact z
end
end PySem
namespace DL
open PySem PySem.Spec PyProof.Rows L2
section
variable {X : Cx} {f f2 x : Str} {Ca fI : Addr} {B newId i : String} {bmB : List Value} {p pos kpos kpos2 : Pos} {e e2 : Expr} {te te2 : TE} {k : Nat}
theorem pmk_xiK (T : XIn X.K X.prog Ca f fI B newId i bmB) (hr : Room (k + 1) X.A) (hg : Gl X x) (hm : X.mg x = some (.ref Ca)) (he : PE X e te)
    (hdb : (x == ("__debug__" : Str)) = false := by decide) (hall : (backToKw pos (keywordEach [⟨some f, e, kpos⟩] X.env)).all (·.1.isSome) = true := by rfl) (hks : (backToKw pos (keywordEach [⟨some f, e, kpos⟩] X.env)).filterMap (·.1) = [f] := by rfl)
    (hpl : ((backTo pos (starEach [] X.env)).any (·.1) || (backToKw pos (keywordEach [⟨some f, e, kpos⟩] X.env)).any (·.1.isNone)) = false := by rfl) :
    PMk X (.Call (.Name x p) [] [⟨some f, e, kpos⟩] pos) (tMkX Ca f te) := by
  intro pins s σ H Q I h
  refine wpAny_Call_Name_kw (ld_glob I hg hm ?_ hdb)
  refine PySem.W.callWith_KW0 (h₀ := X.base) I.ok.mod.kin T.kC hall (thn ((pk_cons he pk_nil).run pos pins s σ H (mkXQ Ca f Q) I h) fun us s1 ⟨vs, H1, I1, r1, q1⟩ => ⟨I1.kIn, ?_⟩) hpl
  rw [hks]
  match vs, r1, q1 with
  | [y], .cons (b := u) ry rn, q1 =>
      cases rn
      have q1 : ∀ d, H1 d = none → Q (.ref Ca) (some d) (upd H1 d (.xd [(f, y)])) := q1
      show wpAny _ _ (call (.ref Ca) [] [(f, u)]) _ _ _
      obtain ⟨hp, g, dr, tk, os⟩ := s1
      obtain ⟨nm, N', qn, bs, bm, hdct, sn, sub, ab, col, dd, k0, k1, k2, k3, k5, hC, hT⟩ := PySem.W.excInit_of I1.kIn T.init
      have kk : ∀ b o, hp.get? b = some o → ((hp.push (PySem.W.kdv_tup [])).push (HandSPX.excO Ca hp.objs.size)).get? b = some o := fun b o z => Heap.get?_push_of_some _ (Heap.get?_push_of_some _ z)
      have hget : ((hp.push (PySem.W.kdv_tup [])).push (HandSPX.excO Ca hp.objs.size)).get? (hp.objs.size + 1) = some (HandSPX.excO Ca hp.objs.size) := by heap_get
      have fresh : hp.get? (hp.objs.size + 1) = none := by
        cases z : hp.get? (hp.objs.size + 1) with
        | none => rfl
        | some o => exact absurd (Heap.lt_size z) (Nat.not_lt.mpr (Nat.le_succ _))
      have heK : X.K.lookup (hp.objs.size + 1) = none := by
        cases z : X.K.lookup (hp.objs.size + 1) with
        | none => rfl
        | some o => rw [I1.kIn _ _ z] at fresh; cases fresh
      obtain ⟨mb, nsb, bb⟩ := I1.mod.blt
      have bk := I1.bk
      refine wpAny_call (kw_call T.FB hT hC (PySem.W.looks_findIn I1.kIn T.hi) (fun self => PySem.W.bind_fn I1.kIn self T.ty) ?_)
      refine xi_init (t0 := hp.objs.size) T (.inr rfl) (hr.make Ca [] [(f, u)]).depth (fun b o z => kk _ _ (I1.kIn _ _ z)) (I1.nolimit.keeps kk) (ns_keep (I1.mod.glob) fun o z => kk _ _ (bk _ _ z)) (ns_keep nsb fun o z => kk _ _ (bk _ _ z)) bb hget heK fun h' t1 dx tk' kp he' hdx dne hns => ⟨rfl, ?_⟩
      have hdx0 : hp.objs.size ≤ dx := by
        have z : hp.objs.size ≤ ((hp.push (PySem.W.kdv_tup [])).push (HandSPX.excO Ca hp.objs.size)).objs.size := by rw [Heap.size_push, Heap.size_push]; omega
        exact Nat.le_trans z hdx
      obtain ⟨G, g1, g2⟩ := restrict h' fun b => decide (b ≠ hp.objs.size + 1)
      have gk : ∀ b, b ≠ hp.objs.size + 1 → G.get? b = h'.get? b := fun b hb => g1 b (decide_eq_true hb)
      have ge : G.get? (hp.objs.size + 1) = none := g2 _ (by simp)
      have up : ∀ b o, hp.get? b = some o → G.get? b = some o := fun b o z => by
        have nb : b ≠ hp.objs.size + 1 := fun y => by rw [y, fresh] at z; cases z
        rw [gk b nb]
        exact kp b o nb (kk b o z)
      have nH1 : H1 (hp.objs.size + 1) = none := I1.hok.fresh (Nat.le_succ _)
      have J : Inv X pins σ (upd H1 dx (.xd [(f, y)])) ⟨G, g, dr, tk', os⟩ := I1.laid (t' := tk') up hdx0 ⟨_, hns.at fun o z => (gk _ dne).trans z, relO_put (fs := []) ry fun _ => True.intro⟩
      refine ⟨hp.objs.size + 1, _, _, ⟨G, g, dr, tk', os⟩, _, .ref Ca, some dx, rfl, J, fun b o z => ?_, ge, he', ⟨rfl, rfl⟩, rfl, rfl, ?_, rfl, I1.bare, raises_own T.exC T.tyC, q1 dx (I1.hok.fresh hdx0)⟩
      · have nb : b ≠ hp.objs.size + 1 := fun y => by rw [y, ge] at z; cases z
        rw [gk b nb] at z
        exact z
      · rw [upd_ne (Ne.symm dne)]
        exact nH1
def tMkX2K (Ca : Addr) (f f2 : Str) (te te2 : TE) : L2.St → Hp → XK → Prop := fun σ H Q => te2 σ H fun y2 H1 => te σ H1 fun y H2 => ∀ d, H2 d = none → Q (.ref Ca) (some d) (upd H2 d (.xd [(f2, y2), (f, y)]))
def mkXQ2K (Ca : Addr) (f f2 : Str) (Q : XK) : List V → Hp → Prop := fun vs H1 => match vs with
  | [y2, y] => ∀ d, H1 d = none → Q (.ref Ca) (some d) (upd H1 d (.xd [(f2, y2), (f, y)]))
  | _ => False
theorem pmk_xi2K (T : XIn2 X.K X.prog Ca f f2 fI B newId i bmB) (hr : Room (k + 1) X.A) (hg : Gl X x) (hm : X.mg x = some (.ref Ca)) (he : PE X e te) (he2 : PE X e2 te2)
    (hdb : (x == ("__debug__" : Str)) = false := by decide) (hall : (backToKw pos (keywordEach [⟨some f2, e2, kpos2⟩, ⟨some f, e, kpos⟩] X.env)).all (·.1.isSome) = true := by rfl) (hks : (backToKw pos (keywordEach [⟨some f2, e2, kpos2⟩, ⟨some f, e, kpos⟩] X.env)).filterMap (·.1) = [f2, f] := by rfl)
    (hpl : ((backTo pos (starEach [] X.env)).any (·.1) || (backToKw pos (keywordEach [⟨some f2, e2, kpos2⟩, ⟨some f, e, kpos⟩] X.env)).any (·.1.isNone)) = false := by rfl) :
    PMk X (.Call (.Name x p) [] [⟨some f2, e2, kpos2⟩, ⟨some f, e, kpos⟩] pos) (tMkX2K Ca f f2 te te2) := by
  intro pins s σ H Q I h
  refine wpAny_Call_Name_kw (ld_glob I hg hm ?_ hdb)
  refine PySem.W.callWith_KW0 (h₀ := X.base) I.ok.mod.kin T.kC hall (thn ((pk_cons he2 (pk_cons he pk_nil)).run pos pins s σ H (mkXQ2K Ca f f2 Q) I h) fun us s1 ⟨vs, H1, I1, r1, q1⟩ => ⟨I1.kIn, ?_⟩) hpl
  rw [hks]
  match vs, r1, q1 with
  | [y2, y], .cons (b := u2) ry2 (.cons (b := u) ry rn), q1 =>
      cases rn
      have q1 : ∀ d, H1 d = none → Q (.ref Ca) (some d) (upd H1 d (.xd [(f2, y2), (f, y)])) := q1
      show wpAny _ _ (call (.ref Ca) [] [(f2, u2), (f, u)]) _ _ _
      obtain ⟨hp, g, dr, tk, os⟩ := s1
      obtain ⟨nm, N', qn, bs, bm, hdct, sn, sub, ab, col, dd, k0, k1, k2, k3, k5, hC, hT⟩ := PySem.W.excInit_of I1.kIn T.init
      have kk : ∀ b o, hp.get? b = some o → ((hp.push (PySem.W.kdv_tup [])).push (HandSPX.excO Ca hp.objs.size)).get? b = some o := fun b o z => Heap.get?_push_of_some _ (Heap.get?_push_of_some _ z)
      have hget : ((hp.push (PySem.W.kdv_tup [])).push (HandSPX.excO Ca hp.objs.size)).get? (hp.objs.size + 1) = some (HandSPX.excO Ca hp.objs.size) := by heap_get
      have fresh : hp.get? (hp.objs.size + 1) = none := by
        cases z : hp.get? (hp.objs.size + 1) with
        | none => rfl
        | some o => exact absurd (Heap.lt_size z) (Nat.not_lt.mpr (Nat.le_succ _))
      have heK : X.K.lookup (hp.objs.size + 1) = none := by
        cases z : X.K.lookup (hp.objs.size + 1) with
        | none => rfl
        | some o => rw [I1.kIn _ _ z] at fresh; cases fresh
      obtain ⟨mb, nsb, bb⟩ := I1.mod.blt
      have bk := I1.bk
      refine wpAny_call (kw_call T.FB hT hC (PySem.W.looks_findIn I1.kIn T.hi) (fun self => PySem.W.bind_fn I1.kIn self T.ty) ?_)
      refine xi_init2 (t0 := hp.objs.size) T (.inr rfl) (hr.make Ca [] [(f2, u2), (f, u)]).depth (fun b o z => kk _ _ (I1.kIn _ _ z)) (I1.nolimit.keeps kk) (ns_keep (I1.mod.glob) fun o z => kk _ _ (bk _ _ z)) (ns_keep nsb fun o z => kk _ _ (bk _ _ z)) bb hget heK fun h' t1 dx tk' kp he' hdx dne hns => ⟨rfl, ?_⟩
      have hdx0 : hp.objs.size ≤ dx := by
        have z : hp.objs.size ≤ ((hp.push (PySem.W.kdv_tup [])).push (HandSPX.excO Ca hp.objs.size)).objs.size := by rw [Heap.size_push, Heap.size_push]; omega
        exact Nat.le_trans z hdx
      obtain ⟨G, g1, g2⟩ := restrict h' fun b => decide (b ≠ hp.objs.size + 1)
      have gk : ∀ b, b ≠ hp.objs.size + 1 → G.get? b = h'.get? b := fun b hb => g1 b (decide_eq_true hb)
      have ge : G.get? (hp.objs.size + 1) = none := g2 _ (by simp)
      have up : ∀ b o, hp.get? b = some o → G.get? b = some o := fun b o z => by
        have nb : b ≠ hp.objs.size + 1 := fun y => by rw [y, fresh] at z; cases z
        rw [gk b nb]
        exact kp b o nb (kk b o z)
      have nH1 : H1 (hp.objs.size + 1) = none := I1.hok.fresh (Nat.le_succ _)
      have J : Inv X pins σ (upd H1 dx (.xd [(f2, y2), (f, y)])) ⟨G, g, dr, tk', os⟩ := I1.laid (t' := tk') up hdx0 ⟨_, hns.at fun o z => (gk _ dne).trans z, relO_put (fs := [(f, y)]) ry2 (relO_put (fs := []) ry fun _ => True.intro)⟩
      refine ⟨hp.objs.size + 1, _, _, ⟨G, g, dr, tk', os⟩, _, .ref Ca, some dx, rfl, J, fun b o z => ?_, ge, he', ⟨rfl, rfl⟩, rfl, rfl, ?_, rfl, I1.bare, raises_own T.exC T.tyC, q1 dx (I1.hok.fresh hdx0)⟩
      · have nb : b ≠ hp.objs.size + 1 := fun y => by rw [y, ge] at z; cases z
        rw [gk b nb] at z
        exact z
      · rw [upd_ne (Ne.symm dne)]
        exact nH1
end
/-- C(f2 = e2, f = e) -/
def eEx2K (c f f2 : Str) (fa fb : M D) : M D := mbind fb fun d2 => mbind fa fun d => mret (.exn c [(f2, d2), (f, d)])
section
variable {C : Ct} {W : WX} {X : Cx} {fa fb : M D} {e e2 : Expr} {pos p kpos kpos2 : Pos} {f f2 x : Str} {k : Nat}
theorem d_exk (hK : C.K = X.K) (T : XC X.K X.prog x f) (hr : Room (k + 1) X.A) (hg : Gl X x) (hm : X.mg x = some (.ref (He.ga X.K x))) (ha : DE X C W e fa)
    (hdb : (x == ("__debug__" : Str)) = false := by decide) (hall : (backToKw pos (keywordEach [⟨some f, e, kpos⟩] X.env)).all (·.1.isSome) = true := by rfl) (hks : (backToKw pos (keywordEach [⟨some f, e, kpos⟩] X.env)).filterMap (·.1) = [f] := by rfl)
    (hpl : ((backTo pos (starEach [] X.env)).any (·.1) || (backToKw pos (keywordEach [⟨some f, e, kpos⟩] X.env)).any (·.1.isNone)) = false := by rfl) :
    DE X C W (.Call (.Name x p) [] [⟨some f, e, kpos⟩] pos) (eEx x f fa) := by
  obtain ⟨fI, B, newId, i, bmB, T⟩ := T
  refine pe_imp (pe_mk (pmk_xiK T hr hg hm ha hdb hall hks hpl)) fun σ H Q ⟨F, s, r, q⟩ => ⟨F, s, r, (Post.bind q).mono fun d s1 H1 F1 r1 u1 q1 y iy dx nd a oe vs na hz hd => ?_⟩
  have hz : Zc (.ref (He.ga C.K x)) (some dx) oe := by rw [hK]; exact hz
  have xx := ext_ex (oe := oe) r1.sub nd na
  exact q1 _ _ (r1.ext xx) xx.f _ (is_ex r1.sub nd na hz hd (.cons iy .nil))
theorem d_exv2 (hK : C.K = X.K) (T : XC2 X.K X.prog x f f2) (hr : Room (k + 1) X.A) (hg : Gl X x) (hm : X.mg x = some (.ref (He.ga X.K x))) (ha : DE X C W e fa) (hb : DE X C W e2 fb)
    (hdb : (x == ("__debug__" : Str)) = false := by decide) (hse : starEach [e, e2] X.env = (false, eval e X.env) :: starEach [e2] X.env := by rfl) (hse2 : starEach [e2] X.env = (false, eval e2 X.env) :: starEach [] X.env := by rfl) (hpl : (backTo pos (starEach [e2] X.env)).any (·.1) = false := by rfl) :
    DE X C W (.Call (.Name x p) [e, e2] [] pos) (eEx2 x f f2 fa fb) := by
  obtain ⟨fI, B, newId, i, bmB, T⟩ := T
  refine pe_imp (pe_mk (pmk_xi2 T hr hg hm ha hb hdb hse hse2 hpl)) fun σ H Q ⟨F, s, r, q⟩ => ⟨F, s, r, (Post.bind q).mono fun d s1 H1 F1 r1 u1 q1 y iy => ⟨F1, s1, r1, (Post.bind q1).mono fun d2 s2 H2 F2 r2 u2 q2 y2 iy2 dx nd a oe vs na hz hd => ?_⟩⟩
  have hz : Zc (.ref (He.ga C.K x)) (some dx) oe := by rw [hK]; exact hz
  have xx := ext_ex (oe := oe) r2.sub nd na
  exact q2 _ _ (r2.ext xx) xx.f _ (is_ex r2.sub nd na hz hd (.cons iy2 (.cons (iy.up u2) .nil)))
theorem d_exk2 (hK : C.K = X.K) (T : XC2 X.K X.prog x f f2) (hr : Room (k + 1) X.A) (hg : Gl X x) (hm : X.mg x = some (.ref (He.ga X.K x))) (ha : DE X C W e fa) (hb : DE X C W e2 fb)
    (hdb : (x == ("__debug__" : Str)) = false := by decide) (hall : (backToKw pos (keywordEach [⟨some f2, e2, kpos2⟩, ⟨some f, e, kpos⟩] X.env)).all (·.1.isSome) = true := by rfl) (hks : (backToKw pos (keywordEach [⟨some f2, e2, kpos2⟩, ⟨some f, e, kpos⟩] X.env)).filterMap (·.1) = [f2, f] := by rfl)
    (hpl : ((backTo pos (starEach [] X.env)).any (·.1) || (backToKw pos (keywordEach [⟨some f2, e2, kpos2⟩, ⟨some f, e, kpos⟩] X.env)).any (·.1.isNone)) = false := by rfl) :
    DE X C W (.Call (.Name x p) [] [⟨some f2, e2, kpos2⟩, ⟨some f, e, kpos⟩] pos) (eEx2K x f f2 fa fb) := by
  obtain ⟨fI, B, newId, i, bmB, T⟩ := T
  refine pe_imp (pe_mk (pmk_xi2K T hr hg hm ha hb hdb hall hks hpl)) fun σ H Q ⟨F, s, r, q⟩ => ⟨F, s, r, (Post.bind q).mono fun d2 s1 H1 F1 r1 u1 q1 y2 iy2 => ⟨F1, s1, r1, (Post.bind q1).mono fun d s2 H2 F2 r2 u2 q2 y iy dx nd a oe vs na hz hd => ?_⟩⟩
  have hz : Zc (.ref (He.ga C.K x)) (some dx) oe := by rw [hK]; exact hz
  have xx := ext_ex (oe := oe) r2.sub nd na
  exact q2 _ _ (r2.ext xx) xx.f _ (is_ex r2.sub nd na hz hd (.cons (iy2.up u2) (.cons iy .nil)))
end
end DL
set_option maxHeartbeats 2000000
namespace DL
open PySem PySem.Spec PyProof.Rows L2
def slX : Sl → Bool
  | .val d => d.xf
  | .own c => c.xf
  | _ => true
/-- no error is held but by the name j -/
def xfS (j : Nat) (s : S) : Bool := (s.sl.set j .no).all slX && s.io.all Cell.xf
section
variable {C : Ct} {σ σ1 : L2.St} {H F H1 F1 : Hp} {s s1 : S} {a dx : Addr} {oe : Obj} {ws : Array Value} {vs : List (Str × V)} {j : Nat}
/-- the error that a suite held is let go -/
theorem rel_gone (r1 : Rel C σ1 H1 F1 s1) (nd : H1 dx = none) (na : upd H1 dx (.xd vs) a = none) (ho : oe.data = .fields ws) (r : Rel C σ H F s) (u : Sub (upd (upd F1 dx (.xd vs)) a (exH a oe)) F) (hx : xfS j s = true) :
    ∃ F2, Rel C (σ.set j none) (del H a) F2 (s.put j .no) ∧ Sub F1 F2 := by
  have nad : dx ≠ a := fun z => by rw [z, upd_same] at na; cases na
  have na1 : H1 a = none := by rw [upd_ne (Ne.symm nad)] at na; exact na
  have cA : C.H0 a = none := r1.newH na1
  have cD : C.H0 dx = none := r1.newH nd
  have fa : F a = some (exH a oe) := u _ _ upd_same
  have fd : F dx = some (.xd vs) := u _ _ (by rw [upd_ne nad, upd_same])
  have ha : H a = some (exH a oe) := r.sub _ _ fa
  unfold xfS at hx
  rw [Bool.and_eq_true, List.all_eq_true, List.all_eq_true] at hx
  obtain ⟨hx1, hx2⟩ := hx
  obtain ⟨F2, hF2⟩ : ∃ F2 : Hp, F2 = fun b => if b = a then none else if b = dx then none else F b := ⟨_, rfl⟩
  have f2a : F2 a = none := by rw [hF2]; exact if_pos rfl
  have f2d : F2 dx = none := by rw [hF2]; exact (if_neg nad).trans (if_pos rfl)
  have f2o : ∀ b, b ≠ a → b ≠ dx → F2 b = F b := fun b h k => by rw [hF2]; exact (if_neg h).trans (if_neg k)
  have f2s : ∀ b o, F2 b = some o → F b = some o ∧ b ≠ a := fun b o e => by
    have n1 : b ≠ a := fun z => by rw [z, f2a] at e; cases e
    have n2 : b ≠ dx := fun z => by rw [z, f2d] at e; cases e
    rw [f2o b n1 n2] at e
    exact ⟨e, n1⟩
  have S : StripX F F2 := fun b o e g => by
    have ne : b ≠ a := fun z => by
      subst z
      rw [fa] at e
      have e := Option.some.inj e
      rcases g with ⟨_, g⟩ | ⟨_, g⟩ | ⟨_, _, g⟩ | ⟨_, _, _, g⟩ | ⟨_, g⟩ | ⟨_, _, g⟩ <;> rw [g] at e <;> first | exact (exH_tdO ho) e.symm | (unfold exH at e; cases e)
    have nx : b ≠ dx := fun z => by
      subst z
      rw [fd] at e
      have e := Option.some.inj e
      rcases g with ⟨_, g⟩ | ⟨_, g⟩ | ⟨_, _, g⟩ | ⟨_, _, _, g⟩ | ⟨_, g⟩ | ⟨_, _, g⟩ <;> rw [g] at e <;> first | (cases e; done) | (unfold tdO at e; cases e)
    rw [f2o b ne nx]
    exact e
  have up : ∀ b, b ≠ a → ∀ o, H b = some o → del H a b = some o := fun b n o e => by rw [del_ne n]; exact e
  have fnone : ∀ b, F b = none → F2 b = none := fun b e => by
    cases z : F2 b with
    | none => rfl
    | some o => rw [(f2s b o z).1] at e; cases e
  have sl_ : ∀ (i : Nat) (x : Sl), (s.sl.set j .no)[i]? = some x → x = .no ∨ (i ≠ j ∧ s.sl[i]? = some x) := fun i x h => by
    by_cases e : i = j
    · subst e
      by_cases l : i < s.sl.length
      · rw [List.getElem?_set_self l] at h
        cases h
        exact .inl rfl
      · rw [List.getElem?_eq_none (by rw [List.length_set]; omega)] at h
        cases h
    · rw [List.getElem?_set_ne (Ne.symm e)] at h
      exact .inr ⟨e, h⟩
  have own_ : ∀ {i : Nat} {b : Addr}, OwnAt (σ.set j none) (s.put j .no).sl i b → OwnAt σ s.sl i b := fun {i b} ⟨e, c, h⟩ => by
    rcases sl_ i _ h with z | ⟨n, h⟩
    · cases z
    · rw [List.getElem?_set_ne (Ne.symm n)] at e
      exact ⟨e, c, h⟩
  refine ⟨F2, ⟨fun b o e => ?_, fun b o e m => ?_, fun b e => ?_, ?_, fun i x h => ?_, r.iol, fun i b c h e => ?_, fun i k b h1 h2 => r.ap i k b (own_ h1) (own_ h2), r.inn, r.nd, r.s0, fun p hp => ?_⟩, fun b o e => ?_⟩
  · obtain ⟨e, n⟩ := f2s b o e
    exact up b n o (r.sub _ _ e)
  · have n : b ≠ a := fun z => by rw [z, cA] at e; cases e
    rw [del_ne n]
    exact r.keep b o e m
  · have n1 : b ≠ a := fun z => e (by rw [z]; exact cA)
    have n2 : b ≠ dx := fun z => e (by rw [z]; exact cD)
    rw [f2o b n1 n2]
    exact r.f0 b e
  · show (s.sl.set j .no).length = (σ.set j none).length
    rw [List.length_set, List.length_set]
    exact r.len
  · have hm := hx1 x (List.mem_of_getElem? h)
    rcases sl_ i x h with rfl | ⟨n, h⟩
    · trivial
    · rw [List.getElem?_set_ne (Ne.symm n)]
      have q := r.slot i x h
      cases x with
      | no => trivial
      | val d =>
        obtain ⟨v, e, iv⟩ := q
        exact ⟨v, e, xf_is S d hm iv⟩
      | own c =>
        obtain ⟨b, e, e1, e2, e3⟩ := q
        have nb : b ≠ a := fun z => by rw [z, fa] at e1; cases e1
        exact ⟨b, e, fnone b e1, e2, xf_cell S hm e3 (up b nb)⟩
      | io k => exact q
  · have q := r.io i b c h e
    have nb : b ≠ a := fun z => r.inn b (List.mem_of_getElem? h) (by rw [z]; exact cA)
    exact ⟨q.1, xf_cell S (hx2 c (List.mem_of_getElem? e)) q.2 (up b nb)⟩
  · obtain ⟨ps, h1, h2, h3⟩ := r.tabs p hp
    have ne : p.1 ≠ a := fun z => by
      rw [z, ha] at h1
      exact exH_tbl (Option.some.inj h1)
    refine ⟨ps, up _ ne _ h1, h2, fun pos cv hc => ?_⟩
    obtain ⟨c, e1, e2⟩ := h3 pos cv hc
    refine ⟨c, e1, ?_⟩
    rw [f2o c (fun z => ?_) fun z => ?_]
    · exact e2
    · rw [z, fa] at e2
      exact exH_codeO (Option.some.inj e2).symm
    · rw [z, fd] at e2
      have e2 := Option.some.inj e2
      unfold LamX.CodeO at e2
      cases e2
  · have e1 := r1.sub _ _ e
    have n1 : b ≠ a := fun z => by rw [z, na1] at e1; cases e1
    have n2 : b ≠ dx := fun z => by rw [z, nd] at e1; cases e1
    rw [f2o b n1 n2]
    exact u _ _ (by rw [upd_ne n1, upd_ne n2]; exact e)
end
/-- the suite's reading -/
def tsY (C : Ct) (gS : S → Out) (a : Addr) (cls : Value) (d : Option Addr) : TS := fun D σ H => ∀ (oe : Obj) (ws : Array Value), Zc cls d oe → oe.data = .fields ws →
  ∃ (F3 : Hp) (s0 s2 : S), Rel C σ (upd H a (exH a oe)) F3 s0 ∧ gS s0 = .nx s2 ∧ F3 a = some (exH a oe) ∧
    ∀ σ' H' F', Rel C σ' H' F' s2 → Sub F3 F' → D.nx σ' (del H' a)
section
variable {X : Cx} {C : Ct} {W1 : WX} {gS : S → Out} {b0 : Stmt} {suite : List Stmt}
theorem suite_nx (hS : ∀ (a : Addr) (pn : List (Addr × Obj)), DB (X.suite a pn) C W1 (b0 :: suite) gS)
    (a : Addr) (oe : Obj) (cls : Value) (d : Option Addr) (pn : List (Addr × Obj)) (hz : Zc cls d oe) (hd : ∃ vs, oe.data = .fields vs) (n0 : X.s_0.heap.get? a = none) (np : ∀ q ∈ pn, q.1 ≠ a) : PSs (X.suite a ((a, oe) :: pn)) (b0 :: suite) (tsY C gS a cls d) := by
  obtain ⟨ws, hd⟩ := hd
  refine ⟨fun pins s' σ H' D I h' => ?_⟩
  have Pa := I.pin (a, oe) (by simp)
  have same : ∀ p ∈ pins, p.1 = a → p = (a, oe) := fun p hp e => by
    have z := (I.pin p (by simp [hp])).1
    obtain ⟨p1, p2⟩ := p
    have e : p1 = a := e
    subst e
    have z : s'.heap.get? p1 = some p2 := z
    have y : s'.heap.get? p1 = some oe := Pa.1
    rw [y] at z
    cases z
    rfl
  have J0 : Inv (X.suite a ((a, oe) :: (pn ++ pins.filter fun q => decide (q.1 ≠ a)))) [] σ H' s' := I.repin fun p hp => I.pin p (by
    simp only [List.append_nil, List.mem_cons, List.mem_append, List.mem_filter] at hp
    simp only [List.mem_append, List.mem_cons]
    rcases hp with hp | hp | hp
    · exact .inl (.inl hp)
    · exact .inl (.inr hp)
    · exact .inr hp.1)
  have J := J0.track n0 fun p hp => by
    rcases List.mem_append.mp hp with hp | hp
    · exact np p hp
    · exact of_decide_eq_true (List.mem_filter.mp hp).2
  obtain ⟨F3, s0, s2, rel, hg, hfa, hfin⟩ := h' oe ws hz hd
  refine wpAny_mono ((hS a (pn ++ pins.filter fun q => decide (q.1 ≠ a))).run [] s' σ _ { nx := fun σ2 H2 => H2 a = some (exH a oe) ∧ D.nx σ2 (del H2 a), rt := fun _ _ => False, bk := fun _ _ => False, ct := fun _ _ => False } J ⟨F3, s0, rel, ?_⟩) (fun fl s6 hsp => ?_) fun _ _ z => z
  · rw [hg]
    exact fun σ' H2 F' r u => ⟨r.sub _ _ (u _ _ hfa), hfin σ' H2 F' r u⟩
  · cases fl with
    | ret u => obtain ⟨_, _, _, _, _, z⟩ := hsp; exact z.elim
    | brk => obtain ⟨_, _, _, z⟩ := hsp; exact z.elim
    | cont => obtain ⟨_, _, _, z⟩ := hsp; exact z.elim
    | next =>
      obtain ⟨σ6, H6, J6, e6, q6⟩ := hsp
      have J7 := J6.untrack e6 hd Pa.2.2.1 Pa.2.2.2.1
      refine ⟨σ6, del H6 a, J7.repin fun p hp => J7.pin p ?_, q6⟩
      simp only [List.append_nil, List.mem_cons, List.mem_append, List.mem_filter]
      simp only [List.mem_append, List.mem_cons] at hp
      have hp : p = (a, oe) ∨ p ∈ pn ∨ p ∈ pins := by simpa [or_assoc] using hp
      rcases hp with hp | hp | hp
      · exact .inl hp
      · exact .inr (.inl hp)
      · by_cases e : p.1 = a
        · exact .inl (same p hp e)
        · exact .inr (.inr ⟨hp, by simp [e]⟩)
end
/-- raise c(fs) in a try whose clause names it by j -/
def catchS (c : Str) (j : Nat) (gS : S → Out) (fs : List (Str × D)) : S → Out := fun s1 => match gS (s1.put j (.val (.exn c fs))) with
  | .nx s2 => if xfS j s2 = true then .nx (s2.put j .no) else .bad
  | _ => .bad
def sTryR (c f : Str) (j : Nat) (fa : M D) (gS : S → Out) : S → Out := fun s => match fa s with
  | .ok d s1 => catchS c j gS [(f, d)] s1
  | _ => .bad
def sTryR2 (c f f2 : Str) (j : Nat) (fa fb : M D) (gS : S → Out) : S → Out := fun s => match fa s with
  | .ok d s1 => (match fb s1 with
    | .ok d2 s2 => catchS c j gS [(f2, d2), (f, d)] s2
    | _ => .bad)
  | _ => .bad
section
variable {C : Ct} {W : WX} {X : Cx} {σ : L2.St} {F0 H1 F1 : Hp} {s1 : S} {E : Ends} {fa fb : M D} {gS : S → Out} {e e2 : Expr} {b0 : Stmt} {suite : List Stmt} {f f2 x B n : Str} {j k : Nat} {np p pos rpos hpos tpos : Pos}
theorem roomM (hr : Room (k + 1) X.A) (a : Addr) (pn : List (Addr × Obj)) : L2H.RoomH k (X.suite a pn).A :=
  ⟨by have := hr.dp; show X.A.depth + 3 * k + 5 < _; omega, by have := hr.un; show X.A.units + 16 * k + 200 < _; omega⟩
theorem catch_ok {fs : List (Str × D)} {vs : List (Str × V)} {dx : Addr} (u0 : Sub F0 F1) (r1 : Rel C σ H1 F1 s1) (ifs : IsFs C.K F1 vs fs) (nd : H1 dx = none) (q : PostS C W F0 (catchS x j gS fs s1) E.nx E.rt E.bk E.ct) (a : Addr) (na : upd H1 dx (.xd vs) a = none) :
    tsY C gS a (.ref (He.ga C.K x)) (some dx) (endsOf E (some j)) (putOf σ a (some j)) (upd H1 dx (.xd vs)) := by
  intro oe ws hz hd
  have xx := ext_ex (oe := oe) r1.sub nd na
  have r2 := (r1.ext xx).putV (i := j) (is_ex r1.sub nd na hz hd ifs)
  unfold catchS at q
  cases hg : gS (s1.put j (.val (.exn x fs))) with
  | nx s2 =>
    rw [hg] at q
    by_cases hx : xfS j s2 = true
    · simp only [hx, if_true] at q
      refine ⟨_, _, s2, r2, hg, upd_same, fun σ4 H4 F4 r4 u4 => ?_⟩
      obtain ⟨F5, r5, u5⟩ := rel_gone (j := j) r1 nd na hd r4 u4 hx
      exact q _ _ F5 r5 (u0.trans u5)
    · simp only [hx] at q
      exact q.elim
  | rt v s' => rw [hg] at q; exact q.elim
  | bk s' => rw [hg] at q; exact q.elim
  | ct s' => rw [hg] at q; exact q.elim
  | exc c fs s' => rw [hg] at q; exact q.elim
  | bad => rw [hg] at q; exact q.elim
theorem ds_tryR (hK : C.K = X.K) (hs : X.stack = X.env :: X.outer) (hf : X.env.frame = some X.env.locals) (hex : X.ex = []) (hN : X.N.Nodup) (hc : X.calm = true) (hcB : Names X B (.ref (He.ga X.K B))) (hi : X.N[j]? = some n) (hln : X.env.kindOf n = some .local)
    (hm : PySem.W.exmOne X.K (.ref (He.ga X.K x)) (.ref (He.ga X.K B)) = some true) (T : XC X.K X.prog x f) (hr : Room (k + 1) X.A) (hg : Gl X x) (hmg : X.mg x = some (.ref (He.ga X.K x)))
    (ha : ∀ (pn : List (Addr × Obj)) (xe : Value → Shared → Prop) (W2 : WX), DE (X.tr pn xe) C W2 e fa) (hS : ∀ (a : Addr) (pn : List (Addr × Obj)), L2H.RoomH k (X.suite a pn).A → DB (X.suite a pn) C W (b0 :: suite) gS)
    (hdb : (x == ("__debug__" : Str)) = false := by decide) (hse : starEach [e] X.env = (false, eval e X.env) :: starEach [] X.env := by rfl) (hpl : (backTo pos (starEach [] X.env)).any (·.1) = false := by rfl) :
    DS X C W (.Try [.Raise (some (.Call (.Name x p) [e] [] pos)) none rpos] [.ExceptHandler (some (.Name B np)) (some n) (b0 :: suite) hpos] [] [] tpos) (sTryR x f j fa gS) := by
  obtain ⟨fI, Bn, newId, i, bmB, T⟩ := T
  have hh : HdAs X [.ExceptHandler (some (.Name B np)) (some n) (b0 :: suite) hpos] [(.ref (He.ga X.K B), some j, tsY C gS)] :=
    .named hcB hi hln (fun a oe cls d pn hz hd n0 npn => suite_nx (fun a pn => hS a pn (roomM hr a pn)) a oe cls d pn hz hd n0 npn) .nil
  refine ps_imp (ps_tryL (tb := fun W' => fun D σ H => tMkX (He.ga X.K x) f (tD C (fun _ _ _ _ => False) fa) σ H fun cls d H' => W' cls d σ H') hs hf hex hN (fun W' pn xe tk po => pss_one (ps_imp (ps_raise (X := X.tr pn xe) hc tk (pmk_xi (X := X.tr pn xe) T hr hg hmg (ha pn xe _) hdb hse hpl)) fun D σ H h => h)) hh) fun E σ H ⟨F, s, r, q⟩ => ⟨F, s, r, ?_⟩
  unfold sTryR at q
  cases h : fa s with
  | ok d s1 =>
    rw [h] at q
    intro H1 F1 r1 u1 y iy dx nd
    refine ⟨true, hm, fun _ a na hl => ?_, fun z => nomatch z⟩
    have := catch_ok u1 r1 (.cons iy .nil) nd q a na
    rwa [hK] at this
  | exc c fs s' => rw [h] at q; exact q.elim
  | bad => rw [h] at q; exact q.elim
theorem ds_tryR2 (hK : C.K = X.K) (hs : X.stack = X.env :: X.outer) (hf : X.env.frame = some X.env.locals) (hex : X.ex = []) (hN : X.N.Nodup) (hc : X.calm = true) (hcB : Names X B (.ref (He.ga X.K B))) (hi : X.N[j]? = some n) (hln : X.env.kindOf n = some .local)
    (hm : PySem.W.exmOne X.K (.ref (He.ga X.K x)) (.ref (He.ga X.K B)) = some true) (T : XC2 X.K X.prog x f f2) (hr : Room (k + 1) X.A) (hg : Gl X x) (hmg : X.mg x = some (.ref (He.ga X.K x)))
    (ha : ∀ (pn : List (Addr × Obj)) (xe : Value → Shared → Prop) (W2 : WX), DE (X.tr pn xe) C W2 e fa) (hb : ∀ (pn : List (Addr × Obj)) (xe : Value → Shared → Prop) (W2 : WX), DE (X.tr pn xe) C W2 e2 fb) (hS : ∀ (a : Addr) (pn : List (Addr × Obj)), L2H.RoomH k (X.suite a pn).A → DB (X.suite a pn) C W (b0 :: suite) gS)
    (hdb : (x == ("__debug__" : Str)) = false := by decide) (hse : starEach [e, e2] X.env = (false, eval e X.env) :: starEach [e2] X.env := by rfl) (hse2 : starEach [e2] X.env = (false, eval e2 X.env) :: starEach [] X.env := by rfl) (hpl : (backTo pos (starEach [e2] X.env)).any (·.1) = false := by rfl) :
    DS X C W (.Try [.Raise (some (.Call (.Name x p) [e, e2] [] pos)) none rpos] [.ExceptHandler (some (.Name B np)) (some n) (b0 :: suite) hpos] [] [] tpos) (sTryR2 x f f2 j fa fb gS) := by
  obtain ⟨fI, Bn, newId, i, bmB, T⟩ := T
  have hh : HdAs X [.ExceptHandler (some (.Name B np)) (some n) (b0 :: suite) hpos] [(.ref (He.ga X.K B), some j, tsY C gS)] :=
    .named hcB hi hln (fun a oe cls d pn hz hd n0 npn => suite_nx (fun a pn => hS a pn (roomM hr a pn)) a oe cls d pn hz hd n0 npn) .nil
  refine ps_imp (ps_tryL (tb := fun W' => fun D σ H => tMkX2 (He.ga X.K x) f f2 (tD C (fun _ _ _ _ => False) fa) (tD C (fun _ _ _ _ => False) fb) σ H fun cls d H' => W' cls d σ H') hs hf hex hN (fun W' pn xe tk po => pss_one (ps_imp (ps_raise (X := X.tr pn xe) hc tk (pmk_xi2 (X := X.tr pn xe) T hr hg hmg (ha pn xe _) (hb pn xe _) hdb hse hse2 hpl)) fun D σ H h => h)) hh) fun E σ H ⟨F, s, r, q⟩ => ⟨F, s, r, ?_⟩
  unfold sTryR2 at q
  cases h : fa s with
  | ok d s1 =>
    rw [h] at q
    intro H1 F1 r1 u1 y iy
    refine ⟨F1, s1, r1, ?_⟩
    cases h2 : fb s1 with
    | ok d2 s2 =>
      simp only [h2] at q
      intro H2 F2 r2 u2 y2 iy2 dx nd
      refine ⟨true, hm, fun _ a na hl => ?_, fun z => nomatch z⟩
      have := catch_ok (u1.trans u2) r2 (.cons iy2 (.cons (iy.up u2) .nil)) nd q a na
      rwa [hK] at this
    | exc c fs s' => simp only [h2] at q; exact q.elim
    | bad => simp only [h2] at q; exact q.elim
  | exc c fs s' => rw [h] at q; exact q.elim
  | bad => rw [h] at q; exact q.elim
end
end DL
set_option maxHeartbeats 4000000
namespace DL
open PySem PyProof.Rows L2
section
variable {α β : Type}
@[simp] theorem q_bind (f : M α) (k : α → M β) (s : S) : mbind f k s = (f s).bind k := rfl
@[simp] theorem q_ok (a : α) (s : S) (k : α → M β) : (Res.ok a s).bind k = k a s := rfl
@[simp] theorem q_exc (c : Str) (fs : List (Str × D)) (s : S) (k : α → M β) : (Res.exc c fs s).bind k = .exc c fs s := rfl
@[simp] theorem q_ret (a : α) (s : S) : mret a s = .ok a s := rfl
@[simp] theorem q_opt (a : α) (s : S) : mopt (some a) s = .ok a s := rfl
@[simp] theorem q_sOf (f : M α) (k : α → S → Out) (s : S) : sOf f k s = (match f s with
  | .ok a s' => k a s'
  | .exc c fs s' => .exc c fs s'
  | .bad => .bad) := rfl
@[simp] theorem q_seq (f g : S → Out) (s : S) : sSeq f g s = (match f s with
  | .nx s' => g s'
  | o => o) := rfl
@[simp] theorem q_nx (s : S) : sNx s = .nx s := rfl
@[simp] theorem q_if (t : M Bool) (f g : S → Out) (s : S) : sIf t f g s = sOf t (fun b => if b = true then f else g) s := rfl
@[simp] theorem q_retS (f : M D) (s : S) : sRet f s = sOf f (fun d s => .rt (.val d) s) s := rfl
@[simp] theorem q_retO (f : M Cell) (s : S) : sRetO f s = sOf f (fun d s => .rt (.own d) s) s := rfl
@[simp] theorem q_retR (f : M RV) (s : S) : sRetR f s = sOf f (fun d s => .rt d s) s := rfl
@[simp] theorem q_drop (f : M D) (s : S) : sDrop f s = sOf f (fun d s => .nx s) s := rfl
@[simp] theorem q_set (i : Nat) (f : M D) (s : S) : sSet i f s = sOf f (fun d s => .nx (s.put i (.val d))) s := rfl
@[simp] theorem q_setO (i : Nat) (f : M Cell) (s : S) : sSetO i f s = sOf f (fun d s => .nx (s.put i (.own d))) s := rfl
@[simp] theorem q_put (sl : List Sl) (io : List Cell) (i : Nat) (x : Sl) : S.put ⟨sl, io⟩ i x = ⟨sl.set i x, io⟩ := rfl
@[simp] theorem q_bin (g : D → D → Option D) (fa fb : M D) (s : S) : bin g fa fb s = mbind fa (fun a => mbind fb fun b => mopt (g a b)) s := rfl
@[simp] theorem q_un (g : D → Option D) (fa : M D) (s : S) : un g fa s = mbind fa (fun a => mopt (g a)) s := rfl
@[simp] theorem q_asB (f : M D) (s : S) : asB f s = mbind f (fun d => mopt (dB d)) s := rfl
@[simp] theorem q_tru (f : M D) (s : S) : tru f s = mbind f (fun d => mopt (truD d)) s := rfl
@[simp] theorem q_aCons (fa : M D) (fs : M (List D)) (s : S) : aCons fa fs s = mbind fa (fun d => mbind fs fun ds => mret (d :: ds)) s := rfl
@[simp] theorem q_cal (g : List D → Option D) (fs : M (List D)) (s : S) : cal g fs s = mbind fs (fun ds => mopt (g ds)) s := rfl
@[simp] theorem q_eTup (fs : M (List D)) (s : S) : eTup fs s = mbind fs (fun ds => if ds.length ≤ LN then mret (.tup ds) else fun _ => .bad) s := rfl
@[simp] theorem q_eLst (fs : M (List D)) (s : S) : eLst fs s = mbind fs (fun ds => if ds.length ≤ LN then mret (.lst ds) else fun _ => .bad) s := rfl
@[simp] theorem q_oLst (fs : M (List D)) (s : S) : oLst fs s = mbind fs (fun ds => if ds.length ≤ LN then mret (.lst ds) else fun _ => .bad) s := rfl
@[simp] theorem q_tNot (t : M Bool) (s : S) : tNotB t s = mbind t (fun k => mret (!k)) s := rfl
@[simp] theorem q_tOr (ta tb : M Bool) (s : S) : tOrB ta tb s = mbind ta (fun k => if k = true then mret true else tb) s := rfl
@[simp] theorem q_tAnd (ta tb : M Bool) (s : S) : tAndB ta tb s = mbind ta (fun k => if k = true then tb else mret false) s := rfl
@[simp] theorem q_eIf (t : M Bool) (fa fb : M D) (s : S) : eIf t fa fb s = mbind t (fun k => if k = true then fa else fb) s := rfl
@[simp] theorem q_eAnd (fa fb : M D) (s : S) : eAnd fa fb s = mbind fa (fun d => mbind (mopt (truD d)) fun k => if k = true then fb else mret d) s := rfl
@[simp] theorem q_eOr (fa fb : M D) (s : S) : eOr fa fb s = mbind fa (fun d => mbind (mopt (truD d)) fun k => if k = true then mret d else fb) s := rfl
@[simp] theorem q_chain (g g' : D → D → Option D) (fa fb fc : M D) (s : S) : chain g g' fa fb fc s = mbind fa (fun a => mbind fb fun b => mbind (mopt (g a b)) fun t => mbind (mopt (dB t)) fun k => if k = true then mbind fc fun c => mopt (g' b c) else mret (.bl false)) s := rfl
@[simp] theorem q_dB (b : Bool) : dB (.bl b) = some b := rfl
@[simp] theorem q_truB (b : Bool) : truD (.bl b) = some b := rfl
@[simp] theorem q_notB (b : Bool) : notD (.bl b) = some (.bl (!b)) := rfl
@[simp] theorem q_cmpI (p : Int → Int → Bool) (i j : Int) : cmpI p (.int i) (.int j) = some (.bl (p i j)) := rfl
@[simp] theorem q_addI (i j : Int) : addD (.int i) (.int j) = some (.int (i + j)) := rfl
@[simp] theorem q_eqI (i j : Int) : eqD (.int i) (.int j) = some (.bl (decide (i = j))) := rfl
@[simp] theorem q_neI (i j : Int) : neD (.int i) (.int j) = some (.bl (!decide (i = j))) := rfl
@[simp] theorem q_eqS (i j : Str) : eqD (.str i) (.str j) = some (.bl (decide (i = j))) := rfl
@[simp] theorem q_neS (i j : Str) : neD (.str i) (.str j) = some (.bl (!decide (i = j))) := rfl
@[simp] theorem q_lenT (xs : List D) : lenC [.tup xs] = some (.int xs.length) := rfl
@[simp] theorem q_lenL (xs : List D) : lenC [.lst xs] = some (.int xs.length) := rfl
@[simp] theorem q_lenS (z : Str) : lenC [.str z] = if z.length ≤ LN then some (.int z.length) else none := by
  simp only [lenC, lenD]; split <;> rfl
@[simp] theorem q_int (i : Int) : intC [.int i] = some (.int i) := rfl
@[simp] theorem q_tupT (xs : List D) : tupC [.tup xs] = some (.tup xs) := rfl
@[simp] theorem q_tupL (xs : List D) : tupC [.lst xs] = some (.tup xs) := rfl
@[simp] theorem q_slotThen (i : Nat) (fb : M D) (g : D → D → Option D) (s : S) : slotThen i fb g s = mbind (mhas i) (fun _ => mbind fb fun k => mbind (mpeek i) fun d => mopt (g d k)) s := rfl
@[simp] theorem q_gVal (f : M D) (fs : M (List AV)) (s : S) : gVal f fs s = mbind f (fun d => mbind fs fun as => mret (.val d :: as)) s := rfl
@[simp] theorem q_gSl (i : Nat) (fs : M (List AV)) (s : S) : gSl i fs s = mbind (mcell i) (fun _ => mbind fs fun as => mret (.sl i :: as)) s := rfl
@[simp] theorem q_mcell (i : Nat) (s : S) : mcell i s = mopt (s.cell i) s := rfl
@[simp] theorem q_mpeek (i : Nat) (s : S) : mpeek i s = mopt (peekD s i) s := rfl
@[simp] theorem q_mCall (np : Nat) (r : Fn) (dds : List D) (fs : M (List AV)) (s : S) : mCall np r dds fs s = mbind fs (fun as => if as.length + dds.length = np then runFn r dds as else fun _ => .bad) s := rfl
@[simp] theorem q_mMeth (np : Nat) (r : Fn) (dds : List D) (fo : M AV) (fs : M (List AV)) (s : S) : mMeth np r dds fo fs s = mbind fo (fun o => mbind fs fun as => if as.length + dds.length + 1 = np then runFn r dds (o :: as) else fun _ => .bad) s := rfl
@[simp] theorem q_rD (f : M RV) (s : S) : rD f s = mbind f (fun rv => match rv with
  | .val d => mret d
  | .own c => mret c.d) s := rfl
@[simp] theorem q_rO (f : M RV) (s : S) : rO f s = mbind f (fun rv => match rv with
  | .val _ => fun _ => .bad
  | .own c => mret c) s := rfl
@[simp] theorem q_for (fi : M (List D)) (p : Pat) (f : S → Out) (s : S) : sFor fi p f s = sOf fi (fun ds => forD p f ds) s := rfl
@[simp] theorem q_iOf (f : M D) (s : S) : iOf f s = mbind f (fun d => mopt (walkD d)) s := rfl
@[simp] theorem q_walkT (xs : List D) : walkD (.tup xs) = some xs := rfl
@[simp] theorem q_walkL (xs : List D) : walkD (.lst xs) = some xs := rfl
@[simp] theorem q_walkS (z : Str) : walkD (.str z) = some (sgnD z) := rfl
@[simp] theorem q_iRng (k : List D → Option (List D)) (fs : M (List D)) (s : S) : iRng k fs s = mbind fs (fun ds => mopt (k ds)) s := rfl
@[simp] theorem q_iEnu (fs : M (List D)) (s : S) : iEnu fs s = mbind fs (fun ds => mopt ((listOf1 ds).map (enumFrom 0))) s := rfl
@[simp] theorem q_eLc (vs : List Nat) (fi : M (List D)) (p : Pat) (t : M Bool) (fe : M D) (s : S) : eLc vs fi p t fe s = mbind (eLcL vs fi p t fe) (fun ys => mret (.lst ys)) s := rfl
@[simp] theorem q_oLc (vs : List Nat) (fi : M (List D)) (p : Pat) (t : M Bool) (fe : M D) (s : S) : oLc vs fi p t fe s = mbind (eLcL vs fi p t fe) (fun ys => mret (Cell.lst ys)) s := rfl
@[simp] theorem q_mYes (s : S) : mYes s = .ok true s := rfl
@[simp] theorem q_cellL (ds : List D) : (Cell.lst ds).d = .lst ds := rfl
@[simp] theorem q_outRt (v : RV) (s : S) : outFR (.rt v s) = .rt v s.io := rfl
@[simp] theorem q_outNx (s : S) : outFR (.nx s) = .rt (.val .non) s.io := rfl
@[simp] theorem q_bind_nm (i : Nat) (d : D) (s : S) : (Pat.nm i).bind d s = some (s.put i (.val d)) := rfl
@[simp] theorem q_bind_tp (ps : Pats) (ds : List D) (s : S) : (Pat.tp ps).bind (.tup ds) s = ps.bind ds s := rfl
@[simp] theorem q_binds_nil (s : S) : Pats.nil.bind [] s = some s := rfl
@[simp] theorem q_binds_cons (p : Pat) (ps : Pats) (d : D) (ds : List D) (s : S) : (Pats.cons p ps).bind (d :: ds) s = (p.bind d s).bind fun s1 => ps.bind ds s1 := rfl
end
@[simp] theorem q_binP (g : D → D → Option D) (fa : M D) (i : Nat) (s : S) : binP g fa i s = mbind fa (fun d => mbind (mpeek i) fun e => mopt ((g d e).bind flatD)) s := rfl
@[simp] theorem q_var (i : Nat) (sl : List Sl) (io : List Cell) : eVar i ⟨sl, io⟩ = (match sl[i]? with
  | some (.val d) => .ok d ⟨sl, io⟩
  | some (.own c) => .ok c.d ⟨sl.set i (.val c.d), io⟩
  | _ => .bad) := rfl
@[simp] theorem q_peek (i : Nat) (sl : List Sl) (io : List Cell) : peekD ⟨sl, io⟩ i = (match sl[i]? with
  | some (.val d) => some d
  | some (.own c) => some c.d
  | some (.io j) => (io[j]?).map Cell.d
  | _ => none) := rfl
@[simp] theorem q_has (i : Nat) (s : S) : mhas i s = (match peekD s i with
  | some _ => .ok () s
  | none => .bad) := rfl
@[simp] theorem q_cell (i : Nat) (sl : List Sl) (io : List Cell) : S.cell ⟨sl, io⟩ i = (match sl[i]? with
  | some (.own c) => some c
  | some (.io j) => io[j]?
  | _ => none) := rfl
@[simp] theorem q_setCell (i : Nat) (c : Cell) (sl : List Sl) (io : List Cell) : S.setCell ⟨sl, io⟩ i c = (match sl[i]? with
  | some (.io j) => ⟨sl, io.set j c⟩
  | _ => ⟨sl.set i (.own c), io⟩) := by
  unfold S.setCell
  rfl
@[simp] theorem q_app (i : Nat) (f : M D) (s : S) : sApp i f s = sOf (mbind (mhas i) fun _ => mbind (fun s => mopt ((s.cell i).bind lstOf) s) fun _ => f) (fun d s => match (s.cell i).bind lstOf with
  | some ds => if ds.length < LN then .nx (s.setCell i (.lst (ds ++ [d]))) else .bad
  | none => .bad) s := rfl
@[simp] theorem q_bind_tl (ps : Pats) (ds : List D) (s : S) : (Pat.tl ps).bind (.lst ds) s = ps.bind ds s := rfl
@[simp] theorem q_bind_ix (i : Nat) (k : Int) (d : D) (s : S) : (Pat.ix i k).bind d s = (match s.cell i with
    | some (.lst ds) => (ixN ds.length k).map fun j => s.setCell i (.lst (ds.set j d))
    | _ => none) := rfl
@[simp] theorem q_asg (f : M D) (p : Pat) (s : S) : sAsg f p s = sOf f (fun d s => match p.bind d s with
  | some s' => .nx s'
  | none => .bad) s := rfl
@[simp] theorem q_setIx (i : Nat) (fk fe : M D) (s : S) : sSetIx i fk fe s = sOf fe (fun d => sOf (mbind (mcell i) fun _ => fk) fun k s => match s.cell i, k with
  | some (.lst ds), .int n => (match ixN ds.length n with
    | some j => .nx (s.setCell i (.lst (ds.set j d)))
    | none => .bad)
  | _, _ => .bad) s := rfl
@[simp] theorem q_lstOf (ds : List D) : lstOf (.lst ds) = some ds := rfl
theorem run_val {r : Fn} {dds ds : List D} {sl : List Sl} {io : List Cell} {v : RV} {io' : List Cell} (h : r ((ds ++ dds).map .val) [] = .rt v io') : runFn r dds (ds.map .val) ⟨sl, io⟩ = .ok v ⟨sl, io⟩ := by
  have g1 : ∀ ds : List D, gathI (ds.map .val) = [] := fun ds => by induction ds with
    | nil => rfl
    | cons d ds ih => simpa [gathI] using ih
  have g2 : ∀ (k : Nat) (ds : List D), gathA k (ds.map .val) = ds.map .val := fun k ds => by induction ds generalizing k with
    | nil => rfl
    | cons d ds ih => simp [gathA, ih]
  have g3 : ∀ (s : S) (cs : List Cell), putAll s [] cs = s := fun s cs => by cases cs <;> rfl
  simp only [runFn, g1, g2, cellsAt, apart, ← List.map_append, h, if_true, g3]
theorem lcD_pure {α : Type} {vs : List Nat} {p : Pat} {t : M Bool} {fe : M D} {io : List Cell} {sl0 : List Sl} {e : α → D} (slB : α → List Sl) (q : α → Bool) (g : α → D) : (xs : List α) → (sl : List Sl) → (acc : List D) →
    wipeL vs 0 sl = sl0 → acc.length + xs.length ≤ LN →
    (∀ x ∈ xs, ∀ io', p.bind (e x) ⟨sl0, io'⟩ = some ⟨slB x, io'⟩) → (∀ x ∈ xs, ∀ c, t ⟨slB x, io ++ [c]⟩ = .ok (q x) ⟨slB x, io ++ [c]⟩) →
    (∀ x ∈ xs, q x = true → ∀ c, fe ⟨slB x, io ++ [c]⟩ = .ok (g x) ⟨slB x, io ++ [c]⟩) → (∀ x ∈ xs, wipeL vs 0 (slB x) = sl0) →
    ∃ sl', lcD vs p t fe (xs.map e) ⟨sl, io ++ [.lst acc]⟩ = some ⟨sl', io ++ [.lst (acc ++ (xs.filter q).map g)]⟩ ∧ wipeL vs 0 sl' = sl0 ∧ (sl' = sl ∨ ∃ x ∈ xs, sl' = slB x)
  | [], sl, acc, h0, hl, hb, ht, hf, hw => ⟨sl, by simp [lcD], h0, .inl rfl⟩
  | x :: xs, sl, acc, h0, hl, hb, ht, hf, hw => by
    have hb' := hb x (List.mem_cons_self ..)
    have ht' := ht x (List.mem_cons_self ..)
    simp only [List.map_cons, lcD, S.wipe, h0, hb', Option.bind_some, ht']
    cases hq : q x with
    | false =>
      obtain ⟨sl', e1, e2, e3⟩ := lcD_pure slB q g xs (slB x) acc (hw x (List.mem_cons_self ..)) (by simp at hl; omega) (fun y hy => hb y (.tail _ hy)) (fun y hy => ht y (.tail _ hy)) (fun y hy => hf y (.tail _ hy)) (fun y hy => hw y (.tail _ hy))
      refine ⟨sl', ?_, e2, ?_⟩
      · simp only [e1, List.filter_cons, hq]
        simp
      · rcases e3 with e3 | ⟨y, hy, e3⟩
        · exact .inr ⟨x, List.mem_cons_self .., e3⟩
        · exact .inr ⟨y, .tail _ hy, e3⟩
    | true =>
      obtain ⟨sl', e1, e2, e3⟩ := lcD_pure slB q g xs (slB x) (acc ++ [g x]) (hw x (List.mem_cons_self ..)) (by simp at hl ⊢; omega) (fun y hy => hb y (.tail _ hy)) (fun y hy => ht y (.tail _ hy)) (fun y hy => hf y (.tail _ hy)) (fun y hy => hw y (.tail _ hy))
      refine ⟨sl', ?_, e2, ?_⟩
      · have hlt : acc.length < LN := by simp at hl; omega
        simp only [hf x (List.mem_cons_self ..) hq, pushL, S.top, List.getLast?_append, List.getLast?_singleton, Option.some_or, hlt, if_true, List.dropLast_concat, Option.bind_some, e1, List.filter_cons, hq]
        simp
      · rcases e3 with e3 | ⟨y, hy, e3⟩
        · exact .inr ⟨x, List.mem_cons_self .., e3⟩
        · exact .inr ⟨y, .tail _ hy, e3⟩
theorem eLcL_pure {α : Type} {vs : List Nat} {fi : M (List D)} {p : Pat} {t : M Bool} {fe : M D} {s : S} {e : α → D} (xs : List α) (sl sl' : List Sl) (io : List Cell) (slB : α → List Sl) (q : α → Bool) (g : α → D)
    (hfi : fi s = .ok (xs.map e) ⟨sl, io⟩) (hl : xs.length ≤ LN)
    (hb : ∀ x ∈ xs, ∀ io', p.bind (e x) ⟨wipeL vs 0 sl, io'⟩ = some ⟨slB x, io'⟩) (ht : ∀ x ∈ xs, ∀ c, t ⟨slB x, io ++ [c]⟩ = .ok (q x) ⟨slB x, io ++ [c]⟩)
    (hf : ∀ x ∈ xs, q x = true → ∀ c, fe ⟨slB x, io ++ [c]⟩ = .ok (g x) ⟨slB x, io ++ [c]⟩) (hw : ∀ x ∈ xs, wipeL vs 0 (slB x) = wipeL vs 0 sl)
    (h0 : ioLt io.length sl = true) (hi : ∀ x ∈ xs, ioLt io.length (slB x) = true) (hs : backL vs 0 sl (wipeL vs 0 sl) = sl') :
    eLcL vs fi p t fe s = .ok ((xs.filter q).map g) ⟨sl', io⟩ := by
  subst hs
  obtain ⟨sl', e1, e2, e3⟩ := lcD_pure (io := io) slB q g xs sl [] rfl (by simpa using hl) hb ht hf hw
  have e4 : ioLt io.length sl' = true := by
    rcases e3 with e3 | ⟨y, hy, e3⟩
    · rw [e3]; exact h0
    · rw [e3]; exact hi y hy
  simp only [eLcL, mbind, hfi, Res.bind, S.more, e1, lcEnd, S.top, List.getLast?_append, List.getLast?_singleton, Option.some_or, e4, if_true, S.back, S.wipe, S.less, List.dropLast_concat, e2, List.nil_append]
end DL
set_option maxHeartbeats 4000000
namespace DL
open PySem PyProof.Rows L2
@[simp] theorem q_wipeO (vs : List Nat) (f : S → Out) (s : S) : wipeO vs f s = (match f s with
  | .nx s' => .nx (s'.wipe vs)
  | .ct s' => .ct (s'.wipe vs)
  | .bk s' => .bk (s'.wipe vs)
  | .rt v s' => .rt v s'
  | .exc c fs s' => .exc c fs s'
  | .bad => .bad) := rfl
@[simp] theorem q_iWipe (vs : List Nat) (fi : M (List D)) (s : S) : iWipe vs fi s = mbind fi (fun ds s => .ok ds (s.wipe vs)) s := rfl
@[simp] theorem q_forW (vs : List Nat) (fi : M (List D)) (p : Pat) (f : S → Out) (s : S) : sForW vs fi p f s = sOf (iWipe vs fi) (fun ds => forD p (wipeO vs f) ds) s := rfl
@[simp] theorem q_wipeS (vs : List Nat) (sl : List Sl) (io : List Cell) : S.wipe ⟨sl, io⟩ vs = ⟨wipeL vs 0 sl, io⟩ := rfl
@[simp] theorem q_augV (i : Nat) (g : D → D → Option D) (fe : M D) (s : S) : sAugV i g fe s = (match s.sl[i]? with
  | some (.val a) => sOf fe (fun y s => match g a y with
    | some d => .nx (s.put i (.val d))
    | none => .bad) s
  | _ => .bad) := by
  unfold sAugV; rfl
@[simp] theorem q_calL (g : List D → Option (List D)) (fs : M (List D)) (s : S) : calL g fs s = mbind fs (fun ds => mbind (mopt (g ds)) fun xs => mret (.lst xs)) s := rfl
@[simp] theorem q_calN (g : List D → Option (List D)) (fs : M (List D)) (s : S) : calN g fs s = mbind fs (fun ds => mbind (mopt (g ds)) fun xs => mret (Cell.lst xs)) s := rfl
@[simp] theorem q_aStar (fa : M D) (fs : M (List D)) (s : S) : aStar fa fs s = mbind fa (fun d => mbind (mopt (itemsT d)) fun xs => mbind fs fun ds => mret (xs ++ ds)) s := rfl
@[simp] theorem q_itemsL (xs : List D) : itemsT (.lst xs) = some xs := rfl
@[simp] theorem q_itemsT (xs : List D) : itemsT (.tup xs) = some xs := rfl
@[simp] theorem q_metS (g : Str → List D → Option D) (fo : M D) (fs : M (List D)) (s : S) : metS g fo fs s = mbind fo (fun d => mbind (mopt (txt d)) fun z => mbind fs fun ds => mopt (g z ds)) s := rfl
@[simp] theorem q_txt (z : Str) : txt (.str z) = some z := rfl
@[simp] theorem q_cellD (c : Cell) : (match c with
  | .lst ds => D.lst ds
  | .ins c fs => .ins c fs
  | .dic kvs => .dic kvs
  | .tdc kvs => .tdc kvs) = c.d := by cases c <;> rfl
@[simp] theorem q_frzO (i : Nat) (f : S → Out) (s : S) : frzO i f s = (match f s with
  | .nx s' => .nx (s'.frz i)
  | o => o) := rfl
@[simp] theorem q_frz (i : Nat) (sl : List Sl) (io : List Cell) : S.frz ⟨sl, io⟩ i = (match sl[i]? with
  | some (.own c) => ⟨sl.set i (.val c.d), io⟩
  | _ => ⟨sl, io⟩) := rfl
@[simp] theorem q_sRetN (s : S) : sRetN s = .rt (.val .non) s := rfl
theorem run1 {r : Fn} {a : D} {v : RV} {io' : List Cell} (h : r [.val a] [] = .rt v io') (s : S) : runFn r [] [.val a] s = .ok v s := run_val (ds := [a]) (dds := []) h
theorem run2 {r : Fn} {a b : D} {v : RV} {io' : List Cell} (h : r [.val a, .val b] [] = .rt v io') (s : S) : runFn r [] [.val a, .val b] s = .ok v s := run_val (ds := [a, b]) (dds := []) h
@[simp] theorem q_mMake (np : Nat) (cn : Str) (r : Fn) (dds : List D) (fs : M (List AV)) (s : S) : mMake np cn r dds fs s = mbind fs (fun as => if as.length + dds.length + 1 = np then runMake cn r dds as else fun _ => .bad) s := rfl
@[simp] theorem q_mMakeK (nk np : Nat) (cn : Str) (r : Fn) (idx : List Nat) (fs : M (List AV)) (s : S) : mMakeK nk np cn r idx fs s = mbind fs (fun as => if as.length = nk ∧ (permL idx as).length + 1 = np then runMake cn r [] (permL idx as) else fun _ => .bad) s := rfl
@[simp] theorem q_mMakeN (n m np : Nat) (cn : Str) (r : Fn) (idx : List Nat) (dds : List D) (fs gs : M (List AV)) (s : S) : mMakeN n m np cn r idx dds fs gs s = mbind fs (fun as => mbind gs fun bs =>
  if as.length = n ∧ bs.length = m ∧ (permL idx (as ++ (bs ++ dds.map .val))).length + 1 = np then runMake cn r [] (permL idx (as ++ (bs ++ dds.map .val))) else fun _ => .bad) s := rfl
@[simp] theorem q_mCallK (nk np : Nat) (r : Fn) (idx : List Nat) (fs : M (List AV)) (s : S) : mCallK nk np r idx fs s = mbind fs (fun as => if as.length = nk ∧ (permL idx as).length = np then runFn r [] (permL idx as) else fun _ => .bad) s := rfl
@[simp] theorem q_mMethK (nk np : Nat) (r : Fn) (idx : List Nat) (fo : M AV) (fs : M (List AV)) (s : S) : mMethK nk np r idx fo fs s = mbind fo (fun o => mbind fs fun as => if as.length = nk ∧ (permL idx as).length + 1 = np then runFn r [] (o :: permL idx as) else fun _ => .bad) s := rfl
@[simp] theorem q_prop (r : Fn) (fo : M AV) (s : S) : mProp r fo s = mbind fo (fun o => noExc (runFn r [] [o])) s := rfl
@[simp] theorem q_noExc {α : Type} (f : M α) (s : S) : noExc f s = (match f s with
  | .ok a s' => .ok a s'
  | _ => .bad) := rfl
@[simp] theorem q_recvD (cn m : Str) (fo : M D) (s : S) : recvD cn m fo s = mbind fo (fun d => if insOf cn m d = true then mret (.val d) else fun _ => .bad) s := rfl
@[simp] theorem q_recvS (cn m : Str) (i : Nat) (s : S) : recvS cn m i s = mbind (mcell i) (fun c => if insOf cn m c.d = true then mret (.sl i) else fun _ => .bad) s := rfl
@[simp] theorem q_eqO (cs : List Str) (cn : Str) (r : Fn) (ng : Bool) (fa fb : M D) (s : S) : mEqO cs cn r ng fa fb s = mbind fa (fun a => mbind (mopt (insAt cn a)) fun _ => mbind fb fun b => mbind (mopt (tyA cs b)) fun _ => mbind (runFn r [] [.val a, .val b]) fun rv => match rv with
  | .val (.bl k) => mret (.bl (if ng then !k else k))
  | _ => fun _ => .bad) s := rfl
@[simp] theorem q_strO (cn : Str) (r : Fn) (fa : M D) (s : S) : mStrO cn r fa s = mbind fa (fun a => mbind (mopt (insAt cn a)) fun _ => mbind (runFn r [] [.val a]) fun rv => match rv with
  | .val (.str z) => mret (.str z)
  | _ => fun _ => .bad) s := rfl
@[simp] theorem q_perm_nil {α : Type} (as : List α) : permL [] as = [] := rfl
@[simp] theorem q_perm_cons {α : Type} (i : Nat) (idx : List Nat) (as : List α) : permL (i :: idx) as = (match as[i]? with
  | some a => a :: permL idx as
  | none => permL idx as) := by
  unfold permL
  rw [List.filterMap_cons]
  cases as[i]? <;> rfl
@[simp] theorem q_setF (i : Nat) (cn f : Str) (fe : M D) (s : S) : sSetF i cn f fe s = sOf fe (fun d s => match s.cell i with
  | some (.ins c fs) => if c = cn ∧ fs.length < 1000 then .nx (s.setCell i (.ins c (putD f d fs))) else .bad
  | _ => .bad) s := by
  unfold sSetF; rfl
/-- a loop told by the walked beginning -/
theorem forD_pre {α : Type} {p : Pat} {f : S → Out} (e : α → D) (st : List α → S) (xs : List α)
    (h : ∀ pre x post, xs = pre ++ x :: post → ∃ s1, p.bind (e x) (st pre) = some s1 ∧ f s1 = .nx (st (pre ++ [x]))) : forD p f (xs.map e) (st []) = .nx (st xs) := by
  have : ∀ (ys pre : List α), pre ++ ys = xs → forD p f (ys.map e) (st pre) = .nx (st xs) := by
    intro ys
    induction ys with
    | nil => intro pre hp; rw [← hp]; simp [forD]
    | cons y ys ih =>
      intro pre hp
      obtain ⟨s1, e1, e2⟩ := h pre y ys hp.symm
      simp only [List.map_cons, forD, e1, e2]
      exact ih (pre ++ [y]) (by rw [← hp]; simp)
  exact this xs [] rfl
@[simp] theorem q_wipeL_nil (vs : List Nat) (k : Nat) : wipeL vs k [] = [] := rfl
@[simp] theorem q_wipeL_cons (vs : List Nat) (k : Nat) (x : Sl) (r : List Sl) : wipeL vs k (x :: r) = (if vs.contains k then .no else x) :: wipeL vs (k + 1) r := rfl
@[simp] theorem q_backL_nil (vs : List Nat) (k : Nat) : backL vs k [] [] = [] := rfl
@[simp] theorem q_backL_cons (vs : List Nat) (k : Nat) (x y : Sl) (r r' : List Sl) : backL vs k (x :: r) (y :: r') = (if vs.contains k then x.keep else y) :: backL vs (k + 1) r r' := rfl
@[simp] theorem q_keep_no : Sl.keep .no = .no := rfl
@[simp] theorem q_keep_val (d : D) : Sl.keep (.val d) = .val d := rfl
@[simp] theorem q_ioLt_nil (n : Nat) : ioLt n [] = true := rfl
@[simp] theorem q_ioLt_io (n j : Nat) (r : List Sl) : ioLt n (.io j :: r) = (decide (j < n) && ioLt n r) := rfl
@[simp] theorem q_ioLt_no (n : Nat) (r : List Sl) : ioLt n (.no :: r) = ioLt n r := rfl
@[simp] theorem q_ioLt_val (n : Nat) (d : D) (r : List Sl) : ioLt n (.val d :: r) = ioLt n r := rfl
@[simp] theorem q_ioLt_own (n : Nat) (c : Cell) (r : List Sl) : ioLt n (.own c :: r) = ioLt n r := rfl
theorem seq_nx {f g : S → Out} {s s1 : S} {o : Out} (h : f s = .nx s1) (k : g s1 = o) : sSeq f g s = o := by rw [q_seq, h]; exact k
theorem for_of {ws : List Nat} {fi : M (List D)} {p : Pat} {f : S → Out} {s s1 : S} {ds : List D} {o : Out} (h : fi s = .ok ds s1) (k : forD p (wipeO ws f) ds (s1.wipe ws) = o) : sForW ws fi p f s = o := by
  rw [q_forW, q_sOf, q_iWipe, q_bind, h]; exact k
theorem fn_of {n : Nat} {b : S → Out} {as : List Sl} {io : List Cell} {v : RV} {s1 : S} (h : b ⟨as ++ List.replicate (n - as.length) .no, io⟩ = .rt v s1) : bodyFn n b as io = .rt v s1.io := by
  show outFR (b _) = _
  rw [h]
  rfl
@[simp] theorem ofS_inj (a b : String) : (Str.ofString a = Str.ofString b) = (a = b) := by
  refine propext ⟨fun h => ?_, fun h => by rw [h]⟩
  rw [Str.ofString_eq_toList, Str.ofString_eq_toList] at h
  have h1 : (a.toList.map Char.toNat).toArray = (b.toList.map Char.toNat).toArray := by injection h
  have h2 : a.toList.map Char.toNat = b.toList.map Char.toNat := by simpa using congrArg Array.toList h1
  have h3 : a.toList = b.toList := by
    revert h2
    generalize a.toList = l
    generalize b.toList = m
    intro h2
    induction l generalizing m with
    | nil => cases m with
      | nil => rfl
      | cons _ _ => cases h2
    | cons x l ih => cases m with
      | nil => cases h2
      | cons y m =>
        rw [List.map_cons, List.map_cons] at h2
        injection h2 with e1 e2
        rw [ih m e2, show x = y from Char.ext (UInt32.toNat_inj.mp e1)]
  exact String.toList_inj.mp h3
@[simp] theorem isi_int_int (cs : List Str) (i : Int) : isiT cs (.int i) (.ty "int") = some true := rfl
@[simp] theorem isi_int_bool (cs : List Str) (i : Int) : isiT cs (.int i) (.ty "bool") = some false := rfl
@[simp] theorem isi_int_str (cs : List Str) (i : Int) : isiT cs (.int i) (.ty "str") = some false := rfl
@[simp] theorem isi_int_tup (cs : List Str) (i : Int) : isiT cs (.int i) (.ty "tuple") = some false := rfl
@[simp] theorem isi_bl_int (cs : List Str) (i : Bool) : isiT cs (.bl i) (.ty "int") = some true := rfl
@[simp] theorem isi_bl_bool (cs : List Str) (i : Bool) : isiT cs (.bl i) (.ty "bool") = some true := rfl
@[simp] theorem isi_bl_str (cs : List Str) (i : Bool) : isiT cs (.bl i) (.ty "str") = some false := rfl
@[simp] theorem isi_bl_tup (cs : List Str) (i : Bool) : isiT cs (.bl i) (.ty "tuple") = some false := rfl
@[simp] theorem isi_str_int (cs : List Str) (i : Str) : isiT cs (.str i) (.ty "int") = some false := rfl
@[simp] theorem isi_str_bool (cs : List Str) (i : Str) : isiT cs (.str i) (.ty "bool") = some false := rfl
@[simp] theorem isi_str_str (cs : List Str) (i : Str) : isiT cs (.str i) (.ty "str") = some true := rfl
@[simp] theorem isi_str_tup (cs : List Str) (i : Str) : isiT cs (.str i) (.ty "tuple") = some false := rfl
@[simp] theorem isi_non_int (cs : List Str) : isiT cs .non (.ty "int") = some false := rfl
@[simp] theorem isi_non_bool (cs : List Str) : isiT cs .non (.ty "bool") = some false := rfl
@[simp] theorem isi_non_str (cs : List Str) : isiT cs .non (.ty "str") = some false := rfl
@[simp] theorem isi_non_tup (cs : List Str) : isiT cs .non (.ty "tuple") = some false := rfl
@[simp] theorem isi_tup_tup (cs : List Str) (xs : List D) : isiT cs (.tup xs) (.ty "tuple") = some true := rfl
@[simp] theorem isi_tup_int (cs : List Str) (xs : List D) : isiT cs (.tup xs) (.ty "int") = some false := rfl
@[simp] theorem isi_tup_str (cs : List Str) (xs : List D) : isiT cs (.tup xs) (.ty "str") = some false := rfl
@[simp] theorem isi_lst_tup (cs : List Str) (xs : List D) : isiT cs (.lst xs) (.ty "tuple") = some false := rfl
@[simp] theorem isi_C (cs : List Str) (d e : D) : isiC cs [d, e] = (isiT cs d e).map .bl := rfl
@[simp] theorem isD_non : isD .non .non = some (.bl true) := rfl
@[simp] theorem is_int_non (i : Int) : isD (.int i) .non = some (.bl false) := rfl
@[simp] theorem is_str_non (i : Str) : isD (.str i) .non = some (.bl false) := rfl
@[simp] theorem is_tup_non (i : List D) : isD (.tup i) .non = some (.bl false) := rfl
@[simp] theorem isnt_non : isntD .non .non = some (.bl false) := rfl
@[simp] theorem isnt_int_non (i : Int) : isntD (.int i) .non = some (.bl true) := rfl
@[simp] theorem isnt_str_non (i : Str) : isntD (.str i) .non = some (.bl true) := rfl
@[simp] theorem isnt_tup_non (i : List D) : isntD (.tup i) .non = some (.bl true) := rfl
end DL
set_option maxHeartbeats 4000000
namespace DL
open PySem PyProof.Rows L2
theorem eqv_str (x y : Str) : PyData.eqv (.str x) (.str y) = decide (x = y) := by
  simp only [PyData.eqv]; rfl
mutual
def D.bk : D → Nat
  | .str x => x.length
  | .tup xs => D.bks xs
  | .lst xs => D.bks xs
  | _ => 0
def D.bks : List D → Nat
  | [] => 0
  | x :: xs => D.bk x + 1 + D.bks xs
end
theorem strOk_of {x : Str} (h : x.cps.toList.all (fun c => decide (c < 1114112)) = true) : PyData.strOk x = true := by
  simp only [PyData.strOk, ← Array.all_toList]
  exact h
@[simp] theorem ofS_ok (a : String) : PyData.strOk (Str.ofString a) = true := by
  refine strOk_of (List.all_eq_true.mpr fun c hc => ?_)
  rw [Str.ofString_eq_toList] at hc
  obtain ⟨x, _, rfl⟩ := List.mem_map.mp (by simpa using hc)
  have := x.valid
  simp only [decide_eq_true_eq]
  have h2 : x.toNat < 1114112 := by
    rcases this with h | ⟨_, h⟩
    · have : x.toNat = x.val.toNat := rfl
      omega
    · have : x.toNat = x.val.toNat := rfl
      omega
  exact h2
@[simp] theorem sameK_s (x y : Str) : sameK (.str x) (.str y) = decide (x = y) := rfl
@[simp] theorem eqv_II (i j : Int) : PyData.eqv (.int i) (.int j) = decide (i = j) := by simp only [PyData.eqv]; rfl
@[simp] theorem eqv_BB (i j : Bool) : PyData.eqv (.bool i) (.bool j) = decide (i = j) := by simp only [PyData.eqv]; cases i <;> cases j <;> rfl
@[simp] theorem eqv_SS (x y : Str) : PyData.eqv (.str x) (.str y) = decide (x = y) := eqv_str x y
@[simp] theorem eqv_NN : PyData.eqv .none .none = true := by simp only [PyData.eqv]
@[simp] theorem eqv_NI (i : Int) : PyData.eqv .none (.int i) = false := by simp only [PyData.eqv]
@[simp] theorem eqv_IN (i : Int) : PyData.eqv (.int i) .none = false := by simp only [PyData.eqv]
@[simp] theorem eqv_TT (xs ys : List PyData) : PyData.eqv (.tuple xs) (.tuple ys) = PyData.eqvAll xs ys := by simp only [PyData.eqv]
@[simp] theorem eqv_LL (xs ys : List PyData) : PyData.eqv (.list xs) (.list ys) = PyData.eqvAll xs ys := by simp only [PyData.eqv]
@[simp] theorem eqv_nil : PyData.eqvAll [] [] = true := by simp only [PyData.eqvAll]
@[simp] theorem eqv_cons (x y : PyData) (xs ys : List PyData) : PyData.eqvAll (x :: xs) (y :: ys) = (PyData.eqv x y && PyData.eqvAll xs ys) := by simp only [PyData.eqvAll]
@[simp] theorem eqv_nc (y : PyData) (ys : List PyData) : PyData.eqvAll [] (y :: ys) = false := by simp only [PyData.eqvAll]
@[simp] theorem eqv_cn (x : PyData) (xs : List PyData) : PyData.eqvAll (x :: xs) [] = false := by simp only [PyData.eqvAll]
theorem eqD_ok {d e : D} (hd : d.ok 10 = true) (he : e.ok 10 = true) : eqD d e = some (.bl (PyData.eqv d.py e.py)) := by
  unfold eqD
  split
  · simp [D.py]
  · simp [D.py]
  · rw [hd, he]; rfl
@[simp] theorem ofS_sm (a : String) : ((Str.ofString a).cps.toList.all fun c => decide (c < 1114112)) = true := by
  have := ofS_ok a
  simp only [PyData.strOk, ← Array.all_toList] at this
  exact this
theorem tj_cons (z x y : Str) (r : List Str) : Txt.join z (x :: y :: r) = x ++ z ++ Txt.join z (y :: r) := by
  rw [TL.join_eq, TL.join_eq]; rfl
theorem tj_one (z x : Str) : Txt.join z [x] = x := by
  rw [TL.join_eq]; rfl
theorem tj_nil (z : Str) : Txt.join z [] = "" := by
  rw [TL.join_eq]; rfl
@[simp] theorem q_fmtS (x : Str) : fmtD (.str x) = if x.length ≤ LN then some (.str x) else none := rfl
@[simp] theorem q_catS (x y : Str) : catS x (.str y) = if (x ++ y).length ≤ LN then some (x ++ y) else none := rfl
@[simp] theorem q_joins0 (x : Str) (s : S) : joins x [] s = .ok (.str x) s := rfl
@[simp] theorem q_joins1 (x : Str) (f : M D) (r : List (M D)) (s : S) : joins x (f :: r) s = mbind f (fun d => mbind (mopt (catS x d)) fun acc' => joins acc' r) s := rfl
end DL
set_option maxHeartbeats 4000000
namespace DL
open PySem PyProof.Rows L2
@[simp] theorem q_raise (c f : Str) (fa : M D) (s : S) : sRaise c f fa s = (match fa s with
  | .ok d s' => .exc c [(f, d)] s'
  | .exc c fs s' => .exc c fs s'
  | .bad => .bad) := rfl
@[simp] theorem q_eqZS (x y : Str) : eqZ (.str x) (.str y) = some (.bl (decide (x = y))) := rfl
@[simp] theorem q_eqZD (x : Str) (kvs : List (D × D)) : eqZ (.str x) (.dic kvs) = some (.bl false) := rfl
@[simp] theorem q_exf (cs : List Str) (f : Str) (fa : M D) (s : S) : eXf cs f fa s = mbind fa (fun d => mopt (xfD cs f d)) s := rfl
@[simp] theorem q_reprA (cn : Str) (r : Fn) (fa : M D) (s : S) : mReprA cn r fa s = mbind fa (fun a => match insAt cn a with
  | some _ => mbind (runFn r [] [.val a]) fun rv => match rv with
    | .val (.str z) => mret (.str z)
    | _ => fun _ => .bad
  | none => mopt (reprZ [a])) s := rfl
theorem char_lt (x : Char) : x.toNat < 1114112 := by
  have := x.valid
  rcases this with h | ⟨_, h⟩
  · show x.val.toNat < _
    have : x.val.toNat < 55296 := h
    omega
  · exact h
theorem hex_lt {w c d : Nat} (h : d ∈ (let e := (Nat.toDigits 16 c).map Char.toNat; List.replicate (w - e.length) 48 ++ e)) : d < 1114112 := by
  simp only [List.mem_append, List.mem_replicate, List.mem_map] at h
  rcases h with ⟨_, rfl⟩ | ⟨x, _, rfl⟩
  · decide
  · exact char_lt x
theorem reprChar_lt {q c : Nat} (hc : c < 1114112) : ∀ d ∈ Builtin.Str.reprChar q c, d < 1114112 := by
  intro d hd
  unfold Builtin.Str.reprChar at hd
  dsimp only at hd
  split at hd
  · simp only [List.mem_cons, List.not_mem_nil, or_false] at hd; rcases hd with rfl | rfl <;> omega
  split at hd
  · simp only [List.mem_cons, List.not_mem_nil, or_false] at hd; rcases hd with rfl | rfl <;> omega
  split at hd
  · simp only [List.mem_cons, List.not_mem_nil, or_false] at hd; rcases hd with rfl | rfl <;> omega
  split at hd
  · simp only [List.mem_cons, List.not_mem_nil, or_false] at hd; rcases hd with rfl | rfl <;> omega
  split at hd
  · simp only [List.mem_cons, List.not_mem_nil, or_false] at hd; omega
  split at hd
  · rcases List.mem_append.mp hd with hd | hd
    · simp only [List.mem_cons, List.not_mem_nil, or_false] at hd; rcases hd with rfl | rfl <;> omega
    · exact hex_lt (w := 2) hd
  split at hd
  · rcases List.mem_append.mp hd with hd | hd
    · simp only [List.mem_cons, List.not_mem_nil, or_false] at hd; rcases hd with rfl | rfl <;> omega
    · exact hex_lt (w := 4) hd
  · rcases List.mem_append.mp hd with hd | hd
    · simp only [List.mem_cons, List.not_mem_nil, or_false] at hd; rcases hd with rfl | rfl <;> omega
    · exact hex_lt (w := 8) hd
theorem repr_fold (q : Nat) : ∀ (l : List Nat) (acc : Array Nat), (∀ c ∈ l, c < 1114112) → (∀ c ∈ acc.toList, c < 1114112) → ∀ c ∈ (l.foldl (fun out c => out ++ (Builtin.Str.reprChar q c).toArray) acc).toList, c < 1114112
  | [], acc, _, h => h
  | c :: r, acc, hl, h => by
    simp only [List.foldl_cons]
    refine repr_fold q r _ (fun d hd => hl d (.tail _ hd)) fun d hd => ?_
    simp only [Array.toList_append, List.mem_append] at hd
    rcases hd with hd | hd
    · exact h d hd
    · exact reprChar_lt (hl c List.mem_cons_self) d hd
theorem repr_ok {x : Str} (h : PyData.strOk x = true) : PyData.strOk (PyData.shown (.str x)) = true := by
  have h : ∀ c ∈ x.cps.toList, c < 1114112 := fun c hc => by
    have h2 : (x.cps.all fun c => decide (c < 1114112)) = true := h
    rw [← Array.all_toList] at h2
    simpa using List.all_eq_true.mp h2 c hc
  have hq : reprQuote x < 1114112 := by unfold reprQuote; split <;> decide
  refine strOk_of (List.all_eq_true.mpr fun c hc => decide_eq_true ?_)
  rw [show PyData.shown (.str x) = reprText x by simp only [PyData.shown]] at hc
  unfold reprText at hc
  simp only [Array.toList_push, List.mem_append, List.mem_cons, List.not_mem_nil, or_false, ← Array.foldl_toList] at hc
  rcases hc with hc | rfl
  · exact repr_fold _ _ _ h (fun c hc => by
      simp only [List.mem_cons, List.not_mem_nil, or_false] at hc
      subst hc; exact hq) c hc
  · exact hq
theorem sapp_ok {x y : Str} (h : PyData.strOk x = true) (g : PyData.strOk y = true) : PyData.strOk (x ++ y) = true := by
  have hx : (x.cps.all fun c => decide (c < 1114112)) = true := h
  have hy : (y.cps.all fun c => decide (c < 1114112)) = true := g
  rw [← Array.all_toList] at hx hy
  refine strOk_of ?_
  show ((x.cps ++ y.cps).toList.all fun c => decide (c < 1114112)) = true
  rw [Array.toList_append, List.all_append, hx, hy]
  rfl
theorem from_ok : ∀ (ts : List Str) (k : Nat) (acc : Str), PyData.strOk acc = true → (∀ t ∈ ts, PyData.strOk t = true) → PyData.strOk (textFrom k acc ts) = true
  | [], _, _, h, _ => h
  | t :: r, k, acc, h, ht => by
    show PyData.strOk (textFrom (k + 1) (acc ++ (if k > 0 then ", " else "" : String) ++ t) r) = true
    refine from_ok r (k + 1) _ (sapp_ok (sapp_ok h ?_) (ht t List.mem_cons_self)) fun x hx => ht x (.tail _ hx)
    split <;> exact ofS_ok _
theorem sjoin_ok {z : Str} (hz : PyData.strOk z = true) : ∀ ws : List Str, (∀ w ∈ ws, PyData.strOk w = true) → PyData.strOk (Str.join z ws) = true := by
  intro ws h
  rw [← TL.join_eq]
  induction ws with
  | nil => rw [tj_nil]; exact ofS_ok ""
  | cons x r ih =>
    cases r with
    | nil => rw [tj_one]; exact h x List.mem_cons_self
    | cons y r =>
      rw [tj_cons]
      exact sapp_ok (sapp_ok (h x List.mem_cons_self) hz) (ih fun w hw => h w (.tail _ hw))
mutual
theorem shown_ok : (d : D) → (n : Nat) → d.ok n = true → PyData.strOk d.py.shown = true
  | .non, _, _ => by decide +kernel
  | .bl b, _, _ => by cases b <;> decide +kernel
  | .int i, _, _ => ofS_ok (toString i)
  | .str x, n, h => repr_ok (by cases n <;> simpa [D.ok] using h)
  | .tup xs, n, h => by
    cases n with
    | zero => simp [D.ok] at h
    | succ n =>
      have := shownAll_ok xs n (by simpa [D.ok] using h)
      show PyData.strOk (tupleText (PyData.shownAll (D.pys xs))) = true
      unfold tupleText
      refine sapp_ok (sapp_ok (ofS_ok _) (sjoin_ok (ofS_ok _) _ this)) ?_
      split <;> exact ofS_ok _
  | .lst xs, n, h => by
    cases n with
    | zero => simp [D.ok] at h
    | succ n =>
      have := shownAll_ok xs n (by simpa [D.ok] using h)
      show PyData.strOk (listText (PyData.shownAll (D.pys xs))) = true
      unfold listText
      exact sapp_ok (from_ok _ _ _ (ofS_ok _) this) (ofS_ok _)
  | .ty _, n, h => by cases n <;> simp [D.ok] at h
  | .glo _, n, h => by cases n <;> simp [D.ok] at h
  | .ins _ _, n, h => by cases n <;> simp [D.ok] at h
  | .dic _, n, h => by cases n <;> simp [D.ok] at h
  | .tdc _, n, h => by cases n <;> simp [D.ok] at h
  | .exn _ _, n, h => by cases n <;> simp [D.ok] at h
theorem shownAll_ok : (ds : List D) → (n : Nat) → D.oks n ds = true → ∀ t ∈ PyData.shownAll (D.pys ds), PyData.strOk t = true
  | [], _, _ => by intro t ht; simp [D.pys, PyData.shownAll] at ht
  | d :: ds, n, h => by
    have h : d.ok n = true ∧ D.oks n ds = true := by simpa [D.oks] using h
    intro t ht
    simp only [D.pys, PyData.shownAll, List.mem_cons] at ht
    rcases ht with rfl | ht
    · exact shown_ok d n h.1
    · exact shownAll_ok ds n h.2 t ht
end
end DL
set_option maxHeartbeats 4000000
namespace DL
open PySem PyProof.Rows L2
@[simp] theorem q_raise0 (c : Str) (s : S) : sRaise0 c s = .exc c [] s := rfl
theorem sg_len {i : Int} (h : i.natAbs < 10 ^ 31) : (PyData.shown (.int i)).length ≤ 32 := by
  have e := int_text_length_le10 (k := 31) (by decide) h
  show (Str.ofString (toString i)).length ≤ 32
  rw [PySem.ofString_length]; exact e
theorem sg_int {i : Int} (h1 : -1000000000000000000000000000000 ≤ i) (h2 : i ≤ 1000000000000000000000000000000) : (PyData.shown (.int i)).length ≤ 40 := by
  have h : (PyData.shown (.int i)).length ≤ 32 := sg_len (by
    have e : (10 : Nat) ^ 31 = 10000000000000000000000000000000 := by decide
    rw [e]
    omega)
  omega
mutual
def D.sg : Nat → D → Bool
  | _, .non => true
  | _, .bl _ => true
  | _, .int i => decide (-1000000000000000000000000000000 ≤ i) && decide (i ≤ 1000000000000000000000000000000)
  | _, .str x => x.cps.toList.all fun c => decide (c < 1114112)
  | n + 1, .tup xs => D.sgs n xs
  | n + 1, .lst xs => D.sgs n xs
  | _, _ => false
def D.sgs : Nat → List D → Bool
  | _, [] => true
  | n, x :: xs => D.sg n x && D.sgs n xs
end
mutual
theorem sg_ok : (d : D) → (n m : Nat) → n ≤ m → d.sg n = true → d.ok m = true ∧ d.py.showable = true ∧ d.py.leavesShort 40 = true ∧ d.py.bulk = d.bk
  | .non, n, m, hm, h => by cases m <;> exact ⟨by simp [D.ok], rfl, rfl, rfl⟩
  | .bl b, n, m, hm, h => by
    cases m <;> exact ⟨by simp [D.ok], rfl, by simp [D.py, PyData.leavesShort], rfl⟩
  | .int i, n, m, hm, h => by
    have h' : -1000000000000000000000000000000 ≤ i ∧ i ≤ 1000000000000000000000000000000 := by cases n <;> simpa [D.sg] using h
    have h2 : (PyData.shown (.int i)).length ≤ 40 := sg_int h'.1 h'.2
    have h3 : i.natAbs.log2 < 1920 := by
      have : i.natAbs < 2 ^ 1920 := Nat.lt_of_lt_of_le (by omega : i.natAbs < 2 ^ 128) (Nat.pow_le_pow_right (by decide) (by decide))
      by_cases hz : i.natAbs = 0
      · rw [hz]; decide
      · exact (Nat.log2_lt hz).mpr this
    cases m <;> exact ⟨by simp [D.ok], by simp [D.py, PyData.showable, h3], by simp [D.py, PyData.leavesShort, h2], rfl⟩
  | .str x, n, m, hm, h => by
    have h' : (x.cps.toList.all fun c => decide (c < 1114112)) = true := by cases n <;> simpa only [D.sg] using h
    have h2 := strOk_of h'
    have h3 : ∀ c ∈ x.cps.toList, c < 16 ^ 8 := fun c hc => by
      have := List.all_eq_true.mp h' c hc
      simp at this
      omega
    cases m <;> exact ⟨by simp [D.ok, h2], rfl, by simp only [D.py, PyData.leavesShort, List.all_eq_true, decide_eq_true_eq]; exact h3, rfl⟩
  | .tup xs, n, m, hm, h => by
    cases n with
    | zero => simp [D.sg] at h
    | succ n =>
      cases m with
      | zero => omega
      | succ m =>
        obtain ⟨a, b, c, d⟩ := sgs_ok xs n m (by omega) (by simpa [D.sg] using h)
        exact ⟨by simpa [D.ok] using a, by simpa [D.py, PyData.showable] using b, by simpa [D.py, PyData.leavesShort] using c, by simpa [D.py, PyData.bulk, D.bk] using d⟩
  | .lst xs, n, m, hm, h => by
    cases n with
    | zero => simp [D.sg] at h
    | succ n =>
      cases m with
      | zero => omega
      | succ m =>
        obtain ⟨a, b, c, d⟩ := sgs_ok xs n m (by omega) (by simpa [D.sg] using h)
        exact ⟨by simpa [D.ok] using a, by simpa [D.py, PyData.showable] using b, by simpa [D.py, PyData.leavesShort] using c, by simpa [D.py, PyData.bulk, D.bk] using d⟩
  | .ty _, n, m, hm, h => by cases n <;> simp [D.sg] at h
  | .glo _, n, m, hm, h => by cases n <;> simp [D.sg] at h
  | .ins _ _, n, m, hm, h => by cases n <;> simp [D.sg] at h
  | .dic _, n, m, hm, h => by cases n <;> simp [D.sg] at h
theorem sgs_ok : (ds : List D) → (n m : Nat) → n ≤ m → D.sgs n ds = true → D.oks m ds = true ∧ PyData.showableAll (D.pys ds) = true ∧ PyData.leavesShortAll 40 (D.pys ds) = true ∧ PyData.bulkAll (D.pys ds) = D.bks ds
  | [], n, m, hm, h => by simp [D.oks, D.pys, PyData.showableAll, PyData.leavesShortAll, PyData.bulkAll, D.bks]
  | x :: xs, n, m, hm, h => by
    have h' : x.sg n = true ∧ D.sgs n xs = true := by simpa [D.sgs] using h
    obtain ⟨a, b, c, d⟩ := sg_ok x n m hm h'.1
    obtain ⟨a', b', c', d'⟩ := sgs_ok xs n m hm h'.2
    exact ⟨by simp [D.oks, a, a'], by simp [D.pys, PyData.showableAll, b, b'], by simp [D.pys, PyData.leavesShortAll, c, c'], by simp [D.pys, PyData.bulkAll, D.bks, d, d']⟩
end
theorem repr_sg {d : D} (h : d.sg 10 = true) (hb : d.bk ≤ 20000) : reprC [d] = some (.str d.py.shown) := by
  obtain ⟨h1, h2, h3, h4⟩ := sg_ok d 10 10 (by decide) h
  have h5 := PyData.shown_le_bulk 40 (by decide) d.py h3
  have h6 : d.py.shown.length ≤ LN := by
    rw [h4] at h5
    simp only [LN]
    omega
  simp only [reprC, h1, h2, h6, decide_true, Bool.and_true, if_true]
theorem reprZ_sg {d : D} (h : d.sg 10 = true) (hb : d.bk ≤ 20000) : reprZ [d] = some (.str d.py.shown) := by
  rw [← repr_sg h hb]
  cases d with
  | dic kvs => exfalso; simp [D.sg] at h
  | _ => rfl
end DL
set_option maxHeartbeats 4000000
namespace Wk
open PySem PySem.Spec PyProof.Rows L2 DL
def cls : List PySem.Str := []
def csX : List PySem.Str := ["Broken", "InUse", "InvalidChanges", "InvalidChoice", "InvalidClaim", "InvalidFunctions", "InvalidName", "InvalidNumber", "InvalidPart", "InvalidPlace", "InvalidRules", "InvalidSeen", "InvalidSite", "InvalidText", "InvalidWish", "NotAProgram", "NotARule", "NotOpen", "NothingToUndo", "OverBudget", "TooMany", "UnknownName"]
def nsX : List PySem.Str := ["Broken", "CannotBe", "InUse", "InvalidChanges", "InvalidChoice", "InvalidClaim", "InvalidFunctions", "InvalidName", "InvalidNumber", "InvalidPart", "InvalidPlace", "InvalidRules", "InvalidSeen", "InvalidSite", "InvalidText", "InvalidWish", "NotAProgram", "NotARule", "NotOpen", "NotRight", "NotThere", "NothingToUndo", "OverBudget", "TooMany", "UnknownName"]
def tsX : List String := ["ArithmeticError", "IndexError", "KeyError", "LookupError", "ValueError", "ZeroDivisionError"]
def b__law_given : S → Out := (sSeq (sSet 1 (eLst (aCons (eEx "InvalidText" "given" (eVar 0)) (aCons (eEx "InvalidPart" "given" (eVar 0)) (aCons (eEx "InvalidNumber" "given" (eVar 0)) (aCons (eEx "InvalidSite" "given" (eVar 0)) (mret [])))))))
  (sSeq (sSet 1 (bin addD (eVar 1) (eLst (aCons (eEx "InvalidChoice" "given" (eVar 0)) (aCons (eEx "InvalidName" "given" (eVar 0)) (aCons (eEx "InvalidWish" "given" (eVar 0)) (aCons (eEx "InvalidClaim" "given" (eVar 0)) (mret []))))))))
  (sSeq (sSet 1 (bin addD (eVar 1) (eLst (aCons (eEx "InvalidPlace" "given" (eVar 0)) (aCons (eEx "NotAProgram" "given" (eVar 0)) (aCons (eEx "NotARule" "given" (eVar 0)) (aCons (eEx "InvalidFunctions" "index" (eVar 0)) (mret []))))))))
  (sSeq (sSet 1 (bin addD (eVar 1) (eLst (aCons (eEx "InvalidRules" "index" (eVar 0)) (aCons (eEx "InvalidSeen" "index" (eVar 0)) (aCons (eEx "InvalidChanges" "index" (eVar 0)) (aCons (eEx "UnknownName" "given" (eVar 0)) (mret []))))))))
  (sSeq (sSet 1 (bin addD (eVar 1) (eLst (aCons (eEx "InUse" "index" (eVar 0)) (aCons (eEx "NotOpen" "given" (eVar 0)) (aCons (eEx "TooMany" "most" (eVar 0)) (aCons (eEx "OverBudget" "most" (eVar 0)) (aCons (eEx0 "NothingToUndo") (mret [])))))))))
  (sSeq (sSet 1 (bin addD (eVar 1) (eLst (aCons (eEx2 "Broken" "index" "shown" (eVar 0) (mret (.int 7))) (mret [])))))
  (sSeq (sSet 2 (eLst (aCons (eEx "InvalidText" "given" (eVar 0)) (aCons (eEx "InvalidPart" "given" (eVar 0)) (aCons (eEx "InvalidNumber" "given" (eVar 0)) (mret []))))))
  (sSeq (sSet 2 (bin addD (eVar 2) (eLst (aCons (eEx "InvalidSite" "given" (eVar 0)) (aCons (eEx "InvalidChoice" "given" (eVar 0)) (aCons (eEx "InvalidName" "given" (eVar 0)) (mret [])))))))
  (sSeq (sSet 2 (bin addD (eVar 2) (eLst (aCons (eEx "InvalidWish" "given" (eVar 0)) (aCons (eEx "InvalidClaim" "given" (eVar 0)) (aCons (eEx "InvalidPlace" "given" (eVar 0)) (mret [])))))))
  (sSeq (sSet 2 (bin addD (eVar 2) (eLst (aCons (eEx "NotAProgram" "given" (eVar 0)) (aCons (eEx "NotARule" "given" (eVar 0)) (aCons (eEx "InvalidFunctions" "index" (eVar 0)) (mret [])))))))
  (sSeq (sSet 2 (bin addD (eVar 2) (eLst (aCons (eEx "InvalidRules" "index" (eVar 0)) (aCons (eEx "InvalidSeen" "index" (eVar 0)) (aCons (eEx "InvalidChanges" "index" (eVar 0)) (mret [])))))))
  (sSeq (sSet 2 (bin addD (eVar 2) (eLst (aCons (eEx "UnknownName" "given" (eVar 0)) (aCons (eEx "InUse" "index" (eVar 0)) (aCons (eEx "NotOpen" "given" (eVar 0)) (aCons (eEx "TooMany" "most" (eVar 0)) (mret []))))))))
  (sSeq (sSet 2 (bin addD (eVar 2) (eLst (aCons (eEx "OverBudget" "most" (eVar 0)) (aCons (eEx0 "NothingToUndo") (aCons (eEx2K "Broken" "index" "shown" (eVar 0) (mret (.int 7))) (mret [])))))))
  (sRetO (oLst (aCons (eVar 1) (aCons (eVar 2) (mret []))))))))))))))))))
def r__law_given : Fn := bodyFn 3 b__law_given
def b__law_raised_right : S → Out := (sSeq (sSetO 1 (oLst (mret [])))
  (sSeq (sTryR "InvalidText" "given" 2 (eVar 0) (sApp 1 (cal reprZ (aCons (eXf csX "given" (eVar 2)) (mret [])))))
  (sSeq (sTryR "UnknownName" "given" 2 (eVar 0) (sApp 1 (cal reprZ (aCons (eXf csX "given" (eVar 2)) (mret [])))))
  (sSeq (sTryR2 "Broken" "index" "shown" 2 (eVar 0) (mret (.int 3)) (sApp 1 (cal reprZ (aCons (eXf csX "index" (eVar 2)) (mret [])))))
  (sRet (bin eqD (eVar 1) (bin mulD (eLst (aCons (cal reprZ (aCons (eVar 0) (mret []))) (mret []))) (mret (.int 3)))))))))
def r__law_raised_right : Fn := bodyFn 3 b__law_raised_right
def b__law_kept_right : S → Out := (sSeq (frzO 2 (sSetO 2 (oLc [4] (iOf (eLst (aCons (mret (.int 0)) (aCons (mret (.int 1)) (aCons (mret (.int 2)) (aCons (mret (.int 3)) (aCons (mret (.int 4)) (aCons (mret (.int 5)) (aCons (mret (.int 6)) (aCons (mret (.int 7)) (aCons (mret (.int 8)) (aCons (mret (.int 9)) (aCons (mret (.int 10)) (aCons (mret (.int 15)) (aCons (mret (.int 17)) (mret [])))))))))))))))) (.nm 4) mYes (eXf csX "given" (bin atD (eVar 0) (eVar 4))))))
  (sSeq (sSet 2 (bin addD (eVar 2) (eLc [4] (iOf (eLst (aCons (mret (.int 11)) (aCons (mret (.int 12)) (aCons (mret (.int 13)) (aCons (mret (.int 14)) (aCons (mret (.int 16)) (mret [])))))))) (.nm 4) mYes (eXf csX "index" (bin atD (eVar 0) (eVar 4))))))
  (sSeq (sSet 2 (bin addD (eVar 2) (eLc [4] (iOf (eLst (aCons (mret (.int 18)) (aCons (mret (.int 19)) (mret []))))) (.nm 4) mYes (eXf csX "most" (bin atD (eVar 0) (eVar 4))))))
  (sSeq (sSet 3 (bin atD (eVar 0) (mret (.int 21))))
  (sRet (eAnd (bin eqD (cal reprZ (aCons (eVar 2) (mret []))) (cal reprZ (aCons (bin mulD (eLst (aCons (eVar 1) (mret []))) (cal lenC (aCons (eVar 2) (mret [])))) (mret [])))) (bin eqD (cal reprZ (aCons (eLst (aCons (eXf csX "index" (eVar 3)) (aCons (eXf csX "shown" (eVar 3)) (mret [])))) (mret []))) (cal reprZ (aCons (eLst (aCons (eVar 1) (aCons (mret (.int 7)) (mret [])))) (mret []))))))))))
def r__law_kept_right : Fn := bodyFn 5 b__law_kept_right
def b__law_sorts : S → Out := (sSeq (sSet 1 (eLst (aCons (cal (isEC csX nsX tsX) (aCons (eVar 0) (aCons (mret (.glo "InvalidText")) (mret [])))) (aCons (cal (isEC csX nsX tsX) (aCons (eVar 0) (aCons (mret (.glo "InvalidPart")) (mret [])))) (aCons (cal (isEC csX nsX tsX) (aCons (eVar 0) (aCons (mret (.glo "InvalidNumber")) (mret [])))) (mret []))))))
  (sSeq (sSet 1 (bin addD (eVar 1) (eLst (aCons (cal (isEC csX nsX tsX) (aCons (eVar 0) (aCons (mret (.glo "InvalidSite")) (mret [])))) (aCons (cal (isEC csX nsX tsX) (aCons (eVar 0) (aCons (mret (.glo "InvalidChoice")) (mret [])))) (aCons (cal (isEC csX nsX tsX) (aCons (eVar 0) (aCons (mret (.glo "InvalidName")) (mret [])))) (mret [])))))))
  (sSeq (sSet 1 (bin addD (eVar 1) (eLst (aCons (cal (isEC csX nsX tsX) (aCons (eVar 0) (aCons (mret (.glo "InvalidWish")) (mret [])))) (aCons (cal (isEC csX nsX tsX) (aCons (eVar 0) (aCons (mret (.glo "InvalidClaim")) (mret [])))) (aCons (cal (isEC csX nsX tsX) (aCons (eVar 0) (aCons (mret (.glo "InvalidPlace")) (mret [])))) (mret [])))))))
  (sSeq (sSet 1 (bin addD (eVar 1) (eLst (aCons (cal (isEC csX nsX tsX) (aCons (eVar 0) (aCons (mret (.glo "NotAProgram")) (mret [])))) (aCons (cal (isEC csX nsX tsX) (aCons (eVar 0) (aCons (mret (.glo "NotARule")) (mret [])))) (aCons (cal (isEC csX nsX tsX) (aCons (eVar 0) (aCons (mret (.glo "InvalidFunctions")) (mret [])))) (mret [])))))))
  (sSeq (sSet 1 (bin addD (eVar 1) (eLst (aCons (cal (isEC csX nsX tsX) (aCons (eVar 0) (aCons (mret (.glo "InvalidRules")) (mret [])))) (aCons (cal (isEC csX nsX tsX) (aCons (eVar 0) (aCons (mret (.glo "InvalidSeen")) (mret [])))) (aCons (cal (isEC csX nsX tsX) (aCons (eVar 0) (aCons (mret (.glo "InvalidChanges")) (mret [])))) (mret [])))))))
  (sSeq (sSet 1 (bin addD (eVar 1) (eLst (aCons (cal (isEC csX nsX tsX) (aCons (eVar 0) (aCons (mret (.glo "UnknownName")) (mret [])))) (aCons (cal (isEC csX nsX tsX) (aCons (eVar 0) (aCons (mret (.glo "InUse")) (mret [])))) (aCons (cal (isEC csX nsX tsX) (aCons (eVar 0) (aCons (mret (.glo "NotOpen")) (mret [])))) (mret [])))))))
  (sSeq (sSet 1 (bin addD (eVar 1) (eLst (aCons (cal (isEC csX nsX tsX) (aCons (eVar 0) (aCons (mret (.glo "TooMany")) (mret [])))) (aCons (cal (isEC csX nsX tsX) (aCons (eVar 0) (aCons (mret (.glo "OverBudget")) (mret [])))) (aCons (cal (isEC csX nsX tsX) (aCons (eVar 0) (aCons (mret (.glo "NothingToUndo")) (mret [])))) (mret [])))))))
  (sSeq (sSet 1 (bin addD (eVar 1) (eLst (aCons (cal (isEC csX nsX tsX) (aCons (eVar 0) (aCons (mret (.glo "Broken")) (mret [])))) (mret [])))))
  (sRet (eVar 1))))))))))
def r__law_sorts : Fn := bodyFn 2 b__law_sorts
def b__law_bases : S → Out := (sSeq (sSet 1 (eLst (aCons (cal (isEC csX nsX tsX) (aCons (eVar 0) (aCons (mret (.glo "NotRight")) (mret [])))) (aCons (cal (isEC csX nsX tsX) (aCons (eVar 0) (aCons (mret (.glo "NotThere")) (mret [])))) (aCons (cal (isEC csX nsX tsX) (aCons (eVar 0) (aCons (mret (.glo "CannotBe")) (mret [])))) (mret []))))))
  (sSeq (sSet 1 (bin addD (eVar 1) (eLst (aCons (cal (isEC csX nsX tsX) (aCons (eVar 0) (aCons (mret (.ty "ValueError")) (mret [])))) (aCons (cal (isEC csX nsX tsX) (aCons (eVar 0) (aCons (mret (.ty "LookupError")) (mret [])))) (aCons (cal (isEC csX nsX tsX) (aCons (eVar 0) (aCons (mret (.ty "ArithmeticError")) (mret [])))) (mret [])))))))
  (sRet (bin addD (eVar 1) (eLst (aCons (cal (isEC csX nsX tsX) (aCons (eVar 0) (aCons (mret (.ty "KeyError")) (mret [])))) (aCons (cal (isEC csX nsX tsX) (aCons (eVar 0) (aCons (mret (.ty "IndexError")) (mret [])))) (aCons (cal (isEC csX nsX tsX) (aCons (eVar 0) (aCons (mret (.ty "ZeroDivisionError")) (mret [])))) (mret [])))))))))
def r__law_bases : Fn := bodyFn 2 b__law_bases
def b__law_due : S → Out := (sSeq (sPar [2, 3] (rsVal (bin (cmpI fun i j => decide (i < j)) (eVar 0) (mret (.int 15))) (rsVal (chain (cmpI fun i j => decide (i < j)) (cmpI fun i j => decide (i < j)) (mret (.int 14)) (eVar 0) (mret (.int 18))) (mret []))))
  (sSeq (sSet 1 (eAnd (un notD (eVar 2)) (un notD (eVar 3))))
  (sRet (bin addD (bin mulD (eLst (aCons (eVar 2) (aCons (eVar 3) (aCons (eVar 1) (mret []))))) (mret (.int 2))) (bin mulD (eLst (aCons (mret (.bl false)) (mret []))) (mret (.int 3)))))))
def r__law_due : Fn := bodyFn 4 b__law_due
def b__law_right_2 : S → Out := (sSeq (frzO 3 (sSetO 3 (oLc [4] (iRng rng1 (aCons (cal lenC (aCons (eVar 1) (mret []))) (mret []))) (.nm 4) mYes (bin eqD (eVar 4) (eVar 2)))))
  (sIf (tOrB (asB (bin neD (rD (mCall 1 r__law_sorts [] (gVal (bin atD (eVar 1) (eVar 2)) (mret [])))) (eVar 3))) (asB (bin neD (rD (mCall 1 r__law_bases [] (gVal (bin atD (eVar 1) (eVar 2)) (mret [])))) (rD (mCall 1 r__law_due [] (gVal (eVar 2) (mret []))))))) (sRet (mret (.bl false))) sNx))
def b__law_right_1 : S → Out := (sSeq (sForW [2, 3] (iRng rng1 (aCons (cal lenC (aCons (eVar 1) (mret []))) (mret []))) (.nm 2) b__law_right_2)
  (sIf (tNotB (tru (rD (mCall 2 r__law_kept_right [] (gVal (eVar 1) (gVal (eVar 0) (mret []))))))) (sRet (mret (.bl false))) sNx))
def b__law_right : S → Out := (sSeq (sForW [1, 2, 3] (iOf (rD (mCall 1 r__law_given [] (gVal (eVar 0) (mret []))))) (.nm 1) b__law_right_1)
  (sRetR (mCall 1 r__law_raised_right [] (gVal (eVar 0) (mret [])))))
def r__law_right : Fn := bodyFn 5 b__law_right
def b_law : S → Out := (sSeq (sSet 1 (eLst (aCons (mret (.int 6)) (aCons (mret (.int 50)) (aCons (mret (.int 4)) (aCons (mret (.int 9)) (aCons (mret (.int 60)) (aCons (mret (.int 4)) (aCons (mret (.int (1000000000000000000000000000000))) (mret []))))))))))
  (sSeq (sSet 1 (bin addD (eVar 1) (eLst (aCons (mret (.int 60)) (aCons (mret (.int 400)) (aCons (mret (.int 5)) (aCons (mret (.int 5)) (mret []))))))))
  (sSeq (sIf (asB (bin neD (eVar 1) (eLst (aCons (mret (.int 6)) (aCons (mret (.int 50)) (aCons (mret (.int 4)) (aCons (mret (.int 9)) (aCons (mret (.int 60)) (aCons (mret (.int 4)) (aCons (bin powD (mret (.int 10)) (mret (.int 30))) (aCons (mret (.int 60)) (aCons (mret (.int 400)) (aCons (mret (.int 5)) (aCons (mret (.int 5)) (mret []))))))))))))))) (sRet (mret (.bl false))) sNx)
  (sSeq (sSet 2 (bin addD (eLst (aCons (mret .non) (aCons (mret (.str "a")) (aCons (eTup (aCons (mret (.int 1)) (aCons (mret (.str "x")) (mret [])))) (aCons (mret (.bl true)) (aCons (un negD (mret (.int 3))) (mret []))))))) (eLc [3] (iOf (slice (eVar 0) (mret none) (pSome (mret (.int 3))))) (.nm 3) mYes (bin modD (cal intC (aCons (eVar 3) (mret []))) (bin powD (mret (.int 10)) (mret (.int 12)))))))
  (sRet (bin eqD (eLc [4] (iOf (eVar 2)) (.nm 4) (tNotB (tru (rD (mCall 1 r__law_right [] (gVal (eVar 4) (mret [])))))) (eVar 4)) (eLst (mret []))))))))
def r_law : Fn := bodyFn 5 b_law
end Wk
set_option maxHeartbeats 4000000
namespace Wk
open PySem PyProof.Rows L2 DL
theorem wipeL_set (vs : List Nat) (x : Sl) : ∀ (l : List Sl) (k i : Nat), vs.contains (k + i) = true → wipeL vs k (l.set i x) = wipeL vs k l
  | [], _, _, _ => rfl
  | y :: r, k, 0, h => by
    have h : vs.contains k = true := h
    simp only [List.set_cons_zero, wipeL, h, if_true]
  | y :: r, k, i + 1, h => by
    simp only [List.set_cons_succ, wipeL]
    rw [wipeL_set vs x r (k + 1) i (by rw [show k + 1 + i = k + (i + 1) by omega]; exact h)]
theorem ioLt_set {n : Nat} {x : Sl} (hx : ∀ j, x ≠ .io j) : ∀ {l : List Sl} {i : Nat}, ioLt n l = true → ioLt n (l.set i x) = true
  | [], _, h => h
  | y :: r, 0, h => by
    rw [List.set_cons_zero]
    have : ioLt n r = true := by
      cases y <;> simp only [ioLt, Bool.and_eq_true] at h <;> first | exact h | exact h.2
    cases x <;> first | exact absurd rfl (hx _) | exact this
  | y :: r, i + 1, h => by
    rw [List.set_cons_succ]
    cases y with
    | io j =>
      simp only [ioLt, Bool.and_eq_true] at h ⊢
      exact ⟨h.1, ioLt_set hx h.2⟩
    | _ => exact ioLt_set (n := n) hx (show ioLt n r = true from h)
section
variable {α : Type} {fi : M (List D)} {t : M Bool} {fe : M D} {sl : List Sl} {io : List Cell}
theorem lc1 {i : Nat} (xs : List α) (e g : α → D) (q : α → Bool) (hfi : fi ⟨sl, io⟩ = .ok (xs.map e) ⟨sl, io⟩) (hl : xs.length ≤ LN) (h0 : ioLt io.length sl = true) (hw : wipeL [i] 0 sl = sl) (hb : backL [i] 0 sl sl = sl)
    (ht : ∀ x ∈ xs, ∀ c, t ⟨sl.set i (.val (e x)), io ++ [c]⟩ = .ok (q x) ⟨sl.set i (.val (e x)), io ++ [c]⟩) (hf : ∀ x ∈ xs, q x = true → ∀ c, fe ⟨sl.set i (.val (e x)), io ++ [c]⟩ = .ok (g x) ⟨sl.set i (.val (e x)), io ++ [c]⟩) :
    eLcL [i] fi (.nm i) t fe ⟨sl, io⟩ = .ok ((xs.filter q).map g) ⟨sl, io⟩ :=
  eLcL_pure xs sl sl io (fun x => sl.set i (.val (e x))) q g hfi hl (fun x hx c => by rw [hw]; rfl) ht hf (fun x hx => wipeL_set _ _ _ _ _ (by simp)) h0 (fun x hx => ioLt_set (fun j h => by cases h) h0) (by rw [hw, hb])
theorem lc1a {i : Nat} (xs : List α) (e g : α → D) (hfi : fi ⟨sl, io⟩ = .ok (xs.map e) ⟨sl, io⟩) (hl : xs.length ≤ LN) (h0 : ioLt io.length sl = true) (hw : wipeL [i] 0 sl = sl) (hb : backL [i] 0 sl sl = sl)
    (hf : ∀ x ∈ xs, ∀ c, fe ⟨sl.set i (.val (e x)), io ++ [c]⟩ = .ok (g x) ⟨sl.set i (.val (e x)), io ++ [c]⟩) :
    eLcL [i] fi (.nm i) mYes fe ⟨sl, io⟩ = .ok (xs.map g) ⟨sl, io⟩ := by
  have := lc1 (t := mYes) (i := i) xs e g (fun _ => true) hfi hl h0 hw hb (fun _ _ _ => rfl) (fun x hx _ => hf x hx)
  rwa [List.filter_eq_self.mpr (fun _ _ => rfl)] at this
end
theorem bin_of {g : D → D → Option D} {fa fb : M D} {a b d : D} {s s1 s2 : S} (ha : fa s = .ok a s1) (hb : fb s1 = .ok b s2) (hg : g a b = some d) : DL.bin g fa fb s = .ok d s2 := by
  rw [q_bin, q_bind, ha]
  show mbind fb _ s1 = _
  rw [q_bind, hb]
  show mopt (g a b) s2 = _
  rw [hg]
  rfl
theorem call_rv {np : Nat} {r : Fn} {fs : M (List AV)} {as : List AV} {s s1 s2 : S} {v : RV} (h : fs s = .ok as s1) (hl : as.length = np) (hr : runFn r [] as s1 = .ok v s2) : mCall np r [] fs s = .ok v s2 := by
  rw [q_mCall, q_bind, h]
  show (if as.length + ([] : List D).length = np then runFn r [] as else fun _ => .bad) s1 = _
  rw [if_pos (by simpa using hl), hr]
theorem call_ok {np : Nat} {r : Fn} {fs : M (List AV)} {as : List AV} {s s1 s2 : S} {d : D} (h : fs s = .ok as s1) (hl : as.length = np) (hr : runFn r [] as s1 = .ok (.val d) s2) : rD (mCall np r [] fs) s = .ok d s2 := by
  rw [q_rD, q_bind, call_rv h hl hr]
  rfl
theorem gV_of {f : M D} {fs : M (List AV)} {d : D} {as : List AV} {s s1 s2 : S} (h : f s = .ok d s1) (h2 : fs s1 = .ok as s2) : gVal f fs s = .ok (.val d :: as) s2 := by
  rw [q_gVal, q_bind, h]
  show mbind fs _ s1 = _
  rw [q_bind, h2]
  rfl
theorem gV_s {f : M D} {fs : M (List AV)} {d : D} {as : List AV} {s : S} (h : f s = .ok d s) (h2 : fs s = .ok as s) : gVal f fs s = .ok (.val d :: as) s := gV_of h h2
theorem gN (s : S) : (mret [] : M (List AV)) s = .ok [] s := rfl
section
variable {vs : List Nat} {fi : M (List D)} {p : Pat} {t : M Bool} {fe : M D} {s s' : S} {L : List D} {b : Bool}
theorem lc_val (h : eLcL vs fi p t fe s = .ok L s') : eLc vs fi p t fe s = .ok (.lst L) s' := by rw [eLc, mbind, h]; rfl
/-- the comprehension is empty, or not -/
theorem lc_eq0 (h : eLcL vs fi p t fe s = .ok L s') (he : eqD (.lst L) (.lst []) = some (.bl b)) : DL.bin eqD (eLc vs fi p t fe) (eLst (mret [])) s = .ok (.bl b) s' := by
  have e0 : eLst (mret []) s' = .ok (.lst []) s' := by simp [eLst]
  show (eLc vs fi p t fe s).bind (fun a => mbind (eLst (mret [])) fun b => mopt (eqD a b)) = _
  rw [lc_val h]
  show (eLst (mret []) s').bind (fun b => mopt (eqD (.lst L) b)) = _
  rw [e0]
  show mopt (eqD (.lst L) (.lst [])) s' = _
  rw [he]
  rfl
theorem tru_bl {f : M D} (h : f s = .ok (.bl b) s') : tru f s = .ok b s' := by simp [tru, h]
theorem sRet_ok {f : M D} {d : D} (h : f s = .ok d s') : sRet f s = .rt (.val d) s' := by simp [sRet, h]
theorem ifN {T : M Bool} {A B : S → Out} {s1 : S} {o : Out} (h : T s = .ok false s1) (k : B s1 = o) : sIf T A B s = o := by
  rw [q_if, q_sOf, h]; exact k
theorem iOf_lst {f : M D} (h : f s = .ok (.lst L) s') : iOf f s = .ok L s' := by simp [iOf, h]
theorem sSet_val {f : M D} {d : D} {i : Nat} (h : f s = .ok d s') : sSet i f s = .nx (s'.put i (.val d)) := by simp [sSet, h]
end
theorem notB_of {t : M Bool} {b : Bool} {s s' : S} (h : t s = .ok b s') : tNotB t s = .ok (!b) s' := by simp [tNotB, h]
/-- the classes of one field, in the law's order, with the field -/
def ecs : List (Str × Str) := [("InvalidText", "given"), ("InvalidPart", "given"), ("InvalidNumber", "given"), ("InvalidSite", "given"), ("InvalidChoice", "given"), ("InvalidName", "given"), ("InvalidWish", "given"), ("InvalidClaim", "given"), ("InvalidPlace", "given"), ("NotAProgram", "given"), ("NotARule", "given"),
  ("InvalidFunctions", "index"), ("InvalidRules", "index"), ("InvalidSeen", "index"), ("InvalidChanges", "index"), ("UnknownName", "given"), ("InUse", "index"), ("NotOpen", "given"), ("TooMany", "most"), ("OverBudget", "most")]
def erL (d : D) : List D := ecs.map (fun p => .exn p.1 [(p.2, d)]) ++ [.exn "NothingToUndo" [], .exn "Broken" [("shown", .int 7), ("index", d)]]
theorem given_t (d : D) : r__law_given [.val d] [] = .rt (.own (.lst [.lst (erL d), .lst (erL d)])) [] := by kernel_rfl
abbrev Sr (d E : D) (x2 x3 : Sl) : S := ⟨[.val d, .val E, x2, x3, .no], []⟩
theorem loop_t (d : D) : sForW [2, 3] (iRng rng1 (aCons (cal lenC (aCons (eVar 1) (mret []))) (mret []))) (.nm 2) b__law_right_2 (Sr d (.lst (erL d)) .no .no) = .nx (Sr d (.lst (erL d)) .no .no) := by kernel_rfl
/-- what is known of a thing: its text -/
structure Th (d : D) (z : Str) : Prop where
  z1 : reprZ [d] = some (.str z)
  zk : PyData.strOk z = true
  z2 : ∃ y, reprZ [.lst (List.replicate 20 d)] = some (.str y) ∧ PyData.strOk y = true
  z3 : ∃ y, reprZ [.lst [d, .int 7]] = some (.str y) ∧ PyData.strOk y = true
  xf : d.xf = true
theorem eq_str {z : Str} (h : PyData.strOk z = true) : eqD (.str z) (.str z) = some (.bl true) := by
  have k : (D.str z).ok 10 = true := h
  rw [eqD_ok k k]
  simp [D.py]
section
variable {d : D} {z : Str}
abbrev Sk (d : D) (x2 x3 : Sl) : S := ⟨[.val (.lst (erL d)), .val d, x2, x3, .no], []⟩
def kr5 : S → Out := sRet (eAnd (DL.bin eqD (cal reprZ (aCons (eVar 2) (mret []))) (cal reprZ (aCons (DL.bin mulD (eLst (aCons (eVar 1) (mret []))) (cal lenC (aCons (eVar 2) (mret [])))) (mret [])))) (DL.bin eqD (cal reprZ (aCons (eLst (aCons (eXf csX "index" (eVar 3)) (aCons (eXf csX "shown" (eVar 3)) (mret [])))) (mret []))) (cal reprZ (aCons (eLst (aCons (eVar 1) (aCons (mret (.int 7)) (mret [])))) (mret [])))))
def kr1 : S → Out := (frzO 2 (sSetO 2 (oLc [4] (iOf (eLst (aCons (mret (.int 0)) (aCons (mret (.int 1)) (aCons (mret (.int 2)) (aCons (mret (.int 3)) (aCons (mret (.int 4)) (aCons (mret (.int 5)) (aCons (mret (.int 6)) (aCons (mret (.int 7)) (aCons (mret (.int 8)) (aCons (mret (.int 9)) (aCons (mret (.int 10)) (aCons (mret (.int 15)) (aCons (mret (.int 17)) (mret [])))))))))))))))) (.nm 4) mYes (eXf csX "given" (DL.bin atD (eVar 0) (eVar 4))))))
def kr2 : S → Out := (sSet 2 (DL.bin addD (eVar 2) (eLc [4] (iOf (eLst (aCons (mret (.int 11)) (aCons (mret (.int 12)) (aCons (mret (.int 13)) (aCons (mret (.int 14)) (aCons (mret (.int 16)) (mret [])))))))) (.nm 4) mYes (eXf csX "index" (DL.bin atD (eVar 0) (eVar 4))))))
def kr3 : S → Out := (sSet 2 (DL.bin addD (eVar 2) (eLc [4] (iOf (eLst (aCons (mret (.int 18)) (aCons (mret (.int 19)) (mret []))))) (.nm 4) mYes (eXf csX "most" (DL.bin atD (eVar 0) (eVar 4))))))
def kr4 : S → Out := (sSet 3 (DL.bin atD (eVar 0) (mret (.int 21))))
theorem kr_eq : b__law_kept_right = sSeq kr1 (sSeq kr2 (sSeq kr3 (sSeq kr4 kr5))) := rfl
theorem kr1_t (d : D) : kr1 (Sk d .no .no) = .nx (Sk d (.val (.lst (List.replicate 13 d))) .no) := by kernel_rfl
theorem kr2_t (d : D) : kr2 (Sk d (.val (.lst (List.replicate 13 d))) .no) = .nx (Sk d (.val (.lst (List.replicate 18 d))) .no) := by kernel_rfl
theorem kr3_t (d : D) : kr3 (Sk d (.val (.lst (List.replicate 18 d))) .no) = .nx (Sk d (.val (.lst (List.replicate 20 d))) .no) := by kernel_rfl
theorem kr4_t (d : D) : kr4 (Sk d (.val (.lst (List.replicate 20 d))) .no) = .nx (Sk d (.val (.lst (List.replicate 20 d))) (.val (.exn "Broken" [("shown", .int 7), ("index", d)]))) := by kernel_rfl
theorem kr5_t (h : Th d z) : kr5 (Sk d (.val (.lst (List.replicate 20 d))) (.val (.exn "Broken" [("shown", .int 7), ("index", d)]))) = .rt (.val (.bl true)) (Sk d (.val (.lst (List.replicate 20 d))) (.val (.exn "Broken" [("shown", .int 7), ("index", d)]))) := by
  obtain ⟨y, y2, yk⟩ := h.z2
  obtain ⟨x, x1, xk⟩ := h.z3
  have m1 : mulD (.lst [d]) (.int 20) = some (.lst (List.replicate 20 d)) := by kernel_rfl
  have l1 : lenC [.lst (List.replicate 20 d)] = some (.int 20) := by kernel_rfl
  have f1 : xfD csX "index" (.exn "Broken" [("shown", .int 7), ("index", d)]) = some d := by kernel_rfl
  have f2 : xfD csX "shown" (.exn "Broken" [("shown", .int 7), ("index", d)]) = some (.int 7) := by kernel_rfl
  have n1 : 1 ≤ LN := by decide
  have n2 : 2 ≤ LN := by decide
  have q1 := eq_str yk
  have q2 := eq_str xk
  generalize List.replicate 20 d = L at *
  generalize D.exn "Broken" [("shown", .int 7), ("index", d)] = e at *
  unfold kr5
  simp [eAnd, eXf, y2, x1, m1, l1, f1, f2, n1, n2, q1, q2]
theorem kept_t (h : Th d z) : r__law_kept_right [.val (.lst (erL d)), .val d] [] = .rt (.val (.bl true)) [] := by
  show bodyFn 5 b__law_kept_right _ _ = _
  rw [kr_eq]
  refine DL.fn_of (s1 := Sk d (.val (.lst (List.replicate 20 d))) (.val (.exn "Broken" [("shown", .int 7), ("index", d)]))) ?_
  exact seq_nx (kr1_t d) (seq_nx (kr2_t d) (seq_nx (kr3_t d) (seq_nx (kr4_t d) (kr5_t h))))
abbrev Sx1 (d : D) (L : List D) : S := ⟨[.val d, .own (.lst L), .no], []⟩
theorem app_t {c f : Str} {fs : List (Str × D)} (h : Th d z) (hx : xfD csX f (.exn c fs) = some d) {L : List D} (hL : L.length ≤ 100) (hl : D.xfs (L ++ [.str z]) = true) :
    catchS c 2 (sApp 1 (cal reprZ (aCons (eXf csX f (eVar 2)) (mret [])))) fs (Sx1 d L) = .nx (Sx1 d (L ++ [.str z])) := by
  have n1 : L.length < LN := Nat.lt_of_le_of_lt hL (by decide)
  have z1 := h.z1
  have xf := h.xf
  have e : sApp 1 (cal reprZ (aCons (eXf csX f (eVar 2)) (mret []))) ((Sx1 d L).put 2 (.val (.exn c fs))) = .nx ⟨[.val d, .own (.lst (L ++ [.str z])), .val (.exn c fs)], []⟩ := by
    generalize D.exn c fs = e at *
    simp [eXf, hx, z1, n1]
  unfold catchS
  rw [e]
  have x : xfS 2 (⟨[.val d, .own (.lst (L ++ [.str z])), .val (.exn c fs)], []⟩ : S) = true := by
    simp [xfS, slX, xf, Cell.xf, hl]
  simp only [x, if_true]
  rfl
theorem raised_t (h : Th d z) : r__law_raised_right [.val d] [] = .rt (.val (.bl true)) [] := by
  have n0 : 0 ≤ LN := by decide
  have n1 : 1 ≤ LN := by decide
  have s0 : sSetO 1 (oLst (mret [])) (⟨[.val d, .no, .no], []⟩ : S) = .nx (Sx1 d []) := by simp [n0]
  have s1 : sTryR "InvalidText" "given" 2 (eVar 0) (sApp 1 (cal reprZ (aCons (eXf csX "given" (eVar 2)) (mret [])))) (Sx1 d []) = .nx (Sx1 d [.str z]) := app_t (L := []) h (by kernel_rfl) (by decide) rfl
  have s2 : sTryR "UnknownName" "given" 2 (eVar 0) (sApp 1 (cal reprZ (aCons (eXf csX "given" (eVar 2)) (mret [])))) (Sx1 d [.str z]) = .nx (Sx1 d [.str z, .str z]) := app_t (L := [.str z]) h (by kernel_rfl) (by show 1 ≤ 100; decide) rfl
  have s3 : sTryR2 "Broken" "index" "shown" 2 (eVar 0) (mret (.int 3)) (sApp 1 (cal reprZ (aCons (eXf csX "index" (eVar 2)) (mret [])))) (Sx1 d [.str z, .str z]) = .nx (Sx1 d [.str z, .str z, .str z]) := app_t (L := [.str z, .str z]) h (by kernel_rfl) (by show 2 ≤ 100; decide) rfl
  have ok : (D.lst [.str z, .str z, .str z]).ok 10 = true := by
    have k : (D.str z).ok 9 = true := h.zk
    show ((D.str z).ok 9 && ((D.str z).ok 9 && ((D.str z).ok 9 && true))) = true
    rw [k]
    rfl
  have eq : eqD (.lst [.str z, .str z, .str z]) (.lst [.str z, .str z, .str z]) = some (.bl true) := by
    rw [eqD_ok ok ok]
    simp [D.py, D.pys]
  have mu : mulD (.lst [.str z]) (.int 3) = some (.lst [.str z, .str z, .str z]) := by kernel_rfl
  have z1 := h.z1
  refine DL.fn_of (s1 := ⟨[.val d, .val (.lst [.str z, .str z, .str z]), .no], []⟩) (seq_nx s0 (seq_nx s1 (seq_nx s2 (seq_nx s3 ?_))))
  have v1 : eVar 1 (Sx1 d [.str z, .str z, .str z]) = .ok (.lst [.str z, .str z, .str z]) ⟨[.val d, .val (.lst [.str z, .str z, .str z]), .no], []⟩ := rfl
  generalize [D.str z, .str z, .str z] = L at *
  refine sRet_ok (bin_of v1 (b := .lst L) ?_ eq)
  simp [z1, n1, mu]
theorem right_t (h : Th d z) (s : S) : runFn r__law_right [] [.val d] s = .ok (.val (.bl true)) s := run1 (io' := []) (by
  have kt := kept_t h
  have k : ∀ s, runFn r__law_kept_right [] [.val (.lst (erL d)), .val d] s = .ok (.val (.bl true)) s := fun s => run2 kt s
  have g : ∀ s, runFn r__law_given [] [.val d] s = .ok (.own (.lst [.lst (erL d), .lst (erL d)])) s := fun s => run1 (given_t d) s
  have r : ∀ s, runFn r__law_raised_right [] [.val d] s = .ok (.val (.bl true)) s := fun s => run1 (raised_t h) s
  have lt := loop_t d
  generalize erL d = E at *
  have b1 : b__law_right_1 (Sr d (.lst E) .no .no) = .nx (Sr d (.lst E) .no .no) :=
    seq_nx lt (ifN (notB_of (tru_bl (call_ok (gV_s rfl (gV_s rfl (gN _))) rfl (k _)))) rfl)
  have w1 : wipeO [1, 2, 3] b__law_right_1 (Sr d (.lst E) .no .no) = .nx ⟨[.val d, .no, .no, .no, .no], []⟩ := by
    rw [q_wipeO, b1]
    rfl
  have fi : iOf (rD (mCall 1 r__law_given [] (gVal (eVar 0) (mret [])))) (⟨[.val d, .no, .no, .no, .no], []⟩ : S) = .ok [.lst E, .lst E] ⟨[.val d, .no, .no, .no, .no], []⟩ := by
    have c := call_rv (np := 1) (gV_s (f := eVar 0) (s := (⟨[.val d, .no, .no, .no, .no], []⟩ : S)) rfl (gN _)) rfl (g _)
    refine iOf_lst ?_
    rw [q_rD, q_bind, c]
    rfl
  have lp : forD (.nm 1) (wipeO [1, 2, 3] b__law_right_1) [.lst E, .lst E] (⟨[.val d, .no, .no, .no, .no], []⟩ : S) = .nx ⟨[.val d, .no, .no, .no, .no], []⟩ := by
    have := forD_pre (p := .nm 1) (f := wipeO [1, 2, 3] b__law_right_1) (fun d : D => d) (fun _ => (⟨[.val d, .no, .no, .no, .no], []⟩ : S)) [.lst E, .lst E] (fun pre x post hpp => by
      have hx : x ∈ [D.lst E, .lst E] := by rw [hpp]; simp
      have : x = .lst E := by simpa using hx
      subst this
      exact ⟨Sr d (.lst E) .no .no, rfl, w1⟩)
    rwa [List.map_id'] at this
  have s1 : sForW [1, 2, 3] (iOf (rD (mCall 1 r__law_given [] (gVal (eVar 0) (mret []))))) (.nm 1) b__law_right_1 (⟨[.val d, .no, .no, .no, .no], []⟩ : S) = .nx ⟨[.val d, .no, .no, .no, .no], []⟩ := for_of fi lp
  refine DL.fn_of (s1 := ⟨[.val d, .no, .no, .no, .no], []⟩) (seq_nx s1 ?_)
  have c := call_rv (np := 1) (gV_s (f := eVar 0) (s := (⟨[.val d, .no, .no, .no, .no], []⟩ : S)) rfl (gN _)) rfl (r _)
  show sOf _ _ _ = _
  rw [q_sOf, c]) s
end
end Wk
set_option maxHeartbeats 4000000
namespace Wk
open PySem PyProof.Rows L2 DL
theorem sgs_rep {d : D} {n : Nat} (h : d.sg n = true) : ∀ k, D.sgs n (List.replicate k d) = true
  | 0 => by simp [D.sgs]
  | k + 1 => by rw [List.replicate_succ, D.sgs, h, sgs_rep h k]; rfl
theorem bks_rep (d : D) : ∀ k, D.bks (List.replicate k d) ≤ k * (d.bk + 2) + 2
  | 0 => by simp [D.bks]
  | k + 1 => by
    have := bks_rep d k
    rw [List.replicate_succ, D.bks, Nat.succ_mul]
    omega
theorem th_sg {d : D} (h : ∀ n, d.sg (n + 2) = true) (hb : d.bk ≤ 100) (xf : d.xf = true) : Th d d.py.shown where
  z1 := reprZ_sg (h 8) (by omega)
  zk := shown_ok d 10 (sg_ok d 10 10 (Nat.le_refl _) (h 8)).1
  z2 := by
    have s : (D.lst (List.replicate 20 d)).sg 10 = true := by
      rw [D.sg]
      exact sgs_rep (h 7) 20
    have b : (D.lst (List.replicate 20 d)).bk ≤ 20000 := by
      have := bks_rep d 20
      rw [D.bk]
      omega
    exact ⟨_, reprZ_sg s b, shown_ok _ 10 (sg_ok _ 10 10 (Nat.le_refl _) s).1⟩
  z3 := by
    have s : (D.lst [d, .int 7]).sg 10 = true := by
      rw [D.sg, D.sgs, D.sgs, h 7]
      rfl
    have b : (D.lst [d, .int 7]).bk ≤ 20000 := by
      simp only [D.bk, D.bks]
      omega
    exact ⟨_, reprZ_sg s b, shown_ok _ 10 (sg_ok _ 10 10 (Nat.le_refl _) s).1⟩
  xf := xf
def things (ns : List Int) : List D := [.non, .str "a", .tup [.int 1, .str "x"], .bl true, .int (-3)] ++ (ns.take 3).map fun i => .int (i.fmod 1000000000000)
theorem th_all (ns : List Int) : ∀ d ∈ things ns, ∃ z, Th d z := fun d hd => by
  unfold things at hd
  rcases List.mem_append.mp hd with hd | hd
  · simp only [List.mem_cons, List.not_mem_nil, or_false] at hd
    rcases hd with rfl | rfl | rfl | rfl | rfl
    · exact ⟨_, th_sg (fun n => rfl) (by decide) rfl⟩
    · exact ⟨_, th_sg (fun n => by rw [D.sg]; decide +kernel) (by decide +kernel) rfl⟩
    · exact ⟨_, th_sg (fun n => by rw [D.sg, D.sgs, D.sgs, D.sgs, D.sg, D.sg]; decide +kernel) (by decide +kernel) rfl⟩
    · exact ⟨_, th_sg (fun n => rfl) (by decide) rfl⟩
    · exact ⟨_, th_sg (fun n => rfl) (by decide) rfl⟩
  · obtain ⟨i, _, rfl⟩ := List.mem_map.mp hd
    have a := Int.fmod_nonneg_of_pos i (b := 1000000000000) (by decide)
    have b := Int.fmod_lt_of_pos i (b := 1000000000000) (by decide)
    generalize i.fmod 1000000000000 = k at *
    exact ⟨_, th_sg (fun n => by rw [D.sg, decide_eq_true (by omega), decide_eq_true (by omega)]; rfl) (by simp [D.bk]) rfl⟩
abbrev Sl5 (A : D) (x1 x2 : Sl) : S := ⟨[.val A, x1, x2, .no, .no], []⟩
def l1 : S → Out := (sSet 1 (eLst (aCons (mret (.int 6)) (aCons (mret (.int 50)) (aCons (mret (.int 4)) (aCons (mret (.int 9)) (aCons (mret (.int 60)) (aCons (mret (.int 4)) (aCons (mret (.int (1000000000000000000000000000000))) (mret []))))))))))
def l2 : S → Out := (sSet 1 (DL.bin addD (eVar 1) (eLst (aCons (mret (.int 60)) (aCons (mret (.int 400)) (aCons (mret (.int 5)) (aCons (mret (.int 5)) (mret []))))))))
def l3 : S → Out := (sIf (asB (DL.bin neD (eVar 1) (eLst (aCons (mret (.int 6)) (aCons (mret (.int 50)) (aCons (mret (.int 4)) (aCons (mret (.int 9)) (aCons (mret (.int 60)) (aCons (mret (.int 4)) (aCons (DL.bin powD (mret (.int 10)) (mret (.int 30))) (aCons (mret (.int 60)) (aCons (mret (.int 400)) (aCons (mret (.int 5)) (aCons (mret (.int 5)) (mret []))))))))))))))) (sRet (mret (.bl false))) sNx)
def l4 : S → Out := (sSet 2 (DL.bin addD (eLst (aCons (mret .non) (aCons (mret (.str "a")) (aCons (eTup (aCons (mret (.int 1)) (aCons (mret (.str "x")) (mret [])))) (aCons (mret (.bl true)) (aCons (un negD (mret (.int 3))) (mret []))))))) (eLc [3] (iOf (slice (eVar 0) (mret none) (pSome (mret (.int 3))))) (.nm 3) mYes (DL.bin modD (cal intC (aCons (eVar 3) (mret []))) (DL.bin powD (mret (.int 10)) (mret (.int 12)))))))
def l5 : S → Out := (sRet (DL.bin eqD (eLc [4] (iOf (eVar 2)) (.nm 4) (tNotB (tru (rD (mCall 1 r__law_right [] (gVal (eVar 4) (mret [])))))) (eVar 4)) (eLst (mret []))))
theorem l_eq : b_law = sSeq l1 (sSeq l2 (sSeq l3 (sSeq l4 l5))) := rfl
def lim7 : List D := [.int 6, .int 50, .int 4, .int 9, .int 60, .int 4, .int 1000000000000000000000000000000]
def lim11 : List D := lim7 ++ [.int 60, .int 400, .int 5, .int 5]
theorem l1_t (A : D) : l1 (Sl5 A .no .no) = .nx (Sl5 A (.val (.lst lim7)) .no) := by kernel_rfl
theorem l2_t (A : D) : l2 (Sl5 A (.val (.lst lim7)) .no) = .nx (Sl5 A (.val (.lst lim11)) .no) := by kernel_rfl
theorem l3_t (A : D) : l3 (Sl5 A (.val (.lst lim11)) .no) = .nx (Sl5 A (.val (.lst lim11)) .no) := by kernel_rfl
theorem filter_noneK {α : Type} (xs : List α) : xs.filter (fun _ => false) = [] := by
  induction xs with
  | nil => rfl
  | cons x xs ih => simpa using ih
theorem l4_t (ns : List Int) (hl : ns.length ≤ 63) (B : D) : l4 (Sl5 (.lst (ns.map .int)) (.val B) .no) = .nx (Sl5 (.lst (ns.map .int)) (.val B) (.val (.lst (things ns)))) := by
  have pw : powD (.int 10) (.int 12) = some (.int 1000000000000) := by kernel_rfl
  have cut : slD (.lst (ns.map .int)) none (some 3) = some (.lst ((ns.take 3).map .int)) := by
    have e1 : HT.sIx (ns.map D.int).length 0 none = 0 := rfl
    have e2 : HT.sIx (ns.map D.int).length (ns.map D.int).length (some (3 : Int)) = min 3 ns.length := by
      rw [show (3 : Int) = ((3 : Nat) : Int) from rfl, HT.sIx_nat, List.length_map]
    simp only [slD, cutG, e1, e2, List.drop_zero, Nat.sub_zero]
    rw [← List.map_take, List.take_eq_take_min, Nat.min_comm]
    congr 3
    rw [List.take_eq_take_iff]
    omega
  have fi : iOf (slice (eVar 0) (mret none) (pSome (mret (.int 3)))) ⟨(Sl5 (.lst (ns.map .int)) (.val B) .no).sl, []⟩ = .ok ((ns.take 3).map .int) ⟨(Sl5 (.lst (ns.map .int)) (.val B) .no).sl, []⟩ := by
    generalize ns.map D.int = L at *
    generalize (ns.take 3).map D.int = L2 at *
    simp [slice, pSome, dI, cut]
  have q := lc1a (i := 3) (fe := DL.bin modD (cal intC (aCons (eVar 3) (mret []))) (DL.bin powD (mret (.int 10)) (mret (.int 12)))) (ns.take 3) D.int (fun i => .int (i.fmod 1000000000000)) fi (by rw [List.length_take]; exact Nat.le_trans (Nat.min_le_left _ _) (by decide)) rfl rfl rfl (fun i hi c => by
    simp [pw, modD, Int.fmod_eq_emod_of_nonneg])
  have e1 : eLst (aCons (mret .non) (aCons (mret (.str "a")) (aCons (eTup (aCons (mret (.int 1)) (aCons (mret (.str "x")) (mret [])))) (aCons (mret (.bl true)) (aCons (un negD (mret (.int 3))) (mret [])))))) (Sl5 (.lst (ns.map .int)) (.val B) .no) = .ok (.lst [.non, .str "a", .tup [.int 1, .str "x"], .bl true, .int (-3)]) (Sl5 (.lst (ns.map .int)) (.val B) .no) := by
    have n2 : 2 ≤ LN := by decide
    have n5 : 5 ≤ LN := by decide
    generalize ns.map D.int = L at *
    have ng : negD (.int 3) = some (.int (-3)) := rfl
    simp [n2, n5, ng]
  refine sSet_val (i := 2) (bin_of e1 (lc_val q) ?_)
  have hl2 : ([D.non, .str "a", .tup [.int 1, .str "x"], .bl true, .int (-3)] : List D).length + ((ns.take 3).map fun i : Int => D.int (i.fmod 1000000000000)).length ≤ LN := by
    rw [List.length_map, List.length_take]
    exact Nat.le_trans (m := 8) (by simp only [List.length_cons, List.length_nil]; omega) (by decide)
  exact if_pos hl2
theorem l5_t (A B : D) (L : List D) (hL : L.length ≤ LN) (ht : ∀ d ∈ L, ∃ z, Th d z) : l5 (Sl5 A (.val B) (.val (.lst L))) = .rt (.val (.bl true)) (Sl5 A (.val B) (.val (.lst L))) := by
  have q := lc1 (i := 4) (fi := iOf (eVar 2)) (t := tNotB (tru (rD (mCall 1 r__law_right [] (gVal (eVar 4) (mret [])))))) (fe := eVar 4) (sl := (Sl5 A (.val B) (.val (.lst L))).sl) (io := []) L (fun d => d) (fun d => d) (fun _ => false) (by rw [List.map_id']; exact iOf_lst rfl) hL rfl rfl rfl
    (fun d hd c => by
      obtain ⟨z, h⟩ := ht d hd
      have rt := fun s => right_t h s
      generalize r__law_right = R at *
      exact notB_of (tru_bl (call_ok (gV_s (f := eVar 4) rfl (gN _)) rfl (rt _)))) (fun d hd z c => Bool.noConfusion z)
  rw [filter_noneK, List.map_nil] at q
  have e : eqD (.lst []) (.lst []) = some (.bl true) := by kernel_rfl
  exact sRet_ok (lc_eq0 q e)
theorem law_true (ns : List Int) (hl : ns.length ≤ 63) : ∃ io, r_law [.val (.lst (ns.map .int))] [] = .rt (.val (.bl true)) io := by
  have hL : (things ns).length ≤ LN := by
    unfold things
    rw [List.length_append, List.length_map, List.length_take]
    exact Nat.le_trans (m := 8) (by simp only [List.length_cons, List.length_nil]; omega) (by decide)
  have k4 := l4_t ns hl (.lst lim11)
  have k5 := l5_t (.lst (ns.map .int)) (.lst lim11) (things ns) hL (th_all ns)
  have k1 := l1_t (.lst (ns.map .int))
  have k2 := l2_t (.lst (ns.map .int))
  have k3 := l3_t (.lst (ns.map .int))
  generalize things ns = L at *
  generalize lim11 = B at *
  generalize lim7 = B7 at *
  refine ⟨_, DL.fn_of (s1 := Sl5 (.lst (ns.map .int)) (.val (.lst B)) (.val (.lst L))) ?_⟩
  show b_law (Sl5 (.lst (ns.map .int)) .no .no) = _
  rw [l_eq]
  exact seq_nx k1 (seq_nx k2 (seq_nx k3 (seq_nx k4 k5)))
end Wk
set_option maxHeartbeats 4000000
namespace Wk
open PySem PySem.Spec PyProof.Rows L2 DL
def top (i : Nat) : Stmt := PySem.Challenge.pw_budgetfolds_k01_limits_and_errors.main.body.getD i (.Pass ⟨0, 0, 0, 0⟩)
theorem bo_ArithmeticError : bootBuiltins "ArithmeticError" = some (.type "ArithmeticError") := by kernel_rfl
theorem bo_IndexError : bootBuiltins "IndexError" = some (.type "IndexError") := by kernel_rfl
theorem bo_KeyError : bootBuiltins "KeyError" = some (.type "KeyError") := by kernel_rfl
theorem bo_LookupError : bootBuiltins "LookupError" = some (.type "LookupError") := by kernel_rfl
theorem bo_ValueError : bootBuiltins "ValueError" = some (.type "ValueError") := by kernel_rfl
theorem bo_ZeroDivisionError : bootBuiltins "ZeroDivisionError" = some (.type "ZeroDivisionError") := by kernel_rfl
theorem bo_int : bootBuiltins "int" = some (.type "int") := by kernel_rfl
theorem bo_isinstance : bootBuiltins "isinstance" = some (.builtin "isinstance") := by kernel_rfl
theorem bo_len : bootBuiltins "len" = some (.builtin "len") := by kernel_rfl
theorem bo_repr : bootBuiltins "repr" = some (.builtin "repr") := by kernel_rfl
structure Gs (K : PySem.W.Frag) (mg : PySem.Str → Option Value) : Prop where
  f_ArithmeticError : mg "ArithmeticError" = none
  f_IndexError : mg "IndexError" = none
  f_KeyError : mg "KeyError" = none
  f_LookupError : mg "LookupError" = none
  f_ValueError : mg "ValueError" = none
  f_ZeroDivisionError : mg "ZeroDivisionError" = none
  f_int : mg "int" = none
  f_isinstance : mg "isinstance" = none
  f_len : mg "len" = none
  f_range : mg "range" = none
  f_repr : mg "repr" = none
  k_MOST_BUDGET : Cst K mg "MOST_BUDGET" (.int (1000000000000000000000000000000))
  k_MOST_CALLS : Cst K mg "MOST_CALLS" (.int 4)
  k_MOST_CHANGES : Cst K mg "MOST_CHANGES" (.int 5)
  k_MOST_DEPTH : Cst K mg "MOST_DEPTH" (.int 4)
  k_MOST_FUNCTIONS : Cst K mg "MOST_FUNCTIONS" (.int 6)
  k_MOST_GROWTH : Cst K mg "MOST_GROWTH" (.int 400)
  k_MOST_RULES : Cst K mg "MOST_RULES" (.int 5)
  k_MOST_SITES : Cst K mg "MOST_SITES" (.int 60)
  k_MOST_SIZE : Cst K mg "MOST_SIZE" (.int 50)
  k_MOST_THRESHOLD : Cst K mg "MOST_THRESHOLD" (.int 60)
  k_MOST_TIMES : Cst K mg "MOST_TIMES" (.int 9)
  g_Broken : mg "Broken" = some (.ref (He.ga K "Broken"))
  g_CannotBe : mg "CannotBe" = some (.ref (He.ga K "CannotBe"))
  g_InUse : mg "InUse" = some (.ref (He.ga K "InUse"))
  g_InvalidChanges : mg "InvalidChanges" = some (.ref (He.ga K "InvalidChanges"))
  g_InvalidChoice : mg "InvalidChoice" = some (.ref (He.ga K "InvalidChoice"))
  g_InvalidClaim : mg "InvalidClaim" = some (.ref (He.ga K "InvalidClaim"))
  g_InvalidFunctions : mg "InvalidFunctions" = some (.ref (He.ga K "InvalidFunctions"))
  g_InvalidName : mg "InvalidName" = some (.ref (He.ga K "InvalidName"))
  g_InvalidNumber : mg "InvalidNumber" = some (.ref (He.ga K "InvalidNumber"))
  g_InvalidPart : mg "InvalidPart" = some (.ref (He.ga K "InvalidPart"))
  g_InvalidPlace : mg "InvalidPlace" = some (.ref (He.ga K "InvalidPlace"))
  g_InvalidRules : mg "InvalidRules" = some (.ref (He.ga K "InvalidRules"))
  g_InvalidSeen : mg "InvalidSeen" = some (.ref (He.ga K "InvalidSeen"))
  g_InvalidSite : mg "InvalidSite" = some (.ref (He.ga K "InvalidSite"))
  g_InvalidText : mg "InvalidText" = some (.ref (He.ga K "InvalidText"))
  g_InvalidWish : mg "InvalidWish" = some (.ref (He.ga K "InvalidWish"))
  g_NotAProgram : mg "NotAProgram" = some (.ref (He.ga K "NotAProgram"))
  g_NotARule : mg "NotARule" = some (.ref (He.ga K "NotARule"))
  g_NotOpen : mg "NotOpen" = some (.ref (He.ga K "NotOpen"))
  g_NotRight : mg "NotRight" = some (.ref (He.ga K "NotRight"))
  g_NotThere : mg "NotThere" = some (.ref (He.ga K "NotThere"))
  g_NothingToUndo : mg "NothingToUndo" = some (.ref (He.ga K "NothingToUndo"))
  g_OverBudget : mg "OverBudget" = some (.ref (He.ga K "OverBudget"))
  g_TooMany : mg "TooMany" = some (.ref (He.ga K "TooMany"))
  g_UnknownName : mg "UnknownName" = some (.ref (He.ga K "UnknownName"))
  isi : Isi K cls
structure Gx (P : Program) (K : PySem.W.Frag) : Prop where
  x_InUse : XC K P "InUse" "index"
  x_InvalidChanges : XC K P "InvalidChanges" "index"
  x_InvalidChoice : XC K P "InvalidChoice" "given"
  x_InvalidClaim : XC K P "InvalidClaim" "given"
  x_InvalidFunctions : XC K P "InvalidFunctions" "index"
  x_InvalidName : XC K P "InvalidName" "given"
  x_InvalidNumber : XC K P "InvalidNumber" "given"
  x_InvalidPart : XC K P "InvalidPart" "given"
  x_InvalidPlace : XC K P "InvalidPlace" "given"
  x_InvalidRules : XC K P "InvalidRules" "index"
  x_InvalidSeen : XC K P "InvalidSeen" "index"
  x_InvalidSite : XC K P "InvalidSite" "given"
  x_InvalidText : XC K P "InvalidText" "given"
  x_InvalidWish : XC K P "InvalidWish" "given"
  x_NotAProgram : XC K P "NotAProgram" "given"
  x_NotARule : XC K P "NotARule" "given"
  x_NotOpen : XC K P "NotOpen" "given"
  x_OverBudget : XC K P "OverBudget" "most"
  x_TooMany : XC K P "TooMany" "most"
  x_UnknownName : XC K P "UnknownName" "given"
  z_NothingToUndo : XZc K "NothingToUndo"
  y_Broken : XC2 K P "Broken" "index" "shown"
  exo_Broken_CannotBe : PySem.W.exmOne K (.ref (He.ga K "Broken")) (.ref (He.ga K "CannotBe")) = some true
  exo_InvalidText_NotRight : PySem.W.exmOne K (.ref (He.ga K "InvalidText")) (.ref (He.ga K "NotRight")) = some true
  exo_UnknownName_NotThere : PySem.W.exmOne K (.ref (He.ga K "UnknownName")) (.ref (He.ga K "NotThere")) = some true
  ise : IsE K csX nsX tsX
section
variable {P : Program} {w : World} {K : PySem.W.Frag} {mg : PySem.Str → Option Value} {base : Heap}
def n__law_given : List PySem.Str := ["_law_thing", "_law_found", "_law_named"]
theorem sc__law_given : FnScope n__law_given ["_law_thing"] (defScope (top 41)) := ⟨rfl, rfl, rfl, by decide +kernel, rfl, by decide +kernel, by decide +kernel⟩
theorem ok__law_given {f : Addr} {fd : FuncData} (F : FunD K "_law_given" "_law_given" (defArgs (top 41)) (defBody (top 41)) (defScope (top 41)) [] [] f fd) (G : Gs K mg) (GX : Gx P K) : FnG true P w K mg base (L2.CX P w) 2 f fd ["_law_thing"] (spD K 1 r__law_given) := by
  refine FunD.g (N := n__law_given) F sc__law_given fun cdv A outer s H E C hgd hr hK px pw => ?_
  exact (db_cons (ds_set (nm 1 sc__law_given.nd) (d_lst (da_cons (d_exv (k := 0) hK GX.x_InvalidText (hr.mono (by decide)) rfl G.g_InvalidText (d_var (pv 0))) (da_cons (d_exv (k := 0) hK GX.x_InvalidPart (hr.mono (by decide)) rfl G.g_InvalidPart (d_var (pv 0))) (da_cons (d_exv (k := 0) hK GX.x_InvalidNumber (hr.mono (by decide)) rfl G.g_InvalidNumber (d_var (pv 0))) (da_cons (d_exv (k := 0) hK GX.x_InvalidSite (hr.mono (by decide)) rfl G.g_InvalidSite (d_var (pv 0))) da_nil))))))
    (db_cons (ds_set (nm 1 sc__law_given.nd) (d_op hK o_add (d_var (pv 1)) (d_lst (da_cons (d_exv (k := 0) hK GX.x_InvalidChoice (hr.mono (by decide)) rfl G.g_InvalidChoice (d_var (pv 0))) (da_cons (d_exv (k := 0) hK GX.x_InvalidName (hr.mono (by decide)) rfl G.g_InvalidName (d_var (pv 0))) (da_cons (d_exv (k := 0) hK GX.x_InvalidWish (hr.mono (by decide)) rfl G.g_InvalidWish (d_var (pv 0))) (da_cons (d_exv (k := 0) hK GX.x_InvalidClaim (hr.mono (by decide)) rfl G.g_InvalidClaim (d_var (pv 0))) da_nil)))))))
    (db_cons (ds_set (nm 1 sc__law_given.nd) (d_op hK o_add (d_var (pv 1)) (d_lst (da_cons (d_exv (k := 0) hK GX.x_InvalidPlace (hr.mono (by decide)) rfl G.g_InvalidPlace (d_var (pv 0))) (da_cons (d_exv (k := 0) hK GX.x_NotAProgram (hr.mono (by decide)) rfl G.g_NotAProgram (d_var (pv 0))) (da_cons (d_exv (k := 0) hK GX.x_NotARule (hr.mono (by decide)) rfl G.g_NotARule (d_var (pv 0))) (da_cons (d_exv (k := 0) hK GX.x_InvalidFunctions (hr.mono (by decide)) rfl G.g_InvalidFunctions (d_var (pv 0))) da_nil)))))))
    (db_cons (ds_set (nm 1 sc__law_given.nd) (d_op hK o_add (d_var (pv 1)) (d_lst (da_cons (d_exv (k := 0) hK GX.x_InvalidRules (hr.mono (by decide)) rfl G.g_InvalidRules (d_var (pv 0))) (da_cons (d_exv (k := 0) hK GX.x_InvalidSeen (hr.mono (by decide)) rfl G.g_InvalidSeen (d_var (pv 0))) (da_cons (d_exv (k := 0) hK GX.x_InvalidChanges (hr.mono (by decide)) rfl G.g_InvalidChanges (d_var (pv 0))) (da_cons (d_exv (k := 0) hK GX.x_UnknownName (hr.mono (by decide)) rfl G.g_UnknownName (d_var (pv 0))) da_nil)))))))
    (db_cons (ds_set (nm 1 sc__law_given.nd) (d_op hK o_add (d_var (pv 1)) (d_lst (da_cons (d_exv (k := 0) hK GX.x_InUse (hr.mono (by decide)) rfl G.g_InUse (d_var (pv 0))) (da_cons (d_exv (k := 0) hK GX.x_NotOpen (hr.mono (by decide)) rfl G.g_NotOpen (d_var (pv 0))) (da_cons (d_exv (k := 0) hK GX.x_TooMany (hr.mono (by decide)) rfl G.g_TooMany (d_var (pv 0))) (da_cons (d_exv (k := 0) hK GX.x_OverBudget (hr.mono (by decide)) rfl G.g_OverBudget (d_var (pv 0))) (da_cons (d_ex0 hK GX.z_NothingToUndo rfl G.g_NothingToUndo) da_nil))))))))
    (db_cons (ds_set (nm 1 sc__law_given.nd) (d_op hK o_add (d_var (pv 1)) (d_lst (da_cons (d_exv2 (k := 0) hK GX.y_Broken (hr.mono (by decide)) rfl G.g_Broken (d_var (pv 0)) d_int) da_nil))))
    (db_cons (ds_set (nm 2 sc__law_given.nd) (d_lst (da_cons (d_exk (k := 0) hK GX.x_InvalidText (hr.mono (by decide)) rfl G.g_InvalidText (d_var (pv 0))) (da_cons (d_exk (k := 0) hK GX.x_InvalidPart (hr.mono (by decide)) rfl G.g_InvalidPart (d_var (pv 0))) (da_cons (d_exk (k := 0) hK GX.x_InvalidNumber (hr.mono (by decide)) rfl G.g_InvalidNumber (d_var (pv 0))) da_nil)))))
    (db_cons (ds_set (nm 2 sc__law_given.nd) (d_op hK o_add (d_var (pv 2)) (d_lst (da_cons (d_exk (k := 0) hK GX.x_InvalidSite (hr.mono (by decide)) rfl G.g_InvalidSite (d_var (pv 0))) (da_cons (d_exk (k := 0) hK GX.x_InvalidChoice (hr.mono (by decide)) rfl G.g_InvalidChoice (d_var (pv 0))) (da_cons (d_exk (k := 0) hK GX.x_InvalidName (hr.mono (by decide)) rfl G.g_InvalidName (d_var (pv 0))) da_nil))))))
    (db_cons (ds_set (nm 2 sc__law_given.nd) (d_op hK o_add (d_var (pv 2)) (d_lst (da_cons (d_exk (k := 0) hK GX.x_InvalidWish (hr.mono (by decide)) rfl G.g_InvalidWish (d_var (pv 0))) (da_cons (d_exk (k := 0) hK GX.x_InvalidClaim (hr.mono (by decide)) rfl G.g_InvalidClaim (d_var (pv 0))) (da_cons (d_exk (k := 0) hK GX.x_InvalidPlace (hr.mono (by decide)) rfl G.g_InvalidPlace (d_var (pv 0))) da_nil))))))
    (db_cons (ds_set (nm 2 sc__law_given.nd) (d_op hK o_add (d_var (pv 2)) (d_lst (da_cons (d_exk (k := 0) hK GX.x_NotAProgram (hr.mono (by decide)) rfl G.g_NotAProgram (d_var (pv 0))) (da_cons (d_exk (k := 0) hK GX.x_NotARule (hr.mono (by decide)) rfl G.g_NotARule (d_var (pv 0))) (da_cons (d_exk (k := 0) hK GX.x_InvalidFunctions (hr.mono (by decide)) rfl G.g_InvalidFunctions (d_var (pv 0))) da_nil))))))
    (db_cons (ds_set (nm 2 sc__law_given.nd) (d_op hK o_add (d_var (pv 2)) (d_lst (da_cons (d_exk (k := 0) hK GX.x_InvalidRules (hr.mono (by decide)) rfl G.g_InvalidRules (d_var (pv 0))) (da_cons (d_exk (k := 0) hK GX.x_InvalidSeen (hr.mono (by decide)) rfl G.g_InvalidSeen (d_var (pv 0))) (da_cons (d_exk (k := 0) hK GX.x_InvalidChanges (hr.mono (by decide)) rfl G.g_InvalidChanges (d_var (pv 0))) da_nil))))))
    (db_cons (ds_set (nm 2 sc__law_given.nd) (d_op hK o_add (d_var (pv 2)) (d_lst (da_cons (d_exk (k := 0) hK GX.x_UnknownName (hr.mono (by decide)) rfl G.g_UnknownName (d_var (pv 0))) (da_cons (d_exk (k := 0) hK GX.x_InUse (hr.mono (by decide)) rfl G.g_InUse (d_var (pv 0))) (da_cons (d_exk (k := 0) hK GX.x_NotOpen (hr.mono (by decide)) rfl G.g_NotOpen (d_var (pv 0))) (da_cons (d_exk (k := 0) hK GX.x_TooMany (hr.mono (by decide)) rfl G.g_TooMany (d_var (pv 0))) da_nil)))))))
    (db_cons (ds_set (nm 2 sc__law_given.nd) (d_op hK o_add (d_var (pv 2)) (d_lst (da_cons (d_exk (k := 0) hK GX.x_OverBudget (hr.mono (by decide)) rfl G.g_OverBudget (d_var (pv 0))) (da_cons (d_ex0 hK GX.z_NothingToUndo rfl G.g_NothingToUndo) (da_cons (d_exk2 (k := 0) hK GX.y_Broken (hr.mono (by decide)) rfl G.g_Broken (d_var (pv 0)) d_int) da_nil))))))
    (db_one (ds_retO (o_lst (da_cons (d_var (pv 1)) (da_cons (d_var (pv 2)) da_nil))))))))))))))))))
def n__law_raised_right : List PySem.Str := ["_law_thing", "_law_seen", "_law_e"]
theorem sc__law_raised_right : FnScope n__law_raised_right ["_law_thing"] (defScope (top 43)) := ⟨rfl, rfl, rfl, by decide +kernel, rfl, by decide +kernel, by decide +kernel⟩
theorem ok__law_raised_right {f : Addr} {fd : FuncData} (F : FunD K "_law_raised_right" "_law_raised_right" (defArgs (top 43)) (defBody (top 43)) (defScope (top 43)) [] [] f fd) (G : Gs K mg) (GX : Gx P K) : FnG true P w K mg base (L2.CX P w) 2 f fd ["_law_thing"] (spD K 1 r__law_raised_right) := by
  refine FunD.g (N := n__law_raised_right) F sc__law_raised_right fun cdv A outer s H E C hgd hr hK px pw => ?_
  exact (db_cons (ds_setO (nm 1 sc__law_raised_right.nd) (o_lst da_nil))
    (db_cons (ds_tryR (k := 0) (j := 2) hK rfl rfl rfl sc__law_raised_right.nd rfl ⟨rfl, by decide, .inl G.g_NotRight⟩ rfl rfl GX.exo_InvalidText_NotRight GX.x_InvalidText (hr.mono (by decide)) rfl G.g_InvalidText (fun pn xe W2 => (d_var (pv 0))) (fun a pn hr => (db_one (ds_app hK (pv 1) (d_callB hK (c_reprZ (hgd rfl) (hUn5 hr)) G.f_repr bo_repr (da_cons (d_exf hK GX.ise (d_var (pv 2))) da_nil))))))
    (db_cons (ds_tryR (k := 0) (j := 2) hK rfl rfl rfl sc__law_raised_right.nd rfl ⟨rfl, by decide, .inl G.g_NotThere⟩ rfl rfl GX.exo_UnknownName_NotThere GX.x_UnknownName (hr.mono (by decide)) rfl G.g_UnknownName (fun pn xe W2 => (d_var (pv 0))) (fun a pn hr => (db_one (ds_app hK (pv 1) (d_callB hK (c_reprZ (hgd rfl) (hUn5 hr)) G.f_repr bo_repr (da_cons (d_exf hK GX.ise (d_var (pv 2))) da_nil))))))
    (db_cons (ds_tryR2 (k := 0) (j := 2) hK rfl rfl rfl sc__law_raised_right.nd rfl ⟨rfl, by decide, .inl G.g_CannotBe⟩ rfl rfl GX.exo_Broken_CannotBe GX.y_Broken (hr.mono (by decide)) rfl G.g_Broken (fun pn xe W2 => (d_var (pv 0))) (fun pn xe W2 => d_int) (fun a pn hr => (db_one (ds_app hK (pv 1) (d_callB hK (c_reprZ (hgd rfl) (hUn5 hr)) G.f_repr bo_repr (da_cons (d_exf hK GX.ise (d_var (pv 2))) da_nil))))))
    (db_one (ds_ret (d_cmp hK (o_eq hr.units) (d_var (pv 1)) (d_op hK o_mul (d_lst (da_cons (d_callB hK (c_reprZ (hgd rfl) (un65 hr)) G.f_repr bo_repr (da_cons (d_var (pv 0)) da_nil)) da_nil)) d_int))))))))
def n__law_kept_right : List PySem.Str := ["_law_found", "_law_thing", "_law_some", "_law_last", "_law_k"]
theorem sc__law_kept_right : FnScope n__law_kept_right ["_law_found", "_law_thing"] (defScope (top 42)) := ⟨rfl, rfl, rfl, by decide +kernel, rfl, by decide +kernel, by decide +kernel⟩
theorem ok__law_kept_right {f : Addr} {fd : FuncData} (F : FunD K "_law_kept_right" "_law_kept_right" (defArgs (top 42)) (defBody (top 42)) (defScope (top 42)) [] [] f fd) (G : Gs K mg) (GX : Gx P K) : FnG true P w K mg base (L2.CX P w) 1 f fd ["_law_found", "_law_thing"] (spD K 2 r__law_kept_right) := by
  refine FunD.g (N := n__law_kept_right) F sc__law_kept_right fun cdv A outer s H E C hgd hr hK px pw => ?_
  exact (db_cons (ds_frz 2 (ds_setLc (i := 2) (own := [("_law_k", 4)]) (pt := (.nm 4)) hK rfl (nm 2 sc__law_kept_right.nd) rfl (sw_true rfl rfl rfl (by decide +kernel)) (di_of hK (d_lst (da_cons d_int (da_cons d_int (da_cons d_int (da_cons d_int (da_cons d_int (da_cons d_int (da_cons d_int (da_cons d_int (da_cons d_int (da_cons d_int (da_cons d_int (da_cons d_int (da_cons d_int da_nil))))))))))))))) (blkOk_by (N := n__law_kept_right) (sc := defScope (top 42)) (by decide +kernel)) rfl (fun _ _ _ _ _ => (pg_nm (nm 4 sc__law_kept_right.nd))) (fun C hK _ _ _ _ _ => dts_nil) (fun C hK _ _ _ _ _ => (d_exf hK GX.ise (d_ix hK (d_var (pv 0)) (d_var (pv 4)))))))
    (db_cons (ds_set (nm 2 sc__law_kept_right.nd) (d_op hK o_add (d_var (pv 2)) (d_lc (own := [("_law_k", 4)]) (pt := (.nm 4)) hK rfl sc__law_kept_right.nd (di_of hK (d_lst (da_cons d_int (da_cons d_int (da_cons d_int (da_cons d_int (da_cons d_int da_nil))))))) (blkOk_by (N := n__law_kept_right) (sc := defScope (top 42)) (by decide +kernel)) rfl (fun _ _ _ _ _ => (pg_nm (nm 4 sc__law_kept_right.nd))) (fun C hK _ _ _ _ _ => dts_nil) (fun C hK _ _ _ _ _ => (d_exf hK GX.ise (d_ix hK (d_var (pv 0)) (d_var (pv 4))))))))
    (db_cons (ds_set (nm 2 sc__law_kept_right.nd) (d_op hK o_add (d_var (pv 2)) (d_lc (own := [("_law_k", 4)]) (pt := (.nm 4)) hK rfl sc__law_kept_right.nd (di_of hK (d_lst (da_cons d_int (da_cons d_int da_nil)))) (blkOk_by (N := n__law_kept_right) (sc := defScope (top 42)) (by decide +kernel)) rfl (fun _ _ _ _ _ => (pg_nm (nm 4 sc__law_kept_right.nd))) (fun C hK _ _ _ _ _ => dts_nil) (fun C hK _ _ _ _ _ => (d_exf hK GX.ise (d_ix hK (d_var (pv 0)) (d_var (pv 4))))))))
    (db_cons (ds_set (nm 3 sc__law_kept_right.nd) (d_ix hK (d_var (pv 0)) d_int))
    (db_one (ds_ret (d_and hK (d_cmp hK (o_eq hr.units) (d_callB hK (c_reprZ (hgd rfl) (un65 hr)) G.f_repr bo_repr (da_cons (d_var (pv 2)) da_nil)) (d_callB hK (c_reprZ (hgd rfl) (un65 hr)) G.f_repr bo_repr (da_cons (d_op hK o_mul (d_lst (da_cons (d_var (pv 1)) da_nil)) (d_callB hK c_len G.f_len bo_len (da_cons (d_var (pv 2)) da_nil))) da_nil))) (d_one (d_cmp hK (o_eq hr.units) (d_callB hK (c_reprZ (hgd rfl) (un65 hr)) G.f_repr bo_repr (da_cons (d_lst (da_cons (d_exf hK GX.ise (d_var (pv 3))) (da_cons (d_exf hK GX.ise (d_var (pv 3))) da_nil))) da_nil)) (d_callB hK (c_reprZ (hgd rfl) (un65 hr)) G.f_repr bo_repr (da_cons (d_lst (da_cons (d_var (pv 1)) (da_cons d_int da_nil))) da_nil)))))))))))
def n__law_sorts : List PySem.Str := ["_law_e", "_law_found"]
theorem sc__law_sorts : FnScope n__law_sorts ["_law_e"] (defScope (top 38)) := ⟨rfl, rfl, rfl, by decide +kernel, rfl, by decide +kernel, by decide +kernel⟩
theorem ok__law_sorts {f : Addr} {fd : FuncData} (F : FunD K "_law_sorts" "_law_sorts" (defArgs (top 38)) (defBody (top 38)) (defScope (top 38)) [] [] f fd) (G : Gs K mg) (GX : Gx P K) : FnG true P w K mg base (L2.CX P w) 1 f fd ["_law_e"] (spD K 1 r__law_sorts) := by
  refine FunD.g (N := n__law_sorts) F sc__law_sorts fun cdv A outer s H E C hgd hr hK px pw => ?_
  exact (db_cons (ds_set (nm 1 sc__law_sorts.nd) (d_lst (da_cons (d_callB hK (c_isE GX.ise) G.f_isinstance bo_isinstance (da_cons (d_var (pv 0)) (da_cons (d_glo hK G.g_InvalidText) da_nil))) (da_cons (d_callB hK (c_isE GX.ise) G.f_isinstance bo_isinstance (da_cons (d_var (pv 0)) (da_cons (d_glo hK G.g_InvalidPart) da_nil))) (da_cons (d_callB hK (c_isE GX.ise) G.f_isinstance bo_isinstance (da_cons (d_var (pv 0)) (da_cons (d_glo hK G.g_InvalidNumber) da_nil))) da_nil)))))
    (db_cons (ds_set (nm 1 sc__law_sorts.nd) (d_op hK o_add (d_var (pv 1)) (d_lst (da_cons (d_callB hK (c_isE GX.ise) G.f_isinstance bo_isinstance (da_cons (d_var (pv 0)) (da_cons (d_glo hK G.g_InvalidSite) da_nil))) (da_cons (d_callB hK (c_isE GX.ise) G.f_isinstance bo_isinstance (da_cons (d_var (pv 0)) (da_cons (d_glo hK G.g_InvalidChoice) da_nil))) (da_cons (d_callB hK (c_isE GX.ise) G.f_isinstance bo_isinstance (da_cons (d_var (pv 0)) (da_cons (d_glo hK G.g_InvalidName) da_nil))) da_nil))))))
    (db_cons (ds_set (nm 1 sc__law_sorts.nd) (d_op hK o_add (d_var (pv 1)) (d_lst (da_cons (d_callB hK (c_isE GX.ise) G.f_isinstance bo_isinstance (da_cons (d_var (pv 0)) (da_cons (d_glo hK G.g_InvalidWish) da_nil))) (da_cons (d_callB hK (c_isE GX.ise) G.f_isinstance bo_isinstance (da_cons (d_var (pv 0)) (da_cons (d_glo hK G.g_InvalidClaim) da_nil))) (da_cons (d_callB hK (c_isE GX.ise) G.f_isinstance bo_isinstance (da_cons (d_var (pv 0)) (da_cons (d_glo hK G.g_InvalidPlace) da_nil))) da_nil))))))
    (db_cons (ds_set (nm 1 sc__law_sorts.nd) (d_op hK o_add (d_var (pv 1)) (d_lst (da_cons (d_callB hK (c_isE GX.ise) G.f_isinstance bo_isinstance (da_cons (d_var (pv 0)) (da_cons (d_glo hK G.g_NotAProgram) da_nil))) (da_cons (d_callB hK (c_isE GX.ise) G.f_isinstance bo_isinstance (da_cons (d_var (pv 0)) (da_cons (d_glo hK G.g_NotARule) da_nil))) (da_cons (d_callB hK (c_isE GX.ise) G.f_isinstance bo_isinstance (da_cons (d_var (pv 0)) (da_cons (d_glo hK G.g_InvalidFunctions) da_nil))) da_nil))))))
    (db_cons (ds_set (nm 1 sc__law_sorts.nd) (d_op hK o_add (d_var (pv 1)) (d_lst (da_cons (d_callB hK (c_isE GX.ise) G.f_isinstance bo_isinstance (da_cons (d_var (pv 0)) (da_cons (d_glo hK G.g_InvalidRules) da_nil))) (da_cons (d_callB hK (c_isE GX.ise) G.f_isinstance bo_isinstance (da_cons (d_var (pv 0)) (da_cons (d_glo hK G.g_InvalidSeen) da_nil))) (da_cons (d_callB hK (c_isE GX.ise) G.f_isinstance bo_isinstance (da_cons (d_var (pv 0)) (da_cons (d_glo hK G.g_InvalidChanges) da_nil))) da_nil))))))
    (db_cons (ds_set (nm 1 sc__law_sorts.nd) (d_op hK o_add (d_var (pv 1)) (d_lst (da_cons (d_callB hK (c_isE GX.ise) G.f_isinstance bo_isinstance (da_cons (d_var (pv 0)) (da_cons (d_glo hK G.g_UnknownName) da_nil))) (da_cons (d_callB hK (c_isE GX.ise) G.f_isinstance bo_isinstance (da_cons (d_var (pv 0)) (da_cons (d_glo hK G.g_InUse) da_nil))) (da_cons (d_callB hK (c_isE GX.ise) G.f_isinstance bo_isinstance (da_cons (d_var (pv 0)) (da_cons (d_glo hK G.g_NotOpen) da_nil))) da_nil))))))
    (db_cons (ds_set (nm 1 sc__law_sorts.nd) (d_op hK o_add (d_var (pv 1)) (d_lst (da_cons (d_callB hK (c_isE GX.ise) G.f_isinstance bo_isinstance (da_cons (d_var (pv 0)) (da_cons (d_glo hK G.g_TooMany) da_nil))) (da_cons (d_callB hK (c_isE GX.ise) G.f_isinstance bo_isinstance (da_cons (d_var (pv 0)) (da_cons (d_glo hK G.g_OverBudget) da_nil))) (da_cons (d_callB hK (c_isE GX.ise) G.f_isinstance bo_isinstance (da_cons (d_var (pv 0)) (da_cons (d_glo hK G.g_NothingToUndo) da_nil))) da_nil))))))
    (db_cons (ds_set (nm 1 sc__law_sorts.nd) (d_op hK o_add (d_var (pv 1)) (d_lst (da_cons (d_callB hK (c_isE GX.ise) G.f_isinstance bo_isinstance (da_cons (d_var (pv 0)) (da_cons (d_glo hK G.g_Broken) da_nil))) da_nil))))
    (db_one (ds_ret (d_var (pv 1))))))))))))
def n__law_bases : List PySem.Str := ["_law_e", "_law_found"]
theorem sc__law_bases : FnScope n__law_bases ["_law_e"] (defScope (top 39)) := ⟨rfl, rfl, rfl, by decide +kernel, rfl, by decide +kernel, by decide +kernel⟩
theorem ok__law_bases {f : Addr} {fd : FuncData} (F : FunD K "_law_bases" "_law_bases" (defArgs (top 39)) (defBody (top 39)) (defScope (top 39)) [] [] f fd) (G : Gs K mg) (GX : Gx P K) : FnG true P w K mg base (L2.CX P w) 1 f fd ["_law_e"] (spD K 1 r__law_bases) := by
  refine FunD.g (N := n__law_bases) F sc__law_bases fun cdv A outer s H E C hgd hr hK px pw => ?_
  exact (db_cons (ds_set (nm 1 sc__law_bases.nd) (d_lst (da_cons (d_callB hK (c_isE GX.ise) G.f_isinstance bo_isinstance (da_cons (d_var (pv 0)) (da_cons (d_glo hK G.g_NotRight) da_nil))) (da_cons (d_callB hK (c_isE GX.ise) G.f_isinstance bo_isinstance (da_cons (d_var (pv 0)) (da_cons (d_glo hK G.g_NotThere) da_nil))) (da_cons (d_callB hK (c_isE GX.ise) G.f_isinstance bo_isinstance (da_cons (d_var (pv 0)) (da_cons (d_glo hK G.g_CannotBe) da_nil))) da_nil)))))
    (db_cons (ds_set (nm 1 sc__law_bases.nd) (d_op hK o_add (d_var (pv 1)) (d_lst (da_cons (d_callB hK (c_isE GX.ise) G.f_isinstance bo_isinstance (da_cons (d_var (pv 0)) (da_cons (d_ty G.f_ValueError bo_ValueError) da_nil))) (da_cons (d_callB hK (c_isE GX.ise) G.f_isinstance bo_isinstance (da_cons (d_var (pv 0)) (da_cons (d_ty G.f_LookupError bo_LookupError) da_nil))) (da_cons (d_callB hK (c_isE GX.ise) G.f_isinstance bo_isinstance (da_cons (d_var (pv 0)) (da_cons (d_ty G.f_ArithmeticError bo_ArithmeticError) da_nil))) da_nil))))))
    (db_one (ds_ret (d_op hK o_add (d_var (pv 1)) (d_lst (da_cons (d_callB hK (c_isE GX.ise) G.f_isinstance bo_isinstance (da_cons (d_var (pv 0)) (da_cons (d_ty G.f_KeyError bo_KeyError) da_nil))) (da_cons (d_callB hK (c_isE GX.ise) G.f_isinstance bo_isinstance (da_cons (d_var (pv 0)) (da_cons (d_ty G.f_IndexError bo_IndexError) da_nil))) (da_cons (d_callB hK (c_isE GX.ise) G.f_isinstance bo_isinstance (da_cons (d_var (pv 0)) (da_cons (d_ty G.f_ZeroDivisionError bo_ZeroDivisionError) da_nil))) da_nil)))))))))
def n__law_due : List PySem.Str := ["_law_k", "_law_end", "_law_head", "_law_middle"]
theorem sc__law_due : FnScope n__law_due ["_law_k"] (defScope (top 40)) := ⟨rfl, rfl, rfl, by decide +kernel, rfl, by decide +kernel, by decide +kernel⟩
theorem ok__law_due {f : Addr} {fd : FuncData} (F : FunD K "_law_due" "_law_due" (defArgs (top 40)) (defBody (top 40)) (defScope (top 40)) [] [] f fd) (G : Gs K mg) (GX : Gx P K) : FnG true P w K mg base (L2.CX P w) 1 f fd ["_law_k"] (spD K 1 r__law_due) := by
  refine FunD.g (N := n__law_due) F sc__law_due fun cdv A outer s H E C hgd hr hK px pw => ?_
  exact (db_cons (ds_par2 rfl (nm 2 sc__law_due.nd) (nm 3 sc__law_due.nd) (by decide) rfl rfl (rs_val (d_cmp hK o_lt (d_var (pv 0)) d_int) (rs_val (d_chain hK o_lt o_lt d_int (d_var (pv 0)) d_int) rs_nil)))
    (db_cons (ds_set (nm 1 sc__law_due.nd) (d_and hK (d_not hK (d_var (pv 2))) (d_one (d_not hK (d_var (pv 3))))))
    (db_one (ds_ret (d_op hK o_add (d_op hK o_mul (d_lst (da_cons (d_var (pv 2)) (da_cons (d_var (pv 3)) (da_cons (d_var (pv 1)) da_nil)))) d_int) (d_op hK o_mul (d_lst (da_cons d_bl da_nil)) d_int))))))
def n__law_right : List PySem.Str := ["_law_thing", "_law_found", "_law_k", "_law_due_here", "_law_at"]
theorem sc__law_right : FnScope n__law_right ["_law_thing"] (defScope (top 44)) := ⟨rfl, rfl, rfl, by decide +kernel, rfl, by decide +kernel, by decide +kernel⟩
theorem ok__law_right {f : Addr} {fd : FuncData} (F : FunD K "_law_right" "_law_right" (defArgs (top 44)) (defBody (top 44)) (defScope (top 44)) [] [] f fd) (G : Gs K mg) (GX : Gx P K) (h__law_given : CallOk true P w K mg base 2 "_law_given" 1 [] r__law_given) (h__law_sorts : CallOk true P w K mg base 1 "_law_sorts" 1 [] r__law_sorts) (h__law_bases : CallOk true P w K mg base 1 "_law_bases" 1 [] r__law_bases) (h__law_due : CallOk true P w K mg base 1 "_law_due" 1 [] r__law_due) (h__law_kept_right : CallOk true P w K mg base 1 "_law_kept_right" 2 [] r__law_kept_right) (h__law_raised_right : CallOk true P w K mg base 2 "_law_raised_right" 1 [] r__law_raised_right) : FnG true P w K mg base (L2.CX P w) 3 f fd ["_law_thing"] (spD K 1 r__law_right) := by
  refine FunD.g (N := n__law_right) F sc__law_right fun cdv A outer s H E C hgd hr hK px pw => ?_
  exact (db_cons (ds_forW (pt := (.nm 1)) [1, 2, 3] hK pw rfl (di_of hK (d_of_r (r_call hK h__law_given hgd (hr.mono (by decide)) rfl px (g_val (d_var (pv 0)) g_nil)))) (pg_nm (nm 1 sc__law_right.nd)) (db_cons (ds_forW (pt := (.nm 2)) [2, 3] hK pw rfl (di_range1 rfl G.f_range (da_cons (d_callB hK c_len G.f_len bo_len (da_cons (d_var (pv 1)) da_nil)) da_nil)) (pg_nm (nm 2 sc__law_right.nd)) (db_cons (ds_frz 3 (ds_setLc (i := 3) (own := [("_law_at", 4)]) (pt := (.nm 4)) hK rfl (nm 3 sc__law_right.nd) rfl (sw_true rfl rfl rfl (by decide +kernel)) (di_range1 rfl G.f_range (da_cons (d_callB hK c_len G.f_len bo_len (da_cons (d_var (pv 1)) da_nil)) da_nil)) (blkOk_by (N := n__law_right) (sc := defScope (top 44)) (by decide +kernel)) rfl (fun _ _ _ _ _ => (pg_nm (nm 4 sc__law_right.nd))) (fun C hK _ _ _ _ _ => dts_nil) (fun C hK _ _ _ _ _ => (d_cmp hK (o_eq hr.units) (d_var (pv 4)) (d_var (pv 2))))))
    (db_one (ds_if (dt_pw (dw_or (dt_cmp hK (o_ne hr.units) (d_of_r (r_call hK h__law_sorts hgd (hr.mono (by decide)) rfl px (g_val (d_ix hK (d_var (pv 1)) (d_var (pv 2))) g_nil))) (d_var (pv 3))) (dw_or1 (dt_cmp hK (o_ne hr.units) (d_of_r (r_call hK h__law_bases hgd (hr.mono (by decide)) rfl px (g_val (d_ix hK (d_var (pv 1)) (d_var (pv 2))) g_nil))) (d_of_r (r_call hK h__law_due hgd (hr.mono (by decide)) rfl px (g_val (d_var (pv 2)) g_nil))))))) (db_one (ds_ret d_bl)) db_nil))))
    (db_one (ds_if (dt_not (dt_truth hK (d_of_r (r_call hK h__law_kept_right hgd (hr.mono (by decide)) rfl px (g_val (d_var (pv 1)) (g_val (d_var (pv 0)) g_nil)))))) (db_one (ds_ret d_bl)) db_nil))))
    (db_one (ds_retR (r_call hK h__law_raised_right hgd (hr.mono (by decide)) rfl px (g_val (d_var (pv 0)) g_nil)))))
def n_law : List PySem.Str := ["_law_cells", "_law_limits_here", "_law_things", "_law_cell", "_law_thing"]
theorem sc_law : FnScope n_law ["_law_cells"] (defScope (top 45)) := ⟨rfl, rfl, rfl, by decide +kernel, rfl, by decide +kernel, by decide +kernel⟩
theorem ok_law {f : Addr} {fd : FuncData} (F : FunD K "law" "law" (defArgs (top 45)) (defBody (top 45)) (defScope (top 45)) [] [] f fd) (G : Gs K mg) (GX : Gx P K) (h__law_right : CallOk true P w K mg base 3 "_law_right" 1 [] r__law_right) : FnG true P w K mg base (L2.CX P w) 4 f fd ["_law_cells"] (spD K 1 r_law) := by
  refine FunD.g (N := n_law) F sc_law fun cdv A outer s H E C hgd hr hK px pw => ?_
  exact (db_cons (ds_set (nm 1 sc_law.nd) (d_lst (da_cons (d_cst hK G.k_MOST_FUNCTIONS) (da_cons (d_cst hK G.k_MOST_SIZE) (da_cons (d_cst hK G.k_MOST_CALLS) (da_cons (d_cst hK G.k_MOST_TIMES) (da_cons (d_cst hK G.k_MOST_THRESHOLD) (da_cons (d_cst hK G.k_MOST_DEPTH) (da_cons (d_cst hK G.k_MOST_BUDGET) da_nil)))))))))
    (db_cons (ds_set (nm 1 sc_law.nd) (d_op hK o_add (d_var (pv 1)) (d_lst (da_cons (d_cst hK G.k_MOST_SITES) (da_cons (d_cst hK G.k_MOST_GROWTH) (da_cons (d_cst hK G.k_MOST_RULES) (da_cons (d_cst hK G.k_MOST_CHANGES) da_nil)))))))
    (db_cons (ds_if (dt_cmp hK (o_ne hr.units) (d_var (pv 1)) (d_lst (da_cons d_int (da_cons d_int (da_cons d_int (da_cons d_int (da_cons d_int (da_cons d_int (da_cons (d_op hK o_pow d_int d_int) (da_cons d_int (da_cons d_int (da_cons d_int (da_cons d_int da_nil))))))))))))) (db_one (ds_ret d_bl)) db_nil)
    (db_cons (ds_set (nm 2 sc_law.nd) (d_op hK o_add (d_lst (da_cons d_non (da_cons d_str (da_cons (d_tup (da_cons d_int (da_cons d_str da_nil))) (da_cons d_bl (da_cons (d_neg d_int) da_nil)))))) (d_lc (own := [("_law_cell", 3)]) (pt := (.nm 3)) hK rfl sc_law.nd (di_of hK (d_slice hK (d_var (pv 0)) dp_none (dp_some d_int))) (blkOk_by (N := n_law) (sc := defScope (top 45)) (by decide +kernel)) rfl (fun _ _ _ _ _ => (pg_nm (nm 3 sc_law.nd))) (fun C hK _ _ _ _ _ => dts_nil) (fun C hK _ _ _ _ _ => (d_op hK o_mod (d_callT hK c_int G.f_int bo_int (da_cons (d_var (pv 3)) da_nil)) (d_op hK o_pow d_int d_int))))))
    (db_one (ds_ret (d_cmp hK (o_eq hr.units) (d_lc (own := [("_law_thing", 4)]) (pt := (.nm 4)) hK rfl sc_law.nd (di_of hK (d_var (pv 2))) (blkOk_by (N := n_law) (sc := defScope (top 45)) (by decide +kernel)) rfl (fun _ _ _ _ _ => (pg_nm (nm 4 sc_law.nd))) (fun C hK _ _ _ _ _ => (dts_one (dt_not (dt_truth hK (d_of_r (r_call hK h__law_right hgd (hr.mono (by decide)) rfl passL (g_val (d_var (pv 4)) g_nil))))))) (fun C hK _ _ _ _ _ => (d_var (pv 4)))) (d_lst da_nil))))))))
end
end Wk
set_option maxHeartbeats 0
namespace Wk
open PySem PySem.Spec PyProof.Rows L2 DL
theorem fx_of {K : PySem.W.Frag} {P : Program} {c f file : PySem.Str} {B : String} (h : (Fb.exn c f file B).ok K = true) (hP : XMain P file) : XC K P c f := xc_of (show xnB K c f file B = true from h) hP
theorem fi_of {K : PySem.W.Frag} {cs ns : List PySem.Str} {ts : List String} (h : (Fb.exs cs ns ts).ok K = true) : IsE K cs ns ts := ⟨show xsB K cs ns ts = true from h⟩
theorem fz_of {K : PySem.W.Frag} {c : PySem.Str} {B : String} (h : (Fb.exz c B).ok K = true) : XZc K c := xz_of (show xzB K c B = true from h)
theorem facts {P : Program} {w : World} {K : PySem.W.Frag} {h : Heap} {mg : PySem.Str → Option Value} {f : Addr} (hP : XMain P "/claim/cut.py") (X : K.In h) (Gm : h.Ns mainGlobals mg) (hfa : mg ("law" : PySem.Str) = some (.ref f)) (c : SaysA fb fn K) :
    ∃ fd : FuncData, (∀ (s : Shared) (v : Value), BindsTo s fd ⟨[v], []⟩ [("_law_cells", v)]) ∧ ∀ base : Heap, K.In base → base.Ns mainGlobals mg → (∀ p ∈ tbC K, LamX.TabB base mg p.1 p.2) → FnG true P w K mg base (L2.CX P w) 4 f fd ["_law_cells"] (spD K 1 r_law) := by
  have e := hfa.symm.trans (He.glo_ok X Gm (c.fact 81 (f := .fa (.glo "law")) rfl))
  cases e
  obtain ⟨fdl, Fl⟩ := c.def_ 7 (d := d7) rfl
  have bl := FunD.bindsA (ps := ["_law_cells"]) Fl fun _ _ _ _ _ _ us hl => match us, hl with | [_], _ => rfl
  refine ⟨fdl, fun s v => bl s [v] rfl, fun base hbK hbN hTB => ?_⟩
  have G : Gs K mg := {
    f_ArithmeticError := He.free_ok X Gm (c.fact 0 (f := .fa (.free "ArithmeticError")) rfl)
    f_IndexError := He.free_ok X Gm (c.fact 1 (f := .fa (.free "IndexError")) rfl)
    f_KeyError := He.free_ok X Gm (c.fact 2 (f := .fa (.free "KeyError")) rfl)
    f_LookupError := He.free_ok X Gm (c.fact 3 (f := .fa (.free "LookupError")) rfl)
    f_ValueError := He.free_ok X Gm (c.fact 4 (f := .fa (.free "ValueError")) rfl)
    f_ZeroDivisionError := He.free_ok X Gm (c.fact 5 (f := .fa (.free "ZeroDivisionError")) rfl)
    f_int := He.free_ok X Gm (c.fact 6 (f := .fa (.free "int")) rfl)
    f_isinstance := He.free_ok X Gm (c.fact 7 (f := .fa (.free "isinstance")) rfl)
    f_len := He.free_ok X Gm (c.fact 8 (f := .fa (.free "len")) rfl)
    f_range := He.free_ok X Gm (c.fact 9 (f := .fa (.free "range")) rfl)
    f_repr := He.free_ok X Gm (c.fact 10 (f := .fa (.free "repr")) rfl)
    k_MOST_BUDGET := int_cst X Gm (c.fact 11 (f := .fa (.int "MOST_BUDGET" (1000000000000000000000000000000))) rfl)
    k_MOST_CALLS := int_cst X Gm (c.fact 12 (f := .fa (.int "MOST_CALLS" (4))) rfl)
    k_MOST_CHANGES := int_cst X Gm (c.fact 13 (f := .fa (.int "MOST_CHANGES" (5))) rfl)
    k_MOST_DEPTH := int_cst X Gm (c.fact 14 (f := .fa (.int "MOST_DEPTH" (4))) rfl)
    k_MOST_FUNCTIONS := int_cst X Gm (c.fact 15 (f := .fa (.int "MOST_FUNCTIONS" (6))) rfl)
    k_MOST_GROWTH := int_cst X Gm (c.fact 16 (f := .fa (.int "MOST_GROWTH" (400))) rfl)
    k_MOST_RULES := int_cst X Gm (c.fact 17 (f := .fa (.int "MOST_RULES" (5))) rfl)
    k_MOST_SITES := int_cst X Gm (c.fact 18 (f := .fa (.int "MOST_SITES" (60))) rfl)
    k_MOST_SIZE := int_cst X Gm (c.fact 19 (f := .fa (.int "MOST_SIZE" (50))) rfl)
    k_MOST_THRESHOLD := int_cst X Gm (c.fact 20 (f := .fa (.int "MOST_THRESHOLD" (60))) rfl)
    k_MOST_TIMES := int_cst X Gm (c.fact 21 (f := .fa (.int "MOST_TIMES" (9))) rfl)
    g_Broken := He.glo_ok X Gm (c.fact 22 (f := .fa (.glo "Broken")) rfl)
    g_CannotBe := He.glo_ok X Gm (c.fact 23 (f := .fa (.glo "CannotBe")) rfl)
    g_InUse := He.glo_ok X Gm (c.fact 24 (f := .fa (.glo "InUse")) rfl)
    g_InvalidChanges := He.glo_ok X Gm (c.fact 25 (f := .fa (.glo "InvalidChanges")) rfl)
    g_InvalidChoice := He.glo_ok X Gm (c.fact 26 (f := .fa (.glo "InvalidChoice")) rfl)
    g_InvalidClaim := He.glo_ok X Gm (c.fact 27 (f := .fa (.glo "InvalidClaim")) rfl)
    g_InvalidFunctions := He.glo_ok X Gm (c.fact 28 (f := .fa (.glo "InvalidFunctions")) rfl)
    g_InvalidName := He.glo_ok X Gm (c.fact 29 (f := .fa (.glo "InvalidName")) rfl)
    g_InvalidNumber := He.glo_ok X Gm (c.fact 30 (f := .fa (.glo "InvalidNumber")) rfl)
    g_InvalidPart := He.glo_ok X Gm (c.fact 31 (f := .fa (.glo "InvalidPart")) rfl)
    g_InvalidPlace := He.glo_ok X Gm (c.fact 32 (f := .fa (.glo "InvalidPlace")) rfl)
    g_InvalidRules := He.glo_ok X Gm (c.fact 33 (f := .fa (.glo "InvalidRules")) rfl)
    g_InvalidSeen := He.glo_ok X Gm (c.fact 34 (f := .fa (.glo "InvalidSeen")) rfl)
    g_InvalidSite := He.glo_ok X Gm (c.fact 35 (f := .fa (.glo "InvalidSite")) rfl)
    g_InvalidText := He.glo_ok X Gm (c.fact 36 (f := .fa (.glo "InvalidText")) rfl)
    g_InvalidWish := He.glo_ok X Gm (c.fact 37 (f := .fa (.glo "InvalidWish")) rfl)
    g_NotAProgram := He.glo_ok X Gm (c.fact 38 (f := .fa (.glo "NotAProgram")) rfl)
    g_NotARule := He.glo_ok X Gm (c.fact 39 (f := .fa (.glo "NotARule")) rfl)
    g_NotOpen := He.glo_ok X Gm (c.fact 40 (f := .fa (.glo "NotOpen")) rfl)
    g_NotRight := He.glo_ok X Gm (c.fact 41 (f := .fa (.glo "NotRight")) rfl)
    g_NotThere := He.glo_ok X Gm (c.fact 42 (f := .fa (.glo "NotThere")) rfl)
    g_NothingToUndo := He.glo_ok X Gm (c.fact 43 (f := .fa (.glo "NothingToUndo")) rfl)
    g_OverBudget := He.glo_ok X Gm (c.fact 44 (f := .fa (.glo "OverBudget")) rfl)
    g_TooMany := He.glo_ok X Gm (c.fact 45 (f := .fa (.glo "TooMany")) rfl)
    g_UnknownName := He.glo_ok X Gm (c.fact 46 (f := .fa (.glo "UnknownName")) rfl)
    isi := ⟨c.fact 73 (f := .isi cls) rfl⟩ }
  have GX : Gx P K := {
    z_NothingToUndo := fz_of (c.fact 47 (f := .exz "NothingToUndo" "ArithmeticError") rfl)
    y_Broken := x2c_of (show xn2B K "Broken" "index" "shown" "/claim/cut.py" "ArithmeticError" = true from c.fact 48 (f := .ex2 "Broken" "index" "shown" "/claim/cut.py" "ArithmeticError") rfl) hP
    x_InUse := fx_of (c.fact 49 (f := .exn "InUse" "index" "/claim/cut.py" "LookupError") rfl) hP
    x_InvalidChanges := fx_of (c.fact 50 (f := .exn "InvalidChanges" "index" "/claim/cut.py" "ValueError") rfl) hP
    x_InvalidChoice := fx_of (c.fact 51 (f := .exn "InvalidChoice" "given" "/claim/cut.py" "ValueError") rfl) hP
    x_InvalidClaim := fx_of (c.fact 52 (f := .exn "InvalidClaim" "given" "/claim/cut.py" "ValueError") rfl) hP
    x_InvalidFunctions := fx_of (c.fact 53 (f := .exn "InvalidFunctions" "index" "/claim/cut.py" "ValueError") rfl) hP
    x_InvalidName := fx_of (c.fact 54 (f := .exn "InvalidName" "given" "/claim/cut.py" "ValueError") rfl) hP
    x_InvalidNumber := fx_of (c.fact 55 (f := .exn "InvalidNumber" "given" "/claim/cut.py" "ValueError") rfl) hP
    x_InvalidPart := fx_of (c.fact 56 (f := .exn "InvalidPart" "given" "/claim/cut.py" "ValueError") rfl) hP
    x_InvalidPlace := fx_of (c.fact 57 (f := .exn "InvalidPlace" "given" "/claim/cut.py" "ValueError") rfl) hP
    x_InvalidRules := fx_of (c.fact 58 (f := .exn "InvalidRules" "index" "/claim/cut.py" "ValueError") rfl) hP
    x_InvalidSeen := fx_of (c.fact 59 (f := .exn "InvalidSeen" "index" "/claim/cut.py" "ValueError") rfl) hP
    x_InvalidSite := fx_of (c.fact 60 (f := .exn "InvalidSite" "given" "/claim/cut.py" "ValueError") rfl) hP
    x_InvalidText := fx_of (c.fact 61 (f := .exn "InvalidText" "given" "/claim/cut.py" "ValueError") rfl) hP
    x_InvalidWish := fx_of (c.fact 62 (f := .exn "InvalidWish" "given" "/claim/cut.py" "ValueError") rfl) hP
    x_NotAProgram := fx_of (c.fact 63 (f := .exn "NotAProgram" "given" "/claim/cut.py" "ValueError") rfl) hP
    x_NotARule := fx_of (c.fact 64 (f := .exn "NotARule" "given" "/claim/cut.py" "ValueError") rfl) hP
    x_NotOpen := fx_of (c.fact 65 (f := .exn "NotOpen" "given" "/claim/cut.py" "LookupError") rfl) hP
    x_OverBudget := fx_of (c.fact 66 (f := .exn "OverBudget" "most" "/claim/cut.py" "ArithmeticError") rfl) hP
    x_TooMany := fx_of (c.fact 67 (f := .exn "TooMany" "most" "/claim/cut.py" "ArithmeticError") rfl) hP
    x_UnknownName := fx_of (c.fact 68 (f := .exn "UnknownName" "given" "/claim/cut.py" "LookupError") rfl) hP
    ise := fi_of (c.fact 69 (f := .exs csX nsX tsX) rfl)
    exo_Broken_CannotBe := of_decide_eq_true (show decide (PySem.W.exmOne K (.ref (He.ga K "Broken")) (.ref (He.ga K "CannotBe")) = some true) = true from c.fact 70 (f := .exo "Broken" "CannotBe") rfl)
    exo_InvalidText_NotRight := of_decide_eq_true (show decide (PySem.W.exmOne K (.ref (He.ga K "InvalidText")) (.ref (He.ga K "NotRight")) = some true) = true from c.fact 71 (f := .exo "InvalidText" "NotRight") rfl)
    exo_UnknownName_NotThere := of_decide_eq_true (show decide (PySem.W.exmOne K (.ref (He.ga K "UnknownName")) (.ref (He.ga K "NotThere")) = some true) = true from c.fact 72 (f := .exo "UnknownName" "NotThere") rfl) }
  obtain ⟨fd__law_given, F__law_given⟩ := c.def_ 0 (d := d0) rfl
  have o__law_given := ok__law_given (P := P) (w := w) (base := base) F__law_given G GX 
  have b__law_given : Binds K fd__law_given ["_law_thing"] [] := FunD.bindsN F__law_given fun _ _ _ _ _ _ us hl => match us, hl with | [_], _ => rfl
  have h__law_given_fn : CallOk true P w K mg base 2 "_law_given" 1 [] r__law_given := ⟨_, _, _, _, _, He.glo_ok X Gm (c.fact 74 (f := .fa (.glo "_law_given")) rfl), F__law_given.kp, b__law_given, .nil, fun _ => .nil, rfl, o__law_given⟩
  obtain ⟨fd__law_raised_right, F__law_raised_right⟩ := c.def_ 1 (d := d1) rfl
  have o__law_raised_right := ok__law_raised_right (P := P) (w := w) (base := base) F__law_raised_right G GX 
  have b__law_raised_right : Binds K fd__law_raised_right ["_law_thing"] [] := FunD.bindsN F__law_raised_right fun _ _ _ _ _ _ us hl => match us, hl with | [_], _ => rfl
  have h__law_raised_right_fn : CallOk true P w K mg base 2 "_law_raised_right" 1 [] r__law_raised_right := ⟨_, _, _, _, _, He.glo_ok X Gm (c.fact 75 (f := .fa (.glo "_law_raised_right")) rfl), F__law_raised_right.kp, b__law_raised_right, .nil, fun _ => .nil, rfl, o__law_raised_right⟩
  obtain ⟨fd__law_kept_right, F__law_kept_right⟩ := c.def_ 2 (d := d2) rfl
  have o__law_kept_right := ok__law_kept_right (P := P) (w := w) (base := base) F__law_kept_right G GX 
  have b__law_kept_right : Binds K fd__law_kept_right ["_law_found", "_law_thing"] [] := FunD.bindsN F__law_kept_right fun _ _ _ _ _ _ us hl => match us, hl with | [_, _], _ => rfl
  have h__law_kept_right_fn : CallOk true P w K mg base 1 "_law_kept_right" 2 [] r__law_kept_right := ⟨_, _, _, _, _, He.glo_ok X Gm (c.fact 76 (f := .fa (.glo "_law_kept_right")) rfl), F__law_kept_right.kp, b__law_kept_right, .nil, fun _ => .nil, rfl, o__law_kept_right⟩
  obtain ⟨fd__law_sorts, F__law_sorts⟩ := c.def_ 3 (d := d3) rfl
  have o__law_sorts := ok__law_sorts (P := P) (w := w) (base := base) F__law_sorts G GX 
  have b__law_sorts : Binds K fd__law_sorts ["_law_e"] [] := FunD.bindsN F__law_sorts fun _ _ _ _ _ _ us hl => match us, hl with | [_], _ => rfl
  have h__law_sorts_fn : CallOk true P w K mg base 1 "_law_sorts" 1 [] r__law_sorts := ⟨_, _, _, _, _, He.glo_ok X Gm (c.fact 77 (f := .fa (.glo "_law_sorts")) rfl), F__law_sorts.kp, b__law_sorts, .nil, fun _ => .nil, rfl, o__law_sorts⟩
  obtain ⟨fd__law_bases, F__law_bases⟩ := c.def_ 4 (d := d4) rfl
  have o__law_bases := ok__law_bases (P := P) (w := w) (base := base) F__law_bases G GX 
  have b__law_bases : Binds K fd__law_bases ["_law_e"] [] := FunD.bindsN F__law_bases fun _ _ _ _ _ _ us hl => match us, hl with | [_], _ => rfl
  have h__law_bases_fn : CallOk true P w K mg base 1 "_law_bases" 1 [] r__law_bases := ⟨_, _, _, _, _, He.glo_ok X Gm (c.fact 78 (f := .fa (.glo "_law_bases")) rfl), F__law_bases.kp, b__law_bases, .nil, fun _ => .nil, rfl, o__law_bases⟩
  obtain ⟨fd__law_due, F__law_due⟩ := c.def_ 5 (d := d5) rfl
  have o__law_due := ok__law_due (P := P) (w := w) (base := base) F__law_due G GX 
  have b__law_due : Binds K fd__law_due ["_law_k"] [] := FunD.bindsN F__law_due fun _ _ _ _ _ _ us hl => match us, hl with | [_], _ => rfl
  have h__law_due_fn : CallOk true P w K mg base 1 "_law_due" 1 [] r__law_due := ⟨_, _, _, _, _, He.glo_ok X Gm (c.fact 79 (f := .fa (.glo "_law_due")) rfl), F__law_due.kp, b__law_due, .nil, fun _ => .nil, rfl, o__law_due⟩
  obtain ⟨fd__law_right, F__law_right⟩ := c.def_ 6 (d := d6) rfl
  have o__law_right := ok__law_right (P := P) (w := w) (base := base) F__law_right G GX h__law_given_fn h__law_sorts_fn h__law_bases_fn h__law_due_fn h__law_kept_right_fn h__law_raised_right_fn
  have b__law_right : Binds K fd__law_right ["_law_thing"] [] := FunD.bindsN F__law_right fun _ _ _ _ _ _ us hl => match us, hl with | [_], _ => rfl
  have h__law_right_fn : CallOk true P w K mg base 3 "_law_right" 1 [] r__law_right := ⟨_, _, _, _, _, He.glo_ok X Gm (c.fact 80 (f := .fa (.glo "_law_right")) rfl), F__law_right.kp, b__law_right, .nil, fun _ => .nil, rfl, o__law_right⟩
  obtain ⟨fd_law, F_law⟩ := c.def_ 7 (d := d7) rfl
  have o_law := ok_law (P := P) (w := w) (base := base) F_law G GX h__law_right_fn
  have b_law : Binds K fd_law ["_law_cells"] [] := FunD.bindsN F_law fun _ _ _ _ _ _ us hl => match us, hl with | [_], _ => rfl
  exact ok_law (P := P) (w := w) (base := base) Fl G GX h__law_right_fn
end Wk
set_option maxHeartbeats 4000000
open PySem PySem.W PySem.Calls PyProof.Rows
theorem PySem.Challenge.cw_budgetfolds_k01_limits_and_errors_holds : PySem.Challenge.rw_budgetfolds_k01_limits_and_errors.Holds := by
  w_on; o_law
  refine HandSHeadRun.head_any (r := OpenLaw.row PySem.Challenge.rw_budgetfolds_k01_limits_and_errors) (q := view (OpenLaw.row PySem.Challenge.rw_budgetfolds_k01_limits_and_errors).prog [45]) (H := Wk.hk) (ob := Wk.ob) (M := 40000) (loose := Wk.ls) (d := HandSHeadRun.topDef (OpenLaw.row PySem.Challenge.rw_budgetfolds_k01_limits_and_errors).prog 45) (kwd := []) Wk.ob_eq
    (by kernel_rfl) (fun s => by kernel_rfl) Wk.run (by kernel_rfl) (by kernel_rfl) (by kernel_rfl) (by rfl) (by first | assumption | decide +kernel) (by decide +kernel) ⟨rfl, rfl, rfl, rfl, rfl, by decide +kernel⟩ ?hw ?hc
  case hw => w_witness2
  case hc =>
    refine DL.walk_G (l := PySem.Challenge.rw_budgetfolds_k01_limits_and_errors) (n := 63) (k := 4) (x := "_law_cells") (r := Wk.r_law) rfl (by decide) (by kernel_rfl) ⟨rfl, by decide, by decide⟩ ?F (fun ns h => Wk.law_true ns h)
    intro w mg fa h Y G hmg0
    obtain ⟨K, KX, hnl, c, ht⟩ := Y
    have hmg : mg ("law" : PySem.Str) = some (.ref fa) := by
      have e : (HandSHeadRun.topDef (OpenLaw.row PySem.Challenge.rw_budgetfolds_k01_limits_and_errors).prog 45).name = ("law" : PySem.Str) := by kernel_rfl
      rw [← e]
      exact hmg0
    obtain ⟨fd, hb, hF⟩ := Wk.facts (P := (PySem.Challenge.rw_budgetfolds_k01_limits_and_errors).prog) (w := w) ⟨by kernel_rfl, by kernel_rfl⟩ KX G hmg c
    exact ⟨K, fd, KX, hnl, ht, hb, hF⟩
