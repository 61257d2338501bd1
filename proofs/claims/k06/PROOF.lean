import PyProof.Rows.All
import Wide.All
import OpenK.AllK
import Wide.FinOn
import HandS.ForMost
import HandS.Exc
import HandS.WordsExc
import HandS.Walk
import HandS.Star
import HandS.TupAny
import HandS.TupMul
import HandS.Deep
import HandS.IsInst
import HandS.FStr
import HandS.SortInts
import HandS.Conv
import HandS.Dict
import HandS.RaiseMore
import HandS.Style
import HandS.Defaults
import HandS.SetFor
import HandS.SetKeys
import KE.GoesEnum
import PyProof.Rows.SortShellAny
import HandS.ClsMeth
import HandS.OwnEq
import KE.KCallOwn
import PyProof.InstNe
import KE.KFmtOwn
import KE.GoesZip
import KE.GoesMore
import HandS.Zip
import HandS.ExcInit
import KE.KExcSuper
import HandS.TryOnly
import HandS.ExcField
import HandS.ExcIs
import KE.KExcIs
import HandS.DictComp
import HandS.NoneIn
import KE.KOpsOwn
import PyProof.ReprRoads
import HandS.Property
import HandS.HeadHook2
import HandS.HeadEnd
import HandS.Head0
import HandS.Head1
import HandS.Head2
import HandS.Words
import KE.KStateDown
import PySem.Challenge.RW_lineturns_k06_texts_of_rules
section
set_option Elab.async false
set_option linter.all false
set_option maxRecDepth 100000
set_option autoImplicit false
set_option maxHeartbeats 2000000
set_option maxHeartbeats 2000000
namespace Pd
open PySem PySem.Spec L2
inductive Bt where
  | non | bool | int | str | list | tuple
  deriving DecidableEq
def Bt.name : Bt → String
  | .non => "NoneType"
  | .bool => "bool"
  | .int => "int"
  | .str => "str"
  | .list => "list"
  | .tuple => "tuple"
inductive Av where
  | non
  | bl (b : Bool)
  | int (i : Int)
  | str (x : Str)
  | lst (xs : List Av)
  | tup (xs : List Av)
  | fz (xs : List Av)
  | obj (c : Nat) (ns : List Str) (xs : List Av)
  | dct (ks vs : List Av)
  | ref (n : Nat)
  | ty (n : Bt)
  | cls (c : Nat)
end Pd
set_option maxHeartbeats 2000000
set_option maxHeartbeats 2000000
set_option maxHeartbeats 2000000
set_option maxHeartbeats 2000000
set_option maxHeartbeats 2000000
set_option maxHeartbeats 2000000
set_option maxHeartbeats 2000000
set_option maxHeartbeats 4000000
set_option maxHeartbeats 4000000
set_option maxHeartbeats 2000000
set_option maxHeartbeats 2000000
set_option maxHeartbeats 4000000
set_option maxHeartbeats 2000000
set_option maxHeartbeats 2000000
set_option maxHeartbeats 2000000
set_option maxHeartbeats 2000000
set_option maxHeartbeats 2000000
set_option maxHeartbeats 2000000
set_option maxHeartbeats 2000000
set_option maxHeartbeats 2000000
set_option maxHeartbeats 2000000
set_option maxHeartbeats 2000000
set_option maxHeartbeats 2000000
set_option maxHeartbeats 2000000
namespace Pd
open PySem PySem.Spec L2
def ieTail : List Value := [.type "IndexError", .type "LookupError", .type "Exception", .type "BaseException", .type "object"]
def veT : List Value := [.type "ValueError", .type "Exception", .type "BaseException", .type "object"]
end Pd
set_option maxHeartbeats 2000000
namespace Pd
open PySem PySem.Spec L2
def xiBody (x n : Str) : List Stmt → Bool
  | [.Expr (.Call (.Attribute (.Call (.Name s _) [] [] _) i ap) [.Name a _] [] cp) _, .Assign [.Attribute (.Name sf _) m _] (.Name b _) _] =>
    decide (s = "super") && decide (i = "__init__") && decide (a = x) && decide (sf = "self") && decide (m = n) && decide (b = x) && (ap.endLine == cp.line)
  | _ => false
def xiPar (x : Str) : Arguments → Bool
  | ⟨[], [a, b], none, [], [], none, []⟩ => decide (a.arg = "self") && decide (b.arg = x)
  | _ => false
def xiSc (x : Str) (sc : Scope) : Bool := decide (sc.kind = .function) && !sc.isCoroutine && !sc.isGenerator && decide (sc.names.lookup ("super" : Str) = some NameKind.globalImplicit) && decide (sc.names.lookup ("__class__" : Str) = some NameKind.free) &&
  decide (sc.names.lookup ("self" : Str) = some NameKind.local) && decide (sc.names.lookup x = some NameKind.local) && (sc.names.all fun y => decide (y.2 ≠ NameKind.cell)) && (decide (x = "word") || decide (x = "at"))
def xiB (file : Str) (K : PySem.W.Frag) (C f : Addr) (x n : Str) : Bool := match K.lookup f with
  | some ⟨_, _, .func fd, _⟩ => (match fd.closure, fd.code, fd.body, fd.defaults with
    | [(cn, cc)], .ref cda, .stmts body, .none => decide (cn = "__class__") && PySem.W.codeIn K (.ref cda) fd.qualname && (match K.lookup cda with
      | some ⟨_, _, .fields vs, _⟩ => (match vs[2]? with
        | some (Value.str fl _) => file == fl
        | _ => false)
      | _ => false) && (match K.lookup cc with
      | some ⟨_, _, .cell (some (.ref D)), _⟩ => decide (D = C)
      | _ => false) && decide (fd.globals = mainGlobals) && decide (fd.builtins = builtinsNs) && xiSc x fd.scope && xiBody x n body && xiPar x fd.params
    | _, _, _, _ => false)
  | _ => false
end Pd
set_option maxHeartbeats 2000000
namespace Pd
open PySem PySem.Spec L2
def xcB (K : PySem.W.Frag) (C : Addr) (n : Str) (B newId initId : String) (bmB : List Value) : Bool :=
  PySem.W.excInitIn K C bmB newId && PySem.W.excOver K C bmB && PySem.W.hasDictIn K C && decide (PySem.W.findIn K (.ref C) n = some none) && decide (PySem.W.findIn K (.ref C) "__setattr__" = some (some (.builtin "object.__setattr__"))) &&
  decide (PySem.W.subIn K (.ref C) (.type "BaseException") = some true) && decide (PySem.W.typeIn K (.ref C) = some (.type "type")) && PySem.W.keepIn K (.ref C) && decide (PySem.W.ks_superIn K C C "__init__" = some (some (.builtin initId))) && decide (PySem.W.nsIn K cStatics "thirdparty.any" = some none) &&
  decide (PySem.W.mroIn K C (.ref C) = some true) && decide (PySem.W.subIn K (.ref C) (.type B) = some true)
end Pd
set_option maxHeartbeats 2000000
set_option maxHeartbeats 2000000
set_option maxHeartbeats 2000000
namespace Pd
open PySem PySem.Spec L2
def xaB (K : PySem.W.Frag) (C : Addr) : Bool := xfB K C && (PySem.W.clsIn K C).isSome && decide (PySem.W.findIn K (.ref C) "__class__" = some (some (.builtin "object.__class__"))) && decide (PySem.W.specialIn K (.builtin "object.__class__") "__get__" = some (some (.builtin "getset_descriptor.__get__"))) &&
  decide (PySem.W.takesIn K (.builtin "object.__class__") = some true) && decide (PySem.W.mroIn K C (.type "object") = some true)
end Pd
set_option maxHeartbeats 2000000
set_option maxHeartbeats 2000000
set_option maxHeartbeats 2000000
set_option maxHeartbeats 2000000
namespace PySem.W
open PySem PySem.Calls PyProof.Rows
def noIadd (K : Frag) (C : Addr) : Bool := match clsIn K C with
  | some cd => cd.mro.all fun c => match findIn K c (dunderI "add") with
    | some none => true
    | _ => false
  | none => false
end PySem.W
set_option maxHeartbeats 2000000
set_option maxHeartbeats 2000000
set_option maxHeartbeats 2000000
set_option maxHeartbeats 2000000
set_option maxHeartbeats 2000000
set_option maxHeartbeats 2000000
namespace Pd
open PySem PySem.Spec L2
inductive Gk where
  | fn (id np : Nat) (dfl : List Av)
  | cls (c id np : Nat) (dfl : List Av) (fz : Bool)
  | con (v : Av)
  | fre
end Pd
set_option maxHeartbeats 2000000
set_option maxHeartbeats 2000000
set_option maxHeartbeats 2000000
set_option maxHeartbeats 2000000
set_option maxHeartbeats 2000000
set_option maxHeartbeats 2000000
set_option maxHeartbeats 2000000
namespace Pd
open PySem PySem.Spec L2
inductive Pt where
  | glo (x : Str)
  | met (c m : Str)
  | cme (c m : Str)
  | prp (c m : Str)
def clsRec (K : PySem.W.Frag) (c m : Str) : Addr := He.ma K (He.ga K c) m
def Pt.ad (K : PySem.W.Frag) : Pt → Addr
  | .glo x => He.ga K x
  | .met c m => He.ma K (He.ga K c) m
  | .cme c m => (match PySem.W.recIn K (clsRec K c m) "classmethod" with
    | some (.ref g :: _) => g
    | _ => 0)
  | .prp c m => (match PySem.W.recIn K (clsRec K c m) "property" with
    | some (.ref g :: _) => g
    | _ => 0)
structure FnE where
  pt : Pt
  name : Str
  qual : Str
  params : Arguments
  body : List Stmt
  scope : Scope
  dfl : List Av
  ps : List Str
  N : List Str
  mu : List Str
  keep : Bool
  cv : List (Str × Str)
def clBody : Stmt → List Stmt
  | .ClassDef (body := b) .. => b
  | _ => []
mutual
def conB (K : PySem.W.Frag) : Av → Value → Bool
  | .non, .none => true
  | .bl b, .bool c => b == c
  | .int i, .int j _ => decide (i = j)
  | .str x, .str y _ => decide (x = y)
  | .tup xs, .ref a => (match K.lookup a with
    | some ⟨.type c, _, .seq its _, _⟩ => decide (c = "tuple") && decide (its.size ≤ sizeLine) && consB K xs its.toList
    | _ => false)
  | _, _ => false
def consB (K : PySem.W.Frag) : List Av → List Value → Bool
  | [], [] => true
  | x :: xs, u :: us => conB K x u && consB K xs us
  | _, _ => false
end
def fnW (K : PySem.W.Frag) (p : Pt) : He.FnW := match K.lookup (p.ad K) with
  | some ⟨_, _, .func fd, _⟩ => some (fd.name, fd.qualname, fd.params, fd.body, fd.scope, fd.globals, fd.closure, fd.builtins)
  | _ => none
def FnE.val (d : FnE) : He.FnW := some (d.name, d.qual, d.params, .stmts d.body, d.scope, mainGlobals, [], builtinsNs)
def dItems (K : PySem.W.Frag) (dV : Value) : Option (List Value) := match dV with
  | .none => some []
  | .ref T => (match K.lookup T with
    | some ⟨_, _, .seq its _, _⟩ => some its.toList
    | _ => none)
  | _ => none
def FnE.ok (K : PySem.W.Frag) (d : FnE) : Bool := PySem.W.keepIn K (.ref (d.pt.ad K)) && (match K.lookup (d.pt.ad K) with
  | some ⟨_, _, .func fd, _⟩ => PySem.W.codeIn K fd.code d.qual && (match dItems K fd.defaults with
    | some us => consB K d.dfl us && (match fd.defaults with
      | .none => true
      | _ => !us.isEmpty)
    | none => false)
  | _ => false)
structure Pg where
  fns : List FnE
  cls : List Str
  exs : List Str
  G : List (Str × Gk)
  ms : List (Str × (Nat × Nat × Nat × List Av))
  cm : List (Str × (Nat × Nat × Nat × List Av))
  fl : List Str
  eqs : List (Nat × Nat)
  dns : List (Str × (Nat × Nat))
  wh : Nat
  fu : Nat
  xns : List (Str × (Nat × Str × Bool))
  xms : List (Str × List (Nat × Bool))
  xfs : List Str
  file : Str
  prs : List (Str × (Nat × Nat))
def Pg.cs (p : Pg) : List Str := p.cls.filter fun x => !decide (x = Str.empty)
def Pg.cn (p : Pg) (c : Nat) : Str := (p.cls[c]?).getD Str.empty
def bts : List Bt := [.non, .bool, .int, .str, .list, .tuple]
def bts1 : List Bt := [.bool, .int, .str, .list, .tuple]
def clsOk (K : PySem.W.Frag) (x : Str) : Bool :=
  (He.Fa.cls x).ok K && decide (PySem.W.findIn K (.ref (He.ga K x)) "__class__" = some (some (.builtin "object.__class__"))) && decide (PySem.W.mroIn K (He.ga K x) (.type "object") = some true) &&
  (bts.all fun a => decide (PySem.W.kitOne K (.type a.name) (.ref (He.ga K x)) = some false)) && (bts1.all fun b => decide (PySem.W.kitOne K (.ref (He.ga K x)) (.type b.name) = some false))
def pairsOk (K : PySem.W.Frag) (cs : List Str) : Bool := (List.range cs.length).all fun i => (List.range cs.length).all fun j => match cs[i]?, cs[j]? with
  | some x, some y => decide (x = Str.empty) || decide (y = Str.empty) || decide (PySem.W.kitOne K (.ref (He.ga K x)) (.ref (He.ga K y)) = some (Nat.beq i j))
  | _, _ => false
def eqOk (K : PySem.W.Frag) (cs : List Str) (x : Str) : Bool :=
  decide (PySem.W.findIn K (.ref (He.ga K x)) "__eq__" = some (some (.ref (He.ma K (He.ga K x) "__eq__")))) && PySem.W.isFn K (.ref (He.ma K (He.ga K x) "__eq__")) &&
  (bts.all fun b => PySem.W.notFirst K (He.ga K x) (.type b.name)) && (cs.all fun y => PySem.W.notFirst K (He.ga K x) (.ref (He.ga K y))) && decide (PySem.W.findIn K (.ref (He.ga K x)) "__ne__" = some (some (.builtin "object.__ne__"))) && decide (PySem.W.mroIn K (He.ga K x) (.type "object") = some true) && (bts.all fun b => decide (PySem.W.subIn K (.ref (He.ga K x)) (.type b.name) = some false))
def dnOk (K : PySem.W.Frag) (x m : Str) : Bool :=
  decide (PySem.W.findIn K (.ref (He.ga K x)) m = some (some (.ref (He.ma K (He.ga K x) m)))) && PySem.W.isFn K (.ref (He.ma K (He.ga K x) m)) && PySem.W.fnIn K (He.ma K (He.ga K x) m) && (if m = "__add__" then PySem.W.selfFirst K (He.ga K x) && PySem.W.noIadd K (He.ga K x) else if m = "__iadd__" then PySem.W.selfFirst K (He.ga K x) else true)
def cmOk (K : PySem.W.Frag) (c m : Str) : Bool := match PySem.W.typeIn K (.ref (He.ga K c)) with
  | some mc => PySem.W.readsIn K (He.ga K c) mc && decide (PySem.W.specialIn K (.ref (He.ga K c)) "__getattribute__" = some (some (.builtin "type.__getattribute__"))) &&
    (match PySem.W.findCls K (.ref (He.ga K c)) mc m with
      | some (.get g a b d) => decide (g = .builtin "classmethod.__get__") && decide (a = .ref (clsRec K c m)) && decide (b = .none) && decide (d = .ref (He.ga K c))
      | _ => false) && (match PySem.W.recIn K (clsRec K c m) "classmethod" with
      | some (.ref g :: _) => PySem.W.fnIn K g
      | _ => false)
  | none => false
def xnOk (K : PySem.W.Frag) (exs : List Str) (file x : Str) (k : Nat) (n : Str) (ie : Bool) : Bool :=
  decide (exs[k]? = some x) && decide (PySem.W.nsIn K mainGlobals x = some (some (.ref (He.ga K x)))) && (if ie then xcB K (He.ga K x) n "IndexError" "IndexError.__new__" "IndexError.__init__" ieTail else xcB K (He.ga K x) n "ValueError" "ValueError.__new__" "ValueError.__init__" veT) &&
  xiB file K (He.ga K x) (He.ma K (He.ga K x) "__init__") n n && decide (PySem.W.findIn K (.ref (He.ga K x)) "__init__" = some (some (.ref (He.ma K (He.ga K x) "__init__")))) && decide (PySem.W.typeIn K (.ref (He.ma K (He.ga K x) "__init__")) = some (.type "function")) && decide (PySem.W.nsIn K mainGlobals "super" = some none)
def cvOf (K : PySem.W.Frag) (y : Str) : Value := match PySem.W.nsIn K mainGlobals y with
  | some (some v) => v
  | _ => (bootBuiltins y).getD .none
def cvB (K : PySem.W.Frag) (y : Str) : Bool := match cvOf K y with
  | .ref a => decide (PySem.W.nsIn K mainGlobals y = some (some (.ref a)))
  | .type t => decide (PySem.W.nsIn K mainGlobals y = some none) && decide (bootBuiltins y = some (.type t)) && !decide (y = "__name__")
  | _ => false
def xmOk (K : PySem.W.Frag) (exs xfs : List Str) (y : Str) (l : List (Nat × Bool)) : Bool := cvB K y && l.all fun q => match exs[q.1]? with
  | some nm => decide (PySem.W.exmOne K (.ref (He.ga K nm)) (cvOf K y) = some q.2) && decide (PySem.W.kitOne K (.ref (He.ga K nm)) (cvOf K y) = some q.2) && xaB K (He.ga K nm) && xfs.all fun f => decide (PySem.W.findIn K (.ref (He.ga K nm)) f = some none)
  | none => false
def prOk (K : PySem.W.Frag) (c m : Str) : Bool := decide (PySem.W.findIn K (.ref (He.ga K c)) m = some (some (.ref (clsRec K c m)))) && decide (PySem.W.specialIn K (.ref (clsRec K c m)) "__get__" = some (some (.builtin "property.__get__"))) && decide (PySem.W.takesIn K (.ref (clsRec K c m)) = some true) && (match PySem.W.recIn K (clsRec K c m) "property" with
  | some (.ref _ :: _) => true
  | _ => false)
def Pg.chk (p : Pg) (K : PySem.W.Frag) : Bool :=
  (p.fns.all fun d => d.ok K) &&
  (p.G.all fun q => match q.2 with
    | .fn _ _ _ => decide (PySem.W.nsIn K mainGlobals q.1 = some (some (.ref (He.ga K q.1))))
    | .cls _ _ _ _ _ => decide (PySem.W.nsIn K mainGlobals q.1 = some (some (.ref (He.ga K q.1)))) && (He.Fa.mkr q.1).ok K
    | .con v => (match PySem.W.nsIn K mainGlobals q.1 with
      | some (some u) => conB K v u
      | _ => false)
    | .fre => decide (PySem.W.nsIn K mainGlobals q.1 = some none)) &&
  (p.cs.all fun x => clsOk K x) && pairsOk K p.cls && decide (PySem.W.specialIn K (.builtin "object.__class__") "__get__" = some (some (.builtin "getset_descriptor.__get__"))) && decide (PySem.W.takesIn K (.builtin "object.__class__") = some true) &&
  (p.ms.all fun q => (He.Fa.meth (p.cn q.2.1) q.1).ok K) && (p.cm.all fun q => cmOk K (p.cn q.2.1) q.1) && (p.cs.all fun x => p.fl.all fun f => (He.Fa.noat x f).ok K) && (p.eqs.all fun q => eqOk K p.cs (p.cn q.1)) && (p.dns.all fun q => dnOk K (p.cn q.2.1) q.1) &&
  (p.xns.all fun q => xnOk K p.exs p.file q.1 q.2.1 q.2.2.1 q.2.2.2) && (p.xms.all fun q => xmOk K p.exs p.xfs q.1 q.2) && (p.prs.all fun q => prOk K (p.cn q.2.1) q.1)
end Pd
set_option maxHeartbeats 2000000
namespace Pd
open PySem PySem.Spec L2
structure KFacts (p : Pg) (K : PySem.W.Frag) : Prop where
  chk : p.chk K = true
  fns : ∀ d ∈ p.fns, fnW K d.pt = d.val
end Pd
set_option maxHeartbeats 2000000
namespace Pd
open PySem PySem.Spec L2
abbrev Al : Type := Bool × List He.FnW
def frP (g : Addr → Option Obj) (n : Nat) : PySem.W.Frag := He.frG g (cStatics :: He.asD g n)
def Pg.obsG (p : Pg) (n : Nat) (g : Addr → Option Obj) : Al := (p.chk (frP g n), p.fns.map fun d => fnW (frP g n) d.pt)
def Pg.val (p : Pg) : Al := (true, p.fns.map FnE.val)
theorem says_of {p : Pg} {n : Nat} {g : Addr → Option Obj} (h : p.obsG n g = p.val) : KFacts p (frP g n) := by
  have h1 : p.chk (frP g n) = true := congrArg (fun z : Al => z.1) h
  have h2 : (p.fns.map fun d => fnW (frP g n) d.pt) = p.fns.map FnE.val := congrArg (fun z : Al => z.2) h
  refine ⟨h1, fun d hd => ?_⟩
  exact List.map_inj_left.mp h2 d hd
def Pg.hook (p : Pg) (n : Nat) : PySem.W.Hook where
  α := Al
  obs := fun s => p.obsG n s.heap.get?
  val := fun _ => p.val
  says := fun _ h => ∃ K : PySem.W.Frag, K.In h ∧ KFacts p K
  of := fun _ _ e => ⟨_, He.frG_in, says_of e⟩
  keeps := fun _ _ _ ⟨K, hK, c⟩ k => ⟨K, PySem.W.Frag.In.keeps hK k, c⟩
end Pd
set_option maxHeartbeats 2000000
set_option maxHeartbeats 2000000
set_option maxHeartbeats 0
set_option maxHeartbeats 2000000
namespace LW
open PySem PySem.Spec L2 Pd
def top (i : Nat) : Stmt := PySem.Challenge.pw_lineturns_k06_texts_of_rules.main.body.getD i (.Pass ⟨0, 0, 0, 0⟩)
def sub (i j : Nat) : Stmt := (clBody (top i)).getD j (.Pass ⟨0, 0, 0, 0⟩)
def f_law_seed : FnE := ⟨.glo "_law_seed", "_law_seed", "_law_seed", defArgs (top 37), defBody (top 37), defScope (top 37), [], ["_law_script", "_law_k"], ["_law_script", "_law_k", "_law_cell"], [], true, []⟩
def f_law_row_text : FnE := ⟨.glo "_law_row_text", "_law_row_text", "_law_row_text", defArgs (top 44), defBody (top 44), defScope (top 44), [], ["_law_row"], ["_law_row"], [], false, []⟩
def f_law_rule_text : FnE := ⟨.glo "_law_rule_text", "_law_rule_text", "_law_rule_text", defArgs (top 45), defBody (top 45), defScope (top 45), [], ["_law_rule_here"], ["_law_rule_here", "_law_row"], [], false, []⟩
def f_is_name : FnE := ⟨.glo "is_name", "is_name", "is_name", defArgs (top 16), defBody (top 16), defScope (top 16), [], ["value"], ["value", "letter"], [], false, []⟩
def f_first_of : FnE := ⟨.glo "first_of", "first_of", "first_of", defArgs (top 34), defBody (top 34), defScope (top 34), [], ["line"], ["line", "words"], [], false, []⟩
def f_is_word : FnE := ⟨.glo "is_word", "is_word", "is_word", defArgs (top 15), defBody (top 15), defScope (top 15), [], ["value", "words"], ["value", "words"], [], false, []⟩
def m_Row_init : FnE := ⟨.met "Row" "__init__", "__init__", "Row.__init__", defArgs (sub 31 0), defBody (sub 31 0), defScope (sub 31 0), [.bl false], ["self", "mode", "pick", "move", "then", "also"], ["self", "mode", "pick", "move", "then", "also"], [], false, []⟩
def m_Row_str : FnE := ⟨.met "Row" "__str__", "__str__", "Row.__str__", defArgs (sub 31 2), defBody (sub 31 2), defScope (sub 31 2), [], ["self"], ["self"], [], false, []⟩
def m_Row_eq : FnE := ⟨.met "Row" "__eq__", "__eq__", "Row.__eq__", defArgs (sub 31 1), defBody (sub 31 1), defScope (sub 31 1), [], ["self", "other"], ["self", "other"], [], false, []⟩
def f_row_of : FnE := ⟨.glo "row_of", "row_of", "row_of", defArgs (top 32), defBody (top 32), defScope (top 32), [], ["text"], ["text", "words", "also"], [], false, []⟩
def m_Rule_read : FnE := ⟨.cme "Rule" "read", "read", "Rule.read", defArgs (sub 35 1), defBody (sub 35 1), defScope (sub 35 1), [], ["cls", "text"], ["cls", "text", "lines", "first", "rows", "line"], [], false, [("cls", "Rule")]⟩
def f_is_sequence : FnE := ⟨.glo "is_sequence", "is_sequence", "is_sequence", defArgs (top 17), defBody (top 17), defScope (top 17), [], ["value"], ["value"], [], false, []⟩
def m_Rule_init : FnE := ⟨.met "Rule" "__init__", "__init__", "Rule.__init__", defArgs (sub 35 0), defBody (sub 35 0), defScope (sub 35 0), [.tup []], ["self", "first", "rows"], ["self", "first", "rows", "names", "row", "name"], [], false, []⟩
def m_Rule_str : FnE := ⟨.met "Rule" "__str__", "__str__", "Rule.__str__", defArgs (sub 35 11), defBody (sub 35 11), defScope (sub 35 11), [], ["self"], ["self", "row"], [], false, []⟩
def m_Rule_len : FnE := ⟨.met "Rule" "__len__", "__len__", "Rule.__len__", defArgs (sub 35 6), defBody (sub 35 6), defScope (sub 35 6), [], ["self"], ["self"], [], false, []⟩
def m_Rule_getitem : FnE := ⟨.met "Rule" "__getitem__", "__getitem__", "Rule.__getitem__", defArgs (sub 35 7), defBody (sub 35 7), defScope (sub 35 7), [], ["self", "at"], ["self", "at"], [], false, []⟩
def f_ascending : FnE := ⟨.glo "ascending", "ascending", "ascending", defArgs (top 24), defBody (top 24), defScope (top 24), [], ["asking"], ["asking", "asker"], [], false, []⟩
def f_is_integer : FnE := ⟨.glo "is_integer", "is_integer", "is_integer", defArgs (top 14), defBody (top 14), defScope (top 14), [], ["value"], ["value"], [], false, []⟩
def f_is_round : FnE := ⟨.glo "is_round", "is_round", "is_round", defArgs (top 23), defBody (top 23), defScope (top 23), [], ["value", "askers"], ["value", "askers", "asker"], [], false, []⟩
def f_good_rounds : FnE := ⟨.glo "good_rounds", "good_rounds", "good_rounds", defArgs (top 25), defBody (top 25), defScope (top 25), [], ["askers", "rounds"], ["askers", "rounds", "at", "asking"], [], false, []⟩
def m_Played_init : FnE := ⟨.met "Played" "__init__", "__init__", "Played.__init__", defArgs (sub 26 0), defBody (sub 26 0), defScope (sub 26 0), [], ["self", "first"], ["self", "first"], [], false, []⟩
def f_region_of : FnE := ⟨.glo "region_of", "region_of", "region_of", defArgs (top 19), defBody (top 19), defScope (top 19), [], ["pick", "pointer", "askers"], ["pick", "pointer", "askers"], [], false, []⟩
def f_granted_by : FnE := ⟨.glo "granted_by", "granted_by", "granted_by", defArgs (top 20), defBody (top 20), defScope (top 20), [], ["row", "pointer", "askers", "asking"], ["row", "pointer", "askers", "asking", "asker", "begin", "end"], [], false, []⟩
def f_pointer_behind : FnE := ⟨.glo "pointer_behind", "pointer_behind", "pointer_behind", defArgs (top 21), defBody (top 21), defScope (top 21), [], ["row", "pointer", "granted"], ["row", "pointer", "granted"], [], false, []⟩
def f_round_done : FnE := ⟨.glo "round_done", "round_done", "round_done", defArgs (top 22), defBody (top 22), defScope (top 22), [], ["rule", "mode", "pointer", "askers", "asking"], ["rule", "mode", "pointer", "askers", "asking", "done", "grants", "behind", "at", "row", "granted", "asker"], ["grants"], false, []⟩
def f_faults_in : FnE := ⟨.glo "faults_in", "faults_in", "faults_in", defArgs (top 27), defBody (top 27), defScope (top 27), [], ["asking", "grants"], ["asking", "grants"], [], false, []⟩
def f_play : FnE := ⟨.glo "play", "play", "play", defArgs (top 28), defBody (top 28), defScope (top 28), [], ["rule", "askers", "rounds"], ["rule", "askers", "rounds", "asking", "played", "faults", "told", "fault"], ["faults"], false, []⟩
def m_Rule_call : FnE := ⟨.met "Rule" "__call__", "__call__", "Rule.__call__", defArgs (sub 35 5), defBody (sub 35 5), defScope (sub 35 5), [], ["self", "askers", "rounds"], ["self", "askers", "rounds"], [], false, []⟩
def m_Rule_add : FnE := ⟨.met "Rule" "__add__", "__add__", "Rule.__add__", defArgs (sub 35 9), defBody (sub 35 9), defScope (sub 35 9), [], ["self", "other"], ["self", "other"], [], false, []⟩
def m_Rule_eq : FnE := ⟨.met "Rule" "__eq__", "__eq__", "Rule.__eq__", defArgs (sub 35 10), defBody (sub 35 10), defScope (sub 35 10), [], ["self", "other"], ["self", "other"], [], false, []⟩
def f_law_read : FnE := ⟨.glo "_law_read", "_law_read", "_law_read", defArgs (top 49), defBody (top 49), defScope (top 49), [], ["_law_text"], ["_law_text", "_law_found", "e"], [], false, []⟩
def f_law_choose : FnE := ⟨.glo "_law_choose", "_law_choose", "_law_choose", defArgs (top 38), defBody (top 38), defScope (top 38), [], ["_law_box", "_law_many"], ["_law_box", "_law_many", "_law_first", "_law_digit"], ["_law_box"], false, []⟩
def f_law_one_of : FnE := ⟨.glo "_law_one_of", "_law_one_of", "_law_one_of", defArgs (top 39), defBody (top 39), defScope (top 39), [], ["_law_box", "_law_some"], ["_law_box", "_law_some"], [], false, []⟩
def f_law_fair_rows : FnE := ⟨.glo "_law_fair_rows", "_law_fair_rows", "_law_fair_rows", defArgs (top 42), defBody (top 42), defScope (top 42), [], ["_law_box", "_law_names_here"], ["_law_box", "_law_names_here", "_law_found", "_law_at", "_law_name", "_law_later", "_law_form"], ["_law_found"], false, []⟩
def f_law_names : FnE := ⟨.glo "_law_names", "_law_names", "_law_names", defArgs (top 40), defBody (top 40), defScope (top 40), [], ["_law_box"], ["_law_box", "_law_some"], [], false, []⟩
def f_law_any_row : FnE := ⟨.glo "_law_any_row", "_law_any_row", "_law_any_row", defArgs (top 41), defBody (top 41), defScope (top 41), [], ["_law_box", "_law_names_here"], ["_law_box", "_law_names_here", "_law_pick", "_law_move"], [], false, []⟩
def f_law_rule : FnE := ⟨.glo "_law_rule", "_law_rule", "_law_rule", defArgs (top 43), defBody (top 43), defScope (top 43), [], ["_law_box", "_law_most"], ["_law_box", "_law_most", "_law_names_here", "_law_found", "_law_turn", "_law_at", "_law_form", "_law_fresh"], [], false, []⟩
def f_law_bent : FnE := ⟨.glo "_law_bent", "_law_bent", "_law_bent", defArgs (top 50), defBody (top 50), defScope (top 50), [], ["_law_box", "_law_text"], ["_law_box", "_law_text", "_law_at", "_law_odd", "_law_spot", "_law_sign", "_law_lines", "_law_form"], [], false, []⟩
def f_law_is_name : FnE := ⟨.glo "_law_is_name", "_law_is_name", "_law_is_name", defArgs (top 46), defBody (top 46), defScope (top 46), [], ["_law_value"], ["_law_value", "_law_sign"], [], false, []⟩
def f_law_is_row : FnE := ⟨.glo "_law_is_row", "_law_is_row", "_law_is_row", defArgs (top 47), defBody (top 47), defScope (top 47), [], ["_law_line"], ["_law_line", "_law_words"], [], false, []⟩
def f_law_wrong : FnE := ⟨.glo "_law_wrong", "_law_wrong", "_law_wrong", defArgs (top 48), defBody (top 48), defScope (top 48), [], ["_law_text"], ["_law_text", "_law_at", "_law_line", "_law_words"], [], false, []⟩
def f_law_is_small : FnE := ⟨.glo "_law_is_small", "_law_is_small", "_law_is_small", defArgs (top 51), defBody (top 51), defScope (top 51), [], ["_law_text"], ["_law_text", "_law_found", "_law_spot", "_law_line", "_law_words", "_law_at", "_law_word"], ["_law_found"], false, []⟩
def f_law : FnE := ⟨.glo "law", "law", "law", defArgs (top 52), defBody (top 52), defScope (top 52), [], ["_law_script"], ["_law_script", "_law_k", "_law_box", "_law_turn", "_law_text", "_law_more", "_law_bent_here", "_law_wrong_here"], [], false, []⟩
def fns : List FnE := f_law_seed :: f_law_row_text :: f_law_rule_text :: f_is_name :: f_first_of :: f_is_word :: m_Row_init :: m_Row_str :: m_Row_eq :: f_row_of :: m_Rule_read :: f_is_sequence :: m_Rule_init :: m_Rule_str :: m_Rule_len :: m_Rule_getitem :: f_ascending :: f_is_integer :: f_is_round :: f_good_rounds :: m_Played_init :: f_region_of :: f_granted_by :: f_pointer_behind :: f_round_done :: f_faults_in :: f_play :: m_Rule_call :: m_Rule_add :: m_Rule_eq :: f_law_read :: f_law_choose :: f_law_one_of :: f_law_fair_rows :: f_law_names :: f_law_any_row :: f_law_rule :: f_law_bent :: f_law_is_name :: f_law_is_row :: f_law_wrong :: f_law_is_small :: f_law :: []
def cls : List Str := ["Row", "Rule", "Played"]
def G : List (Str × Gk) := ("BARRED", .con (.tup [.str "also"])) ::
  ("LETTERS", .con (.str "abcdefghijklmnopqrstuvwxyz")) ::
  ("MOST_LETTERS", .con (.int 4)) ::
  ("MOVES", .con (.tup [.str "stay", .str "on", .str "home"])) ::
  ("PICKS", .con (.tup [.str "keep", .str "at", .str "past", .str "under", .str "all"])) ::
  ("Played", .cls 2 20 1 [] false) ::
  ("Row", .cls 0 6 5 [.bl false] true) ::
  ("Rule", .cls 1 12 2 [.tup []] true) ::
  ("SHORT", .con (.int 4)) ::
  ("_law_any_row", .fn 35 2 []) ::
  ("_law_bent", .fn 37 2 []) ::
  ("_law_choose", .fn 31 2 []) ::
  ("_law_fair_rows", .fn 33 2 []) ::
  ("_law_is_name", .fn 38 1 []) ::
  ("_law_is_row", .fn 39 1 []) ::
  ("_law_is_small", .fn 41 1 []) ::
  ("_law_names", .fn 34 1 []) ::
  ("_law_one_of", .fn 32 2 []) ::
  ("_law_read", .fn 30 1 []) ::
  ("_law_row_text", .fn 1 1 []) ::
  ("_law_rule", .fn 36 2 []) ::
  ("_law_rule_text", .fn 2 1 []) ::
  ("_law_seed", .fn 0 2 []) ::
  ("_law_wrong", .fn 40 1 []) ::
  ("abs", .fre) ::
  ("all", .fre) ::
  ("ascending", .fn 16 1 []) ::
  ("bool", .fre) ::
  ("enumerate", .fre) ::
  ("faults_in", .fn 25 2 []) ::
  ("first_of", .fn 4 1 []) ::
  ("good_rounds", .fn 19 2 []) ::
  ("granted_by", .fn 22 4 []) ::
  ("int", .fre) ::
  ("is_integer", .fn 17 1 []) ::
  ("is_name", .fn 3 1 []) ::
  ("is_round", .fn 18 2 []) ::
  ("is_sequence", .fn 11 1 []) ::
  ("is_word", .fn 5 2 []) ::
  ("isinstance", .fre) ::
  ("len", .fre) ::
  ("list", .fre) ::
  ("max", .fre) ::
  ("min", .fre) ::
  ("play", .fn 26 3 []) ::
  ("pointer_behind", .fn 23 3 []) ::
  ("range", .fre) ::
  ("region_of", .fn 21 3 []) ::
  ("repr", .fre) ::
  ("round_done", .fn 24 5 []) ::
  ("row_of", .fn 9 1 []) ::
  ("set", .fre) ::
  ("sorted", .fre) ::
  ("str", .fre) ::
  ("tuple", .fre) ::
  ("law", .fn 42 1 []) :: []
def ms : List (Str × (Nat × Nat × Nat × List Av)) := []
def cm : List (Str × (Nat × Nat × Nat × List Av)) := ("read", (1, 10, 1, [])) :: []
def fl : List Str := ["also", "at", "done", "faults", "first", "grants", "mode", "modes", "move", "pick", "pointers", "rows", "then"]
def eqs : List (Nat × Nat) := [(0, 8), (1, 29)]
def dns : List (Str × (Nat × Nat)) := [("__str__", (0, 7)), ("__str__", (1, 13)), ("__len__", (1, 14)), ("__getitem__", (1, 15)), ("__call__", (1, 27)), ("__add__", (1, 28))]
def exs : List Str := ["LineError", "InvalidRow", "InvalidRule", "InvalidText", "InvalidRound", "", "", "", "NoRow"]
def xns : List (Str × (Nat × Str × Bool)) := ("InvalidRow", (1, "word", false)) :: ("InvalidRule", (2, "word", false)) :: ("InvalidText", (3, "at", false)) :: ("InvalidRound", (4, "at", false)) :: ("NoRow", (8, "at", true)) :: []
def xms : List (Str × List (Nat × Bool)) := ("InvalidRow", [(0, false), (1, true), (2, false), (3, false), (4, false), (8, false)]) :: ("InvalidRule", [(0, false), (1, false), (2, true), (3, false), (4, false), (8, false)]) :: ("InvalidText", [(0, false), (1, false), (2, false), (3, true), (4, false), (8, false)]) :: ("LineError", [(0, true), (1, true), (2, true), (3, true), (4, true), (8, false)]) :: []
def xfs : List Str := ["word", "at"]
def prs : List (Str × (Nat × Nat)) := []
def pg : Pg := ⟨fns, cls, exs, G, ms, cm, fl, eqs, dns, 100, 40, xns, xms, xfs, PySem.Challenge.pw_lineturns_k06_texts_of_rules.main.file, prs⟩
end LW
set_option maxHeartbeats 2000000
namespace LW
open PySem PySem.Spec PyProof.Rows L2 Pd
abbrev R : PySem.W.OpenRow := PySem.W.OpenLaw.row PySem.Challenge.rw_lineturns_k06_texts_of_rules
abbrev hk : PySem.W.Hook := pg.hook 6
def ob (s : PySem.W.SharedT) : Pd.Al := pg.obsG 6 (HandSHeadRun.getT s)
def loose : List PySem.Str := (["_wall", "LineError", "InvalidRow", "InvalidRule", "InvalidText", "InvalidRound", "NoRow", "PICKS", "MOVES", "BARRED", "LETTERS", "MOST_LETTERS", "is_integer", "is_word", "is_name", "is_sequence", "region_of", "granted_by", "pointer_behind", "round_done", "is_round", "ascending", "good_rounds", "Played", "faults_in", "play", "SHORT", "Row", "row_of", "first_of"] : List PySem.Str) ++ (["Rule", "_law_seed", "_law_choose", "_law_one_of", "_law_names", "_law_any_row", "_law_fair_rows", "_law_rule", "_law_row_text", "_law_rule_text", "_law_is_name", "_law_is_row", "_law_wrong", "_law_read", "_law_bent", "_law_is_small"] : List PySem.Str)
theorem run (w : World) : HandSHeadRun.RunEq R (PySem.W.view R.prog [52]) hk ob 8000 loose w := by
  intro os
  kernel_rfl
end LW
set_option maxHeartbeats 2000000
set_option maxHeartbeats 2000000
set_option maxHeartbeats 2000000
set_option maxHeartbeats 2000000
set_option maxHeartbeats 2000000
set_option maxHeartbeats 2000000
set_option maxHeartbeats 2000000
set_option maxHeartbeats 2000000
set_option maxHeartbeats 2000000
set_option maxHeartbeats 2000000
set_option maxHeartbeats 2000000
set_option maxHeartbeats 2000000
set_option maxHeartbeats 2000000
set_option maxHeartbeats 2000000
set_option maxHeartbeats 2000000
set_option maxHeartbeats 2000000
set_option maxHeartbeats 2000000
set_option maxHeartbeats 2000000
set_option maxHeartbeats 2000000
set_option maxHeartbeats 2000000
set_option maxHeartbeats 2000000
set_option maxHeartbeats 2000000
set_option maxHeartbeats 2000000
set_option maxHeartbeats 2000000
set_option maxHeartbeats 2000000
set_option maxHeartbeats 2000000
set_option maxHeartbeats 2000000
set_option maxHeartbeats 800000
set_option maxHeartbeats 800000
set_option maxHeartbeats 800000
set_option maxHeartbeats 800000
set_option maxHeartbeats 800000
set_option maxHeartbeats 800000
set_option maxHeartbeats 800000
set_option maxHeartbeats 800000
set_option maxHeartbeats 800000
set_option maxHeartbeats 2000000
open PySem PySem.W PySem.Calls PyProof.Rows
end
set_option Elab.async false
set_option linter.all false
set_option maxRecDepth 100000
set_option autoImplicit false
set_option maxHeartbeats 2000000
set_option maxHeartbeats 2000000
namespace Pd
open PySem PySem.Spec L2
inductive Mo where
  | lst (xs : List Av)
  | ins (c : Nat) (fs : List (Str × Av))
  | dct (ks vs : List Av)
abbrev Mem := List (Option Mo)
abbrev Env := List (Option Av)
structure Sc where
  K : PySem.W.Frag
  w : World
  cl : Nat → Addr
  has : Nat → Prop
  xc : Nat → Addr
structure Rc where
  G : Hp
  r : Nat → Addr
  L : Nat
def dkA : List Av → Option (List Key)
  | [] => some []
  | .int i :: r => (dkA r).map (Sum.inl i :: ·)
  | .str x :: r => (dkA r).map (Sum.inr x :: ·)
  | _ => none
abbrev dKs (kvs : List (Key × V)) : List Key := kvs.map (·.1)
abbrev dVs (kvs : List (Key × V)) : List V := kvs.map (·.2)
section
variable (Z : Sc)
mutual
inductive Rep (c : Rc) : V → Av → Prop where
  | non : Rep c .non .non
  | bl (b : Bool) : Rep c (.bl b) (.bl b)
  | int (i : Int) : Rep c (.int i) (.int i)
  | str (x : Str) : Rep c (.str x) (.str x)
  | lst {a : Addr} {vs : List V} {xs : List Av} : c.G a = some (.lst vs) → Reps c vs xs → Rep c (.ref a) (.lst xs)
  | tup {a : Addr} {vs : List V} {xs : List Av} : SqT Z.K c.G a vs → Reps c vs xs → Rep c (.ref a) (.tup xs)
  | fz {a : Addr} {vs : List V} {xs : List Av} : SqL Z.K c.G a vs → Reps c vs xs → Rep c (.ref a) (.fz xs)
  | obj {a dx : Addr} {k : Nat} {ns : List Str} {vs : List V} {xs : List Av} : Z.has k → c.G a = some (.ins (Z.cl k) dx (ns.zip vs)) → ns.length = vs.length → Reps c vs xs → Rep c (.ref a) (.obj k ns xs)
  | dct {a : Addr} {kvs : List (Key × V)} {ks vs : List Av} : c.G a = some (.dK kvs) → dkA ks = some (dKs kvs) → Reps c (dVs kvs) vs → Rep c (.ref a) (.dct ks vs)
  | ref {n : Nat} : n < c.L → Rep c (.ref (c.r n)) (.ref n)
  | ty (n : Bt) : Rep c (.ty n.name) (.ty n)
  | cls {k : Nat} : Z.has k → Rep c (.ref (Z.cl k)) (.cls k)
inductive Reps (c : Rc) : List V → List Av → Prop where
  | nil : Reps c [] []
  | cons {v : V} {x : Av} {vs : List V} {xs : List Av} : Rep c v x → Reps c vs xs → Reps c (v :: vs) (x :: xs)
end
end
structure Le (c d : Rc) : Prop where
  g : Same c.G d.G
  l : c.L ≤ d.L
  r : ∀ n, n < c.L → d.r n = c.r n
theorem Le.refl (c : Rc) : Le c c := ⟨Same.refl _, Nat.le_refl _, fun _ _ => rfl⟩
theorem Le.trans {c d e : Rc} (a : Le c d) (b : Le d e) : Le c e :=
  ⟨a.g.trans b.g, Nat.le_trans a.l b.l, fun n h => (b.r n (Nat.lt_of_lt_of_le h a.l)).trans (a.r n h)⟩
theorem same_t {K : PySem.W.Frag} {H H' : Hp} {a : Addr} {xs : List V} (e : Same H H') (h : SqT K H a xs) : SqT K H' a xs := by
  rcases h with (h | ⟨o, h⟩) | h
  · exact .inl (.inl (e _ _ h))
  · exact .inl (.inr ⟨o, e _ _ h⟩)
  · exact .inr h
theorem same_l {K : PySem.W.Frag} {H H' : Hp} {a : Addr} {xs : List V} (e : Same H H') (h : SqL K H a xs) : SqL K H' a xs := e.seq h
section
variable {Z : Sc} {c d : Rc}
mutual
theorem Rep.mono (e : Le c d) : ∀ {v : V} {x : Av}, Rep Z c v x → Rep Z d v x
  | _, _, .non => .non
  | _, _, .bl b => .bl b
  | _, _, .int i => .int i
  | _, _, .str x => .str x
  | _, _, .lst h r => .lst (e.g _ _ h) (Reps.mono e r)
  | _, _, .tup h r => .tup (same_t e.g h) (Reps.mono e r)
  | _, _, .fz h r => .fz (same_l e.g h) (Reps.mono e r)
  | _, _, .obj k h l r => .obj k (e.g _ _ h) l (Reps.mono e r)
  | _, _, .dct h l r => .dct (e.g _ _ h) l (Reps.mono e r)
  | _, _, .ref (n := n) h => by
    have q := Rep.ref (Z := Z) (c := d) (n := n) (Nat.lt_of_lt_of_le h e.l)
    rw [e.r n h] at q
    exact q
  | _, _, .ty n => .ty n
  | _, _, .cls h => .cls h
theorem Reps.mono (e : Le c d) : ∀ {vs : List V} {xs : List Av}, Reps Z c vs xs → Reps Z d vs xs
  | _, _, .nil => .nil
  | _, _, .cons h r => .cons (Rep.mono e h) (Reps.mono e r)
end
theorem Reps.length : ∀ {vs : List V} {xs : List Av}, Reps Z c vs xs → vs.length = xs.length
  | _, _, .nil => rfl
  | _, _, .cons _ r => by simp [Reps.length r]
theorem Reps.get : ∀ {vs : List V} {xs : List Av} {i : Nat} {x : Av}, Reps Z c vs xs → xs[i]? = some x → ∃ v, vs[i]? = some v ∧ Rep Z c v x
  | _, _, _, _, .nil, e => by simp at e
  | _, _, 0, _, .cons h _, e => by simp at e; subst e; exact ⟨_, rfl, h⟩
  | _, _, i + 1, _, .cons _ r, e => by
    obtain ⟨v, h1, h2⟩ := Reps.get (i := i) r (by simpa using e)
    exact ⟨v, by simpa using h1, h2⟩
theorem Reps.get' : ∀ {vs : List V} {xs : List Av} {i : Nat} {v : V}, Reps Z c vs xs → vs[i]? = some v → ∃ x, xs[i]? = some x ∧ Rep Z c v x
  | _, _, _, _, .nil, e => by simp at e
  | _, _, 0, _, .cons h _, e => by simp at e; subst e; exact ⟨_, rfl, h⟩
  | _, _, i + 1, _, .cons _ r, e => by
    obtain ⟨v, h1, h2⟩ := Reps.get' (i := i) r (by simpa using e)
    exact ⟨v, by simpa using h1, h2⟩
theorem Reps.append : ∀ {vs ws : List V} {xs ys : List Av}, Reps Z c vs xs → Reps Z c ws ys → Reps Z c (vs ++ ws) (xs ++ ys)
  | _, _, _, _, .nil, s => s
  | _, _, _, _, .cons h r, s => .cons h (Reps.append r s)
theorem Reps.set {v : V} {x : Av} (h : Rep Z c v x) : ∀ {vs : List V} {xs : List Av} (i : Nat), Reps Z c vs xs → Reps Z c (vs.set i v) (xs.set i x)
  | _, _, _, .nil => .nil
  | _, _, 0, .cons _ r => .cons h r
  | _, _, i + 1, .cons q r => .cons q (Reps.set h i r)
theorem Reps.take : ∀ {vs : List V} {xs : List Av} (n : Nat), Reps Z c vs xs → Reps Z c (vs.take n) (xs.take n)
  | _, _, 0, _ => by simpa using Reps.nil
  | _, _, _ + 1, .nil => by simpa using Reps.nil
  | _, _, n + 1, .cons h r => by simpa using Reps.cons h (Reps.take n r)
theorem Reps.drop : ∀ {vs : List V} {xs : List Av} (n : Nat), Reps Z c vs xs → Reps Z c (vs.drop n) (xs.drop n)
  | _, _, 0, r => by simpa using r
  | _, _, _ + 1, .nil => by simpa using Reps.nil
  | _, _, n + 1, .cons _ r => by simpa using Reps.drop n r
end
def Rc.cut (c : Rc) (n : Nat) : Rc := ⟨c.G, c.r, n⟩
theorem Le.cut {c d : Rc} {n : Nat} (e : Le c d) (h : n ≤ c.L) : Le (c.cut n) (d.cut n) := ⟨e.g, Nat.le_refl _, fun m hm => e.r m (Nat.lt_of_lt_of_le hm h)⟩
section
variable (Z : Sc)
def RepO (c : Rc) (p : Addr) : HO → Mo → Prop
  | .lst vs, .lst xs => Reps Z c vs xs
  | .ins C _ gs, .ins k fs => (C = Z.cl k ∧ Z.has k) ∧ gs.map (·.1) = fs.map (·.1) ∧ Reps Z c (gs.map (·.2)) (fs.map (·.2))
  | ho, .dct ks vs => ∃ (kvs : List (Key × V)), ho = .dK kvs ∧ dkA ks = some (dKs kvs) ∧ Reps Z c (dVs kvs) vs
  | _, _ => False
structure Sim (c : Rc) (M : Mem) (H : Hp) : Prop where
  g : Same c.G H
  l : c.L = M.length
  m : ∀ (n : Nat) (o : Mo), M[n]? = some (some o) → ∃ ho, H (c.r n) = some ho ∧ RepO Z c (c.r n) ho o ∧ c.G (c.r n) = none
  i : ∀ (n m : Nat) (o p : Mo), M[n]? = some (some o) → M[m]? = some (some p) → c.r n = c.r m → n = m
structure EnvR (c : Rc) (e : Env) (σ : St) : Prop where
  len : e.length = σ.length
  at_ : ∀ (i : Nat) (x : Av), e[i]? = some (some x) → ∃ v, σ[i]? = some (some v) ∧ Rep Z c v x
end
section
variable {Z : Sc} {c d : Rc} {M : Mem} {H : Hp}
theorem RepO.mono {p : Addr} (e : Le c d) : ∀ {ho : HO} {o : Mo}, RepO Z c p ho o → RepO Z d p ho o := by
  intro ho o h
  cases o with
  | dct ks vs =>
    have h : ∃ (kvs : List (Key × V)), ho = .dK kvs ∧ dkA ks = some (dKs kvs) ∧ Reps Z c (dVs kvs) vs := by
      cases ho <;> exact h
    obtain ⟨es, e1, e2, e3⟩ := h
    have g : ∃ (kvs : List (Key × V)), ho = .dK kvs ∧ dkA ks = some (dKs kvs) ∧ Reps Z d (dVs kvs) vs := ⟨es, e1, e2, Reps.mono e e3⟩
    cases ho <;> exact g
  | lst xs => cases ho <;> first | exact h.elim | exact Reps.mono e h
  | ins k fs => cases ho <;> first | exact h.elim | exact ⟨h.1, h.2.1, Reps.mono e h.2.2⟩
theorem EnvR.mono {e : Env} {σ : St} (l : Le c d) (h : EnvR Z c e σ) : EnvR Z d e σ :=
  ⟨h.len, fun i x q => let ⟨v, a, b⟩ := h.at_ i x q; ⟨v, a, b.mono l⟩⟩
theorem EnvR.set {e : Env} {σ : St} {v : V} {x : Av} (h : EnvR Z c e σ) (r : Rep Z c v x) (i : Nat) : EnvR Z c (e.set i (some x)) (σ.set i (some v)) := by
  refine ⟨by simp [h.len], fun j y q => ?_⟩
  rw [List.getElem?_set] at q
  rw [List.getElem?_set]
  by_cases hj : i = j
  · subst hj
    simp only [if_true] at q ⊢
    by_cases hl : i < e.length
    · rw [if_pos hl] at q
      rw [if_pos (by rw [← h.len]; exact hl)]
      cases q
      exact ⟨v, rfl, r⟩
    · rw [if_neg hl] at q; cases q
  · rw [if_neg hj] at q ⊢
    exact h.at_ j y q
def Rc.lay (c : Rc) (p : Addr) (o : HO) : Rc := ⟨upd c.G p o, c.r, c.L⟩
theorem Same.fresh {H H' : Hp} {p : Addr} (s : Same H H') (h : H' p = none) : H p = none := s.free h
theorem Le.lay {p : Addr} {o : HO} (h : c.G p = none) : Le c (c.lay p o) :=
  ⟨fun b u e => by show upd c.G p o b = some u; rw [upd_ne (ne_of_none e h)]; exact e, Nat.le_refl _, fun _ _ => rfl⟩
theorem Sim.lay {p : Addr} {o : HO} (s : Sim Z c M H) (h : H p = none) : Sim Z (c.lay p o) M (upd H p o) := by
  have hg : c.G p = none := s.g.free h
  refine ⟨fun b u e => ?_, s.l, fun n q e => ?_, s.i⟩
  · show upd H p o b = some u
    by_cases hb : b = p
    · subst hb
      rw [upd_same]
      have e' : upd c.G b o b = some u := e
      rw [upd_same] at e'; exact e'
    · rw [upd_ne hb]
      have e' : upd c.G p o b = some u := e
      rw [upd_ne hb] at e'
      exact s.g _ _ e'
  · obtain ⟨ho, h1, h2, h3⟩ := s.m n q e
    have ne : c.r n ≠ p := ne_of_none h1 h
    refine ⟨ho, ?_, h2.mono (Le.lay hg), ?_⟩
    · show upd H p o (c.r n) = some ho
      rw [upd_ne ne]; exact h1
    · show upd c.G p o (c.r n) = none
      rw [upd_ne ne]; exact h3
def Rc.own (c : Rc) (p : Addr) : Rc := ⟨c.G, fun n => if n = c.L then p else c.r n, c.L + 1⟩
theorem Le.own {p : Addr} : Le c (c.own p) := ⟨Same.refl _, Nat.le_succ _, fun n h => if_neg (Nat.ne_of_lt h)⟩
theorem own_at {p : Addr} : (c.own p).r c.L = p := if_pos rfl
theorem own_lt {p : Addr} {n : Nat} (h : n < c.L) : (c.own p).r n = c.r n := if_neg (Nat.ne_of_lt h)
theorem Sim.own {p : Addr} {ho : HO} {o : Mo} (s : Sim Z c M H) (h : H p = none) (r : RepO Z c p ho o) : Sim Z (c.own p) (M ++ [some o]) (upd H p ho) := by
  have hg : c.G p = none := s.g.free h
  refine ⟨fun b u e => ?_, by show c.L + 1 = _; simp [s.l], fun n q e => ?_, fun n m q q' e e' z => ?_⟩
  · show upd H p ho b = some u
    rw [upd_ne (ne_of_none (show c.G b = some u from e) hg)]
    exact s.g _ _ e
  · by_cases hn : n < M.length
    · rw [List.getElem?_append_left hn] at e
      obtain ⟨hq, h1, h2, h3⟩ := s.m n q e
      rw [own_lt (by rw [s.l]; exact hn)]
      exact ⟨hq, by rw [upd_ne (ne_of_none h1 h)]; exact h1, h2.mono Le.own, h3⟩
    · have hlt : n < (M ++ [some o]).length := (List.getElem?_eq_some_iff.mp e).1
      have en : n = M.length := by simp at hlt; omega
      subst en
      simp at e; subst e
      rw [← s.l, own_at]
      exact ⟨ho, upd_same, r.mono Le.own, hg⟩
  · have lt : ∀ {n : Nat} {q : Mo}, (M ++ [some o])[n]? = some (some q) → n = M.length ∨ (n < M.length ∧ M[n]? = some (some q)) := fun {n q} e => by
      by_cases hn : n < M.length
      · rw [List.getElem?_append_left hn] at e; exact .inr ⟨hn, e⟩
      · have hlt : n < (M ++ [some o]).length := (List.getElem?_eq_some_iff.mp e).1
        simp at hlt; exact .inl (by omega)
    rcases lt e with hn | ⟨hn, en⟩ <;> rcases lt e' with hm | ⟨hm, em⟩
    · omega
    · exfalso
      obtain ⟨_, h1, _, _⟩ := s.m m q' em
      rw [hn, ← s.l, own_at, own_lt (by rw [s.l]; exact hm)] at z
      rw [← z, h] at h1; cases h1
    · exfalso
      obtain ⟨_, h1, _, _⟩ := s.m n q en
      rw [hm, ← s.l, own_at, own_lt (by rw [s.l]; exact hn)] at z
      rw [z, h] at h1; cases h1
    · rw [own_lt (by rw [s.l]; exact hn), own_lt (by rw [s.l]; exact hm)] at z
      exact s.i n m q q' en em z
theorem Sim.put {n : Nat} {ho : HO} {o o' : Mo} (s : Sim Z c M H) (e : M[n]? = some (some o)) (r : RepO Z c (c.r n) ho o') : Sim Z c (M.set n (some o')) (upd H (c.r n) ho) := by
  obtain ⟨h0, h1, h2, h3⟩ := s.m n o e
  have hn : n < M.length := (List.getElem?_eq_some_iff.mp e).1
  have gt : ∀ {m : Nat} {q : Mo}, (M.set n (some o'))[m]? = some (some q) → (m = n ∧ q = o') ∨ (m ≠ n ∧ M[m]? = some (some q)) := fun {m q} z => by
    rw [List.getElem?_set] at z
    by_cases hm : n = m
    · subst hm; rw [if_pos rfl, if_pos hn] at z; cases z; exact .inl ⟨rfl, rfl⟩
    · rw [if_neg hm] at z; exact .inr ⟨fun q => hm q.symm, z⟩
  refine ⟨fun b u z => ?_, by simp [s.l], fun m q z => ?_, fun m k q q' z z' w => ?_⟩
  · rw [upd_ne (ne_of_none z h3)]; exact s.g _ _ z
  · rcases gt z with ⟨rfl, rfl⟩ | ⟨ne, z⟩
    · exact ⟨ho, upd_same, r, h3⟩
    · obtain ⟨hq, q1, q2, q3⟩ := s.m m q z
      exact ⟨hq, by rw [upd_ne (fun w => ne (s.i m n q o z e w))]; exact q1, q2, q3⟩
  · have l1 : ∃ q, M[m]? = some (some q) := by
      rcases gt z with ⟨rfl, _⟩ | ⟨_, z⟩
      · exact ⟨o, e⟩
      · exact ⟨q, z⟩
    have l2 : ∃ q, M[k]? = some (some q) := by
      rcases gt z' with ⟨rfl, _⟩ | ⟨_, z'⟩
      · exact ⟨o, e⟩
      · exact ⟨q', z'⟩
    obtain ⟨a1, b1⟩ := l1
    obtain ⟨a2, b2⟩ := l2
    exact s.i m k a1 a2 b1 b2 w
theorem Sim.freeze {n : Nat} {ho : HO} {o : Mo} (s : Sim Z c M H) (e : M[n]? = some (some o)) (h : H (c.r n) = some ho) : Sim Z (c.lay (c.r n) ho) (M.set n none) H := by
  obtain ⟨h0, h1, h2, h3⟩ := s.m n o e
  have hn : n < M.length := (List.getElem?_eq_some_iff.mp e).1
  have gt : ∀ {m : Nat} {q : Mo}, (M.set n none)[m]? = some (some q) → m ≠ n ∧ M[m]? = some (some q) := fun {m q} z => by
    rw [List.getElem?_set] at z
    by_cases hm : n = m
    · subst hm; rw [if_pos rfl, if_pos hn] at z; cases z
    · rw [if_neg hm] at z; exact ⟨fun q => hm q.symm, z⟩
  refine ⟨fun b u z => ?_, by show c.L = _; simpa using s.l, fun m q z => ?_, fun m k q q' z z' w => s.i m k q q' (gt z).2 (gt z').2 w⟩
  · have z' : upd c.G (c.r n) ho b = some u := z
    by_cases hb : b = c.r n
    · subst hb; rw [upd_same] at z'; cases z'; exact h
    · rw [upd_ne hb] at z'; exact s.g _ _ z'
  · obtain ⟨ne, z⟩ := gt z
    obtain ⟨hq, q1, q2, q3⟩ := s.m m q z
    refine ⟨hq, q1, q2.mono (Le.lay h3), ?_⟩
    show upd c.G (c.r n) ho (c.r m) = none
    rw [upd_ne (fun w => ne (s.i m n q o z e w))]; exact q3
end
mutual
def below (n : Nat) : Av → Bool
  | .lst xs => belows n xs
  | .tup xs => belows n xs
  | .fz xs => belows n xs
  | .obj _ _ xs => belows n xs
  | .dct ks vs => belows n ks && belows n vs
  | .ref m => Nat.blt m n
  | .non => true
  | .bl _ => true
  | .int _ => true
  | .str _ => true
  | .ty _ => true
  | .cls _ => true
def belows (n : Nat) : List Av → Bool
  | [] => true
  | x :: xs => below n x && belows n xs
end
theorem dk_bel {n : Nat} : ∀ {ks : List Av} {ys : List Key}, dkA ks = some ys → belows n ks = true
  | [], _, _ => rfl
  | a :: ks, ys, h => by
    cases a <;> first | (simp [dkA] at h; done) | skip
    all_goals
      simp only [dkA, Option.map_eq_some_iff] at h
      obtain ⟨zs, h1, _⟩ := h
      simp only [belows, below, dk_bel h1, Bool.and_self]
section
variable {Z : Sc} {c : Rc} {n : Nat}
mutual
theorem Rep.cut : ∀ {v : V} {x : Av}, Rep Z c v x → below n x = true → Rep Z (c.cut n) v x
  | _, _, .non, _ => .non
  | _, _, .bl b, _ => .bl b
  | _, _, .int i, _ => .int i
  | _, _, .str x, _ => .str x
  | _, _, .lst h r, b => .lst h (Reps.cut r (by simpa [below] using b))
  | _, _, .tup h r, b => .tup h (Reps.cut r (by simpa [below] using b))
  | _, _, .fz h r, b => .fz h (Reps.cut r (by simpa [below] using b))
  | _, _, .obj k h l r, b => .obj k h l (Reps.cut r (by simpa [below] using b))
  | _, _, .dct h l r, b => .dct h l (Reps.cut r (by simp [below] at b; exact b.2))
  | _, _, .ref (n := m) h, b => Rep.ref (Z := Z) (c := c.cut n) (n := m) (Nat.le_of_ble_eq_true b)
  | _, _, .ty n, _ => .ty n
  | _, _, .cls h, _ => .cls h
theorem Reps.cut : ∀ {vs : List V} {xs : List Av}, Reps Z c vs xs → belows n xs = true → Reps Z (c.cut n) vs xs
  | _, _, .nil, _ => .nil
  | _, _, .cons h r, b => by
    simp only [belows, Bool.and_eq_true] at b
    exact .cons (Rep.cut h b.1) (Reps.cut r b.2)
end
mutual
theorem Rep.bel : ∀ {v : V} {x : Av}, Rep Z c v x → below c.L x = true
  | _, _, .non => rfl
  | _, _, .bl b => rfl
  | _, _, .int i => rfl
  | _, _, .str x => rfl
  | _, _, .lst h r => by simp only [Pd.below]; exact Reps.bel r
  | _, _, .tup h r => by simp only [Pd.below]; exact Reps.bel r
  | _, _, .fz h r => by simp only [Pd.below]; exact Reps.bel r
  | _, _, .obj k h l r => by simp only [Pd.below]; exact Reps.bel r
  | _, _, .dct h l r => by simp only [Pd.below, dk_bel l, Reps.bel r, Bool.and_self]
  | _, _, .ref h => by simp only [Pd.below]; exact Nat.ble_eq_true_of_le h
  | _, _, .ty n => rfl
  | _, _, .cls h => rfl
theorem Reps.bel : ∀ {vs : List V} {xs : List Av}, Reps Z c vs xs → belows c.L xs = true
  | _, _, .nil => rfl
  | _, _, .cons h r => by simp only [belows, Rep.bel h, Reps.bel r, Bool.and_self]
end
def belowO (n : Nat) : Mo → Bool
  | .lst xs => belows n xs
  | .ins _ fs => belows n (fs.map (·.2))
  | .dct ks vs => belows n ks && belows n vs
def okO (n : Nat) : Option Mo → Bool
  | none => true
  | some o => belowO n o
theorem RepO.dct_of {p : Addr} {ho : HO} {ks vs : List Av} (h : RepO Z c p ho (.dct ks vs)) : ∃ (kvs : List (Key × V)), ho = .dK kvs ∧ dkA ks = some (dKs kvs) ∧ Reps Z c (dVs kvs) vs := by
  cases ho <;> exact h
theorem RepO.dct_mk {p : Addr} {kvs : List (Key × V)} {ks vs : List Av} (h1 : dkA ks = some (dKs kvs)) (h2 : Reps Z c (dVs kvs) vs) : RepO Z c p (.dK kvs) (.dct ks vs) :=
  show ∃ (kvs' : List (Key × V)), HO.dK kvs = HO.dK kvs' ∧ _ from ⟨kvs, rfl, h1, h2⟩
theorem RepO.bel {p : Addr} : ∀ {ho : HO} {o : Mo}, RepO Z c p ho o → belowO c.L o = true := by
  intro ho o h
  cases o with
  | dct ks vs =>
    obtain ⟨es, e1, e2, e3⟩ := RepO.dct_of h
    simp only [belowO, dk_bel e2, Reps.bel e3, Bool.and_self]
  | lst xs => cases ho <;> first | exact h.elim | exact Reps.bel h
  | ins k fs => cases ho <;> first | exact h.elim | exact Reps.bel h.2.2
theorem RepO.cut {p : Addr} : ∀ {ho : HO} {o : Mo}, RepO Z c p ho o → belowO n o = true → RepO Z (c.cut n) p ho o := by
  intro ho o h b
  cases o with
  | dct ks vs =>
    obtain ⟨es, e1, e2, e3⟩ := RepO.dct_of h
    simp only [belowO, Bool.and_eq_true] at b
    have g : ∃ (kvs : List (Key × V)), ho = .dK kvs ∧ dkA ks = some (dKs kvs) ∧ Reps Z (c.cut n) (dVs kvs) vs := ⟨es, e1, e2, Reps.cut e3 b.2⟩
    cases ho <;> exact g
  | lst xs => cases ho <;> first | exact h.elim | exact Reps.cut h b
  | ins k fs => cases ho <;> first | exact h.elim | exact ⟨h.1, h.2.1, Reps.cut h.2.2 b⟩
theorem Sim.cut {M : Mem} {H : Hp} (s : Sim Z c M H) (h : n ≤ M.length) (hb : ∀ m o, m < n → M[m]? = some (some o) → belowO n o = true) : Sim Z (c.cut n) (M.take n) H := by
  have gt : ∀ {m : Nat} {o : Mo}, (M.take n)[m]? = some (some o) → m < n ∧ M[m]? = some (some o) := fun {m o} e => by
    have hm : m < (M.take n).length := (List.getElem?_eq_some_iff.mp e).1
    have hm' : m < n := by rw [List.length_take] at hm; omega
    rw [List.getElem?_take_of_lt hm'] at e
    exact ⟨hm', e⟩
  refine ⟨s.g, by show n = _; rw [List.length_take]; omega, fun m o e => ?_, fun m k o p e e' z => s.i m k o p (gt e).2 (gt e').2 z⟩
  obtain ⟨ho, h1, h2, h3⟩ := s.m m o (gt e).2
  exact ⟨ho, h1, h2.cut (hb m o (gt e).1 (gt e).2), h3⟩
end
mutual
def eqA : Av → Av → Bool
  | .non, .non => true
  | .bl a, .bl b => a == b
  | .int a, .int b => decide (a = b)
  | .str a, .str b => decide (a = b)
  | .lst a, .lst b => eqAs a b
  | .tup a, .tup b => eqAs a b
  | .fz a, .fz b => eqAs a b
  | .obj c ns xs, .obj d ms ys => Nat.beq c d && decide (ns = ms) && eqAs xs ys
  | .dct a b, .dct a' b' => eqAs a a' && eqAs b b'
  | .ref n, .ref m => Nat.beq n m
  | .ty a, .ty b => decide (a = b)
  | .cls a, .cls b => Nat.beq a b
  | _, _ => false
def eqAs : List Av → List Av → Bool
  | [], [] => true
  | x :: xs, y :: ys => eqA x y && eqAs xs ys
  | _, _ => false
end
mutual
theorem eqA_eq : ∀ {a b : Av}, eqA a b = true → a = b := by
  intro a b h
  cases a <;> cases b <;> simp only [eqA] at h <;> first
    | rfl
    | (exact absurd h (by decide))
    | (rw [of_decide_eq_true h])
    | (rw [eq_of_beq h])
    | (rw [Nat.eq_of_beq_eq_true h])
    | (rw [eqAs_eq h])
    | (simp only [Bool.and_eq_true] at h; rw [Nat.eq_of_beq_eq_true h.1.1, of_decide_eq_true h.1.2, eqAs_eq h.2])
    | (simp only [Bool.and_eq_true] at h; rw [eqAs_eq h.1, eqAs_eq h.2])
theorem eqAs_eq : ∀ {a b : List Av}, eqAs a b = true → a = b
  | [], [], _ => rfl
  | [], _ :: _, h => by simp [eqAs] at h
  | _ :: _, [], h => by simp [eqAs] at h
  | x :: xs, y :: ys, h => by
    simp only [eqAs, Bool.and_eq_true] at h
    rw [eqA_eq h.1, eqAs_eq h.2]
end
mutual
theorem eqA_refl : ∀ (a : Av), eqA a a = true
  | .non => rfl
  | .bl b => by simp [eqA]
  | .int b => by simp [eqA]
  | .str b => by simp [eqA]
  | .lst xs => by simp only [eqA]; exact eqAs_refl xs
  | .tup xs => by simp only [eqA]; exact eqAs_refl xs
  | .fz xs => by simp only [eqA]; exact eqAs_refl xs
  | .obj c ns xs => by simp only [eqA, eqAs_refl xs]; simp
  | .dct a b => by simp only [eqA, eqAs_refl a, eqAs_refl b]; rfl
  | .ref n => by simp [eqA]
  | .ty n => by simp [eqA]
  | .cls n => by simp [eqA]
theorem eqAs_refl : ∀ (a : List Av), eqAs a a = true
  | [] => rfl
  | x :: xs => by simp only [eqAs, eqA_refl x, eqAs_refl xs]; rfl
end
def eqMo : Option Mo → Option Mo → Bool
  | none, none => true
  | some (.lst a), some (.lst b) => eqAs a b
  | some (.ins c fs), some (.ins d gs) => Nat.beq c d && decide (fs.map (·.1) = gs.map (·.1)) && eqAs (fs.map (·.2)) (gs.map (·.2))
  | some (.dct a b), some (.dct a' b') => eqAs a a' && eqAs b b'
  | _, _ => false
theorem pairs_eq {α β : Type} : ∀ {l m : List (α × β)}, l.map (·.1) = m.map (·.1) → l.map (·.2) = m.map (·.2) → l = m
  | [], [], _, _ => rfl
  | [], _ :: _, h, _ => by simp at h
  | _ :: _, [], h, _ => by simp at h
  | (a, b) :: l, (c, d) :: m, h, h' => by
    simp only [List.map_cons, List.cons.injEq] at h h'
    rw [h.1, h'.1, pairs_eq h.2 h'.2]
theorem eqMo_eq {a b : Option Mo} (h : eqMo a b = true) : a = b := by
  unfold eqMo at h
  split at h
  · rfl
  · rw [eqAs_eq h]
  · simp only [Bool.and_eq_true, decide_eq_true_eq] at h
    rw [Nat.eq_of_beq_eq_true h.1.1, pairs_eq h.1.2 (eqAs_eq h.2)]
  · simp only [Bool.and_eq_true] at h
    rw [eqAs_eq h.1, eqAs_eq h.2]
  · cases h
theorem eqMo_refl (a : Option Mo) : eqMo a a = true := by
  cases a with
  | none => rfl
  | some o => cases o <;> simp [eqMo, eqAs_refl]
def cutL (n : Nat) : Mem → Mem → Bool
  | [], _ => true
  | o :: r, o' :: r' => (eqMo o o' || okO n o') && cutL n r r'
  | _ :: _, [] => false
def cutOk (M M' : Mem) : Bool := cutL M.length M M'
theorem cutL_len {n : Nat} : ∀ {M M' : Mem}, cutL n M M' = true → M.length ≤ M'.length
  | [], _, _ => Nat.zero_le _
  | _ :: _, [], h => by simp [cutL] at h
  | _ :: r, _ :: r', h => by
    simp only [cutL, Bool.and_eq_true] at h
    exact Nat.succ_le_succ (cutL_len h.2)
theorem cutL_at {n : Nat} : ∀ {M M' : Mem} {m : Nat} {o : Mo}, cutL n M M' = true → m < M.length → M'[m]? = some (some o) → M[m]? = some (some o) ∨ belowO n o = true
  | [], _, _, _, _, h, _ => by simp at h
  | _ :: _, [], _, _, h, _, _ => by simp [cutL] at h
  | x :: r, x' :: r', 0, o, h, _, e => by
    simp only [cutL, Bool.and_eq_true, Bool.or_eq_true] at h
    simp only [List.getElem?_cons_zero, Option.some.injEq] at e ⊢
    rcases h.1 with h1 | h1
    · exact .inl ((eqMo_eq h1).trans e)
    · rw [e] at h1; exact .inr h1
  | x :: r, x' :: r', m + 1, o, h, hm, e => by
    simp only [cutL, Bool.and_eq_true] at h
    simp only [List.getElem?_cons_succ] at e ⊢
    exact cutL_at h.2 (by simpa using hm) e
theorem cutOk_len {M M' : Mem} (h : cutOk M M' = true) : M.length ≤ M'.length := cutL_len h
theorem Sim.cutOk {Z : Sc} {c0 c : Rc} {M M' : Mem} {H0 H : Hp} (s0 : Sim Z c0 M H0) (s : Sim Z c M' H) (h : cutOk M M' = true) : Sim Z (c.cut M.length) (M'.take M.length) H := by
  refine s.cut (cutOk_len h) fun m o hm e => ?_
  rcases cutL_at h hm e with q | q
  · obtain ⟨ho, _, h2, _⟩ := s0.m m o q
    have := RepO.bel h2
    rw [s0.l] at this
    exact this
  · exact q
theorem cutL_none {n : Nat} : ∀ {M M' : Mem} {i : Nat}, cutL n M M' = true → cutL n M (M'.set i none) = true
  | [], M', i, _ => by cases M'.set i none <;> rfl
  | _ :: _, [], _, h => by simp [cutL] at h
  | x :: r, x' :: r', 0, h => by
    simp only [cutL, Bool.and_eq_true] at h
    simp only [List.set_cons_zero, cutL, okO, h.2]
    simp
  | x :: r, x' :: r', i + 1, h => by
    simp only [cutL, Bool.and_eq_true] at h
    simp only [List.set_cons_succ, cutL, h.1, cutL_none h.2]
    simp
theorem cutL_refl (n : Nat) : ∀ (M X : Mem), cutL n M (M ++ X) = true
  | [], _ => by cases ‹Mem› <;> rfl
  | o :: r, X => by simp only [List.cons_append, cutL, eqMo_refl, cutL_refl n r X]; rfl
theorem cutL_set {n : Nat} {o : Option Mo} (ho : okO n o = true) : ∀ (M X : Mem) (i : Nat), cutL n M (M.set i o ++ X) = true
  | [], X, _ => by cases X <;> rfl
  | x :: r, X, 0 => by
    simp only [List.set_cons_zero, List.cons_append, cutL, ho, cutL_refl n r X]
    simp
  | x :: r, X, i + 1 => by
    simp only [List.set_cons_succ, List.cons_append, cutL, eqMo_refl, cutL_set ho r X i]
    simp
inductive Res (α : Type) where
  | ok (a : α) (m : Mem)
  | exc (k : Nat) (fs : List (Str × Av)) (m : Mem)
  | bad
def Res.bind {α β : Type} : Res α → (α → Mem → Res β) → Res β
  | .ok a m, f => f a m
  | .exc k fs m, _ => .exc k fs m
  | .bad, _ => .bad
section
variable (Z : Sc)
def XRep (c : Rc) (H : Hp) (d : Option Addr) (fs : List (Str × Av)) : Prop :=
  (fs = [] ∧ d = none) ∨ ∃ (p : Addr) (gs : List (Str × V)), d = some p ∧ H p = some (.xd gs) ∧ gs.map (·.1) = fs.map (·.1) ∧ Reps Z c (gs.map (·.2)) (fs.map (·.2))
structure At (c : Rc) (e : Env) (M : Mem) (σ : St) (H : Hp) : Prop where
  s : Sim Z c M H
  e : EnvR Z c e σ
def Okk (W : WX) (σ : St) (c : Rc) {χ β : Type} (R : Rc → χ → β → Prop) (Q : χ → Hp → Prop) : Res β → Prop
  | .ok b M' => ∀ c' x H', Le c c' → Sim Z c' M' H' → R c' x b → Q x H'
  | .exc k fs M' => ∀ c' H' d, Le c c' → Sim Z c' M' H' → XRep Z c' H' d fs → W (.ref (Z.xc k)) d σ H'
  | .bad => False
def T (W : WX) {χ β : Type} (R : Rc → χ → β → Prop) (f : Env → Mem → Res β) : St → Hp → (χ → Hp → Prop) → Prop := fun σ H Q =>
  ∃ (c : Rc) (e : Env) (M : Mem), At Z c e M σ H ∧ Okk Z W σ c R Q (f e M)
end
section
variable {Z : Sc} {W : WX} {σ : St} {χ β γ ξ : Type} {R1 : Rc → ξ → γ → Prop} {R : Rc → χ → β → Prop}
theorem At.mono {c d : Rc} {e : Env} {M M' : Mem} {H H' : Hp} (a : At Z c e M σ H) (l : Le c d) (s : Sim Z d M' H') : At Z d e M' σ H' := ⟨s, a.e.mono l⟩
theorem Okk.mono {c d : Rc} {Q : χ → Hp → Prop} (l : Le c d) : ∀ {r : Res β}, Okk Z W σ c R Q r → Okk Z W σ d R Q r
  | .ok _ _, h => fun c' x H' l' s r => h c' x H' (l.trans l') s r
  | .exc _ _ _, h => fun c' H' d l' s r => h c' H' d (l.trans l') s r
  | .bad, h => h
theorem step {c : Rc} {e : Env} {M : Mem} {H : Hp} {Q : χ → Hp → Prop} {f : Env → Mem → Res γ} {k : γ → Mem → Res β} {Q1 : ξ → Hp → Prop} (a : At Z c e M σ H) (h : Okk Z W σ c R Q ((f e M).bind k))
    (next : ∀ c' x b M' H', Le c c' → At Z c' e M' σ H' → R1 c' x b → Okk Z W σ c' R Q (k b M') → Q1 x H') : T Z W R1 f σ H Q1 := by
  refine ⟨c, e, M, a, ?_⟩
  cases hf : f e M with
  | ok b M' =>
    rw [hf] at h
    exact fun c' x H' l s r => next c' x b M' H' l (a.mono l s) r (Okk.mono l h)
  | exc k' fs M' => rw [hf] at h; exact h
  | bad => rw [hf] at h; exact h
end
theorem _root_.L2.PE.imp {X : Cx} {e : Expr} {t t' : TE} (h : PE X e t) (i : ∀ σ H Q, t' σ H Q → t σ H Q) : PE X e t' := ⟨fun pins s σ H Q I q => h.run pins s σ H Q I (i σ H Q q)⟩
theorem _root_.L2.PT.imp {X : Cx} {e : Expr} {t t' : TT} (h : PT X e t) (i : ∀ σ H Q, t' σ H Q → t σ H Q) : PT X e t' := ⟨fun pins s σ H Q I q => h.run pins s σ H Q I (i σ H Q q)⟩
theorem _root_.L2.PA.imp {X : Cx} {e : List Expr} {t t' : TA} (h : PA X e t) (i : ∀ σ H Q, t' σ H Q → t σ H Q) : PA X e t' := ⟨fun pos pins s σ H Q I q => h.run pos pins s σ H Q I (i σ H Q q)⟩
theorem _root_.L2.PS.imp {X : Cx} {e : Stmt} {t t' : TS} (h : PS X e t) (i : ∀ D σ H, t' D σ H → t D σ H) : PS X e t' := ⟨fun pins s σ H D I q => h.run pins s σ H D I (i D σ H q)⟩
theorem _root_.L2.PSs.imp {X : Cx} {e : List Stmt} {t t' : TS} (h : PSs X e t) (i : ∀ D σ H, t' D σ H → t D σ H) : PSs X e t' := ⟨fun pins s σ H D I q => h.run pins s σ H D I (i D σ H q)⟩
end Pd
set_option maxHeartbeats 2000000
namespace Pd
open PySem PySem.Spec L2
abbrev Ev := Env → Mem → Res Av
abbrev Et := Env → Mem → Res Bool
abbrev Ea := Env → Mem → Res (List Av)
section
variable (Z : Sc) (W : WX) (X : Cx)
abbrev SE (e : Expr) (f : Ev) : Prop := PE X e (T Z W (Rep Z) f)
abbrev ST (e : Expr) (f : Et) : Prop := PT X e (T Z W (fun _ (x b : Bool) => x = b) f)
abbrev SA (es : List Expr) (f : Ea) : Prop := PA X es (T Z W (Reps Z) f)
end
section
variable {Z : Sc} {W : WX} {X : Cx}
theorem Okk.here {σ : St} {c : Rc} {χ β : Type} {R : Rc → χ → β → Prop} {Q : χ → Hp → Prop} {b : β} {M : Mem} {H : Hp} {x : χ} (h : Okk Z W σ c R Q (.ok b M)) (s : Sim Z c M H) (r : R c x b) : Q x H := h c x H (Le.refl c) s r
def eVar (i : Nat) : Ev := fun e M => match e[i]? with
  | some (some v) => .ok v M
  | _ => .bad
theorem se_var {i : Nat} {x : Str} {pos : Pos} (hN : X.N[i]? = some x) (hv : Vis X.env.scope x) (hd : (x == ("__debug__" : Str)) = false) (hcd : (x == ("__classdict__" : Str)) = false) : SE Z W X (.Name x pos) (eVar i) := by
  refine (pe_var hN hv hd hcd).imp fun σ H Q ⟨c, e, M, a, h⟩ => ?_
  unfold eVar at h
  cases q : e[i]? with
  | none => rw [q] at h; exact h.elim
  | some o =>
    rw [q] at h
    cases o with
    | none => exact h.elim
    | some v =>
      obtain ⟨x, h1, h2⟩ := a.e.at_ i v q
      exact ⟨x, h1, h.here a.s h2⟩
def eC (v : Av) : Ev := fun _ M => .ok v M
theorem se_tC {e : Expr} {v : V} {a : Av} (h : PE X e (tC v)) (r : ∀ c, Rep Z c v a) : SE Z W X e (eC a) := by
  refine h.imp fun σ H Q ⟨c, e, M, at_, h⟩ => ?_
  exact h.here at_.s (r c)
theorem se_int {i : Int} {j : Nat} {pos : Pos} : SE Z W X (.Constant (.int i) j pos) (eC (.int i)) := se_tC pe_int fun _ => .int i
theorem se_bl {b : Bool} {j : Nat} {pos : Pos} : SE Z W X (.Constant (.bool b) j pos) (eC (.bl b)) := se_tC pe_bl fun _ => .bl b
theorem se_non {j : Nat} {pos : Pos} : SE Z W X (.Constant .none j pos) (eC .non) := se_tC pe_non fun _ => .non
theorem se_str {x : Str} {j : Nat} {pos : Pos} : SE Z W X (.Constant (.str x) j pos) (eC (.str x)) := se_tC pe_str fun _ => .str x
def eBin (op : Av → Av → Mem → Res Av) (fa fb : Ev) : Ev := fun e M => (fa e M).bind fun a M1 => (fb e M1).bind fun b M2 => op a b M2
def OpS (Z : Sc) (W : WX) (r : R2) (op : Av → Av → Mem → Res Av) : Prop :=
  ∀ (σ : St) (c : Rc) (M : Mem) (H : Hp) (x y : V) (a b : Av) (Q : VK), Sim Z c M H → Rep Z c x a → Rep Z c y b → Okk Z W σ c (Rep Z) Q (op a b M) → r x y H Q
theorem imp_bin {r : R2} {op : Av → Av → Mem → Res Av} {fa fb : Ev} (ho : OpS Z W r op) : ∀ σ H Q, T Z W (Rep Z) (eBin op fa fb) σ H Q → tOp r (T Z W (Rep Z) fa) (T Z W (Rep Z) fb) σ H Q := by
  intro σ H Q ⟨c, e, M, a, h⟩
  refine step (R1 := Rep Z) a h fun c1 x v M1 H1 l1 a1 r1 h1 => ?_
  exact step (R1 := Rep Z) a1 h1 fun c2 y w M2 H2 l2 a2 r2 h2 => ho σ c2 M2 H2 x y v w Q a2.s (r1.mono l2) r2 h2
theorem se_bin {r : R2} {op : Av → Av → Mem → Res Av} {fa fb : Ev} {a b : Expr} {o : Operator} {pos : Pos} (hr : OpR X (binaryOp o) r) (ho : OpS Z W r op) (ha : SE Z W X a fa) (hb : SE Z W X b fb) : SE Z W X (.BinOp a o b pos) (eBin op fa fb) :=
  (pe_op hr ha hb).imp (imp_bin ho)
theorem se_cmp {r : R2} {op : Av → Av → Mem → Res Av} {fa fb : Ev} {a b : Expr} {o : CmpOp} {pos : Pos} (hr : OpR X (compareOp o) r) (ho : OpS Z W r op) (ha : SE Z W X a fa) (hb : SE Z W X b fb) (hm : behindInMarks o b = false) : SE Z W X (.Compare a [o] [b] pos) (eBin op fa fb) :=
  (pe_cmpR hr ha hb hm).imp (imp_bin ho)
theorem OpS.or {r r' : R2} {op : Av → Av → Mem → Res Av} (h : OpS Z W r op) : OpS Z W (fun x y H Q => r x y H Q ∨ r' x y H Q) op := fun σ c M H x y a b Q s ra rb q => .inl (h σ c M H x y a b Q s ra rb q)
def asL (M : Mem) : Av → Option (List Av)
  | .lst xs => some xs
  | .ref n => (match M[n]? with
    | some (some (.lst xs)) => some xs
    | _ => none)
  | _ => none
theorem asL_rep {c : Rc} {M : Mem} {H : Hp} {x : V} {a : Av} {xs : List Av} (s : Sim Z c M H) (r : Rep Z c x a) (h : asL M a = some xs) : ∃ l vs, x = .ref l ∧ H l = some (.lst vs) ∧ Reps Z c vs xs := by
  cases r with
  | lst h1 h2 => cases h; exact ⟨_, _, rfl, s.g _ _ h1, h2⟩
  | @ref n hn =>
    cases q : M[n]? with
    | none => simp [asL, q] at h
    | some o =>
      cases o with
      | none => simp [asL, q] at h
      | some o =>
        cases o with
        | lst ys =>
          simp [asL, q] at h
          subst h
          obtain ⟨ho, h1, h2, h3⟩ := s.m n _ q
          cases ho with
          | lst vs => exact ⟨_, vs, rfl, h1, h2⟩
          | _ => exact h2.elim
        | ins k fs => simp [asL, q] at h
        | dct ks vs => simp [asL, q] at h
  | _ => cases h
def asQ (M : Mem) : Av → Option (List Av)
  | .lst xs => some xs
  | .tup xs => some xs
  | .fz xs => some xs
  | .ref n => asL M (.ref n)
  | _ => none
theorem asQ_rep {c : Rc} {M : Mem} {H : Hp} {x : V} {a : Av} {xs : List Av} (s : Sim Z c M H) (r : Rep Z c x a) (h : asQ M a = some xs) : ∃ l vs, x = .ref l ∧ (SqL Z.K H l vs ∨ SqT Z.K H l vs) ∧ Reps Z c vs xs := by
  cases r with
  | lst h1 h2 => cases h; exact ⟨_, _, rfl, .inl (SqL.of (s.g _ _ h1)), h2⟩
  | tup h1 h2 => cases h; exact ⟨_, _, rfl, .inr (same_t s.g h1), h2⟩
  | fz h1 h2 => cases h; exact ⟨_, _, rfl, .inl (same_l s.g h1), h2⟩
  | @ref n hn =>
    obtain ⟨l, vs, e, h1, h2⟩ := asL_rep s (Rep.ref (Z := Z) hn) h
    exact ⟨l, vs, e, .inl (SqL.of h1), h2⟩
  | _ => cases h
def asR (M : Mem) : Av → Option (List Av)
  | .lst xs => some xs
  | .fz xs => some xs
  | .ref n => asL M (.ref n)
  | _ => none
theorem asR_rep {c : Rc} {M : Mem} {H : Hp} {x : V} {a : Av} {xs : List Av} (s : Sim Z c M H) (r : Rep Z c x a) (h : asR M a = some xs) : ∃ l vs, x = .ref l ∧ SqL Z.K H l vs ∧ Reps Z c vs xs := by
  cases r with
  | lst h1 h2 => cases h; exact ⟨_, _, rfl, SqL.of (s.g _ _ h1), h2⟩
  | fz h1 h2 => cases h; exact ⟨_, _, rfl, same_l s.g h1, h2⟩
  | @ref n hn =>
    obtain ⟨l, vs, e, h1, h2⟩ := asL_rep s (Rep.ref (Z := Z) hn) h
    exact ⟨l, vs, e, SqL.of h1, h2⟩
  | _ => cases h
mutual
def pdT : Av → Option PyData
  | .non => some .none
  | .bl b => some (.bool b)
  | .int i => some (.int i)
  | .str x => some (.str x)
  | .lst xs => (pdTs xs).map .list
  | .tup xs => (pdTs xs).map .tuple
  | .fz xs => (pdTs xs).map .list
  | .obj _ _ _ => none
  | .dct _ _ => none
  | .ref _ => none
  | .ty _ => none
  | .cls _ => none
def pdTs : List Av → Option (List PyData)
  | [] => some []
  | x :: xs => (match pdT x, pdTs xs with
    | some d, some ds => some (d :: ds)
    | _, _ => none)
end
mutual
theorem pdT_rep {c : Rc} {M : Mem} {H : Hp} (s : Sim Z c M H) : ∀ (a : Av) (x : V) (d : PyData), Rep Z c x a → pdT a = some d → Dp Z.K H x d
  | .non, _, _, r, h => by cases r; cases h; exact .non
  | .bl b, _, _, r, h => by cases r; cases h; exact .bl b
  | .int b, _, _, r, h => by cases r; cases h; exact .int b
  | .str b, _, _, r, h => by cases r; cases h; exact .str b
  | .lst xs, _, d, r, h => by
    cases r with
    | lst h1 h2 =>
      unfold pdT at h
      cases q : pdTs xs with
      | none => rw [q] at h; cases h
      | some ds => rw [q] at h; cases h; exact .lst (SqL.of (s.g _ _ h1)) (pdTs_rep s xs _ ds h2 q)
  | .tup xs, _, d, r, h => by
    cases r with
    | tup h1 h2 =>
      unfold pdT at h
      cases q : pdTs xs with
      | none => rw [q] at h; cases h
      | some ds => rw [q] at h; cases h; exact .tup (same_t s.g h1) (pdTs_rep s xs _ ds h2 q)
  | .fz xs, _, d, r, h => by
    cases r with
    | fz h1 h2 =>
      unfold pdT at h
      cases q : pdTs xs with
      | none => rw [q] at h; cases h
      | some ds => rw [q] at h; cases h; exact .lst (same_l s.g h1) (pdTs_rep s xs _ ds h2 q)
  | .obj _ _ _, _, _, _, h => by cases h
  | .dct _ _, _, _, _, h => by cases h
  | .ref _, _, _, _, h => by cases h
  | .ty _, _, _, _, h => by cases h
  | .cls _, _, _, _, h => by cases h
theorem pdTs_rep {c : Rc} {M : Mem} {H : Hp} (s : Sim Z c M H) : ∀ (as : List Av) (xs : List V) (ds : List PyData), Reps Z c xs as → pdTs as = some ds → DpAll Z.K H xs ds
  | [], _, _, r, h => by cases r; cases h; exact .nil
  | a :: as, _, ds, r, h => by
    cases r with
    | cons r1 r2 =>
      unfold pdTs at h
      cases q : pdT a with
      | none => rw [q] at h; cases h
      | some d =>
        cases q' : pdTs as with
        | none => rw [q, q'] at h; cases h
        | some es => rw [q, q'] at h; cases h; exact .cons (pdT_rep s a _ d r1 q) (pdTs_rep s as _ es r2 q')
end
def pd (M : Mem) : Av → Option PyData
  | .ref n => (match asL M (.ref n) with
    | some xs => (pdTs xs).map .list
    | none => none)
  | a => pdT a
theorem pd_rep {c : Rc} {M : Mem} {H : Hp} (s : Sim Z c M H) {a : Av} {x : V} {d : PyData} (r : Rep Z c x a) (h : pd M a = some d) : Dp Z.K H x d := by
  cases a with
  | ref n =>
    cases q : asL M (.ref n) with
    | none => simp [pd, q] at h
    | some xs =>
      simp only [pd, q] at h
      obtain ⟨l, vs, rfl, h1, h2⟩ := asL_rep s r q
      cases q' : pdTs xs with
      | none => simp [q'] at h
      | some ds =>
        simp [q'] at h
        subst h
        exact .lst (SqL.of h1) (pdTs_rep s xs _ ds h2 q')
  | _ => exact pdT_rep s _ _ _ r h
def flatA : Av → Bool
  | .non => true
  | .bl _ => true
  | .int _ => true
  | .str _ => true
  | _ => false
def vOf : Av → V
  | .non => .non
  | .bl b => .bl b
  | .int i => .int i
  | .str x => .str x
  | _ => .non
theorem flat_rep {c : Rc} {x : V} {a : Av} (r : Rep Z c x a) (h : flatA a = true) : x = vOf a ∧ flatV x = true := by
  cases r <;> first | exact ⟨rfl, rfl⟩ | cases h
theorem flats_rep {c : Rc} : ∀ {xs : List V} {as : List Av}, Reps Z c xs as → as.all flatA = true → xs = as.map vOf ∧ xs.all flatV = true
  | _, _, .nil, _ => ⟨rfl, rfl⟩
  | _, _, .cons r rs, h => by
    simp only [List.all_cons, Bool.and_eq_true] at h
    obtain ⟨h1, h2⟩ := flat_rep r h.1
    obtain ⟨h3, h4⟩ := flats_rep rs h.2
    exact ⟨by rw [List.map_cons, ← h1, ← h3], by simp [h2, h4]⟩
def szOk (n : Nat) : Bool := Nat.ble n 100000
theorem szOk_le {n : Nat} (h : szOk n = true) : n ≤ sizeLine := Nat.le_trans (Nat.le_of_ble_eq_true h) (by decide)
theorem szOk_lt {n : Nat} (h : szOk n = true) : n < sizeLine := Nat.lt_of_le_of_lt (Nat.le_of_ble_eq_true h) (by decide)
theorem Okk.lst {σ : St} {c : Rc} {Q : VK} {xs : List Av} {vs : List V} {M : Mem} {H : Hp} {p : Addr} (h : Okk Z W σ c (Rep Z) Q (.ok (.lst xs) M)) (s : Sim Z c M H) (r : Reps Z c vs xs) (hp : H p = none) : Q (.ref p) (upd H p (.lst vs)) :=
  h _ _ _ (Le.lay (s.g.free hp)) (s.lay hp) (.lst (show upd c.G p (.lst vs) p = _ from upd_same) (r.mono (Le.lay (s.g.free hp))))
theorem Okk.tup {σ : St} {c : Rc} {Q : VK} {xs : List Av} {vs : List V} {M : Mem} {H : Hp} {p : Addr} (h : Okk Z W σ c (Rep Z) Q (.ok (.tup xs) M)) (s : Sim Z c M H) (r : Reps Z c vs xs) (hp : H p = none) : Q (.ref p) (upd H p (.tup vs)) :=
  h _ _ _ (Le.lay (s.g.free hp)) (s.lay hp) (.tup (SqT.of (show upd c.G p (.tup vs) p = _ from upd_same)) (r.mono (Le.lay (s.g.free hp))))
end
end Pd
set_option maxHeartbeats 2000000
namespace Pd
open PySem PySem.Spec PyProof.Rows L2
section
variable {Z : Sc} {W : WX} {X : Cx}
def keyA : Av → Option Key
  | .int i => some (.inl i)
  | .str x => some (.inr x)
  | _ => none
theorem keyA_rep {c : Rc} {x : V} {a : Av} {k : Key} (r : Rep Z c x a) (h : keyA a = some k) : x = kV k := by
  cases r <;> first | (cases h; rfl) | cases h
theorem dkA_cons {a : Av} {ks : List Av} {ys : List Key} (h : dkA (a :: ks) = some ys) : ∃ k zs, keyA a = some k ∧ dkA ks = some zs ∧ ys = k :: zs := by
  cases a <;> first | (simp [dkA] at h; done) | skip
  all_goals
    simp only [dkA, Option.map_eq_some_iff] at h
    obtain ⟨zs, h1, h2⟩ := h
    exact ⟨_, zs, rfl, h1, h2.symm⟩
theorem dkA_mk {a : Av} {ks : List Av} {k : Key} {zs : List Key} (h1 : keyA a = some k) (h2 : dkA ks = some zs) : dkA (a :: ks) = some (k :: zs) := by
  cases a <;> first | (cases h1; done) | skip
  all_goals
    cases h1
    simp [dkA, h2]
theorem dkA_app : ∀ {ks ls : List Av} {ys zs : List Key}, dkA ks = some ys → dkA ls = some zs → dkA (ks ++ ls) = some (ys ++ zs)
  | [], _, _, _, h, h2 => by cases h; exact h2
  | a :: ks, ls, ys, zs, h, h2 => by
    obtain ⟨k, ws, h3, h4, rfl⟩ := dkA_cons h
    exact dkA_mk h3 (dkA_app h4 h2)
def dctA (M : Mem) : Av → Option (List Av × List Av)
  | .dct ks vs => some (ks, vs)
  | .ref n => (match M[n]? with
    | some (some (.dct ks vs)) => some (ks, vs)
    | _ => none)
  | _ => none
theorem dctA_rep {c : Rc} {M : Mem} {H : Hp} {x : V} {a : Av} {ks vs : List Av} (s : Sim Z c M H) (r : Rep Z c x a) (h : dctA M a = some (ks, vs)) : ∃ p kvs, x = .ref p ∧ H p = some (.dK kvs) ∧ dkA ks = some (dKs kvs) ∧ Reps Z c (dVs kvs) vs := by
  cases r with
  | dct h1 h2 h3 => cases h; exact ⟨_, _, rfl, s.g _ _ h1, h2, h3⟩
  | @ref n hn =>
    simp only [dctA] at h
    split at h
    · rename_i q
      cases h
      obtain ⟨ho, h1, h2, h3⟩ := s.m n _ q
      obtain ⟨kvs, rfl, e1, e2⟩ := RepO.dct_of h2
      exact ⟨_, kvs, rfl, h1, e1, e2⟩
    · cases h
  | _ => cases h
def dGet : List Av → List Av → Key → Option Av
  | a :: ks, v :: vs, k => if keyA a = some k then some v else dGet ks vs k
  | _, _, _ => none
theorem dGet_rep {c : Rc} {k : Key} : ∀ {ks vs : List Av} {kvs : List (Key × V)}, dkA ks = some (dKs kvs) → Reps Z c (dVs kvs) vs → (∀ v, dGet ks vs k = some v → ∃ w, valV kvs k = some w ∧ Rep Z c w v) ∧ (dGet ks vs k = none → valV kvs k = none)
  | [], vs, kvs, h, r => by
    cases kvs with
    | nil => exact ⟨fun v h => by simp [dGet] at h, fun _ => rfl⟩
    | cons p l => simp [dkA] at h
  | a :: ks, vs, kvs, h, r => by
    obtain ⟨j, zs, h1, h2, h3⟩ := dkA_cons h
    cases kvs with
    | nil => cases h3
    | cons p l =>
      simp only [dKs, List.map_cons, List.cons.injEq] at h3
      obtain ⟨e1, e2⟩ := h3
      simp only [dVs, List.map_cons] at r
      cases r with
      | @cons _ v _ ws r1 r2 =>
        have ih := dGet_rep (k := k) (ks := ks) (vs := ws) (kvs := l) (by rw [h2, ← e2]) r2
        simp only [dGet, h1]
        by_cases hk : j = k
        · rw [if_pos (by rw [hk])]
          refine ⟨fun w hw => ?_, fun hw => by cases hw⟩
          cases hw
          exact ⟨p.2, valV_pos (e1.trans hk), r1⟩
        · rw [if_neg (by simpa using hk)]
          rw [valV_neg (by rw [e1]; exact hk)]
          exact ih
def dRep (k : Key) (v : Av) : List Av → List Av → List Av
  | a :: ks, u :: vs => (if keyA a = some k then v else u) :: dRep k v ks vs
  | _, vs => vs
def dHas (k : Key) (ks : List Av) : Bool := ks.any fun a => decide (keyA a = some k)
def dSet (ks vs : List Av) (a : Av) (k : Key) (v : Av) : List Av × List Av := if dHas k ks then (ks, dRep k v ks vs) else (ks ++ [a], vs ++ [v])
theorem dHas_eq {k : Key} : ∀ {ks : List Av} {kvs : List (Key × V)}, dkA ks = some (dKs kvs) → dHas k ks = kvs.any fun kv => decide (kv.1 = k)
  | [], kvs, h => by
    cases kvs with
    | nil => rfl
    | cons p l => simp [dkA] at h
  | a :: ks, kvs, h => by
    obtain ⟨j, zs, h1, h2, h3⟩ := dkA_cons h
    cases kvs with
    | nil => cases h3
    | cons p l =>
      simp only [dKs, List.map_cons, List.cons.injEq] at h3
      obtain ⟨e1, e2⟩ := h3
      have ih := dHas_eq (k := k) (ks := ks) (kvs := l) (by rw [h2, ← e2])
      simp only [dHas, List.any_cons, h1] at ih ⊢
      rw [ih, e1]
      simp
theorem dRep_rep {c : Rc} {k : Key} {w : V} {v : Av} (rv : Rep Z c w v) : ∀ {ks vs : List Av} {kvs : List (Key × V)}, dkA ks = some (dKs kvs) → Reps Z c (dVs kvs) vs → Reps Z c (dVs (kvs.map fun kv => if kv.1 = k then (kv.1, w) else kv)) (dRep k v ks vs)
  | [], vs, kvs, h, r => by
    cases kvs with
    | nil => simpa [dRep] using r
    | cons p l => simp [dkA] at h
  | a :: ks, vs, kvs, h, r => by
    obtain ⟨j, zs, h1, h2, h3⟩ := dkA_cons h
    cases kvs with
    | nil => cases h3
    | cons p l =>
      simp only [dKs, List.map_cons, List.cons.injEq] at h3
      obtain ⟨e1, e2⟩ := h3
      simp only [dVs, List.map_cons] at r
      cases r with
      | @cons _ u _ ws r1 r2 =>
        have ih := dRep_rep (k := k) rv (ks := ks) (vs := ws) (kvs := l) (by rw [h2, ← e2]) r2
        simp only [dRep, h1, dVs, List.map_cons]
        by_cases hk : j = k
        · rw [if_pos (e1.trans hk), if_pos (by rw [hk])]
          exact .cons rv ih
        · rw [if_neg (show ¬ p.1 = k by rw [e1]; exact hk), if_neg (by simpa using hk)]
          exact .cons r1 ih
theorem dSet_rep {c : Rc} {ks vs : List Av} {kvs : List (Key × V)} {a : Av} {k : Key} {w : V} {v : Av} (h : dkA ks = some (dKs kvs)) (r : Reps Z c (dVs kvs) vs) (hk : keyA a = some k) (rv : Rep Z c w v) :
    dkA (dSet ks vs a k v).1 = some (dKs (putK kvs k w)) ∧ Reps Z c (dVs (putK kvs k w)) (dSet ks vs a k v).2 := by
  unfold dSet putK
  rw [dHas_eq h]
  split
  · refine ⟨?_, dRep_rep rv h r⟩
    rw [h]
    congr 1
    simp only [dKs, List.map_map]
    refine List.map_congr_left fun p _ => ?_
    simp only [Function.comp]
    split <;> rfl
  · refine ⟨?_, ?_⟩
    · have := dkA_app h (dkA_mk hk (show dkA [] = some [] from rfl))
      rw [this]
      simp [dKs]
    · have := r.append (.cons rv .nil)
      simpa [dVs] using this
def rIxD : R2 := fun x y H Q => ∃ a v, x = .ref a ∧ DGet H a y (some v) ∧ Q v H
theorem ix_dict (hu : X.A.units + 1 < cLine) : IxR X rIxD := by
  intro value slice pins s σ H x y v u Q I rx ry h hs
  obtain ⟨a, w, rfl, g, q⟩ := h
  cases rx
  exact tail_any (dict_typeIs I g) PySem.F.slot_dict_getitem.lookup (d_getItem hu I g ry fun w' s' I' r' => ⟨w, H, I', r', q⟩) hs
def rSetD : TSet := fun o i v H Q => ∃ a H', o = .ref a ∧ DPut H a i v H' ∧ Q H'
theorem set_dict (hu : X.A.units + 1 < cLine) : PSet X rSetD := by
  intro pins s σ H o i v ov iv u Q I ro ri rv h
  obtain ⟨a, H', rfl, g, q⟩ := h
  cases ro
  exact d_setItem hu I g ri rv fun s' I' => ⟨H', I', q⟩
theorem PSet.or {t t' : TSet} (h : PSet X t) (h' : PSet X t') : PSet X fun o i v H Q => t o i v H Q ∨ t' o i v H Q := by
  intro pins s σ H o i v ov iv u Q I ro ri rv q
  rcases q with q | q
  · exact h pins s σ H o i v ov iv u Q I ro ri rv q
  · exact h' pins s σ H o i v ov iv u Q I ro ri rv q
end
end Pd
set_option maxHeartbeats 2000000
namespace Pd
open PySem PySem.Spec L2
section
variable {Z : Sc} {W : WX} {X : Cx}
def opAdd (a b : Av) (M : Mem) : Res Av := match a, b with
  | .int i, .int j => .ok (.int (i + j)) M
  | .str x, .str y => if szOk (x.length + y.length) then .ok (.str (x ++ y)) M else .bad
  | .tup xs, .tup ys => if szOk (xs.length + ys.length) then .ok (.tup (xs ++ ys)) M else .bad
  | a, b => (match asL M a, asL M b with
    | some xs, some ys => if szOk (xs.length + ys.length) then .ok (.lst (xs ++ ys)) M else .bad
    | _, _ => .bad)
def rAddA (K : PySem.W.Frag) : R2 := fun x y H Q => (rI0 fun i j => .int (i + j)) x y H Q ∨ ((∃ i j, x = .str i ∧ y = .str j ∧ i.length + j.length ≤ sizeLine ∧ Q (.str (i ++ j)) H) ∨ (rCatA K x y H Q ∨ rCat x y H Q))
theorem op_addA : OpR X (binaryOp .Add) (rAddA X.K) := op_add.or (op_add_str.or (op_catA.or op_cat))
theorem ops_add : OpS Z W (rAddA Z.K) opAdd := by
  intro σ c M H x y a b Q s ra rb h
  unfold opAdd at h
  split at h
  · cases ra; cases rb
    exact .inl ⟨_, _, rfl, rfl, h.here s (.int _)⟩
  · cases ra; cases rb
    split at h
    · rename_i hz
      exact .inr (.inl ⟨_, _, rfl, rfl, szOk_le hz, h.here s (.str _)⟩)
    · exact h.elim
  · rename_i xs ys
    cases ra with | tup h1 r1 =>
    cases rb with | tup h2 r2 =>
    split at h
    · rename_i hz
      refine .inr (.inr (.inl ⟨_, _, _, _, rfl, rfl, same_t s.g h1, same_t s.g h2, by rw [r1.length, r2.length]; exact szOk_le hz, fun e => ?_, fun _ e => ?_, fun _ _ p hp => ?_⟩))
      · subst e
        cases r1
        exact h.here s (.tup h2 r2)
      · subst e
        cases r2
        rw [List.append_nil] at h
        exact h.here s (.tup h1 r1)
      · exact h.tup s (r1.append r2) hp
    · exact h.elim
  · split at h
    · rename_i xs ys e1 e2
      split at h
      · rename_i hz
        obtain ⟨l, vs, rfl, h1, r1⟩ := asL_rep s ra e1
        obtain ⟨l', ws, rfl, h2, r2⟩ := asL_rep s rb e2
        exact .inr (.inr (.inr ⟨_, _, _, _, rfl, rfl, h1, h2, by rw [r1.length, r2.length]; exact szOk_le hz, fun p hp => h.lst s (r1.append r2) hp⟩))
      · exact h.elim
    · exact h.elim
def opSub (a b : Av) (M : Mem) : Res Av := match a, b with
  | .int i, .int j => .ok (.int (i - j)) M
  | _, _ => .bad
theorem ops_sub : OpS Z W (rI0 fun i j => .int (i - j)) opSub := by
  intro σ c M H x y a b Q s ra rb h
  unfold opSub at h
  split at h
  · cases ra; cases rb
    exact ⟨_, _, rfl, rfl, h.here s (.int _)⟩
  · exact h.elim
def small64 (i : Int) : Bool := decide (-(2 ^ 64) < i) && decide (i < 2 ^ 64)
def opMul (a b : Av) (M : Mem) : Res Av := match a, b with
  | .int i, .int j => if small64 i || small64 j then .ok (.int (i * j)) M else .bad
  | .tup xs, .int k => if !xs.isEmpty && decide (2 ≤ k) && decide (k ≤ 1000) && Nat.ble xs.length 1000 then .ok (.tup (List.replicate k.toNat xs).flatten) M else .bad
  | a, .int k => (match asL M a with
    | some xs => if decide (-1000 ≤ k) && decide (k ≤ 1000) && szOk (xs.length * k.toNat) then .ok (.lst (List.replicate k.toNat xs).flatten) M else .bad
    | _ => .bad)
  | _, _ => .bad
def rMulA (K : PySem.W.Frag) : R2 := fun x y H Q => (rI CMul fun i j => .int (i * j)) x y H Q ∨ (rRepT K x y H Q ∨ rRep x y H Q)
theorem op_mulA : OpR X (binaryOp .Mult) (rMulA X.K) := op_mul.or (op_repT.or op_rep)
theorem Reps.rep {c : Rc} {vs : List V} {xs : List Av} (r : Reps Z c vs xs) : ∀ n : Nat, Reps Z c (List.replicate n vs).flatten (List.replicate n xs).flatten
  | 0 => .nil
  | n + 1 => by
    simp only [List.replicate_succ, List.flatten_cons]
    exact r.append (Reps.rep r n)
theorem ops_mul : OpS Z W (rMulA Z.K) opMul := by
  intro σ c M H x y a b Q s ra rb h
  unfold opMul at h
  split at h
  · cases ra; cases rb
    split at h
    · rename_i i j hz
      refine .inl ⟨_, _, rfl, rfl, ?_, h.here s (.int _)⟩
      simp only [small64, Bool.or_eq_true, Bool.and_eq_true, decide_eq_true_eq] at hz
      exact hz
    · exact h.elim
  · rename_i xs k
    cases ra with | tup h1 r1 =>
    cases rb
    split at h
    · rename_i hz
      simp only [Bool.and_eq_true, Bool.not_eq_true', decide_eq_true_eq] at hz
      obtain ⟨⟨⟨z1, z2⟩, z3⟩, z4⟩ := hz
      refine .inr (.inl ⟨_, _, _, rfl, rfl, same_t s.g h1, ?_, z2, z3, by rw [r1.length]; exact Nat.le_of_ble_eq_true z4, fun p hp => h.tup s (r1.rep _) hp⟩)
      intro e; subst e; cases r1; simp at z1
    · exact h.elim
  · rename_i k _ _
    cases rb
    split at h
    · rename_i xs e1
      split at h
      · rename_i hz
        simp only [Bool.and_eq_true, decide_eq_true_eq] at hz
        obtain ⟨⟨z1, z2⟩, z3⟩ := hz
        obtain ⟨l, vs, rfl, h1, r1⟩ := asL_rep s ra e1
        exact .inr (.inr ⟨_, _, _, rfl, rfl, h1, by omega, by omega, by rw [r1.length]; exact szOk_le z3, fun p hp => h.lst s (r1.rep _) hp⟩)
      · exact h.elim
    · exact h.elim
  · exact h.elim
def opDiv (a b : Av) (M : Mem) : Res Av := match a, b with
  | .int i, .int j => if decide (0 < j) && decide (j < 1073741824) then .ok (.int (i / j)) M else .bad
  | _, _ => .bad
theorem ops_div : OpS Z W (rI CDiv fun i j => .int (i / j)) opDiv := by
  intro σ c M H x y a b Q s ra rb h
  unfold opDiv at h
  split at h
  · cases ra; cases rb
    split at h
    · rename_i hz
      simp only [Bool.and_eq_true, decide_eq_true_eq] at hz
      exact ⟨_, _, rfl, rfl, hz, h.here s (.int _)⟩
    · exact h.elim
  · exact h.elim
def opMod (a b : Av) (M : Mem) : Res Av := match a, b with
  | .int i, .int j => if decide (0 < j) then .ok (.int (i % j)) M else .bad
  | _, _ => .bad
theorem ops_mod : OpS Z W (rI (fun _ j => 0 < j) fun i j => .int (i % j)) opMod := by
  intro σ c M H x y a b Q s ra rb h
  unfold opMod at h
  split at h
  · cases ra; cases rb
    split at h
    · rename_i hz
      simp only [decide_eq_true_eq] at hz
      exact ⟨_, _, rfl, rfl, hz, h.here s (.int _)⟩
    · exact h.elim
  · exact h.elim
def opPow (a b : Av) (M : Mem) : Res Av := match a, b with
  | .int i, .int j => if decide (0 ≤ j) && decide (j ≤ 1000) && Nat.blt i.natAbs (2 ^ 64) then .ok (.int (i ^ j.toNat)) M else .bad
  | _, _ => .bad
theorem ops_pow : OpS Z W (rI CPow fun i j => .int (i ^ j.toNat)) opPow := by
  intro σ c M H x y a b Q s ra rb h
  unfold opPow at h
  split at h
  · cases ra; cases rb
    split at h
    · rename_i hz
      simp only [Bool.and_eq_true, decide_eq_true_eq] at hz
      exact ⟨_, _, rfl, rfl, ⟨hz.1.1, by omega, Nat.le_of_ble_eq_true hz.2⟩, h.here s (.int _)⟩
    · exact h.elim
  · exact h.elim
def scA : Av → Av → Option Bool
  | .non, .non => some true
  | .int i, .int j => some (decide (i = j))
  | .bl a, .bl b => some (decide (a = b))
  | .str x, .str y => some (decide (x = y))
  | .non, .int _ => some false
  | .int _, .non => some false
  | .non, .bl _ => some false
  | .bl _, .non => some false
  | .non, .str _ => some false
  | .str _, .non => some false
  | .int _, .str _ => some false
  | .str _, .int _ => some false
  | .bl _, .str _ => some false
  | .str _, .bl _ => some false
  | _, _ => none
theorem scA_rep {c : Rc} {x y : V} {a b : Av} {r : Bool} (ra : Rep Z c x a) (rb : Rep Z c y b) (h : scA a b = some r) : scal x y = true ∧ decide (x = y) = r := by
  cases ra <;> cases rb <;> simp only [scA, Option.some.injEq, reduceCtorEq] at h <;> subst h <;> refine ⟨rfl, ?_⟩ <;> simp
def lenNe (M : Mem) (a b : Av) : Bool := match asR M a, asR M b with
  | some xs, some ys => !Nat.beq xs.length ys.length
  | _, _ => false
def tupNe (M : Mem) (a b : Av) : Bool := match b with
  | .tup ys => (match a with
    | .tup xs => !xs.isEmpty && ys.isEmpty
    | a => (asR M a).isSome)
  | _ => false
def unlike (M : Mem) (a b : Av) : Bool := lenNe M a b || tupNe M a b
def opEq (neg : Bool) (a b : Av) (M : Mem) : Res Av := match scA a b with
  | some r => .ok (.bl (if neg then !r else r)) M
  | none => (match pd M a, pd M b with
    | some d, some e => if SeqAt.shaped d && SeqAt.shaped e then .ok (.bl (if neg then !PyData.eqv d e else PyData.eqv d e)) M else .bad
    | _, _ => if unlike M a b then .ok (.bl neg) M else .bad)
def rLenE (K : PySem.W.Frag) (r : Bool) : R2 := fun x y H Q => ∃ p q xs ys, x = .ref p ∧ y = .ref q ∧ SqL K H p xs ∧ SqL K H q ys ∧ xs.length ≠ ys.length ∧ Q (.bl r) H
theorem op_eqLen (hu : X.A.units < cLine) : OpR X (compareOp .Eq) (rLenE X.K false) := by
  intro pins s σ H x y v u Q I rx ry h
  obtain ⟨p, q, xs, ys, rfl, rfl, hp, hq, hl, k⟩ := h
  cases rx
  cases ry
  obtain ⟨its, r1, pl1, _⟩ := I.list hp
  obtain ⟨its2, r2, pl2, _⟩ := I.list hq
  have e1 := r1.length
  have e2 := r2.length
  refine SeqAt.eq_list_lengthsAt pl1.isList pl2.isList ?_ hu ⟨.bl false, H, I, rfl, k⟩
  simp only [List.size_toArray, bne_iff_ne, ne_eq]
  omega
theorem op_neLen (hu : X.A.units < cLine) : OpR X (compareOp .NotEq) (rLenE X.K true) := by
  intro pins s σ H x y v u Q I rx ry h
  obtain ⟨p, q, xs, ys, rfl, rfl, hp, hq, hl, k⟩ := h
  cases rx
  cases ry
  obtain ⟨its, r1, pl1, _⟩ := I.list hp
  obtain ⟨its2, r2, pl2, _⟩ := I.list hq
  have e1 := r1.length
  have e2 := r2.length
  refine SeqAt.RcNeAt.lists_lengths pl1.isList pl2.isList ?_ hu _ _ _ _ ⟨.bl true, H, I, rfl, k⟩
  simp only [List.size_toArray, bne_iff_ne, ne_eq]
  omega
def rTupE (K : PySem.W.Frag) (r : Bool) : R2 := fun x y H Q => ∃ p q, x = .ref p ∧ y = .ref q ∧ ((∃ xs, xs ≠ [] ∧ SqT K H p xs ∧ SqT K H q []) ∨ (∃ xs ys, SqL K H p xs ∧ SqT K H q ys)) ∧ Q (.bl r) H
theorem op_eqTup (hu : X.A.units < cLine) : OpR X (compareOp .Eq) (rTupE X.K false) := by
  intro pins s σ H x y v u Q I rx ry h
  obtain ⟨p, q, rfl, rfl, h, k⟩ := h
  cases rx
  cases ry
  rcases h with ⟨xs, hx, hp, hq⟩ | ⟨xs, ys, hp, hq⟩
  · obtain ⟨its, r1, pl1, _⟩ := I.tuple hp
    obtain ⟨its2, r2, pl2, _⟩ := I.tuple hq
    have e1 := r1.length
    have e2 : its2 = [] := List.eq_nil_of_length_eq_zero r2.length.symm
    subst e2
    refine SeqAt.eq_tupleAt (e := fun _ => false) pl1 pl2 hu (fun j h1 h2 => absurd h2 (by simp)) ⟨.bl false, H, I, ?_, k⟩
    cases its with
    | nil => cases xs with
      | nil => exact absurd rfl hx
      | cons _ _ => simp at e1
    | cons i l => simp; rfl
  · obtain ⟨its, r1, pl1, _⟩ := I.list hp
    obtain ⟨its2, r2, pl2, _⟩ := I.tuple hq
    exact SeqAt.RcAt.list_tuple pl1.isList pl2 hu _ _ _ _ ⟨.bl false, H, I, rfl, k⟩
theorem op_neTup (hu : X.A.units < cLine) : OpR X (compareOp .NotEq) (rTupE X.K true) := by
  intro pins s σ H x y v u Q I rx ry h
  obtain ⟨p, q, rfl, rfl, h, k⟩ := h
  cases rx
  cases ry
  rcases h with ⟨xs, hx, hp, hq⟩ | ⟨xs, ys, hp, hq⟩
  · obtain ⟨its, r1, pl1, _⟩ := I.tuple hp
    obtain ⟨its2, r2, pl2, _⟩ := I.tuple hq
    have e1 := r1.length
    have e2 : its2 = [] := List.eq_nil_of_length_eq_zero r2.length.symm
    subst e2
    refine SeqAt.RcNeAt.tuples (e := fun _ => false) pl1 pl2 hu (fun j h1 h2 => absurd h2 (by simp)) _ _ _ _ ⟨.bl true, H, I, ?_, k⟩
    cases its with
    | nil => cases xs with
      | nil => exact absurd rfl hx
      | cons _ _ => simp at e1
    | cons i l => simp; rfl
  · obtain ⟨its, r1, pl1, _⟩ := I.list hp
    obtain ⟨its2, r2, pl2, _⟩ := I.tuple hq
    exact SeqAt.RcNeAt.list_tuple pl1.isList pl2 hu _ _ _ _ ⟨.bl true, H, I, rfl, k⟩
theorem tupNe_rep {c : Rc} {M : Mem} {H : Hp} {x y : V} {a b : Av} {r : Bool} {Q : VK} (s : Sim Z c M H) (ra : Rep Z c x a) (rb : Rep Z c y b) (h : tupNe M a b = true) (q : Q (.bl r) H) : rTupE Z.K r x y H Q := by
  cases b with
  | tup ys =>
    cases rb with
    | tup h1 h2 =>
      have h1 := same_t s.g h1
      have lst : (asR M a).isSome = true → rTupE Z.K r x (.ref _) H Q := fun hz => by
        obtain ⟨xs, hx⟩ := Option.isSome_iff_exists.mp hz
        obtain ⟨l, vs, rfl, q1, r1⟩ := asR_rep s ra hx
        exact ⟨l, _, rfl, rfl, .inr ⟨vs, _, q1, h1⟩, q⟩
      cases a with
      | tup xs =>
        cases ra with
        | tup h3 h4 =>
          simp only [tupNe, Bool.and_eq_true, Bool.not_eq_true', List.isEmpty_iff] at h
          obtain ⟨hx, rfl⟩ := h
          cases h2
          refine ⟨_, _, rfl, rfl, .inl ⟨_, fun z => ?_, same_t s.g h3, h1⟩, q⟩
          subst z
          cases h4
          simp at hx
      | _ => exact lst h
  | _ => cases h
theorem lenNe_rep {c : Rc} {M : Mem} {H : Hp} {x y : V} {a b : Av} (s : Sim Z c M H) (ra : Rep Z c x a) (rb : Rep Z c y b) (h : lenNe M a b = true) : ∃ p q xs ys, x = .ref p ∧ y = .ref q ∧ SqL Z.K H p xs ∧ SqL Z.K H q ys ∧ xs.length ≠ ys.length := by
  unfold lenNe at h
  split at h
  · rename_i xs ys h1 h2
    obtain ⟨l, vs, rfl, q1, r1⟩ := asR_rep s ra h1
    obtain ⟨l', ws, rfl, q2, r2⟩ := asR_rep s rb h2
    refine ⟨l, l', vs, ws, rfl, rfl, q1, q2, ?_⟩
    rw [r1.length, r2.length]
    intro e
    rw [e, Nat.beq_refl] at h
    cases h
  · cases h
def rEqA (K : PySem.W.Frag) : R2 := fun x y H Q => rEq x y H Q ∨ (rEqD K x y H Q ∨ (rLenE K false x y H Q ∨ rTupE K false x y H Q))
def rNeA (K : PySem.W.Frag) : R2 := fun x y H Q => rNe x y H Q ∨ (rNeD K x y H Q ∨ (rLenE K true x y H Q ∨ rTupE K true x y H Q))
theorem op_eqA (hu : X.A.units + 64 < cLine) : OpR X (compareOp .Eq) (rEqA X.K) := op_eq.or ((op_eqD hu).or ((op_eqLen (by omega)).or (op_eqTup (by omega))))
theorem op_neA (hu : X.A.units + 64 < cLine) : OpR X (compareOp .NotEq) (rNeA X.K) := op_ne.or ((op_neD hu).or ((op_neLen (by omega)).or (op_neTup (by omega))))
theorem ops_eq : OpS Z W (rEqA Z.K) (opEq false) := by
  intro σ c M H x y a b Q s ra rb h
  unfold opEq at h
  split at h
  · rename_i r hr
    obtain ⟨h1, h2⟩ := scA_rep ra rb hr
    exact .inl ⟨h1, by rw [h2]; exact h.here s (.bl _)⟩
  split at h
  · rename_i d e h1 h2
    split at h
    · rename_i hz
      simp only [Bool.and_eq_true] at hz
      exact .inr (.inl ⟨d, e, pd_rep s ra h1, pd_rep s rb h2, hz.1, hz.2, h.here s (.bl _)⟩)
    · exact h.elim
  · split at h
    · rename_i hz
      rcases Bool.or_eq_true .. ▸ hz with hz | hz
      · obtain ⟨p, q, xs, ys, e1, e2, e3, e4, e5⟩ := lenNe_rep s ra rb hz
        exact .inr (.inr (.inl ⟨p, q, xs, ys, e1, e2, e3, e4, e5, h.here s (.bl _)⟩))
      · exact .inr (.inr (.inr (tupNe_rep s ra rb hz (h.here s (.bl _)))))
    · exact h.elim
theorem ops_ne : OpS Z W (rNeA Z.K) (opEq true) := by
  intro σ c M H x y a b Q s ra rb h
  unfold opEq at h
  split at h
  · rename_i r hr
    obtain ⟨h1, h2⟩ := scA_rep ra rb hr
    exact .inl ⟨h1, by rw [h2]; exact h.here s (.bl _)⟩
  split at h
  · rename_i d e h1 h2
    split at h
    · rename_i hz
      simp only [Bool.and_eq_true] at hz
      exact .inr (.inl ⟨d, e, pd_rep s ra h1, pd_rep s rb h2, hz.1, hz.2, h.here s (.bl _)⟩)
    · exact h.elim
  · split at h
    · rename_i hz
      rcases Bool.or_eq_true .. ▸ hz with hz | hz
      · obtain ⟨p, q, xs, ys, e1, e2, e3, e4, e5⟩ := lenNe_rep s ra rb hz
        exact .inr (.inr (.inl ⟨p, q, xs, ys, e1, e2, e3, e4, e5, h.here s (.bl _)⟩))
      · exact .inr (.inr (.inr (tupNe_rep s ra rb hz (h.here s (.bl _)))))
    · exact h.elim
def opCmp (p : Int → Int → Bool) (a b : Av) (M : Mem) : Res Av := match a, b with
  | .int i, .int j => .ok (.bl (p i j)) M
  | _, _ => .bad
theorem ops_cmp {p : Int → Int → Bool} : OpS Z W (rI0 fun i j => .bl (p i j)) (opCmp p) := by
  intro σ c M H x y a b Q s ra rb h
  unfold opCmp at h
  split at h
  · cases ra; cases rb
    exact ⟨_, _, rfl, rfl, h.here s (.bl _)⟩
  · exact h.elim
def isNonA : Av → Bool
  | .non => true
  | _ => false
theorem isNon_rep {c : Rc} {x : V} {a : Av} (r : Rep Z c x a) : decide (x = .non) = isNonA a := by
  cases r <;> first | rfl | (simp [isNonA])
def opIs (neg : Bool) (a b : Av) (M : Mem) : Res Av := match b with
  | .non => .ok (.bl (if neg then !isNonA a else isNonA a)) M
  | .bl d => (match a with
    | .bl e => .ok (.bl (if neg then !decide (e = d) else decide (e = d))) M
    | _ => .bad)
  | _ => .bad
theorem ops_is : OpS Z W (fun x y H Q => (y = .non ∧ Q (.bl (decide (x = .non))) H) ∨ (∃ a b : Bool, x = .bl a ∧ y = .bl b ∧ Q (.bl (decide (a = b))) H)) (opIs false) := by
  intro σ c M H x y a b Q s ra rb h
  unfold opIs at h
  split at h
  · cases rb
    refine .inl ⟨rfl, ?_⟩
    rw [isNon_rep ra]
    exact h.here s (.bl _)
  · split at h
    · cases rb
      cases ra
      exact .inr ⟨_, _, rfl, rfl, h.here s (.bl _)⟩
    · exact h.elim
  · exact h.elim
theorem ops_isnt : OpS Z W (fun x y H Q => (y = .non ∧ Q (.bl (!decide (x = .non))) H) ∨ (∃ a b : Bool, x = .bl a ∧ y = .bl b ∧ Q (.bl (!decide (a = b))) H)) (opIs true) := by
  intro σ c M H x y a b Q s ra rb h
  unfold opIs at h
  split at h
  · cases rb
    refine .inl ⟨rfl, ?_⟩
    rw [isNon_rep ra]
    exact h.here s (.bl _)
  · split at h
    · cases rb
      cases ra
      exact .inr ⟨_, _, rfl, rfl, h.here s (.bl _)⟩
    · exact h.elim
  · exact h.elim
def one? (x : Str) : Option Nat := match x.cps.toList with
  | [c] => some c
  | _ => none
theorem one_eq {x : Str} {c : Nat} (h : one? x = some c) : x = ⟨#[c]⟩ := by
  unfold one? at h
  split at h
  · rename_i d e
    cases h
    cases x with | mk cps =>
    have : cps = #[c] := by
      apply Array.ext'
      simpa using e
    rw [this]
  · cases h
def opIn (neg : Bool) (a b : Av) (M : Mem) : Res Av := match b with
  | .str z => (match a with
    | .str y => (match one? y with
      | some c => .ok (.bl (if neg then !decide (c ∈ z.cps.toList) else decide (c ∈ z.cps.toList))) M
      | none => .bad)
    | _ => .bad)
  | b => (match asQ M b with
    | some xs => if flatA a && xs.all flatA then .ok (.bl (if neg then !inV (vOf a) (xs.map vOf) else inV (vOf a) (xs.map vOf))) M else
      (match pd M a, pd M b with
      | some d, some (.list ds) => if SeqAt.shaped d && SeqAt.shaped (.list ds) then .ok (.bl (if neg then !ds.any (fun z => PyData.eqv z d) else ds.any fun z => PyData.eqv z d)) M else .bad
      | _, _ => .bad)
    | none => .bad)
def rInA (K : PySem.W.Frag) : R2 := fun x y H Q => (∃ (c : Nat) (z : Str), x = .str ⟨#[c]⟩ ∧ y = .str z ∧ Q (.bl (decide (c ∈ z.cps.toList))) H) ∨ (rIn K false x y H Q ∨ rInD K x y H Q)
def rNotInA (K : PySem.W.Frag) : R2 := fun x y H Q => (∃ (c : Nat) (z : Str), x = .str ⟨#[c]⟩ ∧ y = .str z ∧ Q (.bl (!decide (c ∈ z.cps.toList))) H) ∨ (rIn K true x y H Q ∨ rNotInD K x y H Q)
theorem op_inA (hu : X.A.units + 65 < cLine) : OpR X (compareOp .In) (rInA X.K) := op_in_sign.or (op_in_seq.or (op_inD hu))
theorem op_notInA (hu : X.A.units + 65 < cLine) : OpR X (compareOp .NotIn) (rNotInA X.K) := op_notIn_sign.or (op_notIn_seq.or (op_notInD hu))
theorem ops_in : OpS Z W (rInA Z.K) (opIn false) := by
  intro σ c M H x y a b Q s ra rb h
  unfold opIn at h
  split at h
  · cases rb
    split at h
    · cases ra
      split at h
      · rename_i e
        exact .inl ⟨_, _, congrArg V.str (one_eq e), rfl, h.here s (.bl _)⟩
      · exact h.elim
    · exact h.elim
  · split at h
    · rename_i xs e
      split at h
      · rename_i hz
        simp only [Bool.and_eq_true] at hz
        obtain ⟨l, vs, rfl, h1, r1⟩ := asQ_rep s rb e
        obtain ⟨f1, f2⟩ := flat_rep ra hz.1
        obtain ⟨f3, f4⟩ := flats_rep r1 hz.2
        refine .inr (.inl ⟨l, vs, rfl, h1, f2, f4, ?_⟩)
        rw [f1, f3]
        exact h.here s (.bl _)
      · split at h
        · rename_i d ds e1 e2
          split at h
          · rename_i hz
            simp only [Bool.and_eq_true] at hz
            exact .inr (.inr ⟨d, ds, pd_rep s ra e1, pd_rep s rb e2, hz.1, hz.2, h.here s (.bl _)⟩)
          · exact h.elim
        · exact h.elim
    · exact h.elim
theorem ops_notIn : OpS Z W (rNotInA Z.K) (opIn true) := by
  intro σ c M H x y a b Q s ra rb h
  unfold opIn at h
  split at h
  · cases rb
    split at h
    · cases ra
      split at h
      · rename_i e
        exact .inl ⟨_, _, congrArg V.str (one_eq e), rfl, h.here s (.bl _)⟩
      · exact h.elim
    · exact h.elim
  · split at h
    · rename_i xs e
      split at h
      · rename_i hz
        simp only [Bool.and_eq_true] at hz
        obtain ⟨l, vs, rfl, h1, r1⟩ := asQ_rep s rb e
        obtain ⟨f1, f2⟩ := flat_rep ra hz.1
        obtain ⟨f3, f4⟩ := flats_rep r1 hz.2
        refine .inr (.inl ⟨l, vs, rfl, h1, f2, f4, ?_⟩)
        rw [f1, f3]
        exact h.here s (.bl _)
      · split at h
        · rename_i d ds e1 e2
          split at h
          · rename_i hz
            simp only [Bool.and_eq_true] at hz
            exact .inr (.inr ⟨d, ds, pd_rep s ra e1, pd_rep s rb e2, hz.1, hz.2, h.here s (.bl _)⟩)
          · exact h.elim
        · exact h.elim
    · exact h.elim
def truA (M : Mem) (a : Av) : Option Bool := match a with
  | .non => some false
  | .bl b => some b
  | .int i => some (i != 0)
  | .str y => if szOk y.length then some ((y.length : Int) != 0) else none
  | a => (asQ M a).map fun xs => !xs.isEmpty
theorem truA_rep {c : Rc} {M : Mem} {H : Hp} {x : V} {a : Av} {k : Bool} (s : Sim Z c M H) (r : Rep Z c x a) (h : truA M a = some k) : TruV Z.K x H k := by
  unfold truA at h
  split at h
  · cases r; cases h; rfl
  · cases r; cases h; rfl
  · cases r; cases h; rfl
  · cases r
    split at h
    · rename_i hz
      cases h
      exact ⟨szOk_le hz, rfl⟩
    · cases h
  · rename_i e1 e2 e3 e4
    cases q : asQ M a with
    | none => rw [q] at h; cases h
    | some xs =>
      rw [q] at h
      cases h
      obtain ⟨l, vs, rfl, h1, r1⟩ := asQ_rep s r q
      have hl := r1.length
      have ee : vs.isEmpty = xs.isEmpty := by cases vs <;> cases xs <;> simp at hl ⊢
      rcases h1 with h1 | h1
      · exact .inl ⟨vs, h1, by rw [ee]⟩
      · exact .inr (.inl ⟨vs, h1, by rw [ee]⟩)
def tVal (f : Ev) : Et := fun e M => (f e M).bind fun a M1 => match truA M1 a with
  | some b => .ok b M1
  | none => .bad
theorem st_val {e : Expr} {f : Ev} (hK : X.K = Z.K) (he : ∀ whole, isTrue e X.env whole = (do let v ← whole; standAt e.pos; holding [v] (truthy v))) (h : SE Z W X e f) : ST Z W X e (tVal f) := by
  refine (pt_truth h he).imp fun σ H Q ⟨c, en, M, a, q⟩ => ?_
  refine step (R1 := Rep Z) a q fun c1 x v M1 H1 l1 a1 r1 h1 => ?_
  try dsimp only at h1
  split at h1
  · rename_i b e1
    exact ⟨b, by rw [hK]; exact truA_rep a1.s r1 e1, h1.here a1.s rfl⟩
  · exact h1.elim
def tCmpA (op : Av → Av → Mem → Res Av) (fa fb : Ev) : Et := fun e M => (eBin op fa fb e M).bind fun a M1 => match a with
  | .bl b => .ok b M1
  | _ => .bad
theorem st_cmp {r : R2} {op : Av → Av → Mem → Res Av} {fa fb : Ev} {a b : Expr} {o : CmpOp} {pos : Pos} (hr : OpR X (compareOp o) r) (ho : OpS Z W r op) (ha : SE Z W X a fa) (hb : SE Z W X b fb) (hm : behindInMarks o b = false) : ST Z W X (.Compare a [o] [b] pos) (tCmpA op fa fb) := by
  refine (pt_cmpR hr ha hb hm).imp fun σ H Q ⟨c, en, M, at_, q⟩ => ?_
  refine imp_bin ho σ H _ ?_
  refine step (R1 := Rep Z) at_ q fun c1 x v M1 H1 l1 a1 r1 h1 => ?_
  try dsimp only at h1
  split at h1
  · cases r1
    exact ⟨_, rfl, h1.here a1.s rfl⟩
  · exact h1.elim
def tNotA (f : Et) : Et := fun e M => (f e M).bind fun b M1 => .ok (!b) M1
theorem st_not {a : Expr} {f : Et} {pos : Pos} (h : ST Z W X a f) : ST Z W X (.UnaryOp .Not a pos) (tNotA f) := by
  refine (pt_not h).imp fun σ H Q ⟨c, en, M, a, q⟩ => ?_
  refine step (R1 := fun _ (x b : Bool) => x = b) a q fun c1 x v M1 H1 l1 a1 r1 h1 => ?_
  subst r1
  exact h1.here a1.s rfl
def tAndA (f g : Et) : Et := fun e M => (f e M).bind fun b M1 => if b then g e M1 else .ok false M1
def tOrA (f g : Et) : Et := fun e M => (f e M).bind fun b M1 => if b then .ok true M1 else g e M1
theorem imp_and {f g : Et} : ∀ σ H Q, T Z W (fun _ (x b : Bool) => x = b) (tAndA f g) σ H Q → tAnd (T Z W (fun _ (x b : Bool) => x = b) f) (T Z W (fun _ (x b : Bool) => x = b) g) σ H Q := by
  intro σ H Q ⟨c, en, M, a, q⟩
  refine step (R1 := fun _ (x b : Bool) => x = b) a q fun c1 x v M1 H1 l1 a1 r1 h1 => ?_
  subst r1
  cases x with
  | true => exact iteT ⟨c1, en, M1, a1, h1⟩
  | false => exact iteF (h1.here a1.s rfl)
theorem imp_or {f g : Et} : ∀ σ H Q, T Z W (fun _ (x b : Bool) => x = b) (tOrA f g) σ H Q → tOr (T Z W (fun _ (x b : Bool) => x = b) f) (T Z W (fun _ (x b : Bool) => x = b) g) σ H Q := by
  intro σ H Q ⟨c, en, M, a, q⟩
  refine step (R1 := fun _ (x b : Bool) => x = b) a q fun c1 x v M1 H1 l1 a1 r1 h1 => ?_
  subst r1
  cases x with
  | true => exact iteT (h1.here a1.s rfl)
  | false => exact iteF ⟨c1, en, M1, a1, h1⟩
theorem _root_.L2.PW.imp {X : Cx} {e : Expr} {t t' : TT} (h : PW X e t) (i : ∀ σ H Q, t' σ H Q → t σ H Q) : PW X e t' := ⟨fun wh pins s σ H Q I q => h.run wh pins s σ H Q I (i σ H Q q)⟩
abbrev SW (Z : Sc) (W : WX) (X : Cx) (e : Expr) (f : Et) : Prop := PW X e (T Z W (fun _ (x b : Bool) => x = b) f)
theorem sw_and1 {a : Expr} {f : Et} {pos : Pos} (h : ST Z W X a f) : SW Z W X (.BoolOp .And [a] pos) f := pw_and1 h
theorem sw_or1 {a : Expr} {f : Et} {pos : Pos} (h : ST Z W X a f) : SW Z W X (.BoolOp .Or [a] pos) f := pw_or1 h
theorem sw_and {a b : Expr} {rest : List Expr} {f g : Et} {pos : Pos} (ha : ST Z W X a f) (hb : SW Z W X (.BoolOp .And (b :: rest) pos) g) : SW Z W X (.BoolOp .And (a :: b :: rest) pos) (tAndA f g) := (pw_and ha hb).imp imp_and
theorem sw_or {a b : Expr} {rest : List Expr} {f g : Et} {pos : Pos} (ha : ST Z W X a f) (hb : SW Z W X (.BoolOp .Or (b :: rest) pos) g) : SW Z W X (.BoolOp .Or (a :: b :: rest) pos) (tOrA f g) := (pw_or ha hb).imp imp_or
def eAnd (f g : Ev) : Ev := fun e M => (f e M).bind fun a M1 => match a with
  | .bl true => g e M1
  | .bl false => .ok (.bl false) M1
  | _ => .bad
def eOr (f g : Ev) : Ev := fun e M => (f e M).bind fun a M1 => match a with
  | .bl true => .ok (.bl true) M1
  | .bl false => g e M1
  | _ => .bad
def eNot (f : Ev) : Ev := fun e M => (f e M).bind fun a M1 => match a with
  | .bl b => .ok (.bl (!b)) M1
  | _ => .bad
theorem se_and {a b : Expr} {rest : List Expr} {f g : Ev} {pos : Pos} (ha : SE Z W X a f) (hb : SE Z W X (.BoolOp .And (b :: rest) pos) g) : SE Z W X (.BoolOp .And (a :: b :: rest) pos) (eAnd f g) := by
  refine (pe_and ha hb).imp fun σ H Q ⟨c, en, M, a, q⟩ => ?_
  refine step (R1 := Rep Z) a q fun c1 x v M1 H1 l1 a1 r1 h1 => ?_
  try dsimp only at h1
  split at h1
  · cases r1
    exact ⟨true, rfl, iteT ⟨c1, en, M1, a1, h1⟩⟩
  · cases r1
    exact ⟨false, rfl, iteF (h1.here a1.s (.bl _))⟩
  · exact h1.elim
theorem se_or {a b : Expr} {rest : List Expr} {f g : Ev} {pos : Pos} (ha : SE Z W X a f) (hb : SE Z W X (.BoolOp .Or (b :: rest) pos) g) : SE Z W X (.BoolOp .Or (a :: b :: rest) pos) (eOr f g) := by
  refine (pe_or ha hb).imp fun σ H Q ⟨c, en, M, a, q⟩ => ?_
  refine step (R1 := Rep Z) a q fun c1 x v M1 H1 l1 a1 r1 h1 => ?_
  try dsimp only at h1
  split at h1
  · cases r1
    exact ⟨true, rfl, iteT (h1.here a1.s (.bl _))⟩
  · cases r1
    exact ⟨false, rfl, iteF ⟨c1, en, M1, a1, h1⟩⟩
  · exact h1.elim
theorem se_one {a : Expr} {f : Ev} {op : BoolOp} {pos : Pos} (h : SE Z W X a f) : SE Z W X (.BoolOp op [a] pos) f := pe_one h
theorem se_not {a : Expr} {f : Ev} {pos : Pos} (h : SE Z W X a f) : SE Z W X (.UnaryOp .Not a pos) (eNot f) := by
  refine (pe_not h).imp fun σ H Q ⟨c, en, M, a, q⟩ => ?_
  refine step (R1 := Rep Z) a q fun c1 x v M1 H1 l1 a1 r1 h1 => ?_
  try dsimp only at h1
  split at h1
  · cases r1
    exact ⟨_, rfl, h1.here a1.s (.bl _)⟩
  · exact h1.elim
def eNeg (f : Ev) : Ev := fun e M => (f e M).bind fun a M1 => match a with
  | .int i => .ok (.int (-i)) M1
  | _ => .bad
theorem se_neg {a : Expr} {f : Ev} {pos : Pos} (h : SE Z W X a f) : SE Z W X (.UnaryOp .USub a pos) (eNeg f) := by
  refine (pe_un un_neg h).imp fun σ H Q ⟨c, en, M, a, q⟩ => ?_
  refine step (R1 := Rep Z) a q fun c1 x v M1 H1 l1 a1 r1 h1 => ?_
  try dsimp only at h1
  split at h1
  · cases r1
    exact ⟨_, rfl, h1.here a1.s (.int _)⟩
  · exact h1.elim
def eIf (t : Et) (f g : Ev) : Ev := fun e M => (t e M).bind fun b M1 => if b then f e M1 else g e M1
theorem se_if {c a b : Expr} {t : Et} {f g : Ev} {pos : Pos} (hc : ST Z W X c t) (ha : SE Z W X a f) (hb : SE Z W X b g) : SE Z W X (.IfExp c a b pos) (eIf t f g) := by
  refine (pe_ifExp hc ha hb).imp fun σ H Q ⟨c, en, M, a, q⟩ => ?_
  refine step (R1 := fun _ (x b : Bool) => x = b) a q fun c1 x v M1 H1 l1 a1 r1 h1 => ?_
  subst r1
  cases x with
  | true => exact iteT ⟨c1, en, M1, a1, h1⟩
  | false => exact iteF ⟨c1, en, M1, a1, h1⟩
def eChain (op op' : Av → Av → Mem → Res Av) (fa fb fc : Ev) : Ev := fun e M => (fa e M).bind fun a M1 => (fb e M1).bind fun b M2 => (op a b M2).bind fun z M3 => match z with
  | .bl true => (fc e M3).bind fun d M4 => op' b d M4
  | .bl false => .ok (.bl false) M3
  | _ => .bad
def OpS2 (Z : Sc) (W : WX) (r : R2) (op : Av → Av → Mem → Res Av) : Prop :=
  ∀ (σ : St) (c : Rc) (M : Mem) (H : Hp) (x y : V) (a b : Av) (Q Q1 : VK) (k : Av → Mem → Res Av), Sim Z c M H → Rep Z c x a → Rep Z c y b → Okk Z W σ c (Rep Z) Q ((op a b M).bind k) →
    (∀ z M', op a b M = .ok z M' → ∀ c' v H', Le c c' → Sim Z c' M' H' → Rep Z c' v z → Okk Z W σ c' (Rep Z) Q (k z M') → Q1 v H') → r x y H Q1
theorem OpS.two {r : R2} {op : Av → Av → Mem → Res Av} (h : OpS Z W r op) (hx : ∀ a b M k fs M', op a b M ≠ .exc k fs M') : OpS2 Z W r op := by
  intro σ c M H x y a b Q Q1 k s ra rb q nx
  refine h σ c M H x y a b Q1 s ra rb ?_
  cases e : op a b M with
  | ok z M' =>
    rw [e] at q
    exact fun c' v H' l s' r' => nx z M' e c' v H' l s' r' (Okk.mono l q)
  | exc k' fs M' => exact absurd e (hx _ _ _ _ _ _)
  | bad => rw [e] at q; exact q
theorem imp_chain {r r' : R2} {op op' : Av → Av → Mem → Res Av} {fa fb fc : Ev} (ho : OpS2 Z W r op) (ho' : OpS Z W r' op') : ∀ σ H Q, T Z W (Rep Z) (eChain op op' fa fb fc) σ H Q → tChain r r' (T Z W (Rep Z) fa) (T Z W (Rep Z) fb) (T Z W (Rep Z) fc) σ H Q := by
  intro σ H Q ⟨c, e, M, a, h⟩
  refine step (R1 := Rep Z) a h fun c1 x v M1 H1 l1 a1 r1 h1 => ?_
  refine step (R1 := Rep Z) a1 h1 fun c2 y w M2 H2 l2 a2 r2 h2 => ?_
  refine ho σ c2 M2 H2 x y v w Q _ _ a2.s (r1.mono l2) r2 h2 fun z M3 ez c3 u H3 l3 s3 r3 h3 => ?_
  try dsimp only at h3
  split at h3
  · cases r3
    refine ⟨true, rfl, iteT ?_⟩
    exact step (R1 := Rep Z) (a2.mono l3 s3) h3 fun c4 z' w' M4 H4 l4 a4 r4 h4 => ho' σ c4 M4 H4 y z' w w' Q a4.s (r2.mono (l3.trans l4)) r4 h4
  · cases r3
    exact ⟨false, rfl, iteF (h3.here s3 (.bl _))⟩
  · exact h3.elim
theorem se_chain {r r' : R2} {op op' : Av → Av → Mem → Res Av} {fa fb fc : Ev} {a b d : Expr} {o o' : CmpOp} {pos : Pos} (hr : OpR X (compareOp o) r) (hr' : OpR X (compareOp o') r') (ho : OpS2 Z W r op) (ho' : OpS Z W r' op')
    (ha : SE Z W X a fa) (hb : SE Z W X b fb) (hd : SE Z W X d fc) (hm : lastMarks [o, o'] [b, d] = false) : SE Z W X (.Compare a [o, o'] [b, d] pos) (eChain op op' fa fb fc) :=
  (pe_chain hr hr' ha hb hd hm).imp (imp_chain ho ho')
def tBl (f : Ev) : Et := fun e M => (f e M).bind fun a M1 => match a with
  | .bl b => .ok b M1
  | _ => .bad
theorem st_chain {r r' : R2} {op op' : Av → Av → Mem → Res Av} {fa fb fc : Ev} {a b d : Expr} {o o' : CmpOp} {pos : Pos} (hr : OpR X (compareOp o) r) (hr' : OpR X (compareOp o') r') (ho : OpS2 Z W r op) (ho' : OpS Z W r' op')
    (ha : SE Z W X a fa) (hb : SE Z W X b fb) (hd : SE Z W X d fc) (hm : lastMarks [o, o'] [b, d] = false) : ST Z W X (.Compare a [o, o'] [b, d] pos) (tBl (eChain op op' fa fb fc)) := by
  refine (pt_chain hr hr' ha hb hd hm).imp fun σ H Q ⟨c, en, M, at_, q⟩ => ?_
  refine imp_chain ho ho' σ H _ ?_
  refine step (R1 := Rep Z) at_ q fun c1 x v M1 H1 l1 a1 r1 h1 => ?_
  try dsimp only at h1
  split at h1
  · cases r1
    exact ⟨_, rfl, h1.here a1.s rfl⟩
  · exact h1.elim
theorem cmp_nox {p : Int → Int → Bool} (a b : Av) (M : Mem) (k : Nat) (fs : List (Str × Av)) (M' : Mem) : opCmp p a b M ≠ .exc k fs M' := by
  unfold opCmp; split <;> simp
def aNil : Ea := fun _ M => .ok [] M
def aCons (f : Ev) (g : Ea) : Ea := fun e M => (f e M).bind fun a M1 => (g e M1).bind fun as M2 => .ok (a :: as) M2
def aStar (f : Ev) (g : Ea) : Ea := fun e M => (f e M).bind fun a M1 => match asQ M1 a with
  | some xs => (g e M1).bind fun as M2 => .ok (xs ++ as) M2
  | none => .bad
theorem sa_nil : SA Z W X [] aNil := pa_nil.imp fun σ H Q ⟨c, e, M, a, h⟩ => h.here a.s .nil
theorem sa_cons {e : Expr} {es : List Expr} {f : Ev} {g : Ea} (ha : SE Z W X e f) (hr : SA Z W X es g) (hs : starEach (e :: es) X.env = (false, eval e X.env) :: starEach es X.env) : SA Z W X (e :: es) (aCons f g) := by
  refine (pa_cons ha hr hs).imp fun σ H Q ⟨c, en, M, a, h⟩ => ?_
  refine step (R1 := Rep Z) a h fun c1 x v M1 H1 l1 a1 r1 h1 => ?_
  exact step (R1 := Reps Z) a1 h1 fun c2 y w M2 H2 l2 a2 r2 h2 => h2.here a2.s (.cons (r1.mono l2) r2)
theorem sa_star {e : Expr} {p : Pos} {es : List Expr} {f : Ev} {g : Ea} (hK : X.K = Z.K) (ha : SE Z W X e f) (hr : SA Z W X es g) : SA Z W X (.Starred e p :: es) (aStar f g) := by
  refine (StX.pa_star ha hr).imp fun σ H Q ⟨c, en, M, a, h⟩ => ?_
  refine step (R1 := Rep Z) a h fun c1 x v M1 H1 l1 a1 r1 h1 => ?_
  try dsimp only at h1
  split at h1
  · rename_i xs e1
    obtain ⟨l, vs, rfl, q1, r2⟩ := asQ_rep a1.s r1 e1
    refine ⟨l, vs, rfl, ?_, ?_⟩
    · rw [hK]
      exact q1.symm
    · exact step (R1 := Reps Z) a1 h1 fun c2 y w M2 H2 l2 a2 r3 h2 => h2.here a2.s ((r2.mono l2).append r3)
  · exact h1.elim
def eTup (g : Ea) : Ev := fun e M => (g e M).bind fun as M1 => if szOk as.length then .ok (.tup as) M1 else .bad
def eLst (g : Ea) : Ev := fun e M => (g e M).bind fun as M1 => if szOk as.length then .ok (.lst as) M1 else .bad
def eNewL (g : Ea) : Ev := fun e M => (g e M).bind fun as M1 => if szOk as.length then .ok (.ref M1.length) (M1 ++ [some (.lst as)]) else .bad
theorem se_tup {es : List Expr} {k : Nat} {g : Ea} {pos : Pos} (h : SA Z W X es g) : SE Z W X (.Tuple es k pos) (eTup g) := by
  refine (pe_tup h).imp fun σ H Q ⟨c, en, M, a, h⟩ => ?_
  refine step (R1 := Reps Z) a h fun c1 x v M1 H1 l1 a1 r1 h1 => ?_
  try dsimp only at h1
  split at h1
  · rename_i hz
    exact ⟨by rw [r1.length]; exact szOk_le hz, fun p hp => h1.tup a1.s r1 hp⟩
  · exact h1.elim
theorem se_lst {es : List Expr} {g : Ea} {pos : Pos} (h : SA Z W X es g) : SE Z W X (.List es pos) (eLst g) := by
  refine (pe_lst h).imp fun σ H Q ⟨c, en, M, a, h⟩ => ?_
  refine step (R1 := Reps Z) a h fun c1 x v M1 H1 l1 a1 r1 h1 => ?_
  try dsimp only at h1
  split at h1
  · rename_i hz
    exact ⟨by rw [r1.length]; exact szOk_le hz, fun p hp => h1.lst a1.s r1 hp⟩
  · exact h1.elim
theorem Okk.own {σ : St} {c : Rc} {Q : VK} {o : Mo} {ho : HO} {M : Mem} {H : Hp} {p : Addr} (h : Okk Z W σ c (Rep Z) Q (.ok (.ref M.length) (M ++ [some o]))) (s : Sim Z c M H) (r : RepO Z c p ho o) (hp : H p = none) : Q (.ref p) (upd H p ho) := by
  refine h (c.own p) _ _ Le.own (s.own hp r) ?_
  have q := Rep.ref (Z := Z) (c := c.own p) (n := c.L) (Nat.lt_succ_self _)
  rw [own_at, s.l] at q
  exact q
theorem se_newL {es : List Expr} {g : Ea} {pos : Pos} (h : SA Z W X es g) : SE Z W X (.List es pos) (eNewL g) := by
  refine (pe_lst h).imp fun σ H Q ⟨c, en, M, a, h⟩ => ?_
  refine step (R1 := Reps Z) a h fun c1 x v M1 H1 l1 a1 r1 h1 => ?_
  try dsimp only at h1
  split at h1
  · rename_i hz
    exact ⟨by rw [r1.length]; exact szOk_le hz, fun p hp => h1.own a1.s (show RepO Z c1 p (.lst x) (.lst v) from r1) hp⟩
  · exact h1.elim
end
end Pd
set_option maxHeartbeats 2000000
namespace Pd
open PySem PySem.Spec L2
section
variable {Z : Sc} {W : WX} {X : Cx}
theorem atI_rep {c : Rc} {vs : List V} {xs : List Av} {i : Int} {a : Av} (r : Reps Z c vs xs) (h : atI xs i = some a) : ∃ v, atI vs i = some v ∧ Rep Z c v a := by
  unfold atI at h ⊢
  rw [r.length]
  cases q : ixN xs.length i with
  | none => rw [q] at h; cases h
  | some j =>
    rw [q] at h
    exact r.get h
def opIx (a b : Av) (M : Mem) : Res Av := match b with
  | .int i => (match a with
    | .str z => if szOk z.length then (match atI z.cps.toList i with
      | some c => .ok (.str ⟨#[c]⟩) M
      | none => .bad) else .bad
    | a => (match asQ M a with
      | some xs => (match atI xs i with
        | some v => .ok v M
        | none => .bad)
      | none => .bad))
  | .str k => (match dctA M a with
    | some (ks, vs) => (match dGet ks vs (.inr k) with
      | some v => .ok v M
      | none => .bad)
    | none => .bad)
  | _ => .bad
def rIxA (K : PySem.W.Frag) : R2 := fun x y H Q => rIx K x y H Q ∨ rIxD x y H Q
theorem ix_all (hu : X.A.units + 1 < cLine) : IxR X (rIxA X.K) := ix_seq.or (ix_dict hu)
theorem ops_ix : OpS Z W (rIxA Z.K) opIx := by
  intro σ c M H x y a b Q s ra rb h
  unfold opIx at h
  split at h
  · cases rb
    split at h
    · cases ra
      split at h
      · rename_i hz
        split at h
        · rename_i e
          exact .inl (.inr (.inr ⟨_, _, _, rfl, rfl, szOk_le hz, e, h.here s (.str _)⟩))
        · exact h.elim
      · exact h.elim
    · split at h
      · rename_i xs e
        split at h
        · rename_i v e'
          obtain ⟨l, vs, rfl, q1, r1⟩ := asQ_rep s ra e
          obtain ⟨w, e2, r2⟩ := atI_rep r1 e'
          rcases q1 with q1 | q1
          · exact .inl (.inl ⟨_, _, _, _, rfl, rfl, q1, e2, h.here s r2⟩)
          · exact .inl (.inr (.inl ⟨_, _, _, _, rfl, rfl, q1, e2, h.here s r2⟩))
        · exact h.elim
      · exact h.elim
  · rename_i kk
    cases rb
    split at h
    · rename_i ks vs e
      split at h
      · rename_i v e'
        obtain ⟨p, kvs, rfl, q1, q2, q3⟩ := dctA_rep s ra e
        obtain ⟨w, e2, r2⟩ := (dGet_rep q2 q3).1 v e'
        exact .inr ⟨p, w, rfl, by rw [← e2]; exact DGet.k (k := Sum.inr kk) q1, h.here s r2⟩
      · exact h.elim
    · exact h.elim
  · exact h.elim
abbrev Eo := Env → Mem → Res (Option Int)
abbrev SO (Z : Sc) (W : WX) (X : Cx) (e : Option Expr) (f : Eo) : Prop := PO X e (T Z W (fun _ (x b : Option Int) => x = b) f)
theorem _root_.L2.PO.imp {X : Cx} {e : Option Expr} {t t' : TO} (h : PO X e t) (i : ∀ σ H Q, t' σ H Q → t σ H Q) : PO X e t' := ⟨fun pins s σ H Q I q => h.run pins s σ H Q I (i σ H Q q)⟩
def oNone : Eo := fun _ M => .ok none M
def oSome (f : Ev) : Eo := fun e M => (f e M).bind fun a M1 => match a with
  | .int i => .ok (some i) M1
  | _ => .bad
theorem so_none : SO Z W X none oNone := po_none.imp fun σ H Q ⟨c, e, M, a, h⟩ => h.here a.s rfl
theorem so_some {e : Expr} {f : Ev} (h : SE Z W X e f) : SO Z W X (some e) (oSome f) := by
  refine (po_some h).imp fun σ H Q ⟨c, en, M, a, q⟩ => ?_
  refine step (R1 := Rep Z) a q fun c1 x v M1 H1 l1 a1 r1 h1 => ?_
  split at h1
  · cases r1
    exact ⟨_, rfl, h1.here a1.s rfl⟩
  · exact h1.elim
def cutA (xs : List Av) (lo hi : Option Int) : List Av := (xs.drop (HT.sIx xs.length 0 lo)).take (HT.sIx xs.length xs.length hi - HT.sIx xs.length 0 lo)
theorem cut_rep {c : Rc} {vs : List V} {xs : List Av} (r : Reps Z c vs xs) (lo hi : Option Int) : Reps Z c (cutV vs lo hi) (cutA xs lo hi) := by
  unfold cutV cutA
  rw [r.length]
  exact (r.drop _).take _
theorem cutA_whole {xs : List Av} {lo hi : Option Int} (h1 : HT.sIx xs.length 0 lo = 0) (h2 : HT.sIx xs.length xs.length hi = xs.length) : cutA xs lo hi = xs := by
  unfold cutA
  rw [h1, h2]
  simp
def opSl (a : Av) (lo hi : Option Int) (M : Mem) : Res Av := match a with
  | .str z => if szOk z.length then .ok (.str (cutS z lo hi)) M else .bad
  | .tup xs => .ok (.tup (cutA xs lo hi)) M
  | a => (match asR M a with
    | some xs => .ok (.lst (cutA xs lo hi)) M
    | none => .bad)
def rSlAll (K : PySem.W.Frag) : V → Option Int → Option Int → Hp → VK → Prop := fun x lo hi H Q => rSlS x lo hi H Q ∨ (rSlA K x lo hi H Q ∨ rSlL K x lo hi H Q)
theorem sl_all : SlR X (rSlAll X.K) := sl_str.or (sl_tupA.or sl_list)
def eSl (f : Ev) (lo hi : Eo) : Ev := fun e M => (f e M).bind fun a M1 => (lo e M1).bind fun l M2 => (hi e M2).bind fun h M3 => opSl a l h M3
theorem se_sl {a : Expr} {lo hi : Option Expr} {f : Ev} {fl fh : Eo} {p2 pos : Pos} (hK : X.K = Z.K) (ha : SE Z W X a f) (hl : SO Z W X lo fl) (hh : SO Z W X hi fh) : SE Z W X (.Subscript a (.Slice lo hi none p2) pos) (eSl f fl fh) := by
  have q := pe_slice (pos := pos) (p2 := p2) (X := X) sl_all ha hl hh
  rw [hK] at q
  refine q.imp fun σ H Q ⟨c, en, M, at_, q⟩ => ?_
  refine step (R1 := Rep Z) at_ q fun c1 x v M1 H1 l1 a1 r1 h1 => ?_
  refine step (R1 := fun _ (x b : Option Int) => x = b) a1 h1 fun c2 y w M2 H2 l2 a2 r2 h2 => ?_
  refine step (R1 := fun _ (x b : Option Int) => x = b) a2 h2 fun c3 z u M3 H3 l3 a3 r3 h3 => ?_
  subst r2 r3
  have r1 := r1.mono (l2.trans l3)
  unfold opSl at h3
  split at h3
  · cases r1
    split at h3
    · rename_i hz
      exact .inl ⟨_, rfl, szOk_le hz, h3.here a3.s (.str _)⟩
    · exact h3.elim
  · cases r1 with | tup q1 q2 =>
    refine .inr (.inl ⟨_, _, rfl, same_t a3.s.g q1, fun ⟨e1, e2⟩ => ?_, fun _ p hp => h3.tup a3.s (cut_rep q2 _ _) hp⟩)
    rw [q2.length] at e1 e2
    rw [cutA_whole e1 e2] at h3
    exact h3.here a3.s (.tup q1 q2)
  · split at h3
    · rename_i xs e
      obtain ⟨l, vs, rfl, q1, q2⟩ := asR_rep a3.s r1 e
      exact .inr (.inr ⟨_, _, rfl, q1, fun p hp => h3.lst a3.s (cut_rep q2 _ _) hp⟩)
    · exact h3.elim
def fldA (M : Mem) (f : Str) : Av → Option Av
  | .obj _ ns xs => (ns.zip xs).lookup f
  | .ref n => (match M[n]? with
    | some (some (.ins _ fs)) => fs.lookup f
    | _ => none)
  | _ => none
theorem lookup_rep {c : Rc} {f : Str} {a : Av} : ∀ {ns : List Str} {vs : List V} {xs : List Av}, Reps Z c vs xs → (ns.zip xs).lookup f = some a → ∃ v, (ns.zip vs).lookup f = some v ∧ Rep Z c v a
  | [], _, _, _, h => by simp at h
  | n :: ns, _, _, .nil, h => by simp at h
  | n :: ns, _, _, .cons (v := v) (x := x) (vs := vs) (xs := xs) r rs, h => by
    simp only [List.zip_cons_cons, List.lookup_cons] at h ⊢
    cases q : (f == n) with
    | true => rw [q] at h; cases h; exact ⟨v, rfl, r⟩
    | false => rw [q] at h; exact lookup_rep (ns := ns) rs h
theorem zip_unzip {α β : Type} : ∀ (l : List (α × β)), (l.map (·.1)).zip (l.map (·.2)) = l
  | [] => rfl
  | (a, b) :: l => by simp [zip_unzip l]
structure ClsFacts (Z : Sc) : Prop where
  cls : ∀ c, Z.has c → Cls Z.K (Z.cl c)
def NoAt (Z : Sc) (f : Str) : Prop := ∀ c, Z.has c → NoAttr Z.K (Z.cl c) f
def eFld (f : Ev) (n : Str) : Ev := fun e M => (f e M).bind fun a M1 => match fldA M1 n a with
  | some v => .ok v M1
  | none => .bad
theorem fld_rep {c : Rc} {M : Mem} {H : Hp} {x : V} {a b : Av} {f : Str} (s : Sim Z c M H) (r : Rep Z c x a) (h : fldA M f a = some b) : ∃ p k dx fs v, x = .ref p ∧ Z.has k ∧ H p = some (.ins (Z.cl k) dx fs) ∧ fs.lookup f = some v ∧ Rep Z c v b := by
  cases r with
  | obj hk h1 h2 h3 =>
    obtain ⟨v, e, r⟩ := lookup_rep h3 (show (List.zip _ _).lookup f = some b from h)
    exact ⟨_, _, _, _, v, rfl, hk, s.g _ _ h1, e, r⟩
  | @ref n hn =>
    cases q : M[n]? with
    | none => simp [fldA, q] at h
    | some o =>
      cases o with
      | none => simp [fldA, q] at h
      | some o =>
        cases o with
        | lst ys => simp [fldA, q] at h
        | dct ks vs => simp [fldA, q] at h
        | ins k fs =>
          simp only [fldA, q] at h
          obtain ⟨ho, h1, h2, h3⟩ := s.m n _ q
          cases ho with
          | ins C dx gs =>
            obtain ⟨⟨e1, hk⟩, e2, e3⟩ := h2
            subst e1
            rw [← zip_unzip fs, ← e2] at h
            obtain ⟨v, e, r⟩ := lookup_rep (e3) h
            rw [zip_unzip] at e
            exact ⟨_, k, dx, gs, v, rfl, hk, h1, e, r⟩
          | _ => exact h2.elim
  | _ => cases h
theorem se_fld {e : Expr} {f : Ev} {n : Str} {pos : Pos} (hK : X.K = Z.K) (hC : ClsFacts Z) (hN : NoAt Z n) (h : SE Z W X e f) (hb : attributeBase e n X.env (eval e X.env) = eval e X.env) : SE Z W X (.Attribute e n pos) (eFld f n) := by
  refine (pe_fld h hb).imp fun σ H Q ⟨c, en, M, a, q⟩ => ?_
  refine step (R1 := Rep Z) a q fun c1 x v M1 H1 l1 a1 r1 h1 => ?_
  split at h1
  · rename_i b e1
    obtain ⟨p, k, dx, fs, w, rfl, hk, q1, q2, r2⟩ := fld_rep a1.s r1 e1
    exact ⟨p, Z.cl k, dx, fs, w, rfl, q1, by rw [hK]; exact hC.cls k hk, by rw [hK]; exact hN k hk, q2, h1.here a1.s r2⟩
  · exact h1.elim
def eCallB (op : List Av → Mem → Res Av) (g : Ea) : Ev := fun e M => (g e M).bind fun as M1 => op as M1
def CallS (Z : Sc) (W : WX) (r : List V → Hp → VK → Prop) (op : List Av → Mem → Res Av) : Prop :=
  ∀ (σ : St) (c : Rc) (M : Mem) (H : Hp) (xs : List V) (as : List Av) (Q : VK), Sim Z c M H → Reps Z c xs as → Okk Z W σ c (Rep Z) Q (op as M) → r xs H Q
theorem imp_callB {r : List V → Hp → VK → Prop} {op : List Av → Mem → Res Av} {g : Ea} (ho : CallS Z W r op) : ∀ σ H Q, T Z W (Rep Z) (eCallB op g) σ H Q → tCB r (T Z W (Reps Z) g) σ H Q := by
  intro σ H Q ⟨c, e, M, a, h⟩
  exact step (R1 := Reps Z) a h fun c1 x v M1 H1 l1 a1 r1 h1 => ho σ c1 M1 H1 x v Q a1.s r1 h1
theorem se_callB {r : List V → Hp → VK → Prop} {op : List Av → Mem → Res Av} {g : Ea} {x : Str} {id : String} {p pos : Pos} {e : Expr} {es : List Expr} (hc : CallR X (.builtin id) r) (ho : CallS Z W r op) (hg : Gl X x) (hm : X.mg x = none) (hv : bootBuiltins x = some (.builtin id)) (ha : SA Z W X (e :: es) g)
    (hn : x ≠ "__name__") (hdb : (x == ("__debug__" : Str)) = false) (he : starEach (e :: es) X.env = (false, eval e X.env) :: starEach es X.env) (hpl : (backTo pos (starEach es X.env)).any (·.1) = false) : SE Z W X (.Call (.Name x p) (e :: es) [] pos) (eCallB op g) :=
  (pe_callB hc hg hm hv ha hn hdb he hpl).imp (imp_callB ho)
theorem se_callTy {r : List V → Hp → VK → Prop} {op : List Av → Mem → Res Av} {g : Ea} {x : Str} {t : String} {p pos : Pos} {e : Expr} {es : List Expr} (hc : CallR X (.type t) r) (ho : CallS Z W r op) (hg : Gl X x) (hm : X.mg x = none) (hv : bootBuiltins x = some (.type t)) (ha : SA Z W X (e :: es) g)
    (hn : x ≠ "__name__") (hdb : (x == ("__debug__" : Str)) = false) (he : starEach (e :: es) X.env = (false, eval e X.env) :: starEach es X.env) (hpl : (backTo pos (starEach es X.env)).any (·.1) = false) : SE Z W X (.Call (.Name x p) (e :: es) [] pos) (eCallB op g) :=
  (pe_callTy hc hg hm hv ha hn hdb he hpl).imp (imp_callB ho)
def intsA : List Av → Option (List Int)
  | [] => some []
  | .int i :: r => (intsA r).map (i :: ·)
  | _ :: _ => none
def strsA : List Av → Option (List Str)
  | [] => some []
  | .str i :: r => (strsA r).map (i :: ·)
  | _ :: _ => none
def blsA : List Av → Option (List Bool)
  | [] => some []
  | .bl i :: r => (blsA r).map (i :: ·)
  | _ :: _ => none
theorem ints_rep {c : Rc} : ∀ {vs : List V} {xs : List Av} {ns : List Int}, Reps Z c vs xs → intsA xs = some ns → vs = ns.map V.int
  | _, _, _, .nil, h => by cases h; rfl
  | _, _, ns, .cons (x := x) (xs := xs) r rs, h => by
    cases x <;> first | (cases h; done) | skip
    rename_i i
    cases r
    cases q : intsA xs with
    | none => simp [intsA, q] at h
    | some ms => simp [intsA, q] at h; subst h; simp [ints_rep rs q]
theorem strs_rep {c : Rc} : ∀ {vs : List V} {xs : List Av} {ns : List Str}, Reps Z c vs xs → strsA xs = some ns → vs = ns.map V.str
  | _, _, _, .nil, h => by cases h; rfl
  | _, _, ns, .cons (x := x) (xs := xs) r rs, h => by
    cases x <;> first | (cases h; done) | skip
    rename_i i
    cases r
    cases q : strsA xs with
    | none => simp [strsA, q] at h
    | some ms => simp [strsA, q] at h; subst h; simp [strs_rep rs q]
theorem bls_rep {c : Rc} : ∀ {vs : List V} {xs : List Av} {ns : List Bool}, Reps Z c vs xs → blsA xs = some ns → vs = ns.map V.bl
  | _, _, _, .nil, h => by cases h; rfl
  | _, _, ns, .cons (x := x) (xs := xs) r rs, h => by
    cases x <;> first | (cases h; done) | skip
    rename_i i
    cases r
    cases q : blsA xs with
    | none => simp [blsA, q] at h
    | some ms => simp [blsA, q] at h; subst h; simp [bls_rep rs q]
theorem reps_ints {c : Rc} : ∀ ns : List Int, Reps Z c (ns.map V.int) (ns.map Av.int)
  | [] => .nil
  | n :: ns => .cons (.int n) (reps_ints ns)
theorem reps_strs {c : Rc} : ∀ ns : List Str, Reps Z c (ns.map V.str) (ns.map Av.str)
  | [] => .nil
  | n :: ns => .cons (.str n) (reps_strs ns)
def opLen (as : List Av) (M : Mem) : Res Av := match as with
  | [.str y] => if szOk y.length then .ok (.int y.length) M else .bad
  | [a] => (match asQ M a with
    | some xs => .ok (.int xs.length) M
    | none => .bad)
  | _ => .bad
theorem cs_len : CallS Z W (fun xs H Q => ∃ x n, xs = [x] ∧ LenV Z.K x H n ∧ Q (.int n) H) opLen := by
  intro σ c M H xs as Q s r h
  unfold opLen at h
  split at h
  · cases r with | cons r1 r2 =>
    cases r2; cases r1
    split at h
    · rename_i y hz
      exact ⟨_, y.length, rfl, ⟨szOk_le hz, rfl⟩, h.here s (.int _)⟩
    · exact h.elim
  · cases r with | cons r1 r2 =>
    cases r2
    split at h
    · rename_i xs e
      obtain ⟨l, vs, rfl, q1, r3⟩ := asQ_rep s r1 e
      refine ⟨_, xs.length, rfl, ?_, h.here s (.int _)⟩
      rcases q1 with q1 | q1
      · exact .inl ⟨vs, q1, r3.length.symm⟩
      · exact .inr ⟨vs, q1, r3.length.symm⟩
    · exact h.elim
  · exact h.elim
def opAbs (as : List Av) (M : Mem) : Res Av := match as with
  | [.int i] => .ok (.int (if i < 0 then -i else i)) M
  | _ => .bad
theorem cs_abs : CallS Z W (fun xs H Q => ∃ i, xs = [.int i] ∧ Q (.int (if i < 0 then -i else i)) H) opAbs := by
  intro σ c M H xs as Q s r h
  unfold opAbs at h
  split at h
  · cases r with | cons r1 r2 =>
    cases r2; cases r1
    exact ⟨_, rfl, h.here s (.int _)⟩
  · exact h.elim
def opMax (as : List Av) (M : Mem) : Res Av := match as with
  | [.int i, .int j] => .ok (.int (if j > i then j else i)) M
  | _ => .bad
theorem cs_max : CallS Z W (fun xs H Q => ∃ i j, xs = [.int i, .int j] ∧ Q (.int (if j > i then j else i)) H) opMax := by
  intro σ c M H xs as Q s r h
  unfold opMax at h
  split at h
  · cases r with | cons r1 r2 =>
    cases r2 with | cons r2 r3 =>
    cases r3; cases r1; cases r2
    exact ⟨_, _, rfl, h.here s (.int _)⟩
  · exact h.elim
def opMin (as : List Av) (M : Mem) : Res Av := match as with
  | [.int i, .int j] => .ok (.int (if j < i then j else i)) M
  | _ => .bad
theorem cs_min : CallS Z W (fun xs H Q => ∃ i j, xs = [.int i, .int j] ∧ Q (.int (if j < i then j else i)) H) opMin := by
  intro σ c M H xs as Q s r h
  unfold opMin at h
  split at h
  · cases r with | cons r1 r2 =>
    cases r2 with | cons r2 r3 =>
    cases r3; cases r1; cases r2
    exact ⟨_, _, rfl, h.here s (.int _)⟩
  · exact h.elim
def opInt (as : List Av) (M : Mem) : Res Av := match as with
  | [.int i] => .ok (.int i) M
  | [.bl b] => .ok (.int (if b then 1 else 0)) M
  | [.str z] => (match PySem.intText? z with
    | some n => if Nat.ble z.length 640 then .ok (.int n) M else .bad
    | none => .bad)
  | _ => .bad
def rIntA : List V → Hp → VK → Prop := fun xs H Q => ((∃ i, xs = [.int i] ∧ Q (.int i) H) ∨ ∃ k, xs = [.bl k] ∧ Q (.int (if k then 1 else 0)) H) ∨ ∃ a n, xs = [.str a] ∧ PySem.intText? a = some n ∧ a.length ≤ 640 ∧ Q (.int n) H
theorem call_intA : CallR X (.type "int") rIntA := call_int1.or call_int_str
theorem cs_int : CallS Z W rIntA opInt := by
  intro σ c M H xs as Q s r h
  unfold opInt at h
  split at h
  · cases r with | cons r1 r2 =>
    cases r2; cases r1
    exact .inl (.inl ⟨_, rfl, h.here s (.int _)⟩)
  · cases r with | cons r1 r2 =>
    cases r2; cases r1
    exact .inl (.inr ⟨_, rfl, h.here s (.int _)⟩)
  · cases r with | cons r1 r2 =>
    cases r2; cases r1
    split at h
    · rename_i n e
      split at h
      · rename_i hz
        exact .inr ⟨_, n, rfl, e, Nat.le_of_ble_eq_true hz, h.here s (.int _)⟩
      · exact h.elim
    · exact h.elim
  · exact h.elim
def opStr (as : List Av) (M : Mem) : Res Av := match as with
  | [.str z] => .ok (.str z) M
  | [.int i] => if Nat.blt i.natAbs.log2 1920 then .ok (.str (toString i)) M else .bad
  | _ => .bad
def rStrA : List V → Hp → VK → Prop := fun xs H Q => (∃ a, xs = [.str a] ∧ Q (.str a) H) ∨ ∃ i : Int, xs = [.int i] ∧ i.natAbs.log2 < 1920 ∧ Q (.str (toString i)) H
theorem call_strA : CallR X (.type "str") rStrA := SkE.call_str_str.or call_str_int
theorem cs_str : CallS Z W rStrA opStr := by
  intro σ c M H xs as Q s r h
  unfold opStr at h
  split at h
  · cases r with | cons r1 r2 =>
    cases r2; cases r1
    exact .inl ⟨_, rfl, h.here s (.str _)⟩
  · cases r with | cons r1 r2 =>
    cases r2; cases r1
    split at h
    · rename_i hz
      exact .inr ⟨_, rfl, Nat.le_of_ble_eq_true hz, h.here s (.str _)⟩
    · exact h.elim
  · exact h.elim
def opAll (as : List Av) (M : Mem) : Res Av := match as with
  | [a] => (match asR M a with
    | some xs => (match blsA xs with
      | some bs => .ok (.bl (bs.all id)) M
      | none => .bad)
    | none => .bad)
  | _ => .bad
theorem cs_all : CallS Z W (rAll Z.K) opAll := by
  intro σ c M H xs as Q s r h
  unfold opAll at h
  split at h
  · cases r with | cons r1 r2 =>
    cases r2
    split at h
    · rename_i ys e
      split at h
      · rename_i bs e'
        obtain ⟨l, vs, rfl, q1, r3⟩ := asR_rep s r1 e
        have := bls_rep r3 e'
        subst this
        exact ⟨l, bs, rfl, q1, h.here s (.bl _)⟩
      · exact h.elim
    · exact h.elim
  · exact h.elim
def opAny (as : List Av) (M : Mem) : Res Av := match as with
  | [a] => (match asR M a with
    | some xs => (match blsA xs with
      | some bs => .ok (.bl (bs.any id)) M
      | none => .bad)
    | none => .bad)
  | _ => .bad
theorem cs_any : CallS Z W (rAny Z.K) opAny := by
  intro σ c M H xs as Q s r h
  unfold opAny at h
  split at h
  · cases r with | cons r1 r2 =>
    cases r2
    split at h
    · rename_i ys e
      split at h
      · rename_i bs e'
        obtain ⟨l, vs, rfl, q1, r3⟩ := asR_rep s r1 e
        have := bls_rep r3 e'
        subst this
        exact ⟨l, bs, rfl, q1, h.here s (.bl _)⟩
      · exact h.elim
    · exact h.elim
  · exact h.elim
def opTuple (as : List Av) (M : Mem) : Res Av := match as with
  | [.tup xs] => .ok (.tup xs) M
  | [a] => (match asR M a with
    | some xs => .ok (.tup xs) M
    | none => .bad)
  | _ => .bad
theorem cs_tuple : CallS Z W (fun xs H Q => ∃ p ys, xs = [.ref p] ∧ ((SqL Z.K H p ys ∧ ∀ l, H l = none → Q (.ref l) (upd H l (.tup ys))) ∨ (SqT Z.K H p ys ∧ Q (.ref p) H))) opTuple := by
  intro σ c M H xs as Q s r h
  unfold opTuple at h
  split at h
  · cases r with | cons r1 r2 =>
    cases r2
    cases r1 with | tup q1 q2 =>
    exact ⟨_, _, rfl, .inr ⟨same_t s.g q1, h.here s (.tup q1 q2)⟩⟩
  · cases r with | cons r1 r2 =>
    cases r2
    split at h
    · rename_i ys e
      obtain ⟨l, vs, rfl, q1, r3⟩ := asR_rep s r1 e
      exact ⟨_, _, rfl, .inl ⟨q1, fun p hp => h.tup s r3 hp⟩⟩
    · exact h.elim
  · exact h.elim
end
end Pd
set_option maxHeartbeats 2000000
namespace Pd
open PySem PySem.Spec L2
inductive SRes where
  | nx (e : Env) (m : Mem)
  | rt (v : Av) (m : Mem)
  | bk (e : Env) (m : Mem)
  | ct (e : Env) (m : Mem)
  | exc (k : Nat) (fs : List (Str × Av)) (e : Env) (m : Mem)
  | bad
abbrev Es := Env → Mem → SRes
def Res.thn {α : Type} (r : Res α) (e : Env) (f : α → Mem → SRes) : SRes := match r with
  | .ok a m => f a m
  | .exc k fs m => .exc k fs e m
  | .bad => .bad
section
variable (Z : Sc) (W : WX)
def OkS (c : Rc) (D : Ends) : SRes → Prop
  | .nx e M => ∀ c' σ H, Le c c' → At Z c' e M σ H → D.nx σ H
  | .rt v M => ∀ c' x H, Le c c' → Sim Z c' M H → Rep Z c' x v → D.rt x H
  | .bk e M => ∀ c' σ H, Le c c' → At Z c' e M σ H → D.bk σ H
  | .ct e M => ∀ c' σ H, Le c c' → At Z c' e M σ H → D.ct σ H
  | .exc k fs e M => ∀ c' σ H d, Le c c' → At Z c' e M σ H → XRep Z c' H d fs → W (.ref (Z.xc k)) d σ H
  | .bad => False
def TSa (f : Es) : TS := fun D σ H => ∃ c e M, At Z c e M σ H ∧ OkS Z W c D (f e M)
abbrev SS (X : Cx) (st : Stmt) (f : Es) : Prop := PS X st (TSa Z W f)
abbrev SSs (X : Cx) (st : List Stmt) (f : Es) : Prop := PSs X st (TSa Z W f)
end
section
variable {Z : Sc} {W : WX} {X : Cx}
theorem OkS.mono {c d : Rc} {D : Ends} (l : Le c d) : ∀ {r : SRes}, OkS Z W c D r → OkS Z W d D r
  | .nx _ _, h => fun c' σ H l' a => h c' σ H (l.trans l') a
  | .rt _ _, h => fun c' σ H l' a => h c' σ H (l.trans l') a
  | .bk _ _, h => fun c' σ H l' a => h c' σ H (l.trans l') a
  | .ct _ _, h => fun c' σ H l' a => h c' σ H (l.trans l') a
  | .exc _ _ _ _, h => fun c' σ H d l' a => h c' σ H d (l.trans l') a
  | .bad, h => h
theorem stepS {σ : St} {c : Rc} {e : Env} {M : Mem} {H : Hp} {D : Ends} {γ ξ : Type} {R1 : Rc → ξ → γ → Prop} {f : Env → Mem → Res γ} {k : γ → Mem → SRes} {Q1 : ξ → Hp → Prop} (a : At Z c e M σ H) (h : OkS Z W c D ((f e M).thn e k))
    (next : ∀ c' x b M' H', Le c c' → At Z c' e M' σ H' → R1 c' x b → OkS Z W c' D (k b M') → Q1 x H') : T Z W R1 f σ H Q1 := by
  refine ⟨c, e, M, a, ?_⟩
  cases hf : f e M with
  | ok b M' =>
    rw [hf] at h
    exact fun c' x H' l s r => next c' x b M' H' l (a.mono l s) r (OkS.mono l h)
  | exc k' fs M' =>
    rw [hf] at h
    exact fun c' H' d l s x => h c' σ H' d l (a.mono l s) x
  | bad => rw [hf] at h; exact h
def sPass : Es := fun e M => .nx e M
def sSeq (f g : Es) : Es := fun e M => match f e M with
  | .nx e' M' => g e' M'
  | r => r
theorem sss_nil : SSs Z W X [] sPass := pss_nil.imp fun D σ H ⟨c, e, M, a, h⟩ => h c σ H (Le.refl c) a
theorem ss_pass {pos : Pos} : SS Z W X (.Pass pos) sPass := ps_pass.imp fun D σ H ⟨c, e, M, a, h⟩ => h c σ H (Le.refl c) a
theorem sss_cons {st : Stmt} {rest : List Stmt} {f g : Es} (h1 : SS Z W X st f) (h2 : SSs Z W X rest g) : SSs Z W X (st :: rest) (sSeq f g) := by
  refine (pss_cons h1 h2).imp fun D σ H ⟨c, e, M, a, h⟩ => ⟨c, e, M, a, ?_⟩
  unfold sSeq at h
  cases hf : f e M with
  | nx e' M' => rw [hf] at h; exact fun c' σ' H' l a' => ⟨c', e', M', a', OkS.mono l h⟩
  | rt v M' => rw [hf] at h; exact h
  | bk e' M' => rw [hf] at h; exact h
  | ct e' M' => rw [hf] at h; exact h
  | exc k fs e' M' => rw [hf] at h; exact h
  | bad => rw [hf] at h; exact h
theorem sss_one {st : Stmt} {f : Es} (h1 : SS Z W X st f) : SSs Z W X [st] f := pss_one h1
def sBreak : Es := fun e M => .bk e M
def sCont : Es := fun e M => .ct e M
theorem ss_break {pos : Pos} : SS Z W X (.Break pos) sBreak := ps_break.imp fun D σ H ⟨c, e, M, a, h⟩ => h c σ H (Le.refl c) a
theorem ss_cont {pos : Pos} : SS Z W X (.Continue pos) sCont := ps_continue.imp fun D σ H ⟨c, e, M, a, h⟩ => h c σ H (Le.refl c) a
def sDrop (f : Ev) : Es := fun e M => (f e M).thn e fun _ M1 => .nx e M1
theorem ss_expr {ex : Expr} {f : Ev} {pos : Pos} (h : SE Z W X ex f) (hs : swapsWith ex none pos.line X.env = pure false) : SS Z W X (.Expr ex pos) (sDrop f) := by
  refine (ps_expr h hs).imp fun D σ H ⟨c, e, M, a, h⟩ => ?_
  exact stepS (R1 := Rep Z) a h fun c' x b M' H' l a' r h' => h' c' σ H' (Le.refl c') a'
def sRet (f : Ev) : Es := fun e M => (f e M).thn e fun v M1 => .rt v M1
theorem ss_ret {ex : Expr} {f : Ev} {pos : Pos} (h : SE Z W X ex f) : SS Z W X (.Return (some ex) pos) (sRet f) := by
  refine (ps_ret h).imp fun D σ H ⟨c, e, M, a, h⟩ => ?_
  exact stepS (R1 := Rep Z) a h fun c' x b M' H' l a' r h' => h' c' x H' (Le.refl c') a'.s r
theorem ss_retN {pos : Pos} : SS Z W X (.Return none pos) (sRet (eC .non)) := by
  refine ps_retN.imp fun D σ H ⟨c, e, M, a, h⟩ => ?_
  exact h c .non H (Le.refl c) a.s .non
def frz (a : Av) (M : Mem) : Option (Av × Mem) := match a with
  | .ref n => (match M[n]? with
    | some (some (.lst xs)) => some (.lst xs, M.set n none)
    | some (some (.ins k fs)) => some (.obj k (fs.map (·.1)) (fs.map (·.2)), M.set n none)
    | some (some (.dct ks vs)) => some (.dct ks vs, M.set n none)
    | _ => none)
  | _ => none
theorem frz_rep {c : Rc} {M M' : Mem} {H : Hp} {x : V} {a b : Av} (s : Sim Z c M H) (r : Rep Z c x a) (h : frz a M = some (b, M')) : ∃ c', Le c c' ∧ Sim Z c' M' H ∧ Rep Z c' x b := by
  cases r with
  | @ref n hn =>
    cases q : M[n]? with
    | none => simp [frz, q] at h
    | some o =>
      cases o with
      | none => simp [frz, q] at h
      | some o =>
        cases o with
        | ins k fs =>
          simp only [frz, q, Option.some.injEq, Prod.mk.injEq] at h
          obtain ⟨rfl, rfl⟩ := h
          obtain ⟨ho, h1, h2, h3⟩ := s.m n _ q
          cases ho with
          | ins C dx gs =>
            obtain ⟨⟨e1, hk⟩, e2, e3⟩ := h2
            subst e1
            have hz : (fs.map (·.1)).zip (gs.map (·.2)) = gs := by rw [← e2]; exact zip_unzip gs
            refine ⟨c.lay (c.r n) (.ins (Z.cl k) dx gs), Le.lay h3, s.freeze q h1, Rep.obj (dx := dx) (vs := gs.map (·.2)) hk ?_ ?_ ?_⟩
            · show upd c.G (c.r n) _ (c.r n) = _
              rw [upd_same, hz]
            · have := congrArg List.length e2; simpa using this.symm
            · exact e3.mono (Le.lay h3)
          | _ => exact h2.elim
        | dct ks vs =>
          simp only [frz, q, Option.some.injEq, Prod.mk.injEq] at h
          obtain ⟨rfl, rfl⟩ := h
          obtain ⟨ho, h1, h2, h3⟩ := s.m n _ q
          obtain ⟨es, rfl, e2, e3⟩ := RepO.dct_of h2
          exact ⟨c.lay (c.r n) _, Le.lay h3, s.freeze q h1, .dct (show upd c.G (c.r n) _ (c.r n) = _ from upd_same) e2 (e3.mono (Le.lay h3))⟩
        | lst xs =>
          simp only [frz, q, Option.some.injEq, Prod.mk.injEq] at h
          obtain ⟨rfl, rfl⟩ := h
          obtain ⟨ho, h1, h2, h3⟩ := s.m n _ q
          cases ho with
          | lst vs =>
            refine ⟨c.lay (c.r n) (.lst vs), Le.lay h3, s.freeze q h1, .lst (vs := vs) ?_ ?_⟩
            · show upd c.G (c.r n) (.lst vs) (c.r n) = _
              exact upd_same
            · exact Reps.mono (Le.lay h3) h2
          | _ => exact h2.elim
  | _ => cases h
def eFrz (f : Ev) : Ev := fun e M => (f e M).bind fun a M1 => match frz a M1 with
  | some (b, M2) => .ok b M2
  | none => .ok a M1
theorem se_frz {ex : Expr} {f : Ev} (h : SE Z W X ex f) : SE Z W X ex (eFrz f) := by
  refine h.imp fun σ H Q ⟨c, e, M, a, q⟩ => ?_
  refine step (R1 := Rep Z) a q fun c1 x v M1 H1 l1 a1 r1 h1 => ?_
  split at h1
  · rename_i b M2 e1
    obtain ⟨c2, l2, s2, r2⟩ := frz_rep a1.s r1 e1
    exact h1 c2 x H1 l2 s2 r2
  · exact h1.here a1.s r1
def sIf (t : Et) (f g : Es) : Es := fun e M => (t e M).thn e fun b M1 => if b then f e M1 else g e M1
theorem ss_if {c : Expr} {a b : List Stmt} {t : Et} {f g : Es} {pos : Pos} (hc : ST Z W X c t) (ha : SSs Z W X a f) (hb : SSs Z W X b g) : SS Z W X (.If c a b pos) (sIf t f g) := by
  refine (ps_if hc ha hb).imp fun D σ H ⟨c, e, M, a, h⟩ => ?_
  refine stepS (R1 := fun _ (x b : Bool) => x = b) a h fun c' x b M' H' l a' r h' => ?_
  subst r
  cases x with
  | true => exact iteT ⟨c', e, M', a', h'⟩
  | false => exact iteF ⟨c', e, M', a', h'⟩
def sSet (i : Nat) (f : Ev) : Es := fun e M => (f e M).thn e fun v M1 => .nx (e.set i (some v)) M1
theorem At.set {c : Rc} {e : Env} {M : Mem} {σ : St} {H : Hp} {v : V} {x : Av} (a : At Z c e M σ H) (r : Rep Z c v x) (i : Nat) : At Z c (e.set i (some x)) M (σ.set i (some v)) H := ⟨a.s, a.e.set r i⟩
theorem imp_set {i : Nat} {f : Ev} : ∀ D σ H, TSa Z W (sSet i f) D σ H → tAsg (T Z W (Rep Z) f) (gName i) D σ H := fun D σ H ⟨c, e, M, a, h⟩ =>
  stepS (R1 := Rep Z) a h fun c' x b M' H' l a' r h' => h' c' _ H' (Le.refl c') (a'.set r i)
theorem ss_set {i : Nat} {x : Str} {ex : Expr} {f : Ev} {pos pos' : Pos} (hN : X.N.Nodup) (hi : X.N[i]? = some x) (hx : Loc X.env.scope x) (h : SE Z W X ex f) (hs : swapsWith ex (some (.Name x pos')) pos.line X.env = pure false)
    (hf : X.fn x = true ∨ X.env.scope.names.lookup x = some .local) : SS Z W X (.Assign [.Name x pos'] ex pos) (sSet i f) := (ps_set hN hi hx h hs hf).imp imp_set
def putA (f : Str) (v : Av) : List (Str × Av) → List (Str × Av)
  | [] => [(f, v)]
  | (g, w) :: r => if g = f then (g, v) :: r else (g, w) :: putA f v r
theorem put_rep {c : Rc} {f : Str} {v : V} {x : Av} (r : Rep Z c v x) : ∀ {gs : List (Str × V)} {fs : List (Str × Av)}, gs.map (·.1) = fs.map (·.1) → Reps Z c (gs.map (·.2)) (fs.map (·.2)) →
    (putF f v gs).map (·.1) = (putA f x fs).map (·.1) ∧ Reps Z c ((putF f v gs).map (·.2)) ((putA f x fs).map (·.2))
  | [], [], _, _ => ⟨rfl, .cons r .nil⟩
  | [], _ :: _, h, _ => by simp at h
  | _ :: _, [], h, _ => by simp at h
  | (g, w) :: gs, (k, y) :: fs, h, q => by
    simp only [List.map_cons, List.cons.injEq] at h
    obtain ⟨h1, h2⟩ := h
    simp only [List.map_cons] at q
    cases q with
    | cons q1 q2 =>
      subst h1
      unfold putF putA
      by_cases e : g = f
      · rw [if_pos e, if_pos e]
        exact ⟨by simp [h2], by simpa using Reps.cons r q2⟩
      · rw [if_neg e, if_neg e]
        obtain ⟨z1, z2⟩ := put_rep (f := f) r h2 q2
        exact ⟨by simp [z1], by simpa using Reps.cons q1 z2⟩
def stFld (n : Str) (v o : Av) (M : Mem) : Option Mem := match o with
  | .ref m => (match M[m]? with
    | some (some (.ins k fs)) => if Nat.blt fs.length 900 then some (M.set m (some (.ins k (putA n v fs)))) else none
    | _ => none)
  | _ => none
def sSetFld (fo fv : Ev) (n : Str) : Es := fun e M => (fv e M).thn e fun v M1 => (fo e M1).thn e fun o M2 => match stFld n v o M2 with
  | some M3 => .nx e M3
  | none => .bad
theorem ss_setFld {eo ev : Expr} {fo fv : Ev} {n : Str} {pos apos : Pos} (hK : X.K = Z.K) (hC : ClsFacts Z) (hN : NoAt Z n) (ho : SE Z W X eo fo) (hv : SE Z W X ev fv) (q : PS X (.Assign [.Attribute eo n apos] ev pos) (sFld X.K (T Z W (Rep Z) fo) (T Z W (Rep Z) fv) n)) : SS Z W X (.Assign [.Attribute eo n apos] ev pos) (sSetFld fo fv n) := by
  refine q.imp fun D σ H ⟨c, e, M, a, h⟩ => ?_
  refine stepS (R1 := Rep Z) a h fun c1 x v M1 H1 l1 a1 r1 h1 => ?_
  refine stepS (R1 := Rep Z) a1 h1 fun c2 y o M2 H2 l2 a2 r2 h2 => ?_
  split at h2
  · rename_i M3 e3
    cases r2 with
    | @ref m hm =>
      cases q : M2[m]? with
      | none => simp [stFld, q] at e3
      | some ob =>
        cases ob with
        | none => simp [stFld, q] at e3
        | some ob =>
          cases ob with
          | lst ys => simp [stFld, q] at e3
          | dct ks vs => simp [stFld, q] at e3
          | ins k fs =>
            simp only [stFld, q] at e3
            split at e3
            · rename_i hz
              cases e3
              obtain ⟨ho', q1, q2, q3⟩ := a2.s.m m _ q
              cases ho' with
              | ins C dx gs =>
                obtain ⟨⟨e1, hk⟩, e2, e3⟩ := q2
                subst e1
                have hlen : gs.length = fs.length := by have := congrArg List.length e2; simpa using this
                refine ⟨_, _, dx, gs, rfl, q1, by rw [hK]; exact hC.cls k hk, by rw [hK]; exact hN k hk, ?_, ?_⟩
                · have := Nat.le_of_ble_eq_true hz; omega
                · obtain ⟨p1, p2⟩ := put_rep (f := n) (r1.mono l2) e2 e3
                  refine h2 c2 σ _ (Le.refl c2) ⟨a2.s.put q (ho := .ins (Z.cl k) dx (putF n x gs)) ⟨⟨rfl, hk⟩, p1, p2⟩, a2.e⟩
              | _ => exact q2.elim
            · cases e3
    | _ => cases e3
  · exact h2.elim
def stIx (v o i : Av) (M : Mem) : Option Mem := match o, i with
  | .ref m, .int k => (match M[m]? with
    | some (some (.lst xs)) => (match ixN xs.length k with
      | some j => some (M.set m (some (.lst (xs.set j v))))
      | none => none)
    | _ => none)
  | .ref m, .str k => (match M[m]? with
    | some (some (.dct ks vs)) => if szOk ks.length then some (M.set m (some (.dct (dSet ks vs (.str k) (.inr k) v).1 (dSet ks vs (.str k) (.inr k) v).2))) else none
    | _ => none)
  | _, _ => none
def rSetA : TSet := fun o i v H Q => rSetL o i v H Q ∨ rSetD o i v H Q
theorem set_all (hu : X.A.units + 1 < cLine) : PSet X rSetA := Pd.PSet.or set_list (set_dict hu)
theorem dkA_len : ∀ {ks : List Av} {ys : List Key}, dkA ks = some ys → ys.length = ks.length
  | [], _, h => by cases h; rfl
  | a :: ks, ys, h => by
    obtain ⟨k, zs, _, h2, rfl⟩ := dkA_cons h
    simp [dkA_len h2]
def sSetIx (fv fo fi : Ev) : Es := fun e M => (fv e M).thn e fun v M1 => (fo e M1).thn e fun o M2 => (fi e M2).thn e fun i M3 => match stIx v o i M3 with
  | some M4 => .nx e M4
  | none => .bad
theorem imp_setIx {fo fi fv : Ev} : ∀ D σ H, TSa Z W (sSetIx fv fo fi) D σ H → tAsg (T Z W (Rep Z) fv) (gSub (T Z W (Rep Z) fo) (T Z W (Rep Z) fi) rSetA) D σ H := by
  intro D σ H ⟨c, e, M, a, h⟩
  refine stepS (R1 := Rep Z) a h fun c1 x v M1 H1 l1 a1 r1 h1 => ?_
  refine stepS (R1 := Rep Z) a1 h1 fun c2 y o M2 H2 l2 a2 r2 h2 => ?_
  refine stepS (R1 := Rep Z) a2 h2 fun c3 z i M3 H3 l3 a3 r3 h3 => ?_
  split at h3
  · rename_i M4 e4
    have r2 := r2.mono l3
    have r1 := r1.mono (l2.trans l3)
    cases r2 with
    | @ref m hm =>
      cases r3 with
      | int k =>
        cases q : M3[m]? with
        | none => simp [stIx, q] at e4
        | some ob =>
          cases ob with
          | none => simp [stIx, q] at e4
          | some ob =>
            cases ob with
            | ins k fs => simp [stIx, q] at e4
            | dct ks vs => simp [stIx, q] at e4
            | lst xs =>
              simp only [stIx, q] at e4
              split at e4
              · rename_i j ej
                cases e4
                obtain ⟨ho, q1, q2, q3⟩ := a3.s.m m _ q
                cases ho with
                | lst vs =>
                  have q2 : Reps Z c3 vs xs := q2
                  refine .inl ⟨_, vs, k, j, rfl, rfl, q1, by rw [q2.length]; exact ej, ?_⟩
                  exact h3 c3 σ _ (Le.refl c3) ⟨a3.s.put q (ho := .lst (vs.set j x)) (show Reps Z c3 _ _ from q2.set r1 j), a3.e⟩
                | _ => exact q2.elim
              · cases e4
      | str k =>
        cases q : M3[m]? with
        | none => simp [stIx, q] at e4
        | some ob =>
          cases ob with
          | none => simp [stIx, q] at e4
          | some ob =>
            cases ob with
            | ins k fs => simp [stIx, q] at e4
            | lst xs => simp [stIx, q] at e4
            | dct ks vs =>
              simp only [stIx, q] at e4
              split at e4
              · rename_i hz
                cases e4
                obtain ⟨ho, q1, q2, q3⟩ := a3.s.m m _ q
                obtain ⟨kvs, rfl, e1, e2⟩ := RepO.dct_of q2
                obtain ⟨p1, p2⟩ := dSet_rep (a := .str k) (k := Sum.inr k) e1 e2 rfl r1
                have hl : kvs.length < sizeLine := by
                  have := dkA_len e1
                  simp only [dKs, List.length_map] at this
                  rw [this]
                  exact szOk_lt hz
                refine .inr ⟨_, _, rfl, DPut.k (k := Sum.inr k) q1 hl, ?_⟩
                exact h3 c3 σ _ (Le.refl c3) ⟨a3.s.put q (ho := .dK (putK kvs (Sum.inr k) x)) (RepO.dct_mk p1 p2), a3.e⟩
              · cases e4
      | _ => simp [stIx] at e4
    | _ => simp [stIx] at e4
  · exact h3.elim
end
end Pd
set_option maxHeartbeats 2000000
namespace Pd
open PySem PySem.Spec L2
inductive Ik where
  | seq (a : Av) (xs : List Av)
  | rng (lo : Int) (n : Nat)
  | enm (a : Av) (xs : List Av)
  | chs (z : Str)
  | zip (a : Av) (xs : List Av) (b : Av) (ys : List Av)
def rngA (lo : Int) : Nat → List Av
  | 0 => []
  | n + 1 => .int lo :: rngA (lo + 1) n
def enmA (i : Int) : List Av → List Av
  | [] => []
  | x :: xs => .tup [.int i, x] :: enmA (i + 1) xs
def zipA : List Av → List Av → List Av
  | x :: xs, y :: ys => .tup [x, y] :: zipA xs ys
  | _, _ => []
def Ik.items : Ik → List Av
  | .seq _ xs => xs
  | .rng lo n => rngA lo n
  | .enm _ xs => enmA 0 xs
  | .chs z => z.cps.toList.map fun c => .str ⟨#[c]⟩
  | .zip _ xs _ ys => zipA xs ys
def stayA (M : Mem) (a : Av) (xs : List Av) : Bool := match a with
  | .ref n => (match asL M (.ref n) with
    | some ys => eqAs ys xs
    | none => false)
  | .lst ys => eqAs ys xs
  | .tup ys => eqAs ys xs
  | .fz ys => eqAs ys xs
  | _ => false
def Ik.stay (M : Mem) : Ik → Bool
  | .seq a xs => stayA M a xs
  | .rng _ _ => true
  | .enm a xs => stayA M a xs
  | .chs _ => true
  | .zip a xs b ys => stayA M a xs && stayA M b ys
theorem stayA_q {M : Mem} {a : Av} {xs : List Av} (h : stayA M a xs = true) : asQ M a = some xs := by
  cases a <;> first
    | (simp [stayA] at h; done)
    | (simp only [stayA] at h; simp [asQ, eqAs_eq h]; done)
    | skip
  rename_i n
  simp only [stayA] at h
  simp only [asQ]
  cases q : asL M (.ref n) with
  | none => rw [q] at h; cases h
  | some ys => rw [q] at h; rw [eqAs_eq h]
section
variable (Z : Sc)
structure JOk (c0 : Rc) (k : Ik) (J : It) : Prop where
  go : ∀ i c M H, i < k.items.length → Le c0 c → Sim Z c M H → k.stay M = true → J.go i H
  stop : ∀ c M H, Le c0 c → Sim Z c M H → k.stay M = true → J.stop k.items.length H
  yld : ∀ (i : Nat) c M H x H' a, k.items[i]? = some a → Le c0 c → Sim Z c M H → k.stay M = true → J.yld i H x H' → ∃ d, Le c d ∧ Sim Z d M H' ∧ Rep Z d x a
abbrev Ei := Env → Mem → Res Ik
def OkI (W : WX) (σ : St) (e : Env) (c : Rc) (R : It → Hp → Prop) : Res Ik → Prop
  | .ok k M' => ∀ c' H' J, Le c c' → At Z c' e M' σ H' → JOk Z c' k J → R J H'
  | .exc k fs M' => ∀ c' H' d, Le c c' → Sim Z c' M' H' → XRep Z c' H' d fs → W (.ref (Z.xc k)) d σ H'
  | .bad => False
def TIa (W : WX) (f : Ei) : TI := fun σ H R => ∃ c e M, At Z c e M σ H ∧ OkI Z W σ e c R (f e M)
end
abbrev SI (Z : Sc) (W : WX) (X : Cx) (tg iter : Expr) (f : Ei) : Prop := PI X tg iter (TIa Z W f)
theorem _root_.L2.PI.imp {X : Cx} {tg e : Expr} {t t' : TI} (h : PI X tg e t) (i : ∀ σ H Q, t' σ H Q → t σ H Q) : PI X tg e t' := ⟨fun pins s σ H Q I q => h.run pins s σ H Q I (i σ H Q q)⟩
theorem _root_.L2.PI.or {X : Cx} {tg e : Expr} {t t' : TI} (h : PI X tg e t) (h' : PI X tg e t') : PI X tg e (fun σ H Q => t σ H Q ∨ t' σ H Q) := ⟨fun pins s σ H Q I q => q.elim (h.run pins s σ H Q I) (h'.run pins s σ H Q I)⟩
section
variable {Z : Sc} {W : WX} {X : Cx}
theorem OkI.mono {σ : St} {e : Env} {c d : Rc} {R : It → Hp → Prop} (l : Le c d) : ∀ {r : Res Ik}, OkI Z W σ e c R r → OkI Z W σ e d R r
  | .ok _ _, h => fun c' H' J l' a j => h c' H' J (l.trans l') a j
  | .exc _ _ _, h => fun c' H' J l' a j => h c' H' J (l.trans l') a j
  | .bad, h => h
theorem stepI {σ : St} {c : Rc} {e : Env} {M : Mem} {H : Hp} {R : It → Hp → Prop} {γ ξ : Type} {R1 : Rc → ξ → γ → Prop} {f : Env → Mem → Res γ} {k : γ → Mem → Res Ik} {Q1 : ξ → Hp → Prop} (a : At Z c e M σ H) (h : OkI Z W σ e c R ((f e M).bind k))
    (next : ∀ c' x b M' H', Le c c' → At Z c' e M' σ H' → R1 c' x b → OkI Z W σ e c' R (k b M') → Q1 x H') : T Z W R1 f σ H Q1 := by
  refine ⟨c, e, M, a, ?_⟩
  cases hf : f e M with
  | ok b M' =>
    rw [hf] at h
    exact fun c' x H' l s r => next c' x b M' H' l (a.mono l s) r (OkI.mono l h)
  | exc k' fs M' => rw [hf] at h; exact h
  | bad => rw [hf] at h; exact h
def iSeq (f : Ev) : Ei := fun e M => (f e M).bind fun a M1 => match a with
  | .str z => .ok (.chs z) M1
  | a => (match asQ M1 a with
    | some xs => if stayA M1 a xs then .ok (.seq a xs) M1 else .bad
    | none => .bad)
theorem jok_l {c0 : Rc} {a : Av} {l : Addr} {xs : List Av} (r : Rep Z c0 (.ref l) a) (hl : ∀ c M H, Le c0 c → Sim Z c M H → stayA M a xs = true → ∃ vs, SqL Z.K H l vs ∧ Reps Z c vs xs) : JOk Z c0 (.seq a xs) (Itl Z.K l) := by
  refine ⟨fun i c M H hi lc s st => ?_, fun c M H lc s st => ?_, fun i c M H x H' b hb lc s st y => ?_⟩
  · obtain ⟨vs, q1, q2⟩ := hl c M H lc s st
    have hi : i < vs.length := by rw [q2.length]; exact hi
    exact ⟨vs, vs[i], q1, by simp [hi]⟩
  · obtain ⟨vs, q1, q2⟩ := hl c M H lc s st
    exact ⟨vs, q1, by rw [q2.length]; exact Nat.le_refl _⟩
  · obtain ⟨vs, q1, q2⟩ := hl c M H lc s st
    obtain ⟨e, y⟩ := y
    subst e
    obtain ⟨v, q3, q4⟩ := q2.get hb
    have := y vs q1
    rw [q3] at this
    cases this
    exact ⟨c, Le.refl c, s, q4⟩
theorem jok_t {c0 : Rc} {a : Av} {l : Addr} {xs : List Av} {vs : List V} (q1 : SqT Z.K c0.G l vs) (q2 : Reps Z c0 vs xs) : JOk Z c0 (.seq a xs) (Itt Z.K l) := by
  refine ⟨fun i c M H hi lc s st => ?_, fun c M H lc s st => ?_, fun i c M H x H' b hb lc s st y => ?_⟩
  · have hi : i < vs.length := by rw [q2.length]; exact hi
    exact ⟨vs, vs[i], same_t (lc.g.trans s.g) q1, by simp [hi]⟩
  · exact ⟨vs, same_t (lc.g.trans s.g) q1, by rw [q2.length]; exact Nat.le_refl _⟩
  · obtain ⟨e, y⟩ := y
    subst e
    obtain ⟨v, q3, q4⟩ := q2.get hb
    have := y vs (same_t (lc.g.trans s.g) q1)
    rw [q3] at this
    cases this
    exact ⟨c, Le.refl c, s, q4.mono lc⟩
theorem jok_s {c0 : Rc} {z : Str} : JOk Z c0 (.chs z) (Its z) := by
  refine ⟨fun i c M H hi lc s st => ?_, fun c M H lc s st => ?_, fun i c M H x H' b hb lc s st y => ?_⟩
  · simp [Ik.items] at hi
    exact hi
  · show z.cps.size ≤ _
    simp [Ik.items]
  · obtain ⟨e, ch, e1, e2⟩ := y
    subst e e2
    simp only [Ik.items, List.getElem?_map, Array.getElem?_toList, e1, Option.map_some, Option.some.injEq] at hb
    subst hb
    exact ⟨c, Le.refl c, s, .str _⟩
theorem si_seq {tg ex : Expr} {f : Ev} (hK : X.K = Z.K) (h : SE Z W X ex f) : SI Z W X tg ex (iSeq f) := by
  have q := (pi_list (tg := tg) h).or ((pi_tup (tg := tg) h).or (pi_str (tg := tg) h))
  rw [hK] at q
  refine q.imp fun σ H R ⟨c, e, M, a, h⟩ => ?_
  -- which of the three: by the value
  cases hf : f e M with
  | bad => rw [iSeq, hf] at h; exact h.elim
  | exc k fs M' =>
    rw [iSeq, hf] at h
    exact .inl ⟨c, e, M, a, by rw [hf]; exact h⟩
  | ok b M' =>
    rw [iSeq, hf] at h
    simp only [Res.bind] at h
    have go : ∀ {Q1 : VK}, (∀ c' x H', Le c c' → At Z c' e M' σ H' → Rep Z c' x b → Q1 x H') → T Z W (Rep Z) f σ H Q1 := fun {Q1} n => ⟨c, e, M, a, by rw [hf]; exact fun c' x H' l s r => n c' x H' l (a.mono l s) r⟩
    cases b with
    | str z =>
      refine .inr (.inr (go fun c' x H' l a' r => ?_))
      cases r
      exact ⟨z, rfl, h c' H' _ l a' jok_s⟩
    | tup xs =>
      refine .inr (.inl (go fun c' x H' l a' r => ?_))
      cases r with | tup q1 q2 =>
      refine ⟨_, rfl, ⟨_, same_t a'.s.g q1⟩, ?_⟩
      simp only [asQ, stayA, eqAs_refl, if_true] at h
      exact h c' H' _ l a' (jok_t q1 q2)
    | lst xs =>
      refine .inl (go fun c' x H' l a' r => ?_)
      simp only [asQ, stayA, eqAs_refl, if_true] at h
      have r0 := r
      cases r with | lst q1 q2 =>
      refine ⟨_, rfl, ⟨_, SqL.of (a'.s.g _ _ q1)⟩, h c' H' _ l a' (jok_l r0 fun c2 M2 H2 l2 s2 _ => ⟨_, SqL.of (s2.g _ _ (l2.g _ _ q1)), q2.mono l2⟩)⟩
    | fz xs =>
      refine .inl (go fun c' x H' l a' r => ?_)
      simp only [asQ, stayA, eqAs_refl, if_true] at h
      have r0 := r
      cases r with | fz q1 q2 =>
      refine ⟨_, rfl, ⟨_, same_l a'.s.g q1⟩, h c' H' _ l a' (jok_l r0 fun c2 M2 H2 l2 s2 _ => ⟨_, same_l (l2.g.trans s2.g) q1, q2.mono l2⟩)⟩
    | ref n =>
      refine .inl (go fun c' x H' l a' r => ?_)
      simp only at h
      cases q : asQ M' (.ref n) with
      | none => rw [q] at h; exact h.elim
      | some xs =>
        rw [q] at h
        simp only at h
        split at h
        · rename_i hst
          obtain ⟨lA, vs, rfl, q1, q2⟩ := asL_rep a'.s r q
          refine ⟨lA, rfl, ⟨vs, SqL.of q1⟩, h c' H' _ l a' (jok_l r fun c2 M2 H2 l2 s2 st => ?_)⟩
          obtain ⟨l3, vs3, e3, q3, q4⟩ := asL_rep s2 (r.mono l2) (stayA_q st)
          cases e3
          exact ⟨vs3, SqL.of q3, q4⟩
        · exact h.elim
    | _ => exact h.elim
theorem rngA_length (lo : Int) : ∀ n : Nat, (rngA lo n).length = n
  | 0 => rfl
  | n + 1 => by simp [rngA, rngA_length (lo + 1) n]
theorem rngA_get : ∀ (n i : Nat) (lo : Int), i < n → (rngA lo n)[i]? = some (.int (lo + i))
  | 0, _, _, h => by omega
  | n + 1, 0, lo, _ => by simp [rngA]
  | n + 1, i + 1, lo, h => by
    simp only [rngA, List.getElem?_cons_succ]
    rw [rngA_get n i (lo + 1) (by omega)]
    congr 2
    push_cast
    omega
theorem jok_r {c0 : Rc} {lo : Int} {n : Nat} : JOk Z c0 (.rng lo n) (Itr lo n) := by
  refine ⟨fun i c M H hi lc s st => ?_, fun c M H lc s st => ?_, fun i c M H x H' b hb lc s st y => ?_⟩
  · show i < n
    simpa [Ik.items, rngA_length] using hi
  · show n ≤ _
    simp [Ik.items, rngA_length]
  · obtain ⟨e1, e2⟩ := y
    subst e1 e2
    have hi : i < n := by
      have := (List.getElem?_eq_some_iff.mp hb).1
      simpa [Ik.items, rngA_length] using this
    simp only [Ik.items, rngA_get n i lo hi, Option.some.injEq] at hb
    subst hb
    exact ⟨c, Le.refl c, s, .int _⟩
def small62 (i : Int) : Bool := decide (-1000000000 ≤ i) && decide (i ≤ 1000000000)
def iRng1A (g : Ea) : Ei := fun e M => (g e M).bind fun as M1 => match as with
  | [.int j] => if small62 j then .ok (.rng 0 j.toNat) M1 else .bad
  | _ => .bad
def iRng2A (g : Ea) : Ei := fun e M => (g e M).bind fun as M1 => match as with
  | [.int i, .int j] => if small62 i && small62 j then .ok (.rng i (j - i).toNat) M1 else .bad
  | _ => .bad
theorem si_rng1 {tg a : Expr} {g : Ea} {p pos : Pos} (hg : Gl X "range") (hm : X.mg "range" = none) (h : SA Z W X [a] g) (hs : starEach [a] X.env = [(false, eval a X.env)]) : SI Z W X tg (.Call (.Name "range" p) [a] [] pos) (iRng1A g) := by
  refine (pi_range1 hg hm h hs).imp fun σ H R ⟨c, e, M, at_, h⟩ => ?_
  refine stepI (R1 := Reps Z) at_ h fun c1 x v M1 H1 l1 a1 r1 h1 => ?_
  split at h1
  · cases r1 with | cons r1 r2 =>
    cases r2; cases r1
    split at h1
    · rename_i hz
      simp only [small62, Bool.and_eq_true, decide_eq_true_eq] at hz
      exact ⟨_, rfl, by omega, by omega, h1 c1 H1 _ (Le.refl c1) a1 jok_r⟩
    · exact h1.elim
  · exact h1.elim
theorem si_rng2 {tg a b : Expr} {g : Ea} {p pos : Pos} (hg : Gl X "range") (hm : X.mg "range" = none) (h : SA Z W X [a, b] g) (hs : starEach [a, b] X.env = [(false, eval a X.env), (false, eval b X.env)]) (hs2 : starEach [b] X.env = [(false, eval b X.env)]) : SI Z W X tg (.Call (.Name "range" p) [a, b] [] pos) (iRng2A g) := by
  refine (pi_range2 hg hm h hs hs2).imp fun σ H R ⟨c, e, M, at_, h⟩ => ?_
  refine stepI (R1 := Reps Z) at_ h fun c1 x v M1 H1 l1 a1 r1 h1 => ?_
  split at h1
  · cases r1 with | cons r1 r2 =>
    cases r2 with | cons r2 r3 =>
    cases r3; cases r1; cases r2
    split at h1
    · rename_i hz
      simp only [small62, Bool.and_eq_true, decide_eq_true_eq] at hz
      exact ⟨_, _, rfl, ⟨by omega, by omega, by omega, by omega⟩, h1 c1 H1 _ (Le.refl c1) a1 jok_r⟩
    · exact h1.elim
  · exact h1.elim
abbrev Eg := Av → Env → Mem → Option Env
def forL (k : Ik) (g : Eg) (body : Es) : List Av → Env → Mem → SRes
  | [], e, M => if k.stay M then .nx e M else .bad
  | x :: xs, e, M => if k.stay M then (match g x e M with
    | some e1 => (match body e1 M with
      | .nx e2 M2 => forL k g body xs e2 M2
      | .ct e2 M2 => forL k g body xs e2 M2
      | .bk e2 M2 => .nx e2 M2
      | .rt v M2 => .rt v M2
      | .exc q fs e2 M2 => .exc q fs e2 M2
      | .bad => .bad)
    | none => .bad) else .bad
def sFor (f : Ei) (g : Eg) (body : Es) : Es := fun e M => (f e M).thn e fun k M1 => forL k g body k.items e M1
def GS (Z : Sc) (vs : List Nat) (t : TG) (g : Eg) : Prop := ∀ (c : Rc) (e e1 : Env) (M : Mem) (σ : St) (H : Hp) (x : V) (a : Av) (Q : St → Hp → Prop), At Z c e M σ H → Rep Z c x a → g a e M = some e1 →
  (∀ σ', At Z c e1 M σ' H → (∀ j : Nat, j ∉ vs → σ'[j]? = σ[j]?) → σ'.length = σ.length → Q σ' H) → t x σ H Q
def gNm (i : Nat) : Eg := fun a e _ => some (e.set i (some a))
theorem gs_name {i : Nat} : GS Z [i] (gName i) (gNm i) := fun c e e1 M σ H x a Q at_ r h q => by
  cases h
  refine q _ (at_.set r i) (fun j hj => ?_) (by simp)
  rw [List.getElem?_set_ne (by intro z; exact hj (by simp [z]))]
def gNms : List Nat → List Av → Env → Option Env
  | [], [], e => some e
  | i :: is, a :: as, e => gNms is as (e.set i (some a))
  | _, _, _ => none
def gTp (is : List Nat) : Eg := fun a e M => match a with
  | .tup xs => gNms is xs e
  | _ => none
def gsN : List Nat → TGs
  | [] => gNil
  | i :: is => gCons (gName i) (gsN is)
theorem gs_names : ∀ (is : List Nat) (as : List Av) (c : Rc) (e e1 : Env) (M : Mem) (σ : St) (H : Hp) (vs : List V) (Q : St → Hp → Prop), At Z c e M σ H → Reps Z c vs as → gNms is as e = some e1 →
    (∀ σ', At Z c e1 M σ' H → (∀ j : Nat, j ∉ is → σ'[j]? = σ[j]?) → σ'.length = σ.length → Q σ' H) → gsN is vs σ H Q ∧ vs.length = is.length
  | [], [], c, e, e1, M, σ, H, vs, Q, a, r, h, q => by
    cases r; cases h
    exact ⟨⟨rfl, q σ a (fun _ _ => rfl) rfl⟩, rfl⟩
  | i :: is, x :: as, c, e, e1, M, σ, H, vs, Q, a, r, h, q => by
    cases r with
    | cons r1 r2 =>
      obtain ⟨z1, z2⟩ := gs_names is as c (e.set i (some x)) e1 M _ H _ Q (a.set r1 i) r2 h fun σ' a' h1 h2 => q σ' a' (fun j hj => by
        rw [h1 j (fun z => hj (List.mem_cons_of_mem _ z)), List.getElem?_set_ne (by intro z; exact hj (by simp [z]))]) (by rw [h2]; simp)
      exact ⟨⟨_, _, rfl, z1⟩, by simp [z2]⟩
  | [], _ :: _, _, _, _, _, _, _, _, _, _, _, h, _ => by cases h
  | _ :: _, [], _, _, _, _, _, _, _, _, _, _, h, _ => by cases h
theorem gs_tup {is : List Nat} : GS Z is (gTup Z.K is.length (gsN is)) (gTp is) := fun c e e1 M σ H x a Q at_ r h q => by
  cases r with
  | tup h1 r1 =>
    obtain ⟨z1, z2⟩ := gs_names is _ c e e1 M σ H _ Q at_ r1 h q
    exact ⟨_, _, rfl, same_t at_.s.g h1, z2, z1⟩
  | _ => cases h
theorem drop_cons {α : Type} {l : List α} {i : Nat} {a : α} (h : l[i]? = some a) : l.drop i = a :: l.drop (i + 1) := by
  obtain ⟨hi, e⟩ := List.getElem?_eq_some_iff.mp h
  rw [List.drop_eq_getElem_cons hi, e]
theorem imp_for {vs : List Nat} {f : Ei} {t : TG} {g : Eg} {body : Es} (hg : GS Z vs t g) : ∀ D σ H, TSa Z W (sFor f g body) D σ H → tFor (TIa Z W f) t (TSa Z W body) D σ H := by
  intro D σ H ⟨c, e, M, a, h⟩
  refine ⟨c, e, M, a, ?_⟩
  unfold sFor at h
  cases hf : f e M with
  | bad => rw [hf] at h; exact h.elim
  | exc k fs M' => rw [hf] at h; exact fun c' H' d l s x => h c' σ H' d l (a.mono l s) x
  | ok k M' =>
    rw [hf] at h
    have h : OkS Z W c D (forL k g body k.items e M') := h
    intro c1 H1 J l1 a1 jk
    refine ⟨fun i m σ H => m = k.items.length - i ∧ i ≤ k.items.length ∧ ∃ c e M, Le c1 c ∧ At Z c e M σ H ∧ OkS Z W c D (forL k g body (k.items.drop i) e M), ⟨k.items.length, by simp, Nat.zero_le _, c1, e, M', Le.refl c1, a1, by simpa using OkS.mono l1 h⟩, ?_⟩
    rintro i m σ2 H2 ⟨rfl, hi, c2, e2, M2, l2, a2, h2⟩
    by_cases hlt : i < k.items.length
    · obtain ⟨b, hb⟩ : ∃ b, k.items[i]? = some b := ⟨k.items[i], by simp [hlt]⟩
      rw [drop_cons hb] at h2
      unfold forL at h2
      split at h2
      · rename_i st
        refine .inr ⟨jk.go i c2 M2 H2 hlt l2 a2.s st, fun σ H => ∃ c e M, Le c2 c ∧ At Z c e M σ H ∧ OkS Z W c D (forL k g body (k.items.drop (i + 1)) e M), fun σ' H' ⟨c3, e3, M3, l3, a3, h3⟩ => ⟨k.items.length - (i + 1), by omega, rfl, hlt, c3, e3, M3, l2.trans l3, a3, h3⟩, fun x H' y => ?_⟩
        obtain ⟨d, l3, s3, r3⟩ := jk.yld i c2 M2 H2 x H' b hb l2 a2.s st y
        split at h2
        · rename_i e1 he1
          refine hg d e2 e1 M2 σ2 H' x b _ (a2.mono l3 s3) r3 he1 fun σ' a4 _ _ => ⟨d, e1, M2, a4, ?_⟩
          cases hb2 : body e1 M2 with
          | nx e5 M5 => rw [hb2] at h2; exact fun c' σ' H' l' a' => ⟨c', e5, M5, l3.trans l', a', OkS.mono (l3.trans l') h2⟩
          | ct e5 M5 => rw [hb2] at h2; exact fun c' σ' H' l' a' => ⟨c', e5, M5, l3.trans l', a', OkS.mono (l3.trans l') h2⟩
          | bk e5 M5 => rw [hb2] at h2; exact fun c' σ' H' l' a' => h2 c' σ' H' (l3.trans l') a'
          | rt v M5 => rw [hb2] at h2; exact OkS.mono l3 h2
          | exc q fs e5 M5 => rw [hb2] at h2; exact OkS.mono l3 h2
          | bad => rw [hb2] at h2; exact h2
        · exact h2.elim
      · exact h2.elim
    · have e : i = k.items.length := by omega
      subst e
      rw [List.drop_length] at h2
      unfold forL at h2
      split at h2
      · rename_i st
        exact .inl ⟨jk.stop c2 M2 H2 l2 a2.s st, h2 c2 σ2 H2 (Le.refl c2) a2⟩
      · exact h2.elim
theorem ss_for {tg iter : Expr} {body : List Stmt} {f : Ei} {t : TG} {g : Eg} {fb : Es} {vs : List Nat} {pos : Pos} (hp : PassesOwn (model X.prog X.w) X.A X.env X.xe) (hc : X.calm = true) (hi : SI Z W X tg iter f) (hg : PG X tg t) (hgs : GS Z vs t g) (hb : SSs Z W X body fb)
    (hs : ∀ x, foldedSetIterable iter X.env x = pure x) : SS Z W X (.For tg iter body [] pos) (sFor f g fb) := (ps_for hp hc hi hg hb hs).imp (imp_for hgs)
def whileL (t : Et) (body : Es) : Nat → Es
  | 0 => fun _ _ => .bad
  | n + 1 => fun e M => (t e M).thn e fun b M1 => if b then (match body e M1 with
    | .nx e2 M2 => whileL t body n e2 M2
    | .ct e2 M2 => whileL t body n e2 M2
    | .bk e2 M2 => .nx e2 M2
    | r => r) else .nx e M1
theorem imp_while {t : Et} {body : Es} {n : Nat} : ∀ D σ H, TSa Z W (whileL t body n) D σ H → tWhile (T Z W (fun _ (x b : Bool) => x = b) t) (TSa Z W body) D σ H := by
  intro D σ H ⟨c, e, M, a, h⟩
  refine ⟨fun m σ H => ∃ c e M, At Z c e M σ H ∧ OkS Z W c D (whileL t body m e M), ⟨n, c, e, M, a, h⟩, ?_⟩
  rintro m σ1 H1 ⟨c1, e1, M1, a1, h1⟩
  cases m with
  | zero => exact h1.elim
  | succ m =>
    refine stepS (R1 := fun _ (x b : Bool) => x = b) a1 h1 fun c' x b M' H' l a' r h' => ?_
    subst r
    cases x with
    | false => exact iteF (h' c' σ1 H' (Le.refl c') a')
    | true =>
      refine iteT ⟨fun σ H => ∃ c e M, At Z c e M σ H ∧ OkS Z W c D (whileL t body m e M), fun σ' H' q => ⟨m, Nat.lt_succ_self _, q⟩, c', e1, M', a', ?_⟩
      simp only [if_true] at h'
      cases hb : body e1 M' with
      | nx e5 M5 => rw [hb] at h'; exact fun c2 σ2 H2 l2 a2 => ⟨c2, e5, M5, a2, OkS.mono l2 h'⟩
      | ct e5 M5 => rw [hb] at h'; exact fun c2 σ2 H2 l2 a2 => ⟨c2, e5, M5, a2, OkS.mono l2 h'⟩
      | bk e5 M5 => rw [hb] at h'; exact h'
      | rt v M5 => rw [hb] at h'; exact h'
      | exc q fs e5 M5 => rw [hb] at h'; exact h'
      | bad => rw [hb] at h'; exact h'
theorem ss_while {c : Expr} {body : List Stmt} {t : Et} {fb : Es} {n : Nat} {pos : Pos} (hp : PassesOwn (model X.prog X.w) X.A X.env X.xe) (hc : ST Z W X c t) (hb : SSs Z W X body fb) : SS Z W X (.While c body [] pos) (whileL t fb n) := (ps_while hp hc hb).imp imp_while
def wipeA (e : Env) : List Nat → Env
  | [] => e
  | v :: vs => (wipeA e vs).set v none
theorem EnvR.none {c : Rc} {e : Env} {σ : St} (h : EnvR Z c e σ) (i : Nat) : EnvR Z c (e.set i none) (σ.set i none) := by
  refine ⟨by simp [h.len], fun j y q => ?_⟩
  rw [List.getElem?_set] at q ⊢
  by_cases hj : i = j
  · subst hj
    simp only [if_true] at q
    split at q <;> cases q
  · rw [if_neg hj] at q ⊢
    exact h.at_ j y q
theorem EnvR.wipe {c : Rc} {e : Env} {σ : St} (h : EnvR Z c e σ) : ∀ vs : List Nat, EnvR Z c (wipeA e vs) (wipe σ vs)
  | [] => h
  | v :: vs => (EnvR.wipe h vs).none v
theorem wipe_get (σ : St) : ∀ (vs : List Nat) (j : Nat), (wipe σ vs)[j]? = if j ∈ vs then (if j < σ.length then some none else none) else σ[j]?
  | [], j => by simp [wipe]
  | v :: vs, j => by
    unfold wipe
    rw [List.getElem?_set, wipe_length]
    by_cases h : v = j
    · subst h; simp
    · rw [if_neg h, wipe_get σ vs j]
      have e : (j ∈ v :: vs) ↔ j ∈ vs := ⟨fun z => (List.mem_cons.mp z).elim (fun q => absurd q.symm h) id, List.mem_cons_of_mem _⟩
      by_cases hj : j ∈ vs
      · rw [if_pos hj, if_pos (e.mpr hj)]
      · rw [if_neg hj, if_neg fun z => hj (e.mp z)]
theorem wipe_ext {a b : St} {vs : List Nat} (h : ∀ j : Nat, j ∉ vs → a[j]? = b[j]?) (hl : a.length = b.length) : wipe a vs = wipe b vs := by
  refine List.ext_getElem? fun j => ?_
  rw [wipe_get, wipe_get, hl]
  by_cases hj : j ∈ vs
  · rw [if_pos hj, if_pos hj]
  · rw [if_neg hj, if_neg hj]; exact h j hj
theorem wipe_twice (σ : St) (vs : List Nat) : wipe (wipe σ vs) vs = wipe σ vs :=
  wipe_ext (fun j hj => by rw [wipe_get, if_neg hj]) (wipe_length σ vs)
def stApp (d : Nat) (y : Av) (M : Mem) : Option Mem := match M[d]? with
  | some (some (.lst acc)) => if szOk acc.length then some (M.set d (some (.lst (acc ++ [y])))) else none
  | _ => none
def lcL (k : Ik) (g : Eg) (t : Et) (f : Ev) (e : Env) (d : Nat) : List Av → Mem → Res Unit
  | [], M => if k.stay M then .ok () M else .bad
  | x :: xs, M => if k.stay M then (match g x e M with
    | some e1 => (t e1 M).bind fun b M1 => if b then (f e1 M1).bind fun y M2 => (match stApp d y M2 with
        | some M3 => lcL k g t f e d xs M3
        | none => .bad) else lcL k g t f e d xs M1
    | none => .bad) else .bad
def noX {α : Type} : Res α → Res α
  | .exc _ _ _ => .bad
  | r => r
def lcFin (m : Bool) (M1 M : Mem) : Res Av := match M[M1.length]? with
  | some (some (.lst acc)) => if m then .ok (.ref M1.length) M else if cutOk M1 M && belows M1.length acc then .ok (.lst acc) (M.take M1.length) else .ok (.lst acc) (M.set M1.length none)
  | _ => .bad
def eLc (m : Bool) (fi : Ei) (g : Eg) (t : Et) (f : Ev) (vs : List Nat) : Ev := fun e M => (fi e M).bind fun k M1 =>
  (noX (lcL k g t f (wipeA e vs) M1.length k.items (M1 ++ [some (.lst [])]))).bind fun _ M2 => lcFin m M1 M2
abbrev WNo : WX := fun _ _ _ _ => False
theorem imp_lc {mm : Bool} {fi : Ei} {tg : TG} {g : Eg} {t : Et} {f : Ev} {vs ws : List Nat} (hg : GS Z ws tg g) (hw : ∀ i ∈ ws, i ∈ vs) : ∀ σ H Q, T Z W (Rep Z) (eLc mm fi g t f vs) σ H Q → tLc (TIa Z W fi) tg (T Z WNo (fun _ (x b : Bool) => x = b) t) (T Z WNo (Rep Z) f) vs σ H Q := by
  intro σ H Q ⟨c, e, M, a, h⟩
  refine ⟨c, e, M, a, ?_⟩
  unfold eLc at h
  cases hf : fi e M with
  | bad => rw [hf] at h; exact h.elim
  | exc k fs M' => rw [hf] at h; exact h
  | ok k M1 =>
    rw [hf] at h
    intro c1 H1 J l1 a1 jk D hD
    have h : Okk Z W σ c1 (Rep Z) Q ((noX (lcL k g t f (wipeA e vs) M1.length k.items (M1 ++ [some (.lst [])]))).bind fun _ M2 => lcFin mm M1 M2) := Okk.mono l1 h
    have sD : Sim Z (c1.own D) (M1 ++ [some (.lst [])]) (upd H1 D (.lst [])) := a1.s.own hD (show RepO Z c1 D (.lst []) (.lst []) from Reps.nil)
    refine ⟨fun i m H => m = k.items.length - i ∧ i ≤ k.items.length ∧ ∃ c M, Le (c1.own D) c ∧ Sim Z c M H ∧ Okk Z W σ c1 (Rep Z) Q ((noX (lcL k g t f (wipeA e vs) M1.length (k.items.drop i) M)).bind fun _ M2 => lcFin mm M1 M2), ⟨k.items.length, by simp, Nat.zero_le _, c1.own D, _, Le.refl _, sD, by simpa using h⟩, ?_⟩
    rintro i m H2 ⟨rfl, hi, c2, M2, l2, s2, h2⟩
    have lc1 : Le c1 c2 := Le.own.trans l2
    have eD : c2.r M1.length = D := by
      rw [← a1.s.l, l2.r c1.L (Nat.lt_succ_self _), own_at]
    have lt2 : M1.length < c2.L := by have := l2.l; rw [show (c1.own D).L = c1.L + 1 from rfl] at this; rw [← a1.s.l]; omega
    by_cases hlt : i < k.items.length
    · obtain ⟨b, hb⟩ : ∃ b, k.items[i]? = some b := ⟨k.items[i], by simp [hlt]⟩
      rw [drop_cons hb] at h2
      unfold lcL at h2
      split at h2
      · rename_i st
        refine .inr ⟨jk.go i c2 M2 H2 hlt lc1 s2 st, fun H => ∃ c M, Le (c1.own D) c ∧ Sim Z c M H ∧ Okk Z W σ c1 (Rep Z) Q ((noX (lcL k g t f (wipeA e vs) M1.length (k.items.drop (i + 1)) M)).bind fun _ M2 => lcFin mm M1 M2), fun H' ⟨c3, M3, l3, s3, h3⟩ => ⟨k.items.length - (i + 1), by omega, rfl, hlt, c3, M3, l3, s3, h3⟩, fun x H' y => ?_⟩
        obtain ⟨d, l3, s3, r3⟩ := jk.yld i c2 M2 H2 x H' b hb lc1 s2 st y
        split at h2
        · rename_i e1 he1
          refine hg d (wipeA e vs) e1 M2 (wipe σ vs) H' x b _ ⟨s3, (a1.e.mono (lc1.trans l3)).wipe vs⟩ r3 he1 fun σ' a4 w1 w2 => ⟨?_, d, e1, M2, a4, ?_⟩
          · rw [wipe_ext (a := σ') (b := wipe σ vs) (fun j hj => w1 j fun z => hj (hw j z)) w2, wipe_twice]
          · cases ht : t e1 M2 with
            | bad => rw [ht] at h2; exact h2.elim
            | exc q fs M5 => rw [ht] at h2; exact h2.elim
            | ok bb M3 =>
              rw [ht] at h2
              intro c4 x4 H4 l4 s4 r4
              subst r4
              cases x4 with
              | false => exact iteF ⟨c4, M3, (l2.trans l3).trans l4, s4, by simpa [Res.bind] using h2⟩
              | true =>
                refine iteT ⟨c4, e1, M3, ⟨s4, a4.e.mono l4⟩, ?_⟩
                have h2 : Okk Z W σ c1 (Rep Z) Q ((noX ((f e1 M3).bind fun y M2 => (match stApp M1.length y M2 with
                  | some M3 => lcL k g t f (wipeA e vs) M1.length (k.items.drop (i + 1)) M3
                  | none => .bad))).bind fun _ M2 => lcFin mm M1 M2) := h2
                cases hfe : f e1 M3 with
                | bad => rw [hfe] at h2; exact h2.elim
                | exc q fs M5 => rw [hfe] at h2; exact h2.elim
                | ok y5 M5 =>
                  rw [hfe] at h2
                  intro c5 x5 H5 l5 s5 r5
                  cases e6 : stApp M1.length y5 M5 with
                  | none => simp only [Res.bind, e6, noX] at h2; exact h2.elim
                  | some M6 =>
                    have h2 : Okk Z W σ c1 (Rep Z) Q ((noX (lcL k g t f (wipeA e vs) M1.length (k.items.drop (i + 1)) M6)).bind fun _ M2 => lcFin mm M1 M2) := by
                      simp only [Res.bind, e6] at h2
                      exact h2
                    have lc5 : Le c2 c5 := (l3.trans l4).trans l5
                    have eD5 : c5.r M1.length = D := by rw [lc5.r _ lt2]; exact eD
                    cases q : M5[M1.length]? with
                    | none => simp [stApp, q] at e6
                    | some ob =>
                      cases ob with
                      | none => simp [stApp, q] at e6
                      | some ob =>
                        cases ob with
                        | ins k fs => simp [stApp, q] at e6
                        | dct ks vs => simp [stApp, q] at e6
                        | lst acc =>
                          simp only [stApp, q] at e6
                          split at e6
                          · rename_i hz
                            cases e6
                            obtain ⟨ho, q1, q2, q3⟩ := s5.m _ _ q
                            cases ho with
                            | lst vs5 =>
                              have q2 : Reps Z c5 vs5 acc := q2
                              rw [eD5] at q1
                              refine ⟨vs5, q1, by rw [q2.length]; exact szOk_lt hz, c5, _, l2.trans lc5, ?_, h2⟩
                              have := s5.put q (ho := .lst (vs5 ++ [x5])) (o' := .lst (acc ++ [y5])) (show Reps Z c5 _ _ from q2.append (.cons r5 .nil))
                              rw [eD5] at this
                              exact this
                            | _ => exact q2.elim
                          · cases e6
        · exact h2.elim
      · exact h2.elim
    · have e0 : i = k.items.length := by omega
      subst e0
      rw [List.drop_length] at h2
      unfold lcL at h2
      split at h2
      · rename_i st
        refine .inl ⟨jk.stop c2 M2 H2 lc1 s2 st, ?_⟩
        simp only [noX, Res.bind, lcFin] at h2
        split at h2
        · rename_i acc e5
          obtain ⟨ho, q1, q2, q3⟩ := s2.m _ _ e5
          cases ho with
          | lst vs5 =>
            have q2 : Reps Z c2 vs5 acc := q2
            have hlen : M1.length ≤ M2.length := Nat.le_of_lt (List.getElem?_eq_some_iff.mp e5).1
            have s5 := s2.freeze e5 q1
            rw [eD] at q1 s5 q3
            split at h2
            · have rr : Rep Z c2 (.ref D) (.ref M1.length) := by
                have q := Rep.ref (Z := Z) (c := c2) (n := M1.length) lt2
                rw [eD] at q
                exact q
              exact h2 _ _ H2 lc1 s2 rr
            · have lD : Le c1 (c2.lay D (.lst vs5)) := lc1.trans (Le.lay q3)
              have rD : Rep Z (c2.lay D (.lst vs5)) (.ref D) (.lst acc) := .lst (vs := vs5) (show upd c2.G D (.lst vs5) D = _ from upd_same) (q2.mono (Le.lay q3))
              split at h2
              · rename_i hz
                simp only [Bool.and_eq_true] at hz
                have s6 := a1.s.cutOk s5 (M := M1) (by
                  unfold Pd.cutOk at hz ⊢
                  exact cutL_none hz.1)
                have tk : (M2.set M1.length none).take M1.length = M2.take M1.length := by rw [List.take_set_of_le (Nat.le_refl _)]
                rw [tk] at s6
                refine h2 ((c2.lay D (.lst vs5)).cut M1.length) _ H2 ⟨lD.g, by show c1.L ≤ M1.length; rw [a1.s.l]; exact Nat.le_refl _, lD.r⟩ s6 (rD.cut (by simp only [below]; exact hz.2))
              · exact h2 _ _ H2 lD s5 rD
          | _ => exact q2.elim
        · exact h2.elim
      · exact h2.elim
end
end Pd
set_option maxHeartbeats 2000000
namespace Pd
open PySem PySem.Spec L2
abbrev Fn := List Av → Mem → Res Av
abbrev Cal := Nat → Fn
def spOf (Z : Sc) (f : Fn) : Sp := fun vs H Q E => ∃ (c : Rc) (M : Mem) (as : List Av), Sim Z c M H ∧ Reps Z c vs as ∧ Okk Z (fun cls d _ H => E cls d H) [] c (Rep Z) Q (f as M)
section
variable {Z : Sc} {W : WX} {X : Cx}
theorem Okk.wish {σ τ : St} {c : Rc} {Q : VK} {r : Res Av} (h : Okk Z W σ c (Rep Z) Q r) : Okk Z (fun cls d _ H => W cls d σ H) τ c (Rep Z) Q r := by
  cases r <;> exact h
theorem run_own {k : Nat} {f : Addr} {fd : FuncData} {ps : List Str} {ds : List Value} {dvs : List V} {dfl : List Av} {sem : Fn} {pins : List (Addr × Obj)} {σ : St} {H : Hp} {s : Shared} {Q : VK} {us : List Value} {vs : List V} {as : List Av} {c : Rc} {M : Mem}
    (F : FnOk X.prog X.w X.K X.mg X.base (CX X.prog X.w) k f fd ps (spOf Z sem)) (hr : Room k X.A) (hb : Binds X.K fd ps ds) (hd : Vals dvs ds) (hf : ∀ c, Reps Z c dvs dfl) (tk : Takes X W)
    (I : Inv X pins σ H s) (r : Vals vs us) (sm : Sim Z c M H) (rv : Reps Z c vs as) (h : Okk Z W σ c (Rep Z) Q (sem (as ++ dfl) M)) : wpAny (model X.prog X.w) X.A (call (.ref f) us) (EP X pins σ Q) X.xe s := by
  have hsp : spOf Z sem (vs ++ dvs) H Q (WE W σ) := ⟨c, M, as ++ dfl, sm, rv.append (hf c), h.wish⟩
  have r2 : Vals (vs ++ dvs) (us ++ ds) := r.append hd
  have hl : (us ++ ds).length = ps.length := by rw [← r2.length]; exact F.len _ _ _ _ hsp
  refine wpAny_call (codeAny_mono (F.run X.A X.stack s H ⟨us, []⟩ (us ++ ds) (vs ++ dvs) Q (WE W σ) hr I.env0 (hb s us I.kIn hl) r2 hsp) fun r s' hq => ?_)
  cases r with
  | error e => exact passAt tk σ pins H s e s' I hq
  | ok fl =>
    cases fl with
    | ret u => exact I.after hq
    | next => exact False.elim hq
    | brk => exact False.elim hq
    | cont => exact False.elim hq
structure Callee (Z : Sc) (X : Cx) (k : Nat) (sem : Fn) (dfl : List Av) (f : Addr) : Prop where
  ex : ∃ (fd : FuncData) (ps : List Str) (ds : List Value) (dvs : List V), FnOk X.prog X.w X.K X.mg X.base (CX X.prog X.w) k f fd ps (spOf Z sem) ∧ Binds X.K fd ps ds ∧ Vals dvs ds ∧ ∀ c, Reps Z c dvs dfl
  kp : PySem.W.keepIn X.K (.ref f) = true
def defl (sem : Fn) (dfl : List Av) : Fn := fun as M => sem (as ++ dfl) M
theorem se_call {k : Nat} {f : Addr} {sem : Fn} {dfl : List Av} {g : Ea} {x : Str} {p pos : Pos} {e : Expr} {es : List Expr} (F : Callee Z X k sem dfl f) (hr : Room k X.A) (tk : Takes X W) (hg : Gl X x) (hm : X.mg x = some (.ref f)) (ha : SA Z W X (e :: es) g)
    (hdb : (x == ("__debug__" : Str)) = false) (he : starEach (e :: es) X.env = (false, eval e X.env) :: starEach es X.env) (hpl : (backTo pos (starEach es X.env)).any (·.1) = false) : SE Z W X (.Call (.Name x p) (e :: es) [] pos) (eCallB (defl sem dfl) g) := by
  obtain ⟨fd, ps, ds, dvs, F1, hb, hd, hf⟩ := F.ex
  refine ⟨fun pins s σ H Q I ⟨c, en, M, a, h⟩ => ?_⟩
  refine wpAny_Call_Name_kw (ld_glob I hg hm ?_ hdb)
  refine PySem.W.callWith_K (h₀ := X.base) I.ok.mod.kin F.kp (thn (ha.run pos pins s σ H (fun vs H1 => ∃ c1 M1 as, Le c c1 ∧ Sim Z c1 M1 H1 ∧ Reps Z c1 vs as ∧ Okk Z W σ c1 (Rep Z) Q (sem (as ++ dfl) M1)) I ?_) fun us s1 ⟨vs, H1, I1, r, c1, M1, as, l1, s1', rv, q⟩ => ⟨I1.kIn, ?_⟩) he hpl
  · exact step (R1 := Reps Z) a h fun c' x b M' H' l a' r h' => ⟨c', M', b, l, a'.s, r, h'⟩
  · exact run_own F1 hr hb hd hf tk I1 r s1' rv q
theorem se_call0 {k : Nat} {f : Addr} {sem : Fn} {dfl : List Av} {x : Str} {p pos : Pos} (F : Callee Z X k sem dfl f) (hr : Room k X.A) (tk : Takes X W) (hg : Gl X x) (hm : X.mg x = some (.ref f)) (hdb : (x == ("__debug__" : Str)) = false) : SE Z W X (.Call (.Name x p) [] [] pos) (eCallB (defl sem dfl) aNil) := by
  obtain ⟨fd, ps, ds, dvs, F1, hb, hd, hf⟩ := F.ex
  refine ⟨fun pins s σ H Q I ⟨c, en, M, a, h⟩ => ?_⟩
  refine wpAny_Call_Name_kw (ld_glob I hg hm ?_ hdb)
  exact PySem.W.callWith_K0 I.kIn F.kp (run_own (us := []) (vs := []) (as := []) F1 hr hb hd hf tk I .nil a.s .nil h)
def clsA (M : Mem) : Av → Option Nat
  | .obj c _ _ => some c
  | .ref n => (match M[n]? with
    | some (some (.ins c _)) => some c
    | _ => none)
  | _ => none
def noFldA (M : Mem) (m : Str) : Av → Bool
  | .obj _ ns _ => !ns.contains m
  | .ref n => (match M[n]? with
    | some (some (.ins _ fs)) => !(fs.map (·.1)).contains m
    | _ => false)
  | _ => false
theorem lookup_no {α : Type} {m : Str} : ∀ {l : List (Str × α)}, (l.map (·.1)).contains m = false → l.lookup m = none
  | [], _ => rfl
  | (n, a) :: l, h => by
    simp only [List.map_cons, List.contains_cons, Bool.or_eq_false_iff] at h
    rw [List.lookup_cons, h.1]
    exact lookup_no h.2
theorem cls_rep {c : Rc} {M : Mem} {H : Hp} {x : V} {a : Av} {k : Nat} {m : Str} (s : Sim Z c M H) (r : Rep Z c x a) (h : clsA M a = some k) (hm : noFldA M m a = true) : ∃ p dx fs, x = .ref p ∧ Z.has k ∧ H p = some (.ins (Z.cl k) dx fs) ∧ fs.lookup m = none := by
  cases r with
  | @obj p dx k' ns vs xs hk h1 h2 h3 =>
    cases h
    refine ⟨_, _, _, rfl, hk, s.g _ _ h1, lookup_no ?_⟩
    rw [List.map_fst_zip (by omega)]
    simpa [noFldA] using hm
  | @ref n hn =>
    cases q : M[n]? with
    | none => simp [clsA, q] at h
    | some o =>
      cases o with
      | none => simp [clsA, q] at h
      | some o =>
        cases o with
        | lst ys => simp [clsA, q] at h
        | dct ks vs => simp [clsA, q] at h
        | ins k' fs =>
          simp only [clsA, q, Option.some.injEq] at h
          subst h
          obtain ⟨ho, h1, h2, h3⟩ := s.m n _ q
          cases ho with
          | ins C dx gs =>
            obtain ⟨⟨e1, hk⟩, e2, e3⟩ := h2
            subst e1
            refine ⟨_, dx, gs, rfl, hk, h1, lookup_no ?_⟩
            rw [e2]
            simpa [noFldA, q] using hm
          | _ => exact h2.elim
  | _ => cases h
def eMeth (k : Nat) (m : Str) (sem : Fn) (f : Ev) (g : Ea) : Ev := fun e M => (f e M).bind fun a M1 => if clsA M1 a == some k && noFldA M1 m a then (g e M1).bind fun as M2 => sem (a :: as) M2 else .bad
theorem se_meth {n k : Nat} {f : Addr} {sem : Fn} {dfl : List Av} {fo : Ev} {g : Ea} {m : Str} {apos pos : Pos} {o e : Expr} {es : List Expr} {pl : Sem Bool} (hK : X.K = Z.K) (hC : ClsFacts Z) (F : Callee Z X n sem dfl f) (hr : Room n X.A) (tk : Takes X W) (hm : Meth X.K (Z.cl k) m f) (ho : SE Z W X o fo) (ha : SA Z W X (e :: es) g)
    (he : starEach (e :: es) X.env = (false, eval e X.env) :: starEach es X.env) (hpl : (backTo pos (starEach es X.env)).any (·.1) = false)
    (ht : eval (.Call (.Attribute o m apos) (e :: es) [] pos) X.env = (do
      let ov ← eval o X.env
      standAt apos.atName
      let (f, first) ← holding [ov] (getMethod ov m pl)
      callWith pos f first (backTo pos (starEach (e :: es) X.env)) (backToKw pos (keywordEach [] X.env)))) : SE Z W X (.Call (.Attribute o m apos) (e :: es) [] pos) (eMeth k m (defl sem dfl) fo g) := by
  obtain ⟨fd, ps, ds, dvs, F1, hb, hd, hf⟩ := F.ex
  refine ⟨fun pins s σ H Q I ⟨c, en, M, a, h⟩ => ?_⟩
  refine PySem.W.methodCall_KW (pl := pl) (thn (ho.run pins s σ H (fun x H1 => ∃ c1 M1 v, Le c c1 ∧ At Z c1 en M1 σ H1 ∧ Rep Z c1 x v ∧ Okk Z W σ c1 (Rep Z) Q (if clsA M1 v == some k && noFldA M1 m v then (g en M1).bind fun as M2 => defl sem dfl (v :: as) M2 else .bad)) I ?_) fun u s1 ⟨x, H1, I1, rx, c1, M1, v, l1, a1, r1, q⟩ => ?_) ht
  · exact step (R1 := Rep Z) a h fun c' x b M' H' l a' r h' => ⟨c', M', b, l, a', r, h'⟩
  · split at q
    · rename_i hz
      simp only [Bool.and_eq_true, beq_iff_eq] at hz
      obtain ⟨p, dx, fs, rfl, hk, q1, q2⟩ := cls_rep a1.s r1 hz.1 hz.2
      obtain rfl : u = Value.ref p := rx
      refine getmeth_ok I1 q1 (by rw [hK]; exact hC.cls k hk) hm q2 ?_
      refine PySem.W.callWith_K (first := [.ref p]) (h₀ := X.base) I.ok.mod.kin hm.kp (thn (ha.run pos pins s1 σ H1 (fun vs H2 => ∃ c2 M2 as, Le c1 c2 ∧ Sim Z c2 M2 H2 ∧ Reps Z c2 vs as ∧ Okk Z W σ c2 (Rep Z) Q (sem ((v :: as) ++ dfl) M2)) I1 ?_) fun us s2 ⟨vs, H2, I2, r, c2, M2, as, l2, s2', rv, q3⟩ => ⟨I2.kIn, ?_⟩) he hpl
      · exact step (R1 := Reps Z) a1 q fun c' x b M' H' l a' r h' => ⟨c', M', b, l, a'.s, r, h'⟩
      · exact run_own (us := .ref p :: us) (vs := .ref p :: vs) (as := v :: as) F1 hr hb hd hf tk I2 (.cons rfl r) s2' (.cons (r1.mono l2) rv) q3
    · exact q.elim
theorem se_meth0 {n k : Nat} {f : Addr} {sem : Fn} {dfl : List Av} {fo : Ev} {m : Str} {apos pos : Pos} {o : Expr} {pl : Sem Bool} (hK : X.K = Z.K) (hC : ClsFacts Z) (F : Callee Z X n sem dfl f) (hr : Room n X.A) (tk : Takes X W) (hm : Meth X.K (Z.cl k) m f) (ho : SE Z W X o fo)
    (ht : eval (.Call (.Attribute o m apos) [] [] pos) X.env = (do
      let ov ← eval o X.env
      standAt apos.atName
      let (f, first) ← holding [ov] (getMethod ov m pl)
      callWith pos f first (backTo pos (starEach [] X.env)) (backToKw pos (keywordEach [] X.env)))) : SE Z W X (.Call (.Attribute o m apos) [] [] pos) (eMeth k m (defl sem dfl) fo aNil) := by
  obtain ⟨fd, ps, ds, dvs, F1, hb, hd, hf⟩ := F.ex
  refine ⟨fun pins s σ H Q I ⟨c, en, M, a, h⟩ => ?_⟩
  refine PySem.W.methodCall_KW (pl := pl) (thn (ho.run pins s σ H (fun x H1 => ∃ c1 M1 v, Le c c1 ∧ At Z c1 en M1 σ H1 ∧ Rep Z c1 x v ∧ Okk Z W σ c1 (Rep Z) Q (if clsA M1 v == some k && noFldA M1 m v then (aNil en M1).bind fun as M2 => defl sem dfl (v :: as) M2 else .bad)) I ?_) fun u s1 ⟨x, H1, I1, rx, c1, M1, v, l1, a1, r1, q⟩ => ?_) ht
  · exact step (R1 := Rep Z) a h fun c' x b M' H' l a' r h' => ⟨c', M', b, l, a', r, h'⟩
  · split at q
    · rename_i hz
      simp only [Bool.and_eq_true, beq_iff_eq] at hz
      obtain ⟨p, dx, fs, rfl, hk, q1, q2⟩ := cls_rep a1.s r1 hz.1 hz.2
      obtain rfl : u = Value.ref p := rx
      refine getmeth_ok I1 q1 (by rw [hK]; exact hC.cls k hk) hm q2 ?_
      exact PySem.W.callWith_K0 (first := [.ref p]) I1.kIn hm.kp (run_own (us := [.ref p]) (vs := [.ref p]) (as := [v]) F1 hr hb hd hf tk I1 (.cons rfl .nil) a1.s (.cons r1 .nil) q)
    · exact q.elim
theorem Sim.extra {c : Rc} {M : Mem} {H : Hp} {p : Addr} {o : HO} (s : Sim Z c M H) (h : H p = none) : Sim Z c M (upd H p o) := by
  refine ⟨fun b u e => ?_, s.l, fun n q e => ?_, s.i⟩
  · rw [upd_ne (ne_of_none (s.g _ _ e) h)]; exact s.g _ _ e
  · obtain ⟨ho, h1, h2, h3⟩ := s.m n q e
    exact ⟨ho, by rw [upd_ne (ne_of_none h1 h)]; exact h1, h2, h3⟩
def newO (k : Nat) (sem : Fn) : Fn := fun as M => (sem (.ref M.length :: as) (M ++ [some (.ins k [])])).bind fun v M2 => match v with
  | .non => if Nat.blt M.length M2.length then .ok (.ref M.length) M2 else .bad
  | _ => .bad
theorem run_new {n k : Nat} {f : Addr} {fd : FuncData} {ps : List Str} {ds : List Value} {dvs : List V} {dfl : List Av} {sem : Fn} {pins : List (Addr × Obj)} {σ : St} {H : Hp} {s : Shared} {Q : VK} {us : List Value} {vs : List V} {as : List Av} {c : Rc} {M : Mem}
    (Mk' : Mk X.K (Z.cl k) f) (hk : Z.has k) (F : FnOk X.prog X.w X.K X.mg X.base (CX X.prog X.w) n f fd ps (spOf Z sem)) (hr : Room (n + 1) X.A) (hb : Binds X.K fd ps ds) (hd : Vals dvs ds) (hf : ∀ c, Reps Z c dvs dfl) (tk : Takes X W)
    (I : Inv X pins σ H s) (r : Vals vs us) (sm : Sim Z c M H) (rv : Reps Z c vs as) (h : Okk Z W σ c (Rep Z) Q (newO k sem (as ++ dfl) M)) : wpAny (model X.prog X.w) X.A (call (.ref (Z.cl k)) us) (EP X pins σ Q) X.xe s := by
  have nx : H (s.heap.objs.size + 1) = none := I.hok.fresh (Nat.le_succ _)
  have nd : H s.heap.objs.size = none := I.hok.fresh (Nat.le_refl _)
  have I2 := Inv.made (C := Z.cl k) I
  have r2 : Vals (V.ref (s.heap.objs.size + 1) :: (vs ++ dvs)) (Value.ref (s.heap.objs.size + 1) :: (us ++ ds)) := .cons rfl (r.append hd)
  have sm1 := sm.extra (o := .own (s.heap.objs.size + 1)) nd
  have nx1 : upd H s.heap.objs.size (HO.own (s.heap.objs.size + 1)) (s.heap.objs.size + 1) = none := by
    rw [upd_ne (Nat.ne_of_gt (Nat.lt_succ_self _))]; exact nx
  have sm2 := sm1.own (ho := .ins (Z.cl k) s.heap.objs.size []) (o := .ins k []) nx1 ⟨⟨rfl, hk⟩, rfl, .nil⟩
  have rx : Rep Z (c.own (s.heap.objs.size + 1)) (.ref (s.heap.objs.size + 1)) (.ref M.length) := by
    have q := Rep.ref (Z := Z) (c := c.own (s.heap.objs.size + 1)) (n := c.L) (Nat.lt_succ_self _)
    rw [own_at, sm.l] at q
    exact q
  have hq : spOf Z sem (.ref (s.heap.objs.size + 1) :: (vs ++ dvs)) (upd (upd H s.heap.objs.size (.own (s.heap.objs.size + 1))) (s.heap.objs.size + 1) (.ins (Z.cl k) s.heap.objs.size [])) (fun v H2 => v = .non ∧ Q (.ref (s.heap.objs.size + 1)) H2) (WE W σ) := by
    refine ⟨_, _, .ref M.length :: (as ++ dfl), sm2, .cons rx ((rv.append (hf c)).mono Le.own), ?_⟩
    unfold newO at h
    cases e : sem (.ref M.length :: (as ++ dfl)) (M ++ [some (.ins k [])]) with
    | bad => rw [e] at h; exact h.elim
    | exc q fs M2 => rw [e] at h; exact fun c' H' d l s' x => h c' H' d (Le.own.trans l) s' x
    | ok v M2 =>
      rw [e] at h
      intro c' x H' l s' rx'
      simp only [Res.bind] at h
      split at h
      · cases rx'
        split at h
        · refine ⟨rfl, h c' _ H' (Le.own.trans l) s' ?_⟩
          have := rx.mono l
          exact this
        · exact h.elim
      · exact h.elim
  have hl : (Value.ref (s.heap.objs.size + 1) :: us ++ ds).length = ps.length := by
    have e := r2.length
    rw [F.len _ _ _ _ hq] at e
    exact e.symm
  refine wpAny_call (make_map (f := f) I.kIn Mk'.makes Mk'.init (beq_iff_eq.mp Mk'.fn) (codeAny_mono (F.run _ X.stack _ _ ⟨Value.ref (s.heap.objs.size + 1) :: us, []⟩ (Value.ref (s.heap.objs.size + 1) :: (us ++ ds)) _ _ (WE W σ) (hr.make (Z.cl k) us [])
    (I2.env0.make (Z.cl k) us []) (hb _ (Value.ref (s.heap.objs.size + 1) :: us) I2.kIn hl) r2 hq) fun r s' hq' => ?_))
  cases r with
  | error e => exact passAt tk σ pins _ _ e s' I2 hq'
  | ok fl =>
    cases fl with
    | ret u =>
      obtain ⟨v, H', I3, rv, ev, q3⟩ := I2.after hq'
      subst ev
      exact ⟨rv, ⟨V.ref (s.heap.objs.size + 1), H', I3, rfl, q3⟩⟩
    | next => exact False.elim hq'
    | brk => exact False.elim hq'
    | cont => exact False.elim hq'
def newF (k : Nat) (sem : Fn) : Fn := fun as M => (newO k sem as M).bind fun v M1 => match M1[M.length]? with
  | some (some (.ins k fs)) => if cutOk M M1 && belows M.length (fs.map (·.2)) then .ok (.obj k (fs.map (·.1)) (fs.map (·.2))) (M1.take M.length) else .ok (.obj k (fs.map (·.1)) (fs.map (·.2))) (M1.set M.length none)
  | _ => .bad
theorem newF_ok {k : Nat} {sem : Fn} {as : List Av} {σ : St} {c : Rc} {Q : VK} {M : Mem} {H : Hp} (s0 : Sim Z c M H) (h : Okk Z W σ c (Rep Z) Q (newF k sem as M)) : Okk Z W σ c (Rep Z) Q (newO k sem as M) := by
  unfold newF at h
  cases e : newO k sem as M with
  | bad => rw [e] at h; exact h
  | exc q fs M2 => rw [e] at h; exact h
  | ok v M2 =>
    rw [e] at h
    have ev : v = .ref M.length := by
      unfold newO at e
      cases e2 : sem (.ref M.length :: as) (M ++ [some (.ins k [])]) with
      | bad => rw [e2] at e; cases e
      | exc q fs M2 => rw [e2] at e; cases e
      | ok v' M3 =>
        rw [e2] at e
        simp only [Res.bind] at e
        split at e
        · split at e
          · cases e; rfl
          · cases e
        · cases e
    subst ev
    intro c' x H' l s' r
    simp only [Res.bind] at h
    split at h
    · rename_i k' fs e5
      obtain ⟨ho, q1, q2, q3⟩ := s'.m _ _ e5
      cases ho with
      | ins C dx gs =>
        obtain ⟨⟨e1, hk⟩, e2, e3⟩ := q2
        subst e1
        have s5 := s'.freeze e5 q1
        have lD : Le c (c'.lay (c'.r M.length) (.ins (Z.cl k') dx gs)) := l.trans (Le.lay q3)
        cases r
        have hz : (fs.map (·.1)).zip (gs.map (·.2)) = gs := by rw [← e2]; exact zip_unzip gs
        have rD : Rep Z (c'.lay (c'.r M.length) (.ins (Z.cl k') dx gs)) (.ref (c'.r M.length)) (.obj k' (fs.map (·.1)) (fs.map (·.2))) := by
          refine Rep.obj (dx := dx) (vs := gs.map (·.2)) hk ?_ ?_ (e3.mono (Le.lay q3))
          · show upd c'.G (c'.r M.length) _ (c'.r M.length) = _
            rw [upd_same, hz]
          · have := congrArg List.length e2; simpa using this.symm
        split at h
        · rename_i hw
          simp only [Bool.and_eq_true] at hw
          have s6 := s0.cutOk s5 (M := M) (cutL_none hw.1)
          have tk : (M2.set M.length none).take M.length = M2.take M.length := by rw [List.take_set_of_le (Nat.le_refl _)]
          rw [tk] at s6
          exact h ((c'.lay (c'.r M.length) (.ins (Z.cl k') dx gs)).cut M.length) _ H' ⟨lD.g, by show c.L ≤ M.length; rw [s0.l]; exact Nat.le_refl _, lD.r⟩ s6 (rD.cut (by simp only [below]; exact hw.2))
        · exact h _ _ H' lD s5 rD
      | _ => exact q2.elim
    · exact h.elim
structure Maker (Z : Sc) (X : Cx) (n : Nat) (k : Nat) (sem : Fn) (dfl : List Av) : Prop where
  ex : ∃ (f : Addr) (fd : FuncData) (ps : List Str) (ds : List Value) (dvs : List V), Mk X.K (Z.cl k) f ∧ FnOk X.prog X.w X.K X.mg X.base (CX X.prog X.w) n f fd ps (spOf Z sem) ∧ Binds X.K fd ps ds ∧ Vals dvs ds ∧ ∀ c, Reps Z c dvs dfl
  hk : Z.has k
theorem se_new {n k : Nat} {sem : Fn} {dfl : List Av} {g : Ea} {x : Str} {p pos : Pos} {e : Expr} {es : List Expr} (F : Maker Z X n k sem dfl) (hr : Room (n + 1) X.A) (tk : Takes X W) (hg : Gl X x) (hm : X.mg x = some (.ref (Z.cl k))) (ha : SA Z W X (e :: es) g)
    (hdb : (x == ("__debug__" : Str)) = false) (he : starEach (e :: es) X.env = (false, eval e X.env) :: starEach es X.env) (hpl : (backTo pos (starEach es X.env)).any (·.1) = false) (fz : Bool) :
    SE Z W X (.Call (.Name x p) (e :: es) [] pos) (eCallB (defl (if fz then newF k sem else newO k sem) dfl) g) := by
  obtain ⟨f, fd, ps, ds, dvs, Mk', F1, hb, hd, hf⟩ := F.ex
  refine ⟨fun pins s σ H Q I ⟨c, en, M, a, h⟩ => ?_⟩
  refine wpAny_Call_Name_kw (ld_glob I hg hm ?_ hdb)
  refine PySem.W.callWith_K (h₀ := X.base) I.ok.mod.kin Mk'.kp (thn (ha.run pos pins s σ H (fun vs H1 => ∃ c1 M1 as, Le c c1 ∧ Sim Z c1 M1 H1 ∧ Reps Z c1 vs as ∧ Okk Z W σ c1 (Rep Z) Q (newO k sem (as ++ dfl) M1)) I ?_) fun us s1 ⟨vs, H1, I1, r, c1, M1, as, l1, s1', rv, q⟩ => ⟨I1.kIn, ?_⟩) he hpl
  · refine step (R1 := Reps Z) a h fun c' x b M' H' l a' r h' => ⟨c', M', b, l, a'.s, r, ?_⟩
    cases fz with
    | true => exact newF_ok a'.s h'
    | false => exact h'
  · exact run_new Mk' F.hk F1 hr hb hd hf tk I1 r s1' rv q
theorem se_new0 {n k : Nat} {sem : Fn} {dfl : List Av} {x : Str} {p pos : Pos} (F : Maker Z X n k sem dfl) (hr : Room (n + 1) X.A) (tk : Takes X W) (hg : Gl X x) (hm : X.mg x = some (.ref (Z.cl k))) (hdb : (x == ("__debug__" : Str)) = false) (fz : Bool) :
    SE Z W X (.Call (.Name x p) [] [] pos) (eCallB (defl (if fz then newF k sem else newO k sem) dfl) aNil) := by
  obtain ⟨f, fd, ps, ds, dvs, Mk', F1, hb, hd, hf⟩ := F.ex
  refine ⟨fun pins s σ H Q I ⟨c, en, M, a, h⟩ => ?_⟩
  refine wpAny_Call_Name_kw (ld_glob I hg hm ?_ hdb)
  have h : Okk Z W σ c (Rep Z) Q (newO k sem ([] ++ dfl) M) := by
    cases fz with
    | true => exact newF_ok a.s h
    | false => exact h
  exact PySem.W.callWith_K0 I.kIn Mk'.kp (run_new (us := []) (vs := []) (as := []) Mk' F.hk F1 hr hb hd hf tk I .nil a.s .nil h)
def finF (M0 : Mem) (v : Av) (M : Mem) : Res Av := if Nat.beq M.length M0.length then .ok v M else if below M0.length v && cutOk M0 M then .ok v (M.take M0.length) else .ok v M
def runF (np : Nat) (N : Nat) (body : Es) : Fn := fun as M => if Nat.beq as.length np then (match body (as.map some ++ List.replicate (N - np) none) M with
  | .nx _ M1 => finF M .non M1
  | .rt v M1 => finF M v M1
  | .exc k fs _ M1 => if belows M.length (fs.map (·.2)) && cutOk M M1 then .exc k fs (M1.take M.length) else .exc k fs M1
  | _ => .bad) else .bad
theorem envR_start {c : Rc} {N : List Str} {vs : List V} {as : List Av} (r : Reps Z c vs as) : EnvR Z c (as.map some ++ List.replicate (N.length - as.length) none) (L2.start N vs) := by
  have hl := r.length
  refine ⟨by unfold L2.start; simp [hl], fun i x h => ?_⟩
  unfold L2.start
  by_cases hi : i < as.length
  · rw [List.getElem?_append_left (by simpa using hi), List.getElem?_map] at h
    cases q : as[i]? with
    | none => rw [q] at h; cases h
    | some a =>
      rw [q] at h
      simp only [Option.map_some, Option.some.injEq] at h
      subst h
      obtain ⟨v, e1, e2⟩ := r.get q
      refine ⟨v, ?_, e2⟩
      rw [List.getElem?_append_left (by simpa [hl] using hi), List.getElem?_map, e1]
      rfl
  · rw [List.getElem?_append_right (by simpa using hi), List.getElem?_replicate] at h
    split at h <;> cases h
theorem fin_ok {c c' : Rc} {M M1 : Mem} {H : Hp} {Q : VK} {E : XK} {v : Av} {x : V} (l : Le c c') {H0 : Hp} (s0 : Sim Z c M H0) (s : Sim Z c' M1 H) (r : Rep Z c' x v) (h : Okk Z (fun cls d _ H => E cls d H) [] c (Rep Z) Q (finF M v M1)) : Q x H := by
  unfold finF at h
  split at h
  · exact h c' x H l s r
  split at h
  · rename_i hz
    simp only [Bool.and_eq_true] at hz
    exact h (c'.cut M.length) x H ⟨l.g, by show c.L ≤ M.length; rw [s0.l]; exact Nat.le_refl _, l.r⟩ (s0.cutOk s hz.2) (r.cut hz.1)
  · exact h c' x H l s r
theorem fn_body {P : Program} {w : World} {K : PySem.W.Frag} {mg : Str → Option Value} {base : Heap} {k : Nat} {f : Addr} {fd : FuncData} {x qual : Str} {params : Arguments} {body : List Stmt} {scope : Scope} {dvs : List V} {kws : List (Str × V)} {N ps : List Str} {fb : Es}
    (F : FunD K x qual params body scope dvs kws f fd) (S : FnScope N ps scope)
    (hb : ∀ (cdv : Value) (A : Around) (outer : List PySem.Env) (s : Shared) (H : Hp) (E : XK), Room k (A.deeper (PyProof.Rows.envOfC qual scope s.heap.objs.size f cdv)) → SSs Z (fun cls d _ H => E cls d H) (cxOf (CX P w) P w K mg base N qual scope f cdv A outer s H E) body fb) :
    FnOk P w K mg base (CX P w) (k + 1) f fd ps (spOf Z (runF ps.length N.length fb)) := by
  refine F.ok S (fun vs H Q E h => ?_) fun cdv A outer s H vs Q E hr h => ⟨_, hb cdv A outer s H E hr, ?_⟩
  · obtain ⟨c, M, as, _, r, h⟩ := h
    unfold runF at h
    split at h
    · rename_i hz
      rw [r.length]; exact Nat.eq_of_beq_eq_true hz
    · exact h.elim
  · obtain ⟨c, M, as, sm, r, h⟩ := h
    unfold runF at h
    split at h
    · rename_i hz
      have hz := Nat.eq_of_beq_eq_true hz
      refine ⟨c, as.map some ++ List.replicate (N.length - as.length) none, M, ⟨sm, envR_start r⟩, ?_⟩
      rw [hz]
      cases e : fb (as.map some ++ List.replicate (N.length - ps.length) none) M with
      | nx e1 M1 => rw [e] at h; exact fun c' σ H' l a => fin_ok l sm a.s .non h
      | rt v M1 => rw [e] at h; exact fun c' x H' l a rx => fin_ok l sm a rx h
      | bk e1 M1 => rw [e] at h; exact h.elim
      | ct e1 M1 => rw [e] at h; exact h.elim
      | bad => rw [e] at h; exact h.elim
      | exc q fs e1 M1 =>
        rw [e] at h
        intro c' σ H' d l a x
        simp only at h
        split at h
        · rename_i hw
          simp only [Bool.and_eq_true] at hw
          refine h (c'.cut M.length) H' d ⟨l.g, by show c.L ≤ M.length; rw [sm.l]; exact Nat.le_refl _, l.r⟩ (sm.cutOk a.s hw.2) ?_
          rcases x with x | ⟨p, gs, e1, e2, e3, e4⟩
          · exact .inl x
          · exact .inr ⟨p, gs, e1, e2, e3, e4.cut hw.1⟩
        · exact h c' H' d l a.s x
    · exact h.elim
end
end Pd
set_option maxHeartbeats 4000000
namespace Pd
open PySem PySem.Spec PyProof.Rows L2
def kOf (e : Int × Value) : Key := match e.2 with
  | .int k _ => .inl k
  | .str x _ => .inr x
  | _ => .inl 0
def memK (ks : List Key) (j : Key) : Bool := ks.any fun k => decide (k = j)
theorem memK_iff {ks : List Key} {j : Key} : memK ks j = true ↔ j ∈ ks := by
  simp [memK, List.any_eq_true]
def GoodK (w : World) (e : Int × Value) : Prop := ∃ k : Key, keyIs k e.2 = true ∧ e.1 = keyH w k
def SetG (w : World) (h : Heap) (a : Addr) (S : Key → Bool) (n : Nat) : Prop :=
  ∃ o es ep t, h.get? a = some o ∧ o.ExactSet ∧ o.data = .set es ep t ∧ (∀ e ∈ es.toList, GoodK w e) ∧ (es.toList.map kOf).Nodup ∧ (∀ k, S k = true ↔ k ∈ es.toList.map kOf) ∧
    es.size < scanBound ∧ t.fits es.size = true ∧ es.size = n ∧ Ris t.place.toList ∧ (w.params.followText "set-order" = true ∨ t.led = true)
theorem kOf_is {k : Key} {v : Value} {i : Int} (h : keyIs k v = true) : kOf (i, v) = k := by
  rcases keyIs_shape h with ⟨j, t, rfl, rfl⟩ | ⟨x, t, rfl, rfl⟩ <;> rfl
section
variable {P : Program} {w : World} {h h' : Heap} {a : Addr} {S : Key → Bool} {n : Nat}
theorem SetG.at (R : SetG w h a S n) (k : ∀ o, h.get? a = some o → h'.get? a = some o) : SetG w h' a S n := by
  obtain ⟨o, es, ep, t, ho, r⟩ := R
  exact ⟨o, es, ep, t, k o ho, r⟩
theorem SetG.congr {S' : Key → Bool} (R : SetG w h a S n) (e : ∀ k, S' k = S k) : SetG w h a S' n := by
  rw [show S' = S from funext e]; exact R
theorem goodK_scan {e : Int × Value} (g : GoodK w e) : e.2.scannable = true := by
  obtain ⟨k, h1, _⟩ := g
  rcases keyIs_shape h1 with ⟨j, t, _, q⟩ | ⟨x, t, _, q⟩ <;> rw [q] <;> rfl
theorem goodK_elems {l : List (Int × Value)} (g : ∀ e ∈ l, GoodK w e) : ElemsOf (mixKind P w) l := fun e he =>
  ⟨g e he, goodK_scan (g e he)⟩
theorem goodK_is {e : Int × Value} (g : GoodK w e) (k : Key) : (mixKind P w).is k e.2 = true ↔ kOf e = k := by
  obtain ⟨k0, h1, _⟩ := g
  have e0 : kOf e = k0 := by obtain ⟨i, v⟩ := e; exact kOf_is h1
  rw [e0]
  refine ⟨fun q => (mixKind P w).inj e.2 k0 k h1 q, fun q => ?_⟩
  rw [← q]; exact h1
theorem goodK_mem {l : List (Int × Value)} (g : ∀ e ∈ l, GoodK w e) (k : Key) : k ∈ l.map kOf ↔ ∃ e ∈ l, (mixKind P w).is k e.2 = true := by
  rw [List.mem_map]
  exact ⟨fun ⟨e, he, q⟩ => ⟨e, he, (goodK_is (g e he) k).2 q⟩, fun ⟨e, he, q⟩ => ⟨e, he, (goodK_is (g e he) k).1 q⟩⟩
end
section
variable {P : Program} {w : World} {A : Around} {E : Value → Shared → Prop} {s : Shared} {a : Addr} {S : Key → Bool} {n : Nat}
theorem setG_tail {g : Bool → Sem Unit} (hg : ∀ (b : Bool) (u : Shared) (Q' : Unit → Shared → Prop), Q' () u → wpAny (model P w) A (g b) Q' E u)
    {o : Obj} {es : Array (Int × Value)} {ep : Nat} {t : SetTable} (ho : s.heap.get? a = some o) (hex : o.ExactSet) (hd : o.data = .set es ep t)
    {fs : Array (Int × Value)} {t2 : SetTable} {S' : Key → Bool} (g1 : ∀ e ∈ fs.toList, GoodK w e) (nd1 : (fs.toList.map kOf).Nodup) (m1 : ∀ k, S' k = true ↔ k ∈ fs.toList.map kOf)
    (hb1 : fs.size < scanBound) (hf2 : t2.fits fs.size = true) (hr : Ris t2.place.toList) (hl : w.params.followText "set-order" = true ∨ t2.led = true) {dm : Bool} {R : Option Bool → Shared → Prop}
    (hR : ∀ h', Heap.SameBut a s.heap h' → SetG w h' a S' fs.size → R (some true) { s with heap := h' }) :
    wpAny (model P w) A (do
        storeSet a fs t2
        if (!dm && t2.tooFull) = true then do
            g (relayAll t2 fs (SetTable.grown fs.size)).2.2
            storeSet a (relayAll t2 fs (SetTable.grown fs.size)).1 (relayAll t2 fs (SetTable.grown fs.size)).2.1
            pure (some true)
          else pure (some true)) R E s := by
  refine wpAny_bind (wpAny_storeSet_of ho hd ?_ (fits_of_scanBound hb1))
  have o1 := store_at (es' := fs) (t' := t2) ho hd
  have b1 := Heap.SameBut.update s.heap a (Obj.putSet fs t2)
  split
  · have pm := relayAll_perm t2 fs (SetTable.grown fs.size)
    have f3 := relayAll_fits t2 fs (SetTable.grown fs.size)
    have r3 := relayAll_ris t2 fs (SetTable.grown fs.size)
    have l3 := relayAll_led t2 fs (SetTable.grown fs.size)
    generalize relayAll t2 fs (SetTable.grown fs.size) = zz at pm f3 r3 l3 ⊢
    obtain ⟨es2, t3, gave⟩ := zz
    dsimp only at pm f3 r3 l3 ⊢
    have sz : es2.size = fs.size := by rw [← Array.length_toList, pm.length_eq, Array.length_toList]
    have b2 : es2.size < scanBound := by rw [sz]; exact hb1
    refine wpAny_bind (hg _ _ _ (wpAny_bind (wpAny_storeSet_of o1 rfl ?_ (fits_of_scanBound b2))))
    have o2 := store_at (es' := es2) (t' := t3) o1 rfl
    exact wpAny_pure (hR _ (b1.trans (Heap.SameBut.update _ a _)) ⟨_, es2, _, t3, o2, hex, rfl, fun e he => g1 e (pm.mem_iff.mp he), (pm.map kOf).nodup_iff.mpr nd1, fun k => (m1 k).trans (pm.map kOf).mem_iff.symm, b2, f3, sz, r3, hl.imp id fun z => by rw [l3]; exact z⟩)
  · exact wpAny_pure (hR _ b1 ⟨_, fs, _, t2, o1, hex, rfl, g1, nd1, m1, hb1, hf2, rfl, hr, hl⟩)
theorem setG_add {k : Key} {v : Value} {Q : Bool → Shared → Prop} (hv : keyIs k v = true) (R : SetG w s.heap a S n) (room : n + 1 < scanBound)
    (hQ : ∀ h', Heap.SameBut a s.heap h' → SetG w h' a (fun j => S j || decide (j = k)) (if S k = true then n else n + 1) → Q (!S k) { s with heap := h' }) :
    wpAny (model P w) A (setAddHashed a v ((mixKind P w).hash k)) Q E s := by
  obtain ⟨o, es, ep, t, ho, hex, hd, g, nd, hm, hb, hf, hn, hr, hl⟩ := R
  have hkey : (mixKind P w).is k v = true := hv
  have hsc : v.scannable = true := goodK_scan (w := w) (e := (keyH w k, v)) ⟨k, hv, rfl⟩
  have hel : ElemsOf (mixKind P w) es.toList := goodK_elems g
  unfold setAddHashed setAddHashedIn
  refine wpAny_holding (wpAny_bind (wpAny_setState_of ho hd hf ?_))
  dsimp only
  rw [byScan_of hsc hb hel]
  simp only [↓reduceIte]
  unfold setAddByScan
  refine wpAny_bind (wpAny_bind (wpAny_rule (wpAny_bind (wpAny_setScan_of hkey ho hd hf hel ?_))))
  cases hfi : List.findIdx? (fun e => (mixKind P w).is k e.2) es.toList with
  | some j =>
    dsimp only
    obtain ⟨hj, pj, _⟩ := List.findIdx?_eq_some_iff_getElem.mp hfi
    have hSk : S k = true := (hm k).2 ((goodK_mem (P := P) (w := w) g k).2 ⟨es.toList[j], List.getElem_mem hj, pj⟩)
    have q := hQ s.heap (Heap.SameBut.refl a s.heap) ⟨o, es, ep, t, ho, hex, hd, g, nd, fun i => by
      rw [Bool.or_eq_true, decide_eq_true_eq, ← hm i]
      exact ⟨fun z => z.elim id (fun e => e ▸ hSk), .inl⟩, hb, hf, by rw [if_pos hSk]; exact hn, hr, hl⟩
    rw [hSk] at q
    exact wpAny_pure (wpAny_pure q)
  | none =>
    dsimp only
    have hnk : k ∉ es.toList.map kOf := fun z => by
      obtain ⟨e, he, q⟩ := (goodK_mem (P := P) (w := w) g k).1 z
      have c := List.findIdx?_eq_none_iff.mp hfi e he
      rw [q] at c
      cases c
    have hSk : S k = false := by
      cases q : S k with
      | false => rfl
      | true => exact absurd ((hm k).1 q) hnk
    have hgw : ∀ (b : Bool) {u : Shared} {Q' : Unit → Shared → Prop}, Q' () u → wpAny (model P w) A (match b with | true => rule "set.scan.the-table-gave-way" | false => pure ()) Q' E u :=
      fun b u Q' q => by cases b <;> first | exact wpAny_pure q | exact wpAny_rule q
    have pm := layNew_perm t es ((mixKind P w).hash k) v
    have f1 := layNew_fits t es ((mixKind P w).hash k) v
    have r1 := layNew_ris t es ((mixKind P w).hash k) v hr
    have l1 := layNew_led t es ((mixKind P w).hash k) v
    generalize layNew t es ((mixKind P w).hash k) v = zz at pm f1 r1 l1 ⊢
    obtain ⟨fs, t1, dm, gave⟩ := zz
    dsimp only at pm f1 r1 l1 ⊢
    rw [Array.toList_push] at pm
    have pc : fs.toList.Perm (((mixKind P w).hash k, v) :: es.toList) := pm.trans (List.perm_append_singleton _ _)
    have pk : (fs.toList.map kOf).Perm (k :: es.toList.map kOf) := by
      have z := pc.map kOf
      rw [List.map_cons, kOf_is hv] at z
      exact z
    have g1 : ∀ e ∈ fs.toList, GoodK w e := fun e he => by
      rcases List.mem_cons.mp (pc.mem_iff.mp he) with z | z
      · rw [z]; exact ⟨k, hv, rfl⟩
      · exact g e z
    have nd1 : (fs.toList.map kOf).Nodup := pk.nodup_iff.mpr (List.nodup_cons.mpr ⟨hnk, nd⟩)
    have m1 : ∀ i, (S i || decide (i = k)) = true ↔ i ∈ fs.toList.map kOf := fun i => by
      rw [Bool.or_eq_true, decide_eq_true_eq, hm i, pk.mem_iff, List.mem_cons]
      exact Or.comm
    have sz : fs.size = n + 1 := by rw [← Array.length_toList, pc.length_eq, List.length_cons, Array.length_toList, hn]
    have b1 : fs.size < scanBound := by rw [sz]; exact room
    have led : w.params.followText "set-order" = true ∨ t1.led = true := hl.imp id fun z => by rw [l1]; exact z
    have fin : ∀ h', Heap.SameBut a s.heap h' → SetG w h' a (fun j => S j || decide (j = k)) fs.size → Q true { s with heap := h' } := fun h' sb r => by
      have q := hQ h' sb
      rw [hSk] at q
      rw [sz] at r
      exact q r
    refine wpAny_bind (hgw _ ?_)
    split
    · refine wpAny_bind ?_
      rw [hashByValue_scannable 8 hsc]
      refine wpAny_pure ?_
      refine setG_tail ?_ ho hex hd g1 nd1 m1 b1 ?_ ?_ ?_ ?_
      · intro b u Q' q; cases b <;> first | exact wpAny_pure q | exact wpAny_rule q
      · first | (split <;> first | exact f1 | exact SetTable.fits_plain_off f1) | exact f1
      · first | (split <;> exact r1) | exact r1
      · first | (split <;> exact led) | exact led
      · intro h' sb r; dsimp only; exact wpAny_pure (fin h' sb r)
    · refine wpAny_bind (wpAny_pure ?_)
      simp only [↓reduceIte]
      refine setG_tail ?_ ho hex hd g1 nd1 m1 b1 f1 r1 led ?_
      · intro b u Q' q; cases b <;> first | exact wpAny_pure q | exact wpAny_rule q
      · intro h' sb r; dsimp only; exact wpAny_pure (fin h' sb r)
end
abbrev freshSet (w : World) : Obj := { cls := .type "set", dict := none, data := .set #[] 0 (.fresh 0 0 (!w.params.followText "set-order")) }
theorem setG_fresh {w : World} {h : Heap} {a : Addr} {S : Key → Bool} (hS : ∀ k, S k = false) (ho : h.get? a = some (freshSet w)) : SetG w h a S 0 :=
  ⟨_, #[], 0, _, ho, ⟨rfl, rfl, rfl⟩, rfl, (fun e he => by simp at he), (by simp), (fun k => by simp [hS k]), (by decide), (by rfl), rfl, List.Pairwise.nil, by
    show _ ∨ (!w.params.followText "set-order") = true
    cases w.params.followText "set-order" <;> simp⟩
section
variable {P : Program} {w : World} {A : Around} {E : Value → Shared → Prop} {s : Shared}
theorem setG_loop {I : Addr} {fp wr : List Addr} {G : Array GenState → Array GenState → Prop} {n : Nat} {Pv : Nat → Value → Prop} {St : Nat → Shared → Prop} {R : Result → Shared → Prop}
    (W : WalksS P w A.in1 I fp wr G n Pv St) (S : Addr) (hSf : S ∉ fp) (ks : List Key) (hn : n = ks.length) (hb : ks.length + 1 < scanBound) (hval : ∀ i v, Pv i v → ∃ k, ks[i]? = some k ∧ keyIs k v = true) :
    ∀ (m i : Nat) (s : Shared), n - i = m → i ≤ n → St i s → (∃ c, c ≤ i ∧ SetG w s.heap S (memK (ks.take i)) c) →
      (∀ s' c, Moved (S :: wr) G s s' → c ≤ n → SetG w s'.heap S (memK ks) c → R (.ok (.ret .none)) s') →
      codeAny (model P w) A (.builtin "set.update.loop" ⟨[.ref S, .ref I], []⟩) R s := by
  have hSw : S ∉ wr := fun h => hSf (W.sub _ h)
  have sub : ∀ b ∈ wr, b ∈ S :: wr := fun b hb => List.mem_cons_of_mem _ hb
  intro m
  induction m with
  | zero =>
    intro i s hk' hi hst ⟨c, hc, hS⟩ hR
    have hin : i = n := by omega
    subst hin
    refine codeAny_builtin F.entry_set_update_loop ?_
    rw [Around.under_plainId F.plain_set_update_loop _]
    show wpAny _ A.in1 (pyNext (.ref I) >>= _) _ _ s
    refine wpAny_bind (W.done s _ _ hst fun s' hm => ?_)
    show wpAny _ A.in1 (ret Value.none) _ _ s'
    rw [List.take_of_length_le (by omega)] at hS
    exact wpAny_pure (hR s' c (hm.mono sub) hc (hS.at fun o e => hm.heap S o hSw e))
  | succ m ih =>
    intro i s hk' hi hst ⟨c, hc, hS⟩ hR
    have hlt : i < n := by omega
    refine codeAny_builtin F.entry_set_update_loop ?_
    rw [Around.under_plainId F.plain_set_update_loop _]
    show wpAny _ A.in1 (pyNext (.ref I) >>= _) _ _ s
    refine wpAny_bind (W.item i s _ _ hlt hst fun v s' hP hst' hm => ?_)
    obtain ⟨z, hz, hv⟩ := hval i v hP
    have hS' : SetG w s'.heap S (memK (ks.take i)) c := hS.at fun o e => hm.heap S o hSw e
    show wpAny _ A.in1 (holding [v] (setAdd S v) >>= _) _ _ s'
    refine wpAny_bind (wpAny_holding ?_)
    unfold setAdd
    refine wpAny_holding ?_
    refine wpAny_bind ((mixKind P w).pyHash (k := z) hv ?_)
    refine setG_add (s := { s' with toks := s'.toks + 1 }) hv hS' (by omega) fun h' hsb hS2 => ?_
    have hS3 : SetG w h' S (memK (ks.take (i + 1))) (if memK (ks.take i) z = true then c else c + 1) := hS2.congr fun j => by
      rw [List.take_add_one, hz]
      simp only [memK, List.any_append, Option.toList_some, List.any_cons, List.any_nil, Bool.or_false]
      rw [show decide (z = j) = decide (j = z) from decide_eq_decide.mpr eq_comm]
    have hc3 : (if memK (ks.take i) z = true then c else c + 1) ≤ i + 1 := by
      split <;> omega
    refine wpAny_pure ⟨plainId_quiet F.plain_set_update_loop _, ih (i + 1) _ (by omega) hlt (W.frame _ s' _ _ hst' (Nat.le_succ _) fun b hb o e => ?_) ⟨_, hc3, hS3⟩ fun s'' c2 hm'' hc'' hS'' => ?_⟩
    · rw [hsb.2 b (fun h : b = S => hSf (by rw [← h]; exact hb))]; exact e
    · refine hR s'' c2 (Moved.trans W.gtrans ((hm.mono sub).then_heap (Nat.le_succ _) fun b o hb e => ?_) hm'') hc'' hS''
      rw [hsb.2 b (fun h : b = S => hb (by rw [h]; exact List.mem_cons_self))]; exact e
theorem call_setG {l : Addr} {items : Array Value} (ks : List Key) {Q : Value → Shared → Prop} (hh : A.handled = none) (hl : s.heap.IsList l items) (hit : Paired (fun (k : Key) v => keyIs k v = true) ks items.toList) (hb : ks.length + 1 < scanBound)
    (h : ∀ (h' : Heap) (tk c : Nat), SetG w h' s.heap.objs.size (memK ks) c → c ≤ ks.length → (∀ b o, s.heap.get? b = some o → h'.get? b = some o) → Q (.ref s.heap.objs.size) { s with heap := h', toks := tk }) :
    wpAny (model P w) A (call (.type "set") [.ref l]) Q E s := by
  have hisz : items.size = ks.length := by
    have q := Paired.length hit
    rw [Array.length_toList] at q
    exact q.symm
  obtain ⟨c, tl, hmro⟩ := F.called_set.mro
  have hmade := F.called_set.made
  have hsub := F.called_set.sub
  refine wpAny_call (codeAny_of_tree ?_)
  show wpAny _ _ (callAny (.type "set") _) _ _ _
  refine wpAny_pure ⟨Code.quiet_builtin _ (by decide +kernel), codeAny_builtin F.entry_type_call ?_⟩
  rw [Around.under_plain (weight_type_call_type "set" [.ref l] []) rfl]
  have h1 := F.called_set.notType
  have h2 := F.called_set.canCreate
  have hct := F.typeCall_set_1 (.ref l)
  repeat (any_goals (first | assumption | wp_step))
  refine codeAny_mono (code_set_led1 (.ref l) (E := E) (Q₁ := fun obj u => obj = .ref s.heap.objs.size ∧ u = { s with heap := s.heap.push (freshSet w) }) ⟨rfl, rfl⟩) fun r u hr => ?_
  cases r with
  | error e => exact hr
  | ok fl =>
    cases fl with
    | ret obj =>
      obtain ⟨rfl, rfl⟩ := hr
      have hS : (s.heap.push (freshSet w)).get? s.heap.objs.size = some (freshSet w) := Heap.get?_push_size _ rfl
      have hT : Shared.TypeIs { s with heap := s.heap.push (freshSet w) } (.ref s.heap.objs.size) "set" := ⟨_, hS, rfl⟩
      have hli := F.called_set.init.lookup
      have hbi := F.called_set.init.bind (.ref s.heap.objs.size)
      repeat (any_goals (first | assumption | wp_step))
      refine codeAny_mono (codeAny_call_builtin (R := wants (fun r u => r = .none ∧ ∃ h' tk c, u = { s with heap := h', toks := tk } ∧ SetG w h' s.heap.objs.size (memK ks) c ∧ c ≤ ks.length ∧
          (∀ b o, s.heap.get? b = some o → h'.get? b = some o)) E) F.called_set.init.plain F.entry_set_init (check_set_init_1 hT ?_)) fun r2 u2 hr2 => ?_
      · obtain ⟨ol, hol, hcl, nl, hdl⟩ := hl
        obtain ⟨ocls, odict, odata, oslots⟩ := ol
        simp only at hcl hdl
        subst hcl; subst hdl
        have hol' : (s.heap.push (freshSet w)).get? l = some { cls := .type "list", dict := odict, data := .seq items nl, slots := oslots } := Heap.get?_push_of_some _ hol
        have hsls := F.sub_list_set
        have hslf := F.sub_list_frozenset
        have hne : (Value.type "list" == Value.type "dict") = false := by decide
        have hl1 : (s.heap.push (freshSet w)).IsList l items := ⟨_, hol', rfl, nl, rfl⟩
        unfold Builtin.«set.__init__» noKeywords Builtin.Frozenset.updateFrom
        generalize hPI : pyIter = PI
        wp_walk
        subst hPI
        refine wpAny_pyIter_list hl1 ?_
        refine wpAny_bind (wpAny_runValue ?_)
        have hlS : l < s.heap.objs.size := Heap.lt_size hol
        have hh3 : A.in1.in1.in1.handled = none := by simp [hh]
        have hneI : l ≠ (s.heap.push (freshSet w)).objs.size := by
          rw [Heap.size_push]; exact Nat.ne_of_lt (Nat.lt_succ_of_lt hlS)
        have hSf : s.heap.objs.size ∉ [(s.heap.push (freshSet w)).objs.size, l] := by
          rw [Heap.size_push]; simp only [List.mem_cons, List.mem_singleton, List.not_mem_nil, or_false, not_or]
          exact ⟨Nat.ne_of_lt (Nat.lt_succ_self _), Nat.ne_of_gt hlS⟩
        have hval : ∀ (i : Nat) (v : Value), items[i]? = some v → ∃ k, ks[i]? = some k ∧ keyIs k v = true := fun i v hv => by
          have : ∀ {ks : List Key} {vs : List Value} {i : Nat} {v : Value}, Paired (fun (k : Key) v => keyIs k v = true) ks vs → vs[i]? = some v → ∃ k, ks[i]? = some k ∧ keyIs k v = true := by
            intro ks vs i v hp
            induction hp generalizing i with
            | nil => intro e; simp at e
            | cons r _ ih => intro e; cases i with
              | zero => simp at e; subst e; exact ⟨_, rfl, r⟩
              | succ i => simp at e; obtain ⟨k, q1, q2⟩ := ih e; exact ⟨k, by simpa using q1, q2⟩
          exact this hit (by rw [Array.getElem?_toList]; exact hv)
        refine setG_loop ((Walks.list hh3 _ l hneI items).toS) s.heap.objs.size
          hSf ks hisz hb hval (items.size - 0) 0 _ (by omega) (Nat.zero_le _)
          ⟨⟨_, Heap.get?_push_size _ rfl, rfl, rfl⟩, (hl1.push _)⟩ ?hS0 ?hR
        case hS0 =>
          exact ⟨0, Nat.le_refl 0, setG_fresh (fun k => by simp [memK]) (Heap.get?_push_of_some _ hS)⟩
        case hR =>
          intro s' c' hm hc' hS'
          obtain ⟨h', g2, d', tk', os'⟩ := s'
          have eg : g2 = s.gens := hm.gens
          have ed : d' = s.drawn := hm.drawn
          have eo : os' = s.os := hm.os
          subst eg; subst ed; subst eo
          show wpAny _ _ _ _ _ _
          refine wpAny_pure ?_
          show wpAny _ _ (ret Value.none) _ _ _
          rw [hisz] at hc'
          refine wpAny_pure ⟨rfl, h', tk', c', rfl, hS', hc', fun b o e => ?_⟩
          have b0 : b < s.heap.objs.size := Heap.lt_size e
          have b2 : b ≠ (s.heap.push (freshSet w)).objs.size := by
            rw [Heap.size_push]; exact Nat.ne_of_lt (Nat.lt_succ_of_lt b0)
          exact hm.heap b o (by simp only [List.mem_cons, List.mem_singleton, List.not_mem_nil, or_false, not_or]; exact ⟨Nat.ne_of_lt b0, b2⟩) (Heap.get?_push_of_some _ (Heap.get?_push_of_some _ e))
      · cases r2 with
        | error e => exact hr2
        | ok fl2 =>
          cases fl2 with
          | ret r =>
            obtain ⟨rfl, h', tk, c', rfl, hS', hc', hk'⟩ := hr2
            repeat (any_goals (first | assumption | wp_step))
            exact h _ _ _ hS' hc' hk'
          | _ => exact hr2.elim
    | _ => exact hr.elim
end
end Pd
set_option maxHeartbeats 4000000
namespace Pd
open PySem PySem.Spec PyProof.Rows L2
section
variable {P : Program} {w : World} {A : Around} {E : Value → Shared → Prop} {s : Shared}
theorem call_setGT {l : Addr} {items : Array Value} (ks : List Key) {Q : Value → Shared → Prop} (hh : A.handled = none) (hl : s.heap.IsTuple l items) (hit : Paired (fun (k : Key) v => keyIs k v = true) ks items.toList) (hb : ks.length + 1 < scanBound)
    (h : ∀ (h' : Heap) (tk c : Nat), SetG w h' s.heap.objs.size (memK ks) c → c ≤ ks.length → (∀ b o, s.heap.get? b = some o → h'.get? b = some o) → Q (.ref s.heap.objs.size) { s with heap := h', toks := tk }) :
    wpAny (model P w) A (call (.type "set") [.ref l]) Q E s := by
  have hisz : items.size = ks.length := by
    have q := Paired.length hit
    rw [Array.length_toList] at q
    exact q.symm
  obtain ⟨c, tl, hmro⟩ := F.called_set.mro
  have hmade := F.called_set.made
  have hsub := F.called_set.sub
  refine wpAny_call (codeAny_of_tree ?_)
  show wpAny _ _ (callAny (.type "set") _) _ _ _
  refine wpAny_pure ⟨Code.quiet_builtin _ (by decide +kernel), codeAny_builtin F.entry_type_call ?_⟩
  rw [Around.under_plain (weight_type_call_type "set" [.ref l] []) rfl]
  have h1 := F.called_set.notType
  have h2 := F.called_set.canCreate
  have hct := F.typeCall_set_1 (.ref l)
  repeat (any_goals (first | assumption | wp_step))
  refine codeAny_mono (code_set_led1 (.ref l) (E := E) (Q₁ := fun obj u => obj = .ref s.heap.objs.size ∧ u = { s with heap := s.heap.push (freshSet w) }) ⟨rfl, rfl⟩) fun r u hr => ?_
  cases r with
  | error e => exact hr
  | ok fl =>
    cases fl with
    | ret obj =>
      obtain ⟨rfl, rfl⟩ := hr
      have hS : (s.heap.push (freshSet w)).get? s.heap.objs.size = some (freshSet w) := Heap.get?_push_size _ rfl
      have hT : Shared.TypeIs { s with heap := s.heap.push (freshSet w) } (.ref s.heap.objs.size) "set" := ⟨_, hS, rfl⟩
      have hli := F.called_set.init.lookup
      have hbi := F.called_set.init.bind (.ref s.heap.objs.size)
      repeat (any_goals (first | assumption | wp_step))
      refine codeAny_mono (codeAny_call_builtin (R := wants (fun r u => r = .none ∧ ∃ h' tk c, u = { s with heap := h', toks := tk } ∧ SetG w h' s.heap.objs.size (memK ks) c ∧ c ≤ ks.length ∧
          (∀ b o, s.heap.get? b = some o → h'.get? b = some o)) E) F.called_set.init.plain F.entry_set_init (check_set_init_1 hT ?_)) fun r2 u2 hr2 => ?_
      · obtain ⟨ol, hol, hcl, nl, hdl⟩ := hl
        obtain ⟨ocls, odict, odata, oslots⟩ := ol
        simp only at hcl hdl
        subst hcl; subst hdl
        have hol' : (s.heap.push (freshSet w)).get? l = some { cls := .type "tuple", dict := odict, data := .seq items nl, slots := oslots } := Heap.get?_push_of_some _ hol
        have hsls := F.sub_tuple_set
        have hslf := F.sub_tuple_frozenset
        have hne : (Value.type "tuple" == Value.type "dict") = false := by decide
        have hl1 : (s.heap.push (freshSet w)).IsTuple l items := ⟨_, hol', rfl, nl, rfl⟩
        unfold Builtin.«set.__init__» noKeywords Builtin.Frozenset.updateFrom
        generalize hPI : pyIter = PI
        wp_walk
        subst hPI
        refine wpAny_pyIter_tuple hl1 ?_
        refine wpAny_bind (wpAny_runValue ?_)
        have hlS : l < s.heap.objs.size := Heap.lt_size hol
        have hh3 : A.in1.in1.in1.handled = none := by simp [hh]
        have hneI : l ≠ (s.heap.push (freshSet w)).objs.size := by
          rw [Heap.size_push]; exact Nat.ne_of_lt (Nat.lt_succ_of_lt hlS)
        have hSf : s.heap.objs.size ∉ [(s.heap.push (freshSet w)).objs.size, l] := by
          rw [Heap.size_push]; simp only [List.mem_cons, List.mem_singleton, List.not_mem_nil, or_false, not_or]
          exact ⟨Nat.ne_of_lt (Nat.lt_succ_self _), Nat.ne_of_gt hlS⟩
        have hval : ∀ (i : Nat) (v : Value), items[i]? = some v → ∃ k, ks[i]? = some k ∧ keyIs k v = true := fun i v hv => by
          have : ∀ {ks : List Key} {vs : List Value} {i : Nat} {v : Value}, Paired (fun (k : Key) v => keyIs k v = true) ks vs → vs[i]? = some v → ∃ k, ks[i]? = some k ∧ keyIs k v = true := by
            intro ks vs i v hp
            induction hp generalizing i with
            | nil => intro e; simp at e
            | cons r _ ih => intro e; cases i with
              | zero => simp at e; subst e; exact ⟨_, rfl, r⟩
              | succ i => simp at e; obtain ⟨k, q1, q2⟩ := ih e; exact ⟨k, by simpa using q1, q2⟩
          exact this hit (by rw [Array.getElem?_toList]; exact hv)
        refine setG_loop ((Walks.tuple hh3 _ l hneI items).toS) s.heap.objs.size
          hSf ks hisz hb hval (items.size - 0) 0 _ (by omega) (Nat.zero_le _)
          ⟨⟨_, Heap.get?_push_size _ rfl, rfl, rfl⟩, (hl1.push _)⟩ ?hS0 ?hR
        case hS0 =>
          exact ⟨0, Nat.le_refl 0, setG_fresh (fun k => by simp [memK]) (Heap.get?_push_of_some _ hS)⟩
        case hR =>
          intro s' c' hm hc' hS'
          obtain ⟨h', g2, d', tk', os'⟩ := s'
          have eg : g2 = s.gens := hm.gens
          have ed : d' = s.drawn := hm.drawn
          have eo : os' = s.os := hm.os
          subst eg; subst ed; subst eo
          show wpAny _ _ _ _ _ _
          refine wpAny_pure ?_
          show wpAny _ _ (ret Value.none) _ _ _
          rw [hisz] at hc'
          refine wpAny_pure ⟨rfl, h', tk', c', rfl, hS', hc', fun b o e => ?_⟩
          have b0 : b < s.heap.objs.size := Heap.lt_size e
          have b2 : b ≠ (s.heap.push (freshSet w)).objs.size := by
            rw [Heap.size_push]; exact Nat.ne_of_lt (Nat.lt_succ_of_lt b0)
          exact hm.heap b o (by simp only [List.mem_cons, List.mem_singleton, List.not_mem_nil, or_false, not_or]; exact ⟨Nat.ne_of_lt b0, b2⟩) (Heap.get?_push_of_some _ (Heap.get?_push_of_some _ e))
      · cases r2 with
        | error e => exact hr2
        | ok fl2 =>
          cases fl2 with
          | ret r =>
            obtain ⟨rfl, h', tk, c', rfl, hS', hc', hk'⟩ := hr2
            repeat (any_goals (first | assumption | wp_step))
            exact h _ _ _ hS' hc' hk'
          | _ => exact hr2.elim
    | _ => exact hr.elim
end
end Pd
set_option maxHeartbeats 2000000
namespace Pd
open PySem PySem.Spec PyProof.Rows L2
theorem enum_new1 {v : Value} {o : Obj} {H : Heap → Prop} (B : Begins v o H) :
    Meets (Builtin.«enumerate.__new__» ⟨[.type "enumerate", v], []⟩) (fun _ R s => H s.heap ∧
      R (.ok (.ret (.ref (s.heap.push o).objs.size))) { s with heap := (s.heap.push o).push { cls := .type "enumerate", data := .fields #[.none, .bool false, .ref s.heap.objs.size, rawInt 0, .none, .none] } }) :=
  .of_wp fun prog w A R s h => by
    obtain ⟨hp, g, d, tk, os⟩ := s
    obtain ⟨h1, h⟩ := h
    have hsub := sub_enumerate
    have q1 : ∀ {A' : Around} {E : Value → Shared → Prop} {Q : Value → Shared → Prop}, Q (.ref hp.objs.size) ⟨hp.push o, g, d, tk, os⟩ → wpAny (model prog w) A' (pyIter v) Q E ⟨hp, g, d, tk, os⟩ :=
      fun q => B.iter prog w _ _ ⟨hp, g, d, tk, os⟩ _ h1 q
    wp_walk using q1
    refine wpAny_stack_any fun st => wpAny_pure ?_
    split
    · rename_i c _ _ _ _ _
      cases (c == Value.type "enumerate") <;> (wp_walk using q1; exact ⟨_, rfl, h⟩)
    · wp_walk using q1
      exact ⟨_, rfl, h⟩
theorem enum_begins1 {prog : Program} {w : World} {A : Around} {E : Value → Shared → Prop} {s : Shared} {v : Value} {o : Obj} {H : Heap → Prop} {Q : Value → Shared → Prop} (B : Begins v o H) (h1 : H s.heap)
    (h : ∀ h', IsEnum h' (s.heap.objs.size + 1) s.heap.objs.size 0 .none → h'.get? s.heap.objs.size = some o → h'.objs.size = s.heap.objs.size + 2 →
      (∀ b o, s.heap.get? b = some o → h'.get? b = some o) → Q (.ref (s.heap.objs.size + 1)) { s with heap := h' }) :
    wpAny (model prog w) A (call (.type "enumerate") [v]) Q E s := by
  refine callType_new F.called_enumerate (by decide) (F.typeCall_enumerate_1 _) (F.newCall_enumerate_1 _) (fun obj => F.args_object_init_2 obj _) F.entry_enumerate_new (enum_new1 B) ⟨h1, ?_⟩
  have hz : (s.heap.push o).objs.size = s.heap.objs.size + 1 := Heap.size_push ..
  show _ ∧ _
  rw [hz]
  have he : IsEnum ((s.heap.push o).push { cls := .type "enumerate", data := .fields #[.none, .bool false, .ref s.heap.objs.size, rawInt 0, .none, .none] }) (s.heap.objs.size + 1) s.heap.objs.size 0 .none := by
    have := Heap.get?_push_size (s.heap.push o) (o := { cls := .type "enumerate", data := .fields #[.none, .bool false, .ref s.heap.objs.size, rawInt 0, .none, .none] }) rfl
    rw [hz] at this
    exact this
  exact ⟨⟨_, he, rfl⟩, h _ he (Heap.get?_push_of_some _ (Heap.get?_push_size _ B.free)) (by rw [Heap.size_push, hz]) fun b o x => Heap.get?_push_of_some _ (Heap.get?_push_of_some _ x)⟩
theorem enum_endT {prog : Program} {w : World} {A : Around} {E : Value → Shared → Prop} {s : Shared} {e it a : Addr} {n : Nat} {i : Int} {old : Value} {its : Array Value} {Q : Option Value → Shared → Prop} (hh : A.in1.handled = none)
    (he : IsEnum s.heap e it i old) (hit : s.heap.IsTupleIter it a n) (ht : s.heap.IsTuple a its) (hx : its[n]? = none)
    (hQ : ∀ h', Heap.ExtBut it s.heap h' → Q none { s with heap := h' }) : wpAny (model prog w) A (pyNext (.ref e)) Q E s := by
  have hT : s.TypeIs (.ref e) "enumerate" := ⟨_, he, rfl⟩
  unfold pyNext
  refine wpAny_bind (wpAny_attempt (wpAny_callSpecial?_slot (name := Str.ofString "__next__") hT F.slot_enumerate_next (wpAny_call_entry F.slot_enumerate_next hT F.entry_enumerate_next ?_ (F.args_enumerate_next_1 _))))
  show wpAny _ _ (field (.ref e) 2 >>= _) _ _ _
  refine wpAny_bind (wpAny_field he rfl (x := .ref it) rfl ?_)
  refine wpAny_bind (wpAny_nextOf_tuple_end (by exact hh) hit ht hx fun h' x he' hx' => ?_)
  obtain ⟨o, ho, hc⟩ := hx'
  refine wpAny_bind (wpAny_isInstance (T := "StopIteration") (b := true) ⟨o, ho, hc⟩ isSubtype_stop ?_)
  exact wpAny_pure (hQ _ he')
def ItT (K : PySem.W.Frag) (a : Addr) : It :=
  ⟨fun i H => ∃ (xs : List V) (x : V), SqT K H a xs ∧ xs[i]? = some x, fun i H v H' => ∃ T x, v = .ref T ∧ H T = none ∧ H' = upd H T (.tup [.int (i : Nat), x]) ∧ ∀ xs, SqT K H a xs → xs[i]? = some x, fun i H => ∃ xs : List V, SqT K H a xs ∧ xs.length ≤ i⟩
theorem turn_enumT {P : Program} {w : World} {K : PySem.W.Frag} {elts : List Expr} {kk : Nat} {tpos : Pos} (a e it : Addr) (hae : a ≠ e) (hai : a ≠ it) :
    Turn P w K (.Tuple elts kk tpos) (ItT K a) [e, it] e (fun i h => (∃ old, IsEnum h e it ((i : Nat) : Int) old) ∧ h.IsTupleIter it a i ∧ e ≠ it) where
  mem := by simp
  obj := fun i h st b hb => by
    obtain ⟨⟨old, he⟩, ⟨o, ho, hc, hd⟩, _⟩ := st
    rcases (by simpa using hb : b = e ∨ b = it) with z | z
    · rw [z]; exact ⟨_, he, fun v q => nomatch q⟩
    · rw [z]; exact ⟨o, ho, fun v q => by rw [hd] at q; cases q⟩
  keep := fun i h h' st k => let ⟨⟨old, he⟩, hi, hne⟩ := st; ⟨⟨old, k e (by simp) _ he⟩, hi.at fun o q => k it (by simp) o q, hne⟩
  item := by
    intro X hP hw hK hc i pins s σ H E I hf st hg
    subst hP hw hK
    obtain ⟨⟨old, he⟩, hit, hne⟩ := st
    obtain ⟨xs, x, hq, hx⟩ := hg
    obtain ⟨its, rv, p, hz⟩ := I.tuple hq
    obtain ⟨u, hu, ru⟩ := rv.get hx
    have hel : e < s.heap.objs.size := Heap.lt_size he
    have hil : it < s.heap.objs.size := by obtain ⟨_, q, _⟩ := hit; exact Heap.lt_size q
    have hlt : i < its.toArray.size := by rw [List.size_toArray]; exact (List.getElem?_eq_some_iff.mp hu).1
    have hef : e ∉ [it, a] := by
      intro z
      rcases (by simpa using z : e = it ∨ e = a) with z | z
      · exact hne z
      · exact hae z.symm
    refine wpAny_pyNext_enum_itemD (Draws.tuple (A := X.A.in1) (by show X.A.in1.handled = none; have := I.ok.hd hc; first | exact this | simpa using this) it a hai its.toArray) he ⟨hit, p⟩ hlt hne hef fun x' h' tk hP ho hst hT hsz hk => ?_
    have ex : x' = u := by
      rw [List.getElem?_toArray, hu] at hP
      exact (Option.some.inj hP).symm
    subst ex
    refine ⟨_, rfl, wpAny_letOwnedTupleGo_enum (s := { s with heap := h', toks := tk + 1 }) ho fun h'' he' sb => ?_⟩
    have hT2 : h''.get? s.heap.objs.size = some { cls := .type "tuple", data := .seq #[.int i tk, x'] } := (sb.2 _ (Nat.ne_of_gt hel)).trans hT
    have new : ObjOk X.prog X.w (upd H s.heap.objs.size (.tup [.int (i : Nat), x])) h'' s.heap.objs.size (.tup [.int (i : Nat), x]) :=
      ⟨by show 2 ≤ sizeLine; decide, [.int i tk, x'], .cons ⟨_, rfl⟩ (.cons ru .nil), ⟨_, hT2, rfl, _, rfl⟩⟩
    have I1 : Inv X pins σ (upd H s.heap.objs.size (.tup [.int (i : Nat), x])) { s with heap := h'', toks := tk + 1 } :=
      I.turnedNew (ch := [e, it]) (fun b ob hb q => (sb.2 b (fun z => hb (by simp [z]))).trans (hk b ob (fun z => hb (by simp [z])) (fun z => hb (by simp [z])) q)) hf (Nat.le_refl _) new
    refine ⟨.ref s.heap.objs.size, _, I1, rfl, ⟨_, x, rfl, I.hok.fresh (Nat.le_refl _), rfl, fun ys hy => by rw [I.tuple_inj hy hq]; exact hx⟩, ⟨⟨x', ?_⟩, hst.1.at fun o q => (sb.2 it (Ne.symm hne)).trans q, hne⟩, fun b hb => ?_⟩
    · have e1 : ((i + 1 : Nat) : Int) = (i : Int) + 1 := by omega
      rw [e1]
      exact he'
    · have hb' : b < s.heap.objs.size := by
        rcases (by simpa using hb : b = e ∨ b = it) with z | z
        · rw [z]; exact hel
        · rw [z]; exact hil
      rw [upd_ne (Nat.ne_of_lt hb')]
      exact (hf b hb).1
  done := by
    intro X hP hw hK hc i pins s σ H E I hf st hg
    subst hP hw hK
    obtain ⟨⟨old, he⟩, hit, hne⟩ := st
    obtain ⟨xs, hq, hx⟩ := hg
    obtain ⟨its, rv, p, hz⟩ := I.tuple hq
    obtain ⟨f0, f1, f2, f3, f4, f5⟩ := hf it (by simp)
    have hl := rv.length
    have hh : X.A.in1.handled = none := by have := I.ok.hd hc; first | exact this | simpa using this
    refine enum_endT hh he hit p (by simp; omega) fun h' eb => ⟨rfl, I.turned (t' := s.toks) (fun b o hb q => eb b o hb q) f0 f1 f3 f4 f5⟩
  self := fun A i s Q E st h => let ⟨⟨_, he⟩, _⟩ := st; wpAny_pyIter_enum he h
def iEnA (K : PySem.W.Frag) (ta : TA) : TI := fun σ H R => ta σ H fun vs H1 => (∃ a xs, vs = [.ref a] ∧ SqL K H1 a xs ∧ R (Ite K a) H1) ∨ ∃ a xs, vs = [.ref a] ∧ SqT K H1 a xs ∧ R (ItT K a) H1
theorem pi_enA {X : Cx} {e : Expr} {ta : TA} {p pos tpos : Pos} {elts : List Expr} {kk : Nat} (hg : Gl X "enumerate") (hm : X.mg "enumerate" = none) (ha : PA X [e] ta) (hs : starEach [e] X.env = [(false, eval e X.env)]) :
    PI X (.Tuple elts kk tpos) (.Call (.Name "enumerate" p) [e] [] pos) (iEnA X.K ta) := by
  refine ⟨fun pins s σ H R I h => ?_⟩
  refine Call_ (ld_blt I hg hm boot_enumerate (PyProof.Rows.callWith_type1 (thn (ha.run pos pins s σ H _ I h) fun us s1 ⟨vs, H1, I1, r1, q1⟩ => ?_) hs rfl))
  have fresh : ∀ b, b ∈ [s1.heap.objs.size + 1, s1.heap.objs.size] → s1.heap.objs.size ≤ b := fun b hb => by
    rcases (by simpa using hb : b = s1.heap.objs.size + 1 ∨ b = s1.heap.objs.size) with z | z
    · rw [z]; exact Nat.le_add_right _ _
    · rw [z]; exact Nat.le_refl _
  rcases q1 with ⟨a, xs, ex, hq, q⟩ | ⟨a, xs, ex, hq, q⟩
  · subst ex
    cases r1 with
    | cons r rr =>
      cases rr
      cases r
      obtain ⟨its, rv, p', hz⟩ := I1.list hq
      refine call_enumerate_list p'.isList fun h' he hit hsz hk => wpAny_pyIter_enum he ?_
      have I2 : Inv X pins σ H1 { s1 with heap := h' } := I1.kept (t' := s1.toks) hk
      exact ⟨s1.heap.objs.size + 1, [s1.heap.objs.size + 1, s1.heap.objs.size], _, _, H1, rfl, I2, turn_enum a (s1.heap.objs.size + 1) s1.heap.objs.size, ⟨⟨.none, he⟩, hit, Nat.succ_ne_self _⟩, fun b hb => I1.fpOk (fresh b hb) (I1.hok.fresh (fresh b hb)), q⟩
  · subst ex
    cases r1 with
    | cons r rr =>
      cases rr
      cases r
      obtain ⟨its, rv, p', hz⟩ := I1.tuple hq
      have hlt : a < s1.heap.objs.size := by obtain ⟨o, ho, _⟩ := p'; exact Heap.lt_size ho
      refine enum_begins1 (begins_tuple a its.toArray) p' fun h' he hit hsz hk => wpAny_pyIter_enum he ?_
      have I2 : Inv X pins σ H1 { s1 with heap := h' } := I1.kept (t' := s1.toks) hk
      exact ⟨s1.heap.objs.size + 1, [s1.heap.objs.size + 1, s1.heap.objs.size], _, _, H1, rfl, I2, turn_enumT a (s1.heap.objs.size + 1) s1.heap.objs.size (Nat.ne_of_lt (Nat.lt_succ_of_lt hlt)) (Nat.ne_of_lt hlt), ⟨⟨.none, he⟩, ⟨_, hit, rfl, rfl⟩, Nat.succ_ne_self _⟩, fun b hb => I1.fpOk (fresh b hb) (I1.hok.fresh (fresh b hb)), q⟩
theorem enmA_get : ∀ (xs : List Av) (k : Int) (i : Nat), (enmA k xs)[i]? = (xs[i]?).map fun x => Av.tup [.int (k + (i : Nat)), x]
  | [], _, _ => by simp [enmA]
  | x :: xs, k, 0 => by simp [enmA]
  | x :: xs, k, i + 1 => by
    rw [enmA, List.getElem?_cons_succ, enmA_get xs (k + 1) i, List.getElem?_cons_succ]
    congr 1
    funext y
    have e : k + 1 + (i : Int) = k + ((i + 1 : Nat) : Int) := by omega
    rw [e]
theorem enmA_len : ∀ (xs : List Av) (k : Int), (enmA k xs).length = xs.length
  | [], _ => rfl
  | _ :: xs, k => by rw [enmA, List.length_cons, enmA_len xs, List.length_cons]
section
variable {Z : Sc} {W : WX} {X : Cx}
theorem pair_new {c : Rc} {M : Mem} {H : Hp} {T : Addr} {i : Nat} {v : V} {b : Av} (s : Sim Z c M H) (h : H T = none) (r : Rep Z c v b) : ∃ d, Le c d ∧ Sim Z d M (upd H T (.tup [.int (i : Nat), v])) ∧ Rep Z d (.ref T) (.tup [.int (i : Nat), b]) := by
  have hg := s.g.free h
  refine ⟨c.lay T (.tup [.int (i : Nat), v]), Le.lay hg, s.lay h, .tup (SqT.of (show upd c.G T _ T = _ from upd_same)) (.cons (.int _) (.cons (r.mono (Le.lay hg)) .nil))⟩
theorem jok_el {c0 : Rc} {a : Av} {l : Addr} {xs : List Av} (hl : ∀ c M H, Le c0 c → Sim Z c M H → stayA M a xs = true → ∃ vs, SqL Z.K H l vs ∧ Reps Z c vs xs) : JOk Z c0 (.enm a xs) (Ite Z.K l) := by
  have e0 : (Ik.enm a xs).items.length = xs.length := enmA_len xs 0
  refine ⟨fun i c M H hi lc s st => ?_, fun c M H lc s st => ?_, fun i c M H x H' b hb lc s st y => ?_⟩
  · obtain ⟨vs, q1, q2⟩ := hl c M H lc s st
    rw [e0] at hi
    have hi : i < vs.length := by rw [q2.length]; exact hi
    exact ⟨vs, vs[i], q1, by simp [hi]⟩
  · obtain ⟨vs, q1, q2⟩ := hl c M H lc s st
    exact ⟨vs, q1, by rw [q2.length, e0]; exact Nat.le_refl _⟩
  · obtain ⟨vs, q1, q2⟩ := hl c M H lc s st
    obtain ⟨T, v, rfl, hT, rfl, y⟩ := y
    have y := y vs q1
    obtain ⟨z, q3, q4⟩ := q2.get' y
    rw [show (Ik.enm a xs).items = enmA 0 xs from rfl, enmA_get, q3] at hb
    simp only [Option.map_some, Option.some.injEq, Int.zero_add] at hb
    subst hb
    exact pair_new s hT q4
theorem jok_et {c0 : Rc} {a : Av} {l : Addr} {xs : List Av} {vs : List V} (q1 : SqT Z.K c0.G l vs) (q2 : Reps Z c0 vs xs) : JOk Z c0 (.enm a xs) (ItT Z.K l) := by
  have e0 : (Ik.enm a xs).items.length = xs.length := enmA_len xs 0
  refine ⟨fun i c M H hi lc s st => ?_, fun c M H lc s st => ?_, fun i c M H x H' b hb lc s st y => ?_⟩
  · rw [e0] at hi
    have hi : i < vs.length := by rw [q2.length]; exact hi
    exact ⟨vs, vs[i], same_t (lc.g.trans s.g) q1, by simp [hi]⟩
  · exact ⟨vs, same_t (lc.g.trans s.g) q1, by rw [q2.length, e0]; exact Nat.le_refl _⟩
  · obtain ⟨T, v, rfl, hT, rfl, y⟩ := y
    have y := y vs (same_t (lc.g.trans s.g) q1)
    obtain ⟨z, q3, q4⟩ := (q2.mono lc).get' y
    rw [show (Ik.enm a xs).items = enmA 0 xs from rfl, enmA_get, q3] at hb
    simp only [Option.map_some, Option.some.injEq, Int.zero_add] at hb
    subst hb
    exact pair_new s hT q4
def iEnmA (g : Ea) : Ei := fun e M => (g e M).bind fun as M1 => match as with
  | [a] => (match asQ M1 a with
    | some xs => if stayA M1 a xs then .ok (.enm a xs) M1 else .bad
    | none => .bad)
  | _ => .bad
theorem si_enm {a : Expr} {g : Ea} {p pos tpos : Pos} {elts : List Expr} {kk : Nat} (hK : X.K = Z.K) (hg : Gl X "enumerate") (hm : X.mg "enumerate" = none) (h : SA Z W X [a] g) (hs : starEach [a] X.env = [(false, eval a X.env)]) :
    SI Z W X (.Tuple elts kk tpos) (.Call (.Name "enumerate" p) [a] [] pos) (iEnmA g) := by
  have q := pi_enA (elts := elts) (kk := kk) (tpos := tpos) (p := p) (pos := pos) hg hm h hs
  rw [hK] at q
  refine q.imp fun σ H R ⟨c, e, M, at_, h⟩ => ?_
  refine stepI (R1 := Reps Z) at_ h fun c1 x v M1 H1 l1 a1 r1 h1 => ?_
  split at h1
  · rename_i a0
    cases r1 with | cons r1 r2 =>
    cases r2
    cases b : a0 with
    | tup xs =>
      subst b
      cases r1 with | tup q1 q2 =>
      simp only [asQ, stayA, eqAs_refl, if_true] at h1
      exact .inr ⟨_, _, rfl, same_t a1.s.g q1, h1 c1 H1 _ (Le.refl _) a1 (jok_et q1 q2)⟩
    | lst xs =>
      subst b
      simp only [asQ, stayA, eqAs_refl, if_true] at h1
      cases r1 with | lst q1 q2 =>
      exact .inl ⟨_, _, rfl, SqL.of (a1.s.g _ _ q1), h1 c1 H1 _ (Le.refl _) a1 (jok_el fun c2 M2 H2 l2 s2 _ => ⟨_, SqL.of (s2.g _ _ (l2.g _ _ q1)), q2.mono l2⟩)⟩
    | fz xs =>
      subst b
      simp only [asQ, stayA, eqAs_refl, if_true] at h1
      cases r1 with | fz q1 q2 =>
      exact .inl ⟨_, _, rfl, same_l a1.s.g q1, h1 c1 H1 _ (Le.refl _) a1 (jok_el fun c2 M2 H2 l2 s2 _ => ⟨_, same_l (l2.g.trans s2.g) q1, q2.mono l2⟩)⟩
    | ref n =>
      subst b
      cases q : asQ M1 (.ref n) with
      | none => rw [q] at h1; exact h1.elim
      | some xs =>
        rw [q] at h1
        simp only at h1
        split at h1
        · rename_i st0
          obtain ⟨l, vs, rfl, q1, q2⟩ := asL_rep a1.s r1 (show asL M1 (.ref n) = some xs from q)
          refine .inl ⟨_, _, rfl, SqL.of q1, h1 c1 H1 _ (Le.refl _) a1 (jok_el fun c2 M2 H2 l2 s2 st => ?_)⟩
          have r2 := r1.mono l2
          obtain ⟨l', vs', e', z1, z2⟩ := asL_rep s2 r2 (show asL M2 (.ref n) = some xs from stayA_q st)
          cases e'
          exact ⟨vs', SqL.of z1, z2⟩
        · exact h1.elim
    | _ => subst b; simp [asQ] at h1; exact h1.elim
  · exact h1.elim
end
end Pd
set_option maxHeartbeats 2000000
namespace Pd
open PySem PySem.Spec PyProof.Rows L2
def isStar : Expr → Bool
  | .Starred _ _ => true
  | _ => false
def noStar (es : List Expr) : Bool := es.all fun e => !isStar e
theorem star_cons {e : Expr} {es : List Expr} {env : PySem.Env} (h : isStar e = false) : starEach (e :: es) env = (false, eval e env) :: starEach es env := by
  cases e <;> first | rfl | cases h
theorem star_any {pos : Pos} {env : PySem.Env} : ∀ {es : List Expr}, noStar es = true → (backTo pos (starEach es env)).any (·.1) = false
  | [], _ => rfl
  | e :: es, h => by
    simp only [noStar, List.all_cons, Bool.and_eq_true, Bool.not_eq_true'] at h
    rw [star_cons h.1]
    have := star_any (pos := pos) (env := env) (es := es) h.2
    show (false || (backTo pos (starEach es env)).any (·.1)) = false
    rw [this]; rfl
theorem star_all {pos : Pos} {env : PySem.Env} : ∀ {es : List Expr}, noStar es = true → (backTo pos (starEach es env)).all (fun x => !x.1) = true
  | [], _ => rfl
  | e :: es, h => by
    simp only [noStar, List.all_cons, Bool.and_eq_true, Bool.not_eq_true'] at h
    rw [star_cons h.1]
    have := star_all (pos := pos) (env := env) (es := es) h.2
    show (true && (backTo pos (starEach es env)).all (fun x => !x.1)) = true
    rw [this]; rfl
def isSup : Expr → Bool
  | .Call (.Name _ _) [] [] _ => true
  | _ => false
theorem base_of {o : Expr} {m : Str} {env : PySem.Env} {wh : Sem Value} (h : isSup o = false) : attributeBase o m env wh = wh := by
  unfold attributeBase
  split
  · cases h
  · rfl
def isComp : Expr → Bool
  | .ListComp _ _ _ _ => true
  | .SetComp _ _ _ _ => true
  | .DictComp _ _ _ _ _ => true
  | _ => false
theorem sw_of {e : Expr} {t : Option Expr} {l : Nat} {env : PySem.Env} (h : isComp e = false) : swapsWith e t l env = pure false := by
  cases e <;> first | rfl | cases h
def isSetE : Expr → Bool
  | .Set _ _ _ => true
  | _ => false
theorem fold_of {e : Expr} {env : PySem.Env} (h : isSetE e = false) : ∀ x, foldedSetIterable e env x = pure x := by
  intro x
  cases e <;> first | rfl | cases h
theorem marks_of {o : CmpOp} {e : Expr} (h : isSetE e = false) : behindInMarks o e = false := by
  cases e <;> first | rfl | cases h
def isSlice : Expr → Bool
  | .Slice _ _ _ _ => true
  | _ => false
def evT : Expr → Bool
  | .UnaryOp .Not _ _ => true
  | .BoolOp _ _ _ => true
  | .IfExp _ _ _ _ => true
  | .Compare _ _ _ _ => true
  | _ => false
theorem true_of {e : Expr} {env : PySem.Env} (h : evT e = false) : ∀ whole, isTrue e env whole = (do let v ← whole; standAt e.pos; holding [v] (truthy v)) := by
  intro wh
  cases e with
  | UnaryOp op x p => cases op <;> first | rfl | cases h
  | _ => first | rfl | cases h
theorem meth_few {n : Nat} {args : List Expr} {pos : Pos} {env : PySem.Env} (h : noStar args = true) (hn : Nat.blt args.length 20 = true) : methodCallForm (args.length + ([] : List Keyword).length) (backTo pos (starEach args env)) (backToKw pos (keywordEach [] env)) = true := by
  unfold methodCallForm
  rw [star_all h]
  have h2 : args.length < 20 := Nat.le_of_ble_eq_true hn
  have : decide (args.length + ([] : List Keyword).length + (if (backToKw pos (keywordEach [] env)).isEmpty then 0 else 1) < 30) = true := by
    refine decide_eq_true ?_
    show args.length + 0 + (if List.isEmpty [] = true then 0 else 1) < 30
    simp; omega
  simp only [Bool.true_and]
  rw [this]; rfl
theorem meth_eval {o : Expr} {m : Str} {apos pos : Pos} {args : List Expr} {env : PySem.Env} (ho : isSup o = false) (h : noStar args = true) (hn : Nat.blt args.length 20 = true) (hl : (apos.endLine == pos.line) = true) :
    eval (.Call (.Attribute o m apos) args [] pos) env = (do
      let ov ← eval o env
      standAt apos.atName
      let (f, first) ← holding [ov] (getMethod ov m (do return (← importBound o env).getD true))
      callWith pos f first (backTo pos (starEach args env)) (backToKw pos (keywordEach [] env))) := by
  have e1 : eval (.Call (.Attribute o m apos) args [] pos) env = (do
    let ov ← attributeBase o m env (eval o env)
    standAt apos.atName
    methodCall o m apos pos env ov (args.length + ([] : List Keyword).length) (backTo pos (starEach args env)) (backToKw pos (keywordEach [] env))) := by first | rfl | (simp only [eval])
  rw [e1, base_of ho]
  unfold methodCall
  rw [meth_few (n := 0) h hn]
  unfold methodCallPos calleeOf
  simp only [hl]
  rfl
theorem ix_of {b : Expr} (h : isSlice b = false) : PlainIx b := by
  intro o i
  cases b <;> first | rfl | cases h
end Pd
set_option maxHeartbeats 4000000
namespace Pd
open PySem PySem.Spec L2
open PyProof.Rows (sortedS risingS StrsAre IntsAre)
structure Slo {α : Type} (lt : α → α → Bool) : Prop where
  irr : ∀ a, lt a a = false
  tr : ∀ a b c, lt a b = true → lt b c = true → lt a c = true
  tri : ∀ a b, lt a b = false → lt b a = false → a = b
def insU {α : Type} (lt : α → α → Bool) (x : α) : List α → List α
  | [] => [x]
  | y :: ys => if lt x y then x :: y :: ys else if lt y x then y :: insU lt x ys else y :: ys
def sortU {α : Type} (lt : α → α → Bool) : List α → List α
  | [] => []
  | x :: xs => insU lt x (sortU lt xs)
def insL {α : Type} (lt : α → α → Bool) (x : α) : List α → List α
  | [] => [x]
  | y :: ys => if lt y x then y :: insL lt x ys else x :: y :: ys
def sortL {α : Type} (lt : α → α → Bool) : List α → List α
  | [] => []
  | x :: xs => insL lt x (sortL lt xs)
section
variable {α : Type} {lt : α → α → Bool}
theorem mem_insU (O : Slo lt) {x z : α} : ∀ {l : List α}, z ∈ insU lt x l ↔ z = x ∨ z ∈ l
  | [] => by simp [insU]
  | y :: ys => by
    unfold insU
    split
    · simp
    · split
      · simp only [List.mem_cons, mem_insU O (l := ys)]
        exact ⟨fun h => by rcases h with h | h | h <;> simp [h], fun h => by rcases h with h | h | h <;> simp [h]⟩
      · rename_i h1 h2
        have e : x = y := O.tri x y (by simpa using h1) (by simpa using h2)
        subst e
        simp
theorem mem_sortU (O : Slo lt) {z : α} : ∀ {l : List α}, z ∈ sortU lt l ↔ z ∈ l
  | [] => by simp [sortU]
  | y :: ys => by simp [sortU, mem_insU O, mem_sortU O (l := ys)]
theorem pw_insU (O : Slo lt) {x : α} : ∀ {l : List α}, l.Pairwise (fun a b => lt a b = true) → (insU lt x l).Pairwise (fun a b => lt a b = true)
  | [], _ => by simp [insU]
  | y :: ys, h => by
    obtain ⟨h1, h2⟩ := List.pairwise_cons.mp h
    unfold insU
    split
    · rename_i hx
      refine List.pairwise_cons.mpr ⟨fun z hz => ?_, h⟩
      rcases List.mem_cons.mp hz with e | e
      · rw [e]; exact hx
      · exact O.tr _ _ _ hx (h1 z e)
    · split
      · rename_i hy
        refine List.pairwise_cons.mpr ⟨fun z hz => ?_, pw_insU O h2⟩
        rcases (mem_insU O).mp hz with e | e
        · rw [e]; exact hy
        · exact h1 z e
      · exact h
theorem pw_sortU (O : Slo lt) : ∀ (l : List α), (sortU lt l).Pairwise (fun a b => lt a b = true)
  | [] => List.Pairwise.nil
  | x :: xs => pw_insU O (pw_sortU O xs)
theorem uniqU (O : Slo lt) : ∀ {a b : List α}, a.Pairwise (fun a b => lt a b = true) → b.Pairwise (fun a b => lt a b = true) → (∀ z, z ∈ a ↔ z ∈ b) → a = b
  | [], [], _, _, _ => rfl
  | [], y :: ys, _, _, h => absurd ((h y).mpr List.mem_cons_self) (by simp)
  | x :: xs, [], _, _, h => absurd ((h x).mp List.mem_cons_self) (by simp)
  | x :: xs, y :: ys, p, q, h => by
    obtain ⟨p1, p2⟩ := List.pairwise_cons.mp p
    obtain ⟨q1, q2⟩ := List.pairwise_cons.mp q
    have irr : ∀ {z : α}, lt z z = true → False := fun {z} hz => by rw [O.irr z] at hz; cases hz
    have e : x = y := by
      rcases List.mem_cons.mp ((h x).mp List.mem_cons_self) with e | e
      · exact e
      · rcases List.mem_cons.mp ((h y).mpr List.mem_cons_self) with e' | e'
        · exact e'.symm
        · exact (irr (O.tr _ _ _ (q1 x e) (p1 y e'))).elim
    subst e
    rw [uniqU O p2 q2 fun z => ⟨fun hz => ?_, fun hz => ?_⟩]
    · rcases List.mem_cons.mp ((h z).mp (List.mem_cons_of_mem _ hz)) with e | e
      · subst e; exact (irr (p1 _ hz)).elim
      · exact e
    · rcases List.mem_cons.mp ((h z).mpr (List.mem_cons_of_mem _ hz)) with e | e
      · subst e; exact (irr (q1 _ hz)).elim
      · exact e
theorem perm_insL {x : α} : ∀ (l : List α), (insL lt x l).Perm (x :: l)
  | [] => by simp [insL]
  | y :: ys => by
    unfold insL
    split
    · exact ((perm_insL ys).cons y).trans (List.Perm.swap x y ys)
    · exact List.Perm.refl _
theorem perm_sortL : ∀ (l : List α), (sortL lt l).Perm l
  | [] => List.Perm.refl _
  | x :: xs => (perm_insL _).trans ((perm_sortL xs).cons x)
theorem Slo.total (O : Slo lt) {a b : α} (h : lt a b = true) : lt b a = false := by
  cases q : lt b a with
  | false => rfl
  | true => exact absurd (O.tr _ _ _ h q) (by rw [O.irr a]; simp)
theorem Slo.le_tr (O : Slo lt) {a b c : α} (h1 : lt b a = false) (h2 : lt c b = false) : lt c a = false := by
  cases q : lt c a with
  | false => rfl
  | true =>
    cases q2 : lt b c with
    | true => rw [O.tr _ _ _ q2 q] at h1; cases h1
    | false => rw [← O.tri b c q2 h2] at q; rw [q] at h1; cases h1
theorem pw_insL (O : Slo lt) {x : α} : ∀ {l : List α}, l.Pairwise (fun a b => lt b a = false) → (insL lt x l).Pairwise (fun a b => lt b a = false)
  | [], _ => by simp [insL]
  | y :: ys, h => by
    obtain ⟨h1, h2⟩ := List.pairwise_cons.mp h
    unfold insL
    split
    · rename_i hy
      refine List.pairwise_cons.mpr ⟨fun z hz => ?_, pw_insL O h2⟩
      rcases List.mem_cons.mp ((perm_insL ys).mem_iff.mp hz) with e | e
      · rw [e]; exact O.total hy
      · exact h1 z e
    · rename_i hy
      have hy : lt y x = false := by simpa using hy
      refine List.pairwise_cons.mpr ⟨fun z hz => ?_, h⟩
      rcases List.mem_cons.mp hz with e | e
      · rw [e]; exact hy
      · exact O.le_tr hy (h1 z e)
theorem pw_sortL (O : Slo lt) : ∀ (l : List α), (sortL lt l).Pairwise (fun a b => lt b a = false)
  | [] => List.Pairwise.nil
  | x :: xs => pw_insL O (pw_sortL O xs)
theorem uniqL (O : Slo lt) {a l : List α} (hp : a.Perm l) (h : a.Pairwise (fun a b => lt b a = false)) : a = sortL lt l :=
  (hp.trans (perm_sortL l).symm).eq_of_pairwise (fun x y _ _ h1 h2 => O.tri x y h2 h1) h (pw_sortL O l)
end
def ltI (a b : Int) : Bool := decide (a < b)
theorem slo_I : Slo ltI := ⟨fun a => by simp [ltI], fun a b c h1 h2 => by simp [ltI] at *; omega, fun a b h1 h2 => by simp [ltI] at *; omega⟩
def ltS (a b : Str) : Bool := ltCps a.cps.toList b.cps.toList
theorem ltC_irr : ∀ a : List Nat, ltCps a a = false
  | [] => rfl
  | x :: xs => by simp [ltCps, ltC_irr xs]
theorem ltC_tr : ∀ a b c : List Nat, ltCps a b = true → ltCps b c = true → ltCps a c = true
  | [], [], _, h, _ => by simp [ltCps] at h
  | [], _ :: _, [], _, h => by simp [ltCps] at h
  | [], _ :: _, _ :: _, _, _ => rfl
  | _ :: _, [], _, h, _ => by simp [ltCps] at h
  | _ :: _, _ :: _, [], _, h => by simp [ltCps] at h
  | x :: xs, y :: ys, z :: zs, h1, h2 => by
    simp only [ltCps, Bool.or_eq_true, decide_eq_true_eq, Bool.and_eq_true, beq_iff_eq] at h1 h2 ⊢
    rcases h1 with h1 | ⟨h1, g1⟩ <;> rcases h2 with h2 | ⟨h2, g2⟩
    · left; omega
    · left; omega
    · left; omega
    · right; exact ⟨by omega, ltC_tr xs ys zs g1 g2⟩
theorem ltC_tri : ∀ a b : List Nat, ltCps a b = false → ltCps b a = false → a = b
  | [], [], _, _ => rfl
  | [], _ :: _, h, _ => by simp [ltCps] at h
  | _ :: _, [], _, h => by simp [ltCps] at h
  | x :: xs, y :: ys, h1, h2 => by
    simp only [ltCps, Bool.or_eq_false_iff, decide_eq_false_iff_not, Bool.and_eq_false_iff, beq_eq_false_iff_ne] at h1 h2
    have e : x = y := by omega
    subst e
    rw [ltC_tri xs ys (by simpa using h1.2) (by simpa using h2.2)]
theorem slo_S : Slo ltS := ⟨fun a => ltC_irr _, fun a b c => ltC_tr _ _ _, fun a b h1 h2 => by
  have e := ltC_tri _ _ h1 h2
  cases a; cases b
  simp only [Str.mk.injEq]
  exact Array.ext' e⟩
theorem pw_sortedS : ∀ (l : List Str), sortedS l = true → l.Pairwise (fun a b => ltS b a = false)
  | [], _ => List.Pairwise.nil
  | [x], _ => by simp
  | x :: y :: r, h => by
    have h' : (!ltCps y.cps.toList x.cps.toList && risingS y r) = true := h
    simp only [Bool.and_eq_true, Bool.not_eq_true'] at h'
    have ih := pw_sortedS (y :: r) h'.2
    refine List.pairwise_cons.mpr ⟨fun z hz => ?_, ih⟩
    rcases List.mem_cons.mp hz with e | e
    · rw [e]; exact h'.1
    · exact slo_S.le_tr h'.1 ((List.pairwise_cons.mp ih).1 z e)
def opSorted (as : List Av) (M : Mem) : Res Av := match as with
  | [a] => (match asR M a with
    | some xs => (match intsA xs with
      | some ns => .ok (.lst ((sortL ltI ns).map .int)) M
      | none => (match strsA xs with
        | some ns => if Nat.blt ns.length 64 then .ok (.lst ((sortL ltS ns).map .str)) M else .bad
        | none => .bad))
    | none => .bad)
  | _ => .bad
section
variable {Z : Sc} {W : WX} {X : Cx}
def rSortedA (K : PySem.W.Frag) : List V → Hp → VK → Prop := fun vs H Q => rSortedI K vs H Q ∨ rSortedS K vs H Q
theorem cr_sortedA : CallR X (.builtin "sorted") (rSortedA X.K) := cr_sortedI.or cr_sortedS
theorem cs_sorted : CallS Z W (rSortedA Z.K) opSorted := by
  intro σ c M H xs as Q s r h
  unfold opSorted at h
  split at h
  · cases r with | cons r1 r2 =>
    cases r2
    split at h
    · rename_i ys e
      obtain ⟨l, vs, rfl, q1, r3⟩ := asR_rep s r1 e
      split at h
      · rename_i ns e'
        have := ints_rep r3 e'
        subst this
        refine .inl ⟨l, ns, rfl, q1, fun ns' p hp hs hn => ?_⟩
        have e2 : ns' = sortL ltI ns := uniqL slo_I hp (hs.imp fun h => by simp [ltI]; omega)
        subst e2
        exact h.lst s (reps_ints _) hn
      · split at h
        · rename_i ns e'
          split at h
          · rename_i hz
            have := strs_rep r3 e'
            subst this
            refine .inr ⟨l, ns, rfl, q1, Nat.le_of_ble_eq_true hz, fun ns' p hp hs hn => ?_⟩
            have e2 : ns' = sortL ltS ns := uniqL slo_S hp (pw_sortedS _ hs)
            subst e2
            exact h.lst s (reps_strs _) hn
          · exact h.elim
        · exact h.elim
    · exact h.elim
  · exact h.elim
end
def SetGO (w : World) (a : Addr) (S : Key → Bool) (n : Nat) : HO := .ext fun h => SetG w h a S n
section
variable {X : Cx}
theorem setGO_new {w : World} {P : Program} {H : Hp} {h : Heap} {a : Addr} {S : Key → Bool} {n : Nat} (R : SetG w h a S n) : ObjOk P w H h a (SetGO w a S n) := by
  have ⟨o, _, _, _, ho, _⟩ := R
  exact ⟨R, ⟨o, ho⟩, fun h1 h2 p k => SetG.at p k⟩
theorem keys_vals : ∀ {ks : List Key} {us : List Value}, Vals (ks.map kV) us → Paired (fun (k : Key) v => keyIs k v = true) ks us
  | [], _, .nil => .nil
  | k :: ks, _, .cons r t => .cons (by
    cases k with
    | inl i => obtain ⟨t, rfl⟩ := r; exact keyIs_int i t
    | inr x => obtain ⟨t, rfl⟩ := r; exact keyIs_str x t) (keys_vals t)
def rSetG (K : PySem.W.Frag) (w : World) : List V → Hp → VK → Prop := fun xs H Q => ∃ (l : Addr) (ks : List Key), xs = [.ref l] ∧ (SqL K H l (ks.map kV) ∨ SqT K H l (ks.map kV)) ∧ ks.length ≤ 1000 ∧
  ∀ p n, n ≤ ks.length → H p = none → Q (.ref p) (upd H p (SetGO w p (memK ks) n))
theorem cr_setG (hc : X.calm = true) : CallR X (.type "set") (rSetG X.K X.w) := by
  intro pins s σ H xs us Q I r h
  obtain ⟨l, ks, rfl, hq, hz, q⟩ := h
  rw [Vals.ref1 r]
  have hb : ks.length + 1 < scanBound := by unfold scanBound; omega
  have fin : ∀ (h' : Heap) (tk c : Nat), SetG X.w h' s.heap.objs.size (memK ks) c → c ≤ ks.length → (∀ b o, s.heap.get? b = some o → h'.get? b = some o) → EP X pins σ Q (.ref s.heap.objs.size) { s with heap := h', toks := tk } := fun h' tk c R hc' k =>
    ⟨.ref _, upd H s.heap.objs.size (SetGO X.w s.heap.objs.size (memK ks) c), I.laid (t' := tk) k (Nat.le_refl _) (setGO_new R), rfl, q _ c hc' (I.hok.fresh (Nat.le_refl _))⟩
  rcases hq with hq | hq
  · obtain ⟨its, rv, pl, _⟩ := I.list hq
    exact call_setG (w := X.w) ks (I.ok.hd hc) pl.isList (by simpa using keys_vals rv) hb fin
  · obtain ⟨its, rv, pl, _⟩ := I.tuple hq
    exact call_setGT (w := X.w) ks (I.ok.hd hc) pl (by simpa using keys_vals rv) hb fin
theorem nodup_len {α : Type} [DecidableEq α] {a b : List α} (ha : a.Nodup) (hb : b.Nodup) (h : ∀ z, z ∈ a ↔ z ∈ b) : a.length = b.length := ((List.perm_ext_iff_of_nodup ha hb).mpr h).length_eq
def rLenG (w : World) : List V → Hp → VK → Prop := fun xs H Q => ∃ (a : Addr) (ks : List Key) (n : Nat), xs = [.ref a] ∧ H a = some (SetGO w a (memK ks) n) ∧ n ≤ 1000 ∧ ∀ ys : List Key, ys.Nodup → (∀ k, k ∈ ys ↔ k ∈ ks) → Q (.int (ys.length : Nat)) H
theorem cr_lenG : CallR X (.builtin "len") (rLenG X.w) := by
  intro pins s σ H xs us Q I r h
  obtain ⟨a, ks, n, rfl, ha, hn1, q⟩ := h
  rw [Vals.ref1 r]
  obtain ⟨o, es, ep, t, ho, hex, hd, g, nd, hm, hb, hf, hn, _⟩ := (I.hok a _ ha).1
  have q := q (es.toList.map kOf) nd fun k => by rw [← hm k, memK_iff]
  rw [List.length_map, Array.length_toList] at q
  exact call_len_set ho hex hd hf (by omega) ⟨.int (es.size : Nat), H, I.tok _, ⟨_, rfl⟩, q⟩
def rSortG (w : World) : List V → Hp → VK → Prop := fun xs H Q => ∃ (a : Addr) (ks : List Key) (n : Nat), xs = [.ref a] ∧ H a = some (SetGO w a (memK ks) n) ∧ n ≤ 1000 ∧
  ((∃ ns : List Int, ks = ns.map Sum.inl ∧ ∀ p, H p = none → Q (.ref p) (upd H p (.lst ((sortU ltI ns).map V.int)))) ∨ ∃ ns : List Str, ks = ns.map Sum.inr ∧ ∀ p, H p = none → Q (.ref p) (upd H p (.lst ((sortU ltS ns).map V.str))))
def sOf : Value → Str
  | .str x _ => x
  | _ => Str.empty
def iOf : Value → Int
  | .int i _ => i
  | _ => 0
theorem strsAre_of : ∀ (l : List Value), (∀ v ∈ l, ∃ x t, v = Value.str x t) → StrsAre l (l.map sOf)
  | [], _ => .nil
  | v :: l, h => by
    obtain ⟨x, t, rfl⟩ := h v List.mem_cons_self
    exact .cons x t (strsAre_of l fun u hu => h u (List.mem_cons_of_mem _ hu))
theorem intsAre_of : ∀ (l : List Value), (∀ v ∈ l, ∃ x t, v = Value.int x t) → IntsAre l (l.map iOf)
  | [], _ => .nil
  | v :: l, h => by
    obtain ⟨x, t, rfl⟩ := h v List.mem_cons_self
    exact .cons x t (intsAre_of l fun u hu => h u (List.mem_cons_of_mem _ hu))
theorem pw_strict {α : Type} {lt : α → α → Bool} (O : Slo lt) : ∀ {l : List α}, l.Pairwise (fun a b => lt b a = false) → l.Nodup → l.Pairwise (fun a b => lt a b = true)
  | [], _, _ => List.Pairwise.nil
  | x :: l, h, d => by
    obtain ⟨h1, h2⟩ := List.pairwise_cons.mp h
    obtain ⟨d1, d2⟩ := List.nodup_cons.mp d
    refine List.pairwise_cons.mpr ⟨fun y hy => ?_, pw_strict O h2 d2⟩
    cases q : lt x y with
    | true => rfl
    | false => exact absurd (O.tri x y q (h1 y hy)) fun z => d1 (z ▸ hy)
theorem nodup_back {α β : Type} {f : α → β} {l : List α} {m : List β} (p : (l.map f).Perm m) (h : m.Nodup) : l.Nodup := by
  have := p.nodup_iff.mpr h
  exact List.Pairwise.of_map f (fun a b q => fun e => q (congrArg f e)) this
theorem vals_of_strsA : ∀ {us : List Value} {xs : List Str}, StrsAre us xs → Vals (xs.map V.str) us
  | _, _, .nil => .nil
  | _, _, .cons y t r => .cons ⟨t, rfl⟩ (vals_of_strsA r)
open PyProof.Rows in
theorem cr_sortG (hc : X.calm = true) : CallR X (.builtin "sorted") (rSortG X.w) := by
  intro pins s σ H xs us Q I r h
  obtain ⟨a, ks, n, rfl, ha, hn1, q⟩ := h
  rw [Vals.ref1 r]
  obtain ⟨o, es, ep, t, ho, hex, hd, g, nd, hm, hb, hf, hn, hr, hl⟩ := (I.hok a _ ha).1
  have hh := I.ok.hd hc
  refine Calls.call_function_entry kind_sorted plain_sorted entry_sorted (args_sorted1 _) ?_
  unfold Builtin.«sorted»
  refine wpAny_bind (m := checkCount "sorted" 1 1 _) (wpAny_pure ?_)
  refine wpAny_bind (collect_set (A := X.A.in1) hh ⟨o, ho, hex.1, hd⟩ hf hb hr hl fun s1 vs k1 hz g1 o1 pm => ?_)
  have hvl : vs.length = n := by rw [pm.length_eq, List.length_map, Array.length_toList]; exact hn
  have hL : vs.length ≤ sizeLine := by rw [hvl, sizeLine_eq]; omega
  refine wpAny_bind (wpAny_newList ?_ hL)
  have hoL : (s1.heap.push (seqObj "list" vs.toArray 0)).get? s1.heap.objs.size = some (seqObj "list" vs.toArray 0) := Heap.get?_push_size _ rfl
  have hmem : ∀ v ∈ vs, ∃ e ∈ es.toList, e.2 = v := fun v hv => by
    obtain ⟨e, he, q⟩ := List.mem_map.mp (pm.mem_iff.mp hv)
    exact ⟨e, he, q⟩
  have end_ : ∀ (out : Array Value) (ws : List V), ws.length ≤ 1000 → Vals ws out.toList → (∀ p, H p = none → Q (.ref p) (upd H p (.lst ws))) →
      EP X pins σ Q (.ref s1.heap.objs.size) { s1 with heap := sortedHeap (s1.heap.push (seqObj "list" vs.toArray 0)) s1.heap.objs.size vs out } := fun out ws hlen rv q => by
    obtain ⟨c, hc'⟩ := sortedHeap_at (vs := vs) (out := out) hoL
    have k2 : ∀ b u, s.heap.get? b = some u → (sortedHeap (s1.heap.push (seqObj "list" vs.toArray 0)) s1.heap.objs.size vs out).get? b = some u := fun b u e => by
      have q := k1 b u e
      have hlt := Heap.lt_size q
      rw [sortedHeap_old (Nat.ne_of_lt hlt) (by rw [size_push']; exact Nat.lt_succ_of_lt hlt)]
      exact Heap.get?_push_of_some _ q
    have hnn : H s1.heap.objs.size = none := I.hok.fresh hz
    have J : Inv X pins σ (upd H s1.heap.objs.size (.lst ws)) { s with heap := sortedHeap (s1.heap.push (seqObj "list" vs.toArray 0)) s1.heap.objs.size vs out, gens := s1.gens, drawn := s1.drawn, toks := s1.toks } :=
      I.call (ch := []) (Un.laid k2 hz hnn) (I.hok.laid k2 hz ⟨by rw [sizeLine_eq]; omega, out.toList, c, rv, hc'⟩) (by rw [g1]; exact I.bare) (fun _ z => nomatch z)
    refine ⟨.ref _, _, ?_, rfl, q _ hnn⟩
    have e : ({ s1 with heap := sortedHeap (s1.heap.push (seqObj "list" vs.toArray 0)) s1.heap.objs.size vs out } : Shared) = { s with heap := sortedHeap (s1.heap.push (seqObj "list" vs.toArray 0)) s1.heap.objs.size vs out, gens := s1.gens, drawn := s1.drawn, toks := s1.toks } := by
      rw [← o1]
    rw [e]
    exact J
  rcases q with ⟨ns, rfl, q⟩ | ⟨ns, rfl, q⟩
  · have hk : ∀ e ∈ es.toList, ∃ i t, e.2 = Value.int i t ∧ kOf e = Sum.inl i := fun e he => by
      obtain ⟨k, h1, _⟩ := g e he
      have hk : kOf e ∈ ns.map Sum.inl := memK_iff.mp ((hm _).mpr (List.mem_map_of_mem he))
      obtain ⟨i, _, e1⟩ := List.mem_map.mp hk
      have e2 : kOf e = k := by obtain ⟨i, v⟩ := e; exact kOf_is h1
      rw [← e2, ← e1] at h1
      obtain ⟨t, e3⟩ := Value.isInt_shape h1
      exact ⟨i, t, e3, e1.symm⟩
    have hI : IntsAre vs (vs.map iOf) := intsAre_of vs fun v hv => by
      obtain ⟨e, he, rfl⟩ := hmem v hv
      obtain ⟨i, t, e1, _⟩ := hk e he
      exact ⟨i, t, e1⟩
    have pk : ((vs.map iOf).map Sum.inl).Perm (es.toList.map kOf) := by
      have z := (pm.map iOf).map (Sum.inl : _ → Key)
      refine z.trans (List.Perm.of_eq ?_)
      rw [List.map_map, List.map_map]
      refine List.map_congr_left fun e he => ?_
      obtain ⟨i, t, e1, e2⟩ := hk e he
      rw [e2]
      show Sum.inl (iOf e.2) = _
      rw [e1] <;> rfl
    refine wpAny_bind (wpAny_holding (wpAny_call_entry slot_list_sort ⟨_, hoL, rfl⟩ entry_list_sort ((fun {P : PySem.Fin → Shared → Prop} (hk : ∀ (out : Array Value) (ns' : List Int), IntsAre out.toList ns' → ns'.Perm (vs.map iOf) → ns'.Pairwise (fun a b => ltI b a = false) → P (.done (.ret .none)) _) => list_sort_treeAny hoL hI hL fun out ns' a1 a2 a3 => hk out ns' a1 a2 (a3.imp fun h => by simp [ltI]; omega)) fun out ns' a1 a2 a3 => ⟨_, rfl, ?_⟩) (args_list_sort _)))
    have pn : (ns'.map Sum.inl).Perm (es.toList.map kOf) := (a2.map _).trans pk
    have nd' : ns'.Nodup := nodup_back pn nd
    have e0 : ns' = sortU ltI ns := uniqU slo_I (pw_strict slo_I a3 nd') (pw_sortU slo_I ns) fun z => by
      rw [mem_sortU slo_I]
      have e1 : z ∈ ns' ↔ Sum.inl z ∈ ns'.map (Sum.inl : _ → Key) := by simp
      have e2 : z ∈ ns ↔ Sum.inl z ∈ ns.map (Sum.inl : _ → Key) := by simp
      rw [e1, e2, pn.mem_iff, ← hm, memK_iff]
    subst e0
    refine wpAny_pure ⟨_, rfl, end_ out _ ?_ (vals_of_ints a1) q⟩
    have := pn.length_eq
    simp only [List.length_map, Array.length_toList] at this
    rw [List.length_map]
    omega
  · have hk : ∀ e ∈ es.toList, ∃ i t, e.2 = Value.str i t ∧ kOf e = Sum.inr i := fun e he => by
      obtain ⟨k, h1, _⟩ := g e he
      have hk : kOf e ∈ ns.map Sum.inr := memK_iff.mp ((hm _).mpr (List.mem_map_of_mem he))
      obtain ⟨i, _, e1⟩ := List.mem_map.mp hk
      have e2 : kOf e = k := by obtain ⟨i, v⟩ := e; exact kOf_is h1
      rw [← e2, ← e1] at h1
      obtain ⟨t, e3⟩ := Value.isStrOf_shape h1
      exact ⟨i, t, e3, e1.symm⟩
    have hI : StrsAre vs (vs.map sOf) := strsAre_of vs fun v hv => by
      obtain ⟨e, he, rfl⟩ := hmem v hv
      obtain ⟨i, t, e1, _⟩ := hk e he
      exact ⟨i, t, e1⟩
    have pk : ((vs.map sOf).map Sum.inr).Perm (es.toList.map kOf) := by
      have z := (pm.map sOf).map (Sum.inr : _ → Key)
      refine z.trans (List.Perm.of_eq ?_)
      rw [List.map_map, List.map_map]
      refine List.map_congr_left fun e he => ?_
      obtain ⟨i, t, e1, e2⟩ := hk e he
      rw [e2]
      show Sum.inr (sOf e.2) = _
      rw [e1] <;> rfl
    refine wpAny_bind (wpAny_holding (wpAny_call_entry slot_list_sort ⟨_, hoL, rfl⟩ entry_list_sort (list_sort_treeKAny strKind_oneLt hoL hI.keysOf (fun v1 v2 rest e => keyKind_strs (by rw [← e]; exact hI)) hL fun st' hp hs => ⟨_, rfl, ?_⟩) (args_list_sort _)))
    obtain ⟨ns', a1, a2, a3⟩ := sorted_out_str hI hp hs
    have a3 := pw_sortedS _ a3
    have pn : (ns'.map Sum.inr).Perm (es.toList.map kOf) := (a2.map _).trans pk
    have nd' : ns'.Nodup := nodup_back pn nd
    have e0 : ns' = sortU ltS ns := uniqU slo_S (pw_strict slo_S a3 nd') (pw_sortU slo_S ns) fun z => by
      rw [mem_sortU slo_S]
      have e1 : z ∈ ns' ↔ Sum.inr z ∈ ns'.map (Sum.inr : _ → Key) := by simp
      have e2 : z ∈ ns ↔ Sum.inr z ∈ ns.map (Sum.inr : _ → Key) := by simp
      rw [e1, e2, pn.mem_iff, ← hm, memK_iff]
    subst e0
    refine wpAny_pure ⟨_, rfl, end_ _ _ ?_ (vals_of_strsA a1) q⟩
    have := pn.length_eq
    simp only [List.length_map, Array.length_toList] at this
    rw [List.length_map]
    omega
end
end Pd
set_option maxHeartbeats 2000000
namespace Pd
open PySem PySem.Spec PyProof.Rows L2
def bsub : Bt → Bt → Bool
  | .bool, .int => true
  | a, b => decide (a = b)
theorem kitB_bt (a b : Bt) (h : b ≠ .non) : kitB a.name b.name = some (bsub a b) := by
  cases a <;> cases b <;> first | (exact absurd rfl h) | decide +kernel
inductive Kd where
  | bt (b : Bt)
  | own (c : Nat)
def kdA (M : Mem) : Av → Option Kd
  | .non => some (.bt .non)
  | .bl _ => some (.bt .bool)
  | .int _ => some (.bt .int)
  | .str _ => some (.bt .str)
  | .lst _ => some (.bt .list)
  | .fz _ => some (.bt .list)
  | .tup _ => some (.bt .tuple)
  | .obj c _ _ => some (.own c)
  | .ref n => (match M[n]? with
    | some (some (.lst _)) => some (.bt .list)
    | some (some (.ins c _)) => some (.own c)
    | _ => none)
  | _ => none
def isiK (k : Kd) : Av → Option Bool
  | .ty .non => none
  | .ty b => (match k with
    | .bt a => some (bsub a b)
    | .own _ => some false)
  | .cls c => (match k with
    | .bt _ => some false
    | .own d => some (Nat.beq d c))
  | _ => none
def Kd.val (Z : Sc) : Kd → Value
  | .bt b => .type b.name
  | .own c => .ref (Z.cl c)
structure IsiF (Z : Sc) : Prop where
  bo : ∀ (a : Bt) k, Z.has k → PySem.W.kitOne Z.K (.type a.name) (.ref (Z.cl k)) = some false
  ob : ∀ k (b : Bt), Z.has k → b ≠ .non → PySem.W.kitOne Z.K (.ref (Z.cl k)) (.type b.name) = some false
  oo : ∀ k j, Z.has k → Z.has j → PySem.W.kitOne Z.K (.ref (Z.cl k)) (.ref (Z.cl j)) = some (Nat.beq k j)
  a1 : ∀ k, Z.has k → PySem.W.findIn Z.K (.ref (Z.cl k)) "__class__" = some (some (.builtin "object.__class__"))
  a2 : PySem.W.specialIn Z.K (.builtin "object.__class__") "__get__" = some (some (.builtin "getset_descriptor.__get__"))
  a3 : PySem.W.takesIn Z.K (.builtin "object.__class__") = some true
  a4 : ∀ k, Z.has k → PySem.W.mroIn Z.K (Z.cl k) (.type "object") = some true
section
variable {Z : Sc} {W : WX} {X : Cx}
theorem sql_ty {K : PySem.W.Frag} {H : Hp} {a : Addr} {vs : List V} (h : SqL K H a vs) : TyX K H (.ref a) (.type "list") := by
  rcases h with (h | ⟨o, h⟩) | ⟨o, us, n, h, hc, _⟩
  · exact .base (.lst h)
  · exact .base (.frz h)
  · exact .kList h hc
theorem sqt_ty {K : PySem.W.Frag} {H : Hp} {a : Addr} {vs : List V} (h : SqT K H a vs) : TyX K H (.ref a) (.type "tuple") := by
  rcases h with (h | ⟨o, h⟩) | ⟨o, us, n, h, hc, _⟩
  · exact .base (.tup h)
  · exact .fTuple h
  · exact .kTuple h hc
theorem kd_ins {H : Hp} {p dx : Addr} {k : Nat} {fs : List (Str × V)} (hC : ClsFacts Z) (F : IsiF Z) (hk : Z.has k) (h : H p = some (.ins (Z.cl k) dx fs)) : TyX Z.K H (.ref p) (.ref (Z.cl k)) :=
  .base (.ins h (hC.cls k hk) (F.a1 k hk) F.a2 F.a3 (F.a4 k hk))
theorem kd_rep {c : Rc} {M : Mem} {H : Hp} {x : V} {a : Av} {k : Kd} (hC : ClsFacts Z) (F : IsiF Z) (s : Sim Z c M H) (r : Rep Z c x a) (h : kdA M a = some k) : TyX Z.K H x (k.val Z) ∧ ∀ c, k = .own c → Z.has c := by
  cases r with
  | non => cases h; exact ⟨.base .non, fun _ e => nomatch e⟩
  | bl b => cases h; exact ⟨.base (.bl b), fun _ e => nomatch e⟩
  | int b => cases h; exact ⟨.base (.int b), fun _ e => nomatch e⟩
  | str b => cases h; exact ⟨.base (.str b), fun _ e => nomatch e⟩
  | lst h1 h2 => cases h; exact ⟨.base (.lst (s.g _ _ h1)), fun _ e => nomatch e⟩
  | tup h1 h2 => cases h; exact ⟨sqt_ty (same_t s.g h1), fun _ e => nomatch e⟩
  | fz h1 h2 => cases h; exact ⟨sql_ty (same_l s.g h1), fun _ e => nomatch e⟩
  | obj hk h1 h2 h3 => cases h; exact ⟨kd_ins hC F hk (s.g _ _ h1), fun _ e => by cases e; exact hk⟩
  | @ref n hn =>
    cases q : M[n]? with
    | none => simp [kdA, q] at h
    | some o =>
      cases o with
      | none => simp [kdA, q] at h
      | some o =>
        obtain ⟨ho, h1, h2, h3⟩ := s.m n _ q
        cases o with
        | lst ys =>
          simp [kdA, q] at h
          subst h
          cases ho with
          | lst vs => exact ⟨.base (.lst h1), fun _ e => nomatch e⟩
          | _ => exact h2.elim
        | ins k fs =>
          simp [kdA, q] at h
          subst h
          cases ho with
          | ins C dx gs =>
            obtain ⟨⟨rfl, hk⟩, _⟩ := h2
            exact ⟨kd_ins hC F hk h1, fun _ e => by cases e; exact hk⟩
          | _ => exact h2.elim
        | dct ks vs => simp [kdA, q] at h
  | dct _ _ _ => cases h
  | ty n => cases h
  | cls hk => cases h
theorem isi_one {c : Rc} {k : Kd} {v : V} {a : Av} {b : Bool} (F : IsiF Z) (hk : ∀ c, k = .own c → Z.has c) (r : Rep Z c v a) (h : isiK k a = some b) : ∃ u, ClsV v u ∧ PySem.W.kitOne Z.K (k.val Z) u = some b := by
  cases r with
  | ty n =>
    refine ⟨_, .ty _, ?_⟩
    have hn : n ≠ .non := fun e => by subst e; cases h
    cases k with
    | bt a =>
      have : isiK (.bt a) (.ty n) = some (bsub a n) := by cases n <;> first | rfl | exact absurd rfl hn
      rw [this] at h
      cases h
      exact kit_ty (kitB_bt a n hn)
    | own d =>
      have : isiK (.own d) (.ty n) = some false := by cases n <;> first | rfl | exact absurd rfl hn
      rw [this] at h
      cases h
      exact F.ob d n (hk d rfl) hn
  | cls hc =>
    refine ⟨_, .own _, ?_⟩
    cases k with
    | bt a => cases h; exact F.bo a _ hc
    | own d => cases h; exact F.oo d _ (hk d rfl) hc
  | _ => cases h
def opIsi (as : List Av) (M : Mem) : Res Av := match as with
  | [x, c] => (match kdA M x with
    | some k => (match isiK k c with
      | some b => .ok (.bl b) M
      | none => .bad)
    | none => .bad)
  | _ => .bad
theorem cs_isi (hC : ClsFacts Z) (F : IsiF Z) : CallS Z W (rIsi Z.K) opIsi := by
  intro σ c M H xs as Q s r h
  unfold opIsi at h
  split at h
  · cases r with | cons r1 r2 =>
    cases r2 with | cons r2 r3 =>
    cases r3
    split at h
    · rename_i k hk
      obtain ⟨t1, t2⟩ := kd_rep hC F s r1 hk
      split at h
      · rename_i b hb
        obtain ⟨u, u1, u2⟩ := isi_one F t2 r2 hb
        exact ⟨_, _, _, u, b, rfl, u1, t1, u2, h.here s (.bl b)⟩
      · exact h.elim
    · exact h.elim
  · exact h.elim
def isiAny (k : Kd) : List Av → Option Bool
  | [] => some false
  | a :: as => (match isiK k a with
    | some true => some true
    | some false => isiAny k as
    | none => none)
theorem cls_all {c : Rc} {k : Kd} (F : IsiF Z) (hk : ∀ c, k = .own c → Z.has c) : ∀ {vs : List V} {as : List Av}, Reps Z c vs as → as.all (fun a => (isiK k a).isSome) = true → ∃ us, Paired ClsV vs us ∧ ∀ b, isiAny k as = some b → PySem.W.kitAny Z.K (k.val Z) us = some b
  | _, _, .nil, _ => ⟨[], .nil, fun b h => by cases h; exact kitAny_nil⟩
  | _, _, .cons (x := a) (xs := as) r rs, h => by
    simp only [List.all_cons, Bool.and_eq_true] at h
    obtain ⟨us, p1, p2⟩ := cls_all F hk rs h.2
    cases q : isiK k a with
    | none => rw [q] at h; simp at h
    | some b0 =>
      obtain ⟨u, u1, u2⟩ := isi_one F hk r q
      refine ⟨u :: us, .cons u1 p1, fun b hb => ?_⟩
      unfold isiAny at hb
      rw [q] at hb
      cases b0 with
      | true => cases hb; exact kitAny_cons u2 (fun z => nomatch z) fun _ => rfl
      | false => exact kitAny_cons u2 (fun _ => p2 b hb) fun z => nomatch z
def eIsiT (fx : Ev) (g : Ea) : Ev := fun e M => (fx e M).bind fun x M1 => (g e M1).bind fun cs M2 => match kdA M2 x with
  | some k => if cs.all (fun a => (isiK k a).isSome) && szOk cs.length then (match isiAny k cs with
    | some b => .ok (.bl b) M2
    | none => .bad) else .bad
  | none => .bad
theorem se_isiT {ex : Expr} {es : List Expr} {fx : Ev} {g : Ea} {p pos pos' : Pos} {k : Nat} (hK : X.K = Z.K) (hC : ClsFacts Z) (F : IsiF Z) (hg : Gl X "isinstance") (hm : X.mg "isinstance" = none) (hx : SE Z W X ex fx) (ha : SA Z W X es g) (hs : isStar ex = false) :
    SE Z W X (.Call (.Name "isinstance" p) [ex, .Tuple es k pos'] [] pos) (eIsiT fx g) := by
  have q := pe_callB (p := p) (pos := pos) (call_isiT (X := X)) hg hm (by rfl) (pa_cons hx (pa_cons (pe_tup (x1 := k) (pos := pos') ha) pa_nil (star_cons (by rfl))) (star_cons hs)) (by decide) (by decide) (star_cons hs) (star_any (by rfl))
  rw [hK] at q
  refine q.imp fun σ H Q ⟨c, e, M, a, h⟩ => ?_
  refine step (R1 := Rep Z) a h fun c1 x v M1 H1 l1 a1 r1 h1 => ?_
  refine step (R1 := Reps Z) a1 h1 fun c2 ys cs M2 H2 l2 a2 r2 h2 => ?_
  split at h2
  · rename_i k' hk
    split at h2
    · rename_i hz
      simp only [Bool.and_eq_true] at hz
      split at h2
      · rename_i b hb
        refine ⟨by rw [r2.length]; exact szOk_le hz.2, fun p hp => ?_⟩
        have s3 := a2.s.lay (o := .tup ys) hp
        have le3 : Le c2 (c2.lay p (.tup ys)) := Le.lay (a2.s.g.free hp)
        obtain ⟨t1, t2⟩ := kd_rep hC F s3 ((r1.mono l2).mono le3) hk
        obtain ⟨us, u1, u2⟩ := cls_all F t2 r2 hz.1
        exact ⟨x, p, ys, _, us, b, rfl, upd_same, u1, t1, u2 b hb, h2 _ _ _ le3 s3 (.bl b)⟩
      · exact h2.elim
    · exact h2.elim
  · exact h2.elim
end
end Pd
set_option maxHeartbeats 2000000
namespace Pd
open PySem PySem.Spec L2
section
variable {Z : Sc} {W : WX} {X : Cx}
def isLA (M : Mem) (a : Av) : Bool := (asR M a).isSome
def isSA : Av → Bool
  | .str _ => true
  | _ => false
theorem tyV_l {c : Rc} {M : Mem} {H : Hp} {x : V} {a : Av} (s : Sim Z c M H) (r : Rep Z c x a) (h : isLA M a = true) : tyV Z.K "list" x H := by
  unfold isLA at h
  cases q : asR M a with
  | none => rw [q] at h; cases h
  | some xs =>
    obtain ⟨l, vs, rfl, h1, _⟩ := asR_rep s r q
    exact .inl ⟨rfl, vs, h1⟩
theorem tyV_s {c : Rc} {H : Hp} {x : V} {a : Av} (r : Rep Z c x a) (h : isSA a = true) : tyV Z.K "str" x H := by
  cases r <;> first | rfl | cases h
def isTA (t : Bool) (M : Mem) (a : Av) : Bool := match t with
  | true => isLA M a
  | false => isSA a
abbrev Mop := Av → List Av → Mem → Res Av
def eBM (t : Bool) (op : Mop) (fo : Ev) (g : Ea) : Ev := fun e M => (fo e M).bind fun o M1 => if isTA t M1 o then (g e M1).bind fun as M2 => op o as M2 else .bad
def BmS (Z : Sc) (W : WX) (r : V → List V → Hp → VK → Prop) (op : Mop) : Prop :=
  ∀ (σ : St) (c : Rc) (M : Mem) (H : Hp) (x : V) (xs : List V) (a : Av) (as : List Av) (Q : VK), Sim Z c M H → Rep Z c x a → Reps Z c xs as → Okk Z W σ c (Rep Z) Q (op a as M) → r x xs H Q
theorem imp_bm {t : Bool} {r : V → List V → Hp → VK → Prop} {op : Mop} {fo : Ev} {g : Ea} (ho : BmS Z W r op) : ∀ σ H Q, T Z W (Rep Z) (eBM t op fo g) σ H Q → tBM Z.K (if t then "list" else "str") r (T Z W (Rep Z) fo) (T Z W (Reps Z) g) σ H Q := by
  intro σ H Q ⟨c, e, M, a, h⟩
  refine step (R1 := Rep Z) a h fun c1 x v M1 H1 l1 a1 r1 h1 => ?_
  split at h1
  · rename_i ht
    refine ⟨?_, step (R1 := Reps Z) a1 h1 fun c2 xs as M2 H2 l2 a2 r2 h2 => ho σ c2 M2 H2 x xs v as Q a2.s (r1.mono l2) r2 h2⟩
    cases t with
    | true => exact tyV_l a1.s r1 ht
    | false => exact tyV_s r1 ht
  · exact h1.elim
theorem imp_bm0 {t : Bool} {r : V → List V → Hp → VK → Prop} {op : Mop} {fo : Ev} (ho : BmS Z W r op) : ∀ σ H Q, T Z W (Rep Z) (eBM t op fo aNil) σ H Q → tBM0 Z.K (if t then "list" else "str") r (T Z W (Rep Z) fo) σ H Q := by
  intro σ H Q ⟨c, e, M, a, h⟩
  refine step (R1 := Rep Z) a h fun c1 x v M1 H1 l1 a1 r1 h1 => ?_
  split at h1
  · rename_i ht
    refine ⟨?_, ho σ c1 M1 H1 x [] v [] Q a1.s r1 .nil h1⟩
    cases t with
    | true => exact tyV_l a1.s r1 ht
    | false => exact tyV_s r1 ht
  · exact h1.elim
theorem few_of {e : Expr} {es : List Expr} {pos : Pos} {env : PySem.Env} (h : noStar (e :: es) = true) (hn : Nat.blt (e :: es).length 20 = true) : ((backTo pos (starEach (e :: es) env)).all (fun x => !x.1) && (backToKw pos (keywordEach [] env)).all (fun x => x.1.isSome)
      && decide ((e :: es).length + ([] : List Keyword).length + (if ([] : List Keyword).isEmpty then 0 else 1) < 30)) = true := by
  rw [star_all h]
  have h2 : (e :: es).length < 20 := Nat.le_of_ble_eq_true hn
  have : decide ((e :: es).length + ([] : List Keyword).length + (if ([] : List Keyword).isEmpty then 0 else 1) < 30) = true := decide_eq_true (by show (e :: es).length + 0 + (if true = true then 0 else 1) < 30; simp only [if_true]; omega)
  rw [this]; rfl
theorem noStar_cons {e : Expr} {es : List Expr} (h : noStar (e :: es) = true) : isStar e = false ∧ noStar es = true := by
  simpa [noStar] using h
theorem se_bm {t : Bool} {r : V → List V → Hp → VK → Prop} {op : Mop} {fo : Ev} {g : Ea} {o e : Expr} {es : List Expr} {name : Str} {id : String} {apos cpos : Pos} (hK : X.K = Z.K) (pa : PlainAttrs (if t then "list" else "str")) (slot : Slot (if t then "list" else "str") name id) (hty : typeOf (.builtin id) = pure (.type "method_descriptor"))
    (hm : MtR X id r) (ho : BmS Z W r op) (hf : SE Z W X o fo) (ha : SA Z W X (e :: es) g) (hs : isSup o = false) (hl : (apos.endLine == cpos.line) = true) (hst : noStar (e :: es) = true) (hn : Nat.blt (e :: es).length 20 = true) :
    SE Z W X (.Call (.Attribute o name apos) (e :: es) [] cpos) (eBM t op fo g) := by
  have q := pe_bm (apos := apos) (cpos := cpos) pa slot hty hm hf ha (base_of hs) (few_of hst hn) hl (star_cons (noStar_cons hst).1) (star_any (noStar_cons hst).2)
  rw [hK] at q
  exact q.imp (imp_bm ho)
theorem se_bm0 {t : Bool} {r : V → List V → Hp → VK → Prop} {op : Mop} {fo : Ev} {o : Expr} {name : Str} {id : String} {apos cpos : Pos} (hK : X.K = Z.K) (pa : PlainAttrs (if t then "list" else "str")) (slot : Slot (if t then "list" else "str") name id) (hty : typeOf (.builtin id) = pure (.type "method_descriptor"))
    (hm : MtR X id r) (ho : BmS Z W r op) (hf : SE Z W X o fo) (hs : isSup o = false) (hl : (apos.endLine == cpos.line) = true) :
    SE Z W X (.Call (.Attribute o name apos) [] [] cpos) (eBM t op fo aNil) := by
  have q := pe_bm0 (apos := apos) (cpos := cpos) pa slot hty hm hf (base_of hs) hl
  rw [hK] at q
  exact q.imp (imp_bm0 ho)
def chL (a : Av) (M : Mem) (f : Nat → List Av → Option (Av × List Av)) : Res Av := match a with
  | .ref n => (match M[n]? with
    | some (some (.lst xs)) => (match f n xs with
      | some (v, ys) => .ok v (M.set n (some (.lst ys)))
      | none => .bad)
    | _ => .bad)
  | _ => .bad
theorem chL_rep {σ : St} {c : Rc} {M : Mem} {H : Hp} {x : V} {a : Av} {Q : VK} {f : Nat → List Av → Option (Av × List Av)} (s : Sim Z c M H) (r : Rep Z c x a) (h : Okk Z W σ c (Rep Z) Q (chL a M f)) :
    ∃ n l xs vs v ys, a = .ref n ∧ x = .ref l ∧ H l = some (.lst vs) ∧ Reps Z c vs xs ∧ n < c.L ∧ f n xs = some (v, ys) ∧ ∀ z ws, Rep Z c z v → Reps Z c ws ys → Q z (upd H l (.lst ws)) := by
  cases r with
  | @ref n hn =>
    cases q : M[n]? with
    | none => simp only [chL, q] at h; exact h.elim
    | some o =>
      cases o with
      | none => simp only [chL, q] at h; exact h.elim
      | some o =>
        cases o with
        | ins k fs => simp only [chL, q] at h; exact h.elim
        | dct ks vs => simp only [chL, q] at h; exact h.elim
        | lst xs =>
          simp only [chL, q] at h
          obtain ⟨ho, h1, h2, h3⟩ := s.m n _ q
          cases ho with
          | lst vs =>
            cases q2 : f n xs with
            | none => rw [q2] at h; exact h.elim
            | some p =>
              obtain ⟨v, ys⟩ := p
              rw [q2] at h
              refine ⟨n, _, xs, vs, v, ys, rfl, rfl, h1, h2, hn, q2, fun z ws rz rw' => ?_⟩
              exact h c z _ (Le.refl c) (s.put q (ho := .lst ws) rw') rz
          | _ => exact h2.elim
  | _ => exact h.elim
def opAppend : Mop := fun a as M => match as with
  | [y] => chL a M fun n xs => if szOk xs.length then some (.non, xs ++ [y]) else none
  | _ => .bad
theorem bm_append : BmS Z W rAppend opAppend := by
  intro σ c M H x xs a as Q s r rs h
  unfold opAppend at h
  split at h
  · cases rs with | cons r1 r2 =>
    cases r2
    obtain ⟨n, l, zs, vs, v, ys, rfl, rfl, h1, h2, hn, hf, k⟩ := chL_rep s r h
    split at hf
    · rename_i hz
      cases hf
      exact ⟨l, vs, _, rfl, rfl, h1, by rw [h2.length]; exact szOk_lt hz, k _ _ .non (h2.append (.cons r1 .nil))⟩
    · cases hf
  · exact h.elim
def opExtend : Mop := fun a as M => match as with
  | [b] => (match asL M b with
    | some zs => chL a M fun n xs => if szOk (xs.length + zs.length) then some (.non, xs ++ zs) else none
    | none => .bad)
  | _ => .bad
theorem bm_extend : BmS Z W rExtend opExtend := by
  intro σ c M H x xs a as Q s r rs h
  unfold opExtend at h
  split at h
  · cases rs with | cons r1 r2 =>
    cases r2
    split at h
    · rename_i zs hzs
      obtain ⟨b, ws, rfl, hb, rb⟩ := asL_rep s r1 hzs
      obtain ⟨n, l, us, vs, v, ys, rfl, rfl, h1, h2, hn, hf, k⟩ := chL_rep s r h
      split at hf
      · rename_i hz
        cases hf
        exact ⟨l, b, vs, ws, rfl, rfl, h1, hb, by rw [h2.length, rb.length]; exact szOk_le hz, k _ _ .non (h2.append rb)⟩
      · cases hf
    · exact h.elim
  · exact h.elim
def opPop : Mop := fun a as M => match as with
  | [] => chL a M fun _ xs => (xs[xs.length - 1]?).map fun y => (y, xs.dropLast)
  | _ => .bad
theorem Reps.dropLast {c : Rc} {vs : List V} {xs : List Av} (r : Reps Z c vs xs) : Reps Z c vs.dropLast xs.dropLast := by
  rw [List.dropLast_eq_take, List.dropLast_eq_take, r.length]
  exact r.take _
theorem bm_pop : BmS Z W rPop opPop := by
  intro σ c M H x xs a as Q s r rs h
  unfold opPop at h
  split at h
  · cases rs
    obtain ⟨n, l, us, vs, v, ys, rfl, rfl, h1, h2, hn, hf, k⟩ := chL_rep s r h
    cases q : us[us.length - 1]? with
    | none => rw [q] at hf; cases hf
    | some y =>
      rw [q] at hf
      cases hf
      obtain ⟨u, q1, q2⟩ := h2.get q
      refine ⟨l, vs, u, rfl, rfl, h1, by rw [h2.length]; exact q1, k _ _ q2 h2.dropLast⟩
  · exact h.elim
def opPopAt : Mop := fun a as M => match as with
  | [.int i] => chL a M fun _ xs => if decide (0 ≤ i) && decide (i < (xs.length : Int)) && szOk xs.length then (xs[i.toNat]?).map fun y => (y, xs.eraseIdx i.toNat) else none
  | _ => .bad
theorem Reps.erase {c : Rc} : ∀ {vs : List V} {xs : List Av} (i : Nat), Reps Z c vs xs → Reps Z c (vs.eraseIdx i) (xs.eraseIdx i)
  | _, _, _, .nil => .nil
  | _, _, 0, .cons _ t => t
  | _, _, i + 1, .cons r t => .cons r (Reps.erase i t)
theorem bm_popAt : BmS Z W rPopAt opPopAt := by
  intro σ c M H x xs a as Q s r rs h
  unfold opPopAt at h
  split at h
  · rename_i i
    cases rs with | cons r1 r2 =>
    cases r2; cases r1
    obtain ⟨n, l, us, vs, v, ys, rfl, rfl, h1, h2, hn, hf, k⟩ := chL_rep s r h
    split at hf
    · rename_i hz
      simp only [Bool.and_eq_true, decide_eq_true_eq] at hz
      obtain ⟨⟨hz1, hz2⟩, hz3⟩ := hz
      have hz4 : us.length ≤ 100000 := Nat.le_of_ble_eq_true hz3
      cases q : us[i.toNat]? with
      | none => rw [q] at hf; cases hf
      | some y =>
        rw [q] at hf
        cases hf
        obtain ⟨u, q1, q2⟩ := h2.get q
        refine ⟨l, vs, i, i.toNat, u, rfl, rfl, h1, by omega, by omega, ?_, q1, k _ _ q2 (h2.erase _)⟩
        have hl := h2.length
        unfold seqIndex?
        have e1 : (decide (0 ≤ i) && decide (i < (vs.length : Int))) = true := by
          simp only [Bool.and_eq_true, decide_eq_true_eq]
          omega
        simp only [if_neg (show ¬ i < 0 by omega), e1, if_true]
    · cases hf
  · exact h.elim
def opSplit : Mop := fun a as M => match a, as with
  | .str x, [.str y] => if !(y.length == 0) && szOk (x.length + 2) then .ok (.lst ((Txt.split x y).map .str)) M else .bad
  | _, _ => .bad
theorem bm_split : BmS Z W (fun x xs H Q => ∃ a b, x = .str a ∧ xs = [.str b] ∧ (b.length == 0) = false ∧ a.length + 2 ≤ sizeLine ∧ rNewStrs (Txt.split a b) H Q) opSplit := by
  intro σ c M H x xs a as Q s r rs h
  unfold opSplit at h
  split at h
  · cases r
    cases rs with | cons r1 r2 =>
    cases r2; cases r1
    split at h
    · rename_i hz
      simp only [Bool.and_eq_true, Bool.not_eq_true'] at hz
      exact ⟨_, _, rfl, rfl, hz.1, szOk_le hz.2, fun p hp => h.lst s (reps_strs _) hp⟩
    · exact h.elim
  · exact h.elim
def opJoin : Mop := fun a as M => match a, as with
  | .str x, [b] => (match asQ M b with
    | some zs => (match strsA zs with
      | some ys => if szOk ((ys.map (·.length)).sum + ys.length * x.length) then .ok (.str (Txt.join x ys)) M else .bad
      | none => .bad)
    | none => .bad)
  | _, _ => .bad
theorem bm_join : BmS Z W (fun x xs H Q => ∃ a p, ∃ ys : List Str, x = .str a ∧ xs = [.ref p] ∧ (SqL Z.K H p (ys.map V.str) ∨ SqT Z.K H p (ys.map V.str)) ∧
    (ys.map (·.length)).sum + ys.length * a.length ≤ 16777216 ∧ Q (.str (Txt.join a ys)) H) opJoin := by
  intro σ c M H x xs a as Q s r rs h
  unfold opJoin at h
  split at h
  · cases r
    cases rs with | cons r1 r2 =>
    cases r2
    split at h
    · rename_i zs hz
      obtain ⟨l, vs, rfl, q1, q2⟩ := asQ_rep s r1 hz
      split at h
      · rename_i ys hy
        have e := strs_rep q2 hy
        subst e
        split at h
        · rename_i hw
          have : _ ≤ 100000 := Nat.le_of_ble_eq_true hw
          exact ⟨_, l, ys, rfl, rfl, q1, Nat.le_trans this (by decide), h.here s (.str _)⟩
        · exact h.elim
      · exact h.elim
    · exact h.elim
  · exact h.elim
end
end Pd
set_option maxHeartbeats 2000000
namespace Pd
open PySem PySem.Spec L2
section
variable {Z : Sc} {W : WX} {X : Cx}
def fmtA : Av → Option Str
  | .str y => if szOk y.length then some y else none
  | .int i => if Nat.blt i.natAbs.log2 1920 then some (toString i) else none
  | _ => none
def eFmt (f : Ev) : Ev := fun e M => (f e M).bind fun a M1 => match fmtA a with
  | some y => .ok (.str y) M1
  | none => .bad
theorem se_fmt {ex : Expr} {f : Ev} {pos : Pos} (h : SE Z W X ex f) : SE Z W X (.FormattedValue ex (-1) none pos) (eFmt f) := by
  refine (pe_fmt h).imp fun σ H Q ⟨c, e, M, a, q⟩ => ?_
  refine step (R1 := Rep Z) a q fun c1 x v M1 H1 l1 a1 r1 h1 => ?_
  split at h1
  · rename_i y hy
    cases r1 with
    | str z =>
      simp only [fmtA] at hy
      split at hy
      · rename_i hz; cases hy; exact .inl ⟨_, rfl, szOk_le hz, h1.here a1.s (.str _)⟩
      · cases hy
    | int i =>
      simp only [fmtA] at hy
      split at hy
      · rename_i hz; cases hy; exact .inr ⟨i, rfl, Nat.le_of_ble_eq_true hz, h1.here a1.s (.str _)⟩
      · cases hy
    | _ => cases hy
  · exact h1.elim
def eJs : List Ev → Str → Env → Mem → Res Str
  | [], acc, _, M => .ok acc M
  | f :: fs, acc, e, M => (f e M).bind fun a M1 => match a with
    | .str y => if szOk (acc ++ y).length then eJs fs (acc ++ y) e M1 else .bad
    | _ => .bad
def eJoined (fs : List Ev) : Ev := fun e M => (eJs fs Str.empty e M).bind fun z M1 => .ok (.str z) M1
inductive SJ (Z : Sc) (W : WX) (X : Cx) : List Expr → List Ev → Prop where
  | nil : SJ Z W X [] []
  | cons {e : Expr} {f : Ev} {es : List Expr} {fs : List Ev} (h : SE Z W X e f) (r : SJ Z W X es fs) : SJ Z W X (e :: es) (f :: fs)
theorem SJ.pj {es : List Expr} {fs : List Ev} (h : SJ Z W X es fs) : PJ X es (fs.map fun f => T Z W (Rep Z) f) := by
  induction h with
  | nil => exact .nil
  | cons h _ ih => exact .cons h ih
theorem js_run : ∀ (fs : List Ev) (acc : Str) (σ : St) (H : Hp) (Q : Str → Hp → Prop) (c : Rc) (e : Env) (M : Mem), At Z c e M σ H → Okk Z W σ c (fun _ (x y : Str) => x = y) Q (eJs fs acc e M) → tJs (fs.map fun f => T Z W (Rep Z) f) acc σ H Q
  | [], acc, σ, H, Q, c, e, M, a, h => h.here a.s rfl
  | f :: fs, acc, σ, H, Q, c, e, M, a, h => by
    refine step (R1 := Rep Z) a h fun c1 x v M1 H1 l1 a1 r1 h1 => ?_
    cases r1 with
    | str y =>
      simp only at h1
      split at h1
      · rename_i hz
        exact ⟨y, rfl, szOk_le hz, js_run fs (acc ++ y) σ H1 Q c1 e M1 a1 h1⟩
      · exact h1.elim
    | _ => exact h1.elim
theorem se_joined {v1 v2 : Expr} {rest : List Expr} {fs : List Ev} {pos : Pos} (h : SJ Z W X (v1 :: v2 :: rest) fs) : SE Z W X (.JoinedStr (v1 :: v2 :: rest) pos) (eJoined fs) := by
  refine (pe_joined h.pj).imp fun σ H Q ⟨c, e, M, a, q⟩ => ?_
  refine js_run fs Str.empty σ H _ c e M a ?_
  unfold eJoined at q
  cases hf : eJs fs Str.empty e M with
  | bad => rw [hf] at q; exact q.elim
  | exc k fs M' => rw [hf] at q; exact q
  | ok z M1 => rw [hf] at q; exact fun c' x H' l s r => by subst r; exact q c' _ H' l s (.str _)
theorem se_joined1 {v : Expr} {f : Ev} {pos : Pos} (h : SE Z W X v f) : SE Z W X (.JoinedStr [v] pos) f := pe_joined1 h
def keysA : List Av → Option (List Key)
  | [] => some []
  | .int i :: r => (keysA r).map (Sum.inl i :: ·)
  | .str x :: r => (keysA r).map (Sum.inr x :: ·)
  | _ => none
theorem keys_rep {c : Rc} : ∀ {vs : List V} {xs : List Av} {ks : List Key}, Reps Z c vs xs → keysA xs = some ks → vs = ks.map kV
  | _, _, _, .nil, h => by cases h; rfl
  | _, _, ks, .cons (xs := xs) r rs, h => by
    cases r with
    | int i =>
      cases q : keysA xs with
      | none => simp [keysA, q] at h
      | some js => simp [keysA, q] at h; subst h; rw [keys_rep rs q]; rfl
    | str x =>
      cases q : keysA xs with
      | none => simp [keysA, q] at h
      | some js => simp [keysA, q] at h; subst h; rw [keys_rep rs q]; rfl
    | _ => cases h
def dedup : List Key → List Key
  | [] => []
  | k :: ks => if memK (dedup ks) k then dedup ks else k :: dedup ks
theorem dedup_mem {j : Key} : ∀ {ks : List Key}, j ∈ dedup ks ↔ j ∈ ks
  | [] => Iff.rfl
  | k :: ks => by
    unfold dedup
    split
    · rename_i h
      rw [dedup_mem]
      refine ⟨List.mem_cons_of_mem _, fun z => ?_⟩
      rcases List.mem_cons.mp z with e | z
      · rw [e]; exact dedup_mem.mp (memK_iff.mp h)
      · exact z
    · rw [List.mem_cons, List.mem_cons, dedup_mem]
theorem dedup_nodup : ∀ ks : List Key, (dedup ks).Nodup
  | [] => List.Pairwise.nil
  | k :: ks => by
    unfold dedup
    split
    · exact dedup_nodup ks
    · rename_i h
      exact List.nodup_cons.mpr ⟨fun z => h (memK_iff.mpr z), dedup_nodup ks⟩
def small1k (n : Nat) : Bool := Nat.ble n 1000
def opLenSet (as : List Av) (M : Mem) : Res Av := match as with
  | [a] => (match asQ M a with
    | some xs => (match keysA xs with
      | some ks => if small1k ks.length then .ok (.int ((dedup ks).length : Nat)) M else .bad
      | none => .bad)
    | none => .bad)
  | _ => .bad
def opSortSet (as : List Av) (M : Mem) : Res Av := match as with
  | [a] => (match asQ M a with
    | some xs => if small1k xs.length then (match intsA xs with
      | some ns => .ok (.lst ((sortU ltI ns).map .int)) M
      | none => (match strsA xs with
        | some ns => .ok (.lst ((sortU ltS ns).map .str)) M
        | none => .bad)) else .bad
    | none => .bad)
  | _ => .bad
theorem keys_ints : ∀ {xs : List Av} {ns : List Int}, intsA xs = some ns → keysA xs = some (ns.map Sum.inl)
  | [], _, h => by cases h; rfl
  | .int i :: xs, ns, h => by
    unfold intsA at h
    cases q : intsA xs with
    | none => rw [q] at h; cases h
    | some js => rw [q] at h; cases h; simp [keysA, keys_ints q]
  | .non :: _, _, h => by cases h
  | .bl _ :: _, _, h => by cases h
  | .str _ :: _, _, h => by cases h
  | .lst _ :: _, _, h => by cases h
  | .tup _ :: _, _, h => by cases h
  | .fz _ :: _, _, h => by cases h
  | .obj _ _ _ :: _, _, h => by cases h
  | .ref _ :: _, _, h => by cases h
  | .ty _ :: _, _, h => by cases h
  | .cls _ :: _, _, h => by cases h
theorem keys_strs : ∀ {xs : List Av} {ns : List Str}, strsA xs = some ns → keysA xs = some (ns.map Sum.inr)
  | [], _, h => by cases h; rfl
  | .str i :: xs, ns, h => by
    unfold strsA at h
    cases q : strsA xs with
    | none => rw [q] at h; cases h
    | some js => rw [q] at h; cases h; simp [keysA, keys_strs q]
  | .non :: _, _, h => by cases h
  | .bl _ :: _, _, h => by cases h
  | .int _ :: _, _, h => by cases h
  | .lst _ :: _, _, h => by cases h
  | .tup _ :: _, _, h => by cases h
  | .fz _ :: _, _, h => by cases h
  | .obj _ _ _ :: _, _, h => by cases h
  | .ref _ :: _, _, h => by cases h
  | .ty _ :: _, _, h => by cases h
  | .cls _ :: _, _, h => by cases h
theorem keysA_len : ∀ {xs : List Av} {ks : List Key}, keysA xs = some ks → ks.length = xs.length
  | [], _, h => by cases h; rfl
  | .int i :: xs, ks, h => by
    unfold keysA at h
    cases q : keysA xs with
    | none => rw [q] at h; cases h
    | some js => rw [q] at h; cases h; simp [keysA_len q]
  | .str i :: xs, ks, h => by
    unfold keysA at h
    cases q : keysA xs with
    | none => rw [q] at h; cases h
    | some js => rw [q] at h; cases h; simp [keysA_len q]
  | .non :: _, _, h => by cases h
  | .bl _ :: _, _, h => by cases h
  | .lst _ :: _, _, h => by cases h
  | .tup _ :: _, _, h => by cases h
  | .fz _ :: _, _, h => by cases h
  | .obj _ _ _ :: _, _, h => by cases h
  | .ref _ :: _, _, h => by cases h
  | .ty _ :: _, _, h => by cases h
  | .cls _ :: _, _, h => by cases h
theorem se_lenSet {ex : Expr} {g : Ea} {p pos p' pos' : Pos} (hK : X.K = Z.K) (hc : X.calm = true) (hg : Gl X "len") (hm : X.mg "len" = none) (hg' : Gl X "set") (hm' : X.mg "set" = none) (ha : SA Z W X [ex] g) (hs : isStar ex = false) :
    SE Z W X (.Call (.Name "len" p) [.Call (.Name "set" p') [ex] [] pos'] [] pos) (eCallB opLenSet g) := by
  have q := pe_callB (p := p) (pos := pos) (cr_lenG (X := X)) hg hm (by rfl) (pa_cons (pe_callTy (p := p') (pos := pos') (cr_setG hc) hg' hm' (by rfl) ha (by decide) (by decide) (star_cons hs) (by rfl)) pa_nil (star_cons (by rfl))) (by decide) (by decide) (star_cons (by rfl)) (by rfl)
  rw [hK] at q
  refine q.imp fun σ H Q ⟨c, e, M, a, h⟩ => ?_
  refine step (R1 := Reps Z) a h fun c1 ys as M1 H1 l1 a1 r1 h1 => ?_
  unfold opLenSet at h1
  split at h1
  · cases r1 with | cons r1 r2 =>
    cases r2
    split at h1
    · rename_i xs hx
      obtain ⟨l, vs, rfl, q1, q2⟩ := asQ_rep a1.s r1 hx
      split at h1
      · rename_i ks hk
        have e := keys_rep q2 hk
        subst e
        split at h1
        · rename_i hz
          refine ⟨l, ks, rfl, q1, Nat.le_of_ble_eq_true hz, fun p n hn hp => ⟨p, ks, n, rfl, upd_same, Nat.le_trans hn (Nat.le_of_ble_eq_true hz), fun ys nd hy => ?_⟩⟩
          have e2 : ys.length = (dedup ks).length := nodup_len nd (dedup_nodup ks) fun k => (hy k).trans dedup_mem.symm
          rw [e2]
          exact h1 c1 _ _ (Le.refl _) (a1.s.extra hp) (.int _)
        · exact h1.elim
      · exact h1.elim
    · exact h1.elim
  · exact h1.elim
theorem se_sortSet {ex : Expr} {g : Ea} {p pos p' pos' : Pos} (hK : X.K = Z.K) (hc : X.calm = true) (hg : Gl X "sorted") (hm : X.mg "sorted" = none) (hg' : Gl X "set") (hm' : X.mg "set" = none) (ha : SA Z W X [ex] g) (hs : isStar ex = false) :
    SE Z W X (.Call (.Name "sorted" p) [.Call (.Name "set" p') [ex] [] pos'] [] pos) (eCallB opSortSet g) := by
  have q := pe_callB (p := p) (pos := pos) (cr_sortG (X := X) hc) hg hm (by rfl) (pa_cons (pe_callTy (p := p') (pos := pos') (cr_setG hc) hg' hm' (by rfl) ha (by decide) (by decide) (star_cons hs) (by rfl)) pa_nil (star_cons (by rfl))) (by decide) (by decide) (star_cons (by rfl)) (by rfl)
  rw [hK] at q
  refine q.imp fun σ H Q ⟨c, e, M, a, h⟩ => ?_
  refine step (R1 := Reps Z) a h fun c1 ys as M1 H1 l1 a1 r1 h1 => ?_
  unfold opSortSet at h1
  split at h1
  · cases r1 with | cons r1 r2 =>
    cases r2
    split at h1
    · rename_i xs hx
      obtain ⟨l, vs, rfl, q1, q2⟩ := asQ_rep a1.s r1 hx
      split at h1
      · rename_i hz
        split at h1
        · rename_i ns hn
          have hk := keys_ints hn
          have e := keys_rep q2 hk
          subst e
          have hz2 : (ns.map (Sum.inl (β := Str))).length ≤ 1000 := by rw [keysA_len hk]; exact Nat.le_of_ble_eq_true hz
          refine ⟨l, _, rfl, q1, hz2, fun p n hn hp => ⟨p, _, n, rfl, upd_same, Nat.le_trans hn hz2, .inl ⟨ns, rfl, fun p2 hp2 => ?_⟩⟩⟩
          exact h1.lst (a1.s.extra hp) (reps_ints _) hp2
        · split at h1
          · rename_i ns hn
            have hk := keys_strs hn
            have e := keys_rep q2 hk
            subst e
            have hz2 : (ns.map (Sum.inr (α := Int))).length ≤ 1000 := by rw [keysA_len hk]; exact Nat.le_of_ble_eq_true hz
            refine ⟨l, _, rfl, q1, hz2, fun p n hn hp => ⟨p, _, n, rfl, upd_same, Nat.le_trans hn hz2, .inr ⟨ns, rfl, fun p2 hp2 => ?_⟩⟩⟩
            exact h1.lst (a1.s.extra hp) (reps_strs _) hp2
          · exact h1.elim
      · exact h1.elim
    · exact h1.elim
  · exact h1.elim
end
end Pd
set_option maxHeartbeats 2000000
namespace Pd
open PySem PySem.Spec L2 ClX
def swR (sc : Scope) (ts vs : List Expr) : Option (Option (List Str)) :=
  if !(ts.length == 2 || ts.length == 3) || vs.length != ts.length then some none
  else if vs.any fun | .Starred .. => true | _ => false then some none
  else
    let line := (ts.head?.map (·.pos.line)).getD 0
    let names := ts.filterMap fun
      | .Name id pos => if sc.names.lookup id == some .local && pos.line == line then some id else none
      | _ => none
    if names.length != ts.length || names.eraseDups.length != names.length then some none
    else if vs.all (foldedForSure 8) then some none
    else if vs.all (constantsAlone 8) then none
    else some (some names)
theorem sw_stores {env : PySem.Env} {ts vs : List Expr} {k k' : Nat} {p p' : Pos} {r : Option (List Str)} (hk : env.scope.kind = .function) (h : swR env.scope ts vs = some r) : swappedStores [.Tuple ts k p] (.Tuple vs k' p') env = pure r := by
  have hb : env.blockKind = .function := by unfold Env.blockKind; rw [hk]; rfl
  unfold swR at h
  unfold swappedStores
  simp only [hb]
  have hne : (ScopeKind.function != ScopeKind.function) = false := rfl
  rw [hne]
  simp only [Bool.or_false]
  split at h
  · rename_i h1
    cases h
    exact if_pos h1
  · rename_i h1
    refine Eq.trans (if_neg h1) ?_
    split at h
    · rename_i h2
      cases h
      exact if_pos h2
    · rename_i h2
      refine Eq.trans (if_neg h2) ?_
      simp only at h
      split at h
      · rename_i h3
        cases h
        exact if_pos h3
      · rename_i h3
        refine Eq.trans (if_neg h3) ?_
        split at h
        · rename_i h4
          cases h
          exact if_pos h4
        · rename_i h4
          refine Eq.trans (if_neg h4) ?_
          split at h
          · cases h
          · rename_i h5
            cases h
            exact if_neg h5
section
variable {Z : Sc} {W : WX} {X : Cx}
def sPar (is : List Nat) (g : Ea) : Es := fun e M => (g e M).thn e fun as M1 => match gNms is as e with
  | some e1 => .nx e1 M1
  | none => .bad
theorem ss_par2 {i j : Nat} {x y : Str} {a b : Expr} {g : Ea} {px py pt pos : Pos} {kt k2 : Nat} {pt2 : Pos} (hk : X.env.scope.kind = .function) (hc : X.calm = true) (hN : X.N.Nodup) (hi : X.N[i]? = some x) (hj : X.N[j]? = some y) (hij : i ≠ j)
    (hx : X.env.scope.names.lookup x = some .local) (hy : X.env.scope.names.lookup y = some .local) (ha : SA Z W X [a, b] g) (hw : swR X.env.scope [.Name x px, .Name y py] [a, b] = some (some [x, y])) :
    SS Z W X (.Assign [.Tuple [.Name x px, .Name y py] kt pt] (.Tuple [a, b] k2 pt2) pos) (sPar [i, j] g) := by
  refine (ps_par hc hN hi hj hij hx hy ha (sw_stores hk hw) rfl).imp fun D σ H ⟨c, e, M, at_, h⟩ => ?_
  refine stepS (R1 := Reps Z) at_ h fun c1 vs as M1 H1 l1 a1 r1 h1 => ?_
  split at h1
  · rename_i e1 he
    cases r1 with
    | nil => cases he
    | cons r1 r2 =>
      cases r2 with
      | nil => cases he
      | cons r2 r3 =>
        cases r3 with
        | cons _ _ => cases he
        | nil =>
          cases he
          exact ⟨_, _, rfl, h1 c1 _ H1 (Le.refl c1) ((a1.set r1 i).set r2 j)⟩
  · exact h1.elim
theorem ss_par3 {i j l : Nat} {x y z : Str} {a b d : Expr} {g : Ea} {px py pz pt pos : Pos} {kt k2 : Nat} {pt2 : Pos} (hk : X.env.scope.kind = .function) (hc : X.calm = true) (hN : X.N.Nodup) (hi : X.N[i]? = some x) (hj : X.N[j]? = some y) (hl : X.N[l]? = some z) (hij : i ≠ j) (hil : i ≠ l) (hjl : j ≠ l)
    (hx : X.env.scope.names.lookup x = some .local) (hy : X.env.scope.names.lookup y = some .local) (hz : X.env.scope.names.lookup z = some .local) (ha : SA Z W X [a, b, d] g) (hw : swR X.env.scope [.Name x px, .Name y py, .Name z pz] [a, b, d] = some (some [x, y, z])) :
    SS Z W X (.Assign [.Tuple [.Name x px, .Name y py, .Name z pz] kt pt] (.Tuple [a, b, d] k2 pt2) pos) (sPar [i, j, l] g) := by
  refine (ps_par3 hc hN hi hj hl hij hil hjl hx hy hz ha (sw_stores hk hw) rfl).imp fun D σ H ⟨c, e, M, at_, h⟩ => ?_
  refine stepS (R1 := Reps Z) at_ h fun c1 vs as M1 H1 l1 a1 r1 h1 => ?_
  split at h1
  · rename_i e1 he
    cases r1 with
    | nil => cases he
    | cons r1 r2 =>
      cases r2 with
      | nil => cases he
      | cons r2 r3 =>
        cases r3 with
        | nil => cases he
        | cons r3 r4 =>
          cases r4 with
          | cons _ _ => cases he
          | nil =>
            cases he
            exact ⟨_, _, _, rfl, h1 c1 _ H1 (Le.refl c1) (((a1.set r1 i).set r2 j).set r3 l)⟩
  · exact h1.elim
def sAsg (f : Ev) (g : Eg) : Es := fun e M => (f e M).thn e fun v M1 => match g v e M1 with
  | some e1 => .nx e1 M1
  | none => .bad
theorem imp_asg {is : List Nat} {f : Ev} {t : TG} {g : Eg} (hg : GS Z is t g) : ∀ D σ H, TSa Z W (sAsg f g) D σ H → tAsg (T Z W (Rep Z) f) t D σ H := by
  intro D σ H ⟨c, e, M, a, h⟩
  refine stepS (R1 := Rep Z) a h fun c1 x v M1 H1 l1 a1 r1 h1 => ?_
  split at h1
  · rename_i e1 he
    exact hg c1 e e1 M1 σ H1 x v _ a1 r1 he fun σ' a2 _ _ => h1 c1 σ' H1 (Le.refl c1) a2
  · exact h1.elim
def opAug (op : Operator) (a b : Av) (M : Mem) : Res Av := match op, a, b with
  | .Add, .int i, .int j => .ok (.int (i + j)) M
  | .Sub, .int i, .int j => .ok (.int (i - j)) M
  | _, _, _ => .bad
def sAug (i : Nat) (op : Operator) (f : Ev) : Es := fun e M => match e[i]? with
  | some (some x) => (f e M).thn e fun y M1 => (opAug op x y M1).thn e fun z M2 => .nx (e.set i (some z)) M2
  | _ => .bad
theorem ss_aug {i : Nat} {x : Str} {ex : Expr} {f : Ev} {op : Operator} {pos pos' : Pos} (ho : op = .Add ∨ op = .Sub) (hN : X.N.Nodup) (hi : X.N[i]? = some x) (hx : Loc X.env.scope x) (he : SE Z W X ex f) (hf : X.fn x = true ∨ X.env.scope.names.lookup x = some .local) : SS Z W X (.AugAssign (.Name x pos') op ex pos) (sAug i op f) := by
  have gen : ∀ (g : Int → Int → Int), PIp X op (ipI g) → (∀ a b M r M', opAug op a b M = .ok r M' → ∃ i j, a = .int i ∧ b = .int j ∧ r = .int (g i j) ∧ M' = M) → (∀ a b M k fs M', opAug op a b M ≠ .exc k fs M') → SS Z W X (.AugAssign (.Name x pos') op ex pos) (sAug i op f) := by
    intro g hp hg hx'
    refine (ps_aug hN hi hx he hp hf).imp fun D σ H ⟨c, e, M, at_, h⟩ => ?_
    unfold sAug at h
    cases q : e[i]? with
    | none => rw [q] at h; exact h.elim
    | some o =>
      cases o with
      | none => rw [q] at h; exact h.elim
      | some v =>
        rw [q] at h
        obtain ⟨u, h1, h2⟩ := at_.e.at_ i v q
        refine ⟨u, h1, stepS (R1 := Rep Z) at_ h fun c1 y w M1 H1 l1 a1 r1 h3 => ?_⟩
        cases q2 : opAug op v w M1 with
        | bad => rw [q2] at h3; exact h3.elim
        | exc k fs M2 => exact absurd q2 (hx' _ _ _ _ _ _)
        | ok z M2 =>
          rw [q2] at h3
          obtain ⟨i1, j1, e1, e2, e3, e4⟩ := hg _ _ _ _ _ q2
          subst e1 e2 e3 e4
          cases h2
          cases r1
          exact ⟨_, _, rfl, rfl, h3 c1 _ H1 (Le.refl c1) (a1.set (.int _) i)⟩
  rcases ho with rfl | rfl
  · refine gen _ ip_add (fun a b M r M' h => ?_) fun a b M k fs M' h => ?_
    · cases a <;> cases b <;> first | (cases h; exact ⟨_, _, rfl, rfl, rfl, rfl⟩) | cases h
    · cases a <;> cases b <;> cases h
  · refine gen _ ip_sub (fun a b M r M' h => ?_) fun a b M k fs M' h => ?_
    · cases a <;> cases b <;> first | (cases h; exact ⟨_, _, rfl, rfl, rfl, rfl⟩) | cases h
    · cases a <;> cases b <;> cases h
structure CmF (Z : Sc) (k : Nat) (m : Str) (g : Addr) : Prop where
  ex : ∃ mc p, CRead Z.K (Z.cl k) mc ∧ CMet Z.K (Z.cl k) mc m p g
theorem run_ownC {k : Nat} {f : Addr} {fd : FuncData} {ps : List Str} {ds : List Value} {dvs : List V} {dfl : List Av} {sem : Fn} {pins : List (Addr × Obj)} {σ : St} {H : Hp} {s : Shared} {Q : VK} {us : List Value} {vs : List V} {as : List Av} {c : Rc} {M : Mem} {C q : Addr} {a : Av}
    (F : FnOk X.prog X.w X.K X.mg X.base (CX X.prog X.w) k f fd ps (spOf Z sem)) (hr : Room k X.A) (hb : Binds X.K fd ps ds) (hd : Vals dvs ds) (hf : ∀ c, Reps Z c dvs dfl) (tk : Takes X W)
    (I : Inv X ((q, PySem.W.methodObj (.ref f) (.ref C)) :: pins) σ H s) (r : Vals vs us) (sm : Sim Z c M H) (ra : Rep Z c (.ref C) a) (rv : Reps Z c vs as) (h : Okk Z W σ c (Rep Z) Q (sem ((a :: as) ++ dfl) M)) : wpAny (model X.prog X.w) X.A (call (.ref q) us) (EP X pins σ Q) X.xe s := by
  have hsp : spOf Z sem ((.ref C :: vs) ++ dvs) H Q (WE W σ) := ⟨c, M, (a :: as) ++ dfl, sm, (Reps.cons ra rv).append (hf c), h.wish⟩
  have hR := F.raw hb hd
  have z : wpAny (model X.prog X.w) X.A (call (.ref q) us) (EP X ((q, PySem.W.methodObj (.ref f) (.ref C)) :: pins) σ Q) X.xe s := by
    refine wpAny_call (PySem.W.method_call (pin_at I) (codeAny_mono (hR X.A X.stack s H (.ref C :: us) (.ref C :: vs) Q (WE W σ) hr I.env0 (.cons rfl r) hsp) fun r s' hq => ?_))
    cases r with
    | error e => exact passAt tk σ _ H s e s' I hq
    | ok fl =>
      cases fl with
      | ret u => exact I.after hq
      | next => exact False.elim hq
      | brk => exact False.elim hq
      | cont => exact False.elim hq
  exact thn z fun _ _ y => unpinE y
def eCMeth (k : Nat) (sem : Fn) (g : Ea) : Ev := fun e M => (g e M).bind fun as M1 => sem (.cls k :: as) M1
theorem se_cmeth {n k : Nat} {f : Addr} {sem : Fn} {dfl : List Av} {g : Ea} {m x : Str} {px apos pos : Pos} {e : Expr} {es : List Expr} (hK : X.K = Z.K) (hk : Z.has k) (F : Callee Z X n sem dfl f) (hr : Room n X.A) (tk : Takes X W) (hc : CmF Z k m f) (hg : Gl X x) (hm : X.mg x = some (.ref (Z.cl k))) (hdb : (x == ("__debug__" : Str)) = false)
    (ha : SA Z W X (e :: es) g) (hst : noStar (e :: es) = true) (hn : Nat.blt (e :: es).length 20 = true) (hl : (apos.endLine == pos.line) = true) : SE Z W X (.Call (.Attribute (.Name x px) m apos) (e :: es) [] pos) (eCMeth k (defl sem dfl) g) := by
  obtain ⟨fd, ps, ds, dvs, F1, hb, hd, hf⟩ := F.ex
  obtain ⟨mc, p, C1, C2⟩ := hc.ex
  rw [← hK] at C1 C2
  refine ⟨fun pins s σ H Q I ⟨c, en, M, a, h⟩ => ?_⟩
  refine PySem.W.methodCall_KW (pl := (do return (← importBound (.Name x px) X.env).getD true)) (ld_glob I hg hm ?_ hdb) (meth_eval (by rfl) hst hn hl)
  refine getmethcm_ok I C1 C2 fun s2 I2 => ?_
  refine callwith_cm I2 (base_none I (Nat.le_refl _)) C2.fi (thn (ha.run pos _ s2 σ H (fun vs H1 => ∃ c1 M1 as, Sim Z c1 M1 H1 ∧ Reps Z c1 vs as ∧ Okk Z W σ c1 (Rep Z) Q (defl sem dfl (.cls k :: as) M1)) I2 ?_) fun us s3 ⟨vs, H2, I3, rv, c1, M1, as, sm, rs, q⟩ => ⟨⟨pin_at I3, I3.kIn⟩, ?_⟩) (star_cons (noStar_cons hst).1) (star_any (noStar_cons hst).2)
  · exact step (R1 := Reps Z) a h fun c1 vs as M1 H1 l1 a1 r1 h1 => ⟨c1, M1, as, a1.s, r1, h1⟩
  · exact run_ownC F1 hr hb hd hf tk I3 rv sm (.cls hk) rs q
def eNewV (i k : Nat) (sem : Fn) (g : Ea) : Ev := fun e M => match e[i]? with
  | some (some (.cls j)) => if Nat.beq j k then (g e M).bind fun as M1 => sem as M1 else .bad
  | _ => .bad
theorem se_newV {n k i : Nat} {sem : Fn} {dfl : List Av} {g : Ea} {x : Str} {p pos : Pos} {e : Expr} {es : List Expr} (F : Maker Z X n k sem dfl) (hr : Room (n + 1) X.A) (tk : Takes X W) (hN : X.N[i]? = some x) (hv : Vis X.env.scope x) (ha : SA Z W X (e :: es) g)
    (hdb : (x == ("__debug__" : Str)) = false) (hcd : (x == ("__classdict__" : Str)) = false) (hst : noStar (e :: es) = true) (fz : Bool) :
    SE Z W X (.Call (.Name x p) (e :: es) [] pos) (eNewV i k (defl (if fz then newF k sem else newO k sem) dfl) g) := by
  obtain ⟨f, fd, ps, ds, dvs, Mk', F1, hb, hd, hf⟩ := F.ex
  refine ⟨fun pins s σ H Q I ⟨c, en, M, a, h⟩ => ?_⟩
  unfold eNewV at h
  split at h
  · rename_i j hj
    split at h
    · rename_i hz
      have hz := Nat.eq_of_beq_eq_true hz
      subst hz
      obtain ⟨v, v1, v2⟩ := a.e.at_ i _ hj
      cases v2 with
      | cls hk =>
        refine wpAny_Call_Name_kw (thn ((pe_var hN hv hdb hcd).run pins s σ H (fun y H' => y = .ref (Z.cl j) ∧ H' = H) I ⟨_, v1, rfl, rfl⟩) fun u s1 ⟨y, H', I1, ry, e1, e2⟩ => ?_)
        subst e1 e2
        obtain rfl : u = Value.ref (Z.cl j) := ry
        refine PySem.W.callWith_K (h₀ := X.base) I1.ok.mod.kin Mk'.kp (thn (ha.run pos pins s1 σ H' (fun vs H1 => ∃ c1 M1 as, Le c c1 ∧ Sim Z c1 M1 H1 ∧ Reps Z c1 vs as ∧ Okk Z W σ c1 (Rep Z) Q (newO j sem (as ++ dfl) M1)) I1 ?_) fun us s1 ⟨vs, H1, I1, r, c1, M1, as, l1, s1', rv, q⟩ => ⟨I1.kIn, ?_⟩) (star_cons (noStar_cons hst).1) (star_any (noStar_cons hst).2)
        · refine step (R1 := Reps Z) a h fun c' x b M' H' l a' r h' => ⟨c', M', b, l, a'.s, r, ?_⟩
          cases fz with
          | true => exact newF_ok a'.s h'
          | false => exact h'
        · exact run_new Mk' F.hk F1 hr hb hd hf tk I1 r s1' rv q
    · exact h.elim
  · exact h.elim
def sBad : Es := fun _ _ => .bad
theorem ss_bad {st : Stmt} : SS Z W X st sBad := (ps_never (X := X) (st := st)).imp fun D σ H ⟨c, e, M, a, h⟩ => h.elim
def eBad : Ev := fun _ _ => .bad
def sThru (f : Es) : Es := fun e M => match f e M with
  | .exc _ _ _ _ => .bad
  | r => r
theorem ss_thru {body : List Stmt} {h0 : ExceptHandler} {hs : List ExceptHandler} {f : Es} {pos : Pos} (hb : SSs Z WNo X.nox body f) : SS Z W X (.Try body (h0 :: hs) [] [] pos) (sThru f) := by
  refine (ps_try_thru0 hb).imp fun D σ H ⟨c, e, M, a, h⟩ => ⟨c, e, M, a, ?_⟩
  unfold sThru at h
  cases q : f e M with
  | exc k fs e1 M1 => rw [q] at h; exact h.elim
  | bad => rw [q] at h; exact h
  | nx e1 M1 => rw [q] at h; exact h
  | rt v M1 => rw [q] at h; exact h
  | bk e1 M1 => rw [q] at h; exact h
  | ct e1 M1 => rw [q] at h; exact h
end
end Pd
set_option maxHeartbeats 2000000
namespace Pd
open PySem PySem.Spec PySem.SeqAt L2
open AutoSeq1 (wpAny_loadPart')
section
open MeetsSeq MeetsSeq2 MeetsSeq3 SeqRoads2
variable {prog : Program} {w : World} {A : Around} {R : Result → Shared → Prop}
theorem cont_loop (l : Addr) (x : Value) (N : Nat) (J : Nat → Shared → Prop)
    (hl : ∀ i s, i < N → J i s → ∃ (items : Array Value) (n : Nat) (dd : Option Addr) (sl : Array (Option Value)), s.heap.get? l = some { cls := .type "list", dict := dd, data := .seq items n, slots := sl } ∧ items.size = N ∧
      ∀ h : i < items.size, wpAny (model prog w) A.in1 (eqBool items[i] x) (fun r s' => (r = true ∧ R (.ok (.ret (.bool true))) s') ∨ (r = false ∧ J (i + 1) s')) (fun e s' => R (.error e) s') s)
    (hN : ∀ s, J N s → (∃ (items : Array Value) (n : Nat) (dd : Option Addr) (sl : Array (Option Value)), s.heap.get? l = some { cls := .type "list", dict := dd, data := .seq items n, slots := sl } ∧ items.size = N) ∧ R (.ok (.ret (.bool false))) s) (k : Nat) :
    ∀ i : Nat, N - i = k → i ≤ N → ∀ s, J i s → wpAny (model prog w) A.in1 (Builtin.«list.__contains__.loop» ⟨[.ref l, x, rawInt i], []⟩) (GQ.FinOf prog w A R) (fun e s' => R (.error e) s') s := by
  induction k with
  | zero =>
    intro i hk hi s h
    have e : i = N := by omega
    subst e
    obtain ⟨⟨items, n, dd, sl, hl1, hs⟩, fin⟩ := hN s h
    obtain ⟨hp, g, d, tk, os⟩ := s
    wp_walk using wpAny_loadPart' hl1
    have hi : items[((i : Nat) : Int).toNat]? = none := by simp; omega
    rw [hi]
    wp_walk
    exact fin
  | succ k ih =>
    intro i hk hi s h
    obtain ⟨items, n, dd, sl, hl1, hs, he⟩ := hl i s (by omega) h
    obtain ⟨hp, g, d, tk, os⟩ := s
    wp_walk using wpAny_loadPart' hl1
    have hlt : i < items.size := by omega
    have hi : items[((i : Nat) : Int).toNat]? = some items[i] := by simp [hlt]
    rw [hi]
    refine wpAny_bind (wpAny_mono (he hlt) (fun r s' hr => ?_) fun _ _ z => z)
    rcases hr with ⟨rfl, hq⟩ | ⟨rfl, hq⟩
    · obtain ⟨hp', g', d', tk', os'⟩ := s'
      wp_walk
      exact hq
    · have hc : ((i : Int) + 1) = ((i + 1 : Nat) : Int) := by push_cast; rfl
      obtain ⟨hp', g', d', tk', os'⟩ := s'
      wp_walk
      rw [hc]
      exact ⟨plainId_quiet plain_contains_loop _, codeAny_builtin entry_contains_loop (by
        rw [Around.under_plainId plain_contains_loop _]
        exact ih (i + 1) (by omega) (by omega) _ hq)⟩
theorem in_here {E : Value → Shared → Prop} {s : Shared} {Q : Value → Shared → Prop} {neg : Bool} (l : Addr) (x : Value) (N : Nat) (J : Nat → Shared → Prop) (hT : s.TypeIs (.ref l) "list")
    (hl : ∀ i s, i < N → J i s → ∃ (items : Array Value) (n : Nat) (dd : Option Addr) (sl : Array (Option Value)), s.heap.get? l = some { cls := .type "list", dict := dd, data := .seq items n, slots := sl } ∧ items.size = N ∧
      ∀ h : i < items.size, wpAny (model prog w) A.in1 (eqBool items[i] x) (fun r s' => (r = true ∧ Q (.bool (xor neg true)) s') ∨ (r = false ∧ J (i + 1) s')) E s)
    (hN : ∀ s, J N s → (∃ (items : Array Value) (n : Nat) (dd : Option Addr) (sl : Array (Option Value)), s.heap.get? l = some { cls := .type "list", dict := dd, data := .seq items n, slots := sl } ∧ items.size = N) ∧ Q (.bool (xor neg false)) s) (h : J 0 s) :
    wpAny (model prog w) A (compareOp (if neg then .NotIn else .In) x (.ref l)) Q E s := by
  have core : wpAny (model prog w) A (call (.builtin "list.__contains__") [.ref l, x]) (fun v s' => ∃ b, v = .bool b ∧ Q (.bool (xor neg b)) s') E s := by
    refine GQ.call_here F.slot_list_contains hT F.entry_list_contains (F.args_list_contains_2 _ _) ?_
    obtain ⟨hp, g, d, tk, os⟩ := s
    wp_walk
    exact ⟨plainId_quiet plain_contains_loop _, codeAny_builtin entry_contains_loop (by
      rw [Around.under_plainId plain_contains_loop _]
      refine cont_loop (R := wants (fun v s' => ∃ b, v = .bool b ∧ Q (.bool (xor neg b)) s') E) l x N J (fun i s hi hj => ?_) (fun s hj => ?_) _ 0 rfl (Nat.zero_le _) _ h
      · obtain ⟨items, n, dd, sl, h1, h2, h3⟩ := hl i s hi hj
        refine ⟨items, n, dd, sl, h1, h2, fun hh => wpAny_mono (h3 hh) (fun r s' z => ?_) fun _ _ z => z⟩
        rcases z with ⟨z1, z2⟩ | z
        · exact .inl ⟨z1, true, rfl, z2⟩
        · exact .inr z
      · obtain ⟨h1, h2⟩ := hN s hj
        exact ⟨h1, false, rfl, h2⟩)⟩
  cases neg with
  | false =>
    show wpAny _ A (do return .bool (← contains (.ref l) x)) Q E s
    refine wpAny_bind (wpAny_contains_slot hT F.slot_list_contains (wpAny_mono core (fun v s' hv => ?_) fun _ _ e => e))
    obtain ⟨b, rfl, hq⟩ := hv
    exact wpAny_truthy_bool (wpAny_pure (by simpa using hq))
  | true =>
    show wpAny _ A (do return .bool (!(← contains (.ref l) x))) Q E s
    refine wpAny_bind (wpAny_contains_slot hT F.slot_list_contains (wpAny_mono core (fun v s' hv => ?_) fun _ _ e => e))
    obtain ⟨b, rfl, hq⟩ := hv
    exact wpAny_truthy_bool (wpAny_pure (by simpa using hq))
end
structure EqF (Z : Sc) (k : Nat) (f : Addr) : Prop where
  at_ : PySem.W.findIn Z.K (.ref (Z.cl k)) "__eq__" = some (some (.ref f))
  fn : PySem.W.isFn Z.K (.ref f) = true
  nb : ∀ b : Bt, PySem.W.notFirst Z.K (Z.cl k) (.type b.name) = true
  no : ∀ j, Z.has j → PySem.W.notFirst Z.K (Z.cl k) (.ref (Z.cl j)) = true
  ne : PySem.W.findIn Z.K (.ref (Z.cl k)) "__ne__" = some (some (.builtin "object.__ne__"))
  ob : PySem.W.mroIn Z.K (Z.cl k) (.type "object") = some true
section
variable {Z : Sc} {W : WX} {X : Cx}
def ENo : XK := fun _ _ _ => False
theorem rc_own {n k : Nat} {f : Addr} {sem : Fn} {A : Around} {pins : List (Addr × Obj)} {σ : St} {H : Hp} {s : Shared} {a dx : Addr} {fs : List (Str × V)} {y : V} {u t : Value} {Q : VK} (hK : X.K = Z.K) (sb : Sub X n A) (F : Callee Z X n sem [] f) (E : EqF Z k f) (I : Inv X pins σ H s)
    (ha : H a = some (.ins (Z.cl k) dx fs)) (ry : RelV y u) (ty : TyX X.K H y t) (hn : PySem.W.notFirst X.K (Z.cl k) t = true) (h : spOf Z sem [.ref a, y] H (fun z H' => ∃ b, z = .bl b ∧ Q (.bl b) H') ENo) :
    wpAny (model X.prog X.w) A (richCompare .Eq (.ref a) u) (EP X pins σ Q) X.xe s := by
  obtain ⟨fd, ps, ds, dvs, F1, hb, hd, hf⟩ := F.ex
  have e0 : dvs = [] := by
    have := (hf ⟨fun _ => none, fun _ => 0, 0⟩).length
    exact List.eq_nil_of_length_eq_zero this
  subst e0
  have e1 : ds = [] := by cases hd; rfl
  subst e1
  obtain ⟨mA, J, _⟩ := ins_get I.hok ha
  obtain ⟨od, J, _⟩ := J.look
  obtain ⟨m, hF⟩ := I.fr
  obtain ⟨P, Zk, p, _⟩ := kit_of I ry ty
  have hat : PySem.W.findIn X.K (.ref (Z.cl k)) (cmpInfo .Eq).2.1 = some (some (.ref f)) := by rw [hK]; exact E.at_
  refine PySem.W.cmp_K (op := .Eq) (tb := t) sb.room.units0 hF I.ok.mod.kin J (Zk.ty _ _ I.kIn p) hn hat (by rw [hK]; exact E.fn) ?_
  have e0 : Env0 X.prog X.w X.K X.mg X.base A X.stack s H := by
    have e := I.env0
    exact ⟨by rw [sb.fr]; exact e.frames, e.mod, e.bs, e.bsz, e.funs, e.frf, e.hok, e.bare⟩
  have hl := F1.len _ _ _ _ h
  have r2 : Vals [V.ref a, y] [Value.ref a, u] := .cons rfl (.cons ry .nil)
  refine wpAny_call (codeAny_mono (F1.run A X.stack s H ⟨[.ref a, u], []⟩ [.ref a, u] [.ref a, y] _ ENo sb.room e0 (by
    have := hb s [.ref a, u] I.kIn (by simpa using hl)
    simpa using this) r2 h) fun r s' hq => ?_)
  cases r with
  | error e =>
    obtain ⟨a, B, H', cls, d, _, _, _, _, _, _, _, hE⟩ := hq
    exact hE.elim
  | ok fl =>
    cases fl with
    | ret w =>
      obtain ⟨z, H', I', rz, b, ez, q⟩ := I.after hq
      subst ez
      cases rz
      exact ⟨.bl b, H', I', rfl, q⟩
    | next => exact False.elim hq
    | brk => exact False.elim hq
    | cont => exact False.elim hq
end
end Pd
namespace Pd
open PySem PySem.Spec L2
section
variable {Z : Sc} {W : WX} {X : Cx}
def boolR : Res Av → Res Av
  | .ok (.bl b) M => .ok (.bl b) M
  | _ => .bad
def rSem (Z : Sc) (op : Av → Av → Mem → Res Av) : R2 := fun x y H Q => ∃ (c : Rc) (M : Mem) (a b : Av), Sim Z c M H ∧ Rep Z c x a ∧ Rep Z c y b ∧ Okk Z WNo [] c (Rep Z) Q (op a b M)
def NoExc (op : Av → Av → Mem → Res Av) : Prop := ∀ a b M k fs M', op a b M ≠ .exc k fs M'
theorem ops_sem {op : Av → Av → Mem → Res Av} (h : NoExc op) : OpS Z W (rSem Z op) op := fun σ c M H x y a b Q s ra rb q => ⟨c, M, a, b, s, ra, rb, by
  cases e : op a b M with
  | ok v M1 => rw [e] at q; exact q
  | exc k fs M1 => exact absurd e (h _ _ _ _ _ _)
  | bad => rw [e] at q; exact q⟩
theorem boolR_nox {r : Res Av} {k : Nat} {fs : List (Str × Av)} {M' : Mem} : boolR r ≠ .exc k fs M' := by
  unfold boolR
  split <;> exact fun z => nomatch z
def opEqO (eq : Nat → Option Nat) (C : Cal) (a b : Av) (M : Mem) : Res Av := match clsA M a with
  | some k => (match eq k, kdA M b with
    | some id, some _ => boolR (C id [a, b] M)
    | _, _ => .bad)
  | none => opEq false a b M
structure EqT (Z : Sc) (X : Cx) (C : Cal) (n : Nat) (eq : Nat → Option Nat) : Prop where
  h : ∀ k id, eq k = some id → ∃ f, EqF Z k f ∧ Callee Z X n (C id) [] f
theorem cls_rep0 {c : Rc} {M : Mem} {H : Hp} {x : V} {a : Av} {k : Nat} (s : Sim Z c M H) (r : Rep Z c x a) (h : clsA M a = some k) : ∃ p dx fs, x = .ref p ∧ Z.has k ∧ H p = some (.ins (Z.cl k) dx fs) := by
  cases r with
  | obj hk h1 h2 h3 => cases h; exact ⟨_, _, _, rfl, hk, s.g _ _ h1⟩
  | @ref n hn =>
    cases q : M[n]? with
    | none => simp [clsA, q] at h
    | some o =>
      cases o with
      | none => simp [clsA, q] at h
      | some o =>
        cases o with
        | lst ys => simp [clsA, q] at h
        | dct ks vs => simp [clsA, q] at h
        | ins k' fs =>
          simp only [clsA, q, Option.some.injEq] at h
          subst h
          obtain ⟨ho, h1, h2, h3⟩ := s.m n _ q
          cases ho with
          | ins C dx gs =>
            obtain ⟨⟨e1, hk⟩, e2, e3⟩ := h2
            subst e1
            exact ⟨_, dx, gs, rfl, hk, h1⟩
          | _ => exact h2.elim
  | _ => cases h
theorem nf_kd {k : Nat} {f : Addr} {kd : Kd} (E : EqF Z k f) (h : ∀ c, kd = .own c → Z.has c) : PySem.W.notFirst Z.K (Z.cl k) (kd.val Z) = true := by
  cases kd with
  | bt b => exact E.nb b
  | own j => exact E.no j (h j rfl)
theorem boolR_sp {c : Rc} {M : Mem} {H : Hp} {vs : List V} {as : List Av} {sem : Fn} {Q : VK} (s : Sim Z c M H) (r : Reps Z c vs as) (h : Okk Z WNo [] c (Rep Z) Q (boolR (sem as M))) : spOf Z sem vs H (fun z H' => ∃ b, z = .bl b ∧ Q (.bl b) H') ENo := by
  refine ⟨c, M, as, s, r, ?_⟩
  unfold boolR at h
  cases e : sem as M with
  | bad => rw [e] at h; exact h.elim
  | exc k fs M1 => rw [e] at h; exact h.elim
  | ok v M1 =>
    rw [e] at h
    cases v with
    | bl b => exact fun c' x H' l s' r' => by cases r'; exact ⟨b, rfl, h c' _ H' l s' (.bl b)⟩
    | _ => exact h.elim
theorem eqO_nox {eq : Nat → Option Nat} {C : Cal} : NoExc (opEqO eq C) := by
  intro a b M k fs M'
  unfold opEqO
  split
  · split
    · exact boolR_nox
    · exact fun z => nomatch z
  · unfold opEq
    repeat' split
    all_goals exact fun z => nomatch z
theorem op_eqO {n : Nat} {C : Cal} {eq : Nat → Option Nat} (hK : X.K = Z.K) (hC : ClsFacts Z) (hI : IsiF Z) (hr : Room n X.A) (T : EqT Z X C n eq) : OpR X (compareOp .Eq) (rSem Z (opEqO eq C)) := by
  intro pins s σ H x y v u Q I rx ry ⟨c, M, a, b, sm, ra, rb, h⟩
  unfold opEqO at h
  split at h
  · rename_i k hk
    split at h
    · rename_i id kd h1 h2
      obtain ⟨f, E, F⟩ := T.h k id h1
      obtain ⟨p, dx, fs, rfl, hh, ha⟩ := cls_rep0 sm ra hk
      obtain ⟨t1, t2⟩ := kd_rep hC hI sm rb h2
      obtain rfl : v = Value.ref p := rx
      rw [← hK] at t1
      exact rc_own hK ⟨hr, rfl⟩ F E I ha ry t1 (by rw [hK]; exact nf_kd E t2) (boolR_sp sm (.cons ra (.cons rb .nil)) h)
    · exact h.elim
  · have q := (ops_eq (Z := Z) (W := WNo)) [] c M H x y a b Q sm ra rb h
    rw [← hK] at q
    exact op_eqA hr.units pins s σ H x y v u Q I rx ry q
def isObjA : Av → Bool
  | .obj _ _ _ => true
  | .ref _ => true
  | _ => false
def inNL (eq : Nat → Option Nat) (C : Cal) (neg : Bool) (l : Av) (all : List Av) : List Av → Mem → Res Av
  | [], M => if stayA M l all then .ok (.bl (xor neg false)) M else .bad
  | .non :: _, M => if stayA M l all then .ok (.bl (xor neg true)) M else .bad
  | x :: xs, M => if stayA M l all then (match clsA M x with
    | some k => (match eq k with
      | some id => (match boolR (C id [x, .non] M) with
        | .ok (.bl true) M1 => .ok (.bl (xor neg true)) M1
        | .ok (.bl false) M1 => inNL eq C neg l all xs M1
        | _ => .bad)
      | none => .bad)
    | none => .bad) else .bad
def opInO (eq : Nat → Option Nat) (C : Cal) (neg : Bool) (a b : Av) (M : Mem) : Res Av := match a, asR M b with
  | .non, some xs => if xs.any isObjA then inNL eq C neg b xs xs M else opIn neg a b M
  | _, _ => opIn neg a b M
end
end Pd
set_option maxHeartbeats 2000000
namespace Pd
open PySem PySem.Spec L2
section
variable {Z : Sc} {W : WX} {X : Cx}
theorem eqBool_refN {prog : Program} {w : World} {A : Around} {E : Value → Shared → Prop} {s : Shared} {l : Addr} {Q : Bool → Shared → Prop} (h : wpAny (model prog w) A (richCompare .Eq (.ref l) .none) (fun v s' => ∃ r, v = .bool r ∧ Q r s') E s) : wpAny (model prog w) A (eqBool (.ref l) .none) Q E s := by
  unfold eqBool
  refine wpAny_holding ?_
  refine wpAny_ite_split (fun hab => absurd hab Bool.false_ne_true) (fun _ => ?_)
  refine wpAny_bind (wpAny_mono h (fun v s' hv => ?_) fun _ _ x => x)
  obtain ⟨r, rfl, q⟩ := hv
  exact wpAny_truthy_bool q
theorem inNL_nox {eq : Nat → Option Nat} {C : Cal} {neg : Bool} {l : Av} {all : List Av} {k : Nat} {fs : List (Str × Av)} {M' : Mem} : ∀ (xs : List Av) (M : Mem), inNL eq C neg l all xs M ≠ .exc k fs M'
  | [], M => by
    unfold inNL
    split
    · intro z; cases z
    · intro z; cases z
  | x :: xs, M => by
    have gen : (if stayA M l all then (match clsA M x with
        | some k => (match eq k with
          | some id => (match boolR (C id [x, .non] M) with
            | .ok (.bl true) M1 => .ok (.bl (xor neg true)) M1
            | .ok (.bl false) M1 => inNL eq C neg l all xs M1
            | _ => .bad)
          | none => .bad)
        | none => .bad) else .bad) ≠ Res.exc k fs M' := by
      split
      · split
        · split
          · split
            · intro z; cases z
            · exact inNL_nox xs _
            · intro z; cases z
          · intro z; cases z
        · intro z; cases z
      · intro z; cases z
    cases x with
    | non =>
      unfold inNL
      split
      · intro z; cases z
      · intro z; cases z
    | _ => exact gen
theorem opIn_nox {neg : Bool} {a b : Av} {M : Mem} {k : Nat} {fs : List (Str × Av)} {M' : Mem} : opIn neg a b M ≠ .exc k fs M' := by
  unfold opIn
  repeat' split
  all_goals exact fun z => nomatch z
theorem inO_nox {eq : Nat → Option Nat} {C : Cal} {neg : Bool} : NoExc (opInO eq C neg) := by
  intro a b M k fs M'
  unfold opInO
  split
  · split
    · exact inNL_nox _ _
    · exact opIn_nox
  · exact opIn_nox
theorem stay_list {c : Rc} {M : Mem} {H : Hp} {l : Addr} {b : Av} {xs : List Av} (s : Sim Z c M H) (r : Rep Z c (.ref l) b) (hq : (asR M b).isSome = true ∨ True) (h : stayA M b xs = true) (hb : ∀ ys, b ≠ .tup ys) : ∃ vs, SqL Z.K H l vs ∧ Reps Z c vs xs := by
  have hq := stayA_q h
  cases b with
  | tup ys => exact absurd rfl (hb ys)
  | lst ys =>
    obtain ⟨l', vs, e, h1, h2⟩ := asR_rep s r (show asR M (.lst ys) = some xs from hq)
    cases e; exact ⟨vs, h1, h2⟩
  | fz ys =>
    obtain ⟨l', vs, e, h1, h2⟩ := asR_rep s r (show asR M (.fz ys) = some xs from hq)
    cases e; exact ⟨vs, h1, h2⟩
  | ref m =>
    obtain ⟨l', vs, e, h1, h2⟩ := asR_rep s r (show asR M (.ref m) = some xs from hq)
    cases e; exact ⟨vs, h1, h2⟩
  | _ => cases hq
theorem op_inO {n : Nat} {C : Cal} {eq : Nat → Option Nat} {neg : Bool} (hK : X.K = Z.K) (hC : ClsFacts Z) (hI : IsiF Z) (hr : Room (n + 1) X.A) (T : EqT Z X C n eq) (base : OpR X (compareOp (if neg then .NotIn else .In)) (if neg then rNotInA X.K else rInA X.K)) : OpR X (compareOp (if neg then .NotIn else .In)) (rSem Z (opInO eq C neg)) := by
  intro pins s σ H x y v u Q I rx ry ⟨c, M, a, b, sm, ra, rb, h⟩
  have plain : Okk Z WNo [] c (Rep Z) Q (opIn neg a b M) → wpAny (model X.prog X.w) X.A (compareOp (if neg then .NotIn else .In) v u) (EP X pins σ Q) X.xe s := fun h => by
    refine base pins s σ H x y v u Q I rx ry ?_
    rw [hK]
    cases neg with
    | false => exact ops_in [] c M H x y a b Q sm ra rb h
    | true => exact ops_notIn [] c M H x y a b Q sm ra rb h
  unfold opInO at h
  split at h
  · rename_i xs hxs
    split at h
    · cases ra
      obtain rfl : v = Value.none := rx
      obtain ⟨l, vs0, rfl, q1, q2⟩ := asR_rep sm rb hxs
      obtain rfl : u = Value.ref l := ry
      have hnt : ∀ ys, b ≠ .tup ys := fun ys e => by subst e; cases hxs
      rw [← hK] at q1
      obtain ⟨its0, rv0, p0, _⟩ := I.list q1
      have Jlist : ∀ (i : Nat) (s' : Shared) (H' : Hp) (c' : Rc) (M' : Mem), Inv X pins σ H' s' → Le c c' → Sim Z c' M' H' → stayA M' b xs = true → ∃ (items : Array Value) (n : Nat) (dd : Option Addr) (sl : Array (Option Value)) (vs : List V), s'.heap.get? l = some { cls := .type "list", dict := dd, data := .seq items n, slots := sl } ∧ items.size = xs.length ∧ Reps Z c' vs xs ∧ Vals vs items.toList := fun i s' H' c' M' I' lc sm' st => by
        obtain ⟨vs, z1, z2⟩ := stay_list sm' (rb.mono lc) (.inr trivial) st hnt
        rw [← hK] at z1
        obtain ⟨its, rv, pl, _⟩ := I'.list z1
        obtain ⟨⟨oc, od, dt, osl⟩, m, e1, e2, e3, e4⟩ := pl
        simp only at e2 e3 e4
        subst e2 e4
        exact ⟨its.toArray, m, od, osl, vs, e1, by rw [List.size_toArray, ← rv.length, z2.length], z2, by simpa using rv⟩
      refine in_here (neg := neg) l .none xs.length (fun i s' => ∃ H' c' M', Inv X pins σ H' s' ∧ Le c c' ∧ Sim Z c' M' H' ∧ i ≤ xs.length ∧ Okk Z WNo [] c' (Rep Z) Q (inNL eq C neg b xs (xs.drop i) M')) p0.isList.typeIs (fun i s' hi ⟨H', c', M', I', lc, sm', _, h'⟩ => ?_) (fun s' ⟨H', c', M', I', lc, sm', _, h'⟩ => ?_) ⟨H, c, M, I, Le.refl c, sm, Nat.zero_le _, by simpa using h⟩
      · obtain ⟨a, ha⟩ : ∃ a, xs[i]? = some a := ⟨xs[i], by simp [hi]⟩
        rw [drop_cons ha] at h'
        have body : ∀ (st : stayA M' b xs = true), (a = .non ∧ Okk Z WNo [] c' (Rep Z) Q (.ok (.bl (xor neg true)) M')) ∨ (∃ k id, clsA M' a = some k ∧ eq k = some id ∧ Okk Z WNo [] c' (Rep Z) Q (match boolR (C id [a, .non] M') with
            | .ok (.bl true) M1 => .ok (.bl (xor neg true)) M1
            | .ok (.bl false) M1 => inNL eq C neg b xs (xs.drop (i + 1)) M1
            | _ => .bad)) := fun st => by
          by_cases e : a = .non
          · subst e
            unfold inNL at h'
            rw [if_pos st] at h'
            exact .inl ⟨rfl, h'⟩
          · have h2 : Okk Z WNo [] c' (Rep Z) Q (if stayA M' b xs then (match clsA M' a with
                | some k => (match eq k with
                  | some id => (match boolR (C id [a, .non] M') with
                    | .ok (.bl true) M1 => .ok (.bl (xor neg true)) M1
                    | .ok (.bl false) M1 => inNL eq C neg b xs (xs.drop (i + 1)) M1
                    | _ => .bad)
                  | none => .bad)
                | none => .bad) else .bad) := by
              cases a <;> first | exact absurd rfl e | exact h'
            rw [if_pos st] at h2
            split at h2
            · rename_i k hk
              split at h2
              · rename_i id hid
                exact .inr ⟨k, id, hk, hid, h2⟩
              · exact h2.elim
            · exact h2.elim
        have st : stayA M' b xs = true := by
          cases q : stayA M' b xs with
          | true => rfl
          | false =>
            exfalso
            cases a <;> (unfold inNL at h'; rw [if_neg (by rw [q]; decide)] at h'; exact h')
        obtain ⟨items, m, dd, sl, vs, z1, z2, z3, z4⟩ := Jlist i s' H' c' M' I' lc sm' st
        refine ⟨items, m, dd, sl, z1, z2, fun hh => ?_⟩
        obtain ⟨va, y1, y2⟩ := z3.get ha
        obtain ⟨ua, w1, w2⟩ := z4.get y1
        have eu : items[i] = ua := by
          rw [Array.getElem?_toList] at w1
          rw [Array.getElem?_eq_getElem hh] at w1
          exact Option.some.inj w1
        rw [eu]
        rcases body st with ⟨e, hq⟩ | ⟨k, id, hk, hid, hq⟩
        · subst e
          cases y2
          obtain rfl : ua = Value.none := w2
          exact SeqAt.EqAt.same (A := X.A.in1) (s := s') .none X.prog X.w X.xe _ (.inl ⟨rfl, .bl _, H', I', rfl, hq c' _ H' (Le.refl _) sm' (.bl _)⟩)
        · obtain ⟨f, E, F⟩ := T.h k id hid
          obtain ⟨p, dx, fs, rfl, hh2, ha2⟩ := cls_rep0 sm' y2 hk
          obtain rfl : ua = Value.ref p := w2
          have tn : TyX X.K H' .non (.type "NoneType") := .base .non
          refine eqBool_refN (wpAny_mono (rc_own (Q := fun z H2 => ∃ b', z = .bl b' ∧ ((b' = true ∧ Q (.bl (xor neg true)) H2) ∨ (b' = false ∧ ∃ c2 M2, Le c c2 ∧ Sim Z c2 M2 H2 ∧ Okk Z WNo [] c2 (Rep Z) Q (inNL eq C neg b xs (xs.drop (i + 1)) M2)))) hK ⟨hr.in1, rfl⟩ F E I' ha2 (show RelV .non .none from rfl) tn (by rw [hK]; exact E.nb .non) ?_) (fun r s2 hz => ?_) fun _ _ z => z)
          · refine ⟨c', M', [a, .non], sm', .cons y2 (.cons .non .nil), ?_⟩
            cases e5 : C id [a, .non] M' with
            | bad => rw [e5] at hq; exact hq.elim
            | exc k fs M1 => rw [e5] at hq; exact hq.elim
            | ok v5 M1 =>
              rw [e5] at hq
              cases v5 with
              | bl b5 =>
                intro c2 x2 H2 l2 s2 r2
                cases r2
                refine ⟨b5, rfl, b5, rfl, ?_⟩
                cases b5 with
                | true => exact .inl ⟨rfl, hq c2 _ H2 l2 s2 (.bl _)⟩
                | false => exact .inr ⟨rfl, c2, M1, lc.trans l2, s2, Okk.mono l2 hq⟩
              | _ => exact hq.elim
          · obtain ⟨z, H2, I2, rz, b5, ez, hz⟩ := hz
            subst ez
            obtain rfl : r = Value.bool b5 := rz
            refine ⟨b5, rfl, ?_⟩
            rcases hz with ⟨e6, q6⟩ | ⟨e6, c2, M2, l2, s2', q6⟩
            · subst e6; exact .inl ⟨rfl, .bl _, H2, I2, rfl, q6⟩
            · subst e6; exact .inr ⟨rfl, H2, c2, M2, I2, l2, s2', hi, q6⟩
      · rw [List.drop_length] at h'
        unfold inNL at h'
        split at h'
        · rename_i st
          obtain ⟨items, m, dd, sl, vs, z1, z2, z3, z4⟩ := Jlist 0 s' H' c' M' I' lc sm' st
          exact ⟨⟨items, m, dd, sl, z1, z2⟩, .bl _, H', I', rfl, h' c' _ H' (Le.refl _) sm' (.bl _)⟩
        · exact h'.elim
    · exact plain h
  · exact plain h
end
end Pd
set_option maxHeartbeats 2000000
namespace Pd
open PySem PySem.Spec L2
section
variable {Z : Sc} {W : WX} {X : Cx}
def newList (m : Bool) (xs : List Av) (M : Mem) : Res Av := if szOk xs.length then (if m then .ok (.ref M.length) (M ++ [some (.lst xs)]) else .ok (.lst xs) M) else .bad
theorem newList_ok {m : Bool} {σ : St} {c : Rc} {Q : VK} {xs : List Av} {vs : List V} {M : Mem} {H : Hp} {p : Addr} (h : Okk Z W σ c (Rep Z) Q (newList m xs M)) (s : Sim Z c M H) (r : Reps Z c vs xs) (hp : H p = none) : Q (.ref p) (upd H p (.lst vs)) := by
  unfold newList at h
  split at h
  · cases m with
    | true => exact Okk.own (o := .lst xs) (ho := .lst vs) h s r hp
    | false => exact h.lst s r hp
  · exact h.elim
theorem newList_sz {m : Bool} {σ : St} {c : Rc} {Q : VK} {xs : List Av} {M : Mem} (h : Okk Z W σ c (Rep Z) Q (newList m xs M)) : szOk xs.length = true := by
  unfold newList at h
  split at h
  · assumption
  · exact h.elim
theorem rep_rg {c : Rc} : ∀ (n : Nat) (a : Int), Reps Z c ((List.range n).map fun i => V.int (a + (i : Nat))) (rngA a n)
  | 0, _ => .nil
  | n + 1, a => by
    rw [List.range_succ_eq_map, List.map_cons, List.map_map]
    unfold rngA
    refine .cons ?_ ?_
    · have : a + ((0 : Nat) : Int) = a := by omega
      rw [this]; exact .int a
    · have := rep_rg (c := c) n (a + 1)
      have e : ((fun i : Nat => V.int (a + (i : Int))) ∘ Nat.succ) = fun i : Nat => V.int (a + 1 + (i : Int)) := by
        funext i
        show V.int (a + ((i + 1 : Nat) : Int)) = _
        congr 1
        omega
      rw [e]; exact this
def rgB (a b : Int) : Bool := decide (0 ≤ a) && decide (a ≤ 100000) && decide (0 ≤ b) && decide (b ≤ 100000)
theorem rgB_ok {a b : Int} (h : rgB a b = true) : RgOk a b := by
  simp only [rgB, Bool.and_eq_true, decide_eq_true_eq] at h
  obtain ⟨⟨⟨h1, h2⟩, h3⟩, h4⟩ := h
  exact RgOk.of_le h1 (by omega) (by omega) h3
def eLRg1 (m : Bool) (f : Ev) : Ev := fun e M => (f e M).bind fun a M1 => match a with
  | .int n => if rgB 0 n then newList m (rngA 0 n.toNat) M1 else .bad
  | _ => .bad
def eLRg2 (m : Bool) (f g : Ev) : Ev := fun e M => (f e M).bind fun a M1 => (g e M1).bind fun b M2 => match a, b with
  | .int i, .int j => if rgB i j then newList m (rngA i (j - i).toNat) M2 else .bad
  | _, _ => .bad
theorem se_lRg1 {m : Bool} {a : Expr} {f : Ev} {p pos p' pos' : Pos} (hc : X.calm = true) (hg : Gl X "list") (hm : X.mg "list" = none) (hg' : Gl X "range") (hm' : X.mg "range" = none) (ha : SE Z W X a f) (hs : isStar a = false) :
    SE Z W X (.Call (.Name "list" p) [.Call (.Name "range" p') [a] [] pos'] [] pos) (eLRg1 m f) := by
  refine (pe_listRg hc hg hm (prg_1 hg' hm' ha (star_cons hs)) (star_cons (by rfl))).imp fun σ H Q ⟨c, e, M, at_, h⟩ => ?_
  refine step (R1 := Rep Z) at_ h fun c1 x v M1 H1 l1 a1 r1 h1 => ?_
  cases r1 with
  | int n =>
    simp only at h1
    split at h1
    · rename_i hz
      refine ⟨n, rfl, rgB_ok hz, fun q hq => ?_⟩
      have := rep_rg (Z := Z) (c := c1) n.toNat 0
      have e : (n - 0).toNat = n.toNat := by rw [Int.sub_zero]
      unfold rgV
      rw [e]
      exact newList_ok h1 a1.s this hq
    · exact h1.elim
  | _ => exact h1.elim
theorem se_lRg2 {m : Bool} {a b : Expr} {f g : Ev} {p pos p' pos' : Pos} (hc : X.calm = true) (hg : Gl X "list") (hm : X.mg "list" = none) (hg' : Gl X "range") (hm' : X.mg "range" = none) (ha : SE Z W X a f) (hb : SE Z W X b g) (hs : isStar a = false) (hs' : isStar b = false) :
    SE Z W X (.Call (.Name "list" p) [.Call (.Name "range" p') [a, b] [] pos'] [] pos) (eLRg2 m f g) := by
  refine (pe_listRg hc hg hm (prg_2 hg' hm' ha hb (star_cons hs) (star_cons hs') (star_any (by simp [noStar, hs']))) (star_cons (by rfl))).imp fun σ H Q ⟨c, e, M, at_, h⟩ => ?_
  refine step (R1 := Rep Z) at_ h fun c1 x v M1 H1 l1 a1 r1 h1 => ?_
  refine step (R1 := Rep Z) a1 h1 fun c2 y w M2 H2 l2 a2 r2 h2 => ?_
  split at h2
  · cases r1; cases r2
    split at h2
    · rename_i hz
      refine ⟨_, _, rfl, rfl, rgB_ok hz, fun q hq => ?_⟩
      exact newList_ok h2 a2.s (rep_rg _ _) hq
    · exact h2.elim
  · exact h2.elim
def opListM (m : Bool) (as : List Av) (M : Mem) : Res Av := match as with
  | [a] => (match asQ M a with
    | some xs => newList m xs M
    | none => .bad)
  | _ => .bad
theorem cs_listM {m : Bool} : CallS Z W (fun xs H Q => ∃ p ys, xs = [.ref p] ∧ (SqL Z.K H p ys ∨ SqT Z.K H p ys) ∧ ∀ l, H l = none → Q (.ref l) (upd H l (.lst ys))) (opListM m) := by
  intro σ c M H xs as Q s r h
  unfold opListM at h
  split at h
  · cases r with | cons r1 r2 =>
    cases r2
    split at h
    · rename_i ys hy
      obtain ⟨l, vs, rfl, q1, q2⟩ := asQ_rep s r1 hy
      exact ⟨l, vs, rfl, q1, fun p hp => newList_ok h s q2 hp⟩
    · exact h.elim
  · exact h.elim
end
end Pd
set_option maxHeartbeats 2000000
namespace Pd
open PySem PySem.Spec L2
structure DnF (Z : Sc) (k : Nat) (m : Str) (f : Addr) : Prop where
  at_ : PySem.W.findIn Z.K (.ref (Z.cl k)) m = some (some (.ref f))
  fn : PySem.W.isFn Z.K (.ref f) = true
  fi : PySem.W.fnIn Z.K f = true
section
variable {Z : Sc} {W : WX} {X : Cx}
structure DnT (Z : Sc) (X : Cx) (C : Cal) (n : Nat) (dn : Str → Nat → Option Nat) : Prop where
  h : ∀ m k id, dn m k = some id → ∃ f, DnF Z k m f ∧ Callee Z X n (C id) [] f
theorem room2 {k : Nat} {A : Around} (r : Room (k + 1) A) : Room k A.in1.in1 :=
  ⟨r.hd, by have := r.dp; show A.depth + 3 * k + 5 < _; omega, by have := r.un; show A.units + 1 + 1 + 16 * k + 200 < _; omega⟩
theorem run_sub {n : Nat} {f : Addr} {sem : Fn} {A : Around} {pins : List (Addr × Obj)} {σ : St} {H : Hp} {s : Shared} {vs : List V} {us : List Value} {Q : VK} (sb : Sub X n A) (F : Callee Z X n sem [] f) (I : Inv X pins σ H s) (r : Vals vs us) (h : spOf Z sem vs H Q ENo) :
    wpAny (model X.prog X.w) A (call (.ref f) us) (EP X pins σ Q) X.xe s := by
  obtain ⟨fd, ps, ds, dvs, F1, hb, hd, hf⟩ := F.ex
  have e0 : dvs = [] := List.eq_nil_of_length_eq_zero (hf ⟨fun _ => none, fun _ => 0, 0⟩).length
  subst e0
  have e1 : ds = [] := by cases hd; rfl
  subst e1
  have e0 : Env0 X.prog X.w X.K X.mg X.base A X.stack s H := by
    have e := I.env0
    exact ⟨by rw [sb.fr]; exact e.frames, e.mod, e.bs, e.bsz, e.funs, e.frf, e.hok, e.bare⟩
  have hl := F1.len _ _ _ _ h
  refine wpAny_call (codeAny_mono (F1.run A X.stack s H ⟨us, []⟩ us vs _ ENo sb.room e0 (by
    have := hb s us I.kIn (by rw [List.append_nil, ← r.length]; exact hl)
    simpa using this) r h) fun r s' hq => ?_)
  cases r with
  | error e =>
    obtain ⟨a, B, H', cls, d, _, _, _, _, _, _, _, hE⟩ := hq
    exact hE.elim
  | ok fl =>
    cases fl with
    | ret w => exact I.after hq
    | next => exact False.elim hq
    | brk => exact False.elim hq
    | cont => exact False.elim hq
def rSemB (Z : Sc) (op : Fn) : List V → Hp → VK → Prop := fun xs H Q => ∃ (c : Rc) (M : Mem) (as : List Av), Sim Z c M H ∧ Reps Z c xs as ∧ Okk Z WNo [] c (Rep Z) Q (op as M)
def NoExcB (op : Fn) : Prop := ∀ as M k fs M', op as M ≠ .exc k fs M'
theorem cs_sem {op : Fn} (h : NoExcB op) : CallS Z W (rSemB Z op) op := fun σ c M H xs as Q s r q => ⟨c, M, as, s, r, by
  cases e : op as M with
  | ok v M1 => rw [e] at q; exact q
  | exc k fs M1 => exact absurd e (h _ _ _ _ _)
  | bad => rw [e] at q; exact q⟩
def strR : Res Av → Res Av
  | .ok (.str x) M => .ok (.str x) M
  | _ => .bad
theorem strR_nox {r : Res Av} {k : Nat} {fs : List (Str × Av)} {M' : Mem} : strR r ≠ .exc k fs M' := by
  unfold strR
  split <;> exact fun z => nomatch z
theorem strR_sp {c : Rc} {M : Mem} {H : Hp} {vs : List V} {as : List Av} {sem : Fn} {Q : VK} (s : Sim Z c M H) (r : Reps Z c vs as) (h : Okk Z WNo [] c (Rep Z) Q (strR (sem as M))) : spOf Z sem vs H (fun z H' => ∃ b, z = .str b ∧ Q (.str b) H') ENo := by
  refine ⟨c, M, as, s, r, ?_⟩
  unfold strR at h
  cases e : sem as M with
  | bad => rw [e] at h; exact h.elim
  | exc k fs M1 => rw [e] at h; exact h.elim
  | ok v M1 =>
    rw [e] at h
    cases v with
    | str b => exact fun c' x H' l s' r' => by cases r'; exact ⟨b, rfl, h c' _ H' l s' (.str b)⟩
    | _ => exact h.elim
def opStrO (dn : Str → Nat → Option Nat) (C : Cal) : Fn := fun as M => match as with
  | [a] => (match clsA M a with
    | some k => (match dn "__str__" k with
      | some id => strR (C id [a] M)
      | none => .bad)
    | none => opStr [a] M)
  | _ => .bad
theorem opStr_nox {as : List Av} {M : Mem} {k : Nat} {fs : List (Str × Av)} {M' : Mem} : opStr as M ≠ .exc k fs M' := by
  unfold opStr
  repeat' split
  all_goals exact fun z => nomatch z
theorem strO_nox {dn : Str → Nat → Option Nat} {C : Cal} : NoExcB (opStrO dn C) := by
  intro as M k fs M'
  unfold opStrO
  split
  · split
    · split
      · exact strR_nox
      · exact fun z => nomatch z
    · exact opStr_nox
  · exact fun z => nomatch z
theorem inst_of {pins : List (Addr × Obj)} {σ : St} {H : Hp} {s : Shared} {a C dx : Addr} {fs : List (Str × V)} (I : Inv X pins σ H s) (ha : H a = some (.ins C dx fs)) : ∃ ox od, PySem.W.InstAt s.heap a ox C (some od) ∧ ox.data = .plain := by
  obtain ⟨mA, J, _⟩ := ins_get I.hok ha
  obtain ⟨od, J, _⟩ := J.look
  exact ⟨_, _, J, rfl⟩
theorem call_strO {n : Nat} {C : Cal} {dn : Str → Nat → Option Nat} (hK : X.K = Z.K) (hr : Room (n + 1) X.A) (T : DnT Z X C n dn) : CallR X (.type "str") (rSemB Z (opStrO dn C)) := by
  intro pins s σ H xs us Q I r ⟨c, M, as, sm, ra, h⟩
  unfold opStrO at h
  split at h
  · rename_i a
    cases ra with | @cons x _ _ _ r1 r2 =>
    cases r2
    split at h
    · rename_i k hk
      split at h
      · rename_i id hid
        obtain ⟨f, D, F⟩ := T.h _ k id hid
        obtain ⟨p, dx, fs, rfl, hh, ha⟩ := cls_rep0 sm r1 hk
        cases r with | @cons _ u _ _ q1 q2 =>
        cases q2
        obtain rfl : u = Value.ref p := q1
        obtain ⟨ox, od, J, _⟩ := inst_of I ha
        have rm := room2 hr
        refine PySem.W.kso_call rm.units0 I.kIn J (by rw [hK]; exact D.at_) (by rw [hK]; exact D.fn) ?_
        refine wpAny_mono (run_sub ⟨rm, rfl⟩ F I (vs := [.ref p]) (.cons (show RelV (.ref p) (Value.ref p) from rfl) .nil) (strR_sp sm (.cons r1 .nil) h)) (fun v s' ⟨z, H', I', rz, b, ez, q⟩ => ?_) fun _ _ z => z
        subst ez
        obtain ⟨t, rfl⟩ := rz
        exact ⟨.str b, H', I', ⟨t, rfl⟩, q⟩
      · exact h.elim
    · exact call_strA pins s σ H _ us Q I r ((cs_str (Z := Z) (W := WNo)) [] c M H _ _ Q sm (.cons r1 .nil) h)
  · exact h.elim
def lenR : Res Av → Res Av
  | .ok (.int i) M => if decide (0 ≤ i) && decide (i < 2 ^ 63) then .ok (.int i) M else .bad
  | _ => .bad
theorem lenR_nox {r : Res Av} {k : Nat} {fs : List (Str × Av)} {M' : Mem} : lenR r ≠ .exc k fs M' := by
  unfold lenR
  split
  · split <;> exact fun z => nomatch z
  · exact fun z => nomatch z
theorem lenR_sp {c : Rc} {M : Mem} {H : Hp} {vs : List V} {as : List Av} {sem : Fn} {Q : VK} (s : Sim Z c M H) (r : Reps Z c vs as) (h : Okk Z WNo [] c (Rep Z) Q (lenR (sem as M))) : spOf Z sem vs H (fun z H' => ∃ i : Int, z = .int i ∧ 0 ≤ i ∧ i < 2 ^ 63 ∧ Q (.int i) H') ENo := by
  refine ⟨c, M, as, s, r, ?_⟩
  unfold lenR at h
  cases e : sem as M with
  | bad => rw [e] at h; exact h.elim
  | exc k fs M1 => rw [e] at h; exact h.elim
  | ok v M1 =>
    rw [e] at h
    cases v with
    | int b =>
      simp only at h
      split at h
      · rename_i hz
        simp only [Bool.and_eq_true, decide_eq_true_eq] at hz
        exact fun c' x H' l s' r' => by cases r'; exact ⟨b, rfl, hz.1, hz.2, h c' _ H' l s' (.int b)⟩
      · exact h.elim
    | _ => exact h.elim
def opLenO (dn : Str → Nat → Option Nat) (C : Cal) : Fn := fun as M => match as with
  | [a] => (match clsA M a with
    | some k => (match dn "__len__" k with
      | some id => lenR (C id [a] M)
      | none => .bad)
    | none => opLen [a] M)
  | _ => .bad
theorem opLen_nox {as : List Av} {M : Mem} {k : Nat} {fs : List (Str × Av)} {M' : Mem} : opLen as M ≠ .exc k fs M' := by
  unfold opLen
  repeat' split
  all_goals exact fun z => nomatch z
theorem lenO_nox {dn : Str → Nat → Option Nat} {C : Cal} : NoExcB (opLenO dn C) := by
  intro as M k fs M'
  unfold opLenO
  split
  · split
    · split
      · exact lenR_nox
      · exact fun z => nomatch z
    · exact opLen_nox
  · exact fun z => nomatch z
theorem call_lenO {n : Nat} {C : Cal} {dn : Str → Nat → Option Nat} (hK : X.K = Z.K) (hr : Room (n + 1) X.A) (T : DnT Z X C n dn) : CallR X (.builtin "len") (rSemB Z (opLenO dn C)) := by
  intro pins s σ H xs us Q I r ⟨c, M, as, sm, ra, h⟩
  unfold opLenO at h
  split at h
  · rename_i a
    cases ra with | @cons x _ _ _ r1 r2 =>
    cases r2
    split at h
    · rename_i k hk
      split at h
      · rename_i id hid
        obtain ⟨f, D, F⟩ := T.h _ k id hid
        obtain ⟨p, dx, fs, rfl, hh, ha⟩ := cls_rep0 sm r1 hk
        cases r with | @cons _ u _ _ q1 q2 =>
        cases q2
        obtain rfl : u = Value.ref p := q1
        obtain ⟨ox, od, J, _⟩ := inst_of I ha
        obtain ⟨m, hF⟩ := I.fr
        refine PySem.W.len_K hF I.ok.mod.kin J (by rw [hK]; exact D.at_) (by rw [hK]; exact D.fn) ?_
        refine wpAny_mono (run_sub ⟨hr.in1, rfl⟩ F I (vs := [.ref p]) (.cons (show RelV (.ref p) (Value.ref p) from rfl) .nil) (lenR_sp sm (.cons r1 .nil) h)) (fun v s' ⟨z, H', I', rz, b, ez, h0, h1, q⟩ => ?_) fun _ _ z => z
        subst ez
        obtain ⟨t, rfl⟩ := rz
        exact ⟨⟨h0, h1⟩, .int b, H', I'.tok _, ⟨_, rfl⟩, q⟩
      · exact h.elim
    · have q := (cs_len (Z := Z) (W := WNo)) [] c M H _ _ Q sm (.cons r1 .nil) h
      rw [← hK] at q
      exact call_len pins s σ H _ us Q I r q
  · exact h.elim
end
end Pd
set_option maxHeartbeats 2000000
namespace Pd
open PySem PySem.Spec L2 PySem.W
section
variable {prog : Program} {w : World} {A : Around} {E : Value → Shared → Prop} {s : Shared} {K : Frag} {x C f L : Addr} {ox : Obj} {od : Option Obj} {h₀ : Heap} {m : Str → Option Value} {b tb : Value}
theorem ifBound_B {M : Model} {name : Str} {id : String} {args : List Value} {Q : Option Value → Shared → Prop} (X : K.In s.heap) (I : InstAt s.heap x ox C od) (hs : findIn K (.ref C) name = some (some (.builtin id)))
    (hb : ∀ self, bindSpecial (.builtin id) self = pure (.builtin id, [self])) (h : wpAny M A (call (.builtin id) (.ref x :: args)) (fun v => Q (some v)) E s) : wpAny M A (callSpecialIfBound? (.ref x) name args) Q E s := by
  simp only [callSpecialIfBound?, bindSpecialIfBound?]
  refine wpAny_holding (wpAny_bind (wpAny_bind (wpAny_bind (I.type.here ((looks_findIn X hs).here ?_)))))
  refine wpAny_bind (wpAny_askSetting (wpAny_ite ?_))
  have fin : wpAny M A (call (.builtin id) ([.ref x] ++ args) >>= fun v => pure (some v)) Q E s := wpAny_bind (wpAny_mono h (fun v s' h' => wpAny_pure h') fun _ _ h' => h')
  simp only [hb]
  split
  · exact wpAny_bind (wpAny_pure (wpAny_pure fin))
  · exact wpAny_tryCatch (wpAny_bind (wpAny_pure (wpAny_pure fin)))
def NeBack (Q : Value → Shared → Prop) (v : Value) (s' : Shared) : Prop := ∃ b, v = .bool b ∧ Q (.bool (!b)) s'
theorem objNe_K {Q : Value → Shared → Prop} (hu : A.in1.units < cLine) (X : K.In s.heap) (I : InstAt s.heap x ox C od) (hm : mroIn K C (.type "object") = some true) (he : findIn K (.ref C) "__eq__" = some (some (.ref f))) (hf : isFn K (.ref f) = true)
    (h : wpAny (model prog w) A.in1 (call (.ref f) [.ref x, b]) (NeBack Q) E s) : wpAny (model prog w) A (call (.builtin "object.__ne__") [.ref x, b]) Q E s := by
  refine wpAny_call (codeAny_call_builtin PySem.F.slot_zip_ne.plain PySem.F.cmpEntry_ne (check_slot (i := "object.__ne__") (owner := "object") (n := "__ne__") PySem.F.cmpKind_ne PySem.F.cmpSplit_ne (I.type.andThen (looks_mroIn X hm)) (PySem.F.cmpArgs_ne _ _) ?_))
  unfold Builtin.«object.__ne__»
  refine wpAny_bind (m := slotArgs "__ne__" 1 _) (wpAny_pure ?_)
  refine wpAny_bind (m := cRoomFor _ _) (wpAny_cRoomFor hu ?_)
  refine wpAny_bind (m := callSpecialIfBound? (.ref x) (Str.ofString "__eq__") _) (ifBound_K X I he hf (wpAny_mono h (fun r s' hr => ?_) fun _ _ y => y))
  obtain ⟨k, rfl, hq⟩ := hr
  exact wpAny_bind (wpAny_truthy_bool (wpAny_pure hq))
theorem cmpNe_K {Q : Value → Shared → Prop} (hu : A.units < cLine) (hu1 : A.in1.units < cLine) (X : K.In s.heap) (I : InstAt s.heap x ox C od) (hb : Looks (model prog w) s.heap (typeOf b) tb) (hn : notFirst K C tb = true)
    (hne : findIn K (.ref C) "__ne__" = some (some (.builtin "object.__ne__"))) (hm : mroIn K C (.type "object") = some true) (he : findIn K (.ref C) "__eq__" = some (some (.ref f))) (hf : isFn K (.ref f) = true)
    (h : wpAny (model prog w) A.in1 (call (.ref f) [.ref x, b]) (NeBack Q) E s) : wpAny (model prog w) A (richCompare .NotEq (.ref x) b) Q E s := by
  have one : wpAny (model prog w) A (tryCompare (.ref x) (cmpInfo .NotEq).2.1 b) (fun r s' => ∃ v, r = some v ∧ Q v s') E s := by
    unfold tryCompare
    refine wpAny_bind (ifBound_B X I hne (fun self => PySem.F.slot_zip_ne.bind self) (wpAny_mono (objNe_K (Q := fun v s' => (∃ k, v = Value.bool k) ∧ Q v s') hu1 X I hm he hf (wpAny_mono h (fun v s' hv => ?_) fun _ _ e => e)) (fun v s' hv => ?_) fun _ _ e => e))
    · obtain ⟨k, rfl, hq⟩ := hv
      exact ⟨k, rfl, ⟨_, rfl⟩, hq⟩
    · obtain ⟨⟨k, rfl⟩, hq⟩ := hv
      exact wpAny_pure ⟨_, rfl, hq⟩
  unfold richCompare
  simp only [oneThing_ref]
  refine wpAny_holding (wpAny_bind (wpAny_cRoomFor hu ?_))
  refine wpAny_bind (I.type.here (wpAny_bind (hb.here ?_)))
  split
  · rename_i q
    have e : subIn K tb (.ref C) = some false := by
      rcases Bool.or_eq_true_iff.mp hn with e | e
      · rw [beq_iff_eq.mp e] at q; simp at q
      · exact beq_iff_eq.mp e
    refine wpAny_bind ((looks_subIn X e).here ?_)
    simp only [Bool.false_eq_true, if_false]
    refine wpAny_bind (wpAny_mono one (fun r s' z => ?_) fun _ _ e => e)
    obtain ⟨v, rfl, hq⟩ := z
    exact wpAny_pure hq
  · refine wpAny_bind (wpAny_pure ?_)
    simp only [Bool.false_eq_true, if_false]
    refine wpAny_bind (wpAny_mono one (fun r s' z => ?_) fun _ _ e => e)
    obtain ⟨v, rfl, hq⟩ := z
    exact wpAny_pure hq
end
section
variable {Z : Sc} {W : WX} {X : Cx}
def notR : Res Av → Res Av
  | .ok (.bl b) M => .ok (.bl (!b)) M
  | _ => .bad
theorem notR_nox {r : Res Av} {k : Nat} {fs : List (Str × Av)} {M' : Mem} : notR r ≠ .exc k fs M' := by
  unfold notR
  split <;> exact fun z => nomatch z
theorem notR_sp {c : Rc} {M : Mem} {H : Hp} {vs : List V} {as : List Av} {sem : Fn} {Q : VK} (s : Sim Z c M H) (r : Reps Z c vs as) (h : Okk Z WNo [] c (Rep Z) Q (notR (sem as M))) : spOf Z sem vs H (fun z H' => ∃ b, z = .bl b ∧ Q (.bl (!b)) H') ENo := by
  refine ⟨c, M, as, s, r, ?_⟩
  unfold notR at h
  cases e : sem as M with
  | bad => rw [e] at h; exact h.elim
  | exc k fs M1 => rw [e] at h; exact h.elim
  | ok v M1 =>
    rw [e] at h
    cases v with
    | bl b => exact fun c' x H' l s' r' => by cases r'; exact ⟨b, rfl, h c' _ H' l s' (.bl _)⟩
    | _ => exact h.elim
def opNeO (eq : Nat → Option Nat) (C : Cal) (a b : Av) (M : Mem) : Res Av := match clsA M a with
  | some k => (match eq k, kdA M b with
    | some id, some _ => notR (C id [a, b] M)
    | _, _ => .bad)
  | none => opEq true a b M
theorem neO_nox {eq : Nat → Option Nat} {C : Cal} : NoExc (opNeO eq C) := by
  intro a b M k fs M'
  unfold opNeO
  split
  · split
    · exact notR_nox
    · exact fun z => nomatch z
  · unfold opEq
    repeat' split
    all_goals exact fun z => nomatch z
theorem op_neO {n : Nat} {C : Cal} {eq : Nat → Option Nat} (hK : X.K = Z.K) (hC : ClsFacts Z) (hI : IsiF Z) (hr : Room (n + 1) X.A) (T : EqT Z X C n eq) : OpR X (compareOp .NotEq) (rSem Z (opNeO eq C)) := by
  intro pins s σ H x y v u Q I rx ry ⟨c, M, a, b, sm, ra, rb, h⟩
  unfold opNeO at h
  split at h
  · rename_i k hk
    split at h
    · rename_i id kd h1 h2
      obtain ⟨f, E, F⟩ := T.h k id h1
      obtain ⟨p, dx, fs, rfl, hh, ha⟩ := cls_rep0 sm ra hk
      obtain ⟨t1, t2⟩ := kd_rep hC hI sm rb h2
      obtain rfl : v = Value.ref p := rx
      rw [← hK] at t1
      obtain ⟨ox, od, J, _⟩ := inst_of I ha
      obtain ⟨P, Zk, pp, _⟩ := kit_of I ry t1
      refine cmpNe_K hr.units0 hr.in1.units0 I.kIn J (Zk.ty _ _ I.kIn pp) (by rw [hK]; exact nf_kd E t2) (by rw [hK]; exact E.ne) (by rw [hK]; exact E.ob) (by rw [hK]; exact E.at_) (by rw [hK]; exact E.fn) ?_
      refine wpAny_mono (run_sub ⟨hr.in1, rfl⟩ F I (vs := [.ref p, y]) (.cons (show RelV (.ref p) (Value.ref p) from rfl) (.cons ry .nil)) (notR_sp sm (.cons ra (.cons rb .nil)) h)) (fun v s' ⟨z, H', I', rz, b, ez, q⟩ => ?_) fun _ _ z => z
      subst ez
      cases rz
      exact ⟨b, rfl, .bl (!b), H', I', rfl, q⟩
    · exact h.elim
  · have q := (ops_ne (Z := Z) (W := WNo)) [] c M H x y a b Q sm ra rb h
    rw [← hK] at q
    exact op_neA hr.units pins s σ H x y v u Q I rx ry q
theorem code_sub {n : Nat} {f : Addr} {sem : Fn} {A : Around} {pins : List (Addr × Obj)} {σ : St} {H : Hp} {s : Shared} {vs : List V} {us : List Value} {as : List Av} {c : Rc} {M : Mem} {Q : VK} {R : Result → Shared → Prop} (sb : Sub X n A) (F : Callee Z X n sem [] f) (tk : Takes X W) (I : Inv X pins σ H s) (r : Vals vs us) (sm : Sim Z c M H) (rv : Reps Z c vs as)
    (h : Okk Z W σ c (Rep Z) Q (sem as M)) (h1 : ∀ u s', EP X pins σ Q u s' → R (.ok (.ret u)) s') (h2 : ∀ e s', X.xe e s' → R (.error e) s') : codeAny (model X.prog X.w) A (.call (.ref f) ⟨us, []⟩) R s := by
  obtain ⟨fd, ps, ds, dvs, F1, hb, hd, hf⟩ := F.ex
  have e0 : dvs = [] := List.eq_nil_of_length_eq_zero (hf ⟨fun _ => none, fun _ => 0, 0⟩).length
  subst e0
  have e1 : ds = [] := by cases hd; rfl
  subst e1
  have e0 : Env0 X.prog X.w X.K X.mg X.base A X.stack s H := by
    have e := I.env0
    exact ⟨by rw [sb.fr]; exact e.frames, e.mod, e.bs, e.bsz, e.funs, e.frf, e.hok, e.bare⟩
  have hsp : spOf Z sem vs H Q (WE W σ) := ⟨c, M, as, sm, rv, h.wish⟩
  have hl := F1.len _ _ _ _ hsp
  refine codeAny_mono (F1.run A X.stack s H ⟨us, []⟩ us vs _ (WE W σ) sb.room e0 (by
    have := hb s us I.kIn (by rw [List.append_nil, ← r.length]; exact hl)
    simpa using this) r hsp) fun r s' hq => ?_
  cases r with
  | error e => exact h2 _ _ (passAt tk σ pins H s e s' I hq)
  | ok fl =>
    cases fl with
    | ret w => exact h1 _ _ (I.after hq)
    | next => exact False.elim hq
    | brk => exact False.elim hq
    | cont => exact False.elim hq
theorem run_subX {n : Nat} {f : Addr} {sem : Fn} {A : Around} {pins : List (Addr × Obj)} {σ : St} {H : Hp} {s : Shared} {vs : List V} {us : List Value} {as : List Av} {c : Rc} {M : Mem} {Q : VK} (sb : Sub X n A) (F : Callee Z X n sem [] f) (tk : Takes X W) (I : Inv X pins σ H s) (r : Vals vs us) (sm : Sim Z c M H) (rv : Reps Z c vs as)
    (h : Okk Z W σ c (Rep Z) Q (sem as M)) : wpAny (model X.prog X.w) A (call (.ref f) us) (EP X pins σ Q) X.xe s :=
  wpAny_call (code_sub sb F tk I r sm rv h (fun _ _ z => z) fun _ _ z => z)
def rSemW (Z : Sc) (W : WX) (σ : St) (op : Av → Av → Mem → Res Av) : R2 := fun x y H Q => ∃ (c : Rc) (M : Mem) (a b : Av), Sim Z c M H ∧ Rep Z c x a ∧ Rep Z c y b ∧ Okk Z W σ c (Rep Z) Q (op a b M)
theorem imp_binW {op : Av → Av → Mem → Res Av} {fa fb : Ev} : ∀ σ H Q, T Z W (Rep Z) (eBin op fa fb) σ H Q → tOp (rSemW Z W σ op) (T Z W (Rep Z) fa) (T Z W (Rep Z) fb) σ H Q := by
  intro σ H Q ⟨c, e, M, a, h⟩
  refine step (R1 := Rep Z) a h fun c1 x v M1 H1 l1 a1 r1 h1 => ?_
  exact step (R1 := Rep Z) a1 h1 fun c2 y w M2 H2 l2 a2 r2 h2 => ⟨c2, M2, v, w, a2.s, r1.mono l2, r2, h2⟩
def opIxO (dn : Str → Nat → Option Nat) (C : Cal) (a b : Av) (M : Mem) : Res Av := match clsA M a with
  | some k => (match dn "__getitem__" k with
    | some id => C id [a, b] M
    | none => .bad)
  | none => opIx a b M
theorem opIx_nox {a b : Av} {M : Mem} {k : Nat} {fs : List (Str × Av)} {M' : Mem} : opIx a b M ≠ .exc k fs M' := by
  unfold opIx
  repeat' split
  all_goals exact fun z => nomatch z
theorem se_ixO {n : Nat} {C : Cal} {dn : Str → Nat → Option Nat} {a b : Expr} {fa fb : Ev} {pos : Pos} (hK : X.K = Z.K) (hr : Room (n + 1) X.A) (T : DnT Z X C n dn) (tk : Takes X W) (hs : isSlice b = false) (ha : SE Z W X a fa) (hb : SE Z W X b fb) : SE Z W X (.Subscript a b pos) (eBin (opIxO dn C) fa fb) := by
  refine ⟨fun pins s σ H Q I h => ?_⟩
  refine PyProof.Rows.Subscript_ (binT ha hb I (imp_binW σ H Q h) fun v u s2 x y H2 I2 rx ry q => ?_)
  obtain ⟨c, M, va, vb, sm, ra, rb, q⟩ := q
  unfold opIxO at q
  split at q
  · rename_i k hk
    split at q
    · rename_i id hid
      obtain ⟨f, D, F⟩ := T.h _ k id hid
      obtain ⟨p, dx, fs, rfl, hh, hp⟩ := cls_rep0 sm ra hk
      obtain rfl : v = Value.ref p := rx
      obtain ⟨ox, od, J, _⟩ := inst_of I2 hp
      obtain ⟨m, hF⟩ := I2.fr
      refine PySem.W.sub_K hF I2.ok.mod.kin J (by rw [hK]; exact D.at_) (by rw [hK]; exact D.fi) (by rw [hK]; exact D.fn) ?_ (by cases b <;> first | rfl | cases hs)
      exact run_subX ⟨hr.in1, rfl⟩ F tk I2 (vs := [.ref p, y]) (.cons (show RelV (.ref p) (Value.ref p) from rfl) (.cons ry .nil)) sm (.cons ra (.cons rb .nil)) q
    · exact q.elim
  · have q2 : Okk Z WNo [] c (Rep Z) Q (opIx va vb M) := by
      cases e : opIx va vb M with
      | ok v M1 => rw [e] at q; exact q
      | exc k fs M1 => exact absurd e opIx_nox
      | bad => rw [e] at q; exact q
    have q3 := (ops_ix (Z := Z) (W := WNo)) [] c M H2 x y va vb Q sm ra rb q2
    rw [← hK] at q3
    exact ix_all (by have := hr.un; omega) a b pins s2 σ H2 x y v u Q I2 rx ry q3 (ix_of hs _ _)
def opAddO (dn : Str → Nat → Option Nat) (C : Cal) (a b : Av) (M : Mem) : Res Av := match clsA M a with
  | some k => (match dn "__add__" k, clsA M b with
    | some id, some j => if Nat.beq k j then (match C id [a, b] M with
      | .ok (.obj c ns xs) M1 => .ok (.obj c ns xs) M1
      | _ => .bad) else .bad
    | _, _ => .bad)
  | none => opAdd a b M
theorem opAdd_nox {a b : Av} {M : Mem} {k : Nat} {fs : List (Str × Av)} {M' : Mem} : opAdd a b M ≠ .exc k fs M' := by
  unfold opAdd
  repeat' split
  all_goals exact fun z => nomatch z
theorem addO_nox {dn : Str → Nat → Option Nat} {C : Cal} : NoExc (opAddO dn C) := by
  intro a b M k fs M'
  unfold opAddO
  split
  · repeat' split
    all_goals exact fun z => nomatch z
  · exact opAdd_nox
structure AdF (Z : Sc) (k : Nat) : Prop where
  sf : PySem.W.selfFirst Z.K (Z.cl k) = true
theorem op_addO {n : Nat} {C : Cal} {dn : Str → Nat → Option Nat} (hK : X.K = Z.K) (hr : Room n X.A) (T : DnT Z X C n dn) (hA : ∀ k id, dn "__add__" k = some id → AdF Z k) : OpR X (binaryOp .Add) (rSem Z (opAddO dn C)) := by
  intro pins s σ H x y v u Q I rx ry ⟨c, M, a, b, sm, ra, rb, h⟩
  unfold opAddO at h
  split at h
  · rename_i k hk
    split at h
    · rename_i id j h1 h2
      split at h
      · rename_i hkj
        have hkj := Nat.eq_of_beq_eq_true hkj
        subst hkj
        obtain ⟨f, D, F⟩ := T.h _ k id h1
        obtain ⟨p, dx, fs, rfl, hh, hp⟩ := cls_rep0 sm ra hk
        obtain ⟨p2, dx2, fs2, rfl, _, hp2⟩ := cls_rep0 sm rb h2
        obtain rfl : v = Value.ref p := rx
        obtain rfl : u = Value.ref p2 := ry
        obtain ⟨ox, od, J, _⟩ := inst_of I hp
        obtain ⟨ox2, od2, J2, _⟩ := inst_of I hp2
        obtain ⟨m, hF⟩ := I.fr
        refine PySem.W.binop_K (op := .Add) hF I.ok.mod.kin J J2.type (by rw [hK]; exact (hA k id h1).sf) (by rw [hK]; exact D.at_) (by rw [hK]; exact D.fn) ?_
        have hsp : spOf Z (C id) [.ref p, .ref p2] H (fun z H' => (∃ q, z = .ref q) ∧ Q z H') ENo := by
          refine ⟨c, M, [a, b], sm, .cons ra (.cons rb .nil), ?_⟩
          cases e : C id [a, b] M with
          | bad => rw [e] at h; exact h.elim
          | exc k fs M1 => rw [e] at h; exact h.elim
          | ok w M1 =>
            rw [e] at h
            cases w with
            | obj c' ns xs => exact fun c' x H' l s' r' => ⟨by cases r'; exact ⟨_, rfl⟩, h c' _ H' l s' r'⟩
            | _ => exact h.elim
        refine wpAny_mono (run_sub ⟨hr, rfl⟩ F I (vs := [.ref p, .ref p2]) (.cons (show RelV (.ref p) (Value.ref p) from rfl) (.cons (show RelV (.ref p2) (Value.ref p2) from rfl) .nil)) hsp) (fun w s' ⟨z, H', I', rz, ⟨q, ez⟩, qq⟩ => ?_) fun _ _ z => z
        subst ez
        obtain rfl : w = Value.ref q := rz
        exact ⟨.ref q, H', I', rfl, qq⟩
      · exact h.elim
    · exact h.elim
  · have q := (ops_add (Z := Z) (W := WNo)) [] c M H x y a b Q sm ra rb h
    rw [← hK] at q
    exact op_addA pins s σ H x y v u Q I rx ry q
def eCallO (dn : Str → Nat → Option Nat) (C : Cal) (fo : Ev) (g : Ea) : Ev := fun e M => (fo e M).bind fun a M1 => if (clsA M1 a).isSome then (g e M1).bind fun as M2 => (match clsA M2 a with
  | some k => (match dn "__call__" k with
    | some id => C id (a :: as) M2
    | none => .bad)
  | none => .bad) else .bad
theorem se_callO {n : Nat} {C : Cal} {dn : Str → Nat → Option Nat} {x : Str} {p pos : Pos} {e : Expr} {es : List Expr} {fo : Ev} {g : Ea} (hK : X.K = Z.K) (hr : Room n X.A) (D0 : DnT Z X C n dn) (tk : Takes X W) (hf : SE Z W X (.Name x p) fo) (ha : SA Z W X (e :: es) g) (hst : noStar (e :: es) = true) :
    SE Z W X (.Call (.Name x p) (e :: es) [] pos) (eCallO dn C fo g) := by
  refine ⟨fun pins s σ H Q I ⟨c, en, M, a, h⟩ => ?_⟩
  refine PyProof.Rows.Call_ (thn (hf.run pins s σ H (fun y H1 => ∃ c1 M1 v, At Z c1 en M1 σ H1 ∧ Rep Z c1 y v ∧ (clsA M1 v).isSome = true ∧ Okk Z W σ c1 (Rep Z) Q ((g en M1).bind fun as M2 => match clsA M2 v with
    | some k => (match dn "__call__" k with
      | some id => C id (v :: as) M2
      | none => .bad)
    | none => .bad)) I ?_) fun u s1 ⟨y, H1, I1, ry, c1, M1, v, a1, r1, hc, h1⟩ => ?_) rfl
  · refine step (R1 := Rep Z) a h fun c' x b M' H' l a' r h' => ?_
    split at h'
    · rename_i hz
      exact ⟨c', M', b, a', r, hz, h'⟩
    · exact h'.elim
  · cases y with
    | ref q =>
      obtain rfl : u = Value.ref q := ry
      refine StX.callO_with (thn (ha.run pos pins s1 σ H1 (fun vs H2 => ∃ c2 M2 as, Sim Z c2 M2 H2 ∧ Reps Z c2 vs as ∧ Rep Z c2 (.ref q) v ∧ Okk Z W σ c2 (Rep Z) Q (match clsA M2 v with
        | some k => (match dn "__call__" k with
          | some id => C id (v :: as) M2
          | none => .bad)
        | none => .bad)) I1 ?_) fun us s2 ⟨vs, H2, I2, r, c2, M2, as, sm, rv, rq, h2⟩ => ?_) (star_cons (noStar_cons hst).1) (star_any (noStar_cons hst).2)
      · exact step (R1 := Reps Z) a1 h1 fun c' x b M' H' l a' r h' => ⟨c', M', b, a'.s, r, r1.mono l, h'⟩
      · split at h2
        · rename_i k hk
          split at h2
          · rename_i id hid
            obtain ⟨f, D, F⟩ := D0.h _ k id hid
            obtain ⟨p, dx, fs, e1, hh, hp⟩ := cls_rep0 sm rq hk
            cases e1
            obtain ⟨ox, od, J, hd⟩ := inst_of I2 hp
            refine ⟨⟨_, ox, _, J, hd⟩, wpAny_call (PySem.W.kco_code I2.kIn J hd (by rw [hK]; exact D.at_) (by rw [hK]; exact D.fn) (by rw [hK]; exact D.fi) ?_)⟩
            exact code_sub ⟨hr, rfl⟩ F tk I2 (vs := .ref q :: vs) (us := .ref q :: us) (.cons (show RelV (.ref q) (Value.ref q) from rfl) r) sm (.cons rq rv) h2 (fun _ _ z => z) fun _ _ z => z
          · exact h2.elim
        · exact h2.elim
    | _ =>
      exfalso
      cases hk : clsA M1 v with
      | none => rw [hk] at hc; cases hc
      | some k =>
        obtain ⟨p, dx, fs, e1, _⟩ := cls_rep0 a1.s r1 hk
        cases e1
end
end Pd
set_option maxHeartbeats 2000000
namespace Pd
open PySem PySem.Spec L2
structure Kq where
  sq : PySem.W.Frag → Hp → Addr → List V → Prop
  has : Heap → Addr → Array Value → Prop
  itr : Heap → Addr → Addr → Nat → Prop
  ob : Addr → Obj
structure KqOk (k : Kq) : Prop where
  vals : ∀ {X : Cx} {pins : List (Addr × Obj)} {σ : St} {H : Hp} {s : Shared} {a : Addr} {xs : List V}, Inv X pins σ H s → k.sq X.K H a xs → ∃ its : List Value, Vals xs its ∧ k.has s.heap a its.toArray ∧ a < s.heap.objs.size
  inj : ∀ {X : Cx} {pins : List (Addr × Obj)} {σ : St} {H : Hp} {s : Shared} {a : Addr} {xs ys : List V}, Inv X pins σ H s → k.sq X.K H a xs → k.sq X.K H a ys → xs = ys
  draws : ∀ (prog : Program) (w : World) (A : Around), A.handled = none → ∀ (it l : Addr), l ≠ it → ∀ items : Array Value, Draws prog w A it [it, l] items.size (fun i v => items[i]? = some v) (fun i h => k.itr h it l i ∧ k.has h l items)
  begins : ∀ (l : Addr) (items : Array Value), Begins (.ref l) (k.ob l) (fun h => k.has h l items)
  start : ∀ (h : Heap) (it l : Addr), h.get? it = some (k.ob l) → k.itr h it l 0
  obj : ∀ (h : Heap) (it l : Addr) (i : Nat), k.itr h it l i → ∃ o, h.get? it = some o ∧ ∀ v, o.data ≠ .cell v
  keep : ∀ (h h' : Heap) (it l : Addr) (i : Nat), k.itr h it l i → (∀ o, h.get? it = some o → h'.get? it = some o) → k.itr h' it l i
def kqL : Kq := ⟨SqL, fun h l items => h.IsList l items, fun h it l i => h.IsListIter it l i, fun l => { cls := .type "list_iterator", data := .fields #[.ref l, .int 0 0] }⟩
def kqT : Kq := ⟨SqT, fun h l items => h.IsTuple l items, fun h it l i => h.IsTupleIter it l i, fun l => { cls := .type "tuple_iterator", data := .fields #[.ref l, .int 0 0] }⟩
theorem kqL_ok : KqOk kqL where
  vals := fun I h => by
    obtain ⟨its, r, p, _⟩ := I.list h
    exact ⟨its, r, p.isList, p.lt⟩
  inj := fun I h h' => I.list_inj h h'
  draws := fun prog w A hh it l hne items => Draws.list hh it l hne items
  begins := fun l items => begins_list l items
  start := fun h it l e => ⟨_, e, rfl, rfl⟩
  obj := fun h it l i st => by
    obtain ⟨o, e, _, d⟩ := st
    exact ⟨o, e, fun v q => by rw [d] at q; cases q⟩
  keep := fun h h' it l i st k => st.at k
theorem kqT_ok : KqOk kqT where
  vals := fun I h => by
    obtain ⟨its, r, p, _⟩ := I.tuple h
    obtain ⟨o, ho, _⟩ := id p
    exact ⟨its, r, p, Heap.lt_size ho⟩
  inj := fun I h h' => I.tuple_inj h h'
  draws := fun prog w A hh it l hne items => Draws.tuple hh it l hne items
  begins := fun l items => begins_tuple l items
  start := fun h it l e => ⟨_, e, rfl, rfl⟩
  obj := fun h it l i st => by
    obtain ⟨o, e, _, d⟩ := st
    exact ⟨o, e, fun v q => by rw [d] at q; cases q⟩
  keep := fun h h' it l i st k => st.at k
def zipJ (k1 k2 : Kq) (K : PySem.W.Frag) (a b : Addr) : It :=
  ⟨fun i H => ∃ (us ws : List V) (u w : V), k1.sq K H a us ∧ k2.sq K H b ws ∧ us[i]? = some u ∧ ws[i]? = some w,
    fun i H v H2 => ∃ N u w, v = .ref N ∧ H N = none ∧ H2 = upd H N (.tup [u, w]) ∧ (∀ us, k1.sq K H a us → us[i]? = some u) ∧ ∀ ws, k2.sq K H b ws → ws[i]? = some w,
    fun i H => ∃ us ws : List V, k1.sq K H a us ∧ k2.sq K H b ws ∧ i ≤ us.length ∧ i ≤ ws.length ∧ (i = us.length ∨ i = ws.length)⟩
theorem turn_kq {k1 k2 : Kq} (o1 : KqOk k1) (o2 : KqOk k2) {P : Program} {w : World} {K : PySem.W.Frag} {elts : List Expr} {kk : Nat} {tp : Pos} {a b z ti tO p q : Addr} (S : ZipSep2 z ti tO p q [p, a] [q, b]) (hap : a ≠ p) (hbq : b ≠ q) :
    Turn P w K (.Tuple elts kk tp) (zipJ k1 k2 K a b) [z, ti, tO, p, q] z (fun i h => IsZip h z ti tO .none ∧ IsTupOf2 h ti (.ref p) (.ref q) ∧ (∃ x y, IsTupOf2 h tO x y) ∧ k1.itr h p a i ∧ k2.itr h q b i) := by
  have pz : p ≠ z := fun e => S.zf1 (by rw [← e]; simp)
  have qz : q ≠ z := fun e => S.zf2 (by rw [← e]; simp)
  refine ⟨by simp, fun i h st c hc => ?_, fun i h h2 st k => ?_, ?_, ?_, fun A i s Q E st hq => wpAny_pyIter_zip st.1 hq⟩
  · obtain ⟨sz, si, ⟨x, y, so⟩, s1, s2⟩ := st
    simp only [List.mem_cons, List.not_mem_nil, or_false] at hc
    rcases hc with rfl | rfl | rfl | rfl | rfl
    · exact ⟨_, sz, fun v e => by cases e⟩
    · exact ⟨_, si, fun v e => by cases e⟩
    · exact ⟨_, so, fun v e => by cases e⟩
    · exact o1.obj _ _ _ _ s1
    · exact o2.obj _ _ _ _ s2
  · obtain ⟨sz, si, ⟨x, y, so⟩, s1, s2⟩ := st
    exact ⟨k z (by simp) _ sz, k ti (by simp) _ si, ⟨x, y, k tO (by simp) _ so⟩, o1.keep _ _ _ _ _ s1 (k p (by simp)), o2.keep _ _ _ _ _ s2 (k q (by simp))⟩
  · intro X e1 e2 e3 hc i pins s σ H E I hf st hg
    subst e1 e2 e3
    obtain ⟨sz, si, ⟨x0, y0, so⟩, s1, s2⟩ := st
    obtain ⟨us, ws, u, v, hu, hv, gu, gv⟩ := hg
    obtain ⟨its, r1, p1, _⟩ := o1.vals I hu
    obtain ⟨jts, r2, p2, _⟩ := o2.vals I hv
    obtain ⟨m, hm, rm⟩ := r1.get gu
    obtain ⟨n, hn, rn⟩ := r2.get gv
    have hh : X.A.in1.handled = none := I.ok.hd hc
    have i1 : i < its.length := (List.getElem?_eq_some_iff.mp hm).1
    have i2 : i < jts.length := (List.getElem?_eq_some_iff.mp hn).1
    have zl : z < s.heap.objs.size := Heap.lt_size sz
    refine wpAny_pyNext_zipD2_item S (o1.draws _ _ _ hh p a hap its.toArray) (o2.draws _ _ _ hh q b hbq jts.toArray) sz si so ⟨s1, p1⟩ ⟨s2, p2⟩ (by simpa using i1) (by simpa using i2) fun m' n' h1 tk em eN z1 to1 t1 t2 new1 size1 rest => ?_
    have em : m' = m := by
      have em : its.toArray[i]? = some m' := em
      rw [List.getElem?_toArray, hm] at em
      exact (Option.some.inj em).symm
    have eN : n' = n := by
      have eN : jts.toArray[i]? = some n' := eN
      rw [List.getElem?_toArray, hn] at eN
      exact (Option.some.inj eN).symm
    subst em eN
    refine ⟨_, rfl, wpAny_letOwnedTupleGo_zip (s := { s with heap := h1, toks := tk }) z1 fun h2 z2 but => ?_⟩
    have new2 : h2.get? s.heap.objs.size = some { cls := .type "tuple", data := .seq #[m', n'] } := (but.2 _ (Nat.ne_of_gt zl)).trans new1
    have ok2 : ObjOk X.prog X.w (upd H s.heap.objs.size (.tup [u, v])) h2 s.heap.objs.size (.tup [u, v]) := ⟨by show 2 ≤ sizeLine; decide, [m', n'], .cons rm (.cons rn .nil), ⟨_, new2, rfl, _, rfl⟩⟩
    have all5 : ∀ (c : Addr) (o : Obj), c ∉ [z, ti, tO, p, q] → s.heap.get? c = some o → h2.get? c = some o := by
      intro c o hn e
      simp only [List.mem_cons, List.not_mem_nil, or_false, not_or] at hn
      obtain ⟨c1, _, c3, c4, c5⟩ := hn
      exact (but.2 c c1).trans (rest c o c1 c3 c4 c5 e)
    have I2 : Inv X pins σ (upd H s.heap.objs.size (.tup [u, v])) { s with heap := h2, toks := tk } := I.turnedNew (t' := tk) (ch := [z, ti, tO, p, q]) all5 hf (Nat.le_refl _) ok2
    refine ⟨.ref s.heap.objs.size, _, I2, rfl, ⟨_, u, v, rfl, I.hok.fresh (Nat.le_refl _), rfl, fun us' h' => ?_, fun ws' h' => ?_⟩, ⟨z2, ?_, ⟨m', n', ?_⟩, ?_, ?_⟩, fun c hcm => ?_⟩
    · rw [o1.inj I h' hu]; exact gu
    · rw [o2.inj I h' hv]; exact gv
    · exact (but.2 _ S.TIz).trans (rest _ _ S.TIz S.TITO S.TIi1 S.TIi2 si)
    · exact (but.2 _ S.TOz).trans to1
    · exact o1.keep _ _ _ _ _ t1.1 fun o e => (but.2 _ pz).trans e
    · exact o2.keep _ _ _ _ _ t2.1 fun o e => (but.2 _ qz).trans e
    · have lt : c < s.heap.objs.size := by
        simp only [List.mem_cons, List.not_mem_nil, or_false] at hcm
        rcases hcm with rfl | rfl | rfl | rfl | rfl
        · exact zl
        · exact Heap.lt_size si
        · exact Heap.lt_size so
        · obtain ⟨o, e, _⟩ := o1.obj _ _ _ _ s1; exact Heap.lt_size e
        · obtain ⟨o, e, _⟩ := o2.obj _ _ _ _ s2; exact Heap.lt_size e
      rw [upd_ne (Nat.ne_of_lt lt)]
      exact (hf c hcm).1
  · intro X e1 e2 e3 hc i pins s σ H E I hf st hg
    subst e1 e2 e3
    obtain ⟨sz, si, ⟨x0, y0, so⟩, s1, s2⟩ := st
    obtain ⟨us, ws, hu, hv, l1, l2, le⟩ := hg
    obtain ⟨its, r1, p1, _⟩ := o1.vals I hu
    obtain ⟨jts, r2, p2, _⟩ := o2.vals I hv
    have hh : X.A.in1.handled = none := I.ok.hd hc
    have n1 := r1.length
    have n2 := r2.length
    refine wpAny_pyNext_zipD2_end S (o1.draws _ _ _ hh p a hap its.toArray) (o2.draws _ _ _ hh q b hbq jts.toArray) sz si so ⟨s1, p1⟩ ⟨s2, p2⟩ (by simp; omega) (by simp; omega) (by simp; omega) fun h1 tk rest => ⟨rfl, ?_⟩
    refine I.turnedL (t' := tk) (ch := [z, ti, tO, p, q]) (fun c o hn e => ?_) hf
    simp only [List.mem_cons, List.not_mem_nil, or_false, not_or] at hn
    obtain ⟨c1, _, c3, c4, c5⟩ := hn
    exact rest c o c1 c3 c4 c5 e
theorem no2 {x a b : Nat} (h1 : x ≠ a) (h2 : x ≠ b) : x ∉ [a, b] := by simp [h1, h2]
theorem nn {x y : Nat} (h : x ≠ y) : @Ne Addr x y := h
theorem sep_at (N a b : Nat) (la : a < N) (lb : b < N) : ZipSep2 (N + 4) (N + 2) (N + 3) N (N + 1) [N, a] [N + 1, b] :=
  ⟨nn (by omega), nn (by omega), nn (by omega), nn (by omega), List.mem_cons_self, no2 (by omega) (by omega), no2 (by omega) (by omega), nn (by omega), List.mem_cons_self, no2 (by omega) (by omega), no2 (by omega) (by omega), no2 (by omega) (by omega), no2 (by omega) (by omega)⟩
def iZipK (K : PySem.W.Frag) (ta : TA) : TI := fun σ H R => ta σ H fun vs H1 => ∃ (k1 k2 : Kq) (a b : Addr) (us ws : List V), KqOk k1 ∧ KqOk k2 ∧ vs = [.ref a, .ref b] ∧ k1.sq K H1 a us ∧ k2.sq K H1 b ws ∧ R (zipJ k1 k2 K a b) H1
theorem pi_zipK {X : Cx} {e e2 : Expr} {ta : TA} {p pos tp : Pos} {elts : List Expr} {kk : Nat} (hg : Gl X "zip") (hm : X.mg "zip" = none) (ha : PA X [e, e2] ta)
    (hs : starEach [e, e2] X.env = (false, eval e X.env) :: starEach [e2] X.env) (hp : (backTo pos (starEach [e2] X.env)).any (·.1) = false) :
    PI X (.Tuple elts kk tp) (.Call (.Name "zip" p) [e, e2] [] pos) (iZipK X.K ta) := by
  refine ⟨fun pins s σ H R I h => PyProof.Rows.Call_ (ld_blt I hg hm PyProof.Rows.boot_zip (PyProof.Rows.callWith_type1 (thn (ha.run pos pins s σ H _ I h) fun vals s1 ⟨vs, H1, I1, rv, k1, k2, a, b, us, ws, o1, o2, ev, h1, h2, hR⟩ => ?_) hs hp))⟩
  subst ev
  cases rv with
  | cons ra rr =>
  cases rr with
  | cons rb rr =>
  cases rr
  cases ra
  cases rb
  obtain ⟨its, _, p1, la⟩ := o1.vals I1 h1
  obtain ⟨jts, _, p2, lb⟩ := o2.vals I1 h2
  let N := s1.heap.objs.size
  refine zip_begins2 (o1.begins a its.toArray) (o2.begins b jts.toArray) p1 p2 fun h3 gz gi go g1 g2 _ keep => wpAny_pyIter_zip gz ?_
  have I3 : Inv X pins σ H1 { s1 with heap := h3 } := I1.kept (t' := s1.toks) keep
  have fr : ∀ c ∈ [N + 4, N + 2, N + 3, N, N + 1], FpOk X pins H1 c := by
    intro c hc
    have hle : N ≤ c := by
      simp only [List.mem_cons, List.not_mem_nil, or_false] at hc
      omega
    exact I1.fpOk hle (I1.hok.fresh hle)
  have sep : ZipSep2 (N + 4) (N + 2) (N + 3) N (N + 1) [N, a] [N + 1, b] := sep_at N a b la lb
  exact ⟨N + 4, [N + 4, N + 2, N + 3, N, N + 1], _, _, H1, rfl, I3, turn_kq o1 o2 sep (Nat.ne_of_lt la) (Nat.ne_of_lt (Nat.lt_succ_of_lt lb)), ⟨gz, gi, ⟨_, _, go⟩, o1.start _ _ _ g1, o2.start _ _ _ g2⟩, fr, hR⟩
end Pd
set_option maxHeartbeats 2000000
namespace Pd
open PySem PySem.Spec L2
theorem zipA_get : ∀ (xs ys : List Av) (i : Nat) (x y : Av), xs[i]? = some x → ys[i]? = some y → (zipA xs ys)[i]? = some (.tup [x, y])
  | [], _, _, _, _, h, _ => by simp at h
  | _ :: _, [], _, _, _, _, h => by simp at h
  | a :: xs, b :: ys, 0, x, y, h1, h2 => by simp at h1 h2; subst h1 h2; simp [zipA]
  | a :: xs, b :: ys, i + 1, x, y, h1, h2 => by
    rw [zipA, List.getElem?_cons_succ]
    exact zipA_get xs ys i x y (by simpa using h1) (by simpa using h2)
theorem zipA_len : ∀ (xs ys : List Av), (zipA xs ys).length = min xs.length ys.length
  | [], _ => by simp [zipA]
  | _ :: _, [] => by simp [zipA]
  | _ :: xs, _ :: ys => by simp only [zipA, List.length_cons, zipA_len xs ys]; omega
section
variable {Z : Sc} {W : WX} {X : Cx}
theorem pair_newZ {c : Rc} {M : Mem} {H : Hp} {T : Addr} {u v : V} {a b : Av} (s : Sim Z c M H) (h : H T = none) (r1 : Rep Z c u a) (r : Rep Z c v b) : ∃ d, Le c d ∧ Sim Z d M (upd H T (.tup [u, v])) ∧ Rep Z d (.ref T) (.tup [a, b]) := by
  have hg := s.g.free h
  refine ⟨c.lay T (.tup [u, v]), Le.lay hg, s.lay h, .tup (SqT.of (show upd c.G T _ T = _ from upd_same)) (.cons (r1.mono (Le.lay hg)) (.cons (r.mono (Le.lay hg)) .nil))⟩
theorem jok_k {k1 k2 : Kq} {K : PySem.W.Frag} {c0 : Rc} {a b : Av} {l m : Addr} {xs ys : List Av}
    (hl : ∀ c M H, Le c0 c → Sim Z c M H → stayA M a xs = true → ∃ vs, k1.sq K H l vs ∧ Reps Z c vs xs)
    (hm : ∀ c M H, Le c0 c → Sim Z c M H → stayA M b ys = true → ∃ vs, k2.sq K H m vs ∧ Reps Z c vs ys) : JOk Z c0 (.zip a xs b ys) (zipJ k1 k2 K l m) := by
  have e0 : (Ik.zip a xs b ys).items.length = min xs.length ys.length := zipA_len xs ys
  refine ⟨fun i c M H hi lc s st => ?_, fun c M H lc s st => ?_, fun i c M H x H' z hb lc s st y => ?_⟩
  all_goals
    simp only [Ik.stay, Bool.and_eq_true] at st
    obtain ⟨vs, q1, q2⟩ := hl c M H lc s st.1
    obtain ⟨ws, q3, q4⟩ := hm c M H lc s st.2
  · rw [e0] at hi
    have h1 : i < vs.length := by rw [q2.length]; omega
    have h2 : i < ws.length := by rw [q4.length]; omega
    exact ⟨vs, ws, vs[i], ws[i], q1, q3, by simp [h1], by simp [h2]⟩
  · refine ⟨vs, ws, q1, q3, ?_⟩
    rw [q2.length, q4.length, e0]; omega
  · obtain ⟨T, u, v, rfl, hT, rfl, y1, y2⟩ := y
    obtain ⟨u', q5, q6⟩ := q2.get' (y1 vs q1)
    obtain ⟨v', q7, q8⟩ := q4.get' (y2 ws q3)
    rw [show (Ik.zip a xs b ys).items = zipA xs ys from rfl, zipA_get xs ys i _ _ q5 q7] at hb
    cases hb
    exact pair_newZ s hT q6 q8
def iZipE (g : Ea) : Ei := fun e M => (g e M).bind fun as M1 => match as with
  | [a, b] => (match asQ M1 a, asQ M1 b with
    | some xs, some ys => if stayA M1 a xs && stayA M1 b ys then .ok (.zip a xs b ys) M1 else .bad
    | _, _ => .bad)
  | _ => .bad
theorem stay_rep {c0 : Rc} {M0 : Mem} {H0 : Hp} {a : Av} {l : Addr} {xs : List Av} (s0 : Sim Z c0 M0 H0) (r : Rep Z c0 (.ref l) a) (h : asR M0 a = some xs) : ∀ c M H, Le c0 c → Sim Z c M H → stayA M a xs = true → ∃ vs, SqL Z.K H l vs ∧ Reps Z c vs xs := by
  intro c M H lc s st
  have hq : asR M a = some xs := by
    cases a <;> first
      | (simp [asR] at h; done)
      | (simp only [stayA] at st; simp only [asR]; rw [eqAs_eq st]; done)
      | skip
    rename_i n
    simp only [stayA] at st
    simp only [asR]
    cases q : asL M (.ref n) with
    | none => rw [q] at st; cases st
    | some ys => rw [q] at st; rw [eqAs_eq st]
  obtain ⟨l', vs, e, q1, q2⟩ := asR_rep s (r.mono lc) hq
  cases e
  exact ⟨vs, q1, q2⟩
theorem kq_of {c0 : Rc} {M0 : Mem} {H0 : Hp} {a : Av} {x : V} {xs : List Av} (s0 : Sim Z c0 M0 H0) (r : Rep Z c0 x a) (h : asQ M0 a = some xs) :
    ∃ (l : Addr) (k : Kq), x = .ref l ∧ KqOk k ∧ (∃ vs, k.sq Z.K H0 l vs) ∧ ∀ c M H, Le c0 c → Sim Z c M H → stayA M a xs = true → ∃ vs, k.sq Z.K H l vs ∧ Reps Z c vs xs := by
  by_cases ht : ∃ ys, a = .tup ys
  · obtain ⟨ys, rfl⟩ := ht
    cases h
    cases r with | @tup l vs _ q1 q2 =>
    exact ⟨l, kqT, rfl, kqT_ok, ⟨vs, same_t s0.g q1⟩, fun c M H lc s _ => ⟨vs, same_t (lc.g.trans s.g) q1, q2.mono lc⟩⟩
  · have hR : asR M0 a = some xs := by
      cases a <;> first
        | exact h
        | (cases h; done)
        | exact absurd ⟨_, rfl⟩ ht
    obtain ⟨l, vs, rfl, q1, q2⟩ := asR_rep s0 r hR
    exact ⟨l, kqL, rfl, kqL_ok, ⟨vs, q1⟩, stay_rep s0 r hR⟩
theorem si_zip {a b : Expr} {g : Ea} {p pos tpos : Pos} {elts : List Expr} {kk : Nat} (hK : X.K = Z.K) (hg : Gl X "zip") (hm : X.mg "zip" = none) (h : SA Z W X [a, b] g) (hst : noStar [a, b] = true) :
    SI Z W X (.Tuple elts kk tpos) (.Call (.Name "zip" p) [a, b] [] pos) (iZipE g) := by
  have q := pi_zipK (elts := elts) (kk := kk) (tp := tpos) (p := p) (pos := pos) hg hm h (star_cons (noStar_cons hst).1) (star_any (noStar_cons hst).2)
  rw [hK] at q
  refine q.imp fun σ H R ⟨c, e, M, at_, h⟩ => ?_
  refine stepI (R1 := Reps Z) at_ h fun c1 x v M1 H1 l1 a1 r1 h1 => ?_
  split at h1
  · cases r1 with | cons r1 r2 =>
    cases r2 with | cons r2 r3 =>
    cases r3
    split at h1
    · rename_i xs ys e1 e2
      split at h1
      · obtain ⟨l, k1, rfl, o1, ⟨vs, q1⟩, st1⟩ := kq_of a1.s r1 e1
        obtain ⟨m, k2, rfl, o2, ⟨ws, q2⟩, st2⟩ := kq_of a1.s r2 e2
        exact ⟨k1, k2, l, m, vs, ws, o1, o2, rfl, q1, q2, h1 c1 H1 _ (Le.refl _) a1 (jok_k st1 st2)⟩
      · exact h1.elim
    · exact h1.elim
  · exact h1.elim
end
end Pd
set_option maxHeartbeats 2000000
namespace Pd
open PySem PySem.Spec L2
structure XB (B newId initId : String) (bmB : List Value) : Prop where
  fb : ExcBaseFacts B newId initId bmB
  kx : PySem.W.KxsFacts B initId
  sf : StoreFacts B bmB "object.__setattr__" "object"
theorem xb_ve : XB "ValueError" "ValueError.__new__" "ValueError.__init__" veT := ⟨F.excBase_ValueError, PySem.W.kxs_ValueError, F.store_ValueError⟩
theorem xb_ie : XB "IndexError" "IndexError.__new__" "IndexError.__init__" ieTail := ⟨F.excBase_IndexError, PySem.W.kxs_IndexError, F.store_IndexError⟩
section
open PySem.W PySem.Calls PyProof.Rows
variable {prog : Program} {w : World} {A : Around} {E : Value → Shared → Prop} {K : PySem.W.Frag} {hp : Heap} {g : Array GenState} {d : Drawn} {tk : Nat} {os : OsState} {C x t : Addr} {name : Str} {v : Value} {B newId initId : String} {bmB : List Value}
theorem x_store {Q : Unit → Shared → Prop} (XF : XB B newId initId bmB) (X : K.In hp) (hx : hp.get? x = some (HandSPX.excO C t)) (ho : excOver K C bmB = true) (hh : hasDictIn K C = true) (ha : findIn K (.ref C) name = some none)
    (hs : findIn K (.ref C) "__setattr__" = some (some (.builtin "object.__setattr__")))
    (hq : ∀ h' tk' dx, (∀ b o, b ≠ x → hp.get? b = some o → h'.get? b = some o) → hp.objs.size ≤ dx → dx ≠ x → h'.get? x = some ({ cls := .ref C, dict := some dx, data := .fields #[.ref t, .none, .none, .none, .bool false, .none] } : Obj) →
      h'.Ns1 dx (fun y => if y = name then some v else none) → Q () ⟨h', g, d, tk', os⟩) :
    wpAny (model prog w) A (setAttr (.ref x) name v) Q E ⟨hp, g, d, tk, os⟩ := by
  have hxs : x ≠ hp.objs.size := Nat.ne_of_lt (Heap.lt_size hx)
  refine set_plain (od := none) X ⟨hx, rfl, rfl, trivial⟩ hs ?_
  refine osa_openX (od := none) XF.sf X ⟨hx, rfl, rfl, trivial⟩ ho (r := none) (by unfold takerIn; rw [ha]; rfl) fun b => ?_
  obtain ⟨cd, hc, hd'⟩ := any_some hh
  show wpAny _ _ (Builtin.ObjectAttr.storeInOwnDict (.ref x) (.ref C) _ name v b) _ _ _
  refine wpAny_bind (wpAny_pure (wpAny_bind (instanceDict_exc (c2 := .none) hx (looks_clsIn X hc) hd' ?_)))
  refine HandSPX.store_in_new ?_ ?_
  · exact ⟨_, #[], _, (Heap.get?_update_ne _ _ _ _ hxs.symm).trans (Heap.get?_push_at rfl rfl), rfl, fun e he => absurd he (by simp), fun _ => rfl⟩
  · intro h' tk' hn' hs'
    have hx1 : (hp.push (dictOf [] 0)).get? x = some (HandSPX.excO C t) := Heap.get?_push_of_some _ hx
    refine hq h' tk' hp.objs.size (fun b o hb ho' => ?_) (Nat.le_refl _) hxs.symm ?_ hn'
    · exact (hs'.2 b (Nat.ne_of_lt (Heap.lt_size ho'))).trans ((Heap.get?_update_ne _ _ _ _ hb).trans (Heap.get?_push_of_some _ ho'))
    · exact (hs'.2 x hxs).trans (Heap.get?_update_self _ hx1 rfl)
theorem x_call {Q : Value → Shared → Prop} {u : Addr} {rest : List Value} (XF : XB B newId initId bmB) (X : K.In hp) (hC : excInitIn K C bmB newId = true) (hx : hp.get? x = some (HandSPX.excO C t)) (hu : hp.get? u = some (kxs_mw initId x)) (hz : rest.length ≤ sizeLine)
    (hq : ∀ h' t1, (∀ b o, b ≠ x → hp.get? b = some o → h'.get? b = some o) → h'.get? x = some (HandSPX.excO C t1) → Q .none ⟨h', g, d, tk, os⟩) :
    wpAny (model prog w) A (call (.ref u) rest) Q E ⟨hp, g, d, tk, os⟩ := by
  obtain ⟨nm, N', qn, bs, bm, hdct, sn, sub, ab, col, dd, k0, k1, k2, k3, k5, hC', hT⟩ := excInit_of X hC
  refine wpAny_call (codeAny_of_tree ?_)
  show wpAny _ A.in1 (callAny (.ref u) ⟨rest, []⟩) _ _ _
  simp only [callAny]
  refine wpAny_bind (wpAny_load hu ?_)
  simp only [kxs_mw, show (Value.type "method-wrapper" == Value.type "method" || Value.type "method-wrapper" == Value.type "builtin_function_or_method" || Value.type "method-wrapper" == Value.type "method-wrapper") = true from by decide, if_true]
  refine KFB.if_so (by decide) ?_
  refine wpAny_bind (check_bound_init XF.fb.toExcCallFacts hC' hx rfl ?_)
  refine wpAny_bind (wpAny_pure (wpAny_pure ⟨plainId_quiet XF.fb.init.plain _, codeAny_builtin XF.fb.initEntry ?_⟩))
  refine exc_init_tree (cls := .ref C) (t0 := t) (dv := none) (c2 := .none) (c3 := .none) (b4 := .bool false) hx hz fun h' k e' _ => ?_
  exact hq h' _ k e'
end
end Pd
set_option maxHeartbeats 2000000
namespace Pd
open PySem PySem.Spec L2
theorem xiBody_eq {x n : Str} {b : List Stmt} (h : xiBody x n b = true) : ∃ p0 p1 p2 p3 p4 p5 p6 p7 p8 p9, (p2.endLine == p4.line) = true ∧
    b = [.Expr (.Call (.Attribute (.Call (.Name "super" p0) [] [] p1) "__init__" p2) [.Name x p3] [] p4) p5, .Assign [.Attribute (.Name "self" p6) n p7] (.Name x p8) p9] := by
  unfold xiBody at h
  split at h
  · simp only [Bool.and_eq_true, decide_eq_true_eq] at h
    obtain ⟨⟨⟨⟨⟨⟨rfl, rfl⟩, rfl⟩, rfl⟩, rfl⟩, h6⟩, h7⟩ := h
    subst h6
    exact ⟨_, _, _, _, _, _, _, _, _, _, h7, rfl⟩
  · cases h
theorem xiPar_eq {x : Str} {p : Arguments} (h : xiPar x p = true) : ∃ a b : Arg, a.arg = "self" ∧ b.arg = x ∧ p = ⟨[], [a, b], none, [], [], none, []⟩ := by
  unfold xiPar at h
  split at h
  · simp only [Bool.and_eq_true, decide_eq_true_eq] at h
    exact ⟨_, _, h.1, h.2, rfl⟩
  · cases h
structure XiF (file : Str) (K : PySem.W.Frag) (C f : Addr) (x n : Str) (fd : FuncData) : Prop where
  fn : ∃ oc od osl, K.lookup f = some ⟨oc, od, .func fd, osl⟩
  ex : ∃ cc cda oc1 od1 sl1 vs fl tf oc2 od2 sl2 body, fd.closure = [(("__class__" : Str), cc)] ∧ fd.code = .ref cda ∧ fd.body = .stmts body ∧ PySem.W.codeIn K (.ref cda) fd.qualname = true ∧ K.lookup cda = some ⟨oc1, od1, .fields vs, sl1⟩ ∧ vs[2]? = some (.str fl tf) ∧ (file == fl) = true ∧
    K.lookup cc = some ⟨oc2, od2, .cell (some (.ref C)), sl2⟩ ∧ xiBody x n body = true
  gl : fd.globals = mainGlobals
  bl : fd.builtins = builtinsNs
  df : fd.defaults = .none
  sc : xiSc x fd.scope = true
  pa : xiPar x fd.params = true
theorem xiB_ok {file : Str} {K : PySem.W.Frag} {C f : Addr} {x n : Str} (h : xiB file K C f x n = true) : ∃ fd, XiF file K C f x n fd := by
  unfold xiB at h
  split at h
  · rename_i oc od fd osl hl
    split at h
    · rename_i cn cc cda body e1 e2 e3 e4
      simp only [Bool.and_eq_true, decide_eq_true_eq] at h
      obtain ⟨⟨⟨⟨⟨⟨⟨⟨rfl, h2⟩, h3⟩, h4⟩, h5⟩, h6⟩, h7⟩, h8⟩, h9⟩ := h
      split at h3
      · rename_i oc1 od1 vs sl1 hl1
        split at h3
        · rename_i fl tf hv
          split at h4
          · rename_i oc2 od2 D sl2 hl2
            have e := of_decide_eq_true h4
            subst e
            exact ⟨fd, ⟨⟨_, _, _, hl⟩, ⟨cc, cda, oc1, od1, sl1, vs, fl, tf, oc2, od2, sl2, body, e1, e2, e3, h2, hl1, hv, h3, hl2, h8⟩, h5, h6, e4, h7, h9⟩⟩
          · cases h4
        · cases h3
      · cases h3
    · cases h
  · cases h
theorem xi_bind {file : Str} {K : PySem.W.Frag} {C f : Addr} {x n : Str} {fd : FuncData} (F : XiF file K C f x n fd) (hx : x = "word" ∨ x = "at") : Binds K fd ["self", x] [] := by
  refine Binds.all fun us hl => ?_
  obtain ⟨a, b, ea, eb, ep⟩ := xiPar_eq F.pa
  match us, hl with
  | [u0, u1], _ =>
    have hd := F.df
    obtain ⟨n1, n2, n3, n4, n5, n6, n7, n8, n9, n10, n11, n12, n13, n14, n15⟩ := fd
    simp only at ep hd
    subst ep hd
    obtain ⟨a1, a2, a3⟩ := a
    obtain ⟨b1, b2, b3⟩ := b
    simp only at ea eb
    subst ea eb
    rcases hx with rfl | rfl <;> rfl
end Pd
set_option maxHeartbeats 2000000
namespace Pd
open PySem PySem.Spec L2
structure XcF (K : PySem.W.Frag) (C : Addr) (n : Str) (B newId initId : String) (bmB : List Value) : Prop where
  ini : PySem.W.excInitIn K C bmB newId = true
  ov : PySem.W.excOver K C bmB = true
  hd : PySem.W.hasDictIn K C = true
  na : PySem.W.findIn K (.ref C) n = some none
  sa : PySem.W.findIn K (.ref C) "__setattr__" = some (some (.builtin "object.__setattr__"))
  exC : PySem.W.subIn K (.ref C) (.type "BaseException") = some true
  tyC : PySem.W.typeIn K (.ref C) = some (.type "type")
  kC : PySem.W.keepIn K (.ref C) = true
  sup : PySem.W.ks_superIn K C C "__init__" = some (some (.builtin initId))
  op : PySem.W.nsIn K cStatics "thirdparty.any" = some none
  mC : PySem.W.mroIn K C (.ref C) = some true
  sB : PySem.W.subIn K (.ref C) (.type B) = some true
theorem xcB_ok {K : PySem.W.Frag} {C : Addr} {n : Str} {B newId initId : String} {bmB : List Value} (h : xcB K C n B newId initId bmB = true) : XcF K C n B newId initId bmB := by
  simp only [xcB, Bool.and_eq_true, decide_eq_true_eq] at h
  obtain ⟨⟨⟨⟨⟨⟨⟨⟨⟨⟨⟨a, b⟩, c⟩, d⟩, e⟩, f⟩, g⟩, i⟩, j⟩, k⟩, l⟩, m⟩ := h
  exact ⟨a, b, c, d, e, f, g, i, j, k, l, m⟩
theorem ns_but {h h' : Heap} {L a : Addr} {m : Str → Option Value} (n : h.Ns L m) (k : ∀ b o, b ≠ a → h.get? b = some o → h'.get? b = some o) (ne : L ≠ a) : h'.Ns L m := by
  obtain ⟨o, es, ep, e1, r⟩ := n
  exact ⟨o, es, ep, k _ _ ne e1, r⟩
section
open PySem.W PySem.Calls PyProof.Rows
variable {prog : Program} {w : World} {A : Around} {K : PySem.W.Frag} {hp : Heap} {g : Array GenState} {d : Drawn} {tk : Nat} {os : OsState} {C f a t : Addr} {x n : Str} {B newId initId : String} {bmB : List Value} {fd : FuncData} {base : Heap} {mg : Str → Option Value}
theorem xi_eval {p0 p1 p2 p3 p4 : Pos} {x : Str} {env : PySem.Env} (hl : (p2.endLine == p4.line) = true) :
    eval (.Call (.Attribute (.Call (.Name "super" p0) [] [] p1) "__init__" p2) [.Name x p3] [] p4) env = (do
      let ov ← attributeBase (.Call (.Name "super" p0) [] [] p1) "__init__" env (eval (.Call (.Name "super" p0) [] [] p1) env)
      standAt p2.atName
      let (f, first) ← holding [ov] (getMethod ov "__init__" (do return (← importBound (.Call (.Name "super" p0) [] [] p1) env).getD true))
      callWith p4 f first (backTo p4 (starEach [.Name x p3] env)) []) := by
  have e1 : eval (.Call (.Attribute (.Call (.Name "super" p0) [] [] p1) "__init__" p2) [.Name x p3] [] p4) env = (do
    let ov ← attributeBase (.Call (.Name "super" p0) [] [] p1) "__init__" env (eval (.Call (.Name "super" p0) [] [] p1) env)
    standAt p2.atName
    methodCall (.Call (.Name "super" p0) [] [] p1) "__init__" p2 p4 env ov (([.Name x p3] : List Expr).length + ([] : List Keyword).length) (backTo p4 (starEach [.Name x p3] env)) (backToKw p4 (keywordEach [] env))) := by first | rfl | (simp only [eval])
  rw [e1]
  unfold methodCall
  rw [meth_few (n := 0) rfl rfl]
  unfold methodCallPos calleeOf
  simp only [hl]
  rfl
theorem xi_run {R : Result → Shared → Prop} {u : Value} {args : Args} (XF : XB B newId initId bmB) (T : XcF K C n B newId initId bmB) (F : XiF prog.main.file K C f x n fd) (htop : (prog.main.scope.names.lookup ("super" : Str)).isSome = false) (X : K.In hp) (md : Mod K mg base)
    (bk : ∀ b o, base.get? b = some o → hp.get? b = some o) (na : base.get? a = none) (ms : mg "super" = none) (hroom : A.depth < recursionLimit) (hx : hp.get? a = some (HandSPX.excO C t)) (hb : BindsTo ⟨hp, g, d, tk, os⟩ fd args [("self", .ref a), (x, u)])
    (hq : ∀ h' tk' dx t1, (∀ b o, b ≠ a → hp.get? b = some o → h'.get? b = some o) → hp.objs.size ≤ dx → dx ≠ a → h'.get? a = some ({ cls := .ref C, dict := some dx, data := .fields #[.ref t1, .none, .none, .none, .bool false, .none] } : Obj) →
      h'.Ns1 dx (fun y => if y = n then some u else none) → R (.ok (.ret .none)) ⟨h', g, d, tk', os⟩) : codeAny (model prog w) A (.call (.ref f) args) R ⟨hp, g, d, tk, os⟩ := by
  obtain ⟨oc, od, osl, hf⟩ := F.fn
  obtain ⟨cc, cda, oc1, od1, sl1, vs, fl, tf, oc2, od2, sl2, body, hcl, hcode, hbody, hcd, hcda, hvs, hfile, hcc, hbd⟩ := F.ex
  obtain ⟨p0, p1, p2, p3, p4, p5, p6, p7, p8, p9, hl, rfl⟩ := xiBody_eq hbd
  obtain ⟨ar, br, ea, eb, ep⟩ := xiPar_eq F.pa
  have hsc := F.sc
  simp only [xiSc, Bool.and_eq_true, Bool.not_eq_true', decide_eq_true_eq, List.all_eq_true, Bool.or_eq_true] at hsc
  obtain ⟨⟨⟨⟨⟨⟨⟨⟨s1, s2⟩, s3⟩, s4⟩, s5⟩, s6⟩, s7⟩, s8⟩, s9⟩ := hsc
  have hxs : x ≠ "self" := by rcases s9 with rfl | rfl <;> decide
  have hxd : (x == ("__debug__" : Str)) = false := by rcases s9 with rfl | rfl <;> decide
  have hlim : hp.NoLimit := md.nolimit.keeps bk
  refine ks_codeAny_call_defAt (body := _) (binds := [("self", .ref a), (x, u)]) hroom (X _ _ hf) rfl hlim (by rw [hcode]; exact codeRec_of X hcd) hbody hb s8 (fun y hy => ?_) (fun h1 hns k1 => ?_) s2 s3 s1
  · simp only [List.mem_cons, List.not_mem_nil, or_false] at hy
    rcases hy with rfl | rfl
    · exact s6
    · exact s7
  have X1 : K.In h1 := X.keeps k1
  have hL : hp.objs.size ≠ a := Nat.ne_of_gt (Heap.lt_size hx)
  have m1 : ([("self", Value.ref a), (x, u)] : List (Str × Value)).reverse.lookup ("self" : Str) = some (Value.ref a) := by
    show List.lookup ("self" : Str) [(x, u), ("self", Value.ref a)] = _
    rw [List.lookup_cons, show (("self" : Str) == x) = false from by rcases s9 with rfl | rfl <;> decide]
    rfl
  have m2 : ([("self", Value.ref a), (x, u)] : List (Str × Value)).reverse.lookup x = some u := by
    show List.lookup x [(x, u), ("self", Value.ref a)] = _
    rw [List.lookup_cons, show (x == x) = true from by simp]
  have hx1 := k1 _ _ hx
  cases hcD : clsIn K C with
  | none => have z := T.sup; unfold ks_superIn at z; rw [hcD] at z; cases z
  | some cd =>
  have hsup : alongIn K "__init__" ((cd.mro.dropWhile (· != .ref C)).drop 1) = some (some (.builtin initId)) := by
    have z := T.sup
    unfold ks_superIn at z
    rw [hcD] at z
    exact z
  obtain ⟨oD, hD1, hD2⟩ : ∃ oD, h1.get? C = some oD ∧ oD.data = .cls cd := by
    have z := hcD
    unfold clsIn at z
    split at z
    · rename_i c' d' cd' sl' ho'
      cases z
      exact ⟨_, X1 _ _ ho', rfl⟩
    · cases z
  obtain ⟨mb, hb1, hb2⟩ := md.blt
  have k01 : ∀ b o, base.get? b = some o → h1.get? b = some o := fun b o e => k1 b o (bk b o e)
  have hint : interactive (callEnv fd hp.objs.size f) = false := by
    unfold interactive
    rw [show (callEnv fd hp.objs.size f).scope.kind = .function from s1]
    rfl
  refine ks_wpAt_execs_cons (ks_wpAt_Expr_any (ks_wpAt_MethodCall (pl := _) ?_ (xi_eval hl)) hint (sw_of rfl))
  have kf : (callEnv fd hp.objs.size f).kindOf "super" = some .globalImplicit := s4
  have kc : (callEnv fd hp.objs.size f).kindOf "__class__" = some .free := s5
  have ka : (callEnv fd hp.objs.size f).kindOf ar.arg = some .local := by rw [ea]; exact s6
  refine ks_wpAt_super_base (env := callEnv fd hp.objs.size f) (f := f) (cc := cda) (ar := ar) kf kc (by decide) rfl (X1 _ _ hf) rfl (by rw [ep]; rfl) hcode (X1 _ _ hcda) rfl hvs hfile htop ?_
  refine ks_loadName_global s1 kf (loadGlobal_builtin (env := callEnv fd hp.objs.size f) (mg := mg) (mb := mb) ?_ ms ?_ ((hb2 "super" (by decide)).trans (show bootBuiltins "super" = some (.type "super") from rfl)) ⟨rfl, ?_⟩)
  · show h1.Ns fd.globals mg
    rw [F.gl]
    exact md.glob.keeps k01
  · show h1.Ns fd.builtins mb
    rw [F.bl]
    exact hb1.keeps k01
  refine wpAny_loadName_free (c := cc) (v := .ref C) s1 kc ?_ ⟨_, X1 _ _ hcc, rfl⟩ ?_
  · show fd.closure.lookup _ = _
    rw [hcl]
    rfl
  refine wpAny_loadName_local (v := .ref a) s1 ka (m := fun y => ([("self", Value.ref a), (x, u)] : List (Str × Value)).reverse.lookup y) hns (by rw [ea]; exact m1) ?_
  refine ks_wpAny_isType_cls hD1 hD2 ⟨rfl, ?_⟩
  refine ks_wpAny_call_super (C := C) hD1 hD2 hx1 rfl (fun c e => by cases e) (looks_mroIn X1 T.mC) (fun h2 e2 k2 => ?_)
  have X2 : K.In h2 := X1.keeps k2
  have hx2 := k2 _ _ hx1
  have hI : InstAt h2 a (HandSPX.excO C t) C none := ⟨hx2, rfl, rfl, trivial⟩
  refine kxs_getMethod XF.kx e2 (looks_opaque X2 T.op) (l₀ := cd.mro) (fun A' Q' E' s' k' q' => wpAny_bind ((looks_clsIn X2 hcD) A' _ E' s' k' (wpAny_pure q'))) rfl X2 hsup (hI.type.andThen (looks_subIn X2 T.sB)) (ks_ne X2 hI hcD) (by decide) ?_
  have k3 : ∀ b o, h2.get? b = some o → (h2.push (kxs_mw initId a)).get? b = some o := fun b o e => Heap.get?_push_of_some _ e
  have X3 : K.In (h2.push (kxs_mw initId a)) := X2.keeps k3
  refine kxs_callWith (i := initId) (x := a) rfl (evalArgs_plain ?_)
  refine spliced_cons ?_
  have n3 := (hns.keeps k2).keeps k3
  refine wpAny_Name (wpAny_loadName_local (v := u) s1 (show (callEnv fd hp.objs.size f).kindOf x = some .local from s7) (m := fun y => ([("self", Value.ref a), (x, u)] : List (Str × Value)).reverse.lookup y) n3 m2 (spliced_nil ⟨Heap.get?_push_at rfl rfl, ?_⟩)) hxd
  refine x_call XF X3 T.ini (k3 _ _ hx2) (Heap.get?_push_at rfl rfl) (by rw [sizeLine_eq]; show 1 ≤ 16777216; decide) fun h4 t1 k4 hx4 => ?_
  have k24 : ∀ b o, b ≠ a → hp.get? b = some o → h4.get? b = some o := fun b o hb e => k4 b o hb (k3 b o (k2 b o (k1 b o e)))
  have n4 := ns_but n3 k4 hL
  have hC4 : C ≠ a := fun z => (ks_ne X2 hI hcD) z.symm
  have X4 : K.In h4 := fun b o e => by
    by_cases hb : b = a
    · exfalso
      subst hb
      have z := md.kin _ _ e
      rw [na] at z
      cases z
    · exact k4 b o hb (X3 _ _ e)
  refine ks_wpAt_execs_cons (ks_wpAt_Assign_Attr (wpAt_of_wpAny (wpAny_Name (wpAny_loadName_local (v := u) s1 (show (callEnv fd hp.objs.size f).kindOf x = some .local from s7) (m := fun y => ([("self", Value.ref a), (x, u)] : List (Str × Value)).reverse.lookup y) n4 m2 ?_) hxd)) (sw_of rfl))
  refine wpAny_Name (wpAny_loadName_local (v := .ref a) s1 (show (callEnv fd hp.objs.size f).kindOf "self" = some .local from s6) (m := fun y => ([("self", Value.ref a), (x, u)] : List (Str × Value)).reverse.lookup y) n4 m1 ?_) (by decide)
  refine x_store XF X4 hx4 T.ov T.hd T.na T.sa fun h5 tk5 dx k5 hdx hda hx5 n5 => ?_
  refine wpAt_of_wpAny (wpAny_execs_nil ?_)
  have hsz : hp.objs.size ≤ h4.objs.size := by
    obtain ⟨o, es, ep, e1, r⟩ := n4
    exact Nat.le_of_lt (Heap.lt_size e1)
  exact hq h5 tk5 dx t1 (fun b o hb e => k5 b o hb (k24 b o hb e)) (Nat.le_trans hsz hdx) hda hx5 n5
end
end Pd
set_option maxHeartbeats 2000000
namespace Pd
open PySem PySem.Spec L2
def tMkX (C : Addr) (n : Str) (ta : TA) : St → Hp → XK → Prop := fun σ H Q => ta σ H fun vs H1 => ∃ v, vs = [v] ∧ ∀ dx, H1 dx = none → Q (.ref C) (some dx) (upd H1 dx (.xd [(n, v)]))
structure XmF (X : Cx) (C : Addr) (x n : Str) : Prop where
  ex : ∃ (B newId initId : String) (bmB : List Value) (f : Addr) (par : Str) (fd : FuncData), XB B newId initId bmB ∧ XcF X.K C n B newId initId bmB ∧ XiF X.prog.main.file X.K C f par n fd ∧ PySem.W.findIn X.K (.ref C) "__init__" = some (some (.ref f)) ∧ PySem.W.typeIn X.K (.ref f) = some (.type "function")
  top : (X.prog.main.scope.names.lookup ("super" : Str)).isSome = false
  ms : X.mg "super" = none
  mg : X.mg x = some (.ref C)
section
variable {Z : Sc} {W : WX} {X : Cx}
theorem Room.deep {k : Nat} {A : Around} (r : Room (k + 1) A) (C : Addr) (us : List Value) (kw : List (Str × Value)) : (A.under (.builtin "type.__call__" ⟨.ref C :: us, kw⟩)).depth < recursionLimit := (r.make C us kw).depth
theorem pmk_x {C : Addr} {x n : Str} {k : Nat} {e : Expr} {ta : TA} {p pos : Pos} (F : XmF X C x n) (hr : Room (k + 1) X.A) (hg : Gl X x) (hpa : PA X [e] ta) (hdb : (x == ("__debug__" : Str)) = false) (hs : isStar e = false) :
    PMk X (.Call (.Name x p) [e] [] pos) (tMkX C n ta) := by
  intro pins s σ H Q I h
  obtain ⟨B, newId, initId, bmB, f, par, fd, XF, T, Fi, iC, tI⟩ := F.ex
  refine wpAny_Call_Name_kw (ld_glob I hg F.mg ?_ hdb)
  refine PySem.W.callWith_K (h₀ := X.base) I.ok.mod.kin T.kC (thn (hpa.run pos pins s σ H _ I h) fun us s1 ⟨vs, H1, I1, r1, v, ev, q1⟩ => ⟨I1.kIn, ?_⟩) (star_cons hs) (star_any rfl)
  subst ev
  show wpAny _ _ (call (.ref C) us) _ _ _
  cases r1 with
  | @cons _ u0 _ ur ra rw' =>
  cases rw'
  obtain ⟨hp, g, dr, tk, os⟩ := s1
  have hsc := Fi.sc
  simp only [xiSc, Bool.and_eq_true, Bool.not_eq_true', decide_eq_true_eq, List.all_eq_true, Bool.or_eq_true] at hsc
  have hpar := hsc.2
  let a := hp.objs.size + 1
  let h2 := (hp.push (PySem.W.kdv_tup [u0])).push (PySem.HandSPX.excO C hp.objs.size)
  have kk : ∀ b o, hp.get? b = some o → h2.get? b = some o := fun b o e => Heap.get?_push_of_some _ (Heap.get?_push_of_some _ e)
  have hget : h2.get? a = some (PySem.HandSPX.excO C hp.objs.size) := show ((hp.push (PySem.W.kdv_tup [u0])).push (PySem.HandSPX.excO C hp.objs.size)).get? (hp.objs.size + 1) = _ by heap_get
  have hna : hp.get? a = none := by
    cases z : hp.get? a with
    | none => rfl
    | some o => exact absurd (Heap.lt_size z) (by show ¬ (hp.objs.size + 1 < hp.objs.size); omega)
  obtain ⟨nm, N', qn, bs, bm, hdct, sn, sub, ab, col, dd, k0, k1, k2, k3, k5, hC, hT⟩ := PySem.W.excInit_of I1.kIn T.ini
  refine wpAny_call (PySem.HandSPX.call_own XF.fb hT hC (PySem.W.looks_findIn I1.kIn iC) (fun self => PySem.W.bind_fn I1.kIn self tI) (by rw [sizeLine_eq]; show 1 ≤ 16777216; decide) ?_)
  have KX2 : X.K.In h2 := I1.kIn.keeps kk
  have hl2 := (xi_bind Fi hpar) ⟨h2, g, dr, tk, os⟩ [.ref a, u0] KX2 rfl
  refine xi_run (mg := X.mg) (base := X.base) (a := a) (u := u0) XF T Fi F.top KX2 I1.mod (fun b o e => kk b o (I1.bk b o e)) ?_ F.ms (Room.deep hr C [u0] []) hget hl2 ?_
  · cases z : X.base.get? a with
    | none => rfl
    | some o => rw [I1.bk a o z] at hna; cases hna
  intro h' tk' dx t1 kh hdx hda hx5 n5
  have hsz : hp.objs.size ≤ h2.objs.size := by
    show hp.objs.size ≤ ((hp.push (PySem.W.kdv_tup [u0])).push (PySem.HandSPX.excO C hp.objs.size)).objs.size
    rw [Heap.size_push, Heap.size_push]; omega
  obtain ⟨G, gk, ge⟩ := restrict h' fun b => decide (b ≠ a)
  have gk' : ∀ b, b ≠ a → G.get? b = h'.get? b := fun b hb => gk b (decide_eq_true hb)
  have ge' : G.get? a = none := ge a (by simp)
  have k3 : ∀ b o, hp.get? b = some o → G.get? b = some o := fun b o e => by
    have hb : b ≠ a := fun z => by rw [z, hna] at e; cases e
    rw [gk' b hb]
    exact kh b o hb (kk b o e)
  have hsd : hp.objs.size ≤ dx := Nat.le_trans hsz hdx
  have J : Inv X pins σ (upd H1 dx (.xd [(n, v)])) ⟨G, g, dr, tk', os⟩ := I1.laid (t' := tk') (a := dx) (o := .xd [(n, v)]) (h' := G) k3 hsd ⟨_, n5.at fun o y => (gk' dx hda).trans y, fun f => relO_put (fs := []) (mA := fun _ => none) ra (fun g => True.intro) f⟩
  have na : H1 a = none := I1.hok.fresh (by show hp.objs.size ≤ hp.objs.size + 1; omega)
  refine ⟨rfl, a, _, _, ⟨G, g, dr, tk', os⟩, upd H1 dx (.xd [(n, v)]), .ref C, some dx, rfl, J, fun b o z => ?_, ge', hx5, ⟨rfl, rfl⟩, rfl, rfl, ?_, rfl, I1.bare, raises_own T.exC T.tyC, q1 dx (I1.hok.fresh hsd)⟩
  · by_cases hb : b = a
    · rw [hb, ge'] at z; cases z
    · exact (gk' b hb).symm.trans z
  · rw [upd_ne (Ne.symm hda)]; exact na
end
end Pd
set_option maxHeartbeats 2000000
namespace Pd
open PySem PySem.Spec L2
section
variable {Z : Sc} {W : WX} {X : Cx}
def sRaise (k : Nat) (n : Str) (g : Ea) : Es := fun e M => (g e M).thn e fun as M1 => match as with
  | [v] => .exc k [(n, v)] e M1
  | _ => .bad
theorem ss_raise {k m : Nat} {x n : Str} {ex : Expr} {g : Ea} {p pos pos' : Pos} (hc : X.calm = true) (tk : Takes X W) (F : XmF X (Z.xc k) x n) (hr : Room (m + 1) X.A) (hg : Gl X x) (ha : SA Z W X [ex] g) (hdb : (x == ("__debug__" : Str)) = false) (hs : isStar ex = false) :
    SS Z W X (.Raise (some (.Call (.Name x p) [ex] [] pos)) none pos') (sRaise k n g) := by
  refine (ps_raise hc tk (pmk_x F hr hg ha hdb hs)).imp fun D σ H ⟨c, e, M, a, h⟩ => ?_
  refine stepS (R1 := Reps Z) a h fun c' xs b M' H' l a' r h' => ?_
  match b, r, h' with
  | [], _, h' => exact h'.elim
  | [v], .cons (v := w) r1 .nil, h' =>
    refine ⟨_, rfl, fun dx hdx => ?_⟩
    have hG := a'.s.g.free hdx
    have l2 : Le c' (c'.lay dx (.xd [(n, w)])) := Le.lay hG
    exact h' _ _ _ _ l2 ⟨a'.s.lay hdx, a'.e.mono l2⟩ (.inr ⟨dx, [(n, w)], rfl, upd_same, rfl, .cons (r1.mono l2) .nil⟩)
  | _ :: _ :: _, _, h' => exact h'.elim
def XG (Z : Sc) (c : Rc) (d : Option Addr) (fs : List (Str × Av)) : Prop :=
  (fs = [] ∧ d = none) ∨ ∃ (p : Addr) (gs : List (Str × V)), d = some p ∧ c.G p = some (.xd gs) ∧ gs.map (·.1) = fs.map (·.1) ∧ Reps Z c (gs.map (·.2)) (fs.map (·.2))
theorem XG.mono {c c' : Rc} {d : Option Addr} {fs : List (Str × Av)} (l : Le c c') : XG Z c d fs → XG Z c' d fs
  | .inl h => .inl h
  | .inr ⟨p, gs, h1, h2, h3, h4⟩ => .inr ⟨p, gs, h1, l.g _ _ h2, h3, h4.mono l⟩
theorem XRep.g {c : Rc} {M : Mem} {H : Hp} {d : Option Addr} {fs : List (Str × Av)} (s : Sim Z c M H) (x : XRep Z c H d fs) : ∃ c', Le c c' ∧ Sim Z c' M H ∧ XG Z c' d fs := by
  rcases x with x | ⟨p, gs, h1, h2, h3, h4⟩
  · exact ⟨c, Le.refl c, s, .inl x⟩
  · have sm : Same c.G (upd c.G p (.xd gs)) := fun b u e => by
      by_cases hb : b = p
      · subst hb
        have e2 := s.g _ _ e
        rw [h2] at e2
        rw [upd_same]; exact e2
      · rw [upd_ne hb]; exact e
    have l : Le c (c.lay p (.xd gs)) := ⟨sm, Nat.le_refl _, fun _ _ => rfl⟩
    refine ⟨c.lay p (.xd gs), l, ⟨fun b u e => ?_, s.l, fun n o e => ?_, s.i⟩, .inr ⟨p, gs, h1, show upd c.G p _ p = _ from upd_same, h3, h4.mono l⟩⟩
    · have e' : upd c.G p (.xd gs) b = some u := e
      by_cases hb : b = p
      · subst hb; rw [upd_same] at e'; rw [← e']; exact h2
      · rw [upd_ne hb] at e'; exact s.g _ _ e'
    · obtain ⟨ho, q1, q2, q3⟩ := s.m n o e
      refine ⟨ho, q1, q2.mono l, ?_⟩
      have ne : c.r n ≠ p := fun z => by
        rw [z, h2] at q1
        cases q1
        cases o with
        | lst _ => exact q2.elim
        | ins _ _ => exact q2.elim
        | dct ks vs =>
          obtain ⟨es, e1, _⟩ := RepO.dct_of q2
          cases e1
      show upd c.G p _ (c.r n) = none
      rw [upd_ne ne]; exact q3
def TX (Z : Sc) (a : Addr) (i : Option Nat) (d : Option Addr) (fs : List (Str × Av)) {χ β : Type} (R : Rc → χ → β → Prop) (f : Env → Mem → Res β) : St → Hp → (χ → Hp → Prop) → Prop := fun σ H Q =>
  ∃ (c : Rc) (e : Env) (M : Mem), At Z c e M σ H ∧ XG Z c d fs ∧ (∀ j, i = some j → σ[j]? = some (some (.ref a))) ∧ Okk Z WNo σ c R Q (f e M)
theorem stepX {σ : St} {a : Addr} {i : Option Nat} {d : Option Addr} {fs : List (Str × Av)} {c : Rc} {e : Env} {M : Mem} {H : Hp} {χ β γ ξ : Type} {R1 : Rc → ξ → γ → Prop} {R : Rc → χ → β → Prop} {Q : χ → Hp → Prop} {f : Env → Mem → Res γ} {k : γ → Mem → Res β} {Q1 : ξ → Hp → Prop}
    (at_ : At Z c e M σ H) (x : XG Z c d fs) (sl : ∀ j, i = some j → σ[j]? = some (some (.ref a))) (h : Okk Z WNo σ c R Q ((f e M).bind k))
    (next : ∀ c' y b M' H', Le c c' → At Z c' e M' σ H' → XG Z c' d fs → R1 c' y b → Okk Z WNo σ c' R Q (k b M') → Q1 y H') : TX Z a i d fs R1 f σ H Q1 := by
  refine ⟨c, e, M, at_, x, sl, ?_⟩
  cases hf : f e M with
  | ok b M' =>
    rw [hf] at h
    exact fun c' y H' l s r => next c' y b M' H' l (at_.mono l s) (x.mono l) r (Okk.mono l h)
  | exc k' fs' M' => rw [hf] at h; exact h
  | bad => rw [hf] at h; exact h
end
section
variable {Z : Sc} {X : Cx} {a : Addr} {oe : Obj} {pn : List (Addr × Obj)} {i : Option Nat} {d : Option Addr} {fs : List (Str × Av)} {cls : Value}
abbrev SX (Z : Sc) (Y : Cx) (a : Addr) (i : Option Nat) (d : Option Addr) (fs : List (Str × Av)) (e : Expr) (f : Ev) : Prop := PE Y e (TX Z a i d fs (Rep Z) f)
abbrev SXT (Z : Sc) (Y : Cx) (a : Addr) (i : Option Nat) (d : Option Addr) (fs : List (Str × Av)) (e : Expr) (f : Et) : Prop := PT Y e (TX Z a i d fs (fun _ (x b : Bool) => x = b) f)
variable {Y : Cx}
theorem sx_of {e : Expr} {f : Ev} (h : SE Z WNo Y e f) : SX Z Y a i d fs e f := h.imp fun σ H Q ⟨c, en, M, at_, _, _, q⟩ => ⟨c, en, M, at_, q⟩
def xFld (fs : List (Str × Av)) (f : Str) : Ev := fun _ M => match fs.lookup f with
  | some v => .ok v M
  | none => .bad
theorem lookup_map {c : Rc} {f : Str} {v : Av} : ∀ {gs : List (Str × V)} {fs : List (Str × Av)}, gs.map (·.1) = fs.map (·.1) → Reps Z c (gs.map (·.2)) (fs.map (·.2)) → fs.lookup f = some v → ∃ w, gs.lookup f = some w ∧ Rep Z c w v
  | [], [], _, _, h => by cases h
  | [], _ :: _, h, _, _ => by simp at h
  | _ :: _, [], h, _, _ => by simp at h
  | (g, w) :: gs, (g', v') :: fs, h, r, e => by
    simp only [List.map_cons, List.cons.injEq] at h
    obtain ⟨h1, h2⟩ := h
    subst h1
    cases r with
    | cons r1 r2 =>
    rw [List.lookup_cons] at e ⊢
    split at e
    · cases e
      exact ⟨_, rfl, r1⟩
    · exact lookup_map h2 r2 e
theorem sx_fld {j C : Nat} {n f : Str} {p pos : Pos} (hK : X.K = Z.K) (T : XfC X.K C) (hno : PySem.W.findIn X.K (.ref C) f = some none) (hz : Zc cls d oe) (hf : ∃ vs, oe.data = .fields vs) (hcl : cls = .ref C) (hi : i = some j) (hN : X.N[j]? = some n) (hv : Vis X.env.scope n)
    (hd : (n == ("__debug__" : Str)) = false) (hcd : (n == ("__classdict__" : Str)) = false) :
    SX Z (X.suite a ((a, oe) :: pn)) a i d fs (.Attribute (.Name n p) f pos) (xFld fs f) := by
  have hv' := pe_var (X := X.suite a ((a, oe) :: pn)) (i := j) (pos := p) hN hv hd hcd
  refine (pe_xf T hno hz hf hv' (base_of rfl)).imp fun σ H Q ⟨c, en, M, at_, xg, sl, q⟩ => ?_
  unfold xFld at q
  split at q
  · rename_i v hl
    refine ⟨.ref a, sl j hi, rfl, hcl, ?_⟩
    rcases xg with ⟨e1, _⟩ | ⟨dd, gs, h1, h2, h3, h4⟩
    · rw [e1] at hl; cases hl
    · obtain ⟨w, w1, w2⟩ := lookup_map h3 h4 hl
      exact ⟨dd, gs, w, h1, at_.s.g _ _ h2, w1, q.here at_.s w2⟩
  · exact q.elim
theorem sx_not {e : Expr} {f : Ev} {pos : Pos} (h : SX Z Y a i d fs e f) : SX Z Y a i d fs (.UnaryOp .Not e pos) (eNot f) := by
  refine (pe_not h).imp fun σ H Q ⟨c, en, M, at_, xg, sl, q⟩ => ?_
  refine stepX (R1 := Rep Z) at_ xg sl q fun c1 x v M1 H1 l1 a1 x1 r1 h1 => ?_
  try dsimp only at h1
  split at h1
  · cases r1
    exact ⟨_, rfl, h1.here a1.s (.bl _)⟩
  · exact h1.elim
theorem sx_and {e e' : Expr} {f g : Ev} {pos : Pos} (h : SX Z Y a i d fs e f) (h' : SX Z Y a i d fs e' g) : SX Z Y a i d fs (.BoolOp .And [e, e'] pos) (eAnd f g) := by
  refine (pe_and h (pe_one h')).imp fun σ H Q ⟨c, en, M, at_, xg, sl, q⟩ => ?_
  refine stepX (R1 := Rep Z) at_ xg sl q fun c1 x v M1 H1 l1 a1 x1 r1 h1 => ?_
  try dsimp only at h1
  split at h1
  · cases r1
    exact ⟨true, rfl, iteT ⟨c1, en, M1, a1, x1, sl, h1⟩⟩
  · cases r1
    exact ⟨false, rfl, iteF (h1.here a1.s (.bl _))⟩
  · exact h1.elim
theorem sx_if {t e e' : Expr} {ft : Et} {f g : Ev} {pos : Pos} (ht : SXT Z Y a i d fs t ft) (h : SX Z Y a i d fs e f) (h' : SX Z Y a i d fs e' g) : SX Z Y a i d fs (.IfExp t e e' pos) (eIf ft f g) := by
  refine (pe_ifExp ht h h').imp fun σ H Q ⟨c, en, M, at_, xg, sl, q⟩ => ?_
  refine stepX (R1 := fun _ (x b : Bool) => x = b) at_ xg sl q fun c1 x v M1 H1 l1 a1 x1 r1 h1 => ?_
  subst r1
  cases x with
  | true => exact iteT ⟨c1, en, M1, a1, x1, sl, h1⟩
  | false => exact iteF ⟨c1, en, M1, a1, x1, sl, h1⟩
theorem sx_pair {e e' : Expr} {f g : Ev} {k : Nat} {pos : Pos} (hs : isStar e = false) (hs' : isStar e' = false) (h : SX Z Y a i d fs e f) (h' : SX Z Y a i d fs e' g) : SX Z Y a i d fs (.Tuple [e, e'] k pos) (eTup (aCons f (aCons g aNil))) := by
  refine (pe_tup (pa_cons h (pa_cons h' pa_nil (star_cons hs')) (star_cons hs))).imp fun σ H Q ⟨c, en, M, at_, xg, sl, q⟩ => ?_
  unfold eTup aCons at q
  have q2 : Okk Z WNo σ c (Rep Z) Q ((f en M).bind fun x M1 => (g en M1).bind fun y M2 => .ok (.tup [x, y]) M2) := by
    revert q
    cases f en M with
    | ok x M1 =>
      show Okk Z WNo σ c (Rep Z) Q _ → Okk Z WNo σ c (Rep Z) Q ((g en M1).bind _)
      cases hg : g en M1 with
      | ok y M2 => intro q; simpa [Res.bind, hg, aNil, szOk] using q
      | exc k fs M2 => intro q; simpa [Res.bind, hg, aCons, aNil] using q
      | bad => intro q; simp [Res.bind, hg, aCons, aNil] at q; exact q
    | exc k fs M1 => exact fun q => q
    | bad => exact fun q => q
  refine stepX (R1 := Rep Z) at_ xg sl q2 fun c1 x v M1 H1 l1 a1 x1 r1 h1 => ?_
  refine stepX (R1 := Rep Z) a1 x1 sl h1 fun c2 y w M2 H2 l2 a2 x2 r2 h2 => ?_
  exact ⟨by rw [sizeLine_eq]; show 2 ≤ 16777216; decide, fun p hp => h2.tup a2.s (.cons (r1.mono l2) (.cons r2 .nil)) hp⟩
theorem sxt_val {e : Expr} {f : Ev} (hK : Y.K = Z.K) (he : ∀ whole, isTrue e Y.env whole = (do let v ← whole; standAt e.pos; holding [v] (truthy v))) (h : SX Z Y a i d fs e f) : SXT Z Y a i d fs e (tVal f) := by
  refine (pt_truth h he).imp fun σ H Q ⟨c, en, M, at_, xg, sl, q⟩ => ?_
  refine stepX (R1 := Rep Z) at_ xg sl q fun c1 x v M1 H1 l1 a1 x1 r1 h1 => ?_
  try dsimp only at h1
  split at h1
  · rename_i b e1
    exact ⟨b, by rw [hK]; exact truA_rep a1.s r1 e1, h1.here a1.s rfl⟩
  · exact h1.elim
theorem sxt_not {e : Expr} {f : Et} {pos : Pos} (h : SXT Z Y a i d fs e f) : SXT Z Y a i d fs (.UnaryOp .Not e pos) (tNotA f) := by
  refine (pt_not h).imp fun σ H Q ⟨c, en, M, at_, xg, sl, q⟩ => ?_
  refine stepX (R1 := fun _ (x b : Bool) => x = b) at_ xg sl q fun c1 x v M1 H1 l1 a1 x1 r1 h1 => ?_
  subst r1
  exact h1.here a1.s rfl
theorem sxt_and {e e' : Expr} {f g : Et} {pos : Pos} (h : SXT Z Y a i d fs e f) (h' : SXT Z Y a i d fs e' g) : SXT Z Y a i d fs (.BoolOp .And [e, e'] pos) (tAndA f g) := by
  refine (pw_and h (pw_and1 h')).pt.imp fun σ H Q ⟨c, en, M, at_, xg, sl, q⟩ => ?_
  refine stepX (R1 := fun _ (x b : Bool) => x = b) at_ xg sl q fun c1 x v M1 H1 l1 a1 x1 r1 h1 => ?_
  subst r1
  cases x with
  | true => exact iteT ⟨c1, en, M1, a1, x1, sl, h1⟩
  | false => exact iteF (h1.here a1.s rfl)
end
end Pd
set_option maxHeartbeats 2000000
namespace Pd
open PySem PySem.Spec L2
structure NmF (X : Cx) (y : Str) (v : V) (cv : Value) : Prop where
  gl : Gl X y
  db : (y == ("__debug__" : Str)) = false
  wh : X.mg y = some cv ∨ (X.mg y = none ∧ bootBuiltins y = some cv ∧ y ≠ "__name__")
  re : RelV v cv
  un : ∀ u, RelV v u → u = cv
structure XaF (K : PySem.W.Frag) (C : Addr) : Prop where
  xf : XfC K C
  cl : (PySem.W.clsIn K C).isSome = true
  ha : PySem.W.findIn K (.ref C) "__class__" = some (some (.builtin "object.__class__"))
  hn : PySem.W.specialIn K (.builtin "object.__class__") "__get__" = some (some (.builtin "getset_descriptor.__get__"))
  ht : PySem.W.takesIn K (.builtin "object.__class__") = some true
  hm : PySem.W.mroIn K C (.type "object") = some true
theorem xaB_ok {K : PySem.W.Frag} {C : Addr} (h : xaB K C = true) : XaF K C := by
  simp only [xaB, Bool.and_eq_true, decide_eq_true_eq] at h
  obtain ⟨⟨⟨⟨⟨h1, h2⟩, h3⟩, h4⟩, h5⟩, h6⟩ := h
  exact ⟨xfB_ok h1, h2, h3, h4, h5, h6⟩
section
variable {Z : Sc} {X Y : Cx} {a : Addr} {oe : Obj} {pn : List (Addr × Obj)} {i : Option Nat} {d : Option Addr} {fs : List (Str × Av)} {cls : Value}
theorem pe_nm {y : Str} {v : V} {cv : Value} {p : Pos} (F : NmF Y y v cv) : PE Y (.Name y p) (tC v) := by
  rcases F.wh with h | ⟨h1, h2, h3⟩
  · exact pe_glob F.gl h F.re F.db
  · exact pe_bltn F.gl h1 h2 F.re h3 F.db
def dOk (H : Hp) (d : Option Addr) : Prop := d = none ∨ ∃ (p : Addr) (gs : List (Str × V)), d = some p ∧ H p = some (.xd gs)
theorem XG.ok {c : Rc} {M : Mem} {H : Hp} (s : Sim Z c M H) (x : XG Z c d fs) : dOk H d := by
  rcases x with ⟨_, e⟩ | ⟨p, gs, h1, h2, _⟩
  · exact .inl e
  · exact .inr ⟨p, gs, h1, s.g _ _ h2⟩
theorem inst_x {C : Addr} {pins : List (Addr × Obj)} {σ : St} {H : Hp} {s : Shared} (I : Inv (X.suite a ((a, oe) :: pn)) pins σ H s) (hz : Zc (.ref C) d oe) (hf : ∃ vs, oe.data = .fields vs) (hd : dOk H d) : ∃ od, PySem.W.InstAt s.heap a oe C od := by
  obtain ⟨hget, _⟩ := I.pin (a, oe) (List.mem_append.mpr (.inl List.mem_cons_self))
  obtain ⟨vs, hv⟩ := hf
  have hno : PySem.W.notCls oe = true := by unfold PySem.W.notCls; rw [hv] <;> rfl
  rcases hd with e | ⟨p, gs, e1, e2⟩
  · exact ⟨none, hget, hz.1, hno, by rw [hz.2, e]; trivial⟩
  · obtain ⟨mA, hns, _⟩ := (show ObjOk X.prog X.w H s.heap p (.xd gs) from I.hok p _ e2)
    obtain ⟨od, ho, _⟩ := lookIn_ns hns
    exact ⟨some od, hget, hz.1, hno, by rw [hz.2, e1]; exact ho⟩
def rIsX (K : PySem.W.Frag) (C a : Addr) (d : Option Addr) : List V → Hp → VK → Prop := fun xs H Q => ∃ (c : V) (cv : Value) (b : Bool), xs = [.ref a, c] ∧ (∀ u, RelV c u → u = cv) ∧ PySem.W.kitOne K (.ref C) cv = some b ∧ dOk H d ∧ Q (.bl b) H
theorem call_isX {C : Addr} (T : XaF X.K C) (hz : Zc (.ref C) d oe) (hf : ∃ vs, oe.data = .fields vs) : CallR (X.suite a ((a, oe) :: pn)) (.builtin "isinstance") (rIsX X.K C a d) := by
  intro pins s σ H xs us Q I r h
  obtain ⟨c, cv, b, rfl, hcv, e, hd, q⟩ := h
  obtain ⟨u1, u2, rfl, r1, r2⟩ := vals2 r
  obtain rfl : u1 = Value.ref a := r1
  have ec := hcv _ r2
  subst ec
  obtain ⟨od, J⟩ := inst_x I hz hf hd
  exact PySem.W.kia_one (PySem.W.kitx_exc T.cl T.xf.ga T.xf.gg T.xf.exC T.ha T.hn T.ht T.hm) I.kIn J e (fun z => nomatch z) fun tk => ⟨.bl b, H, I.tok tk, rfl, q⟩
def rIsX2 (K : PySem.W.Frag) (C a : Addr) (d : Option Addr) : List V → Hp → VK → Prop := fun xs H Q => ∃ (tp : Addr) (c1 c2 : V) (v1 v2 : Value) (b : Bool), xs = [.ref a, .ref tp] ∧ H tp = some (.tup [c1, c2]) ∧ (∀ u, RelV c1 u → u = v1) ∧ (∀ u, RelV c2 u → u = v2) ∧ PySem.W.kitAny K (.ref C) [v1, v2] = some b ∧ dOk H d ∧ Q (.bl b) H
theorem call_isX2 {C : Addr} (T : XaF X.K C) (hz : Zc (.ref C) d oe) (hf : ∃ vs, oe.data = .fields vs) : CallR (X.suite a ((a, oe) :: pn)) (.builtin "isinstance") (rIsX2 X.K C a d) := by
  intro pins s σ H xs us Q I r h
  obtain ⟨tp, c1, c2, v1, v2, b, rfl, hT, e1, e2, e, hd, q⟩ := h
  obtain ⟨u1, u2, rfl, r1, r2⟩ := vals2 r
  obtain rfl : u1 = Value.ref a := r1
  obtain rfl : u2 = Value.ref tp := r2
  obtain ⟨od, J⟩ := inst_x I hz hf hd
  obtain ⟨_, its, rv, o, h1, h2, n, h3⟩ := (show ObjOk X.prog X.w H s.heap tp (.tup [c1, c2]) from I.hok tp _ hT)
  obtain ⟨w1, w2, ew, q1, q2⟩ := vals2 rv
  have z1 := e1 _ q1
  have z2 := e2 _ q2
  subst z1 z2 ew
  obtain ⟨oc, od', dt, sl⟩ := o
  simp only at h2 h3
  subst h2 h3
  exact PySem.W.kia_tup (PySem.W.kitx_exc T.cl T.xf.ga T.xf.gg T.xf.exC T.ha T.hn T.ht T.hm) I.kIn J h1 e (fun z => nomatch z) fun tk => ⟨.bl b, H, I.tok tk, rfl, q⟩
theorem sx_isi {j C : Nat} {n y : Str} {v : V} {cv : Value} {b : Bool} {p p1 p2 pos : Pos} (T : XaF X.K C) (hz : Zc cls d oe) (hf : ∃ vs, oe.data = .fields vs) (hcl : cls = .ref C) (hi : i = some j) (hN : X.N[j]? = some n) (hv : Vis X.env.scope n)
    (hd : (n == ("__debug__" : Str)) = false) (hcd : (n == ("__classdict__" : Str)) = false) (hg : Gl X "isinstance") (hm : X.mg "isinstance" = none) (F : NmF X y v cv) (hb : PySem.W.kitOne X.K (.ref C) cv = some b) :
    SX Z (X.suite a ((a, oe) :: pn)) a i d fs (.Call (.Name "isinstance" p) [.Name n p1, .Name y p2] [] pos) (eC (.bl b)) := by
  subst hcl
  have hv' := pe_var (X := X.suite a ((a, oe) :: pn)) (i := j) (pos := p1) hN hv hd hcd
  have F' : NmF (X.suite a ((a, oe) :: pn)) y v cv := ⟨F.gl, F.db, F.wh, F.re, F.un⟩
  refine (pe_callB (X := X.suite a ((a, oe) :: pn)) (p := p) (pos := pos) (call_isX T hz hf) hg hm (by rfl) (pa_cons hv' (pa_cons (pe_nm (p := p2) F') pa_nil (star_cons (by rfl))) (star_cons (by rfl))) (by decide) (by decide) (star_cons (by rfl)) (star_any (by rfl))).imp fun σ H Q ⟨c, en, M, at_, xg, sl, q⟩ => ?_
  exact ⟨.ref a, sl j hi, v, cv, b, rfl, F.un, hb, xg.ok at_.s, q.here at_.s (.bl b)⟩
theorem sx_isi2 {j C : Nat} {n y y' : Str} {v v' : V} {cv cv' : Value} {b : Bool} {k : Nat} {p p1 p2 p3 p4 pos : Pos} (T : XaF X.K C) (hz : Zc cls d oe) (hf : ∃ vs, oe.data = .fields vs) (hcl : cls = .ref C) (hi : i = some j) (hN : X.N[j]? = some n) (hv : Vis X.env.scope n)
    (hd : (n == ("__debug__" : Str)) = false) (hcd : (n == ("__classdict__" : Str)) = false) (hg : Gl X "isinstance") (hm : X.mg "isinstance" = none) (F : NmF X y v cv) (G : NmF X y' v' cv') (hb : PySem.W.kitAny X.K (.ref C) [cv, cv'] = some b) :
    SX Z (X.suite a ((a, oe) :: pn)) a i d fs (.Call (.Name "isinstance" p) [.Name n p1, .Tuple [.Name y p2, .Name y' p3] k p4] [] pos) (eC (.bl b)) := by
  subst hcl
  have hv' := pe_var (X := X.suite a ((a, oe) :: pn)) (i := j) (pos := p1) hN hv hd hcd
  have F' : NmF (X.suite a ((a, oe) :: pn)) y v cv := ⟨F.gl, F.db, F.wh, F.re, F.un⟩
  have G' : NmF (X.suite a ((a, oe) :: pn)) y' v' cv' := ⟨G.gl, G.db, G.wh, G.re, G.un⟩
  have ht := pe_tup (x1 := k) (pos := p4) (pa_cons (pe_nm (p := p2) F') (pa_cons (pe_nm (p := p3) G') pa_nil (star_cons (by rfl))) (star_cons (by rfl)))
  refine (pe_callB (X := X.suite a ((a, oe) :: pn)) (p := p) (pos := pos) (call_isX2 T hz hf) hg hm (by rfl) (pa_cons hv' (pa_cons ht pa_nil (star_cons (by rfl))) (star_cons (by rfl))) (by decide) (by decide) (star_cons (by rfl)) (star_any (by rfl))).imp fun σ H Q ⟨c, en, M, at_, xg, sl, q⟩ => ?_
  refine ⟨.ref a, sl j hi, by rw [sizeLine_eq]; show 2 ≤ 16777216; decide, fun tp htp => ?_⟩
  have le3 : Le c (c.lay tp (.tup [v, v'])) := Le.lay (at_.s.g.free htp)
  have s3 := at_.s.lay (o := .tup [v, v']) htp
  exact ⟨tp, v, v', cv, cv', b, rfl, upd_same, F.un, G.un, hb, (xg.mono le3).ok s3, q _ _ _ le3 s3 (.bl b)⟩
def TXS (Z : Sc) (a : Addr) (i : Option Nat) (d : Option Addr) (fs : List (Str × Av)) (f : Es) : TS := fun D σ H => ∃ (c : Rc) (e : Env) (M : Mem), At Z c e M σ H ∧ XG Z c d fs ∧ (∀ j, i = some j → σ[j]? = some (some (.ref a))) ∧ OkS Z WNo c D (f e M)
theorem stepXS {σ : St} {c : Rc} {e : Env} {M : Mem} {H : Hp} {D : Ends} {γ ξ : Type} {R1 : Rc → ξ → γ → Prop} {f : Env → Mem → Res γ} {k : γ → Mem → SRes} {Q1 : ξ → Hp → Prop}
    (at_ : At Z c e M σ H) (x : XG Z c d fs) (sl : ∀ j, i = some j → σ[j]? = some (some (.ref a))) (h : OkS Z WNo c D ((f e M).thn e k))
    (next : ∀ c' y b M' H', Le c c' → At Z c' e M' σ H' → XG Z c' d fs → R1 c' y b → OkS Z WNo c' D (k b M') → Q1 y H') : TX Z a i d fs R1 f σ H Q1 := by
  refine ⟨c, e, M, at_, x, sl, ?_⟩
  cases hf : f e M with
  | ok b M' =>
    rw [hf] at h
    exact fun c' y H' l s r => next c' y b M' H' l (at_.mono l s) (x.mono l) r (OkS.mono l h)
  | exc k' fs' M' =>
    rw [hf] at h
    exact fun c' H' d' l s x' => h c' σ H' d' l (at_.mono l s) x'
  | bad => rw [hf] at h; exact h
theorem xs_set {j : Nat} {x : Str} {ex : Expr} {f : Ev} {pos pos' : Pos} (hN : Y.N.Nodup) (hi : Y.N[j]? = some x) (hx : Loc Y.env.scope x) (h : SX Z Y a i d fs ex f) (hs : swapsWith ex (some (.Name x pos')) pos.line Y.env = pure false)
    (hf : Y.fn x = true ∨ Y.env.scope.names.lookup x = some .local) : PS Y (.Assign [.Name x pos'] ex pos) (TXS Z a i d fs (sSet j f)) := by
  refine (ps_set hN hi hx h hs hf).imp fun D σ H ⟨c, e, M, at_, xg, sl, q⟩ => ?_
  refine stepXS (R1 := Rep Z) at_ xg sl q fun c' y b M' H' l at' xg' r q' => ?_
  exact q' c' _ _ (Le.refl c') (at'.set r j)
end
end Pd
set_option maxHeartbeats 2000000
namespace Pd
open PySem PySem.Spec L2
section
variable {Z : Sc} {W : WX} {X Y : Cx} {a : Addr} {oe : Obj} {pn : List (Addr × Obj)} {i : Option Nat} {d : Option Addr} {fs : List (Str × Av)} {cls : Value}
theorem xs_ret {ex : Expr} {f : Ev} {pos : Pos} (h : SX Z Y a i d fs ex f) : PS Y (.Return (some ex) pos) (TXS Z a i d fs (sRet f)) := by
  refine (ps_ret h).imp fun D σ H ⟨c, e, M, at_, xg, sl, q⟩ => ?_
  exact stepXS (R1 := Rep Z) at_ xg sl q fun c' y b M' H' l at' xg' r q' => q' c' y H' (Le.refl c') at'.s r
theorem xs_set2 {j k : Nat} {x y : Str} {ex ey : Expr} {f g : Ev} {pos pos' pos2 pos2' : Pos} (hN : Y.N.Nodup) (hi : Y.N[j]? = some x) (hx : Loc Y.env.scope x) (h : SX Z Y a i d fs ex f) (hs : swapsWith ex (some (.Name x pos')) pos.line Y.env = pure false)
    (hf : Y.fn x = true ∨ Y.env.scope.names.lookup x = some .local) (hi2 : Y.N[k]? = some y) (hy : Loc Y.env.scope y) (h2 : SX Z Y a i d fs ey g) (hs2 : swapsWith ey (some (.Name y pos2')) pos2.line Y.env = pure false)
    (hf2 : Y.fn y = true ∨ Y.env.scope.names.lookup y = some .local) (hj : i ≠ some j) : PSs Y [.Assign [.Name x pos'] ex pos, .Assign [.Name y pos2'] ey pos2] (TXS Z a i d fs (sSeq (sSet j f) (sSet k g))) := by
  refine (pss_cons (ps_set hN hi hx h hs hf) (pss_one (ps_set hN hi2 hy h2 hs2 hf2))).imp fun D σ H ⟨c, e, M, at_, xg, sl, q⟩ => ?_
  have q2 : OkS Z WNo c D ((f e M).thn e fun v M1 => sSet k g (e.set j (some v)) M1) := by
    revert q
    unfold sSeq sSet
    cases f e M <;> exact fun q => q
  refine stepXS (R1 := Rep Z) at_ xg sl q2 fun c' y b M' H' l at' xg' r q' => ?_
  have at2 := at'.set r j
  have sl2 : ∀ m, i = some m → (σ.set j (some y))[m]? = some (some (.ref a)) := fun m hm => by
    have hne : j ≠ m := fun z => hj (by rw [hm, z])
    rw [List.getElem?_set, if_neg hne]
    exact sl m hm
  refine stepXS (R1 := Rep Z) at2 xg' sl2 q' fun c2 y2 b2 M2 H2 l2 at3 xg3 r2 q3 => ?_
  exact q3 c2 _ _ (Le.refl c2) (at3.set r2 k)
theorem env_hide {c : Rc} {e : Env} {σ : St} (h : EnvR Z c e σ) (j : Nat) (v : Option V) : EnvR Z c (e.set j none) (σ.set j v) := by
  refine ⟨by simp [h.len], fun m y q => ?_⟩
  rw [List.getElem?_set] at q
  rw [List.getElem?_set]
  by_cases hm : j = m
  · subst hm
    rw [if_pos rfl] at q
    split at q <;> cases q
  · rw [if_neg hm] at q ⊢
    exact h.at_ m y q
def outX (j : Nat) : SRes → SRes
  | .nx e M => .nx (e.set j none) M
  | .rt v M => .rt v M
  | .bk e M => .bk (e.set j none) M
  | .ct e M => .ct (e.set j none) M
  | _ => .bad
def noSX : SRes → SRes
  | .exc _ _ _ _ => .bad
  | r => r
def sTryAs (body : Es) (m : Nat → Option Bool) (j : Nat) (suite : Nat → List (Str × Av) → Es) : Es := fun e M => match body e M with
  | .exc k fs e' M' => (match m k with
    | some true => if Nat.blt j e'.length then outX j (suite k fs (e'.set j none) M') else .bad
    | some false => .exc k fs e' M'
    | none => .bad)
  | r => r
def sTryOnly (body : Es) (m : Nat → Option Bool) (suite : Nat → List (Str × Av) → Es) : Es := fun e M => match body e M with
  | .exc k fs e' M' => (match m k with
    | some true => noSX (suite k fs e' M')
    | some false => .exc k fs e' M'
    | none => .bad)
  | r => r
theorem ss_tryAs {x n : Str} {cv : Value} {j : Nat} {body suite : List Stmt} {b0 : Stmt} {np pos pos' : Pos} {f : Es} {m : Nat → Option Bool} {su : Nat → List (Str × Av) → Es} (hs : X.stack = X.env :: X.outer) (hf : X.env.frame = some X.env.locals) (hN : X.N.Nodup) (hi : X.N[j]? = some n) (hln : X.env.kindOf n = some .local) (hc : Names X x cv) (tk : Takes X W)
    (hm : ∀ k b, m k = some b → PySem.W.exmOne X.K (.ref (Z.xc k)) cv = some b)
    (hb : ∀ (W : WX) (pn : List (Addr × Obj)) (xe : Value → Shared → Prop), Takes (X.tr pn xe) W → PassesOwn (model X.prog X.w) X.A X.env xe → SSs Z W (X.tr pn xe) body f)
    (hsu : ∀ (a : Addr) (oe : Obj) (k : Nat) (d : Option Addr) (fs : List (Str × Av)) (pn : List (Addr × Obj)), m k = some true → Zc (.ref (Z.xc k)) d oe → (∃ vs, oe.data = .fields vs) → PSs (X.suite a ((a, oe) :: pn)) (b0 :: suite) (TXS Z a (some j) d fs (su k fs))) :
    SS Z W X (.Try body [.ExceptHandler (some (.Name x np)) (some n) (b0 :: suite) pos'] [] [] pos) (sTryAs f m j su) := by
  refine (ps_try_as (tb := fun W => TSa Z W f) (ts := fun a cls d D σ H => ∃ k fs, m k = some true ∧ cls = .ref (Z.xc k) ∧ TXS Z a (some j) d fs (su k fs) D σ H) hs hf hN hi hln hc tk hb (fun a oe cls d pn hz hd => ?_)).imp fun D σ H ⟨c, e, M, at_, q⟩ => ?_
  · refine ⟨fun pins s σ H D I ⟨k, fs, h1, h2, h3⟩ => ?_⟩
    subst h2
    exact (hsu a oe k d fs pn h1 hz hd).run pins s σ H D I h3
  · refine ⟨c, e, M, at_, ?_⟩
    unfold sTryAs at q
    cases hfe : f e M with
    | exc k fs e' M' =>
      rw [hfe] at q
      simp only at q
      intro c' σ' H' dd l at' xr
      cases hmk : m k with
      | none => rw [hmk] at q; exact q.elim
      | some b =>
        rw [hmk] at q
        refine ⟨b, hm k b hmk, fun hbt a ha => ?_, fun hbf => ?_⟩
        · subst hbt
          simp only at q
          split at q
          case isFalse => exact q.elim
          rename_i hjl
          obtain ⟨c2, l2, s2, xg⟩ := XRep.g at'.s xr
          have q2 := OkS.mono (l.trans l2) q
          refine ⟨k, fs, hmk, rfl, c2, e'.set j none, M', ⟨s2, env_hide (at'.e.mono l2) j _⟩, xg, fun m' hm' => ?_, ?_⟩
          · cases hm'
            rw [List.getElem?_set, if_pos rfl, if_pos]
            rw [← at'.e.len]
            exact Nat.le_of_ble_eq_true hjl
          · revert q2
            cases su k fs (e'.set j none) M' with
            | nx e2 M2 => exact fun q2 c3 σ3 H3 l3 at3 => q2 c3 _ H3 l3 ⟨at3.s, at3.e.none j⟩
            | rt v M2 => exact fun q2 => q2
            | bk e2 M2 => exact fun q2 c3 σ3 H3 l3 at3 => q2 c3 _ H3 l3 ⟨at3.s, at3.e.none j⟩
            | ct e2 M2 => exact fun q2 c3 σ3 H3 l3 at3 => q2 c3 _ H3 l3 ⟨at3.s, at3.e.none j⟩
            | exc k' fs' e2 M2 => exact fun q2 => q2.elim
            | bad => exact fun q2 => q2.elim
        · subst hbf
          exact q c' σ' H' dd l at' xr
    | nx e' M' => rw [hfe] at q; exact q
    | rt v M' => rw [hfe] at q; exact q
    | bk e' M' => rw [hfe] at q; exact q
    | ct e' M' => rw [hfe] at q; exact q
    | bad => rw [hfe] at q; exact q
theorem ss_tryOnly {x : Str} {cv : Value} {body suite : List Stmt} {b0 : Stmt} {np pos pos' : Pos} {f : Es} {m : Nat → Option Bool} {su : Nat → List (Str × Av) → Es} (hs : X.stack = X.env :: X.outer) (hf : X.env.frame = some X.env.locals) (hc : Names X x cv) (tk : Takes X W)
    (hm : ∀ k b, m k = some b → PySem.W.exmOne X.K (.ref (Z.xc k)) cv = some b)
    (hb : ∀ (W : WX) (pn : List (Addr × Obj)) (xe : Value → Shared → Prop), Takes (X.tr pn xe) W → PassesOwn (model X.prog X.w) X.A X.env xe → SSs Z W (X.tr pn xe) body f)
    (hsu : ∀ (a : Addr) (oe : Obj) (k : Nat) (d : Option Addr) (fs : List (Str × Av)) (pn : List (Addr × Obj)), m k = some true → Zc (.ref (Z.xc k)) d oe → (∃ vs, oe.data = .fields vs) → PSs (X.suite a ((a, oe) :: pn)) (b0 :: suite) (TXS Z a none d fs (su k fs))) :
    SS Z W X (.Try body [.ExceptHandler (some (.Name x np)) none (b0 :: suite) pos'] [] [] pos) (sTryOnly f m su) := by
  refine (ps_try_only (tb := fun W => TSa Z W f) (ts := fun a cls d D σ H => ∃ k fs, m k = some true ∧ cls = .ref (Z.xc k) ∧ TXS Z a none d fs (su k fs) D σ H) hs hf hc tk hb (fun a oe cls d pn hz hd => ?_)).imp fun D σ H ⟨c, e, M, at_, q⟩ => ?_
  · refine ⟨fun pins s σ H D I ⟨k, fs, h1, h2, h3⟩ => ?_⟩
    subst h2
    exact (hsu a oe k d fs pn h1 hz hd).run pins s σ H D I h3
  · refine ⟨c, e, M, at_, ?_⟩
    unfold sTryOnly at q
    cases hfe : f e M with
    | exc k fs e' M' =>
      rw [hfe] at q
      simp only at q
      intro c' σ' H' dd l at' xr
      cases hmk : m k with
      | none => rw [hmk] at q; exact q.elim
      | some b =>
        rw [hmk] at q
        refine ⟨b, hm k b hmk, fun hbt a ha => ?_, fun hbf => ?_⟩
        · subst hbt
          simp only at q
          obtain ⟨c2, l2, s2, xg⟩ := XRep.g at'.s xr
          have q2 := OkS.mono (l.trans l2) q
          refine ⟨k, fs, hmk, rfl, c2, e', M', ⟨s2, at'.e.mono l2⟩, xg, (fun m' hm' => nomatch hm'), ?_⟩
          revert q2
          cases su k fs e' M' with
          | exc k' fs' e2 M2 => exact fun q2 => q2.elim
          | _ => exact fun q2 => q2
        · subst hbf
          exact q c' σ' H' dd l at' xr
    | nx e' M' => rw [hfe] at q; exact q
    | rt v M' => rw [hfe] at q; exact q
    | bk e' M' => rw [hfe] at q; exact q
    | ct e' M' => rw [hfe] at q; exact q
    | bad => rw [hfe] at q; exact q
end
end Pd
set_option maxHeartbeats 2000000
namespace Pd
open PySem PySem.Spec L2
section
variable {Z : Sc} {W : WX} {X : Cx}
def stPut (d : Nat) (y z : Av) (M : Mem) : Option Mem := match M[d]?, keyA y with
  | some (some (.dct ks vs)), some k => if szOk ks.length then some (M.set d (some (.dct (dSet ks vs y k z).1 (dSet ks vs y k z).2))) else none
  | _, _ => none
def dcL (k : Ik) (g : Eg) (t : Et) (f fv : Ev) (e : Env) (d : Nat) : List Av → Mem → Res Unit
  | [], M => if k.stay M then .ok () M else .bad
  | x :: xs, M => if k.stay M then (match g x e M with
    | some e1 => (t e1 M).bind fun b M1 => if b then (f e1 M1).bind fun y M2 => (fv e1 M2).bind fun z M2 => (match stPut d y z M2 with
        | some M3 => dcL k g t f fv e d xs M3
        | none => .bad) else dcL k g t f fv e d xs M1
    | none => .bad) else .bad
def dcFin (m : Bool) (M1 M : Mem) : Res Av := match M[M1.length]? with
  | some (some (.dct ks vs)) => if m then .ok (.ref M1.length) M else if cutOk M1 M && belows M1.length vs then .ok (.dct ks vs) (M.take M1.length) else .ok (.dct ks vs) (M.set M1.length none)
  | _ => .bad
def eDc (m : Bool) (fi : Ei) (g : Eg) (t : Et) (f fv : Ev) (vs : List Nat) : Ev := fun e M => (fi e M).bind fun k M1 =>
  (noX (dcL k g t f fv (wipeA e vs) M1.length k.items (M1 ++ [some (.dct [] [])]))).bind fun _ M2 => dcFin m M1 M2
theorem dcFin_ok {σ : St} {c1 c2 : Rc} {M1 M2 : Mem} {H1 H2 : Hp} {D : Addr} {Q : VK} {mm : Bool} (s1 : Sim Z c1 M1 H1) (s2 : Sim Z c2 M2 H2) (lc1 : Le c1 c2) (eD : c2.r M1.length = D) (lt2 : M1.length < c2.L) (h2 : Okk Z W σ c1 (Rep Z) Q (dcFin mm M1 M2)) : Q (.ref D) H2 := by
  unfold dcFin at h2
  split at h2
  · rename_i ks vs e5
    obtain ⟨ho, q1, q2, q3⟩ := s2.m _ _ e5
    obtain ⟨kvs, rfl, e1, e2⟩ := RepO.dct_of q2
    have s5 := s2.freeze e5 q1
    rw [eD] at q1 s5 q3
    split at h2
    · have rr : Rep Z c2 (.ref D) (.ref M1.length) := by
        have q := Rep.ref (Z := Z) (c := c2) (n := M1.length) lt2
        rw [eD] at q
        exact q
      exact h2 _ _ H2 lc1 s2 rr
    · have lD : Le c1 (c2.lay D (.dK kvs)) := lc1.trans (Le.lay q3)
      have rD : Rep Z (c2.lay D (.dK kvs)) (.ref D) (.dct ks vs) := .dct (kvs := kvs) (show upd c2.G D (.dK kvs) D = _ from upd_same) e1 (e2.mono (Le.lay q3))
      split at h2
      · rename_i hz
        simp only [Bool.and_eq_true] at hz
        have s6 := s1.cutOk s5 (M := M1) (by
          unfold Pd.cutOk at hz ⊢
          exact cutL_none hz.1)
        have tk : (M2.set M1.length none).take M1.length = M2.take M1.length := by rw [List.take_set_of_le (Nat.le_refl _)]
        rw [tk] at s6
        refine h2 ((c2.lay D (.dK kvs)).cut M1.length) _ H2 ⟨lD.g, by show c1.L ≤ M1.length; rw [s1.l]; exact Nat.le_refl _, lD.r⟩ s6 (rD.cut (by simp only [below, dk_bel e1, hz.2, Bool.and_self]))
      · exact h2 _ _ H2 lD s5 rD
  · exact h2.elim
theorem imp_dc {mm : Bool} {fi : Ei} {tg : TG} {g : Eg} {t : Et} {f fv : Ev} {vs ws : List Nat} (hg : GS Z ws tg g) (hw : ∀ i ∈ ws, i ∈ vs) : ∀ σ H Q, T Z W (Rep Z) (eDc mm fi g t f fv vs) σ H Q → tDc (TIa Z W fi) tg (T Z WNo (fun _ (x b : Bool) => x = b) t) (T Z WNo (Rep Z) f) (T Z WNo (Rep Z) fv) vs σ H Q := by
  intro σ H Q ⟨c, e, M, a, h⟩
  refine ⟨c, e, M, a, ?_⟩
  unfold eDc at h
  cases hf : fi e M with
  | bad => rw [hf] at h; exact h.elim
  | exc k fs M' => rw [hf] at h; exact h
  | ok k M1 =>
    rw [hf] at h
    intro c1 H1 J l1 a1 jk D hD
    have h : Okk Z W σ c1 (Rep Z) Q ((noX (dcL k g t f fv (wipeA e vs) M1.length k.items (M1 ++ [some (.dct [] [])]))).bind fun _ M2 => dcFin mm M1 M2) := Okk.mono l1 h
    have sD : Sim Z (c1.own D) (M1 ++ [some (.dct [] [])]) (upd H1 D (.dK [])) := a1.s.own hD (RepO.dct_mk (kvs := []) rfl .nil)
    refine ⟨fun i m H => m = k.items.length - i ∧ i ≤ k.items.length ∧ ∃ c M, Le (c1.own D) c ∧ Sim Z c M H ∧ Okk Z W σ c1 (Rep Z) Q ((noX (dcL k g t f fv (wipeA e vs) M1.length (k.items.drop i) M)).bind fun _ M2 => dcFin mm M1 M2), ⟨k.items.length, by simp, Nat.zero_le _, c1.own D, _, Le.refl _, sD, by simpa using h⟩, ?_⟩
    rintro i m H2 ⟨rfl, hi, c2, M2, l2, s2, h2⟩
    have lc1 : Le c1 c2 := Le.own.trans l2
    have eD : c2.r M1.length = D := by
      rw [← a1.s.l, l2.r c1.L (Nat.lt_succ_self _), own_at]
    have lt2 : M1.length < c2.L := by have := l2.l; rw [show (c1.own D).L = c1.L + 1 from rfl] at this; rw [← a1.s.l]; omega
    by_cases hlt : i < k.items.length
    · obtain ⟨b, hb⟩ : ∃ b, k.items[i]? = some b := ⟨k.items[i], by simp [hlt]⟩
      rw [drop_cons hb] at h2
      unfold dcL at h2
      split at h2
      · rename_i st
        refine .inr ⟨jk.go i c2 M2 H2 hlt lc1 s2 st, fun H => ∃ c M, Le (c1.own D) c ∧ Sim Z c M H ∧ Okk Z W σ c1 (Rep Z) Q ((noX (dcL k g t f fv (wipeA e vs) M1.length (k.items.drop (i + 1)) M)).bind fun _ M2 => dcFin mm M1 M2), fun H' ⟨c3, M3, l3, s3, h3⟩ => ⟨k.items.length - (i + 1), by omega, rfl, hlt, c3, M3, l3, s3, h3⟩, fun x H' y => ?_⟩
        obtain ⟨d, l3, s3, r3⟩ := jk.yld i c2 M2 H2 x H' b hb lc1 s2 st y
        split at h2
        · rename_i e1 he1
          refine hg d (wipeA e vs) e1 M2 (wipe σ vs) H' x b _ ⟨s3, (a1.e.mono (lc1.trans l3)).wipe vs⟩ r3 he1 fun σ' a4 w1 w2 => ⟨?_, d, e1, M2, a4, ?_⟩
          · rw [wipe_ext (a := σ') (b := wipe σ vs) (fun j hj => w1 j fun z => hj (hw j z)) w2, wipe_twice]
          · cases ht : t e1 M2 with
            | bad => rw [ht] at h2; exact h2.elim
            | exc q fs M5 => rw [ht] at h2; exact h2.elim
            | ok bb M3 =>
              rw [ht] at h2
              intro c4 x4 H4 l4 s4 r4
              subst r4
              cases x4 with
              | false => exact iteF ⟨c4, M3, (l2.trans l3).trans l4, s4, by simpa [Res.bind] using h2⟩
              | true =>
                refine iteT ⟨c4, e1, M3, ⟨s4, a4.e.mono l4⟩, ?_⟩
                have h2 : Okk Z W σ c1 (Rep Z) Q ((noX ((f e1 M3).bind fun y M2 => (fv e1 M2).bind fun z M2 => (match stPut M1.length y z M2 with
                  | some M3 => dcL k g t f fv (wipeA e vs) M1.length (k.items.drop (i + 1)) M3
                  | none => .bad))).bind fun _ M2 => dcFin mm M1 M2) := h2
                cases hfe : f e1 M3 with
                | bad => rw [hfe] at h2; exact h2.elim
                | exc q fs M5 => rw [hfe] at h2; exact h2.elim
                | ok y4 M4 =>
                 rw [hfe] at h2
                 have h2 : Okk Z W σ c1 (Rep Z) Q ((noX ((fv e1 M4).bind fun z M2 => (match stPut M1.length y4 z M2 with
                  | some M3 => dcL k g t f fv (wipeA e vs) M1.length (k.items.drop (i + 1)) M3
                  | none => .bad))).bind fun _ M2 => dcFin mm M1 M2) := h2
                 intro c45 x4 H45 l45 s45 r45
                 refine ⟨c45, e1, M4, ⟨s45, a4.e.mono (l4.trans l45)⟩, ?_⟩
                 cases hfe2 : fv e1 M4 with
                 | bad => rw [hfe2] at h2; exact h2.elim
                 | exc q fs M5 => rw [hfe2] at h2; exact h2.elim
                 | ok y5 M5 =>
                  rw [hfe2] at h2
                  intro c5 x5 H5 l5 s5 r5
                  cases e6 : stPut M1.length y4 y5 M5 with
                  | none => simp only [Res.bind, e6, noX] at h2; exact h2.elim
                  | some M6 =>
                    have h2 : Okk Z W σ c1 (Rep Z) Q ((noX (dcL k g t f fv (wipeA e vs) M1.length (k.items.drop (i + 1)) M6)).bind fun _ M2 => dcFin mm M1 M2) := by
                      simp only [Res.bind, e6] at h2
                      exact h2
                    have lc5 : Le c2 c5 := ((l3.trans l4).trans l45).trans l5
                    have eD5 : c5.r M1.length = D := by rw [lc5.r _ lt2]; exact eD
                    unfold stPut at e6
                    split at e6
                    · rename_i ks5 vs5 k5 q hk5
                      split at e6
                      · rename_i hz
                        cases e6
                        obtain ⟨ho, q1, q2, q3⟩ := s5.m _ _ q
                        obtain ⟨kvs, rfl, e1', e2'⟩ := RepO.dct_of q2
                        rw [eD5] at q1
                        obtain ⟨p1, p2⟩ := dSet_rep e1' e2' hk5 r5
                        have hl : kvs.length < sizeLine := by
                          have := dkA_len e1'
                          simp only [dKs, List.length_map] at this
                          rw [this]
                          exact szOk_lt hz
                        refine ⟨kvs, k5, keyA_rep r45 hk5, q1, hl, c5, _, l2.trans lc5, ?_, h2⟩
                        have := s5.put q (ho := .dK (putK kvs k5 x5)) (RepO.dct_mk p1 p2)
                        rw [eD5] at this
                        exact this
                      · cases e6
                    · cases e6
        · exact h2.elim
      · exact h2.elim
    · have e0 : i = k.items.length := by omega
      subst e0
      rw [List.drop_length] at h2
      unfold dcL at h2
      split at h2
      · rename_i st
        refine .inl ⟨jk.stop c2 M2 H2 lc1 s2 st, ?_⟩
        simp only [noX, Res.bind] at h2
        exact dcFin_ok a1.s s2 lc1 eD lt2 h2
      · exact h2.elim
def aPairs : List (Ev × Ev) → Env → Mem → Res (List (Av × Av))
  | [], _, M => .ok [] M
  | (f, g) :: r, e, M => (f e M).bind fun a M1 => (g e M1).bind fun b M2 => (aPairs r e M2).bind fun ps M3 => .ok ((a, b) :: ps) M3
def dMrg : List (Av × Av) → List Av → List Av → Option (List Av × List Av)
  | [], ks, vs => some (ks, vs)
  | (a, v) :: r, ks, vs => (match keyA a with
    | some k => dMrg r (dSet ks vs a k v).1 (dSet ks vs a k v).2
    | none => none)
def eDisp (m : Bool) (prs : List (Ev × Ev)) : Ev := fun e M => (aPairs prs e (M ++ [some (.dct [] [])])).bind fun ps M1 => match M1[M.length]? with
  | some (some (.dct [] [])) => if Nat.ble ps.length 15 then (match dMrg ps [] [] with
    | some (ks, vs) => dcFin m M (M1.set M.length (some (.dct ks vs)))
    | none => .bad) else .bad
  | _ => .bad
inductive RPs (Z : Sc) (c : Rc) : List (V × V) → List (Av × Av) → Prop where
  | nil : RPs Z c [] []
  | cons {x y : V} {a b : Av} {ps : List (V × V)} {qs : List (Av × Av)} : Rep Z c x a → Rep Z c y b → RPs Z c ps qs → RPs Z c ((x, y) :: ps) ((a, b) :: qs)
theorem RPs.mono {c d : Rc} (e : Le c d) : ∀ {ps : List (V × V)} {qs : List (Av × Av)}, RPs Z c ps qs → RPs Z d ps qs
  | _, _, .nil => .nil
  | _, _, .cons h1 h2 r => .cons (h1.mono e) (h2.mono e) (RPs.mono e r)
theorem RPs.length {c : Rc} : ∀ {ps : List (V × V)} {qs : List (Av × Av)}, RPs Z c ps qs → ps.length = qs.length
  | _, _, .nil => rfl
  | _, _, .cons _ _ r => by simp [RPs.length r]
theorem dMrg_rep {c : Rc} : ∀ {ps : List (V × V)} {qs : List (Av × Av)} {ks vs ks' vs' : List Av} {kvs : List (Key × V)}, RPs Z c ps qs → dkA ks = some (dKs kvs) → Reps Z c (dVs kvs) vs → dMrg qs ks vs = some (ks', vs') →
    ∃ more : List (Key × V), ps = more.map (fun kv => (kV kv.1, kv.2)) ∧ dkA ks' = some (dKs (mergeK kvs more)) ∧ Reps Z c (dVs (mergeK kvs more)) vs'
  | _, _, ks, vs, ks', vs', kvs, .nil, h1, h2, h => by
    cases h
    exact ⟨[], rfl, h1, h2⟩
  | _, _, ks, vs, ks', vs', kvs, .cons (x := x) (y := y) r1 r2 r, h1, h2, h => by
    simp only [dMrg] at h
    split at h
    · rename_i k hk
      obtain ⟨p1, p2⟩ := dSet_rep h1 h2 hk r2
      obtain ⟨more, e1, e2, e3⟩ := dMrg_rep r p1 p2 h
      refine ⟨(k, y) :: more, ?_, e2, e3⟩
      rw [List.map_cons, ← e1, keyA_rep r1 hk]
    · cases h
inductive SPs (Z : Sc) (W : WX) (X : Cx) : List (Option Expr) → List Expr → List (Ev × Ev) → Prop where
  | nil : SPs Z W X [] [] []
  | cons {k v : Expr} {ks : List (Option Expr)} {vs : List Expr} {f g : Ev} {r : List (Ev × Ev)} : SE Z W X k f → SE Z W X v g → SPs Z W X ks vs r → SPs Z W X (some k :: ks) (v :: vs) ((f, g) :: r)
def trOf (Z : Sc) (W : WX) (prs : List (Ev × Ev)) : List (TE × TE) := prs.map fun p => (T Z W (Rep Z) p.1, T Z W (Rep Z) p.2)
theorem SPs.pps {pos : Pos} : ∀ {ks : List (Option Expr)} {vs : List Expr} {prs : List (Ev × Ev)}, SPs Z W X ks vs prs → PPs X pos ks vs (trOf Z W prs)
  | _, _, _, .nil => pps_nil
  | _, _, _, .cons h1 h2 r => pps_cons h1 h2 (SPs.pps r)
theorem SPs.all : ∀ {ks : List (Option Expr)} {vs : List Expr} {prs : List (Ev × Ev)}, SPs Z W X ks vs prs → ks.all (·.isSome) = true ∧ ks.length = vs.length ∧ ks.length = prs.length
  | _, _, _, .nil => ⟨rfl, rfl, rfl⟩
  | _, _, _, .cons _ _ r => by
    obtain ⟨h1, h2, h3⟩ := SPs.all r
    exact ⟨by simp [h1], by simp [h2], by simp [h3]⟩
def OkP (Z : Sc) (W : WX) (σ : St) (c : Rc) (e : Env) (QQ : List (V × V) → Hp → Prop) : Res (List (Av × Av)) → Prop
  | .ok qs M' => ∀ c' ps H', Le c c' → At Z c' e M' σ H' → RPs Z c' ps qs → QQ ps H'
  | .exc k fs M' => ∀ c' H' d, Le c c' → Sim Z c' M' H' → XRep Z c' H' d fs → W (.ref (Z.xc k)) d σ H'
  | .bad => False
theorem pairs_run {σ : St} : ∀ (prs : List (Ev × Ev)) (c : Rc) (e : Env) (M : Mem) (H : Hp) (QQ : List (V × V) → Hp → Prop), At Z c e M σ H → OkP Z W σ c e QQ (aPairs prs e M) → tPairs (trOf Z W prs) σ H QQ
  | [], c, e, M, H, QQ, a, h => h c [] H (Le.refl c) a .nil
  | (f, g) :: prs, c, e, M, H, QQ, a, h => by
    simp only [aPairs] at h
    refine ⟨c, e, M, a, ?_⟩
    show Okk Z W σ c (Rep Z) _ (f e M)
    cases hf : f e M with
    | bad => rw [hf] at h; exact h
    | exc k fs M1 => rw [hf] at h; exact h
    | ok x M1 =>
      rw [hf] at h
      simp only [Res.bind] at h
      intro c1 v1 H1 l1 s1 r1
      refine ⟨c1, e, M1, a.mono l1 s1, ?_⟩
      show Okk Z W σ c1 (Rep Z) _ (g e M1)
      cases hg : g e M1 with
      | bad => rw [hg] at h; exact h
      | exc k fs M2 => rw [hg] at h; exact fun c' H' d l' => h c' H' d (l1.trans l')
      | ok y M2 =>
        rw [hg] at h
        simp only at h
        intro c2 v2 H2 l2 s2 r2
        refine pairs_run prs c2 e M2 H2 _ ((a.mono l1 s1).mono l2 s2) ?_
        cases hp : aPairs prs e M2 with
        | bad => rw [hp] at h; exact h
        | exc k fs M3 => rw [hp] at h; exact fun c' H' d l' => h c' H' d ((l1.trans l2).trans l')
        | ok qs M3 =>
          rw [hp] at h
          exact fun c' ps H' l' a' r' => h c' _ H' ((l1.trans l2).trans l') a' (.cons (r1.mono (l2.trans l')) (r2.mono l') r')
theorem se_disp {m : Bool} {ks : List (Option Expr)} {vs : List Expr} {prs : List (Ev × Ev)} {pos : Pos} (h : SPs Z W X ks vs prs) (h0 : ks ≠ []) (h15 : ks.length ≤ 15) : SE Z W X (.Dict ks vs pos) (eDisp m prs) := by
  obtain ⟨a1, a2, a3⟩ := h.all
  refine (pe_disp (h.pps (pos := pos)) a1 a2 h0 h15).imp fun σ H Q ⟨c, e, M, a, q⟩ p hp => ?_
  have sD : Sim Z (c.own p) (M ++ [some (.dct [] [])]) (upd H p (.dK [])) := a.s.own hp (RepO.dct_mk (kvs := []) rfl .nil)
  have aD : At Z (c.own p) e (M ++ [some (.dct [] [])]) σ (upd H p (.dK [])) := ⟨sD, a.e.mono Le.own⟩
  refine pairs_run prs (c.own p) e _ _ _ aD ?_
  unfold eDisp at q
  cases hpr : aPairs prs e (M ++ [some (.dct [] [])]) with
  | bad => rw [hpr] at q; exact q
  | exc k fs M' => rw [hpr] at q; exact fun c' H' d l' => q c' H' d (Le.own.trans l')
  | ok qs M' =>
    rw [hpr] at q
    simp only [Res.bind] at q
    intro c' ps H' l a' r
    have lc : Le c c' := Le.own.trans l
    have eD : c'.r M.length = p := by rw [← a.s.l, l.r c.L (Nat.lt_succ_self _), own_at]
    have lt : M.length < c'.L := by have := l.l; rw [show (c.own p).L = c.L + 1 from rfl] at this; rw [← a.s.l]; omega
    split at q
    · rename_i hm
      split at q
      · rename_i hz
        split at q
        · rename_i ks' vs' hmr
          obtain ⟨ho, q1, q2, q3⟩ := a'.s.m _ _ hm
          obtain ⟨kvs0, rfl, e1, e2⟩ := RepO.dct_of q2
          have k0 : kvs0 = [] := by
            have := dkA_len e1
            simpa using this
          subst k0
          rw [eD] at q1
          obtain ⟨more, f1, f2, f3⟩ := dMrg_rep (kvs := []) r rfl .nil hmr
          refine ⟨q1, more, f1, ?_, ?_⟩
          · have l1 := r.length
            have l2 := congrArg List.length f1
            rw [List.length_map] at l2
            have := Nat.le_of_ble_eq_true hz
            omega
          · have s2 := a'.s.put hm (ho := .dK (mergeK [] more)) (RepO.dct_mk f2 f3)
            rw [eD] at s2
            exact dcFin_ok a.s s2 lc eD lt q
        · exact q.elim
      · exact q.elim
    · exact q.elim
end
end Pd
set_option maxHeartbeats 2000000
namespace Pd
open PySem PySem.Spec L2
section
variable {Z : Sc} {W : WX} {X : Cx}
def opRepr (as : List Av) (M : Mem) : Res Av := match as with
  | [.int i] => if decide (i.natAbs.log2 < 1920) then .ok (.str (toString i)) M else .bad
  | [.str x] => if szOk (reprText x).length then .ok (.str (reprText x)) M else .bad
  | [.bl b] => .ok (.str (if b then "True" else "False")) M
  | [.non] => .ok (.str "None") M
  | _ => .bad
def rReprA : List V → Hp → VK → Prop := fun xs H Q => (∃ i : Int, xs = [.int i] ∧ i.natAbs.log2 < 1920 ∧ Q (.str (toString i)) H) ∨ (∃ x, xs = [.str x] ∧ (reprText x).length ≤ sizeLine ∧ Q (.str (reprText x)) H) ∨
  (∃ b, xs = [.bl b] ∧ Q (.str (if b then "True" else "False")) H) ∨ (xs = [.non] ∧ Q (.str "None") H)
theorem call_reprA : CallR X (.builtin "repr") rReprA := by
  intro pins s σ H xs us Q I r h
  rcases h with ⟨i, rfl, hz, q⟩ | ⟨x, rfl, hz, q⟩ | ⟨b, rfl, q⟩ | ⟨rfl, q⟩
  · obtain ⟨u, rfl, t, rfl⟩ := vals1 r
    exact PySem.P.repr_of_int hz ⟨.str _, H, I.tok _, ⟨_, rfl⟩, q⟩
  · obtain ⟨u, rfl, t, rfl⟩ := vals1 r
    exact PySem.P.repr_of_str ⟨.str _, H, I.tok _, ⟨_, rfl⟩, q⟩ hz
  · obtain ⟨u, rfl, e⟩ := vals1 r
    cases (show u = Value.bool b from e)
    exact PySem.P.repr_of_bool ⟨.str _, H, I.tok _, ⟨_, rfl⟩, q⟩
  · obtain ⟨u, rfl, e⟩ := vals1 r
    cases (show u = Value.none from e)
    exact PySem.P.repr_of_none ⟨.str _, H, I.tok _, ⟨_, rfl⟩, q⟩
theorem cs_repr : CallS Z W rReprA opRepr := by
  intro σ c M H xs as Q s r h
  unfold opRepr at h
  split at h
  · cases r with | cons r1 r2 =>
    cases r2; cases r1
    split at h
    · rename_i hz
      exact .inl ⟨_, rfl, of_decide_eq_true hz, h.here s (.str _)⟩
    · exact h.elim
  · cases r with | cons r1 r2 =>
    cases r2; cases r1
    split at h
    · rename_i hz
      exact .inr (.inl ⟨_, rfl, szOk_le hz, h.here s (.str _)⟩)
    · exact h.elim
  · cases r with | cons r1 r2 =>
    cases r2; cases r1
    exact .inr (.inr (.inl ⟨_, rfl, h.here s (.str _)⟩))
  · cases r with | cons r1 r2 =>
    cases r2; cases r1
    exact .inr (.inr (.inr ⟨rfl, h.here s (.str _)⟩))
  · exact h.elim
end
end Pd
set_option maxHeartbeats 2000000
namespace PySem.W
open PySem PySem.Calls PyProof.Rows
theorem fillsI_no {K : Frag} {M : Model} {h : Heap} {C : Addr} {add : Bool} (X : K.In h) (hn : noIadd K C = true) : Looks M h (fillsInplaceSlot (.ref C) "add" add) false := by
  intro A Q E s k q
  unfold noIadd at hn
  split at hn
  · rename_i cd hc
    have Lm : Looks M h (mroOf (.ref C)) cd.mro := (looks_clsIn X hc).andThen (f := fun cd => pure cd.mro) .now
    have Lm' := Lm.keeps k
    obtain ⟨hh, g, d, tt, os⟩ := s
    have X' : K.In hh := X.keeps k
    unfold fillsInplaceSlot
    refine wpAny_bind (Lm'.at ?_)
    generalize cd.mro = l at hn
    induction l with
    | nil => exact wpAny_pure q
    | cons c l ih =>
      rw [List.all_cons, Bool.and_eq_true] at hn
      rw [List.anyM_cons]
      have hf : findIn K c (dunderI "add") = some none := by
        have := hn.1
        split at this
        · assumption
        · cases this
      have L1 : Looks M hh (typeLookup c (dunderI "add")) none := looks_findIn X' hf
      refine wpAny_bind (wpAny_bind (L1.at ?_))
      exact wpAny_pure (ih hn.2)
  · cases hn
theorem iadd_K {K : Frag} {h₀ : Heap} {m : Str → Option Value} {s : Shared} {x C f L : Addr} {ox : Obj} {od : Option Obj} {A : Around} {E : Value → Shared → Prop} {prog : Program} {w : World} {b : Value} {Q : Value → Shared → Prop} (F : Fr h₀ L s.heap m) (X₀ : K.In h₀) (I : InstAt s.heap x ox C od) (hb : Looks (model prog w) s.heap (typeOf b) (.ref C)) (hc : selfFirst K C = true) (hn : noIadd K C = true)
    (hs : findIn K (.ref C) (PySem.dunder "add") = some (some (.ref f))) (hf : isFn K (.ref f) = true)
    (h : wpAny (model prog w) A (call (.ref f) [.ref x, b]) (CmpBack Q) E s) : wpAny (model prog w) A (inplaceOp .Add (.ref x) b) Q E s := by
  have X := X₀.keeps F.keep
  obtain ⟨cd, hcd, hm⟩ := any_some hc
  obtain ⟨rest, hm⟩ : ∃ rest, cd.mro = .ref C :: rest := by
    cases q : cd.mro with
    | nil => rw [q] at hm; cases hm
    | cons a r => rw [q] at hm; exact ⟨r, by rw [List.head?_cons] at hm; cases (beq_iff_eq.mp hm); rfl⟩
  unfold inplaceOp
  refine wpAny_holding (wpAny_bind (I.type.here (wpAny_bind ((fillsI_no X hn).here ?_))))
  simp only [Bool.false_eq_true, if_false]
  refine wpAny_bind ?_
  unfold binaryOp1
  refine wpAny_bind (I.type.here (wpAny_bind (hb.here (wpAny_bind ((fills_K X hcd hm hs).here ?_)))))
  simp only [beq_self_eq_true, if_true]
  refine wpAny_bind (wpAny_pure ?_)
  simp only [Bool.and_false, Bool.false_eq_true, if_false, Bool.false_and]
  refine wpAny_bind (wpAny_pure ?_)
  simp only [Bool.false_eq_true, if_false]
  refine wpAny_bind (m := tryMethod (.ref x) _ b) ?_
  unfold tryMethod
  refine wpAny_bind (special_fn X I hs (beq_iff_eq.mp hf) (wpAny_mono h (fun v s' hv => ?_) fun _ _ e => e))
  cases v <;> first | exact hv.elim | exact wpAny_pure (wpAny_pure (wpAny_pure hv))
end PySem.W
namespace Pd
open PySem PySem.Spec L2 PySem.W
section
variable {Z : Sc} {W : WX} {X : Cx}
structure AiF (Z : Sc) (k : Nat) : Prop where
  sf : PySem.W.noIadd Z.K (Z.cl k) = true
def opAugO (dn : Str → Nat → Option Nat) (C : Cal) (a b : Av) (M : Mem) : Res Av := match clsA M a with
  | some k => (match dn "__iadd__" k with
    | some id => (match C id [a, b] M with
      | .ok (.ref n) M1 => .ok (.ref n) M1
      | _ => .bad)
    | none => opAddO dn C a b M)
  | none => (match a, b with
    | .int i, .int j => .ok (.int (i + j)) M
    | _, _ => .bad)
theorem augO_nox {dn : Str → Nat → Option Nat} {C : Cal} : NoExc (opAugO dn C) := by
  intro a b M k fs M'
  unfold opAugO
  split
  · split
    · repeat' split
      all_goals exact fun z => nomatch z
    · exact addO_nox a b M k fs M'
  · repeat' split
    all_goals exact fun z => nomatch z
theorem ip_augO {n : Nat} {C : Cal} {dn : Str → Nat → Option Nat} (hK : X.K = Z.K) (hr : Room n X.A) (T : DnT Z X C n dn) (hA : ∀ k id, dn "__add__" k = some id → AdF Z k) (hN : ∀ k id, dn "__add__" k = some id → AiF Z k) (hI : ∀ k id, dn "__iadd__" k = some id → AdF Z k) : PIp X .Add (rSem Z (opAugO dn C)) := by
  intro pins s σ H x y v u Q I rx ry ⟨c, M, a, b, sm, ra, rb, h⟩
  unfold opAugO at h
  split at h
  · rename_i k hk
    split at h
    · rename_i id h1
      obtain ⟨f, D, F⟩ := T.h _ k id h1
      obtain ⟨p, dx, fs, rfl, hh, hp⟩ := cls_rep0 sm ra hk
      obtain rfl : v = Value.ref p := rx
      obtain ⟨ox, od, J, _⟩ := inst_of I hp
      obtain ⟨m, hF⟩ := I.fr
      refine ksp_inplace (op := .Add) hF I.ok.mod.kin J (by rw [hK]; exact (hI k id h1).sf) (by rw [hK]; exact D.at_) (by rw [hK]; exact D.fn) ?_
      have hsp : spOf Z (C id) [.ref p, y] H (fun z H' => (∃ q, z = .ref q) ∧ Q z H') ENo := by
        refine ⟨c, M, [a, b], sm, .cons ra (.cons rb .nil), ?_⟩
        cases e : C id [a, b] M with
        | bad => rw [e] at h; exact h.elim
        | exc k fs M1 => rw [e] at h; exact h.elim
        | ok w M1 =>
          rw [e] at h
          cases w with
          | ref n' => exact fun c' x H' l s' r' => ⟨by cases r'; exact ⟨_, rfl⟩, h c' _ H' l s' r'⟩
          | _ => exact h.elim
      refine wpAny_mono (run_sub ⟨hr, rfl⟩ F I (vs := [.ref p, y]) (.cons (show RelV (.ref p) (Value.ref p) from rfl) (.cons ry .nil)) hsp) (fun w s' ⟨z, H', I', rz, ⟨q, ez⟩, qq⟩ => ?_) fun _ _ z => z
      subst ez
      obtain rfl : w = Value.ref q := rz
      exact ⟨.ref q, H', I', rfl, qq⟩
    · unfold opAddO at h
      simp only [hk] at h
      split at h
      · rename_i id j h1 h2
        split at h
        · rename_i hkj
          have hkj := Nat.eq_of_beq_eq_true hkj
          subst hkj
          obtain ⟨f, D, F⟩ := T.h _ k id h1
          obtain ⟨p, dx, fs, rfl, hh, hp⟩ := cls_rep0 sm ra hk
          obtain ⟨p2, dx2, fs2, rfl, _, hp2⟩ := cls_rep0 sm rb h2
          obtain rfl : v = Value.ref p := rx
          obtain rfl : u = Value.ref p2 := ry
          obtain ⟨ox, od, J, _⟩ := inst_of I hp
          obtain ⟨ox2, od2, J2, _⟩ := inst_of I hp2
          obtain ⟨m, hF⟩ := I.fr
          refine PySem.W.iadd_K hF I.ok.mod.kin J J2.type (by rw [hK]; exact (hA k id h1).sf) (by rw [hK]; exact (hN k id h1).sf) (by rw [hK]; exact D.at_) (by rw [hK]; exact D.fn) ?_
          have hsp : spOf Z (C id) [.ref p, .ref p2] H (fun z H' => (∃ q, z = .ref q) ∧ Q z H') ENo := by
            refine ⟨c, M, [a, b], sm, .cons ra (.cons rb .nil), ?_⟩
            cases e : C id [a, b] M with
            | bad => rw [e] at h; exact h.elim
            | exc k fs M1 => rw [e] at h; exact h.elim
            | ok w M1 =>
              rw [e] at h
              cases w with
              | obj c' ns xs => exact fun c' x H' l s' r' => ⟨by cases r'; exact ⟨_, rfl⟩, h c' _ H' l s' r'⟩
              | _ => exact h.elim
          refine wpAny_mono (run_sub ⟨hr, rfl⟩ F I (vs := [.ref p, .ref p2]) (.cons (show RelV (.ref p) (Value.ref p) from rfl) (.cons (show RelV (.ref p2) (Value.ref p2) from rfl) .nil)) hsp) (fun w s' ⟨z, H', I', rz, ⟨q, ez⟩, qq⟩ => ?_) fun _ _ z => z
          subst ez
          obtain rfl : w = Value.ref q := rz
          exact ⟨.ref q, H', I', rfl, qq⟩
        · exact h.elim
      · exact h.elim
  · split at h
    · cases ra
      cases rb
      exact ip_add pins s σ H _ _ v u Q I rx ry ⟨_, _, rfl, rfl, by have := h c _ H (Le.refl c) sm (.int _); exact this⟩
    · exact h.elim
def sAugO (i : Nat) (op : Av → Av → Mem → Res Av) (f : Ev) : Es := fun e M => match e[i]? with
  | some (some x) => (f e M).thn e fun y M1 => (op x y M1).thn e fun z M2 => .nx (e.set i (some z)) M2
  | _ => .bad
theorem ss_augO {i : Nat} {x : Str} {ex : Expr} {f : Ev} {op : Av → Av → Mem → Res Av} {pos pos' : Pos} (hp : PIp X .Add (rSem Z op)) (hx' : NoExc op) (hN : X.N.Nodup) (hi : X.N[i]? = some x) (hx : Loc X.env.scope x) (he : SE Z W X ex f) (hf : X.fn x = true ∨ X.env.scope.names.lookup x = some .local) : SS Z W X (.AugAssign (.Name x pos') .Add ex pos) (sAugO i op f) := by
  refine (ps_aug hN hi hx he hp hf).imp fun D σ H ⟨c, e, M, at_, h⟩ => ?_
  unfold sAugO at h
  cases q : e[i]? with
  | none => rw [q] at h; exact h.elim
  | some o =>
    cases o with
    | none => rw [q] at h; exact h.elim
    | some v =>
      rw [q] at h
      obtain ⟨u, h1, h2⟩ := at_.e.at_ i v q
      refine ⟨u, h1, stepS (R1 := Rep Z) at_ h fun c1 y w M1 H1 l1 a1 r1 h3 => ?_⟩
      refine ⟨c1, M1, v, w, a1.s, h2.mono l1, r1, ?_⟩
      cases q2 : op v w M1 with
      | bad => rw [q2] at h3; exact h3.elim
      | exc k fs M2 => exact absurd q2 (hx' _ _ _ _ _ _)
      | ok z M2 =>
        rw [q2] at h3
        intro c2 z' H2 l2 s2 r2
        exact h3 c2 _ H2 l2 ((a1.mono l2 s2).set r2 i)
def gUL (is : List Nat) : Eg := fun a e M => match a with
  | .lst xs => gNms is xs e
  | _ => none
theorem gs_unl {is : List Nat} : GS Z is (gUnl Z.K is.length (gsN is)) (gUL is) := fun c e e1 M σ H x a Q at_ r h q => by
  cases r with
  | lst h1 r1 =>
    obtain ⟨z1, z2⟩ := gs_names is _ c e e1 M σ H _ Q at_ r1 h q
    exact ⟨_, _, rfl, SqL.of (at_.s.g _ _ h1), z2, z1⟩
  | _ => cases h
end
end Pd
set_option maxHeartbeats 2000000
namespace Pd
open PySem PySem.Spec L2 PySem.W PySem.SeqAt
open AutoSeq1 (wpAny_loadPart')
open MeetsSeq MeetsSeq2 MeetsSeq3 SeqRoads2
section
variable {prog : Program} {w : World} {A : Around} {E : Value → Shared → Prop} {s : Shared} {K : Frag} {x C : Addr} {ox : Obj} {od : Option Obj}
theorem dec_str {a : Str} {t : Tok} (I : InstAt s.heap x ox C od) (hp : ox.data = .plain) : wpAny (model prog w) A (call (.builtin "str.__eq__") [.str a t, .ref x]) (fun v s' => v = .notImplemented ∧ s' = s) E s := by
  refine GQ.call_here F.slot_str_eq (typeIs_str s a t) F.entry_str_eq (F.args_str_eq_2 _ _) ?_
  obtain ⟨hh, g, d, tk, os⟩ := s
  obtain ⟨oc, odd, odt, osl⟩ := ox
  simp only at hp
  subst hp
  have hl := I.at_
  unfold Builtin.«str.__eq__»
  wp_walk using wpAny_loadPart' hl
  exact ⟨rfl, rfl⟩
theorem dec_tup {l : Addr} {items : Array Value} (X : K.In s.heap) (I : InstAt s.heap x ox C od) (hs : subIn K (.ref C) (.type "tuple") = some false) (hl : s.heap.IsTuple l items) : wpAny (model prog w) A (call (.builtin "tuple.__eq__") [.ref l, .ref x]) (fun v s' => v = .notImplemented ∧ s' = s) E s := by
  obtain ⟨⟨cls, dd, data, sl⟩, ho, hc, n, hd⟩ := id hl
  simp only at hc hd
  subst hc hd
  refine GQ.call_here F.slot_tuple_eq ⟨_, ho, rfl⟩ F.entry_tuple_eq (F.args_tuple_eq_2 _ _) ?_
  have L : Looks (model prog w) s.heap (isInstance (.ref x) (.type "tuple")) false := I.type.andThen (looks_subIn X hs)
  obtain ⟨hh, g, d, tk, os⟩ := s
  unfold Builtin.«tuple.__eq__»
  wp_walk using L.at
  exact ⟨rfl, rfl⟩
theorem dec_lst {l : Addr} {items : Array Value} (X : K.In s.heap) (I : InstAt s.heap x ox C od) (hs : subIn K (.ref C) (.type "list") = some false) (hl : s.heap.IsList l items) : wpAny (model prog w) A (call (.builtin "list.__eq__") [.ref l, .ref x]) (fun v s' => v = .notImplemented ∧ s' = s) E s := by
  obtain ⟨⟨cls, dd, data, sl⟩, ho, hc, n, hd⟩ := id hl
  simp only at hc hd
  subst hc hd
  refine GQ.call_here F.slot_list_eq ⟨_, ho, rfl⟩ F.entry_list_eq (F.args_list_eq_2 _ _) ?_
  have L : Looks (model prog w) s.heap (isInstance (.ref x) (.type "list")) false := I.type.andThen (looks_subIn X hs)
  obtain ⟨hh, g, d, tk, os⟩ := s
  unfold Builtin.«list.__eq__»
  wp_walk using L.at
  exact ⟨rfl, rfl⟩
theorem dec_non : wpAny (model prog w) A (call (.builtin "NoneType.__eq__") [.none, .ref x]) (fun v s' => v = .notImplemented ∧ s' = s) E s :=
  call_gives F.slot_NoneType_eq_refl rfl F.entry_NoneType_eq (F.args_NoneType_eq_2 _ _) (NoneType___eq___none_ref_0 x) ⟨rfl, rfl⟩
structure Decl (prog : Program) (w : World) (A : Around) (E : Value → Shared → Prop) (s : Shared) (a : Value) (x : Addr) (T : String) : Prop where
  ty : s.TypeIs a T
  one : oneThing? .Eq a (.ref x) = none
  ne : (a == Value.ref x) = false
  dec : wpAny (model prog w) A (tryCompare a "__eq__" (.ref x)) (fun r s' => r = none ∧ s' = s) E s
theorem rc_refl {a : Value} {T : String} {f : Addr} {Q : Value → Shared → Prop} (hu : A.units < cLine) (D : Decl prog w A E s a x T) (X : K.In s.heap) (I : InstAt s.heap x ox C od) (hsub : subIn K (.ref C) (.type T) = some false) (hs : findIn K (.ref C) "__eq__" = some (some (.ref f))) (hf : isFn K (.ref f) = true)
    (h : wpAny (model prog w) A (call (.ref f) [.ref x, a]) (CmpBack Q) E s) : wpAny (model prog w) A (richCompare .Eq a (.ref x)) Q E s := by
  have two : wpAny (model prog w) A (tryCompare (.ref x) "__eq__" a) (fun r s' => ∃ v, r = some v ∧ Q v s') E s := by
    unfold tryCompare
    refine wpAny_bind (ifBound_K X I hs hf (wpAny_mono h (fun v s' hv => ?_) fun _ _ e => e))
    cases v <;> first | exact hv.elim | exact wpAny_pure ⟨_, rfl, hv⟩
  simp only [richCompare, cmpInfo_Eq, D.one]
  refine wpAny_holding (wpAny_bind (wpAny_cRoomFor hu ?_))
  refine wpAny_bind (wpAny_typeOf D.ty (wpAny_bind (I.type.here ?_)))
  split
  · refine wpAny_bind ((looks_subIn X hsub).here ?_)
    simp only [Bool.false_eq_true, if_false, Bool.not_false, if_true]
    refine wpAny_bind (m := tryCompare a _ (.ref x)) (wpAny_mono D.dec (fun r s1 z => ?_) fun _ _ e => e)
    obtain ⟨z1, z2⟩ := z
    subst z1
    subst z2
    refine wpAny_bind (m := tryCompare (.ref x) _ a) (wpAny_mono two (fun r s2 z => ?_) fun _ _ e => e)
    obtain ⟨v, rfl, hq⟩ := z
    exact wpAny_pure hq
  · rename_i q
    exact absurd (by simp) q
theorem eqBool_refl {a : Value} {T : String} {Q : Bool → Shared → Prop} (D : Decl prog w A E s a x T) (h : wpAny (model prog w) A (richCompare .Eq a (.ref x)) (fun v s' => ∃ r, v = .bool r ∧ Q r s') E s) : wpAny (model prog w) A (eqBool a (.ref x)) Q E s := by
  unfold eqBool
  refine wpAny_holding ?_
  refine wpAny_ite_split (fun hab => by rw [D.ne] at hab; exact absurd hab Bool.false_ne_true) (fun _ => ?_)
  have fin : wpAny (model prog w) A (do truthOfDropped (← richCompare .Eq a (.ref x))) Q E s := by
    refine wpAny_bind (wpAny_mono h (fun v s' hv => ?_) fun _ _ x => x)
    obtain ⟨r, rfl, q⟩ := hv
    exact wpAny_truthy_bool q
  cases a <;> exact fin
theorem in_tupG {neg : Bool} {l : Addr} {items : Array Value} {xv : Value} {Q : Value → Shared → Prop} (hl : s.heap.IsTuple l items) (J : List Value → Shared → Prop)
    (turn : ∀ y rest s', J (y :: rest) s' → wpAny (model prog w) A.in1 (eqBool y xv) (fun r s2 => (r = true ∧ Q (.bool (xor neg true)) s2) ∨ (r = false ∧ J rest s2)) E s') (fin : ∀ s', J [] s' → Q (.bool (xor neg false)) s') (h : J items.toList s) :
    wpAny (model prog w) A (compareOp (if neg then .NotIn else .In) xv (.ref l)) Q E s := by
  have hT : s.TypeIs (.ref l) "tuple" := hl.typeIs
  have core : wpAny (model prog w) A (call (.builtin "tuple.__contains__") [.ref l, xv]) (fun v s' => ∃ b, v = .bool b ∧ Q (.bool (xor neg b)) s') E s := by
    obtain ⟨⟨cls, dd, data, sl⟩, ho, hc, n, hd⟩ := id hl
    simp only at hc hd
    subst hc hd
    refine GQ.call_here F.slot_tuple_contains hT F.entry_tuple_contains (F.args_tuple_contains_2 _ _) ?_
    obtain ⟨hp, g, d, tk, os⟩ := s
    wp_walk using wpAny_loadPart' ho, wpAny_forIn_array _ (fun rest b s' => b.1 = none ∧ J rest s') _
    case turn =>
      rintro y rest b s' ⟨hb, hJ⟩
      refine wpAny_bind (wpAny_mono (turn y rest s' hJ) (fun r s2 hr => ?_) fun _ _ z => z)
      rcases hr with ⟨rfl, hq⟩ | ⟨rfl, hq⟩
      · obtain ⟨hp', g', d', tk', os'⟩ := s2
        wp_walk
        exact ⟨true, rfl, hq⟩
      · obtain ⟨hp', g', d', tk', os'⟩ := s2
        wp_walk
        exact ⟨rfl, hq⟩
    case fin =>
      rintro ⟨b1, b2⟩ s' ⟨hb, hJ⟩
      simp only at hb
      subst hb
      obtain ⟨hp', g', d', tk', os'⟩ := s'
      wp_walk
      exact ⟨false, rfl, fin _ hJ⟩
    case h => exact ⟨rfl, h⟩
  cases neg with
  | false =>
    show wpAny _ A (do return .bool (← contains (.ref l) xv)) Q E s
    refine wpAny_bind (wpAny_contains_slot hT F.slot_tuple_contains (wpAny_mono core (fun v s' hv => ?_) fun _ _ e => e))
    obtain ⟨b, rfl, hq⟩ := hv
    exact wpAny_truthy_bool (wpAny_pure (by simpa using hq))
  | true =>
    show wpAny _ A (do return .bool (!(← contains (.ref l) xv))) Q E s
    refine wpAny_bind (wpAny_contains_slot hT F.slot_tuple_contains (wpAny_mono core (fun v s' hv => ?_) fun _ _ e => e))
    obtain ⟨b, rfl, hq⟩ := hv
    exact wpAny_truthy_bool (wpAny_pure (by simpa using hq))
end
section
variable {Z : Sc} {W : WX} {X : Cx}
def declA : Av → Option Bt
  | .str _ => some .str
  | .non => some .non
  | .tup _ => some .tuple
  | .lst _ => some .list
  | _ => none
structure EqR (Z : Sc) (k : Nat) : Prop where
  sb : ∀ b : Bt, PySem.W.subIn Z.K (.ref (Z.cl k)) (.type b.name) = some false
theorem decl_of {A : Around} {pins : List (Addr × Obj)} {σ : St} {H : Hp} {s : Shared} {c : Rc} {M : Mem} {yv : V} {y : Av} {u : Value} {x C : Addr} {ox : Obj} {od : Option Obj} {t : Bt} (hK : X.K = Z.K) (I : Inv X pins σ H s) (sm : Sim Z c M H) (r : Rep Z c yv y) (ry : RelV yv u) (hd : declA y = some t) (J : InstAt s.heap x ox C od) (hp : ox.data = .plain) (hs : ∀ b : Bt, subIn X.K (.ref C) (.type b.name) = some false) : Decl X.prog X.w A X.xe s u x t.name := by
  have hx : ∀ (l : Addr) (o : Obj), s.heap.get? l = some o → (∃ n : String, o.cls = .type n) → (Value.ref l == Value.ref x) = false := by
    intro l o ho ⟨n, hn⟩
    refine Bool.eq_false_iff.mpr fun e => ?_
    have e := beq_iff_eq.mp e
    cases e
    have h1 := J.at_
    rw [ho] at h1
    cases h1
    have h2 := J.cls
    rw [hn] at h2
    cases h2
  cases r with
  | str z =>
    cases hd
    obtain ⟨tk, rfl⟩ := ry
    exact ⟨rfl, rfl, rfl, wpAny_tryCompare_declines (typeIs_str s z tk) F.slot_str_eq (dec_str J hp |> fun h => wpAny_mono h (fun v s' q => ⟨q.1, rfl, q.2⟩) fun _ _ z => z)⟩
  | non =>
    cases hd
    obtain rfl : u = Value.none := ry
    exact ⟨rfl, rfl, rfl, wpAny_tryCompare_declines (show s.TypeIs .none "NoneType" from rfl) F.slot_NoneType_eq_refl (dec_non |> fun h => wpAny_mono h (fun v s' q => ⟨q.1, rfl, q.2⟩) fun _ _ z => z)⟩
  | @tup l vs xs h1 r1 =>
    cases hd
    obtain rfl : u = Value.ref l := ry
    have q := same_t sm.g h1
    rw [← hK] at q
    obtain ⟨its, rv, pl, _⟩ := I.tuple q
    have hT : s.heap.IsTuple l its.toArray := pl
    obtain ⟨o, ho, hc, hrest⟩ := id hT
    exact ⟨hT.typeIs, rfl, hx l o ho ⟨_, hc⟩, wpAny_tryCompare_declines hT.typeIs F.slot_tuple_eq (dec_tup I.kIn J (hs .tuple) hT |> fun h => wpAny_mono h (fun v s' q => ⟨q.1, rfl, q.2⟩) fun _ _ z => z)⟩
  | @lst l vs xs h1 r1 =>
    cases hd
    obtain rfl : u = Value.ref l := ry
    have q : SqL X.K H l vs := SqL.of (sm.g _ _ h1)
    obtain ⟨its, rv, pl, _⟩ := I.list q
    have hT : s.heap.IsList l its.toArray := pl.isList
    obtain ⟨o, ho, hc, hrest⟩ := id hT
    exact ⟨hT.typeIs, rfl, hx l o ho ⟨_, hc⟩, wpAny_tryCompare_declines hT.typeIs F.slot_list_eq (dec_lst I.kIn J (hs .list) hT |> fun h => wpAny_mono h (fun v s' q => ⟨q.1, rfl, q.2⟩) fun _ _ z => z)⟩
  | _ => cases hd
def inTL (C : Cal) (id : Nat) (neg : Bool) (a : Av) : List Av → Mem → Res Av
  | [], M => .ok (.bl (xor neg false)) M
  | y :: ys, M => (match declA y with
    | some _ => (match boolR (C id [a, y] M) with
      | .ok (.bl true) M1 => .ok (.bl (xor neg true)) M1
      | .ok (.bl false) M1 => inTL C id neg a ys M1
      | _ => .bad)
    | none => .bad)
def opInR (eq : Nat → Option Nat) (C : Cal) (neg : Bool) (a b : Av) (M : Mem) : Res Av := match a, b with
  | .obj k ns xs, .tup ys => (match eq k with
    | some id => inTL C id neg (.obj k ns xs) ys M
    | none => .bad)
  | a, b => opInO eq C neg a b M
theorem inTL_nox {C : Cal} {id : Nat} {neg : Bool} {a : Av} {k : Nat} {fs : List (Str × Av)} {M' : Mem} : ∀ (ys : List Av) (M : Mem), inTL C id neg a ys M ≠ .exc k fs M'
  | [], M => by intro z; cases z
  | y :: ys, M => by
    unfold inTL
    split
    · split
      · intro z; cases z
      · exact inTL_nox ys _
      · intro z; cases z
    · intro z; cases z
theorem inR_nox {eq : Nat → Option Nat} {C : Cal} {neg : Bool} : NoExc (opInR eq C neg) := by
  intro a b M k fs M'
  unfold opInR
  split
  · split
    · exact inTL_nox _ _
    · intro z; cases z
  · exact inO_nox a b M k fs M'
theorem op_inR {n : Nat} {C : Cal} {eq : Nat → Option Nat} {neg : Bool} (hK : X.K = Z.K) (hC : ClsFacts Z) (hI : IsiF Z) (hr : Room (n + 1) X.A) (T : EqT Z X C n eq) (hE : ∀ k id, eq k = some id → EqR Z k) (base : OpR X (compareOp (if neg then .NotIn else .In)) (if neg then rNotInA X.K else rInA X.K)) : OpR X (compareOp (if neg then .NotIn else .In)) (rSem Z (opInR eq C neg)) := by
  intro pins s σ H x y v u Q I rx ry ⟨c, M, a, b, sm, ra, rb, h⟩
  unfold opInR at h
  split at h
  · rename_i k ns xs ys
    split at h
    · rename_i id hid
      obtain ⟨f, Ef, F⟩ := T.h k id hid
      have hk : ∀ M', clsA M' (.obj k ns xs) = some k := fun _ => rfl
      obtain ⟨p, dx, fs, rfl, hh, hp⟩ := cls_rep0 sm ra (hk M)
      obtain rfl : v = Value.ref p := rx
      cases rb with
      | @tup l vs _ h1 r1 =>
        obtain rfl : u = Value.ref l := ry
        have q := same_t sm.g h1
        rw [← hK] at q
        obtain ⟨its, rv, pl, _⟩ := I.tuple q
        have hT : s.heap.IsTuple l its.toArray := pl
        refine in_tupG hT (fun rest s' => ∃ H' c' M' ys' vs', Inv X pins σ H' s' ∧ Le c c' ∧ Sim Z c' M' H' ∧ Reps Z c' vs' ys' ∧ Vals vs' rest ∧ Okk Z WNo [] c' (Rep Z) Q (inTL C id neg (.obj k ns xs) ys' M')) (fun y rest s' ⟨H', c', M', ys', vs', I', lc, sm', rr, vv, h'⟩ => ?_) (fun s' ⟨H', c', M', ys', vs', I', lc, sm', rr, vv, h'⟩ => ?_) ⟨H, c, M, ys, vs, I, Le.refl c, sm, r1, by simpa using rv, h⟩
        · cases vv with
          | @cons y1 _ _ _ v1 v2 =>
            cases rr with
            | @cons _ a1 _ as r2 r3 =>
              unfold inTL at h'
              split at h'
              · rename_i t ht
                obtain ⟨p', dx', fs', e', hh', hp'⟩ := cls_rep0 sm' (ra.mono lc) (hk M')
                cases e'
                obtain ⟨ox, od, J, hpl⟩ := inst_of I' hp'
                have hs : ∀ b : Bt, subIn X.K (.ref (Z.cl k)) (.type b.name) = some false := by rw [hK]; exact (hE k id hid).sb
                have D := decl_of (A := X.A.in1) hK I' sm' r2 v1 ht J hpl hs
                refine eqBool_refl D (wpAny_mono (rc_refl (Q := fun v s2 => ∃ b5, v = .bool b5 ∧ ((b5 = true ∧ EP X pins σ Q (.bool (xor neg true)) s2) ∨ (b5 = false ∧ ∃ H' c' M' ys' vs', Inv X pins σ H' s2 ∧ Le c c' ∧ Sim Z c' M' H' ∧ Reps Z c' vs' ys' ∧ Vals vs' rest ∧ Okk Z WNo [] c' (Rep Z) Q (inTL C id neg (.obj k ns xs) ys' M')))) (by have := hr.un; show X.A.units + 1 < cLine; omega) D I'.kIn J (hs t) (by rw [hK]; exact Ef.at_) (by rw [hK]; exact Ef.fn) ?_) (fun r s2 hz => hz) fun _ _ z => z)
                have hsp : spOf Z (C id) [.ref p, y1] H' (fun z H2 => ∃ b5, z = .bl b5 ∧ ((b5 = true ∧ Q (.bl (xor neg true)) H2) ∨ (b5 = false ∧ ∃ c2 M2, Le c' c2 ∧ Sim Z c2 M2 H2 ∧ Okk Z WNo [] c2 (Rep Z) Q (inTL C id neg (.obj k ns xs) as M2)))) ENo := by
                  refine ⟨c', M', [.obj k ns xs, a1], sm', .cons (ra.mono lc) (.cons r2 .nil), ?_⟩
                  cases e5 : C id [.obj k ns xs, a1] M' with
                  | bad => rw [e5] at h'; exact h'.elim
                  | exc k fs M1 => rw [e5] at h'; exact h'.elim
                  | ok v5 M1 =>
                    rw [e5] at h'
                    cases v5 with
                    | bl b5 =>
                      intro c2 x2 H2 l2 s2 r2
                      cases r2
                      refine ⟨b5, rfl, ?_⟩
                      cases b5 with
                      | true => exact .inl ⟨rfl, h' c2 _ H2 l2 s2 (.bl _)⟩
                      | false => exact .inr ⟨rfl, c2, M1, l2, s2, Okk.mono l2 h'⟩
                    | _ => exact h'.elim
                refine wpAny_mono (run_sub ⟨hr.in1, rfl⟩ F I' (vs := [.ref p, y1]) (.cons (show RelV (.ref p) (Value.ref p) from rfl) (.cons v1 .nil)) hsp) (fun w s2 ⟨z, H2, I2, rz, b5, ez, hz⟩ => ?_) fun _ _ z => z
                subst ez
                obtain rfl : w = Value.bool b5 := rz
                refine ⟨b5, rfl, ?_⟩
                rcases hz with ⟨e6, q6⟩ | ⟨e6, c2, M2, l2, s2', q6⟩
                · exact .inl ⟨e6, .bl _, H2, I2, rfl, q6⟩
                · exact .inr ⟨e6, H2, c2, M2, as, _, I2, lc.trans l2, s2', r3.mono l2, v2, q6⟩
              · exact h'.elim
        · cases vv
          cases rr
          exact ⟨.bl _, H', I', rfl, h' c' _ H' (Le.refl _) sm' (.bl _)⟩
    · exact h.elim
  · exact op_inO hK hC hI hr T base pins s σ H x y v u Q I rx ry ⟨c, M, _, _, sm, ra, rb, h⟩
end
end Pd
set_option maxHeartbeats 2000000
namespace Pd
open PySem PySem.Spec L2
section
variable {Z : Sc} {W : WX} {X : Cx}
def rReprN (K : PySem.W.Frag) : List V → Hp → VK → Prop := fun xs H Q => ∃ a d, xs = [.ref a] ∧ Dp K H (.ref a) d ∧ d.showable = true ∧ d.hasDict = false ∧ d.depth ≤ 60 ∧ d.shown.length ≤ sizeLine ∧ Q (.str d.shown) H
theorem call_reprN (hg : X.A.guards = some []) (hu : X.A.units + 65 < cLine) : CallR X (.builtin "repr") (rReprN X.K) := by
  intro pins s σ H xs us Q I r ⟨a, d, e, dp, hs, hd, hde, hz, q⟩
  subst e
  obtain ⟨u, rfl, rx⟩ := vals1 r
  obtain rfl : u = Value.ref a := rx
  obtain ⟨as, rd⟩ := Dp.reads I d (.ref a) (.ref a) dp (show RelV (.ref a) (Value.ref a) from rfl)
  exact repr_of_reads' rd hs (fun e => by rw [hd] at e; cases e) hg (by omega) (fun b o e => e) (fun h' u tk hk => ⟨.str d.shown, H, I.kept hk, ⟨_, rfl⟩, q⟩) hz
def opReprN (as : List Av) (M : Mem) : Res Av := match opRepr as M with
  | .ok v M1 => .ok v M1
  | _ => (match as with
    | [.lst xs] => (match pd M (.lst xs) with
      | some d => if d.showable && !d.hasDict && Nat.ble d.depth 60 && szOk d.shown.length then .ok (.str d.shown) M else .bad
      | none => .bad)
    | [.tup xs] => (match pd M (.tup xs) with
      | some d => if d.showable && !d.hasDict && Nat.ble d.depth 60 && szOk d.shown.length then .ok (.str d.shown) M else .bad
      | none => .bad)
    | _ => .bad)
theorem cs_reprN : CallS Z W (fun xs H Q => rReprA xs H Q ∨ rReprN Z.K xs H Q) opReprN := by
  intro σ c M H xs as Q s r h
  unfold opReprN at h
  split at h
  · rename_i v M1 e
    exact .inl (cs_repr σ c M H xs as Q s r (by rw [e]; exact h))
  · split at h
    · rename_i ys
      cases r with | cons r1 r2 =>
      cases r2
      split at h
      · rename_i d hd
        split at h
        · rename_i hz
          simp only [Bool.and_eq_true, Bool.not_eq_true'] at hz
          obtain ⟨⟨⟨z1, z2⟩, z3⟩, z4⟩ := hz
          have dp := pd_rep s r1 hd
          cases r1
          exact .inr ⟨_, d, rfl, dp, z1, z2, Nat.le_of_ble_eq_true z3, szOk_le z4, h.here s (.str _)⟩
        · exact h.elim
      · exact h.elim
    · rename_i ys
      cases r with | cons r1 r2 =>
      cases r2
      split at h
      · rename_i d hd
        split at h
        · rename_i hz
          simp only [Bool.and_eq_true, Bool.not_eq_true'] at hz
          obtain ⟨⟨⟨z1, z2⟩, z3⟩, z4⟩ := hz
          have dp := pd_rep s r1 hd
          cases r1
          exact .inr ⟨_, d, rfl, dp, z1, z2, Nat.le_of_ble_eq_true z3, szOk_le z4, h.here s (.str _)⟩
        · exact h.elim
      · exact h.elim
    · exact h.elim
theorem call_reprB (hK : X.K = Z.K) (hg : X.A.guards = some []) (hu : X.A.units + 65 < cLine) : CallR X (.builtin "repr") (fun xs H Q => rReprA xs H Q ∨ rReprN Z.K xs H Q) := by
  intro pins s σ H xs us Q I r h
  rcases h with h | h
  · exact call_reprA pins s σ H xs us Q I r h
  · rw [← hK] at h
    exact call_reprN hg hu pins s σ H xs us Q I r h
end
end Pd
set_option maxHeartbeats 2000000
namespace Pd
open PySem PySem.Spec L2
section
variable {Z : Sc} {W : WX} {X : Cx}
abbrev Eu := Av → Env → Mem → Option (Env × Mem)
def GU (Z : Sc) (t : TG) (g : Eu) : Prop := ∀ (c : Rc) (e e1 : Env) (M M1 : Mem) (σ : St) (H : Hp) (x : V) (a : Av) (Q : St → Hp → Prop), At Z c e M σ H → Rep Z c x a → g a e M = some (e1, M1) → (∀ c' σ' H', Le c c' → At Z c' e1 M1 σ' H' → Q σ' H') → t x σ H Q
def GUs (Z : Sc) (t : TGs) (g : List Av → Env → Mem → Option (Env × Mem)) : Prop := ∀ (c : Rc) (e e1 : Env) (M M1 : Mem) (σ : St) (H : Hp) (xs : List V) (as : List Av) (Q : St → Hp → Prop), At Z c e M σ H → Reps Z c xs as → g as e M = some (e1, M1) → (∀ c' σ' H', Le c c' → At Z c' e1 M1 σ' H' → Q σ' H') → t xs σ H Q
def uNm (i : Nat) : Eu := fun a e M => some (e.set i (some a), M)
theorem gu_name {i : Nat} : GU Z (gName i) (uNm i) := fun c e e1 M M1 σ H x a Q at_ r h q => by
  cases h
  exact q c _ H (Le.refl c) (at_.set r i)
def gFldT (K : PySem.W.Frag) (to : TE) (n : Str) : TG := fun v σ H Q => to σ H fun x H2 => ∃ a C dx fs, x = .ref a ∧ H2 a = some (.ins C dx fs) ∧ Cls K C ∧ NoAttr K C n ∧ fs.length < 1000 ∧ Q σ (upd H2 a (.ins C dx (putF n v fs)))
theorem pg_fld {o : Expr} {to : TE} {n : Str} {pos : Pos} (ho : PE X o to) : PG X (.Attribute o n pos) (gFldT X.K to n) := by
  refine ⟨fun pins s σ H v u Q I r h => ?_⟩
  rw [assign_Attribute]
  refine wpAny_bind (wpAny_holding (thn (ho.run pins s σ H _ I h) fun ov s1 ⟨x, H1, I1, r1, a, C, dx, fs, ex, ea, c, nn, l, q1⟩ => ?_))
  subst ex
  obtain rfl : ov = Value.ref a := r1
  refine wpAny_bind (wpAny_standAt (wpAny_bind (wpAny_holding (setattr_ok I1 ea c nn l r fun s3 I3 => ?_))))
  exact wpAny_release ⟨σ, _, I3, q1⟩
def uFld (fo : Ev) (n : Str) : Eu := fun v e M => match fo e M with
  | .ok o M1 => (match stFld n v o M1 with
    | some M2 => some (e, M2)
    | none => none)
  | _ => none
theorem stFld_ok {n : Str} {c : Rc} {e : Env} {M M3 : Mem} {σ : St} {H : Hp} {y x : V} {o v : Av} {P : Hp → Prop} (hC : ClsFacts Z) (hN : NoAt Z n) (a2 : At Z c e M σ H) (r2 : Rep Z c y o) (r1 : Rep Z c x v) (e3 : stFld n v o M = some M3) (q : ∀ H', At Z c e M3 σ H' → P H') :
    ∃ a C dx fs, y = .ref a ∧ H a = some (.ins C dx fs) ∧ Cls Z.K C ∧ NoAttr Z.K C n ∧ fs.length < 1000 ∧ P (upd H a (.ins C dx (putF n x fs))) := by
  cases r2 with
  | @ref m hm =>
    cases hq : M[m]? with
    | none => simp [stFld, hq] at e3
    | some ob =>
      cases ob with
      | none => simp [stFld, hq] at e3
      | some ob =>
        cases ob with
        | lst ys => simp [stFld, hq] at e3
        | dct ks vs => simp [stFld, hq] at e3
        | ins k fs =>
          simp only [stFld, hq] at e3
          split at e3
          · rename_i hz
            cases e3
            obtain ⟨ho', q1, q2, q3⟩ := a2.s.m m _ hq
            cases ho' with
            | ins C dx gs =>
              obtain ⟨⟨e1, hk⟩, e2, e3⟩ := q2
              subst e1
              have hlen : gs.length = fs.length := by have := congrArg List.length e2; simpa using this
              refine ⟨_, _, dx, gs, rfl, q1, hC.cls k hk, hN k hk, ?_, ?_⟩
              · have := Nat.le_of_ble_eq_true hz; omega
              · obtain ⟨p1, p2⟩ := put_rep (f := n) r1 e2 e3
                exact q _ ⟨a2.s.put hq (ho := .ins (Z.cl k) dx (putF n x gs)) ⟨⟨rfl, hk⟩, p1, p2⟩, a2.e⟩
            | _ => exact q2.elim
          · cases e3
  | _ => cases e3
theorem T_ok {χ β : Type} {R : Rc → χ → β → Prop} {f : Env → Mem → Res β} {c : Rc} {e : Env} {M M1 : Mem} {σ : St} {H : Hp} {b : β} {Q : χ → Hp → Prop} (a : At Z c e M σ H) (h : f e M = .ok b M1) (q : ∀ c' x H', Le c c' → At Z c' e M1 σ H' → R c' x b → Q x H') : T Z W R f σ H Q :=
  ⟨c, e, M, a, by rw [h]; exact fun c' x H' l s r => q c' x H' l (a.mono l s) r⟩
theorem gu_fld {fo : Ev} {n : Str} (hC : ClsFacts Z) (hN : NoAt Z n) : GU Z (gFldT Z.K (T Z W (Rep Z) fo) n) (uFld fo n) := fun c e e1 M M1 σ H x a Q at_ r h q => by
  unfold uFld at h
  split at h
  · rename_i o M2 h1
    split at h
    · rename_i M3 h2
      cases h
      refine T_ok (R := Rep Z) at_ h1 fun c' y H' l a' ry => ?_
      exact stFld_ok hC hN a' ry (r.mono l) h2 fun H2 a2 => q c' σ H2 l a2
    · cases h
  · cases h
def uSub (fo fi : Ev) : Eu := fun v e M => match fo e M with
  | .ok o M1 => (match fi e M1 with
    | .ok i M2 => (match stIx v o i M2 with
      | some M3 => some (e, M3)
      | none => none)
    | _ => none)
  | _ => none
theorem stIx_ok {c3 : Rc} {e : Env} {M3 M4 : Mem} {σ : St} {H3 : Hp} {x y z : V} {v o i : Av} {P : Hp → Prop} (a3 : At Z c3 e M3 σ H3) (r2 : Rep Z c3 y o) (r3 : Rep Z c3 z i) (r1 : Rep Z c3 x v) (e4 : stIx v o i M3 = some M4) (q : ∀ H', At Z c3 e M4 σ H' → P H') : rSetA y z x H3 P := by
  cases r2 with
  | @ref m hm =>
    cases r3 with
    | int k =>
      cases hq : M3[m]? with
      | none => simp [stIx, hq] at e4
      | some ob =>
        cases ob with
        | none => simp [stIx, hq] at e4
        | some ob =>
          cases ob with
          | ins k fs => simp [stIx, hq] at e4
          | dct ks vs => simp [stIx, hq] at e4
          | lst xs =>
            simp only [stIx, hq] at e4
            split at e4
            · rename_i j ej
              cases e4
              obtain ⟨ho, q1, q2, q3⟩ := a3.s.m m _ hq
              cases ho with
              | lst vs =>
                have q2 : Reps Z c3 vs xs := q2
                refine .inl ⟨_, vs, k, j, rfl, rfl, q1, by rw [q2.length]; exact ej, ?_⟩
                exact q _ ⟨a3.s.put hq (ho := .lst (vs.set j x)) (show Reps Z c3 _ _ from q2.set r1 j), a3.e⟩
              | _ => exact q2.elim
            · cases e4
    | str k =>
      cases hq : M3[m]? with
      | none => simp [stIx, hq] at e4
      | some ob =>
        cases ob with
        | none => simp [stIx, hq] at e4
        | some ob =>
          cases ob with
          | ins k fs => simp [stIx, hq] at e4
          | lst xs => simp [stIx, hq] at e4
          | dct ks vs =>
            simp only [stIx, hq] at e4
            split at e4
            · rename_i hz
              cases e4
              obtain ⟨ho, q1, q2, q3⟩ := a3.s.m m _ hq
              obtain ⟨kvs, rfl, e1, e2⟩ := RepO.dct_of q2
              obtain ⟨p1, p2⟩ := dSet_rep (a := .str k) (k := Sum.inr k) e1 e2 rfl r1
              have hl : kvs.length < sizeLine := by
                have := dkA_len e1
                simp only [dKs, List.length_map] at this
                rw [this]
                exact szOk_lt hz
              refine .inr ⟨_, _, rfl, DPut.k (k := Sum.inr k) q1 hl, ?_⟩
              exact q _ ⟨a3.s.put hq (ho := .dK (putK kvs (Sum.inr k) x)) (RepO.dct_mk p1 p2), a3.e⟩
            · cases e4
    | _ => simp [stIx] at e4
  | _ => simp [stIx] at e4
theorem gu_sub {fo fi : Ev} : GU Z (gSub (T Z W (Rep Z) fo) (T Z W (Rep Z) fi) rSetA) (uSub fo fi) := fun c e e1 M M1 σ H x a Q at_ r h q => by
  unfold uSub at h
  split at h
  · rename_i o M2 h1
    split at h
    · rename_i i M3 h2
      split at h
      · rename_i M4 h3
        cases h
        refine T_ok (R := Rep Z) at_ h1 fun c' y H' l a' ry => ?_
        refine T_ok (R := Rep Z) a' h2 fun c2 z H2 l2 a2 rz => ?_
        exact stIx_ok a2 (ry.mono l2) rz ((r.mono l).mono l2) h3 fun H3 a3 => q c2 σ H3 (l.trans l2) a3
      · cases h
    · cases h
  · cases h
def uNil : List Av → Env → Mem → Option (Env × Mem) := fun as e M => match as with
  | [] => some (e, M)
  | _ => none
def uCons (g : Eu) (u : List Av → Env → Mem → Option (Env × Mem)) : List Av → Env → Mem → Option (Env × Mem) := fun as e M => match as with
  | a :: r => (match g a e M with
    | some (e1, M1) => u r e1 M1
    | none => none)
  | [] => none
theorem gus_nil : GUs Z gNil uNil := fun c e e1 M M1 σ H xs as Q at_ r h q => by
  cases r with
  | nil => cases h; exact ⟨rfl, q c σ H (Le.refl c) at_⟩
  | cons _ _ => cases h
theorem gus_cons {t : TG} {ts : TGs} {g : Eu} {u : List Av → Env → Mem → Option (Env × Mem)} (h1 : GU Z t g) (h2 : GUs Z ts u) : GUs Z (gCons t ts) (uCons g u) := fun c e e1 M M1 σ H xs as Q at_ r h q => by
  cases r with
  | nil => cases h
  | cons r1 r2 =>
    simp only [uCons] at h
    split at h
    · rename_i e2 M2 hg
      refine ⟨_, _, rfl, h1 c e e2 M M2 σ H _ _ _ at_ r1 hg fun c' σ' H' l a' => ?_⟩
      exact h2 c' e2 e1 M2 M1 σ' H' _ _ Q a' (r2.mono l) h fun c2 σ2 H2 l2 a2 => q c2 σ2 H2 (l.trans l2) a2
    · cases h
def uTup (u : List Av → Env → Mem → Option (Env × Mem)) : Eu := fun a e M => match a with
  | .tup xs => u xs e M
  | _ => none
theorem gu_tup {ts : TGs} {u : List Av → Env → Mem → Option (Env × Mem)} {n : Nat} (hu : GUs Z ts u) (hn : ∀ as e M e1 M1, u as e M = some (e1, M1) → as.length = n) : GU Z (gTup Z.K n ts) (uTup u) := fun c e e1 M M1 σ H x a Q at_ r h q => by
  cases r with
  | tup h1 h2 =>
    have h : u _ e M = some (e1, M1) := h
    exact ⟨_, _, rfl, same_t at_.s.g h1, by rw [h2.length]; exact hn _ _ _ _ _ h, hu c e e1 M M1 σ H _ _ Q at_ h2 h q⟩
  | _ => cases h
def sAsgU (f : Ev) (g : Eu) : Es := fun e M => (f e M).thn e fun v M1 => match g v e M1 with
  | some (e2, M2) => .nx e2 M2
  | none => .bad
theorem imp_asgU {f : Ev} {t : TG} {g : Eu} (hg : GU Z t g) : ∀ D σ H, TSa Z W (sAsgU f g) D σ H → tAsg (T Z W (Rep Z) f) t D σ H := fun D σ H ⟨c, e, M, a, h⟩ => by
  refine stepS (R1 := Rep Z) a h fun c1 x v M1 H1 l1 a1 r1 h1 => ?_
  split at h1
  · rename_i e2 M2 hq
    exact hg c1 e e2 M1 M2 σ H1 x v _ a1 r1 hq fun c' σ' H' l a' => h1 c' σ' H' l a'
  · exact h1.elim
theorem star_has {pos : Pos} {env : PySem.Env} : ∀ {es : List Expr}, noStar es = false → (backTo pos (starEach es env)).any (·.1) = true
  | [], h => by cases h
  | e :: es, h => by
    cases hs : isStar e with
    | true =>
      cases e <;> first | (cases hs; done) | skip
      rfl
    | false =>
      simp only [noStar, List.all_cons, hs, Bool.not_false, Bool.true_and] at h
      rw [star_cons hs]
      have := star_has (pos := pos) (env := env) (es := es) h
      show (false || (backTo pos (starEach es env)).any (·.1)) = true
      rw [this]; rfl
theorem se_callS {k : Nat} {f : Addr} {sem : Fn} {dfl : List Av} {g : Ea} {x : Str} {p pos : Pos} {e : Expr} {es : List Expr} (F : Callee Z X k sem dfl f) (hr : Room k X.A) (tk : Takes X W) (hg : Gl X x) (hm : X.mg x = some (.ref f)) (ha : SA Z W X (e :: es) g)
    (hdb : (x == ("__debug__" : Str)) = false) (he : starEach (e :: es) X.env = (false, eval e X.env) :: starEach es X.env) (hpl : (backTo pos (starEach es X.env)).any (·.1) = true) : SE Z W X (.Call (.Name x p) (e :: es) [] pos) (eCallB (defl sem dfl) g) := by
  obtain ⟨fd, ps, ds, dvs, F1, hb, hd, hf⟩ := F.ex
  refine ⟨fun pins s σ H Q I ⟨c, en, M, a, h⟩ => ?_⟩
  refine wpAny_Call_Name_kw (ld_glob I hg hm ?_ hdb)
  refine PySem.W.callWith_S2 (h₀ := X.base) I.ok.mod.kin F.kp (thn (ha.run pos pins s σ H (fun vs H1 => ∃ c1 M1 as, Le c c1 ∧ Sim Z c1 M1 H1 ∧ Reps Z c1 vs as ∧ Okk Z W σ c1 (Rep Z) Q (sem (as ++ dfl) M1)) I ?_) fun us s1 ⟨vs, H1, I1, r, c1, M1, as, l1, s1', rv, q⟩ => ⟨I1.kIn, ?_⟩) he hpl
  · exact step (R1 := Reps Z) a h fun c' x b M' H' l a' r h' => ⟨c', M', b, l, a'.s, r, h'⟩
  · exact run_own F1 hr hb hd hf tk I1 r s1' rv q
def eProp (k : Nat) (m : Str) (sem : Fn) (f : Ev) : Ev := fun e M => (f e M).bind fun a M1 => if clsA M1 a == some k && noFldA M1 m a then noX (sem [a] M1) else .bad
theorem se_prop {n k : Nat} {p g : Addr} {sem : Fn} {fo : Ev} {o : Expr} {m : Str} {pos : Pos} (hK : X.K = Z.K) (hC : ClsFacts Z) (hk : Z.has k) (hp : PropOf X.K (Z.cl k) m p g) (F : Callee Z X n sem [] g) (hr : Room (n + 1) X.A) (ho : SE Z W X o fo)
    (hab : attributeBase o m X.env (eval o X.env) = eval o X.env) : SE Z W X (.Attribute o m pos) (eProp k m sem fo) := by
  obtain ⟨fd, ps, ds, dvs, F1, hb, hd, hf⟩ := F.ex
  have hv : dvs = [] := List.eq_nil_of_length_eq_zero ((hf ⟨fun _ => none, fun _ => 0, 0⟩).length)
  subst hv
  refine (pe_prop (E := fun _ _ _ => False) ho (by rw [hK]; exact hC.cls k hk) hp F1 hr hb hd (fun pins σ H s e s' I h => ?_) hab).imp fun σ H Q ⟨c, e, M, a, h⟩ => ?_
  · obtain ⟨_, _, _, _, _, _, _, _, _, _, _, _, q⟩ := h
    exact q.elim
  · refine step (R1 := Rep Z) a h fun c1 x v M1 H1 l1 a1 r1 h1 => ?_
    split at h1
    · rename_i hz
      simp only [Bool.and_eq_true, beq_iff_eq] at hz
      obtain ⟨p, dx, fs, rfl, _, q1, q2⟩ := cls_rep a1.s r1 hz.1 hz.2
      refine ⟨p, dx, fs, rfl, q1, c1, M1, [v], a1.s, .cons r1 .nil, ?_⟩
      cases hq : sem [v] M1 with
      | ok u M2 => rw [hq] at h1; exact h1
      | exc _ _ _ => rw [hq] at h1; exact h1.elim
      | bad => rw [hq] at h1; exact h1.elim
    · exact h1.elim
end
end Pd
set_option maxHeartbeats 2000000
namespace Pd
open PySem PySem.Spec PyProof.Rows L2
section
variable {Z : Sc} {W : WX} {X : Cx}
def opDictC (as : List Av) (M : Mem) : Res Av := match as with
  | [a] => (match dctA M a with
    | some (ks, vs) => .ok (.ref M.length) (M ++ [some (.dct ks vs)])
    | none => .bad)
  | _ => .bad
def rDictC : List V → Hp → VK → Prop := fun xs H Q => ∃ (a : Addr) (kvs : List (Key × V)), xs = [.ref a] ∧ Rd H a (.dK kvs) ∧ ∀ p, H p = none → Q (.ref p) (upd H p (.dK kvs))
theorem call_dictC : CallR X (.type "dict") rDictC := by
  intro pins s σ H xs us Q I r h
  obtain ⟨a, kvs, rfl, e, q⟩ := h
  obtain ⟨u, rfl, e1⟩ := vals1 r
  cases (show u = Value.ref a from e1)
  exact d_copyOf I e fun p s' hp I' => ⟨.ref p, _, I', rfl, q p hp⟩
theorem cs_dictC : CallS Z W rDictC opDictC := by
  intro σ c M H xs as Q s r h
  unfold opDictC at h
  split at h
  · cases r with | cons r1 r2 =>
    cases r2
    split at h
    · rename_i ks vs hd
      obtain ⟨p, kvs, rfl, q1, q2, q3⟩ := dctA_rep s r1 hd
      exact ⟨p, kvs, rfl, .inl q1, fun l hl => Okk.own (o := .dct ks vs) (ho := .dK kvs) h s ⟨kvs, rfl, q2, q3⟩ hl⟩
    · exact h.elim
  · exact h.elim
end
end Pd
set_option maxHeartbeats 2000000
namespace Pd
open PySem PySem.Spec PySem.SeqAt L2
open AutoSeq1 (wpAny_loadPart')
section
open MeetsSeq MeetsSeq2 MeetsSeq3 SeqRoads2
variable {prog : Program} {w : World} {A : Around} {R : Result → Shared → Prop}
theorem index_loopJ (l : Addr) (x : Value) (N : Nat) (J : Nat → Shared → Prop) (upto : Int) (hN1 : (N : Int) ≤ upto)
    (hl : ∀ i s, J i s → i < N ∧ ∃ (items : Array Value) (n : Nat) (dd : Option Addr) (sl : Array (Option Value)), s.heap.get? l = some { cls := .type "list", dict := dd, data := .seq items n, slots := sl } ∧ items.size = N ∧
      ∀ h : i < items.size, wpAny (model prog w) A.in1 (eqBool items[i] x) (fun r s' => (r = true ∧ R (.ok (.ret (.int i s'.toks))) { s' with toks := s'.toks + 1 }) ∨ (r = false ∧ J (i + 1) s')) (fun e s' => R (.error e) s') s) (k : Nat) :
    ∀ i : Nat, N - i = k → ∀ s, J i s → wpAny (model prog w) A.in1 (Builtin.«list.index.loop» ⟨[.ref l, x, rawInt i, rawInt upto], []⟩) (GQ.FinOf prog w A R) (fun e s' => R (.error e) s') s := by
  induction k with
  | zero =>
    intro i hk s h
    have := (hl i s h).1
    omega
  | succ k ih =>
    intro i hk s h
    obtain ⟨hi, items, n, dd, sl, hl1, hs, he⟩ := hl i s h
    obtain ⟨hp, g, d, tk, os⟩ := s
    wp_walk using wpAny_loadPart' hl1
    have hlt : i < items.size := by omega
    have hst : (i : Int) < upto := by omega
    have hi : (if (i : Int) < upto then items[((i : Nat) : Int).toNat]? else none) = some items[i] := by simp [hst, hlt]
    rw [hi]
    refine wpAny_bind (wpAny_mono (he hlt) (fun r s' hr => ?_) fun _ _ z => z)
    rcases hr with ⟨rfl, hq⟩ | ⟨rfl, hq⟩
    · obtain ⟨hp', g', d', tk', os'⟩ := s'
      wp_walk
      exact hq
    · have hc : ((i : Int) + 1) = ((i + 1 : Nat) : Int) := by push_cast; rfl
      obtain ⟨hp', g', d', tk', os'⟩ := s'
      wp_walk
      rw [hc]
      exact ⟨plainId_quiet plain_index_loop _, codeAny_builtin entry_index_loop (by
        rw [Around.under_plainId plain_index_loop _]
        exact ih (i + 1) (by omega) _ hq)⟩
theorem index_here {E : Value → Shared → Prop} {s : Shared} {Q : Value → Shared → Prop} (l : Addr) (x : Value) (N : Nat) (J : Nat → Shared → Prop) (hN1 : N < 2 ^ 62) (hT : s.TypeIs (.ref l) "list")
    (hl : ∀ i s, J i s → i < N ∧ ∃ (items : Array Value) (n : Nat) (dd : Option Addr) (sl : Array (Option Value)), s.heap.get? l = some { cls := .type "list", dict := dd, data := .seq items n, slots := sl } ∧ items.size = N ∧
      ∀ h : i < items.size, wpAny (model prog w) A.in1 (eqBool items[i] x) (fun r s' => (r = true ∧ Q (.int i s'.toks) { s' with toks := s'.toks + 1 }) ∨ (r = false ∧ J (i + 1) s')) E s) (h : J 0 s) :
    wpAny (model prog w) A (call (.builtin "list.index") [.ref l, x]) Q E s := by
  refine GQ.call_here F.slot_list_index hT F.entry_list_index (F.args_list_index_2 _ _) ?_
  obtain ⟨h0, items, n, dd, sl, hl1, hs, he⟩ := hl 0 s h
  obtain ⟨hp, g, d, tk, os⟩ := s
  have f1 := AutoSeq1.idx_int
  wp_walk using wpAny_loadPart' hl1
  have a1 : ((fun i : Int => if i < 0 then max 0 (i + (items.size : Int)) else i) ((none : Option Int).getD 0)) = ((0 : Nat) : Int) := by simp
  have a2 : ((fun i : Int => if i < 0 then max 0 (i + (items.size : Int)) else i) ((none : Option Int).getD (2 ^ 63 - 1))) = 2 ^ 63 - 1 := by simp
  rw [a1, a2]
  exact ⟨plainId_quiet plain_index_loop _, codeAny_builtin entry_index_loop (by
    rw [Around.under_plainId plain_index_loop _]
    exact index_loopJ (R := wants Q E) l x N J (2 ^ 63 - 1) (by omega) (fun i s hj => by
      obtain ⟨q0, items, n, dd, sl, q1, q2, q3⟩ := hl i s hj
      exact ⟨q0, items, n, dd, sl, q1, q2, q3⟩) _ 0 rfl _ h)⟩
end
def idxNL (eq : Nat → Option Nat) (C : Cal) (l : Av) (all : List Av) : Nat → List Av → Mem → Res Av
  | _, [], _ => .bad
  | i, .non :: _, M => if stayA M l all then .ok (.int (i : Int)) M else .bad
  | i, x :: xs, M => if stayA M l all then (match clsA M x with
    | some k => (match eq k with
      | some id => (match boolR (C id [x, .non] M) with
        | .ok (.bl true) M1 => .ok (.int (i : Int)) M1
        | .ok (.bl false) M1 => idxNL eq C l all (i + 1) xs M1
        | _ => .bad)
      | none => .bad)
    | none => .bad) else .bad
def opIndexN (eq : Nat → Option Nat) (C : Cal) : Mop := fun a as M => match as with
  | [.non] => (match a with
    | .tup _ => .bad
    | a => (match asR M a with
      | some xs => if szOk xs.length then idxNL eq C a xs 0 xs M else .bad
      | none => .bad))
  | _ => .bad
theorem idxNL_nox {eq : Nat → Option Nat} {C : Cal} {l : Av} {all : List Av} {k : Nat} {fs : List (Str × Av)} {M' : Mem} : ∀ (xs : List Av) (i : Nat) (M : Mem), idxNL eq C l all i xs M ≠ .exc k fs M'
  | [], i, M => by
    unfold idxNL
    intro z; cases z
  | x :: xs, i, M => by
    have gen : (if stayA M l all then (match clsA M x with
        | some k => (match eq k with
          | some id => (match boolR (C id [x, .non] M) with
            | .ok (.bl true) M1 => .ok (.int (i : Int)) M1
            | .ok (.bl false) M1 => idxNL eq C l all (i + 1) xs M1
            | _ => .bad)
          | none => .bad)
        | none => .bad) else .bad) ≠ Res.exc k fs M' := by
      split
      · split
        · split
          · split
            · intro z; cases z
            · exact idxNL_nox xs _ _
            · intro z; cases z
          · intro z; cases z
        · intro z; cases z
      · intro z; cases z
    cases x with
    | non =>
      unfold idxNL
      split
      · intro z; cases z
      · intro z; cases z
    | _ => exact gen
theorem indexN_nox {eq : Nat → Option Nat} {C : Cal} {a : Av} {as : List Av} {M : Mem} {k : Nat} {fs : List (Str × Av)} {M' : Mem} : opIndexN eq C a as M ≠ .exc k fs M' := by
  unfold opIndexN
  split
  · split
    · exact fun z => nomatch z
    · split
      · split
        · exact idxNL_nox _ _ _
        · exact fun z => nomatch z
      · exact fun z => nomatch z
  · exact fun z => nomatch z
section
variable {Z : Sc} {W : WX} {X : Cx}
def rIxN (Z : Sc) (eq : Nat → Option Nat) (C : Cal) : V → List V → Hp → VK → Prop := fun x xs H Q => ∃ (c : Rc) (M : Mem) (a : Av) (as : List Av), Sim Z c M H ∧ Rep Z c x a ∧ Reps Z c xs as ∧ Okk Z WNo [] c (Rep Z) Q (opIndexN eq C a as M)
theorem bm_indexN {eq : Nat → Option Nat} {C : Cal} : BmS Z W (rIxN Z eq C) (opIndexN eq C) := fun σ c M H x xs a as Q s ra rs q => ⟨c, M, a, as, s, ra, rs, by
  cases e : opIndexN eq C a as M with
  | ok v M1 => rw [e] at q; exact q
  | exc k fs M1 => exact absurd e indexN_nox
  | bad => rw [e] at q; exact q⟩
theorem mt_indexN {n : Nat} {C : Cal} {eq : Nat → Option Nat} (hK : X.K = Z.K) (hC : ClsFacts Z) (hI : IsiF Z) (hr : Room (n + 1) X.A) (T : EqT Z X C n eq) : MtR X "list.index" (rIxN Z eq C) := by
  intro pins s σ H x xs0 v us Q I rx rxs ⟨c, M, b, as, sm, rb, ras, h⟩
  unfold opIndexN at h
  split at h
  · cases ras with | cons r1 r2 =>
    cases r2
    cases r1
    obtain ⟨u, rfl, e1⟩ := vals1 rxs
    cases (show u = Value.none from e1)
    split at h
    · exact h.elim
    split at h
    · rename_i xs hxs
      split at h
      · rename_i hz
        obtain ⟨l, vs0, rfl, q1, q2⟩ := asR_rep sm rb hxs
        obtain rfl : v = Value.ref l := rx
        have hnt : ∀ ys, b ≠ .tup ys := fun ys e => by subst e; cases hxs
        rw [← hK] at q1
        obtain ⟨its0, rv0, p0, _⟩ := I.list q1
        have Jlist : ∀ (i : Nat) (s' : Shared) (H' : Hp) (c' : Rc) (M' : Mem), Inv X pins σ H' s' → Le c c' → Sim Z c' M' H' → stayA M' b xs = true → ∃ (items : Array Value) (n : Nat) (dd : Option Addr) (sl : Array (Option Value)) (vs : List V), s'.heap.get? l = some { cls := .type "list", dict := dd, data := .seq items n, slots := sl } ∧ items.size = xs.length ∧ Reps Z c' vs xs ∧ Vals vs items.toList := fun i s' H' c' M' I' lc sm' st => by
          obtain ⟨vs, z1, z2⟩ := stay_list sm' (rb.mono lc) (.inr trivial) st hnt
          rw [← hK] at z1
          obtain ⟨its, rv, pl, _⟩ := I'.list z1
          obtain ⟨⟨oc, od, dt, osl⟩, m, e1, e2, e3, e4⟩ := pl
          simp only at e2 e3 e4
          subst e2 e4
          exact ⟨its.toArray, m, od, osl, vs, e1, by rw [List.size_toArray, ← rv.length, z2.length], z2, by simpa using rv⟩
        refine index_here l .none xs.length (fun i s' => ∃ H' c' M', Inv X pins σ H' s' ∧ Le c c' ∧ Sim Z c' M' H' ∧ Okk Z WNo [] c' (Rep Z) Q (idxNL eq C b xs i (xs.drop i) M')) (by have := Nat.le_of_ble_eq_true hz; omega) p0.isList.typeIs (fun i s' ⟨H', c', M', I', lc, sm', h'⟩ => ?_) ⟨H, c, M, I, Le.refl c, sm, by simpa using h⟩
        have hi : i < xs.length := by
          by_cases q : i < xs.length
          · exact q
          · exfalso
            rw [List.drop_eq_nil_of_le (by omega)] at h'
            unfold idxNL at h'
            exact h'
        refine ⟨hi, ?_⟩
        obtain ⟨a, ha⟩ : ∃ a, xs[i]? = some a := ⟨xs[i], by simp [hi]⟩
        rw [drop_cons ha] at h'
        have body : ∀ (st : stayA M' b xs = true), (a = .non ∧ Okk Z WNo [] c' (Rep Z) Q (.ok (.int (i : Int)) M')) ∨ (∃ k id, clsA M' a = some k ∧ eq k = some id ∧ Okk Z WNo [] c' (Rep Z) Q (match boolR (C id [a, .non] M') with
            | .ok (.bl true) M1 => .ok (.int (i : Int)) M1
            | .ok (.bl false) M1 => idxNL eq C b xs (i + 1) (xs.drop (i + 1)) M1
            | _ => .bad)) := fun st => by
          by_cases e : a = .non
          · subst e
            unfold idxNL at h'
            rw [if_pos st] at h'
            exact .inl ⟨rfl, h'⟩
          · have h2 : Okk Z WNo [] c' (Rep Z) Q (if stayA M' b xs then (match clsA M' a with
                | some k => (match eq k with
                  | some id => (match boolR (C id [a, .non] M') with
                    | .ok (.bl true) M1 => .ok (.int (i : Int)) M1
                    | .ok (.bl false) M1 => idxNL eq C b xs (i + 1) (xs.drop (i + 1)) M1
                    | _ => .bad)
                  | none => .bad)
                | none => .bad) else .bad) := by
              cases a <;> first | exact absurd rfl e | exact h'
            rw [if_pos st] at h2
            split at h2
            · rename_i k hk
              split at h2
              · rename_i id hid
                exact .inr ⟨k, id, hk, hid, h2⟩
              · exact h2.elim
            · exact h2.elim
        have st : stayA M' b xs = true := by
          cases q : stayA M' b xs with
          | true => rfl
          | false =>
            exfalso
            cases a <;> (unfold idxNL at h'; rw [if_neg (by rw [q]; decide)] at h'; exact h')
        obtain ⟨items, m, dd, sl, vs, z1, z2, z3, z4⟩ := Jlist i s' H' c' M' I' lc sm' st
        refine ⟨items, m, dd, sl, z1, z2, fun hh => ?_⟩
        obtain ⟨va, y1, y2⟩ := z3.get ha
        obtain ⟨ua, w1, w2⟩ := z4.get y1
        have eu : items[i] = ua := by
          rw [Array.getElem?_toList] at w1
          rw [Array.getElem?_eq_getElem hh] at w1
          exact Option.some.inj w1
        rw [eu]
        rcases body st with ⟨e, hq⟩ | ⟨k, id, hk, hid, hq⟩
        · subst e
          cases y2
          obtain rfl : ua = Value.none := w2
          exact SeqAt.EqAt.same (A := X.A.in1) (s := s') .none X.prog X.w X.xe _ (.inl ⟨rfl, .int _, H', I'.tok _, ⟨_, rfl⟩, hq c' _ H' (Le.refl _) sm' (.int _)⟩)
        · obtain ⟨f, E, F⟩ := T.h k id hid
          obtain ⟨p, dx, fs, rfl, hh2, ha2⟩ := cls_rep0 sm' y2 hk
          obtain rfl : ua = Value.ref p := w2
          have tn : TyX X.K H' .non (.type "NoneType") := .base .non
          refine eqBool_refN (wpAny_mono (rc_own (Q := fun z H2 => ∃ b', z = .bl b' ∧ ((b' = true ∧ Q (.int (i : Int)) H2) ∨ (b' = false ∧ ∃ c2 M2, Le c c2 ∧ Sim Z c2 M2 H2 ∧ Okk Z WNo [] c2 (Rep Z) Q (idxNL eq C b xs (i + 1) (xs.drop (i + 1)) M2)))) hK ⟨hr.in1, rfl⟩ F E I' ha2 (show RelV .non .none from rfl) tn (by rw [hK]; exact E.nb .non) ?_) (fun r s2 hz => ?_) fun _ _ z => z)
          · refine ⟨c', M', [a, .non], sm', .cons y2 (.cons .non .nil), ?_⟩
            cases e5 : C id [a, .non] M' with
            | bad => rw [e5] at hq; exact hq.elim
            | exc k fs M1 => rw [e5] at hq; exact hq.elim
            | ok v5 M1 =>
              rw [e5] at hq
              cases v5 with
              | bl b5 =>
                intro c2 x2 H2 l2 s2 r2
                cases r2
                refine ⟨b5, rfl, b5, rfl, ?_⟩
                cases b5 with
                | true => exact .inl ⟨rfl, hq c2 _ H2 l2 s2 (.int _)⟩
                | false => exact .inr ⟨rfl, c2, M1, lc.trans l2, s2, Okk.mono l2 hq⟩
              | _ => exact hq.elim
          · obtain ⟨z, H2, I2, rz, b5, ez, hz⟩ := hz
            subst ez
            obtain rfl : r = Value.bool b5 := rz
            refine ⟨b5, rfl, ?_⟩
            rcases hz with ⟨e6, q6⟩ | ⟨e6, c2, M2, l2, s2', q6⟩
            · subst e6; exact .inl ⟨rfl, .int _, H2, I2.tok _, ⟨_, rfl⟩, q6⟩
            · subst e6; exact .inr ⟨rfl, H2, c2, M2, I2, l2, s2', q6⟩
      · exact h.elim
    · exact h.elim
  · exact h.elim
end
end Pd
set_option maxHeartbeats 2000000
namespace Pd
open PySem PySem.Spec L2
structure Tb where
  G : Str → Option Gk
  ms : Str → Option (Nat × Nat × Nat × List Av)
  cm : Str → Nat → Option (Nat × Nat × List Av)
  fl : Str → Bool
  eq : Nat → Option Nat
  dn : Str → Nat → Option Nat
  xn : Str → Option (Nat × Str)
  xm : Str → Option (Nat → Option Bool)
  xf : Str → Bool
  pr : Str → Option (Nat × Nat)
structure CE where
  tb : Tb
  N : List Str
  sc : Scope
  fn : Str → Bool
  mu : List Str
  keep : Bool
  wh : Nat
  cv : List (Str × Str)
  rp : Bool
structure Facts (Z : Sc) (X : Cx) (tb : Tb) (C : Cal) (n : Nat) : Prop where
  hK : X.K = Z.K
  hw : X.w = Z.w
  hC : ClsFacts Z
  hI : IsiF Z
  gfn : ∀ x id np dfl, tb.G x = some (.fn id np dfl) → ∃ f, X.mg x = some (.ref f) ∧ ∀ j, Callee Z X n (C id) (dfl.drop j) f
  gcl : ∀ x c id np dfl fz, tb.G x = some (.cls c id np dfl fz) → X.mg x = some (.ref (Z.cl c)) ∧ Z.has c ∧ ∀ j, Maker Z X n c (C id) (dfl.drop j)
  gco : ∀ x v, tb.G x = some (.con v) → ∃ u y, X.mg x = some u ∧ RelV y u ∧ ∀ c, Rep Z c y v
  gfr : ∀ x, tb.G x = some .fre → X.mg x = none
  gms : ∀ m c id np dfl, tb.ms m = some (c, id, np, dfl) → ∃ f, Meth X.K (Z.cl c) m f ∧ ∀ j, Callee Z X n (C id) (dfl.drop j) f
  gcm : ∀ m c id np dfl, tb.cm m c = some (id, np, dfl) → ∃ f, CmF Z c m f ∧ ∀ j, Callee Z X n (C id) (dfl.drop j) f
  gfl : ∀ f, tb.fl f = true → NoAt Z f
  geq : EqT Z X C n tb.eq
  gdn : DnT Z X C n tb.dn
  gad : ∀ k id, tb.dn "__add__" k = some id → AdF Z k
  gai : ∀ k id, tb.dn "__add__" k = some id → AiF Z k
  gas : ∀ k id, tb.dn "__iadd__" k = some id → AdF Z k
  ger : ∀ k id, tb.eq k = some id → EqR Z k
  gxn : ∀ x k n, tb.xn x = some (k, n) → XmF X (Z.xc k) x n
  gxm : ∀ y m, tb.xm y = some m → ∃ v cv, (X.mg y = some cv ∨ (X.mg y = none ∧ bootBuiltins y = some cv ∧ y ≠ "__name__")) ∧ RelV v cv ∧ (∀ u, RelV v u → u = cv) ∧
    ∀ k b, m k = some b → PySem.W.exmOne X.K (.ref (Z.xc k)) cv = some b ∧ PySem.W.kitOne X.K (.ref (Z.xc k)) cv = some b ∧ XaF X.K (Z.xc k) ∧ ∀ f, tb.xf f = true → PySem.W.findIn X.K (.ref (Z.xc k)) f = some none
  gpr : ∀ m c id, tb.pr m = some (c, id) → ∃ g p, Z.has c ∧ PropOf X.K (Z.cl c) m p g ∧ Callee Z X n (C id) [] g
structure Good (Z : Sc) (W : WX) (X : Cx) (ce : CE) (C : Cal) (n : Nat) : Prop where
  fa : Facts Z X ce.tb C n
  hN : X.N = ce.N
  nd : ce.N.Nodup
  sc : X.env.scope = ce.sc
  kd : ce.sc.kind = .function
  fn : ∀ x, ce.fn x = true → X.fn x = true
  calm : X.calm = true
  room : Room (n + 1) X.A
  tk : Takes X W
  gd : ce.rp = true → X.A.guards = some []
structure GoodS (Z : Sc) (W : WX) (X : Cx) (ce : CE) (C : Cal) (n : Nat) : Prop extends Good Z W X ce C n where
  po : PassesOwn (model X.prog X.w) X.A X.env X.xe
  st : X.stack = X.env :: X.outer
  fr : X.env.frame = some X.env.locals
def idx (N : List Str) (x : Str) : Option Nat := N.findIdx? (· == x)
theorem idx_ok {N : List Str} {x : Str} {i : Nat} (h : idx N x = some i) : N[i]? = some x := by
  unfold idx at h
  rw [List.findIdx?_eq_some_iff_getElem] at h
  obtain ⟨h1, h2, _⟩ := h
  rw [List.getElem?_eq_getElem h1]
  exact congrArg some (by simpa using h2)
def visB (sc : Scope) (x : Str) : Bool := match sc.names.lookup x with
  | some .local => true
  | some .cell => true
  | some .free => true
  | _ => false
theorem vis_ok {sc : Scope} {x : Str} (h : visB sc x = true) : Vis sc x := by
  unfold visB at h
  split at h
  · exact .inl ‹_›
  · exact .inr (.inl ‹_›)
  · exact .inr (.inr ‹_›)
  · cases h
def locB (ce : CE) (x : Str) : Bool := match ce.sc.names.lookup x with
  | some .local => true
  | some .cell => ce.fn x
  | _ => false
def glB (sc : Scope) (x : Str) : Bool := match sc.names.lookup x with
  | some .globalImplicit => true
  | _ => false
def okNm (x : Str) : Bool := !(x == ("__debug__" : Str)) && !(x == ("__classdict__" : Str)) && !(x == ("__name__" : Str))
theorem okNm1 {x : Str} (h : okNm x = true) : (x == ("__debug__" : Str)) = false := by
  simp only [okNm, Bool.and_eq_true, Bool.not_eq_true'] at h; exact h.1.1
theorem okNm2 {x : Str} (h : okNm x = true) : (x == ("__classdict__" : Str)) = false := by
  simp only [okNm, Bool.and_eq_true, Bool.not_eq_true'] at h; exact h.1.2
section
variable {Z : Sc} {W : WX} {X : Cx} {ce : CE} {C : Cal} {n : Nat}
theorem Good.gl (g : Good Z W X ce C n) {x : Str} (h : glB ce.sc x = true) : Gl X x := by
  unfold glB at h
  split at h
  · rename_i q
    show X.env.scope.names.lookup x = _
    rw [g.sc]; exact q
  · cases h
theorem Good.vis (g : Good Z W X ce C n) {x : Str} (h : visB ce.sc x = true) : Vis X.env.scope x := by
  rw [g.sc]; exact vis_ok h
theorem Good.loc (g : Good Z W X ce C n) {x : Str} (h : locB ce x = true) : Loc X.env.scope x ∧ (X.fn x = true ∨ X.env.scope.names.lookup x = some .local) := by
  unfold locB at h
  split at h
  · rename_i q; exact ⟨.inl (by rw [g.sc]; exact q), .inr (by rw [g.sc]; exact q)⟩
  · rename_i q; exact ⟨.inr (by rw [g.sc]; exact q), .inl (g.fn x h)⟩
  · cases h
theorem Good.ix (g : Good Z W X ce C n) {x : Str} {i : Nat} (h : idx ce.N x = some i) : X.N[i]? = some x := by
  rw [g.hN]; exact idx_ok h
theorem Good.nd' (g : Good Z W X ce C n) : X.N.Nodup := by rw [g.hN]; exact g.nd
theorem Good.roomN (g : Good Z W X ce C n) : Room n X.A := g.room.mono (Nat.le_succ n)
theorem Good.units (g : Good Z W X ce C n) : X.A.units + 65 < cLine := by have := g.room.un; omega
abbrev Op2 := Av → Av → Mem → Res Av
def binC (dn : Str → Nat → Option Nat) : Operator → Option (Cal → Op2)
  | .Add => some fun C => opAddO dn C
  | .Sub => some fun _ => opSub
  | .Mult => some fun _ => opMul
  | .FloorDiv => some fun _ => opDiv
  | .Mod => some fun _ => opMod
  | .Pow => some fun _ => opPow
  | _ => none
theorem bin_ok (G : Good Z W X ce C n) {o : Operator} {op : Cal → Op2} (h : binC ce.tb.dn o = some op) : ∃ r, OpR X (binaryOp o) r ∧ OpS Z W r (op C) := by
  have hK := G.fa.hK
  cases o <;> simp only [binC] at h <;> first
    | (cases h; exact ⟨_, op_addO hK G.roomN G.fa.gdn G.fa.gad, ops_sem addO_nox⟩)
    | (cases h; exact ⟨_, op_sub, ops_sub⟩)
    | (cases h; exact ⟨_, op_mulA, by rw [hK]; exact ops_mul⟩)
    | (cases h; exact ⟨_, op_fdiv, ops_div⟩)
    | (cases h; exact ⟨_, op_mod, ops_mod⟩)
    | (cases h; exact ⟨_, op_pow, ops_pow⟩)
    | cases h
def cmpC (eq : Nat → Option Nat) : CmpOp → Option (Cal → Op2)
  | .Eq => some fun C => opEqO eq C
  | .NotEq => some fun C => opNeO eq C
  | .Lt => some fun _ => opCmp fun i j => decide (i < j)
  | .LtE => some fun _ => opCmp fun i j => decide (i ≤ j)
  | .Gt => some fun _ => opCmp fun i j => decide (j < i)
  | .GtE => some fun _ => opCmp fun i j => decide (j ≤ i)
  | .Is => some fun _ => opIs false
  | .IsNot => some fun _ => opIs true
  | .In => some fun C => opInR eq C false
  | .NotIn => some fun C => opInR eq C true
theorem cmp_ok (G : Good Z W X ce C n) {o : CmpOp} {op : Cal → Op2} (h : cmpC ce.tb.eq o = some op) : ∃ r, OpR X (compareOp o) r ∧ OpS Z W r (op C) := by
  have hK := G.fa.hK
  have hu := G.units
  have hu' : X.A.units + 64 < cLine := by omega
  cases o <;> simp only [cmpC] at h <;> cases h
  · exact ⟨_, op_eqO hK G.fa.hC G.fa.hI G.roomN G.fa.geq, ops_sem eqO_nox⟩
  · exact ⟨_, op_neO hK G.fa.hC G.fa.hI G.room G.fa.geq, ops_sem neO_nox⟩
  · exact ⟨_, op_lt, ops_cmp⟩
  · exact ⟨_, op_le, ops_cmp⟩
  · exact ⟨_, op_gt, ops_cmp⟩
  · exact ⟨_, op_ge, ops_cmp⟩
  · exact ⟨_, op_isN.or op_isBl, ops_is⟩
  · exact ⟨_, op_notN.or op_notBl, ops_isnt⟩
  · exact ⟨_, op_inR (neg := false) hK G.fa.hC G.fa.hI G.room G.fa.geq G.fa.ger (op_inA hu), ops_sem inR_nox⟩
  · exact ⟨_, op_inR (neg := true) hK G.fa.hC G.fa.hI G.room G.fa.geq G.fa.ger (op_notInA hu), ops_sem inR_nox⟩
def ordC : CmpOp → Option Op2
  | .Lt => some (opCmp fun i j => decide (i < j))
  | .LtE => some (opCmp fun i j => decide (i ≤ j))
  | .Gt => some (opCmp fun i j => decide (j < i))
  | .GtE => some (opCmp fun i j => decide (j ≤ i))
  | _ => none
theorem ord_ok {o : CmpOp} {op : Op2} (h : ordC o = some op) : ∃ r, OpR X (compareOp o) r ∧ OpS Z W r op ∧ OpS2 Z W r op := by
  cases o <;> simp only [ordC] at h <;> first
    | (cases h; done)
    | skip
  · cases h; exact ⟨_, op_lt, ops_cmp, ops_cmp.two cmp_nox⟩
  · cases h; exact ⟨_, op_le, ops_cmp, ops_cmp.two cmp_nox⟩
  · cases h; exact ⟨_, op_gt, ops_cmp, ops_cmp.two cmp_nox⟩
  · cases h; exact ⟨_, op_ge, ops_cmp, ops_cmp.two cmp_nox⟩
abbrev OpB := List Av → Mem → Res Av
def bltC (rp : Bool) (dn : Str → Nat → Option Nat) (x : Str) : Option (Cal → OpB) :=
  if x = "len" then some (fun C => opLenO dn C)
  else if x = "abs" then some (fun _ => opAbs)
  else if x = "max" then some (fun _ => opMax)
  else if x = "min" then some (fun _ => opMin)
  else if x = "all" then some (fun _ => opAll)
  else if x = "any" then some (fun _ => opAny)
  else if x = "sorted" then some (fun _ => opSorted)
  else if x = "isinstance" then some (fun _ => opIsi)
  else if x = "int" then some (fun _ => opInt)
  else if x = "str" then some (fun C => opStrO dn C)
  else if x = "tuple" then some (fun _ => opTuple)
  else if x = "list" then some (fun _ => opListM false)
  else if x = "dict" then some (fun _ => opDictC)
  else if x = "repr" then some (fun _ => if rp then opReprN else opRepr) else none
theorem blt_ok {x : Str} {op : Cal → OpB} {g : Ea} {p pos : Pos} {e : Expr} {es : List Expr} (G : Good Z W X ce C n) (h : bltC ce.rp ce.tb.dn x = some op) (hg : Gl X x) (hm : X.mg x = none) (ha : SA Z W X (e :: es) g) (hst : noStar (e :: es) = true) :
    SE Z W X (.Call (.Name x p) (e :: es) [] pos) (eCallB (op C) g) := by
  have hK := G.fa.hK
  have hc := G.calm
  have h1 := star_cons (es := es) (env := X.env) (noStar_cons hst).1
  have h2 := star_any (pos := pos) (env := X.env) (noStar_cons hst).2
  unfold bltC at h
  by_cases hx : x = "len"
  · rw [if_pos hx] at h; cases h; subst hx; exact se_callB (call_lenO hK G.room G.fa.gdn) (cs_sem lenO_nox) hg hm (by rfl) ha (by decide) (by decide) h1 h2
  rw [if_neg hx] at h
  by_cases hx : x = "abs"
  · rw [if_pos hx] at h; cases h; subst hx; exact se_callB call_abs cs_abs hg hm (by rfl) ha (by decide) (by decide) h1 h2
  rw [if_neg hx] at h
  by_cases hx : x = "max"
  · rw [if_pos hx] at h; cases h; subst hx; exact se_callB (call_max2 hc) cs_max hg hm (by rfl) ha (by decide) (by decide) h1 h2
  rw [if_neg hx] at h
  by_cases hx : x = "min"
  · rw [if_pos hx] at h; cases h; subst hx; exact se_callB (call_min2 hc) cs_min hg hm (by rfl) ha (by decide) (by decide) h1 h2
  rw [if_neg hx] at h
  by_cases hx : x = "all"
  · rw [if_pos hx] at h; cases h; subst hx; exact se_callB (cr_all hc) (by rw [hK]; exact cs_all) hg hm (by rfl) ha (by decide) (by decide) h1 h2
  rw [if_neg hx] at h
  by_cases hx : x = "any"
  · rw [if_pos hx] at h; cases h; subst hx; exact se_callB (cr_any hc) (by rw [hK]; exact cs_any) hg hm (by rfl) ha (by decide) (by decide) h1 h2
  rw [if_neg hx] at h
  by_cases hx : x = "sorted"
  · rw [if_pos hx] at h; cases h; subst hx; exact se_callB cr_sortedA (by rw [hK]; exact cs_sorted) hg hm (by rfl) ha (by decide) (by decide) h1 h2
  rw [if_neg hx] at h
  by_cases hx : x = "isinstance"
  · rw [if_pos hx] at h; cases h; subst hx; exact se_callB call_isi (by rw [hK]; exact cs_isi G.fa.hC G.fa.hI) hg hm (by rfl) ha (by decide) (by decide) h1 h2
  rw [if_neg hx] at h
  by_cases hx : x = "int"
  · rw [if_pos hx] at h; cases h; subst hx; exact se_callTy call_intA cs_int hg hm (by rfl) ha (by decide) (by decide) h1 h2
  rw [if_neg hx] at h
  by_cases hx : x = "str"
  · rw [if_pos hx] at h; cases h; subst hx; exact se_callTy (call_strO hK G.room G.fa.gdn) (cs_sem strO_nox) hg hm (by rfl) ha (by decide) (by decide) h1 h2
  rw [if_neg hx] at h
  by_cases hx : x = "tuple"
  · rw [if_pos hx] at h; cases h; subst hx; exact se_callTy call_tuple_of (by rw [hK]; exact cs_tuple) hg hm (by rfl) ha (by decide) (by decide) h1 h2
  rw [if_neg hx] at h
  by_cases hx : x = "list"
  · rw [if_pos hx] at h; cases h; subst hx; exact se_callTy call_list_of (by rw [hK]; exact cs_listM) hg hm (by rfl) ha (by decide) (by decide) h1 h2
  rw [if_neg hx] at h
  by_cases hx : x = "dict"
  · rw [if_pos hx] at h; cases h; subst hx; exact se_callTy call_dictC cs_dictC hg hm (by rfl) ha (by decide) (by decide) h1 h2
  rw [if_neg hx] at h
  by_cases hx : x = "repr"
  · rw [if_pos hx] at h; cases h; subst hx
    cases hrp : ce.rp with
    | true => exact se_callB (op := opReprN) (call_reprB hK (G.gd hrp) G.units) cs_reprN hg hm (by rfl) ha (by decide) (by decide) h1 h2
    | false => exact se_callB (op := opRepr) call_reprA cs_repr hg hm (by rfl) ha (by decide) (by decide) h1 h2
  rw [if_neg hx] at h
  cases h
def btyC (x : Str) : Option Bt :=
  if x = "int" then some .int else if x = "str" then some .str else if x = "bool" then some .bool else if x = "list" then some .list else if x = "tuple" then some .tuple else none
theorem bty_ok {x : Str} {b : Bt} {p : Pos} (h : btyC x = some b) (hg : Gl X x) (hm : X.mg x = none) : SE Z W X (.Name x p) (eC (.ty b)) := by
  unfold btyC at h
  by_cases hx : x = "int"
  · rw [if_pos hx] at h; cases h; subst hx; exact se_tC (pe_bltn hg hm (by rfl) (by rfl)) fun c => .ty _
  rw [if_neg hx] at h
  by_cases hx : x = "str"
  · rw [if_pos hx] at h; cases h; subst hx; exact se_tC (pe_bltn hg hm (by rfl) (by rfl)) fun c => .ty _
  rw [if_neg hx] at h
  by_cases hx : x = "bool"
  · rw [if_pos hx] at h; cases h; subst hx; exact se_tC (pe_bltn hg hm (by rfl) (by rfl)) fun c => .ty _
  rw [if_neg hx] at h
  by_cases hx : x = "list"
  · rw [if_pos hx] at h; cases h; subst hx; exact se_tC (pe_bltn hg hm (by rfl) (by rfl)) fun c => .ty _
  rw [if_neg hx] at h
  by_cases hx : x = "tuple"
  · rw [if_pos hx] at h; cases h; subst hx; exact se_tC (pe_bltn hg hm (by rfl) (by rfl)) fun c => .ty _
  rw [if_neg hx] at h
  cases h
end
end Pd
set_option maxHeartbeats 2000000
namespace Pd
open PySem PySem.Spec L2
def opt2 {α β γ : Type} (a : Option α) (b : Option β) (f : α → β → γ) : Option γ := match a, b with
  | some x, some y => some (f x y)
  | _, _ => none
theorem opt2_some {α β γ : Type} {a : Option α} {b : Option β} {f : α → β → γ} {z : γ} (h : opt2 a b f = some z) : ∃ x y, a = some x ∧ b = some y ∧ z = f x y := by
  cases a <;> cases b <;> first | (cases h; exact ⟨_, _, rfl, rfl, rfl⟩) | cases h
theorem map_some {α β : Type} {a : Option α} {f : α → β} {z : β} (h : a.map f = some z) : ∃ x, a = some x ∧ z = f x := by
  cases a with
  | none => cases h
  | some x => cases h; exact ⟨x, rfl, rfl⟩
structure Lv where
  e : CE → Expr → Option (Cal → Ev)
  t : CE → Expr → Option (Cal → Et)
  s : CE → Stmt → Option (Cal → Es)
def Lv.nil : Lv := ⟨fun _ _ => none, fun _ _ => none, fun _ _ => none⟩
structure LvOk (Z : Sc) (L : Lv) : Prop where
  e : ∀ W X ce C n, Good Z W X ce C n → ∀ ex f, L.e ce ex = some f → SE Z W X ex (f C)
  t : ∀ W X ce C n, Good Z W X ce C n → ∀ ex f, L.t ce ex = some f → ST Z W X ex (f C)
  s : ∀ W X ce C n, GoodS Z W X ce C n → ∀ st f, L.s ce st = some f → SS Z W X st (f C)
theorem lv_nil {Z : Sc} : LvOk Z .nil := by
  refine ⟨?_, ?_, ?_⟩ <;> (intros; rename_i h; cases h)
def argsC (L : Lv) (ce : CE) : List Expr → Option (Cal → Ea)
  | [] => some fun _ => aNil
  | .Starred e _ :: es => (match L.e ce e, argsC L ce es with
    | some f, some g => some fun C => aStar (f C) (g C)
    | _, _ => none)
  | e :: es => (match L.e ce e, argsC L ce es with
    | some f, some g => some fun C => aCons (f C) (g C)
    | _, _ => none)
section
variable {Z : Sc} {W : WX} {X : Cx} {ce : CE} {C : Cal} {n : Nat} {L : Lv}
theorem args_ok (K : LvOk Z L) (G : Good Z W X ce C n) : ∀ (es : List Expr) (g : Cal → Ea), argsC L ce es = some g → SA Z W X es (g C)
  | [], g, h => by cases h; exact sa_nil
  | e :: es, g, h => by
    have gen : isStar e = false → (match L.e ce e, argsC L ce es with
        | some f, some g => some fun C => aCons (f C) (g C)
        | _, _ => none) = some g → SA Z W X (e :: es) (g C) := fun hs h => by
      split at h
      · rename_i f g' h1 h2
        cases h
        exact sa_cons (K.e W X ce C n G e f h1) (args_ok K G es g' h2) (star_cons hs)
      · cases h
    cases e with
    | Starred e p =>
      unfold argsC at h
      split at h
      · rename_i f g' h1 h2
        cases h
        exact sa_star G.fa.hK (K.e W X ce C n G e f h1) (args_ok K G es g' h2)
      · cases h
    | _ => exact gen rfl h
def andC (L : Lv) (ce : CE) : List Expr → Option (Cal → Ev)
  | [] => none
  | [a] => L.e ce a
  | a :: b :: r => (match L.e ce a, andC L ce (b :: r) with
    | some f, some g => some fun C => eAnd (f C) (g C)
    | _, _ => none)
def orC (L : Lv) (ce : CE) : List Expr → Option (Cal → Ev)
  | [] => none
  | [a] => L.e ce a
  | a :: b :: r => (match L.e ce a, orC L ce (b :: r) with
    | some f, some g => some fun C => eOr (f C) (g C)
    | _, _ => none)
theorem and_ok {pos : Pos} (K : LvOk Z L) (G : Good Z W X ce C n) : ∀ (es : List Expr) (g : Cal → Ev), andC L ce es = some g → SE Z W X (.BoolOp .And es pos) (g C)
  | [], g, h => by cases h
  | [a], g, h => se_one (K.e W X ce C n G a g h)
  | a :: b :: r, g, h => by
    unfold andC at h
    split at h
    · rename_i f g' h1 h2
      cases h
      exact se_and (K.e W X ce C n G a f h1) (and_ok K G (b :: r) g' h2)
    · cases h
theorem or_ok {pos : Pos} (K : LvOk Z L) (G : Good Z W X ce C n) : ∀ (es : List Expr) (g : Cal → Ev), orC L ce es = some g → SE Z W X (.BoolOp .Or es pos) (g C)
  | [], g, h => by cases h
  | [a], g, h => se_one (K.e W X ce C n G a g h)
  | a :: b :: r, g, h => by
    unfold orC at h
    split at h
    · rename_i f g' h1 h2
      cases h
      exact se_or (K.e W X ce C n G a f h1) (or_ok K G (b :: r) g' h2)
    · cases h
def andT (L : Lv) (ce : CE) : List Expr → Option (Cal → Et)
  | [] => none
  | [a] => L.t ce a
  | a :: b :: r => (match L.t ce a, andT L ce (b :: r) with
    | some f, some g => some fun C => tAndA (f C) (g C)
    | _, _ => none)
def orT (L : Lv) (ce : CE) : List Expr → Option (Cal → Et)
  | [] => none
  | [a] => L.t ce a
  | a :: b :: r => (match L.t ce a, orT L ce (b :: r) with
    | some f, some g => some fun C => tOrA (f C) (g C)
    | _, _ => none)
theorem andT_ok {pos : Pos} (K : LvOk Z L) (G : Good Z W X ce C n) : ∀ (es : List Expr) (g : Cal → Et), andT L ce es = some g → SW Z W X (.BoolOp .And es pos) (g C)
  | [], g, h => by cases h
  | [a], g, h => sw_and1 (K.t W X ce C n G a g h)
  | a :: b :: r, g, h => by
    unfold andT at h
    split at h
    · rename_i f g' h1 h2
      cases h
      exact sw_and (K.t W X ce C n G a f h1) (andT_ok K G (b :: r) g' h2)
    · cases h
theorem orT_ok {pos : Pos} (K : LvOk Z L) (G : Good Z W X ce C n) : ∀ (es : List Expr) (g : Cal → Et), orT L ce es = some g → SW Z W X (.BoolOp .Or es pos) (g C)
  | [], g, h => by cases h
  | [a], g, h => sw_or1 (K.t W X ce C n G a g h)
  | a :: b :: r, g, h => by
    unfold orT at h
    split at h
    · rename_i f g' h1 h2
      cases h
      exact sw_or (K.t W X ce C n G a f h1) (orT_ok K G (b :: r) g' h2)
    · cases h
def fstrC (L : Lv) (ce : CE) : List Expr → Option (Cal → List Ev)
  | [] => some fun _ => []
  | e :: es => (match L.e ce e, fstrC L ce es with
    | some f, some g => some fun C => f C :: g C
    | _, _ => none)
theorem fstr_ok (K : LvOk Z L) (G : Good Z W X ce C n) : ∀ (es : List Expr) (g : Cal → List Ev), fstrC L ce es = some g → SJ Z W X es (g C)
  | [], g, h => by cases h; exact .nil
  | e :: es, g, h => by
    unfold fstrC at h
    split at h
    · rename_i f g' h1 h2
      cases h
      exact .cons (K.e W X ce C n G e f h1) (fstr_ok K G es g' h2)
    · cases h
def optC (L : Lv) (ce : CE) : Option Expr → Option (Cal → Eo)
  | none => some fun _ => oNone
  | some e => (L.e ce e).map fun f C => oSome (f C)
theorem opt_ok (K : LvOk Z L) (G : Good Z W X ce C n) : ∀ (e : Option Expr) (g : Cal → Eo), optC L ce e = some g → SO Z W X e (g C)
  | none, g, h => by cases h; exact so_none
  | some e, g, h => by
    have h : (L.e ce e).map (fun f C => oSome (f C)) = some g := h
    cases q : L.e ce e with
    | none => rw [q] at h; cases h
    | some f => rw [q] at h; cases h; exact so_some (K.e W X ce C n G e f q)
def nameC (ce : CE) (x : Str) : Option (Cal → Ev) :=
  if !okNm x then none else
  if visB ce.sc x then (idx ce.N x).map fun i _ => eVar i
  else if glB ce.sc x then (match ce.tb.G x with
    | some (.con v) => some fun _ => eC v
    | some (.cls c _ _ _ _) => some fun _ => eC (.cls c)
    | some .fre => (btyC x).map fun b _ => eC (.ty b)
    | _ => none)
  else none
theorem name_ok (G : Good Z W X ce C n) {x : Str} {p : Pos} {f : Cal → Ev} (h : nameC ce x = some f) : SE Z W X (.Name x p) (f C) := by
  unfold nameC at h
  split at h
  · cases h
  rename_i hok
  have hok : okNm x = true := by simpa using hok
  split at h
  · rename_i hv
    cases q : idx ce.N x with
    | none => rw [q] at h; cases h
    | some i => rw [q] at h; cases h; exact se_var (G.ix q) (G.vis hv) (okNm1 hok) (okNm2 hok)
  split at h
  · rename_i hg
    split at h
    · rename_i v hv
      cases h
      obtain ⟨u, y, h1, h2, h3⟩ := G.fa.gco x v hv
      exact se_tC (pe_glob (G.gl hg) h1 h2 (okNm1 hok)) h3
    · rename_i c a b d e hv
      cases h
      obtain ⟨h1, h2, _⟩ := G.fa.gcl x _ _ _ _ _ hv
      exact se_tC (pe_glob (v := .ref (Z.cl c)) (G.gl hg) h1 rfl (okNm1 hok)) fun _ => .cls h2
    · rename_i hv
      cases q : btyC x with
      | none => rw [q] at h; cases h
      | some b => rw [q] at h; cases h; exact bty_ok q (G.gl hg) (G.fa.gfr x hv)
    · cases h
  · cases h
def isSetCall : List Expr → Option Expr
  | [.Call (.Name x _) [e] [] _] => if x = "set" then some e else none
  | _ => none
def isiTup : List Expr → Option (Expr × List Expr)
  | [e, .Tuple es _ _] => some (e, es)
  | _ => none
def bltF (L : Lv) (ce : CE) (x : Str) (args : List Expr) : Option (Cal → Ev) := match args with
  | [] => none
  | e :: es => (match argsC L ce (e :: es), bltC ce.rp ce.tb.dn x with
    | some g, some op => some fun C => eCallB (op C) (g C)
    | _, _ => none)
def setF (L : Lv) (ce : CE) (op : OpB) (e : Expr) : Option (Cal → Ev) :=
  if glB ce.sc "set" && !isStar e then (match ce.tb.G "set", argsC L ce [e] with
    | some .fre, some g => some fun C => eCallB op (g C)
    | _, _ => none) else none
def isRange : Expr → Option (List Expr)
  | .Call (.Name x _) as [] _ => if x = "range" then some as else none
  | _ => none
def listC (L : Lv) (ce : CE) (m : Bool) (a : Expr) : Option (Cal → Ev) :=
  if isStar a then none else
  match isRange a with
  | some as => if noStar as && glB ce.sc "range" then (match ce.tb.G "range", as with
    | some .fre, [b] => (L.e ce b).map fun f C => eLRg1 m (f C)
    | some .fre, [b, d] => opt2 (L.e ce b) (L.e ce d) fun f g C => eLRg2 m (f C) (g C)
    | _, _ => none) else none
  | none => (argsC L ce [a]).map fun g C => eCallB (opListM m) (g C)
theorem isRange_eq {e : Expr} {as : List Expr} (h : isRange e = some as) : ∃ p q, e = .Call (.Name "range" p) as [] q := by
  unfold isRange at h
  split at h
  · split at h
    · rename_i hx; cases h; subst hx; exact ⟨_, _, rfl⟩
    · cases h
  · cases h
theorem listC_ok (K : LvOk Z L) (G : Good Z W X ce C n) {m : Bool} {a : Expr} {p pos : Pos} {f : Cal → Ev} (hg : Gl X "list") (hm : X.mg "list" = none) (h : listC L ce m a = some f) : SE Z W X (.Call (.Name "list" p) [a] [] pos) (f C) := by
  unfold listC at h
  split at h
  · cases h
  rename_i hs0
  have hs : isStar a = false := by simpa using hs0
  split at h
  · rename_i as ha
    obtain ⟨p1, p2, rfl⟩ := isRange_eq ha
    split at h
    · rename_i hz
      simp only [Bool.and_eq_true] at hz
      split at h
      · rename_i b hG
        obtain ⟨f', h1, rfl⟩ := map_some h
        exact se_lRg1 G.calm hg hm (G.gl hz.2) (G.fa.gfr _ hG) (K.e W X ce C n G _ _ h1) (noStar_cons hz.1).1
      · rename_i b d hG
        obtain ⟨f', g', h1, h2, rfl⟩ := opt2_some h
        exact se_lRg2 G.calm hg hm (G.gl hz.2) (G.fa.gfr _ hG) (K.e W X ce C n G _ _ h1) (K.e W X ce C n G _ _ h2) (noStar_cons hz.1).1 (noStar_cons (noStar_cons hz.1).2).1
      · cases h
    · cases h
  · obtain ⟨g, h1, rfl⟩ := map_some h
    have hK := G.fa.hK
    exact se_callTy call_list_of (by rw [hK]; exact cs_listM) hg hm (by rfl) (args_ok K G _ _ h1) (by decide) (by decide) (star_cons hs) rfl
def freC (L : Lv) (ce : CE) (x : Str) (args : List Expr) : Option (Cal → Ev) :=
  if x = "list" then (match args with
    | [a] => listC L ce false a
    | _ => none)
  else if x = "len" then (match isSetCall args with
    | some e => setF L ce opLenSet e
    | none => bltF L ce x args)
  else if x = "sorted" then (match isSetCall args with
    | some e => setF L ce opSortSet e
    | none => bltF L ce x args)
  else if x = "isinstance" then (match isiTup args with
    | some (e, es) => (match L.e ce e, argsC L ce es with
      | some f, some g => some fun C => eIsiT (f C) (g C)
      | _, _ => none)
    | none => bltF L ce x args)
  else bltF L ce x args
def locC (L : Lv) (ce : CE) (x : Str) (args : List Expr) : Option (Cal → Ev) := match args with
  | [] => none
  | e :: es => (match idx ce.N x, ce.cv.lookup x, argsC L ce (e :: es) with
    | some i, some y, some g => (match ce.tb.G y with
      | some (.cls c id np dfl fz) => some fun C => eNewV i c (defl (if fz then newF c (C id) else newO c (C id)) (dfl.drop (dfl.length - (np - (e :: es).length)))) (g C)
      | _ => none)
    | some i, none, some g => some fun C => eCallO ce.tb.dn C (eVar i) (g C)
    | _, _, _ => none)
def callS (L : Lv) (ce : CE) (x : Str) (args : List Expr) : Option (Cal → Ev) :=
  if !(okNm x && !visB ce.sc x && glB ce.sc x) then none else
  match ce.tb.G x, args with
  | some (.fn id _ []), e :: es => if isStar e then none else (argsC L ce (e :: es)).map fun g C => eCallB (defl (C id) []) (g C)
  | _, _ => none
def callN (L : Lv) (ce : CE) (x : Str) (args : List Expr) : Option (Cal → Ev) :=
  if !noStar args then callS L ce x args else
  if !(okNm x && noStar args) then none else
  if visB ce.sc x then locC L ce x args
  else if !glB ce.sc x then none
  else (match ce.tb.G x with
    | some (.fn id np dfl) => (argsC L ce args).map fun g C => eCallB (defl (C id) (dfl.drop (dfl.length - (np - args.length)))) (g C)
    | some (.cls c id np dfl fz) => (argsC L ce args).map fun g C => eCallB (defl (if fz then newF c (C id) else newO c (C id)) (dfl.drop (dfl.length - (np - args.length)))) (g C)
    | some .fre => freC L ce x args
    | _ => none)
theorem setCall_eq {args : List Expr} {e : Expr} (h : isSetCall args = some e) : ∃ p q, args = [.Call (.Name "set" p) [e] [] q] := by
  unfold isSetCall at h
  split at h
  · split at h
    · rename_i hx; cases h; subst hx; exact ⟨_, _, rfl⟩
    · cases h
  · cases h
theorem isiTup_eq {args : List Expr} {e : Expr} {es : List Expr} (h : isiTup args = some (e, es)) : ∃ k p, args = [e, .Tuple es k p] := by
  unfold isiTup at h
  split at h
  · cases h; exact ⟨_, _, rfl⟩
  · cases h
theorem bltF_ok (K : LvOk Z L) (G : Good Z W X ce C n) {x : Str} {args : List Expr} {p pos : Pos} {f : Cal → Ev} (hst : noStar args = true) (hg : Gl X x) (hm : X.mg x = none) (h : bltF L ce x args = some f) : SE Z W X (.Call (.Name x p) args [] pos) (f C) := by
  cases args with
  | nil => cases h
  | cons e es =>
    unfold bltF at h
    split at h
    · cases h
    · rename_i e' es' heq
      cases heq
      split at h
      · rename_i g op h1 h2
        cases h
        exact blt_ok G h2 hg hm (args_ok K G _ g h1) hst
      · cases h
theorem setF_ok (K : LvOk Z L) (G : Good Z W X ce C n) {op : OpB} {e : Expr} {f : Cal → Ev} (h : setF L ce op e = some f) : ∃ g, f C = eCallB op g ∧ SA Z W X [e] g ∧ Gl X "set" ∧ X.mg "set" = none ∧ isStar e = false := by
  unfold setF at h
  split at h
  · rename_i hz
    simp only [Bool.and_eq_true, Bool.not_eq_true'] at hz
    split at h
    · rename_i g q1 q2
      cases h
      exact ⟨g C, rfl, args_ok K G _ g q2, G.gl hz.1, G.fa.gfr _ q1, hz.2⟩
    · cases h
  · cases h
theorem fre_ok (K : LvOk Z L) (G : Good Z W X ce C n) {x : Str} {args : List Expr} {p pos : Pos} {f : Cal → Ev} (hst : noStar args = true) (hg : Gl X x) (hm : X.mg x = none) (h : freC L ce x args = some f) : SE Z W X (.Call (.Name x p) args [] pos) (f C) := by
  unfold freC at h
  split at h
  · rename_i hx
    split at h
    · subst hx
      exact listC_ok K G hg hm h
    · cases h
  split at h
  · rename_i hx
    split at h
    · rename_i e he
      obtain ⟨p1, p2, rfl⟩ := setCall_eq he
      obtain ⟨g, e1, h1, h2, h3, h4⟩ := setF_ok K G h
      subst hx
      rw [e1]
      exact se_lenSet G.fa.hK G.calm hg hm h2 h3 h1 h4
    · exact bltF_ok K G hst hg hm h
  split at h
  · rename_i hx
    split at h
    · rename_i e he
      obtain ⟨p1, p2, rfl⟩ := setCall_eq he
      obtain ⟨g, e1, h1, h2, h3, h4⟩ := setF_ok K G h
      subst hx
      rw [e1]
      exact se_sortSet G.fa.hK G.calm hg hm h2 h3 h1 h4
    · exact bltF_ok K G hst hg hm h
  split at h
  · rename_i hx
    split at h
    · rename_i e es he
      obtain ⟨p1, p2, rfl⟩ := isiTup_eq he
      split at h
      · rename_i f' g q1 q2
        cases h
        subst hx
        exact se_isiT G.fa.hK G.fa.hC G.fa.hI hg hm (K.e W X ce C n G _ _ q1) (args_ok K G _ g q2) (noStar_cons hst).1
      · cases h
    · exact bltF_ok K G hst hg hm h
  · exact bltF_ok K G hst hg hm h
theorem loc_ok (K : LvOk Z L) (G : Good Z W X ce C n) {x : Str} {args : List Expr} {p pos : Pos} {f : Cal → Ev} (hok : okNm x = true) (hst : noStar args = true) (hv : visB ce.sc x = true) (h : locC L ce x args = some f) : SE Z W X (.Call (.Name x p) args [] pos) (f C) := by
  cases args with
  | nil => cases h
  | cons e es =>
    unfold locC at h
    split at h
    · cases h
    · rename_i e' es' heq
      cases heq
      split at h
      · rename_i i y g h1 h2 h3
        split at h
        · rename_i c id np dfl fz hG
          cases h
          obtain ⟨_, _, m⟩ := G.fa.gcl _ _ _ _ _ _ hG
          exact se_newV (m _) G.room G.tk (G.ix h1) (G.vis hv) (args_ok K G _ g h3) (okNm1 hok) (okNm2 hok) hst fz
        · cases h
      · rename_i i g h1 h2 h3
        cases h
        exact se_callO G.fa.hK G.roomN G.fa.gdn G.tk (se_var (G.ix h1) (G.vis hv) (okNm1 hok) (okNm2 hok)) (args_ok K G _ g h3) hst
      · cases h
theorem callN_ok (K : LvOk Z L) (G : Good Z W X ce C n) {x : Str} {args : List Expr} {p pos : Pos} {f : Cal → Ev} (h : callN L ce x args = some f) : SE Z W X (.Call (.Name x p) args [] pos) (f C) := by
  unfold callN at h
  split at h
  · rename_i hns
    have hns : noStar args = false := by simpa using hns
    unfold callS at h
    split at h
    · cases h
    · rename_i h0
      have h0 : (okNm x = true ∧ visB ce.sc x = false) ∧ glB ce.sc x = true := by simpa using h0
      split at h
      · rename_i id np e es hG hns2
        split at h
        · cases h
        · rename_i hs
          have hs : isStar e = false := by simpa using hs
          obtain ⟨g, h1, rfl⟩ := map_some h
          obtain ⟨fa, m1, m2⟩ := G.fa.gfn x _ _ _ hG
          have hst : noStar es = false := by
            simpa [noStar, hs] using hns2
          exact se_callS (m2 0) G.roomN G.tk (G.gl h0.2) m1 (args_ok K G _ _ h1) (okNm1 h0.1.1) (star_cons hs) (star_has hst)
      · cases h
  split at h
  · cases h
  rename_i h0
  have h0 : okNm x = true ∧ noStar args = true := by simpa using h0
  obtain ⟨hok, hst⟩ := h0
  split at h
  · rename_i hv
    exact loc_ok K G hok hst hv h
  split at h
  · cases h
  rename_i hg
  have hg : glB ce.sc x = true := by simpa using hg
  split at h
  · rename_i id np dfl hG
    obtain ⟨fa, h1, h2⟩ := G.fa.gfn x _ _ _ hG
    cases q : argsC L ce args with
    | none => rw [q] at h; cases h
    | some g =>
      rw [q] at h
      cases h
      cases args with
      | nil => cases q; exact se_call0 (h2 _) G.roomN G.tk (G.gl hg) h1 (okNm1 hok)
      | cons e es => exact se_call (h2 _) G.roomN G.tk (G.gl hg) h1 (args_ok K G _ _ q) (okNm1 hok) (star_cons (noStar_cons hst).1) (star_any (noStar_cons hst).2)
  · rename_i c id np dfl fz hG
    obtain ⟨h1, hk, h2⟩ := G.fa.gcl x _ _ _ _ _ hG
    cases q : argsC L ce args with
    | none => rw [q] at h; cases h
    | some g =>
      rw [q] at h
      cases h
      cases args with
      | nil => cases q; exact se_new0 (h2 _) G.room G.tk (G.gl hg) h1 (okNm1 hok) fz
      | cons e es => exact se_new (h2 _) G.room G.tk (G.gl hg) h1 (args_ok K G _ _ q) (okNm1 hok) (star_cons (noStar_cons hst).1) (star_any (noStar_cons hst).2) fz
  · rename_i hG
    exact fre_ok K G hst (G.gl hg) (G.fa.gfr x hG) h
  · cases h
end
end Pd
set_option maxHeartbeats 2000000
namespace Pd
open PySem PySem.Spec L2
section
variable {Z : Sc} {W : WX} {X : Cx} {ce : CE} {C : Cal} {n : Nat} {L : Lv}
def bmC2 (eq : Nat → Option Nat) (m : Str) (na : Nat) : Option (Bool × (Cal → Mop)) :=
  if m = "append" then some (true, fun _ => opAppend) else if m = "extend" then some (true, fun _ => opExtend)
  else if m = "split" then some (false, fun _ => opSplit) else if m = "join" then some (false, fun _ => opJoin) else if m = "pop" then some (true, fun _ => opPopAt)
  else if m = "index" then some (true, fun C => opIndexN eq C) else none
theorem bmC2_ok {m : Str} {t : Bool} {op : Cal → Mop} {fo : Ev} {g : Ea} {o e : Expr} {es : List Expr} {apos cpos : Pos} {na : Nat} (G : Good Z W X ce C n) (h : bmC2 ce.tb.eq m na = some (t, op)) (hf : SE Z W X o fo) (ha : SA Z W X (e :: es) g) (hs : isSup o = false) (hl : (apos.endLine == cpos.line) = true) (hst : noStar (e :: es) = true) (hn : Nat.blt (e :: es).length 20 = true) :
    SE Z W X (.Call (.Attribute o m apos) (e :: es) [] cpos) (eBM t (op C) fo g) := by
  have hK := G.fa.hK
  unfold bmC2 at h
  split at h
  · rename_i hm; cases h; subst hm
    exact se_bm hK F.plainAttrs_list F.slot_list_append F.type_list_append mt_append bm_append hf ha hs hl hst hn
  split at h
  · rename_i hm; cases h; subst hm
    exact se_bm hK F.plainAttrs_list F.slot_list_extend F.type_list_extend mt_extend bm_extend hf ha hs hl hst hn
  split at h
  · rename_i hm; cases h; subst hm
    exact se_bm hK F.plainAttrs_str F.slot_str_split F.type_str_split mt_split bm_split hf ha hs hl hst hn
  split at h
  · rename_i hm; cases h; subst hm
    exact se_bm hK F.plainAttrs_str F.slot_str_join F.type_str_join (by have := mt_join (X := X); rw [hK] at this; exact this) bm_join hf ha hs hl hst hn
  split at h
  · rename_i hm; cases h; subst hm
    exact se_bm hK F.plainAttrs_list F.slot_list_pop F.type_list_pop mt_popAt bm_popAt hf ha hs hl hst hn
  split at h
  · rename_i hm; cases h; subst hm
    exact se_bm hK F.plainAttrs_list F.slot_list_index F.type_list_index (mt_indexN hK G.fa.hC G.fa.hI G.room G.fa.geq) bm_indexN hf ha hs hl hst hn
  · cases h
def isName : Expr → Option Str
  | .Name x _ => some x
  | _ => none
def cmC (ce : CE) (o : Expr) (m : Str) : Option (Nat × Nat × Nat × List Av) := match isName o with
  | some x => if okNm x && glB ce.sc x then (match ce.tb.G x with
    | some (.cls c _ _ _ _) => (match ce.tb.cm m c with
      | some (id, np, dfl) => some (c, id, np, dfl)
      | none => none)
    | _ => none) else none
  | none => none
def callM (L : Lv) (ce : CE) (o : Expr) (m : Str) (apos : Pos) (args : List Expr) (pos : Pos) : Option (Cal → Ev) :=
  if !(noStar args && Nat.blt args.length 20 && (apos.endLine == pos.line) && !isSup o) then none else
  match cmC ce o m with
  | some (c, id, np, dfl) => (match args with
    | [] => none
    | e :: es => (argsC L ce (e :: es)).map fun g C => eCMeth c (defl (C id) (dfl.drop (dfl.length - (np - (e :: es).length)))) (g C))
  | none => (match L.e ce o with
    | none => none
    | some fo => (match ce.tb.ms m with
      | some (c, id, np, dfl) => (argsC L ce args).map fun g C => eMeth c m (defl (C id) (dfl.drop (dfl.length - (np - args.length)))) (fo C) (g C)
      | none => (match args with
        | [] => if m = "pop" then some fun C => eBM true opPop (fo C) aNil else none
        | e :: es => (match argsC L ce (e :: es), bmC2 ce.tb.eq m (e :: es).length with
          | some g, some (t, op) => some fun C => eBM t (op C) (fo C) (g C)
          | _, _ => none))))
theorem cmC_ok (G : Good Z W X ce C n) {o : Expr} {m : Str} {c id np : Nat} {dfl : List Av} (h : cmC ce o m = some (c, id, np, dfl)) : ∃ x p f, o = .Name x p ∧ okNm x = true ∧ Gl X x ∧ X.mg x = some (.ref (Z.cl c)) ∧ Z.has c ∧ CmF Z c m f ∧ ∀ j, Callee Z X n (C id) (dfl.drop j) f := by
  unfold cmC at h
  split at h
  · rename_i x hx
    split at h
    · rename_i hz
      simp only [Bool.and_eq_true] at hz
      split at h
      · rename_i c' a1 a2 a3 a4 hG
        split at h
        · rename_i id' np' dfl' hc
          cases h
          cases o <;> first | (cases hx; done) | skip
          cases hx
          obtain ⟨h1, h2, _⟩ := G.fa.gcl _ _ _ _ _ _ hG
          obtain ⟨f, h3, h4⟩ := G.fa.gcm _ _ _ _ _ hc
          exact ⟨_, _, f, rfl, hz.1, G.gl hz.2, h1, h2, h3, h4⟩
        · cases h
      · cases h
    · cases h
  · cases h
theorem callM_ok (K : LvOk Z L) (G : Good Z W X ce C n) {o : Expr} {m : Str} {apos pos : Pos} {args : List Expr} {f : Cal → Ev} (h : callM L ce o m apos args pos = some f) : SE Z W X (.Call (.Attribute o m apos) args [] pos) (f C) := by
  have hK := G.fa.hK
  unfold callM at h
  split at h
  · cases h
  rename_i h0
  have h0 : ((noStar args = true ∧ Nat.blt args.length 20 = true) ∧ (apos.endLine == pos.line) = true) ∧ isSup o = false := by
    cases q : (noStar args && Nat.blt args.length 20 && (apos.endLine == pos.line) && !isSup o) with
    | false => rw [q] at h0; exact absurd rfl h0
    | true => simpa only [Bool.and_eq_true, Bool.not_eq_true'] using q
  obtain ⟨⟨⟨hst, hn⟩, hl⟩, hs⟩ := h0
  split at h
  · rename_i c id np dfl hc
    obtain ⟨x, p, f', rfl, hok, hg, hm, hk, h1, h2⟩ := cmC_ok G hc
    cases args with
    | nil => cases h
    | cons e es =>
      simp only at h
      cases q : argsC L ce (e :: es) with
      | none => rw [q] at h; cases h
      | some g =>
        rw [q] at h
        cases h
        exact se_cmeth hK hk (h2 _) G.roomN G.tk h1 hg hm (okNm1 hok) (args_ok K G _ _ q) hst hn hl
  · split at h
    · cases h
    · rename_i fo ho
      have hf := K.e W X ce C n G o fo ho
      split at h
      · rename_i c id np dfl hms
        obtain ⟨f', h1, h2⟩ := G.fa.gms _ _ _ _ _ hms
        cases q : argsC L ce args with
        | none => rw [q] at h; cases h
        | some g =>
          rw [q] at h
          cases h
          cases args with
          | nil => cases q; exact se_meth0 hK G.fa.hC (h2 _) G.roomN G.tk h1 hf (meth_eval hs hst hn hl)
          | cons e es => exact se_meth hK G.fa.hC (h2 _) G.roomN G.tk h1 hf (args_ok K G _ _ q) (star_cons (noStar_cons hst).1) (star_any (noStar_cons hst).2) (meth_eval hs hst hn hl)
      · cases args with
        | nil =>
          simp only at h
          split at h
          · rename_i hm; cases h; subst hm
            exact se_bm0 hK F.plainAttrs_list F.slot_list_pop F.type_list_pop mt_pop bm_pop hf hs hl
          · cases h
        | cons e es =>
          simp only at h
          split at h
          · rename_i g t op q1 q2
            cases h
            exact bmC2_ok G q2 hf (args_ok K G _ _ q1) hs hl hst hn
          · cases h
def nmsC (ce : CE) : List Expr → Option (List Nat)
  | [] => some []
  | .Name x _ :: r => (match idx ce.N x, nmsC ce r with
    | some i, some is => if locB ce x then some (i :: is) else none
    | _, _ => none)
  | _ :: _ => none
def tgC1 (ce : CE) : Expr → Option (List Nat × Eg)
  | .Name x _ => (match idx ce.N x with
    | some i => if locB ce x then some ([i], gNm i) else none
    | none => none)
  | .Tuple es _ _ => (nmsC ce es).map fun is => (is, gTp is)
  | _ => none
theorem nms_ok (G : Good Z W X ce C n) : ∀ (es : List Expr) (is : List Nat), nmsC ce es = some is → PGs X es (gsN is) ∧ (assignEach es X.env).length = is.length ∧ (assignEach es X.env).findIdx? (·.1) = none
  | [], is, h => by cases h; exact ⟨pgs_nil, rfl, rfl⟩
  | e :: r, is, h => by
    cases e with
    | Name x p =>
      unfold nmsC at h
      split at h
      · rename_i i js h1 h2
        split at h
        · rename_i hl
          cases h
          obtain ⟨a1, a2, a3⟩ := nms_ok G r js h2
          obtain ⟨l1, l2⟩ := G.loc hl
          have e1 : assignEach (.Name x p :: r) X.env = (false, assign (.Name x p) X.env) :: assignEach r X.env := rfl
          refine ⟨pgs_cons (pg_name G.nd' (G.ix h1) l1 l2) a1 rfl, ?_, ?_⟩
          · rw [e1, List.length_cons, a2, List.length_cons]
          · rw [e1, List.findIdx?_cons]
            simp [a3]
        · cases h
      · cases h
    | _ => cases h
def tgR1 (K : PySem.W.Frag) (ce : CE) : Expr → TG
  | .Name x _ => gName ((idx ce.N x).getD 0)
  | .Tuple es _ _ => gTup K ((nmsC ce es).getD []).length (gsN ((nmsC ce es).getD []))
  | _ => fun _ _ _ _ => False
theorem tg_ok1 (G : Good Z W X ce C n) {tg : Expr} {is : List Nat} {g : Eg} (h : tgC1 ce tg = some (is, g)) : (PG X tg (tgR1 Z.K ce tg) ∧ GS Z is (tgR1 Z.K ce tg) g) ∧ isStar tg = false := by
  cases tg with
  | Name x p =>
    simp only [tgC1] at h
    split at h
    · rename_i i hi
      split at h
      · rename_i hl
        cases h
        obtain ⟨l1, l2⟩ := G.loc hl
        simp only [tgR1, hi, Option.getD_some]
        exact ⟨⟨pg_name G.nd' (G.ix hi) l1 l2, gs_name⟩, rfl⟩
      · cases h
    · cases h
  | Tuple es k p =>
    have h : (nmsC ce es).map (fun is => (is, gTp is)) = some (is, g) := h
    cases q : nmsC ce es with
    | none => rw [q] at h; cases h
    | some js =>
      rw [q] at h
      cases h
      obtain ⟨a1, a2, a3⟩ := nms_ok G es _ q
      have := pg_tup (k := k) (pos := p) G.calm a1 a2 a3
      rw [G.fa.hK] at this
      simp only [tgR1, q, Option.getD_some]
      exact ⟨⟨this, gs_tup⟩, rfl⟩
  | _ => cases h
def gSeq : List Eg → List Av → Env → Mem → Option Env
  | [], [], e, _ => some e
  | g :: gs, a :: as, e, M => (match g a e M with
    | some e1 => gSeq gs as e1 M
    | none => none)
  | _, _, _, _ => none
def gTq (gs : List Eg) : Eg := fun a e M => match a with
  | .tup xs => gSeq gs xs e M
  | _ => none
def tgsC (ce : CE) : List Expr → Option (List Nat × List Eg)
  | [] => some ([], [])
  | e :: r => (match tgC1 ce e, tgsC ce r with
    | some (is, g), some (js, gs) => some (is ++ js, g :: gs)
    | _, _ => none)
def tgRs (K : PySem.W.Frag) (ce : CE) : List Expr → TGs
  | [] => gNil
  | e :: r => gCons (tgR1 K ce e) (tgRs K ce r)
def tgC (ce : CE) (e : Expr) : Option (List Nat × Eg) := match tgC1 ce e with
  | some z => some z
  | none => (match e with
    | .Tuple es _ _ => (tgsC ce es).map fun p => (p.1, gTq p.2)
    | _ => none)
def tgR (K : PySem.W.Frag) (ce : CE) (e : Expr) : TG := match tgC1 ce e with
  | some _ => tgR1 K ce e
  | none => (match e with
    | .Tuple es _ _ => gTup K es.length (tgRs K ce es)
    | _ => fun _ _ _ _ => False)
theorem asg_each {e : Expr} {r : List Expr} {env : PySem.Env} (h : isStar e = false) : assignEach (e :: r) env = (false, assign e env) :: assignEach r env := by
  cases e <;> first | rfl | cases h
theorem tgs_ok (G : Good Z W X ce C n) : ∀ (es : List Expr) (is : List Nat) (gs : List Eg), tgsC ce es = some (is, gs) → (PGs X es (tgRs Z.K ce es) ∧ (assignEach es X.env).length = es.length ∧ (assignEach es X.env).findIdx? (·.1) = none) ∧
    ∀ (as : List Av) (c : Rc) (e e1 : Env) (M : Mem) (σ : St) (H : Hp) (vs : List V) (Q : St → Hp → Prop), At Z c e M σ H → Reps Z c vs as → gSeq gs as e M = some e1 →
      (∀ σ', At Z c e1 M σ' H → (∀ j : Nat, j ∉ is → σ'[j]? = σ[j]?) → σ'.length = σ.length → Q σ' H) → tgRs Z.K ce es vs σ H Q ∧ vs.length = es.length
  | [], is, gs, h => by
    cases h
    refine ⟨⟨pgs_nil, rfl, rfl⟩, fun as c e e1 M σ H vs Q a r h q => ?_⟩
    cases r with
    | nil => cases h; exact ⟨⟨rfl, q σ a (fun _ _ => rfl) rfl⟩, rfl⟩
    | cons _ _ => cases h
  | t :: r, is, gs, h => by
    unfold tgsC at h
    split at h
    · rename_i is1 g1 js gs1 h1 h2
      cases h
      obtain ⟨⟨p1, p2⟩, p3⟩ := tg_ok1 G h1
      obtain ⟨⟨q1, q2, q3⟩, q4⟩ := tgs_ok G r js gs1 h2
      have e1 := asg_each (r := r) (env := X.env) p3
      refine ⟨⟨pgs_cons p1 q1 (by rw [e1]; rfl), by rw [e1]; simp [q2], by rw [e1, List.findIdx?_cons]; simp [q3]⟩, fun as c e e2 M σ H vs Q a rr h q => ?_⟩
      cases rr with
      | nil => cases h
      | cons r1 r2 =>
        simp only [gSeq] at h
        split at h
        · rename_i e3 hg
          have key : ∀ σ', At Z c e3 M σ' H → (∀ j : Nat, j ∉ is1 → σ'[j]? = σ[j]?) → σ'.length = σ.length → tgRs Z.K ce r _ σ' H Q ∧ _ := fun σ' a' z1 z2 =>
            q4 _ c e3 e2 M σ' H _ Q a' r2 h fun σ2 a2 z3 z4 => q σ2 a2 (fun j hj => by
              rw [z3 j (fun z => hj (List.mem_append_right _ z)), z1 j (fun z => hj (List.mem_append_left _ z))]) (by rw [z4, z2])
          have hlen : ∀ {as : List Av} {e e' : Env}, gSeq gs1 as e M = some e' → as.length = r.length := by
            clear key h q hg r1 r2 q4 q1 q2 q3 e1 a
            intro as e e' hh
            have aux : ∀ (es : List Expr) (js : List Nat) (gs : List Eg), tgsC ce es = some (js, gs) → gs.length = es.length := by
              intro es
              induction es with
              | nil => intro js gs h; cases h; rfl
              | cons t es ih =>
                intro js gs h
                unfold tgsC at h
                split at h
                · rename_i _ _ _ _ _ h2'
                  cases h
                  simp [ih _ _ h2']
                · cases h
            rw [← aux r js gs1 h2]
            clear aux h2
            induction gs1 generalizing as e with
            | nil =>
              cases as with
              | nil => rfl
              | cons _ _ => cases hh
            | cons g gs ih =>
              cases as with
              | nil => cases hh
              | cons x as =>
                simp only [gSeq] at hh
                split at hh
                · simp [ih hh]
                · cases hh
          refine ⟨⟨_, _, rfl, p2 c e e3 M σ H _ _ _ a r1 hg fun σ' a' z1 z2 => (key σ' a' z1 z2).1⟩, ?_⟩
          rw [List.length_cons, List.length_cons, r2.length, hlen h]
        · cases h
    · cases h
theorem tg_ok2 (G : Good Z W X ce C n) {tg : Expr} {is : List Nat} {g : Eg} (h : tgC ce tg = some (is, g)) : PG X tg (tgR Z.K ce tg) ∧ GS Z is (tgR Z.K ce tg) g := by
  unfold tgC at h
  unfold tgR
  split at h
  · rename_i z hz
    cases h
    exact (tg_ok1 G hz).1
  · rename_i hz
    split at h
    · rename_i es k p
      obtain ⟨q, h1, h2⟩ := map_some h
      cases h2
      obtain ⟨⟨a1, a2, a3⟩, a4⟩ := tgs_ok G es q.1 q.2 h1
      have := pg_tup (k := k) (pos := p) G.calm a1 a2 a3
      rw [G.fa.hK] at this
      refine ⟨this, fun c e e1 M σ H x a Q at_ r h q => ?_⟩
      cases r with
      | tup h1 r1 =>
        obtain ⟨z1, z2⟩ := a4 _ c e e1 M σ H _ Q at_ r1 h q
        exact ⟨_, _, rfl, same_t at_.s.g h1, z2, z1⟩
      | _ => cases h
    · cases h
theorem tg_ok (G : Good Z W X ce C n) {tg : Expr} {is : List Nat} {g : Eg} (h : tgC ce tg = some (is, g)) : ∃ t, PG X tg t ∧ GS Z is t g := ⟨_, tg_ok2 G h⟩
def itG (L : Lv) (ce : CE) (it : Expr) : Option (Cal → Ei) := match L.e ce it with
  | some f => some fun C => iSeq (f C)
  | none => none
def itC (L : Lv) (ce : CE) (tg : Expr) (it : Expr) : Option (Cal → Ei) :=
  match it with
  | .Call (.Name x _) args [] _ =>
    if noStar args && glB ce.sc x then (match ce.tb.G x with
      | some .fre =>
        if x = "range" then (match args, argsC L ce args with
          | [_], some g => some fun C => iRng1A (g C)
          | [_, _], some g => some fun C => iRng2A (g C)
          | _, _ => none)
        else if x = "enumerate" then (match tg, args, argsC L ce args with
          | .Tuple _ _ _, [_], some g => some fun C => iEnmA (g C)
          | _, _, _ => none)
        else if x = "zip" then (match tg, args, argsC L ce args with
          | .Tuple _ _ _, [_, _], some g => some fun C => iZipE (g C)
          | _, _, _ => none)
        else itG L ce it
      | _ => itG L ce it)
    else itG L ce it
  | _ => itG L ce it
theorem it_ok (K : LvOk Z L) (G : Good Z W X ce C n) {tg it : Expr} {f : Cal → Ei} (h : itC L ce tg it = some f) : SI Z W X tg it (f C) := by
  have gen : ∀ it, itG L ce it = some f → SI Z W X tg it (f C) := fun it h => by
    unfold itG at h
    cases q : L.e ce it with
    | none => rw [q] at h; cases h
    | some g => rw [q] at h; cases h; exact si_seq G.fa.hK (K.e W X ce C n G it g q)
  unfold itC at h
  split at h
  · rename_i x p args pos
    split at h
    · rename_i hz
      simp only [Bool.and_eq_true] at hz
      split at h
      · rename_i hG
        split at h
        · rename_i hx
          subst hx
          split at h
          · rename_i a g q
            cases h
            exact si_rng1 (G.gl hz.2) (G.fa.gfr _ hG) (args_ok K G _ _ q) (star_cons (noStar_cons hz.1).1)
          · rename_i a b g q
            cases h
            have h1 := noStar_cons hz.1
            have h2 := star_cons (es := []) (env := X.env) (noStar_cons h1.2).1
            exact si_rng2 (G.gl hz.2) (G.fa.gfr _ hG) (args_ok K G _ _ q) (by rw [star_cons h1.1, h2]; rfl) h2
          · cases h
        split at h
        · rename_i hx
          subst hx
          split at h
          · rename_i a g q
            cases h
            exact si_enm G.fa.hK (G.gl hz.2) (G.fa.gfr _ hG) (args_ok K G _ _ q) (star_cons (noStar_cons hz.1).1)
          · cases h
        split at h
        · rename_i hx
          subst hx
          split at h
          · rename_i a b g q
            cases h
            exact si_zip G.fa.hK (G.gl hz.2) (G.fa.gfr _ hG) (args_ok K G _ _ q) hz.1
          · cases h
        · exact gen _ h
      · exact gen _ h
    · exact gen _ h
  · exact gen _ h
end
end Pd
set_option maxHeartbeats 2000000
namespace Pd
open PySem PySem.Spec L2
section
variable {Z : Sc} {W : WX} {X : Cx} {ce : CE} {C : Cal} {n : Nat} {L : Lv}
def isOwn : NameKind → Bool
  | .local => true
  | .cell => true
  | _ => false
def blkOwn (N : List Str) : List (Str × NameKind) → List (Str × Nat)
  | [] => []
  | (y, k) :: r => if isOwn k then (match idx N y with
    | some i => (y, i) :: blkOwn N r
    | none => blkOwn N r) else blkOwn N r
def isFree : NameKind → Bool
  | .free => true
  | _ => false
def upB (sc : Scope) (x : Str) : Bool := match sc.names.lookup x with
  | some .cell => true
  | some .free => true
  | _ => false
def blkB (ce : CE) (scope : Scope) : Bool :=
  decide (scope.kind = .function) && scope.names.all (fun y => decide (scope.names.lookup y.1 = some y.2)) && scope.names.all (fun y => !isFree y.2 || upB ce.sc y.1)
theorem idx_none {N : List Str} {x : Str} (h : idx N x = none) : x ∉ N := by
  unfold idx at h
  rw [List.findIdx?_eq_none_iff] at h
  intro hx
  have := h x hx
  simp at this
theorem own_ix {N : List Str} : ∀ {l : List (Str × NameKind)} {p : Str × Nat}, p ∈ blkOwn N l → N[p.2]? = some p.1
  | [], _, h => by cases h
  | (y, k) :: r, p, h => by
    unfold blkOwn at h
    split at h
    · split at h
      · rename_i i hi
        rcases List.mem_cons.mp h with e | h
        · subst e; exact idx_ok hi
        · exact own_ix h
      · exact own_ix h
    · exact own_ix h
theorem own_mem {N : List Str} {y : Str × NameKind} (hy : isOwn y.2 = true) : ∀ {l : List (Str × NameKind)}, y ∈ l → y.1 ∈ (blkOwn N l).map (·.1) ∨ y.1 ∉ N
  | [], h => by cases h
  | (z, k) :: r, h => by
    unfold blkOwn
    rcases List.mem_cons.mp h with e | h
    · subst e
      rw [if_pos hy]
      split
      · exact .inl (by simp)
      · rename_i hi; exact .inr (idx_none hi)
    · rcases own_mem hy h with q | q
      · refine .inl ?_
        split
        · split
          · exact List.mem_cons_of_mem _ q
          · exact q
        · exact q
      · exact .inr q
theorem blk_ok (G : Good Z W X ce C n) {scope : Scope} (h : blkB ce scope = true) : BlkOk X.N X.env.scope scope (blkOwn ce.N scope.names) := by
  simp only [blkB, Bool.and_eq_true, decide_eq_true_eq, List.all_eq_true, Bool.or_eq_true, Bool.not_eq_true'] at h
  obtain ⟨⟨h1, h2⟩, h3⟩ := h
  refine ⟨h1, h2, fun p hp => by rw [G.hN]; exact own_ix hp, fun y hy e => ?_, fun y hy e => ?_⟩
  · rcases h3 y hy with q | q
    · rw [e] at q; cases q
    · rw [G.sc]
      unfold upB at q
      split at q
      · exact .inl ‹_›
      · exact .inr ‹_›
      · cases q
  · rw [G.hN]
    exact own_mem (by rcases e with e | e <;> rw [e] <;> rfl) hy
def CE.blk (ce : CE) (scope : Scope) : CE := { ce with sc := relS scope ce.sc, fn := fun x => scope.names.lookup x == some .cell }
theorem takes_no : Takes X WNo := fun u s' ⟨a, B, sI, pins, σ, H, cls, d, e, I, nb, up, sky, na, os, ag, w⟩ => w.elim
theorem Facts.to {X' : Cx} {tb : Tb} (F : Facts Z X tb C n) (h1 : X'.prog = X.prog) (h2 : X'.w = X.w) (h3 : X'.K = X.K) (h4 : X'.mg = X.mg) (h5 : X'.base = X.base) : Facts Z X' tb C n := by
  have cal : ∀ {k sem dfl f}, Callee Z X k sem dfl f → Callee Z X' k sem dfl f := fun {k sem dfl f} c => by
    refine ⟨?_, by rw [h3]; exact c.kp⟩
    rw [h1, h2, h3, h4, h5]; exact c.ex
  have mak : ∀ {k c sem dfl}, Maker Z X k c sem dfl → Maker Z X' k c sem dfl := fun {k c sem dfl} m => by
    refine ⟨?_, m.hk⟩
    rw [h1, h2, h3, h4, h5]; exact m.ex
  refine ⟨by rw [h3]; exact F.hK, by rw [h2]; exact F.hw, F.hC, F.hI, fun x id np dfl h => ?_, fun x c id np dfl fz h => ?_, fun x v h => ?_, fun x h => by rw [h4]; exact F.gfr x h, fun m c id np dfl h => ?_, fun m c id np dfl h => ?_, F.gfl, ⟨fun k id h => ?_⟩, ⟨fun m k id h => ?_⟩, F.gad, F.gai, F.gas, F.ger, fun x k n h => ?_, fun y m h => ?_, fun m c id h => ?_⟩
  · obtain ⟨f, a, b⟩ := F.gfn x id np dfl h
    exact ⟨f, by rw [h4]; exact a, fun j => cal (b j)⟩
  · obtain ⟨a, b, d⟩ := F.gcl x c id np dfl fz h
    exact ⟨by rw [h4]; exact a, b, fun j => mak (d j)⟩
  · obtain ⟨u, y, a, b⟩ := F.gco x v h
    exact ⟨u, y, by rw [h4]; exact a, b⟩
  · obtain ⟨f, a, b⟩ := F.gms m c id np dfl h
    exact ⟨f, by rw [h3]; exact a, fun j => cal (b j)⟩
  · obtain ⟨f, a, b⟩ := F.gcm m c id np dfl h
    exact ⟨f, a, fun j => cal (b j)⟩
  · obtain ⟨f, a, b⟩ := F.geq.h k id h
    exact ⟨f, a, cal b⟩
  · obtain ⟨f, a, b⟩ := F.gdn.h m k id h
    exact ⟨f, a, cal b⟩
  · obtain ⟨a, b, c, d⟩ := F.gxn x k n h
    exact ⟨by rw [h1, h3]; exact a, by rw [h1]; exact b, by rw [h4]; exact c, by rw [h4]; exact d⟩
  · rw [h3, h4]
    exact F.gxm y m h
  · obtain ⟨g, p, hk, hp, cl⟩ := F.gpr m c id h
    exact ⟨g, p, hk, by rw [h3]; exact hp, cal cl⟩
theorem Good.blk (G : Good Z W X ce C n) {scope : Scope} (hk : scope.kind = .function) (s : Shared) (H : Hp) (D : Addr) (cl : List (Str × Addr)) (fp : List Addr) : Good Z WNo (X.blk s H scope (compEnvC scope cl D X.env) fp) (ce.blk scope) C n where
  fa := G.fa.to rfl rfl rfl rfl rfl
  hN := G.hN
  nd := G.nd
  sc := by
    show relS scope X.env.scope = relS scope ce.sc
    rw [G.sc]
  kd := hk
  fn := fun x h => h
  calm := G.calm
  room := G.room
  tk := takes_no
  gd := G.gd
def tYesA : Et := fun _ M => .ok true M
theorem _root_.L2.PTs.imp {X : Cx} {es : List Expr} {t t' : TT} (h : PTs X es t) (i : ∀ σ H Q, t' σ H Q → t σ H Q) : PTs X es t' := ⟨fun pins s σ H Q I q => h.run pins s σ H Q I (i σ H Q q)⟩
def ifsC (L : Lv) (ce : CE) : List Expr → Option (Cal → Et)
  | [] => some fun _ => tYesA
  | [c] => L.t ce c
  | _ => none
theorem ifs_ok (K : LvOk Z L) (G : Good Z W X ce C n) {ifs : List Expr} {t : Cal → Et} (h : ifsC L ce ifs = some t) : PTs X ifs (T Z W (fun _ (x b : Bool) => x = b) (t C)) := by
  unfold ifsC at h
  split at h
  · cases h
    exact pts_nil.imp fun σ H Q ⟨c, e, M, a, h⟩ => h.here a.s rfl
  · exact pts_one (K.t W X ce C n G _ _ h)
  · cases h
def lcC (L : Lv) (ce : CE) (m : Bool) (elt : Expr) (gens : List Comprehension) (scope : Scope) : Option (Cal → Ev) := match gens with
  | [⟨tg, iter, ifs, 0⟩] => if blkB ce scope && !isSetE iter then (match itC L ce tg iter, tgC (ce.blk scope) tg, ifsC L (ce.blk scope) ifs, L.e (ce.blk scope) elt with
    | some fi, some (is, g), some t, some f => if is.all (fun i => ((blkOwn ce.N scope.names).map (·.2)).contains i) then some fun C => eLc m (fi C) g (t C) (f C) ((blkOwn ce.N scope.names).map (·.2)) else none
    | _, _, _, _ => none) else none
  | _ => none
structure LcOk (Z : Sc) (W : WX) (X : Cx) (ce : CE) (C : Cal) (elt : Expr) (gens : List Comprehension) (scope : Scope) (f : Ev) : Prop where
  ex : ∃ tg iter ifs wi g tt te, gens = [⟨tg, iter, ifs, 0⟩] ∧ PI X tg iter wi ∧ BlkOk X.N X.env.scope scope (blkOwn ce.N scope.names) ∧
    (∀ (s : Shared) (H : Hp) (C : Addr) (cl : List (Str × Addr)) (fp : List Addr), PG (X.blk s H scope (compEnvC scope cl C X.env) fp) tg g) ∧
    (∀ (s : Shared) (H : Hp) (C : Addr) (cl : List (Str × Addr)) (fp : List Addr), PTs (X.blk s H scope (compEnvC scope cl C X.env) fp) ifs tt) ∧
    (∀ (s : Shared) (H : Hp) (C : Addr) (cl : List (Str × Addr)) (fp : List Addr), PE (X.blk s H scope (compEnvC scope cl C X.env) fp) elt te) ∧ (∀ x, foldedSetIterable iter X.env x = pure x) ∧
    ∀ σ H Q, T Z W (Rep Z) f σ H Q → tLc wi g tt te ((blkOwn ce.N scope.names).map (·.2)) σ H Q
theorem lcC_ok (K : LvOk Z L) (G : Good Z W X ce C n) {m : Bool} {elt : Expr} {gens : List Comprehension} {scope : Scope} {f : Cal → Ev} (h : lcC L ce m elt gens scope = some f) : LcOk Z W X ce C elt gens scope (f C) := by
  unfold lcC at h
  split at h
  · rename_i tg iter ifs
    split at h
    · rename_i hb
      simp only [Bool.and_eq_true, Bool.not_eq_true'] at hb
      have hk : scope.kind = .function := by
        have := hb.1
        simp only [blkB, Bool.and_eq_true, decide_eq_true_eq] at this
        exact this.1.1
      split at h
      · rename_i fi is g t fe h1 h2 h3 h4
        split at h
        · rename_i hz
          cases h
          have hg := fun s H D cl fp => tg_ok2 (G.blk hk s H D cl fp) h2
          have G0 : ∀ (s : Shared) (H : Hp) (D : Addr) (cl : List (Str × Addr)) (fp : List Addr), _ := fun s H D cl fp => G.blk hk s H D cl fp
          refine ⟨tg, iter, ifs, _, tgR Z.K (ce.blk scope) tg, _, _, rfl, it_ok K G h1, blk_ok G hb.1, fun s H D cl fp => (hg s H D cl fp).1, fun s H D cl fp => ifs_ok K (G0 s H D cl fp) h3, fun s H D cl fp => K.e _ _ _ _ _ (G0 s H D cl fp) _ _ h4, fold_of hb.2, imp_lc (hg X.s_0 X.H_0 0 [] []).2 fun i hi => ?_⟩
          have := List.all_eq_true.mp hz i hi
          simpa using this
        · cases h
      · cases h
    · cases h
  · cases h
theorem se_lcC {elt : Expr} {gens : List Comprehension} {scope : Scope} {f : Ev} {pos : Pos} (G : Good Z W X ce C n) (h : LcOk Z W X ce C elt gens scope f) : SE Z W X (.ListComp elt gens scope pos) f := by
  obtain ⟨tg, iter, ifs, wi, g, tt, te, rfl, h1, h2, h3, h4, h5, h6, h7⟩ := h.ex
  exact (pe_lc G.calm G.nd' h1 h2 h3 h4 h5 h6).imp h7
theorem sw_lc {elt : Expr} {gs : List Comprehension} {scope : Scope} {pos py : Pos} {y : Str} {l : Nat} {env : PySem.Env} (hk : env.scope.kind = .function) : swapsWith (.ListComp elt gs scope pos) (some (.Name y py)) l env =
    pure (env.scope.names.lookup y == some .local && py.line == pos.line && !(scope.names.any fun (n, k) => n == y && (k == .local || k == .cell))) := by
  have hb : env.blockKind = .function := by unfold Env.blockKind; rw [hk]; rfl
  unfold swapsWith
  simp only [hb, Env.kindOf, Expr.pos]
  rfl
def dcC (L : Lv) (ce : CE) (m : Bool) (kx vx : Expr) (gens : List Comprehension) (scope : Scope) : Option (Cal → Ev) := match gens with
  | [⟨tg, iter, ifs, 0⟩] => if blkB ce scope && !isSetE iter then (match itC L ce tg iter, tgC (ce.blk scope) tg, ifsC L (ce.blk scope) ifs, L.e (ce.blk scope) kx, L.e (ce.blk scope) vx with
    | some fi, some (is, g), some t, some f, some fv => if is.all (fun i => ((blkOwn ce.N scope.names).map (·.2)).contains i) then some fun C => eDc m (fi C) g (t C) (f C) (fv C) ((blkOwn ce.N scope.names).map (·.2)) else none
    | _, _, _, _, _ => none) else none
  | _ => none
theorem dcC_ok (K : LvOk Z L) (G : Good Z W X ce C n) {m : Bool} {kx vx : Expr} {gens : List Comprehension} {scope : Scope} {pos : Pos} {f : Cal → Ev} (h : dcC L ce m kx vx gens scope = some f) : SE Z W X (.DictComp kx vx gens scope pos) (f C) := by
  unfold dcC at h
  split at h
  · rename_i tg iter ifs
    split at h
    · rename_i hb
      simp only [Bool.and_eq_true, Bool.not_eq_true'] at hb
      have hk : scope.kind = .function := by
        have := hb.1
        simp only [blkB, Bool.and_eq_true, decide_eq_true_eq] at this
        exact this.1.1
      split at h
      · rename_i fi is g t fe fv h1 h2 h3 h4 h5
        split at h
        · rename_i hz
          cases h
          have hg := fun s H D cl fp => tg_ok2 (G.blk hk s H D cl fp) h2
          have G0 : ∀ (s : Shared) (H : Hp) (D : Addr) (cl : List (Str × Addr)) (fp : List Addr), _ := fun s H D cl fp => G.blk hk s H D cl fp
          refine (pe_dc G.calm G.nd' (it_ok K G h1) (blk_ok G hb.1) (fun s H D cl fp => (hg s H D cl fp).1) (fun s H D cl fp => ifs_ok K (G0 s H D cl fp) h3) (fun s H D cl fp => K.e _ _ _ _ _ (G0 s H D cl fp) _ _ h4) (fun s H D cl fp => K.e _ _ _ _ _ (G0 s H D cl fp) _ _ h5) (fold_of hb.2)).imp (imp_dc (hg X.s_0 X.H_0 0 [] []).2 fun i hi => ?_)
          have := List.all_eq_true.mp hz i hi
          simpa using this
        · cases h
      · cases h
    · cases h
  · cases h
theorem sw_dc {kx vx : Expr} {gs : List Comprehension} {scope : Scope} {pos py : Pos} {y : Str} {l : Nat} {env : PySem.Env} (hk : env.scope.kind = .function) : swapsWith (.DictComp kx vx gs scope pos) (some (.Name y py)) l env =
    pure (env.scope.names.lookup y == some .local && py.line == pos.line && !(scope.names.any fun (n, k) => n == y && (k == .local || k == .cell))) := by
  have hb : env.blockKind = .function := by unfold Env.blockKind; rw [hk]; rfl
  unfold swapsWith
  simp only [hb, Env.kindOf, Expr.pos]
  rfl
def prsC (L : Lv) (ce : CE) : List (Option Expr) → List Expr → Option (Cal → List (Ev × Ev))
  | [], [] => some fun _ => []
  | some k :: ks, v :: vs => (match L.e ce k, L.e ce v, prsC L ce ks vs with
    | some f, some g, some r => some fun C => (f C, g C) :: r C
    | _, _, _ => none)
  | _, _ => none
theorem prs_ok (K : LvOk Z L) (G : Good Z W X ce C n) : ∀ (ks : List (Option Expr)) (vs : List Expr) (r : Cal → List (Ev × Ev)), prsC L ce ks vs = some r → SPs Z W X ks vs (r C)
  | [], [], r, h => by cases h; exact .nil
  | some k :: ks, v :: vs, r, h => by
    simp only [prsC] at h
    split at h
    · rename_i f g q h1 h2 h3
      cases h
      exact .cons (K.e W X ce C n G _ _ h1) (K.e W X ce C n G _ _ h2) (prs_ok K G ks vs _ h3)
    · cases h
  | [], _ :: _, r, h => by cases h
  | none :: _, _, r, h => by cases h
  | some _ :: _, [], r, h => by cases h
def dispC (L : Lv) (ce : CE) (m : Bool) (ks : List (Option Expr)) (vs : List Expr) : Option (Cal → Ev) := if !ks.isEmpty && Nat.ble ks.length 15 then (prsC L ce ks vs).map fun r C => eDisp m (r C) else none
theorem dispC_ok (K : LvOk Z L) (G : Good Z W X ce C n) {m : Bool} {ks : List (Option Expr)} {vs : List Expr} {pos : Pos} {f : Cal → Ev} (h : dispC L ce m ks vs = some f) : SE Z W X (.Dict ks vs pos) (f C) := by
  unfold dispC at h
  split at h
  · rename_i hz
    simp only [Bool.and_eq_true, Bool.not_eq_true'] at hz
    obtain ⟨r, h1, rfl⟩ := map_some h
    refine se_disp (prs_ok K G _ _ _ h1) ?_ (Nat.le_of_ble_eq_true hz.2)
    intro e
    subst e
    simp at hz
  · cases h
end
end Pd
set_option maxHeartbeats 2000000
namespace Pd
open PySem PySem.Spec L2
section
variable {Z : Sc} {W : WX} {X : Cx} {ce : CE} {C : Cal} {n : Nat} {L : Lv}
def conC : Const → Option Av
  | .int i => some (.int i)
  | .bool b => some (.bl b)
  | .none => some .non
  | .str x => some (.str x)
  | _ => none
theorem con_ok {c : Const} {v : Av} {j : Nat} {pos : Pos} (h : conC c = some v) : SE Z W X (.Constant c j pos) (eC v) := by
  cases c <;> simp only [conC] at h <;> first
    | (cases h; first | exact se_int | exact se_bl | exact se_non | exact se_str)
    | cases h
def cmpE (L : Lv) (ce : CE) (a : Expr) (ops : List CmpOp) (bs : List Expr) : Option (Cal → Ev) := match ops, bs with
  | [o], [b] => (match L.e ce a, L.e ce b, cmpC ce.tb.eq o with
    | some fa, some fb, some op => if isSetE b then none else some fun C => eBin (op C) (fa C) (fb C)
    | _, _, _ => none)
  | [o, o'], [b, d] => (match L.e ce a, L.e ce b, L.e ce d, ordC o, ordC o' with
    | some fa, some fb, some fd, some op, some op' => if isSetE d then none else some fun C => eChain op op' (fa C) (fb C) (fd C)
    | _, _, _, _, _ => none)
  | _, _ => none
def cmpT (L : Lv) (ce : CE) (a : Expr) (ops : List CmpOp) (bs : List Expr) : Option (Cal → Et) := match ops, bs with
  | [o], [b] => (match L.e ce a, L.e ce b, cmpC ce.tb.eq o with
    | some fa, some fb, some op => if isSetE b then none else some fun C => tCmpA (op C) (fa C) (fb C)
    | _, _, _ => none)
  | [o, o'], [b, d] => (match L.e ce a, L.e ce b, L.e ce d, ordC o, ordC o' with
    | some fa, some fb, some fd, some op, some op' => if isSetE d then none else some fun C => tBl (eChain op op' (fa C) (fb C) (fd C))
    | _, _, _, _, _ => none)
  | _, _ => none
theorem cmpE_ok (K : LvOk Z L) (G : Good Z W X ce C n) {a : Expr} {ops : List CmpOp} {bs : List Expr} {pos : Pos} {f : Cal → Ev} (h : cmpE L ce a ops bs = some f) : SE Z W X (.Compare a ops bs pos) (f C) := by
  unfold cmpE at h
  split at h
  · split at h
    · rename_i fa fb op h1 h2 h3
      split at h
      · cases h
      · rename_i hz
        cases h
        obtain ⟨r, r1, r2⟩ := cmp_ok G h3
        exact se_cmp r1 r2 (K.e W X ce C n G _ _ h1) (K.e W X ce C n G _ _ h2) (marks_of (by simpa using hz))
    · cases h
  · split at h
    · rename_i fa fb fd op op' h1 h2 h3 h4 h5
      split at h
      · cases h
      · rename_i hz
        cases h
        obtain ⟨r, r1, _, r2⟩ := ord_ok (X := X) (Z := Z) (W := W) h4
        obtain ⟨q, q1, q2, _⟩ := ord_ok (X := X) (Z := Z) (W := W) h5
        exact se_chain r1 q1 r2 q2 (K.e W X ce C n G _ _ h1) (K.e W X ce C n G _ _ h2) (K.e W X ce C n G _ _ h3) (by show behindInMarks _ _ = false; exact marks_of (by simpa using hz))
    · cases h
  · cases h
theorem cmpT_ok (K : LvOk Z L) (G : Good Z W X ce C n) {a : Expr} {ops : List CmpOp} {bs : List Expr} {pos : Pos} {f : Cal → Et} (h : cmpT L ce a ops bs = some f) : ST Z W X (.Compare a ops bs pos) (f C) := by
  unfold cmpT at h
  split at h
  · split at h
    · rename_i fa fb op h1 h2 h3
      split at h
      · cases h
      · rename_i hz
        cases h
        obtain ⟨r, r1, r2⟩ := cmp_ok G h3
        exact st_cmp r1 r2 (K.e W X ce C n G _ _ h1) (K.e W X ce C n G _ _ h2) (marks_of (by simpa using hz))
    · cases h
  · split at h
    · rename_i fa fb fd op op' h1 h2 h3 h4 h5
      split at h
      · cases h
      · rename_i hz
        cases h
        obtain ⟨r, r1, _, r2⟩ := ord_ok (X := X) (Z := Z) (W := W) h4
        obtain ⟨q, q1, q2, _⟩ := ord_ok (X := X) (Z := Z) (W := W) h5
        exact st_chain r1 q1 r2 q2 (K.e W X ce C n G _ _ h1) (K.e W X ce C n G _ _ h2) (K.e W X ce C n G _ _ h3) (by show behindInMarks _ _ = false; exact marks_of (by simpa using hz))
    · cases h
  · cases h
def eRev (f : Ev) : Ev := fun e M => (f e M).bind fun a M1 => match asR M1 a with
  | some xs => .ok (.lst xs.reverse) M1
  | none => .bad
theorem Reps.reverse {c : Rc} : ∀ {vs : List V} {xs : List Av}, Reps Z c vs xs → Reps Z c vs.reverse xs.reverse
  | _, _, .nil => .nil
  | _, _, .cons r t => by
    rw [List.reverse_cons, List.reverse_cons]
    exact (Reps.reverse t).append (.cons r .nil)
theorem se_rev {a : Expr} {f : Ev} {k : Nat} {p1 p2 p3 pos : Pos} (hK : X.K = Z.K) (h : SE Z W X a f) : SE Z W X (.Subscript a (.Slice none none (some (.UnaryOp .USub (.Constant (.int 1) k p1) p2)) p3) pos) (eRev f) := by
  have q := pe_revL (k := k) (p1 := p1) (p2 := p2) (p3 := p3) (pos := pos) h
  rw [hK] at q
  refine q.imp fun σ H Q ⟨c, e, M, at_, h⟩ => ?_
  refine step (R1 := Rep Z) at_ h fun c1 x v M1 H1 l1 a1 r1 h1 => ?_
  split at h1
  · rename_i xs hx
    obtain ⟨l, vs, rfl, q1, q2⟩ := asR_rep a1.s r1 hx
    exact ⟨l, vs, rfl, q1, fun p hp => h1.lst a1.s q2.reverse hp⟩
  · exact h1.elim
def eRevM (f : Ev) : Ev := fun e M => (f e M).bind fun a M1 => match asR M1 a with
  | some xs => .ok (.ref M1.length) (M1 ++ [some (.lst xs.reverse)])
  | none => .bad
theorem se_revM {a : Expr} {f : Ev} {k : Nat} {p1 p2 p3 pos : Pos} (hK : X.K = Z.K) (h : SE Z W X a f) : SE Z W X (.Subscript a (.Slice none none (some (.UnaryOp .USub (.Constant (.int 1) k p1) p2)) p3) pos) (eRevM f) := by
  have q := pe_revL (k := k) (p1 := p1) (p2 := p2) (p3 := p3) (pos := pos) h
  rw [hK] at q
  refine q.imp fun σ H Q ⟨c, e, M, at_, h⟩ => ?_
  refine step (R1 := Rep Z) at_ h fun c1 x v M1 H1 l1 a1 r1 h1 => ?_
  split at h1
  · rename_i xs hx
    obtain ⟨l, vs, rfl, q1, q2⟩ := asR_rep a1.s r1 hx
    exact ⟨l, vs, rfl, q1, fun p hp => h1.own a1.s (show RepO Z c1 p (.lst vs.reverse) (.lst xs.reverse) from q2.reverse) hp⟩
  · exact h1.elim
def isRev : Expr → Bool
  | .Slice none none (some (.UnaryOp .USub (.Constant (.int 1) _ _) _)) _ => true
  | _ => false
theorem isRev_eq {b : Expr} (h : isRev b = true) : ∃ k p1 p2 p3, b = .Slice none none (some (.UnaryOp .USub (.Constant (.int 1) k p1) p2)) p3 := by
  unfold isRev at h
  split at h
  · exact ⟨_, _, _, _, rfl⟩
  · cases h
def isRevOf : Expr → Option Expr
  | .Subscript a b _ => if isRev b then some a else none
  | _ => none
theorem isRevOf_eq {e a : Expr} (h : isRevOf e = some a) : ∃ k p1 p2 p3 pos, e = .Subscript a (.Slice none none (some (.UnaryOp .USub (.Constant (.int 1) k p1) p2)) p3) pos := by
  unfold isRevOf at h
  split at h
  · split at h
    · rename_i hb
      cases h
      obtain ⟨k, p1, p2, p3, rfl⟩ := isRev_eq hb
      exact ⟨k, p1, p2, p3, _, rfl⟩
    · cases h
  · cases h
def argsM (L : Lv) (ce : CE) : List Expr → Option (Cal → Ea)
  | [] => some fun _ => aNil
  | e :: es => if isStar e then none else (match isRevOf e with
    | some a => opt2 (L.e ce a) (argsM L ce es) fun f g C => aCons (eRevM (f C)) (g C)
    | none => opt2 (L.e ce e) (argsM L ce es) fun f g C => aCons (f C) (g C))
theorem argsM_ok (K : LvOk Z L) (G : Good Z W X ce C n) : ∀ (es : List Expr) (g : Cal → Ea), argsM L ce es = some g → SA Z W X es (g C)
  | [], g, h => by cases h; exact sa_nil
  | e :: es, g, h => by
    unfold argsM at h
    split at h
    · cases h
    · rename_i hs
      have hs : isStar e = false := by simpa using hs
      split at h
      · rename_i a ha
        obtain ⟨k, p1, p2, p3, pos, rfl⟩ := isRevOf_eq ha
        obtain ⟨f, g', h1, h2, rfl⟩ := opt2_some h
        exact sa_cons (se_revM G.fa.hK (K.e W X ce C n G _ _ h1)) (argsM_ok K G es g' h2) (star_cons hs)
      · obtain ⟨f, g', h1, h2, rfl⟩ := opt2_some h
        exact sa_cons (K.e W X ce C n G _ _ h1) (argsM_ok K G es g' h2) (star_cons hs)
def subC (L : Lv) (ce : CE) (a b : Expr) : Option (Cal → Ev) := if isRev b then (L.e ce a).map fun f C => eRev (f C) else match b with
  | .Slice lo hi none _ => (match L.e ce a, optC L ce lo, optC L ce hi with
    | some f, some l, some h => some fun C => eSl (f C) (l C) (h C)
    | _, _, _ => none)
  | b => if isSlice b then none else (match L.e ce a, L.e ce b with
    | some f, some g => some fun C => eBin (opIxO ce.tb.dn C) (f C) (g C)
    | _, _ => none)
theorem sub_ok (K : LvOk Z L) (G : Good Z W X ce C n) {a b : Expr} {pos : Pos} {f : Cal → Ev} (h : subC L ce a b = some f) : SE Z W X (.Subscript a b pos) (f C) := by
  unfold subC at h
  split at h
  · rename_i hr
    obtain ⟨k, p1, p2, p3, rfl⟩ := isRev_eq hr
    obtain ⟨f', h1, rfl⟩ := map_some h
    exact se_rev G.fa.hK (K.e W X ce C n G _ _ h1)
  split at h
  · split at h
    · rename_i f' l hh h1 h2 h3
      cases h
      exact se_sl G.fa.hK (K.e W X ce C n G _ _ h1) (opt_ok K G _ _ h2) (opt_ok K G _ _ h3)
    · cases h
  · split at h
    · cases h
    · rename_i hs
      split at h
      · rename_i f' g h1 h2
        cases h
        exact se_ixO G.fa.hK G.room G.fa.gdn G.tk (by simpa using hs) (K.e W X ce C n G _ _ h1) (K.e W X ce C n G _ _ h2)
      · cases h
def joinC (L : Lv) (ce : CE) (vs : List Expr) : Option (Cal → Ev) := match vs with
  | [] => none
  | [v] => L.e ce v
  | v1 :: v2 :: r => (match fstrC L ce (v1 :: v2 :: r) with
    | some g => some fun C => eJoined (g C)
    | none => none)
theorem join_ok (K : LvOk Z L) (G : Good Z W X ce C n) {vs : List Expr} {pos : Pos} {f : Cal → Ev} (h : joinC L ce vs = some f) : SE Z W X (.JoinedStr vs pos) (f C) := by
  unfold joinC at h
  split at h
  · cases h
  · exact se_joined1 (K.e W X ce C n G _ _ h)
  · split at h
    · rename_i g h1
      cases h
      exact se_joined (fstr_ok K G _ _ h1)
    · cases h
def eS (L : Lv) (ce : CE) : Expr → Option (Cal → Ev)
  | .Name x _ => nameC ce x
  | .Constant c _ _ => (conC c).map fun v _ => eC v
  | .BinOp a o b _ => (match binC ce.tb.dn o with
    | some op => opt2 (L.e ce a) (L.e ce b) fun f g C => eBin (op C) (f C) (g C)
    | none => none)
  | .UnaryOp .Not a _ => (L.e ce a).map fun f C => eNot (f C)
  | .UnaryOp .USub a _ => (L.e ce a).map fun f C => eNeg (f C)
  | .BoolOp .And es _ => andC L ce es
  | .BoolOp .Or es _ => orC L ce es
  | .IfExp c a b _ => (match L.t ce c with
    | some t => opt2 (L.e ce a) (L.e ce b) fun f g C => eIf (t C) (f C) (g C)
    | none => none)
  | .Compare a ops bs _ => cmpE L ce a ops bs
  | .Tuple es _ _ => (argsC L ce es).map fun g C => eTup (g C)
  | .List es _ => (argsC L ce es).map fun g C => eLst (g C)
  | .Subscript a b _ => subC L ce a b
  | .Attribute o m _ => if ce.tb.fl m && !isSup o then (L.e ce o).map fun f C => eFld (f C) m else (match ce.tb.pr m with
    | some (c, id) => if isSup o then none else (L.e ce o).map fun f C => eProp c m (C id) (f C)
    | none => none)
  | .Call (.Name x _) args [] _ => callN L ce x args
  | .Call (.Attribute o m apos) args [] pos => callM L ce o m apos args pos
  | .FormattedValue e (-1) none _ => (L.e ce e).map fun f C => eFmt (f C)
  | .JoinedStr vs _ => joinC L ce vs
  | .ListComp elt gens scope _ => lcC L ce false elt gens scope
  | .DictComp kx vx gens scope _ => dcC L ce false kx vx gens scope
  | .Dict ks vs _ => dispC L ce false ks vs
  | _ => none
theorem eS_ok (K : LvOk Z L) (G : Good Z W X ce C n) {ex : Expr} {f : Cal → Ev} (h : eS L ce ex = some f) : SE Z W X ex (f C) := by
  unfold eS at h
  split at h
  · exact name_ok G h
  · obtain ⟨v, h1, rfl⟩ := map_some h; exact con_ok h1
  · split at h
    · rename_i op ho
      obtain ⟨x, y, h1, h2, rfl⟩ := opt2_some h
      obtain ⟨r, r1, r2⟩ := bin_ok G ho
      exact se_bin r1 r2 (K.e W X ce C n G _ _ h1) (K.e W X ce C n G _ _ h2)
    · cases h
  · obtain ⟨v, h1, rfl⟩ := map_some h; exact se_not (K.e W X ce C n G _ _ h1)
  · obtain ⟨v, h1, rfl⟩ := map_some h; exact se_neg (K.e W X ce C n G _ _ h1)
  · exact and_ok K G _ _ h
  · exact or_ok K G _ _ h
  · split at h
    · rename_i t ht
      obtain ⟨x, y, h1, h2, rfl⟩ := opt2_some h
      exact se_if (K.t W X ce C n G _ _ ht) (K.e W X ce C n G _ _ h1) (K.e W X ce C n G _ _ h2)
    · cases h
  · exact cmpE_ok K G h
  · obtain ⟨v, h1, rfl⟩ := map_some h; exact se_tup (args_ok K G _ _ h1)
  · obtain ⟨v, h1, rfl⟩ := map_some h; exact se_lst (args_ok K G _ _ h1)
  · exact sub_ok K G h
  · split at h
    · rename_i hz
      simp only [Bool.and_eq_true, Bool.not_eq_true'] at hz
      obtain ⟨v, h1, rfl⟩ := map_some h
      exact se_fld G.fa.hK G.fa.hC (G.fa.gfl _ hz.1) (K.e W X ce C n G _ _ h1) (base_of hz.2)
    · split at h
      · rename_i c id hpr
        split at h
        · cases h
        · rename_i hs
          obtain ⟨v, h1, rfl⟩ := map_some h
          obtain ⟨g, p, hk, hp, cl⟩ := G.fa.gpr _ _ _ hpr
          exact se_prop G.fa.hK G.fa.hC hk hp cl G.room (K.e W X ce C n G _ _ h1) (base_of (by simpa using hs))
      · cases h
  · exact callN_ok K G h
  · exact callM_ok K G h
  · obtain ⟨v, h1, rfl⟩ := map_some h; exact se_fmt (K.e W X ce C n G _ _ h1)
  · exact join_ok K G h
  · exact se_lcC G (lcC_ok K G h)
  · exact dcC_ok K G h
  · exact dispC_ok K G h
  · cases h
def tS (L : Lv) (ce : CE) : Expr → Option (Cal → Et)
  | .UnaryOp .Not a _ => (L.t ce a).map fun f C => tNotA (f C)
  | .BoolOp .And es _ => andT L ce es
  | .BoolOp .Or es _ => orT L ce es
  | .Compare a ops bs _ => cmpT L ce a ops bs
  | e => if evT e then none else (L.e ce e).map fun f C => tVal (f C)
theorem tS_ok (K : LvOk Z L) (G : Good Z W X ce C n) {ex : Expr} {f : Cal → Et} (h : tS L ce ex = some f) : ST Z W X ex (f C) := by
  unfold tS at h
  split at h
  · obtain ⟨v, h1, rfl⟩ := map_some h; exact st_not (K.t W X ce C n G _ _ h1)
  · exact (andT_ok (pos := _) K G _ _ h).pt
  · exact (orT_ok (pos := _) K G _ _ h).pt
  · exact cmpT_ok K G h
  · split at h
    · cases h
    · rename_i hz
      obtain ⟨v, h1, rfl⟩ := map_some h
      exact st_val G.fa.hK (true_of (by simpa using hz)) (K.e W X ce C n G _ _ h1)
end
end Pd
set_option maxHeartbeats 2000000
namespace Pd
open PySem PySem.Spec L2
def xIs (m : Nat → Option Bool) (k : Nat) : Ev := match m k with
  | some b => eC (.bl b)
  | none => eBad
def xIs2 (m m' : Nat → Option Bool) (k : Nat) : Ev := match m k, m' k with
  | some b, some b' => eC (.bl (b || b'))
  | _, _ => eBad
abbrev Xe := Nat → List (Str × Av) → Ev
abbrev Xt := Nat → List (Str × Av) → Et
def xisC (ce : CE) (n : Option Str) : List Expr → Option Xe
  | [.Name x _, .Name y _] => if decide (n = some x) && glB ce.sc y && okNm y then (ce.tb.xm y).map fun m k _ => xIs m k else none
  | [.Name x _, .Tuple [.Name y _, .Name z _] _ _] => if decide (n = some x) && glB ce.sc y && okNm y && glB ce.sc z && okNm z then opt2 (ce.tb.xm y) (ce.tb.xm z) fun m m' k _ => xIs2 m m' k else none
  | _ => none
def isFre : Option Gk → Bool
  | some .fre => true
  | _ => false
mutual
def xsE (ce : CE) (n : Option Str) : Nat → Expr → Option Xe
  | 0, _ => none
  | m + 1, .Constant c _ _ => (conC c).map fun v _ _ => eC v
  | m + 1, .Name x _ => if okNm x && visB ce.sc x then (idx ce.N x).map fun i _ _ => eVar i else none
  | m + 1, .Attribute (.Name x _) f _ => if decide (n = some x) && ce.tb.xf f then some fun _ fs => xFld fs f else none
  | m + 1, .Call (.Name g _) as [] _ => if decide (g = "isinstance") && glB ce.sc "isinstance" && isFre (ce.tb.G "isinstance") then xisC ce n as else none
  | m + 1, .UnaryOp .Not a _ => (xsE ce n m a).map fun f k fs => eNot (f k fs)
  | m + 1, .BoolOp .And [a, b] _ => opt2 (xsE ce n m a) (xsE ce n m b) fun f g k fs => eAnd (f k fs) (g k fs)
  | m + 1, .IfExp t a b _ => (match xsT ce n m t with
    | some ft => opt2 (xsE ce n m a) (xsE ce n m b) fun f g k fs => eIf (ft k fs) (f k fs) (g k fs)
    | none => none)
  | m + 1, .Tuple [a, b] _ _ => if !isStar a && !isStar b then opt2 (xsE ce n m a) (xsE ce n m b) fun f g k fs => eTup (aCons (f k fs) (aCons (g k fs) aNil)) else none
  | _ + 1, _ => none
def xsT (ce : CE) (n : Option Str) : Nat → Expr → Option Xt
  | 0, _ => none
  | m + 1, .UnaryOp .Not a _ => (xsT ce n m a).map fun f k fs => tNotA (f k fs)
  | m + 1, .BoolOp .And [a, b] _ => opt2 (xsT ce n m a) (xsT ce n m b) fun f g k fs => tAndA (f k fs) (g k fs)
  | m + 1, e => if evT e then none else (xsE ce n m e).map fun f k fs => tVal (f k fs)
end
def xsS (ce : CE) (n : Option Str) : List Stmt → Option (Nat → List (Str × Av) → Es)
  | [.Return (some e) _] => (xsE ce n 20 e).map fun f k fs => sRet (f k fs)
  | [.Assign [.Name x _] e _] => if locB ce x && !isComp e then opt2 (idx ce.N x) (xsE ce n 20 e) fun i f k fs => sSet i (f k fs) else none
  | [.Assign [.Name x _] e _, .Assign [.Name y _] e' _] => if locB ce x && locB ce y && !isComp e && !isComp e' && !decide (n = some x) then (match idx ce.N x, xsE ce n 20 e, idx ce.N y, xsE ce n 20 e' with
    | some i, some f, some j, some g => some fun k fs => sSeq (sSet i (f k fs)) (sSet j (g k fs))
    | _, _, _, _ => none) else none
  | _ => none
section
variable {Z : Sc} {W : WX} {X : Cx} {ce : CE} {C : Cal} {n : Nat}
structure XIn (Z : Sc) (X : Cx) (ce : CE) (oe : Obj) (k : Nat) (d : Option Addr) (x : Option Str) (i : Option Nat) : Prop where
  z : Zc (.ref (Z.xc k)) d oe
  f : ∃ vs, oe.data = .fields vs
  a : XaF X.K (Z.xc k)
  nf : ∀ f, ce.tb.xf f = true → PySem.W.findIn X.K (.ref (Z.xc k)) f = some none
  v : ∀ y, x = some y → visB ce.sc y = true ∧ okNm y = true ∧ ∃ j, idx ce.N y = some j ∧ i = some j
  n : x = none → i = none
theorem eBad_x {Y : Cx} {a : Addr} {i : Option Nat} {d : Option Addr} {fs : List (Str × Av)} {e : Expr} : SX Z Y a i d fs e eBad := ⟨fun pins s σ H Q I ⟨c, en, M, at_, _, _, h⟩ => h.elim⟩
theorem nmF_of (G : Good Z W X ce C n) {y : Str} {m : Nat → Option Bool} (hy : glB ce.sc y = true) (ho : okNm y = true) (h : ce.tb.xm y = some m) : ∃ v cv, NmF X y v cv ∧ ∀ k b, m k = some b → PySem.W.kitOne X.K (.ref (Z.xc k)) cv = some b := by
  obtain ⟨v, cv, h1, h2, h3, h4⟩ := G.fa.gxm y m h
  exact ⟨v, cv, ⟨G.gl hy, okNm1 ho, h1, h2, h3⟩, fun k b q => (h4 k b q).2.1⟩
theorem xis_ok (G : Good Z W X ce C n) {a : Addr} {oe : Obj} {pn : List (Addr × Obj)} {k : Nat} {i : Option Nat} {d : Option Addr} {fs : List (Str × Av)} {x : Option Str} {as : List Expr} {f : Xe} {p pos : Pos} (K : XIn Z X ce oe k d x i) (hg : Gl X "isinstance") (hm : X.mg "isinstance" = none) (h : xisC ce x as = some f) :
    SX Z (X.suite a ((a, oe) :: pn)) a i d fs (.Call (.Name "isinstance" p) as [] pos) (f k fs) := by
  unfold xisC at h
  split at h
  · split at h
    · rename_i hz
      simp only [Bool.and_eq_true, decide_eq_true_eq] at hz
      obtain ⟨⟨hx, h2⟩, h3⟩ := hz
      obtain ⟨hv, hok, j', hj, ej⟩ := K.v _ hx
      subst ej
      obtain ⟨m, h4, rfl⟩ := map_some h
      obtain ⟨v, cv, F, q⟩ := nmF_of G h2 h3 h4
      show SX Z _ a _ d fs _ (xIs m k)
      unfold xIs
      split
      · rename_i b hb
        exact sx_isi K.a K.z K.f rfl rfl (G.ix hj) (G.vis hv) (okNm1 hok) (okNm2 hok) hg hm F (q k b hb)
      · exact eBad_x
    · cases h
  · split at h
    · rename_i hz
      simp only [Bool.and_eq_true, decide_eq_true_eq] at hz
      obtain ⟨⟨⟨⟨hx, h2⟩, h3⟩, h2'⟩, h3'⟩ := hz
      obtain ⟨hv, hok, j', hj, ej⟩ := K.v _ hx
      subst ej
      obtain ⟨m, m', h4, h4', rfl⟩ := opt2_some h
      obtain ⟨v, cv, F, q⟩ := nmF_of G h2 h3 h4
      obtain ⟨v', cv', F', q'⟩ := nmF_of G h2' h3' h4'
      show SX Z _ a _ d fs _ (xIs2 m m' k)
      unfold xIs2
      split
      · rename_i b b' hb hb'
        refine sx_isi2 K.a K.z K.f rfl rfl (G.ix hj) (G.vis hv) (okNm1 hok) (okNm2 hok) hg hm F F' ?_
        have e2 : PySem.W.kitAny X.K (.ref (Z.xc k)) [cv'] = some b' := by
          cases b' with
          | true => exact kitAny_cons (q' k _ hb') (fun z => nomatch z) fun _ => rfl
          | false => exact kitAny_cons (q' k _ hb') (fun _ => kitAny_nil) fun z => nomatch z
        cases b with
        | true => exact kitAny_cons (q k _ hb) (fun z => nomatch z) fun _ => rfl
        | false => exact kitAny_cons (q k _ hb) (fun _ => e2) fun z => nomatch z
      · exact eBad_x
    · cases h
  · cases h
theorem isFre_eq {g : Option Gk} (h : isFre g = true) : g = some .fre := by
  unfold isFre at h
  split at h
  · rfl
  · cases h
theorem xs_ok (G : Good Z W X ce C n) {a : Addr} {oe : Obj} {pn : List (Addr × Obj)} {k : Nat} {d : Option Addr} {fs : List (Str × Av)} {x : Option Str} {i : Option Nat} (K : XIn Z X ce oe k d x i) : ∀ (m : Nat),
    (∀ (e : Expr) (f : Xe), xsE ce x m e = some f → SX Z (X.suite a ((a, oe) :: pn)) a i d fs e (f k fs)) ∧ (∀ (e : Expr) (f : Xt), xsT ce x m e = some f → SXT Z (X.suite a ((a, oe) :: pn)) a i d fs e (f k fs)) := by
  intro m
  induction m with
  | zero => exact ⟨fun e f h => by simp [xsE] at h, fun e f h => by simp [xsT] at h⟩
  | succ m ih =>
    obtain ⟨ihE, ihT⟩ := ih
    refine ⟨fun e f h => ?_, fun e f h => ?_⟩
    · unfold xsE at h
      split at h
      · rename_i hm; cases hm
      · obtain ⟨v, h1, rfl⟩ := map_some h
        exact sx_of (con_ok h1)
      · split at h
        · rename_i hz
          simp only [Bool.and_eq_true] at hz
          obtain ⟨j, h1, rfl⟩ := map_some h
          exact sx_of (se_var (G.ix h1) (G.vis hz.2) (okNm1 hz.1) (okNm2 hz.1))
        · cases h
      · split at h
        · rename_i hz
          simp only [Bool.and_eq_true, decide_eq_true_eq] at hz
          obtain ⟨hx, h2⟩ := hz
          cases h
          obtain ⟨hv, hok, j, hj, ej⟩ := K.v _ hx
          exact sx_fld G.fa.hK K.a.xf (K.nf _ h2) K.z K.f rfl ej (G.ix hj) (G.vis hv) (okNm1 hok) (okNm2 hok)
        · cases h
      · split at h
        · rename_i hz
          simp only [Bool.and_eq_true, decide_eq_true_eq] at hz
          obtain ⟨⟨rfl, h2⟩, h3⟩ := hz
          exact xis_ok G K (G.gl h2) (G.fa.gfr _ (isFre_eq h3)) h
        · cases h
      · cases ‹m + 1 = Nat.succ _›
        obtain ⟨v, h1, rfl⟩ := map_some h
        exact sx_not (ihE _ _ h1)
      · cases ‹m + 1 = Nat.succ _›
        obtain ⟨v, w, h1, h2, rfl⟩ := opt2_some h
        exact sx_and (ihE _ _ h1) (ihE _ _ h2)
      · cases ‹m + 1 = Nat.succ _›
        split at h
        · rename_i ft ht
          obtain ⟨v, w, h1, h2, rfl⟩ := opt2_some h
          exact sx_if (ihT _ _ ht) (ihE _ _ h1) (ihE _ _ h2)
        · cases h
      · cases ‹m + 1 = Nat.succ _›
        split at h
        · rename_i hz
          simp only [Bool.and_eq_true, Bool.not_eq_true'] at hz
          obtain ⟨v, w, h1, h2, rfl⟩ := opt2_some h
          exact sx_pair hz.1 hz.2 (ihE _ _ h1) (ihE _ _ h2)
        · cases h
      · cases h
    · unfold xsT at h
      split at h
      · rename_i hm; cases hm
      · cases ‹m + 1 = Nat.succ _›
        obtain ⟨v, h1, rfl⟩ := map_some h
        exact sxt_not (ihT _ _ h1)
      · cases ‹m + 1 = Nat.succ _›
        obtain ⟨v, w, h1, h2, rfl⟩ := opt2_some h
        exact sxt_and (ihT _ _ h1) (ihT _ _ h2)
      · cases ‹m + 1 = Nat.succ _›
        split at h
        · cases h
        · rename_i hz
          obtain ⟨v, h1, rfl⟩ := map_some h
          exact sxt_val G.fa.hK (true_of (by simpa using hz)) (ihE _ _ h1)
end
end Pd
set_option maxHeartbeats 2000000
namespace Pd
open PySem PySem.Spec L2
section
variable {Z : Sc} {W : WX} {X : Cx} {ce : CE} {C : Cal} {n : Nat} {L : Lv}
theorem sws_of {e t : Expr} {l : Nat} {env : PySem.Env} (h : isComp e = false) : swapsWithSole [t] e l env = pure false := sw_of (t := some t) h
def stsC (L : Lv) (ce : CE) : List Stmt → Option (Cal → Es)
  | [] => some fun _ => sPass
  | [s] => L.s ce s
  | s :: t :: r => opt2 (L.s ce s) (stsC L ce (t :: r)) fun f g C => sSeq (f C) (g C)
theorem sts_ok (K : LvOk Z L) (G : GoodS Z W X ce C n) : ∀ (ss : List Stmt) (f : Cal → Es), stsC L ce ss = some f → SSs Z W X ss (f C)
  | [], f, h => by cases h; exact sss_nil
  | [s], f, h => sss_one (K.s W X ce C n G s f h)
  | s :: t :: r, f, h => by
    obtain ⟨x, y, h1, h2, rfl⟩ := opt2_some h
    exact sss_cons (K.s W X ce C n G _ _ h1) (sts_ok K G (t :: r) _ h2)
def isNewL : Expr → Option (List Expr)
  | .List es _ => some es
  | _ => none
def isListOf : Expr → Option Expr
  | .Call (.Name x _) [a] [] _ => if x = "list" then some a else none
  | _ => none
theorem isListOf_eq {e a : Expr} (h : isListOf e = some a) : ∃ p q, e = .Call (.Name "list" p) [a] [] q := by
  unfold isListOf at h
  split at h
  · split at h
    · rename_i hx; cases h; subst hx; exact ⟨_, _, rfl⟩
    · cases h
  · cases h
def opAddM (add : Op2) : Op2 := fun a b M => match asL M a, asL M b with
  | some xs, some ys => newList true (xs ++ ys) M
  | _, _ => add a b M
theorem ops_addM {r : R2} {add : Op2} (h : OpS Z W r add) : OpS Z W (fun x y H Q => rCat x y H Q ∨ r x y H Q) (opAddM add) := by
  intro σ c M H x y a b Q s ra rb q
  unfold opAddM at q
  split at q
  · rename_i xs ys e1 e2
    obtain ⟨l, vs, rfl, h1, r1⟩ := asL_rep s ra e1
    obtain ⟨l', ws, rfl, h2, r2⟩ := asL_rep s rb e2
    have hz := newList_sz q
    exact .inl ⟨_, _, _, _, rfl, rfl, h1, h2, by rw [r1.length, r2.length, ← List.length_append]; exact szOk_le hz, fun p hp => newList_ok q s (r1.append r2) hp⟩
  · exact .inr (h σ c M H x y a b Q s ra rb q)
def isAdd : Expr → Option (Expr × Expr)
  | .BinOp a .Add b _ => some (a, b)
  | _ => none
theorem isAdd_eq {e a b : Expr} (h : isAdd e = some (a, b)) : ∃ p, e = .BinOp a .Add b p := by
  unfold isAdd at h
  split at h
  · cases h; exact ⟨_, rfl⟩
  · cases h
def isDisp : Expr → Option (List (Option Expr) × List Expr)
  | .Dict ks vs _ => some (ks, vs)
  | _ => none
theorem isDisp_eq {e : Expr} {ks : List (Option Expr)} {vs : List Expr} (h : isDisp e = some (ks, vs)) : ∃ p, e = .Dict ks vs p := by
  unfold isDisp at h
  split at h
  · cases h; exact ⟨_, rfl⟩
  · cases h
def valC0 (L : Lv) (ce : CE) (x : Str) (v : Expr) : Option (Cal → Ev) := match isNewL v with
  | some es => if ce.mu.contains x then (argsC L ce es).map fun g C => eNewL (g C) else L.e ce v
  | none => if ce.mu.contains x then (match isListOf v with
    | some a => if glB ce.sc "list" then (match ce.tb.G "list" with
      | some .fre => listC L ce true a
      | _ => none) else none
    | none => (match isAdd v, binC ce.tb.dn .Add with
      | some (a, b), some op => opt2 (L.e ce a) (L.e ce b) fun f g C => eBin (opAddM (op C)) (f C) (g C)
      | _, _ => L.e ce v)) else L.e ce v
theorem val_ok0 (K : LvOk Z L) (G : Good Z W X ce C n) {x : Str} {v : Expr} {f : Cal → Ev} (h : valC0 L ce x v = some f) : SE Z W X v (f C) := by
  unfold valC0 at h
  split at h
  · rename_i es he
    split at h
    · obtain ⟨g, h1, rfl⟩ := map_some h
      cases v <;> first | (cases he; done) | skip
      cases he
      exact se_newL (args_ok K G _ _ h1)
    · exact K.e W X ce C n G _ _ h
  · split at h
    · split at h
      · rename_i a ha
        obtain ⟨p, q, rfl⟩ := isListOf_eq ha
        split at h
        · rename_i hg
          split at h
          · rename_i hG
            exact listC_ok K G (G.gl hg) (G.fa.gfr _ hG) h
          · cases h
        · cases h
      · split at h
        · rename_i a b op ha hop
          obtain ⟨p, rfl⟩ := isAdd_eq ha
          obtain ⟨f', g', h1, h2, rfl⟩ := opt2_some h
          obtain ⟨r, r1, r2⟩ := bin_ok G hop
          exact se_bin (op_cat.or r1) (ops_addM r2) (K.e W X ce C n G _ _ h1) (K.e W X ce C n G _ _ h2)
        · exact K.e W X ce C n G _ _ h
    · exact K.e W X ce C n G _ _ h
def valC (L : Lv) (ce : CE) (x : Str) (v : Expr) : Option (Cal → Ev) := match isDisp v with
  | some (ks, vs) => dispC L ce (ce.mu.contains x) ks vs
  | none => valC0 L ce x v
theorem val_ok (K : LvOk Z L) (G : Good Z W X ce C n) {x : Str} {v : Expr} {f : Cal → Ev} (h : valC L ce x v = some f) : SE Z W X v (f C) := by
  unfold valC at h
  split at h
  · rename_i ks vs he
    obtain ⟨p, rfl⟩ := isDisp_eq he
    exact dispC_ok K G h
  · exact val_ok0 K G h
def valsC (L : Lv) (ce : CE) : List Str → List Expr → Option (Cal → Ea)
  | [], [] => some fun _ => aNil
  | x :: xs, v :: vs => if isStar v then none else opt2 (valC L ce x v) (valsC L ce xs vs) fun f g C => aCons (f C) (g C)
  | _, _ => none
theorem vals_ok (K : LvOk Z L) (G : Good Z W X ce C n) : ∀ (xs : List Str) (vs : List Expr) (f : Cal → Ea), valsC L ce xs vs = some f → SA Z W X vs (f C)
  | [], [], f, h => by cases h; exact sa_nil
  | x :: xs, v :: vs, f, h => by
    unfold valsC at h
    split at h
    · cases h
    · rename_i hs
      obtain ⟨a, b, h1, h2, rfl⟩ := opt2_some h
      exact sa_cons (val_ok K G h1) (vals_ok K G xs vs _ h2) (star_cons (by simpa using hs))
  | [], _ :: _, f, h => by cases h
  | _ :: _, [], f, h => by cases h
def isLocal (ce : CE) (x : Str) : Bool := match ce.sc.names.lookup x with
  | some .local => true
  | _ => false
theorem isLocal_ok (G : Good Z W X ce C n) {x : Str} (h : isLocal ce x = true) : X.env.scope.names.lookup x = some .local := by
  unfold isLocal at h
  split at h
  · rw [G.sc]; assumption
  · cases h
def setC (L : Lv) (ce : CE) (x : Str) (px : Pos) (v : Expr) : Option (Cal → Es) := match idx ce.N x with
  | none => none
  | some i => if !locB ce x then none else (match v with
    | .ListComp elt gens scope pos => if (ce.sc.names.lookup x == some .local && px.line == pos.line && !(scope.names.any fun (n, k) => n == x && (k == .local || k == .cell))) then
        (if isLocal ce x then (lcC L ce (ce.mu.contains x) elt gens scope).map fun f C => sSet i (f C) else none)
      else (lcC L ce (ce.mu.contains x) elt gens scope).map fun f C => sSet i (f C)
    | .DictComp kx vx gens scope pos => if (ce.sc.names.lookup x == some .local && px.line == pos.line && !(scope.names.any fun (n, k) => n == x && (k == .local || k == .cell))) then none
      else (dcC L ce (ce.mu.contains x) kx vx gens scope).map fun f C => sSet i (f C)
    | v => if isComp v then none else (valC L ce x v).map fun f C => sSet i (f C))
theorem set_ok (K : LvOk Z L) (G : Good Z W X ce C n) {x : Str} {px pos : Pos} {v : Expr} {f : Cal → Es} (h : setC L ce x px v = some f) : SS Z W X (.Assign [.Name x px] v pos) (f C) := by
  unfold setC at h
  split at h
  · cases h
  rename_i i hi
  split at h
  · cases h
  rename_i hl
  have hl : locB ce x = true := by simpa using hl
  obtain ⟨l1, l2⟩ := G.loc hl
  have hk : X.env.scope.kind = .function := by rw [G.sc]; exact G.kd
  split at h
  · rename_i elt gens scope p
    have hsw := sw_lc (elt := elt) (gs := gens) (scope := scope) (pos := p) (py := px) (y := x) (l := pos.line) hk
    rw [G.sc] at hsw
    split at h
    · rename_i hz
      rw [hz] at hsw
      split at h
      · rename_i hlo
        obtain ⟨f', h1, rfl⟩ := map_some h
        obtain ⟨tg, iter, ifs, wi, g, tt, te, rfl, a1, a2, a3, a4, a5, a6, a7⟩ := (lcC_ok K G h1).ex
        exact (ps_setLc G.calm G.nd' (G.ix hi) (isLocal_ok G hlo) hsw a1 a2 a3 a4 a5 a6).imp fun D σ H q => a7 _ _ _ (imp_set D σ H q)
      · cases h
    · rename_i hz
      obtain ⟨f', h1, rfl⟩ := map_some h
      have hz2 : (List.lookup x ce.sc.names == some NameKind.local && px.line == p.line && !(scope.names.any fun (n, k) => n == x && (k == .local || k == .cell))) = false := by
        exact Bool.eq_false_iff.mpr hz
      rw [hz2] at hsw
      exact ss_set G.nd' (G.ix hi) l1 (se_lcC G (lcC_ok K G h1)) hsw l2
  · rename_i kx vx gens scope p
    have hsw := sw_dc (kx := kx) (vx := vx) (gs := gens) (scope := scope) (pos := p) (py := px) (y := x) (l := pos.line) hk
    rw [G.sc] at hsw
    split at h
    · cases h
    · rename_i hz
      obtain ⟨f', h1, rfl⟩ := map_some h
      have hz2 : (List.lookup x ce.sc.names == some NameKind.local && px.line == p.line && !(scope.names.any fun (n, k) => n == x && (k == .local || k == .cell))) = false := by
        exact Bool.eq_false_iff.mpr hz
      rw [hz2] at hsw
      exact ss_set G.nd' (G.ix hi) l1 (dcC_ok K G h1) hsw l2
  · split at h
    · cases h
    · rename_i hc
      obtain ⟨f', h1, rfl⟩ := map_some h
      exact ss_set G.nd' (G.ix hi) l1 (val_ok K G h1) (sw_of (by simpa using hc)) l2
def nm? : Expr → Option Str
  | .Name x _ => some x
  | _ => none
def asTup : Expr → Option (List Expr)
  | .Tuple es _ _ => some es
  | _ => none
theorem sw_none {ts : List Expr} {k : Nat} {p : Pos} {v : Expr} {env : PySem.Env} (h : asTup v = none) : swappedStores [.Tuple ts k p] v env = pure none := by
  cases v <;> first | rfl | cases h
def tupC (L : Lv) (ce : CE) (ts : List Expr) (v : Expr) : Option (Cal → Es) := match asTup v with
  | some vs => (match swR ce.sc ts vs with
    | some (some xs) => (match ts, vs, xs with
      | [.Name x _, .Name y _], [_, _], [x', y'] => (match idx ce.N x, idx ce.N y, valsC L ce xs vs with
        | some i, some j, some g => if decide (x = x') && decide (y = y') && decide (i ≠ j) && isLocal ce x && isLocal ce y then some fun C => sPar [i, j] (g C) else none
        | _, _, _ => none)
      | [.Name x _, .Name y _, .Name z _], [_, _, _], [x', y', z'] => (match idx ce.N x, idx ce.N y, idx ce.N z, valsC L ce xs vs with
        | some i, some j, some l, some g => if decide (x = x') && decide (y = y') && decide (z = z') && decide (i ≠ j) && decide (i ≠ l) && decide (j ≠ l) && isLocal ce x && isLocal ce y && isLocal ce z then some fun C => sPar [i, j, l] (g C) else none
        | _, _, _, _ => none)
      | _, _, _ => none)
    | some none => (match nmsC ce ts, valsC L ce (ts.filterMap nm?) vs with
      | some is, some g => some fun C => sAsg (eTup (g C)) (gTp is)
      | _, _ => none)
    | none => none)
  | none => (match nmsC ce ts, L.e ce v with
    | some is, some f => if isComp v then some fun C => sAsg (f C) (gUL is) else some fun C => sAsg (f C) (gTp is)
    | _, _ => none)
theorem sws_tup {ts : List Expr} {k l : Nat} {p : Pos} {v : Expr} {env : PySem.Env} : swapsWithSole [.Tuple ts k p] v l env = pure false := by
  cases v <;> rfl
theorem pgl_ok (G : Good Z W X ce C n) {ts : List Expr} {is : List Nat} {k : Nat} {p : Pos} (h : nmsC ce ts = some is) : ∃ t, PG X (.Tuple ts k p) t ∧ GS Z is t (gUL is) := by
  obtain ⟨a1, a2, a3⟩ := nms_ok G ts _ h
  have := pg_unl (k := k) (pos := p) G.calm a1 a2 a3
  rw [G.fa.hK] at this
  exact ⟨_, this, gs_unl⟩
theorem pgt_ok (G : Good Z W X ce C n) {ts : List Expr} {is : List Nat} {k : Nat} {p : Pos} (h : nmsC ce ts = some is) : ∃ t, PG X (.Tuple ts k p) t ∧ GS Z is t (gTp is) := by
  obtain ⟨a1, a2, a3⟩ := nms_ok G ts _ h
  have := pg_tup (k := k) (pos := p) G.calm a1 a2 a3
  rw [G.fa.hK] at this
  exact ⟨_, this, gs_tup⟩
theorem tup_ok (K : LvOk Z L) (G : Good Z W X ce C n) {ts : List Expr} {v : Expr} {k : Nat} {p pos : Pos} {f : Cal → Es} (h : tupC L ce ts v = some f) : SS Z W X (.Assign [.Tuple ts k p] v pos) (f C) := by
  have hk : X.env.scope.kind = .function := by rw [G.sc]; exact G.kd
  unfold tupC at h
  split at h
  · rename_i vs hv
    cases v <;> first | (cases hv; done) | skip
    cases hv
    split at h
    · rename_i xs hsw
      rw [← G.sc] at hsw
      split at h
      · rename_i x px y py a b x' y'
        split at h
        · rename_i i j g h1 h2 h3
          split at h
          · rename_i hz
            simp only [Bool.and_eq_true, decide_eq_true_eq] at hz
            obtain ⟨⟨⟨⟨e1, e2⟩, hij⟩, l1⟩, l2⟩ := hz
            subst e1 e2
            cases h
            exact ss_par2 hk G.calm G.nd' (G.ix h1) (G.ix h2) hij (isLocal_ok G l1) (isLocal_ok G l2) (vals_ok K G _ _ _ h3) hsw
          · cases h
        · cases h
      · rename_i x px y py z pz a b d x' y' z'
        split at h
        · rename_i i j l g h1 h2 h3 h4
          split at h
          · rename_i hz
            simp only [Bool.and_eq_true, decide_eq_true_eq] at hz
            obtain ⟨⟨⟨⟨⟨⟨⟨⟨e1, e2⟩, e3⟩, hij⟩, hil⟩, hjl⟩, l1⟩, l2⟩, l3⟩ := hz
            subst e1 e2 e3
            cases h
            exact ss_par3 hk G.calm G.nd' (G.ix h1) (G.ix h2) (G.ix h3) hij hil hjl (isLocal_ok G l1) (isLocal_ok G l2) (isLocal_ok G l3) (vals_ok K G _ _ _ h4) hsw
          · cases h
        · cases h
      · cases h
    · rename_i hsw
      rw [← G.sc] at hsw
      split at h
      · rename_i is g h1 h2
        cases h
        obtain ⟨t, p1, p2⟩ := pgt_ok (k := k) (p := p) G h1
        exact (ps_asg (se_tup (vals_ok K G _ _ _ h2)) p1 rfl (sw_stores hk hsw) rfl).imp (imp_asg p2)
      · cases h
    · cases h
  · rename_i hv
    split at h
    · rename_i is g h1 h2
      split at h
      · cases h
        obtain ⟨t, p1, p2⟩ := pgl_ok (k := k) (p := p) G h1
        exact (ps_asg (K.e W X ce C n G _ _ h2) p1 sws_tup (sw_none hv) rfl).imp (imp_asg p2)
      · cases h
        obtain ⟨t, p1, p2⟩ := pgt_ok (k := k) (p := p) G h1
        exact (ps_asg (K.e W X ce C n G _ _ h2) p1 sws_tup (sw_none hv) rfl).imp (imp_asg p2)
    · cases h
theorem asg_sub {o i : Expr} {env : PySem.Env} {pos : Pos} (h : isSlice i = false) : ∀ v, assign (.Subscript o i pos) env v = (do
      let ov ← holding [v] (eval o env)
      let iv ← holding [v, ov] (eval i env)
      standAt pos
      holding [v, ov, iv] (setItem ov iv v)
      release [v, ov, iv] []) := by
  intro v
  cases i <;> first | rfl | cases h
def uC (L : Lv) (ce : CE) : Expr → Option (Cal → Eu)
  | .Name x _ => (match idx ce.N x with
    | some i => if locB ce x then some fun _ => uNm i else none
    | none => none)
  | .Attribute o m _ => if ce.tb.fl m then (L.e ce o).map fun f C => uFld (f C) m else none
  | .Subscript o i _ => if isSlice i then none else opt2 (L.e ce o) (L.e ce i) fun f g C => uSub (f C) (g C)
  | _ => none
theorem uC_ok (K : LvOk Z L) (G : Good Z W X ce C n) {e : Expr} {u : Cal → Eu} (h : uC L ce e = some u) : (∃ t, PG X e t ∧ GU Z t (u C)) ∧ isStar e = false := by
  cases e with
  | Name x p =>
    simp only [uC] at h
    split at h
    · rename_i i hi
      split at h
      · rename_i hl
        cases h
        obtain ⟨l1, l2⟩ := G.loc hl
        exact ⟨⟨_, pg_name G.nd' (G.ix hi) l1 l2, gu_name⟩, rfl⟩
      · cases h
    · cases h
  | Attribute o m p =>
    simp only [uC] at h
    split at h
    · rename_i hz
      obtain ⟨f, h1, rfl⟩ := map_some h
      have := pg_fld (n := m) (pos := p) (K.e W X ce C n G _ _ h1)
      rw [G.fa.hK] at this
      exact ⟨⟨_, this, gu_fld G.fa.hC (G.fa.gfl _ hz)⟩, rfl⟩
    · cases h
  | Subscript o i p =>
    simp only [uC] at h
    split at h
    · cases h
    · rename_i hz
      obtain ⟨f, g, h1, h2, rfl⟩ := opt2_some h
      exact ⟨⟨_, pg_sub (K.e W X ce C n G _ _ h1) (K.e W X ce C n G _ _ h2) (set_all (by have := G.units; omega)) (asg_sub (by simpa using hz)), gu_sub⟩, rfl⟩
  | _ => cases h
def usC (L : Lv) (ce : CE) : List Expr → Option (Cal → List Av → Env → Mem → Option (Env × Mem))
  | [] => some fun _ => uNil
  | e :: r => opt2 (uC L ce e) (usC L ce r) fun u us C => uCons (u C) (us C)
theorem usC_ok (K : LvOk Z L) (G : Good Z W X ce C n) : ∀ (es : List Expr) (us : Cal → List Av → Env → Mem → Option (Env × Mem)), usC L ce es = some us →
    ∃ t, PGs X es t ∧ GUs Z t (us C) ∧ (assignEach es X.env).length = es.length ∧ (assignEach es X.env).findIdx? (·.1) = none ∧ ∀ as e M e1 M1, us C as e M = some (e1, M1) → as.length = es.length
  | [], us, h => by
    cases h
    refine ⟨_, pgs_nil, gus_nil, rfl, rfl, fun as e M e1 M1 h => ?_⟩
    cases as with
    | nil => rfl
    | cons _ _ => cases h
  | e :: r, us, h => by
    obtain ⟨u, us', h1, h2, rfl⟩ := opt2_some h
    obtain ⟨⟨t, p1, p2⟩, p3⟩ := uC_ok K G h1
    obtain ⟨ts, q1, q2, q3, q4, q5⟩ := usC_ok K G r us' h2
    have e1 := asg_each (r := r) (env := X.env) p3
    refine ⟨_, pgs_cons p1 q1 (by rw [e1]; rfl), gus_cons p2 q2, by rw [e1]; simp [q3], by rw [e1, List.findIdx?_cons]; simp [q4], fun as e M e2 M2 h => ?_⟩
    cases as with
    | nil => cases h
    | cons a as =>
      simp only [uCons] at h
      split at h
      · simp [q5 _ _ _ _ _ h]
      · cases h
def tupU (L : Lv) (ce : CE) (ts : List Expr) (v : Expr) : Option (Cal → Es) := match asTup v with
  | some vs => (match swR ce.sc ts vs with
    | some none => opt2 (usC L ce ts) (argsC L ce vs) fun u g C => sAsgU (eTup (g C)) (uTup (u C))
    | _ => none)
  | none => if isComp v then none else opt2 (usC L ce ts) (L.e ce v) fun u f C => sAsgU (f C) (uTup (u C))
theorem tupU_ok (K : LvOk Z L) (G : Good Z W X ce C n) {ts : List Expr} {v : Expr} {k : Nat} {p pos : Pos} {f : Cal → Es} (h : tupU L ce ts v = some f) : SS Z W X (.Assign [.Tuple ts k p] v pos) (f C) := by
  have hk : X.env.scope.kind = .function := by rw [G.sc]; exact G.kd
  unfold tupU at h
  split at h
  · rename_i vs hv
    cases v <;> first | (cases hv; done) | skip
    cases hv
    split at h
    · rename_i hsw
      rw [← G.sc] at hsw
      obtain ⟨u, g, h1, h2, rfl⟩ := opt2_some h
      obtain ⟨t, q1, q2, q3, q4, q5⟩ := usC_ok K G ts u h1
      have := pg_tup (k := k) (pos := p) G.calm q1 q3 q4
      rw [G.fa.hK] at this
      exact (ps_asg (se_tup (args_ok K G _ _ h2)) this rfl (sw_stores hk hsw) rfl).imp (imp_asgU (gu_tup q2 q5))
    · cases h
  · rename_i hv
    split at h
    · cases h
    · obtain ⟨u, g, h1, h2, rfl⟩ := opt2_some h
      obtain ⟨t, q1, q2, q3, q4, q5⟩ := usC_ok K G ts u h1
      have := pg_tup (k := k) (pos := p) G.calm q1 q3 q4
      rw [G.fa.hK] at this
      exact (ps_asg (K.e W X ce C n G _ _ h2) this sws_tup (sw_none hv) rfl).imp (imp_asgU (gu_tup q2 q5))
def retC0 (L : Lv) (ce : CE) (v : Expr) : Option (Cal → Es) := match isNewL v with
  | some es => if ce.keep then (argsM L ce es).map fun g C => sRet (eNewL (g C)) else (L.e ce v).map fun f C => sRet (eFrz (f C))
  | none => if ce.keep then (L.e ce v).map fun f C => sRet (f C) else (L.e ce v).map fun f C => sRet (eFrz (f C))
theorem ret_ok0 (K : LvOk Z L) (G : Good Z W X ce C n) {v : Expr} {pos : Pos} {f : Cal → Es} (h : retC0 L ce v = some f) : SS Z W X (.Return (some v) pos) (f C) := by
  unfold retC0 at h
  split at h
  · rename_i es he
    split at h
    · obtain ⟨g, h1, rfl⟩ := map_some h
      cases v <;> first | (cases he; done) | skip
      cases he
      exact ss_ret (se_newL (argsM_ok K G _ _ h1))
    · obtain ⟨g, h1, rfl⟩ := map_some h
      exact ss_ret (se_frz (K.e W X ce C n G _ _ h1))
  · split at h
    · obtain ⟨g, h1, rfl⟩ := map_some h
      exact ss_ret (K.e W X ce C n G _ _ h1)
    · obtain ⟨g, h1, rfl⟩ := map_some h
      exact ss_ret (se_frz (K.e W X ce C n G _ _ h1))
def isLC : Expr → Option (Expr × List Comprehension × Scope)
  | .ListComp elt gens scope _ => some (elt, gens, scope)
  | _ => none
theorem isLC_eq {v elt : Expr} {gens : List Comprehension} {scope : Scope} (h : isLC v = some (elt, gens, scope)) : ∃ p, v = .ListComp elt gens scope p := by
  cases v <;> first | (cases h; done) | (cases h; exact ⟨_, rfl⟩)
def retC (L : Lv) (ce : CE) (v : Expr) : Option (Cal → Es) := match isDisp v with
  | some (ks, vs) => if ce.keep then (dispC L ce true ks vs).map fun f C => sRet (f C) else (dispC L ce false ks vs).map fun f C => sRet (eFrz (f C))
  | none => if ce.keep then (match isLC v with
    | some (elt, gens, scope) => (lcC L ce true elt gens scope).map fun f C => sRet (f C)
    | none => retC0 L ce v) else retC0 L ce v
theorem ret_ok (K : LvOk Z L) (G : Good Z W X ce C n) {v : Expr} {pos : Pos} {f : Cal → Es} (h : retC L ce v = some f) : SS Z W X (.Return (some v) pos) (f C) := by
  unfold retC at h
  split at h
  · rename_i ks vs he
    obtain ⟨p, rfl⟩ := isDisp_eq he
    split at h
    · obtain ⟨g, h1, rfl⟩ := map_some h
      exact ss_ret (dispC_ok K G h1)
    · obtain ⟨g, h1, rfl⟩ := map_some h
      exact ss_ret (se_frz (dispC_ok K G h1))
  · split at h
    · split at h
      · rename_i elt gens scope he
        obtain ⟨p, rfl⟩ := isLC_eq he
        obtain ⟨g, h1, rfl⟩ := map_some h
        exact ss_ret (se_lcC G (lcC_ok K G h1))
      · exact ret_ok0 K G h
    · exact ret_ok0 K G h
theorem GoodS.nox (G : GoodS Z W X ce C n) : GoodS Z WNo X.nox ce C n where
  fa := G.fa.to rfl rfl rfl rfl rfl
  hN := G.hN
  nd := G.nd
  sc := G.sc
  kd := G.kd
  fn := G.fn
  calm := G.calm
  room := G.room
  tk := takes_no
  gd := G.gd
  po := PassesOwn.never
  st := G.st
  fr := G.fr
theorem GoodS.tr (G : GoodS Z W X ce C n) {W' : WX} {pn : List (Addr × Obj)} {xe : Value → Shared → Prop} (tk : Takes (X.tr pn xe) W') (po : PassesOwn (model X.prog X.w) X.A X.env xe) : GoodS Z W' (X.tr pn xe) ce C n where
  fa := G.fa.to rfl rfl rfl rfl rfl
  hN := G.hN
  nd := G.nd
  sc := G.sc
  kd := G.kd
  fn := G.fn
  calm := G.calm
  room := G.room
  tk := tk
  gd := G.gd
  po := po
  st := G.st
  fr := G.fr
def raiseC (L : Lv) (ce : CE) (x : Str) (e : Expr) : Option (Cal → Es) := if okNm x && glB ce.sc x && !isStar e then (match ce.tb.xn x with
    | some (k, n) => (argsC L ce [e]).map fun g C => sRaise k n (g C)
    | none => none) else none
def tryC (L : Lv) (ce : CE) (body : List Stmt) : List ExceptHandler → Option (Cal → Es)
  | [.ExceptHandler (some (.Name x _)) (some n) (b0 :: su) _] => if okNm x && glB ce.sc x && okNm n && isLocal ce n then (match ce.tb.xm x, idx ce.N n, xsS ce (some n) (b0 :: su), stsC L ce body with
    | some m, some j, some s, some f => some fun C => sTryAs (f C) m j s
    | _, _, _, _ => none) else none
  | [.ExceptHandler (some (.Name x _)) none (b0 :: su) _] => if okNm x && glB ce.sc x then (match ce.tb.xm x, xsS ce none (b0 :: su), stsC L ce body with
    | some m, some s, some f => some fun C => sTryOnly (f C) m s
    | _, _, _ => none) else none
  | _ => none
theorem raise_ok (K : LvOk Z L) (G : GoodS Z W X ce C n) {x : Str} {e : Expr} {p pos pos' : Pos} {f : Cal → Es} (h : raiseC L ce x e = some f) : SS Z W X (.Raise (some (.Call (.Name x p) [e] [] pos)) none pos') (f C) := by
  unfold raiseC at h
  split at h
  · rename_i hz
    simp only [Bool.and_eq_true, Bool.not_eq_true'] at hz
    split at h
    · rename_i k fl hx
      obtain ⟨g, h1, rfl⟩ := map_some h
      exact ss_raise G.calm G.tk (G.fa.gxn x k fl hx) G.room (G.gl hz.1.2) (args_ok K G.toGood _ _ h1) (okNm1 hz.1.1) hz.2
    · cases h
  · cases h
theorem suite_ok (G : GoodS Z W X ce C n) {a : Addr} {oe : Obj} {pn : List (Addr × Obj)} {k : Nat} {d : Option Addr} {fs : List (Str × Av)} {x : Option Str} {i : Option Nat} (I : XIn Z X ce oe k d x i) {su : List Stmt} {s : Nat → List (Str × Av) → Es} (h : xsS ce x su = some s) :
    PSs (X.suite a ((a, oe) :: pn)) su (TXS Z a i d fs (s k fs)) := by
  have g := G.toGood
  unfold xsS at h
  split at h
  · obtain ⟨f, h1, rfl⟩ := map_some h
    exact pss_one (xs_ret ((xs_ok g I 20).1 _ _ h1))
  · split at h
    · rename_i hz
      simp only [Bool.and_eq_true, Bool.not_eq_true'] at hz
      obtain ⟨j, f, h1, h2, rfl⟩ := opt2_some h
      obtain ⟨l1, l2⟩ := g.loc hz.1
      exact pss_one (xs_set (Y := X.suite a ((a, oe) :: pn)) g.nd' (g.ix h1) l1 ((xs_ok g I 20).1 _ _ h2) (sw_of hz.2) l2)
    · cases h
  · split at h
    · rename_i hz
      simp only [Bool.and_eq_true, Bool.not_eq_true', decide_eq_false_iff_not] at hz
      obtain ⟨⟨⟨⟨z1, z2⟩, z3⟩, z4⟩, z5⟩ := hz
      split at h
      · rename_i j f j' f' h1 h2 h3 h4
        cases h
        obtain ⟨l1, l2⟩ := g.loc z1
        obtain ⟨l3, l4⟩ := g.loc z2
        refine xs_set2 (Y := X.suite a ((a, oe) :: pn)) g.nd' (g.ix h1) l1 ((xs_ok g I 20).1 _ _ h2) (sw_of z3) l2 (g.ix h3) l3 ((xs_ok g I 20).1 _ _ h4) (sw_of z4) l4 ?_
        intro hij
        cases x with
        | none => rw [I.n rfl] at hij; cases hij
        | some y =>
          obtain ⟨_, _, j2, q1, q2⟩ := I.v y rfl
          rw [hij] at q2
          cases q2
          have e1 := idx_ok h1
          rw [idx_ok q1] at e1
          cases e1
          exact z5 rfl
      · cases h
    · cases h
  · cases h
theorem try_ok (K : LvOk Z L) (G : GoodS Z W X ce C n) {body : List Stmt} {hs : List ExceptHandler} {pos : Pos} {f : Cal → Es} (h : tryC L ce body hs = some f) : SS Z W X (.Try body hs [] [] pos) (f C) := by
  have g := G.toGood
  unfold tryC at h
  split at h
  · split at h
    · rename_i hz
      simp only [Bool.and_eq_true] at hz
      obtain ⟨⟨⟨z1, z2⟩, z3⟩, z4⟩ := hz
      split at h
      · rename_i m j s fb h1 h2 h3 h4
        cases h
        obtain ⟨v, cv, w1, w2, w3, w4⟩ := g.fa.gxm _ m h1
        refine ss_tryAs G.st G.fr g.nd' (g.ix h2) (isLocal_ok g z4) ⟨g.gl z2, okNm1 z1, w1⟩ g.tk (fun k b q => (w4 k b q).1) (fun W' pn xe tk po => sts_ok K (G.tr tk po) _ _ h4) (fun a oe k d fs pn hk hz hd => ?_)
        refine suite_ok (x := some _) G ⟨hz, hd, (w4 k _ hk).2.2.1, (w4 k _ hk).2.2.2, fun y hy => ?_, fun hn => (by cases hn)⟩ h3
        cases hy
        refine ⟨?_, z3, j, h2, rfl⟩
        unfold isLocal at z4
        unfold visB
        split at z4
        · rename_i q; rw [q]
        · cases z4
      · cases h
    · cases h
  · split at h
    · rename_i hz
      simp only [Bool.and_eq_true] at hz
      obtain ⟨z1, z2⟩ := hz
      split at h
      · rename_i m s fb h1 h3 h4
        cases h
        obtain ⟨v, cv, w1, w2, w3, w4⟩ := g.fa.gxm _ m h1
        refine ss_tryOnly G.st G.fr ⟨g.gl z2, okNm1 z1, w1⟩ g.tk (fun k b q => (w4 k b q).1) (fun W' pn xe tk po => sts_ok K (G.tr tk po) _ _ h4) (fun a oe k d fs pn hk hz hd => ?_)
        exact suite_ok G ⟨hz, hd, (w4 k _ hk).2.2.1, (w4 k _ hk).2.2.2, fun y (hy : (none : Option Str) = some y) => (by cases hy), fun _ => rfl⟩ h3
      · cases h
    · cases h
  · cases h
def sS (L : Lv) (ce : CE) : Stmt → Option (Cal → Es)
  | .Pass _ => some fun _ => sPass
  | .Break _ => some fun _ => sBreak
  | .Continue _ => some fun _ => sCont
  | .Expr e _ => if isComp e then none else (L.e ce e).map fun f C => sDrop (f C)
  | .Return none _ => some fun _ => sRet (eC .non)
  | .Return (some v) _ => retC L ce v
  | .If c a b _ => (match L.t ce c with
    | some t => opt2 (stsC L ce a) (stsC L ce b) fun f g C => sIf (t C) (f C) (g C)
    | none => none)
  | .Assign [.Name x px] v _ => setC L ce x px v
  | .Assign [.Tuple ts _ _] v _ => (match tupC L ce ts v with
    | some f => some f
    | none => tupU L ce ts v)
  | .Assign [.Attribute o m _] v _ => if ce.tb.fl m && !isComp v then opt2 (L.e ce o) (L.e ce v) fun f g C => sSetFld (f C) (g C) m else none
  | .Assign [.Subscript o i _] v _ => if isSlice i || isComp v then none else (match L.e ce v with
    | some fv => opt2 (L.e ce o) (L.e ce i) fun f g C => sSetIx (fv C) (f C) (g C)
    | none => none)
  | .AugAssign (.Name x _) .Add v _ => (match idx ce.N x with
    | some i => if locB ce x then (L.e ce v).map fun f C => sAugO i (opAugO ce.tb.dn C) (f C) else none
    | none => none)
  | .AugAssign (.Name x _) .Sub v _ => (match idx ce.N x with
    | some i => if locB ce x then (L.e ce v).map fun f C => sAug i .Sub (f C) else none
    | none => none)
  | .For tg it body [] _ => if isSetE it then none else (match itC L ce tg it, tgC ce tg, stsC L ce body with
    | some fi, some (_, g), some f => some fun C => sFor (fi C) g (f C)
    | _, _, _ => none)
  | .While c body [] _ => opt2 (L.t ce c) (stsC L ce body) fun t f C => whileL (t C) (f C) ce.wh
  | .Raise (some (.Call (.Name x _) [e] [] _)) none _ => raiseC L ce x e
  | .Try body (h :: hs) [] [] _ => (match tryC L ce body (h :: hs) with
    | some f => some f
    | none => (stsC L ce body).map fun f C => sThru (f C))
  | _ => none
theorem sS_ok (K : LvOk Z L) (G : GoodS Z W X ce C n) {st : Stmt} {f : Cal → Es} (h : sS L ce st = some f) : SS Z W X st (f C) := by
  have g := G.toGood
  unfold sS at h
  split at h
  · cases h; exact ss_pass
  · cases h; exact ss_break
  · cases h; exact ss_cont
  · split at h
    · cases h
    · rename_i hc
      obtain ⟨v, h1, rfl⟩ := map_some h
      exact ss_expr (K.e W X ce C n g _ _ h1) (sw_of (by simpa using hc))
  · cases h; exact ss_retN
  · exact ret_ok K g h
  · split at h
    · rename_i t ht
      obtain ⟨a, b, h1, h2, rfl⟩ := opt2_some h
      exact ss_if (K.t W X ce C n g _ _ ht) (sts_ok K G _ _ h1) (sts_ok K G _ _ h2)
    · cases h
  · exact set_ok K g h
  · split at h
    · rename_i f' hf
      cases h
      exact tup_ok K g hf
    · exact tupU_ok K g h
  · split at h
    · rename_i hz
      simp only [Bool.and_eq_true, Bool.not_eq_true'] at hz
      obtain ⟨a, b, h1, h2, rfl⟩ := opt2_some h
      have e1 := K.e W X ce C n g _ _ h1
      have e2 := K.e W X ce C n g _ _ h2
      exact ss_setFld g.fa.hK g.fa.hC (g.fa.gfl _ hz.1) e1 e2 (ps_fld e1 e2 (sw_of hz.2))
    · cases h
  · split at h
    · cases h
    · rename_i hz
      simp only [Bool.or_eq_true, not_or, Bool.not_eq_true] at hz
      split at h
      · rename_i fv hv
        obtain ⟨a, b, h1, h2, rfl⟩ := opt2_some h
        exact (ps_asg (K.e W X ce C n g _ _ hv) (pg_sub (K.e W X ce C n g _ _ h1) (K.e W X ce C n g _ _ h2) (set_all (by have := g.units; omega)) (asg_sub hz.1)) (sws_of hz.2) rfl rfl).imp imp_setIx
      · cases h
  · split at h
    · rename_i i hi
      split at h
      · rename_i hl
        obtain ⟨v, h1, rfl⟩ := map_some h
        obtain ⟨l1, l2⟩ := g.loc hl
        exact ss_augO (ip_augO g.fa.hK g.roomN g.fa.gdn g.fa.gad g.fa.gai g.fa.gas) augO_nox g.nd' (g.ix hi) l1 (K.e W X ce C n g _ _ h1) l2
      · cases h
    · cases h
  · split at h
    · rename_i i hi
      split at h
      · rename_i hl
        obtain ⟨v, h1, rfl⟩ := map_some h
        obtain ⟨l1, l2⟩ := g.loc hl
        exact ss_aug (.inr rfl) g.nd' (g.ix hi) l1 (K.e W X ce C n g _ _ h1) l2
      · cases h
    · cases h
  · split at h
    · cases h
    · rename_i hs
      split at h
      · rename_i fi is gg ff h1 h2 h3
        cases h
        obtain ⟨t, p1, p2⟩ := tg_ok g h2
        exact ss_for G.po g.calm (it_ok K g h1) p1 p2 (sts_ok K G _ _ h3) (fold_of (by simpa using hs))
      · cases h
  · obtain ⟨a, b, h1, h2, rfl⟩ := opt2_some h
    exact ss_while G.po (K.t W X ce C n g _ _ h1) (sts_ok K G _ _ h2)
  · exact raise_ok K G h
  · split at h
    · rename_i f' hf
      cases h
      exact try_ok K G hf
    · obtain ⟨v, h1, rfl⟩ := map_some h
      exact ss_thru (sts_ok K G.nox _ _ h1)
  · cases h
def sT (L : Lv) (ce : CE) (st : Stmt) : Option (Cal → Es) := match sS L ce st with
  | some f => some f
  | none => some fun _ => sBad
theorem sT_ok (K : LvOk Z L) (G : GoodS Z W X ce C n) {st : Stmt} {f : Cal → Es} (h : sT L ce st = some f) : SS Z W X st (f C) := by
  unfold sT at h
  split at h
  · rename_i g hg
    cases h
    exact sS_ok K G hg
  · cases h; exact ss_bad
def Lv.up (L : Lv) : Lv := ⟨eS L, tS L, sT L⟩
theorem LvOk.up (K : LvOk Z L) : LvOk Z L.up := ⟨fun W X ce C n G ex f h => eS_ok K G h, fun W X ce C n G ex f h => tS_ok K G h, fun W X ce C n G st f h => sT_ok K G h⟩
def lv : Nat → Lv
  | 0 => .nil
  | n + 1 => (lv n).up
theorem lv_ok : ∀ m : Nat, LvOk Z (lv m)
  | 0 => lv_nil
  | m + 1 => (lv_ok m).up
end
end Pd
set_option maxHeartbeats 2000000
namespace Pd
open PySem PySem.Spec L2
def vU : Value → V
  | .none => .non
  | .bool b => .bl b
  | .int i _ => .int i
  | .str x _ => .str x
  | .ref a => .ref a
  | _ => .non
mutual
theorem con_rep {Z : Sc} : ∀ (a : Av) (u : Value), conB Z.K a u = true → RelV (vU u) u ∧ ∀ c, Rep Z c (vU u) a
  | .non, u, h => by cases u <;> first | exact ⟨rfl, fun _ => .non⟩ | cases h
  | .bl b, u, h => by
    cases u <;> first | (cases h; done) | skip
    have e : (b == _) = true := h
    rw [eq_of_beq e]
    exact ⟨rfl, fun _ => .bl _⟩
  | .int i, u, h => by
    cases u <;> first | (cases h; done) | skip
    have e := of_decide_eq_true h
    subst e
    exact ⟨⟨_, rfl⟩, fun _ => .int _⟩
  | .str x, u, h => by
    cases u <;> first | (cases h; done) | skip
    have e := of_decide_eq_true h
    subst e
    exact ⟨⟨_, rfl⟩, fun _ => .str _⟩
  | .tup xs, u, h => by
    cases u <;> first | (simp [conB] at h; done) | skip
    rename_i a
    simp only [conB] at h
    split at h
    · rename_i c od its m sl hl
      simp only [Bool.and_eq_true, decide_eq_true_eq] at h
      obtain ⟨⟨h1, h2⟩, h3⟩ := h
      obtain ⟨r1, r2⟩ := cons_rep xs its.toList h3
      refine ⟨rfl, fun c' => .tup (.inr ⟨_, its, m, hl, congrArg Value.type h1, rfl, h2, r1⟩) (r2 c')⟩
    · cases h
  | .lst _, u, h => by cases u <;> cases h
  | .fz _, u, h => by cases u <;> cases h
  | .obj _ _ _, u, h => by cases u <;> cases h
  | .dct _ _, u, h => by cases u <;> cases h
  | .ref _, u, h => by cases u <;> cases h
  | .ty _, u, h => by cases u <;> cases h
  | .cls _, u, h => by cases u <;> cases h
theorem cons_rep {Z : Sc} : ∀ (as : List Av) (us : List Value), consB Z.K as us = true → Vals (us.map vU) us ∧ ∀ c, Reps Z c (us.map vU) as
  | [], [], _ => ⟨.nil, fun _ => .nil⟩
  | [], _ :: _, h => by simp [consB] at h
  | _ :: _, [], h => by simp [consB] at h
  | a :: as, u :: us, h => by
    simp only [consB, Bool.and_eq_true] at h
    obtain ⟨h1, h2⟩ := con_rep a u h.1
    obtain ⟨h3, h4⟩ := cons_rep as us h.2
    exact ⟨.cons h1 h3, fun c => .cons (h2 c) (h4 c)⟩
end
theorem FnE.funD {Z : Sc} {d : FnE} (e : fnW Z.K d.pt = d.val) (c : d.ok Z.K = true) : ∃ fd dvs, FunD Z.K d.name d.qual d.params d.body d.scope dvs [] (d.pt.ad Z.K) fd ∧ dvs.length = d.dfl.length ∧ ∀ c, Reps Z c dvs d.dfl := by
  simp only [FnE.ok, Bool.and_eq_true] at c
  obtain ⟨kp, c2⟩ := c
  unfold fnW at e
  cases q : Z.K.lookup (d.pt.ad Z.K) with
  | none => rw [q] at c2; cases c2
  | some o =>
    obtain ⟨oc, od, dt, osl⟩ := o
    rw [q] at c2 e
    cases dt with
    | func fd =>
      obtain ⟨n1, n2, n3, n4, n5, n6, n7, n8, n9, n10, n11, n12, n13, n14, n15⟩ := fd
      have e2 : (some (n1, n2, n3, n4, n5, n6, n7, n15) : He.FnW) = some (d.name, d.qual, d.params, .stmts d.body, d.scope, mainGlobals, [], builtinsNs) := e
      simp only [Option.some.injEq, Prod.mk.injEq] at e2
      obtain ⟨h1, h2, h3, h4, h5, h6, h7, h8⟩ := e2
      subst h1 h2 h3 h4 h5 h6 h7 h8
      simp only [Bool.and_eq_true] at c2
      obtain ⟨k1, k2⟩ := c2
      split at k2
      · rename_i us hu
        simp only [Bool.and_eq_true] at k2
        obtain ⟨k3, k4⟩ := k2
        obtain ⟨v1, v2⟩ := cons_rep (Z := Z) d.dfl us k3
        refine ⟨_, us.map vU, ⟨⟨oc, od, n8, n9, n10, n11, n12, n13, n14, osl, rfl, q, k1, ?_, .inl rfl⟩, kp⟩, ?_, v2⟩
        · unfold dItems at hu
          cases n8 with
          | none => cases hu; exact .inl ⟨rfl, rfl⟩
          | ref T =>
            simp only at hu
            cases q2 : Z.K.lookup T with
            | none => rw [q2] at hu; cases hu
            | some o2 =>
              obtain ⟨oc2, od2, dt2, osl2⟩ := o2
              rw [q2] at hu
              cases dt2 with
              | seq its m =>
                cases hu
                refine .inr ⟨?_, T, _, its.toList, m, rfl, q2, by simp, v1⟩
                intro z
                simp only [List.map_eq_nil_iff] at z
                simp [z] at k4
              | _ => cases hu
          | _ => cases hu
        · exact (v2 ⟨fun _ => none, fun _ => 0, 0⟩).length
      · cases k2
    | _ => cases c2
def Pg.Z (p : Pg) (K : PySem.W.Frag) (w : World) : Sc where
  K := K
  w := w
  cl := fun c => He.ga K (p.cn c)
  has := fun c => ∃ x, p.cls[c]? = some x ∧ x ≠ Str.empty
  xc := fun k => He.ga K ((p.exs[k]?).getD Str.empty)
def cmLook : List (Str × (Nat × Nat × Nat × List Av)) → Str → Nat → Option (Nat × Nat × List Av)
  | [], _, _ => none
  | (m, (c, id, np, dfl)) :: r, n, k => if decide (m = n) && Nat.beq c k then some (id, np, dfl) else cmLook r n k
def dnLook : List (Str × (Nat × Nat)) → Str → Nat → Option Nat
  | [], _, _ => none
  | (m, (c, id)) :: r, n, k => if decide (m = n) && Nat.beq c k then some id else dnLook r n k
def Pg.tb (p : Pg) : Tb where
  G := fun x => p.G.lookup x
  ms := fun x => p.ms.lookup x
  cm := cmLook p.cm
  fl := fun x => p.fl.contains x
  eq := fun k => p.eqs.lookup k
  dn := dnLook p.dns
  xn := fun x => (p.xns.lookup x).map fun q => (q.1, q.2.1)
  xm := fun y => (p.xms.lookup y).map fun l k => l.lookup k
  xf := fun x => p.xfs.contains x
  pr := fun x => p.prs.lookup x
def isGlo (p : Pt) (x : Str) : Bool := match p with
  | .glo y => decide (x = y)
  | _ => false
def isMet (p : Pt) (c m : Str) : Bool := match p with
  | .met d n => decide (c = d) && decide (m = n)
  | _ => false
def isCme (p : Pt) (c m : Str) : Bool := match p with
  | .cme d n => decide (c = d) && decide (m = n)
  | _ => false
def isPrp (p : Pt) (c m : Str) : Bool := match p with
  | .prp d n => decide (c = d) && decide (m = n)
  | _ => false
def Pg.fit (p : Pg) : Bool :=
  (p.G.all fun q => match q.2 with
    | .fn id np dfl => (match p.fns[id]? with
      | some d => isGlo d.pt q.1 && eqAs dfl d.dfl
      | none => false)
    | .cls c id np dfl _ => decide (p.cls[c]? = some q.1) && !decide (q.1 = Str.empty) && (match p.fns[id]? with
      | some d => isMet d.pt q.1 "__init__" && eqAs dfl d.dfl
      | none => false)
    | _ => true) &&
  (p.ms.all fun q => match q.2 with
    | (c, id, np, dfl) => (match p.cls[c]?, p.fns[id]? with
      | some x, some d => isMet d.pt x q.1 && eqAs dfl d.dfl
      | _, _ => false)) &&
  (p.cm.all fun q => match q.2 with
    | (c, id, np, dfl) => (match p.cls[c]?, p.fns[id]? with
      | some x, some d => isCme d.pt x q.1 && eqAs dfl d.dfl
      | _, _ => false)) &&
  (p.eqs.all fun q => match p.cls[q.1]?, p.fns[q.2]? with
    | some x, some d => isMet d.pt x "__eq__" && d.dfl.isEmpty
    | _, _ => false) &&
  (p.dns.all fun q => match p.cls[q.2.1]?, p.fns[q.2.2]? with
    | some x, some d => isMet d.pt x q.1 && d.dfl.isEmpty
    | _, _ => false) &&
  (p.prs.all fun q => match p.cls[q.2.1]?, p.fns[q.2.2]? with
    | some x, some d => !decide (x = Str.empty) && isPrp d.pt x q.1 && d.dfl.isEmpty
    | _, _ => false)
end Pd
set_option maxHeartbeats 2000000
namespace Pd
open PySem PySem.Spec L2
def Pg.ce (p : Pg) (d : FnE) : CE := ⟨p.tb, d.N, d.scope, fun _ => true, d.mu, d.keep, p.wh, d.cv, false⟩
def Pg.body (p : Pg) (d : FnE) : Cal → Es := match stsC (lv p.fu) (p.ce d) d.body with
  | some f => f
  | none => fun _ _ _ => .bad
def Pg.sem (p : Pg) : Nat → Cal
  | 0 => fun _ _ _ => .bad
  | k + 1 => fun id => match p.fns[id]? with
    | some d => runF d.ps.length d.N.length (p.body d (p.sem k))
    | none => fun _ _ => .bad
structure BindOk (d : FnE) : Prop where
  b0 : d.dfl = [] → ∀ (kV doc pm : Value) (an : Option Addr) (cdv ct : Value) (us : List Value), us.length = d.ps.length → bindArgs (PySem.W.fnOf d.name d.qual d.params d.body d.scope .none kV doc pm an cdv ct) ⟨us, []⟩ = pure (d.ps.zip us)
  b1 : d.dfl ≠ [] → ∀ j, j ≤ d.dfl.length → ∀ (T : Addr) (kV doc pm : Value) (an : Option Addr) (cdv ct : Value) (us its : List Value), us.length = d.ps.length - (d.dfl.length - j) → its.length = d.dfl.length →
    ∃ k, bindArgs (PySem.W.fnOf d.name d.qual d.params d.body d.scope (.ref T) kV doc pm an cdv ct) ⟨us, []⟩ = seqItems? (.ref T) >>= k ∧ k (some its.toArray) = pure (d.ps.zip (us ++ its.drop j))
  le : d.dfl.length ≤ d.ps.length
def scB (d : FnE) : Bool := decide (d.scope.kind = .function) && !d.scope.isCoroutine && !d.scope.isGenerator && decide d.N.Nodup && decide (d.N.take d.ps.length = d.ps) && (d.ps.all fun x => match d.scope.names.lookup x with
    | some .local => true
    | some .cell => true
    | _ => false) && d.scope.names.all fun y => !isFree y.2
theorem sc_ok {d : FnE} (h : scB d = true) : FnScope d.N d.ps d.scope := by
  simp only [scB, Bool.and_eq_true, Bool.not_eq_true', decide_eq_true_eq, List.all_eq_true] at h
  obtain ⟨⟨⟨⟨⟨⟨h1, h2⟩, h3⟩, h4⟩, h5⟩, h6⟩, h7⟩ := h
  refine ⟨h1, h2, h3, h4, h5, fun x hx => ?_, fun y hy e => ?_⟩
  · have := h6 x hx
    split at this
    · exact .inl ‹_›
    · exact .inr ‹_›
    · cases this
  · have := h7 y hy
    rw [e] at this
    cases this
theorem binds_ok {K : PySem.W.Frag} {d : FnE} {dvs : List V} {f : Addr} {fd : FuncData} (B : BindOk d) (F : FunD K d.name d.qual d.params d.body d.scope dvs [] f fd) (hl : dvs.length = d.dfl.length) : ∀ j, ∃ ds, Vals (dvs.drop j) ds ∧ Binds K fd d.ps ds := by
  intro j
  by_cases h0 : d.dfl = []
  · have e : dvs = [] := List.eq_nil_of_length_eq_zero (by rw [hl, h0]; rfl)
    subst e
    exact ⟨[], by rw [List.drop_nil]; exact .nil, F.bindsN (B.b0 h0)⟩
  · have hd : dvs ≠ [] := fun z => h0 (List.eq_nil_of_length_eq_zero (by rw [← hl, z]; rfl))
    have le := B.le
    by_cases hj : j ≤ d.dfl.length
    · exact F.binds1 (d.ps.length - (d.dfl.length - j)) j hd (by rw [hl]; omega) fun T kV doc pm an cdv ct us its h1 h2 => B.b1 h0 j hj T kV doc pm an cdv ct us its h1 (by rw [h2, hl])
    · have e1 : dvs.drop j = dvs.drop d.dfl.length := by
        rw [List.drop_eq_nil_of_le (by omega), List.drop_eq_nil_of_le (by omega)]
      rw [e1]
      exact F.binds1 (d.ps.length - (d.dfl.length - d.dfl.length)) d.dfl.length hd (by rw [hl]; omega) fun T kV doc pm an cdv ct us its h1 h2 => B.b1 h0 _ (Nat.le_refl _) T kV doc pm an cdv ct us its h1 (by rw [h2, hl])
structure AtLv (P : Program) (w : World) (Z : Sc) (mg : Str → Option Value) (base : Heap) (k : Nat) (d : FnE) (sem : Fn) : Prop where
  ex : ∃ fd dvs, FunD Z.K d.name d.qual d.params d.body d.scope dvs [] (d.pt.ad Z.K) fd ∧ (∀ c, Reps Z c dvs d.dfl) ∧ (∀ j, ∃ ds, Vals (dvs.drop j) ds ∧ Binds Z.K fd d.ps ds) ∧ FnOk P w Z.K mg base (CX P w) k (d.pt.ad Z.K) fd d.ps (spOf Z sem)
theorem AtLv.callee {X : Cx} {Z : Sc} {k : Nat} {d : FnE} {sem : Fn} (hK : X.K = Z.K) (A : AtLv X.prog X.w Z X.mg X.base k d sem) (j : Nat) : Callee Z X k sem (d.dfl.drop j) (d.pt.ad Z.K) := by
  obtain ⟨fd, dvs, F, r, b, ok⟩ := A.ex
  obtain ⟨ds, v1, v2⟩ := b j
  refine ⟨⟨fd, d.ps, ds, dvs.drop j, by rw [hK]; exact ok, by rw [hK]; exact v2, v1, fun c => (r c).drop j⟩, by rw [hK]; exact F.kp⟩
section
variable {p : Pg} {K : PySem.W.Frag}
theorem chk_parts (h : p.chk K = true) : (∀ d ∈ p.fns, d.ok K = true) ∧ (∀ q ∈ p.G, (match q.2 with
    | .fn _ _ _ => decide (PySem.W.nsIn K mainGlobals q.1 = some (some (.ref (He.ga K q.1))))
    | .cls _ _ _ _ _ => decide (PySem.W.nsIn K mainGlobals q.1 = some (some (.ref (He.ga K q.1)))) && (He.Fa.mkr q.1).ok K
    | .con v => (match PySem.W.nsIn K mainGlobals q.1 with
      | some (some u) => conB K v u
      | _ => false)
    | .fre => decide (PySem.W.nsIn K mainGlobals q.1 = some none)) = true) ∧ (∀ x ∈ p.cs, clsOk K x = true) ∧ pairsOk K p.cls = true ∧ PySem.W.specialIn K (.builtin "object.__class__") "__get__" = some (some (.builtin "getset_descriptor.__get__")) ∧ PySem.W.takesIn K (.builtin "object.__class__") = some true ∧
    (∀ q ∈ p.ms, (He.Fa.meth (p.cn q.2.1) q.1).ok K = true) ∧ (∀ q ∈ p.cm, cmOk K (p.cn q.2.1) q.1 = true) ∧ (∀ x ∈ p.cs, ∀ f ∈ p.fl, (He.Fa.noat x f).ok K = true) ∧ (∀ q ∈ p.eqs, eqOk K p.cs (p.cn q.1) = true) ∧ (∀ q ∈ p.dns, dnOk K (p.cn q.2.1) q.1 = true) ∧ (∀ q ∈ p.xns, xnOk K p.exs p.file q.1 q.2.1 q.2.2.1 q.2.2.2 = true) ∧ (∀ q ∈ p.xms, xmOk K p.exs p.xfs q.1 q.2 = true) ∧ ∀ q ∈ p.prs, prOk K (p.cn q.2.1) q.1 = true := by
  unfold Pg.chk at h
  simp only [Bool.and_eq_true] at h
  obtain ⟨⟨⟨⟨⟨⟨⟨⟨⟨⟨⟨⟨⟨h1, h2⟩, h3⟩, h4⟩, h5⟩, h6⟩, h7⟩, h8⟩, h9⟩, h10⟩, h11⟩, h12⟩, h13⟩, h14⟩ := h
  exact ⟨List.all_eq_true.mp h1, List.all_eq_true.mp h2, List.all_eq_true.mp h3, h4, of_decide_eq_true h5, of_decide_eq_true h6, List.all_eq_true.mp h7, List.all_eq_true.mp h8, fun x hx => List.all_eq_true.mp (List.all_eq_true.mp h9 x hx), List.all_eq_true.mp h10, List.all_eq_true.mp h11, List.all_eq_true.mp h12, List.all_eq_true.mp h13, List.all_eq_true.mp h14⟩
theorem cn_mem {c : Nat} (h : ∃ x, p.cls[c]? = some x ∧ x ≠ Str.empty) : p.cn c ∈ p.cs ∧ p.cls[c]? = some (p.cn c) ∧ p.cn c ≠ Str.empty := by
  obtain ⟨x, e, hx⟩ := h
  unfold Pg.cn Pg.cs
  rw [e]
  refine ⟨List.mem_filter.mpr ⟨List.mem_of_getElem? e, ?_⟩, rfl, hx⟩
  simp only [Option.getD_some, Bool.not_eq_true', decide_eq_false_iff_not]
  exact hx
theorem isi_facts {w : World} (h : p.chk K = true) : ClsFacts (p.Z K w) ∧ IsiF (p.Z K w) := by
  obtain ⟨_, _, h3, h4, h5, h6, _, _, _, _, _, _, _, _⟩ := chk_parts h
  have cl : ∀ c, (∃ x, p.cls[c]? = some x ∧ x ≠ Str.empty) → clsOk K (p.cn c) = true := fun c hc => h3 _ (cn_mem hc).1
  have pr : ∀ x, clsOk K x = true → (((((He.Fa.cls x).ok K = true ∧ PySem.W.findIn K (.ref (He.ga K x)) "__class__" = some (some (.builtin "object.__class__"))) ∧ PySem.W.mroIn K (He.ga K x) (.type "object") = some true) ∧ (∀ a ∈ bts, PySem.W.kitOne K (.type a.name) (.ref (He.ga K x)) = some false)) ∧ ∀ b ∈ bts1, PySem.W.kitOne K (.ref (He.ga K x)) (.type b.name) = some false) := fun x hx => by
    simpa only [clsOk, Bool.and_eq_true, decide_eq_true_eq, List.all_eq_true] using hx
  have mb : ∀ a : Bt, a ∈ bts := fun a => by cases a <;> simp [bts]
  have mb1 : ∀ a : Bt, a ≠ .non → a ∈ bts1 := fun a h => by cases a <;> first | exact absurd rfl h | simp [bts1]
  refine ⟨⟨fun c hc => He.cls_ok (pr _ (cl c hc)).1.1.1.1⟩, ⟨fun a k hk => (pr _ (cl k hk)).1.2 a (mb a), fun k b hk hb => (pr _ (cl k hk)).2 b (mb1 b hb), fun k j hk hj => ?_, fun k hk => (pr _ (cl k hk)).1.1.1.2, h5, h6, fun k hk => (pr _ (cl k hk)).1.1.2⟩⟩
  have lt : ∀ {c}, (∃ x, p.cls[c]? = some x ∧ x ≠ Str.empty) → c < p.cls.length := fun {c} ⟨x, e, _⟩ => (List.getElem?_eq_some_iff.mp e).1
  have q := List.all_eq_true.mp (List.all_eq_true.mp h4 k (List.mem_range.mpr (lt hk))) j (List.mem_range.mpr (lt hj))
  rw [(cn_mem hk).2.1, (cn_mem hj).2.1] at q
  simp only [Bool.or_eq_true, decide_eq_true_eq] at q
  rcases q with (q | q) | q
  · exact absurd q (cn_mem hk).2.2
  · exact absurd q (cn_mem hj).2.2
  · exact q
theorem lookup_mem {α : Type} : ∀ {l : List (Str × α)} {x : Str} {a : α}, l.lookup x = some a → (x, a) ∈ l
  | [], _, _, h => by cases h
  | (y, b) :: r, x, a, h => by
    rw [List.lookup_cons] at h
    cases q : x == y with
    | true =>
      rw [q] at h
      cases h
      rw [eq_of_beq q]
      exact List.mem_cons_self
    | false => rw [q] at h; exact List.mem_cons_of_mem _ (lookup_mem h)
theorem lookN_mem : ∀ {l : List (Nat × Nat)} {x : Nat} {a : Nat}, l.lookup x = some a → (x, a) ∈ l
  | [], _, _, h => by cases h
  | (y, b) :: r, x, a, h => by
    rw [List.lookup_cons] at h
    cases q : x == y with
    | true =>
      rw [q] at h
      cases h
      rw [eq_of_beq q]
      exact List.mem_cons_self
    | false => rw [q] at h; exact List.mem_cons_of_mem _ (lookN_mem h)
theorem lookB_mem : ∀ {l : List (Nat × Bool)} {x : Nat} {a : Bool}, l.lookup x = some a → (x, a) ∈ l
  | [], _, _, h => by cases h
  | (y, b) :: r, x, a, h => by
    rw [List.lookup_cons] at h
    cases q : x == y with
    | true =>
      rw [q] at h
      cases h
      rw [eq_of_beq q]
      exact List.mem_cons_self
    | false => rw [q] at h; exact List.mem_cons_of_mem _ (lookB_mem h)
theorem cm_mem : ∀ {l : List (Str × (Nat × Nat × Nat × List Av))} {m : Str} {c id np : Nat} {dfl : List Av}, cmLook l m c = some (id, np, dfl) → (m, (c, id, np, dfl)) ∈ l
  | [], _, _, _, _, _, h => by cases h
  | (n, (k, i, q, d)) :: r, m, c, id, np, dfl, h => by
    unfold cmLook at h
    split at h
    · rename_i hz
      simp only [Bool.and_eq_true, decide_eq_true_eq] at hz
      cases h
      rw [hz.1, Nat.eq_of_beq_eq_true hz.2]
      exact List.mem_cons_self
    · exact List.mem_cons_of_mem _ (cm_mem h)
theorem dn_mem : ∀ {l : List (Str × (Nat × Nat))} {m : Str} {c id : Nat}, dnLook l m c = some id → (m, (c, id)) ∈ l
  | [], _, _, _, h => by cases h
  | (n, (k, i)) :: r, m, c, id, h => by
    unfold dnLook at h
    split at h
    · rename_i hz
      simp only [Bool.and_eq_true, decide_eq_true_eq] at hz
      cases h
      rw [hz.1, Nat.eq_of_beq_eq_true hz.2]
      exact List.mem_cons_self
    · exact List.mem_cons_of_mem _ (dn_mem h)
def PgP (p : Pg) (P : Program) : Prop := P.main.file = p.file ∧ (P.main.scope.names.lookup ("super" : Str)).isSome = false
theorem facts_of {X : Cx} {C : Cal} {n : Nat} (hP : PgP p X.prog) (hK : X.K = K) (F : KFacts p K) (hf : p.fit = true) (hg : ∀ x v, PySem.W.nsIn K mainGlobals x = some v → X.mg x = v) (A : ∀ id d, p.fns[id]? = some d → AtLv X.prog X.w (p.Z K X.w) X.mg X.base n d (C id)) : Facts (p.Z K X.w) X p.tb C n := by
  obtain ⟨c1, c2, c3, c4, c5, c6, c7, c8, c9, c10, c11, c12, c13, c14⟩ := chk_parts F.chk
  obtain ⟨hC, hI⟩ := isi_facts F.chk
  unfold Pg.fit at hf
  simp only [Bool.and_eq_true] at hf
  obtain ⟨⟨⟨⟨⟨f1, f2⟩, f3⟩, f4⟩, f5⟩, f6⟩ := hf
  have f1 := List.all_eq_true.mp f1
  have f2 := List.all_eq_true.mp f2
  have f3 := List.all_eq_true.mp f3
  have f4 := List.all_eq_true.mp f4
  have f5 := List.all_eq_true.mp f5
  have f6 := List.all_eq_true.mp f6
  have hK' : X.K = (p.Z K X.w).K := hK
  refine ⟨hK', rfl, hC, hI, fun x id np dfl h => ?_, fun x c id np dfl fz h => ?_, fun x v h => ?_, fun x h => ?_, fun m c id np dfl h => ?_, fun m c id np dfl h => ?_, fun f h => ?_, ⟨fun k id h => ?_⟩, ⟨fun m k id h => ?_⟩, fun k id h => ?_, fun k id h => ?_, fun k id h => ?_, fun k id h => ?_, fun x k n h => ?_, fun y m h => ?_, fun m c id h => ?_⟩
  · have hm := lookup_mem h
    have a1 := f1 _ hm
    have a2 := c2 _ hm
    simp only at a1 a2
    cases q : p.fns[id]? with
    | none => rw [q] at a1; cases a1
    | some d =>
      rw [q] at a1
      simp only [Bool.and_eq_true] at a1
      obtain ⟨a1, a3⟩ := a1
      have e := eqAs_eq a3
      subst e
      unfold isGlo at a1
      split at a1
      · rename_i y hy
        have e := of_decide_eq_true a1
        subst e
        have ead : d.pt.ad K = He.ga K x := by rw [hy]; rfl
        refine ⟨_, hg x _ (of_decide_eq_true a2), fun j => ?_⟩
        rw [← ead]
        exact (A id d q).callee hK' j
      · cases a1
  · have hm := lookup_mem h
    have a1 := f1 _ hm
    have a2 := c2 _ hm
    simp only [Bool.and_eq_true, decide_eq_true_eq] at a1 a2
    obtain ⟨⟨a0, a0'⟩, a1⟩ := a1
    obtain ⟨a2, a4⟩ := a2
    have hc : ∃ x, p.cls[c]? = some x ∧ x ≠ Str.empty := ⟨_, a0, by simpa using a0'⟩
    have ecn : p.cn c = x := by unfold Pg.cn; rw [a0]; rfl
    cases q : p.fns[id]? with
    | none => rw [q] at a1; cases a1
    | some d =>
      rw [q] at a1
      simp only [Bool.and_eq_true] at a1
      obtain ⟨a1, a3⟩ := a1
      have e := eqAs_eq a3
      subst e
      unfold isMet at a1
      split at a1
      · rename_i y m hy
        simp only [Bool.and_eq_true, decide_eq_true_eq] at a1
        obtain ⟨e1, e2⟩ := a1
        subst e1 e2
        have ead : d.pt.ad K = He.ma K (He.ga K x) "__init__" := by rw [hy]; rfl
        refine ⟨?_, hc, fun j => ?_⟩
        · show X.mg x = some (.ref (He.ga K (p.cn c)))
          rw [ecn]
          exact hg x _ a2
        · obtain ⟨⟨fd, ps, ds, dvs, z1, z2, z3, z4⟩, _⟩ := (A id d q).callee hK' j
          refine ⟨⟨_, fd, ps, ds, dvs, ?_, z1, z2, z3, z4⟩, hc⟩
          have := He.mkr_ok a4
          show Mk X.K (He.ga K (p.cn c)) (d.pt.ad K)
          rw [hK, ecn, ead]
          exact this
      · cases a1
  · have hm := lookup_mem h
    have a2 := c2 _ hm
    simp only at a2
    split at a2
    · rename_i u hu
      obtain ⟨r1, r2⟩ := con_rep (Z := p.Z K X.w) v u a2
      exact ⟨u, vU u, hg x _ hu, r1, r2⟩
    · cases a2
  · have hm := lookup_mem h
    have a2 := c2 _ hm
    simp only [decide_eq_true_eq] at a2
    exact hg x _ a2
  · have hm := lookup_mem h
    have a1 := f2 _ hm
    have a2 := c7 _ hm
    simp only at a1 a2
    cases q0 : p.cls[c]? with
    | none => rw [q0] at a1; cases a1
    | some x =>
      cases q : p.fns[id]? with
      | none => rw [q0, q] at a1; cases a1
      | some d =>
        rw [q0, q] at a1
        simp only [Bool.and_eq_true] at a1
        obtain ⟨a1, a3⟩ := a1
        have e := eqAs_eq a3
        subst e
        have ecn : p.cn c = x := by unfold Pg.cn; rw [q0]; rfl
        unfold isMet at a1
        split at a1
        · rename_i y m' hy
          simp only [Bool.and_eq_true, decide_eq_true_eq] at a1
          obtain ⟨e1, e2⟩ := a1
          subst e1 e2
          have ead : d.pt.ad K = He.ma K (He.ga K x) m := by rw [hy]; rfl
          rw [ecn] at a2
          have := He.meth_ok a2
          refine ⟨d.pt.ad K, ?_, fun j => (A id d q).callee hK' j⟩
          show Meth X.K (He.ga K (p.cn c)) m (d.pt.ad K)
          rw [hK, ecn, ead]
          exact this
        · cases a1
  · have hm := cm_mem h
    have a1 := f3 _ hm
    have a2 := c8 _ hm
    simp only at a1 a2
    cases q0 : p.cls[c]? with
    | none => rw [q0] at a1; cases a1
    | some x =>
      cases q : p.fns[id]? with
      | none => rw [q0, q] at a1; cases a1
      | some d =>
        rw [q0, q] at a1
        simp only [Bool.and_eq_true] at a1
        obtain ⟨a1, a3⟩ := a1
        have e := eqAs_eq a3
        subst e
        have ecn : p.cn c = x := by unfold Pg.cn; rw [q0]; rfl
        unfold isCme at a1
        split at a1
        · rename_i y m' hy
          simp only [Bool.and_eq_true, decide_eq_true_eq] at a1
          obtain ⟨e1, e2⟩ := a1
          subst e1 e2
          rw [ecn] at a2
          refine ⟨d.pt.ad K, ⟨?_⟩, fun j => (A id d q).callee hK' j⟩
          show ∃ mc pp, ClX.CRead K (He.ga K (p.cn c)) mc ∧ ClX.CMet K (He.ga K (p.cn c)) mc m pp (d.pt.ad K)
          rw [ecn]
          unfold cmOk at a2
          split at a2
          · rename_i mc hmc
            simp only [Bool.and_eq_true, decide_eq_true_eq] at a2
            obtain ⟨⟨⟨b1, b2⟩, b3⟩, b4⟩ := a2
            split at b3
            · rename_i g a b dd hfc
              simp only [Bool.and_eq_true, decide_eq_true_eq] at b3
              obtain ⟨⟨⟨e1, e2⟩, e3⟩, e4⟩ := b3
              subst e1 e2 e3 e4
              split at b4
              · rename_i g' rest hr
                have ead : d.pt.ad K = g' := by
                  rw [hy]
                  show (match PySem.W.recIn K (clsRec K x m) "classmethod" with
                    | some (.ref g :: _) => g
                    | _ => 0) = g'
                  rw [hr]
                rw [ead]
                exact ⟨mc, _, ⟨b1, b2⟩, ⟨hfc, ⟨rest, hr⟩, b4⟩⟩
              · cases b4
            · cases b3
          · cases a2
        · cases a1
  · intro c hc
    have hm : f ∈ p.fl := by
      have : p.fl.contains f = true := h
      simpa using this
    exact He.noat_ok (c9 _ (cn_mem hc).1 f hm)
  · have hm := lookN_mem h
    have a1 := f4 _ hm
    have a2 := c10 _ hm
    simp only at a1 a2
    cases q0 : p.cls[k]? with
    | none => rw [q0] at a1; cases a1
    | some x =>
      cases q : p.fns[id]? with
      | none => rw [q0, q] at a1; cases a1
      | some d =>
        rw [q0, q] at a1
        simp only [Bool.and_eq_true, List.isEmpty_iff] at a1
        obtain ⟨a1, a3⟩ := a1
        have ecn : p.cn k = x := by unfold Pg.cn; rw [q0]; rfl
        unfold isMet at a1
        split at a1
        · rename_i y m' hy
          simp only [Bool.and_eq_true, decide_eq_true_eq] at a1
          obtain ⟨e1, e2⟩ := a1
          subst e1 e2
          have ead : d.pt.ad K = He.ma K (He.ga K x) "__eq__" := by rw [hy]; rfl
          rw [ecn] at a2
          simp only [eqOk, Bool.and_eq_true, decide_eq_true_eq, List.all_eq_true] at a2
          obtain ⟨⟨⟨⟨⟨⟨b1, b2⟩, b3⟩, b4⟩, b5⟩, b6⟩, b7⟩ := a2
          have cal := (A id d q).callee hK' 0
          rw [a3] at cal
          refine ⟨d.pt.ad K, ⟨?_, ?_, fun b => ?_, fun j hj => ?_, ?_, ?_⟩, cal⟩
          · show PySem.W.findIn K (.ref (He.ga K (p.cn k))) "__eq__" = _
            rw [ecn, ead]; exact b1
          · show PySem.W.isFn K (.ref (d.pt.ad K)) = true
            rw [ead]; exact b2
          · show PySem.W.notFirst K (He.ga K (p.cn k)) _ = true
            rw [ecn]; exact b3 b (by cases b <;> simp [bts])
          · show PySem.W.notFirst K (He.ga K (p.cn k)) (.ref (He.ga K (p.cn j))) = true
            rw [ecn]; exact b4 _ (cn_mem hj).1
          · show PySem.W.findIn K (.ref (He.ga K (p.cn k))) "__ne__" = _
            rw [ecn]; exact b5
          · show PySem.W.mroIn K (He.ga K (p.cn k)) _ = _
            rw [ecn]; exact b6
        · cases a1
  · have hm := dn_mem h
    have a1 := f5 _ hm
    have a2 := c11 _ hm
    simp only at a1 a2
    cases q0 : p.cls[k]? with
    | none => rw [q0] at a1; cases a1
    | some x =>
      cases q : p.fns[id]? with
      | none => rw [q0, q] at a1; cases a1
      | some d =>
        rw [q0, q] at a1
        simp only [Bool.and_eq_true, List.isEmpty_iff] at a1
        obtain ⟨a1, a3⟩ := a1
        have ecn : p.cn k = x := by unfold Pg.cn; rw [q0]; rfl
        unfold isMet at a1
        split at a1
        · rename_i y m' hy
          simp only [Bool.and_eq_true, decide_eq_true_eq] at a1
          obtain ⟨e1, e2⟩ := a1
          subst e1 e2
          have ead : d.pt.ad K = He.ma K (He.ga K x) m := by rw [hy]; rfl
          rw [ecn] at a2
          simp only [dnOk, Bool.and_eq_true, decide_eq_true_eq] at a2
          obtain ⟨⟨⟨b1, b2⟩, b3⟩, b4⟩ := a2
          have cal := (A id d q).callee hK' 0
          rw [a3] at cal
          refine ⟨d.pt.ad K, ⟨?_, ?_, ?_⟩, cal⟩
          · show PySem.W.findIn K (.ref (He.ga K (p.cn k))) m = _
            rw [ecn, ead]; exact b1
          · show PySem.W.isFn K (.ref (d.pt.ad K)) = true
            rw [ead]; exact b2
          · show PySem.W.fnIn K (d.pt.ad K) = true
            rw [ead]; exact b3
        · cases a1
  · have hm := dn_mem h
    have a2 := c11 _ hm
    simp only [dnOk, Bool.and_eq_true, decide_eq_true_eq] at a2
    have b4 := a2.2
    rw [if_pos (by first | rfl | trivial)] at b4
    exact ⟨(Bool.and_eq_true_iff.mp b4).1⟩
  · have hm := dn_mem h
    have a2 := c11 _ hm
    simp only [dnOk, Bool.and_eq_true, decide_eq_true_eq] at a2
    have b4 := a2.2
    rw [if_pos (by first | rfl | trivial)] at b4
    exact ⟨(Bool.and_eq_true_iff.mp b4).2⟩
  · have hm := dn_mem h
    have a2 := c11 _ hm
    simp only [dnOk, Bool.and_eq_true, decide_eq_true_eq] at a2
    have b4 := a2.2
    rw [if_neg (by decide), if_pos (by first | rfl | trivial)] at b4
    exact ⟨b4⟩
  · have hm := lookN_mem h
    have a2 := c10 _ hm
    simp only [eqOk, Bool.and_eq_true, decide_eq_true_eq, List.all_eq_true] at a2
    exact ⟨fun b => a2.2 b (by cases b <;> simp [bts])⟩
  · obtain ⟨q, h1, h2⟩ := map_some h
    obtain ⟨k', n', ie⟩ := q
    simp only [Prod.mk.injEq] at h2
    obtain ⟨rfl, rfl⟩ := h2
    have a2 := c12 _ (lookup_mem h1)
    simp only [xnOk, Bool.and_eq_true, decide_eq_true_eq] at a2
    obtain ⟨⟨⟨⟨⟨⟨b1, b2⟩, b3⟩, b4⟩, b5⟩, b6⟩, b7⟩ := a2
    have ex : (p.Z K X.w).xc k = He.ga K x := by
      show He.ga K ((p.exs[k]?).getD Str.empty) = _
      rw [b1]; rfl
    obtain ⟨fd, Fi⟩ := xiB_ok b4
    rw [ex]
    refine ⟨?_, hP.2, hg _ _ b7, hg _ _ b2⟩
    rw [hP.1, hK]
    cases ie with
    | true => exact ⟨_, _, _, _, _, _, fd, xb_ie, xcB_ok b3, Fi, b5, b6⟩
    | false => exact ⟨_, _, _, _, _, _, fd, xb_ve, xcB_ok b3, Fi, b5, b6⟩
  · obtain ⟨l, h1, h2⟩ := map_some h
    subst h2
    have a2 := c13 _ (lookup_mem h1)
    simp only [xmOk, Bool.and_eq_true, List.all_eq_true] at a2
    obtain ⟨b1, b2⟩ := a2
    have rest : ∀ k b, l.lookup k = some b → PySem.W.exmOne X.K (.ref ((p.Z K X.w).xc k)) (cvOf K y) = some b ∧ PySem.W.kitOne X.K (.ref ((p.Z K X.w).xc k)) (cvOf K y) = some b ∧ XaF X.K ((p.Z K X.w).xc k) ∧ ∀ f, p.xfs.contains f = true → PySem.W.findIn X.K (.ref ((p.Z K X.w).xc k)) f = some none := fun k b q => by
      have hm := lookB_mem q
      have z := b2 _ hm
      simp only at z
      cases e : p.exs[k]? with
      | none => rw [e] at z; cases z
      | some nm =>
        rw [e] at z
        simp only [Bool.and_eq_true, decide_eq_true_eq, List.all_eq_true] at z
        obtain ⟨⟨⟨z1, z2⟩, z3⟩, z4⟩ := z
        have ex : (p.Z K X.w).xc k = He.ga K nm := by
          show He.ga K ((p.exs[k]?).getD Str.empty) = _
          rw [e]; rfl
        rw [ex, hK]
        exact ⟨z1, z2, xaB_ok z3, fun f hf => z4 f (by simpa using hf)⟩
    unfold cvB at b1
    split at b1
    · rename_i a hcv
      rw [hcv] at rest
      exact ⟨.ref a, .ref a, .inl (hg _ _ (of_decide_eq_true b1)), rfl, fun u hu => hu, rest⟩
    · rename_i t hcv
      simp only [Bool.and_eq_true, decide_eq_true_eq, Bool.not_eq_true', decide_eq_false_iff_not] at b1
      rw [hcv] at rest
      exact ⟨.ty t, .type t, .inr ⟨hg _ _ b1.1.1, b1.1.2, b1.2⟩, rfl, fun u hu => hu, rest⟩
    · cases b1
  · have hm := lookup_mem h
    have a1 := f6 _ hm
    have a2 := c14 _ hm
    simp only at a1 a2
    cases q0 : p.cls[c]? with
    | none => rw [q0] at a1; cases a1
    | some x =>
      cases q : p.fns[id]? with
      | none => rw [q0, q] at a1; cases a1
      | some d =>
        rw [q0, q] at a1
        simp only [Bool.and_eq_true, Bool.not_eq_true', decide_eq_false_iff_not] at a1
        obtain ⟨⟨a0, a1⟩, a3⟩ := a1
        have ecn : p.cn c = x := by unfold Pg.cn; rw [q0]; rfl
        have edf : d.dfl = [] := List.isEmpty_iff.mp a3
        unfold isPrp at a1
        split at a1
        · rename_i y m' hy
          simp only [Bool.and_eq_true, decide_eq_true_eq] at a1
          obtain ⟨e1, e2⟩ := a1
          subst e1 e2
          rw [ecn] at a2
          simp only [prOk, Bool.and_eq_true, decide_eq_true_eq] at a2
          obtain ⟨⟨⟨b1, b2⟩, b3⟩, b4⟩ := a2
          split at b4
          · rename_i g' rest hr
            have ead : d.pt.ad K = g' := by
              rw [hy]
              show (match PySem.W.recIn K (clsRec K x m) "property" with
                | some (.ref g :: _) => g
                | _ => 0) = g'
              rw [hr]
            have cl := (A id d q).callee hK' 0
            rw [edf] at cl
            refine ⟨d.pt.ad K, clsRec K x m, ⟨x, q0, a0⟩, ?_, cl⟩
            show PropOf X.K (He.ga K (p.cn c)) m (clsRec K x m) (d.pt.ad K)
            rw [ecn, hK, ead]
            exact ⟨b1, b2, b3, ⟨rest, hr⟩⟩
          · cases b4
        · cases a1
end
theorem all_lv {p : Pg} {K : PySem.W.Frag} {P : Program} {w : World} {mg : Str → Option Value} {base : Heap} (hP : PgP p P) (F : KFacts p K) (hf : p.fit = true) (hs : ∀ d ∈ p.fns, scB d = true) (hb : ∀ d ∈ p.fns, BindOk d) (hg : ∀ x v, PySem.W.nsIn K mainGlobals x = some v → mg x = v) :
    ∀ (k : Nat) (id : Nat) (d : FnE), p.fns[id]? = some d → AtLv P w (p.Z K w) mg base (2 * k) d (p.sem k id)
  | 0, id, d, hd => by
    have hm := List.mem_of_getElem? hd
    obtain ⟨fd, dvs, FD, l, r⟩ := FnE.funD (Z := p.Z K w) (F.fns d hm) ((chk_parts F.chk).1 d hm)
    refine ⟨fd, dvs, FD, r, binds_ok (hb d hm) FD l, ⟨fun vs H Q E h => ?_, fun A outer s H args us vs Q E hr e0 b v h => ?_⟩⟩
    · obtain ⟨c, M, as, _, _, h⟩ := h; exact h.elim
    · obtain ⟨c, M, as, _, _, h⟩ := h; exact h.elim
  | k + 1, id, d, hd => by
    have hm := List.mem_of_getElem? hd
    obtain ⟨fd, dvs, FD, l, r⟩ := FnE.funD (Z := p.Z K w) (F.fns d hm) ((chk_parts F.chk).1 d hm)
    refine ⟨fd, dvs, FD, r, binds_ok (hb d hm) FD l, ?_⟩
    have e : p.sem (k + 1) id = runF d.ps.length d.N.length (p.body d (p.sem k)) := by
      show (match p.fns[id]? with
        | some d => runF d.ps.length d.N.length (p.body d (p.sem k))
        | none => fun _ _ => .bad) = _
      rw [hd]
    rw [e]
    have S := sc_ok (hs d hm)
    refine (fn_body (k := 2 * k + 1) FD S fun cdv A outer s H E hr => ?_).mono (by omega)
    cases hf' : stsC (lv p.fu) (p.ce d) d.body with
    | some f =>
      have e2 : p.body d = f := by unfold Pg.body; rw [hf']
      rw [e2]
      have FF : Facts (p.Z K w) (cxOf (CX P w) P w K mg base d.N d.qual d.scope (d.pt.ad K) cdv A outer s H E) p.tb (p.sem k) (2 * k) := facts_of (X := cxOf (CX P w) P w K mg base d.N d.qual d.scope (d.pt.ad K) cdv A outer s H E) (K := K) hP rfl F hf hg (all_lv hP F hf hs hb hg k)
      refine sts_ok (lv_ok p.fu) (X := cxOf (CX P w) P w K mg base d.N d.qual d.scope (d.pt.ad K) cdv A outer s H E) (n := 2 * k) ⟨⟨FF, rfl, S.nd, rfl, S.kind, fun _ _ => rfl, rfl, hr, takes_of rfl rfl rfl rfl, fun h => absurd (show false = true from h) (by decide)⟩, passes_of rfl, rfl, rfl⟩ _ _ hf'
    | none =>
      have e2 : p.body d = fun _ _ _ => .bad := by unfold Pg.body; rw [hf']
      rw [e2]
      exact ⟨fun pins s σ H D I ⟨c, e, M, a, h⟩ => h.elim⟩
end Pd
set_option maxHeartbeats 2000000
namespace Pd
open PySem PySem.Spec L2
theorem obs_eq {p : Pg} {n : Nat} {g : Addr → Option Obj} {s : Shared} (h : ∀ a, g a = s.heap.get? a) : p.obsG n g = (p.hook n).obs s := by
  have e : g = s.heap.get? := funext h
  rw [e] <;> rfl
theorem ga_of {K : PySem.W.Frag} {h : Heap} {mg : Str → Option Value} (X : K.In h) (G : h.Ns mainGlobals mg) : ∀ x v, PySem.W.nsIn K mainGlobals x = some v → mg x = v := fun x v e => by
  cases v with
  | none => exact PySem.W.mg_none_of X G e
  | some u => exact PySem.W.mg_of X G e
end Pd
set_option maxHeartbeats 2000000
namespace Pd
open PySem PySem.Spec L2 PyProof.Rows
section
variable {P : Program} {w : World} {K : PySem.W.Frag} {mg : Str → Option Value} {base : Heap} {x qual : Str} {params : Arguments} {body : List Stmt} {scope : Scope} {dvs : List V} {kws : List (Str × V)} {f : Addr} {fd : FuncData}
theorem fn_at {CX : CXT} {N ps : List Str} {k : Nat} {A : Around} {outer : List PySem.Env} {s : Shared} {H : Hp} {args : Args} {us : List Value} {vs : List V} {Q : VK} {E : XK} (F : FunD K x qual params body scope dvs kws f fd) (S : FnScope N ps scope)
    (hr : Room (k + 1) A) (e0 : Env0 P w K mg base A outer s H) (hb : BindsTo s fd args (ps.zip us)) (r : Vals vs us) (hl : vs.length = ps.length)
    (hbody : ∀ cdv : Value, ∃ t, PSs (cxOf CX P w K mg base N qual scope f cdv A outer s H E) body t ∧ t { nx := fun _ H' => Q .non H', rt := Q } (start N vs) H) :
    codeAny (model P w) A (.call (.ref f) args) (CR CX outer P w H s Q E) s := by
  obtain ⟨oc, od, dV, kV, doc, pm, an, cdv, ct, osl, rfl, lk, hcd, _, _⟩ := F.ex
  obtain ⟨t, ht, hq⟩ := hbody cdv
  have keep : ∀ b o, base.get? b = some o → s.heap.get? b = some o := fun b o e => (e0.bs b o e).1
  have cells : ∀ y ∈ ps.zip us, scope.names.lookup y.1 = some .local ∨ (scope.names.lookup y.1 = some .cell ∧ ((cellsFrom (s.heap.objs.size + 1) scope.names []).lookup y.1).isSome = true) := by
    rintro ⟨n, v⟩ hy
    rcases S.par n (List.of_mem_zip hy).1 with q | q
    · exact .inl q
    · exact .inr ⟨q, PySem.W.cellsFrom_some _ _ _ (.inl q)⟩
  have KX : K.In s.heap := e0.mod.kin.keeps keep
  refine codeAny_call_function hr.depth (KX _ _ lk) rfl S.co S.gen rfl (PySem.W.codeRec_of KX hcd) (hb _ _ _ _ ?_)
  refine wpAny_newFunctionEnv_cells S.kind cells fun env he s1 y => ?_
  subst he
  refine ⟨(e0.mod.nolimit.keeps keep).keeps y.toInCall.keep, codeAny_func ?_⟩
  refine wpAny_mono (ht.run [] s1 (start N vs) H _ (inv_start S hr.hd e0 hl r y) hq) (fun fl s' hs => ?_) fun e s' hs => hs
  cases fl with
  | ret u =>
    obtain ⟨v, σ', H', J, rv, q⟩ := hs
    exact ⟨v, H', J.os, J.bare, J.base, J.hok, rv, q⟩
  | next =>
    obtain ⟨σ', H', J, q⟩ := hs
    exact ⟨.non, H', J.os, J.bare, J.base, J.hok, rfl, q⟩
  | brk => exact hs.elim fun _ ⟨_, _, q⟩ => q.elim
  | cont => exact hs.elim fun _ ⟨_, _, q⟩ => q.elim
end
def scrH (K : PySem.W.Frag) (a : Addr) (vs : List Value) (ns : List Int) : Hp := fun b => if b = a ∧ K.lookup a = none then some (.frz { cls := .type "list", data := .seq vs.toArray } (.lst (ns.map V.int))) else none
theorem scrH_none {K : PySem.W.Frag} {a b : Addr} {vs : List Value} {ns : List Int} (h : ¬ (b = a ∧ K.lookup a = none)) : scrH K a vs ns b = none := if_neg h
theorem scrH_some {K : PySem.W.Frag} {a b : Addr} {vs : List Value} {ns : List Int} {u : HO} (h : scrH K a vs ns b = some u) : b = a ∧ K.lookup a = none ∧ u = .frz { cls := .type "list", data := .seq vs.toArray } (.lst (ns.map V.int)) := by
  unfold scrH at h
  split at h
  · rename_i q
    exact ⟨q.1, q.2, (Option.some.inj h).symm⟩
  · cases h
theorem law_callG {P : Program} {w : World} {K : PySem.W.Frag} {mg mb : Str → Option Value} {CX : CXT} {fa a : Addr} {s₁ : Shared} {vs : List Value} {ns : List Int}
    (KX : K.In s₁.heap) (hns : s₁.heap.Ns mainGlobals mg) (hb : s₁.heap.Ns builtinsNs mb) (hbb : ∀ x : Str, x ≠ "__name__" → mb x = bootBuiltins x) (hlim : s₁.heap.NoLimit) (hg : s₁.gens = #[])
    (ha : s₁.heap.get? a = some { cls := .type "list", data := .seq vs.toArray }) (hi : IntsAre vs ns) (hl : ns.length ≤ sizeLine)
    (F : ∀ (base : Heap) (H : Hp), K.In base → base.Ns mainGlobals mg → Env0 P w K mg base callerA [] s₁ H → SqL K H a (ns.map V.int) → codeAny (model P w) callerA (.call (.ref fa) ⟨[.ref a], []⟩) (CR CX [] P w H s₁ (fun v _ => v = .bl true) (fun _ _ _ => False)) s₁)
    (hCX : ∀ H e s', CX [] H s₁ (fun _ _ _ => False) e s' → False) :
    codeAny (model P w) callerA (.call (.ref fa) ⟨[.ref a], []⟩) (fun r s' => r = .ok (.ret (.bool true)) ∧ OldK s₁.heap s'.heap ∧ s'.os = s₁.os ∧ AllBare s'.gens) s₁ := by
  have rv := vals_ints hi
  have lenV := hi.length
  let H := scrH K a vs ns
  have hok : HOk P w H s₁.heap := by
    intro b u z
    obtain ⟨e1, _, e3⟩ := scrH_some z
    subst e1 e3
    exact ⟨ha, by rw [List.length_map]; exact hl, vs, _, rv, ha⟩
  have hS : SqL K H a (ns.map V.int) := by
    cases hk : K.lookup a with
    | some o =>
      have e := KX a o hk
      rw [ha] at e
      cases e
      exact .inr ⟨_, vs.toArray, _, hk, rfl, rfl, rfl, by rw [List.size_toArray, lenV]; exact hl, by simpa using rv⟩
    | none => exact .inl (.inr ⟨_, if_pos ⟨rfl, hk⟩⟩)
  have free : ∀ {b : Addr} {o : Obj} {es : Array DictEntry} {ep : Nat}, s₁.heap.get? b = some o → o.data = .dict es ep → H b = none := by
    intro b o es ep e d
    refine scrH_none fun q => ?_
    rw [q.1, ha] at e
    cases e
    cases (show Data.seq vs.toArray _ = Data.dict es ep from d)
  have nsK : ∀ {b : Addr} {m : Str → Option Value}, s₁.heap.Ns b m → (hidT s₁.heap H).Ns b m := fun {b m} ⟨o, es, ep, e, d, r⟩ => ⟨o, es, ep, hidT_get e (free e d), d, r⟩
  have hKb : K.In (hidT s₁.heap H) := fun b o e => hidT_get (KX b o e) (scrH_none fun q => by
    rw [q.1, q.2] at e
    cases e)
  have hM : Mod K mg (hidT s₁.heap H) := ⟨hKb, nsK hns, ⟨mb, nsK hb, hbb⟩, let ⟨mc, h1, h2⟩ := hlim; ⟨mc, nsK h1, h2⟩⟩
  have e0 : Env0 P w K mg (hidT s₁.heap H) callerA [] s₁ H := ⟨rfl, hM, fun b o e => of_hidT e, Nat.le_of_eq (hidT_size _ _), trivial, fun b hb => absurd (show b ∈ ([] : List Addr) from hb) (by simp), hok, .of_eq hg⟩
  refine codeAny_mono (F _ H hKb (nsK hns) e0 hS) fun r s' h => ?_
  cases r with
  | error e => exact (hCX H e s' h).elim
  | ok fl =>
    cases fl with
    | ret u =>
      obtain ⟨v, H', os, bare, un, hok', r', q⟩ := h
      have q' : v = .bl true := q
      subst q'
      obtain rfl : u = Value.bool true := r'
      refine ⟨rfl, OldK.of_keep fun b o e => ?_, os, bare⟩
      cases q : H b with
      | none => exact un.keep b o e q (by intro z; exact absurd (show b ∈ ([] : List Addr) from z) (by simp)) (by simp)
      | some u =>
        obtain ⟨e1, _, e3⟩ := scrH_some q
        subst e3
        have z2 := un.frzs b _ _ q
        obtain ⟨z3, _⟩ := hok' b _ z2
        rw [e1, ha] at e
        cases e
        rw [e1] at z3 ⊢
        exact z3
    | _ => exact False.elim h
def Pg.ceR (p : Pg) (d : FnE) : CE := { p.ce d with rp := true }
def Pg.bodyR (p : Pg) (d : FnE) : Cal → Es := match stsC (lv p.fu) (p.ceR d) d.body with
  | some f => f
  | none => fun _ _ _ => .bad
def LawOkR (p : Pg) (k : Nat) (d : FnE) : Prop := ∀ ns : List Int, ns.length ≤ 63 → ∃ M, runF d.ps.length d.N.length (p.bodyR d (p.sem k)) [.fz (ns.map .int)] [] = .ok (.bl true) M
theorem body_reads {Z : Sc} {N : List Str} {np : Nat} {fb : Es} {vs : List V} {H : Hp} {Q : VK} {E : XK} (h : spOf Z (runF np N.length fb) vs H Q E) : TSa Z (fun cls d _ H => E cls d H) fb { nx := fun _ H' => Q .non H', rt := Q } (start N vs) H := by
  obtain ⟨c, M, as, sm, r, h⟩ := h
  unfold runF at h
  split at h
  · rename_i hz
    have hz := Nat.eq_of_beq_eq_true hz
    refine ⟨c, as.map some ++ List.replicate (N.length - as.length) none, M, ⟨sm, envR_start r⟩, ?_⟩
    rw [hz]
    cases e : fb (as.map some ++ List.replicate (N.length - np) none) M with
    | nx e1 M1 => rw [e] at h; exact fun c' σ H' l a => fin_ok l sm a.s .non h
    | rt v M1 => rw [e] at h; exact fun c' x H' l a rx => fin_ok l sm a rx h
    | bk e1 M1 => rw [e] at h; exact h.elim
    | ct e1 M1 => rw [e] at h; exact h.elim
    | bad => rw [e] at h; exact h.elim
    | exc q fs e1 M1 =>
      rw [e] at h
      intro c' σ H' d l a x
      simp only at h
      split at h
      · rename_i hw
        simp only [Bool.and_eq_true] at hw
        refine h (c'.cut M.length) H' d ⟨l.g, by show c.L ≤ M.length; rw [sm.l]; exact Nat.le_refl _, l.r⟩ (sm.cutOk a.s hw.2) ?_
        rcases x with x | ⟨p, gs, e1, e2, e3, e4⟩
        · exact .inl x
        · exact .inr ⟨p, gs, e1, e2, e3, e4.cut hw.1⟩
      · exact h c' H' d l a.s x
  · exact h.elim
theorem law_atG {p : Pg} {K : PySem.W.Frag} {P : Program} {w : World} {h : Heap} {mg : Str → Option Value} {f : Addr} {k id : Nat} {d : FnE} {x y : Str} (hP : PgP p P) (F : KFacts p K) (hf : p.fit = true) (hs : ∀ d ∈ p.fns, scB d = true) (hb : ∀ d ∈ p.fns, BindOk d) (X : K.In h) (G : h.Ns mainGlobals mg)
    (hd : p.fns[id]? = some d) (hp : d.pt = .glo y) (hps : d.ps = [x]) (hdf : d.dfl = []) (hfa : mg y = some (.ref f)) (hy : p.G.lookup y = some (.fn id 1 [])) (hr : Room (2 * k + 2) callerA) (L : LawOkR p k d)
    {s₁ : Shared} {a : Addr} {ns : List Int} (hl : ns.length ≤ 63) (base : Heap) (H : Hp) (h1 : K.In base) (h2 : base.Ns mainGlobals mg) (e0 : Env0 P w K mg base callerA [] s₁ H) (hS : SqL K H a (ns.map V.int)) :
    codeAny (model P w) callerA (.call (.ref f) ⟨[.ref a], []⟩) (CR (CX P w) [] P w H s₁ (fun v _ => v = .bl true) (fun _ _ _ => False)) s₁ := by
  have hm := List.mem_of_getElem? hd
  obtain ⟨fd, dvs, FD, l, r⟩ := FnE.funD (Z := p.Z K w) (F.fns d hm) ((chk_parts F.chk).1 d hm)
  have e1 : dvs = [] := List.eq_nil_of_length_eq_zero (by rw [l, hdf]; rfl)
  subst e1
  have ef : d.pt.ad K = f := by
    have a2 := (chk_parts F.chk).2.1 _ (lookup_mem hy)
    have a3 := ga_of X G y _ (of_decide_eq_true a2)
    rw [hfa] at a3
    rw [hp]
    cases a3
    rfl
  have bA := FD.bindsA ((hb d hm).b0 hdf)
  have S := sc_ok (hs d hm)
  rw [← ef]
  refine fn_at (k := 2 * k + 1) FD S hr e0 (us := [.ref a]) (vs := [.ref a]) (bA s₁ [.ref a] (by rw [hps]; rfl)) (.cons rfl .nil) (by rw [hps]; rfl) fun cdv => ?_
  obtain ⟨M, eM⟩ := L ns hl
  have hsp : spOf (p.Z K w) (runF d.ps.length d.N.length (p.bodyR d (p.sem k))) [.ref a] H (fun v _ => v = .bl true) (fun _ _ _ => False) := by
    refine ⟨⟨H, fun _ => 0, 0⟩, [], [.fz (ns.map .int)], ⟨Same.refl _, rfl, fun n o q => by simp at q, fun n m o p' q => by simp at q⟩, .cons (.fz hS (reps_ints ns)) .nil, ?_⟩
    rw [eM]
    intro c' x H' l s r
    cases r
    rfl
  cases hf' : stsC (lv p.fu) (p.ceR d) d.body with
  | some fb =>
    have e2 : p.bodyR d = fb := by unfold Pg.bodyR; rw [hf']
    rw [e2] at hsp
    have FF : Facts (p.Z K w) (cxOf (CX P w) P w K mg base d.N d.qual d.scope (d.pt.ad K) cdv callerA [] s₁ H fun _ _ _ => False) p.tb (p.sem k) (2 * k) := facts_of (X := cxOf (CX P w) P w K mg base d.N d.qual d.scope (d.pt.ad K) cdv callerA [] s₁ H fun _ _ _ => False) (K := K) hP rfl F hf (ga_of h1 h2) (all_lv hP F hf hs hb (ga_of h1 h2) k)
    refine ⟨_, sts_ok (lv_ok p.fu) (X := cxOf (CX P w) P w K mg base d.N d.qual d.scope (d.pt.ad K) cdv callerA [] s₁ H fun _ _ _ => False) (n := 2 * k) ⟨⟨FF, rfl, S.nd, rfl, S.kind, fun _ _ => rfl, rfl, hr.deeper _, takes_of rfl rfl rfl rfl, fun _ => rfl⟩, passes_of rfl, rfl, rfl⟩ _ _ hf', body_reads hsp⟩
  | none =>
    have e2 : p.bodyR d = fun _ _ _ => .bad := by unfold Pg.bodyR; rw [hf']
    rw [e2] at eM
    simp only [runF] at eM
    split at eM <;> cases eM
theorem walk_ofG {l : PySem.W.OpenLaw} {n : Nat} {q : Program} {loose : List Str} {XP : (Str → Option Value) → Heap → Prop} {YP : World → Heap → Prop} {d : DefRec} (hn : l.most = some n) (hn2 : n ≤ sizeLine) (hdf : d.params.defaults = [])
    (F : ∀ (w : World) (mg : Str → Option Value) (fa : Addr) (h : Heap), YP w h → h.Ns mainGlobals mg → mg d.name = some (.ref fa) →
      ∃ K : PySem.W.Frag, K.In h ∧ ∀ (s₁ : Shared) (a : Addr) (ns : List Int), ns.length ≤ n → ∀ (base : Heap) (H : Hp), K.In base → base.Ns mainGlobals mg → Env0 l.prog w K mg base callerA [] s₁ H → SqL K H a (ns.map V.int) →
        codeAny (model l.prog w) callerA (.call (.ref fa) ⟨[.ref a], []⟩) (CR (CX l.prog w) [] l.prog w H s₁ (fun v _ => v = .bl true) fun _ _ _ => False) s₁) :
    PySem.W.WalkO q loose XP YP l.row.toRowW d [] (fun f vs => PySem.call f vs) := by
  refine Att.attach_call hn hdf fun w s₀ s₁ mg mb fa o pm cd doc a vs ns G Y ho hd hcd hmg hobj hints hlen hg => ?_
  obtain ⟨K, KX, hF⟩ := F w mg fa _ Y G.T.g hmg
  refine law_callG KX G.T.g G.T.b G.T.builtins G.T.nolimit hg hobj hints (Nat.le_trans hlen hn2) (fun base H h1 h2 e0 hS => hF s₁ a ns hlen base H h1 h2 e0 hS) fun H e s' hq => ?_
  obtain ⟨a, B, H', cls, d, _, _, _, _, _, _, _, hE⟩ := hq
  exact hE.elim
end Pd
set_option maxHeartbeats 2000000
namespace Pd
open PySem PySem.Spec L2
structure En where
  eq : Op2
  ne : Op2
  inn : Op2
  nin : Op2
  add : Op2
  ix : Op2
  len : Fn
  str : Fn
  call : Ev → Ea → Ev
  wh : Nat
  xm : Str → Nat → Option Bool
  aug : Op2
  ixn : Mop
def Pg.en (p : Pg) (C : Cal) : En := ⟨opEqO p.tb.eq C, opNeO p.tb.eq C, opInR p.tb.eq C false, opInR p.tb.eq C true, opAddO p.tb.dn C, opIxO p.tb.dn C, opLenO p.tb.dn C, opStrO p.tb.dn C, eCallO p.tb.dn C, p.wh, fun y k => (p.xms.lookup y).bind fun l => l.lookup k, opAugO p.tb.dn C, opIndexN p.tb.eq C⟩
structure EnOk (en : En) : Prop where
  eq : ∀ a b M, clsA M a = none → en.eq a b M = opEq false a b M
  ne : ∀ a b M, clsA M a = none → en.ne a b M = opEq true a b M
  inn : ∀ a b M, (a ≠ .non ∧ ∀ k ns xs, a ≠ .obj k ns xs) → en.inn a b M = opIn false a b M
  nin : ∀ a b M, (a ≠ .non ∧ ∀ k ns xs, a ≠ .obj k ns xs) → en.nin a b M = opIn true a b M
  add : ∀ a b M, clsA M a = none → en.add a b M = opAdd a b M
  ix : ∀ a b M, clsA M a = none → en.ix a b M = opIx a b M
  len : ∀ a M, clsA M a = none → en.len [a] M = opLen [a] M
  str : ∀ a M, clsA M a = none → en.str [a] M = opStr [a] M
  aug : ∀ i j M, en.aug (.int i) (.int j) M = .ok (.int (i + j)) M
theorem en_ok (p : Pg) (C : Cal) : EnOk (p.en C) := by
  refine ⟨fun a b M h => ?_, fun a b M h => ?_, fun a b M h => ?_, fun a b M h => ?_, fun a b M h => ?_, fun a b M h => ?_, fun a M h => ?_, fun a M h => ?_, fun _ _ _ => rfl⟩
  · show opEqO _ _ _ _ _ = _; unfold opEqO; rw [h]
  · show opNeO _ _ _ _ _ = _; unfold opNeO; rw [h]
  · show opInR _ _ _ _ _ _ = _; unfold opInR; split
    · exact absurd rfl (h.2 _ _ _)
    · unfold opInO; split
      · exact absurd rfl h.1
      · rfl
  · show opInR _ _ _ _ _ _ = _; unfold opInR; split
    · exact absurd rfl (h.2 _ _ _)
    · unfold opInO; split
      · exact absurd rfl h.1
      · rfl
  · show opAddO _ _ _ _ _ = _; unfold opAddO; rw [h]
  · show opIxO _ _ _ _ _ = _; unfold opIxO; rw [h]
  · simp only [Pg.en, opLenO, h]
  · simp only [Pg.en, opStrO, h]
end Pd
set_option maxHeartbeats 0
namespace Pd
open PySem PySem.Spec L2
def s_f_is_sequence (en : En) : Es :=
  (sRet (eFrz (eIsiT (eVar 0) (aCons (eC (.ty .list)) (aCons (eC (.ty .tuple)) aNil)))))
def s_f_law_seed (en : En) : Es :=
  (sSeq (sSet 2 (eBin en.add (eBin opMul (eC (.int 6481)) (eVar 1)) (eC (.int 37))))
  (sSeq (sIf (tCmpA (opCmp fun i j => decide (i < j)) (eVar 1) (eCallB en.len (aCons (eVar 0) aNil)))
  (sSet 2 (eCallB opAbs (aCons (eBin en.ix (eVar 0) (eVar 1)) aNil)))
  (sIf (tCmpA (opCmp fun i j => decide (j < i)) (eCallB en.len (aCons (eVar 0) aNil)) (eC (.int 0)))
  (sSet 2 (eBin en.add (eVar 2) (eBin opMul (eBin opMod (eCallB opInt (aCons (eCallB opAbs (aCons (eBin en.ix (eVar 0) (eBin opMod (eCallB opInt (aCons (eVar 1) aNil)) (eCallB en.len (aCons (eVar 0) aNil)))) aNil)) aNil)) (eC (.int 2147483629))) (eC (.int 40093)))))
  sPass))
  (sRet (eNewL (aCons (eIf (tCmpA (opCmp fun i j => decide (j ≤ i)) (eVar 2) (eBin opPow (eC (.int 10)) (eC (.int 18)))) (eVar 2) (eC (.int 0))) (aCons (eBin en.add (eBin opMod (eCallB opInt (aCons (eBin en.add (eBin opMul (eBin opMod (eCallB opInt (aCons (eVar 2) aNil)) (eC (.int 2147483629))) (eC (.int 48271))) (eBin opMul (eC (.int 30011)) (eVar 1))) aNil)) (eC (.int 2147483629))) (eC (.int 1))) aNil))))))
def s_f_is_name (en : En) : Es :=
  (sSeq (sIf (tOrA (tNotA (tVal (eCallB opIsi (aCons (eVar 0) (aCons (eC (.ty .str)) aNil))))) (tOrA (tNotA (tBl (eChain (opCmp fun i j => decide (i < j)) (opCmp fun i j => decide (i ≤ j)) (eC (.int 0)) (eCallB en.len (aCons (eVar 0) aNil)) (eC (.int 4))))) (tCmpA en.inn (eVar 0) (eC (.tup [.str "also"])))))
  (sRet (eFrz (eC (.bl false))))
  sPass)
  (sRet (eFrz (eCallB opAll (aCons (eLc false (iSeq (eVar 0)) (gNm 1) tYesA (eBin en.inn (eVar 1) (eC (.str "abcdefghijklmnopqrstuvwxyz"))) [1]) aNil)))))
def s_f_is_word (en : En) : Es :=
  (sRet (eFrz (eAnd (eCallB opIsi (aCons (eVar 0) (aCons (eC (.ty .str)) aNil))) (eBin en.inn (eVar 0) (eVar 1)))))
def s_m_Row_init (en : En) (c_f_is_name c_f_is_word : Fn) : Es :=
  (sSeq (sIf (tNotA (tVal (eCallB (defl c_f_is_name []) (aCons (eVar 1) aNil))))
  (sRaise 1 "word" (aCons (eC (.str "mode")) aNil))
  sPass)
  (sSeq (sIf (tNotA (tVal (eCallB (defl c_f_is_word []) (aCons (eVar 2) (aCons (eC (.tup [.str "keep", .str "at", .str "past", .str "under", .str "all"])) aNil)))))
  (sRaise 1 "word" (aCons (eC (.str "pick")) aNil))
  sPass)
  (sSeq (sIf (tNotA (tVal (eCallB (defl c_f_is_word []) (aCons (eVar 3) (aCons (eC (.tup [.str "stay", .str "on", .str "home"])) aNil)))))
  (sRaise 1 "word" (aCons (eC (.str "move")) aNil))
  sPass)
  (sSeq (sIf (tNotA (tVal (eCallB (defl c_f_is_name []) (aCons (eVar 4) aNil))))
  (sRaise 1 "word" (aCons (eC (.str "then")) aNil))
  sPass)
  (sSeq (sIf (tNotA (tVal (eCallB opIsi (aCons (eVar 5) (aCons (eC (.ty .bool)) aNil)))))
  (sRaise 1 "word" (aCons (eC (.str "also")) aNil))
  sPass)
  (sSeq (sSetFld (eVar 0) (eVar 1) "mode")
  (sSeq (sSetFld (eVar 0) (eVar 2) "pick")
  (sSeq (sSetFld (eVar 0) (eVar 3) "move")
  (sSeq (sSetFld (eVar 0) (eVar 4) "then")
  (sSetFld (eVar 0) (eVar 5) "also"))))))))))
def s_m_Row_str (en : En) : Es :=
  (sSeq (sIf (tVal (eFld (eVar 0) "also"))
  (sRet (eFrz (eJoined [(eFmt (eFld (eVar 0) "mode")), (eC (.str " ")), (eFmt (eFld (eVar 0) "pick")), (eC (.str " ")), (eFmt (eFld (eVar 0) "move")), (eC (.str " ")), (eFmt (eFld (eVar 0) "then")), (eC (.str " also"))])))
  sPass)
  (sRet (eFrz (eJoined [(eFmt (eFld (eVar 0) "mode")), (eC (.str " ")), (eFmt (eFld (eVar 0) "pick")), (eC (.str " ")), (eFmt (eFld (eVar 0) "move")), (eC (.str " ")), (eFmt (eFld (eVar 0) "then"))]))))
def s_m_Row_eq (en : En) : Es :=
  (sRet (eFrz (eAnd (eCallB opIsi (aCons (eVar 1) (aCons (eC (.cls 0)) aNil))) (eBin en.eq (eCallB en.str (aCons (eVar 0) aNil)) (eCallB en.str (aCons (eVar 1) aNil))))))
def s_m_Rule_init (en : En) (c_f_is_sequence c_f_is_name : Fn) : Es :=
  (sSeq (sIf (tNotA (tVal (eCallB (defl c_f_is_name []) (aCons (eVar 1) aNil))))
  (sRaise 2 "word" (aCons (eC (.str "first")) aNil))
  sPass)
  (sSeq (sIf (tOrA (tNotA (tVal (eCallB (defl c_f_is_sequence []) (aCons (eVar 2) aNil)))) (tNotA (tVal (eCallB opAll (aCons (eLc false (iSeq (eVar 2)) (gNm 4) tYesA (eCallB opIsi (aCons (eVar 4) (aCons (eC (.cls 0)) aNil))) [4]) aNil)))))
  (sRaise 2 "word" (aCons (eC (.str "rows")) aNil))
  sPass)
  (sSeq (sSetFld (eVar 0) (eVar 1) "first")
  (sSeq (sSetFld (eVar 0) (eCallB opTuple (aCons (eVar 2) aNil)) "rows")
  (sSeq (sSet 3 (eLst (aCons (eVar 1) (aStar (eLc false (iSeq (eVar 2)) (gNm 4) tYesA (eFld (eVar 4) "mode") [4]) (aStar (eLc false (iSeq (eVar 2)) (gNm 4) tYesA (eFld (eVar 4) "then") [4]) aNil)))))
  (sSetFld (eVar 0) (eCallB opTuple (aCons (eCallB opSortSet (aCons (eLc false (iSeq (eVar 3)) (gNm 5) tYesA (eCallB en.str (aCons (eVar 5) aNil)) [5]) aNil)) aNil)) "modes"))))))
def s_m_Rule_str (en : En) : Es :=
  (sRet (eFrz (eBM false opJoin (eC (.str "\n")) (aCons (eLst (aCons (eJoined [(eC (.str "first ")), (eFmt (eFld (eVar 0) "first"))]) (aStar (eLc false (iSeq (eFld (eVar 0) "rows")) (gNm 1) tYesA (eCallB en.str (aCons (eVar 1) aNil)) [1]) aNil))) aNil))))
def s_m_Rule_eq (en : En) : Es :=
  (sRet (eFrz (eAnd (eCallB opIsi (aCons (eVar 1) (aCons (eC (.cls 1)) aNil))) (eBin en.eq (eCallB en.str (aCons (eVar 0) aNil)) (eCallB en.str (aCons (eVar 1) aNil))))))
def s_f_law_choose (en : En) : Es :=
  (sSeq (sIf (tCmpA (opCmp fun i j => decide (j < i)) (eBin en.ix (eVar 0) (eC (.int 0))) (eC (.int 0)))
  (sSeq (sSet 3 (eBin opMod (eCallB opInt (aCons (eBin en.ix (eVar 0) (eC (.int 0))) aNil)) (eVar 1)))
  (sSeq (sSetIx (eBin opDiv (eBin en.ix (eVar 0) (eC (.int 0))) (eVar 1)) (eVar 0) (eC (.int 0)))
  (sRet (eFrz (eVar 3)))))
  sPass)
  (sSeq (sSet 2 (eBin opMod (eCallB opInt (aCons (eBin en.add (eBin opMul (eBin en.ix (eVar 0) (eC (.int 1))) (eC (.int 40014))) (eC (.int 17))) aNil)) (eC (.int 2147483563))))
  (sSeq (sSetIx (eBin en.add (eBin opMod (eCallB opInt (aCons (eBin en.add (eBin opMul (eVar 2) (eC (.int 40692))) (eC (.int 3067))) aNil)) (eC (.int 2147483629))) (eC (.int 1))) (eVar 0) (eC (.int 1)))
  (sRet (eFrz (eBin opMod (eCallB opInt (aCons (eBin opDiv (eBin en.add (eBin opMul (eVar 2) (eC (.int 2147483647))) (eBin en.ix (eVar 0) (eC (.int 1)))) (eC (.int 8191))) aNil)) (eVar 1)))))))
def s_f_law_one_of (en : En) (c_f_law_choose : Fn) : Es :=
  (sRet (eFrz (eBin en.ix (eVar 1) (eCallB (defl c_f_law_choose []) (aCons (eVar 0) (aCons (eCallB en.len (aCons (eVar 1) aNil)) aNil))))))
def s_f_law_fair_rows (en : En) (c_f_law_choose c_f_law_one_of : Fn) : Es :=
  (sSeq (sSet 2 (eNewL aNil))
  (sSeq (sFor (iEnmA (aCons (eVar 1) aNil)) (gTp [3, 4])
  (sSeq (sSet 5 (eBin en.ix (eVar 1) (eBin opMod (eBin en.add (eVar 3) (eC (.int 1))) (eCallB en.len (aCons (eVar 1) aNil)))))
  (sSeq (sSet 6 (eCallB (defl c_f_law_choose []) (aCons (eVar 0) (aCons (eC (.int 5)) aNil))))
  (sSeq (sIf (tCmpA en.eq (eVar 6) (eC (.int 0)))
  (sDrop (eBM true opAppend (eVar 2) (aCons (eTup (aCons (eVar 4) (aCons (eC (.str "keep")) (aCons (eC (.str "stay")) (aCons (eVar 5) (aCons (eC (.bl false)) aNil)))))) aNil)))
  (sIf (tCmpA en.eq (eVar 6) (eC (.int 1)))
  (sDrop (eBM true opAppend (eVar 2) (aCons (eTup (aCons (eVar 4) (aCons (eC (.str "at")) (aCons (eC (.str "on")) (aCons (eVar 5) (aCons (eC (.bl false)) aNil)))))) aNil)))
  sPass))
  (sSeq (sDrop (eBM true opAppend (eVar 2) (aCons (eTup (aCons (eVar 4) (aCons (eC (.str "past")) (aCons (eC (.str "on")) (aCons (eCallB (defl c_f_law_one_of []) (aCons (eVar 0) (aCons (eLst (aCons (eBin en.ix (eVar 1) (eC (.int 0))) (aCons (eVar 4) (aCons (eVar 5) aNil)))) aNil))) (aCons (eC (.bl false)) aNil)))))) aNil)))
  (sIf (tCmpA (opCmp fun i j => decide (j < i)) (eCallB (defl c_f_law_choose []) (aCons (eVar 0) (aCons (eC (.int 6)) aNil))) (eC (.int 0)))
  (sDrop (eBM true opAppend (eVar 2) (aCons (eTup (aCons (eVar 4) (aCons (eC (.str "all")) (aCons (eCallB (defl c_f_law_one_of []) (aCons (eVar 0) (aCons (eLst (aCons (eC (.str "on")) (aCons (eC (.str "on")) (aCons (eC (.str "on")) (aCons (eC (.str "home")) aNil))))) aNil))) (aCons (eBin en.ix (eVar 1) (eC (.int 0))) (aCons (eC (.bl false)) aNil)))))) aNil)))
  sPass))))))
  (sRet (eFrz (eVar 2)))))
def s_f_law_names (en : En) (c_f_law_one_of : Fn) : Es :=
  (sSeq (sSet 1 (eLst (aCons (eLst (aCons (eC (.str "run")) (aCons (eC (.str "one")) (aCons (eC (.str "two")) (aCons (eC (.str "xyz")) aNil))))) (aCons (eLst (aCons (eC (.str "a")) (aCons (eC (.str "aa")) (aCons (eC (.str "ab")) (aCons (eC (.str "b")) aNil))))) (aCons (eLst (aCons (eC (.str "at")) (aCons (eC (.str "all")) (aCons (eC (.str "on")) (aCons (eC (.str "keep")) aNil))))) aNil)))))
  (sRet (eFrz (eCallB (defl c_f_law_one_of []) (aCons (eVar 0) (aCons (eBin en.add (eVar 1) (eLst (aCons (eLst (aCons (eC (.str "zzzz")) (aCons (eC (.str "q")) (aCons (eC (.str "home")) (aCons (eC (.str "stay")) aNil))))) aNil))) aNil))))))
def s_f_law_any_row (en : En) (c_f_law_choose c_f_law_one_of : Fn) : Es :=
  (sSeq (sSet 2 (eCallB (defl c_f_law_one_of []) (aCons (eVar 0) (aCons (eLst (aCons (eC (.str "keep")) (aCons (eC (.str "at")) (aCons (eC (.str "past")) (aCons (eC (.str "under")) (aCons (eC (.str "all")) (aCons (eC (.str "past")) (aCons (eC (.str "all")) aNil)))))))) aNil))))
  (sSeq (sSet 3 (eCallB (defl c_f_law_one_of []) (aCons (eVar 0) (aCons (eLst (aCons (eC (.str "stay")) (aCons (eC (.str "on")) (aCons (eC (.str "home")) (aCons (eC (.str "on")) (aCons (eC (.str "on")) aNil)))))) aNil))))
  (sRet (eFrz (eTup (aCons (eCallB (defl c_f_law_one_of []) (aCons (eVar 0) (aCons (eVar 1) aNil))) (aCons (eVar 2) (aCons (eVar 3) (aCons (eCallB (defl c_f_law_one_of []) (aCons (eVar 0) (aCons (eVar 1) aNil))) (aCons (eBin en.eq (eCallB (defl c_f_law_choose []) (aCons (eVar 0) (aCons (eC (.int 7)) aNil))) (eC (.int 0))) aNil))))))))))
def s_f_law_rule (en : En) (c_f_law_choose c_f_law_any_row c_f_law_fair_rows c_f_law_names : Fn) : Es :=
  (sSeq (sSet 2 (eSl (eCallB (defl c_f_law_names []) (aCons (eVar 0) aNil)) oNone (oSome (eBin en.add (eC (.int 1)) (eCallB (defl c_f_law_choose []) (aCons (eVar 0) (aCons (eC (.int 4)) aNil)))))))
  (sSeq (sSet 3 (eCallB (defl c_f_law_fair_rows []) (aCons (eVar 0) (aCons (eVar 2) aNil))))
  (sSeq (sIf (tCmpA en.eq (eCallB (defl c_f_law_choose []) (aCons (eVar 0) (aCons (eC (.int 3)) aNil))) (eC (.int 0)))
  (sSet 3 (eLc false (iRng1A (aCons (eCallB (defl c_f_law_choose []) (aCons (eVar 0) (aCons (eBin en.add (eVar 1) (eC (.int 1))) aNil))) aNil)) (gNm 4) tYesA (eCallB (defl c_f_law_any_row []) (aCons (eVar 0) (aCons (eVar 2) aNil))) [4]))
  sPass)
  (sSeq (sFor (iRng1A (aCons (eCallB (defl c_f_law_choose []) (aCons (eVar 0) (aCons (eC (.int 3)) aNil))) aNil)) (gNm 4)
  (sSeq (sSet 5 (eCallB (defl c_f_law_choose []) (aCons (eVar 0) (aCons (eBin en.add (eCallB en.len (aCons (eVar 3) aNil)) (eC (.int 1))) aNil))))
  (sSeq (sSet 6 (eCallB (defl c_f_law_choose []) (aCons (eVar 0) (aCons (eC (.int 3)) aNil))))
  (sSeq (sSet 7 (eIf (tCmpA (opCmp fun i j => decide (j < i)) (eVar 6) (eC (.int 0))) (eLst (aCons (eCallB (defl c_f_law_any_row []) (aCons (eVar 0) (aCons (eVar 2) aNil))) aNil)) (eLst aNil)))
  (sSet 3 (eBin en.add (eBin en.add (eSl (eVar 3) oNone (oSome (eVar 5))) (eVar 7)) (eSl (eVar 3) (oSome (eBin en.add (eVar 5) (eCallB opInt (aCons (eBin (opCmp fun i j => decide (i < j)) (eVar 6) (eC (.int 2))) aNil)))) oNone)))))))
  (sRet (eFrz (eTup (aCons (eBin en.ix (eVar 2) (eC (.int 0))) (aCons (eCallB opTuple (aCons (eSl (eVar 3) oNone (oSome (eVar 1))) aNil)) aNil)))))))))
def s_f_first_of (en : En) (c_f_is_name : Fn) : Es :=
  (sSeq (sSet 1 (eBM false opSplit (eVar 0) (aCons (eC (.str " ")) aNil)))
  (sRet (eFrz (eIf (tAndA (tCmpA en.eq (eCallB en.len (aCons (eVar 1) aNil)) (eC (.int 2))) (tAndA (tCmpA en.eq (eBin en.ix (eVar 1) (eC (.int 0))) (eC (.str "first"))) (tVal (eCallB (defl c_f_is_name []) (aCons (eBin en.ix (eVar 1) (eC (.int 1))) aNil))))) (eBin en.ix (eVar 1) (eC (.int 1))) (eC (.non))))))
def s_f_row_of (en : En) (c_m_Row_init : Fn) : Es :=
  (sSeq (sSet 1 (eBM false opSplit (eVar 0) (aCons (eC (.str " ")) aNil)))
  (sSeq (sSet 2 (eBin en.eq (eSl (eVar 1) (oSome (eC (.int 4))) oNone) (eLst (aCons (eC (.str "also")) aNil))))
  (sSeq (sIf (tOrA (tCmpA (opCmp fun i j => decide (i < j)) (eCallB en.len (aCons (eVar 1) aNil)) (eC (.int 4))) (tAndA (tCmpA (opCmp fun i j => decide (j < i)) (eCallB en.len (aCons (eVar 1) aNil)) (eC (.int 4))) (tNotA (tVal (eVar 2)))))
  (sRet (eFrz (eC (.non))))
  sPass)
  (sTryOnly (sRet (eFrz (eCallB (defl (newF 0 c_m_Row_init) []) (aCons (eBin en.ix (eVar 1) (eC (.int 0))) (aCons (eBin en.ix (eVar 1) (eC (.int 1))) (aCons (eBin en.ix (eVar 1) (eC (.int 2))) (aCons (eBin en.ix (eVar 1) (eC (.int 3))) (aCons (eVar 2) aNil))))))))
  (en.xm "InvalidRow") (fun k fs => (sRet (eC (.non))))))))
def s_f_law_row_text (en : En) : Es :=
  (sRet (eFrz (eBin en.add (eBM false opJoin (eC (.str " ")) (aCons (eSl (eVar 0) oNone (oSome (eC (.int 4)))) aNil)) (eIf (tVal (eBin en.ix (eVar 0) (eC (.int 4)))) (eC (.str " also")) (eC (.str ""))))))
def s_f_law_rule_text (en : En) (c_f_law_row_text : Fn) : Es :=
  (sRet (eFrz (eBM false opJoin (eC (.str "\n")) (aCons (eBin en.add (eLst (aCons (eBin en.add (eC (.str "first ")) (eBin en.ix (eVar 0) (eC (.int 0)))) aNil)) (eLc false (iSeq (eBin en.ix (eVar 0) (eC (.int 1)))) (gNm 1) tYesA (eCallB (defl c_f_law_row_text []) (aCons (eVar 1) aNil)) [1])) aNil))))
end Pd
namespace Pd
open PySem PySem.Spec L2
end Pd
namespace Pd
open PySem PySem.Spec L2
end Pd
namespace Pd
open PySem PySem.Spec L2
def s_f_ring_holds (en : En) (c_f_round_done c_f_is_ring_told : Fn) : Es :=
  (sSeq (sIf (tNotA (tVal (eCallB (defl c_f_is_ring_told []) (aCons (eVar 1) aNil))))
  (sRet (eFrz (eC (.bl false))))
  sPass)
  (sSeq (sAsg (eVar 1) (gTp [5, 6, 7, 8]))
  (sSeq (sSet 2 (eTup (aCons (eFld (eVar 0) "first") (aCons (eC (.non)) aNil))))
  (sSeq (sFor (iSeq (eVar 7)) (gNm 3)
  (sSeq (sAsg (eCallB (defl c_f_round_done []) (aCons (eVar 0) (aStar (eVar 2) (aCons (eVar 5) (aCons (eVar 3) aNil))))) (gTp [9, 10, 11, 12]))
  (sSet 2 (eTup (aCons (eVar 11) (aCons (eVar 12) aNil))))))
  (sSeq (sSet 4 (eVar 2))
  (sSeq (sFor (iSeq (eVar 8)) (gNm 3)
  (sSeq (sAsg (eCallB (defl c_f_round_done []) (aCons (eVar 0) (aStar (eVar 2) (aCons (eVar 5) (aCons (eVar 3) aNil))))) (gTp [9, 10, 11, 12]))
  (sSeq (sIf (tOrA (tCmpA en.nin (eVar 6) (eVar 3)) (tCmpA en.inn (eVar 6) (eVar 10)))
  (sRet (eFrz (eC (.bl false))))
  sPass)
  (sSet 2 (eTup (aCons (eVar 11) (aCons (eVar 12) aNil)))))))
  (sRet (eFrz (eBin en.eq (eVar 2) (eVar 4))))))))))
end Pd
namespace Pd
open PySem PySem.Spec L2
end Pd
namespace Pd
open PySem PySem.Spec L2
def s_m_Rule_read_2 (en : En) (c_m_Rule_init c_f_row_of c_f_first_of : Fn) : Es :=
  (sSeq (sSet 2 (eBM false opSplit (eVar 1) (aCons (eC (.str "\n")) aNil)))
  (sSeq (sSet 3 (eCallB (defl c_f_first_of []) (aCons (eBin en.ix (eVar 2) (eC (.int 0))) aNil)))
  (sSeq (sIf (tCmpA (opIs false) (eVar 3) (eC (.non)))
  (sRaise 3 "at" (aCons (eC (.int 0)) aNil))
  sPass)
  (sSeq (sSet 4 (eLc false (iSeq (eSl (eVar 2) (oSome (eC (.int 1))) oNone)) (gNm 5) tYesA (eCallB (defl c_f_row_of []) (aCons (eVar 5) aNil)) [5]))
  (sSeq (sIf (tCmpA en.inn (eC (.non)) (eVar 4))
  (sRaise 3 "at" (aCons (eBin en.add (eC (.int 1)) (eBM true en.ixn (eVar 4) (aCons (eC (.non)) aNil))) aNil))
  sPass)
  (sRet (eFrz (eNewV 0 1 (defl (newF 1 c_m_Rule_init) []) (aCons (eVar 3) (aCons (eVar 4) aNil))))))))))
def s_f_law_read (en : En) (c_m_Rule_read : Fn) : Es :=
  (sSeq (sSet 1 (eC (.non)))
  (sSeq (sTryAs (sSet 1 (eCallB en.str (aCons (eCMeth 1 (defl c_m_Rule_read []) (aCons (eVar 0) aNil)) aNil)))
  (en.xm "InvalidText") 2 (fun k fs => (sSet 1 (eTup (aCons (xFld fs "at") (aCons (eAnd (xIs (en.xm "LineError") k) (eNot (xIs2 (en.xm "InvalidRow") (en.xm "InvalidRule") k))) aNil))))))
  (sRet (eFrz (eVar 1)))))
def s_f_law_bent_2 (en : En) (c_f_law_choose c_f_law_one_of : Fn) : Es :=
  (sSeq (sPar [6, 7] (aCons (eBM false opSplit (eVar 1) (aCons (eC (.str "\n")) aNil)) (aCons (eCallB (defl c_f_law_choose []) (aCons (eVar 0) (aCons (eC (.int 7)) aNil))) aNil)))
  (sSeq (sSet 2 (eCallB (defl c_f_law_choose []) (aCons (eVar 0) (aCons (eCallB en.len (aCons (eVar 6) aNil)) aNil))))
  (sSeq (sSet 3 (eLst (aCons (eC (.str "")) (aCons (eC (.str "first run")) (aCons (eC (.str "run all on")) (aCons (eC (.str "run all on run also also")) (aCons (eC (.str "run past on also")) (aCons (eC (.str "run Past on run")) aNil))))))))
  (sSeq (sSet 3 (eBin en.add (eVar 3) (eLst (aCons (eC (.str "run all on run ")) (aCons (eC (.str "also all on run")) (aCons (eC (.str "run all go run")) (aCons (eC (.str "a at stay b also")) (aCons (eC (.str "run keep home run")) aNil))))))))
  (sSeq (sSet 3 (eCallB (defl c_f_law_one_of []) (aCons (eVar 0) (aCons (eVar 3) aNil))))
  (sSeq (sIf (tCmpA en.eq (eVar 7) (eC (.int 0)))
  (sRet (eFrz (eBM false opJoin (eC (.str "\n")) (aCons (eBin en.add (eSl (eVar 6) oNone (oSome (eVar 2))) (eSl (eVar 6) (oSome (eBin en.add (eVar 2) (eC (.int 1)))) oNone)) aNil))))
  sPass)
  (sSeq (sIf (tCmpA en.eq (eVar 7) (eC (.int 1)))
  (sRet (eFrz (eBM false opJoin (eC (.str "\n")) (aCons (eBin en.add (eBin en.add (eSl (eVar 6) oNone (oSome (eVar 2))) (eLst (aCons (eVar 3) aNil))) (eSl (eVar 6) (oSome (eVar 2)) oNone)) aNil))))
  sPass)
  (sSeq (sIf (tCmpA en.eq (eVar 7) (eC (.int 2)))
  (sRet (eFrz (eBM false opJoin (eC (.str "\n")) (aCons (eBin en.add (eBin en.add (eSl (eVar 6) oNone (oSome (eVar 2))) (eSl (eVar 6) (oSome (eVar 2)) (oSome (eBin en.add (eVar 2) (eC (.int 1)))))) (eSl (eVar 6) (oSome (eVar 2)) oNone)) aNil))))
  sPass)
  (sSeq (sSet 4 (eCallB (defl c_f_law_choose []) (aCons (eVar 0) (aCons (eBin en.add (eCallB en.len (aCons (eVar 1) aNil)) (eC (.int 1))) aNil))))
  (sSeq (sSet 5 (eBin en.ix (eC (.str " a\nA0lo")) (eCallB (defl c_f_law_choose []) (aCons (eVar 0) (aCons (eC (.int 7)) aNil)))))
  (sSeq (sIf (tCmpA en.eq (eVar 7) (eC (.int 3)))
  (sRet (eFrz (eBin en.add (eSl (eVar 1) oNone (oSome (eVar 4))) (eSl (eVar 1) (oSome (eBin en.add (eVar 4) (eC (.int 1)))) oNone))))
  sPass)
  (sRet (eFrz (eBin en.add (eBin en.add (eSl (eVar 1) oNone (oSome (eVar 4))) (eVar 5)) (eSl (eVar 1) (oSome (eBin en.add (eVar 4) (eCallB opInt (aCons (eBin (opCmp fun i j => decide (j < i)) (eVar 7) (eC (.int 4))) aNil)))) oNone)))))))))))))))
def s_f_law_is_name_2 (en : En) : Es :=
  (sSeq (sIf (tOrA (tNotA (tBl (eChain (opCmp fun i j => decide (i < j)) (opCmp fun i j => decide (i < j)) (eC (.int 0)) (eCallB en.len (aCons (eVar 0) aNil)) (eC (.int 5))))) (tCmpA en.eq (eVar 0) (eC (.str "also"))))
  (sRet (eFrz (eC (.bl false))))
  sPass)
  (sRet (eFrz (eBin en.eq (eLc false (iSeq (eVar 0)) (gNm 1) (tCmpA en.nin (eVar 1) (eC (.str "abcdefghijklmnopqrstuvwxyz"))) (eVar 1) [1]) (eLst aNil)))))
def s_f_law_is_row (en : En) (c_f_law_is_name : Fn) : Es :=
  (sSeq (sSet 1 (eBM false opSplit (eVar 0) (aCons (eC (.str " ")) aNil)))
  (sSeq (sIf (tAndA (tCmpA en.eq (eCallB en.len (aCons (eVar 1) aNil)) (eC (.int 5))) (tCmpA en.eq (eBin en.ix (eVar 1) (eC (.int 4))) (eC (.str "also"))))
  (sSet 1 (eSl (eVar 1) oNone (oSome (eC (.int 4)))))
  sPass)
  (sSeq (sIf (tOrA (tCmpA en.ne (eCallB en.len (aCons (eVar 1) aNil)) (eC (.int 4))) (tOrA (tNotA (tVal (eCallB (defl c_f_law_is_name []) (aCons (eBin en.ix (eVar 1) (eC (.int 0))) aNil)))) (tNotA (tVal (eCallB (defl c_f_law_is_name []) (aCons (eBin en.ix (eVar 1) (eC (.int 3))) aNil))))))
  (sRet (eFrz (eC (.bl false))))
  sPass)
  (sRet (eFrz (eAnd (eBin en.inn (eBin en.ix (eVar 1) (eC (.int 1))) (eTup (aCons (eC (.str "keep")) (aCons (eC (.str "at")) (aCons (eC (.str "past")) (aCons (eC (.str "under")) (aCons (eC (.str "all")) aNil))))))) (eBin en.inn (eBin en.ix (eVar 1) (eC (.int 2))) (eTup (aCons (eC (.str "stay")) (aCons (eC (.str "on")) (aCons (eC (.str "home")) aNil)))))))))))
def s_f_law_wrong (en : En) (c_f_law_is_row c_f_law_is_name : Fn) : Es :=
  (sSeq (sFor (iEnmA (aCons (eBM false opSplit (eVar 0) (aCons (eC (.str "\n")) aNil)) aNil)) (gTp [1, 2])
  (sSeq (sSet 3 (eBM false opSplit (eVar 2) (aCons (eC (.str " ")) aNil)))
  (sSeq (sIf (tAndA (tCmpA en.eq (eVar 1) (eC (.int 0))) (tNotA (tAndA (tCmpA en.eq (eCallB en.len (aCons (eVar 3) aNil)) (eC (.int 2))) (tAndA (tCmpA en.eq (eBin en.ix (eVar 3) (eC (.int 0))) (eC (.str "first"))) (tVal (eCallB (defl c_f_law_is_name []) (aCons (eBin en.ix (eVar 3) (eC (.int 1))) aNil)))))))
  (sRet (eFrz (eC (.int 0))))
  sPass)
  (sIf (tAndA (tCmpA (opCmp fun i j => decide (j < i)) (eVar 1) (eC (.int 0))) (tNotA (tVal (eCallB (defl c_f_law_is_row []) (aCons (eVar 2) aNil)))))
  (sRet (eFrz (eVar 1)))
  sPass))))
  (sRet (eFrz (eNeg (eC (.int 1))))))
def s_f_law_is_small_2 (en : En) : Es :=
  (sSeq (sSet 1 (eNewL aNil))
  (sSeq (sFor (iEnmA (aCons (eBM false opSplit (eVar 0) (aCons (eC (.str "\n")) aNil)) aNil)) (gTp [2, 3])
  (sSeq (sSet 4 (eBM false opSplit (eVar 3) (aCons (eC (.str " ")) aNil)))
  (sDrop (eBM true opExtend (eVar 1) (aCons (eIf (tCmpA en.eq (eVar 2) (eC (.int 0))) (eSl (eVar 4) (oSome (eC (.int 1))) (oSome (eC (.int 2)))) (eBin en.add (eSl (eVar 4) oNone (oSome (eC (.int 1)))) (eSl (eVar 4) (oSome (eC (.int 3))) (oSome (eC (.int 4)))))) aNil)))))
  (sRet (eFrz (eBin (opCmp fun i j => decide (i < j)) (eCallB en.len (aCons (eLc false (iEnmA (aCons (eVar 1) aNil)) (gTp [5, 6]) (tCmpA en.nin (eVar 6) (eSl (eVar 1) oNone (oSome (eVar 5)))) (eVar 6) [5, 6]) aNil)) (eC (.int 5)))))))
def s_f_law_20 (en : En) (c_f_law_read c_f_law_is_small c_f_law_wrong c_f_law_choose c_f_law_bent c_m_Rule_read c_f_law_rule_text c_f_law_rule c_f_law_seed : Fn) : Es :=
  (sSeq (sFor (iRng1A (aCons (eCallB opMax (aCons (eC (.int 2)) (aCons (eCallB opMin (aCons (eC (.int 4)) (aCons (eCallB en.len (aCons (eVar 0) aNil)) aNil))) aNil))) aNil)) (gNm 1)
  (sSeq (sSet 2 (eCallB (defl c_f_law_seed []) (aCons (eVar 0) (aCons (eVar 1) aNil))))
  (sFor (iRng1A (aCons (eC (.int 5)) aNil)) (gNm 3)
  (sSeq (sSet 4 (eCallB (defl c_f_law_rule_text []) (aCons (eCallB (defl c_f_law_rule []) (aCons (eVar 2) (aCons (eC (.int 9)) aNil))) aNil)))
  (sSeq (sIf (tOrA (tCmpA en.ne (eCallB (defl c_f_law_read []) (aCons (eVar 4) aNil)) (eVar 4)) (tCmpA en.ne (eCMeth 1 (defl c_m_Rule_read []) (aCons (eVar 4) aNil)) (eCMeth 1 (defl c_m_Rule_read []) (aCons (eVar 4) aNil))))
  (sRet (eFrz (eC (.bl false))))
  sPass)
  (sFor (iRng1A (aCons (eC (.int 5)) aNil)) (gNm 5)
  (sSeq (sSet 6 (eCallB (defl c_f_law_bent []) (aCons (eVar 2) (aCons (eVar 4) aNil))))
  (sSeq (sSet 6 (eIf (tCmpA en.eq (eCallB (defl c_f_law_choose []) (aCons (eVar 2) (aCons (eC (.int 3)) aNil))) (eC (.int 0))) (eCallB (defl c_f_law_bent []) (aCons (eVar 2) (aCons (eVar 6) aNil))) (eVar 6)))
  (sSeq (sSet 7 (eCallB (defl c_f_law_wrong []) (aCons (eVar 6) aNil)))
  (sSeq (sIf (tAndA (tCmpA (opCmp fun i j => decide (i < j)) (eVar 7) (eC (.int 0))) (tNotA (tVal (eCallB (defl c_f_law_is_small []) (aCons (eVar 6) aNil)))))
  sCont
  sPass)
  (sIf (tCmpA en.ne (eCallB opReprN (aCons (eCallB (defl c_f_law_read []) (aCons (eVar 6) aNil)) aNil)) (eCallB opReprN (aCons (eIf (tCmpA (opCmp fun i j => decide (i < j)) (eVar 7) (eC (.int 0))) (eVar 6) (eTup (aCons (eVar 7) (aCons (eC (.bl true)) aNil)))) aNil)))
  (sRet (eFrz (eC (.bl false))))
  sPass)))))))))))
  (sRet (eFrz (eAnd (eBin en.eq (eCallB (defl c_f_law_read []) (aCons (eC (.str "")) aNil)) (eTup (aCons (eC (.int 0)) (aCons (eC (.bl true)) aNil)))) (eAnd (eBin en.eq (eCallB (defl c_f_law_read []) (aCons (eC (.str "first a\n")) aNil)) (eTup (aCons (eC (.int 1)) (aCons (eC (.bl true)) aNil)))) (eBin en.eq (eCallB (defl c_f_law_read []) (aCons (eC (.str "first also")) aNil)) (eTup (aCons (eC (.int 0)) (aCons (eC (.bl true)) aNil)))))))))
end Pd
set_option maxHeartbeats 2000000
namespace LW
open PySem PySem.Spec L2 Pd
theorem b_f_law_seed : BindOk f_law_seed := ⟨fun _ _ _ _ _ _ _ us hl => match us, hl with | [_, _], _ => rfl, fun h => absurd rfl h, by decide⟩
theorem b_f_law_row_text : BindOk f_law_row_text := ⟨fun _ _ _ _ _ _ _ us hl => match us, hl with | [_], _ => rfl, fun h => absurd rfl h, by decide⟩
theorem b_f_law_rule_text : BindOk f_law_rule_text := ⟨fun _ _ _ _ _ _ _ us hl => match us, hl with | [_], _ => rfl, fun h => absurd rfl h, by decide⟩
theorem b_f_is_name : BindOk f_is_name := ⟨fun _ _ _ _ _ _ _ us hl => match us, hl with | [_], _ => rfl, fun h => absurd rfl h, by decide⟩
theorem b_f_first_of : BindOk f_first_of := ⟨fun _ _ _ _ _ _ _ us hl => match us, hl with | [_], _ => rfl, fun h => absurd rfl h, by decide⟩
theorem b_f_is_word : BindOk f_is_word := ⟨fun _ _ _ _ _ _ _ us hl => match us, hl with | [_, _], _ => rfl, fun h => absurd rfl h, by decide⟩
theorem b_m_Row_init : BindOk m_Row_init := by
  refine ⟨fun h => (by cases h), fun _ j hj T kV doc pm an cdv ct us its h1 h2 => ?_, by decide⟩
  match j, hj with
  | 0, _ => match us, its, h1, h2 with | [_, _, _, _, _], [_], _, _ => exact ⟨_, rfl, rfl⟩
  | 1, _ => match us, its, h1, h2 with | [_, _, _, _, _, _], [_], _, _ => exact ⟨_, rfl, rfl⟩
  | _ + 2, h => exact absurd h (by simp [m_Row_init])
theorem b_m_Row_str : BindOk m_Row_str := ⟨fun _ _ _ _ _ _ _ us hl => match us, hl with | [_], _ => rfl, fun h => absurd rfl h, by decide⟩
theorem b_m_Row_eq : BindOk m_Row_eq := ⟨fun _ _ _ _ _ _ _ us hl => match us, hl with | [_, _], _ => rfl, fun h => absurd rfl h, by decide⟩
theorem b_f_row_of : BindOk f_row_of := ⟨fun _ _ _ _ _ _ _ us hl => match us, hl with | [_], _ => rfl, fun h => absurd rfl h, by decide⟩
theorem b_m_Rule_read : BindOk m_Rule_read := ⟨fun _ _ _ _ _ _ _ us hl => match us, hl with | [_, _], _ => rfl, fun h => absurd rfl h, by decide⟩
theorem b_f_is_sequence : BindOk f_is_sequence := ⟨fun _ _ _ _ _ _ _ us hl => match us, hl with | [_], _ => rfl, fun h => absurd rfl h, by decide⟩
theorem b_m_Rule_init : BindOk m_Rule_init := by
  refine ⟨fun h => (by cases h), fun _ j hj T kV doc pm an cdv ct us its h1 h2 => ?_, by decide⟩
  match j, hj with
  | 0, _ => match us, its, h1, h2 with | [_, _], [_], _, _ => exact ⟨_, rfl, rfl⟩
  | 1, _ => match us, its, h1, h2 with | [_, _, _], [_], _, _ => exact ⟨_, rfl, rfl⟩
  | _ + 2, h => exact absurd h (by simp [m_Rule_init])
theorem b_m_Rule_str : BindOk m_Rule_str := ⟨fun _ _ _ _ _ _ _ us hl => match us, hl with | [_], _ => rfl, fun h => absurd rfl h, by decide⟩
theorem b_m_Rule_len : BindOk m_Rule_len := ⟨fun _ _ _ _ _ _ _ us hl => match us, hl with | [_], _ => rfl, fun h => absurd rfl h, by decide⟩
theorem b_m_Rule_getitem : BindOk m_Rule_getitem := ⟨fun _ _ _ _ _ _ _ us hl => match us, hl with | [_, _], _ => rfl, fun h => absurd rfl h, by decide⟩
theorem b_f_ascending : BindOk f_ascending := ⟨fun _ _ _ _ _ _ _ us hl => match us, hl with | [_], _ => rfl, fun h => absurd rfl h, by decide⟩
theorem b_f_is_integer : BindOk f_is_integer := ⟨fun _ _ _ _ _ _ _ us hl => match us, hl with | [_], _ => rfl, fun h => absurd rfl h, by decide⟩
theorem b_f_is_round : BindOk f_is_round := ⟨fun _ _ _ _ _ _ _ us hl => match us, hl with | [_, _], _ => rfl, fun h => absurd rfl h, by decide⟩
theorem b_f_good_rounds : BindOk f_good_rounds := ⟨fun _ _ _ _ _ _ _ us hl => match us, hl with | [_, _], _ => rfl, fun h => absurd rfl h, by decide⟩
theorem b_m_Played_init : BindOk m_Played_init := ⟨fun _ _ _ _ _ _ _ us hl => match us, hl with | [_, _], _ => rfl, fun h => absurd rfl h, by decide⟩
theorem b_f_region_of : BindOk f_region_of := ⟨fun _ _ _ _ _ _ _ us hl => match us, hl with | [_, _, _], _ => rfl, fun h => absurd rfl h, by decide⟩
theorem b_f_granted_by : BindOk f_granted_by := ⟨fun _ _ _ _ _ _ _ us hl => match us, hl with | [_, _, _, _], _ => rfl, fun h => absurd rfl h, by decide⟩
theorem b_f_pointer_behind : BindOk f_pointer_behind := ⟨fun _ _ _ _ _ _ _ us hl => match us, hl with | [_, _, _], _ => rfl, fun h => absurd rfl h, by decide⟩
theorem b_f_round_done : BindOk f_round_done := ⟨fun _ _ _ _ _ _ _ us hl => match us, hl with | [_, _, _, _, _], _ => rfl, fun h => absurd rfl h, by decide⟩
theorem b_f_faults_in : BindOk f_faults_in := ⟨fun _ _ _ _ _ _ _ us hl => match us, hl with | [_, _], _ => rfl, fun h => absurd rfl h, by decide⟩
theorem b_f_play : BindOk f_play := ⟨fun _ _ _ _ _ _ _ us hl => match us, hl with | [_, _, _], _ => rfl, fun h => absurd rfl h, by decide⟩
theorem b_m_Rule_call : BindOk m_Rule_call := ⟨fun _ _ _ _ _ _ _ us hl => match us, hl with | [_, _, _], _ => rfl, fun h => absurd rfl h, by decide⟩
theorem b_m_Rule_add : BindOk m_Rule_add := ⟨fun _ _ _ _ _ _ _ us hl => match us, hl with | [_, _], _ => rfl, fun h => absurd rfl h, by decide⟩
theorem b_m_Rule_eq : BindOk m_Rule_eq := ⟨fun _ _ _ _ _ _ _ us hl => match us, hl with | [_, _], _ => rfl, fun h => absurd rfl h, by decide⟩
theorem b_f_law_read : BindOk f_law_read := ⟨fun _ _ _ _ _ _ _ us hl => match us, hl with | [_], _ => rfl, fun h => absurd rfl h, by decide⟩
theorem b_f_law_choose : BindOk f_law_choose := ⟨fun _ _ _ _ _ _ _ us hl => match us, hl with | [_, _], _ => rfl, fun h => absurd rfl h, by decide⟩
theorem b_f_law_one_of : BindOk f_law_one_of := ⟨fun _ _ _ _ _ _ _ us hl => match us, hl with | [_, _], _ => rfl, fun h => absurd rfl h, by decide⟩
theorem b_f_law_fair_rows : BindOk f_law_fair_rows := ⟨fun _ _ _ _ _ _ _ us hl => match us, hl with | [_, _], _ => rfl, fun h => absurd rfl h, by decide⟩
theorem b_f_law_names : BindOk f_law_names := ⟨fun _ _ _ _ _ _ _ us hl => match us, hl with | [_], _ => rfl, fun h => absurd rfl h, by decide⟩
theorem b_f_law_any_row : BindOk f_law_any_row := ⟨fun _ _ _ _ _ _ _ us hl => match us, hl with | [_, _], _ => rfl, fun h => absurd rfl h, by decide⟩
theorem b_f_law_rule : BindOk f_law_rule := ⟨fun _ _ _ _ _ _ _ us hl => match us, hl with | [_, _], _ => rfl, fun h => absurd rfl h, by decide⟩
theorem b_f_law_bent : BindOk f_law_bent := ⟨fun _ _ _ _ _ _ _ us hl => match us, hl with | [_, _], _ => rfl, fun h => absurd rfl h, by decide⟩
theorem b_f_law_is_name : BindOk f_law_is_name := ⟨fun _ _ _ _ _ _ _ us hl => match us, hl with | [_], _ => rfl, fun h => absurd rfl h, by decide⟩
theorem b_f_law_is_row : BindOk f_law_is_row := ⟨fun _ _ _ _ _ _ _ us hl => match us, hl with | [_], _ => rfl, fun h => absurd rfl h, by decide⟩
theorem b_f_law_wrong : BindOk f_law_wrong := ⟨fun _ _ _ _ _ _ _ us hl => match us, hl with | [_], _ => rfl, fun h => absurd rfl h, by decide⟩
theorem b_f_law_is_small : BindOk f_law_is_small := ⟨fun _ _ _ _ _ _ _ us hl => match us, hl with | [_], _ => rfl, fun h => absurd rfl h, by decide⟩
theorem b_f_law : BindOk f_law := ⟨fun _ _ _ _ _ _ _ us hl => match us, hl with | [_], _ => rfl, fun h => absurd rfl h, by decide⟩
theorem binds : ∀ d ∈ fns, BindOk d := by
  intro d hd
  simp only [fns, List.mem_cons, List.not_mem_nil, or_false] at hd
  rcases hd with rfl | rfl | rfl | rfl | rfl | rfl | rfl | rfl | rfl | rfl | rfl | rfl | rfl | rfl | rfl | rfl | rfl | rfl | rfl | rfl | rfl | rfl | rfl | rfl | rfl | rfl | rfl | rfl | rfl | rfl | rfl | rfl | rfl | rfl | rfl | rfl | rfl | rfl | rfl | rfl | rfl | rfl | rfl
  · exact b_f_law_seed
  · exact b_f_law_row_text
  · exact b_f_law_rule_text
  · exact b_f_is_name
  · exact b_f_first_of
  · exact b_f_is_word
  · exact b_m_Row_init
  · exact b_m_Row_str
  · exact b_m_Row_eq
  · exact b_f_row_of
  · exact b_m_Rule_read
  · exact b_f_is_sequence
  · exact b_m_Rule_init
  · exact b_m_Rule_str
  · exact b_m_Rule_len
  · exact b_m_Rule_getitem
  · exact b_f_ascending
  · exact b_f_is_integer
  · exact b_f_is_round
  · exact b_f_good_rounds
  · exact b_m_Played_init
  · exact b_f_region_of
  · exact b_f_granted_by
  · exact b_f_pointer_behind
  · exact b_f_round_done
  · exact b_f_faults_in
  · exact b_f_play
  · exact b_m_Rule_call
  · exact b_m_Rule_add
  · exact b_m_Rule_eq
  · exact b_f_law_read
  · exact b_f_law_choose
  · exact b_f_law_one_of
  · exact b_f_law_fair_rows
  · exact b_f_law_names
  · exact b_f_law_any_row
  · exact b_f_law_rule
  · exact b_f_law_bent
  · exact b_f_law_is_name
  · exact b_f_law_is_row
  · exact b_f_law_wrong
  · exact b_f_law_is_small
  · exact b_f_law
theorem fit : pg.fit = true := by decide +kernel
theorem scs : ∀ d ∈ fns, scB d = true := List.all_eq_true.mp (by decide +kernel : fns.all scB = true)
theorem e_f_law_seed : pg.body f_law_seed = fun C => s_f_law_seed (pg.en C) := by kernel_rfl
theorem sem_f_law_seed (k : Nat) : pg.sem (k + 1) 0 = runF 2 3 (s_f_law_seed (pg.en (pg.sem k))) := by
  show runF 2 3 (pg.body f_law_seed (pg.sem k)) = _
  rw [e_f_law_seed]
theorem e_f_law_row_text : pg.body f_law_row_text = fun C => s_f_law_row_text (pg.en C) := by kernel_rfl
theorem sem_f_law_row_text (k : Nat) : pg.sem (k + 1) 1 = runF 1 1 (s_f_law_row_text (pg.en (pg.sem k))) := by
  show runF 1 1 (pg.body f_law_row_text (pg.sem k)) = _
  rw [e_f_law_row_text]
theorem e_f_law_rule_text : pg.body f_law_rule_text = fun C => s_f_law_rule_text (pg.en C) (C 1) := by kernel_rfl
theorem sem_f_law_rule_text (k : Nat) : pg.sem (k + 1) 2 = runF 1 2 (s_f_law_rule_text (pg.en (pg.sem k)) (pg.sem k 1)) := by
  show runF 1 2 (pg.body f_law_rule_text (pg.sem k)) = _
  rw [e_f_law_rule_text]
theorem e_f_is_name : pg.body f_is_name = fun C => s_f_is_name (pg.en C) := by kernel_rfl
theorem sem_f_is_name (k : Nat) : pg.sem (k + 1) 3 = runF 1 2 (s_f_is_name (pg.en (pg.sem k))) := by
  show runF 1 2 (pg.body f_is_name (pg.sem k)) = _
  rw [e_f_is_name]
theorem e_f_first_of : pg.body f_first_of = fun C => s_f_first_of (pg.en C) (C 3) := by kernel_rfl
theorem sem_f_first_of (k : Nat) : pg.sem (k + 1) 4 = runF 1 2 (s_f_first_of (pg.en (pg.sem k)) (pg.sem k 3)) := by
  show runF 1 2 (pg.body f_first_of (pg.sem k)) = _
  rw [e_f_first_of]
theorem e_f_is_word : pg.body f_is_word = fun C => s_f_is_word (pg.en C) := by kernel_rfl
theorem sem_f_is_word (k : Nat) : pg.sem (k + 1) 5 = runF 2 2 (s_f_is_word (pg.en (pg.sem k))) := by
  show runF 2 2 (pg.body f_is_word (pg.sem k)) = _
  rw [e_f_is_word]
theorem e_m_Row_init : pg.body m_Row_init = fun C => s_m_Row_init (pg.en C) (C 3) (C 5) := by kernel_rfl
theorem sem_m_Row_init (k : Nat) : pg.sem (k + 1) 6 = runF 6 6 (s_m_Row_init (pg.en (pg.sem k)) (pg.sem k 3) (pg.sem k 5)) := by
  show runF 6 6 (pg.body m_Row_init (pg.sem k)) = _
  rw [e_m_Row_init]
theorem e_m_Row_str : pg.body m_Row_str = fun C => s_m_Row_str (pg.en C) := by kernel_rfl
theorem sem_m_Row_str (k : Nat) : pg.sem (k + 1) 7 = runF 1 1 (s_m_Row_str (pg.en (pg.sem k))) := by
  show runF 1 1 (pg.body m_Row_str (pg.sem k)) = _
  rw [e_m_Row_str]
theorem e_m_Row_eq : pg.body m_Row_eq = fun C => s_m_Row_eq (pg.en C) := by kernel_rfl
theorem sem_m_Row_eq (k : Nat) : pg.sem (k + 1) 8 = runF 2 2 (s_m_Row_eq (pg.en (pg.sem k))) := by
  show runF 2 2 (pg.body m_Row_eq (pg.sem k)) = _
  rw [e_m_Row_eq]
theorem e_f_row_of : pg.body f_row_of = fun C => s_f_row_of (pg.en C) (C 6) := by kernel_rfl
theorem sem_f_row_of (k : Nat) : pg.sem (k + 1) 9 = runF 1 3 (s_f_row_of (pg.en (pg.sem k)) (pg.sem k 6)) := by
  show runF 1 3 (pg.body f_row_of (pg.sem k)) = _
  rw [e_f_row_of]
theorem e_m_Rule_read : pg.body m_Rule_read = fun C => s_m_Rule_read_2 (pg.en C) (C 12) (C 9) (C 4) := by kernel_rfl
theorem sem_m_Rule_read (k : Nat) : pg.sem (k + 1) 10 = runF 2 6 (s_m_Rule_read_2 (pg.en (pg.sem k)) (pg.sem k 12) (pg.sem k 9) (pg.sem k 4)) := by
  show runF 2 6 (pg.body m_Rule_read (pg.sem k)) = _
  rw [e_m_Rule_read]
theorem e_f_is_sequence : pg.body f_is_sequence = fun C => s_f_is_sequence (pg.en C) := by kernel_rfl
theorem sem_f_is_sequence (k : Nat) : pg.sem (k + 1) 11 = runF 1 1 (s_f_is_sequence (pg.en (pg.sem k))) := by
  show runF 1 1 (pg.body f_is_sequence (pg.sem k)) = _
  rw [e_f_is_sequence]
theorem e_m_Rule_init : pg.body m_Rule_init = fun C => s_m_Rule_init (pg.en C) (C 11) (C 3) := by kernel_rfl
theorem sem_m_Rule_init (k : Nat) : pg.sem (k + 1) 12 = runF 3 6 (s_m_Rule_init (pg.en (pg.sem k)) (pg.sem k 11) (pg.sem k 3)) := by
  show runF 3 6 (pg.body m_Rule_init (pg.sem k)) = _
  rw [e_m_Rule_init]
theorem e_m_Rule_str : pg.body m_Rule_str = fun C => s_m_Rule_str (pg.en C) := by kernel_rfl
theorem sem_m_Rule_str (k : Nat) : pg.sem (k + 1) 13 = runF 1 2 (s_m_Rule_str (pg.en (pg.sem k))) := by
  show runF 1 2 (pg.body m_Rule_str (pg.sem k)) = _
  rw [e_m_Rule_str]
theorem e_m_Rule_eq : pg.body m_Rule_eq = fun C => s_m_Rule_eq (pg.en C) := by kernel_rfl
theorem sem_m_Rule_eq (k : Nat) : pg.sem (k + 1) 29 = runF 2 2 (s_m_Rule_eq (pg.en (pg.sem k))) := by
  show runF 2 2 (pg.body m_Rule_eq (pg.sem k)) = _
  rw [e_m_Rule_eq]
theorem e_f_law_read : pg.body f_law_read = fun C => s_f_law_read (pg.en C) (C 10) := by kernel_rfl
theorem sem_f_law_read (k : Nat) : pg.sem (k + 1) 30 = runF 1 3 (s_f_law_read (pg.en (pg.sem k)) (pg.sem k 10)) := by
  show runF 1 3 (pg.body f_law_read (pg.sem k)) = _
  rw [e_f_law_read]
theorem e_f_law_choose : pg.body f_law_choose = fun C => s_f_law_choose (pg.en C) := by kernel_rfl
theorem sem_f_law_choose (k : Nat) : pg.sem (k + 1) 31 = runF 2 4 (s_f_law_choose (pg.en (pg.sem k))) := by
  show runF 2 4 (pg.body f_law_choose (pg.sem k)) = _
  rw [e_f_law_choose]
theorem e_f_law_one_of : pg.body f_law_one_of = fun C => s_f_law_one_of (pg.en C) (C 31) := by kernel_rfl
theorem sem_f_law_one_of (k : Nat) : pg.sem (k + 1) 32 = runF 2 2 (s_f_law_one_of (pg.en (pg.sem k)) (pg.sem k 31)) := by
  show runF 2 2 (pg.body f_law_one_of (pg.sem k)) = _
  rw [e_f_law_one_of]
theorem e_f_law_fair_rows : pg.body f_law_fair_rows = fun C => s_f_law_fair_rows (pg.en C) (C 31) (C 32) := by kernel_rfl
theorem sem_f_law_fair_rows (k : Nat) : pg.sem (k + 1) 33 = runF 2 7 (s_f_law_fair_rows (pg.en (pg.sem k)) (pg.sem k 31) (pg.sem k 32)) := by
  show runF 2 7 (pg.body f_law_fair_rows (pg.sem k)) = _
  rw [e_f_law_fair_rows]
theorem e_f_law_names : pg.body f_law_names = fun C => s_f_law_names (pg.en C) (C 32) := by kernel_rfl
theorem sem_f_law_names (k : Nat) : pg.sem (k + 1) 34 = runF 1 2 (s_f_law_names (pg.en (pg.sem k)) (pg.sem k 32)) := by
  show runF 1 2 (pg.body f_law_names (pg.sem k)) = _
  rw [e_f_law_names]
theorem e_f_law_any_row : pg.body f_law_any_row = fun C => s_f_law_any_row (pg.en C) (C 31) (C 32) := by kernel_rfl
theorem sem_f_law_any_row (k : Nat) : pg.sem (k + 1) 35 = runF 2 4 (s_f_law_any_row (pg.en (pg.sem k)) (pg.sem k 31) (pg.sem k 32)) := by
  show runF 2 4 (pg.body f_law_any_row (pg.sem k)) = _
  rw [e_f_law_any_row]
theorem e_f_law_rule : pg.body f_law_rule = fun C => s_f_law_rule (pg.en C) (C 31) (C 35) (C 33) (C 34) := by kernel_rfl
theorem sem_f_law_rule (k : Nat) : pg.sem (k + 1) 36 = runF 2 8 (s_f_law_rule (pg.en (pg.sem k)) (pg.sem k 31) (pg.sem k 35) (pg.sem k 33) (pg.sem k 34)) := by
  show runF 2 8 (pg.body f_law_rule (pg.sem k)) = _
  rw [e_f_law_rule]
theorem e_f_law_bent : pg.body f_law_bent = fun C => s_f_law_bent_2 (pg.en C) (C 31) (C 32) := by kernel_rfl
theorem sem_f_law_bent (k : Nat) : pg.sem (k + 1) 37 = runF 2 8 (s_f_law_bent_2 (pg.en (pg.sem k)) (pg.sem k 31) (pg.sem k 32)) := by
  show runF 2 8 (pg.body f_law_bent (pg.sem k)) = _
  rw [e_f_law_bent]
theorem e_f_law_is_name : pg.body f_law_is_name = fun C => s_f_law_is_name_2 (pg.en C) := by kernel_rfl
theorem sem_f_law_is_name (k : Nat) : pg.sem (k + 1) 38 = runF 1 2 (s_f_law_is_name_2 (pg.en (pg.sem k))) := by
  show runF 1 2 (pg.body f_law_is_name (pg.sem k)) = _
  rw [e_f_law_is_name]
theorem e_f_law_is_row : pg.body f_law_is_row = fun C => s_f_law_is_row (pg.en C) (C 38) := by kernel_rfl
theorem sem_f_law_is_row (k : Nat) : pg.sem (k + 1) 39 = runF 1 2 (s_f_law_is_row (pg.en (pg.sem k)) (pg.sem k 38)) := by
  show runF 1 2 (pg.body f_law_is_row (pg.sem k)) = _
  rw [e_f_law_is_row]
theorem e_f_law_wrong : pg.body f_law_wrong = fun C => s_f_law_wrong (pg.en C) (C 39) (C 38) := by kernel_rfl
theorem sem_f_law_wrong (k : Nat) : pg.sem (k + 1) 40 = runF 1 4 (s_f_law_wrong (pg.en (pg.sem k)) (pg.sem k 39) (pg.sem k 38)) := by
  show runF 1 4 (pg.body f_law_wrong (pg.sem k)) = _
  rw [e_f_law_wrong]
theorem e_f_law_is_small : pg.body f_law_is_small = fun C => s_f_law_is_small_2 (pg.en C) := by kernel_rfl
theorem sem_f_law_is_small (k : Nat) : pg.sem (k + 1) 41 = runF 1 7 (s_f_law_is_small_2 (pg.en (pg.sem k))) := by
  show runF 1 7 (pg.body f_law_is_small (pg.sem k)) = _
  rw [e_f_law_is_small]
theorem e_f_law : pg.bodyR f_law = fun C => s_f_law_20 (pg.en C) (C 30) (C 41) (C 40) (C 31) (C 37) (C 10) (C 2) (C 36) (C 0) := by kernel_rfl
theorem sem_f_law (k : Nat) : runF 1 8 (pg.bodyR f_law (pg.sem k)) = runF 1 8 (s_f_law_20 (pg.en (pg.sem k)) (pg.sem k 30) (pg.sem k 41) (pg.sem k 40) (pg.sem k 31) (pg.sem k 37) (pg.sem k 10) (pg.sem k 2) (pg.sem k 36) (pg.sem k 0)) := by
  rw [e_f_law]
end LW
set_option maxHeartbeats 2000000
namespace LW
open PySem PySem.Spec PyProof.Rows L2 Pd
theorem ob_eq (s : PySem.W.SharedT) : ob s = hk.obs s.abs := Pd.obs_eq (HandSHeadRun.getT_eq s)
end LW
set_option maxHeartbeats 2000000
namespace Pd
open PySem PySem.Spec L2
theorem opEq_str (neg : Bool) (x y : Str) (M : Mem) : opEq neg (.str x) (.str y) M = .ok (.bl (if neg then !decide (x = y) else decide (x = y))) M := rfl
theorem opEq_int (neg : Bool) (x y : Int) (M : Mem) : opEq neg (.int x) (.int y) M = .ok (.bl (if neg then !decide (x = y) else decide (x = y))) M := rfl
section
variable {en : En}
theorem EnOk.eq_str (h : EnOk en) (x y : Str) (M : Mem) : en.eq (.str x) (.str y) M = .ok (.bl (decide (x = y))) M := by
  rw [h.eq _ _ _ rfl, opEq_str]; rfl
theorem EnOk.eq_int (h : EnOk en) (x y : Int) (M : Mem) : en.eq (.int x) (.int y) M = .ok (.bl (decide (x = y))) M := by
  rw [h.eq _ _ _ rfl, opEq_int]; rfl
theorem EnOk.ne_str (h : EnOk en) (x y : Str) (M : Mem) : en.ne (.str x) (.str y) M = .ok (.bl (!decide (x = y))) M := by
  rw [h.ne _ _ _ rfl, opEq_str]; rfl
theorem EnOk.ne_int (h : EnOk en) (x y : Int) (M : Mem) : en.ne (.int x) (.int y) M = .ok (.bl (!decide (x = y))) M := by
  rw [h.ne _ _ _ rfl, opEq_int]; rfl
theorem EnOk.add_int (h : EnOk en) (x y : Int) (M : Mem) : en.add (.int x) (.int y) M = .ok (.int (x + y)) M := h.add _ _ _ rfl
theorem inV_strs (x : Str) : ∀ ys : List Str, inV (.str x) (ys.map V.str) = decide (x ∈ ys)
  | [] => rfl
  | y :: ys => by
    have ih := inV_strs x ys
    unfold inV at ih ⊢
    rw [List.map_cons, List.any_cons, ih]
    have e : eqV (.str y) (.str x) = decide (x = y) := by
      simp only [eqV]
      by_cases h : x = y
      · simp [h]
      · have h2 : ¬ y = x := fun z => h z.symm
        simp [h, h2]
    rw [e]
    by_cases h : x = y <;> simp [h]
theorem vOf_strs (ys : List Str) : (ys.map Av.str).map vOf = ys.map V.str := by simp [vOf]
theorem flat_strs (ys : List Str) : (ys.map Av.str).all flatA = true := by simp [flatA]
theorem EnOk.in_strs (h : EnOk en) (x : Str) (ys : List Str) (M : Mem) : en.inn (.str x) (.tup (ys.map .str)) M = .ok (.bl (decide (x ∈ ys))) M := by
  rw [h.inn _ _ _ (by simp)]
  simp only [opIn, asQ, flat_strs, vOf_strs]
  rw [show vOf (Av.str x) = V.str x from rfl, inV_strs]
  rfl
end
def ptrA : Option Int → Av
  | none => .non
  | some p => .int p
def region (pick : Str) (ptr : Option Int) (n : Int) : Int × Int :=
  if pick = "all" then (0, n) else match ptr with
  | none => if pick = "at" ∨ pick = "past" then (0, n) else (0, 0)
  | some p => if pick = "keep" then (p, p + 1) else if pick = "under" then (0, p) else if pick = "at" then (p, n) else (p + 1, n)
end Pd
set_option maxHeartbeats 2000000
namespace Pd
open PySem PySem.Spec L2
theorem stay_seq (M : Mem) (xs : List Av) : (Ik.seq (.tup xs) xs).stay M = true := eqAs_refl xs
theorem stay_lst (M : Mem) (xs : List Av) : (Ik.seq (.lst xs) xs).stay M = true := eqAs_refl xs
theorem stay_enl (M : Mem) (xs : List Av) : (Ik.enm (.lst xs) xs).stay M = true := eqAs_refl xs
theorem seq_nx {f g : Es} {e e1 : Env} {M M1 : Mem} (h : f e M = .nx e1 M1) : sSeq f g e M = g e1 M1 := by unfold sSeq; rw [h]
theorem seq_rt {f g : Es} {e : Env} {M M1 : Mem} {v : Av} (h : f e M = .rt v M1) : sSeq f g e M = .rt v M1 := by unfold sSeq; rw [h]
theorem set_ok' {i : Nat} {f : Ev} {e : Env} {M M1 : Mem} {v : Av} (h : f e M = .ok v M1) : sSet i f e M = .nx (e.set i (some v)) M1 := by unfold sSet; rw [h]; rfl
theorem ret_ok' {f : Ev} {e : Env} {M M1 : Mem} {v : Av} (h : f e M = .ok v M1) : sRet f e M = .rt v M1 := by unfold sRet; rw [h]; rfl
theorem if_t {t : Et} {f g : Es} {e : Env} {M M1 : Mem} (h : t e M = .ok true M1) : sIf t f g e M = f e M1 := by unfold sIf; rw [h]; rfl
theorem if_f {t : Et} {f g : Es} {e : Env} {M M1 : Mem} (h : t e M = .ok false M1) : sIf t f g e M = g e M1 := by unfold sIf; rw [h]; rfl
theorem for_eq {fi : Ei} {g : Eg} {body : Es} {e : Env} {M M1 : Mem} {k : Ik} (h : fi e M = .ok k M1) : sFor fi g body e M = forL k g body k.items e M1 := by unfold sFor; rw [h]; rfl
theorem enm_lst {g : Ea} {e : Env} {M M1 : Mem} {xs : List Av} (h : g e M = .ok [.lst xs] M1) : iEnmA g e M = .ok (.enm (.lst xs) xs) M1 := by
  unfold iEnmA; rw [h]; simp only [Res.bind, asQ, stayA, eqAs_refl, if_true]
theorem seq_tup {f : Ev} {e : Env} {M M1 : Mem} {xs : List Av} (h : f e M = .ok (.tup xs) M1) : iSeq f e M = .ok (.seq (.tup xs) xs) M1 := by
  unfold iSeq; rw [h]; simp only [Res.bind, asQ, stayA, eqAs_refl, if_true]
theorem seq_lst {f : Ev} {e : Env} {M M1 : Mem} {xs : List Av} (h : f e M = .ok (.lst xs) M1) : iSeq f e M = .ok (.seq (.lst xs) xs) M1 := by
  unfold iSeq; rw [h]; simp only [Res.bind, asQ, stayA, eqAs_refl, if_true]
theorem seq_str {f : Ev} {e : Env} {M M1 : Mem} {z : Str} (h : f e M = .ok (.str z) M1) (hz : szOk z.length = true) : iSeq f e M = .ok (.chs z) M1 := by
  unfold iSeq; rw [h]; simp only [Res.bind, hz, if_true]
theorem run_rt {np N : Nat} {body : Es} {as : List Av} {M M1 : Mem} {v : Av} (hl : as.length = np) (h : body (as.map some ++ List.replicate (N - np) none) M = .rt v M1) : runF np N body as M = finF M v M1 := by
  unfold runF; rw [if_pos (by rw [hl]; exact Nat.beq_refl np), h]
theorem run_nx {np N : Nat} {body : Es} {as : List Av} {M M1 : Mem} {e : Env} (hl : as.length = np) (h : body (as.map some ++ List.replicate (N - np) none) M = .nx e M1) : runF np N body as M = finF M .non M1 := by
  unfold runF; rw [if_pos (by rw [hl]; exact Nat.beq_refl np), h]
theorem fin_same {M M1 : Mem} {v : Av} (h : M1.length = M.length) : finF M v M1 = .ok v M1 := by
  unfold finF; rw [if_pos (by rw [h]; exact Nat.beq_refl _)]
theorem fin_cut {M M1 X : Mem} {v : Av} (hl : M1.length = M.length) (hb : below M.length v = true) (hc : cutOk M (M1 ++ X) = true) : finF M v (M1 ++ X) = .ok v M1 := by
  unfold finF
  split
  · rename_i hz
    have hz := Nat.eq_of_beq_eq_true hz
    rw [List.length_append] at hz
    have : X = [] := List.eq_nil_of_length_eq_zero (by omega)
    rw [this, List.append_nil]
  · rw [hb, hc]
    simp only [Bool.and_self, if_true]
    rw [← hl, List.take_append_of_le_length (Nat.le_refl _), List.take_length]
theorem for_inv {k : Ik} {g : Eg} {body : Es} (J : Nat → Env → Mem → Prop) (R : Av → Mem → Prop) (hst : ∀ i e M, J i e M → k.stay M = true)
    (hstep : ∀ i x e M, k.items[i]? = some x → J i e M → ∃ e1, g x e M = some e1 ∧ ((∃ e2 M2, (body e1 M = .nx e2 M2 ∨ body e1 M = .ct e2 M2) ∧ J (i + 1) e2 M2) ∨ (∃ v M2, body e1 M = .rt v M2 ∧ R v M2))) :
    ∀ {i : Nat} {xs : List Av} {e : Env} {M : Mem}, k.items.drop i = xs → i ≤ k.items.length → J i e M → (∃ e2 M2, forL k g body xs e M = .nx e2 M2 ∧ J k.items.length e2 M2) ∨ (∃ v M2, forL k g body xs e M = .rt v M2 ∧ R v M2)
  | i, [], e, M, hd, hi, hJ => by
    have : k.items.length ≤ i := List.drop_eq_nil_iff.mp hd
    have e0 : i = k.items.length := by omega
    subst e0
    refine .inl ⟨e, M, ?_, hJ⟩
    unfold forL
    rw [if_pos (hst _ _ _ hJ)]
  | i, x :: xs, e, M, hd, hi, hJ => by
    have hx : k.items[i]? = some x := by
      have := congrArg (fun l => l[0]?) hd
      simpa using this
    have hd2 : k.items.drop (i + 1) = xs := by
      have := congrArg List.tail hd
      simpa [List.tail_drop] using this
    have hlt : i < k.items.length := (List.getElem?_eq_some_iff.mp hx).1
    obtain ⟨e1, h1, h2⟩ := hstep i x e M hx hJ
    unfold forL
    rw [if_pos (hst _ _ _ hJ), h1]
    rcases h2 with ⟨e2, M2, hb | hb, hJ2⟩ | ⟨v, M2, hb, hR⟩
    · simp only [hb]
      exact for_inv J R hst hstep hd2 hlt hJ2
    · simp only [hb]
      exact for_inv J R hst hstep hd2 hlt hJ2
    · simp only [hb]
      exact .inr ⟨v, M2, rfl, hR⟩
theorem for_go {k : Ik} {g : Eg} {body : Es} (J : Nat → Env → Mem → Prop) (hst : ∀ i e M, J i e M → k.stay M = true)
    (hstep : ∀ i x e M, k.items[i]? = some x → J i e M → ∃ e1, g x e M = some e1 ∧ ∃ e2 M2, (body e1 M = .nx e2 M2 ∨ body e1 M = .ct e2 M2) ∧ J (i + 1) e2 M2) {e : Env} {M : Mem} (h0 : J 0 e M) :
    ∃ e2 M2, forL k g body k.items e M = .nx e2 M2 ∧ J k.items.length e2 M2 := by
  rcases for_inv (k := k) (g := g) (body := body) J (fun _ _ => False) hst (fun i x e M hx hJ => by
    obtain ⟨e1, h1, h2⟩ := hstep i x e M hx hJ
    exact ⟨e1, h1, .inl h2⟩) (i := 0) (xs := k.items) (by rw [List.drop_zero]) (Nat.zero_le _) h0 with h | ⟨_, _, _, h⟩
  · exact h
  · exact h.elim
theorem lcL_inv {k : Ik} {g : Eg} {t : Et} {f : Ev} {e : Env} {d : Nat} (I : Nat → Mem → List Av → Prop) (hd : ∀ i M acc, I i M acc → M.length = d) (hst : ∀ i M acc, I i M acc → k.stay (M ++ [some (.lst acc)]) = true) (hn : k.items.length ≤ 100000) (hacc : ∀ i M acc, I i M acc → acc.length ≤ i)
    (hstep : ∀ i x M acc, k.items[i]? = some x → I i M acc → ∃ e1, g x e (M ++ [some (.lst acc)]) = some e1 ∧ ((∃ M2, t e1 (M ++ [some (.lst acc)]) = .ok false (M2 ++ [some (.lst acc)]) ∧ I (i + 1) M2 acc) ∨
      (∃ M2 y M3, t e1 (M ++ [some (.lst acc)]) = .ok true (M2 ++ [some (.lst acc)]) ∧ f e1 (M2 ++ [some (.lst acc)]) = .ok y (M3 ++ [some (.lst acc)]) ∧ I (i + 1) M3 (acc ++ [y])))) :
    ∀ {i : Nat} {xs : List Av} {M : Mem} {acc : List Av}, k.items.drop i = xs → i ≤ k.items.length → I i M acc → ∃ M2 acc2, lcL k g t f e d xs (M ++ [some (.lst acc)]) = .ok () (M2 ++ [some (.lst acc2)]) ∧ I k.items.length M2 acc2
  | i, [], M, acc, hdr, hi, hI => by
    have : k.items.length ≤ i := List.drop_eq_nil_iff.mp hdr
    have e0 : i = k.items.length := by omega
    subst e0
    refine ⟨M, acc, ?_, hI⟩
    unfold lcL
    rw [if_pos (hst _ _ _ hI)]
  | i, x :: xs, M, acc, hdr, hi, hI => by
    have hx : k.items[i]? = some x := by
      have := congrArg (fun l => l[0]?) hdr
      simpa using this
    have hd2 : k.items.drop (i + 1) = xs := by
      have := congrArg List.tail hdr
      simpa [List.tail_drop] using this
    have hlt : i < k.items.length := (List.getElem?_eq_some_iff.mp hx).1
    obtain ⟨e1, h1, h2⟩ := hstep i x M acc hx hI
    unfold lcL
    rw [if_pos (hst _ _ _ hI), h1]
    rcases h2 with ⟨M2, ht, hI2⟩ | ⟨M2, y, M3, ht, hf, hI2⟩
    · simp only [ht, Res.bind, Bool.false_eq_true, if_false]
      exact lcL_inv I hd hst hn hacc hstep hd2 hlt hI2
    · have l3 := hd _ _ _ hI2
      have e3 : stApp d y (M3 ++ [some (.lst acc)]) = some (M3 ++ [some (.lst (acc ++ [y]))]) := by
        unfold stApp
        have g1 : (M3 ++ [some (.lst acc)])[d]? = some (some (.lst acc)) := by rw [List.getElem?_append_right (by omega), l3]; simp
        have sz : szOk acc.length = true := Nat.ble_eq_true_of_le (by have := hacc _ _ _ hI; omega)
        rw [g1]
        simp only [sz, if_true]
        rw [List.set_append_right _ _ (by omega), l3]
        simp
      simp only [ht, Res.bind, if_true, hf, e3]
      exact lcL_inv I hd hst hn hacc hstep hd2 hlt hI2
theorem lc_inv {fi : Ei} {k : Ik} {g : Eg} {t : Et} {f : Ev} {vs : List Nat} {e : Env} {M0 M1 : Mem} (I : Nat → Mem → List Av → Prop) (h0 : fi e M0 = .ok k M1) (hI : I 0 M1 []) (hd : ∀ i M acc, I i M acc → M.length = M1.length) (hst : ∀ i M acc, I i M acc → k.stay (M ++ [some (.lst acc)]) = true) (hn : k.items.length ≤ 100000) (hacc : ∀ i M acc, I i M acc → acc.length ≤ i)
    (hstep : ∀ i x M acc, k.items[i]? = some x → I i M acc → ∃ e1, g x (wipeA e vs) (M ++ [some (.lst acc)]) = some e1 ∧ ((∃ M2, t e1 (M ++ [some (.lst acc)]) = .ok false (M2 ++ [some (.lst acc)]) ∧ I (i + 1) M2 acc) ∨
      (∃ M2 y M3, t e1 (M ++ [some (.lst acc)]) = .ok true (M2 ++ [some (.lst acc)]) ∧ f e1 (M2 ++ [some (.lst acc)]) = .ok y (M3 ++ [some (.lst acc)]) ∧ I (i + 1) M3 (acc ++ [y]))))
    (hcut : ∀ M acc, I k.items.length M acc → cutOk M1 (M ++ [some (.lst acc)]) = true ∧ belows M1.length acc = true) : ∃ M2 acc, eLc false fi g t f vs e M0 = .ok (.lst acc) M2 ∧ I k.items.length M2 acc := by
  obtain ⟨M2, acc, h1, hI2⟩ := lcL_inv (g := g) (t := t) (f := f) (e := wipeA e vs) I hd hst hn hacc hstep (i := 0) (xs := k.items) (by rw [List.drop_zero]) (Nat.zero_le _) hI
  have l2 := hd _ _ _ hI2
  obtain ⟨c1, c2⟩ := hcut M2 acc hI2
  refine ⟨M2, acc, ?_, hI2⟩
  have g1 : (M2 ++ [some (Mo.lst acc)])[M1.length]? = some (some (.lst acc)) := by rw [List.getElem?_append_right (by omega), l2]; simp
  unfold eLc
  rw [h0]
  simp only [Res.bind, h1, noX, lcFin, g1, c1, c2, Bool.false_eq_true, if_false, Bool.and_self, if_true]
  rw [List.take_append_of_le_length (by omega), List.take_of_length_le (by omega)]
theorem lc_pure {fi : Ei} {k : Ik} {g : Eg} {t : Et} {f : Ev} {vs : List Nat} {e : Env} {M0 M1 : Mem} (φ : Av → Option Av) (h0 : fi e M0 = .ok k M1) (hst : ∀ acc, k.stay (M1 ++ [some (.lst acc)]) = true) (hn : k.items.length ≤ 100000)
    (hstep : ∀ x acc, x ∈ k.items → ∃ e1, g x (wipeA e vs) (M1 ++ [some (.lst acc)]) = some e1 ∧ ((φ x = none ∧ t e1 (M1 ++ [some (.lst acc)]) = .ok false (M1 ++ [some (.lst acc)])) ∨
      (∃ y, φ x = some y ∧ t e1 (M1 ++ [some (.lst acc)]) = .ok true (M1 ++ [some (.lst acc)]) ∧ f e1 (M1 ++ [some (.lst acc)]) = .ok y (M1 ++ [some (.lst acc)]))))
    (hb : belows M1.length (k.items.filterMap φ) = true) : eLc false fi g t f vs e M0 = .ok (.lst (k.items.filterMap φ)) M1 := by
  obtain ⟨M2, acc, h1, rfl, rfl⟩ := lc_inv (k := k) (M1 := M1) (g := g) (t := t) (f := f) (vs := vs) (e := e) (fun i M acc => acc = (k.items.take i).filterMap φ ∧ M = M1) h0 ⟨by simp, rfl⟩ (fun i M acc h => by rw [h.2]) (fun i M acc h => by rw [h.2]; exact hst _) hn
    (fun i M acc h => by
      rw [h.1]
      refine Nat.le_trans (List.length_filterMap_le _ _) ?_
      simp
      omega)
    (fun i x M acc hx h => by
      obtain ⟨ha, rfl⟩ := h
      obtain ⟨e1, q1, q2⟩ := hstep x acc (List.mem_of_getElem? hx)
      have tk : k.items.take (i + 1) = k.items.take i ++ [x] := by
        rw [List.take_add_one, hx]; rfl
      refine ⟨e1, q1, ?_⟩
      rcases q2 with ⟨q2, q3⟩ | ⟨y, q2, q3, q4⟩
      · exact .inl ⟨_, q3, by rw [tk, List.filterMap_append, ha]; simp [q2], rfl⟩
      · exact .inr ⟨_, y, _, q3, q4, by rw [tk, List.filterMap_append, ha]; simp [q2], rfl⟩)
    (fun M acc h => by
      obtain ⟨ha, rfl⟩ := h
      refine ⟨cutL_refl _ _ _, ?_⟩
      rw [ha, List.take_length]
      exact hb)
  rw [h1, List.take_length]
theorem lc_map {fi : Ei} {k : Ik} {g : Eg} {f : Ev} {vs : List Nat} {e : Env} {M0 M1 : Mem} (φ : Av → Av) (h0 : fi e M0 = .ok k M1) (hst : ∀ acc, k.stay (M1 ++ [some (.lst acc)]) = true) (hn : k.items.length ≤ 100000)
    (hstep : ∀ x acc, x ∈ k.items → ∃ e1, g x (wipeA e vs) (M1 ++ [some (.lst acc)]) = some e1 ∧ f e1 (M1 ++ [some (.lst acc)]) = .ok (φ x) (M1 ++ [some (.lst acc)]))
    (hb : belows M1.length (k.items.map φ) = true) : eLc false fi g tYesA f vs e M0 = .ok (.lst (k.items.map φ)) M1 := by
  have h := lc_pure (t := tYesA) (f := f) (g := g) (vs := vs) (fun x => some (φ x)) h0 hst hn (fun x acc hx => by
    obtain ⟨e1, q1, q2⟩ := hstep x acc hx
    exact ⟨e1, q1, .inr ⟨_, rfl, rfl, q2⟩⟩) (by rw [List.filterMap_eq_map']; exact hb)
  rw [List.filterMap_eq_map'] at h
  exact h
theorem belows_map {α : Type} {n : Nat} {f : α → Av} (h : ∀ x, below n (f x) = true) : ∀ l : List α, belows n (l.map f) = true
  | [] => rfl
  | x :: l => by simp only [List.map_cons, belows, h x, belows_map h l, Bool.and_self]
end Pd
set_option maxHeartbeats 2000000
namespace Pd
open PySem PySem.Spec L2
structure PRow where
  mode : Str
  pick : Str
  move : Str
  thn : Str
  also : Bool
def PRow.av (r : PRow) : Av := .obj 0 ["mode", "pick", "move", "then", "also"] [.str r.mode, .str r.pick, .str r.move, .str r.thn, .bl r.also]
theorem fld_mode (r : PRow) (M : Mem) : fldA M "mode" r.av = some (.str r.mode) := by rfl
theorem fld_pick (r : PRow) (M : Mem) : fldA M "pick" r.av = some (.str r.pick) := by rfl
theorem fld_move (r : PRow) (M : Mem) : fldA M "move" r.av = some (.str r.move) := by rfl
theorem fld_then (r : PRow) (M : Mem) : fldA M "then" r.av = some (.str r.thn) := by rfl
theorem fld_also (r : PRow) (M : Mem) : fldA M "also" r.av = some (.bl r.also) := by rfl
def modesOf (first : Str) (rows : List PRow) : List Str := sortU ltS (first :: (rows.map (·.mode) ++ rows.map (·.thn)))
def ruleA (first : Str) (rows : List PRow) : Av := .obj 1 ["first", "rows", "modes"] [.str first, .tup (rows.map PRow.av), .tup ((modesOf first rows).map .str)]
theorem fld_first (f : Str) (rs : List PRow) (M : Mem) : fldA M "first" (ruleA f rs) = some (.str f) := by rfl
theorem fld_rows (f : Str) (rs : List PRow) (M : Mem) : fldA M "rows" (ruleA f rs) = some (.tup (rs.map PRow.av)) := by rfl
theorem fld_modes (f : Str) (rs : List PRow) (M : Mem) : fldA M "modes" (ruleA f rs) = some (.tup ((modesOf f rs).map .str)) := by rfl
theorem below_row (n : Nat) (r : PRow) : below n r.av = true := by rfl
theorem below_int (n : Nat) (i : Int) : below n (.int i) = true := by rfl
theorem below_str (n : Nat) (i : Str) : below n (.str i) = true := by rfl
theorem belows_ints (n : Nat) (l : List Int) : belows n (l.map .int) = true := belows_map (below_int n) l
theorem belows_strs (n : Nat) (l : List Str) : belows n (l.map .str) = true := belows_map (below_str n) l
theorem belows_rows (n : Nat) (l : List PRow) : belows n (l.map PRow.av) = true := belows_map (below_row n) l
def inR (lo hi a : Int) : Bool := decide (lo ≤ a) && decide (a < hi)
def granted (r : PRow) (ptr : Option Int) (n : Int) (asking : List Int) : Option Int := asking.find? (inR (region r.pick ptr n).1 (region r.pick ptr n).2)
end Pd
set_option maxHeartbeats 2000000
namespace Pd
open PySem PySem.Spec L2
theorem app_at (M : Mem) (x : Option Mo) : (M ++ [x])[M.length]? = some x := by simp
theorem app_set (M : Mem) (x y : Option Mo) : (M ++ [x]).set M.length y = M ++ [y] := by simp
theorem strs_map (l : List Str) : strsA (l.map .str) = some l := by
  induction l with
  | nil => rfl
  | cons a l ih => simp only [List.map_cons, strsA, ih, Option.map_some]
theorem bls_map (l : List Bool) : blsA (l.map .bl) = some l := by
  induction l with
  | nil => rfl
  | cons a l ih => simp only [List.map_cons, blsA, ih, Option.map_some]
structure RSt where
  done : Option Int
  grants : List Int
  mode : Str
  ptr : Option Int
end Pd
set_option maxHeartbeats 2000000
namespace Pd
open PySem PySem.Spec L2
theorem stay_asQ {M : Mem} {a : Av} {xs : List Av} (h : asQ M a = some xs) : stayA M a xs = true := by
  cases a <;> first
    | (simp [asQ] at h; done)
    | (simp only [asQ, Option.some.injEq] at h; subst h; exact eqAs_refl _)
    | skip
  rename_i n
  simp only [asQ] at h
  simp only [stayA, h]
  exact eqAs_refl _
theorem asQ_app {M X : Mem} {a : Av} {xs : List Av} (h : asQ M a = some xs) : asQ (M ++ X) a = some xs := by
  cases a <;> first
    | exact h
    | skip
  rename_i n
  simp only [asQ, asL] at h ⊢
  cases q : M[n]? with
  | none => rw [q] at h; cases h
  | some o =>
    rw [List.getElem?_append_left (List.getElem?_eq_some_iff.mp q).1]
    exact h
theorem seq_q {f : Ev} {e : Env} {M M1 : Mem} {a : Av} {xs : List Av} (h : f e M = .ok a M1) (hq : asQ M1 a = some xs) : iSeq f e M = .ok (.seq a xs) M1 := by
  have h2 := stay_asQ hq
  unfold iSeq
  rw [h]
  simp only [Res.bind]
  cases a <;> first
    | (cases hq; done)
    | (simp only [hq, h2, if_true]; done)
def SeqOk (f : Fn) : Prop := ∀ (a : Av) (xs : List Av) (M : Mem), asQ M a = some xs → f [a] M = .ok (.bl true) M
theorem is_sequence_ok {en : En} : SeqOk (runF 1 1 (s_f_is_sequence en)) := by
  intro a xs M h
  have hk : kdA M a = some (.bt .list) ∨ kdA M a = some (.bt .tuple) := by
    cases a <;> first
      | (cases h; done)
      | exact .inl rfl
      | exact .inr rfl
      | skip
    rename_i n
    simp only [asQ, asL] at h
    split at h
    · rename_i ys q
      exact .inl (by simp [kdA, q])
    · cases h
  have body : s_f_is_sequence en ([a].map some ++ List.replicate (1 - 1) none) M = .rt (.bl true) M := by
    rcases hk with hk | hk <;> simp [s_f_is_sequence, runF, sSeq, sIf, sSet, sAsg, sPar, sSetIx, sSetFld, stFld, putA, stIx, sRet, sPass, sDrop, sCont, sBreak, tCmpA, tAndA, tOrA, tNotA, tVal, truA, tBl, tYesA, eBin, eVar, eC, eCallB, aCons, aNil, aStar, eTup, eLst, eNewL, eIf, eAnd, eOr, eNot, eNeg, eChain, eFrz, frz, eFld, eSl, oNone, oSome, Res.bind, Res.thn, defl, opIs, isNonA, opCmp, gTp, gNms, gNm, finF, szOk, eIsiT, hk, isiAny, isiK, bsub]
  rw [run_rt (np := 1) rfl body]
  exact fin_same rfl
def RoundIn (n : Int) (xs : List Int) : Prop := (∀ x ∈ xs, 0 ≤ x ∧ x < n) ∧ xs.Nodup ∧ xs.length ≤ 1000
end Pd
set_option maxHeartbeats 2000000
namespace Pd
open PySem PySem.Spec L2
def roundA (xs : List Int) : Av := .tup (xs.map .int)
inductive All2 {α β : Type} (R : α → β → Prop) : List α → List β → Prop where
  | nil : All2 R [] []
  | cons {a : α} {b : β} {l : List α} {m : List β} : R a b → All2 R l m → All2 R (a :: l) (b :: m)
theorem All2.length {α β : Type} {R : α → β → Prop} {l : List α} {m : List β} (h : All2 R l m) : l.length = m.length := by
  induction h with
  | nil => rfl
  | cons _ _ ih => simp [ih]
theorem All2.get {α β : Type} {R : α → β → Prop} {l : List α} {m : List β} (h : All2 R l m) : ∀ {i : Nat} {a : α} {b : β}, l[i]? = some a → m[i]? = some b → R a b := by
  induction h with
  | nil => intro i a b h; simp at h
  | cons h _ ih =>
    intro i a b h1 h2
    cases i with
    | zero => simp at h1 h2; subst h1 h2; exact h
    | succ i => exact ih (by simpa using h1) (by simpa using h2)
def RoundsIn (M : Mem) (n : Int) (rs : List Av) (xss : List (List Int)) : Prop := All2 (fun r xs => asQ M r = some (xs.map .int) ∧ RoundIn n xs) rs xss
theorem RoundsIn.app {M X : Mem} {n : Int} {rs : List Av} {xss : List (List Int)} (h : RoundsIn M n rs xss) : RoundsIn (M ++ X) n rs xss := by
  induction h with
  | nil => exact .nil
  | cons h _ ih => exact .cons ⟨asQ_app h.1, h.2⟩ ih
theorem RoundsIn.length {M : Mem} {n : Int} {rs : List Av} {xss : List (List Int)} (h : RoundsIn M n rs xss) : rs.length = xss.length := All2.length h
structure PSt where
  grants : List (List Int)
  done : List (Option Int)
  modes : List Str
  mode : Str
  ptrs : List (Option Int)
  ptr : Option Int
  faults : List Str
def PSt.fs (s : PSt) (fa : List Av) : List (Str × Av) := [("grants", .tup (s.grants.map roundA)), ("done", .tup (s.done.map ptrA)), ("modes", .tup ((s.modes ++ [s.mode]).map .str)), ("pointers", .tup ((s.ptrs ++ [s.ptr]).map ptrA)), ("faults", .tup fa)]
end Pd
set_option maxHeartbeats 2000000
namespace Pd
open PySem PySem.Spec L2
theorem sortset_strs (l : List Str) (M : Mem) (hl : l.length ≤ 1000) : opSortSet [.lst (l.map .str)] M = .ok (.lst ((sortU ltS l).map .str)) M := by
  cases l with
  | nil => rfl
  | cons a l =>
    have h1 : intsA ((a :: l).map Av.str) = none := rfl
    simp only [opSortSet, asQ, h1, strs_map]
    rw [if_pos (show small1k _ = true from Nat.ble_eq_true_of_le (by simpa using hl))]
theorem lc_str {en : En} (h : EnOk en) {e : Env} {M : Mem} {a : Av} {xs : List Str} {i j : Nat} (ha : eVar i e M = .ok a M) (hq : asQ M a = some (xs.map .str)) (hl : xs.length ≤ 100000) (hj : j < e.length) : eLc false (iSeq (eVar i)) (gNm j) tYesA (eCallB en.str (aCons (eVar j) aNil)) [j] e M = .ok (.lst (xs.map .str)) M := by
  have h0 := seq_q ha hq
  have hm : (Ik.seq a (xs.map Av.str)).items = xs.map .str := rfl
  have := lc_map (g := gNm j) (f := eCallB en.str (aCons (eVar j) aNil)) (vs := [j]) (fun x => x) h0 (fun acc => stay_asQ (asQ_app hq)) (by rw [hm]; simpa using hl) (fun x acc hx => by
    rw [hm] at hx
    obtain ⟨b, _, rfl⟩ := List.mem_map.mp hx
    refine ⟨_, rfl, ?_⟩
    have v : eVar j ((wipeA e [j]).set j (some (.str b))) (M ++ [some (.lst acc)]) = .ok (.str b) (M ++ [some (.lst acc)]) := by
      unfold eVar
      rw [List.getElem?_set_self (by simp [wipeA, hj])]
    have s := h.str (.str b) (M ++ [some (.lst acc)]) rfl
    simp only [eCallB, aCons, aNil, v, Res.bind, s, opStr]) (by rw [hm, List.map_id']; exact belows_strs _ _)
  rw [this, hm, List.map_id']
end Pd
set_option maxHeartbeats 2000000
namespace Pd
open PySem PySem.Spec L2
def nameB (x : Str) : Prop := (0 < x.length ∧ x.length ≤ 4) ∧ x ≠ "also" ∧ ∀ c ∈ x.cps.toList, c ∈ ("abcdefghijklmnopqrstuvwxyz" : Str).cps.toList
def NameOk (f : Fn) : Prop := ∀ (x : Str) (M : Mem), nameB x → f [.str x] M = .ok (.bl true) M
theorem is_name_ok {en : En} (h : EnOk en) : NameOk (runF 1 2 (s_f_is_name en)) := by
  intro x M ⟨⟨hx1, hx2⟩, hx3, hx4⟩
  let E : Env := [some (.str x), none]
  have v0 : eVar 0 E M = .ok (.str x) M := rfl
  have isi : opIsi [.str x, .ty .str] M = .ok (.bl true) M := rfl
  have sz : szOk x.length = true := Nat.ble_eq_true_of_le (by omega)
  have len : en.len [.str x] M = .ok (.int x.length) M := by
    rw [h.len _ _ rfl]
    simp only [opLen, sz, if_true]
  have inn : en.inn (.str x) (.tup [.str "also"]) M = .ok (.bl false) M := by
    have := h.in_strs x ["also"] M
    rw [show decide (x ∈ [("also" : Str)]) = false by simp [hx3]] at this
    exact this
  have hlc : eLc false (iSeq (eVar 0)) (gNm 1) tYesA (eBin en.inn (eVar 1) (eC (.str "abcdefghijklmnopqrstuvwxyz"))) [1] E M = .ok (.lst ((x.cps.toList.map fun _ => true).map .bl)) M := by
    have h0 : iSeq (eVar 0) E M = .ok (.chs x) M := seq_str rfl sz
    have hm : (Ik.chs x).items = x.cps.toList.map fun c => .str ⟨#[c]⟩ := rfl
    have := lc_map (g := gNm 1) (f := eBin en.inn (eVar 1) (eC (.str "abcdefghijklmnopqrstuvwxyz"))) (vs := [1]) (fun x => .bl true) h0 (fun acc => rfl) (by rw [hm]; simp only [List.length_map, Array.length_toList]; have : x.cps.size = x.length := rfl; omega) (fun y acc hy => by
      rw [hm] at hy
      obtain ⟨c, hc, rfl⟩ := List.mem_map.mp hy
      refine ⟨_, rfl, ?_⟩
      have e1 : eVar 1 ((wipeA E [1]).set 1 (some (.str ⟨#[c]⟩))) (M ++ [some (.lst acc)]) = .ok (.str ⟨#[c]⟩) (M ++ [some (.lst acc)]) := rfl
      have e2 : one? (⟨#[c]⟩ : Str) = some c := rfl
      simp only [eBin, eC, e1, Res.bind]
      rw [h.inn _ _ _ (by simp)]
      simp only [opIn, e2]
      rw [decide_eq_true (hx4 c hc)]
      rfl) (belows_map (fun _ => rfl) _)
    rw [this, hm]
    simp
  have ha : opAll [.lst ((x.cps.toList.map fun _ => true).map .bl)] M = .ok (.bl true) M := by
    simp only [opAll, asR, bls_map]
    congr 2
    simp
  have body : s_f_is_name en ([.str x].map some ++ List.replicate (2 - 1) none) M = .rt (.bl true) M := by
    show s_f_is_name en E M = _
    unfold s_f_is_name
    refine (seq_nx (e1 := E) (M1 := M) ((if_f (M1 := M) ?_).trans rfl)).trans ?_
    · have c1 : (0 : Int) < x.length := by omega
      have c2 : (x.length : Int) ≤ 4 := by omega
      simp [tOrA, tNotA, tVal, tBl, tCmpA, eChain, eCallB, aCons, aNil, eC, v0, Res.bind, isi, len, opCmp, inn, truA, c1, c2, hx1, hx2, eBin]
    · refine ret_ok' ?_
      simp only [eFrz, eCallB, aCons, aNil, hlc, Res.bind, ha, frz]
  rw [run_rt (np := 1) rfl body]
  exact fin_same rfl
def PICKS : List Str := ["keep", "at", "past", "under", "all"]
def MOVES : List Str := ["stay", "on", "home"]
def PRow.good (r : PRow) : Prop := nameB r.mode ∧ r.pick ∈ PICKS ∧ r.move ∈ MOVES ∧ nameB r.thn
theorem set_last (M : Mem) (k : Nat) (fs : List (Str × Av)) (n : Str) (v : Av) (hl : Nat.blt fs.length 900 = true) : stFld n v (.ref M.length) (M ++ [some (.ins k fs)]) = some (M ++ [some (.ins k (putA n v fs))]) := by
  simp only [stFld, app_at, hl, if_true, app_set]
theorem sf_last {e : Env} {M : Mem} {k : Nat} {fs : List (Str × Av)} {fo fv : Ev} {n : Str} {v : Av} (hl : Nat.blt fs.length 900 = true) (hv : fv e (M ++ [some (.ins k fs)]) = .ok v (M ++ [some (.ins k fs)])) (ho : fo e (M ++ [some (.ins k fs)]) = .ok (.ref M.length) (M ++ [some (.ins k fs)])) : sSetFld fo fv n e (M ++ [some (.ins k fs)]) = .nx e (M ++ [some (.ins k (putA n v fs))]) := by
  simp only [sSetFld, hv, Res.thn, ho, set_last M k fs n v hl]
theorem if_no {t : Et} {f : Es} {e : Env} {M M1 : Mem} (h : t e M = .ok false M1) : sIf t f sPass e M = .nx e M1 := (if_f h).trans rfl
theorem newF_of {k : Nat} {f : Fn} {as : List Av} {M : Mem} {fs : List (Str × Av)} (h : f (.ref M.length :: as) (M ++ [some (.ins k [])]) = .ok .non (M ++ [some (.ins k fs)])) (hb : belows M.length (fs.map (·.2)) = true) : newF k f as M = .ok (.obj k (fs.map (·.1)) (fs.map (·.2))) M := by
  have h1 : newO k f as M = .ok (.ref M.length) (M ++ [some (.ins k fs)]) := by
    simp only [newO, h, Res.bind]
    rw [if_pos (by rw [List.length_append]; exact Nat.ble_eq_true_of_le (Nat.le_refl _))]
  have hc : cutOk M (M ++ [some (.ins k fs)]) = true := cutL_refl _ _ _
  simp only [newF, h1, Res.bind, app_at, hc, hb, Bool.and_self, if_true]
  congr 1
  rw [List.take_append_of_le_length (Nat.le_refl _), List.take_length]
def RuleOk (f : Fn) : Prop := ∀ (first : Str) (b : Av) (rows : List PRow) (M : Mem), nameB first → asQ M b = some (rows.map PRow.av) → rows.length ≤ 400 → newF 1 f [.str first, b] M = .ok (ruleA first rows) M
theorem tuple_q {M : Mem} {a : Av} {xs : List Av} (h : asQ M a = some xs) : opTuple [a] M = .ok (.tup xs) M := by
  cases a <;> first
    | (cases h; done)
    | (cases h; rfl)
    | skip
  rename_i n
  simp only [asQ] at h
  simp only [opTuple, asR, h]
theorem lc_rows {k : Nat} {f : Av → Av} {g : PRow → Av} {ev : Ev} {e : Env} {M : Mem} {i j : Nat} {b : Av} {rows : List PRow} (hv : eVar i e M = .ok b M) (hq : asQ M b = some (rows.map PRow.av)) (hl : rows.length ≤ 400) (hb : ∀ r, below M.length (g r) = true)
    (he : ∀ (r : PRow) acc, r ∈ rows → ev ((wipeA e [j]).set j (some r.av)) (M ++ [some (.lst acc)]) = .ok (g r) (M ++ [some (.lst acc)])) : eLc false (iSeq (eVar i)) (gNm j) tYesA ev [j] e M = .ok (.lst (rows.map g)) M := by
  have h0 := seq_q hv hq
  have hm : (Ik.seq b (rows.map PRow.av)).items = rows.map PRow.av := rfl
  obtain ⟨M2, acc, h1, ⟨rfl, h2⟩⟩ := lc_inv (k := .seq b (rows.map PRow.av)) (M1 := M) (g := gNm j) (t := tYesA) (f := ev) (vs := [j]) (e := e) (fun i M' acc => M' = M ∧ acc = (rows.take i).map g) h0 ⟨rfl, by simp⟩ (fun i M acc h => by rw [h.1]) (fun i M' acc h => by rw [h.1]; exact stay_asQ (asQ_app hq)) (by rw [hm]; simp; omega)
    (fun i M' acc h => by rw [h.2]; simp; omega)
    (fun i x M' acc hx h => by
      obtain ⟨rfl, hacc⟩ := h
      have hx : (rows.map PRow.av)[i]? = some x := hx
      rw [List.getElem?_map] at hx
      cases q : rows[i]? with
      | none => rw [q] at hx; cases hx
      | some r =>
        rw [q] at hx
        cases hx
        refine ⟨_, rfl, .inr ⟨M', g r, M', rfl, he r acc (List.mem_of_getElem? q), rfl, ?_⟩⟩
        rw [hacc, List.take_add_one, q, List.map_append]
        rfl)
    (fun M' acc h => by
      obtain ⟨rfl, hacc⟩ := h
      refine ⟨cutL_refl _ _ _, ?_⟩
      rw [hacc]
      exact belows_map hb _)
  rw [h1, h2, hm, List.length_map, List.take_length]
theorem var_set {e : Env} {j : Nat} {v : Av} {M : Mem} (hj : j < e.length) : eVar j (e.set j (some v)) M = .ok v M := by
  unfold eVar
  rw [List.getElem?_set_self hj]
theorem rule_init_ok {en : En} {sq nm : Fn} (h : EnOk en) (hs : SeqOk sq) (hn : NameOk nm) : RuleOk (runF 3 6 (s_m_Rule_init en sq nm)) := by
  intro first b rows M g1 hb hl
  refine newF_of (fs := [("first", .str first), ("rows", .tup (rows.map PRow.av)), ("modes", .tup ((modesOf first rows).map .str))]) ?_ (by
    simp only [List.map_cons, List.map_nil, belows, below, belows_rows, belows_strs, Bool.and_self])
  let ms : List Str := first :: (rows.map (·.mode) ++ rows.map (·.thn))
  let E : Option Av → Env := fun x3 => [some (.ref M.length), some (.str first), some b, x3, none, none]
  let N : List (Str × Av) → Mem := fun fs => M ++ [some (.ins 1 fs)]
  have v1 : ∀ x3 fs, eVar 1 (E x3) (N fs) = .ok (.str first) (N fs) := fun _ _ => rfl
  have v2 : ∀ x3 fs, eVar 2 (E x3) (N fs) = .ok b (N fs) := fun _ _ => rfl
  have hq : ∀ fs, asQ (N fs) b = some (rows.map PRow.av) := fun fs => asQ_app hb
  have n1 := fun fs => hn first (N fs) g1
  have s1 := fun fs => hs b _ (N fs) (hq fs)
  have l1 : eLc false (iSeq (eVar 2)) (gNm 4) tYesA (eCallB opIsi (aCons (eVar 4) (aCons (eC (.cls 0)) aNil))) [4] (E none) (N []) = .ok (.lst (rows.map fun _ => .bl true)) (N []) := by
    refine lc_rows (k := 0) (f := id) (rfl) (hq []) hl (fun _ => rfl) (fun r acc hr => ?_)
    rfl
  have a1 : opAll [.lst (rows.map fun _ => .bl true)] (N []) = .ok (.bl true) (N []) := by
    have : (rows.map fun _ => Av.bl true) = (rows.map fun _ => true).map .bl := by simp
    rw [this]
    simp only [opAll, asR, bls_map]
    congr 2
    simp
  have l2 : ∀ fs, eLc false (iSeq (eVar 2)) (gNm 4) tYesA (eFld (eVar 4) "mode") [4] (E none) (N fs) = .ok (.lst (rows.map fun r => .str r.mode)) (N fs) := by
    intro fs
    refine lc_rows (k := 0) (f := id) rfl (hq fs) hl (fun _ => rfl) (fun r acc hr => ?_)
    simp only [eFld, var_set (show 4 < (wipeA (E none) [4]).length from Nat.le_of_ble_eq_true rfl), Res.bind, fld_mode]
  have l3 : ∀ fs, eLc false (iSeq (eVar 2)) (gNm 4) tYesA (eFld (eVar 4) "then") [4] (E none) (N fs) = .ok (.lst (rows.map fun r => .str r.thn)) (N fs) := by
    intro fs
    refine lc_rows (k := 0) (f := id) rfl (hq fs) hl (fun _ => rfl) (fun r acc hr => ?_)
    simp only [eFld, var_set (show 4 < (wipeA (E none) [4]).length from Nat.le_of_ble_eq_true rfl), Res.bind, fld_then]
  have l4 : ∀ fs, eLc false (iSeq (eVar 3)) (gNm 5) tYesA (eCallB en.str (aCons (eVar 5) aNil)) [5] (E (some (.lst (ms.map .str)))) (N fs) = .ok (.lst (ms.map .str)) (N fs) := by
    intro fs
    exact lc_str h (a := .lst (ms.map .str)) rfl rfl (by simp [ms]; omega) (Nat.le_of_ble_eq_true rfl)
  have body : s_m_Rule_init en sq nm ([.ref M.length, .str first, b].map some ++ List.replicate (6 - 3) none) (N []) = .nx (E (some (.lst (ms.map .str)))) (N [("first", .str first), ("rows", .tup (rows.map PRow.av)), ("modes", .tup ((modesOf first rows).map .str))]) := by
    show s_m_Rule_init en sq nm (E none) (N []) = _
    unfold s_m_Rule_init
    refine (seq_nx (if_no (M1 := N []) ?_)).trans ?_
    · simp only [tNotA, tVal, eCallB, defl, aCons, aNil, v1, Res.bind, List.append_nil, n1, truA]; rfl
    refine (seq_nx (if_no (M1 := N []) ?_)).trans ?_
    · simp only [tOrA, tNotA, tVal, eCallB, defl, aCons, aNil, v2, Res.bind, List.append_nil, s1, l1, a1, truA]; rfl
    refine (seq_nx (sf_last (v := .str first) rfl rfl rfl)).trans ?_
    refine (seq_nx (sf_last (v := .tup (rows.map PRow.av)) rfl ?_ rfl)).trans ?_
    · have := tuple_q (hq [("first", .str first)])
      show eCallB opTuple (aCons (eVar 2) aNil) (E none) (N [("first", .str first)]) = .ok _ (N [("first", .str first)])
      simp only [eCallB, aCons, aNil, v2, Res.bind, this]
    let fs2 : List (Str × Av) := [("first", .str first), ("rows", .tup (rows.map PRow.av))]
    show sSeq _ _ (E none) (N fs2) = _
    refine (seq_nx (e1 := E (some (.lst (ms.map .str)))) (M1 := N fs2) ?_).trans ?_
    · refine (set_ok' (v := .lst (ms.map .str)) (M1 := N fs2) ?_).trans rfl
      have q1 : ∀ l : List Av, asQ (N fs2) (.lst l) = some l := fun _ => rfl
      have sz : szOk (Av.str first :: ((rows.map fun r => Av.str r.mode) ++ ((rows.map fun r => Av.str r.thn) ++ []))).length = true := Nat.ble_eq_true_of_le (by simp; omega)
      simp only [eLst, aCons, aStar, aNil, v1, l2, l3, Res.bind, q1, sz, if_true]
      simp [ms, Function.comp_def]
    · have ss := sortset_strs ms (N fs2) (by simp [ms]; omega)
      have ot : opTuple [.lst ((sortU ltS ms).map .str)] (N fs2) = .ok (.tup ((sortU ltS ms).map .str)) (N fs2) := rfl
      refine (sf_last (v := .tup ((modesOf first rows).map .str)) rfl ?_ rfl).trans ?_
      · show eCallB opTuple _ (E (some (.lst (ms.map .str)))) (N fs2) = .ok _ (N fs2)
        simp only [eCallB, aCons, aNil, l4, Res.bind, ss, ot]
        rfl
      · rfl
  rw [run_nx (np := 3) rfl body]
  exact fin_same (by simp [N])
end Pd
set_option maxHeartbeats 2000000
namespace Pd
open PySem PySem.Spec L2
open TL (tl len_tl tl_append tl_join joinL join_eq split_join ext_tl)
theorem szOk_of {n : Nat} (h : n ≤ 100000) : szOk n = true := Nat.ble_eq_true_of_le h
def PRow.tp (r : PRow) : Av := .tup [.str r.mode, .str r.pick, .str r.move, .str r.thn, .bl r.also]
def lawA (first : Str) (rows : List PRow) : Av := .tup [.str first, .tup (rows.map PRow.tp)]
def rowWords (r : PRow) : List Str := [r.mode, r.pick, r.move, r.thn] ++ (if r.also then [("also" : Str)] else [])
def rowText (r : PRow) : Str := Txt.join " " [r.mode, r.pick, r.move, r.thn] ++ (if r.also then (" also" : Str) else ("" : Str))
def ruleText (first : Str) (rows : List PRow) : Str := Txt.join "\n" ((("first " : Str) ++ first) :: rows.map rowText)
theorem tl_sp : tl (" " : Str) = [32] := rfl
theorem tl_also : tl ("also" : Str) = [97, 108, 115, 111] := rfl
theorem tl_also2 : tl (" also" : Str) = [32, 97, 108, 115, 111] := rfl
theorem tl_first : tl ("first" : Str) = [102, 105, 114, 115, 116] := rfl
theorem tl_first2 : tl ("first " : Str) = [102, 105, 114, 115, 116, 32] := rfl
theorem tl_empty : tl ("" : Str) = [] := rfl
theorem tl_letters : tl ("abcdefghijklmnopqrstuvwxyz" : Str) = [97, 98, 99, 100, 101, 102, 103, 104, 105, 106, 107, 108, 109, 110, 111, 112, 113, 114, 115, 116, 117, 118, 119, 120, 121, 122] := rfl
theorem rowText_eq (r : PRow) : rowText r = Txt.join " " (rowWords r) := by
  refine ext_tl ?_
  unfold rowText rowWords
  rw [tl_append, join_eq, join_eq, tl_join, tl_join]
  cases r.also <;> simp [joinL, tl_sp, tl_also, tl_also2, tl_empty]
theorem firstText_eq (f : Str) : ("first " : Str) ++ f = Txt.join " " [("first" : Str), f] := by
  refine ext_tl ?_
  rw [tl_append, join_eq, tl_join]
  simp [joinL, tl_sp, tl_first, tl_first2]
theorem name_no {x : Str} (h : nameB x) {c : Nat} (hc : c < 97) : c ∉ tl x := by
  intro z
  have := h.2.2 c z
  have e : ("abcdefghijklmnopqrstuvwxyz" : Str).cps.toList = tl ("abcdefghijklmnopqrstuvwxyz" : Str) := rfl
  rw [e, tl_letters] at this
  simp at this
  omega
theorem pick_no {x : Str} (h : x ∈ PICKS) {c : Nat} (hc : c < 97) : c ∉ tl x ∧ x.length ≤ 5 := by
  have k : ∀ p ∈ PICKS, (tl p).all (fun d => decide (97 ≤ d)) = true ∧ p.length ≤ 5 := by
    intro p hp
    simp only [PICKS, List.mem_cons, List.not_mem_nil, or_false] at hp
    rcases hp with rfl | rfl | rfl | rfl | rfl <;> exact ⟨rfl, Nat.le_of_ble_eq_true rfl⟩
  obtain ⟨k1, k2⟩ := k x h
  refine ⟨fun z => ?_, k2⟩
  have := List.all_eq_true.mp k1 c z
  simp at this
  omega
theorem move_no {x : Str} (h : x ∈ MOVES) {c : Nat} (hc : c < 97) : c ∉ tl x ∧ x.length ≤ 5 := by
  have k : ∀ p ∈ MOVES, (tl p).all (fun d => decide (97 ≤ d)) = true ∧ p.length ≤ 5 := by
    intro p hp
    simp only [MOVES, List.mem_cons, List.not_mem_nil, or_false] at hp
    rcases hp with rfl | rfl | rfl <;> exact ⟨rfl, Nat.le_of_ble_eq_true rfl⟩
  obtain ⟨k1, k2⟩ := k x h
  refine ⟨fun z => ?_, k2⟩
  have := List.all_eq_true.mp k1 c z
  simp at this
  omega
theorem split_row {r : PRow} (h : r.good) : Txt.split (rowText r) " " = rowWords r := by
  rw [rowText_eq]
  refine split_join (s := 32) (S := []) rfl (by rw [← Array.all_toList]; rfl) (by simp [rowWords]) (fun p hp => ?_)
  simp only [rowWords, List.mem_append, List.mem_cons, List.not_mem_nil, or_false] at hp
  obtain ⟨g1, g2, g3, g4⟩ := h
  rcases hp with (rfl | rfl | rfl | rfl) | hp
  · exact name_no g1 (by decide)
  · exact (pick_no g2 (by decide)).1
  · exact (move_no g3 (by decide)).1
  · exact name_no g4 (by decide)
  · split at hp
    · simp only [List.mem_cons, List.not_mem_nil, or_false] at hp
      rw [hp, tl_also]
      decide
    · cases hp
theorem split_first {f : Str} (h : nameB f) : Txt.split (("first " : Str) ++ f) " " = [("first" : Str), f] := by
  rw [firstText_eq]
  refine split_join (s := 32) (S := []) rfl (by rw [← Array.all_toList]; rfl) (by simp) (fun p hp => ?_)
  simp only [List.mem_cons, List.not_mem_nil, or_false] at hp
  rcases hp with rfl | rfl
  · rw [tl_first]; decide
  · exact name_no h (by decide)
theorem row_len {r : PRow} (h : r.good) : (rowText r).length ≤ 30 ∧ 10 ∉ tl (rowText r) := by
  obtain ⟨g1, g2, g3, g4⟩ := h
  have h1 := g1.1.2
  have h2 := (pick_no g2 (c := 10) (by decide))
  have h3 := (move_no g3 (c := 10) (by decide))
  have h4 := g4.1.2
  have n1 := name_no g1 (c := 10) (by decide)
  have n4 := name_no g4 (c := 10) (by decide)
  have e : tl (rowText r) = tl r.mode ++ ([32] ++ (tl r.pick ++ ([32] ++ (tl r.move ++ ([32] ++ tl r.thn))))) ++ (if r.also then [32, 97, 108, 115, 111] else []) := by
    unfold rowText
    rw [tl_append, join_eq, tl_join]
    cases r.also <;> simp [joinL, tl_sp, tl_also2, tl_empty]
  rw [len_tl] at h1 h4 ⊢
  have h2' := h2.2
  have h3' := h3.2
  rw [len_tl] at h2' h3'
  rw [e]
  constructor
  · simp only [List.length_append]
    have : (if r.also = true then [32, 97, 108, 115, 111] else ([] : List Nat)).length ≤ 5 := by split <;> simp
    simp only [List.length_cons, List.length_nil]
    omega
  · simp only [List.mem_append, not_or]
    refine ⟨⟨n1, by decide, h2.1, by decide, h3.1, by decide, n4⟩, ?_⟩
    split <;> decide
theorem first_len {f : Str} (h : nameB f) : (("first " : Str) ++ f).length ≤ 10 ∧ 10 ∉ tl (("first " : Str) ++ f) := by
  have h1 := h.1.2
  have n1 := name_no h (c := 10) (by decide)
  rw [len_tl] at h1 ⊢
  rw [tl_append, tl_first2]
  constructor
  · simp only [List.length_append, List.length_cons, List.length_nil]; omega
  · simp only [List.mem_append, not_or]
    exact ⟨by decide, n1⟩
theorem split_rule {f : Str} {rows : List PRow} (h : nameB f) (hr : ∀ r ∈ rows, r.good) : Txt.split (ruleText f rows) "\n" = (("first " : Str) ++ f) :: rows.map rowText := by
  refine split_join (s := 10) (S := []) rfl (by rw [← Array.all_toList]; rfl) (by simp) (fun p hp => ?_)
  rcases List.mem_cons.mp hp with rfl | hp
  · exact (first_len h).2
  · obtain ⟨r, hr1, rfl⟩ := List.mem_map.mp hp
    exact (row_len (hr r hr1)).2
theorem join_len (y : Str) : ∀ parts : List Str, (Txt.join y parts).length ≤ (parts.map (·.length)).sum + parts.length * y.length := by
  intro parts
  rw [join_eq, len_tl, tl_join]
  induction parts with
  | nil => simp [joinL]
  | cons x r ih =>
    cases r with
    | nil => simp [joinL, len_tl]
    | cons z r =>
      simp only [List.map_cons, joinL, List.length_append] at ih ⊢
      simp only [List.length_cons, List.sum_cons] at ih ⊢
      have e1 := len_tl x
      have e2 := len_tl y
      have : (r.length + 1 + 1) * y.length = (r.length + 1) * y.length + y.length := Nat.succ_mul _ _
      omega
theorem sum_rows {rows : List PRow} (hr : ∀ r ∈ rows, r.good) : ((rows.map rowText).map (·.length)).sum ≤ 30 * rows.length := by
  induction rows with
  | nil => simp
  | cons r rs ih =>
    have := (row_len (hr r (by simp))).1
    have := ih (fun x hx => hr x (by simp [hx]))
    simp only [List.map_cons, List.sum_cons, List.length_cons]
    omega
def RowTextOk (f : Fn) : Prop := ∀ (r : PRow) (M : Mem), r.good → f [r.tp] M = .ok (.str (rowText r)) M
theorem len4 {r : PRow} (h : r.good) : szOk (([r.mode, r.pick, r.move, r.thn].map (·.length)).sum + [r.mode, r.pick, r.move, r.thn].length * (" " : Str).length) = true ∧ szOk ((Txt.join " " [r.mode, r.pick, r.move, r.thn]).length + 5) = true := by
  obtain ⟨g1, g2, g3, g4⟩ := h
  have h1 := g1.1.2
  have h2 := (pick_no g2 (c := 10) (by decide)).2
  have h3 := (move_no g3 (c := 10) (by decide)).2
  have h4 := g4.1.2
  have e : (" " : Str).length = 1 := rfl
  have s : ([r.mode, r.pick, r.move, r.thn].map (·.length)).sum + [r.mode, r.pick, r.move, r.thn].length * (" " : Str).length ≤ 30 := by
    simp only [List.map_cons, List.map_nil, List.sum_cons, List.sum_nil, List.length_cons, List.length_nil, e]
    omega
  have j := join_len " " [r.mode, r.pick, r.move, r.thn]
  exact ⟨Nat.ble_eq_true_of_le (by omega), Nat.ble_eq_true_of_le (by omega)⟩
theorem row_text_ok {en : En} (h : EnOk en) : RowTextOk (runF 1 1 (s_f_law_row_text en)) := by
  intro r M hg
  obtain ⟨z1, z2⟩ := len4 hg
  have v0 : eVar 0 [some r.tp] M = .ok r.tp M := rfl
  have hsl : opSl r.tp none (some 4) M = .ok (.tup ([r.mode, r.pick, r.move, r.thn].map .str)) M := rfl
  have hj : opJoin (.str " ") [.tup ([r.mode, r.pick, r.move, r.thn].map .str)] M = .ok (.str (Txt.join " " [r.mode, r.pick, r.move, r.thn])) M := by
    simp only [opJoin, asQ, strs_map, z1, if_true]
  have hix : en.ix r.tp (.int 4) M = .ok (.bl r.also) M := h.ix _ _ _ rfl
  have hadd : ∀ y : Str, y.length ≤ 5 → en.add (.str (Txt.join " " [r.mode, r.pick, r.move, r.thn])) (.str y) M = .ok (.str (Txt.join " " [r.mode, r.pick, r.move, r.thn] ++ y)) M := by
    intro y hy
    rw [h.add _ _ _ rfl]
    simp only [opAdd]
    have z3 := Nat.le_of_ble_eq_true z2
    rw [if_pos (szOk_of (by omega))]
  have body : s_f_law_row_text en ([r.tp].map some ++ List.replicate (1 - 1) none) M = .rt (.str (rowText r)) M := by
    refine ret_ok' ?_
    show eFrz _ [some r.tp] M = _
    have isT : isTA false M (.str " ") = true := rfl
    have o4 : oSome (eC (.int 4)) [some r.tp] M = .ok (some 4) M := rfl
    have oN : oNone [some r.tp] M = .ok none M := rfl
    unfold rowText
    cases q : r.also with
    | true =>
      rw [q] at hix
      have a1 := hadd " also" (Nat.le_of_ble_eq_true rfl)
      simp only [eFrz, eBin, eBM, eC, aCons, aNil, eSl, oN, o4, v0, Res.bind, hsl, isT, if_true, hj, eIf, tVal, hix, truA, a1, frz]
    | false =>
      rw [q] at hix
      have a1 := hadd "" (Nat.le_of_ble_eq_true rfl)
      simp only [eFrz, eBin, eBM, eC, aCons, aNil, eSl, oN, o4, v0, Res.bind, hsl, isT, if_true, hj, eIf, tVal, hix, truA, a1, frz, Bool.false_eq_true, if_false]
  rw [run_rt (np := 1) rfl body]
  exact fin_same rfl
def RuleTextOk (f : Fn) : Prop := ∀ (first : Str) (rows : List PRow) (M : Mem), nameB first → (∀ r ∈ rows, r.good) → rows.length ≤ 400 → f [lawA first rows] M = .ok (.str (ruleText first rows)) M
theorem rule_text_ok {en : En} {rt : Fn} (h : EnOk en) (hr : RowTextOk rt) : RuleTextOk (runF 1 2 (s_f_law_rule_text en rt)) := by
  intro first rows M hf hg hl
  let E : Env := [some (lawA first rows), none]
  have v0 : eVar 0 E M = .ok (lawA first rows) M := rfl
  have i0 : en.ix (lawA first rows) (.int 0) M = .ok (.str first) M := h.ix _ _ _ rfl
  have i1 : en.ix (lawA first rows) (.int 1) M = .ok (.tup (rows.map PRow.tp)) M := h.ix _ _ _ rfl
  obtain ⟨f1, f2⟩ := first_len hf
  have a1 : en.add (.str "first ") (.str first) M = .ok (.str (("first " : Str) ++ first)) M := by
    rw [h.add _ _ _ rfl]
    simp only [opAdd]
    have l1 : (("first " : Str) ++ first).length = ("first " : Str).length + first.length := by
      rw [len_tl, tl_append, List.length_append, ← len_tl, ← len_tl]
    rw [if_pos (szOk_of (by omega))]
  have hlc : eLc false (iSeq (eBin en.ix (eVar 0) (eC (.int 1)))) (gNm 1) tYesA (eCallB (defl rt []) (aCons (eVar 1) aNil)) [1] E M = .ok (.lst ((rows.map rowText).map .str)) M := by
    have h0 : iSeq (eBin en.ix (eVar 0) (eC (.int 1))) E M = .ok (.seq (.tup (rows.map PRow.tp)) (rows.map PRow.tp)) M := seq_tup (by simp only [eBin, eC, v0, Res.bind, i1])
    obtain ⟨M2, acc, h1, ⟨rfl, h2⟩⟩ := lc_inv (M1 := M) (g := gNm 1) (t := tYesA) (f := eCallB (defl rt []) (aCons (eVar 1) aNil)) (vs := [1]) (e := E) (fun i M' acc => M' = M ∧ acc = ((rows.take i).map rowText).map .str) h0 ⟨rfl, by simp⟩ (fun i M acc h => by rw [h.1]) (fun i M' acc h => stay_seq _ _) (by show (rows.map PRow.tp).length ≤ _; simp; omega)
      (fun i M' acc h => by rw [h.2]; simp; omega)
      (fun i x M' acc hx h => by
        obtain ⟨rfl, hacc⟩ := h
        have hx : (rows.map PRow.tp)[i]? = some x := hx
        rw [List.getElem?_map] at hx
        cases q : rows[i]? with
        | none => rw [q] at hx; cases hx
        | some r =>
          rw [q] at hx
          cases hx
          refine ⟨_, rfl, .inr ⟨M', .str (rowText r), M', rfl, ?_, rfl, ?_⟩⟩
          · have := hr r (M' ++ [some (.lst acc)]) (hg r (List.mem_of_getElem? q))
            have v1 : eVar 1 ((wipeA E [1]).set 1 (some r.tp)) (M' ++ [some (.lst acc)]) = .ok r.tp (M' ++ [some (.lst acc)]) := rfl
            simp only [eCallB, defl, aCons, aNil, v1, Res.bind, List.append_nil, this]
          · rw [hacc, List.take_add_one, q, List.map_append, List.map_append]
            rfl)
      (fun M' acc h => by
        obtain ⟨rfl, hacc⟩ := h
        refine ⟨cutL_refl _ _ _, ?_⟩
        rw [hacc]
        exact belows_strs _ _)
    rw [h1, h2]
    have : (Ik.seq (.tup (rows.map PRow.tp)) (rows.map PRow.tp)).items.length = rows.length := by show (rows.map PRow.tp).length = _; simp
    rw [this, List.take_length]
  have a2 : en.add (.lst [.str (("first " : Str) ++ first)]) (.lst ((rows.map rowText).map .str)) M = .ok (.lst (((("first " : Str) ++ first) :: rows.map rowText).map .str)) M := by
    rw [h.add _ _ _ rfl]
    simp only [opAdd, asL]
    rw [if_pos (szOk_of (by simp; omega))]
    simp
  have hj : opJoin (.str "\n") [.lst (((("first " : Str) ++ first) :: rows.map rowText).map .str)] M = .ok (.str (ruleText first rows)) M := by
    have := sum_rows hg
    have e : ("\n" : Str).length = 1 := rfl
    simp only [opJoin, asQ, strs_map]
    rw [if_pos (szOk_of (by rw [e]; simp only [List.map_cons, List.sum_cons, List.length_cons, List.length_map]; omega))]
    rfl
  have body : s_f_law_rule_text en rt ([lawA first rows].map some ++ List.replicate (2 - 1) none) M = .rt (.str (ruleText first rows)) M := by
    refine ret_ok' ?_
    show eFrz _ E M = _
    have isT : isTA false M (.str "\n") = true := rfl
    have z : szOk [Av.str (("first " : Str) ++ first)].length = true := rfl
    simp only [eFrz, eBM, eBin, eLst, eC, aCons, aNil, v0, Res.bind, isT, if_true, i0, a1, z, hlc, a2, hj, frz]
  rw [run_rt (np := 1) rfl body]
  exact fin_same rfl
end Pd
set_option maxHeartbeats 2000000
namespace Pd
open PySem PySem.Spec L2
structure SDT (n : Nat) (a : Av) (d : PyData) : Prop where
  p : pdT a = some d
  c : d.canLay0 = true
  d : d.depth ≤ n
structure SD (M : Mem) (n : Nat) (a : Av) (d : PyData) : Prop where
  p : pd M a = some d
  c : d.canLay0 = true
  d : d.depth ≤ n
theorem SDT.sd {n : Nat} {a : Av} {d : PyData} (h : SDT n a d) (M : Mem) : SD M n a d := by
  refine ⟨?_, h.c, h.d⟩
  have := h.p
  cases a <;> first
    | exact this
    | cases this
theorem sdt_int (n : Nat) (i : Int) : SDT n (.int i) (.int i) := ⟨rfl, rfl, Nat.zero_le _⟩
theorem sdt_bl (n : Nat) (i : Bool) : SDT n (.bl i) (.bool i) := ⟨rfl, rfl, Nat.zero_le _⟩
theorem sdt_str (n : Nat) {x : Str} (h : PyData.strOk x = true) : SDT n (.str x) (.str x) := ⟨rfl, h, Nat.zero_le _⟩
theorem strOk_of {x : Str} (h : ∀ c ∈ x.cps.toList, c < 0x110000) : PyData.strOk x = true := by
  unfold PyData.strOk
  rw [← Array.all_toList, List.all_eq_true]
  intro c hc
  exact decide_eq_true (h c hc)
theorem strOk_name {x : Str} (h : nameB x) : PyData.strOk x = true := by
  refine strOk_of fun c hc => ?_
  have := h.2.2 c hc
  have e : ("abcdefghijklmnopqrstuvwxyz" : Str).cps.toList = TL.tl ("abcdefghijklmnopqrstuvwxyz" : Str) := rfl
  rw [e, tl_letters] at this
  simp at this
  omega
theorem sdts {n : Nat} {xs : List Av} {ds : List PyData} (h : All2 (SDT n) xs ds) : pdTs xs = some ds ∧ PyData.canLayAll0 ds = true ∧ PyData.depthAll ds ≤ n := by
  induction h with
  | nil => exact ⟨rfl, rfl, Nat.zero_le _⟩
  | cons h _ ih =>
    obtain ⟨h1, h2, h3⟩ := ih
    refine ⟨?_, ?_, ?_⟩
    · simp only [pdTs, h.p, h1]
    · simp only [PyData.canLayAll0, h.c, h2, Bool.and_self]
    · simp only [PyData.depthAll]
      exact Nat.max_le.mpr ⟨h.d, h3⟩
theorem sdt_tup {n : Nat} {xs : List Av} {ds : List PyData} (h : All2 (SDT n) xs ds) : SDT (n + 1) (.tup xs) (.tuple ds) := by
  obtain ⟨h1, h2, h3⟩ := sdts h
  refine ⟨by simp [pdT, h1], by simpa [PyData.canLay0] using h2, ?_⟩
  simp only [PyData.depth]
  omega
theorem sdt_lst {n : Nat} {xs : List Av} {ds : List PyData} (h : All2 (SDT n) xs ds) : SDT (n + 1) (.lst xs) (.list ds) := by
  obtain ⟨h1, h2, h3⟩ := sdts h
  refine ⟨by simp [pdT, h1], by simpa [PyData.canLay0] using h2, ?_⟩
  simp only [PyData.depth]
  omega
theorem all2_map {α β γ : Type} {R : β → γ → Prop} {f : α → β} {g : α → γ} : ∀ {l : List α}, (∀ x ∈ l, R (f x) (g x)) → All2 R (l.map f) (l.map g)
  | [], _ => .nil
  | x :: l, h => .cons (h x (by simp)) (all2_map fun y hy => h y (by simp [hy]))
theorem eqv_self {d : PyData} (h : d.canLay0 = true) : PyData.eqv d d = true := SeqAt.eqv_refl d h
theorem eq_data {M : Mem} {n : Nat} {a b : Av} {d e : PyData} (neg : Bool) (ha : SD M n a d) (hb : SD M n b e) (hn : n ≤ 64) (hs : scA a b = none) : opEq neg a b M = .ok (.bl (if neg then !PyData.eqv d e else PyData.eqv d e)) M := by
  have s1 : SeqAt.shaped d = true := by
    unfold SeqAt.shaped
    rw [ha.c, decide_eq_true (Nat.le_trans ha.d hn)]; rfl
  have s2 : SeqAt.shaped e = true := by
    unfold SeqAt.shaped
    rw [hb.c, decide_eq_true (Nat.le_trans hb.d hn)]; rfl
  simp only [opEq, hs, ha.p, hb.p, s1, s2, Bool.and_self, if_true]
theorem eq_same {M : Mem} {n : Nat} {a b : Av} {d : PyData} (neg : Bool) (ha : SD M n a d) (hb : SD M n b d) (hn : n ≤ 64) (hs : scA a b = none) : opEq neg a b M = .ok (.bl (!neg)) M := by
  rw [eq_data neg ha hb hn hs, eqv_self ha.c]
  cases neg <;> rfl
theorem EnOk.eq_same {en : En} (h : EnOk en) {M : Mem} {n : Nat} {a b : Av} {d : PyData} (hc : clsA M a = none) (ha : SD M n a d) (hb : SD M n b d) (hn : n ≤ 64) (hs : scA a b = none) : en.eq a b M = .ok (.bl true) M := by
  rw [h.eq _ _ _ hc]; exact Pd.eq_same false ha hb hn hs
theorem eqvAll_map {α : Type} {g : α → PyData} (hg : ∀ x y, PyData.eqv (g x) (g y) = true ↔ x = y) : ∀ l m : List α, PyData.eqvAll (l.map g) (m.map g) = true ↔ l = m
  | [], [] => by simp [PyData.eqvAll]
  | [], _ :: _ => by simp [PyData.eqvAll]
  | _ :: _, [] => by simp [PyData.eqvAll]
  | a :: l, b :: m => by
    simp only [List.map_cons, PyData.eqvAll, Bool.and_eq_true, hg, eqvAll_map hg l m, List.cons.injEq]
end Pd
set_option maxHeartbeats 2000000
namespace Pd
open PySem PySem.Spec L2
open TL (tl len_tl tl_append tl_join joinL join_eq split_join ext_tl)
theorem split_at {x y : Str} {ps : List Str} {M : Mem} (h : Txt.split x y = ps) (hy : (y.length == 0) = false) (hx : x.length ≤ 90000) : opSplit (.str x) [.str y] M = .ok (.lst (ps.map .str)) M := by
  simp only [opSplit, hy]
  rw [if_pos (by rw [szOk_of (show x.length + 2 ≤ 100000 by omega)]; rfl), h]
def RowEqOk (f : Fn) : Prop := ∀ (r : PRow) (M : Mem), f [r.av, .non] M = .ok (.bl false) M
theorem row_eq_ok {en : En} : RowEqOk (runF 2 2 (s_m_Row_eq en)) := by
  intro r M
  have body : s_m_Row_eq en ([r.av, .non].map some ++ List.replicate (2 - 2) none) M = .rt (.bl false) M := by rfl
  rw [run_rt (np := 2) rfl body]
  exact fin_same rfl
end Pd
set_option maxHeartbeats 2000000
namespace Pd
open PySem PySem.Spec L2
def Bx (a b : Int) : Prop := 0 ≤ a ∧ 0 ≤ b ∧ b ≤ 2147483700
def bx (a b : Int) : Option Mo := some (.lst [.int a, .int b])
def BxAt (M : Mem) (n : Nat) : Prop := ∃ a b, M[n]? = some (bx a b) ∧ Bx a b
def Gen (n : Nat) (M M1 : Mem) : Prop := ∃ a b, Bx a b ∧ M1 = M.set n (bx a b)
theorem BxAt.lt {M : Mem} {n : Nat} (h : BxAt M n) : n < M.length := by
  obtain ⟨a, b, h, _⟩ := h
  exact (List.getElem?_eq_some_iff.mp h).1
theorem BxAt.app {M X : Mem} {n : Nat} (h : BxAt M n) : BxAt (M ++ X) n := by
  have hl := h.lt
  obtain ⟨a, b, h, hb⟩ := h
  exact ⟨a, b, by rw [List.getElem?_append_left hl]; exact h, hb⟩
theorem Gen.at_ {n : Nat} {M M1 : Mem} (hn : BxAt M n) (h : Gen n M M1) : BxAt M1 n := by
  obtain ⟨a, b, hb, rfl⟩ := h
  exact ⟨a, b, by rw [List.getElem?_set_self hn.lt], hb⟩
theorem Gen.refl {n : Nat} {M : Mem} (h : BxAt M n) : Gen n M M := by
  obtain ⟨a, b, h, hb⟩ := h
  refine ⟨a, b, hb, ?_⟩
  obtain ⟨h1, h2⟩ := List.getElem?_eq_some_iff.mp h
  rw [← h2, List.set_getElem_self]
theorem Gen.trans {n : Nat} {M M1 M2 : Mem} (h : Gen n M M1) (h2 : Gen n M1 M2) : Gen n M M2 := by
  obtain ⟨a, b, hb, rfl⟩ := h
  obtain ⟨c, d, hd, rfl⟩ := h2
  exact ⟨c, d, hd, by rw [List.set_set]⟩
theorem Gen.len {n : Nat} {M M1 : Mem} (h : Gen n M M1) : M1.length = M.length := by
  obtain ⟨a, b, hb, rfl⟩ := h
  simp
theorem Gen.app {n : Nat} {M X M1 : Mem} (hn : BxAt M n) (h : Gen n (M ++ X) M1) : ∃ M2, Gen n M M2 ∧ M1 = M2 ++ X := by
  obtain ⟨a, b, hb, rfl⟩ := h
  exact ⟨_, ⟨a, b, hb, rfl⟩, by rw [List.set_append_left _ _ hn.lt]⟩
theorem Gen.cut {n : Nat} {M M1 : Mem} (X : Mem) (h : Gen n M M1) : cutOk M (M1 ++ X) = true := by
  obtain ⟨a, b, hb, rfl⟩ := h
  exact cutL_set rfl _ _ _
theorem Gen.fin {n : Nat} {M M1 X : Mem} {v : Av} (h : Gen n M M1) (hb : below M.length v = true) : finF M v (M1 ++ X) = .ok v M1 := fin_cut h.len hb (h.cut X)
theorem below_not {n m : Nat} (h : n ≤ m) : below n (.ref m) = false := by
  simp only [below]
  cases q : Nat.blt m n with
  | false => rfl
  | true => have := Nat.le_of_ble_eq_true q; omega
theorem fin_keep {M M1 : Mem} {v : Av} (hb : below M.length v = false) : finF M v M1 = .ok v M1 := by
  unfold finF
  split
  · rfl
  · rw [hb]; rfl
def ChooseOk (f : Fn) : Prop := ∀ (M : Mem) (n : Nat) (many : Int), BxAt M n → 1 ≤ many → many < 1073741824 → ∃ r M1, f [.ref n, .int many] M = .ok (.int r) M1 ∧ Gen n M M1 ∧ 0 ≤ r ∧ r < many
theorem choose_ok {en : En} (he : EnOk en) : ChooseOk (runF 2 4 (s_f_law_choose en)) := by
  intro M n many hM h1 h2
  have hn := hM.lt
  obtain ⟨a, b, hM, b0, b1, b2⟩ := hM
  have p1 : 0 < many := by omega
  have hS : ∀ x, (M.set n x)[n]? = some x := fun x => by rw [List.getElem?_set]; simp [hn]
  have hT : ∀ x, List.take M.length (M.set n x) = M.set n x := fun x => List.take_of_length_le (by simp)
  have hc : ∀ a b, ∀ M' : Mem, M'[n]? = some (bx a b) → clsA M' (.ref n) = none := by
    intro a b M' h
    simp [clsA, h, bx]
  have x0 : ∀ a b, ∀ M' : Mem, M'[n]? = some (bx a b) → en.ix (.ref n) (.int 0) M' = .ok (.int a) M' := by
    intro a b M' h
    rw [he.ix _ _ _ (hc a b M' h)]
    simp [opIx, asQ, asL, h, bx, atI, ixN]
  have x1 : ∀ a b, ∀ M' : Mem, M'[n]? = some (bx a b) → en.ix (.ref n) (.int 1) M' = .ok (.int b) M' := by
    intro a b M' h
    rw [he.ix _ _ _ (hc a b M' h)]
    simp [opIx, asQ, asL, h, bx, atI, ixN]
  have y0 := x0 a b M hM
  have y1 := x1 a b M hM
  by_cases h : 0 < a
  · refine ⟨a % many, M.set n (bx (a / many) b), ?_, ⟨_, _, ⟨Int.ediv_nonneg b0 (by omega), b1, b2⟩, rfl⟩, Int.emod_nonneg _ (by omega), Int.emod_lt_of_pos _ (by omega)⟩
    simp only [bx] at hM
    simp [runF, s_f_law_choose, sSeq, sIf, sSet, sSetIx, sRet, sPass, tCmpA, eBin, eVar, eC, eCallB, aCons, aNil, Res.bind, Res.thn, y0, y1, opCmp, opInt, opMod, opDiv, asL, ixN, stIx, eFrz, frz, finF, below, hM, h, p1, h2, hS, hT, bx]
  · generalize hf : (b * 40014 + 17) % 2147483563 = f
    have f0 : 0 ≤ f := by rw [← hf]; exact Int.emod_nonneg _ (by omega)
    have f1 : f < 2147483563 := by rw [← hf]; exact Int.emod_lt_of_pos _ (by omega)
    generalize hg : (f * 40692 + 3067) % 2147483629 + 1 = g
    have g0 : 1 ≤ g := by have := Int.emod_nonneg (f * 40692 + 3067) (show (2147483629 : Int) ≠ 0 by omega); omega
    have g1 : g ≤ 2147483629 := by have := Int.emod_lt_of_pos (f * 40692 + 3067) (show (0 : Int) < 2147483629 by omega); omega
    have s1 : small64 b = true := by simp [Pd.small64]; omega
    have s2 : small64 f = true := by simp [Pd.small64]; omega
    have z1 := x1 a g (M.set n (bx a g)) (hS _)
    refine ⟨((f * 2147483647 + g) / 8191) % many, M.set n (bx a g), ?_, ⟨_, _, ⟨b0, by omega, by omega⟩, rfl⟩, Int.emod_nonneg _ (by omega), Int.emod_lt_of_pos _ (by omega)⟩
    simp only [bx] at hM z1
    simp [runF, s_f_law_choose, sSeq, sIf, sSet, sSetIx, sRet, sPass, tCmpA, eBin, eVar, eC, eCallB, aCons, aNil, Res.bind, Res.thn, y0, y1, z1, he.add_int, opCmp, opInt, opMod, opDiv, opMul, asL, ixN, stIx, eFrz, frz, finF, below, hM, h, p1, h2, s1, s2, hf, hg, hS, hT, bx]
theorem atI_nat {xs : List Av} {k : Nat} {v : Av} (h : xs[k]? = some v) : atI xs (k : Int) = some v := by
  have hk : k < xs.length := (List.getElem?_eq_some_iff.mp h).1
  unfold atI ixN
  rw [if_pos (by omega), if_pos (by omega)]
  simpa using h
theorem atI_int {xs : List Av} {r : Int} (h0 : 0 ≤ r) (h1 : r < (xs.length : Int)) : ∃ x, x ∈ xs ∧ atI xs r = some x ∧ xs[r.toNat]? = some x := by
  have hk : r.toNat < xs.length := by omega
  refine ⟨xs[r.toNat], List.getElem_mem hk, ?_, List.getElem?_eq_getElem hk⟩
  have := atI_nat (xs := xs) (k := r.toNat) (List.getElem?_eq_getElem hk)
  rw [Int.toNat_of_nonneg h0] at this
  exact this
def OneOfOk (f : Fn) : Prop := ∀ (M : Mem) (n : Nat) (c : Av) (xs : List Av), BxAt M n → (c = .lst xs ∨ c = .tup xs) → xs ≠ [] → xs.length ≤ 100000 → (∀ x ∈ xs, ∀ M, frz x M = none) → ∃ x M1, f [.ref n, c] M = .ok x M1 ∧ Gen n M M1 ∧ x ∈ xs
theorem one_of_ok {en : En} {ch : Fn} (h : EnOk en) (hc : ChooseOk ch) : OneOfOk (runF 2 2 (s_f_law_one_of en ch)) := by
  intro M n c xs hM hcx hne hl hf
  have hq : ∀ M, asQ M c = some xs := by rcases hcx with rfl | rfl <;> exact fun _ => rfl
  have hcl : ∀ M, clsA M c = none := by rcases hcx with rfl | rfl <;> exact fun _ => rfl
  have hp : 0 < xs.length := List.length_pos_iff.mpr hne
  obtain ⟨r, M1, h1, g1, r0, r1⟩ := hc M n (xs.length : Int) hM (by omega) (by omega)
  obtain ⟨x, hx, h2, _⟩ := atI_int r0 r1
  refine ⟨x, M1, ?_, g1, hx⟩
  have ln : en.len [c] M = .ok (.int (xs.length : Nat)) M := by
    rw [h.len _ _ (hcl M)]
    rcases hcx with rfl | rfl <;> rfl
  have ix : en.ix c (.int r) M1 = .ok x M1 := by
    rw [h.ix _ _ _ (hcl M1)]
    rcases hcx with rfl | rfl <;> simp only [opIx, asQ, h2]
  have v0 : eVar 0 [some (.ref n), some c] M = .ok (.ref n) M := rfl
  have v1 : eVar 1 [some (.ref n), some c] M = .ok c M := rfl
  have body : s_f_law_one_of en ch ([.ref n, c].map some ++ List.replicate (2 - 2) none) M = .rt x M1 := by
    refine ret_ok' ?_
    show eFrz _ [some (.ref n), some c] M = _
    simp only [eFrz, eBin, eCallB, defl, aCons, aNil, v0, v1, Res.bind, List.append_nil, ln, h1, ix, hf x hx]
  rw [run_rt (np := 2) rfl body]
  exact fin_same g1.len
def SeedOk (f : Fn) : Prop := ∀ (M : Mem) (ns : List Int) (k : Nat), ns.length ≤ 63 → k ≤ 100 → ∃ a b, f [.fz (ns.map .int), .int (k : Int)] M = .ok (.ref M.length) (M ++ [bx a b]) ∧ Bx a b
theorem seed_ok {en : En} (he : EnOk en) : SeedOk (runF 2 3 (s_f_law_seed en)) := by
  intro M ns k hl hk
  have hz : szOk (ns.map Av.int).length = true := by
    unfold szOk
    exact Nat.ble_eq_true_of_le (by simp; omega)
  have ad := he.add_int
  let ret : Es := sRet (eNewL (aCons (eIf (tCmpA (opCmp fun i j => decide (j ≤ i)) (eVar 2) (eBin opPow (eC (.int 10)) (eC (.int 18)))) (eVar 2) (eC (.int 0))) (aCons (eBin en.add (eBin opMod (eCallB opInt (aCons (eBin en.add (eBin opMul (eBin opMod (eCallB opInt (aCons (eVar 2) aNil)) (eC (.int 2147483629))) (eC (.int 48271))) (eBin opMul (eC (.int 30011)) (eVar 1))) aNil)) (eC (.int 2147483629))) (eC (.int 1))) aNil)))
  have tail : ∀ cell : Int, 0 ≤ cell → ∃ a b, Bx a b ∧ ret [some (.fz (ns.map .int)), some (.int (k : Int)), some (.int cell)] M = .rt (.ref M.length) (M ++ [bx a b]) := by
    intro cell hc
    have s1 : Pd.small64 (cell % 2147483629) = true := by
      have h1 := Int.emod_nonneg cell (show (2147483629 : Int) ≠ 0 by omega)
      have h2 := Int.emod_lt_of_pos cell (show (0 : Int) < 2147483629 by omega)
      simp [Pd.small64]
      omega
    have s2 : Pd.small64 30011 = true := by decide
    have s3 : Pd.small64 48271 = true := by decide
    refine ⟨if 1000000000000000000 ≤ cell then cell else 0, (cell % 2147483629 * 48271 + 30011 * (k : Int)) % 2147483629 + 1, ⟨?_, ?_, ?_⟩, ?_⟩
    · split <;> omega
    · have := Int.emod_nonneg (cell % 2147483629 * 48271 + 30011 * (k : Int)) (show (2147483629 : Int) ≠ 0 by omega); omega
    · have := Int.emod_lt_of_pos (cell % 2147483629 * 48271 + 30011 * (k : Int)) (show (0 : Int) < 2147483629 by omega); omega
    · by_cases h : (1000000000000000000 : Int) ≤ cell
      · simp [ret, sRet, eNewL, eIf, tCmpA, eBin, eVar, eC, eCallB, aCons, aNil, Res.bind, Res.thn, opCmp, opInt, opMod, opMul, ad, opPow, s1, s2, s3, h, szOk, Nat.blt, bx]
      · simp [ret, sRet, eNewL, eIf, tCmpA, eBin, eVar, eC, eCallB, aCons, aNil, Res.bind, Res.thn, opCmp, opInt, opMod, opMul, ad, opPow, s1, s2, s3, h, szOk, Nat.blt, bx]
  have m1 : Pd.small64 6481 = true := by decide
  have m2 : Pd.small64 40093 = true := by decide
  have fin : ∀ cell : Int, 0 ≤ cell → s_f_law_seed en [some (.fz (ns.map .int)), some (.int (k : Int)), none] M = ret [some (.fz (ns.map .int)), some (.int (k : Int)), some (.int cell)] M → ∃ a b, runF 2 3 (s_f_law_seed en) [.fz (ns.map .int), .int (k : Int)] M = .ok (.ref M.length) (M ++ [bx a b]) ∧ Bx a b := by
    intro cell hc e
    obtain ⟨a, b, hb, h⟩ := tail cell hc
    refine ⟨a, b, ?_, hb⟩
    have e2 : s_f_law_seed en ([Av.fz (ns.map .int), .int (k : Int)].map some ++ List.replicate (3 - 2) none) M = .rt (.ref M.length) (M ++ [bx a b]) := e.trans h
    rw [run_rt (np := 2) rfl e2]
    exact fin_keep (below_not (Nat.le_refl _))
  have ln : en.len [.fz (ns.map .int)] M = .ok (.int (ns.length : Nat)) M := by
    rw [he.len _ _ rfl]; simp [opLen, asQ]
  have ixx : ∀ i v, atI (ns.map Av.int) i = some v → en.ix (.fz (ns.map .int)) (.int i) M = .ok v M := by
    intro i v h
    rw [he.ix _ _ _ rfl]; simp [opIx, asQ, h]
  by_cases c1 : k < ns.length
  · have g1 : (ns.map Av.int)[k]? = some (.int ns[k]) := by simp [c1]
    have g2 := ixx _ _ (atI_nat g1)
    refine fin (if ns[k] < 0 then -ns[k] else ns[k]) (by split <;> omega) ?_
    have c2 : (k : Int) < (ns.length : Int) := by omega
    simp [s_f_law_seed, sSeq, sSet, sIf, tCmpA, eBin, eVar, eC, eCallB, aCons, aNil, Res.bind, Res.thn, opCmp, opMul, ad, ln, opAbs, m1, c2, g2, ret]
  · by_cases c0 : ns = []
    · subst c0
      refine fin (6481 * (k : Int) + 37) (by omega) ?_
      have c2 : ¬ (k : Int) < 0 := by omega
      have ln2 : en.len [.fz []] M = .ok (.int 0) M := ln
      simp [s_f_law_seed, sSeq, sSet, sIf, sPass, tCmpA, eBin, eVar, eC, eCallB, aCons, aNil, Res.bind, Res.thn, opCmp, opMul, ad, ln2, opAbs, m1, c2, ret]
    · have hp : 0 < ns.length := List.length_pos_iff.mpr c0
      have hm : k % ns.length < ns.length := Nat.mod_lt _ hp
      have g1 : (ns.map Av.int)[k % ns.length]? = some (.int ns[k % ns.length]) := by simp [hm]
      have g2 := ixx _ _ (atI_nat g1)
      rw [Int.natCast_emod] at g2
      generalize hv : (if ns[k % ns.length] < 0 then -ns[k % ns.length] else ns[k % ns.length]) = v
      have hv0 : 0 ≤ v := by rw [← hv]; split <;> omega
      refine fin (6481 * (k : Int) + 37 + v % 2147483629 * 40093) (by have := Int.emod_nonneg v (show (2147483629 : Int) ≠ 0 by omega); omega) ?_
      have c2 : ¬ (k : Int) < (ns.length : Int) := by omega
      have c3 : (0 : Int) < (ns.length : Int) := by omega
      simp [s_f_law_seed, sSeq, sSet, sIf, sPass, tCmpA, eBin, eVar, eC, eCallB, aCons, aNil, Res.bind, Res.thn, opCmp, opMul, ad, opMod, ln, opAbs, opInt, m1, m2, c2, c3, hp, g2, hv, ret]
end Pd
set_option maxHeartbeats 2000000
namespace Pd
open PySem PySem.Spec L2
theorem var_of {e : Env} {i : Nat} {v : Av} {M : Mem} (h : e[i]? = some (some v)) : eVar i e M = .ok v M := by
  unfold eVar; rw [h]
theorem call2 {f : Fn} {e : Env} {M M1 : Mem} {i : Nat} {a v : Av} {ev : Ev} (hi : e[i]? = some (some a)) (hv : ev e M = .ok v M1) : eCallB (defl f []) (aCons (eVar i) (aCons ev aNil)) e M = f [a, v] M1 := by
  simp only [eCallB, defl, aCons, aNil, var_of hi, hv, Res.bind, List.append_nil]
theorem isT_of {M : Mem} {n : Nat} {xs : List Av} (h : M[n]? = some (some (.lst xs))) : isTA true M (.ref n) = true := by
  simp only [isTA, isLA, asR, asL, h, Option.isSome_some]
theorem drop_app {e : Env} {M M1 : Mem} {i n : Nat} {xs xs0 : List Av} {y : Av} {ev : Ev} (hi : e[i]? = some (some (.ref n))) (h0 : M[n]? = some (some (.lst xs0))) (hv : ev e M = .ok y M1) (h1 : M1[n]? = some (some (.lst xs))) (hl : xs.length ≤ 100000) :
    sDrop (eBM true opAppend (eVar i) (aCons ev aNil)) e M = .nx e (M1.set n (some (.lst (xs ++ [y])))) := by
  simp only [sDrop, eBM, var_of hi, Res.bind, isT_of h0, if_true, aCons, aNil, hv, opAppend, chL, h1, szOk_of hl, Res.thn]
end Pd
set_option maxHeartbeats 2000000
namespace Pd
open PySem PySem.Spec L2
theorem xac_ok {f : Ev} {g : Ea} {e : Env} {M M1 M2 : Mem} {a : Av} {as : List Av} (h1 : f e M = .ok a M1) (h2 : g e M1 = .ok as M2) : aCons f g e M = .ok (a :: as) M2 := by
  simp only [aCons, h1, Res.bind, h2]
theorem xan_ok {e : Env} {M : Mem} : aNil e M = .ok [] M := rfl
theorem xtup_ok {g : Ea} {e : Env} {M M1 : Mem} {as : List Av} (h : g e M = .ok as M1) (hl : as.length ≤ 100000) : eTup g e M = .ok (.tup as) M1 := by
  simp only [eTup, h, Res.bind, szOk_of hl, if_true]
theorem xlst_ok {g : Ea} {e : Env} {M M1 : Mem} {as : List Av} (h : g e M = .ok as M1) (hl : as.length ≤ 100000) : eLst g e M = .ok (.lst as) M1 := by
  simp only [eLst, h, Res.bind, szOk_of hl, if_true]
theorem xbin_ok {op : Op2} {f g : Ev} {e : Env} {M M1 M2 : Mem} {a b : Av} {r : Res Av} (h1 : f e M = .ok a M1) (h2 : g e M1 = .ok b M2) (h3 : op a b M2 = r) : eBin op f g e M = r := by
  simp only [eBin, h1, Res.bind, h2, h3]
theorem xcall_ok {f : Fn} {g : Ea} {e : Env} {M M1 : Mem} {as : List Av} {r : Res Av} (h1 : g e M = .ok as M1) (h2 : f as M1 = r) : eCallB f g e M = r := by
  simp only [eCallB, h1, Res.bind, h2]
theorem defl_nil {f : Fn} : defl f [] = f := by
  funext as M
  simp only [defl, List.append_nil]
theorem xfrz_ok {f : Ev} {e : Env} {M M1 : Mem} {a : Av} (h1 : f e M = .ok a M1) (h2 : frz a M1 = none) : eFrz f e M = .ok a M1 := by
  simp only [eFrz, h1, Res.bind, h2]
theorem xcmp_ok {op : Op2} {f g : Ev} {e : Env} {M M1 M2 M3 : Mem} {a b : Av} {r : Bool} (h1 : f e M = .ok a M1) (h2 : g e M1 = .ok b M2) (h3 : op a b M2 = .ok (.bl r) M3) : tCmpA op f g e M = .ok r M3 := by
  simp only [tCmpA, eBin, h1, Res.bind, h2, h3]
theorem eif_t {t : Et} {f g : Ev} {e : Env} {M M1 : Mem} {r : Res Av} (h : t e M = .ok true M1) (h2 : f e M1 = r) : eIf t f g e M = r := by
  simp only [eIf, h, Res.bind, if_true, h2]
theorem eif_f {t : Et} {f g : Ev} {e : Env} {M M1 : Mem} {r : Res Av} (h : t e M = .ok false M1) (h2 : g e M1 = r) : eIf t f g e M = r := by
  simp only [eIf, h, Res.bind, Bool.false_eq_true, if_false, h2]
def RL (k : Int) (rs : List Av) (xss : List (List Int)) : Prop := All2 (fun r xs => (r = .tup (xs.map .int) ∨ r = .lst (xs.map .int)) ∧ RoundIn k xs) rs xss
theorem RL.rounds {k : Int} {rs : List Av} {xss : List (List Int)} (h : RL k rs xss) (M : Mem) : RoundsIn M k rs xss := by
  induction h with
  | nil => exact .nil
  | cons h _ ih =>
    refine .cons ⟨?_, h.2⟩ ih
    rcases h.1 with rfl | rfl <;> rfl
theorem RL.belows {k : Int} {rs : List Av} {xss : List (List Int)} (h : RL k rs xss) (n : Nat) : belows n rs = true := by
  induction h with
  | nil => rfl
  | cons h _ ih =>
    simp only [Pd.belows, ih, Bool.and_true]
    rcases h.1 with rfl | rfl <;> (simp only [below]; exact belows_ints _ _)
def NMS : List (List Str) := [["run", "one", "two", "xyz"], ["a", "aa", "ab", "b"], ["at", "all", "on", "keep"], ["zzzz", "q", "home", "stay"]]
def nmA (l : List Str) : Av := .lst (l.map .str)
def NamesOk (f : Fn) : Prop := ∀ (M : Mem) (n : Nat), BxAt M n → ∃ l M1, f [.ref n] M = .ok (nmA l) M1 ∧ Gen n M M1 ∧ l ∈ NMS
theorem names_ok {en : En} {oo : Fn} (h : EnOk en) (ho : OneOfOk oo) : NamesOk (runF 1 2 (s_f_law_names en oo)) := by
  intro M n hM
  obtain ⟨x, M1, q1, g1, hx⟩ := ho M n (.lst (NMS.map nmA)) (NMS.map nmA) hM (.inl rfl) (by simp [NMS]) (by simp [NMS]) (by
    intro x hx M
    obtain ⟨l, _, rfl⟩ := List.mem_map.mp hx
    rfl)
  obtain ⟨l, hl, rfl⟩ := List.mem_map.mp hx
  refine ⟨l, M1, ?_, g1, hl⟩
  let a3 : List Av := [nmA ["run", "one", "two", "xyz"], nmA ["a", "aa", "ab", "b"], nmA ["at", "all", "on", "keep"]]
  let E : Env := [some (.ref n), some (.lst a3)]
  have ad : en.add (.lst a3) (.lst [nmA ["zzzz", "q", "home", "stay"]]) M = .ok (.lst (NMS.map nmA)) M := h.add _ _ _ rfl
  have body : s_f_law_names en oo ([.ref n].map some ++ List.replicate (2 - 1) none) M = .rt (nmA l) M1 := by
    unfold s_f_law_names
    refine (seq_nx (e1 := E) (M1 := M) rfl).trans ?_
    refine ret_ok' ?_
    have v1 : eVar 1 E M = .ok (.lst a3) M := rfl
    have c1 : eLst (aCons (eLst (aCons (eC (.str "zzzz")) (aCons (eC (.str "q")) (aCons (eC (.str "home")) (aCons (eC (.str "stay")) aNil))))) aNil) E M = .ok (.lst [nmA ["zzzz", "q", "home", "stay"]]) M := rfl
    have e1 : eBin en.add (eVar 1) (eLst (aCons (eLst (aCons (eC (.str "zzzz")) (aCons (eC (.str "q")) (aCons (eC (.str "home")) (aCons (eC (.str "stay")) aNil))))) aNil)) E M = .ok (.lst (NMS.map nmA)) M := by
      simp only [eBin, v1, c1, Res.bind, ad]
    have e2 := (call2 (f := oo) (i := 0) (a := .ref n) rfl e1).trans q1
    simp only [eFrz, e2, Res.bind]
    rfl
  rw [run_rt (np := 1) rfl body]
  exact fin_same g1.len
def rowIn (l : List Str) (r : PRow) : Prop := r.mode ∈ l ∧ r.pick ∈ PICKS ∧ r.move ∈ MOVES ∧ r.thn ∈ l
def AnyRowOk (f : Fn) : Prop := ∀ (M : Mem) (n : Nat) (l : List Str), BxAt M n → l ≠ [] → l.length ≤ 100 → ∃ r M1, f [.ref n, nmA l] M = .ok (PRow.tp r) M1 ∧ Gen n M M1 ∧ rowIn l r
theorem one_str {oo : Fn} (ho : OneOfOk oo) {M : Mem} {n : Nat} (l : List Str) (hM : BxAt M n) (hne : l ≠ []) (hl : l.length ≤ 100) : ∃ x M1, oo [.ref n, nmA l] M = .ok (.str x) M1 ∧ Gen n M M1 ∧ x ∈ l := by
  obtain ⟨x, M1, q1, g1, hx⟩ := ho M n (nmA l) (l.map .str) hM (.inl rfl) (by simpa using hne) (by simp; omega) (by
    intro x hx M
    obtain ⟨l, _, rfl⟩ := List.mem_map.mp hx
    rfl)
  obtain ⟨y, hy, rfl⟩ := List.mem_map.mp hx
  exact ⟨y, M1, q1, g1, hy⟩
theorem any_row_ok {en : En} {ch oo : Fn} (h : EnOk en) (hc : ChooseOk ch) (ho : OneOfOk oo) : AnyRowOk (runF 2 4 (s_f_law_any_row en ch oo)) := by
  intro M n l hM hne hl
  obtain ⟨pk, M1, q1, g1, h1⟩ := one_str ho ["keep", "at", "past", "under", "all", "past", "all"] hM (by simp) (by simp)
  have b1 := g1.at_ hM
  obtain ⟨mv, M2, q2, g2, h2⟩ := one_str ho ["stay", "on", "home", "on", "on"] b1 (by simp) (by simp)
  have b2 := g2.at_ b1
  obtain ⟨md, M3, q3, g3, h3⟩ := one_str ho l b2 hne hl
  have b3 := g3.at_ b2
  obtain ⟨th, M4, q4, g4, h4⟩ := one_str ho l b3 hne hl
  have b4 := g4.at_ b3
  obtain ⟨r, M5, q5, g5, r0, r1⟩ := hc M4 n 7 b4 (by decide) (by decide)
  have gg := (((g1.trans g2).trans g3).trans g4).trans g5
  refine ⟨⟨md, pk, mv, th, decide (r = 0)⟩, M5, ?_, gg, h3, ?_, ?_, h4⟩
  · let E : Option Av → Option Av → Env := fun x2 x3 => [some (.ref n), some (nmA l), x2, x3]
    have body : s_f_law_any_row en ch oo ([.ref n, nmA l].map some ++ List.replicate (4 - 2) none) M = .rt (PRow.tp ⟨md, pk, mv, th, decide (r = 0)⟩) M5 := by
      unfold s_f_law_any_row
      refine (seq_nx (e1 := E (some (.str pk)) none) (M1 := M1) ((set_ok' ((call2 (a := .ref n) (v := nmA ["keep", "at", "past", "under", "all", "past", "all"]) rfl rfl).trans q1)).trans rfl)).trans ?_
      refine (seq_nx (e1 := E (some (.str pk)) (some (.str mv))) (M1 := M2) ((set_ok' ((call2 (a := .ref n) (v := nmA ["stay", "on", "home", "on", "on"]) rfl rfl).trans q2)).trans rfl)).trans ?_
      let E2 := E (some (.str pk)) (some (.str mv))
      have w3 : eCallB (defl oo []) (aCons (eVar 0) (aCons (eVar 1) aNil)) E2 M2 = .ok (.str md) M3 := (call2 (a := .ref n) (v := nmA l) rfl rfl).trans q3
      have w4 : eCallB (defl oo []) (aCons (eVar 0) (aCons (eVar 1) aNil)) E2 M3 = .ok (.str th) M4 := (call2 (a := .ref n) (v := nmA l) rfl rfl).trans q4
      have w5 : eCallB (defl ch []) (aCons (eVar 0) (aCons (eC (.int 7)) aNil)) E2 M4 = .ok (.int r) M5 := (call2 (a := .ref n) (v := .int 7) rfl rfl).trans q5
      exact ret_ok' (xfrz_ok (xtup_ok (xac_ok w3 (xac_ok (a := .str pk) rfl (xac_ok (a := .str mv) rfl (xac_ok w4 (xac_ok (xbin_ok w5 (b := .int 0) rfl (h.eq_int _ _ _)) xan_ok))))) (Nat.le_of_ble_eq_true rfl)) rfl)
    rw [run_rt (np := 2) rfl body]
    exact fin_same gg.len
  · simp only [List.mem_cons, List.not_mem_nil, or_false] at h1
    simp only [PICKS, List.mem_cons, List.not_mem_nil, or_false]
    rcases h1 with h | h | h | h | h | h | h <;> simp [h]
  · simp only [List.mem_cons, List.not_mem_nil, or_false] at h2
    simp only [MOVES, List.mem_cons, List.not_mem_nil, or_false]
    rcases h2 with h | h | h | h | h <;> simp [h]
end Pd
set_option maxHeartbeats 2000000
namespace Pd
open PySem PySem.Spec L2
theorem cut_to {xs : List Av} {i : Int} (h : 0 ≤ i) : cutA xs none (some i) = xs.take i.toNat := by
  unfold cutA
  obtain ⟨j, rfl⟩ := Int.eq_ofNat_of_zero_le h
  rw [HT.sIx_none, HT.sIx_nat, List.drop_zero, Nat.sub_zero, Int.toNat_natCast]
  by_cases hl : j ≤ xs.length
  · rw [Nat.min_eq_left hl]
  · rw [Nat.min_eq_right (by omega), List.take_length, List.take_of_length_le (by omega)]
theorem cut_from {xs : List Av} {i : Int} (h : 0 ≤ i) : cutA xs (some i) none = xs.drop i.toNat := by
  unfold cutA
  obtain ⟨i, rfl⟩ := Int.eq_ofNat_of_zero_le h
  rw [HT.sIx_none, HT.sIx_nat, Int.toNat_natCast]
  by_cases hl : i ≤ xs.length
  · rw [Nat.min_eq_left hl]
    exact List.take_of_length_le (by simp)
  · rw [Nat.min_eq_right (by omega)]
    rw [List.drop_eq_nil_of_le (Nat.le_refl _), List.drop_eq_nil_of_le (by omega)]
    simp
theorem ix_ok {en : En} (h : EnOk en) {xs : List Av} {i : Int} {x : Av} {M : Mem} (hx : atI xs i = some x) : en.ix (.lst xs) (.int i) M = .ok x M := by
  rw [h.ix _ _ _ rfl]; simp only [opIx, asQ, hx]
def FairOk (f : Fn) : Prop := ∀ (M : Mem) (n : Nat) (l : List Str), BxAt M n → l ≠ [] → l.length ≤ 100 → ∃ (rows : List PRow) (M1 : Mem), f [.ref n, nmA l] M = .ok (.lst (rows.map PRow.tp)) M1 ∧ Gen n M M1 ∧ (∀ r ∈ rows, rowIn l r) ∧ rows.length ≤ 3 * l.length
theorem fair_ok {en : En} {ch oo : Fn} (h : EnOk en) (hc : ChooseOk ch) (ho : OneOfOk oo) : FairOk (runF 2 7 (s_f_law_fair_rows en ch oo)) := by
  intro M n l hM hne hl
  have hp : 0 < l.length := List.length_pos_iff.mpr hne
  let E : Option Av → Option Av → Option Av → Option Av → Env := fun x3 x4 x5 x6 => [some (.ref n), some (nmA l), some (.ref M.length), x3, x4, x5, x6]
  let Mm : Mem → List PRow → Mem := fun M2 rows => M2 ++ [some (.lst (rows.map PRow.tp))]
  have app : ∀ (M2 M3 : Mem) (rows : List PRow) (r : PRow) (ev : Ev) (e : Env), e[2]? = some (some (.ref M.length)) → M2.length = M.length → M3.length = M.length → rows.length ≤ 1000 → ev e (Mm M2 rows) = .ok r.tp (Mm M3 rows) → sDrop (eBM true opAppend (eVar 2) (aCons ev aNil)) e (Mm M2 rows) = .nx e (Mm M3 (rows ++ [r])) := by
    intro M2 M3 rows r ev e he l2 l3 hlen hv
    have a2 : (Mm M2 rows)[M.length]? = some (some (.lst (rows.map PRow.tp))) := by simp only [Mm, ← l2]; exact app_at _ _
    have a3 : (Mm M3 rows)[M.length]? = some (some (.lst (rows.map PRow.tp))) := by simp only [Mm, ← l3]; exact app_at _ _
    refine (drop_app he a2 hv a3 (by simp; omega)).trans ?_
    simp only [Mm, ← l3, app_set, List.map_append, List.map_cons, List.map_nil]
  let J : Nat → Env → Mem → Prop := fun i e M' => ∃ x3 x4 x5 x6 M2 rows, e = E x3 x4 x5 x6 ∧ M' = Mm M2 rows ∧ Gen n M M2 ∧ (∀ r ∈ rows, rowIn l r) ∧ rows.length ≤ 3 * i ∧ i ≤ l.length
  let S0 : Es := sSet 5 (eBin en.ix (eVar 1) (eBin opMod (eBin en.add (eVar 3) (eC (.int 1))) (eCallB en.len (aCons (eVar 1) aNil))))
  let S1 : Es := sSet 6 (eCallB (defl ch []) (aCons (eVar 0) (aCons (eC (.int 5)) aNil)))
  let S2 : Es := (sIf (tCmpA en.eq (eVar 6) (eC (.int 0)))
    (sDrop (eBM true opAppend (eVar 2) (aCons (eTup (aCons (eVar 4) (aCons (eC (.str "keep")) (aCons (eC (.str "stay")) (aCons (eVar 5) (aCons (eC (.bl false)) aNil)))))) aNil)))
    (sIf (tCmpA en.eq (eVar 6) (eC (.int 1)))
    (sDrop (eBM true opAppend (eVar 2) (aCons (eTup (aCons (eVar 4) (aCons (eC (.str "at")) (aCons (eC (.str "on")) (aCons (eVar 5) (aCons (eC (.bl false)) aNil)))))) aNil)))
    sPass))
  let S3 : Es := (sDrop (eBM true opAppend (eVar 2) (aCons (eTup (aCons (eVar 4) (aCons (eC (.str "past")) (aCons (eC (.str "on")) (aCons (eCallB (defl oo []) (aCons (eVar 0) (aCons (eLst (aCons (eBin en.ix (eVar 1) (eC (.int 0))) (aCons (eVar 4) (aCons (eVar 5) aNil)))) aNil))) (aCons (eC (.bl false)) aNil)))))) aNil)))
  let S4 : Es := (sIf (tCmpA (opCmp fun i j => decide (j < i)) (eCallB (defl ch []) (aCons (eVar 0) (aCons (eC (.int 6)) aNil))) (eC (.int 0)))
    (sDrop (eBM true opAppend (eVar 2) (aCons (eTup (aCons (eVar 4) (aCons (eC (.str "all")) (aCons (eCallB (defl oo []) (aCons (eVar 0) (aCons (eLst (aCons (eC (.str "on")) (aCons (eC (.str "on")) (aCons (eC (.str "on")) (aCons (eC (.str "home")) aNil))))) aNil))) (aCons (eBin en.ix (eVar 1) (eC (.int 0))) (aCons (eC (.bl false)) aNil)))))) aNil)))
    sPass)
  let B : Es := sSeq S0 (sSeq S1 (sSeq S2 (sSeq S3 S4)))
  have hat0 : ∃ f0, l[0]? = some f0 ∧ f0 ∈ l := ⟨l[0], List.getElem?_eq_getElem hp, List.getElem_mem hp⟩
  obtain ⟨f0, hf0, hf0m⟩ := hat0
  have i0 : atI (l.map Av.str) 0 = some (.str f0) := atI_nat (k := 0) (by rw [List.getElem?_map, hf0]; rfl)
  have hfor := for_go (k := .enm (nmA l) (l.map .str)) (g := gTp [3, 4]) (body := B) J (fun _ _ _ _ => stay_enl _ _) (fun i x e M' hx hJ => by
    obtain ⟨x3, x4, x5, x6, M2, rows, rfl, rfl, g2, hR, hrl, hil⟩ := hJ
    have hx : (enmA 0 (l.map .str))[i]? = some x := hx
    have hxe : ∃ s, x = .tup [.int (i : Int), .str s] ∧ s ∈ l ∧ i < l.length := by
      have key : ∀ (ys : List Str) (o : Int) (j : Nat) (x : Av), (enmA o (ys.map .str))[j]? = some x → ∃ s, x = .tup [.int (o + j), .str s] ∧ s ∈ ys ∧ j < ys.length := by
        intro ys
        induction ys with
        | nil => intro o j x h; simp [enmA] at h
        | cons y ys ih =>
          intro o j x h
          cases j with
          | zero => simp [enmA] at h; exact ⟨y, by simp [← h], by simp, by simp⟩
          | succ j =>
            simp only [List.map_cons, enmA, List.getElem?_cons_succ] at h
            obtain ⟨s, h1, h2, h3⟩ := ih (o + 1) j x h
            refine ⟨s, ?_, by simp [h2], by simp; omega⟩
            rw [h1]
            congr 3
            omega
      obtain ⟨s, h1, h2, h3⟩ := key l 0 i x hx
      exact ⟨s, by rw [h1]; congr 3; omega, h2, h3⟩
    obtain ⟨s, rfl, hs, hlt⟩ := hxe
    refine ⟨E (some (.int (i : Int))) (some (.str s)) x5 x6, rfl, ?_⟩
    -- the name after it
    have hmod : ∃ t, atI (l.map Av.str) (((i : Int) + 1) % (l.length : Int)) = some (.str t) ∧ t ∈ l := by
      have h1 := Int.emod_nonneg ((i : Int) + 1) (show (l.length : Int) ≠ 0 by omega)
      have h2 := Int.emod_lt_of_pos ((i : Int) + 1) (show (0 : Int) < (l.length : Int) by omega)
      obtain ⟨x, hx1, hx2, _⟩ := atI_int (xs := l.map Av.str) h1 (by simpa using h2)
      obtain ⟨t, ht, rfl⟩ := List.mem_map.mp hx1
      exact ⟨t, hx2, ht⟩
    obtain ⟨t, hat, ht⟩ := hmod
    let E1 := E (some (.int (i : Int))) (some (.str s)) (some (.str t)) x6
    have s0 : S0 (E (some (.int (i : Int))) (some (.str s)) x5 x6) (Mm M2 rows) = .nx E1 (Mm M2 rows) := by
      refine (set_ok' (v := .str t) (M1 := Mm M2 rows) ?_).trans rfl
      have v1 : ∀ x5, eVar 1 (E (some (.int (i : Int))) (some (.str s)) x5 x6) (Mm M2 rows) = .ok (nmA l) (Mm M2 rows) := fun _ => rfl
      have v3 : eVar 3 (E (some (.int (i : Int))) (some (.str s)) x5 x6) (Mm M2 rows) = .ok (.int (i : Int)) (Mm M2 rows) := rfl
      have hln : en.len [nmA l] (Mm M2 rows) = .ok (.int (l.length : Nat)) (Mm M2 rows) := by
        rw [h.len _ _ rfl]; simp only [nmA, opLen, asQ, List.length_map]
      refine xbin_ok (v1 _) (xbin_ok (xbin_ok v3 (b := .int 1) rfl (h.add_int _ _ _)) (xcall_ok (xac_ok (v1 _) xan_ok) hln) (r := .ok (.int (((i : Int) + 1) % (l.length : Int))) (Mm M2 rows)) ?_) (ix_ok h hat)
      simp only [opMod]
      rw [if_pos (decide_eq_true (by omega))]
    have b2 : BxAt (Mm M2 rows) n := (g2.at_ hM).app
    obtain ⟨q, M3', c1, g3', q0, q1⟩ := hc (Mm M2 rows) n 5 b2 (by decide) (by decide)
    obtain ⟨M3, g3, rfl⟩ := Gen.app (g2.at_ hM) g3'
    have gg3 := g2.trans g3
    let E2 := E (some (.int (i : Int))) (some (.str s)) (some (.str t)) (some (.int q))
    have s1 : S1 E1 (Mm M2 rows) = .nx E2 (Mm M3 rows) := (set_ok' ((call2 (a := .ref n) (v := .int 5) rfl rfl).trans c1)).trans rfl
    have s2 : ∃ rows1, S2 E2 (Mm M3 rows) = .nx E2 (Mm M3 rows1) ∧ (∀ r ∈ rows1, rowIn l r) ∧ rows1.length ≤ rows.length + 1 := by
      have v6 : eVar 6 E2 (Mm M3 rows) = .ok (.int q) (Mm M3 rows) := rfl
      have gr : ∀ r : PRow, rowIn l r → ∀ r' ∈ rows ++ [r], rowIn l r' := by
        intro r hr r' hr'
        rcases List.mem_append.mp hr' with h | h
        · exact hR _ h
        · simp at h; rw [h]; exact hr
      by_cases hq : q = 0
      · refine ⟨rows ++ [⟨s, "keep", "stay", t, false⟩], ?_, gr _ ⟨hs, by simp [PICKS], by simp [MOVES], ht⟩, by simp⟩
        refine (if_t (xcmp_ok v6 (b := .int 0) rfl (by rw [h.eq_int, decide_eq_true hq]))).trans ?_
        exact app _ _ _ _ _ E2 rfl gg3.len gg3.len (by omega) rfl
      · by_cases hq1 : q = 1
        · refine ⟨rows ++ [⟨s, "at", "on", t, false⟩], ?_, gr _ ⟨hs, by simp [PICKS], by simp [MOVES], ht⟩, by simp⟩
          refine (if_f (xcmp_ok v6 (b := .int 0) rfl (by rw [h.eq_int, decide_eq_false hq]))).trans ?_
          refine (if_t (xcmp_ok v6 (b := .int 1) rfl (by rw [h.eq_int, decide_eq_true hq1]))).trans ?_
          exact app _ _ _ _ _ E2 rfl gg3.len gg3.len (by omega) rfl
        · refine ⟨rows, ?_, hR, by omega⟩
          refine (if_f (xcmp_ok v6 (b := .int 0) rfl (by rw [h.eq_int, decide_eq_false hq]))).trans ?_
          exact if_no (xcmp_ok v6 (b := .int 1) rfl (by rw [h.eq_int, decide_eq_false hq1]))
    obtain ⟨rows1, s2, hR1, hl1⟩ := s2
    have b3 : BxAt (Mm M3 rows1) n := (gg3.at_ hM).app
    have v1 : ∀ M', eVar 1 E2 M' = .ok (nmA l) M' := fun _ => rfl
    have v4 : ∀ M', eVar 4 E2 M' = .ok (.str s) M' := fun _ => rfl
    have v5 : ∀ M', eVar 5 E2 M' = .ok (.str t) M' := fun _ => rfl
    have ix0 : ∀ M', eBin en.ix (eVar 1) (eC (.int 0)) E2 M' = .ok (.str f0) M' := fun M' => xbin_ok (v1 _) (b := .int 0) rfl (ix_ok h i0)
    obtain ⟨u, M4', c4, g4', hu⟩ := one_str ho [f0, s, t] b3 (by simp) (by simp)
    obtain ⟨M4, g4, rfl⟩ := Gen.app (gg3.at_ hM) g4'
    have gg4 := gg3.trans g4
    have hul : u ∈ l := by
      simp at hu
      rcases hu with rfl | rfl | rfl <;> assumption
    have s3 : S3 E2 (Mm M3 rows1) = .nx E2 (Mm M4 (rows1 ++ [⟨s, "past", "on", u, false⟩])) := by
      refine app _ _ _ _ _ E2 rfl gg3.len gg4.len (by omega) ?_
      refine xtup_ok (xac_ok (v4 _) (xac_ok (a := .str "past") rfl (xac_ok (a := .str "on") rfl (xac_ok ?_ (xac_ok (a := .bl false) rfl xan_ok))))) (Nat.le_of_ble_eq_true rfl)
      refine (call2 (a := .ref n) (v := nmA [f0, s, t]) (M1 := Mm M3 rows1) rfl ?_).trans c4
      exact xlst_ok (xac_ok (ix0 _) (xac_ok (v4 _) (xac_ok (v5 _) xan_ok))) (Nat.le_of_ble_eq_true rfl)
    let rows2 := rows1 ++ [(⟨s, "past", "on", u, false⟩ : PRow)]
    have hR2 : ∀ r ∈ rows2, rowIn l r := by
      intro r hr
      rcases List.mem_append.mp hr with h | h
      · exact hR1 _ h
      · simp at h; rw [h]; exact ⟨hs, by simp [PICKS], by simp [MOVES], hul⟩
    have hl2 : rows2.length ≤ rows.length + 2 := by simp only [rows2, List.length_append, List.length_cons, List.length_nil]; omega
    have b4 : BxAt (Mm M4 rows2) n := (gg4.at_ hM).app
    obtain ⟨w, M5', c5, g5', w0, w1⟩ := hc (Mm M4 rows2) n 6 b4 (by decide) (by decide)
    obtain ⟨M5, g5, rfl⟩ := Gen.app (gg4.at_ hM) g5'
    have gg5 := gg4.trans g5
    have hw : eCallB (defl ch []) (aCons (eVar 0) (aCons (eC (.int 6)) aNil)) E2 (Mm M4 rows2) = .ok (.int w) (Mm M5 rows2) := (call2 (a := .ref n) (v := .int 6) rfl rfl).trans c5
    have s4 : ∃ M6 rows3, S4 E2 (Mm M4 rows2) = .nx E2 (Mm M6 rows3) ∧ Gen n M M6 ∧ (∀ r ∈ rows3, rowIn l r) ∧ rows3.length ≤ rows.length + 3 := by
      by_cases hw0 : 0 < w
      · have b5 : BxAt (Mm M5 rows2) n := (gg5.at_ hM).app
        obtain ⟨mv, M6', c6, g6', hmv⟩ := one_str ho ["on", "on", "on", "home"] b5 (by simp) (by simp)
        obtain ⟨M6, g6, rfl⟩ := Gen.app (gg5.at_ hM) g6'
        refine ⟨M6, rows2 ++ [⟨s, "all", mv, f0, false⟩], ?_, gg5.trans g6, ?_, by simp; omega⟩
        · refine (if_t (M1 := Mm M5 rows2) (xcmp_ok hw (b := .int 0) rfl (by simp only [opCmp]; rw [decide_eq_true hw0]))).trans ?_
          refine app _ _ _ _ _ E2 rfl gg5.len (gg5.trans g6).len (by omega) ?_
          exact xtup_ok (xac_ok (v4 _) (xac_ok (a := .str "all") rfl (xac_ok ((call2 (a := .ref n) (v := nmA ["on", "on", "on", "home"]) rfl rfl).trans c6) (xac_ok (ix0 _) (xac_ok (a := .bl false) rfl xan_ok))))) (Nat.le_of_ble_eq_true rfl)
        · intro r hr
          rcases List.mem_append.mp hr with h | h
          · exact hR2 _ h
          · simp at h; rw [h]
            refine ⟨hs, by simp [PICKS], ?_, hf0m⟩
            simp at hmv
            rcases hmv with h | h <;> simp [MOVES, h]
      · refine ⟨M5, rows2, ?_, gg5, hR2, by omega⟩
        exact if_no (xcmp_ok hw (b := .int 0) rfl (by simp only [opCmp]; rw [decide_eq_false hw0]))
    obtain ⟨M6, rows3, s4, g6, hR3, hl3⟩ := s4
    refine ⟨E2, Mm M6 rows3, .inl ?_, _, _, _, _, M6, rows3, rfl, rfl, g6, hR3, by omega, hlt⟩
    exact (seq_nx s0).trans ((seq_nx s1).trans ((seq_nx s2).trans ((seq_nx s3).trans s4)))) (e := E none none none none) (M := Mm M []) ⟨none, none, none, none, M, [], rfl, rfl, Gen.refl hM, by simp, by simp, Nat.zero_le _⟩
  obtain ⟨e2, M2, hf, x3, x4, x5, x6, M3, rows, rfl, rfl, g3, hR, hrl, _⟩ := hfor
  have enl : ∀ (ys : List Av) (o : Int), (enmA o ys).length = ys.length := by
    intro ys
    induction ys with
    | nil => intro o; rfl
    | cons y ys ih => intro o; simp only [enmA, List.length_cons, ih]
  have hlen : (Ik.enm (nmA l) (l.map .str)).items.length = l.length := by
    show (enmA 0 (l.map .str)).length = _
    rw [enl, List.length_map]
  refine ⟨rows, M3, ?_, g3, hR, by omega⟩
  have l3 := g3.len
  have body : s_f_law_fair_rows en ch oo ([.ref n, nmA l].map some ++ List.replicate (7 - 2) none) M = .rt (.lst (rows.map PRow.tp)) (M3 ++ [none]) := by
    unfold s_f_law_fair_rows
    refine (seq_nx (e1 := E none none none none) (M1 := Mm M []) rfl).trans ?_
    refine (seq_nx ((for_eq (enm_lst (xs := l.map .str) (M1 := Mm M []) rfl)).trans hf)).trans ?_
    refine ret_ok' ?_
    have v2 : eVar 2 (E x3 x4 x5 x6) (Mm M3 rows) = .ok (.ref M.length) (Mm M3 rows) := rfl
    have a3 : (Mm M3 rows)[M.length]? = some (some (.lst (rows.map PRow.tp))) := by simp only [Mm, ← l3]; exact app_at _ _
    simp only [eFrz, v2, Res.bind, frz, a3]
    simp only [Mm, ← l3, app_set]
  rw [run_rt (np := 2) rfl body]
  exact g3.fin (by simp only [below]; exact belows_map (fun r => rfl) _)
end Pd
set_option maxHeartbeats 2000000
namespace Pd
open PySem PySem.Spec L2
def UNM : List Str := NMS.flatten
theorem unm_name {x : Str} (h : x ∈ UNM) : nameB x := by
  have k : ∀ p ∈ UNM, (Nat.blt 0 p.length && Nat.ble p.length 4) = true ∧ decide (p = "also") = false ∧ (p.cps.toList.all fun c => decide (c ∈ ("abcdefghijklmnopqrstuvwxyz" : Str).cps.toList)) = true := by
    intro p hp
    simp only [UNM, NMS, List.flatten_cons, List.flatten_nil, List.cons_append, List.nil_append, List.append_nil, List.mem_cons, List.not_mem_nil, or_false] at hp
    rcases hp with rfl | rfl | rfl | rfl | rfl | rfl | rfl | rfl | rfl | rfl | rfl | rfl | rfl | rfl | rfl | rfl <;> exact ⟨rfl, rfl, rfl⟩
  obtain ⟨k1, k2, k3⟩ := k x h
  simp only [Bool.and_eq_true] at k1
  refine ⟨⟨Nat.le_of_ble_eq_true k1.1, Nat.le_of_ble_eq_true k1.2⟩, of_decide_eq_false k2, fun c hc => ?_⟩
  exact of_decide_eq_true (List.all_eq_true.mp k3 c hc)
theorem rowIn.good {l : List Str} {r : PRow} (hl : ∀ x ∈ l, x ∈ UNM) (h : rowIn l r) : r.good := ⟨unm_name (hl _ h.1), h.2.1, h.2.2.1, unm_name (hl _ h.2.2.2)⟩
def RuleGenOk (f : Fn) : Prop := ∀ (M : Mem) (n : Nat) (k : Int), BxAt M n → 1 ≤ k → k ≤ 100 → ∃ (l : List Str) (first : Str) (rows : List PRow) (M1 : Mem), f [.ref n, .int k] M = .ok (lawA first rows) M1 ∧ Gen n M M1 ∧ l.length ≤ 4 ∧ (∀ x ∈ l, x ∈ UNM) ∧ first ∈ l ∧ (∀ r ∈ rows, rowIn l r) ∧ rows.length ≤ k.toNat
theorem ch_at {ch : Fn} (hc : ChooseOk ch) {e : Env} {M : Mem} {n i : Nat} {k : Int} {ev : Ev} (hi : e[i]? = some (some (.ref n))) (hM : BxAt M n) (hv : ev e M = .ok (.int k) M) (k1 : 1 ≤ k) (k2 : k < 1073741824) : ∃ r M1, eCallB (defl ch []) (aCons (eVar i) (aCons ev aNil)) e M = .ok (.int r) M1 ∧ Gen n M M1 ∧ 0 ≤ r ∧ r < k := by
  obtain ⟨r, M1, h1, h2⟩ := hc M n k hM k1 k2
  exact ⟨r, M1, (call2 hi hv).trans h1, h2⟩
theorem tps_below (n : Nat) (rows : List PRow) : belows n (rows.map PRow.tp) = true := belows_map (fun _ => rfl) _
theorem rule_ok {en : En} {ch ar fr nm : Fn} (h : EnOk en) (hc : ChooseOk ch) (ha : AnyRowOk ar) (hf : FairOk fr) (hn : NamesOk nm) : RuleGenOk (runF 2 8 (s_f_law_rule en ch ar fr nm)) := by
  intro M n k hM k1 k2
  let E : Option Av → Option Av → Option Av → Option Av → Option Av → Option Av → Env := fun x2 x3 x4 x5 x6 x7 => [some (.ref n), some (.int k), x2, x3, x4, x5, x6, x7]
  -- the names
  obtain ⟨L, M1, q1, g1, hL⟩ := hn M n hM
  have b1 := g1.at_ hM
  obtain ⟨r, M2, q2, g2, r0, r1⟩ := ch_at hc (e := E none none none none none none) (i := 0) (ev := eC (.int 4)) rfl b1 rfl (by decide) (by decide)
  have b2 := g2.at_ b1
  have gg2 := g1.trans g2
  let l := L.take (1 + r).toNat
  have hL4 : L.length = 4 := by
    simp only [NMS, List.mem_cons, List.not_mem_nil, or_false] at hL
    rcases hL with rfl | rfl | rfl | rfl <;> rfl
  have hlU : ∀ x ∈ l, x ∈ UNM := fun x hx => List.mem_flatten.mpr ⟨L, hL, List.mem_of_mem_take hx⟩
  have hll : l.length = (1 + r).toNat := by simp only [l, List.length_take]; omega
  have hl4 : l.length ≤ 4 := by omega
  have hlne : l ≠ [] := by intro z; rw [z] at hll; simp at hll; omega
  have lp : 0 < l.length := List.length_pos_iff.mpr hlne
  have s2 : sSet 2 (eSl (eCallB (defl nm []) (aCons (eVar 0) aNil)) oNone (oSome (eBin en.add (eC (.int 1)) (eCallB (defl ch []) (aCons (eVar 0) (aCons (eC (.int 4)) aNil)))))) (E none none none none none none) M = .nx (E (some (nmA l)) none none none none none) M2 := by
    refine (set_ok' (v := nmA l) (M1 := M2) ?_).trans rfl
    have c1 : eCallB (defl nm []) (aCons (eVar 0) aNil) (E none none none none none none) M = .ok (nmA L) M1 := xcall_ok (xac_ok (a := .ref n) rfl xan_ok) (by rw [defl_nil]; exact q1)
    have c2 : eBin en.add (eC (.int 1)) (eCallB (defl ch []) (aCons (eVar 0) (aCons (eC (.int 4)) aNil))) (E none none none none none none) M1 = .ok (.int (1 + r)) M2 := xbin_ok (a := .int 1) rfl q2 (h.add_int _ _ _)
    have c3 : opSl (nmA L) none (some (1 + r)) M2 = .ok (nmA l) M2 := by
      show Res.ok (Av.lst (cutA (L.map .str) none (some (1 + r)))) M2 = _
      rw [cut_to (by omega), ← List.map_take]
      rfl
    simp only [eSl, c1, oNone, oSome, Res.bind, c2, c3]
  -- fair rows
  obtain ⟨rows0, M3, q3, g3, hR0, hl0⟩ := hf M2 n l b2 hlne (by omega)
  have b3 := g3.at_ b2
  have gg3 := gg2.trans g3
  let A : List PRow → Option Av := fun rows => some (.lst (rows.map PRow.tp))
  have s3 : sSet 3 (eCallB (defl fr []) (aCons (eVar 0) (aCons (eVar 2) aNil))) (E (some (nmA l)) none none none none none) M2 = .nx (E (some (nmA l)) (A rows0) none none none none) M3 := (set_ok' ((call2 (a := .ref n) (v := nmA l) rfl rfl).trans q3)).trans rfl
  -- any rows
  let E3 := E (some (nmA l)) (A rows0) none none none none
  obtain ⟨d, M4, q4, g4, d0, d1⟩ := ch_at hc (e := E3) (i := 0) (ev := eC (.int 3)) rfl b3 rfl (by decide) (by decide)
  have b4 := g4.at_ b3
  have gg4 := gg3.trans g4
  have s4 : ∃ rows1 M5, sIf (tCmpA en.eq (eCallB (defl ch []) (aCons (eVar 0) (aCons (eC (.int 3)) aNil))) (eC (.int 0)))
      (sSet 3 (eLc false (iRng1A (aCons (eCallB (defl ch []) (aCons (eVar 0) (aCons (eBin en.add (eVar 1) (eC (.int 1))) aNil))) aNil)) (gNm 4) tYesA (eCallB (defl ar []) (aCons (eVar 0) (aCons (eVar 2) aNil))) [4])) sPass E3 M3 = .nx (E (some (nmA l)) (A rows1) none none none none) M5 ∧ Gen n M M5 ∧ (∀ r ∈ rows1, rowIn l r) ∧ rows1.length ≤ 100 := by
    by_cases hd : d = 0
    · obtain ⟨m, M5, q5, g5, m0, m1⟩ := ch_at hc (e := E3) (i := 0) (ev := eBin en.add (eVar 1) (eC (.int 1))) (k := k + 1) rfl b4 (xbin_ok (a := .int k) (b := .int 1) rfl rfl (h.add_int _ _ _)) (by omega) (by omega)
      have b5 := g5.at_ b4
      have h0 : iRng1A (aCons (eCallB (defl ch []) (aCons (eVar 0) (aCons (eBin en.add (eVar 1) (eC (.int 1))) aNil))) aNil) E3 M4 = .ok (.rng 0 m.toNat) M5 := by
        have sm : small62 m = true := by simp [small62]; omega
        have := xac_ok q5 (xan_ok (e := E3) (M := M5))
        simp only [iRng1A, this, Res.bind, sm, if_true]
      have hln : (Ik.rng 0 m.toNat).items.length = m.toNat := rngA_length _ _
      obtain ⟨M6, acc, h1, rows1, rfl, g6, hR1, hl1⟩ := lc_inv (M1 := M5) (g := gNm 4) (t := tYesA) (f := eCallB (defl ar []) (aCons (eVar 0) (aCons (eVar 2) aNil))) (vs := [4]) (e := E3) (fun i M' acc => ∃ rows : List PRow, acc = rows.map PRow.tp ∧ Gen n M5 M' ∧ (∀ r ∈ rows, rowIn l r) ∧ rows.length = i) h0 ⟨[], rfl, Gen.refl b5, by simp, rfl⟩ (fun i M' acc ⟨_, _, g, _⟩ => g.len) (fun i M' acc _ => rfl) (by rw [hln]; omega) (fun i M' acc ⟨rows, e, _, _, hl⟩ => by rw [e]; simp; omega)
        (fun i x M' acc hx ⟨rows, e, g, hR, hl⟩ => by
          subst e
          have b6 : BxAt (M' ++ [some (Mo.lst (rows.map PRow.tp))]) n := (g.at_ b5).app
          obtain ⟨rr, M7', q7, g7', hr⟩ := ha _ n l b6 hlne (by omega)
          obtain ⟨M7, g7, rfl⟩ := Gen.app (g.at_ b5) g7'
          refine ⟨_, rfl, .inr ⟨M', rr.tp, M7, rfl, (call2 (a := .ref n) (v := nmA l) rfl rfl).trans q7, rows ++ [rr], by simp, g.trans g7, ?_, by simp [hl]⟩⟩
          intro r hr'
          rcases List.mem_append.mp hr' with hh | hh
          · exact hR _ hh
          · simp at hh; rw [hh]; exact hr)
        (fun M' acc ⟨rows, e, g, hR, hl⟩ => by
          subst e
          exact ⟨g.cut _, tps_below _ _⟩)
      refine ⟨rows1, M6, ?_, (gg4.trans g5).trans g6, hR1, by omega⟩
      refine (if_t (xcmp_ok q4 (b := .int 0) rfl (by rw [h.eq_int, decide_eq_true hd]))).trans ?_
      exact (set_ok' h1).trans rfl
    · refine ⟨rows0, M4, ?_, gg4, hR0, by omega⟩
      exact if_no (xcmp_ok q4 (b := .int 0) rfl (by rw [h.eq_int, decide_eq_false hd]))
  obtain ⟨rows1, M5, s4, g5, hR1, hl1⟩ := s4
  have b5 := g5.at_ hM
  -- changes
  let E5 := E (some (nmA l)) (A rows1) none none none none
  obtain ⟨c, M6, q6, g6, c0, c1⟩ := ch_at hc (e := E5) (i := 0) (ev := eC (.int 3)) rfl b5 rfl (by decide) (by decide)
  have gg6 := g5.trans g6
  have hri : iRng1A (aCons (eCallB (defl ch []) (aCons (eVar 0) (aCons (eC (.int 3)) aNil))) aNil) E5 M5 = .ok (.rng 0 c.toNat) M6 := by
    have sm : small62 c = true := by simp [small62]; omega
    have := xac_ok q6 (xan_ok (e := E5) (M := M6))
    simp only [iRng1A, this, Res.bind, sm, if_true]
  let B : Es := (sSeq (sSet 5 (eCallB (defl ch []) (aCons (eVar 0) (aCons (eBin en.add (eCallB en.len (aCons (eVar 3) aNil)) (eC (.int 1))) aNil))))
    (sSeq (sSet 6 (eCallB (defl ch []) (aCons (eVar 0) (aCons (eC (.int 3)) aNil))))
    (sSeq (sSet 7 (eIf (tCmpA (opCmp fun i j => decide (j < i)) (eVar 6) (eC (.int 0))) (eLst (aCons (eCallB (defl ar []) (aCons (eVar 0) (aCons (eVar 2) aNil))) aNil)) (eLst aNil)))
    (sSet 3 (eBin en.add (eBin en.add (eSl (eVar 3) oNone (oSome (eVar 5))) (eVar 7)) (eSl (eVar 3) (oSome (eBin en.add (eVar 5) (eCallB opInt (aCons (eBin (opCmp fun i j => decide (i < j)) (eVar 6) (eC (.int 2))) aNil)))) oNone))))))
  let J : Nat → Env → Mem → Prop := fun i e M' => ∃ x4 x5 x6 x7 rows, e = E (some (nmA l)) (A rows) x4 x5 x6 x7 ∧ Gen n M M' ∧ (∀ r ∈ rows, rowIn l r) ∧ rows.length ≤ 100 + i ∧ i ≤ c.toNat
  have hln : (Ik.rng 0 c.toNat).items.length = c.toNat := rngA_length _ _
  obtain ⟨e7, M7, hfor, x4, x5, x6, x7, rows, rfl, g7, hR, hrl, _⟩ := for_go (k := .rng 0 c.toNat) (g := gNm 4) (body := B) J (fun _ _ _ _ => rfl) (fun i x e M' hx hJ => by
    obtain ⟨x4, x5, x6, x7, rows, rfl, g, hR, hrl, hic⟩ := hJ
    have hlt : i < c.toNat := by
      have := (List.getElem?_eq_some_iff.mp hx).1
      omega
    refine ⟨E (some (nmA l)) (A rows) (some x) x5 x6 x7, rfl, ?_⟩
    let Ea := E (some (nmA l)) (A rows) (some x) x5 x6 x7
    have ba := g.at_ hM
    have hlen : ∀ M', en.len [.lst (rows.map PRow.tp)] M' = .ok (.int (rows.length : Nat)) M' := by
      intro M'
      rw [h.len _ _ rfl]; simp only [opLen, asQ, List.length_map]
    obtain ⟨p, Ma, qa, ga, p0, p1⟩ := ch_at hc (e := Ea) (M := M') (i := 0) (ev := eBin en.add (eCallB en.len (aCons (eVar 3) aNil)) (eC (.int 1))) (k := (rows.length : Int) + 1) rfl ba (xbin_ok (xcall_ok (xac_ok (a := .lst (rows.map PRow.tp)) rfl xan_ok) (hlen _)) (b := .int 1) rfl (h.add_int _ _ _)) (by omega) (by omega)
    have bb := ga.at_ ba
    let Eb := E (some (nmA l)) (A rows) (some x) (some (.int p)) x6 x7
    obtain ⟨w, Mb, qb, gb, w0, w1⟩ := ch_at hc (e := Eb) (M := Ma) (i := 0) (ev := eC (.int 3)) rfl bb rfl (by decide) (by decide)
    have bc := gb.at_ bb
    let Ec := E (some (nmA l)) (A rows) (some x) (some (.int p)) (some (.int w)) x7
    have s7 : ∃ (ex : List PRow) (Mc : Mem), eIf (tCmpA (opCmp fun i j => decide (j < i)) (eVar 6) (eC (.int 0))) (eLst (aCons (eCallB (defl ar []) (aCons (eVar 0) (aCons (eVar 2) aNil))) aNil)) (eLst aNil) Ec Mb = .ok (.lst (ex.map PRow.tp)) Mc ∧ Gen n Mb Mc ∧ (∀ r ∈ ex, rowIn l r) ∧ ex.length ≤ 1 := by
      by_cases hw : 0 < w
      · obtain ⟨rr, Mc, qc, gc, hr⟩ := ha Mb n l bc hlne (by omega)
        refine ⟨[rr], Mc, ?_, gc, by simpa using hr, by simp⟩
        refine eif_t (M1 := Mb) (xcmp_ok (a := .int w) (b := .int 0) rfl rfl (by simp only [opCmp]; rw [decide_eq_true hw])) ?_
        exact xlst_ok (xac_ok ((call2 (a := .ref n) (v := nmA l) rfl rfl).trans qc) xan_ok) (Nat.le_of_ble_eq_true rfl)
      · refine ⟨[], Mb, ?_, Gen.refl bc, by simp, by simp⟩
        exact eif_f (M1 := Mb) (xcmp_ok (a := .int w) (b := .int 0) rfl rfl (by simp only [opCmp]; rw [decide_eq_false hw])) rfl
    obtain ⟨ex, Mc, q7, gc, hex, hexl⟩ := s7
    let Ed := E (some (nmA l)) (A rows) (some x) (some (.int p)) (some (.int w)) (some (.lst (ex.map PRow.tp)))
    let o : Int := if w < 2 then 1 else 0
    have o0 : 0 ≤ o ∧ o ≤ 1 := by simp only [o]; split <;> omega
    let rows' := (rows.take p.toNat ++ ex) ++ rows.drop (p + o).toNat
    have v3 : ∀ M', eVar 3 Ed M' = .ok (.lst (rows.map PRow.tp)) M' := fun _ => rfl
    have v5 : ∀ M', eVar 5 Ed M' = .ok (.int p) M' := fun _ => rfl
    have t1 : eSl (eVar 3) oNone (oSome (eVar 5)) Ed Mc = .ok (.lst ((rows.take p.toNat).map PRow.tp)) Mc := by
      have : opSl (.lst (rows.map PRow.tp)) none (some p) Mc = .ok (.lst ((rows.take p.toNat).map PRow.tp)) Mc := by
        show Res.ok (Av.lst (cutA (rows.map PRow.tp) none (some p))) Mc = _
        rw [cut_to p0, ← List.map_take]
      simp only [eSl, v3, oNone, oSome, v5, Res.bind, this]
    have ob : ∀ M', eCallB opInt (aCons (eBin (opCmp fun i j => decide (i < j)) (eVar 6) (eC (.int 2))) aNil) Ed M' = .ok (.int o) M' := by
      intro M'
      refine xcall_ok (xac_ok (a := .bl (decide (w < 2))) rfl xan_ok) ?_
      simp only [opInt, o]
      by_cases hw : w < 2 <;> simp [hw]
    have t2 : eSl (eVar 3) (oSome (eBin en.add (eVar 5) (eCallB opInt (aCons (eBin (opCmp fun i j => decide (i < j)) (eVar 6) (eC (.int 2))) aNil)))) oNone Ed Mc = .ok (.lst ((rows.drop (p + o).toNat).map PRow.tp)) Mc := by
      have t : eBin en.add (eVar 5) (eCallB opInt (aCons (eBin (opCmp fun i j => decide (i < j)) (eVar 6) (eC (.int 2))) aNil)) Ed Mc = .ok (.int (p + o)) Mc := xbin_ok (v5 _) (ob _) (h.add_int _ _ _)
      have : opSl (.lst (rows.map PRow.tp)) (some (p + o)) none Mc = .ok (.lst ((rows.drop (p + o).toNat).map PRow.tp)) Mc := by
        show Res.ok (Av.lst (cutA (rows.map PRow.tp) (some (p + o)) none)) Mc = _
        rw [cut_from (by omega), ← List.map_drop]
      simp only [eSl, v3, oNone, oSome, t, Res.bind, this]
    have addl : ∀ (as bs : List PRow) (M' : Mem), as.length + bs.length ≤ 1000 → en.add (.lst (as.map PRow.tp)) (.lst (bs.map PRow.tp)) M' = .ok (.lst ((as ++ bs).map PRow.tp)) M' := by
      intro as bs M' hab
      rw [h.add _ _ _ rfl]
      simp only [opAdd, asL]
      rw [if_pos (szOk_of (by simp; omega)), List.map_append]
    have lt : (rows.take p.toNat).length ≤ p.toNat := by simp; omega
    have ld : (rows.drop (p + o).toNat).length = rows.length - (p + o).toNat := List.length_drop ..
    refine ⟨E (some (nmA l)) (A rows') (some x) (some (.int p)) (some (.int w)) (some (.lst (ex.map PRow.tp))), Mc, .inl ?_, _, _, _, _, rows', rfl, ((g.trans ga).trans gb).trans gc, ?_, ?_, hlt⟩
    · refine (seq_nx (e1 := Eb) (M1 := Ma) ((set_ok' qa).trans rfl)).trans ?_
      refine (seq_nx (e1 := Ec) (M1 := Mb) ((set_ok' qb).trans rfl)).trans ?_
      refine (seq_nx (e1 := Ed) (M1 := Mc) ((set_ok' q7).trans rfl)).trans ?_
      refine (set_ok' (v := .lst (rows'.map PRow.tp)) (M1 := Mc) ?_).trans rfl
      exact xbin_ok (xbin_ok t1 (b := .lst (ex.map PRow.tp)) rfl (addl _ _ _ (by omega))) t2 (addl _ _ _ (by simp only [List.length_append]; omega))
    · intro r hr
      simp only [rows', List.mem_append] at hr
      rcases hr with (hr | hr) | hr
      · exact hR _ (List.mem_of_mem_take hr)
      · exact hex _ hr
      · exact hR _ (List.mem_of_mem_drop hr)
    · simp only [rows', List.length_append]
      omega) (e := E5) (M := M6) ⟨none, none, none, none, rows1, rfl, gg6, hR1, by omega, Nat.zero_le _⟩
  have hf0 : l[0]? = some l[0] := List.getElem?_eq_getElem lp
  refine ⟨l, l[0], rows.take k.toNat, M7, ?_, g7, hl4, hlU, List.getElem_mem lp, fun r hr => hR _ (List.mem_of_mem_take hr), by simp; omega⟩
  have body : s_f_law_rule en ch ar fr nm ([.ref n, .int k].map some ++ List.replicate (8 - 2) none) M = .rt (lawA l[0] (rows.take k.toNat)) M7 := by
    show s_f_law_rule en ch ar fr nm (E none none none none none none) M = _
    unfold s_f_law_rule
    refine (seq_nx s2).trans ((seq_nx s3).trans ((seq_nx s4).trans ((seq_nx ((for_eq hri).trans hfor)).trans ?_)))
    let E7 := E (some (nmA l)) (A rows) x4 x5 x6 x7
    refine ret_ok' (xfrz_ok (xtup_ok (xac_ok (xbin_ok (a := nmA l) (b := .int 0) rfl rfl (ix_ok h (atI_nat (k := 0) (by rw [List.getElem?_map, hf0]; rfl)))) (xac_ok ?_ xan_ok)) (Nat.le_of_ble_eq_true rfl)) rfl)
    have t1 : eSl (eVar 3) oNone (oSome (eVar 1)) E7 M7 = .ok (.lst ((rows.take k.toNat).map PRow.tp)) M7 := by
      have : opSl (.lst (rows.map PRow.tp)) none (some k) M7 = .ok (.lst ((rows.take k.toNat).map PRow.tp)) M7 := by
        show Res.ok (Av.lst (cutA (rows.map PRow.tp) none (some k))) M7 = _
        rw [cut_to (by omega), ← List.map_take]
      have v3 : eVar 3 E7 M7 = .ok (.lst (rows.map PRow.tp)) M7 := rfl
      have v1 : eVar 1 E7 M7 = .ok (.int k) M7 := rfl
      simp only [eSl, v3, oNone, oSome, v1, Res.bind, this]
    exact xcall_ok (xac_ok t1 xan_ok) rfl
  rw [run_rt (np := 2) rfl body]
  exact fin_same g7.len
end Pd
set_option maxHeartbeats 2000000
namespace Pd
open PySem PySem.Spec L2
theorem lc_gen {α : Type} {fi : Ei} {k : Ik} {g : Eg} {t : Et} {f : Ev} {vs : List Nat} {e : Env} {M0 M1 : Mem} (l : List α) (src : α → Av) (p : α → Bool) (φ : α → Av) (h0 : fi e M0 = .ok k M1) (hk : k.items = l.map src) (hst : ∀ acc, k.stay (M1 ++ [some (.lst acc)]) = true) (hn : l.length ≤ 100000)
    (hstep : ∀ x acc, x ∈ l → ∃ e1, g (src x) (wipeA e vs) (M1 ++ [some (.lst acc)]) = some e1 ∧ t e1 (M1 ++ [some (.lst acc)]) = .ok (p x) (M1 ++ [some (.lst acc)]) ∧ (p x = true → f e1 (M1 ++ [some (.lst acc)]) = .ok (φ x) (M1 ++ [some (.lst acc)])))
    (hb : ∀ x ∈ l, below M1.length (φ x) = true) : eLc false fi g t f vs e M0 = .ok (.lst ((l.filter p).map φ)) M1 := by
  have bl : ∀ m : List α, (∀ x ∈ m, x ∈ l) → belows M1.length (m.map φ) = true := by
    intro m
    induction m with
    | nil => intro _; rfl
    | cons x m ih => intro hm; simp only [List.map_cons, belows, hb x (hm x (by simp)), ih (fun y hy => hm y (by simp [hy])), Bool.and_self]
  obtain ⟨M2, acc, h1, h2, rfl⟩ := lc_inv (k := k) (M1 := M1) (g := g) (t := t) (f := f) (vs := vs) (e := e) (fun i M acc => acc = ((l.take i).filter p).map φ ∧ M = M1) h0 ⟨by simp, rfl⟩ (fun i M acc h => by rw [h.2]) (fun i M acc h => by rw [h.2]; exact hst _) (by rw [hk, List.length_map]; exact hn)
    (fun i M acc h => by
      rw [h.1, List.length_map]
      exact Nat.le_trans (List.length_filter_le _ _) (by simp; omega))
    (fun i x M acc hx h => by
      obtain ⟨ha, rfl⟩ := h
      rw [hk, List.getElem?_map] at hx
      cases q : l[i]? with
      | none => rw [q] at hx; cases hx
      | some y =>
        rw [q] at hx
        cases hx
        obtain ⟨e1, q1, q2, q3⟩ := hstep y acc (List.mem_of_getElem? q)
        have tk : l.take (i + 1) = l.take i ++ [y] := by rw [List.take_add_one, q]; rfl
        refine ⟨e1, q1, ?_⟩
        cases hp : p y with
        | false =>
          rw [hp] at q2
          refine .inl ⟨_, q2, ?_, rfl⟩
          rw [tk, List.filter_append, ha]; simp [hp]
        | true =>
          rw [hp] at q2
          refine .inr ⟨_, φ y, _, q2, q3 hp, ?_, rfl⟩
          rw [tk, List.filter_append, ha]; simp [hp])
    (fun M acc h => by
      obtain ⟨ha, rfl⟩ := h
      refine ⟨cutL_refl _ _ _, ?_⟩
      rw [ha]
      exact bl _ (fun x hx => List.mem_of_mem_take (List.mem_filter.mp hx).1))
  rw [h1, h2, hk, List.length_map, List.take_length]
end Pd
set_option maxHeartbeats 2000000
namespace Pd
open PySem PySem.Spec L2
structure LSt where
  w : Int
  taken : List Int
  mode : Str
  p : Int
def IntsAt (a : Av) (xs : List Int) : Prop := a = .tup (xs.map .int) ∨ a = .lst (xs.map .int)
theorem IntsAt.q {a : Av} {xs : List Int} (h : IntsAt a xs) (M : Mem) : asQ M a = some (xs.map .int) := by
  rcases h with rfl | rfl <;> rfl
end Pd
set_option maxHeartbeats 2000000
namespace Pd
open PySem PySem.Spec L2
def pI : Option Int → Int
  | none => -1
  | some p => p
def PtrIn (n : Int) (ptr : Option Int) : Prop := ∀ p, ptr = some p → 0 ≤ p ∧ p < n
structure RR (n : Int) (s : LSt) (d : RSt) : Prop where
  w : s.w = pI d.done
  d0 : ∀ i, d.done = some i → 0 ≤ i
  t : ∀ x, x ∈ s.taken ↔ x ∈ d.grants
  nd : s.taken.Nodup
  m : s.mode = d.mode
  p : s.p = pI d.ptr
  pin : PtrIn n d.ptr
theorem RR.sorted {n : Int} {s : LSt} {d : RSt} (h : RR n s d) : sortL ltI s.taken = sortU ltI d.grants := by
  refine uniqU slo_I (pw_strict slo_I (pw_sortL slo_I _) ((perm_sortL _).nodup_iff.mpr h.nd)) (pw_sortU slo_I _) fun z => ?_
  rw [mem_sortU slo_I, (perm_sortL s.taken).mem_iff]
  exact h.t z
structure PW (n : Int) (s : PSt) : Prop where
  l1 : s.modes.length = s.done.length
  l2 : s.ptrs.length = s.done.length
  l3 : s.grants.length = s.done.length
  pin : PtrIn n s.ptr
  pins : ∀ p ∈ s.ptrs, PtrIn n p
  dn : ∀ d ∈ s.done, ∀ i, d = some i → 0 ≤ i
end Pd
set_option maxHeartbeats 2000000
namespace Pd
open PySem PySem.Spec L2
theorem RL.pairs {k : Int} {rs : List Av} {xss : List (List Int)} (h : RL k rs xss) : ∃ prs : List (Av × List Int), rs = prs.map (·.1) ∧ xss = prs.map (·.2) ∧ ∀ q ∈ prs, IntsAt q.1 q.2 ∧ RoundIn k q.2 := by
  induction h with
  | nil => exact ⟨[], rfl, rfl, by simp⟩
  | @cons a xs l m h _ ih =>
    obtain ⟨prs, rfl, rfl, hq⟩ := ih
    refine ⟨(a, xs) :: prs, rfl, rfl, ?_⟩
    intro q hq'
    rcases List.mem_cons.mp hq' with rfl | h'
    · exact h
    · exact hq q h'
theorem filter_yes {α : Type} (l : List α) : l.filter (fun _ => true) = l := List.filter_eq_self.mpr fun _ _ => rfl
theorem IntsAt.below {a : Av} {xs : List Int} (h : IntsAt a xs) (n : Nat) : below n a = true := by
  rcases h with rfl | rfl <;> (simp only [Pd.below]; exact belows_ints _ _)
theorem rng_item {m i : Nat} {x : Av} (h : (Ik.rng 0 m).items[i]? = some x) : x = .int (i : Int) ∧ i < m := by
  have h : (rngA 0 m)[i]? = some x := h
  have hi : i < m := by
    have := (List.getElem?_eq_some_iff.mp h).1
    rw [rngA_length] at this
    exact this
  rw [rngA_get m i 0 hi] at h
  cases h
  exact ⟨by congr 1; omega, hi⟩
theorem fin_true {M : Mem} : ∃ M1, finF [] (.bl true) M = .ok (.bl true) M1 := by
  unfold finF
  split
  · exact ⟨_, rfl⟩
  · split
    · exact ⟨_, rfl⟩
    · exact ⟨_, rfl⟩
end Pd
set_option maxHeartbeats 2000000
namespace Pd
open PySem PySem.Spec L2
end Pd
set_option maxHeartbeats 2000000
namespace Pd
open PySem PySem.Spec L2
def okV : Av → Bool
  | .str x => szOk x.length && PyData.strOk x
  | .non => true
  | .bl _ => true
  | .int _ => true
  | .lst _ => true
  | .tup _ => true
  | .obj _ _ _ => true
  | _ => false
theorem okV_sz {x : Str} (h : okV (.str x) = true) : szOk x.length = true := by
  simp only [okV, Bool.and_eq_true] at h; exact h.1
theorem okV_st {x : Str} (h : okV (.str x) = true) : PyData.strOk x = true := by
  simp only [okV, Bool.and_eq_true] at h; exact h.2
theorem strOk_one {x : Str} (h : PyData.strOk x = true) {c : Nat} (hc : c ∈ x.cps.toList) : PyData.strOk ⟨#[c]⟩ = true := by
  refine strOk_of fun d hd => ?_
  have e : d = c := by simpa using hd
  subst e
  unfold PyData.strOk at h
  rw [← Array.all_toList, List.all_eq_true] at h
  exact of_decide_eq_true (h d hc)
def LETTERS : Str := "abcdefghijklmnopqrstuvwxyz"
def letterB (c : Nat) : Bool := decide (c ∈ LETTERS.cps.toList)
def nameb (x : Str) : Bool := decide (0 < x.length) && decide (x.length ≤ 4) && !decide (x = "also") && x.cps.toList.all letterB
theorem nameb_iff {x : Str} : nameb x = true ↔ nameB x := by
  have q : ∀ c, letterB c = true ↔ c ∈ ("abcdefghijklmnopqrstuvwxyz" : Str).cps.toList := fun c => ⟨fun h => of_decide_eq_true h, fun h => decide_eq_true h⟩
  simp only [nameb, nameB, Bool.and_eq_true, decide_eq_true_eq, Bool.not_eq_true', decide_eq_false_iff_not, List.all_eq_true, q]
  constructor
  · intro ⟨⟨h1, h2⟩, h3⟩; exact ⟨h1, h2, h3⟩
  · intro ⟨h1, h2, h3⟩; exact ⟨⟨h1, h2⟩, h3⟩
def isNm : Av → Bool
  | .str x => nameb x
  | _ => false
def isS : Av → Bool
  | .str _ => true
  | _ => false
def isBl : Av → Bool
  | .bl _ => true
  | _ => false
theorem isi_str {v : Av} (h : okV v = true) (M : Mem) : opIsi [v, .ty .str] M = .ok (.bl (isS v)) M := by
  cases v <;> first | rfl | cases h
theorem isi_bool {v : Av} (h : okV v = true) (M : Mem) : opIsi [v, .ty .bool] M = .ok (.bl (isBl v)) M := by
  cases v <;> first | rfl | cases h
def NameB (f : Fn) : Prop := ∀ (v : Av) (M : Mem), okV v = true → f [v] M = .ok (.bl (isNm v)) M
theorem chars_lc {en : En} (h : EnOk en) {e : Env} {M : Mem} {x : Str} (h0 : iSeq (eVar 0) e M = .ok (.chs x) M) (hl : x.length ≤ 100000) (he : 1 < e.length) :
    eLc false (iSeq (eVar 0)) (gNm 1) tYesA (eBin en.inn (eVar 1) (eC (.str "abcdefghijklmnopqrstuvwxyz"))) [1] e M = .ok (.lst ((x.cps.toList.map letterB).map .bl)) M := by
  have hm : (Ik.chs x).items = x.cps.toList.map fun c => .str ⟨#[c]⟩ := rfl
  have := lc_gen (g := gNm 1) (t := tYesA) (f := eBin en.inn (eVar 1) (eC (.str "abcdefghijklmnopqrstuvwxyz"))) (vs := [1]) (e := e) x.cps.toList (fun c => .str ⟨#[c]⟩) (fun _ => true) (fun c => .bl (letterB c)) h0 hm (fun acc => rfl)
    (by have : x.cps.size = x.length := rfl; simp only [Array.length_toList]; omega) (fun c acc hc => by
      refine ⟨_, rfl, rfl, fun _ => ?_⟩
      have e1 : eVar 1 ((wipeA e [1]).set 1 (some (.str ⟨#[c]⟩))) (M ++ [some (.lst acc)]) = .ok (.str ⟨#[c]⟩) (M ++ [some (.lst acc)]) := var_set (by simpa [wipeA] using he)
      have e2 : one? (⟨#[c]⟩ : Str) = some c := rfl
      simp only [eBin, eC, e1, Res.bind]
      rw [h.inn _ _ _ (by simp)]
      simp only [opIn, e2]
      rfl) (fun _ _ => rfl)
  rw [this, filter_yes, List.map_map]
  rfl
theorem is_name_b {en : En} (h : EnOk en) : NameB (runF 1 2 (s_f_is_name en)) := by
  intro v M hv
  let E : Env := [some v, none]
  have v0 : eVar 0 E M = .ok v M := rfl
  have isi := isi_str hv M
  cases hs : isS v with
  | false =>
    rw [hs] at isi
    have body : s_f_is_name en ([v].map some ++ List.replicate (2 - 1) none) M = .rt (.bl false) M := by
      show s_f_is_name en E M = _
      unfold s_f_is_name
      refine seq_rt ((if_t (M1 := M) ?_).trans rfl)
      simp [tOrA, tNotA, tVal, eCallB, aCons, aNil, eC, v0, Res.bind, isi, truA]
    rw [run_rt (np := 1) rfl body, show isNm v = false by cases v <;> first | rfl | cases hs]
    exact fin_same rfl
  | true =>
    obtain ⟨x, rfl⟩ : ∃ x, v = .str x := by cases v <;> first | cases hs; done | exact ⟨_, rfl⟩
    rw [hs] at isi
    have sz : szOk x.length = true := okV_sz hv
    have len : en.len [.str x] M = .ok (.int x.length) M := by
      rw [h.len _ _ rfl]
      simp only [opLen, sz, if_true]
    have inn : en.inn (.str x) (.tup [.str "also"]) M = .ok (.bl (decide (x = "also"))) M := by
      have := h.in_strs x ["also"] M
      rw [show decide (x ∈ [("also" : Str)]) = decide (x = "also") by simp] at this
      exact this
    by_cases c1 : (0 < x.length ∧ x.length ≤ 4) ∧ x ≠ "also"
    · obtain ⟨⟨c1, c2⟩, c3⟩ := c1
      have c1' : (0 : Int) < x.length := by omega
      have c2' : (x.length : Int) ≤ 4 := by omega
      have hlc := chars_lc h (e := E) (M := M) (x := x) (seq_str rfl sz) (by omega) (show 1 < 2 by decide)
      have ha : opAll [.lst ((x.cps.toList.map letterB).map .bl)] M = .ok (.bl (x.cps.toList.all letterB)) M := by
        simp only [opAll, asR, bls_map]
        congr 2
        simp [List.all_map]
      have body : s_f_is_name en ([.str x].map some ++ List.replicate (2 - 1) none) M = .rt (.bl (nameb x)) M := by
        show s_f_is_name en E M = _
        unfold s_f_is_name
        refine (seq_nx (e1 := E) (M1 := M) ((if_f (M1 := M) ?_).trans rfl)).trans ?_
        · simp [tOrA, tNotA, tVal, tBl, tCmpA, eChain, eCallB, aCons, aNil, eC, v0, Res.bind, isi, len, opCmp, inn, truA, c1', c2', c1, c2, c3, eBin]
        · refine ret_ok' ?_
          simp only [eFrz, eCallB, aCons, aNil, hlc, Res.bind, ha, frz]
          simp [nameb, c1, c2, c3]
      rw [run_rt (np := 1) rfl body]
      exact fin_same rfl
    · have body : s_f_is_name en ([.str x].map some ++ List.replicate (2 - 1) none) M = .rt (.bl false) M := by
        show s_f_is_name en E M = _
        unfold s_f_is_name
        refine seq_rt ((if_t (M1 := M) ?_).trans rfl)
        by_cases c2 : 0 < x.length
        · by_cases c3 : x.length ≤ 4
          · have c4 : x = "also" := by
              apply Classical.byContradiction
              intro z
              exact c1 ⟨⟨c2, c3⟩, z⟩
            have c4' : decide (x = "also") = true := decide_eq_true c4
            have c2' : (0 : Int) < x.length := by omega
            have c3' : (x.length : Int) ≤ 4 := by omega
            simp [tOrA, tNotA, tVal, tBl, tCmpA, eChain, eCallB, aCons, aNil, eC, v0, Res.bind, isi, len, opCmp, inn, truA, c2', c3', c2, c3, c4', eBin]
          · have c3' : ¬ (x.length : Int) ≤ 4 := by omega
            simp [tOrA, tNotA, tVal, tBl, tCmpA, eChain, eCallB, aCons, aNil, eC, v0, Res.bind, isi, len, opCmp, inn, truA, c3', c2, c3, eBin]
        · have c2' : ¬ (0 : Int) < x.length := by omega
          simp [tOrA, tNotA, tVal, tBl, tCmpA, eChain, eCallB, aCons, aNil, eC, v0, Res.bind, isi, len, opCmp, inn, truA, c2', c2, eBin]
      have : isNm (.str x) = false := by
        cases q : nameb x with
        | false => exact q
        | true =>
          have := nameb_iff.mp q
          exact absurd ⟨this.1, this.2.1⟩ c1
      rw [run_rt (np := 1) rfl body, this]
      exact fin_same rfl
theorem lst_nil {en : En} (h : EnOk en) {n : Nat} {ys : List Av} {ds : List PyData} (hs : All2 (SDT n) ys ds) (hn : n < 64) (M : Mem) : en.eq (.lst ys) (.lst []) M = .ok (.bl ys.isEmpty) M := by
  rw [h.eq _ _ _ rfl, eq_data false ((sdt_lst hs).sd M) ((sdt_lst .nil).sd M) (by omega) rfl]
  cases hs <;> rfl
end Pd
set_option maxHeartbeats 2000000
namespace Pd
open PySem PySem.Spec L2
def isWd (ys : List Str) : Av → Bool
  | .str x => decide (x ∈ ys)
  | _ => false
def WordB (f : Fn) : Prop := ∀ (v : Av) (ys : List Str) (M : Mem), okV v = true → f [v, .tup (ys.map .str)] M = .ok (.bl (isWd ys v)) M
theorem is_word_b {en : En} (h : EnOk en) : WordB (runF 2 2 (s_f_is_word en)) := by
  intro v ys M hv
  have v0 : eVar 0 [some v, some (.tup (ys.map .str))] M = .ok v M := rfl
  have v1 : eVar 1 [some v, some (.tup (ys.map .str))] M = .ok (.tup (ys.map .str)) M := rfl
  have isi := isi_str hv M
  have body : s_f_is_word en ([v, .tup (ys.map .str)].map some ++ List.replicate (2 - 2) none) M = .rt (.bl (isWd ys v)) M := by
    refine ret_ok' ?_
    show eFrz _ [some v, some (.tup (ys.map .str))] M = _
    cases hs : isS v with
    | false =>
      rw [hs] at isi
      rw [show isWd ys v = false by cases v <;> first | rfl | cases hs]
      simp [eFrz, eAnd, eBin, eCallB, aCons, aNil, eC, v0, v1, Res.bind, isi, frz]
    | true =>
      obtain ⟨x, rfl⟩ : ∃ x, v = .str x := by cases v <;> first | cases hs; done | exact ⟨_, rfl⟩
      have inn := h.in_strs x ys M
      rw [hs] at isi
      simp [eFrz, eAnd, eBin, eCallB, aCons, aNil, eC, v0, v1, Res.bind, isi, inn, frz, isWd]
  rw [run_rt (np := 2) rfl body]
  exact fin_same rfl
theorem seq_exc {f g : Es} {e e1 : Env} {M M1 : Mem} {k : Nat} {fs : List (Str × Av)} (h : f e M = .exc k fs e1 M1) : sSeq f g e M = .exc k fs e1 M1 := by unfold sSeq; rw [h]
theorem raise_ok' {g : Ea} {e : Env} {M M1 : Mem} {k : Nat} {n : Str} {v : Av} (h : g e M = .ok [v] M1) : sRaise k n g e M = .exc k [(n, v)] e M1 := by unfold sRaise; rw [h]; rfl
theorem run_exc {np N : Nat} {body : Es} {as : List Av} {M M1 : Mem} {e : Env} {k : Nat} {fs : List (Str × Av)} (hl : as.length = np) (h : body (as.map some ++ List.replicate (N - np) none) M = .exc k fs e M1) :
    runF np N body as M = if belows M.length (fs.map (·.2)) && cutOk M M1 then .exc k fs (M1.take M.length) else .exc k fs M1 := by
  unfold runF
  rw [if_pos (by rw [hl]; exact Nat.beq_refl _), h]
theorem run_exc0 {np N : Nat} {body : Es} {as : List Av} {M X : Mem} {e : Env} {k : Nat} {fs : List (Str × Av)} (hl : as.length = np) (hb : belows M.length (fs.map (·.2)) = true) (h : body (as.map some ++ List.replicate (N - np) none) M = .exc k fs e (M ++ X)) :
    runF np N body as M = .exc k fs M := by
  rw [run_exc hl h, hb, show cutOk M (M ++ X) = true from cutL_refl _ _ _]
  simp
def rowDue (v0 v1 v2 v3 v4 : Av) : Option Str := if isNm v0 = false then some "mode" else if isWd PICKS v1 = false then some "pick" else if isWd MOVES v2 = false then some "move" else if isNm v3 = false then some "then" else if isBl v4 = false then some "also" else none
def rowO (v0 v1 v2 v3 v4 : Av) : Av := .obj 0 ["mode", "pick", "move", "then", "also"] [v0, v1, v2, v3, v4]
def RowB (f : Fn) : Prop := ∀ (v0 v1 v2 v3 v4 : Av) (M : Mem), okV v0 = true → okV v1 = true → okV v2 = true → okV v3 = true → okV v4 = true →
  (∀ w, rowDue v0 v1 v2 v3 v4 = some w → newF 0 f [v0, v1, v2, v3, v4] M = .exc 1 [("word", .str w)] (M ++ [some (.ins 0 [])])) ∧ (rowDue v0 v1 v2 v3 v4 = none → newF 0 f [v0, v1, v2, v3, v4] M = .ok (rowO v0 v1 v2 v3 v4) M)
theorem nm_below {v : Av} (h : isNm v = true) (n : Nat) : below n v = true := by cases v <;> first | rfl | cases h
theorem wd_below {v : Av} {ys : List Str} (h : isWd ys v = true) (n : Nat) : below n v = true := by cases v <;> first | rfl | cases h
theorem bl_below {v : Av} (h : isBl v = true) (n : Nat) : below n v = true := by cases v <;> first | rfl | cases h
theorem row_init_b {en : En} {nm wd : Fn} (h : EnOk en) (hn : NameB nm) (hw : WordB wd) : RowB (runF 6 6 (s_m_Row_init en nm wd)) := by
  intro v0 v1 v2 v3 v4 M o0 o1 o2 o3 o4
  let E : Env := [some (.ref M.length), some v0, some v1, some v2, some v3, some v4]
  let N : Mem := M ++ [some (.ins 0 [])]
  have e1 : eVar 1 E N = .ok v0 N := rfl
  have e2 : eVar 2 E N = .ok v1 N := rfl
  have e3 : eVar 3 E N = .ok v2 N := rfl
  have e4 : eVar 4 E N = .ok v3 N := rfl
  have e5 : eVar 5 E N = .ok v4 N := rfl
  have n1 := hn v0 N o0
  have n4 := hn v3 N o3
  have w2 := hw v1 PICKS N o1
  have w3 := hw v2 MOVES N o2
  have i5 := isi_bool o4 N
  simp only [PICKS, MOVES, List.map_cons, List.map_nil] at w2 w3
  let C0 : Et := tNotA (tVal (eCallB (defl nm []) (aCons (eVar 1) aNil)))
  let C1 : Et := tNotA (tVal (eCallB (defl wd []) (aCons (eVar 2) (aCons (eC (.tup [.str "keep", .str "at", .str "past", .str "under", .str "all"])) aNil))))
  let C2 : Et := tNotA (tVal (eCallB (defl wd []) (aCons (eVar 3) (aCons (eC (.tup [.str "stay", .str "on", .str "home"])) aNil))))
  let C3 : Et := tNotA (tVal (eCallB (defl nm []) (aCons (eVar 4) aNil)))
  let C4 : Et := tNotA (tVal (eCallB opIsi (aCons (eVar 5) (aCons (eC (.ty .bool)) aNil))))
  have c0 : C0 E N = .ok (!isNm v0) N := by simp only [C0, tNotA, tVal, eCallB, defl, aCons, aNil, e1, Res.bind, List.append_nil, n1, truA]
  have c1 : C1 E N = .ok (!isWd PICKS v1) N := by simp only [C1, tNotA, tVal, eCallB, defl, aCons, aNil, eC, e2, Res.bind, List.append_nil, w2, truA, PICKS]
  have c2 : C2 E N = .ok (!isWd MOVES v2) N := by simp only [C2, tNotA, tVal, eCallB, defl, aCons, aNil, eC, e3, Res.bind, List.append_nil, w3, truA, MOVES]
  have c3 : C3 E N = .ok (!isNm v3) N := by simp only [C3, tNotA, tVal, eCallB, defl, aCons, aNil, e4, Res.bind, List.append_nil, n4, truA]
  have c4 : C4 E N = .ok (!isBl v4) N := by simp only [C4, tNotA, tVal, eCallB, aCons, aNil, eC, e5, Res.bind, i5, truA]
  have rs : ∀ w : Str, sRaise 1 "word" (aCons (eC (.str w)) aNil) E N = .exc 1 [("word", .str w)] E N := fun w => raise_ok' rfl
  have ex : ∀ w : Str, s_m_Row_init en nm wd E N = .exc 1 [("word", .str w)] E N → newF 0 (runF 6 6 (s_m_Row_init en nm wd)) [v0, v1, v2, v3, v4] M = .exc 1 [("word", .str w)] N := by
    intro w hx
    have r : runF 6 6 (s_m_Row_init en nm wd) [.ref M.length, v0, v1, v2, v3, v4] N = .exc 1 [("word", .str w)] N := run_exc0 (X := []) rfl rfl (by rw [List.append_nil]; exact hx)
    show (newO 0 (runF 6 6 (s_m_Row_init en nm wd)) [v0, v1, v2, v3, v4] M).bind _ = _
    have : newO 0 (runF 6 6 (s_m_Row_init en nm wd)) [v0, v1, v2, v3, v4] M = .exc 1 [("word", .str w)] N := by
      show (runF 6 6 (s_m_Row_init en nm wd) [.ref M.length, v0, v1, v2, v3, v4] N).bind _ = _
      rw [r]; rfl
    rw [this]; rfl
  cases q0 : isNm v0 with
  | false =>
    have d : rowDue v0 v1 v2 v3 v4 = some "mode" := by simp [rowDue, q0]
    refine ⟨fun w hw' => ?_, fun z => by rw [d] at z; cases z⟩
    rw [d] at hw'; cases hw'
    refine ex _ (seq_exc ((if_t ?_).trans (rs _)))
    rw [show tNotA _ E N = C0 E N from rfl, c0, q0]; rfl
  | true =>
  have p0 : sIf C0 (sRaise 1 "word" (aCons (eC (.str "mode")) aNil)) sPass E N = .nx E N := if_no (by rw [c0, q0]; rfl)
  cases q1 : isWd PICKS v1 with
  | false =>
    have d : rowDue v0 v1 v2 v3 v4 = some "pick" := by simp [rowDue, q0, q1]
    refine ⟨fun w hw' => ?_, fun z => by rw [d] at z; cases z⟩
    rw [d] at hw'; cases hw'
    refine ex _ ((seq_nx p0).trans (seq_exc ((if_t ?_).trans (rs _))))
    rw [show tNotA _ E N = C1 E N from rfl, c1, q1]; rfl
  | true =>
  have p1 : sIf C1 (sRaise 1 "word" (aCons (eC (.str "pick")) aNil)) sPass E N = .nx E N := if_no (by rw [c1, q1]; rfl)
  cases q2 : isWd MOVES v2 with
  | false =>
    have d : rowDue v0 v1 v2 v3 v4 = some "move" := by simp [rowDue, q0, q1, q2]
    refine ⟨fun w hw' => ?_, fun z => by rw [d] at z; cases z⟩
    rw [d] at hw'; cases hw'
    refine ex _ ((seq_nx p0).trans ((seq_nx p1).trans (seq_exc ((if_t ?_).trans (rs _)))))
    rw [show tNotA _ E N = C2 E N from rfl, c2, q2]; rfl
  | true =>
  have p2 : sIf C2 (sRaise 1 "word" (aCons (eC (.str "move")) aNil)) sPass E N = .nx E N := if_no (by rw [c2, q2]; rfl)
  cases q3 : isNm v3 with
  | false =>
    have d : rowDue v0 v1 v2 v3 v4 = some "then" := by simp [rowDue, q0, q1, q2, q3]
    refine ⟨fun w hw' => ?_, fun z => by rw [d] at z; cases z⟩
    rw [d] at hw'; cases hw'
    refine ex _ ((seq_nx p0).trans ((seq_nx p1).trans ((seq_nx p2).trans (seq_exc ((if_t ?_).trans (rs _))))))
    rw [show tNotA _ E N = C3 E N from rfl, c3, q3]; rfl
  | true =>
  have p3 : sIf C3 (sRaise 1 "word" (aCons (eC (.str "then")) aNil)) sPass E N = .nx E N := if_no (by rw [c3, q3]; rfl)
  cases q4 : isBl v4 with
  | false =>
    have d : rowDue v0 v1 v2 v3 v4 = some "also" := by simp [rowDue, q0, q1, q2, q3, q4]
    refine ⟨fun w hw' => ?_, fun z => by rw [d] at z; cases z⟩
    rw [d] at hw'; cases hw'
    refine ex _ ((seq_nx p0).trans ((seq_nx p1).trans ((seq_nx p2).trans ((seq_nx p3).trans (seq_exc ((if_t ?_).trans (rs _)))))))
    rw [show tNotA _ E N = C4 E N from rfl, c4, q4]; rfl
  | true =>
  have p4 : sIf C4 (sRaise 1 "word" (aCons (eC (.str "also")) aNil)) sPass E N = .nx E N := if_no (by rw [c4, q4]; rfl)
  have d : rowDue v0 v1 v2 v3 v4 = none := by simp [rowDue, q0, q1, q2, q3, q4]
  refine ⟨(fun w hw' => by rw [d] at hw'; cases hw'), fun _ => ?_⟩
  refine newF_of (fs := [("mode", v0), ("pick", v1), ("move", v2), ("then", v3), ("also", v4)]) ?_ ?_
  · have body : s_m_Row_init en nm wd ([.ref M.length, v0, v1, v2, v3, v4].map some ++ List.replicate (6 - 6) none) N = .nx E (M ++ [some (.ins 0 [("mode", v0), ("pick", v1), ("move", v2), ("then", v3), ("also", v4)])]) := by
      refine ((seq_nx p0).trans ((seq_nx p1).trans ((seq_nx p2).trans ((seq_nx p3).trans (seq_nx p4))))).trans ?_
      refine (seq_nx (sf_last (v := v0) rfl rfl rfl)).trans ?_
      refine (seq_nx (sf_last (v := v1) rfl rfl rfl)).trans ?_
      refine (seq_nx (sf_last (v := v2) rfl rfl rfl)).trans ?_
      refine (seq_nx (sf_last (v := v3) rfl rfl rfl)).trans ?_
      refine (sf_last (v := v4) rfl rfl rfl).trans ?_
      rfl
    rw [run_nx (np := 6) rfl body]
    exact fin_same (by simp [N])
  · simp only [List.map_cons, List.map_nil, belows, nm_below q0, wd_below q1, wd_below q2, nm_below q3, bl_below q4, Bool.and_self]
end Pd
set_option maxHeartbeats 2000000
namespace Pd
open PySem PySem.Spec L2
abbrev XC := Nat → List (Str × Av) → Mem → Prop
abbrev EC := Env → Mem → Prop
abbrev VC := Av → Mem → Prop
abbrev XS := Nat → List (Str × Av) → Env → Mem → Prop
def wR {α : Type} (r : Res α) (K : α → Mem → Prop) (X : XC) : Prop := match r with
  | .ok a M => K a M
  | .exc k fs M => X k fs M
  | .bad => False
def wS (r : SRes) (N : EC) (R : VC) (B C : EC) (X : XS) : Prop := match r with
  | .nx e M => N e M
  | .rt v M => R v M
  | .bk e M => B e M
  | .ct e M => C e M
  | .exc k fs e M => X k fs e M
  | .bad => False
abbrev xNo : XC := fun _ _ _ => False
section
variable {α β : Type} {K : α → Mem → Prop} {KV : VC} {KB : Bool → Mem → Prop} {KA : List Av → Mem → Prop} {X : XC} {e : Env} {M M1 : Mem} {N B C : EC} {R : VC} {Y : XS}
theorem w_ok {r : Res α} {v : α} (h : r = .ok v M1) (k : K v M1) : wR r K X := by rw [h]; exact k
theorem w_now {v : α} (k : K v M) : wR (.ok v M) K X := k
theorem w_exc {r : Res α} {q : Nat} {fs : List (Str × Av)} (h : r = .exc q fs M1) (x : X q fs M1) : wR r K X := by rw [h]; exact x
theorem w_ex {r : Res α} (h : wR r K xNo) : ∃ v M1, r = .ok v M1 ∧ K v M1 := by
  cases r with
  | ok a m => exact ⟨a, m, rfl, h⟩
  | exc _ _ _ => exact h.elim
  | bad => exact h.elim
theorem w_eq {r : Res α} {v : α} (h : wR r (fun v' M' => v' = v ∧ M' = M1) xNo) : r = .ok v M1 := by
  obtain ⟨a, b, q, h1, h2⟩ := w_ex h
  rw [q, h1, h2]
theorem w_exq {r : Res α} {q : Nat} {fs : List (Str × Av)} (h : wR r (fun _ _ => False) (fun k' fs' M' => k' = q ∧ fs' = fs ∧ M' = M1)) : r = .exc q fs M1 := by
  cases r with
  | ok a m => exact h.elim
  | exc a b c =>
    obtain ⟨h1, h2, h3⟩ := h
    rw [h1, h2, h3]
  | bad => exact h.elim
def xRun (M : Mem) (X : XC) (q : Nat) (fs : List (Str × Av)) (M1 : Mem) : Prop := if belows M.length (fs.map (·.2)) && cutOk M M1 then X q fs (M1.take M.length) else X q fs M1
theorem x_cut {q : Nat} {fs : List (Str × Av)} {Z : Mem} (hb : belows M.length (fs.map (·.2)) = true) (x : X q fs M) : xRun M X q fs (M ++ Z) := by
  unfold xRun
  rw [hb, show cutOk M (M ++ Z) = true from cutL_refl _ _ _]
  simp only [Bool.and_self, if_true]
  rw [List.take_append_of_le_length (Nat.le_refl _), List.take_length]
  exact x
theorem x_cut0 {q : Nat} {fs : List (Str × Av)} (hb : belows M.length (fs.map (·.2)) = true) (x : X q fs M) : xRun M X q fs M := by
  have := x_cut (Z := []) hb x
  rw [List.append_nil] at this
  exact this
theorem wR_mono {r : Res α} {K' : α → Mem → Prop} (h : wR r K' X) (k : ∀ v M, K' v M → K v M) : wR r K X := by
  cases r with
  | ok a m => exact k _ _ h
  | exc _ _ _ => exact h
  | bad => exact h
theorem wR_bind {r : Res α} {f : α → Mem → Res β} {K : β → Mem → Prop} (h : wR r (fun a M => wR (f a M) K X) X) : wR (r.bind f) K X := by
  cases r <;> exact h
theorem wS_thn {r : Res α} {f : α → Mem → SRes} (h : wR r (fun a M => wS (f a M) N R B C Y) (fun k fs M => Y k fs e M)) : wS (r.thn e f) N R B C Y := by
  cases r <;> exact h
theorem wS_mono {r : SRes} {N' B' C' : EC} {R' : VC} {Y' : XS} (h : wS r N' R' B' C' Y') (h1 : ∀ e M, N' e M → N e M) (h2 : ∀ v M, R' v M → R v M) (h3 : ∀ e M, B' e M → B e M) (h4 : ∀ e M, C' e M → C e M) (h5 : ∀ k fs e M, Y' k fs e M → Y k fs e M) : wS r N R B C Y := by
  cases r with
  | nx e M => exact h1 _ _ h
  | rt e M => exact h2 _ _ h
  | bk e M => exact h3 _ _ h
  | ct e M => exact h4 _ _ h
  | exc k fs e M => exact h5 _ _ _ _ h
  | bad => exact h
theorem w_var {i : Nat} {v : Av} (h : e[i]? = some (some v)) (k : KV v M) : wR (eVar i e M) KV X := w_ok (var_of h) k
theorem w_c {v : Av} (k : KV v M) : wR (eC v e M) KV X := k
theorem w_bin {op : Op2} {f g : Ev} (h : wR (f e M) (fun a M1 => wR (g e M1) (fun b M2 => wR (op a b M2) KV X) X) X) : wR (eBin op f g e M) KV X := wR_bind (wR_mono h fun _ _ h => wR_bind h)
theorem w_ifE {t : Et} {f g : Ev} (h : wR (t e M) (fun b M1 => (b = true → wR (f e M1) KV X) ∧ (b = false → wR (g e M1) KV X)) X) : wR (eIf t f g e M) KV X := wR_bind (wR_mono h fun b _ h => by
  cases b
  · exact h.2 rfl
  · exact h.1 rfl)
theorem w_and {f g : Ev} (h : wR (f e M) (fun a M1 => ∃ b, a = .bl b ∧ (b = true → wR (g e M1) KV X) ∧ (b = false → KV (.bl false) M1)) X) : wR (eAnd f g e M) KV X := wR_bind (wR_mono h fun a _ ⟨b, h1, h2, h3⟩ => by
  subst h1
  cases b
  · exact h3 rfl
  · exact h2 rfl)
theorem w_or {f g : Ev} (h : wR (f e M) (fun a M1 => ∃ b, a = .bl b ∧ (b = false → wR (g e M1) KV X) ∧ (b = true → KV (.bl true) M1)) X) : wR (eOr f g e M) KV X := wR_bind (wR_mono h fun a _ ⟨b, h1, h2, h3⟩ => by
  subst h1
  cases b
  · exact h2 rfl
  · exact h3 rfl)
theorem w_not {f : Ev} (h : wR (f e M) (fun a M1 => ∃ b, a = .bl b ∧ KV (.bl (!b)) M1) X) : wR (eNot f e M) KV X := wR_bind (wR_mono h fun a _ ⟨b, h1, h2⟩ => by
  subst h1; exact h2)
theorem w_neg {f : Ev} (h : wR (f e M) (fun a M1 => ∃ b, a = .int b ∧ KV (.int (-b)) M1) X) : wR (eNeg f e M) KV X := wR_bind (wR_mono h fun a _ ⟨b, h1, h2⟩ => by
  subst h1; exact h2)
theorem w_chain {op op' : Op2} {f g l : Ev} (h : wR (f e M) (fun a M1 => wR (g e M1) (fun b M2 => wR (op a b M2) (fun z M3 => ∃ t, z = .bl t ∧ (t = true → wR (l e M3) (fun d M4 => wR (op' b d M4) KV X) X) ∧ (t = false → KV (.bl false) M3)) X) X) X) : wR (eChain op op' f g l e M) KV X :=
  wR_bind (wR_mono h fun _ _ h => wR_bind (wR_mono h fun _ _ h => wR_bind (wR_mono h fun z _ ⟨t, h1, h2, h3⟩ => by
    subst h1
    cases t
    · exact h3 rfl
    · exact wR_bind (h2 rfl))))
theorem w_anil (k : KA [] M) : wR (aNil e M) KA X := k
theorem w_acons {f : Ev} {g : Ea} (h : wR (f e M) (fun a M1 => wR (g e M1) (fun as M2 => KA (a :: as) M2) X) X) : wR (aCons f g e M) KA X := wR_bind (wR_mono h fun _ _ h => wR_bind h)
theorem w_astar {f : Ev} {g : Ea} (h : wR (f e M) (fun a M1 => ∃ xs, asQ M1 a = some xs ∧ wR (g e M1) (fun as M2 => KA (xs ++ as) M2) X) X) : wR (aStar f g e M) KA X := wR_bind (wR_mono h fun a M1 ⟨xs, h1, h2⟩ => by
  simp only [h1]; exact wR_bind h2)
theorem w_tup {g : Ea} (h : wR (g e M) (fun as M1 => szOk as.length = true ∧ KV (.tup as) M1) X) : wR (eTup g e M) KV X := wR_bind (wR_mono h fun as M1 ⟨h1, h2⟩ => by
  simp only [h1, if_true]; exact h2)
theorem w_lst {g : Ea} (h : wR (g e M) (fun as M1 => szOk as.length = true ∧ KV (.lst as) M1) X) : wR (eLst g e M) KV X := wR_bind (wR_mono h fun as M1 ⟨h1, h2⟩ => by
  simp only [h1, if_true]; exact h2)
theorem w_newL {g : Ea} (h : wR (g e M) (fun as M1 => szOk as.length = true ∧ KV (.ref M1.length) (M1 ++ [some (.lst as)])) X) : wR (eNewL g e M) KV X := wR_bind (wR_mono h fun as M1 ⟨h1, h2⟩ => by
  simp only [h1, if_true]; exact h2)
theorem w_fld {f : Ev} {n : Str} (h : wR (f e M) (fun a M1 => ∃ v, fldA M1 n a = some v ∧ KV v M1) X) : wR (eFld f n e M) KV X := wR_bind (wR_mono h fun a M1 ⟨v, h1, h2⟩ => by
  simp only [h1]; exact h2)
theorem w_frz {f : Ev} (h : wR (f e M) (fun a M1 => (frz a M1 = none ∧ KV a M1) ∨ ∃ b M2, frz a M1 = some (b, M2) ∧ KV b M2) X) : wR (eFrz f e M) KV X := wR_bind (wR_mono h fun a M1 h => by
  rcases h with ⟨h1, h2⟩ | ⟨b, M2, h1, h2⟩
  · simp only [h1]; exact h2
  · simp only [h1]; exact h2)
theorem w_callB {op : Fn} {g : Ea} (h : wR (g e M) (fun as M1 => wR (op as M1) KV X) X) : wR (eCallB op g e M) KV X := wR_bind h
theorem w_defl0 {f : Fn} {as : List Av} (h : wR (f as M) KV X) : wR (defl f [] as M) KV X := by
  unfold defl; rw [List.append_nil]; exact h
theorem w_sl {f : Ev} {lo hi : Eo} (h : wR (f e M) (fun a M1 => wR (lo e M1) (fun l M2 => wR (hi e M2) (fun r M3 => wR (opSl a l r M3) KV X) X) X) X) : wR (eSl f lo hi e M) KV X := wR_bind (wR_mono h fun _ _ h => wR_bind (wR_mono h fun _ _ h => wR_bind h))
theorem w_onone {KO : Option Int → Mem → Prop} (k : KO none M) : wR (oNone e M) KO X := k
theorem w_osome {f : Ev} {KO : Option Int → Mem → Prop} (h : wR (f e M) (fun a M1 => ∃ i, a = .int i ∧ KO (some i) M1) X) : wR (oSome f e M) KO X := wR_bind (wR_mono h fun a M1 ⟨i, h1, h2⟩ => by
  subst h1; exact h2)
theorem w_meth {k : Nat} {m : Str} {sem : Fn} {f : Ev} {g : Ea} (h : wR (f e M) (fun a M1 => (clsA M1 a == some k && noFldA M1 m a) = true ∧ wR (g e M1) (fun as M2 => wR (sem (a :: as) M2) KV X) X) X) : wR (eMeth k m sem f g e M) KV X := wR_bind (wR_mono h fun a M1 ⟨h1, h2⟩ => by
  simp only [h1, if_true]; exact wR_bind h2)
theorem w_bm {t : Bool} {op : Mop} {f : Ev} {g : Ea} (h : wR (f e M) (fun a M1 => isTA t M1 a = true ∧ wR (g e M1) (fun as M2 => wR (op a as M2) KV X) X) X) : wR (eBM t op f g e M) KV X := wR_bind (wR_mono h fun a M1 ⟨h1, h2⟩ => by
  simp only [h1, if_true]; exact wR_bind h2)
theorem w_cmeth {k : Nat} {sem : Fn} {g : Ea} (h : wR (g e M) (fun as M1 => wR (sem (.cls k :: as) M1) KV X) X) : wR (eCMeth k sem g e M) KV X := wR_bind h
theorem w_tval {f : Ev} (h : wR (f e M) (fun a M1 => ∃ b, truA M1 a = some b ∧ KB b M1) X) : wR (tVal f e M) KB X := wR_bind (wR_mono h fun a M1 ⟨b, h1, h2⟩ => by
  simp only [h1]; exact h2)
theorem w_tcmp {op : Op2} {f g : Ev} (h : wR (f e M) (fun a M1 => wR (g e M1) (fun b M2 => wR (op a b M2) (fun z M3 => ∃ t, z = .bl t ∧ KB t M3) X) X) X) : wR (tCmpA op f g e M) KB X := wR_bind (wR_mono (w_bin h) fun a M1 ⟨t, h1, h2⟩ => by
  subst h1; exact h2)
theorem w_tbl {f : Ev} (h : wR (f e M) (fun z M3 => ∃ t, z = .bl t ∧ KB t M3) X) : wR (tBl f e M) KB X := wR_bind (wR_mono h fun a M1 ⟨t, h1, h2⟩ => by
  subst h1; exact h2)
theorem w_tnot {f : Et} (h : wR (f e M) (fun b M1 => KB (!b) M1) X) : wR (tNotA f e M) KB X := wR_bind h
theorem w_tand {f g : Et} (h : wR (f e M) (fun b M1 => (b = true → wR (g e M1) KB X) ∧ (b = false → KB false M1)) X) : wR (tAndA f g e M) KB X := wR_bind (wR_mono h fun b _ h => by
  cases b
  · exact h.2 rfl
  · exact h.1 rfl)
theorem w_tor {f g : Et} (h : wR (f e M) (fun b M1 => (b = false → wR (g e M1) KB X) ∧ (b = true → KB true M1)) X) : wR (tOrA f g e M) KB X := wR_bind (wR_mono h fun b _ h => by
  cases b
  · exact h.1 rfl
  · exact h.2 rfl)
theorem w_tyes (k : KB true M) : wR (tYesA e M) KB X := k
theorem s_pass (k : N e M) : wS (sPass e M) N R B C Y := k
theorem s_cont (k : C e M) : wS (sCont e M) N R B C Y := k
theorem s_break (k : B e M) : wS (sBreak e M) N R B C Y := k
theorem s_seq {f g : Es} (h : wS (f e M) (fun e1 M1 => wS (g e1 M1) N R B C Y) R B C Y) : wS (sSeq f g e M) N R B C Y := by
  unfold sSeq
  cases q : f e M <;> rw [q] at h <;> exact h
theorem s_set {i : Nat} {f : Ev} (h : wR (f e M) (fun v M1 => N (e.set i (some v)) M1) (fun k fs M => Y k fs e M)) : wS (sSet i f e M) N R B C Y := wS_thn h
theorem s_ret {f : Ev} (h : wR (f e M) R (fun k fs M => Y k fs e M)) : wS (sRet f e M) N R B C Y := wS_thn h
theorem s_drop {f : Ev} (h : wR (f e M) (fun _ M1 => N e M1) (fun k fs M => Y k fs e M)) : wS (sDrop f e M) N R B C Y := wS_thn h
theorem s_if {t : Et} {f g : Es} (h : wR (t e M) (fun b M1 => (b = true → wS (f e M1) N R B C Y) ∧ (b = false → wS (g e M1) N R B C Y)) (fun k fs M => Y k fs e M)) : wS (sIf t f g e M) N R B C Y := wS_thn (wR_mono h fun b _ h => by
  cases b
  · exact h.2 rfl
  · exact h.1 rfl)
theorem s_par {is : List Nat} {g : Ea} (h : wR (g e M) (fun as M1 => ∃ e1, gNms is as e = some e1 ∧ N e1 M1) (fun k fs M => Y k fs e M)) : wS (sPar is g e M) N R B C Y := wS_thn (wR_mono h fun as M1 ⟨e1, h1, h2⟩ => by
  simp only [h1]; exact h2)
theorem s_asg {f : Ev} {g : Eg} (h : wR (f e M) (fun v M1 => ∃ e1, g v e M1 = some e1 ∧ N e1 M1) (fun k fs M => Y k fs e M)) : wS (sAsg f g e M) N R B C Y := wS_thn (wR_mono h fun as M1 ⟨e1, h1, h2⟩ => by
  simp only [h1]; exact h2)
theorem s_setFld {fo fv : Ev} {n : Str} (h : wR (fv e M) (fun v M1 => wR (fo e M1) (fun o M2 => ∃ M3, stFld n v o M2 = some M3 ∧ N e M3) (fun k fs M => Y k fs e M)) (fun k fs M => Y k fs e M)) : wS (sSetFld fo fv n e M) N R B C Y := wS_thn (wR_mono h fun _ _ h => wS_thn (wR_mono h fun _ _ ⟨M3, h1, h2⟩ => by
  simp only [h1]; exact h2))
theorem s_setIx {fo fv fi : Ev} (h : wR (fv e M) (fun v M1 => wR (fo e M1) (fun o M2 => wR (fi e M2) (fun i M3 => ∃ M4, stIx v o i M3 = some M4 ∧ N e M4) (fun k fs M => Y k fs e M)) (fun k fs M => Y k fs e M)) (fun k fs M => Y k fs e M)) : wS (sSetIx fv fo fi e M) N R B C Y := wS_thn (wR_mono h fun _ _ h => wS_thn (wR_mono h fun _ _ h => wS_thn (wR_mono h fun _ _ ⟨M3, h1, h2⟩ => by
  simp only [h1]; exact h2)))
theorem s_raise {k : Nat} {n : Str} {g : Ea} (h : wR (g e M) (fun as M1 => ∃ v, as = [v] ∧ Y k [(n, v)] e M1) (fun k fs M => Y k fs e M)) : wS (sRaise k n g e M) N R B C Y := wS_thn (wR_mono h fun as M1 ⟨v, h1, h2⟩ => by
  subst h1; exact h2)
theorem s_thru {f : Es} (h : wS (f e M) N R B C (fun _ _ _ _ => False)) : wS (sThru f e M) N R B C Y := by
  unfold sThru
  cases q : f e M <;> rw [q] at h <;> first | exact h | exact h.elim
theorem s_tryAs {body : Es} {m : Nat → Option Bool} {j : Nat} {su : Nat → List (Str × Av) → Es} (h : wS (body e M) N R B C (fun k fs e' M' => (m k = some true ∧ j < e'.length ∧ wS (su k fs (e'.set j none) M') (fun e M => N (e.set j none) M) R (fun e M => B (e.set j none) M) (fun e M => C (e.set j none) M) (fun _ _ _ _ => False)) ∨ (m k = some false ∧ Y k fs e' M'))) : wS (sTryAs body m j su e M) N R B C Y := by
  unfold sTryAs
  cases q : body e M with
  | exc k fs e' M' =>
    rw [q] at h
    rcases h with ⟨h1, h2, h3⟩ | ⟨h1, h2⟩
    · simp only [h1]
      rw [if_pos (show Nat.blt j e'.length = true from Nat.ble_eq_true_of_le h2)]
      cases q2 : su k fs (e'.set j none) M' <;> rw [q2] at h3 <;> first | exact h3 | exact h3.elim
    · simp only [h1]; exact h2
  | _ => rw [q] at h; exact h
theorem s_tryOnly {body : Es} {m : Nat → Option Bool} {su : Nat → List (Str × Av) → Es} (h : wS (body e M) N R B C (fun k fs e' M' => (m k = some true ∧ wS (su k fs e' M') N R B C (fun _ _ _ _ => False)) ∨ (m k = some false ∧ Y k fs e' M'))) : wS (sTryOnly body m su e M) N R B C Y := by
  unfold sTryOnly
  cases q : body e M with
  | exc k fs e' M' =>
    rw [q] at h
    rcases h with ⟨h1, h3⟩ | ⟨h1, h2⟩
    · simp only [h1]
      cases q2 : su k fs e' M' <;> rw [q2] at h3 <;> first | exact h3 | exact h3.elim
    · simp only [h1]; exact h2
  | _ => rw [q] at h; exact h
theorem s_for {fi : Ei} {g : Eg} {body : Es} (h : wR (fi e M) (fun k M1 => wS (forL k g body k.items e M1) N R B C Y) (fun k fs M => Y k fs e M)) : wS (sFor fi g body e M) N R B C Y := wS_thn h
theorem s_forL {k : Ik} {g : Eg} {body : Es} (J : Nat → Env → Mem → Prop) (h0 : J 0 e M) (hst : ∀ i e M, J i e M → k.stay M = true)
    (hstep : ∀ i x e M, k.items[i]? = some x → J i e M → ∃ e1, g x e M = some e1 ∧ wS (body e1 M) (J (i + 1)) R N (J (i + 1)) Y) (hN : ∀ e M, J k.items.length e M → N e M) : wS (forL k g body k.items e M) N R B C Y := by
  have key : ∀ (xs : List Av) (i : Nat) (e : Env) (M : Mem), k.items.drop i = xs → i ≤ k.items.length → J i e M → wS (forL k g body xs e M) N R B C Y := by
    intro xs
    induction xs with
    | nil =>
      intro i e M hd hi hJ
      have : k.items.length ≤ i := List.drop_eq_nil_iff.mp hd
      have e0 : i = k.items.length := by omega
      subst e0
      unfold forL
      rw [if_pos (hst _ _ _ hJ)]
      exact hN _ _ hJ
    | cons x xs ih =>
      intro i e M hd hi hJ
      have hx : k.items[i]? = some x := by
        have := congrArg (fun l => l[0]?) hd
        simpa using this
      have hd2 : k.items.drop (i + 1) = xs := by
        have := congrArg List.tail hd
        simpa [List.tail_drop] using this
      have hlt : i < k.items.length := (List.getElem?_eq_some_iff.mp hx).1
      obtain ⟨e1, h1, h2⟩ := hstep i x e M hx hJ
      unfold forL
      rw [if_pos (hst _ _ _ hJ), h1]
      simp only
      cases q : body e1 M with
      | nx e2 M2 => rw [q] at h2; exact ih (i + 1) e2 M2 hd2 hlt h2
      | ct e2 M2 => rw [q] at h2; exact ih (i + 1) e2 M2 hd2 hlt h2
      | bk e2 M2 => rw [q] at h2; exact h2
      | rt v M2 => rw [q] at h2; exact h2
      | exc a fs e2 M2 => rw [q] at h2; exact h2
      | bad => rw [q] at h2; exact h2
  exact key _ 0 e M (by rw [List.drop_zero]) (Nat.zero_le _) h0
theorem i_rng1 {g : Ea} {KI : Ik → Mem → Prop} (h : wR (g e M) (fun as M1 => ∃ j : Int, as = [.int j] ∧ small62 j = true ∧ KI (.rng 0 j.toNat) M1) X) : wR (iRng1A g e M) KI X := wR_bind (wR_mono h fun as M1 ⟨j, h1, h2, h3⟩ => by
  subst h1; simp only [h2, if_true]; exact h3)
theorem i_rng2 {g : Ea} {KI : Ik → Mem → Prop} (h : wR (g e M) (fun as M1 => ∃ i j : Int, as = [.int i, .int j] ∧ (small62 i && small62 j) = true ∧ KI (.rng i (j - i).toNat) M1) X) : wR (iRng2A g e M) KI X := wR_bind (wR_mono h fun as M1 ⟨i, j, h1, h2, h3⟩ => by
  subst h1; simp only [h2, if_true]; exact h3)
theorem i_seq {f : Ev} {KI : Ik → Mem → Prop} (h : wR (f e M) (fun a M1 => (∃ z, a = .str z ∧ KI (.chs z) M1) ∨ ∃ xs, stayA M1 a xs = true ∧ KI (.seq a xs) M1) X) : wR (iSeq f e M) KI X := wR_bind (wR_mono h fun a M1 h => by
  rcases h with ⟨z, h1, h2⟩ | ⟨xs, h1, h2⟩
  · subst h1; exact h2
  · have hq := stayA_q h1
    cases a <;> first | (cases h1; done) | (simp only [hq, h1, if_true]; exact h2) | (simp [asQ] at hq))
theorem i_enm {g : Ea} {KI : Ik → Mem → Prop} (h : wR (g e M) (fun as M1 => ∃ a xs, as = [a] ∧ stayA M1 a xs = true ∧ KI (.enm a xs) M1) X) : wR (iEnmA g e M) KI X := wR_bind (wR_mono h fun as M1 ⟨a, xs, h1, h2, h3⟩ => by
  subst h1
  have hq := stayA_q h2
  simp only [hq, h2, if_true]; exact h3)
theorem i_zip {g : Ea} {KI : Ik → Mem → Prop} (h : wR (g e M) (fun as M1 => ∃ a b xs ys, as = [a, b] ∧ asQ M1 a = some xs ∧ asQ M1 b = some ys ∧ stayA M1 a xs = true ∧ stayA M1 b ys = true ∧ KI (.zip a xs b ys) M1) X) : wR (iZipE g e M) KI X := wR_bind (wR_mono h fun as M1 ⟨a, b, xs, ys, h1, h2, h3, h4, h5, h6⟩ => by
  subst h1
  simp only [h2, h3, h4, h5, Bool.and_self, if_true]; exact h6)
theorem w_run {np n : Nat} {body : Es} {as : List Av} {e0 : Env} (hl : as.length = np) (he : as.map some ++ List.replicate (n - np) none = e0)
    (h : wS (body e0 M) (fun _ M1 => wR (finF M .non M1) KV X) (fun v M1 => wR (finF M v M1) KV X) (fun _ _ => False) (fun _ _ => False) (fun k fs _ M1 => xRun M X k fs M1)) : wR (runF np n body as M) KV X := by
  unfold runF
  rw [if_pos (by rw [hl]; exact Nat.beq_refl np), he]
  cases q : body e0 M with
  | nx e2 M2 => rw [q] at h; exact h
  | rt v M2 => rw [q] at h; exact h
  | bk e2 M2 => rw [q] at h; exact h
  | ct e2 M2 => rw [q] at h; exact h
  | exc a fs e2 M2 =>
    rw [q] at h
    have h : if belows M.length (fs.map (·.2)) && cutOk M M2 then X a fs (M2.take M.length) else X a fs M2 := h
    simp only
    split
    · rename_i hz; rw [if_pos hz] at h; exact h
    · rename_i hz; rw [if_neg hz] at h; exact h
  | bad => rw [q] at h; exact h
end
section
variable {KV : VC} {KB : Bool → Mem → Prop} {X : XC} {M : Mem} {en : En}
theorem and_sz {n : Nat} {P : Prop} (h : szOk n = true) (p : P) : szOk n = true ∧ P := ⟨h, p⟩
theorem and_isT {t : Bool} {a : Av} {P : Prop} (h : isTA t M a = true) (p : P) : isTA t M a = true ∧ P := ⟨h, p⟩
theorem and_cls {a : Av} {k : Nat} {m : Str} {P : Prop} (h : (clsA M a == some k && noFldA M m a) = true) (p : P) : (clsA M a == some k && noFldA M m a) = true ∧ P := ⟨h, p⟩
theorem ex_bl {P : Bool → Prop} {x : Bool} (p : P x) : ∃ b, Av.bl x = .bl b ∧ P b := ⟨x, rfl, p⟩
theorem ex_int {P : Int → Prop} {x : Int} (p : P x) : ∃ b, Av.int x = .int b ∧ P b := ⟨x, rfl, p⟩
theorem ex_one {P : Av → Prop} {x : Av} (p : P x) : ∃ v, [x] = [v] ∧ P v := ⟨x, rfl, p⟩
theorem ex_trub {P : Bool → Prop} {x : Bool} (p : P x) : ∃ b, truA M (.bl x) = some b ∧ P b := ⟨x, rfl, p⟩
theorem ex_asq_tup {P : List Av → Prop} {xs : List Av} (p : P xs) : ∃ ys, asQ M (.tup xs) = some ys ∧ P ys := ⟨xs, rfl, p⟩
theorem ex_asq_lst {P : List Av → Prop} {xs : List Av} (p : P xs) : ∃ ys, asQ M (.lst xs) = some ys ∧ P ys := ⟨xs, rfl, p⟩
theorem ex_gn {is : List Nat} {as : List Av} {e e1 : Env} {P : Env → Prop} (h : gNms is as e = some e1) (p : P e1) : ∃ e1, gNms is as e = some e1 ∧ P e1 := ⟨e1, h, p⟩
theorem ex_gt {is : List Nat} {a : Av} {e e1 : Env} {P : Env → Prop} (h : gTp is a e M = some e1) (p : P e1) : ∃ e1, gTp is a e M = some e1 ∧ P e1 := ⟨e1, h, p⟩
theorem ex_gm {i : Nat} {a : Av} {e : Env} {P : Env → Prop} (p : P (e.set i (some a))) : ∃ e1, gNm i a e M = some e1 ∧ P e1 := ⟨_, rfl, p⟩
theorem ex_fld {n : Str} {a v : Av} {P : Av → Prop} (h : fldA M n a = some v) (p : P v) : ∃ v, fldA M n a = some v ∧ P v := ⟨v, h, p⟩
theorem or_frz {a : Av} {P : Prop} {Q : Av → Mem → Prop} (h : frz a M = none) (p : P) : (frz a M = none ∧ P) ∨ ∃ b M2, frz a M = some (b, M2) ∧ Q b M2 := .inl ⟨h, p⟩
theorem ex_rng {j : Int} {P : Int → Prop} (h : small62 j = true) (p : P j) : ∃ i : Int, [Av.int j] = [.int i] ∧ small62 i = true ∧ P i := ⟨j, rfl, h, p⟩
theorem ex_rng2 {i j : Int} {P : Int → Int → Prop} (h : (small62 i && small62 j) = true) (p : P i j) : ∃ a b : Int, [Av.int i, Av.int j] = [.int a, .int b] ∧ (small62 a && small62 b) = true ∧ P a b := ⟨i, j, rfl, h, p⟩
theorem or_stay_str {z : Str} {P : Str → Prop} {Q : List Av → Prop} (p : P z) : (∃ y, Av.str z = .str y ∧ P y) ∨ ∃ xs, stayA M (.str z) xs = true ∧ Q xs := .inl ⟨z, rfl, p⟩
theorem or_stay_tup {xs : List Av} {P : Str → Prop} {Q : List Av → Prop} (p : Q xs) : (∃ y, Av.tup xs = .str y ∧ P y) ∨ ∃ ys, stayA M (.tup xs) ys = true ∧ Q ys := .inr ⟨xs, eqAs_refl xs, p⟩
theorem or_stay_lst {xs : List Av} {P : Str → Prop} {Q : List Av → Prop} (p : Q xs) : (∃ y, Av.lst xs = .str y ∧ P y) ∨ ∃ ys, stayA M (.lst xs) ys = true ∧ Q ys := .inr ⟨xs, eqAs_refl xs, p⟩
theorem ex_enm_tup {xs : List Av} {P : Av → List Av → Prop} (p : P (.tup xs) xs) : ∃ a ys, [Av.tup xs] = [a] ∧ stayA M a ys = true ∧ P a ys := ⟨_, xs, rfl, eqAs_refl xs, p⟩
theorem ex_enm_lst {xs : List Av} {P : Av → List Av → Prop} (p : P (.lst xs) xs) : ∃ a ys, [Av.lst xs] = [a] ∧ stayA M a ys = true ∧ P a ys := ⟨_, xs, rfl, eqAs_refl xs, p⟩
theorem if_tt {A B : Prop} (a : A) : (true = true → A) ∧ (true = false → B) := ⟨fun _ => a, fun h => (by cases h)⟩
theorem if_ff {A B : Prop} (b : B) : (false = true → A) ∧ (false = false → B) := ⟨fun h => (by cases h), fun _ => b⟩
theorem fi_tt {A B : Prop} (b : B) : (true = false → A) ∧ (true = true → B) := ⟨fun h => (by cases h), fun _ => b⟩
theorem fi_ff {A B : Prop} (a : A) : (false = false → A) ∧ (false = true → B) := ⟨fun _ => a, fun h => (by cases h)⟩
theorem if_T {b : Bool} {A B : Prop} (h : b = true) (a : A) : (b = true → A) ∧ (b = false → B) := ⟨fun _ => a, fun h2 => by rw [h] at h2; cases h2⟩
theorem if_F {b : Bool} {A B : Prop} (h : b = false) (a : B) : (b = true → A) ∧ (b = false → B) := ⟨fun h2 => (by rw [h] at h2; cases h2), fun _ => a⟩
theorem fi_T {b : Bool} {A B : Prop} (h : b = true) (a : B) : (b = false → A) ∧ (b = true → B) := ⟨fun h2 => (by rw [h] at h2; cases h2), fun _ => a⟩
theorem fi_F {b : Bool} {A B : Prop} (h : b = false) (a : A) : (b = false → A) ∧ (b = true → B) := ⟨fun _ => a, fun h2 => by rw [h] at h2; cases h2⟩
theorem o_add (h : EnOk en) {a b : Int} (k : KV (.int (a + b)) M) : wR (en.add (.int a) (.int b) M) KV X := w_ok (h.add_int a b M) k
theorem o_adds (h : EnOk en) {a b : Str} (hl : szOk (a.length + b.length) = true) (k : KV (.str (a ++ b)) M) : wR (en.add (.str a) (.str b) M) KV X := by
  rw [h.add _ _ _ rfl]
  simp only [opAdd, hl, if_true]
  exact k
theorem o_addt (h : EnOk en) {a b : List Av} (hl : szOk (a.length + b.length) = true) (k : KV (.tup (a ++ b)) M) : wR (en.add (.tup a) (.tup b) M) KV X := by
  rw [h.add _ _ _ rfl]
  simp only [opAdd, hl, if_true]
  exact k
theorem o_addl (h : EnOk en) {a b : List Av} (hl : szOk (a.length + b.length) = true) (k : KV (.lst (a ++ b)) M) : wR (en.add (.lst a) (.lst b) M) KV X := by
  rw [h.add _ _ _ rfl]
  simp only [opAdd, asL, hl, if_true]
  exact k
theorem o_sub {a b : Int} (k : KV (.int (a - b)) M) : wR (opSub (.int a) (.int b) M) KV X := k
theorem o_mul {a b : Int} (h : (small64 a || small64 b) = true) (k : KV (.int (a * b)) M) : wR (opMul (.int a) (.int b) M) KV X := by
  simp only [opMul, h, if_true]; exact k
theorem o_mod {a b : Int} (h : decide (0 < b) = true) (k : KV (.int (a % b)) M) : wR (opMod (.int a) (.int b) M) KV X := by
  simp only [opMod, h, if_true]; exact k
theorem o_div {a b : Int} (h : (decide (0 < b) && decide (b < 1073741824)) = true) (k : KV (.int (a / b)) M) : wR (opDiv (.int a) (.int b) M) KV X := by
  simp only [opDiv, h, if_true]; exact k
theorem o_cmp {p : Int → Int → Bool} {a b : Int} (k : KV (.bl (p a b)) M) : wR (opCmp p (.int a) (.int b) M) KV X := k
theorem o_eqs (h : EnOk en) {a b : Str} (k : KV (.bl (decide (a = b))) M) : wR (en.eq (.str a) (.str b) M) KV X := w_ok (h.eq_str a b M) k
theorem o_eqi (h : EnOk en) {a b : Int} (k : KV (.bl (decide (a = b))) M) : wR (en.eq (.int a) (.int b) M) KV X := w_ok (h.eq_int a b M) k
theorem o_nes (h : EnOk en) {a b : Str} (k : KV (.bl (!decide (a = b))) M) : wR (en.ne (.str a) (.str b) M) KV X := w_ok (h.ne_str a b M) k
theorem o_nei (h : EnOk en) {a b : Int} (k : KV (.bl (!decide (a = b))) M) : wR (en.ne (.int a) (.int b) M) KV X := w_ok (h.ne_int a b M) k
theorem o_isf {a : Av} (k : KV (.bl (isNonA a)) M) : wR (opIs false a .non M) KV X := k
theorem o_ist {a : Av} (k : KV (.bl (!isNonA a)) M) : wR (opIs true a .non M) KV X := k
theorem o_ix_tup (h : EnOk en) {xs : List Av} {i : Int} {v : Av} (hx : atI xs i = some v) (k : KV v M) : wR (en.ix (.tup xs) (.int i) M) KV X := by
  rw [h.ix _ _ _ rfl]
  simp only [opIx, asQ, hx]
  exact k
theorem o_ix_lst (h : EnOk en) {xs : List Av} {i : Int} {v : Av} (hx : atI xs i = some v) (k : KV v M) : wR (en.ix (.lst xs) (.int i) M) KV X := by
  rw [h.ix _ _ _ rfl]
  simp only [opIx, asQ, hx]
  exact k
theorem o_ix0_lst (h : EnOk en) {x : Av} {xs : List Av} (k : KV x M) : wR (en.ix (.lst (x :: xs)) (.int 0) M) KV X := o_ix_lst h (atI_nat (k := 0) rfl) k
theorem o_ix0_tup (h : EnOk en) {x : Av} {xs : List Av} (k : KV x M) : wR (en.ix (.tup (x :: xs)) (.int 0) M) KV X := o_ix_tup h (atI_nat (k := 0) rfl) k
theorem o_ix1_tup (h : EnOk en) {x y : Av} {xs : List Av} (k : KV y M) : wR (en.ix (.tup (x :: y :: xs)) (.int 1) M) KV X := o_ix_tup h (atI_nat (k := 1) rfl) k
theorem o_len_tup (h : EnOk en) {xs : List Av} (k : KV (.int (xs.length : Nat)) M) : wR (en.len [.tup xs] M) KV X := by
  rw [h.len _ _ rfl]; simp only [opLen, asQ]; exact k
theorem o_len_lst (h : EnOk en) {xs : List Av} (k : KV (.int (xs.length : Nat)) M) : wR (en.len [.lst xs] M) KV X := by
  rw [h.len _ _ rfl]; simp only [opLen, asQ]; exact k
theorem o_len_fz (h : EnOk en) {xs : List Av} (k : KV (.int (xs.length : Nat)) M) : wR (en.len [.fz xs] M) KV X := by
  rw [h.len _ _ rfl]; simp only [opLen, asQ]; exact k
theorem o_min {a b : Int} (k : KV (.int (if b < a then b else a)) M) : wR (opMin [.int a, .int b] M) KV X := k
theorem o_max {a b : Int} (k : KV (.int (if b > a then b else a)) M) : wR (opMax [.int a, .int b] M) KV X := k
theorem o_tup_lst {xs : List Av} (k : KV (.tup xs) M) : wR (opTuple [.lst xs] M) KV X := k
theorem o_tup_tup {xs : List Av} (k : KV (.tup xs) M) : wR (opTuple [.tup xs] M) KV X := k
end
section
variable {KV : VC} {X : XC} {e : Env} {M M1 : Mem} {N B C : EC} {R : VC} {Y : XS} {en : En}
theorem w_lc {α : Type} {fi : Ei} {g : Eg} {t : Et} {f : Ev} {vs : List Nat} (l : List α) (src : α → Av) (p : α → Bool) (φ : α → Av)
    (h : wR (fi e M) (fun k M1 => k.items = l.map src ∧ (∀ acc, k.stay (M1 ++ [some (.lst acc)]) = true) ∧ l.length ≤ 100000 ∧
      (∀ x acc, x ∈ l → ∃ e1, g (src x) (wipeA e vs) (M1 ++ [some (.lst acc)]) = some e1 ∧ wR (t e1 (M1 ++ [some (.lst acc)])) (fun b M2 => b = p x ∧ M2 = M1 ++ [some (.lst acc)] ∧ (p x = true → wR (f e1 (M1 ++ [some (.lst acc)])) (fun v M3 => v = φ x ∧ M3 = M1 ++ [some (.lst acc)]) xNo)) xNo) ∧
      (∀ x ∈ l, below M1.length (φ x) = true) ∧ KV (.lst ((l.filter p).map φ)) M1) X) : wR (eLc false fi g t f vs e M) KV X := by
  cases q : fi e M with
  | ok k M1 =>
    rw [q] at h
    obtain ⟨h1, h2, h3, h4, h5, h6⟩ := h
    refine w_ok (lc_gen l src p φ q h1 h2 h3 (fun x acc hx => ?_) h5) h6
    obtain ⟨e1, q1, q2⟩ := h4 x acc hx
    obtain ⟨b, M2, r1, rfl, rfl, r4⟩ := w_ex q2
    exact ⟨e1, q1, r1, fun hp => w_eq (r4 hp)⟩
  | exc k fs M1 =>
    rw [q] at h
    unfold eLc
    rw [q]
    exact h
  | bad => rw [q] at h; exact h.elim
theorem s_law {sd : Fn} {lo hi : Int} {m : Nat} {Bd T : Es} {ns : List Int} (h : EnOk en) (hsd : SeedOk sd) (hlo : 0 ≤ lo ∧ lo ≤ 90) (hhi : hi ≤ 90) (hl : ns.length ≤ 63) (he : e[0]? = some (some (.fz (ns.map .int)))) (hn : e.length = m + 3)
    (hB : ∀ (k : Nat) (rest : List (Option Av)) (M : Mem) (a b : Int), rest.length = m → Bx a b → wS (Bd (some (.fz (ns.map .int)) :: some (.int (k : Int)) :: some (.ref M.length) :: rest) (M ++ [bx a b])) (fun e' _ => e'[0]? = some (some (.fz (ns.map .int))) ∧ e'.length = m + 3) R (fun _ _ => False) (fun e' _ => e'[0]? = some (some (.fz (ns.map .int))) ∧ e'.length = m + 3) Y)
    (hT : ∀ e M, e[0]? = some (some (.fz (ns.map .int))) → e.length = m + 3 → wS (T e M) N R B C Y) :
    wS (sSeq (sFor (iRng1A (aCons (eCallB opMax (aCons (eC (.int lo)) (aCons (eCallB opMin (aCons (eC (.int hi)) (aCons (eCallB en.len (aCons (eVar 0) aNil)) aNil))) aNil))) aNil)) (gNm 1) (sSeq (sSet 2 (eCallB (defl sd []) (aCons (eVar 0) (aCons (eVar 1) aNil)))) Bd)) T e M) N R B C Y := by
  refine s_seq (s_for (i_rng1 ?_))
  refine w_acons (w_callB (w_acons (w_c (w_acons (w_callB (w_acons (w_c (w_acons (w_callB (w_acons (w_var he (w_anil (o_len_fz h ?_)))))))))))))
  refine w_anil (o_min (w_anil (o_max (w_anil ?_))))
  generalize hj : (if (if ((List.length (ns.map Av.int) : Nat) : Int) < hi then ((List.length (ns.map Av.int) : Nat) : Int) else hi) > lo then (if ((List.length (ns.map Av.int) : Nat) : Int) < hi then ((List.length (ns.map Av.int) : Nat) : Int) else hi) else lo) = j
  have hj2 : 0 ≤ j ∧ j ≤ 90 := by
    rw [List.length_map] at hj
    subst hj
    split <;> split <;> omega
  refine ⟨j, rfl, by simp [small62]; omega, ?_⟩
  refine s_forL (fun _ e' _ => e'[0]? = some (some (.fz (ns.map .int))) ∧ e'.length = m + 3) ⟨he, hn⟩ (fun _ _ _ _ => rfl) (fun i x e M hx hJ => ?_) (fun e M hJ => hT e M hJ.1 hJ.2)
  obtain ⟨rfl, hi2⟩ := rng_item hx
  refine ⟨_, rfl, ?_⟩
  match e, hJ with
  | [], hJ => exact absurd hJ.2 (by simp)
  | [_], hJ => exact absurd hJ.2 (by simp)
  | [_, _], hJ => exact absurd hJ.2 (by simp)
  | x0 :: x1 :: x2 :: rest, hJ =>
    have e0 : x0 = some (.fz (ns.map .int)) := by have := hJ.1; simpa using this
    subst e0
    obtain ⟨a, b, qs, hb⟩ := hsd M ns i hl (by omega)
    refine s_seq (s_set (w_callB (w_acons (w_var rfl (w_acons (w_var rfl (w_anil (w_defl0 (w_ok qs ?_)))))))))
    exact wS_mono (hB i rest M a b (by have := hJ.2; simp at this; omega) hb) (fun _ _ h => h) (fun _ _ h => h) (fun _ _ h => h.elim) (fun _ _ h => h) (fun _ _ _ _ h => h)
theorem law_end {np n : Nat} {body : Es} {ns : List Int} (h : wS (body (some (.fz (ns.map .int)) :: List.replicate (n - 1) none) []) (fun _ _ => False) (fun v _ => v = .bl true) (fun _ _ => False) (fun _ _ => False) (fun _ _ _ _ => False)) : ∃ M, runF 1 n body [.fz (ns.map .int)] [] = .ok (.bl true) M := by
  cases q : body (some (.fz (ns.map .int)) :: List.replicate (n - 1) none) [] with
  | rt v M =>
    rw [q] at h
    have h : v = .bl true := h
    subst h
    rw [run_rt (np := 1) rfl (show body ([Av.fz (ns.map .int)].map some ++ List.replicate (n - 1) none) [] = .rt (.bl true) M from q)]
    exact fin_true
  | _ => rw [q] at h; exact h.elim
theorem enm_item {a x : Av} {xs : List Av} {i : Nat} (h : (Ik.enm a xs).items[i]? = some x) : ∃ r, xs[i]? = some r ∧ x = .tup [.int (i : Int), r] := by
  have h : (enmA 0 xs)[i]? = some x := h
  rw [enmA_get, Option.map_eq_some_iff] at h
  obtain ⟨r, h1, h2⟩ := h
  exact ⟨r, h1, by rw [← h2]; simp⟩
theorem enm_len {a : Av} {xs : List Av} : (Ik.enm a xs).items.length = xs.length := enmA_len _ _
theorem w_ch {ch : Fn} (hc : ChooseOk ch) {n : Nat} {k : Int} (hM : BxAt M n) (k1 : 1 ≤ k) (k2 : k < 1073741824) (h : ∀ r M1, Gen n M M1 → BxAt M1 n → 0 ≤ r → r < k → KV (.int r) M1) : wR (ch [.ref n, .int k] M) KV X := by
  obtain ⟨r, M1, h1, h2, h3, h4⟩ := hc M n k hM k1 k2
  exact w_ok h1 (h r M1 h2 (h2.at_ hM) h3 h4)
theorem w_oo {oo : Fn} (ho : OneOfOk oo) {n : Nat} {xs : List Av} (hM : BxAt M n) (h1 : xs ≠ []) (h2 : xs.length ≤ 100000) (h3 : ∀ x ∈ xs, ∀ M, frz x M = none) (h : ∀ x M1, Gen n M M1 → BxAt M1 n → x ∈ xs → KV x M1) : wR (oo [.ref n, .lst xs] M) KV X := by
  obtain ⟨x, M1, q1, q2, q3⟩ := ho M n (.lst xs) xs hM (.inl rfl) h1 h2 h3
  exact w_ok q1 (h x M1 q2 (q2.at_ hM) q3)
end
end Pd
set_option maxHeartbeats 2000000
namespace Pd
open PySem PySem.Spec L2
section
variable {KV : VC} {X : XC} {e : Env} {M : Mem}
end
end Pd
set_option maxHeartbeats 2000000
local macro_rules | `(tactic| walk_at "x1") => `(tactic| first | (with_reducible refine Pd.s_seq ?_) | (with_reducible refine Pd.s_set ?_) | (with_reducible refine Pd.s_if ?_) | (with_reducible refine Pd.s_ret ?_) | (with_reducible refine Pd.s_drop ?_) | (with_reducible refine Pd.s_pass ?_) | (with_reducible refine Pd.s_cont ?_) | (with_reducible refine Pd.s_break ?_) | (with_reducible refine Pd.s_par ?_) | (with_reducible refine Pd.s_asg ?_) | (with_reducible refine Pd.s_setFld ?_) | (with_reducible refine Pd.s_setIx ?_) | (with_reducible refine Pd.s_raise ?_) | (with_reducible refine Pd.s_thru ?_) | (with_reducible refine Pd.s_tryAs ?_) | (with_reducible refine Pd.s_tryOnly ?_) | (with_reducible refine Pd.s_for ?_) | (with_reducible refine Pd.w_c ?_) | (with_reducible refine Pd.w_bin ?_) | (with_reducible refine Pd.w_ifE ?_) | (with_reducible refine Pd.w_and ?_) | (with_reducible refine Pd.w_or ?_) | (with_reducible refine Pd.w_not ?_) | (with_reducible refine Pd.w_neg ?_) | (with_reducible refine Pd.w_chain ?_) | (with_reducible refine Pd.w_anil ?_) | (with_reducible refine Pd.w_acons ?_) | (with_reducible refine Pd.w_astar ?_) | (with_reducible refine Pd.w_tup ?_) | (with_reducible refine Pd.w_lst ?_) | (with_reducible refine Pd.w_newL ?_) | (with_reducible refine Pd.w_fld ?_) | (with_reducible refine Pd.w_frz ?_) | (with_reducible refine Pd.w_callB ?_) | (with_reducible refine Pd.w_defl0 ?_) | (with_reducible refine Pd.w_sl ?_) | (with_reducible refine Pd.w_onone ?_) | (with_reducible refine Pd.w_osome ?_) | (with_reducible refine Pd.w_meth ?_) | (with_reducible refine Pd.w_bm ?_) | (with_reducible refine Pd.w_cmeth ?_) | (with_reducible refine Pd.w_tval ?_) | (with_reducible refine Pd.w_tcmp ?_) | (with_reducible refine Pd.w_tbl ?_) | (with_reducible refine Pd.w_tnot ?_) | (with_reducible refine Pd.w_tand ?_) | (with_reducible refine Pd.w_tor ?_) | (with_reducible refine Pd.w_tyes ?_) | (with_reducible refine Pd.i_rng1 ?_) | (with_reducible refine Pd.i_rng2 ?_) | (with_reducible refine Pd.i_seq ?_) | (with_reducible refine Pd.i_enm ?_) | (with_reducible refine Pd.i_zip ?_) | (with_reducible refine Pd.ex_bl ?_) | (with_reducible refine Pd.ex_int ?_) | (with_reducible refine Pd.ex_one ?_) | (with_reducible refine Pd.ex_trub ?_) | (with_reducible refine Pd.ex_asq_tup ?_) | (with_reducible refine Pd.ex_asq_lst ?_) | (with_reducible refine Pd.ex_gm ?_) | (with_reducible refine Pd.or_stay_str ?_) | (with_reducible refine Pd.or_stay_tup ?_) | (with_reducible refine Pd.or_stay_lst ?_) | (with_reducible refine Pd.ex_enm_tup ?_) | (with_reducible refine Pd.ex_enm_lst ?_) | (with_reducible refine Pd.if_tt ?_) | (with_reducible refine Pd.if_ff ?_) | (with_reducible refine Pd.fi_tt ?_) | (with_reducible refine Pd.fi_ff ?_) | (with_reducible refine Pd.o_sub ?_) | (with_reducible refine Pd.o_cmp ?_) | (with_reducible refine Pd.o_isf ?_) | (with_reducible refine Pd.o_ist ?_) | (with_reducible refine Pd.o_min ?_) | (with_reducible refine Pd.o_max ?_) | (with_reducible refine Pd.o_tup_lst ?_) | (with_reducible refine Pd.o_tup_tup ?_) | ((with_reducible refine Pd.w_var (v := ?v) ?h ?_); (case h => exact rfl)) | (with_reducible refine Pd.o_add (by assumption) ?_) | (with_reducible refine Pd.o_eqs (by assumption) ?_) | (with_reducible refine Pd.o_eqi (by assumption) ?_) | (with_reducible refine Pd.o_nes (by assumption) ?_) | (with_reducible refine Pd.o_nei (by assumption) ?_) | (with_reducible refine Pd.o_len_tup (by assumption) ?_) | (with_reducible refine Pd.o_ix0_lst (by assumption) ?_) | (with_reducible refine Pd.o_ix0_tup (by assumption) ?_) | (with_reducible refine Pd.o_ix1_tup (by assumption) ?_) | (with_reducible refine Pd.o_len_lst (by assumption) ?_) | (with_reducible refine Pd.o_len_fz (by assumption) ?_) | ((with_reducible refine Pd.and_sz ?_ ?_); (focus (first | exact Pd.szOk_of (by simp only [List.length_cons, List.length_nil]; omega) | rfl))) | ((with_reducible refine Pd.and_isT ?_ ?_); (focus rfl)) | ((with_reducible refine Pd.and_cls ?_ ?_); (focus rfl)) | ((with_reducible refine Pd.ex_gn (e1 := ?e1) ?h ?_); (case h => exact rfl)) | ((with_reducible refine Pd.ex_gt (e1 := ?e1) ?h ?_); (case h => exact rfl)) | (with_reducible refine Pd.ex_fld (Pd.fld_mode _ _) ?_) | (with_reducible refine Pd.ex_fld (Pd.fld_pick _ _) ?_) | (with_reducible refine Pd.ex_fld (Pd.fld_move _ _) ?_) | (with_reducible refine Pd.ex_fld (Pd.fld_then _ _) ?_) | (with_reducible refine Pd.ex_fld (Pd.fld_also _ _) ?_) | (with_reducible refine Pd.ex_fld (Pd.fld_first _ _ _) ?_) | (with_reducible refine Pd.ex_fld (Pd.fld_rows _ _ _) ?_) | (with_reducible refine Pd.ex_fld (Pd.fld_modes _ _ _) ?_) | ((with_reducible refine Pd.ex_fld (v := ?v) ?h ?_); (case h => exact rfl)) | ((with_reducible refine Pd.or_frz ?_ ?_); (focus rfl)) | ((with_reducible refine Pd.ex_rng ?_ ?_); (focus rfl)) | ((with_reducible refine Pd.ex_rng2 ?_ ?_); (focus rfl)) | ((with_reducible refine Pd.o_mod ?_ ?_); (focus rfl)) | ((with_reducible refine Pd.o_div ?_ ?_); (focus rfl)) | ((with_reducible refine Pd.o_mul ?_ ?_); (focus rfl)) | ((with_reducible refine Pd.o_ix_tup (v := ?v) (by assumption) ?h ?_); (case h => exact rfl)) | ((with_reducible refine Pd.o_ix_lst (v := ?v) (by assumption) ?h ?_); (case h => exact rfl)) | ((with_reducible refine Pd.o_adds (by assumption) ?_ ?_); (focus rfl)) | ((with_reducible refine Pd.o_addt (by assumption) ?_ ?_); (focus rfl)) | ((with_reducible refine Pd.o_addl (by assumption) ?_ ?_); (focus rfl)) | ((with_reducible refine Pd.if_T ?_ ?_); (focus rfl)) | ((with_reducible refine Pd.if_F ?_ ?_); (focus rfl)) | ((with_reducible refine Pd.fi_T ?_ ?_); (focus rfl)) | ((with_reducible refine Pd.fi_F ?_ ?_); (focus rfl)) | (with_reducible refine Pd.w_now ?_))
local macro_rules | `(tactic| walk_at "sx") => `(tactic| ((repeat walk_at "x1"); try dsimp only [List.set_cons_zero, List.set_cons_succ]))
namespace Pd
open PySem PySem.Spec L2
end Pd
set_option maxHeartbeats 2000000
namespace Pd
open PySem PySem.Spec L2
open TL (tl len_tl tl_append tl_join joinL join_eq split_join ext_tl)
section
variable {KV : VC} {KS : Str → Mem → Prop} {X : XC} {e : Env} {M : Mem}
theorem w_joined {fs : List Ev} (h : wR (eJs fs Str.empty e M) (fun z M1 => KV (.str z) M1) X) : wR (eJoined fs e M) KV X := wR_bind h
theorem w_js0 {acc : Str} (k : KS acc M) : wR (eJs [] acc e M) KS X := k
theorem w_js {f : Ev} {fs : List Ev} {acc : Str} (h : wR (f e M) (fun a M1 => ∃ y, a = .str y ∧ (acc ++ y).length ≤ 100000 ∧ wR (eJs fs (acc ++ y) e M1) KS X) X) : wR (eJs (f :: fs) acc e M) KS X := wR_bind (wR_mono h fun a M1 ⟨y, h1, h2, h3⟩ => by
  subst h1
  simp only [szOk_of h2, if_true]
  exact h3)
theorem w_fmt {f : Ev} (h : wR (f e M) (fun a M1 => ∃ y, fmtA a = some y ∧ KV (.str y) M1) X) : wR (eFmt f e M) KV X := wR_bind (wR_mono h fun a M1 ⟨y, h1, h2⟩ => by
  simp only [h1]; exact h2)
end
theorem len_app (x y : Str) : (x ++ y).length = x.length + y.length := by rw [len_tl, len_tl, len_tl, tl_append, List.length_append]
theorem fmt_str {x : Str} (h : x.length ≤ 100000) : fmtA (.str x) = some x := by simp only [fmtA, szOk_of h, if_true]
theorem good_lens {r : PRow} (h : r.good) : r.mode.length ≤ 4 ∧ r.pick.length ≤ 5 ∧ r.move.length ≤ 5 ∧ r.thn.length ≤ 4 :=
  ⟨h.1.1.2, (pick_no h.2.1 (c := 10) (by decide)).2, (move_no h.2.2.1 (c := 10) (by decide)).2, h.2.2.2.1.2⟩
def RowStrOk (f : Fn) : Prop := ∀ (r : PRow) (M : Mem), r.good → f [r.av] M = .ok (.str (rowText r)) M
theorem len_lit1 : (" " : Str).length = 1 := rfl
theorem len_lit5 : (" also" : Str).length = 5 := rfl
theorem len_em : Str.empty.length = 0 := rfl
theorem row_str_ok {en : En} : RowStrOk (runF 1 1 (s_m_Row_str en)) := by
  intro r M hg
  obtain ⟨l1, l2, l3, l4⟩ := good_lens hg
  refine w_eq (w_run rfl rfl ?_)
  unfold s_m_Row_str
  have f1 : ∀ M, fldA M "mode" r.av = some (.str r.mode) := fun _ => rfl
  have f2 : ∀ M, fldA M "pick" r.av = some (.str r.pick) := fun _ => rfl
  have f3 : ∀ M, fldA M "move" r.av = some (.str r.move) := fun _ => rfl
  have f4 : ∀ M, fldA M "then" r.av = some (.str r.thn) := fun _ => rfl
  have core : ∀ (rest : List Ev) (K : Str → Mem → Prop) (X : XC) (e : Env), e[0]? = some (some r.av) → wR (eJs rest (Str.empty ++ r.mode ++ " " ++ r.pick ++ " " ++ r.move ++ " " ++ r.thn) e M) K X →
      wR (eJs ((eFmt (eFld (eVar 0) "mode")) :: (eC (.str " ")) :: (eFmt (eFld (eVar 0) "pick")) :: (eC (.str " ")) :: (eFmt (eFld (eVar 0) "move")) :: (eC (.str " ")) :: (eFmt (eFld (eVar 0) "then")) :: rest) Str.empty e M) K X := by
    intro rest K X e he hk
    refine w_js (w_fmt (w_fld (w_var he ⟨_, f1 M, _, fmt_str (by omega), _, rfl, by simp only [len_app, len_em]; omega, ?_⟩)))
    refine w_js (w_c ⟨_, rfl, by simp only [len_app, len_em, len_lit1]; omega, ?_⟩)
    refine w_js (w_fmt (w_fld (w_var he ⟨_, f2 M, _, fmt_str (by omega), _, rfl, by simp only [len_app, len_em, len_lit1]; omega, ?_⟩)))
    refine w_js (w_c ⟨_, rfl, by simp only [len_app, len_em, len_lit1]; omega, ?_⟩)
    refine w_js (w_fmt (w_fld (w_var he ⟨_, f3 M, _, fmt_str (by omega), _, rfl, by simp only [len_app, len_em, len_lit1]; omega, ?_⟩)))
    refine w_js (w_c ⟨_, rfl, by simp only [len_app, len_em, len_lit1]; omega, ?_⟩)
    exact w_js (w_fmt (w_fld (w_var he ⟨_, f4 M, _, fmt_str (by omega), _, rfl, by simp only [len_app, len_em, len_lit1]; omega, hk⟩)))
  have te : tl Str.empty = [] := rfl
  cases ha : r.also with
  | true =>
    have f5 : ∀ M, fldA M "also" r.av = some (.bl true) := fun _ => by show some (Av.bl r.also) = _; rw [ha]
    refine s_seq (s_if (w_tval (w_fld (w_var rfl ⟨_, f5 M, true, rfl, if_tt ?_⟩))))
    refine s_ret (w_frz (w_joined (core _ _ _ _ rfl ?_)))
    refine w_js (w_c ⟨_, rfl, by simp only [len_app, len_em, len_lit1, len_lit5]; omega, ?_⟩)
    refine w_js0 (.inl ⟨rfl, w_ok (fin_same rfl) ⟨?_, rfl⟩⟩)
    congr 1
    refine ext_tl ?_
    unfold rowText
    rw [ha]
    simp only [tl_append, join_eq, tl_join, te, tl_sp, if_true]
    simp [joinL]
  | false =>
    have f5 : ∀ M, fldA M "also" r.av = some (.bl false) := fun _ => by show some (Av.bl r.also) = _; rw [ha]
    refine s_seq (s_if (w_tval (w_fld (w_var rfl ⟨_, f5 M, false, rfl, if_ff ?_⟩))))
    refine s_pass (s_ret (w_frz (w_joined (core _ _ _ _ rfl ?_))))
    refine w_js0 (.inl ⟨rfl, w_ok (fin_same rfl) ⟨?_, rfl⟩⟩)
    congr 1
    refine ext_tl ?_
    unfold rowText
    rw [ha]
    simp only [tl_append, join_eq, tl_join, te, tl_sp, Bool.false_eq_true, if_false, tl_empty]
    simp [joinL]
def EnStrRow (en : En) : Prop := ∀ (r : PRow) (M : Mem), r.good → en.str [r.av] M = .ok (.str (rowText r)) M
theorem en_strRow {p : Pg} {C : Cal} {id : Nat} (h : p.tb.dn "__str__" 0 = some id) (hq : RowStrOk (C id)) : EnStrRow (p.en C) := by
  intro r M hg
  show opStrO p.tb.dn C [r.av] M = _
  have c : clsA M r.av = some 0 := rfl
  simp only [opStrO, c, h, hq r M hg, strR]
theorem rowText_len {r : PRow} (h : r.good) : (rowText r).length ≤ 30 := by
  obtain ⟨l1, l2, l3, l4⟩ := good_lens h
  have := len4 h
  unfold rowText
  rw [len_app]
  have j := join_len " " [r.mode, r.pick, r.move, r.thn]
  simp only [List.map_cons, List.map_nil, List.sum_cons, List.sum_nil, List.length_cons, List.length_nil, len_lit1] at j
  have : (if r.also then (" also" : Str) else ("" : Str)).length ≤ 5 := by cases r.also <;> decide
  omega
def RuleStrOk (f : Fn) : Prop := ∀ (first : Str) (rows : List PRow) (M : Mem), nameB first → (∀ r ∈ rows, r.good) → rows.length ≤ 400 → f [ruleA first rows] M = .ok (.str (ruleText first rows)) M
theorem rule_str_ok {en : En} (hs : EnStrRow en) : RuleStrOk (runF 1 2 (s_m_Rule_str en)) := by
  intro first rows M hf hg hl
  refine w_eq (w_run rfl rfl ?_)
  unfold s_m_Rule_str
  have f1 : ∀ M, fldA M "first" (ruleA first rows) = some (.str first) := fun _ => rfl
  have f2 : ∀ M, fldA M "rows" (ruleA first rows) = some (.tup (rows.map PRow.av)) := fun _ => rfl
  have lf := hf.1.2
  have l6 : ("first " : Str).length = 6 := rfl
  refine s_ret (w_frz (w_bm (w_c ⟨rfl, ?_⟩)))
  refine w_acons (w_lst (w_acons (w_joined ?_)))
  refine w_js (w_c ⟨_, rfl, by simp only [len_app, len_em, l6]; omega, ?_⟩)
  refine w_js (w_fmt (w_fld (w_var rfl ⟨_, f1 M, _, fmt_str (by omega), _, rfl, by simp only [len_app, len_em, l6]; omega, ?_⟩)))
  refine w_js0 ?_
  refine w_astar (w_lc rows PRow.av (fun _ => true) (fun r => .str (rowText r)) ?_)
  refine i_seq (w_fld (w_var rfl ⟨_, f2 M, or_stay_tup ?_⟩))
  refine ⟨rfl, fun acc => eqAs_refl _, by omega, fun r acc hr => ⟨_, rfl, ?_⟩, fun _ _ => rfl, ?_⟩
  · refine w_tyes ⟨rfl, rfl, fun _ => ?_⟩
    exact w_callB (w_acons (w_var rfl (w_anil (w_ok (hs r _ (hg r hr)) ⟨rfl, rfl⟩))))
  · rw [filter_yes]
    refine ⟨_, rfl, w_anil ?_⟩
    refine ⟨szOk_of (by simp; omega), w_anil ?_⟩
    have e0 : Str.empty ++ ("first " : Str) ++ first = ("first " : Str) ++ first := by
      refine ext_tl ?_
      simp only [tl_append, show tl Str.empty = [] from rfl, List.nil_append]
    rw [e0]
    have e1 : (Av.str (("first " : Str) ++ first) :: (rows.map (fun r => Av.str (rowText r)) ++ [])) = ((("first " : Str) ++ first) :: rows.map rowText).map Av.str := by simp
    have sm : ∀ l : List PRow, (∀ r ∈ l, r.good) → ((l.map rowText).map (·.length)).sum ≤ l.length * 30 := by
      intro l
      induction l with
      | nil => intro _; simp
      | cons r l ih =>
        intro h
        have h1 := rowText_len (h r (by simp))
        have h2 := ih fun x hx => h x (by simp [hx])
        simp only [List.map_cons, List.sum_cons, List.length_cons]
        omega
    have hj : opJoin (.str "\n") [.lst (((("first " : Str) ++ first) :: rows.map rowText).map Av.str)] M = .ok (.str (ruleText first rows)) M := by
      simp only [opJoin, asQ, strs_map]
      rw [if_pos (szOk_of (by
        have := sm rows hg
        have e : ("\n" : Str).length = 1 := rfl
        simp only [List.map_cons, List.sum_cons, len_app, l6, List.length_cons, List.length_map, e]
        omega))]
      rfl
    rw [e1]
    refine w_ok hj (.inl ⟨rfl, w_ok (fin_same rfl) ⟨rfl, rfl⟩⟩)
def EnStrRule (en : En) : Prop := ∀ (first : Str) (rows : List PRow) (M : Mem), nameB first → (∀ r ∈ rows, r.good) → rows.length ≤ 400 → en.str [ruleA first rows] M = .ok (.str (ruleText first rows)) M
theorem en_strRule {p : Pg} {C : Cal} {id : Nat} (h : p.tb.dn "__str__" 1 = some id) (hq : RuleStrOk (C id)) : EnStrRule (p.en C) := by
  intro first rows M hf hg hl
  show opStrO p.tb.dn C [ruleA first rows] M = _
  have c : clsA M (ruleA first rows) = some 1 := rfl
  simp only [opStrO, c, h, hq first rows M hf hg hl, strR]
structure GR (first : Str) (rows : List PRow) : Prop where
  f : nameB first
  g : ∀ r ∈ rows, r.good
  l : rows.length ≤ 400
def RuleEqOk (f : Fn) : Prop := ∀ (first f2 : Str) (rows rows2 : List PRow) (M : Mem), GR first rows → GR f2 rows2 → f [ruleA first rows, ruleA f2 rows2] M = .ok (.bl (decide (ruleText first rows = ruleText f2 rows2))) M
theorem rule_eq_ok {en : En} (h : EnOk en) (hs : EnStrRule en) : RuleEqOk (runF 2 2 (s_m_Rule_eq en)) := by
  intro first f2 rows rows2 M g1 g2
  refine w_eq (w_run rfl rfl ?_)
  unfold s_m_Rule_eq
  walk_at "sx"
  refine w_ok (v := .bl true) (M1 := M) rfl ?_
  walk_at "sx"
  refine w_ok (hs first rows M g1.f g1.g g1.l) ?_
  walk_at "sx"
  refine w_ok (hs f2 rows2 M g2.f g2.g g2.l) ?_
  walk_at "sx"
  exact w_ok (fin_same rfl) ⟨rfl, rfl⟩
structure EnEqRule (en : En) : Prop where
  eq : ∀ (first f2 : Str) (rows rows2 : List PRow) (M : Mem), GR first rows → GR f2 rows2 → en.eq (ruleA first rows) (ruleA f2 rows2) M = .ok (.bl (decide (ruleText first rows = ruleText f2 rows2))) M
  ne : ∀ (first f2 : Str) (rows rows2 : List PRow) (M : Mem), GR first rows → GR f2 rows2 → en.ne (ruleA first rows) (ruleA f2 rows2) M = .ok (.bl (!decide (ruleText first rows = ruleText f2 rows2))) M
theorem en_eqRule {p : Pg} {C : Cal} {id : Nat} (h : p.tb.eq 1 = some id) (hq : RuleEqOk (C id)) : EnEqRule (p.en C) := by
  refine ⟨fun first f2 rows rows2 M g1 g2 => ?_, fun first f2 rows rows2 M g1 g2 => ?_⟩
  · show opEqO p.tb.eq C (ruleA first rows) (ruleA f2 rows2) M = _
    have c : clsA M (ruleA first rows) = some 1 := rfl
    have k : kdA M (ruleA f2 rows2) = some (.own 1) := rfl
    simp only [opEqO, c, h, k, hq first f2 rows rows2 M g1 g2, boolR]
  · show opNeO p.tb.eq C (ruleA first rows) (ruleA f2 rows2) M = _
    have c : clsA M (ruleA first rows) = some 1 := rfl
    have k : kdA M (ruleA f2 rows2) = some (.own 1) := rfl
    simp only [opNeO, c, h, k, hq first f2 rows rows2 M g1 g2, notR]
end Pd
set_option maxHeartbeats 800000
namespace Pd
open PySem PySem.Spec L2
open TL (tl len_tl tl_append tl_join joinL join_eq ext_tl spl spl_nil spl_hit spl_miss pre split_spl kind_ok)
theorem pre1 (s c : Nat) (r : List Nat) : pre [s] (c :: r) = decide (c = s) := by
  rw [Bool.eq_iff_iff]
  simp [pre]
theorem spl_ne (s : Nat) : ∀ (l acc : List Nat), spl [s] 0 acc l ≠ []
  | [], acc => by rw [spl_nil]; simp
  | c :: r, acc => by
    cases h : pre [s] (c :: r) with
    | true => rw [spl_hit h]; simp
    | false => rw [spl_miss h]; exact spl_ne s r _
theorem join_spl (s : Nat) : ∀ (l acc : List Nat), joinL [s] (spl [s] 0 acc l) = acc ++ l
  | [], acc => by rw [spl_nil]; simp [joinL]
  | c :: r, acc => by
    cases h : pre [s] (c :: r) with
    | true =>
      rw [spl_hit h]
      have hc : c = s := by rw [pre1] at h; exact of_decide_eq_true h
      show joinL [s] (acc :: spl [s] 0 [] r) = _
      have ih := join_spl s r []
      have hn := spl_ne s r []
      cases q : spl [s] 0 [] r with
      | nil => exact absurd q hn
      | cons p ps =>
        rw [q] at ih
        show acc ++ ([s] ++ joinL [s] (p :: ps)) = _
        rw [ih, hc]
        simp
    | false =>
      rw [spl_miss h, join_spl s r]
      simp
theorem spl_mem (s : Nat) : ∀ (l acc : List Nat), ∀ p ∈ spl [s] 0 acc l, (∀ c ∈ p, c ∈ acc ++ l) ∧ p.length ≤ acc.length + l.length
  | [], acc => by
    rw [spl_nil]
    intro p hp
    rw [List.mem_singleton.mp hp]
    exact ⟨fun c hc => by simpa using hc, by simp⟩
  | c :: r, acc => by
    cases h : pre [s] (c :: r) with
    | true =>
      rw [spl_hit h]
      intro p hp
      rcases List.mem_cons.mp hp with rfl | hp
      · exact ⟨fun d hd => by simp [hd], by simp⟩
      · obtain ⟨h1, h2⟩ := spl_mem s r [] p hp
        exact ⟨fun d hd => by have := h1 d hd; simp at this; simp [this], by simp at h2; simp; omega⟩
    | false =>
      rw [spl_miss h]
      intro p hp
      obtain ⟨h1, h2⟩ := spl_mem s r (acc ++ [c]) p hp
      exact ⟨fun d hd => by have := h1 d hd; simpa using this, by simp at h2; simp; omega⟩
theorem spl_len (s : Nat) : ∀ (l acc : List Nat), (spl [s] 0 acc l).length ≤ l.length + 1
  | [], acc => by rw [spl_nil]; simp
  | c :: r, acc => by
    cases h : pre [s] (c :: r) with
    | true =>
      rw [spl_hit h]
      have := spl_len s r []
      show (acc :: spl [s] 0 [] r).length ≤ _
      simp
      omega
    | false =>
      rw [spl_miss h]
      have := spl_len s r (acc ++ [c])
      simp
      omega
theorem spl_sum (s : Nat) : ∀ (l acc : List Nat), ((spl [s] 0 acc l).map (·.length)).sum + (spl [s] 0 acc l).length = acc.length + l.length + 1
  | [], acc => by rw [spl_nil]; simp
  | c :: r, acc => by
    cases h : pre [s] (c :: r) with
    | true =>
      rw [spl_hit h]
      have := spl_sum s r []
      show ((acc :: spl [s] 0 [] r).map (·.length)).sum + (acc :: spl [s] 0 [] r).length = _
      simp only [List.map_cons, List.sum_cons, List.length_cons, List.length_nil] at this ⊢
      omega
    | false =>
      rw [spl_miss h]
      have := spl_sum s r (acc ++ [c])
      simp only [List.length_append, List.length_cons, List.length_nil] at this ⊢
      omega
theorem spl_cnt (s : Nat) : ∀ (l acc : List Nat), (spl [s] 0 acc l).length = l.count s + 1
  | [], acc => by rw [spl_nil]; simp
  | c :: r, acc => by
    cases h : pre [s] (c :: r) with
    | true =>
      rw [spl_hit h]
      have hc : c = s := by rw [pre1] at h; exact of_decide_eq_true h
      have := spl_cnt s r []
      show (acc :: spl [s] 0 [] r).length = _
      rw [List.length_cons, this, hc, List.count_cons_self]
    | false =>
      rw [spl_miss h]
      have hc : c ≠ s := by rw [pre1] at h; exact of_decide_eq_false h
      rw [spl_cnt s r, List.count_cons_of_ne hc]
theorem spl_no (s : Nat) : ∀ (l acc : List Nat), s ∉ acc → ∀ p ∈ spl [s] 0 acc l, s ∉ p
  | [], acc, ha => by
    rw [spl_nil]
    intro p hp
    rw [List.mem_singleton.mp hp]
    exact ha
  | c :: r, acc, ha => by
    cases h : pre [s] (c :: r) with
    | true =>
      rw [spl_hit h]
      intro p hp
      rcases List.mem_cons.mp hp with rfl | hp
      · exact ha
      · exact spl_no s r [] (by simp) p hp
    | false =>
      rw [spl_miss h]
      have hc : c ≠ s := by rw [pre1] at h; exact of_decide_eq_false h
      exact spl_no s r _ (by simp only [List.mem_append, List.mem_singleton, not_or]; exact ⟨ha, fun z => hc z.symm⟩)
def okT (n : Nat) (x : Str) : Prop := PyData.strOk x = true ∧ x.length ≤ n
theorem okT.v {n : Nat} {x : Str} (h : okT n x) (hn : n ≤ 90000) : okV (.str x) = true := by
  have h2 := h.2
  simp only [okV, h.1, szOk_of (show x.length ≤ 100000 by omega), Bool.and_self]
theorem strOk_tl {x : Str} : PyData.strOk x = true ↔ ∀ c ∈ tl x, c < 0x110000 := by
  constructor
  · intro h c hc
    unfold PyData.strOk at h
    rw [← Array.all_toList, List.all_eq_true] at h
    exact of_decide_eq_true (h c hc)
  · exact strOk_of
theorem okT.le {n m : Nat} {x : Str} (h : okT n x) (hm : n ≤ m) : okT m x := ⟨h.1, Nat.le_trans h.2 hm⟩
structure Sp (n : Nat) (x y : Str) : Prop where
  j : Txt.join y (Txt.split x y) = x
  ne : Txt.split x y ≠ []
  l : (Txt.split x y).length ≤ n + 1
  o : ∀ p ∈ Txt.split x y, okT n p
  s : ((Txt.split x y).map (·.length)).sum + (Txt.split x y).length ≤ n + 1
theorem sp_of {n s : Nat} {x y : Str} (h : okT n x) (ey : tl y = [s]) (hk : y.cps.all (· < 256) = true) : Sp n x y := by
  have e : (Txt.split x y).map tl = spl [s] 0 [] (tl x) := by
    rw [split_spl x y (by rw [ey]; simp) (kind_ok hk), ey]
  have hl : (tl x).length ≤ n := by rw [← len_tl]; exact h.2
  refine ⟨ext_tl ?_, fun z => ?_, ?_, fun p hp => ?_, ?_⟩
  · rw [join_eq, tl_join, ey, e, join_spl]; simp
  · rw [z] at e
    exact spl_ne s (tl x) [] e.symm
  · have := congrArg List.length e
    rw [List.length_map] at this
    have := spl_len s (tl x) []
    omega
  · have hm : tl p ∈ spl [s] 0 [] (tl x) := by rw [← e]; exact List.mem_map.mpr ⟨p, hp, rfl⟩
    obtain ⟨h1, h2⟩ := spl_mem s (tl x) [] (tl p) hm
    refine ⟨strOk_tl.mpr fun c hc => ?_, ?_⟩
    · have := h1 c hc
      rw [List.nil_append] at this
      exact strOk_tl.mp h.1 c this
    · rw [len_tl]
      rw [List.length_nil, Nat.zero_add] at h2
      exact Nat.le_trans h2 hl
  · have e2 : ((Txt.split x y).map (·.length)) = ((Txt.split x y).map tl).map (·.length) := by
      rw [List.map_map]
      exact List.map_congr_left fun p _ => len_tl p
    have e3 := congrArg List.length e
    rw [List.length_map] at e3
    have := spl_sum s (tl x) []
    rw [e2, e, e3]
    rw [List.length_nil] at this
    omega
theorem sp_s {n : Nat} {x : Str} (h : okT n x) : Sp n x " " := sp_of (s := 32) h rfl (by rw [← Array.all_toList]; rfl)
theorem sp_n {n : Nat} {x : Str} (h : okT n x) : Sp n x "\n" := sp_of (s := 10) h rfl (by rw [← Array.all_toList]; rfl)
theorem split_x {n : Nat} {x y : Str} (h : okT n x) (hn : n ≤ 90000) (hy : (y.length == 0) = false) (M : Mem) : opSplit (.str x) [.str y] M = .ok (.lst ((Txt.split x y).map .str)) M := split_at rfl hy (Nat.le_trans h.2 hn)
def firstW : List Str → Option Str
  | [a, b] => if decide (a = "first") && nameb b then some b else none
  | _ => none
def rowW : List Str → Option PRow
  | [a, b, c, d] => if nameb a && decide (b ∈ PICKS) && decide (c ∈ MOVES) && nameb d then some ⟨a, b, c, d, false⟩ else none
  | [a, b, c, d, e] => if decide (e = "also") && (nameb a && decide (b ∈ PICKS) && decide (c ∈ MOVES) && nameb d) then some ⟨a, b, c, d, true⟩ else none
  | _ => none
def optS : Option Str → Av
  | some a => .str a
  | none => .non
def optR : Option PRow → Av
  | some r => r.av
  | none => .non
def FirstX (f : Fn) : Prop := ∀ (n : Nat) (x : Str) (M : Mem), okT n x → n ≤ 90000 → f [.str x] M = .ok (optS (firstW (Txt.split x " "))) M
theorem first_of_x {en : En} {nm : Fn} (h : EnOk en) (hn : NameB nm) : FirstX (runF 1 2 (s_f_first_of en nm)) := by
  intro n x M hx hn9
  have sp := sp_s hx
  have spx := split_x hx hn9 (y := " ") rfl M
  refine w_eq (w_run rfl rfl ?_)
  unfold s_f_first_of
  refine s_seq (s_set (w_bm (w_var rfl ⟨rfl, w_acons (w_c (w_anil (w_ok spx ?_)))⟩)))
  have so := sp.o
  have sl := sp.l
  generalize Txt.split x " " = ws at so sl ⊢
  walk_at "sx"
  refine ⟨fun z => ?_, fun z => ?_⟩
  · have z : ws.length = 2 := by simp at z; omega
    match ws, z with
    | [a, b], _ => ?_
    walk_at "sx"
    refine ⟨fun z2 => ?_, fun z2 => ?_⟩
    · have z2 : a = "first" := of_decide_eq_true z2
      subst z2
      walk_at "sx"
      refine w_ok (hn (.str b) M ((so b (by simp)).v hn9)) ?_
      walk_at "sx"
      refine ⟨fun z3 => ?_, fun z3 => ?_⟩
      · have z3 : nameb b = true := z3
        walk_at "sx"
        refine w_ok (fin_same rfl) ⟨?_, rfl⟩
        simp [firstW, z3, optS]
      · have z3 : nameb b = false := z3
        walk_at "sx"
        refine w_ok (fin_same rfl) ⟨?_, rfl⟩
        simp [firstW, z3, optS]
    · have z2 : ¬ a = "first" := of_decide_eq_false z2
      walk_at "sx"
      refine w_ok (fin_same rfl) ⟨?_, rfl⟩
      simp [firstW, z2, optS]
  · have z : ws.length ≠ 2 := by simp at z; omega
    walk_at "sx"
    refine w_ok (fin_same rfl) ⟨?_, rfl⟩
    have : firstW ws = none := by
      unfold firstW
      split
      · exact absurd rfl z
      · rfl
    rw [this]; rfl
structure XmK06 (en : En) : Prop where
  w : en.xm "InvalidRow" 1 = some true
  r : en.xm "InvalidRow" 3 = some false
  u : en.xm "InvalidRule" 3 = some false
  t : en.xm "InvalidText" 3 = some true
  l : en.xm "LineError" 3 = some true
abbrev ALSO : List Str := [("also" : Str)]
theorem also_eq {en : En} (h : EnOk en) {ws : List Str} (ho : ∀ w ∈ ws, PyData.strOk w = true) (M : Mem) : en.eq (.lst (ws.map .str)) (.lst [.str "also"]) M = .ok (.bl (decide (ws = ALSO))) M := by
  have so : PyData.strOk "also" = true := by
    refine strOk_of fun c hc => ?_
    have e : ("also" : Str).cps.toList = [97, 108, 115, 111] := rfl
    rw [e] at hc
    simp at hc
    omega
  have sd : ∀ l : List Str, (∀ w ∈ l, PyData.strOk w = true) → SD M 1 (.lst (l.map .str)) (.list (l.map .str)) := fun l hl => (sdt_lst (n := 0) (all2_map (g := PyData.str) fun c hc => sdt_str 0 (hl c hc))).sd M
  have s2 := sd ALSO (fun w hw => by rw [List.mem_singleton.mp hw]; exact so)
  rw [h.eq _ _ _ rfl]
  refine (eq_data false (sd ws ho) s2 (by decide) rfl).trans ?_
  simp only [Bool.false_eq_true, if_false]
  congr 2
  rw [Bool.eq_iff_iff, decide_eq_true_eq]
  show PyData.eqvAll _ _ = true ↔ _
  exact eqvAll_map (fun x y => by simp [PyData.eqv]) ws [("also" : Str)]
theorem rowDue_eq (a b c d : Str) (e : Bool) : rowDue (.str a) (.str b) (.str c) (.str d) (.bl e) = none ↔ (nameb a && decide (b ∈ PICKS) && decide (c ∈ MOVES) && nameb d) = true := by
  unfold rowDue
  have h1 : isNm (.str a) = nameb a := rfl
  have h2 : isWd PICKS (.str b) = decide (b ∈ PICKS) := rfl
  have h3 : isWd MOVES (.str c) = decide (c ∈ MOVES) := rfl
  have h4 : isNm (.str d) = nameb d := rfl
  have h5 : isBl (.bl e) = true := rfl
  rw [h1, h2, h3, h4, h5]
  cases nameb a <;> cases decide (b ∈ PICKS) <;> cases decide (c ∈ MOVES) <;> cases nameb d <;> simp
def RowOfX (f : Fn) : Prop := ∀ (n : Nat) (x : Str) (M : Mem), okT n x → n ≤ 90000 → f [.str x] M = .ok (optR (rowW (Txt.split x " "))) M
theorem optR_below (o : Option PRow) (n : Nat) : below n (optR o) = true := by cases o <;> rfl
theorem row_of_x {en : En} {ri : Fn} (h : EnOk en) (hx : XmK06 en) (hr : RowB ri) : RowOfX (runF 1 3 (s_f_row_of en ri)) := by
  intro n x M ht hn9
  have sp := sp_s ht
  have spx := split_x ht hn9 (y := " ") rfl M
  refine w_eq (w_run rfl rfl ?_)
  unfold s_f_row_of
  refine s_seq (s_set (w_bm (w_var rfl ⟨rfl, w_acons (w_c (w_anil (w_ok spx ?_)))⟩)))
  have so := sp.o
  have sl := sp.l
  generalize Txt.split x " " = ws at so sl ⊢
  have e4 : ∀ M', opSl (.lst (ws.map .str)) (some 4) none M' = .ok (.lst ((ws.drop 4).map .str)) M' := fun M' => by
    simp only [opSl, asR]
    rw [cut_from (by decide), ← List.map_drop]
    rfl
  refine s_seq (s_set (w_bin (w_sl (w_var rfl (w_osome (w_c ⟨4, rfl, w_onone (w_ok (e4 M) ?_)⟩))))))
  refine w_lst (w_acons (w_c (w_anil ⟨rfl, w_ok (also_eq h (fun w hw => (so w (List.mem_of_mem_drop hw)).1) M) ?_⟩)))
  have none_ : ∀ {N B C : EC} {Y : XS} {e : Env}, rowW ws = none → wS (sRet (eFrz (eC .non)) e M) N (fun v M1 => wR (finF M v M1) (fun v' M' => v' = optR (rowW ws) ∧ M' = M) xNo) B C Y := fun hz => by
    rw [hz]
    refine s_ret (w_frz (w_c (.inl ⟨rfl, w_ok (fin_same rfl) ⟨rfl, rfl⟩⟩)))
  have shape : (ws.length < 4 ∨ (4 < ws.length ∧ ¬ ws.drop 4 = ALSO)) ∨ ∃ a b c d, ∃ al : Bool, ws = [a, b, c, d] ++ (if al then ALSO else []) := by
    match ws with
    | [] => exact .inl (.inl (by simp))
    | [_] => exact .inl (.inl (by simp))
    | [_, _] => exact .inl (.inl (by simp))
    | [_, _, _] => exact .inl (.inl (by simp))
    | [a, b, c, d] => exact .inr ⟨a, b, c, d, false, rfl⟩
    | a :: b :: c :: d :: e :: r =>
      by_cases hz : e :: r = ALSO
      · rw [hz]; exact .inr ⟨a, b, c, d, true, rfl⟩
      · exact .inl (.inr ⟨by simp, hz⟩)
  rcases shape with hs | ⟨a, b, c, d, al, hs⟩
  · have hw : rowW ws = none := by
      unfold rowW
      split
      · rcases hs with hs | ⟨hs, _⟩ <;> simp at hs
      · rename_i a b c d e
        rcases hs with hs | ⟨_, hs⟩
        · simp at hs
        · have : ¬ e = "also" := fun z => hs (by rw [z]; rfl)
          simp [this]
      · rfl
    refine s_seq (s_if (w_ok (v := true) (M1 := M) (w_eq ?_) ⟨fun _ => none_ hw, fun z => (by cases z)⟩))
    walk_at "sx"
    refine ⟨fun z => ?_, fun z => ?_⟩
    · have z : ¬ ws.length < 4 := by simp at z; omega
      have hs : 4 < ws.length ∧ ¬ ws.drop 4 = ALSO := by rcases hs with hs | hs; exact absurd hs z; exact hs
      walk_at "sx"
      refine ⟨fun _ => ?_, fun z2 => ?_⟩
      · walk_at "sx"
        exact ⟨by simp [hs.2], rfl⟩
      · have := hs.1
        simp at z2
        omega
    · exact ⟨rfl, rfl⟩
  · have sa : okT n a := so a (by rw [hs]; simp)
    have sb : okT n b := so b (by rw [hs]; simp)
    have sc : okT n c := so c (by rw [hs]; simp)
    have sd : okT n d := so d (by rw [hs]; simp)
    have hd : decide (ws.drop 4 = ALSO) = al := by rw [hs]; cases al <;> simp
    have hw : rowW ws = if (nameb a && decide (b ∈ PICKS) && decide (c ∈ MOVES) && nameb d) = true then some ⟨a, b, c, d, al⟩ else none := by
      rw [hs]
      cases al <;> simp [rowW]
    have hi : ∀ (i : Nat) (v : Str) (M' : Mem), [a, b, c, d][i]? = some v → en.ix (.lst (ws.map .str)) (.int (i : Int)) M' = .ok (.str v) M' := fun i v M' hv => by
      refine ix_ok h (atI_nat ?_)
      rw [hs]
      have hi : i < 4 := by
        have := (List.getElem?_eq_some_iff.mp hv).1
        simpa using this
      rw [List.map_append, List.getElem?_append_left (by simpa using hi), List.getElem?_map, hv]
      rfl
    rw [hd]
    refine s_seq (s_if (w_ok (v := false) (M1 := M) (w_eq ?_) ⟨fun z => (by cases z), fun _ => s_pass ?_⟩))
    · walk_at "sx"
      refine ⟨fun z => ?_, fun z => ?_⟩
      · walk_at "sx"
        refine ⟨fun z2 => ?_, fun z2 => ?_⟩
        · walk_at "sx"
          refine ⟨?_, rfl⟩
          cases al with
          | true => rfl
          | false =>
            exfalso
            rw [hs] at z2
            simp at z2
        · exact ⟨rfl, rfl⟩
      · exfalso
        rw [hs] at z
        simp at z
        omega
    have rb := hr (.str a) (.str b) (.str c) (.str d) (.bl al) M (sa.v hn9) (sb.v hn9) (sc.v hn9) (sd.v hn9) rfl
    refine s_tryOnly (s_ret (w_frz (w_callB (w_acons (w_bin (w_var rfl (w_c (w_ok (hi 0 a M rfl) ?_))))))))
    refine w_acons (w_bin (w_var rfl (w_c (w_ok (hi 1 b M rfl) ?_))))
    refine w_acons (w_bin (w_var rfl (w_c (w_ok (hi 2 c M rfl) ?_))))
    refine w_acons (w_bin (w_var rfl (w_c (w_ok (hi 3 d M rfl) ?_))))
    refine w_acons (w_var rfl (w_anil (w_defl0 ?_)))
    cases hz : rowDue (.str a) (.str b) (.str c) (.str d) (.bl al) with
    | none =>
      have hg := (rowDue_eq a b c d al).mp hz
      rw [if_pos hg] at hw
      refine w_ok (rb.2 hz) (.inl ⟨rfl, w_ok (fin_same rfl) ⟨?_, rfl⟩⟩)
      rw [hw]; rfl
    | some w =>
      have hg : ¬ (nameb a && decide (b ∈ PICKS) && decide (c ∈ MOVES) && nameb d) = true := fun z => by rw [(rowDue_eq a b c d al).mpr z] at hz; cases hz
      rw [if_neg hg] at hw
      refine w_exc (rb.1 w hz) (.inl ⟨hx.w, ?_⟩)
      refine s_ret (w_c ?_)
      rw [hw]
      exact w_ok (fin_cut rfl rfl (cutL_refl _ _ _)) ⟨rfl, rfl⟩
end Pd
set_option maxHeartbeats 800000
namespace Pd
open PySem PySem.Spec L2
open TL (tl len_tl tl_append tl_join joinL join_eq ext_tl spl)
section
variable {KV : VC} {KA : List Av → Mem → Prop} {KI : Ik → Mem → Prop} {X : XC} {e : Env} {M M1 : Mem}
theorem w_mono0 {r : Res Ik} {v : Ik} (h : r = .ok v M1) (k : KI v M1) : wR r KI X := by rw [h]; exact k
theorem w_newV {i k : Nat} {sem : Fn} {g : Ea} (h0 : e[i]? = some (some (.cls k))) (h : wR (g e M) (fun as M1 => wR (sem as M1) KV X) X) : wR (eNewV i k sem g e M) KV X := by
  unfold eNewV
  rw [h0]
  simp only [Nat.beq_refl, if_true]
  exact wR_bind h
end
def hasN (os : List (Option PRow)) : Bool := os.any fun o => o.isNone
def firstN : List (Option PRow) → Nat → Option Nat
  | [], _ => none
  | none :: _, i => some i
  | some _ :: r, i => firstN r (i + 1)
theorem firstN_has : ∀ (os : List (Option PRow)) (i : Nat), (hasN os = false → firstN os i = none) ∧ (hasN os = true → ∃ j, firstN os i = some j)
  | [], i => ⟨fun _ => rfl, fun z => by simp [hasN] at z⟩
  | none :: r, i => ⟨fun z => by simp [hasN] at z, fun _ => ⟨i, rfl⟩⟩
  | some x :: r, i => by
    have ih := firstN_has r (i + 1)
    have e : hasN (some x :: r) = hasN r := by simp [hasN]
    rw [e]
    exact ih
structure EnNo (en : En) : Prop where
  inn : ∀ (os : List (Option PRow)) (M : Mem), en.inn .non (.lst (os.map optR)) M = .ok (.bl (hasN os)) M
  ixn : ∀ (os : List (Option PRow)) (i : Nat) (M : Mem), os.length ≤ 90000 → firstN os 0 = some i → en.ixn (.lst (os.map optR)) [.non] M = .ok (.int (i : Int)) M
theorem noobj : ∀ os : List (Option PRow), (os.map optR).any isObjA = false → os.map optR = List.replicate os.length .non
  | [], _ => rfl
  | none :: r, h => by
    have : (r.map optR).any isObjA = false := by
      simp only [List.map_cons, List.any_cons, Bool.or_eq_false_iff] at h
      exact h.2
    rw [List.map_cons, noobj r this]; rfl
  | some x :: r, h => by
    rw [List.map_cons, List.any_cons] at h
    have : isObjA (optR (some x)) = true := rfl
    rw [this] at h; cases h
theorem en_no {p : Pg} {C : Cal} {id : Nat} (h : p.tb.eq 0 = some id) (hq : RowEqOk (C id)) : EnNo (p.en C) := by
  have st : ∀ (M : Mem) (xs : List Av), stayA M (.lst xs) xs = true := fun M xs => eqAs_refl _
  have key : ∀ (M : Mem) (all : List Av) (rs : List (Option PRow)), inNL p.tb.eq C false (.lst all) all (rs.map optR) M = .ok (.bl (hasN rs)) M := by
    intro M all rs
    induction rs with
    | nil => simp only [List.map_nil, inNL, st, if_true]; rfl
    | cons o rs ih =>
      cases o with
      | none => simp only [List.map_cons, optR, inNL, st, if_true]; rfl
      | some r =>
        have hc : clsA M r.av = some 0 := rfl
        have := hq r M
        have e : hasN (some r :: rs) = hasN rs := by simp [hasN]
        rw [e]
        simp only [List.map_cons, optR]
        unfold inNL
        simp only [PRow.av] at hc this ih ⊢
        simp only [st, if_true, hc, h, this, boolR]
        exact ih
  have key2 : ∀ (M : Mem) (all : List Av) (rs : List (Option PRow)) (i j : Nat), firstN rs i = some j → idxNL p.tb.eq C (.lst all) all i (rs.map optR) M = .ok (.int (j : Int)) M := by
    intro M all rs
    induction rs with
    | nil => intro i j h; cases h
    | cons o rs ih =>
      intro i j hj
      cases o with
      | none =>
        have : i = j := by simpa [firstN] using hj
        rw [← this]
        simp only [List.map_cons, optR, idxNL, st, if_true]
      | some r =>
        have hc : clsA M r.av = some 0 := rfl
        have := hq r M
        have ih := ih (i + 1) j hj
        simp only [List.map_cons, optR]
        unfold idxNL
        simp only [PRow.av] at hc this ih ⊢
        simp only [st, if_true, hc, h, this, boolR]
        exact ih
  refine ⟨fun os M => ?_, fun os i M hl hi => ?_⟩
  · show opInO p.tb.eq C false .non (.lst (os.map optR)) M = _
    have ha : asR M (.lst (os.map optR)) = some (os.map optR) := rfl
    cases q : (os.map optR).any isObjA with
    | true =>
      simp only [opInO, ha, q, if_true]
      exact key M _ os
    | false =>
      have z := noobj os q
      have w : hasN os = inV (vOf .non) ((os.map optR).map vOf) := by
        rw [z]
        cases os with
        | nil => rfl
        | cons o r =>
          have : o = none := by
            cases o with
            | none => rfl
            | some x =>
              rw [List.map_cons, List.any_cons] at q
              have : isObjA (optR (some x)) = true := rfl
              rw [this] at q; cases q
          subst this
          rw [List.length_cons, List.replicate_succ, List.map_cons]
          have a : hasN (none :: r) = true := by simp [hasN]
          rw [a]
          rfl
      have fl : (os.map optR).all flatA = true := by
        rw [z, List.all_eq_true]
        intro x hx
        rw [(List.mem_replicate.mp hx).2]
        rfl
      simp only [opInO, ha, q]
      rw [w]
      have hq2 : asQ M (.lst (os.map optR)) = some (os.map optR) := rfl
      have f0 : flatA .non = true := rfl
      simp only [opIn, hq2, fl, f0, Bool.and_self, if_true, Bool.false_eq_true, if_false]
  · show opIndexN p.tb.eq C (.lst (os.map optR)) [.non] M = _
    have ha : asR M (.lst (os.map optR)) = some (os.map optR) := rfl
    simp only [opIndexN, ha]
    rw [if_pos (szOk_of (by rw [List.length_map]; omega))]
    exact key2 M _ os 0 i hi
def rowL (l : Str) : Option PRow := rowW (Txt.split l " ")
def readW : List Str → Nat ⊕ (Str × List PRow)
  | [] => .inl 0
  | l :: ls => match firstW (Txt.split l " ") with
    | none => .inl 0
    | some f => match firstN (ls.map rowL) 0 with
      | some i => .inl (i + 1)
      | none => .inr (f, ls.filterMap rowL)
structure ReadX (f : Fn) : Prop where
  no : ∀ (n : Nat) (x : Str) (i : Nat) (M : Mem), okT n x → n ≤ 90000 → (Txt.split x "\n").length ≤ 401 → readW (Txt.split x "\n") = .inl i → f [.cls 1, .str x] M = .exc 3 [("at", .int (i : Int))] M
  ok : ∀ (n : Nat) (x : Str) (a : Str) (rows : List PRow) (M : Mem), okT n x → n ≤ 90000 → (Txt.split x "\n").length ≤ 401 → readW (Txt.split x "\n") = .inr (a, rows) → f [.cls 1, .str x] M = .ok (ruleA a rows) M
theorem rowW_good {ws : List Str} {r : PRow} (h : rowW ws = some r) : r.good := by
  unfold rowW at h
  split at h
  · split at h
    · rename_i q
      cases h
      simp only [Bool.and_eq_true, decide_eq_true_eq] at q
      exact ⟨nameb_iff.mp q.1.1.1, q.1.1.2, q.1.2, nameb_iff.mp q.2⟩
    · cases h
  · split at h
    · rename_i q
      cases h
      simp only [Bool.and_eq_true, decide_eq_true_eq] at q
      exact ⟨nameb_iff.mp q.2.1.1.1, q.2.1.1.2, q.2.1.2, nameb_iff.mp q.2.2⟩
    · cases h
  · cases h
theorem firstW_good {ws : List Str} {f : Str} (h : firstW ws = some f) : nameB f := by
  unfold firstW at h
  split at h
  · split at h
    · rename_i q
      cases h
      simp only [Bool.and_eq_true, decide_eq_true_eq] at q
      exact nameb_iff.mp q.2
    · cases h
  · cases h
theorem rows_of : ∀ (os : List (Option PRow)), hasN os = false → os.map optR = (os.filterMap id).map PRow.av
  | [], _ => rfl
  | none :: r, h => by simp [hasN] at h
  | some x :: r, h => by
    have e : hasN (some x :: r) = hasN r := by simp [hasN]
    rw [e] at h
    rw [List.map_cons, rows_of r h]
    rfl
theorem read_x {en : En} {ri ro fo : Fn} (h : EnOk en) (hN : EnNo en) (hri : RuleOk ri) (hro : RowOfX ro) (hfo : FirstX fo) : ReadX (runF 2 6 (s_m_Rule_read_2 en ri ro fo)) := by
  have main : ∀ (n : Nat) (x : Str) (M : Mem) (KV : VC) (X : XC), okT n x → n ≤ 90000 → (Txt.split x "\n").length ≤ 401 →
      (∀ i, readW (Txt.split x "\n") = .inl i → X 3 [("at", .int (i : Int))] M) → (∀ a rows, readW (Txt.split x "\n") = .inr (a, rows) → KV (ruleA a rows) M) → wR (runF 2 6 (s_m_Rule_read_2 en ri ro fo) [.cls 1, .str x] M) KV X := by
    intro n x M KV X hx hn hl hX hK
    have sp := sp_n hx
    have spx := split_x hx hn (y := "\n") rfl M
    refine w_run rfl rfl ?_
    unfold s_m_Rule_read_2
    refine s_seq (s_set (w_bm (w_var rfl ⟨rfl, w_acons (w_c (w_anil (w_ok spx ?_)))⟩)))
    have so := sp.o
    have ne := sp.ne
    generalize Txt.split x "\n" = L at so ne hl hX hK ⊢
    match L, ne with
    | l :: ls, _ => ?_
    have i0 : en.ix (.lst ((l :: ls).map .str)) (.int 0) M = .ok (.str l) M := ix_ok h (atI_nat (k := 0) rfl)
    have f0 := hfo n l M (so l (by simp)) hn
    refine s_seq (s_set (w_callB (w_acons (w_bin (w_var rfl (w_c (w_ok i0 (w_anil (w_defl0 (w_ok f0 ?_))))))))))
    cases qf : firstW (Txt.split l " ") with
    | none =>
      refine s_seq (s_if (w_ok (v := true) (M1 := M) rfl ⟨fun _ => s_raise (w_acons (w_c (w_anil ⟨_, rfl, x_cut0 rfl (hX 0 ?_)⟩))), fun z => by cases z⟩))
      simp only [readW, qf]
    | some a =>
      refine s_seq (s_if (w_ok (v := false) (M1 := M) rfl ⟨fun z => (by cases z), fun _ => s_pass ?_⟩))
      have e1 : opSl (.lst ((l :: ls).map .str)) (some 1) none M = .ok (.lst (ls.map .str)) M := by
        simp only [opSl, asR]
        rw [cut_from (by decide)]
        rfl
      refine s_seq (s_set (w_lc ls .str (fun _ => true) (fun l => optR (rowL l)) (w_mono0 (seq_lst (w_eq (w_sl (w_var rfl (w_osome (w_c ⟨1, rfl, w_onone (w_ok e1 ⟨rfl, rfl⟩)⟩)))))) ?_)))
      refine ⟨rfl, fun acc => stay_lst _ _, by simp at hl; omega, fun y acc hy => ⟨_, rfl, w_ok (v := true) rfl ⟨rfl, rfl, fun _ => w_callB (w_acons (w_var rfl (w_anil (w_defl0 (w_ok (hro n y _ (so y (by simp [hy])) hn) ⟨rfl, rfl⟩)))))⟩⟩, fun y _ => optR_below _ _, ?_⟩
      have em : (ls.filter fun _ => true).map (fun l => optR (rowL l)) = (ls.map rowL).map optR := by
        rw [filter_yes, List.map_map]; rfl
      rw [em]
      have hn1 := hN.inn (ls.map rowL) M
      have rd : readW (l :: ls) = match firstN (ls.map rowL) 0 with
        | some i => .inl (i + 1)
        | none => .inr (a, ls.filterMap rowL) := by
        simp only [readW, qf]
      cases qn : hasN (ls.map rowL) with
      | true =>
        rw [qn] at hn1
        obtain ⟨j, hj⟩ := (firstN_has (ls.map rowL) 0).2 qn
        have hi := hN.ixn (ls.map rowL) j M (by rw [List.length_map]; simp at hl; omega) hj
        have ha : en.add (.int 1) (.int (j : Int)) M = .ok (.int (1 + (j : Int))) M := h.add_int _ _ _
        refine s_seq (s_if (w_tcmp (w_c (w_var rfl (w_ok hn1 ⟨true, rfl, ⟨fun _ => s_raise (w_acons (w_bin (w_c (w_bm (w_var rfl ⟨rfl, w_acons (w_c (w_anil (w_ok hi (w_ok ha (w_anil ⟨_, rfl, x_cut0 rfl ?_⟩)))))⟩))))), fun z => by cases z⟩⟩)))))
        have := hX (j + 1) (by rw [rd, hj])
        have e : (((j + 1 : Nat) : Int)) = 1 + (j : Int) := by omega
        rw [e] at this
        exact this
      | false =>
        rw [qn] at hn1
        have hj := (firstN_has (ls.map rowL) 0).1 qn
        refine s_seq (s_if (w_tcmp (w_c (w_var rfl (w_ok hn1 ⟨false, rfl, ⟨fun z => (by cases z), fun _ => s_pass ?_⟩⟩)))))
        have er : (ls.map rowL).map optR = (ls.filterMap rowL).map PRow.av := by
          rw [rows_of _ qn, List.filterMap_map]; rfl
        rw [er]
        have hlen : (ls.filterMap rowL).length ≤ 400 := by
          have := List.length_filterMap_le rowL ls
          simp at hl
          omega
        have nw := hri a (.lst ((ls.filterMap rowL).map PRow.av)) (ls.filterMap rowL) M (firstW_good qf) rfl hlen
        have hk := hK a (ls.filterMap rowL) (by rw [rd, hj])
        refine s_ret (w_frz (w_newV rfl (w_acons (w_var rfl (w_acons (w_var rfl (w_anil (w_defl0 (w_ok nw (.inl ⟨rfl, w_ok (fin_same rfl) hk⟩))))))))))
  refine ⟨fun n x i M hx hn hl hi => ?_, fun n x a rows M hx hn hl hi => ?_⟩
  · exact w_exq (main n x M _ _ hx hn hl (fun j hj => by rw [hi] at hj; cases hj; exact ⟨rfl, rfl, rfl⟩) (fun a r hj => by rw [hi] at hj; cases hj))
  · exact w_eq (main n x M _ _ hx hn hl (fun j hj => by rw [hi] at hj; cases hj) (fun a r hj => by rw [hi] at hj; cases hj; exact ⟨rfl, rfl⟩))
end Pd
set_option maxHeartbeats 800000
namespace Pd
open PySem PySem.Spec L2
open TL (tl len_tl tl_append tl_join joinL join_eq ext_tl spl)
def NameT (f : Fn) : Prop := ∀ (x : Str) (M : Mem), okV (.str x) = true → f [.str x] M = .ok (.bl (nameb x)) M
theorem law_is_name_2b {en : En} (h : EnOk en) : NameT (runF 1 2 (s_f_law_is_name_2 en)) := by
  intro x M hv
  let E : Env := [some (.str x), none]
  have v0 : eVar 0 E M = .ok (.str x) M := rfl
  have sz : szOk x.length = true := okV_sz hv
  have len : en.len [.str x] M = .ok (.int x.length) M := by
    rw [h.len _ _ rfl]
    simp only [opLen, sz, if_true]
  have inn := h.eq_str x "also" M
  by_cases c1 : (0 < x.length ∧ x.length ≤ 4) ∧ x ≠ "also"
  · obtain ⟨⟨c1, c2⟩, c3⟩ := c1
    have c1' : (0 : Int) < x.length := by omega
    have c2' : (x.length : Int) < 5 := by omega
    have hm : (Ik.chs x).items = x.cps.toList.map fun c => .str ⟨#[c]⟩ := rfl
    have hlc := lc_gen (g := gNm 1) (t := tCmpA en.nin (eVar 1) (eC (.str "abcdefghijklmnopqrstuvwxyz"))) (f := eVar 1) (vs := [1]) (e := E) (M1 := M) x.cps.toList (fun c => .str ⟨#[c]⟩) (fun c => !letterB c) (fun c => .str ⟨#[c]⟩) (seq_str (e := E) (f := eVar 0) rfl sz) hm (fun acc => rfl)
      (by have : x.cps.size = x.length := rfl; simp only [Array.length_toList]; omega) (fun c acc hc => by
        have e1 : eVar 1 ((wipeA E [1]).set 1 (some (.str ⟨#[c]⟩))) (M ++ [some (.lst acc)]) = .ok (.str ⟨#[c]⟩) (M ++ [some (.lst acc)]) := rfl
        have e2 : one? (⟨#[c]⟩ : Str) = some c := rfl
        refine ⟨_, rfl, ?_, fun _ => e1⟩
        refine xcmp_ok e1 rfl ?_
        rw [h.nin _ _ _ (by simp)]
        simp only [opIn, e2]
        rfl) (fun _ _ => rfl)
    have hsd : All2 (SDT 0) ((x.cps.toList.filter fun c => !letterB c).map fun c => Av.str ⟨#[c]⟩) ((x.cps.toList.filter fun c => !letterB c).map fun c => PyData.str ⟨#[c]⟩) := all2_map fun c hc => sdt_str 0 (strOk_one (okV_st hv) (List.mem_filter.mp hc).1)
    have heq := lst_nil h hsd (by decide) M
    have hem : ((x.cps.toList.filter fun c => !letterB c).map fun c => Av.str ⟨#[c]⟩).isEmpty = x.cps.toList.all letterB := by
      rw [List.isEmpty_map]
      induction x.cps.toList with
      | nil => rfl
      | cons c l ih => cases q : letterB c <;> simp [q, ih]
    rw [hem] at heq
    have body : s_f_law_is_name_2 en ([.str x].map some ++ List.replicate (2 - 1) none) M = .rt (.bl (nameb x)) M := by
      show s_f_law_is_name_2 en E M = _
      unfold s_f_law_is_name_2
      refine (seq_nx (e1 := E) (M1 := M) ((if_f (M1 := M) ?_).trans rfl)).trans ?_
      · simp [tOrA, tNotA, tVal, tBl, tCmpA, eChain, eCallB, aCons, aNil, eC, v0, Res.bind, len, opCmp, inn, truA, c1', c2', c1, c2, c3, eBin]
      · refine ret_ok' (xfrz_ok (xbin_ok hlc (b := .lst []) rfl ?_) rfl)
        rw [heq]
        simp [nameb, c1, c2, c3]
    rw [run_rt (np := 1) rfl body]
    exact fin_same rfl
  · have body : s_f_law_is_name_2 en ([.str x].map some ++ List.replicate (2 - 1) none) M = .rt (.bl false) M := by
      show s_f_law_is_name_2 en E M = _
      unfold s_f_law_is_name_2
      refine seq_rt ((if_t (M1 := M) ?_).trans rfl)
      by_cases c2 : 0 < x.length
      · by_cases c3 : x.length ≤ 4
        · have c4 : x = "also" := by
            apply Classical.byContradiction
            intro z
            exact c1 ⟨⟨c2, c3⟩, z⟩
          have c4' : decide (x = "also") = true := decide_eq_true c4
          have c2' : (0 : Int) < x.length := by omega
          have c3' : (x.length : Int) < 5 := by omega
          simp [tOrA, tNotA, tVal, tBl, tCmpA, eChain, eCallB, aCons, aNil, eC, v0, Res.bind, len, opCmp, inn, truA, c2', c3', c2, c3, c4', eBin]
        · have c3' : ¬ (x.length : Int) < 5 := by omega
          simp [tOrA, tNotA, tVal, tBl, tCmpA, eChain, eCallB, aCons, aNil, eC, v0, Res.bind, len, opCmp, inn, truA, c3', c2, c3, eBin]
      · have c2' : ¬ (0 : Int) < x.length := by omega
        simp [tOrA, tNotA, tVal, tBl, tCmpA, eChain, eCallB, aCons, aNil, eC, v0, Res.bind, len, opCmp, inn, truA, c2', c2, eBin]
    have : nameb x = false := by
      cases q : nameb x with
      | false => rfl
      | true =>
        have := nameb_iff.mp q
        exact absurd ⟨this.1, this.2.1⟩ c1
    rw [run_rt (np := 1) rfl body, this]
    exact fin_same rfl
def okLn (k : Nat) (l : Str) : Bool := if k = 0 then (firstW (Txt.split l " ")).isSome else (rowL l).isSome
theorem firstN_at : ∀ (os : List (Option PRow)) (i j : Nat), (∀ k, k < j → ∀ o, os[k]? = some o → o.isSome = true) → os[j]? = some none → firstN os i = some (i + j)
  | [], _, j, _, h => by simp at h
  | none :: r, i, j, hk, _ => by
    cases j with
    | zero => rfl
    | succ j =>
      have := hk 0 (by omega) none rfl
      cases this
  | some x :: r, i, j, hk, h => by
    cases j with
    | zero => cases h
    | succ j =>
      have := firstN_at r (i + 1) j (fun k hk1 o ho => hk (k + 1) (by omega) o (by simpa using ho)) (by simpa using h)
      show firstN r (i + 1) = _
      rw [this]
      congr 1
      omega
theorem firstN_no : ∀ (os : List (Option PRow)) (i : Nat), (∀ o ∈ os, o.isSome = true) → firstN os i = none
  | [], _, _ => rfl
  | none :: r, i, h => by have := h none (by simp); cases this
  | some x :: r, i, h => firstN_no r (i + 1) fun o ho => h o (by simp [ho])
theorem readW_bad {L : List Str} {i : Nat} {l : Str} (hl : L[i]? = some l) (hb : okLn i l = false) (hk : ∀ k, k < i → ∀ l', L[k]? = some l' → okLn k l' = true) : readW L = .inl i := by
  match L, hl with
  | l0 :: ls, hl => ?_
  cases i with
  | zero =>
    have : l0 = l := by simpa using hl
    subst this
    have hb : (firstW (Txt.split l0 " ")).isSome = false := hb
    cases q : firstW (Txt.split l0 " ") with
    | none => simp only [readW, q]
    | some a => rw [q] at hb; cases hb
  | succ i =>
    have h0 : (firstW (Txt.split l0 " ")).isSome = true := hk 0 (by omega) l0 rfl
    cases q : firstW (Txt.split l0 " ") with
    | none => rw [q] at h0; cases h0
    | some a =>
      have hb : (rowL l).isSome = false := by simpa [okLn] using hb
      have hl : ls[i]? = some l := by simpa using hl
      have hf := firstN_at (ls.map rowL) 0 i (fun k hk1 o ho => by
        rw [List.getElem?_map, Option.map_eq_some_iff] at ho
        obtain ⟨l', h1, h2⟩ := ho
        have := hk (k + 1) (by omega) l' (by simpa using h1)
        rw [← h2]
        simpa [okLn] using this) (by
        rw [List.getElem?_map, hl, Option.map_some]
        cases q2 : rowL l with
        | none => rfl
        | some r => rw [q2] at hb; cases hb)
      simp only [readW, q, hf, Nat.zero_add]
structure Fine (x a : Str) (rows : List PRow) : Prop where
  rd : readW (Txt.split x "\n") = .inr (a, rows)
  tx : ruleText a rows = x
  nm : nameB a
  good : ∀ r ∈ rows, r.good
  len : rows.length + 1 = (Txt.split x "\n").length
theorem rowW_words {ws : List Str} {r : PRow} (h : rowW ws = some r) : rowWords r = ws := by
  unfold rowW at h
  split at h
  · split at h
    · cases h; rfl
    · cases h
  · split at h
    · rename_i q
      cases h
      simp only [Bool.and_eq_true, decide_eq_true_eq] at q
      rw [q.1]; rfl
    · cases h
  · cases h
theorem firstW_words {ws : List Str} {a : Str} (h : firstW ws = some a) : ws = [("first" : Str), a] := by
  unfold firstW at h
  split at h
  · split at h
    · rename_i q
      cases h
      simp only [Bool.and_eq_true, decide_eq_true_eq] at q
      rw [q.1]
    · cases h
  · cases h
theorem fine_of {n : Nat} {x : Str} (hx : okT n x) (hk : ∀ k l, (Txt.split x "\n")[k]? = some l → okLn k l = true) : ∃ a rows, Fine x a rows := by
  have sp := sp_n hx
  have so := sp.o
  have sj := sp.j
  have ne := sp.ne
  generalize hL : Txt.split x "\n" = L at so sj ne hk
  match L, ne with
  | l0 :: ls, _ => ?_
  have h0 : (firstW (Txt.split l0 " ")).isSome = true := hk 0 l0 rfl
  cases q : firstW (Txt.split l0 " ") with
  | none => rw [q] at h0; cases h0
  | some a =>
    have hr : ∀ l ∈ ls, ∃ r, rowL l = some r := fun l hl => by
      obtain ⟨k, hk1⟩ := List.mem_iff_getElem?.mp hl
      have := hk (k + 1) l (by simpa using hk1)
      have : (rowL l).isSome = true := by simpa [okLn] using this
      cases q2 : rowL l with
      | none => rw [q2] at this; cases this
      | some r => exact ⟨r, rfl⟩
    have e0 : ("first " : Str) ++ a = l0 := by
      rw [firstText_eq, ← firstW_words q]
      exact (sp_s (so l0 (by simp))).j
    have e1 : ∀ (m : List Str), (∀ l ∈ m, l ∈ ls) → (m.filterMap rowL).map rowText = m ∧ (m.filterMap rowL).length = m.length ∧ ∀ r ∈ m.filterMap rowL, r.good := by
      intro m
      induction m with
      | nil => intro _; exact ⟨rfl, rfl, fun r hr => by cases hr⟩
      | cons l m ih =>
        intro hm
        obtain ⟨r, hr1⟩ := hr l (hm l (by simp))
        obtain ⟨i1, i2, i3⟩ := ih fun l hl => hm l (by simp [hl])
        rw [List.filterMap_cons_some hr1, List.map_cons, i1, List.length_cons, i2]
        have : rowText r = l := by
          rw [rowText_eq, rowW_words hr1]
          exact (sp_s (so l (by simp [hm l (by simp)]))).j
        refine ⟨by rw [this], rfl, fun r' hr' => ?_⟩
        rcases List.mem_cons.mp hr' with rfl | hr'
        · exact rowW_good hr1
        · exact i3 _ hr'
    obtain ⟨i1, i2, i3⟩ := e1 ls fun _ h => h
    refine ⟨a, ls.filterMap rowL, ?_, ?_, firstW_good q, i3, ?_⟩
    · rw [hL]
      have : firstN (ls.map rowL) 0 = none := firstN_no _ _ fun o ho => by
        obtain ⟨l, h1, h2⟩ := List.mem_map.mp ho
        obtain ⟨r, hr1⟩ := hr l h1
        rw [← h2, hr1]; rfl
      simp only [readW, q, this]
    · unfold ruleText
      rw [e0, i1]
      exact sj
    · rw [hL, List.length_cons, i2]
end Pd
set_option maxHeartbeats 800000
namespace Pd
open PySem PySem.Spec L2
open TL (tl len_tl tl_append tl_join joinL join_eq ext_tl spl)
def RowT (f : Fn) : Prop := ∀ (n : Nat) (l : Str) (M : Mem), okT n l → n ≤ 90000 → f [.str l] M = .ok (.bl (rowL l).isSome) M
theorem in_picks {en : En} (h : EnOk en) (x : Str) (M : Mem) : en.inn (.str x) (.tup [.str "keep", .str "at", .str "past", .str "under", .str "all"]) M = .ok (.bl (decide (x ∈ PICKS))) M := h.in_strs x PICKS M
theorem in_moves {en : En} (h : EnOk en) (x : Str) (M : Mem) : en.inn (.str x) (.tup [.str "stay", .str "on", .str "home"]) M = .ok (.bl (decide (x ∈ MOVES))) M := h.in_strs x MOVES M
theorem row_tail {en : En} {nm : Fn} (h : EnOk en) (hn : NameT nm) {a b c d : Str} {l : Av} {M : Mem} {N B C : EC} {Y : XS} {KV : VC} (oa : okV (.str a) = true) (od : okV (.str d) = true)
    (k : KV (.bl (nameb a && decide (b ∈ PICKS) && decide (c ∈ MOVES) && nameb d)) M) :
    wS (sSeq (sIf (tOrA (tCmpA en.ne (eCallB en.len (aCons (eVar 1) aNil)) (eC (.int 4))) (tOrA (tNotA (tVal (eCallB (defl nm []) (aCons (eBin en.ix (eVar 1) (eC (.int 0))) aNil)))) (tNotA (tVal (eCallB (defl nm []) (aCons (eBin en.ix (eVar 1) (eC (.int 3))) aNil))))))
  (sRet (eFrz (eC (.bl false))))
  sPass)
  (sRet (eFrz (eAnd (eBin en.inn (eBin en.ix (eVar 1) (eC (.int 1))) (eTup (aCons (eC (.str "keep")) (aCons (eC (.str "at")) (aCons (eC (.str "past")) (aCons (eC (.str "under")) (aCons (eC (.str "all")) aNil))))))) (eBin en.inn (eBin en.ix (eVar 1) (eC (.int 2))) (eTup (aCons (eC (.str "stay")) (aCons (eC (.str "on")) (aCons (eC (.str "home")) aNil)))))))) [some l, some (.lst ([a, b, c, d].map .str))] M) N (fun v M1 => wR (finF M v M1) KV xNo) B C Y := by
  have hi : ∀ (i : Nat) (v : Str) (M' : Mem), [a, b, c, d][i]? = some v → en.ix (.lst ([a, b, c, d].map .str)) (.int (i : Int)) M' = .ok (.str v) M' := fun i v M' hv => by
    refine ix_ok h (atI_nat ?_)
    rw [List.getElem?_map, hv]; rfl
  have hl : en.len [.lst ([a, b, c, d].map .str)] M = .ok (.int 4) M := by rw [h.len _ _ rfl]; rfl
  have fin : ∀ (v : Bool), KV (.bl v) M → wR (finF M (.bl v) M) KV xNo := fun v hv => w_ok (fin_same rfl) hv
  refine s_seq (s_if (w_tor (w_tcmp (w_callB (w_acons (w_var rfl (w_anil (w_ok hl (w_c (o_nei h ⟨false, rfl, ⟨fun _ => ?_, fun z => (by cases z)⟩⟩))))))))))
  refine w_tor (w_tnot (w_tval (w_callB (w_acons (w_bin (w_var rfl (w_c (w_ok (hi 0 a M rfl) (w_anil (w_defl0 (w_ok (hn a M oa) ⟨_, rfl, ?_⟩)))))))))))
  cases qa : nameb a with
  | false =>
    rw [qa] at k
    refine ⟨fun z => (by cases z), fun _ => ⟨fun _ => s_ret (w_frz (w_c (.inl ⟨rfl, fin _ (by simpa using k)⟩))), fun z => (by cases z)⟩⟩
  | true =>
  refine ⟨fun _ => ?_, fun z => (by cases z)⟩
  refine w_tnot (w_tval (w_callB (w_acons (w_bin (w_var rfl (w_c (w_ok (hi 3 d M rfl) (w_anil (w_defl0 (w_ok (hn d M od) ⟨_, rfl, ?_⟩))))))))))
  cases qd : nameb d with
  | false =>
    rw [qd] at k
    exact ⟨fun _ => s_ret (w_frz (w_c (.inl ⟨rfl, fin _ (by simpa using k)⟩))), fun z => (by cases z)⟩
  | true =>
  refine ⟨fun z => (by cases z), fun _ => s_pass (s_ret (w_frz ?_))⟩
  rw [qa, qd] at k
  refine w_and (w_bin (w_bin (w_var rfl (w_c (w_ok (hi 1 b M rfl) (w_tup (w_acons (w_c (w_acons (w_c (w_acons (w_c (w_acons (w_c (w_acons (w_c (w_anil ⟨rfl, w_ok (in_picks h b M) ?_⟩)))))))))))))))))
  cases qb : decide (b ∈ PICKS) with
  | false =>
    rw [qb] at k
    walk_at "sx"
    exact fin _ (by simpa using k)
  | true =>
    rw [qb] at k
    walk_at "sx"
    refine w_ok (in_moves h c M) ?_
    walk_at "sx"
    exact fin _ (by simpa using k)
theorem law_is_row_t {en : En} {nm : Fn} (h : EnOk en) (hn : NameT nm) : RowT (runF 1 2 (s_f_law_is_row en nm)) := by
  intro n x M hx hn9
  have sp := sp_s hx
  have spx := split_x hx hn9 (y := " ") rfl M
  refine w_eq (w_run rfl rfl ?_)
  unfold s_f_law_is_row
  refine s_seq (s_set (w_bm (w_var rfl ⟨rfl, w_acons (w_c (w_anil (w_ok spx ?_)))⟩)))
  have so := sp.o
  have sl := sp.l
  unfold rowL
  generalize Txt.split x " " = ws at so sl ⊢
  have hl : en.len [.lst (ws.map .str)] M = .ok (.int (ws.length : Nat)) M := by
    rw [h.len _ _ rfl]
    show Res.ok (Av.int (((ws.map Av.str).length : Nat) : Int)) M = _
    rw [List.length_map]
  have none_ : ∀ {N B C : EC} {Y : XS} {e : Env}, rowW ws = none → wS (sRet (eFrz (eC (.bl false))) e M) N (fun v M1 => wR (finF M v M1) (fun v' M' => v' = .bl (rowW ws).isSome ∧ M' = M) xNo) B C Y := fun hz => by
    rw [hz]
    exact s_ret (w_frz (w_c (.inl ⟨rfl, w_ok (fin_same rfl) ⟨rfl, rfl⟩⟩)))
  have shape : (ws.length ≠ 4 ∧ ws.length ≠ 5) ∨ (∃ a b c d, ws = [a, b, c, d]) ∨ ∃ a b c d e, ws = [a, b, c, d, e] := by
    match ws with
    | [] => exact .inl (by simp)
    | [_] => exact .inl (by simp)
    | [_, _] => exact .inl (by simp)
    | [_, _, _] => exact .inl (by simp)
    | [a, b, c, d] => exact .inr (.inl ⟨a, b, c, d, rfl⟩)
    | [a, b, c, d, e] => exact .inr (.inr ⟨a, b, c, d, e, rfl⟩)
    | _ :: _ :: _ :: _ :: _ :: _ :: _ => exact .inl (by simp)
  rcases shape with ⟨h4, h5⟩ | ⟨a, b, c, d, rfl⟩ | ⟨a, b, c, d, e, rfl⟩
  · have hw : rowW ws = none := by
      unfold rowW
      split
      · simp at h4
      · simp at h5
      · rfl
    have d5 : decide (((ws.length : Nat) : Int) = 5) = false := decide_eq_false (by omega)
    have d4 : (!decide (((ws.length : Nat) : Int) = 4)) = true := by rw [decide_eq_false (by omega)]; rfl
    refine s_seq (s_if (w_tand (w_tcmp (w_callB (w_acons (w_var rfl (w_anil (w_ok hl (w_c (o_eqi h ⟨_, rfl, ?_⟩))))))))))
    rw [d5]
    refine ⟨fun z => (by cases z), fun _ => ⟨fun z => (by cases z), fun _ => s_pass ?_⟩⟩
    refine s_seq (s_if (w_tor (w_tcmp (w_callB (w_acons (w_var rfl (w_anil (w_ok hl (w_c (o_nei h ⟨_, rfl, ?_⟩))))))))))
    rw [d4]
    exact ⟨fun z => (by cases z), fun _ => ⟨fun _ => none_ hw, fun z => (by cases z)⟩⟩
  · refine s_seq (s_if (w_tand (w_tcmp (w_callB (w_acons (w_var rfl (w_anil (w_ok hl (w_c (o_eqi h ⟨false, rfl, ?_⟩))))))))))
    refine ⟨fun z => (by cases z), fun _ => ⟨fun z => (by cases z), fun _ => s_pass ?_⟩⟩
    refine row_tail h hn ((so a (by simp)).v hn9) ((so d (by simp)).v hn9) ⟨?_, rfl⟩
    simp only [rowW]
    cases nameb a <;> cases decide (b ∈ PICKS) <;> cases decide (c ∈ MOVES) <;> cases nameb d <;> rfl
  · have i4 : en.ix (.lst ([a, b, c, d, e].map .str)) (.int 4) M = .ok (.str e) M := ix_ok h (atI_nat (k := 4) rfl)
    refine s_seq (s_if (w_tand (w_tcmp (w_callB (w_acons (w_var rfl (w_anil (w_ok hl (w_c (o_eqi h ⟨true, rfl, ?_⟩))))))))))
    refine ⟨fun _ => w_tcmp (w_bin (w_var rfl (w_c (w_ok i4 (w_c (o_eqs h ⟨_, rfl, ?_⟩)))))), fun z => (by cases z)⟩
    by_cases qe : e = "also"
    · rw [decide_eq_true qe]
      have e4 : opSl (.lst ([a, b, c, d, e].map .str)) none (some 4) M = .ok (.lst ([a, b, c, d].map .str)) M := rfl
      refine ⟨fun _ => s_set (w_sl (w_var rfl (w_onone (w_osome (w_c ⟨4, rfl, w_ok e4 ?_⟩))))), fun z => (by cases z)⟩
      refine row_tail h hn ((so a (by simp)).v hn9) ((so d (by simp)).v hn9) ⟨?_, rfl⟩
      simp only [rowW, decide_eq_true qe]
      cases nameb a <;> cases decide (b ∈ PICKS) <;> cases decide (c ∈ MOVES) <;> cases nameb d <;> rfl
    · rw [decide_eq_false qe]
      refine ⟨fun z => (by cases z), fun _ => s_pass ?_⟩
      have hw : rowW [a, b, c, d, e] = none := by simp [rowW, qe]
      refine s_seq (s_if (w_tor (w_tcmp (w_callB (w_acons (w_var rfl (w_anil (w_ok hl (w_c (o_nei h ⟨true, rfl, ?_⟩))))))))))
      exact ⟨fun z => (by cases z), fun _ => ⟨fun _ => none_ hw, fun z => (by cases z)⟩⟩
end Pd
set_option maxHeartbeats 800000
namespace Pd
open PySem PySem.Spec L2
open TL (tl len_tl tl_append tl_join joinL join_eq ext_tl spl)
def wrongI (L : List Str) : Int := match readW L with
  | .inl i => (i : Int)
  | .inr _ => -1
def WrongT (f : Fn) : Prop := ∀ (n : Nat) (x : Str) (M : Mem), okT n x → n ≤ 90000 → f [.str x] M = .ok (.int (wrongI (Txt.split x "\n"))) M
theorem w_first {en : En} {nm : Fn} (h : EnOk en) (hn : NameT nm) {e : Env} {M : Mem} {ws : List Str} {KB : Bool → Mem → Prop} {X : XC} (h3 : e[3]? = some (some (.lst (ws.map .str)))) (ho : ∀ w ∈ ws, okV (.str w) = true) (k : KB (firstW ws).isSome M) :
    wR (tAndA (tCmpA en.eq (eCallB en.len (aCons (eVar 3) aNil)) (eC (.int 2))) (tAndA (tCmpA en.eq (eBin en.ix (eVar 3) (eC (.int 0))) (eC (.str "first"))) (tVal (eCallB (defl nm []) (aCons (eBin en.ix (eVar 3) (eC (.int 1))) aNil)))) e M) KB X := by
  have hl : en.len [.lst (ws.map .str)] M = .ok (.int (ws.length : Nat)) M := by
    rw [h.len _ _ rfl]
    show Res.ok (Av.int (((ws.map Av.str).length : Nat) : Int)) M = _
    rw [List.length_map]
  refine w_tand (w_tcmp (w_callB (w_acons (w_var h3 (w_anil (w_ok hl (w_c (o_eqi h ⟨_, rfl, ?_⟩))))))))
  by_cases z : ws.length = 2
  · rw [decide_eq_true (show ((ws.length : Nat) : Int) = 2 by omega)]
    refine ⟨fun _ => ?_, fun z => (by cases z)⟩
    match ws, z with
    | [a, b], _ => ?_
    have i0 : en.ix (.lst ([a, b].map .str)) (.int 0) M = .ok (.str a) M := ix_ok h (atI_nat (k := 0) rfl)
    have i1 : en.ix (.lst ([a, b].map .str)) (.int 1) M = .ok (.str b) M := ix_ok h (atI_nat (k := 1) rfl)
    refine w_tand (w_tcmp (w_bin (w_var h3 (w_c (w_ok i0 (w_c (o_eqs h ⟨_, rfl, ?_⟩)))))))
    by_cases qa : a = "first"
    · rw [decide_eq_true qa]
      refine ⟨fun _ => ?_, fun z => (by cases z)⟩
      refine w_tval (w_callB (w_acons (w_bin (w_var h3 (w_c (w_ok i1 (w_anil (w_defl0 (w_ok (hn b M (ho b (by simp))) ⟨_, rfl, ?_⟩)))))))))
      have : (firstW [a, b]).isSome = nameb b := by
        simp only [firstW, decide_eq_true qa, Bool.true_and]
        cases nameb b <;> rfl
      rw [← this]
      exact k
    · rw [decide_eq_false qa]
      refine ⟨fun z => (by cases z), fun _ => ?_⟩
      have : (firstW [a, b]).isSome = false := by simp [firstW, qa]
      rw [← this]
      exact k
  · rw [decide_eq_false (show ¬ ((ws.length : Nat) : Int) = 2 by omega)]
    refine ⟨fun z => (by cases z), fun _ => ?_⟩
    have : firstW ws = none := by
      unfold firstW
      split
      · exact absurd rfl z
      · rfl
    rw [this] at k
    exact k
theorem law_wrong_t {en : En} {rw_ nm : Fn} (h : EnOk en) (hr : RowT rw_) (hn : NameT nm) : WrongT (runF 1 4 (s_f_law_wrong en rw_ nm)) := by
  intro n x M hx hn9
  have sp := sp_n hx
  have spx := split_x hx hn9 (y := "\n") rfl M
  have so := sp.o
  refine w_eq (w_run rfl rfl ?_)
  unfold s_f_law_wrong
  have dich : (∀ k l, (Txt.split x "\n")[k]? = some l → okLn k l = true) → wrongI (Txt.split x "\n") = -1 := fun hk => by
    obtain ⟨a, rows, f⟩ := fine_of hx hk
    unfold wrongI
    rw [f.rd]
  generalize Txt.split x "\n" = L at so spx dich ⊢
  refine s_seq (s_for (i_enm (w_acons (w_bm (w_var rfl ⟨rfl, w_acons (w_c (w_anil (w_ok spx (w_anil ⟨_, _, rfl, eqAs_refl _, ?_⟩))))⟩)))))
  refine s_forL (fun i e' M' => M' = M ∧ (∃ x1 x2 x3, e' = [some (.str x), x1, x2, x3]) ∧ ∀ k, k < i → ∀ l, L[k]? = some l → okLn k l = true) ⟨rfl, ⟨none, none, none, rfl⟩, fun k hk => absurd hk (by omega)⟩ (fun i e' M' hJ => eqAs_refl _) (fun i y e' M' hy hJ => ?_) (fun e' M' hJ => ?_)
  · obtain ⟨rfl, ⟨x1, x2, x3, rfl⟩, hk⟩ := hJ
    obtain ⟨r, hr1, rfl⟩ := enm_item hy
    rw [List.getElem?_map, Option.map_eq_some_iff] at hr1
    obtain ⟨l, hl, rfl⟩ := hr1
    have ol := so l (List.mem_of_getElem? hl)
    have spl_ := split_x ol hn9 (y := " ") rfl M'
    have wo := (sp_s ol).o
    refine ⟨[some (.str x), some (.int (i : Int)), some (.str l), x3], rfl, ?_⟩
    refine s_seq (s_set (w_bm (w_var rfl ⟨rfl, w_acons (w_c (w_anil (w_ok spl_ ?_)))⟩)))
    have bad : okLn i l = false → wrongI L = (i : Int) := fun hb => by
      unfold wrongI
      rw [readW_bad hl hb hk]
    have next : okLn i l = true → ∀ k, k < i + 1 → ∀ l', L[k]? = some l' → okLn k l' = true := fun hb k hk1 l' hl' => by
      by_cases q : k = i
      · subst q
        rw [hl] at hl'
        cases hl'
        exact hb
      · exact hk k (by omega) l' hl'
    cases i with
    | zero =>
      refine s_seq (s_if (w_tand (w_tcmp (w_var rfl (w_c (o_eqi h ⟨true, rfl, ⟨fun _ => w_tnot (w_first h hn rfl (fun w hw => (wo w hw).v hn9) ?_), fun z => (by cases z)⟩⟩))))))
      cases q : (firstW (Txt.split l " ")).isSome with
      | false =>
        have b := bad q
        refine ⟨fun _ => s_ret (w_frz (w_c (.inl ⟨rfl, w_ok (fin_same rfl) ⟨by rw [b]; rfl, rfl⟩⟩))), fun z => (by cases z)⟩
      | true =>
        refine ⟨fun z => (by cases z), fun _ => s_pass ?_⟩
        refine s_if (w_tand (w_tcmp (w_var rfl (w_c (o_cmp ⟨false, rfl, ⟨fun z => (by cases z), fun _ => ⟨fun z => (by cases z), fun _ => s_pass ⟨rfl, ⟨_, _, _, rfl⟩, next q⟩⟩⟩⟩)))))
    | succ j =>
      have d0 : decide (((j + 1 : Nat) : Int) = 0) = false := decide_eq_false (by omega)
      have d1 : decide ((0 : Int) < ((j + 1 : Nat) : Int)) = true := decide_eq_true (by omega)
      refine s_seq (s_if (w_tand (w_tcmp (w_var rfl (w_c (o_eqi h ⟨_, rfl, ?_⟩))))))
      rw [d0]
      refine ⟨fun z => (by cases z), fun _ => ⟨fun z => (by cases z), fun _ => s_pass ?_⟩⟩
      refine s_if (w_tand (w_tcmp (w_var rfl (w_c (o_cmp ⟨_, rfl, ?_⟩)))))
      rw [d1]
      refine ⟨fun _ => w_tnot (w_tval (w_callB (w_acons (w_var rfl (w_anil (w_defl0 (w_ok (hr n l M' ol hn9) ⟨_, rfl, ?_⟩))))))), fun z => (by cases z)⟩
      cases q : (rowL l).isSome with
      | false =>
        have b := bad (by simpa [okLn] using q)
        refine ⟨fun _ => s_ret (w_frz (w_var rfl (.inl ⟨rfl, w_ok (fin_same rfl) ⟨by rw [b], rfl⟩⟩))), fun z => (by cases z)⟩
      | true =>
        exact ⟨fun z => (by cases z), fun _ => s_pass ⟨rfl, ⟨_, _, _, rfl⟩, next (by simpa [okLn] using q)⟩⟩
  · obtain ⟨rfl, ⟨x1, x2, x3, rfl⟩, hk⟩ := hJ
    have d := dich fun k l hl => hk k (by rw [enm_len, List.length_map]; exact (List.getElem?_eq_some_iff.mp hl).1) l hl
    refine s_ret (w_frz (w_neg (w_c ⟨1, rfl, .inl ⟨rfl, w_ok (fin_same rfl) ⟨by rw [d], rfl⟩⟩⟩)))
def expA (x : Str) : Av := match readW (Txt.split x "\n") with
  | .inl i => .tup [.int (i : Int), .bl true]
  | .inr _ => .str x
def ReadLT (f : Fn) : Prop := ∀ (n : Nat) (x : Str) (M : Mem), okT n x → n ≤ 90000 → (Txt.split x "\n").length ≤ 401 → f [.str x] M = .ok (expA x) M
theorem least {P : Nat → Prop} : ∀ k, P k → ∃ i, P i ∧ ∀ j, j < i → ¬ P j := by
  intro k
  induction k using Nat.strongRecOn with
  | _ k ih =>
    intro hk
    by_cases q : ∃ j, j < k ∧ P j
    · obtain ⟨j, h1, h2⟩ := q
      exact ih j h1 h2
    · exact ⟨k, hk, fun j hj hp => q ⟨j, hj, hp⟩⟩
theorem dichW {n : Nat} {x : Str} (hx : okT n x) : (∃ i, readW (Txt.split x "\n") = .inl i) ∨ ∃ a rows, Fine x a rows := by
  by_cases q : ∀ k l, (Txt.split x "\n")[k]? = some l → okLn k l = true
  · exact .inr (fine_of hx q)
  · have : ∃ k, ∃ l, (Txt.split x "\n")[k]? = some l ∧ okLn k l = false := by
      apply Classical.byContradiction
      intro z
      refine q fun k l hl => ?_
      cases w : okLn k l with
      | true => rfl
      | false => exact absurd ⟨k, l, hl, w⟩ z
    obtain ⟨k, hk⟩ := this
    obtain ⟨i, ⟨l, h1, h2⟩, h3⟩ := least (P := fun k => ∃ l, (Txt.split x "\n")[k]? = some l ∧ okLn k l = false) k hk
    refine .inl ⟨i, readW_bad h1 h2 fun j hj l' hl' => ?_⟩
    cases w : okLn j l' with
    | true => rfl
    | false => exact absurd ⟨l', hl', w⟩ (h3 j hj)
theorem law_read_t {en : En} {rd : Fn} (hx : XmK06 en) (hs : EnStrRule en) (hr : ReadX rd) : ReadLT (runF 1 3 (s_f_law_read en rd)) := by
  intro n x M ho hn hl
  refine w_eq (w_run rfl rfl ?_)
  unfold s_f_law_read
  refine s_seq (s_set (w_c ?_))
  rcases dichW ho with ⟨i, hi⟩ | ⟨a, rows, f⟩
  · have e := hr.no n x i M ho hn hl hi
    have ex : expA x = .tup [.int (i : Int), .bl true] := by unfold expA; rw [hi]
    rw [ex]
    refine s_seq (s_tryAs (s_set (w_callB (w_acons (w_cmeth (w_acons (w_var rfl (w_anil (w_defl0 (w_exc e (.inl ⟨hx.t, by show 2 < 3; decide, ?_⟩)))))))))))
    have e1 : xIs (en.xm "LineError") 3 = eC (.bl true) := by simp only [xIs, hx.l]
    have e2 : xIs2 (en.xm "InvalidRow") (en.xm "InvalidRule") 3 = eC (.bl false) := by simp only [xIs2, hx.r, hx.u, Bool.or_self]
    rw [e1, e2]
    refine s_set (w_tup (w_acons (w_ok (v := .int (i : Int)) (M1 := M) rfl ?_)))
    walk_at "sx"
    exact w_ok (fin_same rfl) ⟨rfl, rfl⟩
  · have e := hr.ok n x a rows M ho hn hl f.rd
    have ex : expA x = .str x := by unfold expA; rw [f.rd]
    have es := hs a rows M f.nm f.good (by have := f.len; omega)
    rw [f.tx] at es
    rw [ex]
    refine s_seq (s_tryAs (s_set (w_callB (w_acons (w_cmeth (w_acons (w_var rfl (w_anil (w_defl0 (w_ok e (w_anil (w_ok es ?_))))))))))))
    exact s_ret (w_frz (w_var rfl (.inl ⟨rfl, w_ok (fin_same rfl) ⟨rfl, rfl⟩⟩)))
end Pd
set_option maxHeartbeats 800000
namespace Pd
open PySem PySem.Spec L2
open TL (tl len_tl tl_append tl_join joinL join_eq ext_tl spl split_spl kind_ok)
def cutG {α : Type} (xs : List α) (lo hi : Option Int) : List α := (xs.drop (HT.sIx xs.length 0 lo)).take (HT.sIx xs.length xs.length hi - HT.sIx xs.length 0 lo)
theorem cut_map (ws : List Str) (lo hi : Option Int) : cutA (ws.map .str) lo hi = (cutG ws lo hi).map .str := by
  unfold cutA cutG
  rw [List.length_map, List.map_take, List.map_drop]
theorem cutG_mem {α : Type} {xs : List α} {lo hi : Option Int} {x : α} (h : x ∈ cutG xs lo hi) : x ∈ xs := List.mem_of_mem_drop (List.mem_of_mem_take h)
theorem cutG_to {α : Type} (xs : List α) (j : Nat) : cutG xs none (some (j : Int)) = xs.take j := by
  unfold cutG
  rw [HT.sIx_none, HT.sIx_nat, List.drop_zero, Nat.sub_zero]
  by_cases hl : j ≤ xs.length
  · rw [Nat.min_eq_left hl]
  · rw [Nat.min_eq_right (by omega), List.take_length, List.take_of_length_le (by omega)]
theorem cutG_from {α : Type} (xs : List α) (i : Nat) : cutG xs (some (i : Int)) none = xs.drop i := by
  unfold cutG
  rw [HT.sIx_none, HT.sIx_nat]
  by_cases hl : i ≤ xs.length
  · rw [Nat.min_eq_left hl]
    exact List.take_of_length_le (by simp)
  · rw [Nat.min_eq_right (by omega)]
    rw [List.drop_eq_nil_of_le (Nat.le_refl _), List.drop_eq_nil_of_le (by omega)]
    simp
theorem cutG_one {α : Type} (xs : List α) (i : Nat) : (cutG xs (some (i : Int)) (some ((i + 1 : Nat) : Int))).length ≤ 1 := by
  unfold cutG
  rw [HT.sIx_nat, HT.sIx_nat]
  have := List.length_take_le (min (i + 1) xs.length - min i xs.length) (xs.drop (min i xs.length))
  omega
theorem sl_strs (ws : List Str) (lo hi : Option Int) (M : Mem) : opSl (.lst (ws.map .str)) lo hi M = .ok (.lst ((cutG ws lo hi).map .str)) M := by
  simp only [opSl, asR, cut_map]
def SmallT (f : Fn) : Prop := ∀ (n : Nat) (x : Str) (M : Mem), okT n x → n ≤ 90000 → (Txt.split x "\n").length ≤ 401 → ∃ b, f [.str x] M = .ok (.bl b) M
def smP (xs : List Av) : Av → Bool
  | .tup [.int i, w] => !inV (vOf w) ((cutA xs none (some i)).map vOf)
  | _ => true
def smV : Av → Av
  | .tup [_, w] => w
  | _ => .non
theorem law_is_small_t {en : En} (h : EnOk en) : SmallT (runF 1 7 (s_f_law_is_small_2 en)) := by
  intro n x M hx hn9 hl4
  have key : wR (runF 1 7 (s_f_law_is_small_2 en) [.str x] M) (fun v M' => (∃ b, v = .bl b) ∧ M' = M) xNo := by
    have sp := sp_n hx
    have spx := fun M' => split_x hx hn9 (y := "\n") rfl M'
    have so := sp.o
    refine w_run rfl rfl ?_
    unfold s_f_law_is_small_2
    generalize Txt.split x "\n" = L at so spx hl4 ⊢
    refine s_seq (s_set (w_newL (w_anil ⟨rfl, ?_⟩)))
    refine s_seq (s_for (i_enm (w_acons (w_bm (w_var rfl ⟨rfl, w_acons (w_c (w_anil (w_ok (spx _) (w_anil ⟨_, _, rfl, eqAs_refl _, ?_⟩))))⟩)))))
    refine s_forL (fun i e' M' => ∃ (fs : List Str) (x2 x3 x4 : Option Av), M' = M ++ [some (.lst (fs.map .str))] ∧ e' = [some (.str x), some (.ref M.length), x2, x3, x4, none, none] ∧ fs.length ≤ 2 * i) ⟨[], none, none, none, rfl, rfl, Nat.zero_le _⟩ (fun i e' M' hJ => eqAs_refl _) (fun i y e' M' hy hJ => ?_) (fun e' M' hJ => ?_)
    · obtain ⟨fs, x2, x3, x4, rfl, rfl, hfl⟩ := hJ
      obtain ⟨r, hr1, rfl⟩ := enm_item hy
      rw [List.getElem?_map, Option.map_eq_some_iff] at hr1
      obtain ⟨l, hl, rfl⟩ := hr1
      have ol := so l (List.mem_of_getElem? hl)
      have iL : i < L.length := (List.getElem?_eq_some_iff.mp hl).1
      refine ⟨[some (.str x), some (.ref M.length), some (.int (i : Int)), some (.str l), x4, none, none], rfl, ?_⟩
      have spl_ := split_x ol hn9 (y := " ") rfl (M ++ [some (.lst (fs.map .str))])
      refine s_seq (s_set (w_bm (w_var rfl ⟨rfl, w_acons (w_c (w_anil (w_ok spl_ ?_)))⟩)))
      generalize Txt.split l " " = ws
      have ext : ∀ (ys : List Str), ys.length ≤ 2 → opExtend (.ref M.length) [.lst (ys.map .str)] (M ++ [some (.lst (fs.map .str))]) = .ok .non (M ++ [some (.lst ((fs ++ ys).map .str))]) := fun ys hy => by
        have z : szOk ((fs.map Av.str).length + (ys.map Av.str).length) = true := szOk_of (by simp only [List.length_map]; omega)
        simp only [opExtend, asL, chL, app_at, z, if_true, app_set, List.map_append]
      have fin : ∀ (ys : List Str), ys.length ≤ 2 → ∃ (gs : List Str) (y2 y3 y4 : Option Av), M ++ [some (Mo.lst ((fs ++ ys).map Av.str))] = M ++ [some (.lst (gs.map .str))] ∧ ([some (.str x), some (.ref M.length), some (.int (i : Int)), some (.str l), some (.lst (ws.map .str)), none, none] : Env) = [some (.str x), some (.ref M.length), y2, y3, y4, none, none] ∧ gs.length ≤ 2 * (i + 1) := fun ys hy => ⟨fs ++ ys, _, _, _, rfl, rfl, by rw [List.length_append]; omega⟩
      have a1 : (cutG ws (some 1) (some 2)).length ≤ 1 := cutG_one ws 1
      have a2 : (cutG ws none (some 1)).length ≤ 1 := by rw [show cutG ws none (some 1) = ws.take 1 from cutG_to ws 1]; exact List.length_take_le _ _
      have a3 : (cutG ws (some 3) (some 4)).length ≤ 1 := cutG_one ws 3
      refine s_drop (w_bm (w_var rfl ⟨isT_of (app_at _ _), w_acons (w_ifE (w_tcmp (w_var rfl (w_c (o_eqi h ⟨_, rfl, fun _ => ?_, fun _ => ?_⟩)))))⟩))
      · refine w_sl (w_var rfl (w_osome (w_c ⟨1, rfl, w_osome (w_c ⟨2, rfl, w_ok (sl_strs ws (some 1) (some 2) _) (w_anil (w_ok (ext _ (by omega)) (fin _ (by omega))))⟩)⟩)))
      · have hadd : en.add (.lst ((cutG ws none (some 1)).map .str)) (.lst ((cutG ws (some 3) (some 4)).map .str)) (M ++ [some (.lst (fs.map .str))]) = .ok (.lst ((cutG ws none (some 1) ++ cutG ws (some 3) (some 4)).map .str)) (M ++ [some (.lst (fs.map .str))]) := by
          refine w_eq (o_addl h (szOk_of (by simp only [List.length_map]; omega)) ?_)
          exact ⟨by rw [List.map_append], rfl⟩
        refine w_bin (w_sl (w_var rfl (w_onone (w_osome (w_c ⟨1, rfl, w_ok (sl_strs ws none (some 1) _) ?_⟩)))))
        refine w_sl (w_var rfl (w_osome (w_c ⟨3, rfl, w_osome (w_c ⟨4, rfl, w_ok (sl_strs ws (some 3) (some 4) _) (w_ok hadd (w_anil (w_ok (ext _ (by rw [List.length_append]; omega)) (fin _ (by rw [List.length_append]; omega)))))⟩)⟩)))
    · obtain ⟨fs, x2, x3, x4, rfl, rfl, hfl⟩ := hJ
      rw [enm_len, List.length_map] at hfl
      have at_ : (M ++ [some (Mo.lst (fs.map Av.str))])[M.length]? = some (some (.lst (fs.map .str))) := app_at _ _
      have at2 : ∀ acc, (M ++ [some (Mo.lst (fs.map Av.str))] ++ [some (Mo.lst acc)])[M.length]? = some (some (.lst (fs.map .str))) := fun acc => by
        rw [List.getElem?_append_left (by simp)]
        exact at_
      have st : ∀ M', M'[M.length]? = some (some (Mo.lst (fs.map Av.str))) → stayA M' (.ref M.length) (fs.map .str) = true := fun M' hM' => by
        unfold stayA
        simp only [asL, hM']
        exact eqAs_refl _
      refine s_ret (w_frz (w_bin (w_callB (w_acons (w_lc (Ik.enm (.ref M.length) (fs.map .str)).items id (smP (fs.map .str)) smV (i_enm (w_acons (w_var rfl (w_anil ⟨_, fs.map .str, rfl, st _ at_, ?_⟩))))))))) 
      refine ⟨(List.map_id _).symm, fun acc => st _ (at2 acc), by rw [enm_len, List.length_map]; omega, fun v acc hv => ?_, fun v hv => ?_, ?_⟩
      · obtain ⟨i, hi⟩ := List.mem_iff_getElem?.mp hv
        obtain ⟨r, hr1, rfl⟩ := enm_item hi
        rw [List.getElem?_map, Option.map_eq_some_iff] at hr1
        obtain ⟨w, hw, rfl⟩ := hr1
        refine ⟨_, rfl, ?_⟩
        have e1 : opSl (.ref M.length) none (some (i : Int)) (M ++ [some (Mo.lst (fs.map Av.str))] ++ [some (Mo.lst acc)]) = .ok (.lst (cutA (fs.map .str) none (some (i : Int)))) (M ++ [some (Mo.lst (fs.map Av.str))] ++ [some (Mo.lst acc)]) := by
          simp only [opSl, asR, asL, at2]
        have e2 : en.nin (.str w) (.lst (cutA (fs.map .str) none (some (i : Int)))) (M ++ [some (Mo.lst (fs.map Av.str))] ++ [some (Mo.lst acc)]) = .ok (.bl (smP (fs.map .str) (.tup [.int (i : Int), .str w]))) (M ++ [some (Mo.lst (fs.map Av.str))] ++ [some (Mo.lst acc)]) := by
          rw [h.nin _ _ _ (by simp)]
          have fl : (cutA (fs.map Av.str) none (some (i : Int))).all flatA = true := by
            rw [cut_map, List.all_eq_true]
            intro z hz
            obtain ⟨q, _, rfl⟩ := List.mem_map.mp hz
            rfl
          have f0 : flatA (.str w) = true := rfl
          simp only [opIn, asQ, fl, f0, Bool.and_self, if_true, smP]
        exact w_tcmp (w_var rfl (w_sl (w_var rfl (w_onone (w_osome (w_var rfl ⟨_, rfl, w_ok e1 (w_ok e2 ⟨_, rfl, rfl, rfl, fun _ => w_var rfl ⟨rfl, rfl⟩⟩)⟩))))))
      · obtain ⟨i, hi⟩ := List.mem_iff_getElem?.mp hv
        obtain ⟨r, hr1, rfl⟩ := enm_item hi
        rw [List.getElem?_map, Option.map_eq_some_iff] at hr1
        obtain ⟨w, hw, rfl⟩ := hr1
        rfl
      · refine w_anil (o_len_lst h (w_c (o_cmp (.inl ⟨rfl, w_ok (fin_cut rfl rfl (cutL_refl _ _ _)) ⟨⟨_, rfl⟩, rfl⟩⟩))))
  obtain ⟨v, M1, q, ⟨b, rfl⟩, rfl⟩ := w_ex key
  exact ⟨b, q⟩
end Pd
set_option maxHeartbeats 800000
namespace Pd
open PySem PySem.Spec L2
open TL (tl len_tl tl_append tl_join joinL join_eq ext_tl spl split_spl kind_ok)
structure Tx (n m : Nat) (x : Str) : Prop where
  o : okT n x
  c : (tl x).count 10 ≤ m
theorem nl_spl (x : Str) : (Txt.split x "\n").map tl = spl [10] 0 [] (tl x) := by
  have e : tl ("\n" : Str) = [10] := rfl
  rw [split_spl x "\n" (by rw [e]; simp) (kind_ok (by rw [← Array.all_toList]; rfl)), e]
theorem nl_len (x : Str) : (Txt.split x "\n").length = (tl x).count 10 + 1 := by
  have := congrArg List.length (nl_spl x)
  rw [List.length_map, spl_cnt] at this
  exact this
theorem nl_no (x : Str) : ∀ p ∈ Txt.split x "\n", 10 ∉ tl p := by
  intro p hp
  refine spl_no 10 (tl x) [] (by simp) (tl p) ?_
  rw [← nl_spl]
  exact List.mem_map.mpr ⟨p, hp, rfl⟩
def SL (l : List Str) : Nat := (l.map (·.length)).sum + l.length
theorem SL_app (a b : List Str) : SL (a ++ b) = SL a + SL b := by
  simp only [SL, List.map_append, List.sum_append, List.length_append]; omega
theorem SL_split (l : List Str) (k : Nat) : SL (l.take k) + SL (l.drop k) = SL l := by rw [← SL_app, List.take_append_drop]
theorem SL_drop (l : List Str) (k : Nat) : SL (l.drop k) ≤ SL l := by have := SL_split l k; omega
theorem SL_take (l : List Str) (k : Nat) : SL (l.take k) ≤ SL l := by have := SL_split l k; omega
theorem SL_cut (l : List Str) (lo hi : Option Int) : SL (cutG l lo hi) ≤ SL l := by
  unfold cutG
  exact Nat.le_trans (SL_take _ _) (SL_drop _ _)
theorem joinL_mem (s c : Nat) : ∀ ps : List (List Nat), c ∈ joinL [s] ps → c = s ∨ ∃ p ∈ ps, c ∈ p
  | [], h => by simp [joinL] at h
  | [p], h => .inr ⟨p, by simp, by simpa [joinL] using h⟩
  | p :: q :: r, h => by
    have h : c ∈ p ++ ([s] ++ joinL [s] (q :: r)) := h
    rcases List.mem_append.mp h with h | h
    · exact .inr ⟨p, by simp, h⟩
    · rcases List.mem_append.mp h with h | h
      · exact .inl (by simpa using h)
      · rcases joinL_mem s c (q :: r) h with h | ⟨p2, h1, h2⟩
        · exact .inl h
        · exact .inr ⟨p2, by simp only [List.mem_cons] at h1 ⊢; exact .inr h1, h2⟩
theorem joinL_cnt (s : Nat) : ∀ ps : List (List Nat), (∀ p ∈ ps, s ∉ p) → (joinL [s] ps).count s ≤ ps.length - 1
  | [], _ => by simp [joinL]
  | [p], h => by
    have := List.count_eq_zero.mpr (h p (by simp))
    simp [joinL, this]
  | p :: q :: r, h => by
    have e0 := List.count_eq_zero.mpr (h p (by simp))
    have ih := joinL_cnt s (q :: r) fun p2 hp => h p2 (by simp only [List.mem_cons] at hp ⊢; exact .inr hp)
    show (p ++ ([s] ++ joinL [s] (q :: r))).count s ≤ _
    rw [List.count_append, List.count_append, e0]
    simp only [List.length_cons] at ih ⊢
    have : List.count s [s] = 1 := by simp
    omega
theorem join_tx {L : List Str} {n m : Nat} (hp : ∀ p ∈ L, PyData.strOk p = true ∧ 10 ∉ tl p) (hs : SL L ≤ n) (hl : L.length ≤ m + 1) : Tx n m (Txt.join "\n" L) := by
  have e : tl (Txt.join "\n" L) = joinL [10] (L.map tl) := by rw [join_eq, tl_join]; rfl
  refine ⟨⟨strOk_tl.mpr fun c hc => ?_, ?_⟩, ?_⟩
  · rw [e] at hc
    rcases joinL_mem _ _ _ hc with h | ⟨p, h1, h2⟩
    · omega
    · obtain ⟨q, hq, rfl⟩ := List.mem_map.mp h1
      exact strOk_tl.mp (hp q hq).1 c h2
  · have := join_len "\n" L
    have e1 : ("\n" : Str).length = 1 := rfl
    rw [e1] at this
    unfold SL at hs
    omega
  · rw [e]
    have := joinL_cnt 10 (L.map tl) fun p h1 => by
      obtain ⟨q, hq, rfl⟩ := List.mem_map.mp h1
      exact (hp q hq).2
    rw [List.length_map] at this
    omega
theorem join_at (L : List Str) (M : Mem) (h : SL L ≤ 100000) : opJoin (.str "\n") [.lst (L.map .str)] M = .ok (.str (Txt.join "\n" L)) M := by
  have e1 : ("\n" : Str).length = 1 := rfl
  unfold SL at h
  simp only [opJoin, asQ, strs_map]
  rw [if_pos (szOk_of (by rw [e1]; omega))]
theorem add_strs {en : En} (h : EnOk en) (a b : List Str) (M : Mem) (hl : a.length + b.length ≤ 100000) : en.add (.lst (a.map .str)) (.lst (b.map .str)) M = .ok (.lst ((a ++ b).map .str)) M := by
  refine w_eq (o_addl h (szOk_of (by simp only [List.length_map]; omega)) ?_)
  exact ⟨by rw [List.map_append], rfl⟩
theorem tl_cut (x : Str) (lo hi : Option Int) : tl (cutS x lo hi) = cutG (tl x) lo hi := by
  have e : (tl x).length = x.length := (len_tl x).symm
  unfold cutG
  rw [e]
  show ((⟨_⟩ : Array Nat)).toList = _
  rfl
theorem sl_str (x : Str) (lo hi : Option Int) (M : Mem) (h : x.length ≤ 100000) : opSl (.str x) lo hi M = .ok (.str (cutS x lo hi)) M := by
  simp only [opSl]
  rw [if_pos (szOk_of h)]
theorem cut_len (x : Str) (lo hi : Option Int) : (cutS x lo hi).length ≤ x.length := by
  rw [len_tl, len_tl, tl_cut]
  unfold cutG
  have := List.length_take_le (HT.sIx (tl x).length (tl x).length hi - HT.sIx (tl x).length 0 lo) ((tl x).drop (HT.sIx (tl x).length 0 lo))
  have h2 : ((tl x).drop (HT.sIx (tl x).length 0 lo)).length ≤ (tl x).length := by rw [List.length_drop]; omega
  exact Nat.le_trans (by rw [List.length_take]; omega) h2
theorem cnt_drop (l : List Nat) (k j : Nat) : (l.take k).count 10 + (l.drop (k + j)).count 10 ≤ l.count 10 ∧ (l.take k).length + (l.drop (k + j)).length ≤ l.length := by
  have e1 : l.count 10 = (l.take k).count 10 + (l.drop k).count 10 := by rw [← List.count_append, List.take_append_drop]
  have e2 : (l.drop k).count 10 = ((l.drop k).take j).count 10 + ((l.drop k).drop j).count 10 := by rw [← List.count_append, List.take_append_drop]
  have e3 : (l.drop k).drop j = l.drop (k + j) := by rw [List.drop_drop]
  rw [e3] at e2
  refine ⟨by omega, ?_⟩
  rw [List.length_take, List.length_drop]
  omega
theorem tx_cat {n m k j : Nat} {x sg : Str} (hx : Tx n m x) (hs : Tx 1 1 sg) : Tx (n + 1) (m + 1) (cutS x none (some (k : Int)) ++ sg ++ cutS x (some ((k + j : Nat) : Int)) none) := by
  have e : tl (cutS x none (some (k : Int)) ++ sg ++ cutS x (some ((k + j : Nat) : Int)) none) = (tl x).take k ++ tl sg ++ (tl x).drop (k + j) := by
    rw [tl_append, tl_append, tl_cut, tl_cut, cutG_to, cutG_from]
  obtain ⟨c1, c2⟩ := cnt_drop (tl x) k j
  have x1 := hx.o.2
  have x2 := hx.c
  have s1 := hs.o.2
  have s2 := hs.c
  refine ⟨⟨strOk_tl.mpr fun c hc => ?_, ?_⟩, ?_⟩
  · rw [e, List.mem_append, List.mem_append] at hc
    rcases hc with (hc | hc) | hc
    · exact strOk_tl.mp hx.o.1 c (List.mem_of_mem_take hc)
    · exact strOk_tl.mp hs.o.1 c hc
    · exact strOk_tl.mp hx.o.1 c (List.mem_of_mem_drop hc)
  · rw [len_tl] at x1 s1 ⊢
    rw [e, List.length_append, List.length_append]
    omega
  · rw [e, List.count_append, List.count_append]
    omega
theorem tx_cut {n m k j : Nat} {x : Str} (hx : Tx n m x) : Tx (n + 1) (m + 1) (cutS x none (some (k : Int)) ++ cutS x (some ((k + j : Nat) : Int)) none) := by
  have e : tl (cutS x none (some (k : Int)) ++ cutS x (some ((k + j : Nat) : Int)) none) = (tl x).take k ++ (tl x).drop (k + j) := by
    rw [tl_append, tl_cut, tl_cut, cutG_to, cutG_from]
  obtain ⟨c1, c2⟩ := cnt_drop (tl x) k j
  have x1 := hx.o.2
  have x2 := hx.c
  refine ⟨⟨strOk_tl.mpr fun c hc => ?_, ?_⟩, ?_⟩
  · rw [e, List.mem_append] at hc
    rcases hc with hc | hc
    · exact strOk_tl.mp hx.o.1 c (List.mem_of_mem_take hc)
    · exact strOk_tl.mp hx.o.1 c (List.mem_of_mem_drop hc)
  · rw [len_tl] at x1 ⊢
    rw [e, List.length_append]
    omega
  · rw [e, List.count_append]
    omega
theorem Tx.le {n m n2 m2 : Nat} {x : Str} (h : Tx n m x) (hn : n ≤ n2) (hm : m ≤ m2) : Tx n2 m2 x := ⟨h.o.le hn, Nat.le_trans h.c hm⟩
def ODD : List Str := ["", "first run", "run all on", "run all on run also also", "run past on also", "run Past on run", "run all on run ", "also all on run", "run all go run", "a at stay b also", "run keep home run"]
theorem odd_ok : ∀ o ∈ ODD, (PyData.strOk o = true ∧ 10 ∉ tl o) ∧ o.length ≤ 30 := by
  intro o ho
  simp only [ODD, List.mem_cons, List.not_mem_nil, or_false] at ho
  rcases ho with rfl | rfl | rfl | rfl | rfl | rfl | rfl | rfl | rfl | rfl | rfl <;> exact ⟨⟨by decide +kernel, by decide +kernel⟩, by decide +kernel⟩
theorem sign_ok {en : En} (h : EnOk en) (r : Int) (h0 : 0 ≤ r) (h7 : r < 7) (M : Mem) : ∃ sg : Str, en.ix (.str " a\nA0lo") (.int r) M = .ok (.str sg) M ∧ Tx 1 1 sg := by
  have e : r = 0 ∨ r = 1 ∨ r = 2 ∨ r = 3 ∨ r = 4 ∨ r = 5 ∨ r = 6 := by omega
  have mk : ∀ c : Nat, c < 200 → Tx 1 1 ⟨#[c]⟩ := fun c hc => by
    have e : tl (⟨#[c]⟩ : Str) = [c] := rfl
    refine ⟨⟨strOk_tl.mpr fun d hd => ?_, Nat.le_refl 1⟩, ?_⟩
    · rw [e] at hd
      have := List.mem_singleton.mp hd
      omega
    · rw [e]
      exact List.count_le_length
  rcases e with rfl | rfl | rfl | rfl | rfl | rfl | rfl <;> exact ⟨_, (h.ix _ _ _ rfl).trans rfl, mk _ (by decide)⟩
end Pd
set_option maxHeartbeats 800000
namespace Pd
open PySem PySem.Spec L2
open TL (tl len_tl tl_append tl_join joinL join_eq ext_tl spl split_spl kind_ok)
def BentT (f : Fn) : Prop := ∀ (n m : Nat) (x : Str) (b : Nat) (M : Mem), Tx n m x → n ≤ 3000 → m ≤ 100 → BxAt M b → wR (f [.ref b, .str x] M) (fun v M1 => ∃ y, v = .str y ∧ Tx (2 * n + 40) (m + 1) y ∧ Gen b M M1) xNo
theorem law_bent_t {en : En} {ch oo : Fn} (h : EnOk en) (hc : ChooseOk ch) (hoo : OneOfOk oo) : BentT (runF 2 8 (s_f_law_bent_2 en ch oo)) := by
  intro n m x b M hx hn hm hM
  have sp := sp_n hx.o
  have spx := fun M' => split_x hx.o (show n ≤ 90000 by omega) (y := "\n") rfl M'
  have so := sp.o
  have sS := sp.s
  have ll := nl_len x
  have nn := nl_no x
  have xl : x.length ≤ 3000 := Nat.le_trans hx.o.2 hn
  have cm := hx.c
  refine w_run rfl rfl ?_
  unfold s_f_law_bent_2
  generalize Txt.split x "\n" = L at so sS ll nn spx ⊢
  have hp : ∀ p ∈ L, PyData.strOk p = true ∧ 10 ∉ tl p := fun p hp => ⟨(so p hp).1, nn p hp⟩
  have sL : SL L ≤ n + 1 := sS
  have lm : L.length ≤ m + 1 := by omega
  have l1 : 1 ≤ L.length := by omega
  have lenL : ∀ M', en.len [.lst (L.map .str)] M' = .ok (.int (L.length : Nat)) M' := fun M' => by
    rw [h.len _ _ rfl]
    show Res.ok (Av.int (((L.map Av.str).length : Nat) : Int)) M' = _
    rw [List.length_map]
  refine s_seq (s_par (w_acons (w_bm (w_var rfl ⟨rfl, w_acons (w_c (w_anil (w_ok (spx M) ?_)))⟩))))
  refine w_acons (w_callB (w_acons (w_var rfl (w_acons (w_c (w_anil (w_defl0 (w_ch hc hM (by decide) (by decide) fun r M1 g1 b1 r0 r7 => ?_))))))))
  refine w_anil ⟨_, rfl, ?_⟩
  refine s_seq (s_set (w_callB (w_acons (w_var rfl (w_acons (w_callB (w_acons (w_var rfl (w_anil (w_ok (lenL _) (w_anil (w_defl0 (w_ch hc b1 (by omega) (by omega) fun a M2 g2 b2 a0 a7 => ?_)))))))))))))
  obtain ⟨k, rfl⟩ := Int.eq_ofNat_of_zero_le a0
  have kL : k < L.length := by omega
  refine s_seq (s_set (w_lst (w_acons (w_c (w_acons (w_c (w_acons (w_c (w_acons (w_c (w_acons (w_c (w_acons (w_c (w_anil ⟨rfl, ?_⟩)))))))))))))))
  refine s_seq (s_set (w_bin (w_var rfl (w_lst (w_acons (w_c (w_acons (w_c (w_acons (w_c (w_acons (w_c (w_acons (w_c (w_anil ⟨rfl, o_addl h rfl ?_⟩)))))))))))))))
  refine s_seq (s_set (w_callB (w_acons (w_var rfl (w_acons (w_var rfl (w_anil (w_defl0 (w_oo hoo b2 (by simp) (by simp) (fun z hz M' => ?_) fun od M3 g3 b3 hod => ?_)))))))))
  · have hz : z ∈ ODD.map Av.str := hz
    obtain ⟨o, _, rfl⟩ := List.mem_map.mp hz
    rfl
  have hod : od ∈ ODD.map Av.str := hod
  obtain ⟨o, ho, rfl⟩ := List.mem_map.mp hod
  obtain ⟨op, ol⟩ := odd_ok o ho
  have g := (g1.trans g2).trans g3
  have k1 : ∀ M', en.add (.int (k : Int)) (.int 1) M' = .ok (.int ((k + 1 : Nat) : Int)) M' := fun M' => h.add_int _ _ _
  have to_ := fun M' => sl_strs L none (some (k : Int)) M'
  have fr_ := fun M' => sl_strs L (some (k : Int)) none M'
  have fr1 := fun M' => sl_strs L (some ((k + 1 : Nat) : Int)) none M'
  have mid := fun M' => sl_strs L (some (k : Int)) (some ((k + 1 : Nat) : Int)) M'
  have t1 := List.length_take_le k L
  have t2 : (L.drop k).length = L.length - k := List.length_drop
  have t3 : (L.drop (k + 1)).length = L.length - (k + 1) := List.length_drop
  have t4 := cutG_one L k
  have u1 : (L.take k).length = k := by rw [List.length_take]; omega
  rw [cutG_to] at to_
  rw [cutG_from] at fr_ fr1
  have w1 := SL_split L k
  have w2 : SL (L.drop (k + 1)) ≤ SL (L.drop k) := by rw [← List.drop_drop]; exact SL_drop _ _
  have w3 := SL_cut L (some (k : Int)) (some ((k + 1 : Nat) : Int))
  have done : ∀ {P : Prop} (y : Str) (M' : Mem), Tx (2 * n + 40) (m + 1) y → Gen b M M' → (frz (.str y) M' = none ∧ wR (finF M (.str y) M') (fun v M1 => ∃ y, v = .str y ∧ Tx (2 * n + 40) (m + 1) y ∧ Gen b M M1) xNo) ∨ P := fun y M' hy hg => .inl ⟨rfl, w_ok (fin_same hg.len) ⟨y, rfl, hy, hg⟩⟩
  have fin : ∀ {X : XC} (A : List Str), (∀ p ∈ A, PyData.strOk p = true ∧ 10 ∉ tl p) → SL A ≤ 2 * n + 40 → A.length ≤ m + 2 → wR (opJoin (.str "\n") [.lst (A.map .str)] M3) (fun a M1 => (frz a M1 = none ∧ wR (finF M a M1) (fun v M1 => ∃ y, v = .str y ∧ Tx (2 * n + 40) (m + 1) y ∧ Gen b M M1) xNo) ∨ ∃ c M2, frz a M1 = some (c, M2) ∧ wR (finF M c M2) (fun v M1 => ∃ y, v = .str y ∧ Tx (2 * n + 40) (m + 1) y ∧ Gen b M M1) xNo) X := fun {X} A h1 h2 h3 => w_ok (join_at A M3 (by omega)) (done _ _ (join_tx h1 h2 (by omega)) g)
  have ptake : ∀ p ∈ L.take k, PyData.strOk p = true ∧ 10 ∉ tl p := fun p h => hp p (List.mem_of_mem_take h)
  have pdrop : ∀ j, ∀ p ∈ L.drop j, PyData.strOk p = true ∧ 10 ∉ tl p := fun j p h => hp p (List.mem_of_mem_drop h)
  refine s_seq (s_if (w_tcmp (w_var rfl (w_c (o_eqi h ⟨_, rfl, fun _ => ?_, fun _ => s_pass ?_⟩)))))
  · refine s_ret (w_frz (w_bm (w_c ⟨rfl, w_acons (w_bin (w_sl (w_var rfl (w_onone (w_osome (w_var rfl ⟨_, rfl, w_ok (to_ _) ?_⟩))))))⟩)))
    refine w_sl (w_var rfl (w_osome (w_bin (w_var rfl (w_c (w_ok (k1 _) ⟨_, rfl, w_onone (w_ok (fr1 _) (w_ok (add_strs h _ _ _ (by omega)) (w_anil ?_)))⟩))))))
    refine fin (L.take k ++ L.drop (k + 1)) (fun p hp => ?_) (by rw [SL_app]; omega) (by rw [List.length_append]; omega)
    rcases List.mem_append.mp hp with hp | hp
    · exact ptake p hp
    · exact pdrop _ p hp
  refine s_seq (s_if (w_tcmp (w_var rfl (w_c (o_eqi h ⟨_, rfl, fun _ => ?_, fun _ => s_pass ?_⟩)))))
  · refine s_ret (w_frz (w_bm (w_c ⟨rfl, w_acons (w_bin (w_bin (w_sl (w_var rfl (w_onone (w_osome (w_var rfl ⟨_, rfl, w_ok (to_ _) ?_⟩)))))))⟩)))
    refine w_lst (w_acons (w_var rfl (w_anil ⟨rfl, w_ok (add_strs h (L.take k) [o] _ (by simp only [List.length_cons, List.length_nil]; omega)) ?_⟩)))
    refine w_sl (w_var rfl (w_osome (w_var rfl ⟨_, rfl, w_onone (w_ok (fr_ _) (w_ok (add_strs h _ _ _ (by simp only [List.length_append, List.length_cons, List.length_nil]; omega)) (w_anil ?_)))⟩)))
    have so1 : SL [o] ≤ 31 := by simp only [SL, List.map_cons, List.map_nil, List.sum_cons, List.sum_nil, List.length_cons, List.length_nil]; omega
    refine fin (L.take k ++ [o] ++ L.drop k) (fun p hp => ?_) (by rw [SL_app, SL_app]; omega) (by simp only [List.length_append, List.length_cons, List.length_nil]; omega)
    rcases List.mem_append.mp hp with hp | hp
    · rcases List.mem_append.mp hp with hp | hp
      · exact ptake p hp
      · rw [List.mem_singleton.mp hp]; exact op
    · exact pdrop _ p hp
  refine s_seq (s_if (w_tcmp (w_var rfl (w_c (o_eqi h ⟨_, rfl, fun _ => ?_, fun _ => s_pass ?_⟩)))))
  · refine s_ret (w_frz (w_bm (w_c ⟨rfl, w_acons (w_bin (w_bin (w_sl (w_var rfl (w_onone (w_osome (w_var rfl ⟨_, rfl, w_ok (to_ _) ?_⟩)))))))⟩)))
    refine w_sl (w_var rfl (w_osome (w_var rfl ⟨_, rfl, w_osome (w_bin (w_var rfl (w_c (w_ok (k1 _) ⟨_, rfl, w_ok (mid _) (w_ok (add_strs h _ _ _ (by omega)) ?_)⟩))))⟩)))
    refine w_sl (w_var rfl (w_osome (w_var rfl ⟨_, rfl, w_onone (w_ok (fr_ _) (w_ok (add_strs h _ _ _ (by rw [List.length_append]; omega)) (w_anil ?_)))⟩)))
    refine fin (L.take k ++ cutG L (some (k : Int)) (some ((k + 1 : Nat) : Int)) ++ L.drop k) (fun p hp2 => ?_) (by rw [SL_app, SL_app]; omega) (by simp only [List.length_append]; omega)
    rcases List.mem_append.mp hp2 with hp2 | hp2
    · rcases List.mem_append.mp hp2 with hp2 | hp2
      · exact ptake p hp2
      · exact hp p (cutG_mem hp2)
    · exact pdrop _ p hp2
  have lenX : ∀ M', en.len [.str x] M' = .ok (.int (x.length : Nat)) M' := fun M' => by
    rw [h.len _ _ rfl]
    simp only [opLen, szOk_of (show x.length ≤ 100000 by omega), if_true]
  refine s_seq (s_set (w_callB (w_acons (w_var rfl (w_acons (w_bin (w_callB (w_acons (w_var rfl (w_anil (w_ok (lenX _) (w_c (o_add h (w_anil (w_defl0 (w_ch hc b3 (by omega) (by omega) fun a M4 g4 b4 q0 q7 => ?_))))))))))))))))
  obtain ⟨q, rfl⟩ := Int.eq_ofNat_of_zero_le q0
  refine s_seq (s_set (w_bin (w_c (w_callB (w_acons (w_var rfl (w_acons (w_c (w_anil (w_defl0 (w_ch hc b4 (by decide) (by decide) fun a M5 g5 b5 z0 z7 => ?_)))))))))))
  obtain ⟨sg, hsg, tsg⟩ := sign_ok h a z0 z7 M5
  refine w_ok hsg ?_
  have gg := (g.trans g4).trans g5
  have q1 : ∀ M', en.add (.int (q : Int)) (.int 1) M' = .ok (.int ((q + 1 : Nat) : Int)) M' := fun M' => h.add_int _ _ _
  have cl := fun lo hi => cut_len x lo hi
  have sgl := tsg.o.2
  refine s_seq (s_if (w_tcmp (w_var rfl (w_c (o_eqi h ⟨_, rfl, fun _ => ?_, fun _ => s_pass ?_⟩)))))
  · refine s_ret (w_frz (w_bin (w_sl (w_var rfl (w_onone (w_osome (w_var rfl ⟨_, rfl, w_ok (sl_str x none (some (q : Int)) _ (by omega)) ?_⟩)))))))
    refine w_sl (w_var rfl (w_osome (w_bin (w_var rfl (w_c (w_ok (q1 _) ⟨_, rfl, w_onone (w_ok (sl_str x (some ((q + 1 : Nat) : Int)) none _ (by omega)) (o_adds h (szOk_of ?_) ?_))⟩))))))
    · have c1 := cl none (some (q : Int))
      have c2 := cl (some ((q + 1 : Nat) : Int)) none
      omega
    · exact done _ _ ((tx_cut hx).le (by omega) (by omega)) gg
  refine s_ret (w_frz (w_bin (w_bin (w_sl (w_var rfl (w_onone (w_osome (w_var rfl ⟨_, rfl, w_ok (sl_str x none (some (q : Int)) _ (by omega)) (w_var rfl (o_adds h (szOk_of ?_) ?_))⟩))))))))
  · have c1 := cl none (some (q : Int))
    omega
  obtain ⟨j, hj⟩ : ∃ j : Nat, ∀ M', opInt [.bl (decide ((4 : Int) < r))] M' = .ok (.int (j : Int)) M' := by
    cases decide ((4 : Int) < r)
    · exact ⟨0, fun _ => rfl⟩
    · exact ⟨1, fun _ => rfl⟩
  have qj : ∀ M', en.add (.int (q : Int)) (.int (j : Int)) M' = .ok (.int ((q + j : Nat) : Int)) M' := fun M' => h.add_int _ _ _
  refine w_sl (w_var rfl (w_osome (w_bin (w_var rfl (w_callB (w_acons (w_bin (w_var rfl (w_c (o_cmp (w_anil (w_ok (hj _) (w_ok (qj _) ⟨_, rfl, w_onone (w_ok (sl_str x (some ((q + j : Nat) : Int)) none _ (by omega)) (o_adds h (szOk_of ?_) ?_))⟩)))))))))))))
  · have c1 := cl none (some (q : Int))
    have c2 := cl (some ((q + j : Nat) : Int)) none
    rw [len_app]
    omega
  · exact done _ _ ((tx_cat hx tsg).le (by omega) (by omega)) gg
end Pd
set_option maxHeartbeats 800000
namespace Pd
open PySem PySem.Spec L2
open TL (tl len_tl tl_append tl_join joinL join_eq ext_tl spl split_spl kind_ok)
theorem strOk_row6 {r : PRow} (h : r.good) : PyData.strOk (rowText r) = true := by
  have nm : ∀ {x : Str}, nameB x → ∀ c ∈ tl x, c < 0x110000 := fun hx => strOk_tl.mp (strOk_name hx)
  have pk : ∀ p ∈ PICKS, PyData.strOk p = true := by
    intro p hp
    simp only [PICKS, List.mem_cons, List.not_mem_nil, or_false] at hp
    rcases hp with rfl | rfl | rfl | rfl | rfl <;> decide +kernel
  have mv : ∀ p ∈ MOVES, PyData.strOk p = true := by
    intro p hp
    simp only [MOVES, List.mem_cons, List.not_mem_nil, or_false] at hp
    rcases hp with rfl | rfl | rfl <;> decide +kernel
  refine strOk_tl.mpr fun c hc => ?_
  rw [rowText_eq, join_eq, tl_join] at hc
  rcases joinL_mem 32 c _ hc with h1 | ⟨p, h1, h2⟩
  · omega
  · obtain ⟨w, hw, rfl⟩ := List.mem_map.mp h1
    simp only [rowWords, List.mem_append, List.mem_cons, List.not_mem_nil, or_false] at hw
    rcases hw with (rfl | rfl | rfl | rfl) | hw
    · exact nm h.1 c h2
    · exact strOk_tl.mp (pk _ h.2.1) c h2
    · exact strOk_tl.mp (mv _ h.2.2.1) c h2
    · exact nm h.2.2.2 c h2
    · split at hw
      · have : w = "also" := by simpa using hw
        rw [this, tl_also] at h2
        simp at h2
        omega
      · cases hw
theorem strOk_first {f : Str} (h : nameB f) : PyData.strOk (("first " : Str) ++ f) = true := by
  refine strOk_tl.mpr fun c hc => ?_
  rw [tl_append, tl_first2] at hc
  rcases List.mem_append.mp hc with hc | hc
  · simp at hc; omega
  · exact strOk_tl.mp (strOk_name h) c hc
theorem rule_tx {f : Str} {rows : List PRow} (hf : nameB f) (hg : ∀ r ∈ rows, r.good) (hl : rows.length ≤ 9) : Tx 300 9 (ruleText f rows) ∧ ∃ a rows2, Fine (ruleText f rows) a rows2 := by
  have s1 := sum_rows hg
  have s2 := (first_len hf).1
  have t : Tx 300 9 (ruleText f rows) := by
    unfold ruleText
    refine join_tx (fun p hp => ?_) ?_ (by simp only [List.length_cons, List.length_map]; omega)
    · rcases List.mem_cons.mp hp with rfl | hp
      · exact ⟨strOk_first hf, (first_len hf).2⟩
      · obtain ⟨r, hr, rfl⟩ := List.mem_map.mp hp
        exact ⟨strOk_row6 (hg r hr), (row_len (hg r hr)).2⟩
    · unfold SL
      simp only [List.map_cons, List.sum_cons, List.length_cons, List.length_map]
      omega
  refine ⟨t, fine_of t.o fun k l hl => ?_⟩
  rw [split_rule hf hg] at hl
  cases k with
  | zero =>
    have : ("first " : Str) ++ f = l := by simpa using hl
    subst this
    show (firstW (Txt.split _ " ")).isSome = true
    rw [split_first hf]
    simp only [firstW, nameb_iff.mpr hf, Bool.and_true, decide_true, if_true, Option.isSome_some]
  | succ k =>
    rw [List.getElem?_cons_succ, List.getElem?_map, Option.map_eq_some_iff] at hl
    obtain ⟨r, hr, rfl⟩ := hl
    have hr := hg r (List.mem_of_getElem? hr)
    show (rowW (Txt.split _ " ")).isSome = true
    rw [split_row hr]
    unfold rowWords
    cases r.also <;> simp [rowW, nameb_iff.mpr hr.1, nameb_iff.mpr hr.2.2.2, hr.2.1, hr.2.2.1]
theorem firstN_lt : ∀ (os : List (Option PRow)) (i j : Nat), firstN os i = some j → j < i + os.length
  | [], _, _, h => by cases h
  | none :: r, i, j, h => by
    have : i = j := by simpa [firstN] using h
    rw [List.length_cons]; omega
  | some x :: r, i, j, h => by
    have := firstN_lt r (i + 1) j h
    rw [List.length_cons]; omega
theorem readW_lt {L : List Str} {i : Nat} (h : readW L = .inl i) (hn : L ≠ []) : i < L.length := by
  match L, hn with
  | l :: ls, _ => ?_
  cases q : firstW (Txt.split l " ") with
  | none =>
    simp only [readW, q] at h
    cases h
    simp
  | some a =>
    cases q2 : firstN (ls.map rowL) 0 with
    | none => simp only [readW, q, q2] at h; cases h
    | some j =>
      simp only [readW, q, q2] at h
      cases h
      have := firstN_lt _ _ _ q2
      rw [List.length_map] at this
      rw [List.length_cons]; omega
theorem expA_repr {x : Str} {m : Nat} (hx : Tx 2000 m x) (hm : m ≤ 11) : ∃ z : Str, ∀ M, opReprN [expA x] M = .ok (.str z) M := by
  rcases dichW hx.o with ⟨i, hi⟩ | ⟨a, rows, f⟩
  · have ex : expA x = .tup [.int (i : Int), .bl true] := by unfold expA; rw [hi]
    have hlt : i < 12 := by
      have := readW_lt hi (sp_n hx.o).ne
      have := nl_len x
      have := hx.c
      omega
    have all : ∀ i, i < 12 → ((PyData.tuple [.int ((i : Nat) : Int), .bool true]).showable && !(PyData.tuple [.int ((i : Nat) : Int), .bool true]).hasDict && Nat.ble (PyData.tuple [.int ((i : Nat) : Int), .bool true]).depth 60 && szOk (PyData.tuple [.int ((i : Nat) : Int), .bool true]).shown.length) = true := by decide +kernel
    have al := all i hlt
    rw [ex]
    refine ⟨(PyData.tuple [.int (i : Int), .bool true]).shown, fun M => ?_⟩
    have pe : pd M (.tup [.int (i : Int), .bl true]) = some (.tuple [.int (i : Int), .bool true]) := rfl
    simp only [opReprN, opRepr, pe]
    rw [if_pos al]
  · have ex : expA x = .str x := by unfold expA; rw [f.rd]
    rw [ex]
    have := PySem.StrLaws.reprText_len x fun c hc => Nat.lt_of_lt_of_le (strOk_tl.mp hx.o.1 c hc) (by decide)
    have hl := hx.o.2
    refine ⟨reprText x, fun M => ?_⟩
    have z : szOk (reprText x).length = true := szOk_of (by omega)
    simp only [opReprN, opRepr, z, if_true]
def rdI : Nat ⊕ (Str × List PRow) → Option Nat
  | .inl i => some i
  | .inr _ => none
theorem rdI_eq {x : Nat ⊕ (Str × List PRow)} {i : Nat} (h : rdI x = some i) : x = .inl i := by
  cases x with
  | inl j => cases h; rfl
  | inr _ => cases h
theorem rd_1 : expA "" = .tup [.int 0, .bl true] := by
  have : readW (Txt.split "" "\n") = .inl 0 := rdI_eq (by decide +kernel)
  unfold expA; rw [this]; rfl
theorem rd_2 : expA "first a\n" = .tup [.int 1, .bl true] := by
  have : readW (Txt.split "first a\n" "\n") = .inl 1 := rdI_eq (by decide +kernel)
  unfold expA; rw [this]; rfl
theorem rd_3 : expA "first also" = .tup [.int 0, .bl true] := by
  have : readW (Txt.split "first also" "\n") = .inl 0 := rdI_eq (by decide +kernel)
  unfold expA; rw [this]; rfl
theorem k06_ok {en : En} {rl sm wr ch bn rd rt ru sd : Fn} (h : EnOk en) (hQ : EnEqRule en) (hrl : ReadLT rl) (hsm : SmallT sm) (hwr : WrongT wr) (hc : ChooseOk ch) (hbn : BentT bn) (hrd : ReadX rd) (hrt : RuleTextOk rt) (hru : RuleGenOk ru) (hsd : SeedOk sd) (ns : List Int) (hl : ns.length ≤ 63) :
    ∃ M, runF 1 8 (s_f_law_20 en rl sm wr ch bn rd rt ru sd) [.fz (ns.map .int)] [] = .ok (.bl true) M := by
  refine law_end (np := 1) ?_
  unfold s_f_law_20
  refine s_law (m := 5) h hsd (by decide) (by decide) hl rfl rfl (fun k rest M a b hr hb => ?_) (fun e M he _ => ?_)
  · match rest, hr with
    | [r3, r4, r5, r6, r7], _ => ?_
    have hM : BxAt (M ++ [bx a b]) M.length := ⟨a, b, app_at _ _, hb⟩
    generalize hn : M.length = n at hM ⊢
    generalize M ++ [bx a b] = M0 at hM ⊢
    refine s_for (i_rng1 (w_acons (w_c (w_anil ⟨5, rfl, rfl, ?_⟩))))
    refine s_forL (fun _ e' M' => (∃ x3 x4 x5 x6 x7, e' = [some (Av.fz (List.map Av.int ns)), some (Av.int (k : Int)), some (Av.ref n), x3, x4, x5, x6, x7]) ∧ BxAt M' n) ⟨⟨r3, r4, r5, r6, r7, rfl⟩, hM⟩ (fun _ _ _ _ => rfl) (fun i x e M1 hx hJ => ?_) (fun e M1 hJ => ?_)
    · obtain ⟨⟨x3, x4, x5, x6, x7, rfl⟩, b0⟩ := hJ
      obtain ⟨rfl, hi2⟩ := rng_item hx
      refine ⟨_, rfl, ?_⟩
      obtain ⟨l, first, rows, M2, q1, g1, hl4, hun, hf, hrows, hrl9⟩ := hru M1 n 9 b0 (by decide) (by decide)
      have b1 := g1.at_ b0
      have hnb : nameB first := unm_name (hun first hf)
      have hgd : ∀ r ∈ rows, r.good := fun r hr => (hrows r hr).good hun
      have hl9 : rows.length ≤ 9 := hrl9
      refine s_seq (s_set (w_callB (w_acons (w_callB (w_acons (w_var rfl (w_acons (w_c (w_anil (w_defl0 (w_ok q1 (w_anil (w_defl0 (w_ok (hrt first rows M2 hnb hgd (by omega)) ?_))))))))))))))
      obtain ⟨tx, a2, rows2, fi⟩ := rule_tx hnb hgd hl9
      generalize ruleText first rows = t at tx fi ⊢
      have tl9 := nl_len t
      have tc := tx.c
      have l401 : (Txt.split t "\n").length ≤ 401 := by omega
      have et : expA t = .str t := by unfold expA; rw [fi.rd]
      have r1 := hrl 300 t M2 tx.o (by decide) l401
      rw [et] at r1
      have r2 := hrd.ok 300 t a2 rows2 M2 tx.o (by decide) l401 fi.rd
      have gr : GR a2 rows2 := ⟨fi.nm, fi.good, by have := fi.len; omega⟩
      have ne2 := hQ.ne a2 a2 rows2 rows2 M2 gr gr
      refine s_seq (s_if (w_tor (w_tcmp (w_callB (w_acons (w_var rfl (w_anil (w_defl0 (w_ok r1 (w_var rfl (o_nes h ⟨_, rfl, ?_⟩)))))))))))
      rw [decide_eq_true rfl]
      refine ⟨fun _ => w_tcmp (w_cmeth (w_acons (w_var rfl (w_anil (w_defl0 (w_ok r2 (w_cmeth (w_acons (w_var rfl (w_anil (w_defl0 (w_ok r2 (w_ok ne2 ⟨_, rfl, ?_⟩))))))))))))), fun z => (by cases z)⟩
      rw [decide_eq_true rfl]
      refine ⟨fun z => (by cases z), fun _ => s_pass ?_⟩
      refine s_for (i_rng1 (w_acons (w_c (w_anil ⟨5, rfl, rfl, ?_⟩))))
      refine s_forL (fun _ e' M' => (∃ x5 x6 x7, e' = [some (Av.fz (List.map Av.int ns)), some (Av.int (k : Int)), some (Av.ref n), some (.int (i : Int)), some (.str t), x5, x6, x7]) ∧ BxAt M' n) ⟨⟨x5, x6, x7, rfl⟩, b1⟩ (fun _ _ _ _ => rfl) (fun j y e M3 hy hJ => ?_) (fun e M3 hJ => ?_)
      · obtain ⟨⟨x5, x6, x7, rfl⟩, b3⟩ := hJ
        obtain ⟨rfl, hj2⟩ := rng_item hy
        refine ⟨_, rfl, ?_⟩
        refine s_seq (s_set (w_callB (w_acons (w_var rfl (w_acons (w_var rfl (w_anil (w_defl0 ?_))))))))
        obtain ⟨v, M4, qb, u, rfl, tu, g4⟩ := w_ex (hbn 300 9 t n M3 tx (by decide) (by decide) b3)
        refine w_ok qb ?_
        have b4 := g4.at_ b3
        have next : ∀ (w : Str) (M5 : Mem) (x7 : Option Av), Tx 2000 11 w → BxAt M5 n → wS
            (sSeq (sSet 7 (eCallB (defl wr []) (aCons (eVar 6) aNil)))
              (sSeq (sIf (tAndA (tCmpA (opCmp fun i j => decide (i < j)) (eVar 7) (eC (.int 0))) (tNotA (tVal (eCallB (defl sm []) (aCons (eVar 6) aNil))))) sCont sPass)
                (sIf (tCmpA en.ne (eCallB opReprN (aCons (eCallB (defl rl []) (aCons (eVar 6) aNil)) aNil)) (eCallB opReprN (aCons (eIf (tCmpA (opCmp fun i j => decide (i < j)) (eVar 7) (eC (.int 0))) (eVar 6) (eTup (aCons (eVar 7) (aCons (eC (.bl true)) aNil)))) aNil))) (sRet (eFrz (eC (.bl false)))) sPass))
              [some (Av.fz (List.map Av.int ns)), some (Av.int (k : Int)), some (Av.ref n), some (.int (i : Int)), some (.str t), some (.int (j : Int)), some (.str w), x7] M5)
            (fun e' M' => (∃ x5 x6 x7, e' = [some (Av.fz (List.map Av.int ns)), some (Av.int (k : Int)), some (Av.ref n), some (.int (i : Int)), some (.str t), x5, x6, x7]) ∧ BxAt M' n) (fun v _ => v = .bl true) (fun _ _ => False) (fun e' M' => (∃ x5 x6 x7, e' = [some (Av.fz (List.map Av.int ns)), some (Av.int (k : Int)), some (Av.ref n), some (.int (i : Int)), some (.str t), x5, x6, x7]) ∧ BxAt M' n) (fun _ _ _ _ => False) := by
          intro w M5 x7 tw b5
          have wl := nl_len w
          have wc := tw.c
          have w401 : (Txt.split w "\n").length ≤ 401 := by omega
          have rw1 := fun M' => hrl 2000 w M' tw.o (by decide) w401
          have ww := hwr 2000 w M5 tw.o (by decide)
          obtain ⟨sb, hs⟩ := hsm 2000 w M5 tw.o (by decide) w401
          obtain ⟨z, hz⟩ := expA_repr tw (by decide)
          have ok : ∀ (x7 : Option Av), (∃ x5 x6 x7', ([some (Av.fz (List.map Av.int ns)), some (Av.int (k : Int)), some (Av.ref n), some (.int (i : Int)), some (.str t), some (.int (j : Int)), some (.str w), x7] : Env) = [some (Av.fz (List.map Av.int ns)), some (Av.int (k : Int)), some (Av.ref n), some (.int (i : Int)), some (.str t), x5, x6, x7']) ∧ BxAt M5 n := fun x7 => ⟨⟨_, _, _, rfl⟩, b5⟩
          refine s_seq (s_set (w_callB (w_acons (w_var rfl (w_anil (w_defl0 (w_ok ww ?_)))))))
          have last : ∀ (ev : Ev) (e : Env), ev e M5 = .ok (expA w) M5 → e = [some (Av.fz (List.map Av.int ns)), some (Av.int (k : Int)), some (Av.ref n), some (.int (i : Int)), some (.str t), some (.int (j : Int)), some (.str w), some (.int (wrongI (Txt.split w "\n")))] → wS (sIf (tCmpA en.ne (eCallB opReprN (aCons (eCallB (defl rl []) (aCons (eVar 6) aNil)) aNil)) (eCallB opReprN (aCons ev aNil))) (sRet (eFrz (eC (.bl false)))) sPass e M5)
            (fun e' M' => (∃ x5 x6 x7, e' = [some (Av.fz (List.map Av.int ns)), some (Av.int (k : Int)), some (Av.ref n), some (.int (i : Int)), some (.str t), x5, x6, x7]) ∧ BxAt M' n) (fun v _ => v = .bl true) (fun _ _ => False) (fun e' M' => (∃ x5 x6 x7, e' = [some (Av.fz (List.map Av.int ns)), some (Av.int (k : Int)), some (Av.ref n), some (.int (i : Int)), some (.str t), x5, x6, x7]) ∧ BxAt M' n) (fun _ _ _ _ => False) := by
            intro ev e hev he
            subst he
            refine s_if (w_tcmp (w_callB (w_acons (w_callB (w_acons (w_var rfl (w_anil (w_defl0 (w_ok (rw1 _) (w_anil (w_ok (hz _) (w_callB (w_acons (w_ok hev (w_anil (w_ok (hz _) (o_nes h ⟨_, rfl, ?_⟩)))))))))))))))))
            rw [decide_eq_true rfl]
            exact ⟨fun z => (by cases z), fun _ => s_pass (ok _)⟩
          have wv : wrongI (Txt.split w "\n") = (match readW (Txt.split w "\n") with | .inl i => (i : Int) | .inr _ => -1) := rfl
          rcases dichW tw.o with ⟨q, hq⟩ | ⟨a5, rows5, f5⟩
          · have wq : wrongI (Txt.split w "\n") = (q : Int) := by unfold wrongI; rw [hq]
            have ex : expA w = .tup [.int (q : Int), .bl true] := by unfold expA; rw [hq]
            have d : decide (wrongI (Txt.split w "\n") < 0) = false := decide_eq_false (by omega)
            refine s_seq (s_if (w_tand (w_tcmp (w_var rfl (w_c (o_cmp ⟨_, rfl, ?_⟩))))))
            rw [d]
            refine ⟨fun z => (by cases z), fun _ => ⟨fun z => (by cases z), fun _ => s_pass ?_⟩⟩
            refine last _ _ (w_eq (w_ifE (w_tcmp (w_var rfl (w_c (o_cmp ⟨_, rfl, ?_⟩)))))) rfl
            rw [d]
            refine ⟨fun z => (by cases z), fun _ => w_tup (w_acons (w_var rfl (w_acons (w_c (w_anil ⟨rfl, ?_, rfl⟩)))))⟩
            rw [ex, wq]
          · have wq : wrongI (Txt.split w "\n") = -1 := by unfold wrongI; rw [f5.rd]
            have ex : expA w = .str w := by unfold expA; rw [f5.rd]
            have d : decide (wrongI (Txt.split w "\n") < 0) = true := decide_eq_true (by omega)
            refine s_seq (s_if (w_tand (w_tcmp (w_var rfl (w_c (o_cmp ⟨_, rfl, ?_⟩))))))
            rw [d]
            refine ⟨fun _ => w_tnot (w_tval (w_callB (w_acons (w_var rfl (w_anil (w_defl0 (w_ok hs ⟨_, rfl, ?_⟩))))))), fun z => (by cases z)⟩
            cases sb with
            | false => exact ⟨fun _ => s_cont (ok _), fun z => (by cases z)⟩
            | true =>
              refine ⟨fun z => (by cases z), fun _ => s_pass ?_⟩
              refine last _ _ (w_eq (w_ifE (w_tcmp (w_var rfl (w_c (o_cmp ⟨_, rfl, ?_⟩)))))) rfl
              rw [d]
              exact ⟨fun _ => w_var rfl ⟨ex.symm, rfl⟩, fun z => (by cases z)⟩
        refine s_seq (s_set (w_ifE (w_tcmp (w_callB (w_acons (w_var rfl (w_acons (w_c (w_anil (w_defl0 (w_ch hc b4 (by decide) (by decide) fun r M5 g5 b5 r0 r3 => w_c (o_eqi h ⟨_, rfl, fun _ => ?_, fun _ => ?_⟩))))))))))))
        · obtain ⟨v, M6, qb2, u2, rfl, tu2, g6⟩ := w_ex (hbn 640 10 u n M5 tu (by decide) (by decide) b5)
          refine w_callB (w_acons (w_var rfl (w_acons (w_var rfl (w_anil (w_defl0 (w_ok qb2 ?_)))))))
          exact wS_mono (next u2 M6 _ (tu2.le (by decide) (by decide)) (g6.at_ b5)) (fun _ _ h => h) (fun _ _ h => h) (fun _ _ h => h.elim) (fun _ _ h => h) (fun _ _ _ _ h => h.elim)
        · refine w_var rfl ?_
          exact wS_mono (next u M5 _ (tu.le (by decide) (by decide)) b5) (fun _ _ h => h) (fun _ _ h => h) (fun _ _ h => h.elim) (fun _ _ h => h) (fun _ _ _ _ h => h.elim)
      · obtain ⟨⟨x5, x6, x7, rfl⟩, b3⟩ := hJ
        exact ⟨⟨_, _, _, _, _, rfl⟩, b3⟩
    · obtain ⟨⟨x3, x4, x5, x6, x7, rfl⟩, b0⟩ := hJ
      exact ⟨rfl, rfl⟩
  · have t : ∀ (x : Str) (M : Mem), PyData.strOk x = true → x.length ≤ 100 → (Txt.split x "\n").length ≤ 401 → rl [.str x] M = .ok (expA x) M := fun x M h1 h2 h3 => hrl 100 x M ⟨h1, h2⟩ (by decide) h3
    have t1 := fun M => t "" M (by decide +kernel) (by decide +kernel) (by decide +kernel)
    have t2 := fun M => t "first a\n" M (by decide +kernel) (by decide +kernel) (by decide +kernel)
    have t3 := fun M => t "first also" M (by decide +kernel) (by decide +kernel) (by decide +kernel)
    rw [rd_1] at t1
    rw [rd_2] at t2
    rw [rd_3] at t3
    have eqt : ∀ (i : Int) (M : Mem), en.eq (.tup [.int i, .bl true]) (.tup [.int i, .bl true]) M = .ok (.bl true) M := fun i M => by
      have sd := fun M => (sdt_tup (n := 0) (.cons (sdt_int 0 i) (.cons (sdt_bl 0 true) .nil))).sd M
      exact h.eq_same rfl (sd M) (sd M) (by decide) rfl
    refine s_ret (w_frz (w_and (w_bin (w_callB (w_acons (w_c (w_anil (w_defl0 (w_ok (t1 _) (w_tup (w_acons (w_c (w_acons (w_c (w_anil ⟨rfl, w_ok (eqt 0 _) ?_⟩)))))))))))))))
    walk_at "sx"
    refine w_ok (t2 _) ?_
    walk_at "sx"
    refine w_ok (eqt 1 _) ?_
    walk_at "sx"
    refine w_ok (t3 _) ?_
    walk_at "sx"
    refine w_ok (eqt 0 _) ?_
    walk_at "sx"
end Pd
set_option maxHeartbeats 2000000
namespace LW
open PySem PySem.Spec L2 Pd
theorem ok_m_Row_str (k : Nat) : RowStrOk (pg.sem (k + 1) 7) := by
  have e := sem_m_Row_str (k + 0)
  refine (congrArg RowStrOk e).mpr ?_
  exact row_str_ok 
theorem ok_m_Rule_str (k : Nat) : RuleStrOk (pg.sem (k + 2) 13) := by
  have e := sem_m_Rule_str (k + 1)
  refine (congrArg RuleStrOk e).mpr ?_
  exact rule_str_ok (en_strRow (id := 7) rfl (ok_m_Row_str (k + 0)))
theorem ok_m_Rule_eq (k : Nat) : RuleEqOk (pg.sem (k + 3) 29) := by
  have e := sem_m_Rule_eq (k + 2)
  refine (congrArg RuleEqOk e).mpr ?_
  exact rule_eq_ok (en_ok _ _) (en_strRule (id := 13) rfl (ok_m_Rule_str (k + 0)))
theorem ok_m_Row_eq (k : Nat) : RowEqOk (pg.sem (k + 1) 8) := by
  have e := sem_m_Row_eq (k + 0)
  refine (congrArg RowEqOk e).mpr ?_
  exact row_eq_ok 
theorem ok_f_is_sequence (k : Nat) : SeqOk (pg.sem (k + 1) 11) := by
  have e := sem_f_is_sequence (k + 0)
  refine (congrArg SeqOk e).mpr ?_
  exact is_sequence_ok 
theorem ok_f_is_name (k : Nat) : NameOk (pg.sem (k + 1) 3) := by
  have e := sem_f_is_name (k + 0)
  refine (congrArg NameOk e).mpr ?_
  exact is_name_ok (en_ok _ _)
theorem ok_m_Rule_init (k : Nat) : RuleOk (pg.sem (k + 2) 12) := by
  have e := sem_m_Rule_init (k + 1)
  refine (congrArg RuleOk e).mpr ?_
  exact rule_init_ok (en_ok _ _) (ok_f_is_sequence (k + 0)) (ok_f_is_name (k + 0))
theorem ok_f_is_name_B (k : Nat) : NameB (pg.sem (k + 1) 3) := by
  have e := sem_f_is_name (k + 0)
  refine (congrArg NameB e).mpr ?_
  exact is_name_b (en_ok _ _)
theorem ok_f_is_word_B (k : Nat) : WordB (pg.sem (k + 1) 5) := by
  have e := sem_f_is_word (k + 0)
  refine (congrArg WordB e).mpr ?_
  exact is_word_b (en_ok _ _)
theorem ok_m_Row_init (k : Nat) : RowB (pg.sem (k + 2) 6) := by
  have e := sem_m_Row_init (k + 1)
  refine (congrArg RowB e).mpr ?_
  exact row_init_b (en_ok _ _) (ok_f_is_name_B (k + 0)) (ok_f_is_word_B (k + 0))
theorem ok_f_row_of (k : Nat) : RowOfX (pg.sem (k + 3) 9) := by
  have e := sem_f_row_of (k + 2)
  refine (congrArg RowOfX e).mpr ?_
  exact row_of_x (en_ok _ _) ⟨rfl, rfl, rfl, rfl, rfl⟩ (ok_m_Row_init (k + 0))
theorem ok_f_first_of (k : Nat) : FirstX (pg.sem (k + 2) 4) := by
  have e := sem_f_first_of (k + 1)
  refine (congrArg FirstX e).mpr ?_
  exact first_of_x (en_ok _ _) (ok_f_is_name_B (k + 0))
theorem ok_m_Rule_read (k : Nat) : ReadX (pg.sem (k + 4) 10) := by
  have e := sem_m_Rule_read (k + 3)
  refine (congrArg ReadX e).mpr ?_
  exact read_x (en_ok _ _) (en_no (id := 8) rfl (ok_m_Row_eq (k + 2))) (ok_m_Rule_init (k + 1)) (ok_f_row_of (k + 0)) (ok_f_first_of (k + 1))
theorem ok_f_law_read (k : Nat) : ReadLT (pg.sem (k + 5) 30) := by
  have e := sem_f_law_read (k + 4)
  refine (congrArg ReadLT e).mpr ?_
  exact law_read_t ⟨rfl, rfl, rfl, rfl, rfl⟩ (en_strRule (id := 13) rfl (ok_m_Rule_str (k + 2))) (ok_m_Rule_read (k + 0))
theorem ok_f_law_is_small (k : Nat) : SmallT (pg.sem (k + 1) 41) := by
  have e := sem_f_law_is_small (k + 0)
  refine (congrArg SmallT e).mpr ?_
  exact law_is_small_t (en_ok _ _)
theorem ok_f_law_is_name (k : Nat) : NameT (pg.sem (k + 1) 38) := by
  have e := sem_f_law_is_name (k + 0)
  refine (congrArg NameT e).mpr ?_
  exact law_is_name_2b (en_ok _ _)
theorem ok_f_law_is_row (k : Nat) : RowT (pg.sem (k + 2) 39) := by
  have e := sem_f_law_is_row (k + 1)
  refine (congrArg RowT e).mpr ?_
  exact law_is_row_t (en_ok _ _) (ok_f_law_is_name (k + 0))
theorem ok_f_law_wrong (k : Nat) : WrongT (pg.sem (k + 3) 40) := by
  have e := sem_f_law_wrong (k + 2)
  refine (congrArg WrongT e).mpr ?_
  exact law_wrong_t (en_ok _ _) (ok_f_law_is_row (k + 0)) (ok_f_law_is_name (k + 1))
theorem ok_f_law_choose (k : Nat) : ChooseOk (pg.sem (k + 1) 31) := by
  have e := sem_f_law_choose (k + 0)
  refine (congrArg ChooseOk e).mpr ?_
  exact choose_ok (en_ok _ _)
theorem ok_f_law_one_of (k : Nat) : OneOfOk (pg.sem (k + 2) 32) := by
  have e := sem_f_law_one_of (k + 1)
  refine (congrArg OneOfOk e).mpr ?_
  exact one_of_ok (en_ok _ _) (ok_f_law_choose (k + 0))
theorem ok_f_law_bent (k : Nat) : BentT (pg.sem (k + 3) 37) := by
  have e := sem_f_law_bent (k + 2)
  refine (congrArg BentT e).mpr ?_
  exact law_bent_t (en_ok _ _) (ok_f_law_choose (k + 1)) (ok_f_law_one_of (k + 0))
theorem ok_f_law_row_text (k : Nat) : RowTextOk (pg.sem (k + 1) 1) := by
  have e := sem_f_law_row_text (k + 0)
  refine (congrArg RowTextOk e).mpr ?_
  exact row_text_ok (en_ok _ _)
theorem ok_f_law_rule_text (k : Nat) : RuleTextOk (pg.sem (k + 2) 2) := by
  have e := sem_f_law_rule_text (k + 1)
  refine (congrArg RuleTextOk e).mpr ?_
  exact rule_text_ok (en_ok _ _) (ok_f_law_row_text (k + 0))
theorem ok_f_law_any_row (k : Nat) : AnyRowOk (pg.sem (k + 3) 35) := by
  have e := sem_f_law_any_row (k + 2)
  refine (congrArg AnyRowOk e).mpr ?_
  exact any_row_ok (en_ok _ _) (ok_f_law_choose (k + 1)) (ok_f_law_one_of (k + 0))
theorem ok_f_law_fair_rows (k : Nat) : FairOk (pg.sem (k + 3) 33) := by
  have e := sem_f_law_fair_rows (k + 2)
  refine (congrArg FairOk e).mpr ?_
  exact fair_ok (en_ok _ _) (ok_f_law_choose (k + 1)) (ok_f_law_one_of (k + 0))
theorem ok_f_law_names (k : Nat) : NamesOk (pg.sem (k + 3) 34) := by
  have e := sem_f_law_names (k + 2)
  refine (congrArg NamesOk e).mpr ?_
  exact names_ok (en_ok _ _) (ok_f_law_one_of (k + 0))
theorem ok_f_law_rule (k : Nat) : RuleGenOk (pg.sem (k + 4) 36) := by
  have e := sem_f_law_rule (k + 3)
  refine (congrArg RuleGenOk e).mpr ?_
  exact rule_ok (en_ok _ _) (ok_f_law_choose (k + 2)) (ok_f_law_any_row (k + 0)) (ok_f_law_fair_rows (k + 0)) (ok_f_law_names (k + 0))
theorem ok_f_law_seed (k : Nat) : SeedOk (pg.sem (k + 1) 0) := by
  have e := sem_f_law_seed (k + 0)
  refine (congrArg SeedOk e).mpr ?_
  exact seed_ok (en_ok _ _)
theorem law_ok : LawOkR pg 5 f_law := by
  intro ns hl
  have k := 0
  have e := sem_f_law 5
  rw [show runF f_law.ps.length f_law.N.length (pg.bodyR f_law (pg.sem 5)) = _ from e]
  exact k06_ok (en_ok _ _) (en_eqRule (id := 29) rfl (ok_m_Rule_eq (2))) (ok_f_law_read (0)) (ok_f_law_is_small (4)) (ok_f_law_wrong (2)) (ok_f_law_choose (4)) (ok_f_law_bent (2)) (ok_m_Rule_read (1)) (ok_f_law_rule_text (3)) (ok_f_law_rule (1)) (ok_f_law_seed (4)) ns hl
end LW
open PySem PySem.W PySem.Calls PyProof.Rows
theorem PySem.Challenge.cw_lineturns_k06_texts_of_rules_holds : PySem.Challenge.rw_lineturns_k06_texts_of_rules.Holds := by
  w_on; o_law
  refine HandSHeadRun.head_any (r := OpenLaw.row PySem.Challenge.rw_lineturns_k06_texts_of_rules) (q := view (OpenLaw.row PySem.Challenge.rw_lineturns_k06_texts_of_rules).prog [52]) (H := LW.hk) (ob := LW.ob) (M := 8000) (loose := LW.loose) (d := HandSHeadRun.topDef (OpenLaw.row PySem.Challenge.rw_lineturns_k06_texts_of_rules).prog 52) (kwd := []) LW.ob_eq
    (by kernel_rfl) (fun s => by kernel_rfl) LW.run (by kernel_rfl) (by kernel_rfl) (by kernel_rfl) (by rfl) (by first | assumption | decide +kernel) (by decide +kernel) ⟨rfl, rfl, rfl, rfl, rfl, by decide +kernel⟩ ?hw ?hc
  case hw => w_witness2
  case hc =>
    refine Pd.walk_ofG (l := PySem.Challenge.rw_lineturns_k06_texts_of_rules) (n := 63) rfl (by decide) (by kernel_rfl) ?F
    intro w mg fa h Y G hmg0
    obtain ⟨K, KX, c⟩ := Y
    have hmg : mg ("law" : PySem.Str) = some (.ref fa) := by
      have e : (HandSHeadRun.topDef (OpenLaw.row PySem.Challenge.rw_lineturns_k06_texts_of_rules).prog 52).name = ("law" : PySem.Str) := by kernel_rfl
      rw [← e]
      exact hmg0
    exact ⟨K, KX, fun s1 a ns hl base H h1 h2 e0 hS => Pd.law_atG (p := LW.pg) (P := (PySem.Challenge.rw_lineturns_k06_texts_of_rules).prog) (w := w) (k := 5) (id := 42) (d := LW.f_law) (x := "_law_script") ⟨by kernel_rfl, by kernel_rfl⟩ c LW.fit LW.scs LW.binds KX G rfl rfl rfl rfl hmg (by kernel_rfl) ⟨rfl, by decide, by decide⟩ LW.law_ok hl base H h1 h2 e0 hS⟩
