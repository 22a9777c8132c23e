import PyProof.Rows.All
import Wide.All
import OpenK.AllK
import Wide.FinOn
import HandS.ForMost
import HandS.Wide
import HandS.Evl
import HandS.Exc
import HandS.TryMany
import HandS.ExcInit
import HandS.ExcField
import HandS.ExcIs
import HandS.IsInst
import HandS.Style
import HandS.TupAny
import HandS.TupLe
import HandS.Flow
import HandS.Defaults
import KE.DataEq
import KE.LtData
import HandS.Property
import HandS.ClsMeth
import KE.KExcIs
import HandS.ExcOwn
import HandS.WordsExc
import KE.SortKeyHeap
import HandS.SortKw
import HandS.Walk
import HandS.TupLen
import HandS.WordsDict
import HandS.GenList
import HandS.Star
import HandS.TryOnly
import HandS.DictComp
import HandS.Codes
import HandS.SlotsOwn
import HandS.MakeKwOnly
import KE.KStateDown
import HandS.Base
import HandS.Call
import HandS.Ends
import HandS.More
import HandS.Words
import HandS.Head0
import HandS.Head1
import HandS.Head2
import HandS.HeadEnd
import HandS.HeadHook1
import HandS.HeadHook2
import HandS.ExcCtx
import HandS.ListEq
import HandS.DeepEq
import PySem.Challenge.RW_bundlekinds_k02_errors
set_option Elab.async false
set_option linter.all false
set_option maxRecDepth 100000
set_option maxHeartbeats 4000000
namespace B
open PySem L2
open PySem.Spec PyProof.Rows
open PySem.W (Frag nsIn findIn)
def top (i : Nat) : Stmt := PySem.Challenge.pw_bundlekinds_k02_errors.main.body.getD i (.Pass ⟨0, 0, 0, 0⟩)
abbrev s_BadName___init__ : Stmt := inClass (top 2) 0
abbrev s_DuplicateName___init__ : Stmt := inClass (top 3) 0
abbrev s_UnknownName___init__ : Stmt := inClass (top 4) 0
abbrev s_BadCount___init__ : Stmt := inClass (top 5) 0
abbrev s_BadBundle___init__ : Stmt := inClass (top 6) 0
abbrev s_BadWorth___init__ : Stmt := inClass (top 7) 0
abbrev s_NotRising___init__ : Stmt := inClass (top 8) 0
abbrev s_BadText___init__ : Stmt := inClass (top 9) 0
abbrev s_BadPrice___init__ : Stmt := inClass (top 10) 0
abbrev s_BadUnit___init__ : Stmt := inClass (top 11) 0
abbrev s_BadFactor___init__ : Stmt := inClass (top 12) 0
abbrev s_UnlikeGoods___init__ : Stmt := inClass (top 13) 0
abbrev s_NotWanted___init__ : Stmt := inClass (top 14) 0
abbrev s_NotHigher___init__ : Stmt := inClass (top 15) 0
abbrev s_NotNested___init__ : Stmt := inClass (top 16) 0
abbrev s_BadSteps___init__ : Stmt := inClass (top 17) 0
abbrev s_BadSharing___init__ : Stmt := inClass (top 18) 0
abbrev s_IsSubstitutes___init__ : Stmt := inClass (top 19) 0
abbrev s_BadBound___init__ : Stmt := inClass (top 20) 0
abbrev s_NothingToUndo___init__ : Stmt := inClass (top 21) 0
abbrev s_l_start : Stmt := top 23
abbrev s_l_draw : Stmt := top 24
abbrev s_l_signs : Stmt := top 25
abbrev s_l_kinds : Stmt := top 26
abbrev s_l_thing : Stmt := top 27
abbrev s_l_all : Stmt := top 28
abbrev s_l_named : Stmt := top 29
abbrev s_l_keeps : Stmt := top 30
abbrev s_law : Stmt := top 31
def oexB (K : PySem.W.Frag) (C : Addr) : Bool := match K.lookup C with
  | some ⟨.type "type", _, .cls cd, sl⟩ => (match cd.mro, sl.toList with
    | .ref C' :: bm, [_, _, _, _, some (.builtin n), _] => C' == C && n == "ValueError.__new__" && !cd.hasDel && cd.hasDict && PySem.HandSPX.refsVE bm
    | _, _ => false)
  | _ => false
def ecB (K : PySem.W.Frag) (C : Addr) : Bool :=
  oexB K C && (decide (PySem.W.findIn K (.ref C) "__setattr__" = some (some (.builtin "object.__setattr__"))) && (decide (PySem.W.subIn K (.ref C) (.type "BaseException") = some true) && (decide (PySem.W.typeIn K (.ref C) = some (.type "type")) && (PySem.W.keepIn K (.ref C) &&
  (xfB K C && ((PySem.W.clsIn K C).isSome && (decide (PySem.W.findIn K (.ref C) "__class__" = some (some (.builtin "object.__class__"))) && (decide (PySem.W.specialIn K (.builtin "object.__class__") "__get__" = some (some (.builtin "getset_descriptor.__get__"))) && (decide (PySem.W.takesIn K (.builtin "object.__class__") = some true) && decide (PySem.W.mroIn K C (.type "object") = some true))))))))))
def erB (K : PySem.W.Frag) (ec : Nat → Addr) (S : List Nat) : Bool := S.all (fun i => ecB K (ec i)) && S.all fun i => S.all fun j => decide (PySem.W.exmOne K (.ref (ec i)) (.ref (ec j)) = some (decide (i = j)))
def cnI (k : Nat) : Nat := if k = 17 then 19 else if k = 18 then 18 else k + 1
def kinB (K : PySem.W.Frag) (ec : Nat → Addr) (B : Addr) : Bool := (List.range 20).all fun i => decide (PySem.W.kitOne K (.ref (ec (cnI i))) (.ref B) = some true) && (decide (PySem.W.kitOne K (.ref (ec (cnI i))) (.type "ValueError") = some true) && (List.range 20).all fun j => decide (PySem.W.kitOne K (.ref (ec (cnI i))) (.ref (ec (cnI j))) = some (decide (j = i))))
def ptA (K : Frag) (p : Addr) : Addr := match PySem.W.recIn K p "property" with
  | some (.ref g :: _) => g
  | _ => 0
def ppA (K : Frag) (x m : Str) : Addr := ptA K (He.ma K (He.ga K x) m)
structure DfR where
  ad : Frag → Addr
  name : Str
  qual : Str
  st : Stmt
def fnV (K : Frag) (a : Addr) : He.FnV := match K.lookup a with
  | some ⟨_, _, .func fd, _⟩ => some (fd.name, fd.qualname, fd.params, fd.body, fd.scope, fd.globals, fd.closure, fd.defaults, fd.builtins)
  | _ => none
def DfR.val (d : DfR) : He.FnV := some (d.name, d.qual, defArgs d.st, .stmts (defBody d.st), defScope d.st, mainGlobals, [], .none, builtinsNs)
def DfR.ok (K : Frag) (d : DfR) : Bool := PySem.W.keepIn K (.ref (d.ad K)) && (match K.lookup (d.ad K) with
  | some ⟨_, _, .func fd, _⟩ => PySem.W.codeIn K fd.code d.qual
  | _ => false)
def mcA (K : Frag) : Value := match PySem.W.typeIn K (.ref (He.ga K "BundleError")) with
  | some v => v
  | none => .none
def mtA (K : Frag) (x : Str) : Value := match PySem.W.typeIn K (.ref (He.ga K x)) with
  | some v => v
  | none => .none
def cmA (K : Frag) (x m : Str) : Addr := match PySem.W.recIn K (He.ma K (He.ga K x) m) "classmethod" with
  | some (.ref g :: _) => g
  | _ => 0
def cmB (K : Frag) (x m : Str) : Bool := match PySem.W.findCls K (.ref (He.ga K x)) (mtA K x) m with
  | some (.get (.builtin s) (.ref p) .none (.ref C)) => decide (s = "classmethod.__get__") && (decide (p = He.ma K (He.ga K x) m) && decide (C = He.ga K x))
  | _ => false
inductive Fk where
  | glo (x : Str)
  | free (x : Str)
  | int (x : Str) (i : Int)
  | str (x z : Str)
  | bce
  | exi (x : Str)
  | noat (x f : Str)
  | cls (x : Str)
  | ini (x : Str)
  | meth (x m : Str)
  | cal (x m : Str)
  | prop (x m : Str)
  | ers (f : Frag → Nat → Addr) (S : List Nat)
  | nst (x : Str)
  | own (x m : Str)
  | kwd (x m k : Str) (i : Int)
  | isi (x : Str)
  | cmt (x m : Str)
  | nec (x : Str)
  | isn (x : Str)
  | ise (x : Str)
  | nsq (x : Str)
  | any (f : Frag → Bool)
def kwA (K : Frag) (f : Addr) : Value := match K.lookup f with
  | some ⟨_, _, .func fd, _⟩ => fd.kwdefaults
  | _ => .none
def kwOk (K : Frag) (f : Addr) (k : Str) (i : Int) : Bool := match kwA K f with
  | .ref D => match nsIn K D k with
    | some (some (.int j _)) => decide (j = i)
    | _ => false
  | _ => false
def inB (K : Frag) (m : Addr) : Bool := match PySem.W.findCls K (.ref m) (mcA K) "__init__" with
  | some (.val (.builtin s)) => decide (s = "ValueError.__init__")
  | _ => false
def Fk.ok (K : Frag) : Fk → Bool
  | .glo x => He.eqO (nsIn K mainGlobals x) (some (some (.ref (He.ga K x))))
  | .free x => He.eqO (nsIn K mainGlobals x) (some none)
  | .int x i => (He.Fa.int x i).ok K
  | .str x z => (He.Fa.str x z).ok K
  | .bce => He.eqO (nsIn K mainGlobals "BundleError") (some (some (.ref (He.ga K "BundleError")))) && (decide (PySem.W.typeIn K (.ref (He.ga K "BundleError")) = some (mcA K)) && (PySem.W.readsIn K (He.ga K "BundleError") (mcA K) && (He.eqO (PySem.W.specialIn K (.ref (He.ga K "BundleError")) "__getattribute__") (some (some (.builtin "type.__getattribute__"))) && inB K (He.ga K "BundleError"))))
  | .exi x => He.eqO (findIn K (.ref (He.ga K x)) "__init__") (some (some (.ref (He.ma K (He.ga K x) "__init__")))) && decide (PySem.W.typeIn K (.ref (He.ma K (He.ga K x) "__init__")) = some (.type "function"))
  | .noat x f => He.eqO (findIn K (.ref (He.ga K x)) f) (some none)
  | .cls x => (He.Fa.cls x).ok K && (PySem.W.makesIn K (He.ga K x) && PySem.W.keepIn K (.ref (He.ga K x)))
  | .ini x => He.eqO (findIn K (.ref (He.ga K x)) "__init__") (some (some (.ref (He.ma K (He.ga K x) "__init__")))) && PySem.W.isFn K (.ref (He.ma K (He.ga K x) "__init__"))
  | .meth x m => (He.Fa.meth x m).ok K
  | .cal x m => He.eqO (findIn K (.ref (He.ga K x)) m) (some (some (.ref (He.ma K (He.ga K x) m)))) && (decide (PySem.W.typeIn K (.ref (He.ma K (He.ga K x) m)) = some (.type "function")) && PySem.W.fnIn K (He.ma K (He.ga K x) m))
  | .prop x m => He.eqO (findIn K (.ref (He.ga K x)) m) (some (some (.ref (He.ma K (He.ga K x) m)))) && (He.eqO (PySem.W.specialIn K (.ref (He.ma K (He.ga K x) m)) "__get__") (some (some (.builtin "property.__get__"))) && (decide (PySem.W.takesIn K (.ref (He.ma K (He.ga K x) m)) = some true) && (match PySem.W.recIn K (He.ma K (He.ga K x) m) "property" with
    | some (.ref _ :: _) => true
    | _ => false)))
  | .ers f S => erB K (f K) S
  | .nst x => decide (PySem.W.subIn K (.ref (He.ga K x)) (.type "StopIteration") = some false)
  | .own x m => He.eqO (findIn K (.ref (He.ga K x)) m) (some (some (.ref (He.ma K (He.ga K x) m)))) && PySem.W.isFn K (.ref (He.ma K (He.ga K x) m))
  | .kwd x m k i => kwOk K (He.ma K (He.ga K x) m) k i
  | .isi x => He.eqO (findIn K (.ref (He.ga K x)) "__class__") (some (some (.builtin "object.__class__"))) && (He.eqO (PySem.W.specialIn K (.builtin "object.__class__") "__get__") (some (some (.builtin "getset_descriptor.__get__"))) && (decide (PySem.W.takesIn K (.builtin "object.__class__") = some true) && (decide (PySem.W.mroIn K (He.ga K x) (.type "object") = some true) && decide (PySem.W.kitOne K (.ref (He.ga K x)) (.ref (He.ga K x)) = some true))))
  | .cmt x m => PySem.W.readsIn K (He.ga K x) (mtA K x) && (He.eqO (PySem.W.specialIn K (.ref (He.ga K x)) "__getattribute__") (some (some (.builtin "type.__getattribute__"))) && (cmB K x m && ((match PySem.W.recIn K (He.ma K (He.ga K x) m) "classmethod" with
    | some (.ref _ :: _) => true
    | _ => false) && PySem.W.fnIn K (cmA K x m))))
  | .nec x => decide (PySem.W.mroIn K (He.ga K x) (.type "object") = some true) && (He.eqO (findIn K (.ref (He.ga K x)) "__ne__") (some (some (.builtin "object.__ne__"))) && ((["NoneType", "int", "str", "list", "tuple", "dict"] : List String).all fun T => decide (PySem.W.subIn K (.ref (He.ga K x)) (.type T) = some false)))
  | .nsq x => PySem.W.noSeq K (He.ga K x)
  | .any f => f K
  | .isn x => (["NoneType", "int", "str", "list", "tuple", "dict"] : List String).all fun T => decide (PySem.W.kitOne K (.type T) (.ref (He.ga K x)) = some false)
  | .ise x => He.eqO (findIn K (.ref (He.ga K x)) "__getattribute__") (some (some (.builtin "BaseException.__getattribute__"))) && (He.eqO (findIn K (.ref (He.ga K x)) "__getattr__") (some none) && (decide (PySem.W.subIn K (.ref (He.ga K x)) (.type "BaseException") = some true) && (PySem.W.hasDictIn K (He.ga K x) && (He.eqO (findIn K (.ref (He.ga K x)) "__class__") (some (some (.builtin "object.__class__"))) && (He.eqO (PySem.W.specialIn K (.builtin "object.__class__") "__get__") (some (some (.builtin "getset_descriptor.__get__"))) && (decide (PySem.W.takesIn K (.builtin "object.__class__") = some true) && (decide (PySem.W.mroIn K (He.ga K x) (.type "object") = some true) && decide (PySem.W.kitOne K (.ref (He.ga K x)) (.ref (He.ga K "BundleError")) = some true))))))))
abbrev AlH : Type := Bool × List He.FnV
def obsK (fk : List Fk) (fn : List DfR) (K : Frag) : AlH := ((fk.all fun f => f.ok K) && fn.all fun d => d.ok K, fn.map fun d => fnV K (d.ad K))
def valK (fn : List DfR) : AlH := (true, fn.map DfR.val)
def SaysK (fk : List Fk) (fn : List DfR) (K : Frag) : Prop := obsK fk fn K = valK fn
def kidsO (o : Obj) : List Addr := match o.data with
  | .dict es _ => es.toList.flatMap fun e => He.refV e.val
  | .func fd => He.refV fd.code ++ He.refV fd.kwdefaults
  | .cls cd => [cd.ns]
  | .fields vs => vs.toList.flatMap He.refV
  | _ => []
def kidsG (g : Addr → Option Obj) (as : List Addr) : List Addr := as.flatMap fun a => match g a with
  | some o => kidsO o
  | none => []
def lvls (g : Addr → Option Obj) : Nat → List Addr → List Addr
  | 0, _ => []
  | k + 1, as => kidsG g as ++ lvls g k (kidsG g as)
def smallF (g : Addr → Option Obj) : Frag := He.frG g (mainGlobals :: cStatics :: lvls g 5 [mainGlobals])
def obsSG (fk : List Fk) (fn : List DfR) (g : Addr → Option Obj) : AlH := obsK fk fn (smallF g)
def hookS (fk : List Fk) (fn : List DfR) : PySem.W.Hook where
  α := AlH
  obs := fun s => obsSG fk fn s.heap.get?
  val := fun _ => valK fn
  says := fun _ h => ∃ K : Frag, K.In h ∧ SaysK fk fn K
  of := fun _ _ e => ⟨_, He.frG_in, e⟩
  keeps := fun _ _ _ ⟨K, hK, c⟩ k => ⟨K, PySem.W.Frag.In.keeps hK k, c⟩
theorem obsSG_eq {fk : List Fk} {fn : List DfR} (s : PySem.W.SharedT) : obsSG fk fn (HandSHeadRun.getT s) = (hookS fk fn).obs s.abs := by
  have e : HandSHeadRun.getT s = s.abs.heap.get? := funext (HandSHeadRun.getT_eq s)
  show _ = obsSG fk fn s.abs.heap.get?
  rw [e]
end B
namespace B.Hd
open PySem L2 B
def fk : List Fk := ([.glo "_law_start", .glo "_law_draw", .glo "_law_signs", .glo "_law_thing", .glo "_law_all", .glo "_law_named", .glo "_law_kinds", .glo "_law_keeps", .glo "law", .bce, .glo "BadName", .noat "BadName" "name", .exi "BadName", .glo "DuplicateName", .noat "DuplicateName" "name", .exi "DuplicateName", .glo "UnknownName", .noat "UnknownName" "name", .exi "UnknownName", .glo "BadCount", .noat "BadCount" "count", .exi "BadCount", .glo "BadBundle", .noat "BadBundle" "value", .exi "BadBundle"] : List Fk) ++ ([.glo "BadWorth", .noat "BadWorth" "worth", .exi "BadWorth", .glo "NotRising", .noat "NotRising" "value", .noat "NotRising" "name", .exi "NotRising", .glo "BadText", .noat "BadText" "text", .exi "BadText", .glo "BadPrice", .noat "BadPrice" "price", .exi "BadPrice", .glo "BadUnit", .noat "BadUnit" "value", .exi "BadUnit", .glo "BadFactor", .noat "BadFactor" "value", .exi "BadFactor", .glo "UnlikeGoods", .noat "UnlikeGoods" "names", .exi "UnlikeGoods", .glo "NotWanted", .noat "NotWanted" "value", .exi "NotWanted"] : List Fk) ++ ([.glo "NotHigher", .noat "NotHigher" "name", .exi "NotHigher", .glo "NotNested", .noat "NotNested" "value", .exi "NotNested", .glo "BadSteps", .noat "BadSteps" "steps", .exi "BadSteps", .glo "BadSharing", .noat "BadSharing" "sharing", .exi "BadSharing", .glo "IsSubstitutes", .exi "IsSubstitutes", .glo "BadBound", .noat "BadBound" "bound", .exi "BadBound", .glo "NothingToUndo", .exi "NothingToUndo", .free "ValueError", .any (fun K => kinB K (fun i => if i = 1 then He.ga K "BadName" else if i = 2 then He.ga K "DuplicateName" else if i = 3 then He.ga K "UnknownName" else if i = 4 then He.ga K "BadCount" else if i = 5 then He.ga K "BadBundle" else if i = 6 then He.ga K "BadWorth" else if i = 7 then He.ga K "NotRising" else if i = 8 then He.ga K "BadText" else if i = 9 then He.ga K "BadPrice" else if i = 10 then He.ga K "BadUnit" else if i = 11 then He.ga K "BadFactor" else if i = 12 then He.ga K "UnlikeGoods" else if i = 13 then He.ga K "NotWanted" else if i = 14 then He.ga K "NotHigher" else if i = 15 then He.ga K "NotNested" else if i = 16 then He.ga K "BadSteps" else if i = 17 then He.ga K "BadSharing" else if i = 18 then He.ga K "IsSubstitutes" else if i = 19 then He.ga K "BadBound" else if i = 20 then He.ga K "NothingToUndo" else 0) (He.ga K "BundleError")), .ers (fun K => fun i => if i = 1 then He.ga K "BadName" else if i = 2 then He.ga K "DuplicateName" else if i = 3 then He.ga K "UnknownName" else if i = 4 then He.ga K "BadCount" else if i = 5 then He.ga K "BadBundle" else if i = 6 then He.ga K "BadWorth" else if i = 7 then He.ga K "NotRising" else if i = 8 then He.ga K "BadText" else if i = 9 then He.ga K "BadPrice" else if i = 10 then He.ga K "BadUnit" else if i = 11 then He.ga K "BadFactor" else if i = 12 then He.ga K "UnlikeGoods" else if i = 13 then He.ga K "NotWanted" else if i = 14 then He.ga K "NotHigher" else if i = 15 then He.ga K "NotNested" else if i = 16 then He.ga K "BadSteps" else if i = 17 then He.ga K "BadSharing" else if i = 18 then He.ga K "IsSubstitutes" else if i = 19 then He.ga K "BadBound" else if i = 20 then He.ga K "NothingToUndo" else 0) [1, 2, 3, 4, 5, 6, 7, 8, 9, 10, 11, 12, 13, 14, 15, 16, 17, 18, 19, 20], .free "len", .free "abs", .free "int"] : List Fk) ++ ([.free "str", .free "bool", .free "list", .free "tuple", .free "dict", .free "range", .free "enumerate", .free "zip", .free "sorted", .free "sum", .free "max", .free "min", .free "all", .free "isinstance"] : List Fk)
def fn : List DfR := ([⟨fun K => He.ga K "_law_start", "_law_start", "_law_start", s_l_start⟩, ⟨fun K => He.ga K "_law_draw", "_law_draw", "_law_draw", s_l_draw⟩, ⟨fun K => He.ga K "_law_signs", "_law_signs", "_law_signs", s_l_signs⟩, ⟨fun K => He.ga K "_law_thing", "_law_thing", "_law_thing", s_l_thing⟩, ⟨fun K => He.ga K "_law_all", "_law_all", "_law_all", s_l_all⟩, ⟨fun K => He.ga K "_law_named", "_law_named", "_law_named", s_l_named⟩, ⟨fun K => He.ga K "_law_kinds", "_law_kinds", "_law_kinds", s_l_kinds⟩, ⟨fun K => He.ga K "_law_keeps", "_law_keeps", "_law_keeps", s_l_keeps⟩, ⟨fun K => He.ga K "law", "law", "law", s_law⟩, ⟨fun K => He.ma K (He.ga K "BadName") "__init__", "__init__", "BadName.__init__", s_BadName___init__⟩, ⟨fun K => He.ma K (He.ga K "DuplicateName") "__init__", "__init__", "DuplicateName.__init__", s_DuplicateName___init__⟩, ⟨fun K => He.ma K (He.ga K "UnknownName") "__init__", "__init__", "UnknownName.__init__", s_UnknownName___init__⟩, ⟨fun K => He.ma K (He.ga K "BadCount") "__init__", "__init__", "BadCount.__init__", s_BadCount___init__⟩, ⟨fun K => He.ma K (He.ga K "BadBundle") "__init__", "__init__", "BadBundle.__init__", s_BadBundle___init__⟩, ⟨fun K => He.ma K (He.ga K "BadWorth") "__init__", "__init__", "BadWorth.__init__", s_BadWorth___init__⟩, ⟨fun K => He.ma K (He.ga K "NotRising") "__init__", "__init__", "NotRising.__init__", s_NotRising___init__⟩, ⟨fun K => He.ma K (He.ga K "BadText") "__init__", "__init__", "BadText.__init__", s_BadText___init__⟩, ⟨fun K => He.ma K (He.ga K "BadPrice") "__init__", "__init__", "BadPrice.__init__", s_BadPrice___init__⟩, ⟨fun K => He.ma K (He.ga K "BadUnit") "__init__", "__init__", "BadUnit.__init__", s_BadUnit___init__⟩, ⟨fun K => He.ma K (He.ga K "BadFactor") "__init__", "__init__", "BadFactor.__init__", s_BadFactor___init__⟩, ⟨fun K => He.ma K (He.ga K "UnlikeGoods") "__init__", "__init__", "UnlikeGoods.__init__", s_UnlikeGoods___init__⟩, ⟨fun K => He.ma K (He.ga K "NotWanted") "__init__", "__init__", "NotWanted.__init__", s_NotWanted___init__⟩, ⟨fun K => He.ma K (He.ga K "NotHigher") "__init__", "__init__", "NotHigher.__init__", s_NotHigher___init__⟩, ⟨fun K => He.ma K (He.ga K "NotNested") "__init__", "__init__", "NotNested.__init__", s_NotNested___init__⟩, ⟨fun K => He.ma K (He.ga K "BadSteps") "__init__", "__init__", "BadSteps.__init__", s_BadSteps___init__⟩] : List DfR) ++ ([⟨fun K => He.ma K (He.ga K "BadSharing") "__init__", "__init__", "BadSharing.__init__", s_BadSharing___init__⟩, ⟨fun K => He.ma K (He.ga K "IsSubstitutes") "__init__", "__init__", "IsSubstitutes.__init__", s_IsSubstitutes___init__⟩, ⟨fun K => He.ma K (He.ga K "BadBound") "__init__", "__init__", "BadBound.__init__", s_BadBound___init__⟩, ⟨fun K => He.ma K (He.ga K "NothingToUndo") "__init__", "__init__", "NothingToUndo.__init__", s_NothingToUndo___init__⟩] : List DfR)
def loose : List PySem.Str := (["__name__", "BundleError", "BadName", "DuplicateName", "UnknownName", "BadCount", "BadBundle", "BadWorth", "NotRising", "BadText", "BadPrice", "BadUnit", "BadFactor", "UnlikeGoods", "NotWanted", "NotHigher", "NotNested", "BadSteps", "BadSharing", "IsSubstitutes", "BadBound", "NothingToUndo", "_law_start", "_law_draw", "_law_signs", "_law_kinds", "_law_thing", "_law_all", "_law_named", "_law_keeps"] : List PySem.Str)
end B.Hd
namespace B.Hd
open PySem PySem.Spec PyProof.Rows L2 B
abbrev R : PySem.W.OpenRow := PySem.W.OpenLaw.row PySem.Challenge.rw_bundlekinds_k02_errors
abbrev hk : PySem.W.Hook := hookS fk fn
def ob (s : PySem.W.SharedT) : AlH := obsSG fk fn (HandSHeadRun.getT s)
theorem ob_eq (s : PySem.W.SharedT) : ob s = hk.obs s.abs := obsSG_eq s
set_option maxHeartbeats 0 in
theorem run (w : World) : HandSHeadRun.RunEq R (PySem.W.view R.prog [31]) hk ob 20000 loose w := by
  intro os
  kernel_rfl
end B.Hd
namespace B
open PySem L2
open PySem.Spec PyProof.Rows
/-! B0: readings that are the run itself (WE, WT, WA, WS, WB), so that a body is read from the left, statement by statement -/
section
variable {X : Cx} {e : Expr} {es : List Expr} {s : Stmt} {ss : List Stmt} {σ : L2.St} {H : Hp} {D D' : Ends}
def WE (X : Cx) (e : Expr) : TE := fun σ H Q => ∀ (pins : List (Addr × Obj)) (s : Shared), Inv X pins σ H s → wpAny (model X.prog X.w) X.A (eval e X.env) (EP X pins σ Q) X.xe s
def WT (X : Cx) (e : Expr) : TT := fun σ H Q => ∀ (pins : List (Addr × Obj)) (s : Shared), Inv X pins σ H s → wpAny (model X.prog X.w) X.A (isTrue e X.env (eval e X.env)) (TP X pins σ Q) X.xe s
def WA (X : Cx) (es : List Expr) : TA := fun σ H Q => ∀ (pos : Pos) (pins : List (Addr × Obj)) (s : Shared), Inv X pins σ H s → wpAny (model X.prog X.w) X.A (spliced (backTo pos (starEach es X.env))) (AP X pins σ Q) X.xe s
def WS (X : Cx) (st : Stmt) : TS := fun D σ H => ∀ (pins : List (Addr × Obj)) (s : Shared), Inv X pins σ H s → wpAny (model X.prog X.w) X.A (exec st X.env) (SP X pins D) X.xe s
def WB (X : Cx) (ss : List Stmt) : TS := fun D σ H => ∀ (pins : List (Addr × Obj)) (s : Shared), Inv X pins σ H s → wpAny (model X.prog X.w) X.A (execs ss X.env) (SP X pins D) X.xe s
theorem ws : PS X s (WS X s) := ⟨fun pins s _ _ _ I h => h pins s I⟩
theorem wb : PSs X ss (WB X ss) := ⟨fun pins s _ _ _ I h => h pins s I⟩
theorem WE.of {t : TE} {Q : VK} (p : PE X e t) (h : t σ H Q) : WE X e σ H Q := fun pins s I => p.run pins s σ H Q I h
theorem WT.of {t : TT} {Q : Bool → Hp → Prop} (p : PT X e t) (h : t σ H Q) : WT X e σ H Q := fun pins s I => p.run pins s σ H Q I h
theorem WA.of {t : TA} {Q : List V → Hp → Prop} (p : PA X es t) (h : t σ H Q) : WA X es σ H Q := fun pos pins s I => p.run pos pins s σ H Q I h
theorem WS.of {t : TS} (p : PS X s t) (h : t D σ H) : WS X s D σ H := fun pins s' I => p.run pins s' σ H D I h
theorem WB.of {t : TS} (p : PSs X ss t) (h : t D σ H) : WB X ss D σ H := fun pins s' I => p.run pins s' σ H D I h
theorem WE.mono {Q Q' : VK} (h : WE X e σ H Q) (k : ∀ v H', Q v H' → Q' v H') : WE X e σ H Q' := fun pins s I =>
  thn (h pins s I) fun _ _ ⟨v, H', I', r, q⟩ => ⟨v, H', I', r, k v H' q⟩
theorem WT.mono {Q Q' : Bool → Hp → Prop} (h : WT X e σ H Q) (k : ∀ v H', Q v H' → Q' v H') : WT X e σ H Q' := fun pins s I =>
  thn (h pins s I) fun b _ ⟨H', I', q⟩ => ⟨H', I', k b H' q⟩
theorem WB.mono (h : WB X ss D σ H) (hn : ∀ σ' H', D.nx σ' H' → D'.nx σ' H') (hr : ∀ v H', D.rt v H' → D'.rt v H') (hb : ∀ σ' H', D.bk σ' H' → D'.bk σ' H') (hc : ∀ σ' H', D.ct σ' H' → D'.ct σ' H') : WB X ss D' σ H := fun pins s I =>
  thn (h pins s I) fun f s' q => by
    cases f with
    | next => obtain ⟨σ', H', I', q⟩ := q; exact ⟨σ', H', I', hn _ _ q⟩
    | brk => obtain ⟨σ', H', I', q⟩ := q; exact ⟨σ', H', I', hb _ _ q⟩
    | cont => obtain ⟨σ', H', I', q⟩ := q; exact ⟨σ', H', I', hc _ _ q⟩
    | ret v => obtain ⟨v, σ', H', I', r, q⟩ := q; exact ⟨v, σ', H', I', r, hr _ _ q⟩
/-- the next statement -/
theorem nxt {t : TS} (p : PS X s t) (h : t { D with nx := WB X ss D } σ H) : WB X (s :: ss) D σ H := WB.of (pss_cons p wb) h
theorem last {t : TS} (p : PS X s t) (h : t D σ H) : WB X [s] D σ H := WB.of (pss_one p) h
theorem fin (h : D.nx σ H) : WB X [] D σ H := WB.of pss_nil h
/-- the next statement, what is behind it by a letter -/
theorem nxtN {t : TS} (p : PS X s t) (h : ∀ N : L2.St → Hp → Prop, (∀ σ' H', WB X ss D σ' H' → N σ' H') → t { D with nx := N } σ H) : WB X (s :: ss) D σ H := nxt p (h _ fun _ _ q => q)
/-! ### o[i] of a list, for o[i] += e -/
def rGetL (K : PySem.W.Frag) : V → V → Hp → VK → Prop := fun o i H Q => ∃ (p : Addr) (xs : List V) (j : Nat) (v : V), o = .ref p ∧ i = .int (j : Int) ∧ SqL K H p xs ∧ xs[j]? = some v ∧ Q v H
theorem get_list : PGet X (rGetL X.K) := by
  intro pins s σ H o i ov iv Q I ro ri h
  obtain ⟨p, xs, j, v, rfl, rfl, hq, he, q⟩ := h
  cases ro
  obtain ⟨t, rfl⟩ := ri
  obtain ⟨its, r, pl, hz⟩ := I.list hq
  obtain ⟨w, ew, rw'⟩ := r.get he
  have hl := r.length
  have hn := line63
  have hj : j < xs.length := (List.getElem?_eq_some_iff.mp he).1
  exact wpAny_getItem_list pl.isList (by omega) (by omega) (by simpa using ew) ⟨v, H, I, rw', q⟩
/-! ### a text from behind -/
def revS (z : Str) : Str := ⟨z.cps.toList.reverse.toArray⟩
def tRevS (te : TE) : TE := fun σ H Q => te σ H fun x H1 => ∃ z : Str, x = .str z ∧ z.length ≤ sizeLine ∧ Q (.str (revS z)) H1
end
/-! ### a def of the text, with its promise -/
structure Df (P : Program) (w : World) (K : PySem.W.Frag) (mg : Str → Option Value) (base : Heap) (CX : CXT) (k : Nat) (x : Str) (ps : List Str) (sp : Sp) : Prop where
  ex : ∃ (f : Addr) (fd : FuncData), mg x = some (.ref f) ∧ PySem.W.keepIn K (.ref f) = true ∧ Binds K fd ps [] ∧ FnOk P w K mg base CX k f fd ps sp
section
variable {X : Cx} {CX : CXT} {k : Nat} {x : Str} {ps : List Str} {sp : Sp} {E : XK} {e : Expr} {es : List Expr} {t tk : TA} {p pos : Pos} {kws : List Keyword}
theorem pcx (F : Df X.prog X.w X.K X.mg X.base CX k x ps sp) (hr : Room k X.A) (hx : Passes CX X E) (ha : PA X (e :: es) t) (hg : Gl X x := by rfl) (hdb : (x == ("__debug__" : Str)) = false := by decide) (he : starEach (e :: es) X.env = (false, eval e X.env) :: starEach es X.env := by rfl) (hpl : (backTo pos (starEach es X.env)).any (·.1) = false := by rfl) :
    PE X (.Call (.Name x p) (e :: es) [] pos) (tCall sp [] E t) := by
  obtain ⟨f, fd, h1, h2, h3, h4⟩ := F.ex
  exact pe_call h4 hr hg h1 h2 h3 .nil hx ha hdb he hpl
theorem pc (F : Df X.prog X.w X.K X.mg X.base CX0 k x ps sp) (hr : Room k X.A) (ha : PA X (e :: es) t) (hg : Gl X x := by rfl) (hdb : (x == ("__debug__" : Str)) = false := by decide) (he : starEach (e :: es) X.env = (false, eval e X.env) :: starEach es X.env := by rfl) (hpl : (backTo pos (starEach es X.env)).any (·.1) = false := by rfl) :
    PE X (.Call (.Name x p) (e :: es) [] pos) (tCall sp [] E0 t) := pcx F hr pass0 ha hg hdb he hpl
theorem pc0 (F : Df X.prog X.w X.K X.mg X.base CX0 k x ps sp) (hr : Room k X.A) (hg : Gl X x := by rfl) (hdb : (x == ("__debug__" : Str)) = false := by decide) : PE X (.Call (.Name x p) [] [] pos) (tCall sp [] E0 tNil) := by
  obtain ⟨f, fd, h1, h2, h3, h4⟩ := F.ex
  exact pe_call0 h4 hr hg h1 h2 h3 .nil pass0 hdb
end
/-- a def with how keywords bind to it: n values by place, then the keywords ks -/
structure DfK (P : Program) (w : World) (K : PySem.W.Frag) (mg : Str → Option Value) (base : Heap) (CX : CXT) (k : Nat) (x : Str) (ps : List Str) (n : Nat) (ks : List Str) (g : List Value → List Value → List Value) (gV : List V → List V → List V) (sp : Sp) : Prop where
  ex : ∃ (f : Addr) (fd : FuncData), mg x = some (.ref f) ∧ PySem.W.keepIn K (.ref f) = true ∧ KBn K fd ps n ks g gV ∧ FnOk P w K mg base CX k f fd ps sp
section
variable {X : Cx} {CX : CXT} {k n : Nat} {x : Str} {ps ks : List Str} {sp : Sp} {E : XK} {e : Expr} {es : List Expr} {t tk : TA} {p pos : Pos} {kws : List Keyword} {g : List Value → List Value → List Value} {gV : List V → List V → List V}
end
/-! ### built-ins that the text leaves alone -/
structure Bt (mg : Str → Option Value) : Prop where
  len : mg "len" = none
  abs : mg "abs" = none
  int : mg "int" = none
  str : mg "str" = none
  bool : mg "bool" = none
  list : mg "list" = none
  tuple : mg "tuple" = none
  dict : mg "dict" = none
  range : mg "range" = none
  enumerate : mg "enumerate" = none
  zip : mg "zip" = none
  sorted : mg "sorted" = none
  sum : mg "sum" = none
  max : mg "max" = none
  min : mg "min" = none
  all : mg "all" = none
  isinstance : mg "isinstance" = none
end B
namespace B
open PySem L2
/-! B1: heaps that grow; the drawing state of a law -/
section
variable {H H' H2 : Hp} {p a b : Addr} {o u : HO} {K : PySem.W.Frag} {xs : List V}
theorem sm_new (h : H p = none) : Same H (upd H p o) := fun a u e => by
  rw [upd_ne (ne_of_none e h)]
  exact e
@[elab_as_elim] theorem upd_gen {motive : Hp → Prop} (np : H p = none) (h : ∀ H1, Same H H1 → H1 p = some o → motive H1) : motive (upd H p o) := h _ (sm_new np) upd_same
theorem sm_t (e : Same H H') (h : SqT K H a xs) : SqT K H' a xs := by
  rcases h with (h | ⟨o, h⟩) | h
  · exact .inl (.inl (e _ _ h))
  · exact .inl (.inr ⟨o, e _ _ h⟩)
  · exact .inr h
theorem sm_l (e : Same H H') (h : SqL K H a xs) : SqL K H' a xs := e.seq h
theorem sqL (h : H a = some (.lst xs)) : SqL K H a xs := Or.inl (Or.inl h)
/-- the objects of the drawing state at p: the state itself and its lists -/
def Own (H : Hp) (p b : Addr) : Prop := b = p ∨ ∃ x y n, H p = some (.lst [x, y, n]) ∧ (x = .ref b ∨ y = .ref b)
structure Kp (p : Addr) (H H' : Hp) : Prop where
  keep : ∀ b o, H b = some o → ¬ Own H p b → H' b = some o
  own : ∀ b, Own H' p b → Own H p b ∨ H b = none
  has : ∀ b o, H b = some o → ∃ o', H' b = some o'
theorem Kp.refl (p : Addr) (H : Hp) : Kp p H H := ⟨fun _ _ h _ => h, fun _ h => .inl h, fun _ o h => ⟨o, h⟩⟩
theorem Kp.free (x : Kp p H H') (h : H' b = none) : H b = none := by
  cases q : H b with
  | none => rfl
  | some o =>
    obtain ⟨o', e⟩ := x.has b o q
    rw [h] at e; cases e
theorem Kp.trans (x : Kp p H H') (y : Kp p H' H2) : Kp p H H2 := by
  refine ⟨fun b o h n => y.keep b o (x.keep b o h n) fun z => ?_, fun b z => ?_, fun b o h => ?_⟩
  · rcases x.own b z with w | w
    · exact n w
    · rw [h] at w; cases w
  · rcases y.own b z with w | w
    · exact x.own b w
    · cases q : H b with
      | none => exact .inr rfl
      | some u =>
        by_cases c : Own H p b
        · exact .inl c
        · rw [x.keep b u q c] at w; cases w
  · obtain ⟨o1, h1⟩ := x.has b o h
    exact y.has b o1 h1
/-- an object that is none of the state's -/
def At (p : Addr) (H : Hp) (b : Addr) (o : HO) : Prop := H b = some o ∧ ¬ Own H p b
theorem At.kp (h : At p H b o) (k : Kp p H H') : At p H' b o := by
  refine ⟨k.keep b o h.1 h.2, fun z => ?_⟩
  rcases k.own b z with w | w
  · exact h.2 w
  · rw [h.1] at w; cases w
theorem own_same (e : H' p = H p) : Own H' p b ↔ Own H p b := by
  unfold Own
  rw [e]
/-- what grows keeps all -/
theorem Kp.same (e : Same H H') (hp : H p = some o) : Kp p H H' :=
  ⟨fun b o h _ => e b o h, fun b z => .inl ((own_same ((e _ _ hp).trans hp.symm)).mp z), fun b o h => ⟨o, e b o h⟩⟩
/-- an object that H does not know, and that isn't the state, may change -/
theorem Kp.mut (k : Kp p H H') (h : H b = none) (n : b ≠ p) : Kp p H (upd H' b o) := by
  refine ⟨fun a u q z => ?_, fun a z => ?_, fun a u q => ?_⟩
  · rw [upd_ne (ne_of_none q h)]; exact k.keep a u q z
  · exact k.own a ((own_same (upd_ne (Ne.symm n))).mp z)
  · rw [upd_ne (ne_of_none q h)]; exact k.has a u q
/-- .. stays apart from the state -/
theorem own_mut (n : b ≠ p) : Own (upd H b o) p a ↔ Own H p a := own_same (upd_ne (Ne.symm n))
end
end B
namespace B
open PySem L2
open PySem.Spec PyProof.Rows
/-! B2: data (PyData) that values stand for; ==, !=, in over them -/
mutual
theorem dp_plain {K : PySem.W.Frag} {H : Hp} : ∀ (d : PyData) (v : V), Dp K H v d → d.plain = true
  | .none, _, h => rfl
  | .bool _, _, h => rfl
  | .int _, _, h => rfl
  | .str _, _, h => rfl
  | .list ds, v, h => by
    cases h with
    | lst h1 h2 => exact dp_plainAll ds _ h2
  | .tuple ds, v, h => by
    cases h with
    | tup h1 h2 => exact dp_plainAll ds _ h2
  | .dict _, _, h => by cases h
theorem dp_plainAll {K : PySem.W.Frag} {H : Hp} : ∀ (ds : List PyData) (vs : List V), DpAll K H vs ds → PyData.plainAll ds = true
  | [], _, h => rfl
  | d :: ds, vs, h => by
    cases h with
    | cons h1 h2 => simp only [PyData.plainAll, dp_plain d _ h1, dp_plainAll ds _ h2, Bool.and_self]
end
mutual
theorem dp_same {K : PySem.W.Frag} {H H' : Hp} (e : Same H H') : ∀ (d : PyData) (v : V), Dp K H v d → Dp K H' v d
  | .none, _, h => by cases h; exact .non
  | .bool _, _, h => by cases h; exact .bl _
  | .int _, _, h => by cases h; exact .int _
  | .str _, _, h => by cases h; exact .str _
  | .list ds, v, h => by
    cases h with
    | lst h1 h2 => exact .lst (sm_l e h1) (dp_sameAll e ds _ h2)
  | .tuple ds, v, h => by
    cases h with
    | tup h1 h2 => exact .tup (sm_t e h1) (dp_sameAll e ds _ h2)
  | .dict _, _, h => by cases h
theorem dp_sameAll {K : PySem.W.Frag} {H H' : Hp} (e : Same H H') : ∀ (ds : List PyData) (vs : List V), DpAll K H vs ds → DpAll K H' vs ds
  | [], _, h => by cases h; exact .nil
  | d :: ds, vs, h => by
    cases h with
    | cons h1 h2 => exact .cons (dp_same e d _ h1) (dp_sameAll e ds _ h2)
end
/-- what is no list stays -/
def NLk (H H' : Hp) : Prop := ∀ b u, H b = some u → (∀ xs, u ≠ .lst xs) → H' b = some u
theorem NLk.refl (H : Hp) : NLk H H := fun _ _ h _ => h
theorem NLk.trans {H H1 H2 : Hp} (x : NLk H H1) (y : NLk H1 H2) : NLk H H2 := fun b u h n => y b u (x b u h n) n
theorem NLk.same {H H' : Hp} (e : Same H H') : NLk H H' := fun b u h _ => e b u h
theorem NLk.upd {H H' : Hp} {a : Addr} {xs : List V} {o : HO} (x : NLk H H') (h : H' a = some (.lst xs)) : NLk H (upd H' a o) := fun b u hb n => by
  have h1 := x b u hb n
  rw [upd_ne (fun e => by rw [e, h] at h1; cases h1; exact n xs rfl)]
  exact h1
theorem ts_t {K : PySem.W.Frag} {H H' : Hp} {a : Addr} {xs : List V} (e : NLk H H') (h : SqT K H a xs) : SqT K H' a xs := by
  rcases h with (h | ⟨o, h⟩) | h
  · exact .inl (.inl (e _ _ h fun _ z => nomatch z))
  · exact .inl (.inr ⟨o, e _ _ h fun _ z => nomatch z⟩)
  · exact .inr h
mutual
/-- no list lies within -/
def noL : PyData → Bool
  | .list _ => false
  | .tuple xs => noLs xs
  | .dict _ => false
  | _ => true
def noLs : List PyData → Bool
  | [] => true
  | x :: xs => noL x && noLs xs
end
mutual
theorem dp_ts {K : PySem.W.Frag} {H H' : Hp} (e : NLk H H') : ∀ (d : PyData) (v : V), noL d = true → Dp K H v d → Dp K H' v d
  | .none, _, _, h => by cases h; exact .non
  | .bool _, _, _, h => by cases h; exact .bl _
  | .int _, _, _, h => by cases h; exact .int _
  | .str _, _, _, h => by cases h; exact .str _
  | .list ds, v, n, h => by cases n
  | .tuple ds, v, n, h => by
    cases h with
    | tup h1 h2 => exact .tup (ts_t e h1) (dp_tsAll e ds _ n h2)
  | .dict _, _, _, h => by cases h
theorem dp_tsAll {K : PySem.W.Frag} {H H' : Hp} (e : NLk H H') : ∀ (ds : List PyData) (vs : List V), noLs ds = true → DpAll K H vs ds → DpAll K H' vs ds
  | [], _, _, h => by cases h; exact .nil
  | d :: ds, vs, n, h => by
    have n' : noL d = true ∧ noLs ds = true := by simpa [noLs] using n
    cases h with
    | cons h1 h2 => exact .cons (dp_ts e d _ n'.1 h1) (dp_tsAll e ds _ n'.2 h2)
end
theorem eqv_self {K : PySem.W.Frag} {H : Hp} {v : V} {d : PyData} (h : Dp K H v d) : PyData.eqv d d = true := SeqAt.eqv_refl_plain d (dp_plain _ _ h)
section
variable {X : Cx} {K : PySem.W.Frag} {H H' : Hp}
theorem Dp.same {v : V} {d : PyData} (h : Dp K H v d) (e : Same H H') : Dp K H' v d := dp_same e d v h
theorem dp_ints : ∀ ns : List Int, DpAll K H (ns.map V.int) (ns.map PyData.int)
  | [] => .nil
  | n :: ns => .cons (.int n) (dp_ints ns)
theorem dpL {a : Addr} {xs : List V} {ds : List PyData} (h : H a = some (.lst xs)) (k : DpAll K H xs ds) : Dp K H (.ref a) (.list ds) := .lst (sqL h) k
def rEqP (K : PySem.W.Frag) : R2 := fun x y H Q => ∃ d e, Dp K H x d ∧ Dp K H y e ∧ (d.depth ≤ 60 ∨ e.depth ≤ 60) ∧ Q (.bl (PyData.eqv d e)) H
def rNeP (K : PySem.W.Frag) : R2 := fun x y H Q => ∃ d e, Dp K H x d ∧ Dp K H y e ∧ (d.depth ≤ 60 ∨ e.depth ≤ 60) ∧ Q (.bl (!PyData.eqv d e)) H
theorem op_neP (hu : X.A.units + 64 < cLine) : OpR X (compareOp .NotEq) (rNeP X.K) := by
  intro pins s σ H x y v u Q I rx ry h
  obtain ⟨d, e, hd, he, hz, q⟩ := h
  obtain ⟨as, r1⟩ := Dp.reads I d x v hd rx
  obtain ⟨bs, r2⟩ := Dp.reads I e y u he ry
  exact SeqAt.ne_plain r1 r2 (dp_plain _ _ hd) (dp_plain _ _ he) (by omega) ⟨.bl _, H, I, rfl, q⟩
/-- x in a list, a tuple of data -/
def rInP (K : PySem.W.Frag) (neg : Bool) : R2 := fun x y H Q => ∃ d ds, Dp K H x d ∧ (Dp K H y (.list ds) ∨ Dp K H y (.tuple ds)) ∧ (d.depth ≤ 60 ∨ PyData.depthAll ds ≤ 60) ∧ Q (.bl (if neg then !(ds.any fun z => PyData.eqv z d) else ds.any fun z => PyData.eqv z d)) H
/-! ### what == says of lists of texts, of ints -/
theorem eqv_nil (xs : List PyData) : PyData.eqvAll xs [] = xs.isEmpty := by cases xs <;> rfl
end
end B
namespace B
open PySem L2
def spLaw (K : PySem.W.Frag) : Sp := fun vs H Q _ => ∃ (a : Addr) (ns : List Int), vs = [.ref a] ∧ SqL K H a (ns.map V.int) ∧ ns.length ≤ 63 ∧ ∀ H', Q (.bl true) H'
/-- what the top has left of a def -/
structure Dt (K : PySem.W.Frag) (x : Str) (st : Stmt) (f : Addr) : Prop where
  a : PySem.W.nsIn K mainGlobals x = some (some (.ref f))
  l : ∃ (oc : Value) (od : Option Addr) (kV doc pm : Value) (an : Option Addr) (cdv ct : Value) (osl : Array (Option Value)), K.lookup f = some ⟨oc, od, .func (PySem.W.fnOf x x (defArgs st) (defBody st) (defScope st) .none kV doc pm an cdv ct), osl⟩ ∧ PySem.W.codeIn K cdv x = true
  k : PySem.W.keepIn K (.ref f) = true
theorem Dt.fun {K : PySem.W.Frag} {x : Str} {st : Stmt} {f : Addr} (d : Dt K x st f) : ∃ fd, Fun K x x st f fd ∧ ∃ (kV doc pm : Value) (an : Option Addr) (cdv ct : Value), fd = PySem.W.fnOf x x (defArgs st) (defBody st) (defScope st) .none kV doc pm an cdv ct := by
  obtain ⟨oc, od, kV, doc, pm, an, cdv, ct, osl, l, c⟩ := d.l
  exact ⟨_, fun_mk l c d.k, kV, doc, pm, an, cdv, ct, rfl⟩
section
variable {P : Program} {w : World} {K : PySem.W.Frag} {mg : Str → Option Value} {base : Heap} {CX : CXT} {k : Nat} {x : Str} {st : Stmt} {f : Addr} {ps : List Str} {sp : Sp}
/-- a def with its promise -/
theorem df_mk (d : Dt K x st f) (hm : mg x = some (.ref f)) (G : ∀ fd, Fun K x x st f fd → FnOk P w K mg base CX k f fd ps sp)
    (hb : ∀ (kV doc pm : Value) (an : Option Addr) (cdv ct : Value) (us : List Value), us.length = ps.length → bindArgs (PySem.W.fnOf x x (defArgs st) (defBody st) (defScope st) .none kV doc pm an cdv ct) ⟨us, []⟩ = pure (ps.zip us)) : Df P w K mg base CX k x ps sp := by
  obtain ⟨fd, F, kV, doc, pm, an, cdv, ct, e⟩ := d.fun
  exact ⟨f, fd, hm, d.k, F.binds hb, G fd F⟩
end
/-- the last end: a law whose promise is spLaw -/
theorem walk {l : PySem.W.OpenLaw} {k : Nat} {q : Program} {loose : List Str} {XP : (Str → Option Value) → Heap → Prop} {YP : World → Heap → Prop} {d : DefRec} {K : Params → PySem.W.Frag} (hr : Room k callerA) (hn : l.most = some 63) (hdf : d.params.defaults = [])
    (hY : ∀ (w : World) (h : Heap), YP w h → (K w.params).In h)
    (F : ∀ (w : World) (mg : Str → Option Value) (fa : Addr) (h : Heap), (K w.params).In h → h.Ns mainGlobals mg → mg d.name = some (.ref fa) →
      ∃ fd : FuncData, (∀ (s : Shared) (u : Value), BindsTo s fd ⟨[u], []⟩ [("_law_script", u)]) ∧ ∀ base : Heap, (K w.params).In base → base.Ns mainGlobals mg → FnOk l.prog w (K w.params) mg base CX0 k fa fd ["_law_script"] (spLaw (K w.params))) :
    PySem.W.WalkO q loose XP YP l.row.toRowW d [] (fun f vs => PySem.call f vs) :=
  L2.walk_of (n := 63) (k := k) (x := "_law_script") (CX := fun _ => CX0) (sp := fun w => spLaw (K w.params)) hn (by decide) hdf hr hY F (fun _ _ a ns hl _ hS => ⟨a, ns, rfl, hS, hl, fun _ => rfl⟩) fun _ _ _ _ _ z => z
/-- the built-ins -/
def blts : List Str := ["len", "abs", "int", "str", "bool", "list", "tuple", "dict", "range", "enumerate", "zip", "sorted", "sum", "max", "min", "all", "isinstance"]
/-- what the top has left of an error class with one field -/
structure Dm (K : PySem.W.Frag) (mg : Str → Option Value) (x qual : Str) (C : Addr) (f : Str) (st : Stmt) (fI : Addr) : Prop where
  g : mg x = some (.ref C)
  no : PySem.W.findIn K (.ref C) f = some none
  i : PySem.W.findIn K (.ref C) "__init__" = some (some (.ref fI))
  t : PySem.W.typeIn K (.ref fI) = some (.type "function")
  l : ∃ (oc : Value) (od : Option Addr) (kV doc pm : Value) (an : Option Addr) (cdv ct : Value) (osl : Array (Option Value)), K.lookup fI = some ⟨oc, od, .func (PySem.W.fnOf "__init__" qual (defArgs st) (defBody st) (defScope st) .none kV doc pm an cdv ct), osl⟩ ∧ PySem.W.codeIn K cdv qual = true
  k : PySem.W.keepIn K (.ref fI) = true
theorem Dm.fun {K : PySem.W.Frag} {mg : Str → Option Value} {x qual f : Str} {C fI : Addr} {st : Stmt} (d : Dm K mg x qual C f st fI) : ∃ fd, Fun K "__init__" qual st fI fd := by
  obtain ⟨oc, od, kV, doc, pm, an, cdv, ct, osl, l, c⟩ := d.l
  exact ⟨_, fun_mk l c d.k⟩
end B
namespace B
open PySem L2
/-! SA: the drawing state of the first kind of laws: [great cells, script + [5], count] -/
theorem Kp.set {p c c' l : Addr} {H H' : Hp} {n0 n1 : V} (hp : H p = some (.lst [.ref c, .ref l, n0])) (hp' : H' p = some (.lst [.ref c', .ref l, n1])) (hc : c' = c ∨ H c' = none) (hk : ∀ b o, H b = some o → b ≠ p → b ≠ c → b ≠ l → H' b = some o) (hcc : ∃ o, H' c = some o) (hll : ∃ o, H' l = some o) : Kp p H H' := by
  refine ⟨fun b o h n => hk b o h (fun z => n (.inl z)) (fun z => n (.inr ⟨_, _, _, hp, .inl (by rw [z])⟩)) (fun z => n (.inr ⟨_, _, _, hp, .inr (by rw [z])⟩)), fun b z => ?_, fun b o h => ?_⟩
  rcases z with z | ⟨d, l2, n2, h, z⟩
  · exact .inl (.inl z)
  · rw [hp'] at h
    cases h
    rcases z with z | z
    · cases z
      rcases hc with q | q
      · exact .inl (.inr ⟨_, _, _, hp, .inl (by rw [q])⟩)
      · exact .inr q
    · cases z
      exact .inl (.inr ⟨_, _, _, hp, .inr rfl⟩)
  · by_cases h1 : b = p
    · rw [h1]; exact ⟨_, hp'⟩
    · by_cases h2 : b = c
      · rw [h2]; exact hcc
      · by_cases h3 : b = l
        · rw [h3]; exact hll
        · exact ⟨o, hk b o h h1 h2 h3⟩
/-- the drawing state at p; m draws are left -/
structure StA (H : Hp) (p : Addr) (m : Nat) : Prop where
  ex : ∃ (c l : Addr) (cs sc : List Int) (n : Int), H p = some (.lst [.ref c, .ref l, .int n]) ∧ H c = some (.lst (cs.map V.int)) ∧ H l = some (.lst (sc.map V.int)) ∧ c ≠ l ∧ cs.length ≤ 64 ∧ 0 < sc.length ∧ sc.length ≤ 64 ∧ 0 ≤ n ∧ n + m ≤ 2 ^ 30
def spDraw : Sp := fun vs H Q _ => ∃ (p : Addr) (m : Nat) (z : Int), vs = [.ref p, .int z] ∧ StA H p (m + 1) ∧ 0 < z ∧ z < 2 ^ 40 ∧ ∀ (r : Int) (H' : Hp), 0 ≤ r → r < z → StA H' p m → Kp p H H' → Q (.int r) H'
structure Dz (p l : Addr) (sc : List Int) (n : Int) (H H' : Hp) (c : Addr) (cs : List Int) : Prop where
  hp : H' p = some (.lst [.ref c, .ref l, .int n])
  hc : H' c = some (.lst (cs.map V.int))
  hl : H' l = some (.lst (sc.map V.int))
  ncl : c ≠ l
  npc : c ≠ p
  npl : l ≠ p
  ln : cs.length ≤ 64
  kp : Kp p H H'
theorem ne_st {H : Hp} {p c : Addr} {a : Addr} {l n : V} {cs : List Int} (hp : H p = some (.lst [.ref a, l, n])) (hc : H c = some (.lst (cs.map V.int))) : c ≠ p := by
  intro e; subst e; rw [hp] at hc
  cases cs <;> cases hc
theorem Dz.same {p l : Addr} {sc cs : List Int} {n : Int} {H H1 H2 : Hp} {c : Addr} (d : Dz p l sc n H H1 c cs) (e : Same H1 H2) : Dz p l sc n H H2 c cs :=
  ⟨e _ _ d.hp, e _ _ d.hc, e _ _ d.hl, d.ncl, d.npc, d.npl, d.ln, d.kp.trans (Kp.same e d.hp)⟩
theorem Dz.st {p l : Addr} {sc cs : List Int} {n : Int} {H H1 : Hp} {c : Addr} {m : Nat} (d : Dz p l sc n H H1 c cs) (l0 : 0 < sc.length) (l1 : sc.length ≤ 64) (n0 : 0 ≤ n) (n1 : n + m ≤ 2 ^ 30) : StA H1 p m :=
  ⟨⟨c, l, cs, sc, n, d.hp, d.hc, d.hl, d.ncl, d.ln, l0, l1, n0, n1⟩⟩
section
variable {H H' : Hp} {p D : Addr} {m m' : Nat} {o : HO}
theorem StA.le (S : StA H p m) (h : m' ≤ m) : StA H p m' := by
  obtain ⟨c, l, cs, sc, n, h1, h2, h3, h4, h5, h6, h7, h8, h9⟩ := S.ex
  exact ⟨c, l, cs, sc, n, h1, h2, h3, h4, h5, h6, h7, h8, by omega⟩
theorem StA.same (S : StA H p m) (e : Same H H') : StA H' p m := by
  obtain ⟨c, l, cs, sc, n, h1, h2, h3, h4⟩ := S.ex
  exact ⟨c, l, cs, sc, n, e _ _ h1, e _ _ h2, e _ _ h3, h4⟩
theorem StA.kp (S : StA H p m) (e : Same H H') : Kp p H H' := by
  obtain ⟨c, l, cs, sc, n, h1, _⟩ := S.ex
  exact Kp.same e h1
theorem StA.fresh (S : StA H p m) (h : H D = none) : ¬ Own H p D := by
  obtain ⟨c, l, cs, sc, n, h1, h2, h3, _⟩ := S.ex
  rintro (z | ⟨x, y, k, z, q⟩)
  · rw [z, h1] at h; cases h
  · rw [h1] at z
    cases z
    rcases q with q | q
    · cases q; rw [h2] at h; cases h
    · cases q; rw [h3] at h; cases h
theorem StA.upd (S : StA H p m) (h : ¬ Own H p D) : StA (upd H D o) p m := by
  obtain ⟨c, l, cs, sc, n, h1, h2, h3, h4⟩ := S.ex
  have a1 : p ≠ D := fun z => h (.inl z.symm)
  have a2 : c ≠ D := fun z => h (.inr ⟨_, _, _, h1, .inl (by rw [z])⟩)
  have a3 : l ≠ D := fun z => h (.inr ⟨_, _, _, h1, .inr (by rw [z])⟩)
  exact ⟨c, l, cs, sc, n, by rw [upd_ne a1]; exact h1, by rw [upd_ne a2]; exact h2, by rw [upd_ne a3]; exact h3, h4⟩
/-- a new object -/
theorem StA.new (S : StA H p m) (h : H D = none) (e : Same H H') (h' : H' D = some o) : At p H' D o := by
  refine ⟨h', fun z => S.fresh h ?_⟩
  obtain ⟨c, l, cs, sc, n, h1, _⟩ := S.ex
  exact (own_same ((e _ _ h1).trans h1.symm)).mp z
theorem StA.at (S : StA H p m) {xs : List V} (h : H D = some (.tup xs)) : At p H D (.tup xs) := by
  obtain ⟨c, l, cs, sc, n, h1, h2, h3, _⟩ := S.ex
  refine ⟨h, ?_⟩
  rintro (z | ⟨x, y, k, z, q⟩)
  · rw [z, h1] at h; cases h
  · rw [h1] at z
    cases z
    rcases q with q | q
    · cases q; rw [h2] at h; cases h
    · cases q; rw [h3] at h; cases h
end
theorem at0 {x : V} {xs : List V} : atI (x :: xs) 0 = some x := atI_nat (j := 0) rfl
theorem ixN_nat {n j : Nat} (h : j < n) : ixN n (j : Int) = some j := by
  unfold ixN
  rw [if_pos (by omega), if_pos (by omega)]
  simp
theorem cut1 (cs : List Int) : cutV (cs.map V.int) (some 1) none = cs.tail.map V.int := by
  unfold cutV HT.sIx
  cases cs with
  | nil => rfl
  | cons a r =>
    simp
    exact List.take_of_length_le (by simp)
end B
namespace B
open PySem L2
/-! names; loops over texts -/
abbrev LET : Str := "abcdefghijklmnopqrstuvwxyz"
abbrev DIG : Str := "0123456789"
/-- a sign of a name -/
def alnum (c : Nat) : Bool := decide (c ∈ LET.cps.toList) || decide (c ∈ DIG.cps.toList)
/-- a name -/
def vn (w : Str) : Bool := decide (1 ≤ w.length ∧ w.length ≤ 6) && ((w.cps[0]?).any fun c => decide (c ∈ LET.cps.toList)) && w.cps.toList.all alnum
theorem str_len (w : Str) : w.length = w.cps.toList.length := by simp [Str.length]
theorem sz5 {n : Nat} (h : n ≤ 100000) : n ≤ sizeLine := Nat.le_trans h (by decide)
theorem at_str {z : Str} {r : Int} (h0 : 0 ≤ r) (h1 : r < z.length) : ∃ c, atI z.cps.toList r = some c ∧ c ∈ z.cps.toList := by
  obtain ⟨j, rfl⟩ : ∃ j : Nat, r = (j : Int) := ⟨r.toNat, (Int.toNat_of_nonneg h0).symm⟩
  have hj : j < z.cps.toList.length := by have := str_len z; omega
  exact ⟨z.cps.toList[j], atI_nat (List.getElem?_eq_getElem hj), List.getElem_mem hj⟩
theorem at_lst {α : Type} {xs : List α} {r : Int} (h0 : 0 ≤ r) (h1 : r < xs.length) : ∃ c, atI xs r = some c ∧ c ∈ xs := by
  obtain ⟨j, rfl⟩ : ∃ j : Nat, r = (j : Int) := ⟨r.toNat, (Int.toNat_of_nonneg h0).symm⟩
  have hj : j < xs.length := by omega
  exact ⟨xs[j], atI_nat (List.getElem?_eq_getElem hj), List.getElem_mem hj⟩
end B
namespace B
open PySem L2
open PySem.Spec PyProof.Rows
/-! own errors: the classes' facts, raising one with one field, a try with several named clauses -/
/-- the class object at C is an exception class over ValueError -/
theorem oexB_ok {K : PySem.W.Frag} {C : Addr} (q : oexB K C = true) : ∃ nm q N bs bm sn sub ab col dd k0 k1 k2 k3 k5, K.lookup C = some (excClassObj nm q C N bs bm true sn sub ab col dd k0 k1 k2 k3 k5 "ValueError.__new__") ∧ PySem.HandSPX.refsVE bm = true := by
  unfold oexB at q
  split at q
  · rename_i dd cd sl ho
    split at q
    · rename_i C' bm k0 k1 k2 k3 n k5 hm hs
      simp only [Bool.and_eq_true, beq_iff_eq, Bool.not_eq_true'] at q
      obtain ⟨⟨⟨⟨rfl, rfl⟩, hdel⟩, hhd⟩, ht⟩ := q
      obtain ⟨nm, bs, mro, ns, qn, hd, sn, sub, ab, col, del⟩ := cd
      dsimp only at hm hdel hhd
      subst hm hdel hhd
      have hsl : sl = #[k0, k1, k2, k3, some (.builtin "ValueError.__new__"), k5] := by
        obtain ⟨l⟩ := sl
        simp only at hs
        rw [hs]
      subst hsl
      exact ⟨nm, qn, ns, bs, bm, sn, sub, ab, col, dd, k0, k1, k2, k3, k5, ho, ht⟩
    · cases q
  · cases q
/-- what is asked of an error class -/
structure Ec (K : PySem.W.Frag) (C : Addr) : Prop where
  o : OexC K C
  x : XfC K C
  cl : (PySem.W.clsIn K C).isSome = true
  cls : PySem.W.findIn K (.ref C) "__class__" = some (some (.builtin "object.__class__"))
  gs : PySem.W.specialIn K (.builtin "object.__class__") "__get__" = some (some (.builtin "getset_descriptor.__get__"))
  tk : PySem.W.takesIn K (.builtin "object.__class__") = some true
  mo : PySem.W.mroIn K C (.type "object") = some true
theorem ecB_ok {K : PySem.W.Frag} {C : Addr} (h : ecB K C = true) : Ec K C := by
  unfold ecB at h
  simp only [Bool.and_eq_true, decide_eq_true_eq] at h
  obtain ⟨h1, h2, h3, h4, h5, h6, h7, h8, h9, h10, h11⟩ := h
  exact ⟨⟨oexB_ok h1, h2, h3, h4, h5⟩, xfB_ok h6, h7, h8, h9, h10, h11⟩
/-- the classes ec i, i in S, are apart: an except clause for one takes no other -/
structure Er (K : PySem.W.Frag) (ec : Nat → Addr) (S : List Nat) : Prop where
  ok : ∀ i ∈ S, Ec K (ec i)
  ex : ∀ i ∈ S, ∀ j ∈ S, PySem.W.exmOne K (.ref (ec i)) (.ref (ec j)) = some (decide (i = j))
theorem erB_ok {K : PySem.W.Frag} {ec : Nat → Addr} {S : List Nat} (h : erB K ec S = true) : Er K ec S := by
  unfold erB at h
  simp only [Bool.and_eq_true, List.all_eq_true, decide_eq_true_eq] at h
  exact ⟨fun i hi => ecB_ok (h.1 i hi), fun i hi j hj => h.2 i hi j hj⟩
/-! ### B.__init__(self, ..) -/
section
variable {X : Cx} {o e : Expr} {es : List Expr} {to te : TE} {ta : TA} {f x : Str} {p p' p1 p2 pos : Pos} {Bc : Addr} {mc : Value}
theorem pe_beinit {pl : Sem Bool} (r : ClX.CRead X.K Bc mc) (k : PySem.W.findCls X.K (.ref Bc) mc "__init__" = some (.val (.builtin "ValueError.__init__"))) (hm : X.mg x = some (.ref Bc)) (ha : PA X (e :: es) ta) (hg : Gl X x := by rfl) (hd : (x == ("__debug__" : Str)) = false := by decide)
    (hc : eval (.Call (.Attribute (.Name x p1) "__init__" p2) (e :: es) [] pos) X.env = (do
      let ov ← eval (.Name x p1) X.env
      standAt p2.atName
      let (f, first) ← holding [ov] (getMethod ov "__init__" pl)
      callWith pos f first (backTo pos (starEach (e :: es) X.env)) (backToKw pos (keywordEach [] X.env))) := by rfl)
    (he : starEach (e :: es) X.env = (false, eval e X.env) :: starEach es X.env := by rfl) (hpl : (backTo pos (starEach es X.env)).any (·.1) = false := by rfl) :
    PE X (.Call (.Attribute (.Name x p1) "__init__" p2) (e :: es) [] pos) (tVeI X.K ta) := by
  refine ⟨fun pins s σ H Q I h => ?_⟩
  refine PySem.W.methodCall_KW (ld_glob I hg hm ?_ hd) hc
  refine PySem.W.method_cls I.kIn r.ga (PySem.W.cls_value I.kIn r.rd k rfl ?_)
  show wpAny _ _ (callWith pos (Value.builtin "ValueError.__init__") [] (backTo pos (starEach (e :: es) X.env)) []) _ _ _
  refine PyProof.Rows.callWith_method1 (thn (ha.run pos pins _ σ H _ (I.tok _) h) fun us s1 ⟨vs, H1, I1, r1, a, C, ws, ev, hl, T, ea, q⟩ => ?_) he hpl
  subst ev
  cases r1 with
  | @cons _ u0 _ ur ra rw' =>
    obtain rfl : u0 = Value.ref a := ra
    have hlen : ur.length ≤ sizeLine := by
      rw [← Paired.length rw', sizeLine_eq]
      omega
    exact oinit_ok T I1 ea hlen fun s' J => ⟨.non, H1, J, rfl, q⟩
end
/-- the promise of an __init__ that keeps one argument -/
def spI1 (K : PySem.W.Frag) (f : Str) : Sp := fun vs H Q _ => ∃ (a C : Addr) (v : V), vs = [.ref a, v] ∧ OexC K C ∧ PySem.W.findIn K (.ref C) f = some none ∧ H a = some (exo a C none) ∧ ∀ dx, H dx = none → dx ≠ a → Q .non (upd (upd H dx (exd dx [(f, v)])) a (exo a C (some dx)))
/-- an error class x at C whose __init__ keeps the one argument f -/
structure ExcD (P : Program) (w : World) (K : PySem.W.Frag) (mg : Str → Option Value) (base : Heap) (k : Nat) (x : Str) (C : Addr) (f : Str) : Prop where
  T : Ec K C
  no : PySem.W.findIn K (.ref C) f = some none
  gC : mg x = some (.ref C)
  ini : ∃ (fI : Addr) (fd : FuncData), PySem.W.findIn K (.ref C) "__init__" = some (some (.ref fI)) ∧ PySem.W.typeIn K (.ref fI) = some (.type "function") ∧ Binds K fd ["self", f] [] ∧ FnOk P w K mg base CX0 k fI fd ["self", f] (spI1 K f)
def tRaise1 (C : Addr) (f : Str) (W : WX) (te : TE) : TS := fun _ σ H => te σ H fun v H1 => ∀ d H2, H1 d = none → Same H1 H2 → H2 d = some (.xd [(f, v)]) → W (.ref C) (some d) σ H2
section
variable {X : Cx} {e : Expr} {te : TE} {W : WX} {x f : Str} {C : Addr} {k : Nat} {p pos pos2 : Pos}
end
/-! ### a def that raises, called -/
section
variable {X : Cx} {k n : Nat} {x : Str} {ps ks : List Str} {sp : Sp} {W : WX} {E : XK} {e : Expr} {es : List Expr} {t tk : TA} {p pos : Pos} {kws : List Keyword} {g : List Value → List Value → List Value} {gV : List V → List V → List V}
end
/-! ### try with several clauses 'except x as n' -/
abbrev SU := Addr → Value → Option Addr → TS
/-- the suite's own run -/
def WSu (X : Cx) (ss : List Stmt) : SU := fun a cls d D σ H => ∀ (oe : Obj) (pn : List (Addr × Obj)), Zc cls d oe → (∃ vs, oe.data = .fields vs) → WB (X.suite a ((a, oe) :: pn)) ss D σ H
def wMs (K : PySem.W.Frag) (i : Nat) (Wout : WX) (D : Ends) : List (Value × SU) → WX
  | [] => Wout
  | (c, ts) :: r => fun cls d σ H => ∃ b, PySem.W.exmOne K cls c = some b ∧ (b = true → ∀ a, H a = none → ts a cls d { nx := fun σ' H' => D.nx (σ'.set i none) H', rt := D.rt, bk := fun σ' H' => D.bk (σ'.set i none) H', ct := fun σ' H' => D.ct (σ'.set i none) H' } (σ.set i (some (.ref a))) H) ∧ (b = false → wMs K i Wout D r cls d σ H)
inductive HdsA (X : Cx) (n : Str) : List ExceptHandler → List (Value × SU) → Prop
  | nil : HdsA X n [] []
  | cons {x : Str} {c : Value} {b₀ : Stmt} {suite : List Stmt} {np pos' : Pos} {hds : List ExceptHandler} {l : List (Value × SU)} (hc : Names X x c) (r : HdsA X n hds l) :
      HdsA X n (.ExceptHandler (some (.Name x np)) (some n) (b₀ :: suite) pos' :: hds) ((c, WSu X (b₀ :: suite)) :: l)
/-- the body's own run under the clauses' wish -/
def WTry (X : Cx) (body : List Stmt) (i : Nat) (Wout : WX) (l : List (Value × SU)) : TS := fun D σ H => ∀ (pn : List (Addr × Obj)) (xe : Value → Shared → Prop), Takes (X.tr pn xe) (wMs X.K i Wout D l) → PassesOwn (model X.prog X.w) X.A X.env xe → WB (X.tr pn xe) body D σ H
section
variable {X : Cx} {body : List Stmt} {h₀ : ExceptHandler} {hds : List ExceptHandler} {l : List (Value × SU)} {pos : Pos} {Wout : WX} {i : Nat} {n : Str}
end
/-! ### isinstance(e, c), e the error that a suite holds -/
def rIsX (K : PySem.W.Frag) (D a : Addr) : List V → Hp → VK → Prop := fun xs H Q => ∃ (c : V) (cv : Value) (b : Bool), xs = [.ref a, c] ∧ ClsV c cv ∧ PySem.W.kitOne K (.ref D) cv = some b ∧ Q (.bl b) H
/-- the class BundleError -/
structure Bce (K : PySem.W.Frag) (mg : Str → Option Value) (Bc : Addr) (mc : Value) : Prop where
  g : mg "BundleError" = some (.ref Bc)
  r : ClX.CRead K Bc mc
  i : PySem.W.findCls K (.ref Bc) mc "__init__" = some (.val (.builtin "ValueError.__init__"))
theorem bce_mk {K : PySem.W.Frag} {mg : Str → Option Value} {h : Heap} {Bc : Addr} {mc : Value} (X : K.In h) (G : h.Ns mainGlobals mg) (a : PySem.W.nsIn K mainGlobals "BundleError" = some (some (.ref Bc))) (t : PySem.W.typeIn K (.ref Bc) = some mc) (r : PySem.W.readsIn K Bc mc = true) (ga : PySem.W.specialIn K (.ref Bc) "__getattribute__" = some (some (.builtin "type.__getattribute__")))
    (i : PySem.W.findCls K (.ref Bc) mc "__init__" = some (.val (.builtin "ValueError.__init__"))) : Bce K mg Bc mc := ⟨PySem.W.mg_of X G a, ⟨r, ga⟩, i⟩
end B
namespace B
open PySem L2
open PySem.W (dataLe AllAlike Sortable EachIs)
/-! Sort: sorted(xs) of data, sorted(xs, key=f) -/
section
variable {X : Cx}
/-- sorted(xs), xs a list of alike data -/
def rSortD (K : PySem.W.Frag) : List V → Hp → VK → Prop := fun vs H Q => ∃ (a : Addr) (ps : List (V × PyData)), vs = [.ref a] ∧ SqL K H a (ps.map Prod.fst) ∧ (∀ p ∈ ps, Dp K H p.1 p.2 ∧ p.2.depth ≤ 60) ∧ AllAlike (ps.map Prod.snd) ∧ Sortable (ps.map Prod.snd) ∧
  ∀ d, H d = none → Q (.ref d) (upd H d (.lst ((ps.mergeSort (dataLe false Prod.snd)).map Prod.fst)))
/-- f(x) for one x, by key=: whatever else was laid -/
def KeyFn (X : Cx) (f : Addr) (H : Hp) (x : V) (k : PyData) : Prop := ∀ (pins : List (Addr × Obj)) (σ : L2.St) (s : Shared) (v : Value), Inv X pins σ H s → RelV x v → wpAny (model X.prog X.w) X.A.in1.in1 (call (.ref f) [v]) (PySem.W.KeyPure k s) (fun _ _ => False) s
def rSortK (X : Cx) (f : Addr) : List V → List V → Hp → VK → Prop := fun vs zs H Q => ∃ (a : Addr) (ps : List (V × PyData)), vs = [.ref a] ∧ zs = [.ref f] ∧ SqL X.K H a (ps.map Prod.fst) ∧ (∀ p ∈ ps, KeyFn X f H p.1 p.2 ∧ p.2.depth ≤ 60) ∧ AllAlike (ps.map Prod.snd) ∧ Sortable (ps.map Prod.snd) ∧
  ∀ d, H d = none → Q (.ref d) (upd H d (.lst ((ps.mergeSort (dataLe false Prod.snd)).map Prod.fst)))
end
/-! ### bundles as data -/
def tupS (b : List Str) : PyData := .tuple (b.map .str)
def rankD (b : List Str) : PyData := .tuple [.int b.length, tupS b]
end B
namespace B
open PySem L2
open PySem.W (dataLe AllAlike Sortable EachIs)
/-! Bund: lists of data; the bundles of goods -/
section
variable {K : PySem.W.Frag} {H H' : Hp} {α : Type}
theorem dpAll_app : ∀ {xs ys : List V} {ds es : List PyData}, DpAll K H xs ds → DpAll K H ys es → DpAll K H (xs ++ ys) (ds ++ es)
  | _, _, _, _, .nil, h => h
  | _, _, _, _, .cons h1 h2, h => .cons h1 (dpAll_app h2 h)
theorem dpAll_same {xs : List V} {ds : List PyData} (h : DpAll K H xs ds) (e : Same H H') : DpAll K H' xs ds := dp_sameAll e ds xs h
/-- in the midst of a list display by for: pre i is what is there behind i items -/
def PvP (K : PySem.W.Frag) (H1 : Hp) (D : Addr) (pre : Nat → List PyData) (i : Nat) (H : Hp) : Prop := Same H1 H ∧ ∃ acc, H D = some (.lst acc) ∧ acc.length ≤ i ∧ DpAll K H acc (pre i)
variable {H1 H4 : Hp} {D : Addr} {pre : Nat → List PyData} {i : Nat}
theorem PvP.step {y : V} {d : PyData} (hD : H1 D = none) (p : PvP K H1 D pre i H) (hn : noLs (pre i) = true) (nd : noL d = true) (hp : pre (i + 1) = pre i ++ [d]) (e : Same H H4) (hy : Dp K H4 y d) (hi : i < sizeLine) : ∃ acc, H4 D = some (.lst acc) ∧ acc.length < sizeLine ∧ PvP K H1 D pre (i + 1) (upd H4 D (.lst (acc ++ [y]))) := by
  obtain ⟨e1, acc, ha, hl, hd⟩ := p
  have h4 := e D _ ha
  refine ⟨acc, h4, by omega, ⟨fun b o hb => ?_, acc ++ [y], upd_same, by rw [List.length_append, List.length_singleton]; omega, ?_⟩⟩
  · rw [upd_ne (fun z => by rw [z, hD] at hb; cases hb)]
    exact e _ _ (e1 _ _ hb)
  · have k : NLk H4 (upd H4 D (.lst (acc ++ [y]))) := (NLk.refl H4).upd h4
    rw [hp]
    exact dpAll_app (dp_tsAll k _ _ hn (dpAll_same hd e)) (.cons (dp_ts k _ _ nd hy) .nil)
end
section
/-! ### all subsets, in the order of bundle_rank -/
def grow (bs : List (List Str)) (x : Str) : List (List Str) := bs ++ bs.map (· ++ [x])
def subs (g : List Str) : List (List Str) := g.foldl grow [[]]
def bnds (g : List Str) : List (List Str) := (subs g).mergeSort (dataLe false rankD)
variable {K : PySem.W.Frag} {H : Hp}
def spBunds (K : PySem.W.Frag) : Sp := fun vs H Q _ => ∃ (a : Addr) (g : List Str), vs = [.ref a] ∧ SqT K H a (g.map V.str) ∧ g.length ≤ 5 ∧ ∀ (q : Addr) (xs : List V) (H' : Hp), Same H H' → H q = none → H' q = some (.lst xs) → DpAll K H' xs ((bnds g).map tupS) → Q (.ref q) H'
end
/-- len(xs), xs a list or a tuple -/
def rLenS (K : PySem.W.Frag) : List V → Hp → VK → Prop := fun xs H Q => ∃ p ys, xs = [.ref p] ∧ (SqL K H p ys ∨ SqT K H p ys) ∧ Q (.int (ys.length : Nat)) H
/-- list(xs), xs a list or a tuple -/
def rListS (K : PySem.W.Frag) : List V → Hp → VK → Prop := fun xs H Q => ∃ p ys, xs = [.ref p] ∧ (SqL K H p ys ∨ SqT K H p ys) ∧ ∀ l, H l = none → Q (.ref l) (upd H l (.lst ys))
end B
namespace B
open PySem L2
/-! RevT: t[::-1], t a tuple -/
section
open PyProof.Rows HT
open PySem.SeqAt
open PySem.AutoSeq1 (wpAny_loadPart')
open PySem.MeetsSeq PySem.MeetsSeq2 PySem.MeetsSeq3
variable {prog : Program} {w : World} {A : Around} {E : Value → Shared → Prop} {s : Shared}
end
section
open PySem.Spec PyProof.Rows
variable {X : Cx}
def tRevT (K : PySem.W.Frag) (te : TE) : TE := fun σ H Q => te σ H fun x H1 => ∃ (a : Addr) (xs : List V), x = .ref a ∧ SqT K H1 a xs ∧ ∀ p, H1 p = none → Q (.ref p) (upd H1 p (.tup xs.reverse))
end
end B
namespace B
open PySem L2
/-! Q0: pure data, the monad of pure runs, regions of the heap, what stands for what -/
inductive D where
  | non
  | bl (b : Bool)
  | int (i : Int)
  | str (s : Str)
  | tup (ds : List D)
  | lst (ds : List D)
  | dic (t : Bool) (kvs : List (D × D))
  | obj (c : Nat) (fs : List D)
/-- how a pure run ends -/
inductive Out (S α : Type) where
  | ok (a : α) (s : S)
  | err (n : Nat) (ds : List D) (s : S)
  | bad
def M (S α : Type) : Type := S → Out S α
namespace M
variable {S α β : Type}
def pur (a : α) : M S α := fun s => .ok a s
def bind (m : M S α) (k : α → M S β) : M S β := fun s => match m s with
  | .ok a s' => k a s'
  | .err n ds s' => .err n ds s'
  | .bad => .bad
def bad : M S α := fun _ => .bad
def raise (n : Nat) (ds : List D) : M S α := fun s => .err n ds s
end M
instance {S : Type} : Monad (M S) where
  pure := M.pur
  bind := M.bind
section
variable {S α β γ : Type}
theorem M.bind_def (m : M S α) (k : α → M S β) (s : S) : (m >>= k) s = match m s with
  | .ok a s' => k a s'
  | .err n ds s' => .err n ds s'
  | .bad => .bad := rfl
@[simp] theorem M.pure_app (a : α) (s : S) : (pure a : M S α) s = .ok a s := rfl
@[simp] theorem M.bad_app (s : S) : (M.bad : M S α) s = .bad := rfl
@[simp] theorem M.raise_app (n : Nat) (ds : List D) (s : S) : (M.raise n ds : M S α) s = .err n ds s := rfl
theorem M.bind_ok {m : M S α} {k : α → M S β} {s s' : S} {a : α} (h : m s = .ok a s') : (m >>= k) s = k a s' := by rw [M.bind_def, h]
theorem M.bind_err {m : M S α} {k : α → M S β} {s s' : S} {n : Nat} {ds : List D} (h : m s = .err n ds s') : (m >>= k) s = .err n ds s' := by rw [M.bind_def, h]
theorem M.bind_bad {m : M S α} {k : α → M S β} {s : S} (h : m s = .bad) : (m >>= k) s = .bad := by rw [M.bind_def, h]
@[simp] theorem M.pure_bind (a : α) (k : α → M S β) : (pure a >>= k) = k a := rfl
@[simp] theorem M.bad_bind (k : α → M S β) : ((M.bad : M S α) >>= k) = M.bad := rfl
@[simp] theorem M.raise_bind (n : Nat) (ds : List D) (k : α → M S β) : ((M.raise n ds : M S α) >>= k) = M.raise n ds := rfl
@[simp] theorem M.bind_pure (m : M S α) : (m >>= fun a => pure a) = m := by
  funext s
  rw [M.bind_def]
  cases m s <;> rfl
@[simp] theorem M.bind_assoc (m : M S α) (k : α → M S β) (l : β → M S γ) : ((m >>= k) >>= l) = (m >>= fun a => k a >>= l) := by
  funext s
  rw [M.bind_def, M.bind_def, M.bind_def]
  cases m s <;> rfl
end
/-! ### regions -/
/-- what F tells, H tells (a thing that may change may be locked in H) -/
def LockD : HO → Prop
  | .dK _ => True
  | .dT _ => True
  | _ => False
def Sub (F H : Hp) : Prop := ∀ a u, F a = some u → H a = some u ∨ (LockD u ∧ ∃ o, H a = some (.frz o u))
theorem Sub.refl (F : Hp) : Sub F F := fun _ _ h => .inl h
theorem Sub.trans {F G H : Hp} (a : Sub F G) (b : Sub G H) : Sub F H := fun x u h => by
  rcases a x u h with h1 | ⟨m, o, h1⟩
  · exact b x u h1
  · rcases b x _ h1 with h2 | ⟨m2, _⟩
    · exact .inr ⟨m, o, h2⟩
    · exact m2.elim
theorem Sub.rd {F H : Hp} {a : Addr} {u : HO} (e : Sub F H) (h : Rd F a u) : Rd H a u := by
  rcases h with h | ⟨o, h⟩
  · rcases e a u h with h1 | ⟨_, o, h1⟩
    · exact .inl h1
    · exact .inr ⟨o, h1⟩
  · rcases e a _ h with h1 | ⟨m, _⟩
    · exact .inr ⟨o, h1⟩
    · exact m.elim
theorem Sub.tup {F H : Hp} {a : Addr} {xs : List V} (e : Sub F H) (h : F a = some (.tup xs)) : H a = some (.tup xs) := by
  rcases e a _ h with h1 | ⟨m, _⟩
  · exact h1
  · exact m.elim
theorem Sub.lst {F H : Hp} {a : Addr} {xs : List V} (e : Sub F H) (h : F a = some (.lst xs)) : H a = some (.lst xs) := by
  rcases e a _ h with h1 | ⟨m, _⟩
  · exact h1
  · exact m.elim
theorem Sub.ins {F H : Hp} {a C dx : Addr} {fs : List (Str × V)} (e : Sub F H) (h : F a = some (.ins C dx fs)) : H a = some (.ins C dx fs) := by
  rcases e a _ h with h1 | ⟨m, _⟩
  · exact h1
  · exact m.elim
theorem Sub.has {F H : Hp} {a : Addr} (e : Sub F H) (h : H a = none) : F a = none := by
  cases q : F a with
  | none => rfl
  | some u =>
    rcases e a u q with h1 | ⟨_, o, h1⟩ <;> rw [h] at h1 <;> cases h1
theorem sub_upd {F G : Hp} {p : Addr} {o : HO} (e : Sub F G) : Sub (upd F p o) (upd G p o) := fun a u h => by
  by_cases q : a = p
  · subst q; rw [upd_same] at h; cases h; exact .inl upd_same
  · rw [upd_ne q] at h ⊢; exact e a u h
theorem sub_new {F : Hp} {p : Addr} {o : HO} (h : F p = none) : Sub F (upd F p o) := fun a u q => by
  have : a ≠ p := fun z => by rw [z, h] at q; cases q
  rw [upd_ne this]; exact .inl q
/-- a change where F tells nothing -/
theorem sub_set {F H : Hp} {p : Addr} {o : HO} (e : Sub F H) (h : F p = none) : Sub F (upd H p o) := fun a u q => by
  have : a ≠ p := fun z => by rw [z, h] at q; cases q
  rw [upd_ne this]; exact e a u q
/-! ### what stands for what -/
structure Ct where
  K : PySem.W.Frag
  cl : Nat → Addr
  fl : Nat → List Str
  ec : Nat → Addr
  ef : Nat → List Str
def kD : Key → D
  | .inl i => .int i
  | .inr x => .str x
def kTD (k : List Key) : D := .tup (k.map kD)
mutual
inductive Rp (c : Ct) (F : Hp) : V → D → Prop
  | non : Rp c F .non .non
  | bl (b : Bool) : Rp c F (.bl b) (.bl b)
  | int (i : Int) : Rp c F (.int i) (.int i)
  | str (x : Str) : Rp c F (.str x) (.str x)
  | tup {a : Addr} {xs : List V} {ds : List D} : F a = some (.tup xs) → RpA c F xs ds → Rp c F (.ref a) (.tup ds)
  | lst {a : Addr} {xs : List V} {ds : List D} : F a = some (.lst xs) → RpA c F xs ds → Rp c F (.ref a) (.lst ds)
  | dK {a : Addr} {kvs : List (Key × V)} {ks : List (D × D)} : Rd F a (.dK kvs) → (kvs.map fun p => kD p.1) = ks.map Prod.fst → RpA c F (kvs.map Prod.snd) (ks.map Prod.snd) → Rp c F (.ref a) (.dic false ks)
  | dT {a : Addr} {kvs : List (List Key × V)} {ks : List (D × D)} : Rd F a (.dT kvs) → (kvs.map fun p => kTD p.1) = ks.map Prod.fst → RpA c F (kvs.map Prod.snd) (ks.map Prod.snd) → Rp c F (.ref a) (.dic true ks)
  | obj {a dx : Addr} {n : Nat} {fs : List (Str × V)} {ds : List D} : F a = some (.ins (c.cl n) dx fs) → fs.map Prod.fst = c.fl n → RpA c F (fs.map Prod.snd) ds → Rp c F (.ref a) (.obj n ds)
inductive RpA (c : Ct) (F : Hp) : List V → List D → Prop
  | nil : RpA c F [] []
  | cons {v : V} {vs : List V} {d : D} {ds : List D} : Rp c F v d → RpA c F vs ds → RpA c F (v :: vs) (d :: ds)
end
section
variable {c : Ct} {F G H : Hp}
mutual
theorem Rp.mono (e : Sub F H) : ∀ {v : V} {d : D}, Rp c F v d → Rp c H v d
  | _, _, .non => .non
  | _, _, .bl b => .bl b
  | _, _, .int i => .int i
  | _, _, .str x => .str x
  | _, _, .tup h k => .tup (e.tup h) (RpA.mono e k)
  | _, _, .lst h k => .lst (e.lst h) (RpA.mono e k)
  | _, _, .dK h q k => .dK (e.rd h) q (RpA.mono e k)
  | _, _, .dT h q k => .dT (e.rd h) q (RpA.mono e k)
  | _, _, .obj h q k => .obj (e.ins h) q (RpA.mono e k)
theorem RpA.mono (e : Sub F H) : ∀ {vs : List V} {ds : List D}, RpA c F vs ds → RpA c H vs ds
  | _, _, .nil => .nil
  | _, _, .cons h k => .cons (Rp.mono e h) (RpA.mono e k)
end
theorem RpA.length : ∀ {vs : List V} {ds : List D}, RpA c F vs ds → vs.length = ds.length
  | _, _, .nil => rfl
  | _, _, .cons _ k => by rw [List.length_cons, List.length_cons, RpA.length k]
theorem RpA.get : ∀ {vs : List V} {ds : List D} {i : Nat} {v : V}, RpA c F vs ds → vs[i]? = some v → ∃ d, ds[i]? = some d ∧ Rp c F v d
  | _, _, i, _, .nil, h => by cases i <;> cases h
  | _, _, 0, _, .cons h _, e => by cases e; exact ⟨_, rfl, h⟩
  | _ :: vs, _ :: ds, i + 1, v, .cons _ k, e => by
    obtain ⟨d, e', r⟩ := RpA.get (vs := vs) (ds := ds) (i := i) k (by rw [List.getElem?_cons_succ] at e; exact e)
    exact ⟨d, by rw [List.getElem?_cons_succ]; exact e', r⟩
theorem RpA.getD : ∀ {vs : List V} {ds : List D} {i : Nat} {d : D}, RpA c F vs ds → ds[i]? = some d → ∃ v, vs[i]? = some v ∧ Rp c F v d
  | _, _, i, _, .nil, h => by cases i <;> cases h
  | _, _, 0, _, .cons h _, e => by cases e; exact ⟨_, rfl, h⟩
  | _ :: vs, _ :: ds, i + 1, v, .cons _ k, e => by
    obtain ⟨d, e', r⟩ := RpA.getD (vs := vs) (ds := ds) (i := i) k (by rw [List.getElem?_cons_succ] at e; exact e)
    exact ⟨d, by rw [List.getElem?_cons_succ]; exact e', r⟩
theorem RpA.app : ∀ {vs us : List V} {ds es : List D}, RpA c F vs ds → RpA c F us es → RpA c F (vs ++ us) (ds ++ es)
  | _, _, _, _, .nil, k => k
  | _, _, _, _, .cons h k, r => .cons h (RpA.app k r)
theorem RpA.take : ∀ {vs : List V} {ds : List D} (n : Nat), RpA c F vs ds → RpA c F (vs.take n) (ds.take n)
  | _, _, 0, _ => .nil
  | _, _, _ + 1, .nil => .nil
  | _, _, n + 1, .cons h k => .cons h (RpA.take n k)
theorem RpA.drop : ∀ {vs : List V} {ds : List D} (n : Nat), RpA c F vs ds → RpA c F (vs.drop n) (ds.drop n)
  | _, _, 0, k => k
  | _, _, _ + 1, .nil => .nil
  | _, _, n + 1, .cons _ k => RpA.drop n k
theorem RpA.set : ∀ {vs : List V} {ds : List D} {v : V} {d : D} (n : Nat), RpA c F vs ds → Rp c F v d → RpA c F (vs.set n v) (ds.set n d)
  | _, _, _, _, _, .nil, _ => .nil
  | _, _, _, _, 0, .cons _ k, r => .cons r k
  | _, _, _, _, n + 1, .cons h k, r => .cons h (RpA.set n k r)
theorem RpA.reverse {vs : List V} {ds : List D} (h : RpA c F vs ds) : RpA c F vs.reverse ds.reverse := by
  have go : ∀ {vs us : List V} {ds es : List D}, RpA c F vs ds → RpA c F us es → RpA c F (vs.reverseAux us) (ds.reverseAux es) := by
    intro vs
    induction vs with
    | nil => intro us ds es h k; cases h; exact k
    | cons v vs ih =>
      intro us ds es h k
      cases h with
      | @cons _ _ d ds h1 h2 => exact ih (ds := ds) (es := d :: es) h2 (.cons h1 k)
  exact go h .nil
theorem RpA.ints : ∀ ns : List Int, RpA c F (ns.map V.int) (ns.map D.int)
  | [] => .nil
  | n :: ns => .cons (.int n) (RpA.ints ns)
end
end B
namespace B
open PySem L2
/-! Q1: the state of a run: regions, the drawing state, the slots -/
/-- F: what may be kept in answers; G: what may be read for good; H: all -/
structure W3 where
  F : Hp
  G : Hp
  H : Hp
def Inc (F F' : Hp) : Prop := ∀ a u, F a = some u → F' a = some u
theorem Inc.refl (F : Hp) : Inc F F := fun _ _ h => h
theorem Inc.trans {F G H : Hp} (a : Inc F G) (b : Inc G H) : Inc F H := fun x u h => b x u (a x u h)
theorem Inc.sub {F F' : Hp} (h : Inc F F') : Sub F F' := fun a u q => .inl (h a u q)
theorem inc_new {F : Hp} {p : Addr} {o : HO} (h : F p = none) : Inc F (upd F p o) := fun a u q => by
  have : a ≠ p := fun z => by rw [z, h] at q; cases q
  rw [upd_ne this]; exact q
structure LeR (F G F' G' : Hp) : Prop where
  f : Sub F F'
  g : Sub G G'
  fs : Inc F F'
  gs : Inc G G'
def W3.le (w w' : W3) : Prop := LeR w.F w.G w'.F w'.G
theorem W3.le.of {w w' : W3} (a : Inc w.F w'.F) (b : Inc w.G w'.G) : w.le w' := ⟨a.sub, b.sub, a, b⟩
theorem W3.le.same {F G H H' : Hp} : W3.le ⟨F, G, H⟩ ⟨F, G, H'⟩ := .of (.refl _) (.refl _)
theorem W3.le.refl (w : W3) : w.le w := .of (.refl _) (.refl _)
theorem W3.le.trans {a b d : W3} (x : a.le b) (y : b.le d) : a.le d := .of (x.fs.trans y.fs) (x.gs.trans y.gs)
/-- a kind of state that is handed through -/
structure StK where
  S : Type
  rep : Hp → Hp → S → Prop
  own : Hp → Addr → Prop
  at_ : Addr → Prop
  at2 : Nat → Addr → Prop := fun _ _ => False
  stay : ∀ {F F' H H' : Hp} {s : S}, rep F H s → Sub F F' → Sub F' H' → (∀ b o, own H b → H b = some o → H' b = some o) → rep F' H' s ∧ ∀ b, own H' b ↔ own H b
  has : ∀ {F H : Hp} {s : S} {b : Addr}, rep F H s → own H b → ∃ o, H b = some o
/-- no state -/
def Z0 : StK where
  S := Unit
  rep := fun _ _ _ => True
  own := fun _ _ => False
  at_ := fun _ => False
  stay := fun _ _ _ _ => ⟨trivial, fun _ => Iff.rfl⟩
  has := fun _ h => h.elim
/-- the frame: the world at the entry, what may be changed of it -/
structure Fm where
  w : W3
  T : Addr → Prop
structure Wd (Φ : Fm) (w : W3) : Prop where
  fg : Sub w.F w.G
  gh : Sub w.G w.H
  le : Φ.w.le w
  keep : ∀ b o, Φ.w.H b = some o → ¬ Φ.T b → w.H b = some o
  has : ∀ b, w.H b = none → Φ.w.H b = none
  frF : ∀ b o, Φ.w.H b = some o → ¬ Φ.T b → Φ.w.F b = none → w.F b = none
  frG : ∀ b o, Φ.w.H b = some o → ¬ Φ.T b → Φ.w.G b = none → w.G b = none
/-- a slot: unknown, kept for good, read for good, an object of one's own, the state -/
inductive Sl where
  | un
  | fz (d : D)
  | bo (d : D)
  | sh (d : D)
  | ow (d : D)
  | st
  | st2 (i : Nat)
/-- an object of one's own: a list, a dict -/
def Ow (c : Ct) (w : W3) (a : Addr) : D → Prop
  | .lst ds => ∃ xs, w.H a = some (.lst xs) ∧ RpA c w.F xs ds
  | .dic false ks => ∃ kvs : List (Key × V), w.H a = some (.dK kvs) ∧ (kvs.map fun p => kD p.1) = ks.map Prod.fst ∧ RpA c w.F (kvs.map Prod.snd) (ks.map Prod.snd)
  | .dic true ks => ∃ kvs : List (List Key × V), w.H a = some (.dT kvs) ∧ (kvs.map fun p => kTD p.1) = ks.map Prod.fst ∧ RpA c w.F (kvs.map Prod.snd) (ks.map Prod.snd)
  | _ => False
def Fresh (Φ : Fm) (a : Addr) : Prop := Φ.T a ∨ Φ.w.H a = none
/-- an object that is read for good, its items kept for good -/
def OwS (c : Ct) (F G : Hp) (a : Addr) : D → Prop
  | .lst ds => ∃ xs, G a = some (.lst xs) ∧ RpA c F xs ds
  | .dic false ks => ∃ kvs : List (Key × V), Rd G a (.dK kvs) ∧ (kvs.map fun p => kD p.1) = ks.map Prod.fst ∧ RpA c F (kvs.map Prod.snd) (ks.map Prod.snd)
  | .dic true ks => ∃ kvs : List (List Key × V), Rd G a (.dT kvs) ∧ (kvs.map fun p => kTD p.1) = ks.map Prod.fst ∧ RpA c F (kvs.map Prod.snd) (ks.map Prod.snd)
  | _ => False
theorem OwS.mono {c : Ct} {F G F' G' : Hp} {a : Addr} {d : D} (h : OwS c F G a d) (f : Sub F F') (g : Sub G G') : OwS c F' G' a d := by
  cases d with
  | lst ds => obtain ⟨xs, h1, h2⟩ := h; exact ⟨xs, g.lst h1, h2.mono f⟩
  | dic t ks =>
    cases t with
    | false => obtain ⟨kvs, h1, h2, h3⟩ := h; exact ⟨kvs, g.rd h1, h2, h3.mono f⟩
    | true => obtain ⟨kvs, h1, h2, h3⟩ := h; exact ⟨kvs, g.rd h1, h2, h3.mono f⟩
  | _ => exact h.elim
theorem OwS.rp {c : Ct} {F G H : Hp} {a : Addr} {d : D} (h : OwS c F G a d) (f : Sub F H) (g : Sub G H) : Rp c H (.ref a) d := by
  cases d with
  | lst ds => obtain ⟨xs, h1, h2⟩ := h; exact .lst (g.lst h1) (h2.mono f)
  | dic t ks =>
    cases t with
    | false => obtain ⟨kvs, h1, h2, h3⟩ := h; exact .dK (g.rd h1) h2 (h3.mono f)
    | true => obtain ⟨kvs, h1, h2, h3⟩ := h; exact .dT (g.rd h1) h2 (h3.mono f)
  | _ => exact h.elim
/-- an object of one's own, apart from the rest -/
structure Mine (c : Ct) (Φ : Fm) (Z : StK) (w : W3) (a : Addr) (d : D) : Prop where
  ow : Ow c w a d
  ng : w.G a = none
  fr : Fresh Φ a
  ns : ¬ Z.own w.H a
def SlOk (c : Ct) (Φ : Fm) (Z : StK) (w : W3) (o : Option V) : Sl → Prop
  | .un => True
  | .fz d => ∃ v, o = some v ∧ Rp c w.F v d
  | .bo d => ∃ v, o = some v ∧ Rp c w.G v d
  | .sh d => ∃ a, o = some (.ref a) ∧ OwS c w.F w.G a d
  | .ow d => ∃ a, o = some (.ref a) ∧ Mine c Φ Z w a d
  | .st => ∃ p, o = some (.ref p) ∧ Z.at_ p
  | .st2 i => ∃ p, o = some (.ref p) ∧ Z.at2 i p
/-- the state of a run, but for the slots -/
structure Fin (Φ : Fm) (Z : StK) (s : Z.S) (w : W3) : Prop where
  wd : Wd Φ w
  rep : Z.rep w.F w.H s
  so : ∀ b, Z.own w.H b → w.G b = none ∧ Fresh Φ b
structure In (c : Ct) (Φ : Fm) (Z : StK) (γ : List Sl) (s : Z.S) (w : W3) (σ : L2.St) : Prop where
  fin : Fin Φ Z s w
  ln : σ.length = γ.length
  sl : ∀ (i : Nat) (x : Sl) (o : Option V), γ[i]? = some x → σ[i]? = some o → SlOk c Φ Z w o x
  ds : ∀ (i j : Nat) (d e : D) (a : Addr), γ[i]? = some (.ow d) → γ[j]? = some (.ow e) → σ[i]? = some (some (.ref a)) → σ[j]? = some (some (.ref a)) → i = j
section
variable {c : Ct} {Φ : Fm} {Z : StK} {γ : List Sl} {s s' : Z.S} {w w' : W3} {σ : L2.St} {a p : Addr} {d : D} {o : HO}
theorem Ow.keep (h : Ow c w a d) (e : Sub w.F w'.F) (k : ∀ o, w.H a = some o → w'.H a = some o) : Ow c w' a d := by
  cases d with
  | lst ds => obtain ⟨xs, h1, h2⟩ := h; exact ⟨xs, k _ h1, h2.mono e⟩
  | dic t ks =>
    cases t with
    | false => obtain ⟨kvs, h1, h2, h3⟩ := h; exact ⟨kvs, k _ h1, h2, h3.mono e⟩
    | true => obtain ⟨kvs, h1, h2, h3⟩ := h; exact ⟨kvs, k _ h1, h2, h3.mono e⟩
  | _ => exact h.elim
theorem Ow.has (h : Ow c w a d) : ∃ o, w.H a = some o := by
  cases d with
  | lst ds => obtain ⟨xs, h1, h2⟩ := h; exact ⟨_, h1⟩
  | dic t ks =>
    cases t with
    | false => obtain ⟨kvs, h1, h2, h3⟩ := h; exact ⟨_, h1⟩
    | true => obtain ⟨kvs, h1, h2, h3⟩ := h; exact ⟨_, h1⟩
  | _ => exact h.elim
theorem Ow.rp (h : Ow c w a d) (e : Sub w.F w.H) : Rp c w.H (.ref a) d := by
  cases d with
  | lst ds => obtain ⟨xs, h1, h2⟩ := h; exact .lst h1 (h2.mono e)
  | dic t ks =>
    cases t with
    | false => obtain ⟨kvs, h1, h2, h3⟩ := h; exact .dK (.inl h1) h2 (h3.mono e)
    | true => obtain ⟨kvs, h1, h2, h3⟩ := h; exact .dT (.inl h1) h2 (h3.mono e)
  | _ => exact h.elim
theorem Wd.fh (x : Wd Φ w) : Sub w.F w.H := x.fg.trans x.gh
/-- what a step does that changes the state alone -/
structure Cont (Z : StK) (w w' : W3) (s' : Z.S) (T : Addr → Prop) : Prop where
  fg : Sub w'.F w'.G
  gh : Sub w'.G w'.H
  le : w.le w'
  keep : ∀ b o, w.H b = some o → ¬ Z.own w.H b → ¬ T b → w'.H b = some o
  has : ∀ b, w'.H b = none → w.H b = none
  frF : ∀ b o, w.H b = some o → ¬ Z.own w.H b → ¬ T b → w.F b = none → w'.F b = none
  frG : ∀ b o, w.H b = some o → ¬ Z.own w.H b → ¬ T b → w.G b = none → w'.G b = none
  rep : Z.rep w'.F w'.H s'
  so : ∀ b, Z.own w'.H b → w'.G b = none ∧ (Z.own w.H b ∨ T b ∨ w.H b = none)
theorem Fin.cont {T : Addr → Prop} (I : Fin Φ Z s w) (k : Cont Z w w' s' T) (hT : ∀ b, T b → Fresh Φ b) : Fin Φ Z s' w' := by
  have nw : ∀ b o, Φ.w.H b = some o → ¬ Φ.T b → ¬ Z.own w.H b ∧ ¬ T b := fun b o h n => by
    refine ⟨fun z => ?_, fun z => ?_⟩
    · rcases (I.so b z).2 with q | q
      · exact n q
      · rw [h] at q; cases q
    · rcases hT b z with q | q
      · exact n q
      · rw [h] at q; cases q
  refine ⟨⟨k.fg, k.gh, I.wd.le.trans k.le, fun b o h n => ?_, fun b h => I.wd.has b (k.has b h), fun b o h n f => ?_, fun b o h n f => ?_⟩, k.rep, fun b z => ?_⟩
  · exact k.keep b o (I.wd.keep b o h n) (nw b o h n).1 (nw b o h n).2
  · exact k.frF b o (I.wd.keep b o h n) (nw b o h n).1 (nw b o h n).2 (I.wd.frF b o h n f)
  · exact k.frG b o (I.wd.keep b o h n) (nw b o h n).1 (nw b o h n).2 (I.wd.frG b o h n f)
  · refine ⟨(k.so b z).1, ?_⟩
    rcases (k.so b z).2 with q | q | q
    · exact (I.so b q).2
    · exact hT b q
    · exact .inr (I.wd.has b q)
theorem Mine.cont {T : Addr → Prop} (h : Mine c Φ Z w a d) (k : Cont Z w w' s' T) (nT : ¬ T a) : Mine c Φ Z w' a d := by
  obtain ⟨o, ho⟩ := h.ow.has
  refine ⟨h.ow.keep k.le.1 fun o q => k.keep a o q h.ns nT, k.frG a o ho h.ns nT h.ng, h.fr, fun z => ?_⟩
  rcases (k.so a z).2 with q | q | q
  · exact h.ns q
  · exact nT q
  · rw [ho] at q; cases q
theorem SlOk.cont {T : Addr → Prop} {x : Sl} {ov : Option V} (h : SlOk c Φ Z w ov x) (k : Cont Z w w' s' T) (nT : ∀ a, ov = some (.ref a) → ¬ T a) : SlOk c Φ Z w' ov x := by
  cases x with
  | un => trivial
  | fz d => obtain ⟨v, e, r⟩ := h; exact ⟨v, e, r.mono k.le.1⟩
  | bo d => obtain ⟨v, e, r⟩ := h; exact ⟨v, e, r.mono k.le.2⟩
  | sh d => obtain ⟨a, e, r⟩ := h; exact ⟨a, e, r.mono k.le.1 k.le.2⟩
  | ow d => obtain ⟨a, e, r⟩ := h; exact ⟨a, e, r.cont k (nT a e)⟩
  | st => exact h
  | st2 => exact h
theorem In.cont {T : Addr → Prop} (I : In c Φ Z γ s w σ) (k : Cont Z w w' s' T) (hT : ∀ b, T b → Fresh Φ b) (nT : ∀ (i : Nat) (d : D) (a : Addr), γ[i]? = some (.ow d) → σ[i]? = some (some (.ref a)) → ¬ T a) : In c Φ Z γ s' w' σ := by
  refine ⟨I.fin.cont k hT, I.ln, fun i x o hx ho => ?_, I.ds⟩
  have h := I.sl i x o hx ho
  cases x with
  | ow d =>
    obtain ⟨a, e, r⟩ := h
    subst e
    exact ⟨a, rfl, r.cont k (nT i d a hx ho)⟩
  | un => trivial
  | fz d => obtain ⟨v, e, r⟩ := h; exact ⟨v, e, r.mono k.le.1⟩
  | bo d => obtain ⟨v, e, r⟩ := h; exact ⟨v, e, r.mono k.le.2⟩
  | sh d => obtain ⟨a, e, r⟩ := h; exact ⟨a, e, r.mono k.le.1 k.le.2⟩
  | st => exact h
  | st2 => exact h
theorem In.cont0 (I : In c Φ Z γ s w σ) (k : Cont Z w w' s' fun _ => False) : In c Φ Z γ s' w' σ := I.cont k (fun _ z => z.elim) fun _ _ _ _ _ z => z
/-- a new object that is kept for good -/
def W3.new (w : W3) (p : Addr) (o : HO) : W3 := ⟨upd w.F p o, upd w.G p o, upd w.H p o⟩
/-- .. that is read for good -/
def W3.newG (w : W3) (p : Addr) (o : HO) : W3 := ⟨w.F, upd w.G p o, upd w.H p o⟩
/-- .. of one's own -/
def W3.set (w : W3) (p : Addr) (o : HO) : W3 := ⟨w.F, w.G, upd w.H p o⟩
theorem Fin.noF (I : Fin Φ Z s w) (h : w.H p = none) : w.F p = none := I.wd.fh.has h
theorem Fin.noG (I : Fin Φ Z s w) (h : w.H p = none) : w.G p = none := I.wd.gh.has h
theorem own_new {F' : Hp} (I : Fin Φ Z s w) (h : w.H p = none) (hF : Sub w.F F') (hs : Sub F' (upd w.H p o)) : Z.rep F' (upd w.H p o) s ∧ ∀ b, Z.own (upd w.H p o) b ↔ Z.own w.H b := by
  refine Z.stay I.rep hF hs fun b u _ q => ?_
  rw [upd_ne (fun z => by rw [z, h] at q; cases q)]
  exact q
theorem ne_own (I : Fin Φ Z s w) (h : w.H p = none) {b : Addr} (z : Z.own w.H b) : b ≠ p := fun e => by
  obtain ⟨u, q⟩ := Z.has I.rep z
  rw [e, h] at q; cases q
theorem Fin.new (I : Fin Φ Z s w) (h : w.H p = none) : Cont Z w (w.new p o) s fun _ => False := by
  have hF := I.noF h
  have hG := I.noG h
  have so := own_new (o := o) I h (sub_new hF) (sub_upd I.wd.fh)
  have hb : ∀ b u, w.H b = some u → b ≠ p := fun b u q z => by rw [z, h] at q; cases q
  refine ⟨sub_upd I.wd.fg, sub_upd I.wd.gh, .of (inc_new hF) (inc_new hG), fun b u q _ _ => ?_, fun b q => ?_, fun b u q _ _ f => ?_, fun b u q _ _ f => ?_, so.1, fun b z => ?_⟩
  · show upd w.H p o b = _
    rw [upd_ne (hb b u q)]; exact q
  · by_cases z : b = p
    · rw [z]; exact h
    · have q : upd w.H p o b = none := q
      rw [upd_ne z] at q; exact q
  · show upd w.F p o b = none
    rw [upd_ne (hb b u q)]; exact f
  · show upd w.G p o b = none
    rw [upd_ne (hb b u q)]; exact f
  · have z : Z.own w.H b := (so.2 b).mp z
    refine ⟨?_, .inl z⟩
    show upd w.G p o b = none
    rw [upd_ne (ne_own I h z)]; exact (I.so b z).1
theorem Fin.newG (I : Fin Φ Z s w) (h : w.H p = none) : Cont Z w (w.newG p o) s fun _ => False := by
  have hF := I.noF h
  have hG := I.noG h
  have so := own_new (o := o) I h (.refl w.F) (sub_set I.wd.fh hF)
  have hb : ∀ b u, w.H b = some u → b ≠ p := fun b u q z => by rw [z, h] at q; cases q
  refine ⟨I.wd.fg.trans (sub_new hG), sub_upd I.wd.gh, .of (.refl _) (inc_new hG), fun b u q _ _ => ?_, fun b q => ?_, fun b u q _ _ f => f, fun b u q _ _ f => ?_, so.1, fun b z => ?_⟩
  · show upd w.H p o b = _
    rw [upd_ne (hb b u q)]; exact q
  · by_cases z : b = p
    · rw [z]; exact h
    · have q : upd w.H p o b = none := q
      rw [upd_ne z] at q; exact q
  · show upd w.G p o b = none
    rw [upd_ne (hb b u q)]; exact f
  · have z : Z.own w.H b := (so.2 b).mp z
    refine ⟨?_, .inl z⟩
    show upd w.G p o b = none
    rw [upd_ne (ne_own I h z)]; exact (I.so b z).1
theorem Fin.newO (I : Fin Φ Z s w) (h : w.H p = none) : Cont Z w (w.set p o) s fun _ => False := by
  have hG := I.noG h
  have so := own_new (o := o) I h (.refl w.F) (sub_set I.wd.fh (I.noF h))
  have hb : ∀ b u, w.H b = some u → b ≠ p := fun b u q z => by rw [z, h] at q; cases q
  refine ⟨I.wd.fg, sub_set I.wd.gh hG, .of (.refl _) (.refl _), fun b u q _ _ => ?_, fun b q => ?_, fun b u q _ _ f => f, fun b u q _ _ f => f, so.1, fun b z => ?_⟩
  · show upd w.H p o b = _
    rw [upd_ne (hb b u q)]; exact q
  · by_cases z : b = p
    · rw [z]; exact h
    · have q : upd w.H p o b = none := q
      rw [upd_ne z] at q; exact q
  · have z : Z.own w.H b := (so.2 b).mp z
    exact ⟨(I.so b z).1, .inl z⟩
theorem In.new (I : In c Φ Z γ s w σ) (h : w.H p = none) : In c Φ Z γ s (w.new p o) σ := I.cont0 (I.fin.new h)
theorem In.newG (I : In c Φ Z γ s w σ) (h : w.H p = none) : In c Φ Z γ s (w.newG p o) σ := I.cont0 (I.fin.newG h)
theorem In.newO (I : In c Φ Z γ s w σ) (h : w.H p = none) : In c Φ Z γ s (w.set p o) σ := I.cont0 (I.fin.newO h)
theorem Fin.fresh (I : Fin Φ Z s w) (h : w.H p = none) : Fresh Φ p := .inr (I.wd.has p h)
/-- an object of one's own changes -/
theorem Fin.chg (I : Fin Φ Z s w) (h : Mine c Φ Z w a d) : Fin Φ Z s (w.set a o) ∧ ∀ b, Z.own (upd w.H a o) b ↔ Z.own w.H b := by
  obtain ⟨u, hu⟩ := h.ow.has
  have so : Z.rep w.F (upd w.H a o) s ∧ ∀ b, Z.own (upd w.H a o) b ↔ Z.own w.H b := by
    refine Z.stay I.rep (.refl _) (sub_set I.wd.fh (I.wd.fg.has h.ng)) fun b u z q => ?_
    rw [upd_ne (fun e : b = a => h.ns (by rw [← e]; exact z))]
    exact q
  refine ⟨⟨⟨I.wd.fg, sub_set I.wd.gh h.ng, I.wd.le, fun b v q n => ?_, fun b q => ?_, I.wd.frF, I.wd.frG⟩, so.1, fun b z => I.so b ((so.2 b).mp z)⟩, so.2⟩
  · show upd w.H a o b = _
    have : b ≠ a := fun e => by
      subst e
      rcases h.fr with z | z
      · exact n z
      · rw [q] at z; cases z
    rw [upd_ne this]; exact I.wd.keep b v q n
  · have q : upd w.H a o b = none := q
    by_cases z : b = a
    · rw [z, upd_same] at q; cases q
    · rw [upd_ne z] at q; exact I.wd.has b q
theorem Mine.chg {d' : D} (I : Fin Φ Z s w) (h : Mine c Φ Z w a d) (k : Ow c (w.set a o) a d') : Mine c Φ Z (w.set a o) a d' :=
  ⟨k, h.ng, h.fr, fun z => h.ns (((I.chg (o := o) h).2 a).mp z)⟩
theorem In.chg {d' : D} {i : Nat} (I : In c Φ Z γ s w σ) (hi : γ[i]? = some (.ow d)) (hs : σ[i]? = some (some (.ref a))) (k : Ow c (w.set a o) a d') : In c Φ Z (γ.set i (.ow d')) s (w.set a o) σ := by
  have hm : Mine c Φ Z w a d := by
    obtain ⟨a', e, r⟩ := I.sl i _ _ hi hs
    cases e; exact r
  have F := I.fin.chg (o := o) hm
  have hil : i < γ.length := (List.getElem?_eq_some_iff.mp hi).1
  refine ⟨F.1, by rw [List.length_set]; exact I.ln, fun j x ov hx ho => ?_, fun j l e f b h1 h2 h3 h4 => ?_⟩
  · by_cases hj : j = i
    · subst hj
      rw [List.getElem?_set_self hil] at hx
      cases hx
      rw [hs] at ho; cases ho
      exact ⟨a, rfl, hm.chg I.fin k⟩
    · rw [List.getElem?_set_ne (Ne.symm hj)] at hx
      have q := I.sl j x ov hx ho
      cases x with
      | un => trivial
      | fz d => exact q
      | bo d => exact q
      | sh d => exact q
      | st => exact q
      | st2 => exact q
      | ow e =>
        obtain ⟨b, e1, r⟩ := q
        subst e1
        have nb : b ≠ a := fun z => by subst z; exact hj (I.ds j i _ _ b hx hi ho hs)
        exact ⟨b, rfl, r.ow.keep (.refl _) (fun u q => by show upd w.H a o b = _; rw [upd_ne nb]; exact q), r.ng, r.fr, fun z => r.ns ((F.2 b).mp z)⟩
  · have g : ∀ (m : Nat) (f : D), (γ.set i (.ow d'))[m]? = some (.ow f) → ∃ f', γ[m]? = some (.ow f') := fun m f h => by
      by_cases hm : m = i
      · rw [hm]; exact ⟨_, hi⟩
      · rw [List.getElem?_set_ne (Ne.symm hm)] at h; exact ⟨_, h⟩
    obtain ⟨e', h1⟩ := g j e h1
    obtain ⟨f', h2⟩ := g l f h2
    exact I.ds j l e' f' b h1 h2 h3 h4
/-- a value is stored -/
theorem In.put {i : Nat} {x : Sl} {v : V} (I : In c Φ Z γ s w σ) (hn : ∀ d, x ≠ .ow d) (h : SlOk c Φ Z w (some v) x) : In c Φ Z (γ.set i x) s w (σ.set i (some v)) := by
  refine ⟨I.fin, by rw [List.length_set, List.length_set]; exact I.ln, fun j y ov hy ho => ?_, fun j l e f b h1 h2 h3 h4 => ?_⟩
  · by_cases hj : j = i
    · subst hj
      have hil : j < γ.length := by
        have := (List.getElem?_eq_some_iff.mp hy).1
        rwa [List.length_set] at this
      rw [List.getElem?_set_self hil] at hy
      rw [List.getElem?_set_self (by rw [I.ln]; exact hil)] at ho
      cases hy; cases ho
      exact h
    · rw [List.getElem?_set_ne (Ne.symm hj)] at hy ho
      exact I.sl j y ov hy ho
  · have g : ∀ (m : Nat) (f : D), (γ.set i x)[m]? = some (.ow f) → m ≠ i ∧ γ[m]? = some (.ow f) := fun m f h => by
      by_cases hm : m = i
      · subst hm
        have hil : m < γ.length := by
          have := (List.getElem?_eq_some_iff.mp h).1
          rwa [List.length_set] at this
        rw [List.getElem?_set_self hil] at h
        cases h
        exact absurd rfl (hn f)
      · rw [List.getElem?_set_ne (Ne.symm hm)] at h; exact ⟨hm, h⟩
    obtain ⟨n1, h1⟩ := g j e h1
    obtain ⟨n2, h2⟩ := g l f h2
    rw [List.getElem?_set_ne (Ne.symm n1)] at h3
    rw [List.getElem?_set_ne (Ne.symm n2)] at h4
    exact I.ds j l e f b h1 h2 h3 h4
/-- an object of one's own is stored: it is no other slot's -/
theorem In.putO {i : Nat} {d : D} (I : In c Φ Z γ s w σ) (h : Mine c Φ Z w a d) (na : ∀ (j : Nat) (e : D), γ[j]? = some (.ow e) → σ[j]? ≠ some (some (.ref a))) : In c Φ Z (γ.set i (.ow d)) s w (σ.set i (some (.ref a))) := by
  refine ⟨I.fin, by rw [List.length_set, List.length_set]; exact I.ln, fun j y ov hy ho => ?_, fun j l e f b h1 h2 h3 h4 => ?_⟩
  · by_cases hj : j = i
    · subst hj
      have hil : j < γ.length := by
        have := (List.getElem?_eq_some_iff.mp hy).1
        rwa [List.length_set] at this
      rw [List.getElem?_set_self hil] at hy
      rw [List.getElem?_set_self (by rw [I.ln]; exact hil)] at ho
      cases hy; cases ho
      exact ⟨a, rfl, h⟩
    · rw [List.getElem?_set_ne (Ne.symm hj)] at hy ho
      exact I.sl j y ov hy ho
  · by_cases hj : j = i
    · by_cases hl : l = i
      · rw [hj, hl]
      · subst hj
        have hil : j < σ.length := by
          have := (List.getElem?_eq_some_iff.mp h3).1
          rwa [List.length_set] at this
        rw [List.getElem?_set_self hil] at h3
        cases h3
        rw [List.getElem?_set_ne (Ne.symm hl)] at h2 h4
        exact absurd h4 (na l f h2)
    · rw [List.getElem?_set_ne (Ne.symm hj)] at h1 h3
      by_cases hl : l = i
      · subst hl
        have hil : l < σ.length := by
          have := (List.getElem?_eq_some_iff.mp h4).1
          rwa [List.length_set] at this
        rw [List.getElem?_set_self hil] at h4
        cases h4
        exact absurd h3 (na j e h1)
      · rw [List.getElem?_set_ne (Ne.symm hl)] at h2 h4
        exact I.ds j l e f b h1 h2 h3 h4
/-- less is known -/
def Lek : List Sl → List Sl → Prop
  | [], [] => True
  | x :: γ, y :: γ' => (y = .un ∨ x = y) ∧ Lek γ γ'
  | _, _ => False
theorem Lek.get : ∀ {γ γ' : List Sl} {i : Nat} {y : Sl}, Lek γ γ' → γ'[i]? = some y → y = .un ∨ γ[i]? = some y
  | [], [], _, _, _, h => by cases h
  | [], _ :: _, _, _, h, _ => h.elim
  | _ :: _, [], _, _, h, _ => h.elim
  | _ :: _, _ :: _, 0, _, h, e => by
    cases e
    rcases h.1 with q | q
    · exact .inl q
    · exact .inr (by rw [q]; rfl)
  | _ :: _, _ :: _, i + 1, _, h, e => by
    rw [List.getElem?_cons_succ] at e ⊢
    exact Lek.get h.2 e
theorem Lek.len : ∀ {γ γ' : List Sl}, Lek γ γ' → γ.length = γ'.length
  | [], [], _ => rfl
  | [], _ :: _, h => h.elim
  | _ :: _, [], h => h.elim
  | _ :: _, _ :: _, h => by rw [List.length_cons, List.length_cons, Lek.len h.2]
theorem Lek.refl : ∀ γ : List Sl, Lek γ γ
  | [] => trivial
  | _ :: γ => ⟨.inr rfl, Lek.refl γ⟩
theorem In.weak {γ' : List Sl} (I : In c Φ Z γ s w σ) (h : Lek γ γ') : In c Φ Z γ' s w σ := by
  refine ⟨I.fin, I.ln.trans h.len, fun i x o hx ho => ?_, fun i j d e a h1 h2 h3 h4 => ?_⟩
  · rcases h.get hx with q | q
    · subst q; trivial
    · exact I.sl i x o q ho
  · rcases h.get h1 with q | q
    · cases q
    · rcases h.get h2 with q2 | q2
      · cases q2
      · exact I.ds i j d e a q q2 h3 h4
/-- the frame anew: here and now -/
def re (Z : StK) (γ : List Sl) (w : W3) (σ : L2.St) : Fm := ⟨w, fun b => Z.own w.H b ∨ ∃ (i : Nat) (d : D), γ[i]? = some (.ow d) ∧ σ[i]? = some (some (.ref b))⟩
theorem In.re (I : In c Φ Z γ s w σ) : In c (re Z γ w σ) Z γ s w σ := by
  refine ⟨⟨⟨I.fin.wd.fg, I.fin.wd.gh, .refl _, fun _ _ h _ => h, fun _ h => h, fun _ _ _ _ h => h, fun _ _ _ _ h => h⟩, I.fin.rep, fun b z => ⟨(I.fin.so b z).1, .inl (.inl z)⟩⟩, I.ln, fun i x o hx ho => ?_, I.ds⟩
  have h := I.sl i x o hx ho
  cases x with
  | un => trivial
  | fz d => exact h
  | bo d => exact h
  | sh d => exact h
  | st => exact h
  | st2 => exact h
  | ow d =>
    obtain ⟨a, e, r⟩ := h
    subst e
    exact ⟨a, rfl, r.ow, r.ng, .inl (.inr ⟨i, d, hx, ho⟩), r.ns⟩
theorem re_fresh (I : In c Φ Z γ s w σ) {b : Addr} (h : (B.re Z γ w σ).T b) : Fresh Φ b := by
  rcases h with z | ⟨i, d, h1, h2⟩
  · exact (I.fin.so b z).2
  · obtain ⟨a, e, r⟩ := I.sl i _ _ h1 h2
    cases e; exact r.fr
theorem Fresh.re (I : In c Φ Z γ s w σ) {b : Addr} (h : Fresh (B.re Z γ w σ) b) : Fresh Φ b := by
  rcases h with z | z
  · exact re_fresh I z
  · exact .inr (I.fin.wd.has b z)
theorem Wd.ofRe (I : In c Φ Z γ s w σ) (h : Wd (B.re Z γ w σ) w') : Wd Φ w' := by
  have nT : ∀ b o, Φ.w.H b = some o → ¬ Φ.T b → ¬ (B.re Z γ w σ).T b := fun b o h n z => by
    rcases re_fresh I z with q | q
    · exact n q
    · rw [h] at q; cases q
  refine ⟨h.fg, h.gh, I.fin.wd.le.trans h.le, fun b o q n => h.keep b o (I.fin.wd.keep b o q n) (nT b o q n), fun b q => I.fin.wd.has b (h.has b q), fun b o q n f => ?_, fun b o q n f => ?_⟩
  · exact h.frF b o (I.fin.wd.keep b o q n) (nT b o q n) (I.fin.wd.frF b o q n f)
  · exact h.frG b o (I.fin.wd.keep b o q n) (nT b o q n) (I.fin.wd.frG b o q n f)
theorem Fin.ofRe (I : In c Φ Z γ s w σ) (h : Fin (B.re Z γ w σ) Z s' w') : Fin Φ Z s' w' :=
  ⟨h.wd.ofRe I, h.rep, fun b z => ⟨(h.so b z).1, (h.so b z).2.re I⟩⟩
theorem Mine.ofRe (I : In c Φ Z γ s w σ) (h : Mine c (B.re Z γ w σ) Z w' a d) : Mine c Φ Z w' a d := ⟨h.ow, h.ng, h.fr.re I, h.ns⟩
theorem In.ofRe {γ' : List Sl} {σ' : L2.St} (I : In c Φ Z γ s w σ) (h : In c (B.re Z γ w σ) Z γ' s' w' σ') : In c Φ Z γ' s' w' σ' := by
  refine ⟨h.fin.ofRe I, h.ln, fun i x o hx ho => ?_, h.ds⟩
  have q := h.sl i x o hx ho
  cases x with
  | un => trivial
  | fz d => exact q
  | bo d => exact q
  | sh d => exact q
  | st => exact q
  | st2 => exact q
  | ow d =>
    obtain ⟨a, e, r⟩ := q
    exact ⟨a, e, r.ofRe I⟩
end
end B
namespace B
open PySem L2
/-! Q2: the pure operations -/
mutual
def D.dec : (a b : D) → Decidable (a = b)
  | .non, .non => .isTrue rfl
  | .bl a, .bl b => if h : a = b then .isTrue (by rw [h]) else .isFalse fun e => h (D.bl.inj e)
  | .int a, .int b => if h : a = b then .isTrue (by rw [h]) else .isFalse fun e => h (D.int.inj e)
  | .str a, .str b => if h : a = b then .isTrue (by rw [h]) else .isFalse fun e => h (D.str.inj e)
  | .tup a, .tup b => match D.decs a b with
    | .isTrue h => .isTrue (by rw [h])
    | .isFalse h => .isFalse fun e => h (D.tup.inj e)
  | .lst a, .lst b => match D.decs a b with
    | .isTrue h => .isTrue (by rw [h])
    | .isFalse h => .isFalse fun e => h (D.lst.inj e)
  | .dic c a, .dic d b => if hc : c = d then match D.deck a b with
      | .isTrue h => .isTrue (by rw [h, hc])
      | .isFalse h => .isFalse fun e => h (D.dic.inj e).2
    else .isFalse fun e => hc (D.dic.inj e).1
  | .obj c a, .obj d b => if hc : c = d then match D.decs a b with
      | .isTrue h => .isTrue (by rw [h, hc])
      | .isFalse h => .isFalse fun e => h (D.obj.inj e).2
    else .isFalse fun e => hc (D.obj.inj e).1
  | .non, .bl _ | .non, .int _ | .non, .str _ | .non, .tup _ | .non, .lst _ | .non, .dic _ _ | .non, .obj _ _ => .isFalse fun e => nomatch e
  | .bl _, .non | .bl _, .int _ | .bl _, .str _ | .bl _, .tup _ | .bl _, .lst _ | .bl _, .dic _ _ | .bl _, .obj _ _ => .isFalse fun e => nomatch e
  | .int _, .non | .int _, .bl _ | .int _, .str _ | .int _, .tup _ | .int _, .lst _ | .int _, .dic _ _ | .int _, .obj _ _ => .isFalse fun e => nomatch e
  | .str _, .non | .str _, .bl _ | .str _, .int _ | .str _, .tup _ | .str _, .lst _ | .str _, .dic _ _ | .str _, .obj _ _ => .isFalse fun e => nomatch e
  | .tup _, .non | .tup _, .bl _ | .tup _, .int _ | .tup _, .str _ | .tup _, .lst _ | .tup _, .dic _ _ | .tup _, .obj _ _ => .isFalse fun e => nomatch e
  | .lst _, .non | .lst _, .bl _ | .lst _, .int _ | .lst _, .str _ | .lst _, .tup _ | .lst _, .dic _ _ | .lst _, .obj _ _ => .isFalse fun e => nomatch e
  | .dic _ _, .non | .dic _ _, .bl _ | .dic _ _, .int _ | .dic _ _, .str _ | .dic _ _, .tup _ | .dic _ _, .lst _ | .dic _ _, .obj _ _ => .isFalse fun e => nomatch e
  | .obj _ _, .non | .obj _ _, .bl _ | .obj _ _, .int _ | .obj _ _, .str _ | .obj _ _, .tup _ | .obj _ _, .lst _ | .obj _ _, .dic _ _ => .isFalse fun e => nomatch e
def D.decs : (a b : List D) → Decidable (a = b)
  | [], [] => .isTrue rfl
  | [], _ :: _ => .isFalse fun e => nomatch e
  | _ :: _, [] => .isFalse fun e => nomatch e
  | x :: xs, y :: ys => match D.dec x y, D.decs xs ys with
    | .isTrue h, .isTrue k => .isTrue (by rw [h, k])
    | .isFalse h, _ => .isFalse fun e => h (List.cons.inj e).1
    | _, .isFalse k => .isFalse fun e => k (List.cons.inj e).2
def D.deck : (a b : List (D × D)) → Decidable (a = b)
  | [], [] => .isTrue rfl
  | [], _ :: _ => .isFalse fun e => nomatch e
  | _ :: _, [] => .isFalse fun e => nomatch e
  | (x, u) :: xs, (y, v) :: ys => match D.dec x y, D.dec u v, D.deck xs ys with
    | .isTrue h, .isTrue l, .isTrue k => .isTrue (by rw [h, l, k])
    | .isFalse h, _, _ => .isFalse fun e => h (Prod.mk.inj (List.cons.inj e).1).1
    | _, .isFalse h, _ => .isFalse fun e => h (Prod.mk.inj (List.cons.inj e).1).2
    | _, _, .isFalse k => .isFalse fun e => k (List.cons.inj e).2
end
instance : DecidableEq D := D.dec
section
variable {S α : Type}
def lift : Option α → M S α
  | some a => pure a
  | none => M.bad
@[simp] theorem lift_some (a : α) : (lift (some a) : M S α) = pure a := rfl
@[simp] theorem lift_none : (lift none : M S α) = M.bad := rfl
end
def lim : Nat := 100000
/-! ### numbers, texts, sequences -/
def addD : D → D → Option D
  | .int i, .int j => some (.int (i + j))
  | .str i, .str j => if i.length + j.length ≤ lim then some (.str (i ++ j)) else none
  | .lst a, .lst b => if a.length + b.length ≤ lim then some (.lst (a ++ b)) else none
  | .tup a, .tup b => if a.length + b.length ≤ lim then some (.tup (a ++ b)) else none
  | _, _ => none
def subD : D → D → Option D
  | .int i, .int j => some (.int (i - j))
  | _, _ => none
def big : Int := 2 ^ 64
def mulD : D → D → Option D
  | .int i, .int j => if (-big < i ∧ i < big) ∨ (-big < j ∧ j < big) then some (.int (i * j)) else none
  | _, _ => none
def modD : D → D → Option D
  | .int i, .int j => if 0 < j then some (.int (i % j)) else none
  | _, _ => none
def divD : D → D → Option D
  | .int i, .int j => if 0 < j ∧ j < big then some (.int (i / j)) else none
  | _, _ => none
def powD : D → D → Option D
  | .int i, .int j => if 0 ≤ j ∧ j ≤ 1000 ∧ -big < i ∧ i < big then some (.int (i ^ j.toNat)) else none
  | _, _ => none
def shlD : D → D → Option D
  | .int i, .int j => if 0 ≤ j ∧ j ≤ 1000 ∧ -big < i ∧ i < big then some (.int (i * 2 ^ j.toNat)) else none
  | _, _ => none
def negD : D → Option D
  | .int i => some (.int (-i))
  | _ => none
def ltD : D → D → Option D
  | .int i, .int j => some (.bl (decide (i < j)))
  | .str i, .str j => some (.bl (decide (i.cps.toList < j.cps.toList)))
  | _, _ => none
def gtD (x y : D) : Option D := ltD y x
def leD : D → D → Option D
  | .int i, .int j => some (.bl (decide (i ≤ j)))
  | .str i, .str j => some (.bl (!decide (j.cps.toList < i.cps.toList)))
  | _, _ => none
def geD (x y : D) : Option D := leD y x
/-! ### plain data -/
mutual
def D.toP : D → Option PyData
  | .non => some .none
  | .bl b => some (.bool b)
  | .int i => some (.int i)
  | .str s => some (.str s)
  | .tup ds => (D.toPs ds).map .tuple
  | .lst ds => (D.toPs ds).map .list
  | .dic _ _ => none
  | .obj _ _ => none
def D.toPs : List D → Option (List PyData)
  | [] => some []
  | d :: ds => match D.toP d, D.toPs ds with
    | some p, some ps => some (p :: ps)
    | _, _ => none
end
def eqO (x y : D) : Option Bool := match x.toP, y.toP with
  | some a, some b => if a.depth ≤ 60 ∨ b.depth ≤ 60 then some (PyData.eqv a b) else none
  | _, _ => none
def eqD (x y : D) : Option D := (eqO x y).map .bl
def neD (x y : D) : Option D := (eqO x y).map fun b => .bl (!b)
/-! ### dicts -/
def isK : D → Bool
  | .int _ => true
  | .str _ => true
  | _ => false
def isT : D → Bool
  | .tup ds => ds.all isK
  | _ => false
def kindOk (t : Bool) (k : D) : Bool := if t then isT k else isK k
def getK (ks : List (D × D)) (k : D) : Option D := (ks.find? fun p => decide (p.1 = k)).map Prod.snd
def putK' (ks : List (D × D)) (k v : D) : List (D × D) :=
  if (ks.any fun p => decide (p.1 = k)) = true then ks.map (fun p => if p.1 = k then (p.1, v) else p) else ks ++ [(k, v)]
def oneSign (s : Str) : Option Nat := match s.cps.toList with
  | [c] => some c
  | _ => none
def inO (x y : D) : Option Bool := match y with
  | .lst ds => match x.toP, D.toPs ds with
    | some p, some ps => if p.depth ≤ 60 ∨ PyData.depthAll ps ≤ 60 then some (ps.any fun z => PyData.eqv z p) else none
    | _, _ => none
  | .tup ds => match x.toP, D.toPs ds with
    | some p, some ps => if p.depth ≤ 60 ∨ PyData.depthAll ps ≤ 60 then some (ps.any fun z => PyData.eqv z p) else none
    | _, _ => none
  | .str z => match x with
    | .str s => (oneSign s).map fun c => decide (c ∈ z.cps.toList)
    | _ => none
  | .dic t ks => if kindOk t x = true then some (getK ks x).isSome else none
  | _ => none
def inD (x y : D) : Option D := (inO x y).map .bl
def notInD (x y : D) : Option D := (inO x y).map fun b => .bl (!b)
def isNonD (x : D) : Option D := match x with
  | .non => some (.bl true)
  | _ => some (.bl false)
def notNonD (x : D) : Option D := match x with
  | .non => some (.bl false)
  | _ => some (.bl true)
/-- x is True, x is False -/
def isBlD (x y : D) : Option D := match x, y with
  | .bl a, .bl b => some (.bl (decide (a = b)))
  | _, _ => none
def isNotBlD (x y : D) : Option D := match x, y with
  | .bl a, .bl b => some (.bl (!decide (a = b)))
  | _, _ => none
def signs (s : Str) : List D := s.cps.toList.map fun c => .str ⟨#[c]⟩
def ixD : D → D → Option D
  | .lst ds, .int i => atI ds i
  | .tup ds, .int i => atI ds i
  | .str s, .int i => if s.length ≤ lim then (atI s.cps.toList i).map fun c => .str ⟨#[c]⟩ else none
  | .dic t ks, k => if kindOk t k = true then getK ks k else none
  | _, _ => none
def cutL (ds : List D) (lo hi : Option Int) : List D := (ds.drop (HT.sIx ds.length 0 lo)).take (HT.sIx ds.length ds.length hi - HT.sIx ds.length 0 lo)
def cutD (d : D) (lo hi : Option Int) : Option D := match d with
  | .lst ds => some (.lst (cutL ds lo hi))
  | .tup ds => some (.tup (cutL ds lo hi))
  | .str s => if s.length ≤ lim then some (.str (cutS s lo hi)) else none
  | _ => none
def partO : D → Option (Option Int)
  | .int i => some (some i)
  | _ => none
def revD : D → Option D
  | .lst ds => some (.lst ds.reverse)
  | .tup ds => some (.tup ds.reverse)
  | .str s => if s.length ≤ lim then some (.str (revS s)) else none
  | _ => none
/-! ### built-ins -/
def lenD : D → Option D
  | .lst ds => some (.int ds.length)
  | .tup ds => some (.int ds.length)
  | .dic _ ks => some (.int ks.length)
  | .str s => if s.length ≤ lim then some (.int s.length) else none
  | _ => none
def absD : D → Option D
  | .int i => some (.int (if i < 0 then -i else i))
  | _ => none
def intD : D → Option D
  | .int i => some (.int i)
  | .bl k => some (.int (if k then 1 else 0))
  | .str s => if s.length ≤ 640 then (PySem.intText? s).map .int else none
  | _ => none
def strD : D → Option D
  | .int i => if -big < i ∧ i < big then some (.str (toString i)) else none
  | _ => none
def intsO : List D → Option (List Int)
  | [] => some []
  | .int i :: ds => (intsO ds).map (i :: ·)
  | _ :: _ => none
def strsO : List D → Option (List Str)
  | [] => some []
  | .str s :: ds => (strsO ds).map (s :: ·)
  | _ :: _ => none
def blsO : List D → Option (List Bool)
  | [] => some []
  | .bl b :: ds => (blsO ds).map (b :: ·)
  | _ :: _ => none
def maxI : List Int → Int
  | [] => 0
  | [i] => i
  | i :: is => max i (maxI is)
def minI : List Int → Int
  | [] => 0
  | [i] => i
  | i :: is => min i (minI is)
def seqO : D → Option (List D)
  | .lst ds => some ds
  | .tup ds => some ds
  | _ => none
def sumD : D → Option D
  | .lst ds => (intsO ds).map fun ns => .int ns.sum
  | _ => none
def maxD : D → Option D
  | .lst ds => match intsO ds with
    | some (i :: is) => some (.int (maxI (i :: is)))
    | _ => none
  | _ => none
def minD : D → Option D
  | .lst ds => match intsO ds with
    | some (i :: is) => some (.int (minI (i :: is)))
    | _ => none
  | _ => none
def max2D : D → D → Option D
  | .int i, .int j => some (.int (if j > i then j else i))
  | _, _ => none
def min2D : D → D → Option D
  | .int i, .int j => some (.int (if j < i then j else i))
  | _, _ => none
def allD : D → Option D
  | .lst ds => (blsO ds).map fun bs => .bl (bs.all id)
  | _ => none
def anyD : D → Option D
  | .lst ds => (blsO ds).map fun bs => .bl (bs.any id)
  | _ => none
/-- what a for walks -/
def itemsD : D → Option (List D)
  | .lst ds => some ds
  | .tup ds => some ds
  | .str s => some (signs s)
  | _ => none
def listD (d : D) : Option D := (itemsD d).map .lst
def tupleD (d : D) : Option D := (itemsD d).map .tup
def pairs2 (xs ys : List D) : List D := (xs.zip ys).map fun p => .tup [p.1, p.2]
def rangeL (n : Int) : List D := (List.range n.toNat).map fun i => .int (i : Nat)
/-- items of one kind, to be sorted -/
def dataLeP (x y : PyData) : Bool := PySem.W.dataLe false id x y
def sortP (ds : List D) : Option (List D) := match D.toPs ds with
  | some ps => some (((ds.zip ps).mergeSort (PySem.W.dataLe false Prod.snd)).map Prod.fst)
  | none => none
/-! ### loops -/
section
variable {S β : Type}
inductive Fl (β : Type) where
  | nx (b : β)
  | rt (d : D)
def onFl {α : Type} (k : β → M S α) (g : D → M S α) : Fl β → M S α
  | .nx b => k b
  | .rt d => g d
@[simp] theorem onFl_nx {α : Type} (k : β → M S α) (g : D → M S α) (b : β) : onFl k g (.nx b) = k b := rfl
@[simp] theorem onFl_rt {α : Type} (k : β → M S α) (g : D → M S α) (d : D) : onFl k g (.rt d) = g d := rfl
def forN : List D → (D → β → M S β) → β → M S β
  | [], _, b => pure b
  | x :: xs, f, b => f x b >>= fun b' => forN xs f b'
def forF : List D → (D → β → M S (Fl β)) → β → M S (Fl β)
  | [], _, b => pure (.nx b)
  | x :: xs, f, b => f x b >>= fun r => onFl (fun b' => forF xs f b') (fun d => pure (.rt d)) r
/-- nothing is raised -/
def noErr {α : Type} (m : M S α) : M S α := fun s => match m s with
  | .ok a s' => .ok a s'
  | _ => .bad
@[simp] theorem noErr_pure {α : Type} (a : α) : (noErr (pure a) : M S α) = pure a := rfl
@[simp] theorem noErr_bad {α : Type} : (noErr M.bad : M S α) = M.bad := rfl
theorem noErr_ok {α : Type} {m : M S α} {a : α} {s s' : S} (h : m s = .ok a s') : noErr m s = .ok a s' := by simp [noErr, h]
/-- a list by for: what each item gives (none: left out) -/
def compM : List D → (D → M S (Option D)) → M S (List D)
  | [], _ => pure []
  | x :: xs, f => noErr (f x) >>= fun r => compM xs f >>= fun rs => match r with
    | some d => pure (d :: rs)
    | none => pure rs
def compL (xs : List D) (f : D → M S (Option D)) : M S (List D) := if xs.length ≤ lim then compM xs f else M.bad
def whileN : Nat → (β → M S Bool) → (β → M S β) → β → M S β
  | 0, _, _, _ => M.bad
  | n + 1, c, f, b => c b >>= fun t => if t = true then f b >>= fun b' => whileN n c f b' else pure b
end
end B
namespace B
open PySem L2
open PySem.Spec PyProof.Rows
/-! Q3: the rules for operators and built-ins over pure data -/
inductive Sc : V → D → Prop
  | non : Sc .non .non
  | bl (b : Bool) : Sc (.bl b) (.bl b)
  | int (i : Int) : Sc (.int i) (.int i)
  | str (s : Str) : Sc (.str s) (.str s)
theorem Sc.rp {c : Ct} {F : Hp} {v : V} {d : D} (h : Sc v d) : Rp c F v d := by
  cases h with
  | non => exact .non
  | bl b => exact .bl b
  | int i => exact .int i
  | str s => exact .str s
def rX2 (c : Ct) (g : D → D → Option D) : R2 := fun x y H Q => ∃ a b d v, Rp c H x a ∧ Rp c H y b ∧ g a b = some d ∧ Sc v d ∧ Q v H
def rX1 (c : Ct) (g : D → Option D) : V → Hp → VK → Prop := fun x H Q => ∃ a d v, Rp c H x a ∧ g a = some d ∧ Sc v d ∧ Q v H
def rC1 (c : Ct) (g : D → Option D) : List V → Hp → VK → Prop := fun xs H Q => ∃ x a d v, xs = [x] ∧ Rp c H x a ∧ g a = some d ∧ Sc v d ∧ Q v H
def rC2 (c : Ct) (g : D → D → Option D) : List V → Hp → VK → Prop := fun xs H Q => ∃ x y a b d v, xs = [x, y] ∧ Rp c H x a ∧ Rp c H y b ∧ g a b = some d ∧ Sc v d ∧ Q v H
section
variable {X : Cx} {c : Ct} {r r' : R2} {f : Value → Value → Sem Value}
theorem OpR.or (h : OpR X f r) (h' : OpR X f r') : OpR X f (fun x y H Q => r x y H Q ∨ r' x y H Q) := fun pins s σ H x y v u Q I rx ry q => q.elim (fun q => h pins s σ H x y v u Q I rx ry q) fun q => h' pins s σ H x y v u Q I rx ry q
theorem IxR.or (h : IxR X r) (h' : IxR X r') : IxR X (fun x y H Q => r x y H Q ∨ r' x y H Q) := fun va sl pins s σ H x y v u Q I rx ry q => q.elim (fun q => h va sl pins s σ H x y v u Q I rx ry q) fun q => h' va sl pins s σ H x y v u Q I rx ry q
theorem Sc.inj {v v' : V} {d : D} (h : Sc v d) (h' : Sc v' d) : v = v' := by cases h <;> cases h' <;> rfl
/-! ### plain data -/
section
variable {H : Hp}
mutual
theorem Rp.dp : ∀ {v : V} {d : D} {p : PyData}, Rp c H v d → d.toP = some p → Dp c.K H v p
  | _, .non, _, .non, e => by cases e; exact .non
  | _, .bl b, _, .bl _, e => by cases e; exact .bl _
  | _, .int i, _, .int _, e => by cases e; exact .int _
  | _, .str s, _, .str _, e => by cases e; exact .str _
  | _, .tup ds, p, .tup h k, e => by
    unfold D.toP at e
    cases q : D.toPs ds with
    | none => rw [q] at e; cases e
    | some ps => rw [q] at e; cases e; exact .tup (SqT.of h) (RpA.dp k q)
  | _, .lst ds, p, .lst h k, e => by
    unfold D.toP at e
    cases q : D.toPs ds with
    | none => rw [q] at e; cases e
    | some ps => rw [q] at e; cases e; exact .lst (SqL.of h) (RpA.dp k q)
  | _, .dic _ _, _, _, e => by unfold D.toP at e; cases e
  | _, .obj _ _, _, _, e => by unfold D.toP at e; cases e
theorem RpA.dp : ∀ {vs : List V} {ds : List D} {ps : List PyData}, RpA c H vs ds → D.toPs ds = some ps → DpAll c.K H vs ps
  | _, [], _, .nil, e => by unfold D.toPs at e; cases e; exact .nil
  | _, d :: ds, ps, .cons h k, e => by
    unfold D.toPs at e
    cases q : D.toP d with
    | none => rw [q] at e; cases e
    | some p =>
      cases q2 : D.toPs ds with
      | none => rw [q, q2] at e; cases e
      | some ps' => rw [q, q2] at e; cases e; exact .cons (Rp.dp h q) (RpA.dp k q2)
end
end
/-! ### dicts -/
theorem kD_inj {k k' : Key} (h : kD k = kD k') : k = k' := by
  cases k <;> cases k' <;> cases h <;> rfl
theorem kDs_inj : ∀ {k k' : List Key}, k.map kD = k'.map kD → k = k'
  | [], [], _ => rfl
  | [], _ :: _, h => by cases h
  | _ :: _, [], h => by cases h
  | a :: k, b :: k', h => by
    rw [List.map_cons, List.map_cons] at h
    rw [kD_inj (List.cons.inj h).1, kDs_inj (List.cons.inj h).2]
theorem kTD_inj {k k' : List Key} (h : kTD k = kTD k') : k = k' := kDs_inj (D.tup.inj h)
theorem key_of_isK {H : Hp} {v : V} {d : D} (h : Rp c H v d) (k : isK d = true) : ∃ x : Key, v = kV x ∧ d = kD x := by
  cases h with
  | int i => exact ⟨.inl i, rfl, rfl⟩
  | str s => exact ⟨.inr s, rfl, rfl⟩
  | _ => cases k
theorem keys_of_isK {H : Hp} : ∀ {vs : List V} {ds : List D}, RpA c H vs ds → ds.all isK = true → ∃ x : List Key, vs = x.map kV ∧ ds = x.map kD
  | _, _, .nil, _ => ⟨[], rfl, rfl⟩
  | _, _, .cons h k, e => by
    rw [List.all_cons, Bool.and_eq_true] at e
    obtain ⟨x, rfl, rfl⟩ := key_of_isK h e.1
    obtain ⟨xs, rfl, rfl⟩ := keys_of_isK k e.2
    exact ⟨x :: xs, rfl, rfl⟩
theorem key_of_isT {H : Hp} {v : V} {d : D} (h : Rp c H v d) (k : isT d = true) : ∃ (b : Addr) (x : List Key), v = .ref b ∧ H b = some (.tup (x.map kV)) ∧ d = kTD x := by
  cases h with
  | @tup a xs ds h1 h2 =>
    obtain ⟨x, rfl, rfl⟩ := keys_of_isK h2 k
    exact ⟨a, x, rfl, h1, rfl⟩
  | _ => cases k
section
variable {κ : Type} [DecidableEq κ] {k2 : κ → D} {H : Hp}
/-- the pure dict beside the tracked one -/
theorem find_rel (inj : ∀ a b, k2 a = k2 b → a = b) : ∀ {kvs : List (κ × V)} {ks : List (D × D)}, (kvs.map fun p => k2 p.1) = ks.map Prod.fst → RpA c H (kvs.map Prod.snd) (ks.map Prod.snd) → ∀ k : κ,
    (∀ d, getK ks (k2 k) = some d → ∃ v, valV kvs k = some v ∧ Rp c H v d) ∧ (getK ks (k2 k) = none → valV kvs k = none)
  | [], [], _, _, _ => ⟨fun _ h => (by cases h), fun _ => rfl⟩
  | [], _ :: _, h, _, _ => by cases h
  | _ :: _, [], h, _, _ => by cases h
  | (a, v) :: kvs, (d, e) :: ks, h, r, k => by
    rw [List.map_cons, List.map_cons] at h
    have h1 : k2 a = d := (List.cons.inj h).1
    have h2 := (List.cons.inj h).2
    cases r with
    | cons r1 r2 =>
      have ih := find_rel inj h2 r2 k
      by_cases q : a = k
      · subst q
        have e1 : getK ((d, e) :: ks) (k2 a) = some e := by simp [getK, h1]
        have e2 : valV ((a, v) :: kvs) a = some v := by simp [valV]
        rw [e1, e2]
        exact ⟨fun d' z => by cases z; exact ⟨v, rfl, r1⟩, fun z => by cases z⟩
      · have nd : ¬ d = k2 k := fun z => q (inj _ _ (h1.trans z))
        have e1 : getK ((d, e) :: ks) (k2 k) = getK ks (k2 k) := by simp [getK, nd]
        have e2 : valV ((a, v) :: kvs) k = valV kvs k := by simp [valV, q]
        rw [e1, e2]
        exact ih
end
end
end B
namespace B
open PySem L2
open PySem.Spec PyProof.Rows
/-! Q4: more rules by values -/
section
variable {X : Cx} {c : Ct}
theorem CallR.or {f : Value} {r r' : List V → Hp → VK → Prop} (h : CallR X f r) (h' : CallR X f r') : CallR X f (fun xs H Q => r xs H Q ∨ r' xs H Q) := fun pins s σ H xs us Q I rx q => q.elim (fun q => h pins s σ H xs us Q I rx q) fun q => h' pins s σ H xs us Q I rx q
/-! ### numbers -/
/-! ### + of any kind, subscripts, slices -/
def rAddA (K : PySem.W.Frag) : R2 := fun x y H Q => rI0 (fun i j => .int (i + j)) x y H Q ∨ (∃ i j, x = .str i ∧ y = .str j ∧ i.length + j.length ≤ sizeLine ∧ Q (.str (i ++ j)) H) ∨ rCat x y H Q ∨ rCatA K x y H Q
def rGetA (K : PySem.W.Frag) : R2 := fun x y H Q => rIxL K x y H Q ∨ rIxT K x y H Q ∨ rIxS x y H Q ∨ ∃ a v, x = .ref a ∧ DGet H a y (some v) ∧ Q v H
def rCutA (K : PySem.W.Frag) : V → Option Int → Option Int → Hp → VK → Prop := fun x lo hi H Q => rSlL K x lo hi H Q ∨ rSlA K x lo hi H Q ∨ rSlS x lo hi H Q
end
end B
namespace B
open PySem L2
/-! Q5: expressions and their pure runs -/
inductive Fg where
  | f
  | g
  | s
  | o (i : Nat)
def el : Fg → Fg
  | .g => .g
  | _ => .f
/-- where the items lie -/
def W3.reg (w : W3) : Fg → Hp
  | .g => w.G
  | _ => w.F
def Vl (c : Ct) (γ : List Sl) (w : W3) (σ : L2.St) : Fg → V → D → Prop
  | .f, v, d => Rp c w.F v d
  | .g, v, d => Rp c w.G v d
  | .s, v, d => ∃ a, v = .ref a ∧ OwS c w.F w.G a d
  | .o i, v, d => γ[i]? = some (.ow d) ∧ σ[i]? = some (some v)
def ErrP (c : Ct) (Φ : Fm) (Z : StK) (γ : List Sl) (W : WX) (σ : L2.St) (w : W3) (n : Nat) (ds : List D) (s' : Z.S) : Prop :=
  ∀ (dx : Addr) (vs : List V) (w' : W3), In c Φ Z γ s' w' σ → w.le w' → w'.H dx = some (.xd ((c.ef n).zip vs)) → (vs.length = (c.ef n).length ∧ w'.G dx = none ∧ Φ.w.H dx = none ∧ ¬ Z.own w'.H dx) → RpA c w'.F vs ds → W (.ref (c.ec n)) (some dx) σ w'.H
def Ps {α β : Type} (c : Ct) (Φ : Fm) (Z : StK) (γ : List Sl) (W : WX) (σ : L2.St) (Vp : W3 → β → α → Prop) (w : W3) (o : Out Z.S α) (Q : β → Hp → Prop) : Prop := match o with
  | .ok a s' => ∀ v w', In c Φ Z γ s' w' σ → w.le w' → Vp w' v a → Q v w'.H
  | .err n ds s' => ErrP c Φ Z γ W σ w n ds s'
  | .bad => False
def Eg {α β : Type} (c : Ct) (Z : StK) (γ : List Sl) (W : WX) (Vp : W3 → L2.St → β → α → Prop) (t : L2.St → Hp → (β → Hp → Prop) → Prop) (m : M Z.S α) : Prop :=
  ∀ (Φ : Fm) (s : Z.S) (w : W3) (σ : L2.St) (Q : β → Hp → Prop), In c Φ Z γ s w σ → Ps c Φ Z γ W σ (fun w => Vp w σ) w (m s) Q → t σ w.H Q
abbrev Ev (c : Ct) (Z : StK) (γ : List Sl) (W : WX) (fl : Fg) (t : TE) (m : M Z.S D) : Prop := Eg c Z γ W (fun w σ v d => Vl c γ w σ fl v d) t m
abbrev Et (c : Ct) (Z : StK) (γ : List Sl) (W : WX) (t : TT) (m : M Z.S Bool) : Prop := Eg c Z γ W (fun _ _ b d => b = d) t m
/-- a new object of one's own -/
def Nw (c : Ct) (Φ : Fm) (Z : StK) (γ : List Sl) (w : W3) (σ : L2.St) (v : V) (d : D) : Prop := ∃ a, v = .ref a ∧ Mine c Φ Z w a d ∧ ∀ (j : Nat) (e : D), γ[j]? = some (.ow e) → σ[j]? ≠ some (some (.ref a))
def En (c : Ct) (Z : StK) (γ : List Sl) (W : WX) (t : TE) (m : M Z.S D) : Prop :=
  ∀ (Φ : Fm) (s : Z.S) (w : W3) (σ : L2.St) (Q : VK), In c Φ Z γ s w σ → Ps c Φ Z γ W σ (fun w v d => Nw c Φ Z γ w σ v d) w (m s) Q → t σ w.H Q
section
variable {c : Ct} {Φ : Fm} {Z : StK} {γ : List Sl} {W : WX} {s : Z.S} {w w' : W3} {σ : L2.St} {fl fa fb : Fg} {v : V} {d : D}
theorem Vl.mono (e : w.le w') (h : Vl c γ w σ fl v d) : Vl c γ w' σ fl v d := by
  cases fl with
  | f => exact Rp.mono e.1 h
  | g => exact Rp.mono e.2 h
  | s => obtain ⟨a, e1, r⟩ := h; exact ⟨a, e1, r.mono e.1 e.2⟩
  | o i => exact h
theorem In.own {i : Nat} (I : In c Φ Z γ s w σ) (h : γ[i]? = some (.ow d)) (hs : σ[i]? = some (some v)) : ∃ a, v = .ref a ∧ Mine c Φ Z w a d := by
  obtain ⟨a, e, r⟩ := I.sl i _ _ h hs
  cases e
  exact ⟨a, rfl, r⟩
/-- a list's items -/
theorem Vl.lst {ds : List D} (I : In c Φ Z γ s w σ) (h : Vl c γ w σ fl v (.lst ds)) : ∃ a xs, v = .ref a ∧ w.H a = some (.lst xs) ∧ RpA c (w.reg fl) xs ds := by
  cases fl with
  | f => cases h with | @lst a xs _ h1 h2 => exact ⟨a, xs, rfl, I.fin.wd.fh.lst h1, h2⟩
  | g => cases h with | @lst a xs _ h1 h2 => exact ⟨a, xs, rfl, I.fin.wd.gh.lst h1, h2⟩
  | s =>
    obtain ⟨a, rfl, xs, h1, h2⟩ := h
    exact ⟨a, xs, rfl, I.fin.wd.gh.lst h1, h2⟩
  | o i =>
    obtain ⟨a, rfl, r⟩ := I.own h.1 h.2
    obtain ⟨xs, h1, h2⟩ := r.ow
    exact ⟨a, xs, rfl, h1, h2⟩
theorem Vl.tup {ds : List D} (I : In c Φ Z γ s w σ) (h : Vl c γ w σ fl v (.tup ds)) : ∃ a xs, v = .ref a ∧ w.H a = some (.tup xs) ∧ (w.reg fl) a = some (.tup xs) ∧ RpA c (w.reg fl) xs ds := by
  cases fl with
  | f => cases h with | @tup a xs _ h1 h2 => exact ⟨a, xs, rfl, I.fin.wd.fh.tup h1, h1, h2⟩
  | g => cases h with | @tup a xs _ h1 h2 => exact ⟨a, xs, rfl, I.fin.wd.gh.tup h1, h1, h2⟩
  | s => obtain ⟨a, rfl, r⟩ := h; exact r.elim
  | o i =>
    obtain ⟨a, rfl, r⟩ := I.own h.1 h.2
    exact r.ow.elim
theorem Vl.sc (h : Sc v d) : Vl c γ w σ .f v d := h.rp
theorem Ps.mono {α β : Type} {Vp : W3 → β → α → Prop} {o : Out Z.S α} {Q : β → Hp → Prop} (le : w.le w') (h : Ps c Φ Z γ W σ Vp w o Q) : Ps c Φ Z γ W σ Vp w' o Q := by
  cases o with
  | ok a s' => exact fun v w2 I l q => h v w2 I (le.trans l) q
  | err n ds s' => exact fun dx vs w2 I l h1 h2 h3 => h dx vs w2 I (le.trans l) h1 h2 h3
  | bad => exact h
theorem Eg.seq {α β α' β' : Type} {Vp : W3 → L2.St → β → α → Prop} {Vp' : W3 → β' → α' → Prop} {t : L2.St → Hp → (β → Hp → Prop) → Prop} {m : M Z.S α} {k : α → M Z.S α'} {Q : β' → Hp → Prop} {R : β → Hp → Prop} (h : Eg c Z γ W Vp t m) (I : In c Φ Z γ s w σ)
    (q : Ps c Φ Z γ W σ Vp' w ((m >>= k) s) Q) (f : ∀ a s' v w', In c Φ Z γ s' w' σ → w.le w' → Vp w' σ v a → Ps c Φ Z γ W σ Vp' w' (k a s') Q → R v w'.H) : t σ w.H R := by
  refine h Φ s w σ R I ?_
  cases e : m s with
  | ok a s' =>
    rw [M.bind_ok e] at q
    exact fun v w' I' le vl => f a s' v w' I' le vl (q.mono le)
  | err n ds s' =>
    rw [M.bind_err e] at q
    exact q
  | bad =>
    rw [M.bind_bad e] at q
    exact q
/-- the last step: the answer -/
theorem Ps.ret {α β : Type} {Vp : W3 → β → α → Prop} {Q : β → Hp → Prop} {a : α} {v : β} (I : In c Φ Z γ s w σ) (q : Ps c Φ Z γ W σ Vp w ((pure a : M Z.S α) s) Q) (h : Vp w v a) : Q v w.H := q v w I (.refl w) h
theorem Ps.lift {α β : Type} {Vp : W3 → β → α → Prop} {Q : β → Hp → Prop} {o : Option α} (q : Ps c Φ Z γ W σ Vp w ((B.lift o : M Z.S α) s) Q) : ∃ a, o = some a ∧ Ps c Φ Z γ W σ Vp w ((pure a : M Z.S α) s) Q := by
  cases o with
  | none => exact q.elim
  | some a => exact ⟨a, rfl, q⟩
theorem Ps.liftK {α β α' : Type} {Vp : W3 → β → α → Prop} {Q : β → Hp → Prop} {o : Option α'} {k : α' → M Z.S α} (q : Ps c Φ Z γ W σ Vp w (((B.lift o : M Z.S α') >>= k) s) Q) : ∃ a, o = some a ∧ Ps c Φ Z γ W σ Vp w (k a s) Q := by
  cases o with
  | none => exact q.elim
  | some a => exact ⟨a, rfl, q⟩
/-! ### names, constants -/
theorem In.slot {i : Nat} {x : Sl} (I : In c Φ Z γ s w σ) (h : γ[i]? = some x) : ∃ o, σ[i]? = some o ∧ SlOk c Φ Z w o x := by
  have hi : i < σ.length := by rw [I.ln]; exact (List.getElem?_eq_some_iff.mp h).1
  exact ⟨σ[i], List.getElem?_eq_getElem hi, I.sl i x _ h (List.getElem?_eq_getElem hi)⟩
/-- what is a scalar may be kept -/
def scO : D → Option D
  | .non => some .non
  | .bl b => some (.bl b)
  | .int i => some (.int i)
  | .str s => some (.str s)
  | _ => none
/-! ### operators with scalar answers -/
variable {t ta tb : TE} {ma mb : M Z.S D} {tt tu : TT} {mt mu : M Z.S Bool} {g : D → D → Option D} {g1 : D → Option D}
/-- the answers of g are scalars -/
def ScG2 (g : D → D → Option D) : Prop := ∀ a b d, g a b = some d → ∃ v, Sc v d
def ScG1 (g : D → Option D) : Prop := ∀ a d, g a = some d → ∃ v, Sc v d
def blO : D → Option Bool
  | .bl b => some b
  | _ => none
end
end B
namespace B
open PySem L2
/-! Q6: argument lists, displays, +, subscripts, slices, built-ins -/
inductive Am where
  | v (fl : Fg)
  | st
  | st2 (i : Nat)
def Vam (c : Ct) (Z : StK) (γ : List Sl) (w : W3) (σ : L2.St) : Am → V → D → Prop
  | .v fl, v, d => Vl c γ w σ fl v d
  | .st, v, d => ∃ p, v = .ref p ∧ Z.at_ p ∧ d = .non
  | .st2 i, v, d => ∃ p, v = .ref p ∧ Z.at2 i p ∧ d = .non
inductive VamA (c : Ct) (Z : StK) (γ : List Sl) (w : W3) (σ : L2.St) : List Am → List V → List D → Prop
  | nil : VamA c Z γ w σ [] [] []
  | cons {m : Am} {ms : List Am} {v : V} {vs : List V} {d : D} {ds : List D} : Vam c Z γ w σ m v d → VamA c Z γ w σ ms vs ds → VamA c Z γ w σ (m :: ms) (v :: vs) (d :: ds)
/-- arguments from the left; mk: the pure run, handed what follows -/
def Ea (c : Ct) (Z : StK) (γ : List Sl) (W : WX) (ms : List Am) (ta : TA) (mk : (List D → M Z.S D) → M Z.S D) : Prop :=
  ∀ (Φ : Fm) (s : Z.S) (w : W3) (σ : L2.St) (Vp : W3 → V → D → Prop) (k : List D → M Z.S D) (Q : VK) (R : List V → Hp → Prop), In c Φ Z γ s w σ → Ps c Φ Z γ W σ Vp w (mk k s) Q →
    (∀ ds s' vs w', In c Φ Z γ s' w' σ → w.le w' → VamA c Z γ w' σ ms vs ds → Ps c Φ Z γ W σ Vp w' (k ds s') Q → R vs w'.H) → ta σ w.H R
section
variable {c : Ct} {Φ : Fm} {Z : StK} {γ : List Sl} {W : WX} {s : Z.S} {w w' : W3} {σ : L2.St} {fl fa fb : Fg} {v : V} {d : D} {te ta tb : TE} {ma mb : M Z.S D} {tr : TA} {mk : (List D → M Z.S D) → M Z.S D} {ms : List Am}
theorem Vam.mono {m : Am} (e : w.le w') (h : Vam c Z γ w σ m v d) : Vam c Z γ w' σ m v d := by
  cases m with
  | v fl => exact Vl.mono e h
  | st => exact h
  | st2 => exact h
/-! ### displays -/
def allF (n : Nat) : List Am := List.replicate n (.v .f)
theorem VamA.rp : ∀ {ms : List Am} {vs : List V} {ds : List D}, (∀ m ∈ ms, m = .v .f) → VamA c Z γ w σ ms vs ds → RpA c w.F vs ds
  | _, _, _, _, .nil => .nil
  | m :: _, _, _, h, .cons h1 h2 => by
    have e := h m List.mem_cons_self
    subst e
    exact .cons h1 (VamA.rp (fun m hm => h m (List.mem_cons_of_mem _ hm)) h2)
theorem VamA.len : ∀ {ms : List Am} {vs : List V} {ds : List D}, VamA c Z γ w σ ms vs ds → vs.length = ms.length ∧ ds.length = ms.length
  | _, _, _, .nil => ⟨rfl, rfl⟩
  | _, _, _, .cons _ h => ⟨by rw [List.length_cons, List.length_cons, (VamA.len h).1], by rw [List.length_cons, List.length_cons, (VamA.len h).2]⟩
def allf : List Am → Bool
  | [] => true
  | .v .f :: ms => allf ms
  | _ => false
def allg : List Am → Bool
  | [] => true
  | .v .f :: ms => allg ms
  | .v .g :: ms => allg ms
  | _ => false
/-! ### + -/
/-- list + list, of one's own -/
def addL : D → D → Option D
  | .lst a, .lst b => if a.length + b.length ≤ lim then some (.lst (a ++ b)) else none
  | _, _ => none
end
end B
namespace B
open PySem L2
open PySem.W (dataLe AllAlike Sortable)
/-! Q7: subscripts, slices, built-ins -/
/-- a dict to be read: its place in H, its values in R -/
def DicAt (c : Ct) (H R : Hp) (a : Addr) : Bool → List (D × D) → Prop
  | false, ks => ∃ kvs : List (Key × V), Rd H a (.dK kvs) ∧ (kvs.map fun p => kD p.1) = ks.map Prod.fst ∧ RpA c R (kvs.map Prod.snd) (ks.map Prod.snd)
  | true, ks => ∃ kvs : List (List Key × V), Rd H a (.dT kvs) ∧ (kvs.map fun p => kTD p.1) = ks.map Prod.fst ∧ RpA c R (kvs.map Prod.snd) (ks.map Prod.snd)
section
variable {c : Ct} {Φ : Fm} {Z : StK} {γ : List Sl} {W : WX} {s : Z.S} {w w' : W3} {σ : L2.St} {fl fa fb : Fg} {v : V} {d : D} {te ta tb : TE} {ma mb : M Z.S D} {tr : TA} {mk : (List D → M Z.S D) → M Z.S D} {ms : List Am} {tK : PySem.W.Frag}
theorem DicAt.get {H R : Hp} {a : Addr} {y : V} {t : Bool} {ks : List (D × D)} {k : D} (h : DicAt c H R a t ks) (hy : Rp c H y k) (kk : kindOk t k = true) :
    ∃ o, DGet H a y o ∧ (∀ d, getK ks k = some d → ∃ v, o = some v ∧ Rp c R v d) ∧ (getK ks k = none → o = none) := by
  cases t with
  | false =>
    obtain ⟨kvs, h1, h2, h3⟩ := h
    obtain ⟨x, rfl, rfl⟩ := key_of_isK hy kk
    have f := find_rel (k2 := kD) (fun _ _ => kD_inj) h2 h3 x
    exact ⟨valV kvs x, .inl ⟨kvs, x, h1, rfl, rfl⟩, f.1, f.2⟩
  | true =>
    obtain ⟨kvs, h1, h2, h3⟩ := h
    obtain ⟨b, x, rfl, hb, rfl⟩ := key_of_isT hy kk
    have f := find_rel (k2 := kTD) (fun _ _ => kTD_inj) h2 h3 x
    exact ⟨valV kvs x, .inr ⟨kvs, x, b, h1, rfl, hb, rfl⟩, f.1, f.2⟩
theorem Rp.dicAt {F H : Hp} {t : Bool} {ks : List (D × D)} (e : Sub F H) (h : Rp c F v (.dic t ks)) : ∃ a, v = .ref a ∧ DicAt c H F a t ks := by
  cases h with
  | @dK a kvs _ h1 h2 h3 => exact ⟨a, rfl, kvs, e.rd h1, h2, h3⟩
  | @dT a kvs _ h1 h2 h3 => exact ⟨a, rfl, kvs, e.rd h1, h2, h3⟩
theorem Vl.dic {t : Bool} {ks : List (D × D)} (I : In c Φ Z γ s w σ) (h : Vl c γ w σ fl v (.dic t ks)) : ∃ a, v = .ref a ∧ DicAt c w.H (w.reg fl) a t ks := by
  cases fl with
  | f => exact Rp.dicAt I.fin.wd.fh h
  | g => exact Rp.dicAt I.fin.wd.gh h
  | s =>
    obtain ⟨a, rfl, r⟩ := h
    cases t with
    | false => obtain ⟨kvs, h1, h2, h3⟩ := r; exact ⟨a, rfl, kvs, I.fin.wd.gh.rd h1, h2, h3⟩
    | true => obtain ⟨kvs, h1, h2, h3⟩ := r; exact ⟨a, rfl, kvs, I.fin.wd.gh.rd h1, h2, h3⟩
  | o i =>
    obtain ⟨a, rfl, r⟩ := I.own h.1 h.2
    have k := r.ow
    cases t with
    | false => obtain ⟨kvs, h1, h2, h3⟩ := k; exact ⟨a, rfl, kvs, .inl h1, h2, h3⟩
    | true => obtain ⟨kvs, h1, h2, h3⟩ := k; exact ⟨a, rfl, kvs, .inl h1, h2, h3⟩
theorem RpA.atI {F : Hp} {xs : List V} {ds : List D} {i : Int} (h : RpA c F xs ds) (e : L2.atI ds i = some d) : ∃ v, L2.atI xs i = some v ∧ Rp c F v d := by
  unfold L2.atI at e ⊢
  rw [h.length]
  cases q : ixN ds.length i with
  | none => rw [q] at e; cases e
  | some j =>
    rw [q] at e
    exact h.getD e
/-! ### slices -/
abbrev Eo (c : Ct) (Z : StK) (γ : List Sl) (W : WX) (t : TO) (m : M Z.S (Option Int)) : Prop := Eg c Z γ W (fun _ _ b d => b = d) t m
def cutLO (d : D) (lo hi : Option Int) : Option D := match d with
  | .lst ds => some (.lst (cutL ds lo hi))
  | _ => none
def revLO : D → Option D
  | .lst ds => some (.lst ds.reverse)
  | _ => none
def revTO : D → Option D
  | .tup ds => some (.tup ds.reverse)
  | _ => none
def revSO : D → Option D
  | .str z => if z.length ≤ lim then some (.str (revS z)) else none
  | _ => none
/-! ### chains a <= b <= c -/
end
end B
namespace B
open PySem L2
open PySem.Spec PyProof.Rows
open PySem.W (dataLe AllAlike Sortable)
/-! Q8: built-ins -/
section
variable {X : Cx} {c : Ct}
end
section
variable {c : Ct} {Φ : Fm} {Z : StK} {γ : List Sl} {W : WX} {s : Z.S} {w w' : W3} {σ : L2.St} {fl fa fb : Fg} {v : V} {d : D} {te ta tb : TE} {ma mb : M Z.S D} {tK : PySem.W.Frag} {g : D → D → Option D} {g1 : D → Option D}
/-! ### scalar answers -/
end
end B
namespace B
open PySem L2
open PySem.Spec PyProof.Rows
open PySem.W (dataLe AllAlike Sortable EachIs)
/-! Q9: list, tuple, sorted, isinstance; what is walked; lists by for -/
def rListQ (K : PySem.W.Frag) : List V → Hp → VK → Prop := fun xs H Q => ∃ p ys, xs = [.ref p] ∧ (SqL K H p ys ∨ SqT K H p ys) ∧ ∀ l, H l = none → Q (.ref l) (upd H l (.lst ys))
def rTupleQ (K : PySem.W.Frag) : List V → Hp → VK → Prop := fun xs H Q => ∃ p ys, xs = [.ref p] ∧ ((SqL K H p ys ∧ ∀ l, H l = none → Q (.ref l) (upd H l (.tup ys))) ∨ (SqT K H p ys ∧ Q (.ref p) H))
def listO : D → Option D
  | .lst ds => some (.lst ds)
  | .tup ds => some (.lst ds)
  | _ => none
def tupO : D → Option D
  | .lst ds => some (.tup ds)
  | .tup ds => some (.tup ds)
  | _ => none
def tupNE : PyData → Bool
  | .tuple (_ :: _) => true
  | _ => false
def noTup : PyData → Bool
  | .tuple _ => false
  | .none => false
  | _ => true
def sortB (ps : List PyData) : Bool := (ps.all fun a => ps.all fun b => PySem.W.alike a b) && (ps.all tupNE || ps.all noTup) && ps.all fun p => decide (p.depth ≤ 60)
def sortL (ds : List D) (ps : List PyData) : List D := ((ds.zip ps).mergeSort (dataLe false Prod.snd)).map Prod.fst
def sortO : D → Option D
  | .lst ds => match D.toPs ds with
    | some ps => if sortB ps = true then some (.lst (sortL ds ps)) else none
    | none => none
  | _ => none
section
variable {c : Ct} {Φ : Fm} {Z : StK} {γ : List Sl} {W : WX} {s : Z.S} {w w' : W3} {σ : L2.St} {fl fa fb : Fg} {v : V} {d : D} {te ta tb : TE} {ma mb : M Z.S D} {tK : PySem.W.Frag}
/-! ### isinstance -/
def tyN : D → Option String
  | .non => some "NoneType"
  | .bl _ => some "bool"
  | .int _ => some "int"
  | .str _ => some "str"
  | .tup _ => some "tuple"
  | .lst _ => some "list"
  | .dic _ _ => some "dict"
  | .obj _ _ => none
def isN (n T : String) : Bool := n == T || (n == "bool" && T == "int")
def isiD (T : String) (d : D) : Option D := (tyN d).map fun n => .bl (isN n T)
def KitT (K : PySem.W.Frag) (T : String) : Prop := ∀ (d : D) (n : String), tyN d = some n → PySem.W.kitOne K (.type n) (.type T) = some (isN n T)
def rIsQ (c : Ct) (T : String) : List V → Hp → VK → Prop := fun xs H Q => ∃ x d n, xs = [x, .ty T] ∧ Rp c H x d ∧ tyN d = some n ∧ Q (.bl (isN n T)) H
/-! ### is None -/
/-! ### what is walked -/
/-- the walk J gives ds, whatever comes later -/
def Wk (c : Ct) (Φ : Fm) (Z : StK) (fl : Fg) (J : It) (ds : List D) (w1 : W3) : Prop :=
  ∀ (γ2 : List Sl) (s2 : Z.S) (w2 : W3) (σ2 : L2.St), In c Φ Z γ2 s2 w2 σ2 → w1.le w2 →
    (∀ i, i < ds.length → J.go i w2.H) ∧ J.stop ds.length w2.H ∧ ∀ (i : Nat) (d : D) (x : V) (H' : Hp), ds[i]? = some d → J.yld i w2.H x H' → ∃ w3 : W3, w3.H = H' ∧ Cont Z w2 w3 s2 (fun _ => False) ∧ Rp c (w3.reg fl) x d
def IvAt (c : Ct) (Φ : Fm) (Z : StK) (γ : List Sl) (W : WX) (fl : Fg) (wi : TI) (m : M Z.S (List D)) : Prop :=
  ∀ (s : Z.S) (w : W3) (σ : L2.St) (R : It → Hp → Prop), In c Φ Z γ s w σ → Ps c Φ Z γ W σ (fun w (J : It) ds => Wk c Φ Z fl J ds w) w (m s) R → wi σ w.H R
def Iv (c : Ct) (Z : StK) (γ : List Sl) (W : WX) (fl : Fg) (wi : TI) (m : M Z.S (List D)) : Prop := ∀ Φ : Fm, IvAt c Φ Z γ W fl wi m
theorem Cont.rfl (I : In c Φ Z γ s w σ) : Cont Z w w s fun _ => False :=
  ⟨I.fin.wd.fg, I.fin.wd.gh, .refl _, fun _ _ h _ _ => h, fun _ h => h, fun _ _ _ _ _ h => h, fun _ _ _ _ _ h => h, I.fin.rep, fun b z => ⟨(I.fin.so b z).1, .inl z⟩⟩
end
end B
namespace B
open PySem L2
open PySem.Spec PyProof.Rows
/-! Q10: walks, targets, lists by for -/
def iAny (K : PySem.W.Frag) (tl : TE) : TI := fun σ H R => tl σ H fun x H1 => (∃ a, x = .ref a ∧ (∃ xs, SqL K H1 a xs) ∧ R (Itl K a) H1) ∨ (∃ a, x = .ref a ∧ (∃ xs, SqT K H1 a xs) ∧ R (Itt K a) H1) ∨ (∃ z, x = .str z ∧ R (Its z) H1)
def rangeO : D → Option (List D)
  | .int n => if -1000000 < n ∧ n < 1000000 then some (rangeL n) else none
  | _ => none
section
variable {c : Ct} {Φ : Fm} {Z : StK} {γ γ' : List Sl} {W : WX} {s s' : Z.S} {w w' : W3} {σ σ' : L2.St} {fl fa fb : Fg} {v : V} {d : D} {te ta tb : TE} {ma mb : M Z.S D} {tK : PySem.W.Frag}
theorem ivpt_seq {α' β' : Type} {Vp' : W3 → β' → α' → Prop} {wi : TI} {m : M Z.S (List D)} {k : List D → M Z.S α'} {Q : β' → Hp → Prop} {R : It → Hp → Prop} (h : ∀ R : It → Hp → Prop, Ps c Φ Z γ W σ (fun w (J : It) ds => Wk c Φ Z fl J ds w) w (m s) R → wi σ w.H R)
    (q : Ps c Φ Z γ W σ Vp' w ((m >>= k) s) Q) (f : ∀ ds s' J w', In c Φ Z γ s' w' σ → w.le w' → Wk c Φ Z fl J ds w' → Ps c Φ Z γ W σ Vp' w' (k ds s') Q → R J w'.H) : wi σ w.H R := by
  refine h R ?_
  cases e : m s with
  | ok a s' =>
    rw [M.bind_ok e] at q
    exact fun v w' I' le vl => f a s' v w' I' le vl (q.mono le)
  | err n ds s' =>
    rw [M.bind_err e] at q
    exact q
  | bad =>
    rw [M.bind_bad e] at q
    exact q
theorem IvAt.seq {α' β' : Type} {Vp' : W3 → β' → α' → Prop} {wi : TI} {m : M Z.S (List D)} {k : List D → M Z.S α'} {Q : β' → Hp → Prop} {R : It → Hp → Prop} (h : IvAt c Φ Z γ W fl wi m) (I : In c Φ Z γ s w σ)
    (q : Ps c Φ Z γ W σ Vp' w ((m >>= k) s) Q) (f : ∀ ds s' J w', In c Φ Z γ s' w' σ → w.le w' → Wk c Φ Z fl J ds w' → Ps c Φ Z γ W σ Vp' w' (k ds s') Q → R J w'.H) : wi σ w.H R := ivpt_seq (fun R => h s w σ R I) q f
theorem Iv.seq {α' β' : Type} {Vp' : W3 → β' → α' → Prop} {wi : TI} {m : M Z.S (List D)} {k : List D → M Z.S α'} {Q : β' → Hp → Prop} {R : It → Hp → Prop} (h : Iv c Z γ W fl wi m) (I : In c Φ Z γ s w σ)
    (q : Ps c Φ Z γ W σ Vp' w ((m >>= k) s) Q) (f : ∀ ds s' J w', In c Φ Z γ s' w' σ → w.le w' → Wk c Φ Z fl J ds w' → Ps c Φ Z γ W σ Vp' w' (k ds s') Q → R J w'.H) : wi σ w.H R := IvAt.seq (h Φ) I q f
/-! ### slots stored and forgotten -/
/-- .. is kept by what runs in the frame anew -/
theorem Mine.stay {a : Addr} {γ2 : List Sl} {σ2 : L2.St} (I : In c Φ Z γ s w σ) (h : Mine c Φ Z w a d) (na : ∀ (j : Nat) (e : D), γ[j]? = some (.ow e) → σ[j]? ≠ some (some (.ref a))) (k : Fin (B.re Z γ w σ) Z s' w') : Mine c Φ Z w' a d := by
  obtain ⟨o, ho⟩ := h.ow.has
  have nT : ¬ (B.re Z γ w σ).T a := fun z => by
    rcases z with z | ⟨i, e, h1, h2⟩
    · exact h.ns z
    · exact na i e h1 h2
  refine ⟨h.ow.keep k.wd.le.1 fun u q => k.wd.keep a u q nT, k.wd.frG a o ho nT h.ng, h.fr, fun z => ?_⟩
  rcases (k.so a z).2 with q | q
  · exact nT q
  · rw [show (B.re Z γ w σ).w.H a = w.H a from rfl, ho] at q; cases q
end
end B
namespace B
open PySem L2
/-! Q11: lists by for -/
def fzl : Fg → D → Sl
  | .g, d => .bo d
  | _, d => .fz d
def WF : WX := fun _ _ _ _ => False
structure TgC (c : Ct) (Z : StK) (γ : List Sl) (fl : Fg) (g : TG) (vs : List Nat) (bnd : D → Option (List Sl)) : Prop where
  run : ∀ (Φ : Fm) (s : Z.S) (w : W3) (σ : L2.St) (x : V) (d : D) (γ' : List Sl) (R : L2.St → Hp → Prop), In c Φ Z γ s w σ → Rp c (w.reg fl) x d → bnd d = some γ' →
    (∀ σ2, In c Φ Z γ' s w σ2 → wipe σ2 vs = wipe σ vs → (∀ (j : Nat) (o : Option V), j ∉ vs → σ[j]? = some o → σ2[j]? = some o) → R σ2 w.H) → g x (wipe σ vs) w.H R
  un : ∀ j ∈ vs, γ[j]? = some .un
  ow : ∀ (d : D) (γ' : List Sl) (j : Nat) (e : D), bnd d = some γ' → γ'[j]? = some (.ow e) → γ[j]? = some (.ow e) ∧ j ∉ vs
  ag : ∀ (d : D) (γ' : List Sl) (j : Nat) (x : Sl), bnd d = some γ' → j ∉ vs → γ[j]? = some x → γ'[j]? = some x
section
variable {c : Ct} {Φ : Fm} {Z : StK} {γ γ' : List Sl} {W : WX} {s s' : Z.S} {w w' : W3} {σ σ' : L2.St} {fl fa fb : Fg} {v : V} {d : D} {te ta tb : TE} {ma mb : M Z.S D} {tK : PySem.W.Frag}
end
end B
namespace B
open PySem L2
/-! Q12: statements and their pure runs -/
/-- what is wanted behind a block, by how its pure run ends -/
structure EK (Z : StK) (α : Type) where
  p : Fm → W3 → Ends → α → Z.S → Prop
  mono : ∀ {Φ : Fm} {w w' : W3} {E : Ends} {a : α} {s : Z.S}, w.le w' → p Φ w E a s → p Φ w' E a s
def SErr (c : Ct) (Φ : Fm) (Z : StK) (γe : List Sl) (W : WX) (w : W3) (n : Nat) (ds : List D) (s' : Z.S) : Prop :=
  ∀ (dx : Addr) (vs : List V) (w' : W3) (σ' : L2.St), In c Φ Z γe s' w' σ' → w.le w' → w'.H dx = some (.xd ((c.ef n).zip vs)) → (vs.length = (c.ef n).length ∧ w'.G dx = none ∧ Φ.w.H dx = none ∧ ¬ Z.own w'.H dx) → RpA c w'.F vs ds → W (.ref (c.ec n)) (some dx) σ' w'.H
def SPs {α : Type} (c : Ct) (Φ : Fm) (Z : StK) (γe : List Sl) (W : WX) (K : EK Z α) (w : W3) (o : Out Z.S α) (E : Ends) : Prop := match o with
  | .ok a s' => K.p Φ w E a s'
  | .err n ds s' => SErr c Φ Z γe W w n ds s'
  | .bad => False
def Sg {α : Type} (c : Ct) (Z : StK) (γ : List Sl) (W : WX) (γe : List Sl) (K : EK Z α) (t : TS) (m : M Z.S α) : Prop :=
  ∀ (Φ : Fm) (s : Z.S) (w : W3) (σ : L2.St) (E : Ends), In c Φ Z γ s w σ → SPs c Φ Z γe W K w (m s) E → t E σ w.H
theorem Sg.app {α : Type} {c : Ct} {Z : StK} {γ : List Sl} {W : WX} {γ' : List Sl} {k : EK Z α} {t : TS} {p : M Z.S α} {Φ : Fm} {s : Z.S} {w : W3} {σ : L2.St} {E : Ends} (h : Sg c Z γ W γ' k t p) (I : In c Φ Z γ s w σ) (q : SPs c Φ Z γ' W k w (p s) E) : t E σ w.H := h Φ s w σ E I q
/-- how an answer lies: for good, or as an object of one's own -/
def Rs (c : Ct) (Φ : Fm) (Z : StK) (rm : Bool) (w : W3) (v : V) (d : D) : Prop := if rm = true then ∃ a, v = .ref a ∧ Mine c Φ Z w a d else Rp c w.F v d
def ekR (c : Ct) (Z : StK) (rm : Bool) : EK Z D where
  p := fun Φ w E d s' => ∀ v w', Fin Φ Z s' w' → w.le w' → Rs c Φ Z rm w' v d → E.rt v w'.H
  mono := fun le h v w' F l r => h v w' F (le.trans l) r
def ekN {β : Type} (c : Ct) (Z : StK) (G : β → List Sl) : EK Z β where
  p := fun Φ w E b s' => ∀ w' σ', In c Φ Z (G b) s' w' σ' → w.le w' → E.nx σ' w'.H
  mono := fun le h w' σ' I l => h w' σ' I (le.trans l)
def ekF {β : Type} (c : Ct) (Z : StK) (G : β → List Sl) (rm : Bool) : EK Z (Fl β) where
  p := fun Φ w E b s' => match b with
    | .nx b => (ekN c Z G).p Φ w E b s'
    | .rt d => (ekR c Z rm).p Φ w E d s'
  mono := fun {Φ w w' E a s} le h => by
    cases a with
    | nx b => exact (ekN c Z G).mono le h
    | rt d => exact (ekR c Z rm).mono le h
section
variable {c : Ct} {Φ : Fm} {Z : StK} {γ γe : List Sl} {W : WX} {s s' : Z.S} {w w' : W3} {σ σ' : L2.St} {fl fa fb : Fg} {v : V} {d : D} {te ta tb : TE} {ma mb : M Z.S D} {tK : PySem.W.Frag} {α β : Type} {K : EK Z α} {E : Ends} {t t1 t2 : TS}
theorem SPs.mono {o : Out Z.S α} (le : w.le w') (h : SPs c Φ Z γe W K w o E) : SPs c Φ Z γe W K w' o E := by
  cases o with
  | ok a s' => exact K.mono le h
  | err n ds s' => exact fun dx vs w2 σ2 I l h1 h2 h3 => h dx vs w2 σ2 I (le.trans l) h1 h2 h3
  | bad => exact h
/-- an expression within a statement -/
theorem Eg.stm {α' β' : Type} {Vp : W3 → L2.St → β' → α' → Prop} {t : L2.St → Hp → (β' → Hp → Prop) → Prop} {m : M Z.S α'} {k : α' → M Z.S α} {R : β' → Hp → Prop} (h : Eg c Z γ W Vp t m) (hk : Lek γ γe) (I : In c Φ Z γ s w σ)
    (q : SPs c Φ Z γe W K w ((m >>= k) s) E) (f : ∀ a s' v w', In c Φ Z γ s' w' σ → w.le w' → Vp w' σ v a → SPs c Φ Z γe W K w' (k a s') E → R v w'.H) : t σ w.H R := by
  refine h Φ s w σ R I ?_
  cases e : m s with
  | ok a s' =>
    rw [M.bind_ok e] at q
    exact fun v w' I' le vl => f a s' v w' I' le vl (q.mono le)
  | err n ds s' =>
    rw [M.bind_err e] at q
    exact fun dx vs w' I' le h1 h2 h3 => q dx vs w' σ (I'.weak hk) le h1 h2 h3
  | bad =>
    rw [M.bind_bad e] at q
    exact q
theorem En.stm {t : TE} {m : M Z.S D} {k : D → M Z.S α} {R : VK} (h : En c Z γ W t m) (hk : Lek γ γe) (I : In c Φ Z γ s w σ)
    (q : SPs c Φ Z γe W K w ((m >>= k) s) E) (f : ∀ a s' v w', In c Φ Z γ s' w' σ → w.le w' → Nw c Φ Z γ w' σ v a → SPs c Φ Z γe W K w' (k a s') E → R v w'.H) : t σ w.H R := by
  refine h Φ s w σ R I ?_
  cases e : m s with
  | ok a s' =>
    rw [M.bind_ok e] at q
    exact fun v w' I' le vl => f a s' v w' I' le vl (q.mono le)
  | err n ds s' =>
    rw [M.bind_err e] at q
    exact fun dx vs w' I' le h1 h2 h3 => q dx vs w' σ (I'.weak hk) le h1 h2 h3
  | bad =>
    rw [M.bind_bad e] at q
    exact q
theorem Iv.stm {wi : TI} {m : M Z.S (List D)} {k : List D → M Z.S α} {R : It → Hp → Prop} (h : Iv c Z γ W fl wi m) (hk : Lek γ γe) (I : In c Φ Z γ s w σ)
    (q : SPs c Φ Z γe W K w ((m >>= k) s) E) (f : ∀ ds s' J w', In c Φ Z γ s' w' σ → w.le w' → Wk c Φ Z fl J ds w' → SPs c Φ Z γe W K w' (k ds s') E → R J w'.H) : wi σ w.H R := by
  refine h Φ s w σ R I ?_
  cases e : m s with
  | ok a s' =>
    rw [M.bind_ok e] at q
    exact fun v w' I' le vl => f a s' v w' I' le vl (q.mono le)
  | err n ds s' =>
    rw [M.bind_err e] at q
    exact fun dx vs w' I' le h1 h2 h3 => q dx vs w' σ (I'.weak hk) le h1 h2 h3
  | bad =>
    rw [M.bind_bad e] at q
    exact q
theorem SPs.liftK {α' : Type} {o : Option α'} {k : α' → M Z.S α} (q : SPs c Φ Z γe W K w (((B.lift o : M Z.S α') >>= k) s) E) : ∃ a, o = some a ∧ SPs c Φ Z γe W K w (k a s) E := by
  cases o with
  | none => exact q.elim
  | some a => exact ⟨a, rfl, q⟩
/-! ### assignments -/
/-! ### the ends of a block -/
/-! ### one after another -/
/-! ### if -/
variable {tt : TT} {mt : M Z.S Bool} {m1 m2 : M Z.S α}
end
end B
namespace B
open PySem L2
/-! Q13: loops, stores -/
structure TgL (c : Ct) (Z : StK) (fl : Fg) (g : TG) (bnd : List Sl → D → Option (List Sl)) : Prop where
  run : ∀ (Φ : Fm) (γ : List Sl) (s : Z.S) (w : W3) (σ : L2.St) (x : V) (d : D) (γ' : List Sl) (R : L2.St → Hp → Prop), In c Φ Z γ s w σ → Rp c (w.reg fl) x d → bnd γ d = some γ' → (∀ σ2, In c Φ Z γ' s w σ2 → R σ2 w.H) → g x σ w.H R
def bN (fl : Fg) (i : Nat) (γ : List Sl) (d : D) : Option (List Sl) := some (γ.set i (fzl fl d))
def bP (fl : Fg) (i j : Nat) (γ : List Sl) (d : D) : Option (List Sl) := match d with
  | .tup [x, y] => some ((γ.set i (fzl fl x)).set j (fzl fl y))
  | _ => none
section
variable {c : Ct} {Φ : Fm} {Z : StK} {γ γe : List Sl} {W : WX} {s s' : Z.S} {w w' : W3} {σ σ' : L2.St} {fl fa fb : Fg} {v : V} {d : D} {te ta tb : TE} {ma mb : M Z.S D} {tK : PySem.W.Frag} {α β : Type} {K : EK Z α} {E : Ends} {t t1 t2 tB : TS}
def onPair {α : Type} {S : Type} (f : D → D → M S α) : D → M S α
  | .tup [x, y] => f x y
  | _ => M.bad
/-! ### lists by for: shorter words -/
end
end B
namespace B
open PySem L2
open PySem.Spec PyProof.Rows
/-! Q14: stores, defs and their calls -/
def rSetA : TSet := fun o i v H Q => rSetL o i v H Q ∨ ∃ a H', o = .ref a ∧ DPut H a i v H' ∧ Q H'
def lstO : D → Option (List D)
  | .lst ds => some ds
  | _ => none
def appL (ds : List D) (d : D) : Option D := if ds.length < lim then some (.lst (ds ++ [d])) else none
def putO : D → D → D → Option D
  | .lst ds, .int i, v => (ixN ds.length i).map fun j => .lst (ds.set j v)
  | .dic t ks, k, v => if kindOk t k = true ∧ ks.length < lim then some (.dic t (putK' ks k v)) else none
  | _, _, _ => none
def popO : D → D → Option (D × D)
  | .lst ds, .int i => if 0 ≤ i ∧ i < ds.length ∧ ds.length ≤ lim then (ds[i.toNat]?).map fun d => (d, .lst (ds.eraseIdx i.toNat)) else none
  | _, _ => none
section
variable {c : Ct} {κ : Type} [DecidableEq κ] {k2 : κ → D} {F : Hp}
end
section
variable {c : Ct} {Φ : Fm} {Z : StK} {γ γe : List Sl} {W : WX} {s s' : Z.S} {w w' : W3} {σ σ' : L2.St} {fl fa fb : Fg} {v : V} {d x y : D} {te ta tb tk : TE} {ma mb mk : M Z.S D} {tK : PySem.W.Frag} {α β : Type} {K : EK Z α} {E : Ends} {t t1 t2 tB : TS}
theorem SPs.set {o : Out Z.S α} {a : Addr} {u : HO} (q : SPs c Φ Z γe W K w o E) : SPs c Φ Z γe W K (w.set a u) o E := SPs.mono (show w.le (w.set a u) from (W3.le.of (.refl _) (.refl _))) q
end
end B
namespace B
open PySem L2
/-! Q15: defs by their pure runs, and their calls -/
inductive Md where
  | fz
  | bo
  | sh
  | st
  | st2 (i : Nat)
  | mv
def ArgOk (c : Ct) (Z : StK) (w : W3) : Md → V → D → Prop
  | .fz, v, d => Rp c w.F v d
  | .bo, v, d => Rp c w.G v d
  | .sh, v, d => ∃ a, v = .ref a ∧ OwS c w.F w.G a d
  | .st, v, d => ∃ p, v = .ref p ∧ Z.at_ p ∧ d = .non
  | .st2 i, v, d => ∃ p, v = .ref p ∧ Z.at2 i p ∧ d = .non
  | .mv, v, d => ∃ a, v = .ref a ∧ Ow c w a d ∧ w.G a = none ∧ ¬ Z.own w.H a
inductive Args (c : Ct) (Z : StK) (w : W3) : List Md → List V → List D → Prop
  | nil : Args c Z w [] [] []
  | cons {m : Md} {ms : List Md} {v : V} {vs : List V} {d : D} {ds : List D} : ArgOk c Z w m v d → Args c Z w ms vs ds → Args c Z w (m :: ms) (v :: vs) (d :: ds)
/-- what is handed over -/
def mvT : List Md → List V → Addr → Prop
  | .mv :: _, .ref a :: _, b => b = a
  | _ :: ms, _ :: vs, b => mvT ms vs b
  | _, _, _ => False
def fmD (Z : StK) (w : W3) (ms : List Md) (vs : List V) : Fm := ⟨w, fun b => Z.own w.H b ∨ mvT ms vs b⟩
def spD (c : Ct) (Z : StK) (ms : List Md) (rm : Bool) (f : List D → M Z.S D) : Sp := fun vs H Q E => ∃ (w : W3) (s : Z.S) (ds : List D), w.H = H ∧ Sub w.F w.G ∧ Sub w.G w.H ∧ Z.rep w.F w.H s ∧ (∀ b, Z.own w.H b → w.G b = none) ∧ Args c Z w ms vs ds ∧
  match f ds s with
  | .ok d s' => ∀ v w', Cont Z w w' s' (mvT ms vs) → Rs c (fmD Z w ms vs) Z rm w' v d → Q v w'.H
  | .err n es s' => ∀ dx xs w', Cont Z w w' s' (mvT ms vs) → w'.H dx = some (.xd ((c.ef n).zip xs)) → (xs.length = (c.ef n).length ∧ w'.G dx = none ∧ w.H dx = none ∧ ¬ Z.own w'.H dx) → RpA c w'.F xs es → E (.ref (c.ec n)) (some dx) w'.H
  | .bad => False
def slA : Md → D → Sl
  | .fz, d => .fz d
  | .bo, d => .bo d
  | .sh, d => .sh d
  | .st, _ => .st
  | .st2 i, _ => .st2 i
  | .mv, d => .ow d
def ini : List Md → List D → Nat → List Sl
  | m :: ms, d :: ds, n => slA m d :: ini ms ds n
  | _, _, n => List.replicate n .un
/-- at most one object is handed over -/
def oneMv : List Md → Bool
  | [] => true
  | .mv :: ms => ms.all fun m => match m with | .mv => false | _ => true
  | _ :: ms => oneMv ms
section
variable {c : Ct} {Z : StK} {w : W3} {ms : List Md} {vs : List V} {ds : List D}
theorem Args.len : ∀ {ms : List Md} {vs : List V} {ds : List D}, Args c Z w ms vs ds → vs.length = ms.length ∧ ds.length = ms.length
  | _, _, _, .nil => ⟨rfl, rfl⟩
  | _, _, _, .cons _ h => ⟨by rw [List.length_cons, List.length_cons, h.len.1], by rw [List.length_cons, List.length_cons, h.len.2]⟩
theorem ini_len : ∀ {ms : List Md} {ds : List D} (n : Nat), ds.length = ms.length → (ini ms ds n).length = ms.length + n
  | [], [], n, _ => by simp [ini]
  | m :: ms, d :: ds, n, h => by
    rw [ini, List.length_cons, List.length_cons, ini_len n (Nat.succ.inj h)]; omega
theorem ini_get : ∀ {ms : List Md} {vs : List V} {ds : List D} {n i : Nat} {x : Sl}, Args c Z w ms vs ds → (ini ms ds n)[i]? = some x → x = .un ∨ ∃ m v d, ms[i]? = some m ∧ vs[i]? = some v ∧ x = slA m d ∧ ArgOk c Z w m v d
  | _, _, _, n, i, x, .nil, h => by
    unfold ini at h
    left
    have := List.mem_of_getElem? h
    exact (List.mem_replicate.mp this).2
  | _, _, _, n, 0, x, .cons (m := m) (v := v) (d := d) h1 h2, h => by
    rw [ini, List.getElem?_cons_zero] at h
    cases h
    exact .inr ⟨m, v, d, rfl, rfl, rfl, h1⟩
  | _, _, _, n, i + 1, x, .cons h1 h2, h => by
    rw [ini, List.getElem?_cons_succ] at h
    rcases ini_get h2 h with q | ⟨m, v, d, a1, a2, a3, a4⟩
    · exact .inl q
    · exact .inr ⟨m, v, d, by rw [List.getElem?_cons_succ]; exact a1, by rw [List.getElem?_cons_succ]; exact a2, a3, a4⟩
theorem mvT_of : ∀ {ms : List Md} {vs : List V} {i : Nat} {a : Addr}, oneMv ms = true → ms[i]? = some .mv → vs[i]? = some (.ref a) → mvT ms vs a
  | [], _, i, _, _, h, _ => by cases i <;> cases h
  | m :: ms, [], i, _, _, _, h => by cases i <;> cases h
  | m :: ms, v :: vs, 0, a, _, h, h' => by cases h; cases h'; rfl
  | m :: ms, v :: vs, i + 1, a, o, h, h' => by
    rw [List.getElem?_cons_succ] at h h'
    cases m with
    | mv =>
      have := (List.all_eq_true.mp o) .mv (List.mem_of_getElem? h)
      cases this
    | fz => exact mvT_of (ms := ms) o h h'
    | bo => exact mvT_of (ms := ms) o h h'
    | sh => exact mvT_of (ms := ms) o h h'
    | st => exact mvT_of (ms := ms) o h h'
    | st2 => exact mvT_of (ms := ms) o h h'
theorem one_mv : ∀ {ms : List Md} {i j : Nat}, oneMv ms = true → ms[i]? = some .mv → ms[j]? = some .mv → i = j
  | [], i, _, _, h, _ => by cases i <;> cases h
  | m :: ms, 0, 0, _, _, _ => rfl
  | m :: ms, 0, j + 1, o, h, h' => by
    cases h
    rw [List.getElem?_cons_succ] at h'
    have := (List.all_eq_true.mp o) .mv (List.mem_of_getElem? h')
    cases this
  | m :: ms, i + 1, 0, o, h, h' => by
    cases h'
    rw [List.getElem?_cons_succ] at h
    have := (List.all_eq_true.mp o) .mv (List.mem_of_getElem? h)
    cases this
  | m :: ms, i + 1, j + 1, o, h, h' => by
    rw [List.getElem?_cons_succ] at h h'
    cases m with
    | mv =>
      have := (List.all_eq_true.mp o) .mv (List.mem_of_getElem? h)
      cases this
    | fz => rw [one_mv (ms := ms) o h h']
    | bo => rw [one_mv (ms := ms) o h h']
    | sh => rw [one_mv (ms := ms) o h h']
    | st => rw [one_mv (ms := ms) o h h']
    | st2 => rw [one_mv (ms := ms) o h h']
/-- the state at a def's entry -/
theorem In.entry {s : Z.S} {n : Nat} (fg : Sub w.F w.G) (gh : Sub w.G w.H) (rep : Z.rep w.F w.H s) (so : ∀ b, Z.own w.H b → w.G b = none) (ha : Args c Z w ms vs ds) (ho : oneMv ms = true) : In c (fmD Z w ms vs) Z (ini ms ds n) s w (vs.map some ++ List.replicate n none) := by
  refine ⟨⟨⟨fg, gh, .refl _, fun _ _ h _ => h, fun _ h => h, fun _ _ _ _ h => h, fun _ _ _ _ h => h⟩, rep, fun b z => ⟨so b z, .inl (.inl z)⟩⟩, ?_, fun i x o hx hv => ?_, fun i j d e a h1 h2 h3 h4 => ?_⟩
  · rw [ini_len n ha.len.2, List.length_append, List.length_map, List.length_replicate, ha.len.1]
  · rcases ini_get ha hx with q | ⟨m, v, d, a1, a2, a3, a4⟩
    · subst q; trivial
    · have hi : i < vs.length := (List.getElem?_eq_some_iff.mp a2).1
      rw [List.getElem?_append_left (by rw [List.length_map]; exact hi), List.getElem?_map, a2] at hv
      cases hv
      subst a3
      cases m with
      | fz => exact ⟨v, rfl, a4⟩
      | bo => exact ⟨v, rfl, a4⟩
      | sh => obtain ⟨a, e, r⟩ := a4; exact ⟨a, by rw [e], r⟩
      | st => obtain ⟨p, e, h, _⟩ := a4; exact ⟨p, by rw [e], h⟩
      | st2 => obtain ⟨p, e, h, _⟩ := a4; exact ⟨p, by rw [e], h⟩
      | mv =>
        obtain ⟨a, e, h1, h2, h3⟩ := a4
        subst e
        exact ⟨a, rfl, h1, h2, .inl (.inr (mvT_of ho a1 a2)), h3⟩
  · have g : ∀ (i : Nat) (d : D), (ini ms ds n)[i]? = some (.ow d) → ms[i]? = some .mv := fun i d h => by
      rcases ini_get ha h with q | ⟨m, v, d', a1, a2, a3, a4⟩
      · cases q
      · cases m with
        | mv => exact a1
        | _ => cases a3
    exact one_mv ho (g i d h1) (g j e h2)
/-! ### calls -/
open Classical in
/-- own slots may be read by the callee -/
noncomputable def lendG (γ : List Sl) (w : W3) (σ : L2.St) : Hp := fun b => if ∃ (i : Nat) (d : D), γ[i]? = some (.ow d) ∧ σ[i]? = some (some (.ref b)) then w.H b else w.G b
open Classical in
noncomputable def backG (γ : List Sl) (G : Hp) (σ : L2.St) : Hp := fun b => if ∃ (i : Nat) (d : D), γ[i]? = some (.ow d) ∧ σ[i]? = some (some (.ref b)) then none else G b
section
variable {Φ : Fm} {γ : List Sl} {s s' : Z.S} {w' : W3} {σ : L2.St} {W : WX} {v : V} {d : D}
theorem lend_at {b : Addr} {i : Nat} {d : D} (h : γ[i]? = some (.ow d)) (h' : σ[i]? = some (some (.ref b))) : lendG γ w σ b = w.H b := by
  unfold lendG; rw [if_pos ⟨i, d, h, h'⟩]
theorem lend_ne {b : Addr} (h : ¬ ∃ (i : Nat) (d : D), γ[i]? = some (.ow d) ∧ σ[i]? = some (some (.ref b))) : lendG γ w σ b = w.G b := by
  unfold lendG; rw [if_neg h]
theorem In.nG (I : In c Φ Z γ s w σ) {b : Addr} (h : ∃ (i : Nat) (d : D), γ[i]? = some (.ow d) ∧ σ[i]? = some (some (.ref b))) : w.G b = none ∧ (∃ o, w.H b = some o) ∧ ¬ Z.own w.H b := by
  obtain ⟨i, d, h1, h2⟩ := h
  obtain ⟨a, e, m⟩ := I.own h1 h2
  cases e
  exact ⟨m.ng, m.ow.has, m.ns⟩
theorem lend_fg (I : In c Φ Z γ s w σ) : Sub w.G (lendG γ w σ) := fun b u h => by
  rw [lend_ne fun z => by rw [(I.nG z).1] at h; cases h]
  exact .inl h
/-- behind a call -/
theorem In.called (I : In c Φ Z γ s w σ) (k : Cont Z ⟨w.F, lendG γ w σ, w.H⟩ w' s' fun _ => False) : Cont Z w ⟨w'.F, backG γ w'.G σ, w'.H⟩ s' fun _ => False := by
  have bn : ∀ {b : Addr}, (∃ (i : Nat) (d : D), γ[i]? = some (.ow d) ∧ σ[i]? = some (some (.ref b))) → backG γ w'.G σ b = none := fun z => by unfold backG; rw [if_pos z]
  have bb : ∀ {b : Addr}, ¬ (∃ (i : Nat) (d : D), γ[i]? = some (.ow d) ∧ σ[i]? = some (some (.ref b))) → backG γ w'.G σ b = w'.G b := fun z => by unfold backG; rw [if_neg z]
  refine ⟨fun b u h => ?_, fun b u h => ?_, W3.le.of k.le.fs (fun b u h => ?_), k.keep, k.has, k.frF, fun b o h1 h2 h3 h4 => ?_, k.rep, fun b z => ⟨?_, (k.so b z).2⟩⟩
  · have nz : ¬ ∃ (i : Nat) (d : D), γ[i]? = some (.ow d) ∧ σ[i]? = some (some (.ref b)) := fun z => by
      obtain ⟨g0, ⟨o, ho⟩, g2⟩ := I.nG z
      have := k.frF b o ho g2 (fun z => z) (I.fin.wd.fg.has g0)
      have h : w'.F b = some u := h
      rw [this] at h; cases h
    show backG γ w'.G σ b = some u ∨ (LockD u ∧ ∃ o, backG γ w'.G σ b = some (.frz o u))
    rw [bb nz]; exact k.fg b u h
  · have h : backG γ w'.G σ b = some u := h
    by_cases z : ∃ (i : Nat) (d : D), γ[i]? = some (.ow d) ∧ σ[i]? = some (some (.ref b))
    · rw [bn z] at h; cases h
    · rw [bb z] at h; exact k.gh b u h
  · have nz : ¬ ∃ (i : Nat) (d : D), γ[i]? = some (.ow d) ∧ σ[i]? = some (some (.ref b)) := fun z => by rw [(I.nG z).1] at h; cases h
    show backG γ w'.G σ b = some u
    rw [bb nz]
    exact k.le.gs b u (by show lendG γ w σ b = some u; rw [lend_ne nz]; exact h)
  · by_cases z : ∃ (i : Nat) (d : D), γ[i]? = some (.ow d) ∧ σ[i]? = some (some (.ref b))
    · exact bn z
    · show backG γ w'.G σ b = none
      rw [bb z]
      exact k.frG b o h1 h2 h3 (by show lendG γ w σ b = none; rw [lend_ne z]; exact h4)
  · by_cases y : ∃ (i : Nat) (d : D), γ[i]? = some (.ow d) ∧ σ[i]? = some (some (.ref b))
    · exact bn y
    · show backG γ w'.G σ b = none
      rw [bb y]; exact (k.so b z).1
/-- the arguments fit -/
def fits : List Am → List Md → Bool
  | [], [] => true
  | .v .f :: as, .fz :: ms => fits as ms
  | .v _ :: as, .bo :: ms => fits as ms
  | .v .s :: as, .sh :: ms => fits as ms
  | .v (.o _) :: as, .sh :: ms => fits as ms
  | .st :: as, .st :: ms => fits as ms
  | .st2 i :: as, .st2 j :: ms => i == j && fits as ms
  | _, _ => false
theorem Vl.lend {fl : Fg} (I : In c Φ Z γ s w σ) (h : Vl c γ w σ fl v d) : Rp c (lendG γ w σ) v d := by
  cases fl with
  | f => exact Rp.mono (I.fin.wd.fg.trans (lend_fg I)) h
  | g => exact Rp.mono (lend_fg I) h
  | s => obtain ⟨a, rfl, r⟩ := h; exact r.rp (I.fin.wd.fg.trans (lend_fg I)) (lend_fg I)
  | o i =>
    obtain ⟨a, rfl, m⟩ := I.own h.1 h.2
    have e := lend_at (w := w) h.1 h.2
    have es : Sub w.F (lendG γ w σ) := I.fin.wd.fg.trans (lend_fg I)
    have k := m.ow
    cases d with
    | lst ds => obtain ⟨xs, h1, h2⟩ := k; exact .lst (by rw [e]; exact h1) (h2.mono es)
    | dic t ks =>
      cases t with
      | false => obtain ⟨kvs, h1, h2, h3⟩ := k; exact .dK (.inl (by rw [e]; exact h1)) h2 (h3.mono es)
      | true => obtain ⟨kvs, h1, h2, h3⟩ := k; exact .dT (.inl (by rw [e]; exact h1)) h2 (h3.mono es)
    | _ => exact k.elim
variable {as : List Am} {ta : TA} {mk : (List D → M Z.S D) → M Z.S D} {f : List D → M Z.S D}
end
end
/-! ### raise -/
section
variable {c : Ct} {Φ : Fm} {Z : StK} {γ γe : List Sl} {W : WX} {s : Z.S} {w : W3} {σ : L2.St} {te : TE} {ma : M Z.S D} {α : Type} {K : EK Z α}
theorem In.grow {H2 : Hp} (I : In c Φ Z γ s w σ) (e : Same w.H H2) : Cont Z w ⟨w.F, w.G, H2⟩ s fun _ => False := by
  have sf : Sub w.F H2 := fun b u h => by
    rcases I.fin.wd.fh b u h with q | ⟨l, o, q⟩
    · exact .inl (e b u q)
    · exact .inr ⟨l, o, e b _ q⟩
  have st := Z.stay I.fin.rep (.refl _) sf (fun b o _ h => e b o h)
  refine ⟨I.fin.wd.fg, fun b u h => ?_, (W3.le.of (.refl _) (.refl _)), fun b o h _ _ => e b o h, fun b h => ?_, fun b o h _ _ f => f, fun b o h _ _ f => f, st.1, fun b z => ?_⟩
  · rcases I.fin.wd.gh b u h with q | ⟨l, o, q⟩
    · exact .inl (e b u q)
    · exact .inr ⟨l, o, e b _ q⟩
  · cases q : w.H b with
    | none => rfl
    | some o =>
      have h : H2 b = none := h
      rw [e b o q] at h; cases h
  · have z : Z.own w.H b := (st.2 b).mp z
    exact ⟨(I.fin.so b z).1, .inl z⟩
end
end B
namespace B
open PySem L2
/-! Q16: defs for every state; for every place of the state -/
def spP (c : Ct) (ms : List Md) (rm : Bool) (f : (S : Type) → List D → M S D) : Sp := fun vs H Q E => ∃ Z : StK, spD c Z ms rm (f Z.S) vs H Q E
section
variable {c : Ct} {Z : StK} {γ : List Sl} {W : WX} {ms : List Md} {as : List Am} {ta : TA} {mk : (List D → M Z.S D) → M Z.S D} {f : (S : Type) → List D → M S D}
end
/-! ### the drawing state: [cells, at, count], or of the first kind of laws: [great cells, script + [5], count] -/
structure StV where
  cells : List Int
  at_ : Int
  cnt : Int
  scr : List Int := []
  fam : Bool := false
def stB (ns : List Int) : StV := ⟨ns, 0, 0, [], false⟩
def bigs (ns : List Int) : List Int := (ns.map fun z => if z < 0 then -z else z).filter fun z => decide (10 ^ 18 ≤ z)
def stA (ns : List Int) : StV := ⟨bigs ns, 0, 0, ns ++ [5], true⟩
def ownB (p : Addr) (H : Hp) (b : Addr) : Prop := b = p ∨ ∃ xs, H p = some (.lst xs) ∧ V.ref b ∈ xs
def repB (p : Addr) (H : Hp) (s : StV) : Prop :=
  (s.fam = false ∧ ∃ a, H p = some (.lst [.ref a, .int s.at_, .int s.cnt]) ∧ H a = some (.lst (s.cells.map V.int)) ∧ a ≠ p ∧ s.cells.length ≤ 64 ∧ 0 ≤ s.at_ ∧ 0 ≤ s.cnt ∧ s.at_ ≤ s.cnt) ∨
  (s.fam = true ∧ ∃ a b, H p = some (.lst [.ref a, .ref b, .int s.cnt]) ∧ H a = some (.lst (s.cells.map V.int)) ∧ H b = some (.lst (s.scr.map V.int)) ∧ a ≠ p ∧ b ≠ p ∧ a ≠ b ∧ s.cells.length ≤ 64 ∧ 0 < s.scr.length ∧ s.scr.length ≤ 64 ∧ 0 ≤ s.cnt)
theorem own_ref1 {H : Hp} {p a : Addr} {i j : Int} (h : H p = some (.lst [.ref a, .int i, .int j])) (b : Addr) : ownB p H b ↔ b = p ∨ b = a := by
  unfold ownB
  rw [h]
  constructor
  · rintro (z | ⟨xs, z, q⟩)
    · exact .inl z
    · cases z
      simp only [List.mem_cons, List.not_mem_nil, or_false, V.ref.injEq, reduceCtorEq] at q
      exact .inr q
  · rintro (z | z)
    · exact .inl z
    · exact .inr ⟨_, rfl, by rw [z]; exact List.mem_cons_self⟩
theorem own_ref2 {H : Hp} {p a c : Addr} {j : Int} (h : H p = some (.lst [.ref a, .ref c, .int j])) (b : Addr) : ownB p H b ↔ b = p ∨ b = a ∨ b = c := by
  unfold ownB
  rw [h]
  constructor
  · rintro (z | ⟨xs, z, q⟩)
    · exact .inl z
    · cases z
      simp only [List.mem_cons, List.not_mem_nil, or_false, V.ref.injEq, reduceCtorEq] at q
      exact .inr q
  · rintro (z | z | z)
    · exact .inl z
    · exact .inr ⟨_, rfl, by rw [z]; exact List.mem_cons_self⟩
    · exact .inr ⟨_, rfl, by rw [z]; exact List.mem_cons_of_mem _ List.mem_cons_self⟩
def ZB (p : Addr) : StK where
  S := StV
  rep := fun _ => repB p
  own := ownB p
  at_ := fun q => q = p
  stay := fun {F F' H H' s} h _ _ k => by
    rcases h with ⟨hf, a, h1, h2, h3⟩ | ⟨hf, a, b, h1, h2, h3, h4⟩
    · have k1 := k p _ (.inl rfl) h1
      refine ⟨.inl ⟨hf, a, k1, k a _ ((own_ref1 h1 a).mpr (.inr rfl)) h2, h3⟩, fun b => ?_⟩
      unfold ownB
      rw [h1, k1]
    · have k1 := k p _ (.inl rfl) h1
      refine ⟨.inr ⟨hf, a, b, k1, k a _ ((own_ref2 h1 a).mpr (.inr (.inl rfl))) h2, k b _ ((own_ref2 h1 b).mpr (.inr (.inr rfl))) h3, h4⟩, fun b => ?_⟩
      unfold ownB
      rw [h1, k1]
  has := fun {F H s b} h k => by
    rcases h with ⟨hf, a, h1, h2, h3⟩ | ⟨hf, a, c, h1, h2, h3, h4⟩
    · rcases (own_ref1 h1 b).mp k with rfl | rfl
      · exact ⟨_, h1⟩
      · exact ⟨_, h2⟩
    · rcases (own_ref2 h1 b).mp k with rfl | rfl | rfl
      · exact ⟨_, h1⟩
      · exact ⟨_, h2⟩
      · exact ⟨_, h3⟩
def spS (c : Ct) (ms : List Md) (rm : Bool) (f : List D → M StV D) : Sp := fun vs H Q E => ∃ p, spD c (ZB p) ms rm f vs H Q E
section
variable {c : Ct} {p : Addr} {γ : List Sl} {W : WX} {ms : List Md} {as : List Am} {ta : TA} {mk : (List D → M (ZB p).S D) → M (ZB p).S D} {f : List D → M StV D}
end
end B
namespace B
open PySem L2
/-! Q17: an object under construction: its fields kept for good, one dict of its own -/
abbrev DS := List (D × D)
structure Ob where
  C : Addr
  x : Addr
  dx : Addr
  ff : List (Str × V × D)
  df : Str
  a : Addr
  t : Bool
def Ob.fs (o : Ob) : List (Str × V) := o.ff.map (fun p => (p.1, p.2.1)) ++ [(o.df, .ref o.a)]
def ZD (c : Ct) (o : Ob) : StK where
  S := DS
  rep := fun F H ks => H o.x = some (.ins o.C o.dx o.fs) ∧ H o.dx = some (.own o.x) ∧ Ow c ⟨F, F, H⟩ o.a (.dic o.t ks) ∧ ∀ p ∈ o.ff, Rp c F p.2.1 p.2.2
  own := fun _ b => b = o.x ∨ b = o.dx ∨ b = o.a
  at_ := fun q => q = o.x
  stay := fun {F F' H H' s} h e _ k => by
    obtain ⟨h1, h2, h3, h4⟩ := h
    refine ⟨⟨k _ _ (.inl rfl) h1, k _ _ (.inr (.inl rfl)) h2, Ow.keep (w := ⟨F, F, H⟩) (w' := ⟨F', F', H'⟩) h3 e fun u q => k _ u (.inr (.inr rfl)) q, fun p hp => (h4 p hp).mono e⟩, fun _ => Iff.rfl⟩
  has := fun {F H s b} h k => by
    obtain ⟨h1, h2, h3, h4⟩ := h
    rcases k with rfl | rfl | rfl
    · exact ⟨_, h1⟩
    · exact ⟨_, h2⟩
    · exact Ow.has (w := ⟨F, F, H⟩) h3
def getS (t : Bool) (k : D) : M DS D := fun ks => if kindOk t k = true then match getK ks k with
    | some d => .ok d ks
    | none => .bad
  else .bad
def putS (t : Bool) (k v : D) : M DS Unit := fun ks => if kindOk t k = true ∧ ks.length < lim then .ok () (putK' ks k v) else .bad
/-- a run with a state of its own -/
def runIn {S S' α : Type} (m : M S' α) (s0 : S') : M S (α × S') := fun s => match m s0 with
  | .ok a s' => .ok (a, s') s
  | .err n ds _ => .err n ds s
  | .bad => .bad
section
variable {c : Ct} {o : Ob} {Φ : Fm} {γ γe : List Sl} {W : WX} {s : DS} {w : W3} {σ : L2.St} {fl : Fg} {te tk : TE} {ma mk : M DS D} {tK : PySem.W.Frag} {α : Type} {K : EK (ZD c o) α} {t2 : TS}
end
end B
namespace B
open PySem L2
/-! Q18: zip, enumerate; calls dropped; raise with two fields -/
section
variable {c : Ct} {Φ : Fm} {Z : StK} {γ γe : List Sl} {W : WX} {s : Z.S} {w : W3} {σ : L2.St} {fl fa fb : Fg} {te ta tb : TE} {ma mb : M Z.S D} {tK : PySem.W.Frag}
/-- zip(xs, ys) of two lists -/
def zipO : D → D → Option (List D)
  | .lst a, .lst b => some (pairs2 a b)
  | _, _ => none
end
end B
namespace B
open PySem L2
open PySem.Spec PyProof.Rows
/-! Ex2: an error with two fields -/
def spI2 (K : PySem.W.Frag) (f g : Str) : Sp := fun vs H Q _ => ∃ (a C : Addr) (v u : V), vs = [.ref a, v, u] ∧ OexC K C ∧ PySem.W.findIn K (.ref C) f = some none ∧ PySem.W.findIn K (.ref C) g = some none ∧ H a = some (exo a C none) ∧
  ∀ dx, H dx = none → dx ≠ a → Q .non (upd (upd (upd H dx (exd dx [(f, v)])) a (exo a C (some dx))) dx (exd dx [(g, u), (f, v)]))
structure ExcD2 (P : Program) (w : World) (K : PySem.W.Frag) (mg : Str → Option Value) (base : Heap) (k : Nat) (x : Str) (C : Addr) (f g : Str) : Prop where
  T : Ec K C
  no : PySem.W.findIn K (.ref C) f = some none
  no2 : PySem.W.findIn K (.ref C) g = some none
  gC : mg x = some (.ref C)
  ini : ∃ (fI : Addr) (fd : FuncData), PySem.W.findIn K (.ref C) "__init__" = some (some (.ref fI)) ∧ PySem.W.typeIn K (.ref fI) = some (.type "function") ∧ Binds K fd ["self", f, g] [] ∧ FnOk P w K mg base CX0 k fI fd ["self", f, g] (spI2 K f g)
def tRaise2 (C : Addr) (f g : Str) (W : WX) (te tu : TE) : TS := fun _ σ H => te σ H fun v H1 => tu σ H1 fun u H2 => ∀ d H3, H2 d = none → Same H2 H3 → H3 d = some (.xd [(g, u), (f, v)]) → W (.ref C) (some d) σ H3
section
variable {X : Cx} {e e2 : Expr} {te tu : TE} {W : WX} {x f g : Str} {C : Addr} {k : Nat} {p pos pos2 : Pos}
end
end B
namespace B
open PySem L2
/-! Q19: raise with two fields -/
section
variable {c : Ct} {Z : StK} {γ γe : List Sl} {W : WX} {te tu : TE} {ma mb : M Z.S D} {α : Type} {K : EK Z α}
end
end B
namespace B
open PySem L2
/-! Q20: an object under construction: fields kept for good alone -/
def ffs (ff : List (Str × V × D)) : List (Str × V) := ff.map fun p => (p.1, p.2.1)
def ZA (c : Ct) (C x dx : Addr) (ff : List (Str × V × D)) : StK where
  S := Unit
  rep := fun F H _ => H x = some (.ins C dx (ffs ff)) ∧ H dx = some (.own x) ∧ ∀ p ∈ ff, Rp c F p.2.1 p.2.2
  own := fun _ b => b = x ∨ b = dx
  at_ := fun q => q = x
  stay := fun {F F' H H' s} h e _ k => by
    obtain ⟨h1, h2, h4⟩ := h
    exact ⟨⟨k _ _ (.inl rfl) h1, k _ _ (.inr rfl) h2, fun p hp => (h4 p hp).mono e⟩, fun _ => Iff.rfl⟩
  has := fun {F H s b} h k => by
    obtain ⟨h1, h2, h4⟩ := h
    rcases k with rfl | rfl
    · exact ⟨_, h1⟩
    · exact ⟨_, h2⟩
/-- ends told by the world alone -/
structure PT' (α : Type) where
  p : Fm → W3 → Ends → α → Prop
  mono : ∀ {Φ : Fm} {w w' : W3} {E : Ends} {a : α}, w.le w' → p Φ w E a → p Φ w' E a
  nx : ∀ {Φ : Fm} {w : W3} {E E' : Ends} {a : α}, E'.nx = E.nx → p Φ w E a → p Φ w E' a
def kA {c : Ct} {C x dx : Addr} {ff : List (Str × V × D)} {α : Type} (P : PT' α) : EK (ZA c C x dx ff) α := ⟨fun Φ w E a _ => P.p Φ w E a, fun le h => P.mono le h⟩
section
variable {c : Ct} {C x dx : Addr} {ff : List (Str × V × D)} {Φ : Fm} {γ γe : List Sl} {W : WX} {w : W3} {σ : L2.St} {te : TE} {ma : M Unit D} {tK : PySem.W.Frag} {α : Type} {P : PT' α} {t2 : TS} {E : Ends}
/-- the object's own record changes: it stays apart -/
theorem In.record {Z Z' : StK} {s : Z.S} {s' : Z'.S} {u : HO} {z : Addr} (I : In c Φ Z γ s w σ) (hz : Z.own w.H z) (ho : ∀ b, Z'.own (upd w.H z u) b ↔ Z.own w.H b) (hat : ∀ q, Z.at_ q → Z'.at_ q) (hr : Z'.rep w.F (upd w.H z u) s') (hat2 : ∀ i q, Z.at2 i q → Z'.at2 i q := by exact fun _ _ h => h) : In c Φ Z' γ s' (w.set z u) σ := by
  have ng : w.G z = none := (I.fin.so z hz).1
  have fr : Fresh Φ z := (I.fin.so z hz).2
  refine ⟨⟨⟨I.fin.wd.fg, sub_set I.fin.wd.gh ng, I.fin.wd.le, fun b v q n => ?_, fun b q => ?_, I.fin.wd.frF, I.fin.wd.frG⟩, hr, fun b q => I.fin.so b ((ho b).mp q)⟩, I.ln, fun j y ov hx hov => ?_, I.ds⟩
  · show upd w.H z u b = _
    have : b ≠ z := fun e => by
      subst e
      rcases fr with z | z
      · exact n z
      · rw [q] at z; cases z
    rw [upd_ne this]; exact I.fin.wd.keep b v q n
  · have q : upd w.H z u b = none := q
    by_cases e : b = z
    · rw [e, upd_same] at q; cases q
    · rw [upd_ne e] at q; exact I.fin.wd.has b q
  · have q := I.sl j y ov hx hov
    cases y with
    | un => trivial
    | fz d => exact q
    | bo d => exact q
    | sh d => exact q
    | st => obtain ⟨p, e, h⟩ := q; exact ⟨p, e, hat p h⟩
    | st2 => obtain ⟨p, e, h⟩ := q; exact ⟨p, e, hat2 _ p h⟩
    | ow e =>
      obtain ⟨b, e1, r⟩ := q
      subst e1
      have nb : b ≠ z := fun e => r.ns (by rw [e]; exact hz)
      exact ⟨b, rfl, r.ow.keep (.refl _) (fun u' q => by show upd w.H z u b = _; rw [upd_ne nb]; exact q), r.ng, r.fr, fun q => r.ns ((ho b).mp q)⟩
end
/-! ### what is raised, whatever the object is then -/
def SErrW (c : Ct) (Φ : Fm) (W : WX) (w : W3) (n : Nat) (es : List D) : Prop :=
  ∀ (dx : Addr) (vs : List V) (w' : W3) (σ' : L2.St), Wd Φ w' → w.le w' → w'.H dx = some (.xd ((c.ef n).zip vs)) → (vs.length = (c.ef n).length ∧ w'.G dx = none ∧ Φ.w.H dx = none) → RpA c w'.F vs es → W (.ref (c.ec n)) (some dx) σ' w'.H
def SPsW {α S : Type} (c : Ct) (Φ : Fm) (W : WX) (P : W3 → α → Prop) (w : W3) (o : Out S α) : Prop := match o with
  | .ok a _ => P w a
  | .err n es _ => SErrW c Φ W w n es
  | .bad => False
section
variable {c : Ct} {Φ : Fm} {Z : StK} {γ : List Sl} {W : WX} {s : Z.S} {w : W3} {σ : L2.St} {α : Type} {P : W3 → α → Prop}
theorem SErrW.mono {w' : W3} {n : Nat} {es : List D} (le : w.le w') (h : SErrW c Φ W w n es) : SErrW c Φ W w' n es := fun dx vs w2 σ2 I l h1 h2 h3 => h dx vs w2 σ2 I (le.trans l) h1 h2 h3
theorem SPsW.mono {S : Type} {w' : W3} {o : Out S α} (le : w.le w') (hP : ∀ a, P w a → P w' a) (h : SPsW c Φ W P w o) : SPsW c Φ W P w' o := by
  cases o with
  | ok a s' => exact hP a h
  | err n es s' => exact SErrW.mono le h
  | bad => exact h
end
section
variable {c : Ct} {Φ : Fm} {γ : List Sl} {w : W3} {σ : L2.St} {o : Ob} {ks : DS}
end
end B
namespace B
open PySem L2
/-! Q21: objects made: C(..) -/
structure DfM (P : Program) (w : World) (K : PySem.W.Frag) (mg : Str → Option Value) (base : Heap) (CX : CXT) (k : Nat) (x : Str) (C : Addr) (ps : List Str) (sp : Sp) : Prop where
  gC : mg x = some (.ref C)
  ex : ∃ (f : Addr) (fd : FuncData), Mk K C f ∧ Binds K fd ps [] ∧ FnOk P w K mg base CX k f fd ps sp
def tMakeS (C : Addr) (sp : Sp) (E : L2.St → XK) (t : TA) : TE := fun σ H Q => t σ H fun vs H1 => ∀ x dx, H1 x = none → H1 dx = none → dx ≠ x →
  sp (.ref x :: vs) (upd (upd H1 dx (.own x)) x (.ins C dx [])) (fun v H2 => v = .non ∧ Q (.ref x) H2) (E σ)
section
variable {X : Cx} {CX : CXT} {k : Nat} {f C : Addr} {fd : FuncData} {ps : List Str} {sp : Sp} {E : L2.St → XK} {x : Str} {p pos : Pos} {e : Expr} {es : List Expr} {t : TA} {W : WX}
end
/-- C(..) by its pure run: the object is kept for good -/
def spMk (c : Ct) (n : Nat) (ms : List Md) (f : (S : Type) → List D → M S D) : Sp := fun vs H Q E => ∃ (x dx : Addr) (vs' : List V) (H0 : Hp), vs = .ref x :: vs' ∧ H0 x = none ∧ H0 dx = none ∧ dx ≠ x ∧ H = upd (upd H0 dx (.own x)) x (.ins (c.cl n) dx []) ∧ spP c ms false f vs' H0 (fun v H2 => v = .ref x → Q .non H2) E
def mkU {S α : Type} (m : M Unit α) : M S α := fun s => match m () with
  | .ok a _ => .ok a s
  | .err n ds _ => .err n ds s
  | .bad => .bad
section
variable {c : Ct} {Φ : Fm} {Z : StK} {γ : List Sl} {W : WX} {ms : List Md} {as : List Am} {ta : TA} {mk : (List D → M Z.S D) → M Z.S D} {f : (S : Type) → List D → M S D} {n : Nat}
/-- what the making leaves of the rest -/
theorem no_upd {H : Hp} {p b : Addr} {o : HO} (h : upd H p o b = none) : H b = none := by
  by_cases e : b = p
  · subst e; rw [upd_same] at h; cases h
  · rwa [upd_ne e] at h
theorem Wd.out {s : Z.S} {w w' : W3} {x dx : Addr} {o1 o2 : HO} {T : Addr → Prop} (fg : Sub w.F w.G) (gh : Sub w.G w.H) (r : Z.rep w.F w.H s) (so : ∀ b, Z.own w.H b → w.G b = none) (nx : w.H x = none) (ndx : w.H dx = none) (k : Wd ⟨⟨w.F, w.G, upd (upd w.H dx o1) x o2⟩, fun b => b = x ∨ b = dx⟩ w') : Cont Z w w' s T := by
  have up : ∀ b o, w.H b = some o → ¬ (b = x ∨ b = dx) ∧ upd (upd w.H dx o1) x o2 b = some o := fun b o h => by
    have n1 : b ≠ x := fun e => by rw [e, nx] at h; cases h
    have n2 : b ≠ dx := fun e => by rw [e, ndx] at h; cases h
    exact ⟨fun z => z.elim n1 n2, by rw [upd_ne n1, upd_ne n2]; exact h⟩
  have st := Z.stay (H' := w'.H) r k.le.1 k.fh fun b o z h => k.keep b o (up b o h).2 (up b o h).1
  refine ⟨k.fg, k.gh, k.le, fun b o h _ _ => k.keep b o (up b o h).2 (up b o h).1, fun b h => ?_, fun b o h _ _ f => k.frF b o (up b o h).2 (up b o h).1 f, fun b o h _ _ f => k.frG b o (up b o h).2 (up b o h).1 f, st.1, fun b z => ?_⟩
  · cases q : w.H b with
    | none => rfl
    | some o => have := k.keep b o (up b o q).2 (up b o q).1; rw [h] at this; cases this
  · have z := (st.2 b).mp z
    obtain ⟨o, ho⟩ := Z.has r z
    exact ⟨k.frG b o (up b o ho).2 (up b o ho).1 (so b z), .inl z⟩
end
end B
namespace B
open PySem L2
open PySem.Spec PyProof.Rows
/-! DispT: {t: v}, t a tuple of texts and ints -/
section
variable {X : Cx}
def tDispT (tk tv : TE) : TE := fun σ H Q => ∀ p, H p = none → tk σ (upd H p (.dT [])) fun x H1 => tv σ H1 fun y H2 => H2 p = some (.dT []) ∧ ∃ (k : List Key) (b : Addr), x = .ref b ∧ H2 b = some (.tup (k.map kV)) ∧ Q (.ref p) (upd H2 p (.dT (putK [] k y)))
end
end B
namespace B
open PySem L2
/-! Q22: new dicts -/
section
variable {c : Ct} {Φ : Fm} {Z : StK} {γ : List Sl} {W : WX} {s : Z.S} {w : W3} {σ : L2.St} {i : Int}
end
end B
namespace B
open PySem L2
/-! Q23: an object of one's own handed over to a def -/
def EaP (c : Ct) (Z : StK) (γ : List Sl) (W : WX) (ms : List Am) (ta : TA) (mk : (List D → M Z.S D) → M Z.S D) : Prop :=
  ∀ (Φ : Fm) (s : Z.S) (w : W3) (σ : L2.St) (PP : W3 → Out Z.S D → Prop) (k : List D → M Z.S D) (R : List V → Hp → Prop), (∀ w w' o, w.le w' → PP w o → PP w' o) → (∀ w n es s', PP w (.err n es s') → ErrP c Φ Z γ W σ w n es s') → (∀ w, ¬ PP w .bad) → In c Φ Z γ s w σ → PP w (mk k s) →
    (∀ ds s' vs w', In c Φ Z γ s' w' σ → w.le w' → VamA c Z γ w' σ ms vs ds → PP w' (k ds s') → R vs w'.H) → ta σ w.H R
/-- a new object by an expression that takes an object of one's own away -/
def Enm (c : Ct) (Z : StK) (γ γ' : List Sl) (W : WX) (t : TE) (m : M Z.S D) : Prop :=
  ∀ (Φ : Fm) (s : Z.S) (w : W3) (σ : L2.St) (Q : VK), In c Φ Z γ s w σ → Ps c Φ Z γ' W σ (fun w v d => Nw c Φ Z γ' w σ v d) w (m s) Q → t σ w.H Q
def fitsM (i : Nat) : List Am → List Md → Bool
  | .v .f :: as, .fz :: ms => fitsM i as ms
  | .v .f :: as, .bo :: ms => fitsM i as ms
  | .v .g :: as, .bo :: ms => fitsM i as ms
  | [.v (.o j)], [.mv] => j == i
  | .st :: as, .st :: ms => fitsM i as ms
  | _, _ => false
section
variable {c : Ct} {Φ : Fm} {Z : StK} {γ γe : List Sl} {W : WX} {s s' : Z.S} {w w' : W3} {σ : L2.St} {fl : Fg} {te : TE} {ma : M Z.S D} {tr ta : TA} {mk : (List D → M Z.S D) → M Z.S D} {as : List Am} {ms : List Md} {i : Nat} {d0 : D}
variable {f : List D → M Z.S D}
end
section
variable {c : Ct} {Φ : Fm} {Z : StK} {γ γ' γe : List Sl} {W : WX} {α : Type} {K : EK Z α} {te : TE} {ma : M Z.S D} {t2 : TS}
theorem Enm.stm {s : Z.S} {w : W3} {σ : L2.St} {E : Ends} {t : TE} {m : M Z.S D} {k : D → M Z.S α} {R : VK} (h : Enm c Z γ γ' W t m) (hk : Lek γ' γe) (I : In c Φ Z γ s w σ)
    (q : SPs c Φ Z γe W K w ((m >>= k) s) E) (f : ∀ a s' v w', In c Φ Z γ' s' w' σ → w.le w' → Nw c Φ Z γ' w' σ v a → SPs c Φ Z γe W K w' (k a s') E → R v w'.H) : t σ w.H R := by
  refine h Φ s w σ R I ?_
  cases e : m s with
  | ok a s' =>
    rw [M.bind_ok e] at q
    exact fun v w' I' le vl => f a s' v w' I' le vl (q.mono le)
  | err n ds s' =>
    rw [M.bind_err e] at q
    exact fun dx vs w' I' le h1 h2 h3 => q dx vs w' σ (I'.weak hk) le h1 h2 h3
  | bad =>
    rw [M.bind_bad e] at q
    exact q
end
section
variable {c : Ct} {p : Addr} {γ : List Sl} {W : WX} {ms : List Md} {as : List Am} {ta : TA} {mk : (List D → M (ZB p).S D) → M (ZB p).S D} {f : List D → M StV D}
end
end B
namespace B
open PySem L2
/-! Q24: an object called -/
structure CallOf (K : PySem.W.Frag) (C g : Addr) : Prop where
  at_ : PySem.W.findIn K (.ref C) "__call__" = some (some (.ref g))
  ty : PySem.W.typeIn K (.ref g) = some (.type "function")
  fn : PySem.W.fnIn K g = true
section
variable {prog : Program} {w : World} {A : Around} {E : Value → Shared → Prop} {s : Shared} {K : PySem.W.Frag} {a C dx g : Addr}
end
/-- x(..), x a local name that holds an instance -/
def tCallI (C : Addr) (sp : Sp) (E : L2.St → XK) (i : Nat) (t : TA) : TE := fun σ H Q => ∃ a, σ[i]? = some (some (.ref a)) ∧ t σ H fun vs H1 => ∃ dx fs, H1 a = some (.ins C dx fs) ∧ sp (.ref a :: vs) H1 Q (E σ)
section
variable {X : Cx} {CX : CXT} {k i : Nat} {C g : Addr} {fd : FuncData} {ps : List Str} {sp : Sp} {E : L2.St → XK} {x : Str} {p pos : Pos} {e : Expr} {es : List Expr} {t : TA} {W : WX}
end
end B
namespace B
open PySem L2
/-! Q25: finished objects: fields, properties, calls -/
def isO (n : Nat) : D → Option D
  | .obj m ds => if m = n then some (.obj m ds) else none
  | _ => none
def ofO (n k : Nat) : D → Option D
  | .obj m ds => if m = n then ds[k]? else none
  | _ => none
section
variable {c : Ct} {F : Hp} {v : V} {d d' : D} {n k : Nat}
theorem RpA.at : ∀ {vs : List V} {ds : List D} {k : Nat} {d : D}, RpA c F vs ds → ds[k]? = some d → ∃ v, vs[k]? = some v ∧ Rp c F v d
  | _, _, k, _, .nil, h => by cases k <;> cases h
  | _, _, 0, _, .cons r _, h => by rw [List.getElem?_cons_zero] at h; cases h; exact ⟨_, rfl, r⟩
  | _, _, k + 1, _, .cons _ r, h => by rw [List.getElem?_cons_succ] at h ⊢; exact r.at h
end
section
variable {c : Ct} {Φ : Fm} {Z : StK} {γ : List Sl} {W : WX} {s : Z.S} {w : W3} {σ : L2.St} {fl : Fg} {te : TE} {ma : M Z.S D} {tK : PySem.W.Frag} {ta : TA} {as : List Am} {ms : List Md} {mk : (List D → M Z.S D) → M Z.S D} {f : (S : Type) → List D → M S D}
theorem Ps.noErr {α β : Type} {Vp : W3 → β → α → Prop} {Q : β → Hp → Prop} {m : M Z.S α} (q : Ps c Φ Z γ W σ Vp w (B.noErr m s) Q) : Ps c Φ Z γ WF σ Vp w (m s) Q := by
  unfold B.noErr at q
  cases e : m s with
  | ok a s' => rw [e] at q; exact q
  | err n ds s' => rw [e] at q; exact q.elim
  | bad => rw [e] at q; exact q
end
end B
namespace B
open PySem L2
/-! Q26: getters and __call__ of a class -/
structure DfG (P : Program) (w : World) (K : PySem.W.Frag) (mg : Str → Option Value) (base : Heap) (CX : CXT) (k : Nat) (C : Addr) (f : Str) (ps : List Str) (sp : Sp) : Prop where
  ex : ∃ (p g : Addr) (fd : FuncData), PropOf K C f p g ∧ Binds K fd ps [] ∧ FnOk P w K mg base CX k g fd ps sp
structure DfI (P : Program) (w : World) (K : PySem.W.Frag) (mg : Str → Option Value) (base : Heap) (CX : CXT) (k : Nat) (C : Addr) (ps : List Str) (sp : Sp) : Prop where
  ex : ∃ (g : Addr) (fd : FuncData), CallOf K C g ∧ Binds K fd ps [] ∧ FnOk P w K mg base CX k g fd ps sp
section
variable {X : Cx} {k i : Nat} {C : Addr} {f x : Str} {ps : List Str} {sp : Sp} {e : Expr} {es : List Expr} {p pos : Pos} {ta : TE} {t : TA} {W : WX}
end
end B
namespace B
open PySem L2
/-! Q27: calls by keywords; the law's own def -/
section
variable {X : Cx} {k n : Nat} {x : Str} {ps ks : List Str} {sp : Sp} {E : XK} {t : TA} {p pos : Pos} {kws : List Keyword} {g : List Value → List Value → List Value} {gV : List V → List V → List V}
end
section
variable {c : Ct} {Z : StK} {γ : List Sl} {E : XK} {ms : List Md} {as : List Am} {ta : TA} {mk : (List D → M Z.S D) → M Z.S D} {f : (S : Type) → List D → M S D} {m : Nat}
end
/-- a def that promises nothing of exceptions raises none -/
theorem FnOk.calm {P : Program} {w : World} {K : PySem.W.Frag} {mg : Str → Option Value} {base : Heap} {k : Nat} {f : Addr} {fd : FuncData} {ps : List Str} {sp : Sp} (F : FnOk P w K mg base (L2.CX P w) k f fd ps sp) (h : ∀ vs H Q E, sp vs H Q E → sp vs H Q E0) : FnOk P w K mg base CX0 k f fd ps sp :=
  ⟨F.len, fun A outer s H args us vs Q E hr he hb hv hs => codeAny_mono (F.run A outer s H args us vs Q E0 hr he hb hv (h _ _ _ _ hs)) fun r s' q => by
    cases r with
    | error e =>
      obtain ⟨_, _, _, _, _, _, _, _, _, _, _, _, z⟩ := (show L2.CX P w outer H s E0 e s' from q)
      exact z.elim
    | ok fl => cases fl <;> exact q⟩
/-- the state made: nothing else is known -/
def fmB (p : Addr) (H : Hp) : Fm := ⟨⟨fun _ => none, fun _ => none, H⟩, ownB p H⟩
end B
namespace B
open PySem L2
/-! Q28: try .. except C as e, all ways return -/
/-- the state, and the caught exception at a with its dict at dx -/
def ZX (c : Ct) (Z : StK) (a dx : Addr) (n : Nat) (vs : List V) (ds : List D) : StK where
  S := Z.S
  rep := fun F H s => Z.rep F H s ∧ H dx = some (.xd ((c.ef n).zip vs)) ∧ ¬ Z.own H dx ∧ RpA c F vs ds
  own := fun H b => Z.own H b ∨ b = dx
  at_ := fun q => q = a
  at2 := Z.at2
  stay := fun {F F' H H' s} h e1 e2 k => by
    obtain ⟨h1, h2, h3, h4⟩ := h
    have st := Z.stay h1 e1 e2 fun b o z q => k b o (.inl z) q
    refine ⟨⟨st.1, k dx _ (.inr rfl) h2, fun z => h3 ((st.2 dx).mp z), h4.mono e1⟩, fun b => ?_⟩
    exact or_congr (st.2 b) Iff.rfl
  has := fun {F H s b} h k => by
    obtain ⟨h1, h2, h3, h4⟩ := h
    rcases k with k | rfl
    · exact Z.has h1 k
    · exact ⟨_, h2⟩
section
variable {c : Ct} {Φ : Fm} {Z : StK} {γ : List Sl} {s : Z.S} {w : W3} {σ : L2.St} {a dx : Addr} {n : Nat} {vs : List V} {ds : List D} {i : Nat}
theorem Fin.unX (F : Fin Φ (ZX c Z a dx n vs ds) s w) : Fin Φ Z s w := ⟨F.wd, F.rep.1, fun b z => F.so b (.inl z)⟩
theorem Mine.unX {b : Addr} {d : D} (m : Mine c Φ (ZX c Z a dx n vs ds) w b d) : Mine c Φ Z w b d := ⟨m.ow, m.ng, m.fr, fun z => m.ns (.inl z)⟩
/-- no slot holds the state -/
def noSt : List Sl → Bool
  | [] => true
  | .st :: _ => false
  | _ :: γ => noSt γ
end
def hand {S α : Type} (o : Option (M S α)) (n : Nat) (ds : List D) (s : S) : Out S α := match o with
  | some k => noErr k s
  | none => .err n ds s
/-- the errors' clauses: by the number -/
def tryM {S α : Type} (es : List Nat) (m : M S α) (h : Nat → List D → Option (M S α)) : M S α := fun s => match m s with
  | .ok a s' => .ok a s'
  | .err n ds s' => if n ∈ es then hand (h n ds) n ds s' else .bad
  | .bad => .bad
/-- e.f in a clause -/
def xfO (ds : List D) (k : Nat) : Option D := ds[k]?
section
variable {c : Ct} {Z : StK} {γ : List Sl} {W : WX} {a dx : Addr} {n i : Nat} {vs : List V} {ds : List D}
end
/-- the clauses and their runs -/
inductive Hds (X : Cx) (c : Ct) (Z : StK) (γh : List Sl) (i : Nat) (rm : Bool) : List Nat → List (Value × SU) → (Nat → List D → Option (M Z.S D)) → Prop
  | nil : Hds X c Z γh i rm [] [] (fun _ _ => none)
  | cons {es : List Nat} {suite : List Stmt} {l : List (Value × SU)} {h : Nat → List D → Option (M Z.S D)} (nk : Nat) (mH : List D → M Z.S D)
      (hH : ∀ (a dx : Addr) (vs : List V) (ds : List D) (oe : Obj) (pn : List (Addr × Obj)), vs.length = (c.ef nk).length → Zc (.ref (c.ec nk)) (some dx) oe → (∃ us, oe.data = .fields us) →
        ∃ (tH : TS) (γe : List Sl), PSs (X.suite a ((a, oe) :: pn)) suite tH ∧ Sg c (ZX c Z a dx nk vs ds) (γh.set i .st) WF γe (ekR c (ZX c Z a dx nk vs ds) rm) tH (mH ds))
      (r : Hds X c Z γh i rm es l h) : Hds X c Z γh i rm (nk :: es) ((.ref (c.ec nk), WSu X suite) :: l) (fun n ds => if n = nk then some (mH ds) else h n ds)
section
variable {X : Cx} {c : Ct} {Z : StK} {γ γh γe : List Sl} {W : WX} {i : Nat} {rm : Bool} {body : List Stmt} {l : List (Value × SU)} {es ks : List Nat} {mB : M Z.S D} {h : Nat → List D → Option (M Z.S D)}
end
end B
namespace B
open PySem L2
/-! Q29: calls by keywords in any order, also within a try -/
def permL {α : Type} (d : α) (π : List Nat) (xs : List α) : List α := π.map fun i => xs.getD i d
/-- x(k = v, ..) -/
def tCallKS (m : Nat) (sp : Sp) (gV : List V → List V → List V) (E : L2.St → XK) (t : TA) : TE := fun σ H Q => t σ H fun zs H2 => zs.length = m ∧ sp (gV [] zs) H2 Q (E σ)
section
variable {X : Cx} {k : Nat} {x : Str} {ps ks : List Str} {sp : Sp} {W : WX} {t : TA} {p pos : Pos} {kws : List Keyword} {g : List Value → List Value → List Value} {gV : List V → List V → List V}
end
section
variable {c : Ct} {Z : StK} {γ : List Sl} {W : WX} {ms : List Md} {as : List Am} {ta : TA} {mk : (List D → M Z.S D) → M Z.S D} {f : (S : Type) → List D → M S D} {m : Nat}
end
theorem vals_get : ∀ {vs : List V} {us : List Value} {i : Nat}, Vals vs us → i < vs.length → RelV (vs.getD i .non) (us.getD i .none)
  | _, _, i, .nil, h => absurd h (by simp)
  | _, _, 0, .cons h1 _, _ => h1
  | _ :: vs, _ :: us, i + 1, .cons _ h2, h => vals_get (vs := vs) (us := us) (i := i) h2 (by simpa using h)
theorem relV_non : RelV .non .none := rfl
theorem vals_get' {vs : List V} {us : List Value} (h : Vals vs us) (i : Nat) : RelV (vs.getD i .non) (us.getD i .none) := by
  by_cases q : i < vs.length
  · exact vals_get h q
  · have l := h.length
    rw [List.getD_eq_getElem?_getD, List.getD_eq_getElem?_getD, List.getElem?_eq_none (by omega), List.getElem?_eq_none (by omega)]
    exact relV_non
theorem vals_perm {vs : List V} {us : List Value} (h : Vals vs us) : ∀ π : List Nat, Vals (permL .non π vs) (permL .none π us)
  | [] => .nil
  | i :: π => .cons (vals_get' h i) (vals_perm h π)
end B
namespace B
open PySem L2
/-! Q30: a, b = e -/
section
variable {c : Ct} {Z : StK} {γ γe : List Sl} {W : WX} {te : TE} {ma : M Z.S D} {α : Type} {K : EK Z α} {t2 : TS} {tK : PySem.W.Frag}
end
end B
namespace B
open PySem L2
/-! Q31: methods of finished objects; x[k] by an own __getitem__ -/
structure DfMt (P : Program) (w : World) (K : PySem.W.Frag) (mg : Str → Option Value) (base : Heap) (CX : CXT) (k : Nat) (C : Addr) (m : Str) (ps : List Str) (sp : Sp) : Prop where
  ex : ∃ (g : Addr) (fd : FuncData), Meth K C m g ∧ Binds K fd ps [] ∧ FnOk P w K mg base CX k g fd ps sp
/-- o.m(..) -/
def tMethW (C : Addr) (m : Str) (sp : Sp) (E : L2.St → XK) (ta : TE) (t : TA) : TE := fun σ H Q => ta σ H fun x H1 => ∃ a dx fs, x = .ref a ∧ H1 a = some (.ins C dx fs) ∧ fs.lookup m = none ∧ t σ H1 fun vs H2 => sp (.ref a :: vs) H2 Q (E σ)
section
variable {X : Cx} {k : Nat} {C : Addr} {m : Str} {ps : List Str} {sp : Sp} {o e : Expr} {es : List Expr} {apos pos : Pos} {ta : TE} {t : TA} {W : WX} {E : L2.St → XK}
end
section
variable {c : Ct} {Z : StK} {γ : List Sl} {W : WX} {te : TE} {ma : M Z.S D} {ta : TA} {as : List Am} {ms : List Md} {mk : (List D → M Z.S D) → M Z.S D} {f : (S : Type) → List D → M S D}
end
end B
namespace B
open PySem L2
open PyProof.Rows
/-! Q32: x[k], x an object whose class has a __getitem__ of its own -/
structure GetOf (K : PySem.W.Frag) (C g : Addr) : Prop where
  at_ : PySem.W.findIn K (.ref C) "__getitem__" = some (some (.ref g))
  ty : PySem.W.typeIn K (.ref g) = some (.type "function")
  fn : PySem.W.fnIn K g = true
section
variable {prog : Program} {w : World} {A : Around} {E : Value → Shared → Prop} {s : Shared} {K : PySem.W.Frag} {a C dx g : Addr}
end
structure DfGi (P : Program) (w : World) (K : PySem.W.Frag) (mg : Str → Option Value) (base : Heap) (CX : CXT) (k : Nat) (C : Addr) (ps : List Str) (sp : Sp) : Prop where
  ex : ∃ (g : Addr) (fd : FuncData), GetOf K C g ∧ Binds K fd ps [] ∧ FnOk P w K mg base CX k g fd ps sp
def tGetI (C : Addr) (sp : Sp) (E : L2.St → XK) (ta tb : TE) : TE := fun σ H Q => ta σ H fun x H1 => tb σ H1 fun y H2 => ∃ a dx fs, x = .ref a ∧ H2 a = some (.ins C dx fs) ∧ sp [.ref a, y] H2 Q (E σ)
section
variable {X : Cx} {k : Nat} {C : Addr} {ps : List Str} {sp : Sp} {e b : Expr} {pos : Pos} {ta tb : TE} {W : WX} {E : L2.St → XK}
end
section
variable {c : Ct} {Z : StK} {γ : List Sl} {W : WX} {fb : Fg} {ta tb : TE} {ma mb : M Z.S D} {f : (S : Type) → List D → M S D}
end
end B
namespace B
open PySem L2
/-! Q33: while -/
section
variable {c : Ct} {Z : StK} {γ γe : List Sl} {W : WX} {β : Type} {tB : TS}
end
end B
namespace B
open PySem L2
/-! Q34: for k in d, d a dict by texts and numbers that is kept for good; nothing is raised within -/
def keysO : D → Option (List D)
  | .dic false ks => some (ks.map Prod.fst)
  | _ => none
def tLockOr (t : TS) : TS := fun D σ H => tLock t D σ H ∨ t D σ H
section
variable {c : Ct} {Z : StK} {γ : List Sl} {s : Z.S} {w : W3} {σ : L2.St} {a : Addr} {Φ : Fm} {o : Obj} {u : HO}
/-- .. and unlocked again -/
theorem In.unlockD {γ2 : List Sl} {s2 : Z.S} {w2 : W3} {σ2 : L2.St} {od : Obj} (I : In c Φ Z γ s w σ) (hG : w.G a = some u) (hH : w.H a = some u) (so : ∀ b, Z.own (upd w.H a (.frz od u)) b ↔ Z.own w.H b)
    (J : In c (B.re Z γ ⟨w.F, w.G, upd w.H a (.frz od u)⟩ σ) Z γ2 s2 w2 σ2) : w2.H a = some (.frz od u) ∧ In c Φ Z γ2 s2 ⟨w2.F, w2.G, upd w2.H a u⟩ σ2 := by
  have no : ∀ b, Z.own w.H b → b ≠ a := fun b z e => by rw [e] at z; rw [(I.fin.so a z).1] at hG; cases hG
  have nT : ¬ (B.re Z γ ⟨w.F, w.G, upd w.H a (.frz od u)⟩ σ).T a := fun z => by
    rcases z with z | ⟨i, d, h1, h2⟩
    · exact no a ((so a).mp z) rfl
    · obtain ⟨b, e, r⟩ := I.sl i _ _ h1 h2
      cases e
      rw [r.ng] at hG; cases hG
  have k2 : w2.H a = some (.frz od u) := J.fin.wd.keep a _ upd_same nT
  have g2 : w2.G a = some u := J.fin.wd.le.gs a u hG
  have no2 : ∀ b, Z.own w2.H b → b ≠ a := fun b z e => by rw [e] at z; rw [(J.fin.so a z).1] at g2; cases g2
  have tt : ∀ b, (B.re Z γ ⟨w.F, w.G, upd w.H a (.frz od u)⟩ σ).T b → (B.re Z γ w σ).T b := fun b z => by
    rcases z with z | z
    · exact .inl ((so b).mp z)
    · exact .inr z
  have tt' : ∀ b, (B.re Z γ w σ).T b → (B.re Z γ ⟨w.F, w.G, upd w.H a (.frz od u)⟩ σ).T b := fun b z => by
    rcases z with z | z
    · exact .inl ((so b).mpr z)
    · exact .inr z
  have fr : ∀ b, Fresh (B.re Z γ ⟨w.F, w.G, upd w.H a (.frz od u)⟩ σ) b → Fresh (B.re Z γ w σ) b := fun b z => by
    rcases z with z | z
    · exact .inl (tt b z)
    · exact .inr (no_upd (p := a) (o := .frz od u) z)
  have gh : Sub w2.G (upd w2.H a u) := fun b v h => by
    by_cases e : b = a
    · subst e; rw [g2] at h; cases h; exact .inl upd_same
    · rw [upd_ne e]; exact J.fin.wd.gh b v h
  have st := Z.stay J.fin.rep (.refl _) (J.fin.wd.fg.trans gh) fun b v z h => by rw [upd_ne (no2 b z)]; exact h
  refine ⟨k2, I.ofRe ⟨⟨⟨J.fin.wd.fg, gh, .of J.fin.wd.le.fs J.fin.wd.le.gs, fun b v h n => ?_, fun b h => ?_, fun b v h n f => ?_, fun b v h n f => ?_⟩, st.1, fun b z => ⟨(J.fin.so b ((st.2 b).mp z)).1, fr b (J.fin.so b ((st.2 b).mp z)).2⟩⟩, J.ln, fun i x ov hx ho => ?_, J.ds⟩⟩
  · by_cases e : b = a
    · subst e
      have h : w.H b = some v := h
      rw [hH] at h; cases h; exact upd_same
    · show upd w2.H a u b = some v
      rw [upd_ne e]
      exact J.fin.wd.keep b v (by show upd w.H a _ b = some v; rw [upd_ne e]; exact h) fun z => n (tt b z)
  · have h : upd w2.H a u b = none := h
    by_cases e : b = a
    · subst e; rw [upd_same] at h; cases h
    · rw [upd_ne e] at h
      exact no_upd (p := a) (o := .frz od u) (J.fin.wd.has b h)
  · by_cases e : b = a
    · subst e
      have f : w.F b = none := f
      exact J.fin.wd.frF b _ upd_same nT f
    · exact J.fin.wd.frF b v (by show upd w.H a _ b = some v; rw [upd_ne e]; exact h) (fun z => n (tt b z)) f
  · by_cases e : b = a
    · subst e
      exact J.fin.wd.frG b _ upd_same nT f
    · exact J.fin.wd.frG b v (by show upd w.H a _ b = some v; rw [upd_ne e]; exact h) (fun z => n (tt b z)) f
  · have h := J.sl i x ov hx ho
    cases x with
    | un => trivial
    | fz d => exact h
    | bo d => exact h
    | sh d => exact h
    | st => exact h
    | st2 => exact h
    | ow d =>
      obtain ⟨b, e, r⟩ := h
      subst e
      have nb : b ≠ a := fun z => by rw [z] at r; rw [r.ng] at g2; cases g2
      exact ⟨b, rfl, r.ow.keep (.refl _) (fun v q => by show upd w2.H a _ b = _; rw [upd_ne nb]; exact q), r.ng, fr b r.fr, fun z => r.ns ((st.2 b).mp z)⟩
end
section
variable {c : Ct} {Z : StK} {γ γe : List Sl} {W : WX} {β : Type} {G : β → List Sl} {mB : D → β → M Z.S β} {tB : TS} {i j : Nat} {b0 : β}
end
end B
namespace B
open PySem L2
/-! Sle: texts in order -/
/-- a before b or the same -/
def sle (a b : Str) : Bool := !decide (b.cps.toList < a.cps.toList)
/-- the texts in ascending order -/
def sortS (xs : List Str) : List Str := xs.mergeSort sle
end B
namespace B
open PySem L2
/-! Q35: dict(d), sorted(d), d.pop(k): dicts by texts -/
def copyO : D → Option D
  | .dic false ks => some (.dic false ks)
  | _ => none
def sortDO : D → Option D
  | .dic false ks => (strsO (ks.map Prod.fst)).bind fun xs => if xs.length < 64 then some (.lst ((sortS xs).map .str)) else none
  | _ => none
def rDictC : List V → Hp → VK → Prop := fun xs H Q => ∃ (a : Addr) (kvs : List (Key × V)), xs = [.ref a] ∧ Rd H a (.dK kvs) ∧ ∀ p, H p = none → Q (.ref p) (upd H p (.dK kvs))
def rSortDk : List V → Hp → VK → Prop := fun xs H Q => ∃ (a : Addr) (kvs : List (Key × V)) (ks : List Str), xs = [.ref a] ∧ Rd H a (.dK kvs) ∧ kvs.map (·.1) = ks.map Sum.inr ∧ ks.length < 64 ∧ ∀ ys p, ys.Perm ks → PyProof.Rows.sortedS ys = true → H p = none → Q (.ref p) (upd H p (.lst (ys.map V.str)))
section
variable {c : Ct} {Φ : Fm} {Z : StK} {γ : List Sl} {W : WX} {s : Z.S} {w : W3} {σ : L2.St} {ta : TE} {ma : M Z.S D}
end
def dropK' (ks : List (D × D)) (k : D) : List (D × D) := ks.filter fun p => !decide (p.1 = k)
def dpopO : D → D → Option D
  | .dic false ks, k => if isK k = true ∧ (getK ks k).isSome = true then some (.dic false (dropK' ks k)) else none
  | _, _ => none
section
variable {c : Ct} {F : Hp}
end
section
variable {c : Ct} {Z : StK} {γ γe : List Sl} {W : WX} {fl : Fg} {tk : TE} {mk : M Z.S D} {α : Type} {K : EK Z α} {t2 : TS} {x : D}
end
end B
namespace B
open PySem L2
/-! Q36: [e for v in d.values()], d a dict by texts that is kept for good -/
def valsO : D → Option (List D)
  | .dic false ks => some (ks.map Prod.snd)
  | _ => none
def tLockEOr (t : TE) : TE := fun σ H Q => tLockE t σ H Q ∨ t σ H Q
/-- an expression that reads what is kept for good, also where it is locked -/
structure Pd (c : Ct) (Z : StK) (γ : List Sl) (td : TE) (d : D) : Prop where
  at_ : ∀ (Φ : Fm) (s : Z.S) (w : W3) (σ : L2.St), In c Φ Z γ s w σ → ∃ v, Rp c w.F v d ∧ (∀ R : VK, R v w.H → td σ w.H R) ∧ ∀ (a : Addr) (od : Obj) (u : HO) (R : VK), v = .ref a → w.F a ≠ none → R v (upd w.H a (.frz od u)) → td σ (upd w.H a (.frz od u)) R
section
variable {c : Ct} {Φ : Fm} {Z : StK} {γ : List Sl} {W : WX} {s : Z.S} {w : W3} {σ : L2.St} {a : Addr} {o : Obj} {kvs : List (Key × V)} {ks : List (D × D)} {td te : TE}
theorem Mine.unlockD {γ2 : List Sl} {s2 : Z.S} {w2 : W3} {od : Obj} {u : HO} {b : Addr} {d : D} {σ2 : L2.St} (I : In c Φ Z γ s w σ) (hG : w.G a = some u) (so : ∀ b, Z.own (upd w.H a (.frz od u)) b ↔ Z.own w.H b) (J : In c (B.re Z γ ⟨w.F, w.G, upd w.H a (.frz od u)⟩ σ) Z γ2 s2 w2 σ2)
    (m : Mine c (B.re Z γ ⟨w.F, w.G, upd w.H a (.frz od u)⟩ σ) Z w2 b d) : Mine c Φ Z ⟨w2.F, w2.G, upd w2.H a u⟩ b d := by
  have g2 : w2.G a = some u := J.fin.wd.le.gs a u hG
  have nb : b ≠ a := fun z => by rw [z] at m; rw [m.ng] at g2; cases g2
  have no2 : ∀ b, Z.own w2.H b → b ≠ a := fun b z e => by rw [e] at z; rw [(J.fin.so a z).1] at g2; cases g2
  have gh : Sub w2.G (upd w2.H a u) := fun b v h => by
    by_cases e : b = a
    · subst e; rw [g2] at h; cases h; exact .inl upd_same
    · rw [upd_ne e]; exact J.fin.wd.gh b v h
  have st := Z.stay J.fin.rep (.refl _) (J.fin.wd.fg.trans gh) fun b v z h => by rw [upd_ne (no2 b z)]; exact h
  refine ⟨m.ow.keep (.refl _) (fun v q => by show upd w2.H a _ b = _; rw [upd_ne nb]; exact q), m.ng, ?_, fun z => m.ns ((st.2 b).mp z)⟩
  refine Fresh.re I ?_
  rcases m.fr with z | z
  · rcases z with z | z
    · exact .inl (.inl ((so b).mp z))
    · exact .inl (.inr z)
  · exact .inr (no_upd (p := a) (o := .frz od u) z)
end
end B
namespace B
open PySem L2
/-! Q37: an object under construction, statement by statement -/
def Sx (c : Ct) (Φ : Fm) (W : WX) (P : W3 → D → Prop) (E : Ends) (Z : StK) (γ : List Sl) (t : TS) (m : M Z.S D) : Prop := ∀ (s : Z.S) (w : W3) (σ : L2.St), In c Φ Z γ s w σ → SPsW c Φ W P w (m s) → t E σ w.H
section
variable {c : Ct} {Φ : Fm} {W : WX} {P : W3 → D → Prop} {E : Ends} {Z : StK} {γ γe : List Sl} {C x dx : Addr} {ff : List (Str × V × D)} {tK : PySem.W.Frag} {te : TE} {t1 t2 : TS}
theorem Sx.app {t : TS} {m : M Z.S D} {s : Z.S} {w : W3} {σ : L2.St} (h : Sx c Φ W P E Z γ t m) (I : In c Φ Z γ s w σ) (q : SPsW c Φ W P w (m s)) : t E σ w.H := h s w σ I q
end
end B
namespace B
open PySem L2
/-! Q38: fields of an object under construction; C(.., k = ..) -/
def atS {S S' α : Type} (s0 : S') (m : M S' α) : M S α := fun s => match m s0 with
  | .ok a _ => .ok a s
  | .err n ds _ => .err n ds s
  | .bad => .bad
def sealM {α : Type} (k : DS → M Unit α) : M DS α := fun ks => atS () (k ks) ks
def noOw : List Sl → Bool
  | [] => true
  | .ow _ :: _ => false
  | _ :: γ => noOw γ
section
variable {c : Ct} {Φ : Fm} {W : WX} {P : W3 → D → Prop} {E : Ends} {γ γe : List Sl} {C x dx : Addr} {ff : List (Str × V × D)} {tK : PySem.W.Frag} {te : TE} {t1 t2 : TS} {f : Str} {o : Ob}
theorem SPsW.atS {S S' α : Type} {Q : W3 → α → Prop} {w : W3} {s0 : S'} {m : M S' α} {s : S} (h : SPsW c Φ W Q w (B.atS s0 m s)) : SPsW c Φ W Q w (m s0) := by
  unfold B.atS at h
  cases e : m s0 with
  | ok a s' => rw [e] at h; exact h
  | err n ds s' => rw [e] at h; exact h
  | bad => rw [e] at h; exact h
end
/-! ### what __init__ promises -/
def spIn (c : Ct) (n : Nat) (ms : List Md) (f : List D → M Unit D) : Sp := fun vs H Q E => ∃ (w : W3) (x dx : Addr) (vs' : List V) (ds : List D) (Z : StK) (H0 : Hp), vs = .ref x :: vs' ∧ w.H = H ∧ Sub w.F w.G ∧ Sub w.G w.H ∧ w.H x = some (.ins (c.cl n) dx []) ∧ w.H dx = some (.own x) ∧ dx ≠ x ∧ w.G x = none ∧ w.G dx = none ∧ Args c Z ⟨w.F, w.G, H0⟩ ms vs' ds ∧
  match f ds () with
  | .ok d _ => ∀ (ff : List (Str × V × D)) (w' : W3), d = .obj n (ff.map fun p => p.2.2) → ff.map (·.1) = c.fl n → Fin ⟨w, fun b => b = x ∨ b = dx⟩ (ZA c (c.cl n) x dx ff) () w' → Q .non w'.H
  | .err m es _ => ∀ dx' xs w', Wd ⟨w, fun b => b = x ∨ b = dx⟩ w' → w'.H dx' = some (.xd ((c.ef m).zip xs)) → (xs.length = (c.ef m).length ∧ w'.G dx' = none ∧ w.H dx' = none) → RpA c w'.F xs es → E (.ref (c.ec m)) (some dx') w'.H
  | .bad => False
/-! ### C(e, .., k = v, ..) -/
structure DfMK (P : Program) (w : World) (K : PySem.W.Frag) (mg : Str → Option Value) (base : Heap) (CX : CXT) (k : Nat) (x : Str) (C : Addr) (ps : List Str) (n : Nat) (ks : List Str) (sp : Sp) : Prop where
  gC : mg x = some (.ref C)
  ex : ∃ (f : Addr) (fd : FuncData), Mk K C f ∧ KBn K fd ps (n + 1) ks (fun us ws => us ++ ws) (fun vs zs => vs ++ zs) ∧ FnOk P w K mg base CX k f fd ps sp
def tMakeKS (C : Addr) (n m : Nat) (sp : Sp) (E : L2.St → XK) (t tk : TA) : TE := fun σ H Q => t σ H fun vs H1 => tk σ H1 fun zs H2 => (vs.length = n ∧ zs.length = m) ∧ ∀ y dy, H2 y = none → H2 dy = none → dy ≠ y →
  sp (.ref y :: (vs ++ zs)) (upd (upd H2 dy (.own y)) y (.ins C dy [])) (fun r H3 => r = .non ∧ Q (.ref y) H3) (E σ)
section
variable {X : Cx} {k n : Nat} {C : Addr} {ps ks : List Str} {sp : Sp} {E : L2.St → XK} {x : Str} {p pos : Pos} {e : Expr} {es : List Expr} {kws : List Keyword} {t tk : TA} {W : WX}
end
section
variable {c : Ct} {Z : StK} {γ : List Sl} {W : WX} {ms : List Md} {as as2 : List Am} {ta tb : TA} {mk mk2 : (List D → M Z.S D) → M Z.S D} {f : (S : Type) → List D → M S D} {n m1 m2 : Nat}
theorem VamA.mono {w w' : W3} {σ : L2.St} (l : w.le w') : ∀ {as : List Am} {vs : List V} {ds : List D}, VamA c Z γ w σ as vs ds → VamA c Z γ w' σ as vs ds
  | _, _, _, .nil => .nil
  | _, _, _, .cons h r => .cons (Vam.mono l h) (r.mono l)
theorem VamA.app {w : W3} {σ : L2.St} {bs : List Am} {us : List V} {es : List D} (k : VamA c Z γ w σ bs us es) : ∀ {as : List Am} {vs : List V} {ds : List D}, VamA c Z γ w σ as vs ds → VamA c Z γ w σ (as ++ bs) (vs ++ us) (ds ++ es)
  | _, _, _, .nil => k
  | _, _, _, .cons h r => .cons h (VamA.app k r)
end
section
variable {c : Ct} {Φ : Fm} {W : WX} {P : W3 → D → Prop} {E : Ends} {Z : StK} {γ γe : List Sl} {t1 t2 : TS}
end
end B
namespace B
open PySem L2
/-! Q39: a, b = (e, f), e a new object of one's own; how long a while may go on -/
def fuelD : D → Nat
  | .int i => i.natAbs + 2
  | _ => 0
section
variable {c : Ct} {Z : StK} {γ γe : List Sl} {W : WX} {te tf : TE} {ma mb : M Z.S D} {α : Type} {K : EK Z α} {t2 : TS} {tK : PySem.W.Frag}
end
end B
namespace B
open PySem L2
/-! Q40: three targets -/
def bP3 (fl : Fg) (i j l : Nat) (γ : List Sl) (d : D) : Option (List Sl) := match d with
  | .tup [x, y, z] => some (((γ.set i (fzl fl x)).set j (fzl fl y)).set l (fzl fl z))
  | _ => none
def onTrip {α : Type} {S : Type} (f : D → D → D → M S α) : D → M S α
  | .tup [x, y, z] => f x y z
  | _ => M.bad
section
variable {c : Ct} {Z : StK} {γ γe : List Sl} {W : WX} {fl : Fg} {te : TE} {ma : M Z.S D} {tK : PySem.W.Frag} {α β : Type} {K : EK Z α} {t2 tB : TS}
end
end B
namespace B
open PySem L2
/-! Q41: is True, is False; while (x := e) is not None -/
def isBD (b : Bool) (x : D) : Option D := match x with
  | .bl a => some (.bl (decide (a = b)))
  | _ => none
def notBD (b : Bool) (x : D) : Option D := match x with
  | .bl a => some (.bl (!decide (a = b)))
  | _ => none
/-- while (x := e) is not None -/
def whileO {S β : Type} (me : β → M S D) (mB : D → β → M S β) : Nat → β → M S β
  | 0, _ => M.bad
  | n + 1, b => me b >>= fun d => lift ((notNonD d).bind blO) >>= fun t => if t = true then mB d b >>= fun b' => whileO me mB n b' else pure b
section
variable {c : Ct} {Z : StK} {γ γe : List Sl} {W : WX} {fa : Fg} {ta te : TE} {ma : M Z.S D} {β : Type} {tB : TS}
end
end B
namespace B
open PySem L2
/-! S1: stars: in targets (a, .., *z = a tuple), in calls (f(a, *z)), in parameters (def f(a, *z)) -/
section
open PySem.Spec PyProof.Rows
variable {prog : Program} {w : World} {A : Around} {E : Value → Shared → Prop} {s : Shared}
end
section
open PySem.Spec PyProof.Rows
variable {X : Cx} {pos : Pos}
/-- (a, .., *z) = a tuple -/
def gStar (K : PySem.W.Frag) (n : Nat) (t : TGs) : TG := fun v σ H Q => ∃ a xs, v = .ref a ∧ SqT K H a xs ∧ n ≤ xs.length ∧ ∀ p, H p = none → t (xs.take n ++ [.ref p]) σ (upd H p (.lst (xs.drop n))) Q
end
/-! ### defs with a star parameter -/
section
open PySem.Spec PyProof.Rows StX
def spV (n : Nat) (sp : Sp) : Sp := fun vs H Q E => ∃ ws rest, vs = ws ++ rest ∧ ws.length = n ∧ rest.length ≤ sizeLine ∧ ∀ p, H p = none → sp (ws ++ [.ref p]) (upd H p (.tup rest)) Q E
structure DfV (P : Program) (w : World) (K : PySem.W.Frag) (mg : Str → Option Value) (base : Heap) (k : Nat) (x : Str) (n : Nat) (sp : Sp) : Prop where
  ex : ∃ f, mg x = some (.ref f) ∧ PySem.W.keepIn K (.ref f) = true ∧ FnR P w K mg base (L2.CX P w) k f (spV n sp)
variable {X : Cx} {W : WX} {k : Nat} {x : Str} {sp : Sp} {e e1 e2 : Expr} {es : List Expr} {te te1 te2 : TE} {tr : TA} {p p2 pos : Pos}
/-- *z where a new tuple is made of its items -/
def tStarT (K : PySem.W.Frag) (te : TE) : TE := fun σ H Q => te σ H fun x H1 => ∃ p xs, x = V.ref p ∧ (SqT K H1 p xs ∨ SqL K H1 p xs) ∧ (xs ++ []).length ≤ sizeLine ∧ ∀ q, H1 q = none → Q (.ref q) (upd H1 q (.tup (xs ++ [])))
end
end B
namespace B
open PySem L2
/-! Q42: lists by two fors -/
def cat2 {S : Type} (me1 : D → M S D) (f : D → D → M S (Option D)) : List D → M S (List D)
  | [] => pure []
  | x :: xs => noErr (me1 x) >>= fun v => lift (itemsD v) >>= fun es => if es.length ≤ 300 then compM es (f x) >>= fun r => cat2 me1 f xs >>= fun rs => pure (r ++ rs) else M.bad
def cat2L {S : Type} (ds : List D) (me1 : D → M S D) (f : D → D → M S (Option D)) : M S (List D) := if ds.length ≤ 300 then cat2 me1 f ds else M.bad
section
variable {c : Ct} {Φ : Fm} {Z : StK} {γ γ' : List Sl} {W : WX} {s s' : Z.S} {w w' : W3} {σ σ' : L2.St} {fl fa fb : Fg} {v : V} {d : D} {te te1 ta tb : TE} {ma mb : M Z.S D} {tK : PySem.W.Frag}
/-- what is walked within, whatever the frame -/
def Wk0 (c : Ct) (Z : StK) (J : It) (ds : List D) (w1 : W3) : Prop := ∀ Φ : Fm, Wk c Φ Z .f J ds w1
end
end B
namespace B
open PySem L2
/-! S2: an error without fields, raised -/
section
open PySem.Spec PyProof.Rows
variable {X : Cx}
/-- the promise of an __init__ that keeps nothing -/
def spI0 (K : PySem.W.Frag) : Sp := fun vs H Q _ => ∃ (a C : Addr), vs = [.ref a] ∧ OexC K C ∧ H a = some (exo a C none) ∧ Q .non H
structure ExcD0 (P : Program) (w : World) (K : PySem.W.Frag) (mg : Str → Option Value) (base : Heap) (k : Nat) (x : Str) (C : Addr) : Prop where
  T : Ec K C
  gC : mg x = some (.ref C)
  ini : ∃ (fI : Addr) (fd : FuncData), PySem.W.findIn K (.ref C) "__init__" = some (some (.ref fI)) ∧ PySem.W.typeIn K (.ref fI) = some (.type "function") ∧ Binds K fd ["self"] [] ∧ FnOk P w K mg base CX0 k fI fd ["self"] (spI0 K)
variable {W : WX} {x : Str} {C fI : Addr} {k : Nat} {fd : FuncData} {p pos pos2 : Pos}
def tRaise0 (C : Addr) (W : WX) : TS := fun _ σ H => W (.ref C) none σ H
end
end B
namespace B
open PySem L2
/-! S3: stars over the layer Q; an error without fields told by a mark -/
/-- no value stands for it: IsSubstitutes was raised -/
def rzD : D := .dic false [(.non, .non)]
def isRz : D → Bool
  | .dic false [(.non, .non)] => true
  | _ => false
def starO : D → Option D
  | .tup ds => if ds.length ≤ 1000 then some (.tup ds) else none
  | .lst ds => if ds.length ≤ 1000 then some (.tup ds) else none
  | _ => none
def onStar4 {α : Type} {S : Type} (f : D → D → D → D → D → M S α) : D → M S α
  | .tup (x :: y :: z :: u :: r) => f x y z u (.lst r)
  | _ => M.bad
section
variable {c : Ct} {Z : StK} {γ γe : List Sl} {W : WX} {te : TE} {ma : M Z.S D} {tK : PySem.W.Frag} {α β : Type} {K : EK Z α} {t t1 t2 : TS} {tt : TT} {mt : M Z.S Bool}
/-! ### the mark -/
def ekX (c : Ct) (Z : StK) (W : WX) : EK Z D where
  p := fun Φ w E d s' => (isRz d = false → (ekR c Z false).p Φ w E d s') ∧ (isRz d = true → ∀ w' σ', Fin Φ Z s' w' → w.le w' → W (.ref (c.ec 18)) none σ' w'.H)
  mono := fun le h => ⟨fun z => (ekR c Z false).mono le (h.1 z), fun z w' σ' F l => h.2 z w' σ' F (le.trans l)⟩
end
section
variable {c : Ct} {Z : StK} {w : W3} {ms : List Md} {vs : List V} {ds : List D}
def spDX (c : Ct) (Z : StK) (ms : List Md) (f : List D → M Z.S D) : Sp := fun vs H Q E => ∃ (w : W3) (s : Z.S) (ds : List D), w.H = H ∧ Sub w.F w.G ∧ Sub w.G w.H ∧ Z.rep w.F w.H s ∧ (∀ b, Z.own w.H b → w.G b = none) ∧ Args c Z w ms vs ds ∧
  match f ds s with
  | .ok d s' => (isRz d = false → ∀ v w', Cont Z w w' s' (mvT ms vs) → Rs c (fmD Z w ms vs) Z false w' v d → Q v w'.H) ∧ (isRz d = true → ∀ w', Cont Z w w' s' (mvT ms vs) → E (.ref (c.ec 18)) none w'.H)
  | .err n es s' => ∀ dx xs w', Cont Z w w' s' (mvT ms vs) → w'.H dx = some (.xd ((c.ef n).zip xs)) → (xs.length = (c.ef n).length ∧ w'.G dx = none ∧ w.H dx = none ∧ ¬ Z.own w'.H dx) → RpA c w'.F xs es → E (.ref (c.ec n)) (some dx) w'.H
  | .bad => False
def spX (c : Ct) (ms : List Md) (f : (S : Type) → List D → M S D) : Sp := fun vs H Q E => ∃ Z : StK, spDX c Z ms (f Z.S) vs H Q E
/-- not raised -/
def noRz {S : Type} (m : M S D) : M S D := m >>= fun d => if isRz d = true then M.bad else pure d
variable {Φ : Fm} {γ γe : List Sl} {W : WX} {σ : L2.St} {s : Z.S} {as : List Am} {ta : TA} {mk : (List D → M Z.S D) → M Z.S D} {m : Nat}
variable {f : (S : Type) → List D → M S D}
/-- try: return f(k = ..) / except IsSubstitutes: return None -/
def tTryZ (K : PySem.W.Frag) (C : Value) (m : Nat) (sp : Sp) (gV : List V → List V → List V) (W : WX) (t : TA) : TE := fun σ H Q => tCallKS m sp gV (L2.WE (wOnly K C (fun _ _ _ => tRet (tC .non)) W { nx := fun _ _ => False, rt := Q })) t σ H Q
def catchRz {S : Type} (m : M S D) : M S D := noErr m >>= fun d => if isRz d = true then pure .non else pure d
end
section
open PySem.Spec PyProof.Rows
variable {X : Cx} {W : WX} {k : Nat} {x y : Str} {ps ks : List Str} {sp : Sp} {t : TA} {p pos pos1 pos2 pos3 pos4 pos5 np : Pos} {j5 : Nat} {kws : List Keyword} {g : List Value → List Value → List Value} {gV : List V → List V → List V} {C : Value}
end
end B
namespace B
open PySem L2
/-! Q43: dicts by for: {k: v for x in xs} -/
def dcM {S : Type} (f : D → M S (D × D)) : List D → D → M S D
  | [], acc => pure acc
  | x :: xs, acc => noErr (f x) >>= fun r => lift (putO acc r.1 r.2) >>= fun acc' => dcM f xs acc'
def dcL {S : Type} (ds : List D) (f : D → M S (D × D)) : M S D := if ds.length ≤ lim then dcM f ds (.dic false []) else M.bad
section
variable {c : Ct} {Φ : Fm} {Z : StK} {γ γ' : List Sl} {W : WX} {s s' : Z.S} {w w' : W3} {σ σ' : L2.St} {fl fa fb : Fg} {v : V} {d : D} {te tk tv : TE} {tK : PySem.W.Frag}
end
end B
namespace B
open PySem L2
/-! Q44: walks of dicts with tuple keys: the key is lent (readable in the turn alone) -/
def keysTO : D → Option (List D)
  | .dic true ks => some (ks.map Prod.fst)
  | _ => none
def noBo : List Sl → Bool
  | [] => true
  | .bo _ :: _ => false
  | .sh _ :: _ => false
  | _ :: γ => noBo γ
/-- no object of the state is a tuple -/
def NoTupZ (Z : StK) : Prop := ∀ {F H : Hp} {s : Z.S} {b : Addr} {xs : List V}, Z.rep F H s → Z.own H b → H b ≠ some (.tup xs)
section
variable {c : Ct} {Φ : Fm} {Z : StK} {γ γ' γe : List Sl} {W : WX} {s s' : Z.S} {w w' : W3} {σ σ' : L2.St} {q : Addr} {ks : List V}
def lendQ (w : W3) (q : Addr) (ks : List V) : W3 := ⟨w.F, upd w.G q (.tup ks), w.H⟩
def backQ (w : W3) (q : Addr) : W3 := ⟨w.F, fun b => if b = q then none else w.G b, w.H⟩
theorem own_notup {a : Addr} {d : D} (h : Ow c w a d) (hq : w.H q = some (.tup ks)) : a ≠ q := fun z => by
  subst z
  cases d with
  | lst ds => obtain ⟨xs, h1, _⟩ := h; rw [hq] at h1; cases h1
  | dic t ks' =>
    cases t with
    | false => obtain ⟨kvs, h1, _⟩ := h; rw [hq] at h1; cases h1
    | true => obtain ⟨kvs, h1, _⟩ := h; rw [hq] at h1; cases h1
  | _ => exact h.elim
theorem In.lend (hZ : NoTupZ Z) (I : In c Φ Z γ s w σ) (hq : w.H q = some (.tup ks)) (hg : w.G q = none) : In c (B.re Z γ (lendQ w q ks) σ) Z γ s (lendQ w q ks) σ := by
  have nq : ∀ b, Z.own w.H b → b ≠ q := fun b z e => by subst e; exact hZ I.fin.rep z hq
  have fg : Sub w.F (upd w.G q (.tup ks)) := fun b u h => by
    have : b ≠ q := fun e => by
      subst e
      rcases I.fin.wd.fg b u h with z | ⟨_, _, z⟩ <;> rw [hg] at z <;> cases z
    rw [upd_ne this]; exact I.fin.wd.fg b u h
  have gh : Sub (upd w.G q (.tup ks)) w.H := fun b u h => by
    by_cases e : b = q
    · subst e; rw [upd_same] at h; cases h; exact .inl hq
    · rw [upd_ne e] at h; exact I.fin.wd.gh b u h
  refine ⟨⟨⟨fg, gh, .refl _, fun _ _ h _ => h, fun _ h => h, fun _ _ _ _ h => h, fun _ _ _ _ h => h⟩, I.fin.rep, fun b z => ⟨?_, .inl (.inl z)⟩⟩, I.ln, fun i x ov hx ho => ?_, I.ds⟩
  · show upd w.G q (.tup ks) b = none
    rw [upd_ne (nq b z)]; exact (I.fin.so b z).1
  · have h := I.sl i x ov hx ho
    cases x with
    | un => trivial
    | fz d => exact h
    | bo d =>
      obtain ⟨v, e, r⟩ := h
      exact ⟨v, e, Rp.mono (sub_new hg) r⟩
    | sh d =>
      obtain ⟨v, e, r⟩ := h
      exact ⟨v, e, r.mono (.refl _) (sub_new hg)⟩
    | st => exact h
    | st2 => exact h
    | ow d =>
      obtain ⟨b, e, r⟩ := h
      subst e
      have nb := own_notup r.ow hq
      exact ⟨b, rfl, r.ow, by show upd w.G q (.tup ks) b = none; rw [upd_ne nb]; exact r.ng, .inl (.inr ⟨i, d, hx, ho⟩), r.ns⟩
end
section
variable {c : Ct} {Z : StK} {γ γe : List Sl} {W : WX} {β : Type} {G : β → List Sl} {mB : D → β → M Z.S β} {tB : TS} {i j : Nat} {b0 : β}
end
end B
namespace B
open PySem L2
/-! Q45: d[k] -= n; C(..) whose keyword-only parameter is left out; isinstance by an own class; methods without arguments; == by an own __eq__ -/
def daugO (n : Int) : D → D → Option D
  | .dic false ks, k => (ixD (.dic false ks) k).bind fun v => (subD v (.int n)).bind fun z => putO (.dic false ks) k z
  | _, _ => none
section
variable {c : Ct} {Φ : Fm} {Z : StK} {γ γe : List Sl} {W : WX} {fl : Fg} {d x : D} {tk : TE} {mk : M Z.S D} {α : Type} {K : EK Z α} {t2 : TS}
end
/-! ### C(e, ..), a keyword-only parameter left out: its default is dv -/
structure DfMD (P : Program) (w : World) (K : PySem.W.Frag) (mg : Str → Option Value) (base : Heap) (CX : CXT) (k : Nat) (x : Str) (C : Addr) (ps : List Str) (n : Nat) (dv : V) (sp : Sp) : Prop where
  gC : mg x = some (.ref C)
  ex : ∃ (f : Addr) (fd : FuncData) (g : List Value → List Value → List Value), Mk K C f ∧ KBn K fd ps (n + 1) [] g (fun vs _ => vs ++ [dv]) ∧ FnOk P w K mg base CX k f fd ps sp
section
variable {X : Cx} {k n : Nat} {C : Addr} {ps : List Str} {sp : Sp} {E : L2.St → XK} {x : Str} {p pos : Pos} {e : Expr} {es : List Expr} {t : TA} {W : WX} {dv : V}
end
/-! ### isinstance(e, C), where it is one -/
def isiC (n : Nat) : D → Option D
  | .obj m _ => if m = n then some (.bl true) else none
  | _ => none
def rIsC (C : Addr) : List V → Hp → VK → Prop := fun xs H Q => ∃ a dx fs, xs = [.ref a, .ref C] ∧ H a = some (.ins C dx fs) ∧ Q (.bl true) H
structure IsC (K : PySem.W.Frag) (mg : Str → Option Value) (x : Str) (C : Addr) : Prop where
  ins : C8.InsC K C
  g : mg x = some (.ref C)
section
variable {c : Ct} {Z : StK} {γ : List Sl} {W : WX} {te : TE} {ma : M Z.S D}
end
/-! ### o.m() -/
section
variable {X : Cx} {k : Nat} {C : Addr} {m : Str} {ps : List Str} {sp : Sp} {o : Expr} {apos pos : Pos} {ta : TE} {W : WX} {E : L2.St → XK}
end
/-! ### x == y by an own __eq__ -/
structure DfEq (P : Program) (w : World) (K : PySem.W.Frag) (mg : Str → Option Value) (base : Heap) (CX : CXT) (k : Nat) (C : Addr) (ps : List Str) (sp : Sp) : Prop where
  ex : ∃ (g : Addr) (fd : FuncData), PySem.W.findIn K (.ref C) "__eq__" = some (some (.ref g)) ∧ PySem.W.isFn K (.ref g) = true ∧ Binds K fd ps [] ∧ FnOk P w K mg base CX k g fd ps sp
def rEqI (C : Addr) (sp : Sp) : R2 := fun x y H Q => ∃ a b dx dy fs gs, x = .ref a ∧ y = .ref b ∧ H a = some (.ins C dx fs) ∧ H b = some (.ins C dy gs) ∧ sp [.ref a, .ref b] H Q E0
section
variable {X : Cx} {k : Nat} {C : Addr} {ps : List Str} {sp : Sp}
end
section
variable {c : Ct} {Z : StK} {γ : List Sl} {W : WX} {ta tb : TE} {ma mb : M Z.S D} {f : (S : Type) → List D → M S D}
end
/-! ### no object of the drawing state is a tuple -/
end B
namespace B
open PySem L2
/-! G0: generators that sleep are left alone by code that does not know them -/
open Sem (wp)
open PyProof.Rows
def deadK : Resume → Sem PySem.Fin := fun _ => .unsupported "dead"
def poison : GenState → GenState
  | .suspended _ l c p fs cl => .suspended deadK l c p fs cl
  | x => x
def Sus : GenState → Prop
  | .suspended .. => True
  | _ => False
/-- the frames that a suspended one keeps hold no generator -/
def NoGf : GenState → Prop
  | .suspended _ _ _ _ fs _ => splitAtGen fs = none
  | _ => True
/-- b0: those that slept at the start; a: with these dead; b: the true ones -/
structure GR (b0 a b : Array GenState) : Prop where
  sz : a.size = b.size
  le : b0.size ≤ b.size
  old : ∀ (i : Nat) (x : GenState), b0[i]? = some x → Sus x → a[i]? = some (poison x) ∧ b[i]? = some x
  new : ∀ (i : Nat), (∀ x, b0[i]? = some x → ¬ Sus x) → a[i]? = b[i]? ∧ ∀ x, a[i]? = some x → NoGf x
def SR (b0 : Array GenState) (s t : Shared) : Prop := s = { t with gens := s.gens } ∧ GR b0 s.gens t.gens
theorem gget_set {a : Array GenState} {g i : Nat} {x : GenState} : (a.setIfInBounds g x)[i]? = if g = i ∧ i < a.size then some x else a[i]? := by
  rw [Array.getElem?_setIfInBounds]
  by_cases h : g = i
  · subst h
    by_cases h2 : g < a.size
    · simp [h2]
    · simp [h2]
  · simp [h]
theorem GR.set {b0 a b : Array GenState} {g : Nat} {x y : GenState} (h : GR b0 a b) (hg : a[g]? = some y) (hy : ∀ z, b0[g]? = some z → ¬ Sus z) (hx : NoGf x) : GR b0 (a.setIfInBounds g x) (b.setIfInBounds g x) := by
  refine ⟨by simp [h.sz], by simp [h.le], fun i z hz hs => ?_, fun i hi => ?_⟩
  · have ne : g ≠ i := fun e => hy z (by rw [e]; exact hz) hs
    rw [gget_set, gget_set, if_neg (by simp [ne]), if_neg (by simp [ne])]
    exact h.old i z hz hs
  · rw [gget_set, gget_set, h.sz]
    obtain ⟨h1, h2⟩ := h.new i hi
    by_cases e : g = i ∧ i < b.size
    · rw [if_pos e, if_pos e]
      exact ⟨rfl, fun z hz => by cases hz; exact hx⟩
    · rw [if_neg e, if_neg e]
      exact ⟨h1, h2⟩
theorem GR.push {b0 a b : Array GenState} {x : GenState} (h : GR b0 a b) (hx : NoGf x) : GR b0 (a.push x) (b.push x) := by
  refine ⟨by simp [h.sz], by simp; have := h.le; omega, fun i z hz hs => ?_, fun i hi => ?_⟩
  · obtain ⟨h1, h2⟩ := h.old i z hz hs
    have l1 := (Array.getElem?_eq_some_iff.mp h1).1
    have l2 := (Array.getElem?_eq_some_iff.mp h2).1
    rw [Array.getElem?_push, Array.getElem?_push, if_neg (by omega), if_neg (by omega)]
    exact ⟨h1, h2⟩
  · obtain ⟨h1, h2⟩ := h.new i hi
    rw [Array.getElem?_push, Array.getElem?_push, h.sz]
    by_cases e : i = b.size
    · rw [if_pos e, if_pos e]; exact ⟨rfl, fun z hz => by cases hz; exact hx⟩
    · rw [if_neg e, if_neg e]; exact ⟨h1, h2⟩
def NoGe : End → Prop
  | .ret _ => True
  | .susp _ _ _ _ _ _ fs => splitAtGen fs = none
section
variable {b0 : Array GenState} {s u : Shared}
theorem SR.eh (q : SR b0 s u) : s.heap = u.heap := by rw [q.1]
theorem SR.et (q : SR b0 s u) : s.toks = u.toks := by rw [q.1]
theorem SR.ed (q : SR b0 s u) : s.drawn = u.drawn := by rw [q.1]
theorem SR.eo (q : SR b0 s u) : s.os = u.os := by rw [q.1]
theorem SR.mk' (a : s.heap = u.heap) (b : s.toks = u.toks) (c : s.drawn = u.drawn) (d : s.os = u.os) (g : GR b0 s.gens u.gens) : SR b0 s u := by
  obtain ⟨h1, h2, h3, h4, h5⟩ := s
  obtain ⟨k1, k2, k3, k4, k5⟩ := u
  cases a; cases b; cases c; cases d
  exact ⟨rfl, g⟩
theorem SR.h (f : Heap → Heap) (q : SR b0 s u) : SR b0 { s with heap := f s.heap } { u with heap := f u.heap } := .mk' (by show f s.heap = f u.heap; rw [q.eh]) q.et q.ed q.eo q.2
theorem SR.t (q : SR b0 s u) : SR b0 { s with toks := s.toks + 1 } { u with toks := u.toks + 1 } := .mk' q.eh (by show s.toks + 1 = u.toks + 1; rw [q.et]) q.ed q.eo q.2
theorem SR.d (src : Source) (q : SR b0 s u) : SR b0 { s with drawn := s.drawn.bump src } { u with drawn := u.drawn.bump src } := .mk' q.eh q.et (by show s.drawn.bump src = u.drawn.bump src; rw [q.ed]) q.eo q.2
theorem SR.o (r : OsRequest) (q : SR b0 s u) : SR b0 { s with os := (Os.step s.os r).1 } { u with os := (Os.step u.os r).1 } := .mk' q.eh q.et q.ed (by show (Os.step s.os r).1 = (Os.step u.os r).1; rw [q.eo]) q.2
theorem SR.g (c : Code) (q : SR b0 s u) : SR b0 { s with gens := s.gens.push (.fresh c) } { u with gens := u.gens.push (.fresh c) } := .mk' q.eh q.et q.ed q.eo (q.2.push trivial)
end
/-- those that sleep are kept; G: how the run saw the table -/
structure Slp (b G b' : Array GenState) : Prop where
  keep : ∀ (i : Nat) (x : GenState), b[i]? = some x → Sus x → b'[i]? = some x
  bare : AllBare b → AllBare G → AllBare b'
end B
namespace B
open PySem L2
/-! G1: generators that are walked: the context of one that sleeps and is woken -/
open PySem.Spec PyProof.Rows
def cutH (L : Nat) (h : Heap) : Heap := { h with objs := (h.objs.toList.take L).toArray }
theorem cutH_objs {L : Nat} {h : Heap} {b : Nat} : (cutH L h).objs[b]? = if b < L then h.objs[b]? else none := by
  show ((h.objs.toList.take L).toArray)[b]? = _
  rw [List.getElem?_toArray, List.getElem?_take, Array.getElem?_toList]
theorem cutH_get {L : Nat} {h : Heap} {b : Addr} : (cutH L h).get? b = if b < L then h.get? b else none := by
  unfold Heap.get?
  rw [cutH_objs]
  by_cases l : b < L
  · rw [if_pos l, if_pos l]
  · rw [if_neg l, if_neg l]
theorem cutH_lt {L : Nat} {h : Heap} {b : Addr} (l : b < L) : (cutH L h).get? b = h.get? b := by rw [cutH_get, if_pos l]
theorem cutH_some {L : Nat} {h : Heap} {b : Addr} {o : Obj} (e : (cutH L h).get? b = some o) : b < L ∧ h.get? b = some o := by
  rw [cutH_get] at e
  by_cases l : b < L
  · rw [if_pos l] at e; exact ⟨l, e⟩
  · rw [if_neg l] at e; cases e
theorem cutH_size {L : Nat} {h : Heap} : (cutH L h).objs.size = min L h.objs.size := by
  show ((h.objs.toList.take L).toArray).size = _
  simp
def cutP (L : Nat) (H : Hp) : Hp := fun b => if b < L then H b else none
theorem cutP_lt {L : Nat} {H : Hp} {b : Addr} (l : b < L) : cutP L H b = H b := if_pos l
theorem cutP_some {L : Nat} {H : Hp} {b : Addr} {o : HO} (e : cutP L H b = some o) : b < L ∧ H b = some o := by
  unfold cutP at e
  by_cases l : b < L
  · rw [if_pos l] at e; exact ⟨l, e⟩
  · rw [if_neg l] at e; cases e
theorem cutP_none {L : Nat} {H : Hp} {b : Addr} (e : H b = none) : cutP L H b = none := by
  unfold cutP; split
  · exact e
  · rfl
def cutS (L : Nat) (s : Shared) : Shared := { s with heap := cutH L s.heap }
/-- where a generator's code runs: a, go: its object; L: its frame -/
structure GCx where
  P : Program
  w : World
  c : Ct
  mg : Str → Option Value
  base : Heap
  N : List Str
  qual : Str
  scope : Scope
  f : Addr
  cd : Value
  A : Around
  outer : List Env
  a : Addr
  go : Obj
  L : Nat
def GCx.env (X : GCx) : Env := envOfC X.qual X.scope X.L X.f X.cd
/-- the context from a wake on: s, H: the state there -/
def GCx.cx (X : GCx) (E : XK) (s : Shared) (H : Hp) : Cx where
  prog := X.P
  w := X.w
  K := X.c.K
  mg := X.mg
  base := X.base
  A := X.A.deeper X.env
  N := X.N
  s_0 := cutS X.L s
  H_0 := cutP X.L H
  env := X.env
  outer := X.outer
  stack := X.env :: X.outer
  ex := []
  calm := true
  fn := fun _ => true
  pn := [(X.a, X.go)]
  xe := fun e s' => wpAny (model X.P X.w) (X.A.deeper X.env) (leaving X.env e) (fun _ s'' => CX X.P X.w X.outer (cutP X.L H) (cutS X.L s) E e s'' ∧ ∀ p ∈ [(X.a, X.go)], s''.heap.get? p.1 = some p.2) (fun _ _ => False) s'
theorem funs_cut {L : Nat} {h h' base : Heap} : ∀ {l : List Env}, (cutH L h).FunFrames base l → h'.FunFrames base l → (cutH L h').FunFrames base l
  | [], _, _ => trivial
  | env :: l, ⟨_, ⟨_, o1, f1, _, g1, _⟩, r1⟩, ⟨k2, ⟨L2, o2, f2, n2, g2, d2⟩, r2⟩ => by
    refine ⟨k2, ⟨L2, o2, f2, n2, ?_, d2⟩, funs_cut r1 r2⟩
    rw [f1] at f2; cases f2
    rw [cutH_lt (cutH_some g1).1]; exact g2
/-- the addresses of a sleeper -/
def GCx.fp (X : GCx) (ip : List (Addr × Obj)) : List Addr := X.L :: X.a :: ip.map (·.1)
theorem GCx.wake {X : GCx} {E E' : XK} {s₀ s s' : Shared} {H₀ H H' : Hp} {ip : List (Addr × Obj)} {σ : L2.St} (hc : X.env.cells = []) (hL : X.L ≤ s'.heap.objs.size) (I : Inv (X.cx E s₀ H₀) ip σ H s) (e0 : Env0 X.P X.w X.c.K X.mg X.base X.A X.outer s' H')
    (hk : ∀ b ∈ X.fp ip, H' b = none ∧ ∀ o, s.heap.get? b = some o → s'.heap.get? b = some o) : Inv (X.cx E' s' H') ip σ H' s' := by
  have nc : ∀ x c, X.env.cells.lookup x = some c → False := fun x c e => by rw [hc] at e; cases e
  have bl : X.base.objs.size ≤ X.L := by
    have h1 : X.base.objs.size ≤ (cutH X.L s₀.heap).objs.size := I.ok.bsz
    rw [cutH_size] at h1; omega
  refine ⟨⟨I.ok.mod, I.ok.kind, I.ok.glob, I.ok.blt, ?_, I.ok.inj, I.ok.has, fun x c _ e => (nc x c e).elim, I.ok.hd, I.ok.frames, I.ok.stk, fun b z => absurd (show b ∈ ([] : List Addr) from z) (by simp), fun b o e => ?_, ?_, fun b o e z => absurd (show b ∈ ([] : List Addr) from z) (by simp),
    fun b z => absurd (show b ∈ ([] : List Addr) from z) (by simp), ?_, fun b hb => cutP_none (e0.frf b hb)⟩, rfl, e0.bare, ?_, ?_, fun x c e => (nc x c e).elim, (hk X.L (by unfold GCx.fp; simp)).1, fun x c e => (nc x c e).elim, fun p hp => ?_, e0.hok, I.len⟩
  · show (cutH X.L s'.heap).objs.size ≤ X.L
    rw [cutH_size]; omega
  · have hb : b < X.L := Nat.lt_of_lt_of_le (Heap.lt_size e) bl
    exact ⟨(cutH_lt hb).trans (e0.bs b o e).1, cutP_none (e0.bs b o e).2⟩
  · show X.base.objs.size ≤ (cutH X.L s'.heap).objs.size
    rw [cutH_size]; omega
  · exact funs_cut I.ok.funs e0.funs
  · refine ⟨fun b o q n _ _ => (cutH_some q).2, fun b o q n hb _ => ⟨o.slots, (cutH_some q).2⟩, fun b o q n _ => ?_, fun b o q _ => ⟨o, (cutH_some q).2⟩, fun b xs q => (cutP_some q).2, fun b o u q => (cutP_some q).2, fun b ps q => ⟨#[], by rw [(cutP_some q).2]; simp⟩⟩
    have n : cutP X.L H' b = none := n
    rw [cutP_lt (cutH_some q).1] at n; exact n
  · obtain ⟨m, hn, hl⟩ := I.loc
    refine ⟨m, hn.at' fun o e => (hk X.L (by unfold GCx.fp; simp)).2 o e, fun i x v e1 e2 e3 => ?_⟩
    obtain ⟨u, r, l⟩ := hl i x v e1 e2 e3
    refine ⟨u, r, ?_⟩
    rcases l with l | ⟨_, c, e, _⟩
    · exact .inl l
    · exact (nc x c e).elim
  · obtain ⟨e, n, ne, nf, d⟩ := I.pin p hp
    have hm : p.1 ∈ X.fp ip := by
      unfold GCx.fp
      have hp : p ∈ [(X.a, X.go)] ++ ip := hp
      rcases List.mem_append.mp hp with z | z
      · rw [List.mem_singleton.mp z]; simp
      · exact List.mem_cons_of_mem _ (List.mem_cons_of_mem _ (List.mem_map_of_mem z))
    exact ⟨(hk _ hm).2 _ e, (hk _ hm).1, ne, nf, d⟩
end B
namespace B
open PySem L2
/-! G2: a generator's body and its pure run: all that it hands out -/
open PySem.Spec PyProof.Rows GenW
def noX : XK := fun _ _ _ => False
def up {β : Type} (m : M Unit β) : M (List D) β := fun ys => match m () with
  | .ok b _ => .ok b ys
  | .err n es _ => .err n es ys
  | .bad => .bad
def upN {β : Type} (m : M Unit β) : M (List D) β := fun ys => match m () with
  | .ok b _ => .ok b ys
  | _ => .bad
def yldM (d : D) : M (List D) Unit := fun ys => .ok () (ys ++ [d])
/-- what is out stays out -/
def Ext {β : Type} (p : M (List D) β) : Prop := ∀ ys : List D, match p ys with
  | .ok _ ys' => ys <+: ys'
  | .err _ _ ys' => ys <+: ys'
  | .bad => True
section
variable {β β' : Type}
end
/-- a walk: ds: all that comes; Hnd: what the consumer holds at a wake (a number of items is out); EE: its wish of an exception -/
structure GWk where
  X : GCx
  ds : List D
  Hnd : Nat → W3 → Shared → Prop
  EE : XK
  g : Nat
  fin : Prop
namespace GWk
def nof : Addr → Prop := fun _ => False
def Gd (V : GWk) (ww : W3) (s₀ : Shared) (w : W3) (s : Shared) (fp : List Addr) : Prop :=
  s.os = s₀.os ∧ AllBare s.gens ∧ Un (frs V.X.outer) [] (cutP V.X.L ww.H) w.H (cutH V.X.L s₀.heap) s.heap ∧ HOk V.X.P V.X.w w.H s.heap ∧ Wd ⟨ww, nof⟩ w ∧ s.heap.NoLimit ∧ s.heap.IsGen V.X.a V.g ∧ V.X.a ∈ fp ∧
    ∀ b ∈ fp, w.H b = none ∧ V.X.L ≤ b ∧ ∃ o, s.heap.get? b = some o ∧ ∀ v, o.data ≠ .cell v
structure Rly (V : GWk) (fp : List Addr) (w : W3) (s : Shared) (w' : W3) (s' : Shared) : Prop where
  e0 : Env0 V.X.P V.X.w V.X.c.K V.X.mg V.X.base V.X.A V.X.outer s' w'.H
  le : w.le w'
  fg : Sub w'.F w'.G
  gh : Sub w'.G w'.H
  sz : V.X.L ≤ s'.heap.objs.size
  keep : ∀ b ∈ fp, w'.H b = none ∧ ∀ o, s.heap.get? b = some o → s'.heap.get? b = some o
def YY (V : GWk) : Protocol := fun n s₀ v s kap => ∃ (i : Nat) (ww w : W3) (x : L2.V) (d : D) (fp : List Addr), n + i = V.ds.length ∧ V.ds[i]? = some d ∧ V.Hnd i ww s₀ ∧ RelV x v ∧ Rp V.X.c w.F x d ∧ V.Gd ww s₀ w s fp ∧
  ∀ s' w', V.Rly fp w s w' s' → V.Hnd (i + 1) w' s' → kap (.send .none) s' ∧ kap (.send (.bool true)) s'
def RF (V : GWk) (n : Nat) (s₀ s : Shared) : Prop := V.fin ∧ n = 1 ∧ ∃ ww w, V.Hnd V.ds.length ww s₀ ∧ V.Gd ww s₀ w s [V.X.a]
def RE (V : GWk) (e : Value) (s : Shared) : Prop := ∃ s₀ ww, V.Hnd 0 ww s₀ ∧ CX V.X.P V.X.w V.X.outer (cutP V.X.L ww.H) (cutS V.X.L s₀) V.EE e s ∧ s.heap.IsGen V.X.a V.g
def RR (V : GWk) : GenEnd := fun n s₀ r s => ((r = .ok (.ret .none) ∨ r = .ok .next) ∧ V.RF n s₀ s) ∨ ∃ e, r = .error e ∧ V.RE e s
open Classical in
noncomputable def Eof (V : GWk) (ys : List D) : XK := if ys = [] then V.EE else noX
/-- within the body: ys is out -/
def St (V : GWk) (wb : W3) (ip : List (Addr × Obj)) (γ : List Sl) (n : Nat) (ys : List D) (s₀ s : Shared) (σ : L2.St) : Prop :=
  ∃ (ww w : W3), n + ys.length = V.ds.length + 1 ∧ V.Hnd ys.length ww s₀ ∧ Inv (V.X.cx (V.Eof ys) s₀ ww.H) ip σ w.H s ∧ In V.X.c ⟨ww, nof⟩ Z0 γ () w σ ∧ (∀ p ∈ ip, V.X.L ≤ p.1) ∧ V.X.L ≤ s₀.heap.objs.size ∧ wb.le w
def Xs (V : GWk) (e : Value) (s₀ s : Shared) : Prop := ∃ (ww : W3) (ys : List D), V.Hnd ys.length ww s₀ ∧ (V.X.cx (V.Eof ys) s₀ ww.H).xe e s
def XOk (V : GWk) (n : Nat) (es : List D) : Prop := ∀ ww s₀, V.Hnd 0 ww s₀ → ∀ dx xs w', Wd ⟨ww, nof⟩ w' → w'.H dx = some (.xd ((V.X.c.ef n).zip xs)) → (xs.length = (V.X.c.ef n).length ∧ w'.G dx = none ∧ ww.H dx = none) → RpA V.X.c w'.F xs es → V.EE (.ref (V.X.c.ec n)) (some dx) w'.H
def Good (V : GWk) {β : Type} (o : Out (List D) β) (C : β → List D → Prop) : Prop := match o with
  | .ok b ys' => ys' <+: V.ds ∧ C b ys'
  | .err n es ys' => ys' = [] ∧ V.XOk n es
  | .bad => False
structure C2 (V : GWk) (c : Code) (fs : List Frame) (gd : Bool → Bool) : Prop where
  over : V.X.A.over c fs = V.X.A.deeper V.X.env
  split : splitAtGen fs = none
  guard : fs.any Frame.guarded = false
  gd : gd false = false
structure Ok (V : GWk) : Prop where
  cells : V.X.env.cells = []
  gen : ∀ h : Heap, h.get? V.X.a = some V.X.go → h.IsGen V.X.a V.g
  la : V.X.L ≤ V.X.a
end GWk
abbrev SegV (V : GWk) (n : Nat) (s₀ : Shared) (c : Code) (t : Sem PySem.Fin) (fs : List Frame) (s : Shared) : Prop := Seg (model V.X.P V.X.w) V.X.A V.RR V.YY n s₀ c t fs s
/-- statements of a generator, by their pure run -/
def GQ (V : GWk) (γ : List Sl) (st : List Stmt) {β : Type} (G : β → List Sl) (p : M (List D) β) : Prop :=
  Ext p ∧ ∀ (n : Nat) (ys : List D) (s₀ : Shared) (c : Code) (fs : List Frame) (K : Flow → Sem PySem.Fin) (J : Value → Sem PySem.Fin) (gd : Bool → Bool) (lv : List Value → List Value) (s : Shared) (σ : L2.St) (ip : List (Addr × Obj)) (wb : W3),
    V.C2 c fs gd → V.St wb ip γ n ys s₀ s σ → V.Good (p ys) (fun b ys' => ∀ n' s₀' s' σ', V.St wb ip (G b) n' ys' s₀' s' σ' → SegV V n' s₀' c (K .next) fs s') → (∀ n' s₀' e s', V.Xs e s₀' s' → SegV V n' s₀' c (J e) fs s') →
      SegV V n s₀ c ((execs st V.X.env).wrap K J gd lv) fs s
section
variable {V : GWk} {γ γ' γe : List Sl} {β β1 : Type} {G : β → List Sl} {G1 : β1 → List Sl} {rest : List Stmt}
theorem GWk.St.weak {wb : W3} {ip : List (Addr × Obj)} {n : Nat} {ys : List D} {s₀ s : Shared} {σ : L2.St} (h : V.St wb ip γ n ys s₀ s σ) (l : Lek γ γ') : V.St wb ip γ' n ys s₀ s σ := by
  obtain ⟨ww, w, h1, h2, h3, h4, h5⟩ := h
  exact ⟨ww, w, h1, h2, h3, h4.weak l, h5⟩
/-- the good end of a first part -/
theorem GWk.Good.bind {p1 : M Unit β1} {p2 : β1 → M (List D) β} {ys : List D} {C : β → List D → Prop} {b : β1} (h : V.Good ((up p1 >>= p2) ys) C) (e : p1 () = .ok b ()) : V.Good (p2 b ys) C := by
  have q : (up p1 >>= p2) ys = p2 b ys := by rw [M.bind_def]; unfold up; rw [e]
  rw [q] at h; exact h
def noMv : List Sl → Bool
  | [] => true
  | .ow _ :: _ => false
  | .st :: _ => false
  | .st2 _ :: _ => false
  | _ :: γ => noMv γ
end
end B
namespace B
open PySem L2
/-! G3: if and for in a generator -/
open PySem.Spec PyProof.Rows GenW
section
variable {V : GWk} {γ γ' γe : List Sl} {β β1 : Type} {G : β → List Sl} {G1 : β1 → List Sl} {rest : List Stmt}
/-! ### for -/
def noteX (env : Env) (x : Value) : Sem PySem.Fin := (do noteFrame x env; theTreesLotGoes x : Sem Unit).wrap (fun _ => .raise x) .raise id id
def ownF (env : Env) (K : Flow → Sem PySem.Fin) (J : Value → Sem PySem.Fin) (gd : Bool → Bool) (lv : List Value → List Value) : Result → Sem PySem.Fin := fun r => ((match r with | .ok f => (.pure f : Sem Flow) | .error e => .raise e).onRaise (cameBack env)).wrap K J gd lv
def itemsL : D → Option (List D)
  | .lst ds => some ds
  | .tup ds => some ds
  | _ => none
def Fpo (V : GWk) (ip : List (Addr × Obj)) (b : Addr) : Prop := V.X.L < b ∧ b ∉ frs V.X.outer ∧ b ≠ V.X.a ∧ ∀ p ∈ ip, p.1 ≠ b
theorem Fpo.ok {ip : List (Addr × Obj)} {b : Addr} {E : XK} {s₀ : Shared} {H₀ H : Hp} (ok : V.Ok) (h : Fpo V ip b) (hb : H b = none) : FpOk (V.X.cx E s₀ H₀) ip H b := by
  refine ⟨hb, Nat.ne_of_gt h.1, h.2.1, .inr ?_, fun x c e => ?_, fun p hp => ?_⟩
  · show (cutH V.X.L s₀.heap).objs.size ≤ b
    rw [cutH_size]
    exact Nat.le_trans (Nat.min_le_left _ _) (Nat.le_of_lt h.1)
  · have e : V.X.env.cells.lookup x = some c := e
    rw [ok.cells] at e; cases e
  · have hp : p ∈ [(V.X.a, V.X.go)] ++ ip := hp
    rcases List.mem_append.mp hp with z | z
    · rw [List.mem_singleton.mp z]; exact Ne.symm h.2.2.1
    · exact h.2.2.2 p z
theorem Fpo.of {ip : List (Addr × Obj)} {b : Addr} {E : XK} {s₀ : Shared} {H₀ H : Hp} (hL : V.X.L ≤ s₀.heap.objs.size) (h : FpOk (V.X.cx E s₀ H₀) ip H b) : Fpo V ip b := by
  obtain ⟨_, h1, h2, h3, _, h5⟩ := h
  refine ⟨?_, h2, fun z => h5 (V.X.a, V.X.go) (List.mem_append_left _ (List.mem_singleton.mpr rfl)) z.symm, fun p hp => h5 p (List.mem_append_right _ hp)⟩
  rcases h3 with z | z
  · cases z
  · have z : (cutH V.X.L s₀.heap).objs.size ≤ b := z
    rw [cutH_size, Nat.min_eq_left hL] at z
    exact Nat.lt_of_le_of_ne z (Ne.symm h1)
end
end B
namespace B
open PySem L2
/-! G4: a generator def called: a generator that has not begun -/
open PySem.Spec PyProof.Rows GenW
def fzs (ds : List D) (n : Nat) : List Sl := ds.map Sl.fz ++ List.replicate n .un
theorem funs_cut0 {h h' base : Heap} : ∀ {l : List Env}, h.FunFrames base l → h'.FunFrames base l → (cutH h.objs.size h').FunFrames base l
  | [], _, _ => trivial
  | env :: l, ⟨_, ⟨_, o1, f1, _, g1, _⟩, r1⟩, ⟨k2, ⟨L2, o2, f2, n2, g2, d2⟩, r2⟩ => by
    refine ⟨k2, ⟨L2, o2, f2, n2, ?_, d2⟩, funs_cut0 r1 r2⟩
    rw [f1] at f2; cases f2
    rw [cutH_lt (Heap.lt_size g1)]; exact g2
theorem GCx.start {P : Program} {w : World} {c : Ct} {mg : Str → Option Value} {base : Heap} {N : List Str} {qual : Str} {scope : Scope} {f : Addr} {cd : Value} {A : Around} {outer : List Env} {s s1 s2 : Shared} {H H2 : Hp} {E E' : XK} {σ : L2.St} {a : Addr} {go : Obj}
    (I : Inv (gcxOf P w c.K mg base N qual scope f cd A outer s H E []) [] σ H s1) (hc : (envOfC qual scope s.heap.objs.size f cd).cells = []) (e0 : Env0 P w c.K mg base A outer s2 H2) (hL : s.heap.objs.size ≤ s2.heap.objs.size)
    (hl : H2 s.heap.objs.size = none ∧ ∀ o, s1.heap.get? s.heap.objs.size = some o → s2.heap.get? s.heap.objs.size = some o) (ha : s2.heap.get? a = some go ∧ H2 a = none ∧ s.heap.objs.size < a ∧ ∀ v, go.data ≠ .cell v) :
    Inv ((GCx.mk P w c mg base N qual scope f cd A outer a go s.heap.objs.size).cx E' s2 H2) [] σ H2 s2 := by
  have nc : ∀ x c, (envOfC qual scope s.heap.objs.size f cd).cells.lookup x = some c → False := fun x c e => by rw [hc] at e; cases e
  have bl : base.objs.size ≤ s.heap.objs.size := I.ok.bsz
  refine ⟨⟨I.ok.mod, I.ok.kind, I.ok.glob, I.ok.blt, ?_, I.ok.inj, I.ok.has, fun x c _ e => (nc x c e).elim, I.ok.hd, I.ok.frames, I.ok.stk, fun b z => absurd (show b ∈ ([] : List Addr) from z) (by simp), fun b o e => ?_, ?_, fun b o e z => absurd (show b ∈ ([] : List Addr) from z) (by simp),
    fun b z => absurd (show b ∈ ([] : List Addr) from z) (by simp), funs_cut0 I.ok.funs e0.funs, fun b hb => cutP_none (e0.frf b hb)⟩, rfl, e0.bare, ?_, ?_, fun x c e => (nc x c e).elim, hl.1, fun x c e => (nc x c e).elim, fun p hp => ?_, e0.hok, I.len⟩
  · show (cutH _ s2.heap).objs.size ≤ s.heap.objs.size
    rw [cutH_size]; exact Nat.min_le_left _ _
  · have hb : b < s.heap.objs.size := Nat.lt_of_lt_of_le (Heap.lt_size e) bl
    exact ⟨(cutH_lt hb).trans (e0.bs b o e).1, cutP_none (e0.bs b o e).2⟩
  · show base.objs.size ≤ (cutH _ s2.heap).objs.size
    rw [cutH_size]; exact Nat.le_min.mpr ⟨bl, Nat.le_trans bl hL⟩
  · refine ⟨fun b o q n _ _ => (cutH_some q).2, fun b o q n hb _ => ⟨o.slots, (cutH_some q).2⟩, fun b o q n _ => ?_, fun b o q _ => ⟨o, (cutH_some q).2⟩, fun b xs q => (cutP_some q).2, fun b o u q => (cutP_some q).2, fun b ps q => ⟨#[], by rw [(cutP_some q).2]; simp⟩⟩
    have n : cutP _ H2 b = none := n
    rw [cutP_lt (cutH_some q).1] at n; exact n
  · obtain ⟨m, hn, hl'⟩ := I.loc
    refine ⟨m, hn.at' fun o e => hl.2 o e, fun i x v e1 e2 e3 => ?_⟩
    obtain ⟨u, r, l⟩ := hl' i x v e1 e2 e3
    refine ⟨u, r, ?_⟩
    rcases l with l | ⟨_, c, e, _⟩
    · exact .inl l
    · exact (nc x c e).elim
  · have hp : p ∈ [(a, go)] ++ [] := hp
    rw [List.append_nil] at hp
    rw [List.mem_singleton.mp hp]
    refine ⟨ha.1, ha.2.1, Nat.ne_of_gt ha.2.2.1, fun hm => ?_, ha.2.2.2⟩
    obtain ⟨_, o, ho, _⟩ := I.ok.funs.mem hm
    exact absurd (Nat.lt_trans ha.2.2.1 (Heap.lt_size ho)) (Nat.lt_irrefl _)
/-- a generator made by a call, not begun -/
def GMd (P : Program) (w : World) (c : Ct) (mg : Str → Option Value) (base : Heap) (k : Nat) (outer : List Env) (s : Shared) (w3 : W3) (gn : M (List D) Unit) (u : Value) (s' : Shared) : Prop :=
  ∃ (a : Addr) (g : Nat) (code : Code) (go : Obj) (N : List Str) (qual : Str) (scope : Scope) (f : Addr) (cd : Value), u = .ref a ∧ s.heap.objs.size < a ∧ a < s'.heap.objs.size ∧ s'.heap.get? a = some go ∧ (∀ h : Heap, h.get? a = some go → h.IsGen a g) ∧ (∀ v, go.data ≠ .cell v) ∧ s'.gens[g]? = some (.fresh code) ∧ s'.os = s.os ∧ AllBare s'.gens ∧ s'.heap.NoLimit ∧
    (∀ b o, s.heap.get? b = some o → s'.heap.get? b = some o) ∧ (∃ o, s'.heap.get? s.heap.objs.size = some o ∧ ∀ v, o.data ≠ .cell v) ∧ ∀ (A : Around) (dsT : List D) (Hnd : Nat → W3 → Shared → Prop) (EE : XK) (fin : Prop) (s2 : Shared) (w2 : W3), Room k A → A.frames = some outer →
      (GWk.mk (GCx.mk P w c mg base N qual scope f cd A outer a go s.heap.objs.size) dsT Hnd EE g fin).Good (gn []) (fun _ ys => ys = dsT ∧ fin) → Hnd 0 w2 s2 → w3.le w2 → Sub w2.F w2.G → Sub w2.G w2.H → Env0 P w c.K mg base A outer s2 w2.H → s.heap.objs.size ≤ s2.heap.objs.size →
      (∀ b, (b = s.heap.objs.size ∨ b = a) → w2.H b = none ∧ ∀ o, s'.heap.get? b = some o → s2.heap.get? b = some o) →
      SegV (GWk.mk (GCx.mk P w c mg base N qual scope f cd A outer a go s.heap.objs.size) dsT Hnd EE g fin) (dsT.length + 1) s2 code ((model P w).den code) [] s2
structure GenOk (P : Program) (w : World) (c : Ct) (mg : Str → Option Value) (base : Heap) (k : Nat) (f : Addr) (fd : FuncData) (ps : List Str) (gn : List D → M (List D) Unit) : Prop where
  run : ∀ (A : Around) (outer : List Env) (s : Shared) (args : PySem.Args) (us : List Value) (vs : List V) (ds : List D) (w3 : W3), Room k A → Env0 P w c.K mg base A outer s w3.H → BindsTo s fd args (ps.zip us) → Vals vs us → Sub w3.F w3.G → Sub w3.G w3.H → RpA c w3.F vs ds → ds.length = ps.length →
    codeAny (model P w) A (.call (.ref f) args) (fun r s' => match r with | .ok (.ret u) => GMd P w c mg base k outer s w3 (gn ds) u s' | _ => False) s
end B
namespace B
open PySem L2
/-! G5: a generator walked by for -/
open PySem.Spec PyProof.Rows GenW
def tRaw (X : Cx) (st : Stmt) : TS := fun D σ H => ∀ pins s, Inv X pins σ H s → wpAny (model X.prog X.w) X.A (exec st X.env) (SP X pins D) X.xe s
/-- all that a generator hands out; Sx: the errors that it may raise ahead of its first item -/
def genL {S : Type} (Sx : List Nat) (m : M (List D) Unit) : M S (List D) := fun s => match m [] with
  | .ok _ ys => .ok ys s
  | .err n es [] => if n ∈ Sx then .err n es s else .bad
  | _ => .bad
def tVars : List Nat → TA
  | [] => tNil
  | i :: is => tCons (tVar i) (tVars is)
def FzAt (γ : List Sl) : List Nat → List D → Prop
  | [], [] => True
  | i :: is, d :: ds => γ[i]? = some (.fz d) ∧ FzAt γ is ds
  | _, _ => False
structure DfY (P : Program) (w : World) (c : Ct) (mg : Str → Option Value) (base : Heap) (k : Nat) (x : Str) (ps : List Str) (gn : List D → M (List D) Unit) : Prop where
  ex : ∃ f fd, mg x = some (.ref f) ∧ PySem.W.keepIn c.K (.ref f) = true ∧ Binds c.K fd ps [] ∧ GenOk P w c mg base k f fd ps gn
/-- what is wanted of an exception does not look at the generators that sleep -/
def XeS (X : Cx) : Prop := ∀ (b0 : Array GenState) (e : Value) (s u : Shared), AllBare b0 → SR b0 s u → X.xe e s → X.xe e u
section
variable {X : Cx} {c : Ct} {Z : StK} {γ γe : List Sl} {W : WX} {β : Type} {G : β → List Sl} {rm : Bool}
end
end B
namespace B
open PySem L2
/-! G6: shorter words for walked generators -/
open PySem.Spec PyProof.Rows GenW
section
variable {V : GWk} {γ γ' γe : List Sl} {β β1 : Type} {G : β → List Sl} {G1 : β1 → List Sl} {rest : List Stmt}
end
section
variable {X : Cx} {c : Ct} {Z : StK} {γ γe : List Sl} {W : WX} {β : Type} {G : β → List Sl} {rm : Bool} {t : TS}
variable {tg : Expr} {x : Str} {e : Expr} {es : List Expr} {body : List Stmt} {pos pos' p : Pos} {k : Nat} {ps : List Str} {gn : List D → M (List D) Unit} {is : List Nat} {ds : List D} {g : TG} {tB : TS} {tK : PySem.W.Frag}
end
end B
namespace B
open PySem L2
theorem sc_BadName___init__ : FnScope ["self", "name"] ["self", "name"] (defScope s_BadName___init__) := ⟨rfl, rfl, rfl, by decide +kernel, rfl, by decide +kernel, by decide +kernel⟩
theorem sc_DuplicateName___init__ : FnScope ["self", "name"] ["self", "name"] (defScope s_DuplicateName___init__) := ⟨rfl, rfl, rfl, by decide +kernel, rfl, by decide +kernel, by decide +kernel⟩
theorem sc_UnknownName___init__ : FnScope ["self", "name"] ["self", "name"] (defScope s_UnknownName___init__) := ⟨rfl, rfl, rfl, by decide +kernel, rfl, by decide +kernel, by decide +kernel⟩
theorem sc_BadCount___init__ : FnScope ["self", "count"] ["self", "count"] (defScope s_BadCount___init__) := ⟨rfl, rfl, rfl, by decide +kernel, rfl, by decide +kernel, by decide +kernel⟩
theorem sc_BadBundle___init__ : FnScope ["self", "value"] ["self", "value"] (defScope s_BadBundle___init__) := ⟨rfl, rfl, rfl, by decide +kernel, rfl, by decide +kernel, by decide +kernel⟩
theorem sc_BadWorth___init__ : FnScope ["self", "worth"] ["self", "worth"] (defScope s_BadWorth___init__) := ⟨rfl, rfl, rfl, by decide +kernel, rfl, by decide +kernel, by decide +kernel⟩
theorem sc_NotRising___init__ : FnScope ["self", "value", "name"] ["self", "value", "name"] (defScope s_NotRising___init__) := ⟨rfl, rfl, rfl, by decide +kernel, rfl, by decide +kernel, by decide +kernel⟩
theorem sc_BadText___init__ : FnScope ["self", "text"] ["self", "text"] (defScope s_BadText___init__) := ⟨rfl, rfl, rfl, by decide +kernel, rfl, by decide +kernel, by decide +kernel⟩
theorem sc_BadPrice___init__ : FnScope ["self", "price"] ["self", "price"] (defScope s_BadPrice___init__) := ⟨rfl, rfl, rfl, by decide +kernel, rfl, by decide +kernel, by decide +kernel⟩
theorem sc_BadUnit___init__ : FnScope ["self", "value"] ["self", "value"] (defScope s_BadUnit___init__) := ⟨rfl, rfl, rfl, by decide +kernel, rfl, by decide +kernel, by decide +kernel⟩
theorem sc_BadFactor___init__ : FnScope ["self", "value"] ["self", "value"] (defScope s_BadFactor___init__) := ⟨rfl, rfl, rfl, by decide +kernel, rfl, by decide +kernel, by decide +kernel⟩
theorem sc_UnlikeGoods___init__ : FnScope ["self", "names"] ["self", "names"] (defScope s_UnlikeGoods___init__) := ⟨rfl, rfl, rfl, by decide +kernel, rfl, by decide +kernel, by decide +kernel⟩
theorem sc_NotWanted___init__ : FnScope ["self", "value"] ["self", "value"] (defScope s_NotWanted___init__) := ⟨rfl, rfl, rfl, by decide +kernel, rfl, by decide +kernel, by decide +kernel⟩
theorem sc_NotHigher___init__ : FnScope ["self", "name"] ["self", "name"] (defScope s_NotHigher___init__) := ⟨rfl, rfl, rfl, by decide +kernel, rfl, by decide +kernel, by decide +kernel⟩
theorem sc_NotNested___init__ : FnScope ["self", "value"] ["self", "value"] (defScope s_NotNested___init__) := ⟨rfl, rfl, rfl, by decide +kernel, rfl, by decide +kernel, by decide +kernel⟩
theorem sc_BadSteps___init__ : FnScope ["self", "steps"] ["self", "steps"] (defScope s_BadSteps___init__) := ⟨rfl, rfl, rfl, by decide +kernel, rfl, by decide +kernel, by decide +kernel⟩
theorem sc_BadSharing___init__ : FnScope ["self", "sharing"] ["self", "sharing"] (defScope s_BadSharing___init__) := ⟨rfl, rfl, rfl, by decide +kernel, rfl, by decide +kernel, by decide +kernel⟩
theorem sc_IsSubstitutes___init__ : FnScope ["self"] ["self"] (defScope s_IsSubstitutes___init__) := ⟨rfl, rfl, rfl, by decide +kernel, rfl, by decide +kernel, by decide +kernel⟩
theorem sc_BadBound___init__ : FnScope ["self", "bound"] ["self", "bound"] (defScope s_BadBound___init__) := ⟨rfl, rfl, rfl, by decide +kernel, rfl, by decide +kernel, by decide +kernel⟩
theorem sc_NothingToUndo___init__ : FnScope ["self"] ["self"] (defScope s_NothingToUndo___init__) := ⟨rfl, rfl, rfl, by decide +kernel, rfl, by decide +kernel, by decide +kernel⟩
theorem sc_l_start : FnScope ["_law_script", "_law_cell"] ["_law_script"] (defScope s_l_start) := ⟨rfl, rfl, rfl, by decide +kernel, rfl, by decide +kernel, by decide +kernel⟩
theorem sc_l_draw : FnScope ["_law_state", "_law_size", "_law_digit", "_law_cell", "_law_one"] ["_law_state", "_law_size"] (defScope s_l_draw) := ⟨rfl, rfl, rfl, by decide +kernel, rfl, by decide +kernel, by decide +kernel⟩
theorem sc_l_signs : FnScope ["_law_signs_here"] [] (defScope s_l_signs) := ⟨rfl, rfl, rfl, by decide +kernel, rfl, by decide +kernel, by decide +kernel⟩
theorem sc_l_kinds : FnScope ["_law_e", "_law_kinds_here"] ["_law_e"] (defScope s_l_kinds) := ⟨rfl, rfl, rfl, by decide +kernel, rfl, by decide +kernel, by decide +kernel⟩
theorem sc_l_thing : FnScope ["_law_state", "_law_amount", "_law_signs_here", "_law_word", "_law_k"] ["_law_state"] (defScope s_l_thing) := ⟨rfl, rfl, rfl, by decide +kernel, rfl, by decide +kernel, by decide +kernel⟩
theorem sc_l_all : FnScope ["_law_t", "_law_made"] ["_law_t"] (defScope s_l_all) := ⟨rfl, rfl, rfl, by decide +kernel, rfl, by decide +kernel, by decide +kernel⟩
theorem sc_l_named : FnScope ["_law_t", "_law_made"] ["_law_t"] (defScope s_l_named) := ⟨rfl, rfl, rfl, by decide +kernel, rfl, by decide +kernel, by decide +kernel⟩
theorem sc_l_keeps : FnScope ["_law_made", "_law_t", "_law_k", "_law_told", "_law_j"] ["_law_made", "_law_t"] (defScope s_l_keeps) := ⟨rfl, rfl, rfl, by decide +kernel, rfl, by decide +kernel, by decide +kernel⟩
theorem sc_law : FnScope ["_law_script", "_law_state", "_law_t", "_law_lists", "_law_both", "_law_row", "_law_dicts", "_law_k"] ["_law_script"] (defScope s_law) := ⟨rfl, rfl, rfl, by decide +kernel, rfl, by decide +kernel, by decide +kernel⟩
end B
namespace B
open PySem L2
section
variable {P : Program} {w : World} {K : PySem.W.Frag} {mg : Str → Option Value} {base : Heap}
theorem ok_draw {f : Addr} {fd : FuncData} (F : Fun K "_law_draw" "_law_draw" s_l_draw f fd) (T : Bt mg) : FnOk P w K mg base CX0 1 f fd ["_law_state", "_law_size"] spDraw := by
  refine F.ok sc_l_draw (fun vs H Q E h => ?_) (fun cdv A outer s H vs Q E hr h => ⟨_, wb, ?_⟩)
  · obtain ⟨p, m, z, rfl, _⟩ := h
    rfl
  · obtain ⟨p, m, z, rfl, S, z0, z1, k⟩ := h
    obtain ⟨c, l, cs, sc, n, hp, hc, hl, ncl, lc, l0, l1, n0, n1⟩ := S.ex
    have npc := ne_st hp hc
    have npl := ne_st hp hl
    refine nxt (ps_augS (pv 0) pe_int get_list pe_int ip_add set_list) ?_
    refine ⟨_, rfl, p, _, 2, _, rfl, rfl, sqL hp, rfl, _, _, rfl, rfl, p, _, 2, 2, rfl, rfl, hp, rfl, ?_⟩
    have D1 : Dz p l sc (n + 1) H (upd H p (.lst [.ref c, .ref l, .int (n + 1)])) c cs :=
      ⟨upd_same, by rw [upd_ne npc]; exact hc, by rw [upd_ne npl]; exact hl, ncl, npc, npl, lc, Kp.set hp upd_same (.inl rfl) (fun b o h hb _ _ => by rw [upd_ne hb]; exact h) ⟨_, by rw [upd_ne npc]; exact hc⟩ ⟨_, by rw [upd_ne npl]; exact hl⟩⟩
    refine nxtN (ps_while PassesOwn.never (PW.pt (pw_and (pt_cmpR (op_neP hr.units) (pe_ix ix_list (pv 0) pe_int (fun _ _ => rfl)) (pe_lst pa_nil) (nomark _)) (pw_and1 (pt_cmpR op_eq (pe_ix ix_list (pe_ix ix_list (pv 0) pe_int (fun _ _ => rfl)) pe_int (fun _ _ => rfl)) pe_int (nomark _))))) wb) fun N hN => ?_
    refine ⟨fun m' σ H' => σ = [some (.ref p), some (.int z), none, none, none] ∧ ∃ c cs, cs.length = m' ∧ Dz p l sc (n + 1) H H' c cs, ⟨_, rfl, c, cs, rfl, D1⟩, ?_⟩
    rintro m' σ H1 ⟨rfl, c1, cs1, hlen, D⟩
    refine ⟨_, rfl, p, _, 0, _, rfl, rfl, sqL D.hp, rfl, by decide, fun q nq => ?_⟩
    refine upd_gen nq fun H2 e2 h2 => ?_
    have D2 := D.same e2
    refine ⟨_, _, dpL D2.hc (dp_ints _), dpL h2 .nil, .inr (by decide), _, rfl, ?_⟩
    have out : ∀ H3 c3 cs3, Dz p l sc (n + 1) H H3 c3 cs3 → N [some (.ref p), some (.int z), none, none, none] H3 := ?out
    case out =>
      intro H3 c3 cs3 D3
      refine hN _ _ ?_
      refine nxtN (ps_if (pt_cmpR (op_neP hr.units) (pe_ix ix_list (pv 0) pe_int (fun _ _ => rfl)) (pe_lst pa_nil) (nomark _)) wb pss_nil) fun N2 hN2 => ?_
      refine ⟨_, rfl, p, _, 0, _, rfl, rfl, sqL D3.hp, rfl, by decide, fun q nq => ?_⟩
      refine upd_gen nq fun H4 e4 h4 => ?_
      have D4 := D3.same e4
      refine ⟨_, _, dpL D4.hc (dp_ints _), dpL h4 .nil, .inr (by decide), _, rfl, ?_⟩
      rw [PyData.eqv, eqv_nil]
      cases cs3 with
      | cons a r =>
        refine iteT ?_
        refine nxt (ps_set (i := 2) sc_l_draw.nd rfl (Or.inl rfl) (pe_op op_mod (pe_callTy call_int1 (by rfl) T.int (by decide +kernel) (pa_cons (pe_ix ix_list (pe_ix ix_list (pv 0) pe_int (fun _ _ => rfl)) pe_int (fun _ _ => rfl)) pa_nil)) (pv 1))) ?_
        refine ⟨_, rfl, p, _, 0, _, rfl, rfl, sqL D4.hp, rfl, c3, _, 0, _, rfl, rfl, sqL D4.hc, at0, .inl ⟨_, rfl, _, rfl, _, _, rfl, rfl, z0, ?_⟩⟩
        refine nxt (ps_asg (pe_op op_fdivW (pe_ix ix_list (pe_ix ix_list (pv 0) pe_int (fun _ _ => rfl)) pe_int (fun _ _ => rfl)) (pv 1)) (pg_sub (pe_ix ix_list (pv 0) pe_int (fun _ _ => rfl)) pe_int set_list)) ?_
        refine ⟨_, rfl, p, _, 0, _, rfl, rfl, sqL D4.hp, rfl, c3, _, 0, _, rfl, rfl, sqL D4.hc, at0, _, rfl, _, _, rfl, rfl, wide_div z0 (b := 40) (by omega) (by decide) (by decide), _, rfl, p, _, 0, _, rfl, rfl, sqL D4.hp, rfl, c3, _, 0, 0, rfl, rfl, D4.hc, ?_, ?_⟩
        · show ixN ((a :: r).map V.int).length 0 = some 0
          exact ixN_nat (j := 0) (by simp)
        refine last (ps_ret (pv 2)) ?_
        refine ⟨_, rfl, ?_⟩
        refine k _ _ (Int.emod_nonneg _ (by omega)) (Int.emod_lt_of_pos _ z0) ?_ ?_
        · refine Dz.st (c := c3) (cs := a / z :: r) (n := n + 1) (l := l) (sc := sc) ⟨?_, upd_same, ?_, D4.ncl, D4.npc, D4.npl, D4.ln, Kp.refl _ _⟩ l0 l1 (by omega) (by omega)
          · rw [upd_ne D4.npc.symm]; exact D4.hp
          · rw [upd_ne D4.ncl.symm]; exact D4.hl
        · refine D4.kp.trans (Kp.set D4.hp (by rw [upd_ne D4.npc.symm]; exact D4.hp) (.inl rfl) (fun b o h _ hb _ => by rw [upd_ne hb]; exact h) ⟨_, upd_same⟩ ⟨_, by rw [upd_ne D4.ncl.symm]; exact D4.hl⟩)
      | nil =>
        refine iteF ?_
        refine hN2 _ _ ?_
        refine nxt (ps_set (i := 3) sc_l_draw.nd rfl (Or.inl rfl) (pe_op op_mod (pe_callTy call_int1 (by rfl) T.int (by decide +kernel) (pa_cons (pe_ix ix_list (pe_ix ix_list (pv 0) pe_int (fun _ _ => rfl)) (pe_op op_mod (pe_callTy call_int1 (by rfl) T.int (by decide +kernel) (pa_cons (pe_ix ix_list (pv 0) pe_int (fun _ _ => rfl)) pa_nil)) (pe_callB call_len_seq (by rfl) T.len PySem.boot_len (pa_cons (pe_ix ix_list (pv 0) pe_int (fun _ _ => rfl)) pa_nil))) (fun _ _ => rfl)) pa_nil)) pe_int)) ?_
        have hm0 : 0 ≤ (n + 1) % (sc.length : Int) := Int.emod_nonneg _ (by omega)
        have hm1 : (n + 1) % (sc.length : Int) < (sc.length : Int) := Int.emod_lt_of_pos _ (by omega)
        obtain ⟨j, hj⟩ : ∃ j : Nat, (n + 1) % (sc.length : Int) = (j : Int) := ⟨_, (Int.toNat_of_nonneg hm0).symm⟩
        have hj1 : j < sc.length := by omega
        refine ⟨_, rfl, p, _, 1, _, rfl, rfl, sqL D4.hp, rfl, _, rfl, p, _, 2, _, rfl, rfl, sqL D4.hp, rfl, .inl ⟨_, rfl, _, rfl, p, _, 1, _, rfl, rfl, sqL D4.hp, rfl, l, _, rfl, .inl (sqL D4.hl), _, _, rfl, rfl, ?_, ?_⟩⟩
        · show (0 : Int) < ((sc.map V.int).length : Int)
          rw [List.length_map]; omega
        refine ⟨l, _, _, V.int sc[j], rfl, rfl, sqL D4.hl, ?_, .inl ⟨_, rfl, _, _, rfl, rfl, (by show (0 : Int) < _; decide), ?_⟩⟩
        · rw [List.length_map, hj]
          exact atI_nat (by simp [hj1])
        have c0 : 0 ≤ sc[j] % 2147483647 := Int.emod_nonneg _ (by decide)
        have c1 : sc[j] % 2147483647 < 2147483647 := Int.emod_lt_of_pos _ (by decide)
        generalize sc[j] % 2147483647 = cell at c0 c1
        refine nxt (ps_set (i := 4) sc_l_draw.nd rfl (Or.inl rfl) (pe_op op_mod (pe_callTy call_int1 (by rfl) T.int (by decide +kernel) (pa_cons (pe_op op_pow (pe_op op_add (pe_op op_add (pe_op op_mul (pv 3) pe_int) (pe_op op_mul (pe_ix ix_list (pv 0) pe_int (fun _ _ => rfl)) pe_int)) pe_int) pe_int) pa_nil)) pe_int)) ?_
        refine ⟨_, rfl, _, _, rfl, rfl, .inl ⟨by omega, by omega⟩, _, rfl, p, _, 2, _, rfl, rfl, sqL D4.hp, rfl, _, _, rfl, rfl, .inl ⟨by omega, by omega⟩, _, _, rfl, rfl, _, _, rfl, rfl, _, _, rfl, rfl, ⟨by decide, by decide, by omega⟩, .inl ⟨_, rfl, _, _, rfl, rfl, (by show (0 : Int) < _; decide), ?_⟩⟩
        have o0 : 0 ≤ (cell * 48271 + (n + 1) * 69621 + 7) ^ 5 % 2147483647 := Int.emod_nonneg _ (by decide)
        have o1 : (cell * 48271 + (n + 1) * 69621 + 7) ^ 5 % 2147483647 < 2147483647 := Int.emod_lt_of_pos _ (by decide)
        have e5 : (5 : Int).toNat = 5 := rfl
        rw [e5]
        generalize (cell * 48271 + (n + 1) * 69621 + 7) ^ 5 % 2147483647 = one at o0 o1
        refine last (ps_ret (pe_op op_mod (pe_op op_mod (pe_callTy call_int1 (by rfl) T.int (by decide +kernel) (pa_cons (pe_op op_pow (pe_op op_add (pe_op op_add (pe_op op_mul (pv 4) pe_int) (pe_op op_mul (pe_ix ix_list (pv 0) pe_int (fun _ _ => rfl)) pe_int)) pe_int) pe_int) pa_nil)) pe_int) (pv 1))) ?_
        refine ⟨_, rfl, _, _, rfl, rfl, .inl ⟨by omega, by omega⟩, _, rfl, p, _, 2, _, rfl, rfl, sqL D4.hp, rfl, _, _, rfl, rfl, .inl ⟨by omega, by omega⟩, _, _, rfl, rfl, _, _, rfl, rfl, _, _, rfl, rfl, ⟨by decide, by decide, by omega⟩, .inl ⟨_, rfl, _, _, rfl, rfl, (by show (0 : Int) < _; decide), _, rfl, _, _, rfl, rfl, z0, ?_⟩⟩
        exact k _ _ (Int.emod_nonneg _ (by omega)) (Int.emod_lt_of_pos _ z0) (D4.st l0 l1 (by omega) (by omega)) D4.kp
    rw [PyData.eqv, eqv_nil]
    cases cs1 with
    | nil =>
      refine iteF ?_
      refine iteF ?_
      exact out _ _ _ D2
    | cons a r =>
      refine iteT ?_
      refine ⟨_, rfl, p, _, 0, _, rfl, rfl, sqL D2.hp, rfl, c1, _, 0, _, rfl, rfl, sqL D2.hc, at0, rfl, _, rfl, ?_⟩
      refine ite2 (fun _ => ?_) (fun _ => ?_)
      · refine ⟨_, fun _ _ h => h, ?_⟩
        refine last (ps_asg (pe_slice sl_list (pe_ix ix_list (pv 0) pe_int (fun _ _ => rfl)) (po_some pe_int) po_none) (pg_sub (pv 0) pe_int set_list)) ?_
        refine ⟨_, rfl, p, _, 0, _, rfl, rfl, sqL D2.hp, rfl, _, rfl, c1, _, rfl, sqL D2.hc, fun q3 nq3 => ?_⟩
        rw [cut1]
        refine upd_gen nq3 fun H5 e5 h5 => ?_
        have D5 := D2.same e5
        refine ⟨_, rfl, p, _, 0, 0, rfl, rfl, D5.hp, rfl, ?_⟩
        have np3 : q3 ≠ p := (ne_of_none D2.hp nq3).symm
        refine ⟨r.length, by rw [← hlen]; exact Nat.lt_succ_self _, rfl, q3, r, rfl, upd_same, ?_, ?_, (ne_of_none D2.hl nq3).symm, np3, D2.npl, by have := D2.ln; simp at this; omega, ?_⟩
        · rw [upd_ne np3]; exact h5
        · rw [upd_ne D2.npl]; exact D5.hl
        · refine D2.kp.trans (Kp.set D2.hp upd_same (.inr nq3) (fun b o h hb _ _ => ?_) ⟨_, (upd_ne D2.npc).trans D5.hc⟩ ⟨_, (upd_ne D2.npl).trans D5.hl⟩)
          rw [upd_ne hb]; exact e5 _ _ h
      · exact out _ _ _ D2
end
end B
namespace B
open PySem L2
def spStart (K : PySem.W.Frag) : Sp := fun vs H Q _ => ∃ (a : Addr) (ns : List Int), vs = [.ref a] ∧ SqL K H a (ns.map V.int) ∧ ns.length ≤ 63 ∧ ∀ (p : Addr) (H' : Hp), Same H H' → StA H' p (2 ^ 30) → (∀ b, Own H' p b → H b = none) → Q (.ref p) H'
section
variable {P : Program} {w : World} {K : PySem.W.Frag} {mg : Str → Option Value} {base : Heap}
theorem ok_start {f : Addr} {fd : FuncData} (F : Fun K "_law_start" "_law_start" s_l_start f fd) (T : Bt mg) : FnOk P w K mg base CX0 1 f fd ["_law_script"] (spStart K) := by
  refine F.ok sc_l_start (fun vs H Q E h => ?_) (fun cdv A outer s H vs Q E hr h => ⟨_, wb, ?_⟩)
  · obtain ⟨p, ns, rfl, _⟩ := h
    rfl
  · obtain ⟨a, ns, rfl, hS, hlen, k⟩ := h
    refine last (ps_ret (pe_lst (pa_cons (pe_lc (own := [("_law_cell", 1)]) (g := gName 1) rfl sc_l_start.nd (pi_list (pv 0)) (blkOk_by (own := [("_law_cell", 1)]) (N := ["_law_script", "_law_cell"]) (sc := defScope s_l_start) (by decide +kernel)) (fun _ _ _ _ _ => (pg_name (i := 1) sc_l_start.nd rfl (Or.inl rfl))) (fun _ _ _ _ _ => (pts_one (pt_cmpR op_ge (pe_callB call_abs (by rfl) T.abs (by decide +kernel) (pa_cons (pv 1) pa_nil)) (pe_op op_pow pe_int pe_int) (nomark _)))) (fun _ _ _ _ _ => (pe_callB call_abs (by rfl) T.abs (by decide +kernel) (pa_cons (pv 1) pa_nil)))) (pa_cons (pe_op op_cat (pe_callTy call_list_of (by rfl) T.list (by decide +kernel) (pa_cons (pv 0) pa_nil)) (pe_lst (pa_cons pe_int pa_nil))) (pa_cons pe_int pa_nil))))) ?_
    refine ⟨_, rfl, a, rfl, ⟨_, hS⟩, fun D nD => lc_list (K := K) (a := a) (xs := ns.map V.int) (fun i H' => Same H H' ∧ ∃ cs : List Int, H' D = some (.lst (cs.map V.int)) ∧ cs.length ≤ i) ⟨sm_new nD, [], upd_same, Nat.le_refl _⟩ (fun i H' _ h => sm_l h.1 hS) ?_ ?_⟩
    · rintro i y H1 hi ⟨e1, cs, h1, hc⟩
      rw [List.getElem?_map] at hi
      cases e : ns[i]? with
      | none => rw [e] at hi; cases hi
      | some z =>
        rw [e] at hi
        cases hi
        have hin : i < ns.length := (List.getElem?_eq_some_iff.mp e).1
        refine ⟨rfl, _, rfl, _, rfl, _, _, rfl, rfl, ⟨by decide, by decide, by decide⟩, _, _, rfl, rfl, _, rfl, ?_⟩
        refine ite2 (fun _ => ?_) (fun _ => ?_)
        · refine ⟨_, rfl, _, rfl, _, h1, small1000 (by simp; omega), ?_⟩
          refine ⟨fun b o q => ?_, cs ++ [if z < 0 then -z else z], ?_, by simp; omega⟩
          · rw [upd_ne (ne_of_none q nD)]; exact e1 _ _ q
          · rw [List.map_append]; exact upd_same
        · exact ⟨e1, cs, h1, by omega⟩
    · rintro H1 ⟨e1, cs, h1, hc⟩
      rw [List.length_map] at hc
      refine ⟨_, rfl, a, _, rfl, .inl (sm_l e1 hS), fun q nq => ?_⟩
      refine upd_gen nq fun H2 e2 h2 => ?_
      refine ⟨by decide, fun q3 nq3 => ?_⟩
      refine upd_gen nq3 fun H3 e3 h3 => ?_
      refine ⟨_, _, _, _, rfl, rfl, e3 _ _ h2, h3, ?_, fun l nl => ?_⟩
      · simp; exact small1000 (by omega)
      refine upd_gen nl fun H4 e4 h4 => ?_
      refine ⟨(by show 3 ≤ sizeLine; decide), fun p np => ?_⟩
      refine upd_gen np fun H5 e5 h5 => ?_
      have eH1 : Same H1 H5 := ((e2.trans e3).trans e4).trans e5
      have hD5 := eH1 _ _ h1
      refine k p H5 (e1.trans eH1) ⟨⟨D, l, cs, ns ++ [5], 0, h5, hD5, ?_, ?_, by omega, by simp, by simp; omega, by decide, by decide⟩⟩ ?_
      · rw [List.map_append]; exact e5 _ _ h4
      · exact ne_of_none (((e2.trans e3)) _ _ h1) nl
      · rintro b (z | ⟨c, l0, n0, z1, z2⟩)
        · rw [z]; exact (((e1.trans e2).trans e3).trans e4).free np
        · rw [h5] at z1
          cases z1
          rcases z2 with z2 | z2
          · cases z2; exact nD
          · cases z2; exact ((e1.trans e2).trans e3).free nl
end
end B
namespace B
open PySem L2
abbrev SG1 : Str := " !\"#$&'()*+,-./0123456789:;<=>?@ABCDEFGHIJKLMNOPQRSTUVWXYZ[\\]^_`"
abbrev SG2 : Str := "abcdefghijklmnopqrstuvwxyz{|}~\n"
def SG : Str := SG1 ++ SG2
theorem SG_len : 0 < SG.length ∧ SG.length ≤ 200 := by decide +kernel
def spSigns : Sp := fun vs H Q _ => vs = [] ∧ Q (.str SG) H
section
variable {P : Program} {w : World} {K : PySem.W.Frag} {mg : Str → Option Value} {base : Heap}
theorem ok_signs {f : Addr} {fd : FuncData} (F : Fun K "_law_signs" "_law_signs" s_l_signs f fd) : FnOk P w K mg base CX0 1 f fd [] spSigns := by
  refine F.ok sc_l_signs (fun vs H Q E h => ?_) (fun cdv A outer s H vs Q E hr h => ⟨_, wb, ?_⟩)
  · obtain ⟨rfl, _⟩ := h
    rfl
  · obtain ⟨rfl, k⟩ := h
    refine nxt (ps_set (i := 0) sc_l_signs.nd rfl (Or.inl rfl) pe_str) ?_
    refine last (ps_ret (pe_op op_add_str (pv 0) pe_str)) ?_
    exact ⟨_, rfl, _, _, rfl, rfl, by decide +kernel, k⟩
end
end B
namespace B
open PySem L2
section
variable {P : Program} {w : World} {K : PySem.W.Frag} {mg : Str → Option Value} {base : Heap} {Bc : Addr} {mc : Value}
theorem ok_BadName___init__ {f : Addr} {fd : FuncData} (F : Fun K "__init__" "BadName.__init__" s_BadName___init__ f fd) (rB : ClX.CRead K Bc mc) (kB : PySem.W.findCls K (.ref Bc) mc "__init__" = some (.val (.builtin "ValueError.__init__"))) (gB : mg "BundleError" = some (.ref Bc)) : FnOk P w K mg base CX0 1 f fd ["self", "name"] (spI1 K "name") := by
  refine F.ok sc_BadName___init__ (fun vs H Q E h => ?_) (fun cdv A outer s H vs Q E hr h => ⟨_, wb, ?_⟩)
  · obtain ⟨a, C, v, rfl, _⟩ := h
    rfl
  · obtain ⟨a, C, v, rfl, T, no, ha, k⟩ := h
    refine nxt (ps_expr (pe_beinit rB kB gB (pa_cons (pv 0) (pa_cons pe_str pa_nil)))) ?_
    refine ⟨_, rfl, a, C, _, rfl, (by show 1 ≤ 1000; decide), T, ha, ?_⟩
    refine last (ps_ost (pv 0) (pv 1)) ?_
    exact ⟨_, rfl, _, rfl, a, C, rfl, T, no, .inl ⟨ha, fun dx n ne => k dx n ne⟩⟩
theorem ok_DuplicateName___init__ {f : Addr} {fd : FuncData} (F : Fun K "__init__" "DuplicateName.__init__" s_DuplicateName___init__ f fd) (rB : ClX.CRead K Bc mc) (kB : PySem.W.findCls K (.ref Bc) mc "__init__" = some (.val (.builtin "ValueError.__init__"))) (gB : mg "BundleError" = some (.ref Bc)) : FnOk P w K mg base CX0 1 f fd ["self", "name"] (spI1 K "name") := by
  refine F.ok sc_DuplicateName___init__ (fun vs H Q E h => ?_) (fun cdv A outer s H vs Q E hr h => ⟨_, wb, ?_⟩)
  · obtain ⟨a, C, v, rfl, _⟩ := h
    rfl
  · obtain ⟨a, C, v, rfl, T, no, ha, k⟩ := h
    refine nxt (ps_expr (pe_beinit rB kB gB (pa_cons (pv 0) (pa_cons pe_str pa_nil)))) ?_
    refine ⟨_, rfl, a, C, _, rfl, (by show 1 ≤ 1000; decide), T, ha, ?_⟩
    refine last (ps_ost (pv 0) (pv 1)) ?_
    exact ⟨_, rfl, _, rfl, a, C, rfl, T, no, .inl ⟨ha, fun dx n ne => k dx n ne⟩⟩
theorem ok_UnknownName___init__ {f : Addr} {fd : FuncData} (F : Fun K "__init__" "UnknownName.__init__" s_UnknownName___init__ f fd) (rB : ClX.CRead K Bc mc) (kB : PySem.W.findCls K (.ref Bc) mc "__init__" = some (.val (.builtin "ValueError.__init__"))) (gB : mg "BundleError" = some (.ref Bc)) : FnOk P w K mg base CX0 1 f fd ["self", "name"] (spI1 K "name") := by
  refine F.ok sc_UnknownName___init__ (fun vs H Q E h => ?_) (fun cdv A outer s H vs Q E hr h => ⟨_, wb, ?_⟩)
  · obtain ⟨a, C, v, rfl, _⟩ := h
    rfl
  · obtain ⟨a, C, v, rfl, T, no, ha, k⟩ := h
    refine nxt (ps_expr (pe_beinit rB kB gB (pa_cons (pv 0) (pa_cons pe_str pa_nil)))) ?_
    refine ⟨_, rfl, a, C, _, rfl, (by show 1 ≤ 1000; decide), T, ha, ?_⟩
    refine last (ps_ost (pv 0) (pv 1)) ?_
    exact ⟨_, rfl, _, rfl, a, C, rfl, T, no, .inl ⟨ha, fun dx n ne => k dx n ne⟩⟩
theorem ok_BadCount___init__ {f : Addr} {fd : FuncData} (F : Fun K "__init__" "BadCount.__init__" s_BadCount___init__ f fd) (rB : ClX.CRead K Bc mc) (kB : PySem.W.findCls K (.ref Bc) mc "__init__" = some (.val (.builtin "ValueError.__init__"))) (gB : mg "BundleError" = some (.ref Bc)) : FnOk P w K mg base CX0 1 f fd ["self", "count"] (spI1 K "count") := by
  refine F.ok sc_BadCount___init__ (fun vs H Q E h => ?_) (fun cdv A outer s H vs Q E hr h => ⟨_, wb, ?_⟩)
  · obtain ⟨a, C, v, rfl, _⟩ := h
    rfl
  · obtain ⟨a, C, v, rfl, T, no, ha, k⟩ := h
    refine nxt (ps_expr (pe_beinit rB kB gB (pa_cons (pv 0) (pa_cons pe_str pa_nil)))) ?_
    refine ⟨_, rfl, a, C, _, rfl, (by show 1 ≤ 1000; decide), T, ha, ?_⟩
    refine last (ps_ost (pv 0) (pv 1)) ?_
    exact ⟨_, rfl, _, rfl, a, C, rfl, T, no, .inl ⟨ha, fun dx n ne => k dx n ne⟩⟩
theorem ok_BadBundle___init__ {f : Addr} {fd : FuncData} (F : Fun K "__init__" "BadBundle.__init__" s_BadBundle___init__ f fd) (rB : ClX.CRead K Bc mc) (kB : PySem.W.findCls K (.ref Bc) mc "__init__" = some (.val (.builtin "ValueError.__init__"))) (gB : mg "BundleError" = some (.ref Bc)) : FnOk P w K mg base CX0 1 f fd ["self", "value"] (spI1 K "value") := by
  refine F.ok sc_BadBundle___init__ (fun vs H Q E h => ?_) (fun cdv A outer s H vs Q E hr h => ⟨_, wb, ?_⟩)
  · obtain ⟨a, C, v, rfl, _⟩ := h
    rfl
  · obtain ⟨a, C, v, rfl, T, no, ha, k⟩ := h
    refine nxt (ps_expr (pe_beinit rB kB gB (pa_cons (pv 0) (pa_cons pe_str pa_nil)))) ?_
    refine ⟨_, rfl, a, C, _, rfl, (by show 1 ≤ 1000; decide), T, ha, ?_⟩
    refine last (ps_ost (pv 0) (pv 1)) ?_
    exact ⟨_, rfl, _, rfl, a, C, rfl, T, no, .inl ⟨ha, fun dx n ne => k dx n ne⟩⟩
theorem ok_BadWorth___init__ {f : Addr} {fd : FuncData} (F : Fun K "__init__" "BadWorth.__init__" s_BadWorth___init__ f fd) (rB : ClX.CRead K Bc mc) (kB : PySem.W.findCls K (.ref Bc) mc "__init__" = some (.val (.builtin "ValueError.__init__"))) (gB : mg "BundleError" = some (.ref Bc)) : FnOk P w K mg base CX0 1 f fd ["self", "worth"] (spI1 K "worth") := by
  refine F.ok sc_BadWorth___init__ (fun vs H Q E h => ?_) (fun cdv A outer s H vs Q E hr h => ⟨_, wb, ?_⟩)
  · obtain ⟨a, C, v, rfl, _⟩ := h
    rfl
  · obtain ⟨a, C, v, rfl, T, no, ha, k⟩ := h
    refine nxt (ps_expr (pe_beinit rB kB gB (pa_cons (pv 0) (pa_cons pe_str pa_nil)))) ?_
    refine ⟨_, rfl, a, C, _, rfl, (by show 1 ≤ 1000; decide), T, ha, ?_⟩
    refine last (ps_ost (pv 0) (pv 1)) ?_
    exact ⟨_, rfl, _, rfl, a, C, rfl, T, no, .inl ⟨ha, fun dx n ne => k dx n ne⟩⟩
theorem ok_BadText___init__ {f : Addr} {fd : FuncData} (F : Fun K "__init__" "BadText.__init__" s_BadText___init__ f fd) (rB : ClX.CRead K Bc mc) (kB : PySem.W.findCls K (.ref Bc) mc "__init__" = some (.val (.builtin "ValueError.__init__"))) (gB : mg "BundleError" = some (.ref Bc)) : FnOk P w K mg base CX0 1 f fd ["self", "text"] (spI1 K "text") := by
  refine F.ok sc_BadText___init__ (fun vs H Q E h => ?_) (fun cdv A outer s H vs Q E hr h => ⟨_, wb, ?_⟩)
  · obtain ⟨a, C, v, rfl, _⟩ := h
    rfl
  · obtain ⟨a, C, v, rfl, T, no, ha, k⟩ := h
    refine nxt (ps_expr (pe_beinit rB kB gB (pa_cons (pv 0) (pa_cons pe_str pa_nil)))) ?_
    refine ⟨_, rfl, a, C, _, rfl, (by show 1 ≤ 1000; decide), T, ha, ?_⟩
    refine last (ps_ost (pv 0) (pv 1)) ?_
    exact ⟨_, rfl, _, rfl, a, C, rfl, T, no, .inl ⟨ha, fun dx n ne => k dx n ne⟩⟩
theorem ok_BadPrice___init__ {f : Addr} {fd : FuncData} (F : Fun K "__init__" "BadPrice.__init__" s_BadPrice___init__ f fd) (rB : ClX.CRead K Bc mc) (kB : PySem.W.findCls K (.ref Bc) mc "__init__" = some (.val (.builtin "ValueError.__init__"))) (gB : mg "BundleError" = some (.ref Bc)) : FnOk P w K mg base CX0 1 f fd ["self", "price"] (spI1 K "price") := by
  refine F.ok sc_BadPrice___init__ (fun vs H Q E h => ?_) (fun cdv A outer s H vs Q E hr h => ⟨_, wb, ?_⟩)
  · obtain ⟨a, C, v, rfl, _⟩ := h
    rfl
  · obtain ⟨a, C, v, rfl, T, no, ha, k⟩ := h
    refine nxt (ps_expr (pe_beinit rB kB gB (pa_cons (pv 0) (pa_cons pe_str pa_nil)))) ?_
    refine ⟨_, rfl, a, C, _, rfl, (by show 1 ≤ 1000; decide), T, ha, ?_⟩
    refine last (ps_ost (pv 0) (pv 1)) ?_
    exact ⟨_, rfl, _, rfl, a, C, rfl, T, no, .inl ⟨ha, fun dx n ne => k dx n ne⟩⟩
theorem ok_BadUnit___init__ {f : Addr} {fd : FuncData} (F : Fun K "__init__" "BadUnit.__init__" s_BadUnit___init__ f fd) (rB : ClX.CRead K Bc mc) (kB : PySem.W.findCls K (.ref Bc) mc "__init__" = some (.val (.builtin "ValueError.__init__"))) (gB : mg "BundleError" = some (.ref Bc)) : FnOk P w K mg base CX0 1 f fd ["self", "value"] (spI1 K "value") := by
  refine F.ok sc_BadUnit___init__ (fun vs H Q E h => ?_) (fun cdv A outer s H vs Q E hr h => ⟨_, wb, ?_⟩)
  · obtain ⟨a, C, v, rfl, _⟩ := h
    rfl
  · obtain ⟨a, C, v, rfl, T, no, ha, k⟩ := h
    refine nxt (ps_expr (pe_beinit rB kB gB (pa_cons (pv 0) (pa_cons pe_str pa_nil)))) ?_
    refine ⟨_, rfl, a, C, _, rfl, (by show 1 ≤ 1000; decide), T, ha, ?_⟩
    refine last (ps_ost (pv 0) (pv 1)) ?_
    exact ⟨_, rfl, _, rfl, a, C, rfl, T, no, .inl ⟨ha, fun dx n ne => k dx n ne⟩⟩
theorem ok_BadFactor___init__ {f : Addr} {fd : FuncData} (F : Fun K "__init__" "BadFactor.__init__" s_BadFactor___init__ f fd) (rB : ClX.CRead K Bc mc) (kB : PySem.W.findCls K (.ref Bc) mc "__init__" = some (.val (.builtin "ValueError.__init__"))) (gB : mg "BundleError" = some (.ref Bc)) : FnOk P w K mg base CX0 1 f fd ["self", "value"] (spI1 K "value") := by
  refine F.ok sc_BadFactor___init__ (fun vs H Q E h => ?_) (fun cdv A outer s H vs Q E hr h => ⟨_, wb, ?_⟩)
  · obtain ⟨a, C, v, rfl, _⟩ := h
    rfl
  · obtain ⟨a, C, v, rfl, T, no, ha, k⟩ := h
    refine nxt (ps_expr (pe_beinit rB kB gB (pa_cons (pv 0) (pa_cons pe_str pa_nil)))) ?_
    refine ⟨_, rfl, a, C, _, rfl, (by show 1 ≤ 1000; decide), T, ha, ?_⟩
    refine last (ps_ost (pv 0) (pv 1)) ?_
    exact ⟨_, rfl, _, rfl, a, C, rfl, T, no, .inl ⟨ha, fun dx n ne => k dx n ne⟩⟩
theorem ok_UnlikeGoods___init__ {f : Addr} {fd : FuncData} (F : Fun K "__init__" "UnlikeGoods.__init__" s_UnlikeGoods___init__ f fd) (rB : ClX.CRead K Bc mc) (kB : PySem.W.findCls K (.ref Bc) mc "__init__" = some (.val (.builtin "ValueError.__init__"))) (gB : mg "BundleError" = some (.ref Bc)) : FnOk P w K mg base CX0 1 f fd ["self", "names"] (spI1 K "names") := by
  refine F.ok sc_UnlikeGoods___init__ (fun vs H Q E h => ?_) (fun cdv A outer s H vs Q E hr h => ⟨_, wb, ?_⟩)
  · obtain ⟨a, C, v, rfl, _⟩ := h
    rfl
  · obtain ⟨a, C, v, rfl, T, no, ha, k⟩ := h
    refine nxt (ps_expr (pe_beinit rB kB gB (pa_cons (pv 0) (pa_cons pe_str pa_nil)))) ?_
    refine ⟨_, rfl, a, C, _, rfl, (by show 1 ≤ 1000; decide), T, ha, ?_⟩
    refine last (ps_ost (pv 0) (pv 1)) ?_
    exact ⟨_, rfl, _, rfl, a, C, rfl, T, no, .inl ⟨ha, fun dx n ne => k dx n ne⟩⟩
theorem ok_NotWanted___init__ {f : Addr} {fd : FuncData} (F : Fun K "__init__" "NotWanted.__init__" s_NotWanted___init__ f fd) (rB : ClX.CRead K Bc mc) (kB : PySem.W.findCls K (.ref Bc) mc "__init__" = some (.val (.builtin "ValueError.__init__"))) (gB : mg "BundleError" = some (.ref Bc)) : FnOk P w K mg base CX0 1 f fd ["self", "value"] (spI1 K "value") := by
  refine F.ok sc_NotWanted___init__ (fun vs H Q E h => ?_) (fun cdv A outer s H vs Q E hr h => ⟨_, wb, ?_⟩)
  · obtain ⟨a, C, v, rfl, _⟩ := h
    rfl
  · obtain ⟨a, C, v, rfl, T, no, ha, k⟩ := h
    refine nxt (ps_expr (pe_beinit rB kB gB (pa_cons (pv 0) (pa_cons pe_str pa_nil)))) ?_
    refine ⟨_, rfl, a, C, _, rfl, (by show 1 ≤ 1000; decide), T, ha, ?_⟩
    refine last (ps_ost (pv 0) (pv 1)) ?_
    exact ⟨_, rfl, _, rfl, a, C, rfl, T, no, .inl ⟨ha, fun dx n ne => k dx n ne⟩⟩
theorem ok_NotHigher___init__ {f : Addr} {fd : FuncData} (F : Fun K "__init__" "NotHigher.__init__" s_NotHigher___init__ f fd) (rB : ClX.CRead K Bc mc) (kB : PySem.W.findCls K (.ref Bc) mc "__init__" = some (.val (.builtin "ValueError.__init__"))) (gB : mg "BundleError" = some (.ref Bc)) : FnOk P w K mg base CX0 1 f fd ["self", "name"] (spI1 K "name") := by
  refine F.ok sc_NotHigher___init__ (fun vs H Q E h => ?_) (fun cdv A outer s H vs Q E hr h => ⟨_, wb, ?_⟩)
  · obtain ⟨a, C, v, rfl, _⟩ := h
    rfl
  · obtain ⟨a, C, v, rfl, T, no, ha, k⟩ := h
    refine nxt (ps_expr (pe_beinit rB kB gB (pa_cons (pv 0) (pa_cons pe_str pa_nil)))) ?_
    refine ⟨_, rfl, a, C, _, rfl, (by show 1 ≤ 1000; decide), T, ha, ?_⟩
    refine last (ps_ost (pv 0) (pv 1)) ?_
    exact ⟨_, rfl, _, rfl, a, C, rfl, T, no, .inl ⟨ha, fun dx n ne => k dx n ne⟩⟩
theorem ok_NotNested___init__ {f : Addr} {fd : FuncData} (F : Fun K "__init__" "NotNested.__init__" s_NotNested___init__ f fd) (rB : ClX.CRead K Bc mc) (kB : PySem.W.findCls K (.ref Bc) mc "__init__" = some (.val (.builtin "ValueError.__init__"))) (gB : mg "BundleError" = some (.ref Bc)) : FnOk P w K mg base CX0 1 f fd ["self", "value"] (spI1 K "value") := by
  refine F.ok sc_NotNested___init__ (fun vs H Q E h => ?_) (fun cdv A outer s H vs Q E hr h => ⟨_, wb, ?_⟩)
  · obtain ⟨a, C, v, rfl, _⟩ := h
    rfl
  · obtain ⟨a, C, v, rfl, T, no, ha, k⟩ := h
    refine nxt (ps_expr (pe_beinit rB kB gB (pa_cons (pv 0) (pa_cons pe_str pa_nil)))) ?_
    refine ⟨_, rfl, a, C, _, rfl, (by show 1 ≤ 1000; decide), T, ha, ?_⟩
    refine last (ps_ost (pv 0) (pv 1)) ?_
    exact ⟨_, rfl, _, rfl, a, C, rfl, T, no, .inl ⟨ha, fun dx n ne => k dx n ne⟩⟩
theorem ok_BadSteps___init__ {f : Addr} {fd : FuncData} (F : Fun K "__init__" "BadSteps.__init__" s_BadSteps___init__ f fd) (rB : ClX.CRead K Bc mc) (kB : PySem.W.findCls K (.ref Bc) mc "__init__" = some (.val (.builtin "ValueError.__init__"))) (gB : mg "BundleError" = some (.ref Bc)) : FnOk P w K mg base CX0 1 f fd ["self", "steps"] (spI1 K "steps") := by
  refine F.ok sc_BadSteps___init__ (fun vs H Q E h => ?_) (fun cdv A outer s H vs Q E hr h => ⟨_, wb, ?_⟩)
  · obtain ⟨a, C, v, rfl, _⟩ := h
    rfl
  · obtain ⟨a, C, v, rfl, T, no, ha, k⟩ := h
    refine nxt (ps_expr (pe_beinit rB kB gB (pa_cons (pv 0) (pa_cons pe_str pa_nil)))) ?_
    refine ⟨_, rfl, a, C, _, rfl, (by show 1 ≤ 1000; decide), T, ha, ?_⟩
    refine last (ps_ost (pv 0) (pv 1)) ?_
    exact ⟨_, rfl, _, rfl, a, C, rfl, T, no, .inl ⟨ha, fun dx n ne => k dx n ne⟩⟩
theorem ok_BadSharing___init__ {f : Addr} {fd : FuncData} (F : Fun K "__init__" "BadSharing.__init__" s_BadSharing___init__ f fd) (rB : ClX.CRead K Bc mc) (kB : PySem.W.findCls K (.ref Bc) mc "__init__" = some (.val (.builtin "ValueError.__init__"))) (gB : mg "BundleError" = some (.ref Bc)) : FnOk P w K mg base CX0 1 f fd ["self", "sharing"] (spI1 K "sharing") := by
  refine F.ok sc_BadSharing___init__ (fun vs H Q E h => ?_) (fun cdv A outer s H vs Q E hr h => ⟨_, wb, ?_⟩)
  · obtain ⟨a, C, v, rfl, _⟩ := h
    rfl
  · obtain ⟨a, C, v, rfl, T, no, ha, k⟩ := h
    refine nxt (ps_expr (pe_beinit rB kB gB (pa_cons (pv 0) (pa_cons pe_str pa_nil)))) ?_
    refine ⟨_, rfl, a, C, _, rfl, (by show 1 ≤ 1000; decide), T, ha, ?_⟩
    refine last (ps_ost (pv 0) (pv 1)) ?_
    exact ⟨_, rfl, _, rfl, a, C, rfl, T, no, .inl ⟨ha, fun dx n ne => k dx n ne⟩⟩
theorem ok_BadBound___init__ {f : Addr} {fd : FuncData} (F : Fun K "__init__" "BadBound.__init__" s_BadBound___init__ f fd) (rB : ClX.CRead K Bc mc) (kB : PySem.W.findCls K (.ref Bc) mc "__init__" = some (.val (.builtin "ValueError.__init__"))) (gB : mg "BundleError" = some (.ref Bc)) : FnOk P w K mg base CX0 1 f fd ["self", "bound"] (spI1 K "bound") := by
  refine F.ok sc_BadBound___init__ (fun vs H Q E h => ?_) (fun cdv A outer s H vs Q E hr h => ⟨_, wb, ?_⟩)
  · obtain ⟨a, C, v, rfl, _⟩ := h
    rfl
  · obtain ⟨a, C, v, rfl, T, no, ha, k⟩ := h
    refine nxt (ps_expr (pe_beinit rB kB gB (pa_cons (pv 0) (pa_cons pe_str pa_nil)))) ?_
    refine ⟨_, rfl, a, C, _, rfl, (by show 1 ≤ 1000; decide), T, ha, ?_⟩
    refine last (ps_ost (pv 0) (pv 1)) ?_
    exact ⟨_, rfl, _, rfl, a, C, rfl, T, no, .inl ⟨ha, fun dx n ne => k dx n ne⟩⟩
end
end B
namespace B
open PySem L2
section
variable {P : Program} {w : World} {K : PySem.W.Frag} {mg : Str → Option Value} {base : Heap} {Bc : Addr} {mc : Value}
theorem ok_NotRising___init__ {f : Addr} {fd : FuncData} (F : Fun K "__init__" "NotRising.__init__" s_NotRising___init__ f fd) (rB : ClX.CRead K Bc mc) (kB : PySem.W.findCls K (.ref Bc) mc "__init__" = some (.val (.builtin "ValueError.__init__"))) (gB : mg "BundleError" = some (.ref Bc)) : FnOk P w K mg base CX0 1 f fd ["self", "value", "name"] (spI2 K "value" "name") := by
  refine F.ok sc_NotRising___init__ (fun vs H Q E h => ?_) (fun cdv A outer s H vs Q E hr h => ⟨_, wb, ?_⟩)
  · obtain ⟨a, C, v, u, rfl, _⟩ := h
    rfl
  · obtain ⟨a, C, v, u, rfl, T, no, no2, ha, k⟩ := h
    refine nxt (ps_expr (pe_beinit rB kB gB (pa_cons (pv 0) (pa_cons pe_str pa_nil)))) ?_
    refine ⟨_, rfl, a, C, _, rfl, (by show 1 ≤ 1000; decide), T, ha, ?_⟩
    refine nxt (ps_ost (pv 0) (pv 1)) ?_
    refine ⟨_, rfl, _, rfl, a, C, rfl, T, no, .inl ⟨ha, fun dx n ne => ?_⟩⟩
    refine last (ps_ost (pv 0) (pv 2)) ?_
    exact ⟨_, rfl, _, rfl, a, C, rfl, T, no2, .inr ⟨dx, _, upd_same, (by rw [upd_ne ne]; exact upd_same), (by show 1 ≤ 900; decide), k dx n ne⟩⟩
end
end B
namespace B
open PySem L2
section
variable {P : Program} {w : World} {K : PySem.W.Frag} {mg : Str → Option Value} {base : Heap} {Bc : Addr} {mc : Value}
theorem ok_IsSubstitutes___init__ {f : Addr} {fd : FuncData} (F : Fun K "__init__" "IsSubstitutes.__init__" s_IsSubstitutes___init__ f fd) (rB : ClX.CRead K Bc mc) (kB : PySem.W.findCls K (.ref Bc) mc "__init__" = some (.val (.builtin "ValueError.__init__"))) (gB : mg "BundleError" = some (.ref Bc)) : FnOk P w K mg base CX0 1 f fd ["self"] (spI0 K) := by
  refine F.ok sc_IsSubstitutes___init__ (fun vs H Q E h => ?_) (fun cdv A outer s H vs Q E hr h => ⟨_, wb, ?_⟩)
  · obtain ⟨a, C, rfl, _⟩ := h
    rfl
  · obtain ⟨a, C, rfl, T, ha, k⟩ := h
    refine last (ps_expr (pe_beinit rB kB gB (pa_cons (pv 0) (pa_cons pe_str pa_nil)))) ?_
    exact ⟨_, rfl, a, C, _, rfl, (by show 1 ≤ 1000; decide), T, ha, k⟩
theorem ok_NothingToUndo___init__ {f : Addr} {fd : FuncData} (F : Fun K "__init__" "NothingToUndo.__init__" s_NothingToUndo___init__ f fd) (rB : ClX.CRead K Bc mc) (kB : PySem.W.findCls K (.ref Bc) mc "__init__" = some (.val (.builtin "ValueError.__init__"))) (gB : mg "BundleError" = some (.ref Bc)) : FnOk P w K mg base CX0 1 f fd ["self"] (spI0 K) := by
  refine F.ok sc_NothingToUndo___init__ (fun vs H Q E h => ?_) (fun cdv A outer s H vs Q E hr h => ⟨_, wb, ?_⟩)
  · obtain ⟨a, C, rfl, _⟩ := h
    rfl
  · obtain ⟨a, C, rfl, T, ha, k⟩ := h
    refine last (ps_expr (pe_beinit rB kB gB (pa_cons (pv 0) (pa_cons pe_str pa_nil)))) ?_
    exact ⟨_, rfl, a, C, _, rfl, (by show 1 ≤ 1000; decide), T, ha, k⟩
end
end B
namespace B
open PySem L2
/-! ER0: error objects as values: made (also with keywords), asked by isinstance, their fields read -/
open PySem.Spec PyProof.Rows
section
open PySem.HandSPX
variable {prog : Program} {w : World} {A : Around} {R : Result → Shared → Prop} {E : Value → Shared → Prop} {h : Heap} {g : Array GenState} {d : Drawn} {t : Nat} {os : OsState}
variable {nm q : Str} {C N : Addr} {bs bm : List Value} {hd : Bool} {sn : List Str} {sub : List Value} {ab : Bool} {col : Option Bool} {dd : Option Addr} {k0 k1 k2 k3 k5 : Option Value}
/-- BaseException.__new__ takes keywords and leaves them alone -/
theorem new_any {rest : List Value} {kw : List (Str × Value)} (hC : h.get? C = some (excClassObj nm q C N bs bm hd sn sub ab col dd k0 k1 k2 k3 k5 "ValueError.__new__")) (hbm : refsVE bm = true) (hr : rest.length ≤ sizeLine)
    (k : R (.ok (.ret (.ref (h.objs.size + 1)))) ⟨(h.push (PySem.W.kdv_tup rest)).push (excO C h.objs.size), g, d, t, os⟩) :
    codeAny (model prog w) A (.call (.builtin "ValueError.__new__") ⟨.ref C :: rest, kw⟩) R ⟨h, g, d, t, os⟩ := by
  have Fv := F.excBase_ValueError
  have has : ∀ Y : String, (Value.ref C :: bm).contains (.type Y) = veTail.contains (.type Y) := fun Y => by
    rw [List.contains_cons, refsVE_contains Y bm hbm]; rfl
  have c1 := has "ValueError"
  have c2 := has "AttributeError"
  have c3 := has "NameError"
  rw [show veTail.contains (Value.type "ValueError") = true by decide] at c1
  rw [show veTail.contains (Value.type "AttributeError") = false by decide] at c2
  rw [show veTail.contains (Value.type "NameError") = false by decide] at c3
  have ends := Fv.ends
  refine codeAny_call_builtin_code (Code.quiet_builtin _ Fv.quiet) ?_ 
  · simp only [checkBuiltinCall, Fv.newKind, Fv.newSplit, Fv.newRow]
    repeat (first | refine wpAny_loadPart_at hC ?_ | (refine wpAny_isSubtype_exc hC ?_; rw [c1]) | refine wpAny_staticBase_exc hC ?_ | refine wpAny_madeBy_exc hC ?_ | simp only [bne_self_eq_false, Bool.false_eq_true, if_false] | wp_step)
    refine codeAny_builtinAt Fv.entry ?_
    unfold Builtin.«BaseException.__new__»
    refine PySem.wpAt_bind ?_
    show PySem.wpAt _ _ _ (stack >>= _) _ _ _
    refine PySem.wpAt_bind (PySem.wpAt_stack fun p below => PySem.wpAt_of_wpAny ?_)
    wp_walk
    refine PySem.wpAt_of_wpAny ?_
    rw [Fv.owner]
    repeat (first | with_reducible refine wpAny_madeHere_exc Fv.canon hC ?_ | with_reducible refine wpAny_loadPart_at hC ?_ | (with_reducible refine wpAny_isSubtype_exc hC ?_; first | rw [c1] | rw [c2] | rw [c3]) | wp_step)
    show R _ _
    rw [Heap.size_push]
    exact k
/-- C(.., k = v, ..) of an error class with an own __init__ -/
theorem oex_call {rest : List Value} {kw : List (Str × Value)} {fI : Addr} (hC : h.get? C = some (excClassObj nm q C N bs bm hd sn sub ab col dd k0 k1 k2 k3 k5 "ValueError.__new__")) (hbm : refsVE bm = true) (hr : rest.length ≤ sizeLine)
    (hi : PySem.W.Looks (model prog w) h (typeLookup (.ref C) "__init__") (some (.ref fI))) (hb : ∀ self, PySem.W.Looks (model prog w) h (bindSpecial (.ref fI) self) (.ref fI, [self]))
    (k : codeAny (model prog w) (A.under (.builtin "type.__call__" ⟨.ref C :: rest, kw⟩)) (.call (.ref fI) ⟨.ref (h.objs.size + 1) :: rest, kw⟩) (PySem.W.InitBack (h.objs.size + 1) R) ⟨(h.push (PySem.W.kdv_tup rest)).push (excO C h.objs.size), g, d, t, os⟩) :
    codeAny (model prog w) A (.call (.ref C) ⟨rest, kw⟩) R ⟨h, g, d, t, os⟩ := by
  have l1 := tc_lookup
  have l2 := tc_bind (.ref C)
  have l3 := tc_sub
  have ty : (⟨h, g, d, t, os⟩ : Shared).TypeIs (.ref C) "type" := ⟨_, hC, rfl⟩
  have old : ∀ b o, h.get? b = some o → ((h.push (PySem.W.kdv_tup rest)).push (excO C h.objs.size)).get? b = some o := fun b o e => Heap.get?_push_of_some _ (Heap.get?_push_of_some _ e)
  have hC2 := old _ _ hC
  have hx : ((h.push (PySem.W.kdv_tup rest)).push (excO C h.objs.size)).get? (h.objs.size + 1) = some (excO C h.objs.size) := by heap_get
  have self : (Value.ref C :: bm).contains (.ref C) = true := by simp
  have i1 := hi.keeps old
  have b1 := (hb (.ref (h.objs.size + 1))).keeps old
  refine codeAny_of_tree ?_
  show wpAny _ _ (callAny (.ref C) _) _ _ _
  repeat (any_goals (first | assumption | with_reducible refine wpAny_loadPart_at hC ?_ | wp_step))
  refine ⟨rfl, ?_⟩
  refine codeAny_call_builtin_at (Code.quiet_builtin _ (by decide +kernel)) entry_typeCall ?_
  simp only [checkBuiltinCall, tc_kind, tc_split]
  repeat (any_goals (first | assumption | with_reducible refine wpAny_loadPart_at hC ?_ | with_reducible refine wpAny_onRaise ?_ | with_reducible refine wpAny_map ?_ | wp_step))
  refine new_any hC hbm hr ?_
  show wpAny _ _ _ _ _ _
  unfold isInstance
  repeat (first | with_reducible refine wpAny_loadPart_at hx ?_ | (refine wpAny_isSubtype_exc (C := C) hC2 ?_; rw [self]) | wp_step)
  show wpAny _ _ (typeLookup (.ref C) _) _ _ _
  refine i1.at (wpAny_holding (wpAny_bind (b1.at (wpAny_bind (wpAny_call (codeAny_mono k fun r s' z => ?_))))))
  cases r with
  | error e => exact z
  | ok fl =>
    cases fl with
    | ret v =>
      obtain ⟨rfl, z⟩ := z
      first
        | exact wpAny_pure (wpAny_pure z)
        | (wp_walk; exact z)
    | next => exact z.elim
    | brk => exact z.elim
    | cont => exact z.elim
end
/-- at a: an error of the class at C with its fields -/
def ErAt (H : Hp) (a C : Addr) (fs : List (Str × V)) : Prop := ∃ d : Option Addr, H a = some (exo a C d) ∧ (d = none → fs = []) ∧ ∀ x, d = some x → H x = some (exd x fs)
theorem ErAt.mk {H : Hp} {a C d : Addr} {fs : List (Str × V)} (h1 : H a = some (exo a C (some d))) (h2 : H d = some (exd d fs)) : ErAt H a C fs :=
  ⟨some d, h1, (fun z => nomatch z), fun x e => by cases e; exact h2⟩
/-- what is no object of the data stays -/
def XKp (H H' : Hp) : Prop := ∀ (b : Addr) (φ : Heap → Prop), H b = some (.ext φ) → H' b = some (.ext φ)
theorem ErAt.kp {H H' : Hp} {a C : Addr} {fs : List (Str × V)} (h : ErAt H a C fs) (k : XKp H H') : ErAt H' a C fs := by
  obtain ⟨d, h1, h2, h3⟩ := h
  exact ⟨d, k _ _ h1, h2, fun x e => k _ _ (h3 x e)⟩
theorem XKp.same {H H' : Hp} (e : Same H H') : XKp H H' := fun b _ h => e b _ h
theorem XKp.trans {H H1 H2 : Hp} (x : XKp H H1) (y : XKp H1 H2) : XKp H H2 := fun b φ h => y b φ (x b φ h)
theorem XKp.nlk {H H' : Hp} (k : NLk H H') : XKp H H' := fun b φ h => k b _ h fun _ z => nomatch z
section
variable {X : Cx} {pins : List (Addr × Obj)} {σ : L2.St} {H : Hp} {s : Shared} {Q : VK} {C fI : Addr} {fd : FuncData} {ps ks : List Str} {sp : Sp} {k n : Nat} {g : List Value → List Value → List Value} {gV : List V → List V → List V} {us ws : List Value} {vs zs : List V}
theorem kbn_of {K : PySem.W.Frag} (b : Binds K fd ps []) : KBn K fd ps ps.length [] (fun us _ => us) (fun vs _ => vs) :=
  ⟨fun s us ws X l1 _ => by have := b s us X (by rw [List.append_nil]; exact l1); rw [List.append_nil] at this; exact this, fun r _ => r⟩
theorem run_oex (T : OexC X.K C) (iC : PySem.W.findIn X.K (.ref C) "__init__" = some (some (.ref fI))) (tI : PySem.W.typeIn X.K (.ref fI) = some (.type "function")) (F1 : FnOk X.prog X.w X.K X.mg X.base CX0 k fI fd ps sp) (hr : Room (k + 1) X.A)
    (hb : KBn X.K fd ps (n + 1) ks g gV) (I : Inv X pins σ H s) (r : Vals vs us) (rz : Vals zs ws) (l1 : vs.length = n) (l2 : zs.length = ks.length) (hz : n ≤ 1000)
    (h : ∀ a, H a = none → sp (gV (.ref a :: vs) zs) (upd H a (exo a C none)) (fun v H2 => v = .non ∧ Q (.ref a) H2) E0) :
    wpAny (model X.prog X.w) X.A (call (.ref C) us (ks.zip ws)) (EP X pins σ Q) X.xe s := by
  obtain ⟨nm, q, N, bs, bm, sn, sub, ab, col, dd, k0, k1, k2, k3, k5, hC, hbm⟩ := T.cls
  obtain ⟨hp, gs, dr, tk, os⟩ := s
  have hsz : hp.objs.size ≤ hp.objs.size + 1 := Nat.le_succ _
  have na : H (hp.objs.size + 1) = none := I.hok.fresh hsz
  have hq := h _ na
  have hget : ((hp.push (PySem.W.kdv_tup us)).push (PySem.HandSPX.excO C hp.objs.size)).get? (hp.objs.size + 1) = some (PySem.HandSPX.excO C hp.objs.size) := by heap_get
  have I2 : Inv X pins σ (upd H (hp.objs.size + 1) (exo (hp.objs.size + 1) C none)) ⟨(hp.push (PySem.W.kdv_tup us)).push (PySem.HandSPX.excO C hp.objs.size), gs, dr, tk, os⟩ :=
    I.laid (t' := tk) (a := hp.objs.size + 1) (o := exo (hp.objs.size + 1) C none) (h' := (hp.push (PySem.W.kdv_tup us)).push (PySem.HandSPX.excO C hp.objs.size)) (fun b o e => Heap.get?_push_of_some _ (Heap.get?_push_of_some _ e)) hsz (exo_ok hget)
  have rv : Vals (V.ref (hp.objs.size + 1) :: vs) (Value.ref (hp.objs.size + 1) :: us) := .cons rfl r
  have lu : us.length = n := by rw [← r.length]; exact l1
  refine wpAny_call (oex_call (I.kIn _ _ hC) hbm (by rw [sizeLine_eq]; omega) (PySem.W.looks_findIn I.kIn iC) (fun self => PySem.W.bind_fn I.kIn self tI)
    (codeAny_mono (F1.run _ X.stack _ _ ⟨Value.ref (hp.objs.size + 1) :: us, ks.zip ws⟩ (g (Value.ref (hp.objs.size + 1) :: us) ws) _ _ E0 (hr.make C us (ks.zip ws)) (I2.env0.make C us (ks.zip ws))
      (hb.to _ (Value.ref (hp.objs.size + 1) :: us) ws I2.kIn (by rw [List.length_cons, lu]) (rz.length.symm.trans l2)) (hb.rel rv rz) hq) fun r s' z => ?_))
  cases r with
  | error e => exact z.elim
  | ok fl =>
    cases fl with
    | ret u =>
      obtain ⟨v, H', I3, r3, e3, q3⟩ := I2.after z
      subst e3
      exact ⟨r3, ⟨V.ref (hp.objs.size + 1), H', I3, rfl, q3⟩⟩
    | next => exact False.elim z
    | brk => exact False.elim z
    | cont => exact False.elim z
end
/-! ### the classes, made by place and by name -/
structure Ek1 (P : Program) (w : World) (K : PySem.W.Frag) (mg : Str → Option Value) (base : Heap) (x : Str) (C : Addr) (f : Str) : Prop where
  T : Ec K C
  no : PySem.W.findIn K (.ref C) f = some none
  gC : mg x = some (.ref C)
  ini : ∃ (fI : Addr) (fd : FuncData), PySem.W.findIn K (.ref C) "__init__" = some (some (.ref fI)) ∧ PySem.W.typeIn K (.ref fI) = some (.type "function") ∧ Binds K fd ["self", f] [] ∧ KBn K fd ["self", f] 1 [f] (fun us ws => us ++ ws) (fun vs zs => vs ++ zs) ∧ FnOk P w K mg base CX0 1 fI fd ["self", f] (spI1 K f)
structure Ek2 (P : Program) (w : World) (K : PySem.W.Frag) (mg : Str → Option Value) (base : Heap) (x : Str) (C : Addr) (f g : Str) : Prop where
  T : Ec K C
  no : PySem.W.findIn K (.ref C) f = some none
  no2 : PySem.W.findIn K (.ref C) g = some none
  gC : mg x = some (.ref C)
  ini : ∃ (fI : Addr) (fd : FuncData), PySem.W.findIn K (.ref C) "__init__" = some (some (.ref fI)) ∧ PySem.W.typeIn K (.ref fI) = some (.type "function") ∧ Binds K fd ["self", f, g] [] ∧ KBn K fd ["self", f, g] 1 [g, f] (fun us ws => us ++ permL .none [1, 0] ws) (fun vs zs => vs ++ permL .non [1, 0] zs) ∧ FnOk P w K mg base CX0 1 fI fd ["self", f, g] (spI2 K f g)
/-- a new error -/
def NwE (C : Addr) (fs : List (Str × V)) (H : Hp) (Q : VK) : Prop := ∀ (a : Addr) (H2 : Hp), H a = none → Same H H2 → ErAt H2 a C fs → Q (.ref a) H2
theorem sp1_new {K : PySem.W.Frag} {C : Addr} {f : Str} {v : V} {H : Hp} {Q : VK} (T : OexC K C) (no : PySem.W.findIn K (.ref C) f = some none) (h : NwE C [(f, v)] H Q) (a : Addr) (na : H a = none) :
    spI1 K f [.ref a, v] (upd H a (exo a C none)) (fun v H2 => v = .non ∧ Q (.ref a) H2) E0 := by
  refine ⟨a, C, v, rfl, T, no, upd_same, fun dx ndx ne => ⟨rfl, ?_⟩⟩
  have nd : H dx = none := by rw [upd_ne ne] at ndx; exact ndx
  refine h a _ na (fun b o hb => ?_) (.mk upd_same (by rw [upd_ne ne]; exact upd_same))
  rw [upd_ne (ne_of_none hb na), upd_ne (ne_of_none hb nd), upd_ne (ne_of_none hb na)]
  exact hb
theorem sp2_new {K : PySem.W.Frag} {C : Addr} {f g : Str} {v u : V} {H : Hp} {Q : VK} (T : OexC K C) (no : PySem.W.findIn K (.ref C) f = some none) (no2 : PySem.W.findIn K (.ref C) g = some none) (h : NwE C [(g, u), (f, v)] H Q) (a : Addr) (na : H a = none) :
    spI2 K f g [.ref a, v, u] (upd H a (exo a C none)) (fun v H2 => v = .non ∧ Q (.ref a) H2) E0 := by
  refine ⟨a, C, v, u, rfl, T, no, no2, upd_same, fun dx ndx ne => ⟨rfl, ?_⟩⟩
  have nd : H dx = none := by rw [upd_ne ne] at ndx; exact ndx
  refine h a _ na (fun b o hb => ?_) (.mk ((upd_ne (Ne.symm ne)).trans upd_same) upd_same)
  rw [upd_ne (ne_of_none hb nd), upd_ne (ne_of_none hb na), upd_ne (ne_of_none hb nd), upd_ne (ne_of_none hb na)]
  exact hb
theorem sp0_new {K : PySem.W.Frag} {C : Addr} {H : Hp} {Q : VK} (T : OexC K C) (h : NwE C [] H Q) (a : Addr) (na : H a = none) :
    spI0 K [.ref a] (upd H a (exo a C none)) (fun v H2 => v = .non ∧ Q (.ref a) H2) E0 :=
  ⟨a, C, rfl, T, upd_same, rfl, h a _ na (sm_new na) ⟨none, upd_same, (fun _ => rfl), fun _ z => nomatch z⟩⟩
section
variable {X : Cx} {e e2 : Expr} {te tu : TE} {x f g : Str} {C : Addr} {p pos kp kp2 : Pos}
def tXv (C : Addr) (f : Str) (te : TE) : TE := fun σ H Q => te σ H fun v H1 => NwE C [(f, v)] H1 Q
def tXv2 (C : Addr) (f g : Str) (te tu : TE) : TE := fun σ H Q => te σ H fun v H1 => tu σ H1 fun u H2 => NwE C [(g, u), (f, v)] H2 Q
/-- .. where g is told first -/
def tXv3 (C : Addr) (f g : Str) (tu te : TE) : TE := fun σ H Q => tu σ H fun u H1 => te σ H1 fun v H2 => NwE C [(g, u), (f, v)] H2 Q
def tXv0 (C : Addr) : TE := fun _ H Q => NwE C [] H Q
abbrev q1 (C : Addr) (f : Str) (Q : VK) : List V → Hp → Prop := fun vs H => match vs with
  | [v] => NwE C [(f, v)] H Q
  | _ => False
abbrev q2 (C : Addr) (f g : Str) (Q : VK) : List V → Hp → Prop := fun vs H => match vs with
  | [v, u] => NwE C [(g, u), (f, v)] H Q
  | _ => False
theorem xv1 (D : Ek1 X.prog X.w X.K X.mg X.base x C f) (hr : Room 2 X.A) (he : PE X e te) (hg : Gl X x := by rfl) (hdb : (x == ("__debug__" : Str)) = false := by decide)
    (hst : starEach [e] X.env = (false, eval e X.env) :: starEach [] X.env := by rfl) (hpl : (backTo pos (starEach [] X.env)).any (·.1) = false := by rfl) : PE X (.Call (.Name x p) [e] [] pos) (tXv C f te) := by
  obtain ⟨fI, fd, h1, h2, h3, h4, h5⟩ := D.ini
  refine ⟨fun pins s σ H Q I h => ?_⟩
  have ha : PA X [e] (tCons te tNil) := pa_cons (hs := hst) he pa_nil
  refine wpAny_Call_Name_kw (ld_glob I hg D.gC ?_ hdb)
  refine PySem.W.callWith_K (h₀ := X.base) I.ok.mod.kin D.T.o.kC (thn (ha.run pos pins s σ H (q1 C f Q) I h) fun us s1 ⟨vs, H1, I1, r1, q1⟩ => ⟨I1.kIn, ?_⟩) hst hpl
  match vs, r1, q1 with
  | [v], r1, q1 => exact run_oex (ks := []) (ws := []) (zs := []) D.T.o h1 h2 h5 hr (n := 1) (kbn_of h3) I1 r1 .nil rfl rfl (by decide) fun a na => sp1_new D.T.o D.no q1 a na
theorem xv1k (D : Ek1 X.prog X.w X.K X.mg X.base x C f) (hr : Room 2 X.A) (he : PE X e te) (hg : Gl X x := by rfl) (hdb : (x == ("__debug__" : Str)) = false := by decide)
    (hall : (backToKw pos (keywordEach [⟨some f, e, kp⟩] X.env)).all (·.1.isSome) = true := by rfl) (hks : (backToKw pos (keywordEach [⟨some f, e, kp⟩] X.env)).filterMap (·.1) = [f] := by rfl)
    (hpl : ((backTo pos (starEach [] X.env)).any (·.1) || (backToKw pos (keywordEach [⟨some f, e, kp⟩] X.env)).any (·.1.isNone)) = false := by rfl) : PE X (.Call (.Name x p) [] [⟨some f, e, kp⟩] pos) (tXv C f te) := by
  obtain ⟨fI, fd, h1, h2, h3, h4, h5⟩ := D.ini
  refine ⟨fun pins s σ H Q I h => ?_⟩
  have ha : PK X [⟨some f, e, kp⟩] (tCons te tNil) := pk_cons he pk_nil
  refine wpAny_Call_Name_kw (ld_glob I hg D.gC ?_ hdb)
  refine PySem.W.callWith_KW0 (h₀ := X.base) I.ok.mod.kin D.T.o.kC hall ?_ hpl
  refine thn (ha.run pos pins s σ H (q1 C f Q) I h) fun ws s1 ⟨zs, H1, I1, r1, q1⟩ => ⟨I1.kIn, ?_⟩
  rw [hks]
  match zs, r1, q1 with
  | [v], r1, q1 => exact run_oex (us := []) (vs := []) D.T.o h1 h2 h5 hr h4 I1 .nil r1 rfl rfl (by decide) fun a na => sp1_new D.T.o D.no q1 a na
theorem xv2 (D : Ek2 X.prog X.w X.K X.mg X.base x C f g) (hr : Room 2 X.A) (he : PE X e te) (hu : PE X e2 tu) (hg : Gl X x := by rfl) (hdb : (x == ("__debug__" : Str)) = false := by decide)
    (hst : starEach [e, e2] X.env = (false, eval e X.env) :: starEach [e2] X.env := by rfl) (hst2 : starEach [e2] X.env = (false, eval e2 X.env) :: starEach [] X.env := by rfl) (hpl : (backTo pos (starEach [e2] X.env)).any (·.1) = false := by rfl) : PE X (.Call (.Name x p) [e, e2] [] pos) (tXv2 C f g te tu) := by
  obtain ⟨fI, fd, h1, h2, h3, h4, h5⟩ := D.ini
  refine ⟨fun pins s σ H Q I h => ?_⟩
  have ha : PA X [e, e2] (tCons te (tCons tu tNil)) := pa_cons (hs := hst) he (pa_cons (hs := hst2) hu pa_nil)
  refine wpAny_Call_Name_kw (ld_glob I hg D.gC ?_ hdb)
  refine PySem.W.callWith_K (h₀ := X.base) I.ok.mod.kin D.T.o.kC (thn (ha.run pos pins s σ H (q2 C f g Q) I h) fun us s1 ⟨vs, H1, I1, r1, q1⟩ => ⟨I1.kIn, ?_⟩) hst hpl
  match vs, r1, q1 with
  | [v, u], r1, q1 => exact run_oex (ks := []) (ws := []) (zs := []) D.T.o h1 h2 h5 hr (n := 2) (kbn_of h3) I1 r1 .nil rfl rfl (by decide) fun a na => sp2_new D.T.o D.no D.no2 q1 a na
theorem xv2k (D : Ek2 X.prog X.w X.K X.mg X.base x C f g) (hr : Room 2 X.A) (hu : PE X e2 tu) (he : PE X e te) (hg : Gl X x := by rfl) (hdb : (x == ("__debug__" : Str)) = false := by decide)
    (hall : (backToKw pos (keywordEach [⟨some g, e2, kp⟩, ⟨some f, e, kp2⟩] X.env)).all (·.1.isSome) = true := by rfl) (hks : (backToKw pos (keywordEach [⟨some g, e2, kp⟩, ⟨some f, e, kp2⟩] X.env)).filterMap (·.1) = [g, f] := by rfl)
    (hpl : ((backTo pos (starEach [] X.env)).any (·.1) || (backToKw pos (keywordEach [⟨some g, e2, kp⟩, ⟨some f, e, kp2⟩] X.env)).any (·.1.isNone)) = false := by rfl) : PE X (.Call (.Name x p) [] [⟨some g, e2, kp⟩, ⟨some f, e, kp2⟩] pos) (tXv3 C f g tu te) := by
  obtain ⟨fI, fd, h1, h2, h3, h4, h5⟩ := D.ini
  refine ⟨fun pins s σ H Q I h => ?_⟩
  have ha : PK X [⟨some g, e2, kp⟩, ⟨some f, e, kp2⟩] (tCons tu (tCons te tNil)) := pk_cons hu (pk_cons he pk_nil)
  refine wpAny_Call_Name_kw (ld_glob I hg D.gC ?_ hdb)
  refine PySem.W.callWith_KW0 (h₀ := X.base) I.ok.mod.kin D.T.o.kC hall ?_ hpl
  refine thn (ha.run pos pins s σ H (fun zs H => match zs with
    | [u, v] => NwE C [(g, u), (f, v)] H Q
    | _ => False) I h) fun ws s1 ⟨zs, H1, I1, r1, q1⟩ => ⟨I1.kIn, ?_⟩
  rw [hks]
  match zs, r1, q1 with
  | [u, v], r1, q1 => exact run_oex (us := []) (vs := []) D.T.o h1 h2 h5 hr h4 I1 .nil r1 rfl rfl (by decide) fun a na => sp2_new D.T.o D.no D.no2 q1 a na
theorem xv0 (D : ExcD0 X.prog X.w X.K X.mg X.base 1 x C) (hr : Room 2 X.A) (hg : Gl X x := by rfl) (hdb : (x == ("__debug__" : Str)) = false := by decide) : PE X (.Call (.Name x p) [] [] pos) (tXv0 C) := by
  obtain ⟨fI, fd, h1, h2, h3, h5⟩ := D.ini
  refine ⟨fun pins s σ H Q I h => ?_⟩
  refine wpAny_Call_Name_kw (ld_glob I hg D.gC ?_ hdb)
  refine PySem.W.callWith_K0 (I.tok _).kIn D.T.o.kC ?_
  exact run_oex (ks := []) (ws := []) (zs := []) (us := []) (vs := []) D.T.o h1 h2 h5 hr (kbn_of h3) (I.tok _) .nil .nil rfl rfl (by decide) fun a na => sp0_new D.T.o h a na
end
/-! ### isinstance(e, C), e.f -/
def rIsO (K : PySem.W.Frag) : List V → Hp → VK → Prop := fun xs H Q => ∃ (a D : Addr) (fs : List (Str × V)) (c : V) (cv : Value) (b : Bool), xs = [.ref a, c] ∧ ErAt H a D fs ∧ Ec K D ∧ ClsV c cv ∧ PySem.W.kitOne K (.ref D) cv = some b ∧ Q (.bl b) H
theorem ero_inst {P : Program} {w : World} {H : Hp} {s : Shared} {a D : Addr} {fs : List (Str × V)} (hok : HOk P w H s.heap) (h : ErAt H a D fs) : ∃ (o : Obj) (od : Option Obj), PySem.W.InstAt s.heap a o D od ∧ ∀ n v, fs.lookup n = some v → ∃ u d2, od = some d2 ∧ PySem.W.lookIn n d2 = some (some u) ∧ L2.RelV v u := by
  obtain ⟨d, h1, h2, h3⟩ := h
  obtain ⟨t1, ho⟩ := exo_at hok h1
  cases d with
  | none =>
    refine ⟨_, none, ⟨ho, rfl, rfl, trivial⟩, fun n v e => ?_⟩
    rw [h2 rfl] at e
    cases e
  | some dx =>
    obtain ⟨mA, hns, rel⟩ := exd_at hok (h3 dx rfl)
    obtain ⟨od, hd, hl⟩ := lookIn_ns hns
    refine ⟨_, some od, ⟨ho, rfl, rfl, hd⟩, fun n v e => ?_⟩
    obtain ⟨u, hu, ru⟩ := RelO.some_of (v := v) (o := mA n) (by rw [← e]; exact rel n)
    exact ⟨u, od, rfl, by rw [hl, hu], ru⟩
section
variable {X : Cx} {e : Expr} {te : TE} {pos : Pos} {n : Str}
theorem call_isO : CallR X (.builtin "isinstance") (rIsO X.K) := by
  intro pins s σ H xs us Q I r h
  obtain ⟨a, D, fs, c, cv, b, rfl, he, C, hcv, ek, q⟩ := h
  cases r with
  | cons rx rr =>
    cases rr with
    | cons rt rr =>
      cases rr
      cases rx
      have ec := hcv.eq rt
      subst ec
      obtain ⟨o, od, J, _⟩ := ero_inst I.hok he
      exact PySem.W.kia_one (PySem.W.kitx_exc C.cl C.x.ga C.x.gg C.x.exC C.cls C.gs C.tk C.mo) I.kIn J ek (fun z => nomatch z) fun tk => ⟨.bl b, H, I.kept (t' := tk) fun _ _ z => z, rfl, q⟩
def tOfl (K : PySem.W.Frag) (n : Str) (te : TE) : TE := fun σ H Q => te σ H fun x H1 => ∃ (a C : Addr) (fs : List (Str × V)) (v : V), x = .ref a ∧ Ec K C ∧ PySem.W.findIn K (.ref C) n = some none ∧ ErAt H1 a C fs ∧ fs.lookup n = some v ∧ Q v H1
theorem pe_ofl (he : PE X e te) (hb : attributeBase e n X.env (eval e X.env) = eval e X.env := by rfl) : PE X (.Attribute e n pos) (tOfl X.K n te) := by
  refine ⟨fun pins s σ H Q I h => ?_⟩
  refine attr_of hb (thn (he.run pins s σ H _ I h) fun u s1 hh => ?_)
  obtain ⟨x, H1, I1, rx, a, C, fs, v, rfl, T, hno, ea, l, q⟩ := hh
  obtain rfl : u = Value.ref a := rx
  obtain ⟨o, od, J, hf⟩ := ero_inst I1.hok ea
  obtain ⟨u, d2, rfl, hl, ru⟩ := hf n v l
  exact PySem.HandSPX.exc_get I1.kIn J T.x.ga T.x.gg T.x.exC (PySem.W.findObj_own T.x.hdC hno rfl hl) (handed_of ru) ⟨v, H1, I1.tok _, ru, q⟩
end
/-! ### the twenty classes by their places in the law -/
theorem kinB_b {K : PySem.W.Frag} {ec : Nat → Addr} {B : Addr} (h : kinB K ec B = true) {i : Nat} (hi : i < 20) : PySem.W.kitOne K (.ref (ec (cnI i))) (.ref B) = some true := by
  have h1 := List.all_eq_true.mp h i (List.mem_range.mpr hi)
  exact of_decide_eq_true (Bool.and_eq_true_iff.mp h1).1
theorem kinB_v {K : PySem.W.Frag} {ec : Nat → Addr} {B : Addr} (h : kinB K ec B = true) {i : Nat} (hi : i < 20) : PySem.W.kitOne K (.ref (ec (cnI i))) (.type "ValueError") = some true := by
  have h1 := List.all_eq_true.mp h i (List.mem_range.mpr hi)
  exact of_decide_eq_true (Bool.and_eq_true_iff.mp (Bool.and_eq_true_iff.mp h1).2).1
theorem kinB_k {K : PySem.W.Frag} {ec : Nat → Addr} {B : Addr} (h : kinB K ec B = true) {i : Nat} (hi : i < 20) (j : Nat) (hj : j < 20) : PySem.W.kitOne K (.ref (ec (cnI i))) (.ref (ec (cnI j))) = some (decide (j = i)) := by
  have h1 := List.all_eq_true.mp h i (List.mem_range.mpr hi)
  exact of_decide_eq_true (List.all_eq_true.mp (Bool.and_eq_true_iff.mp (Bool.and_eq_true_iff.mp h1).2).2 j (List.mem_range.mpr hj))
end B
namespace B
open PySem L2
/-! k02: the law's things, drawn -/
section
variable {P : Program} {w : World} {mg : Str → Option Value} {base : Heap} {c : Ct}
theorem ok_l_draw {f : Addr} {fd : FuncData} (F : Fun c.K "_law_draw" "_law_draw" s_l_draw f fd) (T : Bt mg) : FnOk P w c.K mg base CX0 1 f fd ["_law_state", "_law_size"] spDraw := by
  exact ok_draw F T
theorem ok_startA {f : Addr} {fd : FuncData} (F : Fun c.K "_law_start" "_law_start" s_l_start f fd) (T : Bt mg) : FnOk P w c.K mg base CX0 1 f fd ["_law_script"] (spStart c.K) := by
  exact ok_start F T
theorem ok_l_signs {f : Addr} {fd : FuncData} (F : Fun c.K "_law_signs" "_law_signs" s_l_signs f fd) : FnOk P w c.K mg base CX0 1 f fd [] spSigns := by
  exact ok_signs F
/-- what == finds equal to itself at once -/
def Itm (v : V) : Prop := flatB v = true ∨ ∃ a, v = .ref a
def spThing : Sp := fun vs H Q _ => ∃ (p : Addr) (m : Nat), vs = [.ref p] ∧ StA H p (m + 10) ∧ ∀ (v : V) (H' : Hp), Itm v → StA H' p m → Kp p H H' → Q v H'
theorem ok_l_thing {f : Addr} {fd : FuncData} (F : Fun c.K "_law_thing" "_law_thing" s_l_thing f fd) (T : Bt mg) (D_l_draw : Df P w c.K mg base CX0 1 "_law_draw" ["_law_state", "_law_size"] spDraw) (D_l_signs : Df P w c.K mg base CX0 1 "_law_signs" [] spSigns) : FnOk P w c.K mg base CX0 2 f fd ["_law_state"] spThing := by
  refine F.ok sc_l_thing (fun vs H Q E h => ?_) (fun cdv A outer s H vs Q E hr h => ⟨_, wb, ?_⟩)
  · obtain ⟨p, m, rfl, _⟩ := h
    rfl
  · obtain ⟨p, m, rfl, S, k⟩ := h
    refine nxt (ps_set (i := 1) sc_l_thing.nd rfl (Or.inl rfl) (pe_op op_sub (pc D_l_draw (hr.mono (by decide)) (pa_cons (pv 0) (pa_cons pe_int pa_nil))) pe_int)) ?_
    refine ⟨_, rfl, p, m + 9, 2000001, rfl, S, by decide, by decide, fun r1 H1 r10 r11 S1 k1 => ⟨_, _, rfl, rfl, ?_⟩⟩
    refine nxt (ps_set (i := 2) sc_l_thing.nd rfl (Or.inr rfl) (pc0 D_l_signs (hr.mono (by decide)))) ?_
    refine ⟨rfl, ?_⟩
    refine nxt (ps_set (i := 3) sc_l_thing.nd rfl (Or.inl rfl) (pe_join pe_str (pe_lc (own := [("_law_k", 4)]) (g := gName 4) rfl sc_l_thing.nd (pi_range1 (by rfl) T.range (pa_cons (pc D_l_draw (hr.mono (by decide)) (pa_cons (pv 0) (pa_cons pe_int pa_nil))) pa_nil)) (blkOk_by (own := [("_law_k", 4)]) (N := ["_law_state", "_law_amount", "_law_signs_here", "_law_word", "_law_k"]) (sc := defScope s_l_thing) (by decide +kernel)) (fun _ _ _ _ _ => (pg_name (i := 4) sc_l_thing.nd rfl (Or.inl rfl))) (fun _ _ _ _ _ => pts_nil) (fun _ _ _ _ _ => (pe_ix ix_str (pv 2) (pc D_l_draw (hr.mono (by decide)) (pa_cons (pv 0) (pa_cons (pe_callB call_len_str (by rfl) T.len PySem.boot_len (pa_cons (pv 2) pa_nil)) pa_nil))) (fun _ _ => rfl)))))) ?_
    refine ⟨⟨_, rfl⟩, _, rfl, p, m + 8, 6, rfl, S1, by decide, by decide, fun r2 H2 r20 r21 S2 k2 => ?_⟩
    refine ⟨r2, rfl, by omega, by omega, fun D nD => lc_range (lo := 0) (n := r2.toNat) (fun i H' => Kp p H2 H' ∧ StA H' p (m + 8 - i) ∧ ∃ ws : List Str, At p H' D (.lst (ws.map V.str)) ∧ ws.length = i ∧ ∀ c ∈ ws, c.length ≤ 1) ?_ ?_ ?_⟩
    · have e := sm_new (o := .lst []) nD
      exact ⟨S2.kp e, (S2.same e).le (by omega), [], S2.new nD e upd_same, rfl, by simp⟩
    · rintro i H6 hi ⟨k6, S6, ws, A6, hl, hw⟩
      refine ⟨rfl, ?_⟩
      refine ⟨_, rfl, _, rfl, _, rfl, SG, rfl, sz5 (by have := SG_len; omega), p, m + 8 - (i + 1), _, rfl, S6.le (by omega), (by have := SG_len; omega), (by have := SG_len; omega), fun r7 H7 r70 r71 S7 k7 => ?_⟩
      obtain ⟨c, hc, _⟩ := at_str r70 r71
      refine ⟨SG, r7, c, rfl, rfl, sz5 (by have := SG_len; omega), hc, _, (A6.kp k7).1, small1000 (by simp; omega), ?_⟩
      have nDp : D ≠ p := fun z => (A6.kp k7).2 (.inl z)
      refine ⟨(k6.trans k7).mut nD nDp, S7.upd (A6.kp k7).2, ws ++ [⟨#[c]⟩], ⟨?_, fun z => (A6.kp k7).2 ((own_mut nDp).mp z)⟩, by simp; omega, ?_⟩
      · rw [List.map_append]; exact upd_same
      · intro x hx
        rcases List.mem_append.mp hx with hx | hx
        · exact hw x hx
        · simp at hx; subst hx; exact Nat.le_refl _
    rintro H3 ⟨k3, S3, ws, A3, hl, hw⟩
    have S3 : StA H3 p (m + 3) := S3.le (by omega)
    have hs1 : (ws.map (·.length)).sum ≤ 5 := by
      have : ∀ l : List Str, (∀ c ∈ l, c.length ≤ 1) → (l.map (·.length)).sum ≤ l.length := fun l => by
        induction l with
        | nil => intro _; simp
        | cons a r ih =>
          intro h
          have := h a List.mem_cons_self
          have := ih fun c hc => h c (List.mem_cons_of_mem _ hc)
          simp only [List.map_cons, List.sum_cons, List.length_cons]; omega
      have := this ws hw
      omega
    have h0 : (("" : Str)).length = 0 := by decide +kernel
    refine ⟨_, D, ws, rfl, rfl, .inl (sqL A3.1), (by rw [h0]; omega), ?_⟩
    refine last (ps_ret (pe_ix ix_list (pe_lst (pa_cons (pv 3) (pa_cons (pv 1) (pa_cons pe_non (pa_cons (pe_tup (pa_cons (pv 3) (pa_cons (pv 1) pa_nil))) (pa_cons (pe_op op_sub (pe_un un_neg (pe_op op_pow pe_int pe_int)) (pv 1)) (pa_cons pe_str (pa_cons pe_int (pa_cons pe_bl (pa_cons (pe_disp (pps_cons (pv 3) pe_int pps_nil) rfl rfl (by simp) (by decide)) pa_nil)))))))))) (pc D_l_draw (hr.mono (by decide)) (pa_cons (pv 0) (pa_cons pe_int pa_nil))) (fun _ _ => rfl))) ?_
    generalize Txt.join "" ws = wd
    refine ⟨_, rfl, _, rfl, _, rfl, _, rfl, (by show 2 ≤ sizeLine; decide), fun t4 n4 => ?_⟩
    refine upd_gen n4 fun H4 e4 h4 => ?_
    refine ⟨_, _, rfl, rfl, ⟨by decide, by decide, by decide⟩, _, rfl, _, rfl, _, _, rfl, rfl, fun d5 n5 => ?_⟩
    refine ⟨_, rfl, upd_same, [(.inr wd, .int 1)], rfl, (by show 1 ≤ 15; decide), ?_⟩
    have ed : Same H4 (upd (upd H4 d5 (.dK [])) d5 (.dK (mergeK [] [(.inr wd, .int 1)]))) := fun b o hb => by
      rw [upd_ne (ne_of_none hb n5), upd_ne (ne_of_none hb n5)]
      exact hb
    generalize upd (upd H4 d5 (.dK [])) d5 (.dK (mergeK [] [(.inr wd, .int 1)])) = H5 at ed ⊢
    refine ⟨(by show 9 ≤ sizeLine; decide), fun q6 n6 => ?_⟩
    refine upd_gen n6 fun H6 e6 h6 => ?_
    have e36 := (e4.trans ed).trans e6
    have S6 := S3.same e36
    have A6 := (S3.same (e4.trans ed)).new n6 e6 h6
    refine ⟨_, rfl, p, m + 2, 9, rfl, S6, by decide, by decide, fun r7 H7 r70 r71 S7 k7 => ?_⟩
    obtain ⟨v, hv, hvm⟩ := at_lst (xs := [V.str wd, .int (r1 - 1000000), .non, .ref t4, .int (-(10 ^ (28 : Int).toNat) - (r1 - 1000000)), .str "", .int 0, .bl true, .ref d5]) r70 r71
    refine ⟨q6, _, r7, v, rfl, rfl, sqL (A6.kp k7).1, hv, k v _ ?_ (S7.le (by omega)) ((((k1.trans k2).trans k3).trans (S3.kp e36)).trans k7)⟩
    simp only [List.mem_cons, List.not_mem_nil, or_false] at hvm
    rcases hvm with rfl | rfl | rfl | rfl | rfl | rfl | rfl | rfl | rfl <;> first | exact .inl rfl | exact .inr ⟨_, rfl⟩
end
end B
namespace B
open PySem L2
/-! k02: the twenty errors, made and asked -/
def tv (ts : List V) (i : Nat) : V := ts.getD i .non
def flT (ts : List V) : Nat → List (Str × V)
  | 0 => [("name", tv ts 0)]
  | 1 => [("name", tv ts 1)]
  | 2 => [("name", tv ts 2)]
  | 3 => [("count", tv ts 3)]
  | 4 => [("value", tv ts 4)]
  | 5 => [("worth", tv ts 5)]
  | 6 => [("name", tv ts 7), ("value", tv ts 6)]
  | 7 => [("text", tv ts 8)]
  | 8 => [("price", tv ts 9)]
  | 9 => [("value", tv ts 10)]
  | 10 => [("value", tv ts 11)]
  | 11 => [("names", tv ts 12)]
  | 12 => [("value", tv ts 13)]
  | 13 => [("name", tv ts 14)]
  | 14 => [("value", tv ts 15)]
  | 15 => [("steps", tv ts 16)]
  | 16 => [("sharing", tv ts 17)]
  | 17 => [("bound", tv ts 18)]
  | _ => []
structure Es (c : Ct) (H : Hp) (as : List Addr) (ts : List V) : Prop where
  len : as.length = 20
  er : ∀ (k : Nat) (a : Addr), as[k]? = some a → ErAt H a (c.ec (cnI k)) (flT ts k)
theorem Es.kp {c : Ct} {H H' : Hp} {as : List Addr} {ts : List V} (h : Es c H as ts) (k : XKp H H') : Es c H' as ts := ⟨h.len, fun i a e => (h.er i a e).kp k⟩
theorem none_of {H H' : Hp} {q : Addr} (e : Same H H') (h : H' q = none) : H q = none := by
  cases z : H q with
  | none => rfl
  | some o => rw [e q o z] at h; cases h
theorem es_mk {c : Ct} {H : Hp} {ts : List V} {a0 a1 a2 a3 a4 a5 a6 a7 a8 a9 a10 a11 a12 a13 a14 a15 a16 a17 a18 a19 : Addr}
    (h0 : ErAt H a0 (c.ec 1) [("name", tv ts 0)])
    (h1 : ErAt H a1 (c.ec 2) [("name", tv ts 1)])
    (h2 : ErAt H a2 (c.ec 3) [("name", tv ts 2)])
    (h3 : ErAt H a3 (c.ec 4) [("count", tv ts 3)])
    (h4 : ErAt H a4 (c.ec 5) [("value", tv ts 4)])
    (h5 : ErAt H a5 (c.ec 6) [("worth", tv ts 5)])
    (h6 : ErAt H a6 (c.ec 7) [("name", tv ts 7), ("value", tv ts 6)])
    (h7 : ErAt H a7 (c.ec 8) [("text", tv ts 8)])
    (h8 : ErAt H a8 (c.ec 9) [("price", tv ts 9)])
    (h9 : ErAt H a9 (c.ec 10) [("value", tv ts 10)])
    (h10 : ErAt H a10 (c.ec 11) [("value", tv ts 11)])
    (h11 : ErAt H a11 (c.ec 12) [("names", tv ts 12)])
    (h12 : ErAt H a12 (c.ec 13) [("value", tv ts 13)])
    (h13 : ErAt H a13 (c.ec 14) [("name", tv ts 14)])
    (h14 : ErAt H a14 (c.ec 15) [("value", tv ts 15)])
    (h15 : ErAt H a15 (c.ec 16) [("steps", tv ts 16)])
    (h16 : ErAt H a16 (c.ec 17) [("sharing", tv ts 17)])
    (h17 : ErAt H a17 (c.ec 19) [("bound", tv ts 18)])
    (h18 : ErAt H a18 (c.ec 18) [])
    (h19 : ErAt H a19 (c.ec 20) [])
    : Es c H [a0, a1, a2, a3, a4, a5, a6, a7, a8, a9, a10, a11, a12, a13, a14, a15, a16, a17, a18, a19] ts := by
  refine ⟨rfl, fun k a e => ?_⟩
  match k, e with
  | 0, e => cases e; exact h0
  | 1, e => cases e; exact h1
  | 2, e => cases e; exact h2
  | 3, e => cases e; exact h3
  | 4, e => cases e; exact h4
  | 5, e => cases e; exact h5
  | 6, e => cases e; exact h6
  | 7, e => cases e; exact h7
  | 8, e => cases e; exact h8
  | 9, e => cases e; exact h9
  | 10, e => cases e; exact h10
  | 11, e => cases e; exact h11
  | 12, e => cases e; exact h12
  | 13, e => cases e; exact h13
  | 14, e => cases e; exact h14
  | 15, e => cases e; exact h15
  | 16, e => cases e; exact h16
  | 17, e => cases e; exact h17
  | 18, e => cases e; exact h18
  | 19, e => cases e; exact h19
  | k + 20, e => simp at e
theorem tv_at {ts : List V} (hl : ts.length = 19) (i : Nat) (hi : i < 19) : atI ts (i : Int) = some (tv ts i) := by
  refine atI_nat ?_
  unfold tv
  rw [List.getD_eq_getElem?_getD, List.getElem?_eq_getElem (by omega)]
  rfl
def spAll (c : Ct) : Sp := fun vs H Q _ => ∃ (t : Addr) (ts : List V), vs = [.ref t] ∧ SqL c.K H t ts ∧ ts.length = 19 ∧ ∀ (q : Addr) (H' : Hp) (as : List Addr), H q = none → Same H H' → H' q = some (.lst (as.map V.ref)) → Es c H' as ts → Q (.ref q) H'
def spKinds (c : Ct) : Sp := fun vs H Q _ => ∃ (a : Addr) (k : Nat) (fs : List (Str × V)), vs = [.ref a] ∧ k < 20 ∧ ErAt H a (c.ec (cnI k)) fs ∧ ∀ (q : Addr) (H' : Hp), H q = none → Same H H' → H' q = some (.lst ((List.range 20).map fun j => V.bl (decide (j = k)))) → Q (.ref q) H'
section
variable {P : Program} {w : World} {mg : Str → Option Value} {base : Heap} {c : Ct}
theorem ok_l_all {f : Addr} {fd : FuncData} (F : Fun c.K "_law_all" "_law_all" s_l_all f fd) (T : Bt mg) (XK_BadName : Ek1 P w c.K mg base "BadName" (c.ec 1) "name") (XK_DuplicateName : Ek1 P w c.K mg base "DuplicateName" (c.ec 2) "name") (XK_UnknownName : Ek1 P w c.K mg base "UnknownName" (c.ec 3) "name") (XK_BadCount : Ek1 P w c.K mg base "BadCount" (c.ec 4) "count") (XK_BadBundle : Ek1 P w c.K mg base "BadBundle" (c.ec 5) "value") (XK_BadWorth : Ek1 P w c.K mg base "BadWorth" (c.ec 6) "worth") (XK_NotRising : Ek2 P w c.K mg base "NotRising" (c.ec 7) "value" "name") (XK_BadText : Ek1 P w c.K mg base "BadText" (c.ec 8) "text") (XK_BadPrice : Ek1 P w c.K mg base "BadPrice" (c.ec 9) "price") (XK_BadUnit : Ek1 P w c.K mg base "BadUnit" (c.ec 10) "value") (XK_BadFactor : Ek1 P w c.K mg base "BadFactor" (c.ec 11) "value") (XK_UnlikeGoods : Ek1 P w c.K mg base "UnlikeGoods" (c.ec 12) "names") (XK_NotWanted : Ek1 P w c.K mg base "NotWanted" (c.ec 13) "value") (XK_NotHigher : Ek1 P w c.K mg base "NotHigher" (c.ec 14) "name") (XK_NotNested : Ek1 P w c.K mg base "NotNested" (c.ec 15) "value") (XK_BadSteps : Ek1 P w c.K mg base "BadSteps" (c.ec 16) "steps") (XK_BadSharing : Ek1 P w c.K mg base "BadSharing" (c.ec 17) "sharing") (XK_BadBound : Ek1 P w c.K mg base "BadBound" (c.ec 19) "bound") (X_IsSubstitutes : ExcD0 P w c.K mg base 1 "IsSubstitutes" (c.ec 18)) (X_NothingToUndo : ExcD0 P w c.K mg base 1 "NothingToUndo" (c.ec 20)) : FnOk P w c.K mg base CX0 3 f fd ["_law_t"] (spAll c) := by
  refine F.ok sc_l_all (fun vs H Q E h => ?_) (fun cdv A outer s H vs Q E hr h => ⟨_, wb, ?_⟩)
  · obtain ⟨t, ts, rfl, _⟩ := h
    rfl
  · obtain ⟨t, ts, rfl, hS, hl, k⟩ := h
    have z0 : Same H H := Same.refl H
    refine nxt (ps_set (i := 1) sc_l_all.nd rfl (Or.inl rfl) (pe_lst (pa_cons (xv1 XK_BadName (hr.mono (by decide)) (pe_ix ix_list (pv 0) pe_int (fun _ _ => rfl))) (pa_cons (xv1 XK_DuplicateName (hr.mono (by decide)) (pe_ix ix_list (pv 0) pe_int (fun _ _ => rfl))) (pa_cons (xv1 XK_UnknownName (hr.mono (by decide)) (pe_ix ix_list (pv 0) pe_int (fun _ _ => rfl))) (pa_cons (xv1 XK_BadCount (hr.mono (by decide)) (pe_ix ix_list (pv 0) pe_int (fun _ _ => rfl))) (pa_cons (xv1 XK_BadBundle (hr.mono (by decide)) (pe_ix ix_list (pv 0) pe_int (fun _ _ => rfl))) pa_nil))))))) ?_
    refine ⟨_, rfl, t, ts, 0, tv ts 0, rfl, rfl, sm_l z0 hS, tv_at hl 0 (by decide), fun a0 G1 n1 e1 r0 => ?_⟩
    have z1 := z0.trans e1
    refine ⟨_, rfl, t, ts, 1, tv ts 1, rfl, rfl, sm_l z1 hS, tv_at hl 1 (by decide), fun a1 G2 n2 e2 r1 => ?_⟩
    have z2 := z1.trans e2
    refine ⟨_, rfl, t, ts, 2, tv ts 2, rfl, rfl, sm_l z2 hS, tv_at hl 2 (by decide), fun a2 G3 n3 e3 r2 => ?_⟩
    have z3 := z2.trans e3
    refine ⟨_, rfl, t, ts, 3, tv ts 3, rfl, rfl, sm_l z3 hS, tv_at hl 3 (by decide), fun a3 G4 n4 e4 r3 => ?_⟩
    have z4 := z3.trans e4
    refine ⟨_, rfl, t, ts, 4, tv ts 4, rfl, rfl, sm_l z4 hS, tv_at hl 4 (by decide), fun a4 G5 n5 e5 r4 => ?_⟩
    have z5 := z4.trans e5
    refine ⟨(by show 5 ≤ sizeLine; decide), fun q6 m6 => ?_⟩
    refine upd_gen m6 fun G6 e6 h6 => ?_
    have z6 := z5.trans e6
    refine nxt (ps_set (i := 1) sc_l_all.nd rfl (Or.inl rfl) (pe_op op_cat (pv 1) (pe_lst (pa_cons (xv1 XK_BadWorth (hr.mono (by decide)) (pe_ix ix_list (pv 0) pe_int (fun _ _ => rfl))) (pa_cons (xv2 XK_NotRising (hr.mono (by decide)) (pe_ix ix_list (pv 0) pe_int (fun _ _ => rfl)) (pe_ix ix_list (pv 0) pe_int (fun _ _ => rfl))) (pa_cons (xv1 XK_BadText (hr.mono (by decide)) (pe_ix ix_list (pv 0) pe_int (fun _ _ => rfl))) (pa_cons (xv1 XK_BadPrice (hr.mono (by decide)) (pe_ix ix_list (pv 0) pe_int (fun _ _ => rfl))) (pa_cons (xv1 XK_BadUnit (hr.mono (by decide)) (pe_ix ix_list (pv 0) pe_int (fun _ _ => rfl))) pa_nil)))))))) ?_
    refine ⟨_, rfl, _, rfl, t, ts, 5, tv ts 5, rfl, rfl, sm_l z6 hS, tv_at hl 5 (by decide), fun a5 G7 n7 e7 r5 => ?_⟩
    have z7 := z6.trans e7
    refine ⟨_, rfl, t, ts, 6, tv ts 6, rfl, rfl, sm_l z7 hS, tv_at hl 6 (by decide), _, rfl, t, ts, 7, tv ts 7, rfl, rfl, sm_l z7 hS, tv_at hl 7 (by decide), fun a6 G8 n8 e8 r6 => ?_⟩
    have z8 := z7.trans e8
    refine ⟨_, rfl, t, ts, 8, tv ts 8, rfl, rfl, sm_l z8 hS, tv_at hl 8 (by decide), fun a7 G9 n9 e9 r7 => ?_⟩
    have z9 := z8.trans e9
    refine ⟨_, rfl, t, ts, 9, tv ts 9, rfl, rfl, sm_l z9 hS, tv_at hl 9 (by decide), fun a8 G10 n10 e10 r8 => ?_⟩
    have z10 := z9.trans e10
    refine ⟨_, rfl, t, ts, 10, tv ts 10, rfl, rfl, sm_l z10 hS, tv_at hl 10 (by decide), fun a9 G11 n11 e11 r9 => ?_⟩
    have z11 := z10.trans e11
    refine ⟨(by show 5 ≤ sizeLine; decide), fun q12 m12 => ?_⟩
    refine upd_gen m12 fun G12 e12 h12 => ?_
    have z12 := z11.trans e12
    refine ⟨q6, q12, _, _, rfl, rfl, (e7.trans (e8.trans (e9.trans (e10.trans (e11.trans (e12.trans (Same.refl _))))))) _ _ h6, h12, (by show 5 + 5 ≤ sizeLine; decide), fun q13 m13 => ?_⟩
    refine upd_gen m13 fun G13 e13 h13 => ?_
    have z13 := z12.trans e13
    refine nxt (ps_set (i := 1) sc_l_all.nd rfl (Or.inl rfl) (pe_op op_cat (pv 1) (pe_lst (pa_cons (xv1 XK_BadFactor (hr.mono (by decide)) (pe_ix ix_list (pv 0) pe_int (fun _ _ => rfl))) (pa_cons (xv1 XK_UnlikeGoods (hr.mono (by decide)) (pe_ix ix_list (pv 0) pe_int (fun _ _ => rfl))) (pa_cons (xv1 XK_NotWanted (hr.mono (by decide)) (pe_ix ix_list (pv 0) pe_int (fun _ _ => rfl))) (pa_cons (xv1 XK_NotHigher (hr.mono (by decide)) (pe_ix ix_list (pv 0) pe_int (fun _ _ => rfl))) (pa_cons (xv1 XK_NotNested (hr.mono (by decide)) (pe_ix ix_list (pv 0) pe_int (fun _ _ => rfl))) pa_nil)))))))) ?_
    refine ⟨_, rfl, _, rfl, t, ts, 11, tv ts 11, rfl, rfl, sm_l z13 hS, tv_at hl 11 (by decide), fun a10 G14 n14 e14 r10 => ?_⟩
    have z14 := z13.trans e14
    refine ⟨_, rfl, t, ts, 12, tv ts 12, rfl, rfl, sm_l z14 hS, tv_at hl 12 (by decide), fun a11 G15 n15 e15 r11 => ?_⟩
    have z15 := z14.trans e15
    refine ⟨_, rfl, t, ts, 13, tv ts 13, rfl, rfl, sm_l z15 hS, tv_at hl 13 (by decide), fun a12 G16 n16 e16 r12 => ?_⟩
    have z16 := z15.trans e16
    refine ⟨_, rfl, t, ts, 14, tv ts 14, rfl, rfl, sm_l z16 hS, tv_at hl 14 (by decide), fun a13 G17 n17 e17 r13 => ?_⟩
    have z17 := z16.trans e17
    refine ⟨_, rfl, t, ts, 15, tv ts 15, rfl, rfl, sm_l z17 hS, tv_at hl 15 (by decide), fun a14 G18 n18 e18 r14 => ?_⟩
    have z18 := z17.trans e18
    refine ⟨(by show 5 ≤ sizeLine; decide), fun q19 m19 => ?_⟩
    refine upd_gen m19 fun G19 e19 h19 => ?_
    have z19 := z18.trans e19
    refine ⟨q13, q19, _, _, rfl, rfl, (e14.trans (e15.trans (e16.trans (e17.trans (e18.trans (e19.trans (Same.refl _))))))) _ _ h13, h19, (by show 10 + 5 ≤ sizeLine; decide), fun q20 m20 => ?_⟩
    refine upd_gen m20 fun G20 e20 h20 => ?_
    have z20 := z19.trans e20
    refine last (ps_ret (pe_op op_cat (pv 1) (pe_lst (pa_cons (xv1 XK_BadSteps (hr.mono (by decide)) (pe_ix ix_list (pv 0) pe_int (fun _ _ => rfl))) (pa_cons (xv1 XK_BadSharing (hr.mono (by decide)) (pe_ix ix_list (pv 0) pe_int (fun _ _ => rfl))) (pa_cons (xv1 XK_BadBound (hr.mono (by decide)) (pe_ix ix_list (pv 0) pe_int (fun _ _ => rfl))) (pa_cons (xv0 X_IsSubstitutes (hr.mono (by decide))) (pa_cons (xv0 X_NothingToUndo (hr.mono (by decide))) pa_nil)))))))) ?_
    refine ⟨_, rfl, _, rfl, t, ts, 16, tv ts 16, rfl, rfl, sm_l z20 hS, tv_at hl 16 (by decide), fun a15 G21 n21 e21 r15 => ?_⟩
    have z21 := z20.trans e21
    refine ⟨_, rfl, t, ts, 17, tv ts 17, rfl, rfl, sm_l z21 hS, tv_at hl 17 (by decide), fun a16 G22 n22 e22 r16 => ?_⟩
    have z22 := z21.trans e22
    refine ⟨_, rfl, t, ts, 18, tv ts 18, rfl, rfl, sm_l z22 hS, tv_at hl 18 (by decide), fun a17 G23 n23 e23 r17 => ?_⟩
    have z23 := z22.trans e23
    refine fun a18 G24 n24 e24 r18 => ?_
    have z24 := z23.trans e24
    refine fun a19 G25 n25 e25 r19 => ?_
    have z25 := z24.trans e25
    refine ⟨(by show 5 ≤ sizeLine; decide), fun q26 m26 => ?_⟩
    refine upd_gen m26 fun G26 e26 h26 => ?_
    have z26 := z25.trans e26
    refine ⟨q20, q26, _, _, rfl, rfl, (e21.trans (e22.trans (e23.trans (e24.trans (e25.trans (e26.trans (Same.refl _))))))) _ _ h20, h26, (by show 15 + 5 ≤ sizeLine; decide), fun q27 m27 => ?_⟩
    refine upd_gen m27 fun G27 e27 h27 => ?_
    have z27 := z26.trans e27
    have y27 : Same G27 G27 := Same.refl _
    have y26 := e27.trans y27
    have y25 := e26.trans y26
    have y24 := e25.trans y25
    have y23 := e24.trans y24
    have y22 := e23.trans y23
    have y21 := e22.trans y22
    have y20 := e21.trans y21
    have y19 := e20.trans y20
    have y18 := e19.trans y19
    have y17 := e18.trans y18
    have y16 := e17.trans y17
    have y15 := e16.trans y16
    have y14 := e15.trans y15
    have y13 := e14.trans y14
    have y12 := e13.trans y13
    have y11 := e12.trans y12
    have y10 := e11.trans y11
    have y9 := e10.trans y10
    have y8 := e9.trans y9
    have y7 := e8.trans y8
    have y6 := e7.trans y7
    have y5 := e6.trans y6
    have y4 := e5.trans y5
    have y3 := e4.trans y4
    have y2 := e3.trans y3
    have y1 := e2.trans y2
    exact k q27 _ [a0, a1, a2, a3, a4, a5, a6, a7, a8, a9, a10, a11, a12, a13, a14, a15, a16, a17, a18, a19] (none_of z26 m27) z27 h27 (es_mk (r0.kp (XKp.same y1)) (r1.kp (XKp.same y2)) (r2.kp (XKp.same y3)) (r3.kp (XKp.same y4)) (r4.kp (XKp.same y5)) (r5.kp (XKp.same y7)) (r6.kp (XKp.same y8)) (r7.kp (XKp.same y9)) (r8.kp (XKp.same y10)) (r9.kp (XKp.same y11)) (r10.kp (XKp.same y14)) (r11.kp (XKp.same y15)) (r12.kp (XKp.same y16)) (r13.kp (XKp.same y17)) (r14.kp (XKp.same y18)) (r15.kp (XKp.same y21)) (r16.kp (XKp.same y22)) (r17.kp (XKp.same y23)) (r18.kp (XKp.same y24)) (r19.kp (XKp.same y25)))
theorem ok_l_named {f : Addr} {fd : FuncData} (F : Fun c.K "_law_named" "_law_named" s_l_named f fd) (T : Bt mg) (XK_BadName : Ek1 P w c.K mg base "BadName" (c.ec 1) "name") (XK_DuplicateName : Ek1 P w c.K mg base "DuplicateName" (c.ec 2) "name") (XK_UnknownName : Ek1 P w c.K mg base "UnknownName" (c.ec 3) "name") (XK_BadCount : Ek1 P w c.K mg base "BadCount" (c.ec 4) "count") (XK_BadBundle : Ek1 P w c.K mg base "BadBundle" (c.ec 5) "value") (XK_BadWorth : Ek1 P w c.K mg base "BadWorth" (c.ec 6) "worth") (XK_NotRising : Ek2 P w c.K mg base "NotRising" (c.ec 7) "value" "name") (XK_BadText : Ek1 P w c.K mg base "BadText" (c.ec 8) "text") (XK_BadPrice : Ek1 P w c.K mg base "BadPrice" (c.ec 9) "price") (XK_BadUnit : Ek1 P w c.K mg base "BadUnit" (c.ec 10) "value") (XK_BadFactor : Ek1 P w c.K mg base "BadFactor" (c.ec 11) "value") (XK_UnlikeGoods : Ek1 P w c.K mg base "UnlikeGoods" (c.ec 12) "names") (XK_NotWanted : Ek1 P w c.K mg base "NotWanted" (c.ec 13) "value") (XK_NotHigher : Ek1 P w c.K mg base "NotHigher" (c.ec 14) "name") (XK_NotNested : Ek1 P w c.K mg base "NotNested" (c.ec 15) "value") (XK_BadSteps : Ek1 P w c.K mg base "BadSteps" (c.ec 16) "steps") (XK_BadSharing : Ek1 P w c.K mg base "BadSharing" (c.ec 17) "sharing") (XK_BadBound : Ek1 P w c.K mg base "BadBound" (c.ec 19) "bound") (X_IsSubstitutes : ExcD0 P w c.K mg base 1 "IsSubstitutes" (c.ec 18)) (X_NothingToUndo : ExcD0 P w c.K mg base 1 "NothingToUndo" (c.ec 20)) : FnOk P w c.K mg base CX0 3 f fd ["_law_t"] (spAll c) := by
  refine F.ok sc_l_named (fun vs H Q E h => ?_) (fun cdv A outer s H vs Q E hr h => ⟨_, wb, ?_⟩)
  · obtain ⟨t, ts, rfl, _⟩ := h
    rfl
  · obtain ⟨t, ts, rfl, hS, hl, k⟩ := h
    have z0 : Same H H := Same.refl H
    refine nxt (ps_set (i := 1) sc_l_named.nd rfl (Or.inl rfl) (pe_lst (pa_cons (xv1k XK_BadName (hr.mono (by decide)) (pe_ix ix_list (pv 0) pe_int (fun _ _ => rfl))) (pa_cons (xv1k XK_DuplicateName (hr.mono (by decide)) (pe_ix ix_list (pv 0) pe_int (fun _ _ => rfl))) (pa_cons (xv1k XK_UnknownName (hr.mono (by decide)) (pe_ix ix_list (pv 0) pe_int (fun _ _ => rfl))) (pa_cons (xv1k XK_BadCount (hr.mono (by decide)) (pe_ix ix_list (pv 0) pe_int (fun _ _ => rfl))) pa_nil)))))) ?_
    refine ⟨_, rfl, t, ts, 0, tv ts 0, rfl, rfl, sm_l z0 hS, tv_at hl 0 (by decide), fun a0 G1 n1 e1 r0 => ?_⟩
    have z1 := z0.trans e1
    refine ⟨_, rfl, t, ts, 1, tv ts 1, rfl, rfl, sm_l z1 hS, tv_at hl 1 (by decide), fun a1 G2 n2 e2 r1 => ?_⟩
    have z2 := z1.trans e2
    refine ⟨_, rfl, t, ts, 2, tv ts 2, rfl, rfl, sm_l z2 hS, tv_at hl 2 (by decide), fun a2 G3 n3 e3 r2 => ?_⟩
    have z3 := z2.trans e3
    refine ⟨_, rfl, t, ts, 3, tv ts 3, rfl, rfl, sm_l z3 hS, tv_at hl 3 (by decide), fun a3 G4 n4 e4 r3 => ?_⟩
    have z4 := z3.trans e4
    refine ⟨(by show 4 ≤ sizeLine; decide), fun q5 m5 => ?_⟩
    refine upd_gen m5 fun G5 e5 h5 => ?_
    have z5 := z4.trans e5
    refine nxt (ps_set (i := 1) sc_l_named.nd rfl (Or.inl rfl) (pe_op op_cat (pv 1) (pe_lst (pa_cons (xv1k XK_BadBundle (hr.mono (by decide)) (pe_ix ix_list (pv 0) pe_int (fun _ _ => rfl))) (pa_cons (xv1k XK_BadWorth (hr.mono (by decide)) (pe_ix ix_list (pv 0) pe_int (fun _ _ => rfl))) (pa_cons (xv2k XK_NotRising (hr.mono (by decide)) (pe_ix ix_list (pv 0) pe_int (fun _ _ => rfl)) (pe_ix ix_list (pv 0) pe_int (fun _ _ => rfl))) (pa_cons (xv1k XK_BadText (hr.mono (by decide)) (pe_ix ix_list (pv 0) pe_int (fun _ _ => rfl))) pa_nil))))))) ?_
    refine ⟨_, rfl, _, rfl, t, ts, 4, tv ts 4, rfl, rfl, sm_l z5 hS, tv_at hl 4 (by decide), fun a4 G6 n6 e6 r4 => ?_⟩
    have z6 := z5.trans e6
    refine ⟨_, rfl, t, ts, 5, tv ts 5, rfl, rfl, sm_l z6 hS, tv_at hl 5 (by decide), fun a5 G7 n7 e7 r5 => ?_⟩
    have z7 := z6.trans e7
    refine ⟨_, rfl, t, ts, 7, tv ts 7, rfl, rfl, sm_l z7 hS, tv_at hl 7 (by decide), _, rfl, t, ts, 6, tv ts 6, rfl, rfl, sm_l z7 hS, tv_at hl 6 (by decide), fun a6 G8 n8 e8 r6 => ?_⟩
    have z8 := z7.trans e8
    refine ⟨_, rfl, t, ts, 8, tv ts 8, rfl, rfl, sm_l z8 hS, tv_at hl 8 (by decide), fun a7 G9 n9 e9 r7 => ?_⟩
    have z9 := z8.trans e9
    refine ⟨(by show 4 ≤ sizeLine; decide), fun q10 m10 => ?_⟩
    refine upd_gen m10 fun G10 e10 h10 => ?_
    have z10 := z9.trans e10
    refine ⟨q5, q10, _, _, rfl, rfl, (e6.trans (e7.trans (e8.trans (e9.trans (e10.trans (Same.refl _)))))) _ _ h5, h10, (by show 4 + 4 ≤ sizeLine; decide), fun q11 m11 => ?_⟩
    refine upd_gen m11 fun G11 e11 h11 => ?_
    have z11 := z10.trans e11
    refine nxt (ps_set (i := 1) sc_l_named.nd rfl (Or.inl rfl) (pe_op op_cat (pv 1) (pe_lst (pa_cons (xv1k XK_BadPrice (hr.mono (by decide)) (pe_ix ix_list (pv 0) pe_int (fun _ _ => rfl))) (pa_cons (xv1k XK_BadUnit (hr.mono (by decide)) (pe_ix ix_list (pv 0) pe_int (fun _ _ => rfl))) (pa_cons (xv1k XK_BadFactor (hr.mono (by decide)) (pe_ix ix_list (pv 0) pe_int (fun _ _ => rfl))) (pa_cons (xv1k XK_UnlikeGoods (hr.mono (by decide)) (pe_ix ix_list (pv 0) pe_int (fun _ _ => rfl))) pa_nil))))))) ?_
    refine ⟨_, rfl, _, rfl, t, ts, 9, tv ts 9, rfl, rfl, sm_l z11 hS, tv_at hl 9 (by decide), fun a8 G12 n12 e12 r8 => ?_⟩
    have z12 := z11.trans e12
    refine ⟨_, rfl, t, ts, 10, tv ts 10, rfl, rfl, sm_l z12 hS, tv_at hl 10 (by decide), fun a9 G13 n13 e13 r9 => ?_⟩
    have z13 := z12.trans e13
    refine ⟨_, rfl, t, ts, 11, tv ts 11, rfl, rfl, sm_l z13 hS, tv_at hl 11 (by decide), fun a10 G14 n14 e14 r10 => ?_⟩
    have z14 := z13.trans e14
    refine ⟨_, rfl, t, ts, 12, tv ts 12, rfl, rfl, sm_l z14 hS, tv_at hl 12 (by decide), fun a11 G15 n15 e15 r11 => ?_⟩
    have z15 := z14.trans e15
    refine ⟨(by show 4 ≤ sizeLine; decide), fun q16 m16 => ?_⟩
    refine upd_gen m16 fun G16 e16 h16 => ?_
    have z16 := z15.trans e16
    refine ⟨q11, q16, _, _, rfl, rfl, (e12.trans (e13.trans (e14.trans (e15.trans (e16.trans (Same.refl _)))))) _ _ h11, h16, (by show 8 + 4 ≤ sizeLine; decide), fun q17 m17 => ?_⟩
    refine upd_gen m17 fun G17 e17 h17 => ?_
    have z17 := z16.trans e17
    refine nxt (ps_set (i := 1) sc_l_named.nd rfl (Or.inl rfl) (pe_op op_cat (pv 1) (pe_lst (pa_cons (xv1k XK_NotWanted (hr.mono (by decide)) (pe_ix ix_list (pv 0) pe_int (fun _ _ => rfl))) (pa_cons (xv1k XK_NotHigher (hr.mono (by decide)) (pe_ix ix_list (pv 0) pe_int (fun _ _ => rfl))) (pa_cons (xv1k XK_NotNested (hr.mono (by decide)) (pe_ix ix_list (pv 0) pe_int (fun _ _ => rfl))) (pa_cons (xv1k XK_BadSteps (hr.mono (by decide)) (pe_ix ix_list (pv 0) pe_int (fun _ _ => rfl))) pa_nil))))))) ?_
    refine ⟨_, rfl, _, rfl, t, ts, 13, tv ts 13, rfl, rfl, sm_l z17 hS, tv_at hl 13 (by decide), fun a12 G18 n18 e18 r12 => ?_⟩
    have z18 := z17.trans e18
    refine ⟨_, rfl, t, ts, 14, tv ts 14, rfl, rfl, sm_l z18 hS, tv_at hl 14 (by decide), fun a13 G19 n19 e19 r13 => ?_⟩
    have z19 := z18.trans e19
    refine ⟨_, rfl, t, ts, 15, tv ts 15, rfl, rfl, sm_l z19 hS, tv_at hl 15 (by decide), fun a14 G20 n20 e20 r14 => ?_⟩
    have z20 := z19.trans e20
    refine ⟨_, rfl, t, ts, 16, tv ts 16, rfl, rfl, sm_l z20 hS, tv_at hl 16 (by decide), fun a15 G21 n21 e21 r15 => ?_⟩
    have z21 := z20.trans e21
    refine ⟨(by show 4 ≤ sizeLine; decide), fun q22 m22 => ?_⟩
    refine upd_gen m22 fun G22 e22 h22 => ?_
    have z22 := z21.trans e22
    refine ⟨q17, q22, _, _, rfl, rfl, (e18.trans (e19.trans (e20.trans (e21.trans (e22.trans (Same.refl _)))))) _ _ h17, h22, (by show 12 + 4 ≤ sizeLine; decide), fun q23 m23 => ?_⟩
    refine upd_gen m23 fun G23 e23 h23 => ?_
    have z23 := z22.trans e23
    refine last (ps_ret (pe_op op_cat (pv 1) (pe_lst (pa_cons (xv1k XK_BadSharing (hr.mono (by decide)) (pe_ix ix_list (pv 0) pe_int (fun _ _ => rfl))) (pa_cons (xv1k XK_BadBound (hr.mono (by decide)) (pe_ix ix_list (pv 0) pe_int (fun _ _ => rfl))) (pa_cons (xv0 X_IsSubstitutes (hr.mono (by decide))) (pa_cons (xv0 X_NothingToUndo (hr.mono (by decide))) pa_nil))))))) ?_
    refine ⟨_, rfl, _, rfl, t, ts, 17, tv ts 17, rfl, rfl, sm_l z23 hS, tv_at hl 17 (by decide), fun a16 G24 n24 e24 r16 => ?_⟩
    have z24 := z23.trans e24
    refine ⟨_, rfl, t, ts, 18, tv ts 18, rfl, rfl, sm_l z24 hS, tv_at hl 18 (by decide), fun a17 G25 n25 e25 r17 => ?_⟩
    have z25 := z24.trans e25
    refine fun a18 G26 n26 e26 r18 => ?_
    have z26 := z25.trans e26
    refine fun a19 G27 n27 e27 r19 => ?_
    have z27 := z26.trans e27
    refine ⟨(by show 4 ≤ sizeLine; decide), fun q28 m28 => ?_⟩
    refine upd_gen m28 fun G28 e28 h28 => ?_
    have z28 := z27.trans e28
    refine ⟨q23, q28, _, _, rfl, rfl, (e24.trans (e25.trans (e26.trans (e27.trans (e28.trans (Same.refl _)))))) _ _ h23, h28, (by show 16 + 4 ≤ sizeLine; decide), fun q29 m29 => ?_⟩
    refine upd_gen m29 fun G29 e29 h29 => ?_
    have z29 := z28.trans e29
    have y29 : Same G29 G29 := Same.refl _
    have y28 := e29.trans y29
    have y27 := e28.trans y28
    have y26 := e27.trans y27
    have y25 := e26.trans y26
    have y24 := e25.trans y25
    have y23 := e24.trans y24
    have y22 := e23.trans y23
    have y21 := e22.trans y22
    have y20 := e21.trans y21
    have y19 := e20.trans y20
    have y18 := e19.trans y19
    have y17 := e18.trans y18
    have y16 := e17.trans y17
    have y15 := e16.trans y16
    have y14 := e15.trans y15
    have y13 := e14.trans y14
    have y12 := e13.trans y13
    have y11 := e12.trans y12
    have y10 := e11.trans y11
    have y9 := e10.trans y10
    have y8 := e9.trans y9
    have y7 := e8.trans y8
    have y6 := e7.trans y7
    have y5 := e6.trans y6
    have y4 := e5.trans y5
    have y3 := e4.trans y4
    have y2 := e3.trans y3
    have y1 := e2.trans y2
    exact k q29 _ [a0, a1, a2, a3, a4, a5, a6, a7, a8, a9, a10, a11, a12, a13, a14, a15, a16, a17, a18, a19] (none_of z28 m29) z29 h29 (es_mk (r0.kp (XKp.same y1)) (r1.kp (XKp.same y2)) (r2.kp (XKp.same y3)) (r3.kp (XKp.same y4)) (r4.kp (XKp.same y6)) (r5.kp (XKp.same y7)) (r6.kp (XKp.same y8)) (r7.kp (XKp.same y9)) (r8.kp (XKp.same y12)) (r9.kp (XKp.same y13)) (r10.kp (XKp.same y14)) (r11.kp (XKp.same y15)) (r12.kp (XKp.same y18)) (r13.kp (XKp.same y19)) (r14.kp (XKp.same y20)) (r15.kp (XKp.same y21)) (r16.kp (XKp.same y24)) (r17.kp (XKp.same y25)) (r18.kp (XKp.same y26)) (r19.kp (XKp.same y27)))
theorem ok_l_kinds {f : Addr} {fd : FuncData} {Bc : Addr} (F : Fun c.K "_law_kinds" "_law_kinds" s_l_kinds f fd) (T : Bt mg) (R_all : Er c.K c.ec [1, 2, 3, 4, 5, 6, 7, 8, 9, 10, 11, 12, 13, 14, 15, 16, 17, 18, 19, 20]) (XK_BadName : Ek1 P w c.K mg base "BadName" (c.ec 1) "name") (XK_DuplicateName : Ek1 P w c.K mg base "DuplicateName" (c.ec 2) "name") (XK_UnknownName : Ek1 P w c.K mg base "UnknownName" (c.ec 3) "name") (XK_BadCount : Ek1 P w c.K mg base "BadCount" (c.ec 4) "count") (XK_BadBundle : Ek1 P w c.K mg base "BadBundle" (c.ec 5) "value") (XK_BadWorth : Ek1 P w c.K mg base "BadWorth" (c.ec 6) "worth") (XK_NotRising : Ek2 P w c.K mg base "NotRising" (c.ec 7) "value" "name") (XK_BadText : Ek1 P w c.K mg base "BadText" (c.ec 8) "text") (XK_BadPrice : Ek1 P w c.K mg base "BadPrice" (c.ec 9) "price") (XK_BadUnit : Ek1 P w c.K mg base "BadUnit" (c.ec 10) "value") (XK_BadFactor : Ek1 P w c.K mg base "BadFactor" (c.ec 11) "value") (XK_UnlikeGoods : Ek1 P w c.K mg base "UnlikeGoods" (c.ec 12) "names") (XK_NotWanted : Ek1 P w c.K mg base "NotWanted" (c.ec 13) "value") (XK_NotHigher : Ek1 P w c.K mg base "NotHigher" (c.ec 14) "name") (XK_NotNested : Ek1 P w c.K mg base "NotNested" (c.ec 15) "value") (XK_BadSteps : Ek1 P w c.K mg base "BadSteps" (c.ec 16) "steps") (XK_BadSharing : Ek1 P w c.K mg base "BadSharing" (c.ec 17) "sharing") (XK_BadBound : Ek1 P w c.K mg base "BadBound" (c.ec 19) "bound") (X_IsSubstitutes : ExcD0 P w c.K mg base 1 "IsSubstitutes" (c.ec 18)) (X_NothingToUndo : ExcD0 P w c.K mg base 1 "NothingToUndo" (c.ec 20)) (KI : kinB c.K c.ec Bc = true) : FnOk P w c.K mg base CX0 1 f fd ["_law_e"] (spKinds c) := by
  refine F.ok sc_l_kinds (fun vs H Q E h => ?_) (fun cdv A outer s H vs Q E hr h => ⟨_, wb, ?_⟩)
  · obtain ⟨a, k, fs, rfl, _⟩ := h
    rfl
  · obtain ⟨a, k, fs, rfl, hk, er, out⟩ := h
    have z0 : Same H H := Same.refl H
    have C : Ec c.K (c.ec (cnI k)) := R_all.ok _ (by
      have : ∀ k, k < 20 → cnI k ∈ ([1, 2, 3, 4, 5, 6, 7, 8, 9, 10, 11, 12, 13, 14, 15, 16, 17, 18, 19, 20] : List Nat) := by decide
      exact this k hk)
    have kk := fun j hj => kinB_k KI hk j hj
    refine nxt (ps_set (i := 1) sc_l_kinds.nd rfl (Or.inl rfl) (pe_lst (pa_cons (pe_callB call_isO (by rfl) T.isinstance (by decide +kernel) (pa_cons (pv 0) (pa_cons (pe_glob (v := .ref (c.ec 1)) (by rfl) XK_BadName.gC rfl (by decide)) pa_nil))) (pa_cons (pe_callB call_isO (by rfl) T.isinstance (by decide +kernel) (pa_cons (pv 0) (pa_cons (pe_glob (v := .ref (c.ec 2)) (by rfl) XK_DuplicateName.gC rfl (by decide)) pa_nil))) (pa_cons (pe_callB call_isO (by rfl) T.isinstance (by decide +kernel) (pa_cons (pv 0) (pa_cons (pe_glob (v := .ref (c.ec 3)) (by rfl) XK_UnknownName.gC rfl (by decide)) pa_nil))) pa_nil))))) ?_
    refine ⟨_, rfl, a, _, fs, _, _, _, rfl, er.kp (XKp.same z0), C, .own _, kk 0 (by decide), _, rfl, a, _, fs, _, _, _, rfl, er.kp (XKp.same z0), C, .own _, kk 1 (by decide), _, rfl, a, _, fs, _, _, _, rfl, er.kp (XKp.same z0), C, .own _, kk 2 (by decide), (by show 3 ≤ sizeLine; decide), fun q1 m1 => ?_⟩
    refine upd_gen m1 fun G1 e1 h1 => ?_
    have z1 := z0.trans e1
    refine nxt (ps_set (i := 1) sc_l_kinds.nd rfl (Or.inl rfl) (pe_op op_cat (pv 1) (pe_lst (pa_cons (pe_callB call_isO (by rfl) T.isinstance (by decide +kernel) (pa_cons (pv 0) (pa_cons (pe_glob (v := .ref (c.ec 4)) (by rfl) XK_BadCount.gC rfl (by decide)) pa_nil))) (pa_cons (pe_callB call_isO (by rfl) T.isinstance (by decide +kernel) (pa_cons (pv 0) (pa_cons (pe_glob (v := .ref (c.ec 5)) (by rfl) XK_BadBundle.gC rfl (by decide)) pa_nil))) (pa_cons (pe_callB call_isO (by rfl) T.isinstance (by decide +kernel) (pa_cons (pv 0) (pa_cons (pe_glob (v := .ref (c.ec 6)) (by rfl) XK_BadWorth.gC rfl (by decide)) pa_nil))) pa_nil)))))) ?_
    refine ⟨_, rfl, _, rfl, a, _, fs, _, _, _, rfl, er.kp (XKp.same z1), C, .own _, kk 3 (by decide), _, rfl, a, _, fs, _, _, _, rfl, er.kp (XKp.same z1), C, .own _, kk 4 (by decide), _, rfl, a, _, fs, _, _, _, rfl, er.kp (XKp.same z1), C, .own _, kk 5 (by decide), (by show 3 ≤ sizeLine; decide), fun q2 m2 => ?_⟩
    refine upd_gen m2 fun G2 e2 h2 => ?_
    have z2 := z1.trans e2
    refine ⟨q1, q2, _, _, rfl, rfl, e2 _ _ h1, h2, (by show 3 + 3 ≤ sizeLine; decide), fun q3 m3 => ?_⟩
    refine upd_gen m3 fun G3 e3 h3 => ?_
    have z3 := z2.trans e3
    refine nxt (ps_set (i := 1) sc_l_kinds.nd rfl (Or.inl rfl) (pe_op op_cat (pv 1) (pe_lst (pa_cons (pe_callB call_isO (by rfl) T.isinstance (by decide +kernel) (pa_cons (pv 0) (pa_cons (pe_glob (v := .ref (c.ec 7)) (by rfl) XK_NotRising.gC rfl (by decide)) pa_nil))) (pa_cons (pe_callB call_isO (by rfl) T.isinstance (by decide +kernel) (pa_cons (pv 0) (pa_cons (pe_glob (v := .ref (c.ec 8)) (by rfl) XK_BadText.gC rfl (by decide)) pa_nil))) (pa_cons (pe_callB call_isO (by rfl) T.isinstance (by decide +kernel) (pa_cons (pv 0) (pa_cons (pe_glob (v := .ref (c.ec 9)) (by rfl) XK_BadPrice.gC rfl (by decide)) pa_nil))) pa_nil)))))) ?_
    refine ⟨_, rfl, _, rfl, a, _, fs, _, _, _, rfl, er.kp (XKp.same z3), C, .own _, kk 6 (by decide), _, rfl, a, _, fs, _, _, _, rfl, er.kp (XKp.same z3), C, .own _, kk 7 (by decide), _, rfl, a, _, fs, _, _, _, rfl, er.kp (XKp.same z3), C, .own _, kk 8 (by decide), (by show 3 ≤ sizeLine; decide), fun q4 m4 => ?_⟩
    refine upd_gen m4 fun G4 e4 h4 => ?_
    have z4 := z3.trans e4
    refine ⟨q3, q4, _, _, rfl, rfl, e4 _ _ h3, h4, (by show 6 + 3 ≤ sizeLine; decide), fun q5 m5 => ?_⟩
    refine upd_gen m5 fun G5 e5 h5 => ?_
    have z5 := z4.trans e5
    refine nxt (ps_set (i := 1) sc_l_kinds.nd rfl (Or.inl rfl) (pe_op op_cat (pv 1) (pe_lst (pa_cons (pe_callB call_isO (by rfl) T.isinstance (by decide +kernel) (pa_cons (pv 0) (pa_cons (pe_glob (v := .ref (c.ec 10)) (by rfl) XK_BadUnit.gC rfl (by decide)) pa_nil))) (pa_cons (pe_callB call_isO (by rfl) T.isinstance (by decide +kernel) (pa_cons (pv 0) (pa_cons (pe_glob (v := .ref (c.ec 11)) (by rfl) XK_BadFactor.gC rfl (by decide)) pa_nil))) (pa_cons (pe_callB call_isO (by rfl) T.isinstance (by decide +kernel) (pa_cons (pv 0) (pa_cons (pe_glob (v := .ref (c.ec 12)) (by rfl) XK_UnlikeGoods.gC rfl (by decide)) pa_nil))) pa_nil)))))) ?_
    refine ⟨_, rfl, _, rfl, a, _, fs, _, _, _, rfl, er.kp (XKp.same z5), C, .own _, kk 9 (by decide), _, rfl, a, _, fs, _, _, _, rfl, er.kp (XKp.same z5), C, .own _, kk 10 (by decide), _, rfl, a, _, fs, _, _, _, rfl, er.kp (XKp.same z5), C, .own _, kk 11 (by decide), (by show 3 ≤ sizeLine; decide), fun q6 m6 => ?_⟩
    refine upd_gen m6 fun G6 e6 h6 => ?_
    have z6 := z5.trans e6
    refine ⟨q5, q6, _, _, rfl, rfl, e6 _ _ h5, h6, (by show 9 + 3 ≤ sizeLine; decide), fun q7 m7 => ?_⟩
    refine upd_gen m7 fun G7 e7 h7 => ?_
    have z7 := z6.trans e7
    refine nxt (ps_set (i := 1) sc_l_kinds.nd rfl (Or.inl rfl) (pe_op op_cat (pv 1) (pe_lst (pa_cons (pe_callB call_isO (by rfl) T.isinstance (by decide +kernel) (pa_cons (pv 0) (pa_cons (pe_glob (v := .ref (c.ec 13)) (by rfl) XK_NotWanted.gC rfl (by decide)) pa_nil))) (pa_cons (pe_callB call_isO (by rfl) T.isinstance (by decide +kernel) (pa_cons (pv 0) (pa_cons (pe_glob (v := .ref (c.ec 14)) (by rfl) XK_NotHigher.gC rfl (by decide)) pa_nil))) (pa_cons (pe_callB call_isO (by rfl) T.isinstance (by decide +kernel) (pa_cons (pv 0) (pa_cons (pe_glob (v := .ref (c.ec 15)) (by rfl) XK_NotNested.gC rfl (by decide)) pa_nil))) pa_nil)))))) ?_
    refine ⟨_, rfl, _, rfl, a, _, fs, _, _, _, rfl, er.kp (XKp.same z7), C, .own _, kk 12 (by decide), _, rfl, a, _, fs, _, _, _, rfl, er.kp (XKp.same z7), C, .own _, kk 13 (by decide), _, rfl, a, _, fs, _, _, _, rfl, er.kp (XKp.same z7), C, .own _, kk 14 (by decide), (by show 3 ≤ sizeLine; decide), fun q8 m8 => ?_⟩
    refine upd_gen m8 fun G8 e8 h8 => ?_
    have z8 := z7.trans e8
    refine ⟨q7, q8, _, _, rfl, rfl, e8 _ _ h7, h8, (by show 12 + 3 ≤ sizeLine; decide), fun q9 m9 => ?_⟩
    refine upd_gen m9 fun G9 e9 h9 => ?_
    have z9 := z8.trans e9
    refine nxt (ps_set (i := 1) sc_l_kinds.nd rfl (Or.inl rfl) (pe_op op_cat (pv 1) (pe_lst (pa_cons (pe_callB call_isO (by rfl) T.isinstance (by decide +kernel) (pa_cons (pv 0) (pa_cons (pe_glob (v := .ref (c.ec 16)) (by rfl) XK_BadSteps.gC rfl (by decide)) pa_nil))) (pa_cons (pe_callB call_isO (by rfl) T.isinstance (by decide +kernel) (pa_cons (pv 0) (pa_cons (pe_glob (v := .ref (c.ec 17)) (by rfl) XK_BadSharing.gC rfl (by decide)) pa_nil))) (pa_cons (pe_callB call_isO (by rfl) T.isinstance (by decide +kernel) (pa_cons (pv 0) (pa_cons (pe_glob (v := .ref (c.ec 19)) (by rfl) XK_BadBound.gC rfl (by decide)) pa_nil))) pa_nil)))))) ?_
    refine ⟨_, rfl, _, rfl, a, _, fs, _, _, _, rfl, er.kp (XKp.same z9), C, .own _, kk 15 (by decide), _, rfl, a, _, fs, _, _, _, rfl, er.kp (XKp.same z9), C, .own _, kk 16 (by decide), _, rfl, a, _, fs, _, _, _, rfl, er.kp (XKp.same z9), C, .own _, kk 17 (by decide), (by show 3 ≤ sizeLine; decide), fun q10 m10 => ?_⟩
    refine upd_gen m10 fun G10 e10 h10 => ?_
    have z10 := z9.trans e10
    refine ⟨q9, q10, _, _, rfl, rfl, e10 _ _ h9, h10, (by show 15 + 3 ≤ sizeLine; decide), fun q11 m11 => ?_⟩
    refine upd_gen m11 fun G11 e11 h11 => ?_
    have z11 := z10.trans e11
    refine last (ps_ret (pe_op op_cat (pv 1) (pe_lst (pa_cons (pe_callB call_isO (by rfl) T.isinstance (by decide +kernel) (pa_cons (pv 0) (pa_cons (pe_glob (v := .ref (c.ec 18)) (by rfl) X_IsSubstitutes.gC rfl (by decide)) pa_nil))) (pa_cons (pe_callB call_isO (by rfl) T.isinstance (by decide +kernel) (pa_cons (pv 0) (pa_cons (pe_glob (v := .ref (c.ec 20)) (by rfl) X_NothingToUndo.gC rfl (by decide)) pa_nil))) pa_nil))))) ?_
    refine ⟨_, rfl, _, rfl, a, _, fs, _, _, _, rfl, er.kp (XKp.same z11), C, .own _, kk 18 (by decide), _, rfl, a, _, fs, _, _, _, rfl, er.kp (XKp.same z11), C, .own _, kk 19 (by decide), (by show 2 ≤ sizeLine; decide), fun q12 m12 => ?_⟩
    refine upd_gen m12 fun G12 e12 h12 => ?_
    have z12 := z11.trans e12
    refine ⟨q11, q12, _, _, rfl, rfl, e12 _ _ h11, h12, (by show 18 + 2 ≤ sizeLine; decide), fun q13 m13 => ?_⟩
    refine upd_gen m13 fun G13 e13 h13 => ?_
    have z13 := z12.trans e13
    exact out q13 _ (none_of z12 m13) z13 h13
end
end B
namespace B
open PySem L2
/-! k02: what the errors keep -/
theorem dp_bls {K : PySem.W.Frag} {H : Hp} {α : Type} (f : α → Bool) : ∀ ns : List α, DpAll K H (ns.map fun j => V.bl (f j)) (ns.map fun j => PyData.bool (f j))
  | [] => .nil
  | n :: ns => .cons (.bl _) (dp_bls f ns)
theorem depth_bls {α : Type} (f : α → Bool) : ∀ xs : List α, PyData.depthAll (xs.map fun j => PyData.bool (f j)) = 0
  | [] => rfl
  | x :: xs => by simp [PyData.depthAll, PyData.depth, depth_bls f xs]
theorem itm_self {K : PySem.W.Frag} {H : Hp} : ∀ {ts : List V}, (∀ v ∈ ts, Itm v) → Paired (EqV K H 1) ts ts
  | [], _ => .nil
  | v :: ts, h => .cons (by
      rcases h v List.mem_cons_self with f | ⟨a, rfl⟩
      · exact .inl ⟨rfl, f⟩
      · exact .inr (.inl ⟨a, rfl, rfl⟩)) (itm_self fun u hu => h u (List.mem_cons_of_mem _ hu))
theorem as_20 {α : Type} : ∀ {l : List α}, l.length = 20 → ∃ a0 a1 a2 a3 a4 a5 a6 a7 a8 a9 a10 a11 a12 a13 a14 a15 a16 a17 a18 a19, l = [a0, a1, a2, a3, a4, a5, a6, a7, a8, a9, a10, a11, a12, a13, a14, a15, a16, a17, a18, a19]
  | [a0, a1, a2, a3, a4, a5, a6, a7, a8, a9, a10, a11, a12, a13, a14, a15, a16, a17, a18, a19], _ => ⟨_, _, _, _, _, _, _, _, _, _, _, _, _, _, _, _, _, _, _, _, rfl⟩
theorem ts_19 : ∀ {ts : List V}, ts.length = 19 → [tv ts 0, tv ts 1, tv ts 2, tv ts 3, tv ts 4, tv ts 5, tv ts 6, tv ts 7, tv ts 8, tv ts 9, tv ts 10, tv ts 11, tv ts 12, tv ts 13, tv ts 14, tv ts 15, tv ts 16, tv ts 17, tv ts 18] = ts
  | [a0, a1, a2, a3, a4, a5, a6, a7, a8, a9, a10, a11, a12, a13, a14, a15, a16, a17, a18], _ => rfl
theorem lk1 {f : Str} {v : V} : List.lookup f [(f, v)] = some v := by simp [List.lookup]
theorem lk2 {f g : Str} {v u : V} (h : (f == g) = false) : List.lookup f [(g, u), (f, v)] = some v := by simp [List.lookup, h]
theorem lk3 {f g : Str} {v u : V} : List.lookup g [(g, u), (f, v)] = some u := by simp [List.lookup]
def spKeeps (c : Ct) : Sp := fun vs H Q _ => ∃ (q t : Addr) (as : List Addr) (ts : List V), vs = [.ref q, .ref t] ∧ H q = some (.lst (as.map V.ref)) ∧ Es c H as ts ∧ SqL c.K H t ts ∧ ts.length = 19 ∧ (∀ v ∈ ts, Itm v) ∧ ∀ H', Same H H' → Q (.bl true) H'
section
variable {P : Program} {w : World} {mg : Str → Option Value} {base : Heap} {c : Ct}
theorem ok_l_keeps {f : Addr} {fd : FuncData} {Bc : Addr} {mc : Value} (F : Fun c.K "_law_keeps" "_law_keeps" s_l_keeps f fd) (T : Bt mg) (T_ValueError : mg "ValueError" = none) (Be : Bce c.K mg Bc mc) (R_all : Er c.K c.ec [1, 2, 3, 4, 5, 6, 7, 8, 9, 10, 11, 12, 13, 14, 15, 16, 17, 18, 19, 20]) (XK_BadName : Ek1 P w c.K mg base "BadName" (c.ec 1) "name") (XK_DuplicateName : Ek1 P w c.K mg base "DuplicateName" (c.ec 2) "name") (XK_UnknownName : Ek1 P w c.K mg base "UnknownName" (c.ec 3) "name") (XK_BadCount : Ek1 P w c.K mg base "BadCount" (c.ec 4) "count") (XK_BadBundle : Ek1 P w c.K mg base "BadBundle" (c.ec 5) "value") (XK_BadWorth : Ek1 P w c.K mg base "BadWorth" (c.ec 6) "worth") (XK_NotRising : Ek2 P w c.K mg base "NotRising" (c.ec 7) "value" "name") (XK_BadText : Ek1 P w c.K mg base "BadText" (c.ec 8) "text") (XK_BadPrice : Ek1 P w c.K mg base "BadPrice" (c.ec 9) "price") (XK_BadUnit : Ek1 P w c.K mg base "BadUnit" (c.ec 10) "value") (XK_BadFactor : Ek1 P w c.K mg base "BadFactor" (c.ec 11) "value") (XK_UnlikeGoods : Ek1 P w c.K mg base "UnlikeGoods" (c.ec 12) "names") (XK_NotWanted : Ek1 P w c.K mg base "NotWanted" (c.ec 13) "value") (XK_NotHigher : Ek1 P w c.K mg base "NotHigher" (c.ec 14) "name") (XK_NotNested : Ek1 P w c.K mg base "NotNested" (c.ec 15) "value") (XK_BadSteps : Ek1 P w c.K mg base "BadSteps" (c.ec 16) "steps") (XK_BadSharing : Ek1 P w c.K mg base "BadSharing" (c.ec 17) "sharing") (XK_BadBound : Ek1 P w c.K mg base "BadBound" (c.ec 19) "bound") (X_IsSubstitutes : ExcD0 P w c.K mg base 1 "IsSubstitutes" (c.ec 18)) (X_NothingToUndo : ExcD0 P w c.K mg base 1 "NothingToUndo" (c.ec 20)) (KI : kinB c.K c.ec Bc = true) (D_l_kinds : Df P w c.K mg base CX0 1 "_law_kinds" ["_law_e"] (spKinds c)) : FnOk P w c.K mg base CX0 2 f fd ["_law_made", "_law_t"] (spKeeps c) := by
  refine F.ok sc_l_keeps (fun vs H Q E h => ?_) (fun cdv A outer s H vs Q E hr h => ⟨_, wb, ?_⟩)
  · obtain ⟨q, t, as, ts, rfl, _⟩ := h
    rfl
  · obtain ⟨q, t, as, ts, rfl, hq, E0, hS, hl, hI, out⟩ := h
    have C : ∀ k, k < 20 → Ec c.K (c.ec (cnI k)) := fun k hk => R_all.ok _ (by
      have : ∀ k, k < 20 → cnI k ∈ ([1, 2, 3, 4, 5, 6, 7, 8, 9, 10, 11, 12, 13, 14, 15, 16, 17, 18, 19, 20] : List Nat) := by decide
      exact this k hk)
    refine nxtN (ps_for PassesOwn.never rfl (pi_range1 (by rfl) T.range (pa_cons pe_int pa_nil)) (pg_name (i := 2) sc_l_keeps.nd rfl (Or.inr rfl)) wb) fun N hN => ?_
    refine ⟨_, rfl, by decide, by decide, ?_⟩
    refine for_range (lo := 0) (n := (20 : Int).toNat) (fun i σ H' => (∃ v2, σ = [some (.ref q), some (.ref t), v2, none, none]) ∧ Same H H') ⟨⟨_, rfl⟩, Same.refl H⟩ ?_ ?_
    · rintro i σ H1 hi ⟨⟨v2, rfl⟩, e1⟩
      have hi : i < 20 := hi
      obtain ⟨a, ha⟩ : ∃ a, as[i]? = some a := ⟨_, List.getElem?_eq_getElem (by rw [E0.len]; exact hi)⟩
      have er := (E0.er i a ha).kp (XKp.same e1)
      have at1 : atI (as.map V.ref) ((0 : Int) + i) = some (V.ref a) := by
        rw [Int.zero_add]
        exact atI_nat (by rw [List.getElem?_map, ha]; rfl)
      refine nxtN (ps_if (PW.pt (pw_or (pt_not (pt_val (pe_callB call_isO (by rfl) T.isinstance (by decide +kernel) (pa_cons (pe_ix ix_list (pv 0) (pv 2) (fun _ _ => rfl)) (pa_cons (pe_glob (v := .ref Bc) (by rfl) Be.g rfl (by decide)) pa_nil))))) (pw_or1 (pt_not (pt_val (pe_callB call_isO (by rfl) T.isinstance (by decide +kernel) (pa_cons (pe_ix ix_list (pv 0) (pv 2) (fun _ _ => rfl)) (pa_cons (pe_bltn (v := .ty "ValueError") (by rfl) T_ValueError (by decide +kernel) rfl) pa_nil)))))))) (pss_one (ps_ret pe_bl)) pss_nil) fun N2 hN2 => ?_
      refine ⟨_, rfl, _, rfl, q, _, _, _, rfl, rfl, sqL (e1 _ _ hq), at1, a, _, _, _, _, _, rfl, er, C i hi, .own _, kinB_b KI hi, _, rfl, ?_⟩
      refine ⟨_, rfl, _, rfl, q, _, _, _, rfl, rfl, sqL (e1 _ _ hq), at1, a, _, _, _, _, _, rfl, er, C i hi, .ty _, kinB_v KI hi, _, rfl, ?_⟩
      refine hN2 _ _ ?_
      refine last (ps_if (pt_cmpR (op_neP hr.units) (pc D_l_kinds (hr.mono (by decide)) (pa_cons (pe_ix ix_list (pv 0) (pv 2) (fun _ _ => rfl)) pa_nil)) (pe_lc (own := [("_law_j", 4)]) (g := gName 4) rfl sc_l_keeps.nd (pi_range1 (by rfl) T.range (pa_cons pe_int pa_nil)) (blkOk_by (own := [("_law_j", 4)]) (N := ["_law_made", "_law_t", "_law_k", "_law_told", "_law_j"]) (sc := defScope s_l_keeps) (by decide +kernel)) (fun _ _ _ _ _ => (pg_name (i := 4) sc_l_keeps.nd rfl (Or.inl rfl))) (fun _ _ _ _ _ => pts_nil) (fun _ _ _ _ _ => (pe_cmpR op_eq (pv 4) (pv 2) (nomark _)))) (nomark _)) (pss_one (ps_ret pe_bl)) pss_nil) ?_
      refine ⟨_, rfl, _, rfl, q, _, _, _, rfl, rfl, sqL (e1 _ _ hq), at1, a, i, _, rfl, hi, er, fun q2 H2 n2 e2 h2 => ?_⟩
      refine ⟨_, rfl, by decide, by decide, fun D nD => lc_range (lo := 0) (n := 20) (fun m H' => Same H2 H' ∧ H' D = some (.lst ((List.range m).map fun j => V.bl (decide (j = i))))) ⟨sm_new nD, upd_same⟩ ?_ ?_⟩
      · rintro m H3 hm ⟨e3, h3⟩
        refine ⟨rfl, ?_⟩
        refine ⟨_, rfl, _, rfl, rfl, _, h3, small1000 (by simp; omega), ?_, ?_⟩
        · intro b o hb
          rw [upd_ne (ne_of_none hb nD)]
          exact e3 b o hb
        · rw [upd_same, List.range_succ, List.map_append]
          simp
          omega
      · rintro H3 ⟨e3, h3⟩
        have d1 : Dp c.K H3 (.ref q2) (.list ((List.range 20).map fun j => PyData.bool (decide (j = i)))) := dpL (e3 _ _ h2) (dp_bls _ _)
        have d2 : Dp c.K H3 (.ref D) (.list ((List.range 20).map fun j => PyData.bool (decide (j = i)))) := dpL h3 (dp_bls _ _)
        refine ⟨_, _, d1, d2, .inl (by rw [PyData.depth, depth_bls]; decide), _, rfl, ?_⟩
        rw [eqv_self d1]
        refine iteF ?_
        exact ⟨⟨_, rfl⟩, (e1.trans e2).trans e3⟩
    · rintro σ H1 ⟨⟨v2, rfl⟩, w1⟩
      refine hN _ _ ?_
      have z0 : Same H1 H1 := Same.refl H1
      have hq1 := w1 _ _ hq
      have E1 := E0.kp (XKp.same w1)
      have hS1 := sm_l w1 hS
      clear E0 hq hS
      obtain ⟨a0, a1, a2, a3, a4, a5, a6, a7, a8, a9, a10, a11, a12, a13, a14, a15, a16, a17, a18, a19, rfl⟩ := as_20 E1.len
      refine nxt (ps_set (i := 3) sc_l_keeps.nd rfl (Or.inl rfl) (pe_lst (pa_cons (pe_ofl (pe_ix ix_list (pv 0) pe_int (fun _ _ => rfl))) (pa_cons (pe_ofl (pe_ix ix_list (pv 0) pe_int (fun _ _ => rfl))) (pa_cons (pe_ofl (pe_ix ix_list (pv 0) pe_int (fun _ _ => rfl))) (pa_cons (pe_ofl (pe_ix ix_list (pv 0) pe_int (fun _ _ => rfl))) (pa_cons (pe_ofl (pe_ix ix_list (pv 0) pe_int (fun _ _ => rfl))) (pa_cons (pe_ofl (pe_ix ix_list (pv 0) pe_int (fun _ _ => rfl))) pa_nil)))))))) ?_
      refine ⟨_, rfl, q, _, 0, .ref a0, rfl, rfl, sqL (z0 _ _ hq1), atI_nat (j := 0) rfl, a0, c.ec 1, _, _, rfl, XK_BadName.T, XK_BadName.no, (E1.er 0 a0 rfl).kp (XKp.same z0), lk1, _, rfl, q, _, 1, .ref a1, rfl, rfl, sqL (z0 _ _ hq1), atI_nat (j := 1) rfl, a1, c.ec 2, _, _, rfl, XK_DuplicateName.T, XK_DuplicateName.no, (E1.er 1 a1 rfl).kp (XKp.same z0), lk1, _, rfl, q, _, 2, .ref a2, rfl, rfl, sqL (z0 _ _ hq1), atI_nat (j := 2) rfl, a2, c.ec 3, _, _, rfl, XK_UnknownName.T, XK_UnknownName.no, (E1.er 2 a2 rfl).kp (XKp.same z0), lk1, _, rfl, q, _, 3, .ref a3, rfl, rfl, sqL (z0 _ _ hq1), atI_nat (j := 3) rfl, a3, c.ec 4, _, _, rfl, XK_BadCount.T, XK_BadCount.no, (E1.er 3 a3 rfl).kp (XKp.same z0), lk1, _, rfl, q, _, 4, .ref a4, rfl, rfl, sqL (z0 _ _ hq1), atI_nat (j := 4) rfl, a4, c.ec 5, _, _, rfl, XK_BadBundle.T, XK_BadBundle.no, (E1.er 4 a4 rfl).kp (XKp.same z0), lk1, _, rfl, q, _, 5, .ref a5, rfl, rfl, sqL (z0 _ _ hq1), atI_nat (j := 5) rfl, a5, c.ec 6, _, _, rfl, XK_BadWorth.T, XK_BadWorth.no, (E1.er 5 a5 rfl).kp (XKp.same z0), lk1, (by show 6 ≤ sizeLine; decide), fun q1 m1 => ?_⟩
      refine upd_gen m1 fun G1 e1 h1 => ?_
      have z1 := z0.trans e1
      refine nxt (ps_set (i := 3) sc_l_keeps.nd rfl (Or.inl rfl) (pe_op op_cat (pv 3) (pe_lst (pa_cons (pe_ofl (pe_ix ix_list (pv 0) pe_int (fun _ _ => rfl))) (pa_cons (pe_ofl (pe_ix ix_list (pv 0) pe_int (fun _ _ => rfl))) (pa_cons (pe_ofl (pe_ix ix_list (pv 0) pe_int (fun _ _ => rfl))) (pa_cons (pe_ofl (pe_ix ix_list (pv 0) pe_int (fun _ _ => rfl))) (pa_cons (pe_ofl (pe_ix ix_list (pv 0) pe_int (fun _ _ => rfl))) (pa_cons (pe_ofl (pe_ix ix_list (pv 0) pe_int (fun _ _ => rfl))) pa_nil))))))))) ?_
      refine ⟨_, rfl, _, rfl, q, _, 6, .ref a6, rfl, rfl, sqL (z1 _ _ hq1), atI_nat (j := 6) rfl, a6, c.ec 7, _, _, rfl, XK_NotRising.T, XK_NotRising.no, (E1.er 6 a6 rfl).kp (XKp.same z1), lk2 (by decide +kernel), _, rfl, q, _, 6, .ref a6, rfl, rfl, sqL (z1 _ _ hq1), atI_nat (j := 6) rfl, a6, c.ec 7, _, _, rfl, XK_NotRising.T, XK_NotRising.no2, (E1.er 6 a6 rfl).kp (XKp.same z1), lk3, _, rfl, q, _, 7, .ref a7, rfl, rfl, sqL (z1 _ _ hq1), atI_nat (j := 7) rfl, a7, c.ec 8, _, _, rfl, XK_BadText.T, XK_BadText.no, (E1.er 7 a7 rfl).kp (XKp.same z1), lk1, _, rfl, q, _, 8, .ref a8, rfl, rfl, sqL (z1 _ _ hq1), atI_nat (j := 8) rfl, a8, c.ec 9, _, _, rfl, XK_BadPrice.T, XK_BadPrice.no, (E1.er 8 a8 rfl).kp (XKp.same z1), lk1, _, rfl, q, _, 9, .ref a9, rfl, rfl, sqL (z1 _ _ hq1), atI_nat (j := 9) rfl, a9, c.ec 10, _, _, rfl, XK_BadUnit.T, XK_BadUnit.no, (E1.er 9 a9 rfl).kp (XKp.same z1), lk1, _, rfl, q, _, 10, .ref a10, rfl, rfl, sqL (z1 _ _ hq1), atI_nat (j := 10) rfl, a10, c.ec 11, _, _, rfl, XK_BadFactor.T, XK_BadFactor.no, (E1.er 10 a10 rfl).kp (XKp.same z1), lk1, (by show 6 ≤ sizeLine; decide), fun q2 m2 => ?_⟩
      refine upd_gen m2 fun G2 e2 h2 => ?_
      have z2 := z1.trans e2
      refine ⟨q1, q2, _, _, rfl, rfl, e2 _ _ h1, h2, (by show 6 + 6 ≤ sizeLine; decide), fun q3 m3 => ?_⟩
      refine upd_gen m3 fun G3 e3 h3 => ?_
      have z3 := z2.trans e3
      refine nxt (ps_set (i := 3) sc_l_keeps.nd rfl (Or.inl rfl) (pe_op op_cat (pv 3) (pe_lst (pa_cons (pe_ofl (pe_ix ix_list (pv 0) pe_int (fun _ _ => rfl))) (pa_cons (pe_ofl (pe_ix ix_list (pv 0) pe_int (fun _ _ => rfl))) (pa_cons (pe_ofl (pe_ix ix_list (pv 0) pe_int (fun _ _ => rfl))) (pa_cons (pe_ofl (pe_ix ix_list (pv 0) pe_int (fun _ _ => rfl))) (pa_cons (pe_ofl (pe_ix ix_list (pv 0) pe_int (fun _ _ => rfl))) pa_nil)))))))) ?_
      refine ⟨_, rfl, _, rfl, q, _, 11, .ref a11, rfl, rfl, sqL (z3 _ _ hq1), atI_nat (j := 11) rfl, a11, c.ec 12, _, _, rfl, XK_UnlikeGoods.T, XK_UnlikeGoods.no, (E1.er 11 a11 rfl).kp (XKp.same z3), lk1, _, rfl, q, _, 12, .ref a12, rfl, rfl, sqL (z3 _ _ hq1), atI_nat (j := 12) rfl, a12, c.ec 13, _, _, rfl, XK_NotWanted.T, XK_NotWanted.no, (E1.er 12 a12 rfl).kp (XKp.same z3), lk1, _, rfl, q, _, 13, .ref a13, rfl, rfl, sqL (z3 _ _ hq1), atI_nat (j := 13) rfl, a13, c.ec 14, _, _, rfl, XK_NotHigher.T, XK_NotHigher.no, (E1.er 13 a13 rfl).kp (XKp.same z3), lk1, _, rfl, q, _, 14, .ref a14, rfl, rfl, sqL (z3 _ _ hq1), atI_nat (j := 14) rfl, a14, c.ec 15, _, _, rfl, XK_NotNested.T, XK_NotNested.no, (E1.er 14 a14 rfl).kp (XKp.same z3), lk1, _, rfl, q, _, 15, .ref a15, rfl, rfl, sqL (z3 _ _ hq1), atI_nat (j := 15) rfl, a15, c.ec 16, _, _, rfl, XK_BadSteps.T, XK_BadSteps.no, (E1.er 15 a15 rfl).kp (XKp.same z3), lk1, (by show 5 ≤ sizeLine; decide), fun q4 m4 => ?_⟩
      refine upd_gen m4 fun G4 e4 h4 => ?_
      have z4 := z3.trans e4
      refine ⟨q3, q4, _, _, rfl, rfl, e4 _ _ h3, h4, (by show 12 + 5 ≤ sizeLine; decide), fun q5 m5 => ?_⟩
      refine upd_gen m5 fun G5 e5 h5 => ?_
      have z5 := z4.trans e5
      refine last (ps_ret (pe_cmpR (op_eqV hr.units) (pe_op op_cat (pv 3) (pe_lst (pa_cons (pe_ofl (pe_ix ix_list (pv 0) pe_int (fun _ _ => rfl))) (pa_cons (pe_ofl (pe_ix ix_list (pv 0) pe_int (fun _ _ => rfl))) pa_nil)))) (pv 1) (nomark _))) ?_
      refine ⟨_, rfl, _, rfl, q, _, 16, .ref a16, rfl, rfl, sqL (z5 _ _ hq1), atI_nat (j := 16) rfl, a16, c.ec 17, _, _, rfl, XK_BadSharing.T, XK_BadSharing.no, (E1.er 16 a16 rfl).kp (XKp.same z5), lk1, _, rfl, q, _, 17, .ref a17, rfl, rfl, sqL (z5 _ _ hq1), atI_nat (j := 17) rfl, a17, c.ec 19, _, _, rfl, XK_BadBound.T, XK_BadBound.no, (E1.er 17 a17 rfl).kp (XKp.same z5), lk1, (by show 2 ≤ sizeLine; decide), fun q6 m6 => ?_⟩
      refine upd_gen m6 fun G6 e6 h6 => ?_
      have z6 := z5.trans e6
      refine ⟨q5, q6, _, _, rfl, rfl, e6 _ _ h5, h6, (by show 17 + 2 ≤ sizeLine; decide), fun q7 m7 => ?_⟩
      refine upd_gen m7 fun G7 e7 h7 => ?_
      have z7 := z6.trans e7
      refine ⟨_, rfl, 1, by decide, .inl ⟨q7, t, _, ts, rfl, rfl, sqL h7, sm_l z7 hS1, ?_⟩, out _ (w1.trans z7)⟩
      have p := itm_self (K := c.K) (H := G7) hI
      rw [← ts_19 hl] at p ⊢
      exact p
end
end B
namespace B
open PySem L2
/-! k02: the law -/
theorem nlk_kp {H H' : Hp} {p : Addr} {m : Nat} (S : StA H p m) (k : Kp p H H') : NLk H H' := fun b u hb n => k.keep b u hb fun z => by
  obtain ⟨c, l, cs, sc, nn, h1, h2, h3, _⟩ := S.ex
  rcases z with z | ⟨x, y, kk, z, q⟩
  · rw [z, h1] at hb; cases hb; exact n _ rfl
  · rw [h1] at z
    cases z
    rcases q with q | q
    · cases q; rw [h2] at hb; cases hb; exact n _ rfl
    · cases q; rw [h3] at hb; cases hb; exact n _ rfl
/-- the rows that grow, the errors that keep them -/
structure Jn (c : Ct) (p D q1 q2 q3 : Addr) (as1 as2 rs : List Addr) (R : HO → Prop) (H : Hp) : Prop where
  d : At p H D (.lst (rs.map V.ref))
  h1 : At p H q1 (.lst (as1.map V.ref))
  h2 : At p H q2 (.lst (as2.map V.ref))
  h3 : At p H q3 (.lst [.ref q1, .ref q2])
  e1 : Es c H as1 (rs.map V.ref)
  e2 : Es c H as2 (rs.map V.ref)
  ne : ∀ r ∈ rs, r ≠ D ∧ r ≠ q1 ∧ r ≠ q2 ∧ r ≠ q3
  row : ∀ r ∈ rs, ∃ o, At p H r o ∧ R o
theorem Jn.kp {c : Ct} {p D q1 q2 q3 : Addr} {as1 as2 rs : List Addr} {R : HO → Prop} {H H' : Hp} {m : Nat} (J : Jn c p D q1 q2 q3 as1 as2 rs R H) (S : StA H p m) (k : Kp p H H') : Jn c p D q1 q2 q3 as1 as2 rs R H' :=
  ⟨J.d.kp k, J.h1.kp k, J.h2.kp k, J.h3.kp k, J.e1.kp (XKp.nlk (nlk_kp S k)), J.e2.kp (XKp.nlk (nlk_kp S k)), J.ne, fun r hr => by
    obtain ⟨o, h, ho⟩ := J.row r hr
    exact ⟨o, h.kp k, ho⟩⟩
theorem at_upd {p a b : Addr} {H : Hp} {o u : HO} (h : At p H a o) (ne : a ≠ b) (hb : ¬ Own H p b) : At p (upd H b u) a o := by
  have nb : b ≠ p := fun z => hb (.inl z)
  exact ⟨by rw [upd_ne ne]; exact h.1, fun z => h.2 ((own_mut nb).mp z)⟩
theorem at_new {p b : Addr} {H : Hp} {u : HO} (hb : ¬ Own H p b) : At p (upd H b u) b u := by
  have nb : b ≠ p := fun z => hb (.inl z)
  exact ⟨upd_same, fun z => hb ((own_mut nb).mp z)⟩
/-- one row is changed -/
theorem Jn.put {c : Ct} {p D q1 q2 q3 r : Addr} {as1 as2 rs : List Addr} {R R' : HO → Prop} {H : Hp} {o u : HO} (J : Jn c p D q1 q2 q3 as1 as2 rs R H) (hr : r ∈ rs) (h : At p H r o) (no : ∀ φ, o ≠ .ext φ) (hR : ∀ x, R x → R' x) (hu : R' u) :
    Jn c p D q1 q2 q3 as1 as2 rs R' (upd H r u) := by
  obtain ⟨n0, n1, n2, n3⟩ := J.ne r hr
  have x : XKp H (upd H r u) := fun b φ hb => by
    rw [upd_ne (fun e => by rw [e, h.1] at hb; exact no φ (Option.some.inj hb))]
    exact hb
  refine ⟨at_upd J.d n0.symm h.2, at_upd J.h1 n1.symm h.2, at_upd J.h2 n2.symm h.2, at_upd J.h3 n3.symm h.2, J.e1.kp x, J.e2.kp x, J.ne, fun r' hr' => ?_⟩
  by_cases e : r' = r
  · subst e
    exact ⟨u, at_new h.2, hu⟩
  · obtain ⟨o', h', ho'⟩ := J.row r' hr'
    exact ⟨o', at_upd h' e h.2, hR _ ho'⟩
theorem jn_mk {c : Ct} {p D q1 q2 q3 : Addr} {as1 as2 rs : List Addr} {R : HO → Prop} {H7 H8 H9 H10 : Hp} {m : Nat} (S : StA H7 p m) (d : At p H7 D (.lst (rs.map V.ref))) (row : ∀ r ∈ rs, r ≠ D ∧ ∃ o, At p H7 r o ∧ R o)
    (n1 : H7 q1 = none) (e8 : Same H7 H8) (h8 : H8 q1 = some (.lst (as1.map V.ref))) (E8 : Es c H8 as1 (rs.map V.ref)) (n2 : H8 q2 = none) (e9 : Same H8 H9) (h9 : H9 q2 = some (.lst (as2.map V.ref))) (E9 : Es c H9 as2 (rs.map V.ref))
    (n3 : H9 q3 = none) (e10 : Same H9 H10) (h10 : H10 q3 = some (.lst [.ref q1, .ref q2])) : Jn c p D q1 q2 q3 as1 as2 rs R H10 := by
  have S8 := S.same e8
  have S9 := S8.same e9
  have k := (S.kp e8).trans ((S8.kp e9).trans (S9.kp e10))
  refine ⟨d.kp k, ((S.new n1 e8 h8).kp (S8.kp e9)).kp (S9.kp e10), (S8.new n2 e9 h9).kp (S9.kp e10), S9.new n3 e10 h10, (E8.kp (XKp.same e9)).kp (XKp.same e10), E9.kp (XKp.same e10), fun r hr => ?_, fun r hr => ?_⟩
  · obtain ⟨n0, o, h, _⟩ := row r hr
    exact ⟨n0, ne_of_none h.1 n1, ne_of_none (e8 _ _ h.1) n2, ne_of_none (e9 _ _ (e8 _ _ h.1)) n3⟩
  · obtain ⟨_, o, h, ho⟩ := row r hr
    exact ⟨o, h.kp k, ho⟩
def Rl (b : Nat) (o : HO) : Prop := ∃ xs, o = .lst xs ∧ xs.length ≤ b
def Rd1 (b : Nat) (o : HO) : Prop := ∃ kvs v, o = .dK kvs ∧ valV kvs (.inr "a") = some v ∧ kvs.length ≤ b
theorem itm_refs (rs : List Addr) : ∀ v ∈ rs.map V.ref, Itm v := fun v hv => by
  obtain ⟨r, _, rfl⟩ := List.mem_map.mp hv
  exact .inr ⟨r, rfl⟩
theorem mem_refs {rs : List Addr} {i : Nat} {x : V} (h : (rs.map V.ref)[i]? = some x) : ∃ r ∈ rs, x = .ref r := by
  obtain ⟨r, h1, h2⟩ := List.mem_map.mp (List.mem_of_getElem? h)
  exact ⟨r, h1, h2.symm⟩
section
variable {P : Program} {w : World} {mg : Str → Option Value} {base : Heap} {c : Ct}
theorem ok_law {f : Addr} {fd : FuncData} (F : Fun c.K "law" "law" s_law f fd) (T : Bt mg) (D_l_start : Df P w c.K mg base CX0 1 "_law_start" ["_law_script"] (spStart c.K)) (D_l_draw : Df P w c.K mg base CX0 1 "_law_draw" ["_law_state", "_law_size"] spDraw) (D_l_thing : Df P w c.K mg base CX0 2 "_law_thing" ["_law_state"] spThing) (D_l_all : Df P w c.K mg base CX0 3 "_law_all" ["_law_t"] (spAll c)) (D_l_named : Df P w c.K mg base CX0 3 "_law_named" ["_law_t"] (spAll c)) (D_l_keeps : Df P w c.K mg base CX0 2 "_law_keeps" ["_law_made", "_law_t"] (spKeeps c)) : FnOk P w c.K mg base CX0 4 f fd ["_law_script"] (spLaw c.K) := by
  refine F.ok sc_law (fun vs H Q E h => ?_) (fun cdv A outer s H vs Q E hr h => ⟨_, wb, ?_⟩)
  · obtain ⟨a, ns, rfl, _⟩ := h
    rfl
  · obtain ⟨a, ns, rfl, hS, hlen, k⟩ := h
    refine nxt (ps_set (i := 1) sc_law.nd rfl (Or.inr rfl) (pc D_l_start (hr.mono (by decide)) (pa_cons (pv 0) pa_nil))) ?_
    refine ⟨_, rfl, a, ns, rfl, hS, hlen, fun p H1 e1 S1 o1 => ?_⟩
    have S1 : StA H1 p 1000 := S1.le (by decide)
    refine nxt (ps_setLc (i := 2) (own := [("_law_k", 7)]) (g := gName 7) rfl sc_law.nd rfl rfl (sw_true rfl rfl rfl (by decide +kernel)) (pi_range1 (by rfl) T.range (pa_cons pe_int pa_nil)) (blkOk_by (own := [("_law_k", 7)]) (N := ["_law_script", "_law_state", "_law_t", "_law_lists", "_law_both", "_law_row", "_law_dicts", "_law_k"]) (sc := defScope s_law) (by decide +kernel)) (fun _ _ _ _ _ => (pg_name (i := 7) sc_law.nd rfl (Or.inl rfl))) (fun _ _ _ _ _ => pts_nil) (fun _ _ _ _ _ => (pc D_l_thing (hr.mono (by decide)) (pa_cons (pv 1) pa_nil)))) ?_
    refine ⟨_, rfl, by decide, by decide, fun D nD => lc_range (lo := 0) (n := 19) (fun i H' => StA H' p (1000 - 10 * i) ∧ ∃ ts : List V, At p H' D (.lst ts) ∧ ts.length = i ∧ ∀ v ∈ ts, Itm v) ?_ ?_ ?_⟩
    · have e := sm_new (o := .lst []) nD
      exact ⟨S1.same e, [], S1.new nD e upd_same, rfl, by simp⟩
    · rintro i H6 hi ⟨S6, ts, A6, hl, hI⟩
      refine ⟨rfl, ?_⟩
      refine ⟨_, rfl, p, 1000 - 10 * (i + 1), rfl, S6.le (by omega), fun v H7 hv S7 k7 => ?_⟩
      refine ⟨_, (A6.kp k7).1, small1000 (by omega), S7.upd (A6.kp k7).2, ts ++ [v], at_new (A6.kp k7).2, by simp; omega, fun u hu => ?_⟩
      rcases List.mem_append.mp hu with hu | hu
      · exact hI u hu
      · rw [List.mem_singleton.mp hu]; exact hv
    rintro H2 ⟨S2, ts, A2, hl, hI⟩
    have S2 : StA H2 p 800 := S2.le (by decide)
    refine nxtN (ps_if (PW.pt (pw_or (pt_not (pt_val (pc D_l_keeps (hr.mono (by decide)) (pa_cons (pc D_l_all (hr.mono (by decide)) (pa_cons (pv 2) pa_nil)) (pa_cons (pv 2) pa_nil))))) (pw_or1 (pt_not (pt_val (pc D_l_keeps (hr.mono (by decide)) (pa_cons (pc D_l_named (hr.mono (by decide)) (pa_cons (pv 2) pa_nil)) (pa_cons (pv 2) pa_nil)))))))) (pss_one (ps_ret pe_bl)) pss_nil) fun N hN => ?_
    refine ⟨_, rfl, D, ts, rfl, sqL A2.1, hl, fun q3 H3 as3 n3 e3 h3 E3 => ⟨_, rfl, q3, D, as3, ts, rfl, h3, E3, sqL (e3 _ _ A2.1), hl, hI, fun H4 e4 => ⟨_, rfl, ?_⟩⟩⟩
    have e24 := e3.trans e4
    refine ⟨_, rfl, D, ts, rfl, sqL (e24 _ _ A2.1), hl, fun q5 H5 as5 n5 e5 h5 E5 => ⟨_, rfl, q5, D, as5, ts, rfl, h5, E5, sqL (e5 _ _ (e24 _ _ A2.1)), hl, hI, fun H6 e6 => ⟨_, rfl, ?_⟩⟩⟩
    refine hN _ _ ?_
    have S6 := S2.same (e24.trans (e5.trans e6))
    clear hN S1 S2 A2 e3 e4 e5 e6 E3 E5 h3 h5 n3 n5 e24
    refine nxt (ps_setLc (i := 3) (own := [("_law_k", 7)]) (g := gName 7) rfl sc_law.nd rfl rfl (sw_true rfl rfl rfl (by decide +kernel)) (pi_range1 (by rfl) T.range (pa_cons pe_int pa_nil)) (blkOk_by (own := [("_law_k", 7)]) (N := ["_law_script", "_law_state", "_law_t", "_law_lists", "_law_both", "_law_row", "_law_dicts", "_law_k"]) (sc := defScope s_law) (by decide +kernel)) (fun _ _ _ _ _ => (pg_name (i := 7) sc_law.nd rfl (Or.inl rfl))) (fun _ _ _ _ _ => pts_nil) (fun _ _ _ _ _ => (pe_lst (pa_cons (pc D_l_draw (hr.mono (by decide)) (pa_cons (pv 1) (pa_cons pe_int pa_nil))) pa_nil)))) ?_
    refine ⟨_, rfl, by decide, by decide, fun L nL => lc_range (lo := 0) (n := 19) (fun i H' => StA H' p (700 - i) ∧ ∃ rs : List Addr, At p H' L (.lst (rs.map V.ref)) ∧ rs.length = i ∧ ∀ r ∈ rs, r ≠ L ∧ ∃ o, At p H' r o ∧ Rl 1 o) ?_ ?_ ?_⟩
    · have e := sm_new (o := .lst []) nL
      exact ⟨(S6.same e).le (by decide), [], S6.new nL e upd_same, rfl, by simp⟩
    · rintro i H7 hi ⟨S7, rs, A7, hl7, hr7⟩
      refine ⟨rfl, ?_⟩
      refine ⟨_, rfl, p, 700 - (i + 1), 9, rfl, S7.le (by omega), by decide, by decide, fun n8 H8 n80 n81 S8 k8 => ⟨(by show 1 ≤ sizeLine; decide), fun q9 m9 => ?_⟩⟩
      refine upd_gen m9 fun H9 e9 h9 => ?_
      have k9 := k8.trans (S8.kp e9)
      have A9 := A7.kp k9
      have B9 := S8.new m9 e9 h9
      have nq : q9 ≠ L := (ne_of_none (A7.kp k8).1 m9).symm
      refine ⟨_, A9.1, small1000 (by simp; omega), (S8.same e9).upd A9.2, rs ++ [q9], ?_, by simp; omega, fun r hr' => ?_⟩
      · rw [List.map_append]; exact at_new A9.2
      rcases List.mem_append.mp hr' with hr' | hr'
      · obtain ⟨n0, o, h, ho⟩ := hr7 r hr'
        exact ⟨n0, o, at_upd (h.kp k9) n0 A9.2, ho⟩
      · rw [List.mem_singleton.mp hr']
        exact ⟨nq, _, at_upd B9 nq A9.2, _, rfl, Nat.le_refl _⟩
    rintro H7 ⟨S7, rs, A7, hl7, hr7⟩
    have S7 : StA H7 p 600 := S7.le (by decide)
    have hlr : (rs.map V.ref).length = 19 := by rw [List.length_map]; exact hl7
    refine nxt (ps_set (i := 4) sc_law.nd rfl (Or.inl rfl) (pe_lst (pa_cons (pc D_l_all (hr.mono (by decide)) (pa_cons (pv 3) pa_nil)) (pa_cons (pc D_l_named (hr.mono (by decide)) (pa_cons (pv 3) pa_nil)) pa_nil)))) ?_
    refine ⟨_, rfl, L, _, rfl, sqL A7.1, hlr, fun q1 H8 as1 n1 e8 h8 E8 => ⟨_, rfl, L, _, rfl, sqL (e8 _ _ A7.1), hlr, fun q2 H9 as2 n2 e9 h9 E9 => ⟨(by show 2 ≤ sizeLine; decide), fun q3 n3 => ?_⟩⟩⟩
    refine upd_gen n3 fun H10 e10 h10 => ?_
    have J := jn_mk S7 A7 hr7 n1 e8 h8 E8 n2 e9 h9 E9 n3 e10 h10
    have S10 := S7.same (e8.trans (e9.trans e10))
    clear S7 A7 hr7 n1 e8 h8 E8 n2 e9 h9 E9 n3 e10 h10
    refine nxtN (ps_for PassesOwn.never rfl (pi_list (pv 3)) (pg_name (i := 5) sc_law.nd rfl (Or.inl rfl)) wb) fun N hN => ?_
    refine ⟨_, rfl, L, rfl, ⟨_, sqL J.d.1⟩, for_list (K := c.K) (xs := rs.map V.ref) (fun i σ H' => (∃ v, σ = [some (.ref a), some (.ref p), some (.ref D), some (.ref L), some (.ref q3), v, none, none]) ∧ StA H' p (600 - i) ∧ Jn c p L q1 q2 q3 as1 as2 rs (Rl (1 + i)) H') ⟨⟨_, rfl⟩, S10, J⟩ (fun i σ H' _ q => sqL q.2.2.d.1) ?_ ?_⟩
    · rintro i x σ' H11 hx ⟨⟨v, rfl⟩, S11, J11⟩
      obtain ⟨r, hrs, rfl⟩ := mem_refs hx
      have hi : i < 19 := by rw [← hlr]; exact (List.getElem?_eq_some_iff.mp hx).1
      obtain ⟨o, h11, xs, rfl, hxs⟩ := J11.row r hrs
      refine last (ps_expr (pe_bm PySem.F.plainAttrs_list PySem.F.slot_list_append PySem.F.type_list_append mt_append (pv 5) (pa_cons (pc D_l_draw (hr.mono (by decide)) (pa_cons (pv 1) (pa_cons pe_int pa_nil))) pa_nil))) ?_
      refine ⟨_, rfl, .inl ⟨rfl, _, sqL h11.1⟩, _, rfl, p, 600 - (i + 1), 9, rfl, S11.le (by omega), by decide, by decide, fun n12 H12 n120 n121 S12 k12 => ⟨r, _, _, rfl, rfl, (h11.kp k12).1, small1000 (by omega), ?_⟩⟩
      exact ⟨⟨_, rfl⟩, S12.upd (h11.kp k12).2, (J11.kp S11 k12).put hrs (h11.kp k12) (fun φ z => nomatch z) (fun x ⟨ys, e, l⟩ => ⟨ys, e, by omega⟩) ⟨_, rfl, by simp; omega⟩⟩
    rintro σ' H11 ⟨⟨v, rfl⟩, S11, J11⟩
    have S11 : StA H11 p 500 := S11.le (by omega)
    refine hN _ _ ?_
    clear hN J S10 S6
    refine nxtN (ps_if (PW.pt (pw_or (pt_not (pt_val (pc D_l_keeps (hr.mono (by decide)) (pa_cons (pe_ix ix_list (pv 4) pe_int (fun _ _ => rfl)) (pa_cons (pv 3) pa_nil))))) (pw_or1 (pt_not (pt_val (pc D_l_keeps (hr.mono (by decide)) (pa_cons (pe_ix ix_list (pv 4) pe_int (fun _ _ => rfl)) (pa_cons (pv 3) pa_nil)))))))) (pss_one (ps_ret pe_bl)) pss_nil) fun N hN => ?_
    refine ⟨_, rfl, q3, _, 0, .ref q1, rfl, rfl, sqL J11.h3.1, at0, _, rfl, q1, L, as1, _, rfl, J11.h1.1, J11.e1, sqL J11.d.1, hlr, itm_refs rs, fun H12 e12 => ⟨_, rfl, ?_⟩⟩
    have J12 := J11.kp S11 (S11.kp e12)
    have S12 := S11.same e12
    refine ⟨_, rfl, q3, _, 1, .ref q2, rfl, rfl, sqL J12.h3.1, atI_nat (j := 1) rfl, _, rfl, q2, L, as2, _, rfl, J12.h2.1, J12.e2, sqL J12.d.1, hlr, itm_refs rs, fun H13 e13 => ⟨_, rfl, ?_⟩⟩
    have S13 := S12.same e13
    refine hN _ _ ?_
    clear hN J11 J12 S11 S12 e12 e13 hlr hl7
    refine nxt (ps_setLc (i := 6) (own := [("_law_k", 7)]) (g := gName 7) rfl sc_law.nd rfl rfl (sw_true rfl rfl rfl (by decide +kernel)) (pi_range1 (by rfl) T.range (pa_cons pe_int pa_nil)) (blkOk_by (own := [("_law_k", 7)]) (N := ["_law_script", "_law_state", "_law_t", "_law_lists", "_law_both", "_law_row", "_law_dicts", "_law_k"]) (sc := defScope s_law) (by decide +kernel)) (fun _ _ _ _ _ => (pg_name (i := 7) sc_law.nd rfl (Or.inl rfl))) (fun _ _ _ _ _ => pts_nil) (fun _ _ _ _ _ => (pe_disp (pps_cons pe_str (pc D_l_draw (hr.mono (by decide)) (pa_cons (pv 1) (pa_cons pe_int pa_nil))) pps_nil) rfl rfl (by simp) (by decide)))) ?_
    refine ⟨_, rfl, by decide, by decide, fun M nM => lc_range (lo := 0) (n := 19) (fun i H' => StA H' p (400 - i) ∧ ∃ rs : List Addr, At p H' M (.lst (rs.map V.ref)) ∧ rs.length = i ∧ ∀ r ∈ rs, r ≠ M ∧ ∃ o, At p H' r o ∧ Rd1 1 o) ?_ ?_ ?_⟩
    · have e := sm_new (o := .lst []) nM
      exact ⟨(S13.same e).le (by decide), [], S13.new nM e upd_same, rfl, by simp⟩
    · rintro i H7 hi ⟨S7, rs, A7, hl7, hr7⟩
      refine ⟨rfl, ?_⟩
      intro q8 m8
      refine upd_gen m8 fun H8 e8 h8 => ?_
      have k8 := S7.kp e8
      have A8 := A7.kp k8
      have B8 := S7.new m8 e8 h8
      have nq : q8 ≠ M := (ne_of_none A7.1 m8).symm
      refine ⟨_, rfl, p, 400 - (i + 1), 9, rfl, (S7.same e8).le (by omega), by decide, by decide, fun n9 H9 n90 n91 S9 k9 => ⟨(B8.kp k9).1, [(.inr "a", .int n9)], rfl, (by show 1 ≤ 15; decide), ?_⟩⟩
      have B9 := B8.kp k9
      have A9 := A8.kp k9
      have S10 := S9.upd (o := .dK (mergeK [] [(.inr "a", .int n9)])) B9.2
      have A10 := at_upd (u := .dK (mergeK [] [(.inr "a", .int n9)])) A9 nq.symm B9.2
      refine ⟨_, A10.1, small1000 (by simp; omega), S10.upd A10.2, rs ++ [q8], ?_, by simp; omega, fun r hr' => ?_⟩
      · rw [List.map_append]; exact at_new A10.2
      rcases List.mem_append.mp hr' with hr' | hr'
      · obtain ⟨n0, o, h, ho⟩ := hr7 r hr'
        have nr : r ≠ q8 := ne_of_none h.1 m8
        exact ⟨n0, o, at_upd (at_upd ((h.kp k8).kp k9) nr B9.2) n0 A10.2, ho⟩
      · rw [List.mem_singleton.mp hr']
        exact ⟨nq, _, at_upd (at_new B9.2) nq A10.2, [(.inr "a", .int n9)], .int n9, rfl, rfl, Nat.le_refl _⟩
    rintro H7 ⟨S7, rd, A7, hl7, hr7⟩
    have S7 : StA H7 p 300 := S7.le (by decide)
    have hlr : (rd.map V.ref).length = 19 := by rw [List.length_map]; exact hl7
    refine nxt (ps_set (i := 4) sc_law.nd rfl (Or.inl rfl) (pe_lst (pa_cons (pc D_l_all (hr.mono (by decide)) (pa_cons (pv 6) pa_nil)) (pa_cons (pc D_l_named (hr.mono (by decide)) (pa_cons (pv 6) pa_nil)) pa_nil)))) ?_
    refine ⟨_, rfl, M, _, rfl, sqL A7.1, hlr, fun b1 H8 as3 n1 e8 h8 E8 => ⟨_, rfl, M, _, rfl, sqL (e8 _ _ A7.1), hlr, fun b2 H9 as4 n2 e9 h9 E9 => ⟨(by show 2 ≤ sizeLine; decide), fun b3 n3 => ?_⟩⟩⟩
    refine upd_gen n3 fun H10 e10 h10 => ?_
    have J := jn_mk S7 A7 hr7 n1 e8 h8 E8 n2 e9 h9 E9 n3 e10 h10
    have S10 := S7.same (e8.trans (e9.trans e10))
    clear S7 A7 hr7 n1 e8 h8 E8 n2 e9 h9 E9 n3 e10 h10
    refine nxtN (ps_for PassesOwn.never rfl (pi_list (pv 6)) (pg_name (i := 5) sc_law.nd rfl (Or.inl rfl)) wb) fun N hN => ?_
    refine ⟨_, rfl, M, rfl, ⟨_, sqL J.d.1⟩, for_list (K := c.K) (xs := rd.map V.ref) (fun i σ H' => (∃ v, σ = [some (.ref a), some (.ref p), some (.ref D), some (.ref L), some (.ref b3), v, some (.ref M), none]) ∧ StA H' p 300 ∧ Jn c p M b1 b2 b3 as3 as4 rd (Rd1 (1 + i)) H') ⟨⟨_, rfl⟩, S10, J⟩ (fun i σ H' _ q => sqL q.2.2.d.1) ?_ ?_⟩
    · rintro i x σ' H11 hx ⟨⟨v, rfl⟩, S11, J11⟩
      obtain ⟨r, hrs, rfl⟩ := mem_refs hx
      have hi : i < 19 := by rw [← hlr]; exact (List.getElem?_eq_some_iff.mp hx).1
      obtain ⟨o, h11, kvs, va, rfl, hva, hkl⟩ := J11.row r hrs
      refine last (ps_dput (Nat.lt_of_le_of_lt (Nat.add_le_add_left (by decide) _) hr.units) (pv 5) pe_str (pe_lst (pa_cons (pe_dget (Nat.lt_of_le_of_lt (Nat.add_le_add_left (by decide) _) hr.units) (pv 5) pe_str (fun _ _ => rfl)) pa_nil)) rfl) ?_
      refine ⟨_, rfl, r, va, rfl, .inl ⟨kvs, .inr "a", .inl h11.1, rfl, hva.symm⟩, (by show 1 ≤ sizeLine; decide), fun l12 n12 => ?_⟩
      refine upd_gen n12 fun H12 e12 h12 => ?_
      have k12 := S11.kp e12
      have S12 := S11.same e12
      refine ⟨_, rfl, r, _, rfl, .inl ⟨kvs, .inr "b", (h11.kp k12).1, rfl, small1000 (by omega), rfl⟩, ?_⟩
      exact ⟨⟨_, rfl⟩, S12.upd (h11.kp k12).2, (J11.kp S11 k12).put hrs (h11.kp k12) (fun φ z => nomatch z) (fun x ⟨ys, u, e, f, l⟩ => ⟨ys, u, e, f, by omega⟩) ⟨_, va, rfl, (by rw [valV_put, if_neg (by decide +kernel)]; exact hva), by have := length_putK kvs (.inr "b") (.ref l12); omega⟩⟩
    rintro σ' H11 ⟨⟨v, rfl⟩, S11, J11⟩
    refine hN _ _ ?_
    refine last (ps_ret (pe_and (pc D_l_keeps (hr.mono (by decide)) (pa_cons (pe_ix ix_list (pv 4) pe_int (fun _ _ => rfl)) (pa_cons (pv 6) pa_nil))) (pe_one (pc D_l_keeps (hr.mono (by decide)) (pa_cons (pe_ix ix_list (pv 4) pe_int (fun _ _ => rfl)) (pa_cons (pv 6) pa_nil)))))) ?_
    refine ⟨_, rfl, b3, _, 0, .ref b1, rfl, rfl, sqL J11.h3.1, at0, _, rfl, b1, M, as3, _, rfl, J11.h1.1, J11.e1, sqL J11.d.1, hlr, itm_refs rd, fun H12 e12 => ⟨_, rfl, ?_⟩⟩
    have J12 := J11.kp S11 (S11.kp e12)
    have S12 := S11.same e12
    refine ⟨_, rfl, b3, _, 1, .ref b2, rfl, rfl, sqL J12.h3.1, atI_nat (j := 1) rfl, _, rfl, b2, M, as4, _, rfl, J12.h2.1, J12.e2, sqL J12.d.1, hlr, itm_refs rd, fun H13 e13 => ?_⟩
    exact k _
end
end B
namespace B
open PySem L2
/-! End2: what the top has left of classes; the defs of the layer Q -/
/-- a def within a class -/
structure Dn (K : PySem.W.Frag) (x qual : Str) (st : Stmt) (f : Addr) : Prop where
  l : ∃ (oc : Value) (od : Option Addr) (kV doc pm : Value) (an : Option Addr) (cdv ct : Value) (osl : Array (Option Value)), K.lookup f = some ⟨oc, od, .func (PySem.W.fnOf x qual (defArgs st) (defBody st) (defScope st) .none kV doc pm an cdv ct), osl⟩ ∧ PySem.W.codeIn K cdv qual = true
  k : PySem.W.keepIn K (.ref f) = true
theorem Dn.fun {K : PySem.W.Frag} {x qual : Str} {st : Stmt} {f : Addr} (d : Dn K x qual st f) : ∃ fd, Fun K x qual st f fd := by
  obtain ⟨oc, od, kV, doc, pm, an, cdv, ct, osl, l, c⟩ := d.l
  exact ⟨_, fun_mk l c d.k⟩
/-- a class whose objects are made -/
structure Dcl (K : PySem.W.Frag) (mg : Str → Option Value) (x : Str) (C : Addr) : Prop where
  g : mg x = some (.ref C)
  c : Cls K C
  mk_ : PySem.W.makesIn K C = true
  kp : PySem.W.keepIn K (.ref C) = true
/-- __init__ -/
structure Din (K : PySem.W.Frag) (C : Addr) (f : Addr) : Prop where
  i : PySem.W.findIn K (.ref C) "__init__" = some (some (.ref f))
  fn : PySem.W.isFn K (.ref f) = true
section
variable {P : Program} {w : World} {K : PySem.W.Frag} {mg : Str → Option Value} {base : Heap} {CX : CXT} {k : Nat} {x y qual : Str} {st : Stmt} {C f p : Addr} {ps : List Str} {sp : Sp}
end
/-- what the top has left of an error class with two fields -/
structure Dm2 (K : PySem.W.Frag) (mg : Str → Option Value) (x qual : Str) (C : Addr) (f g : Str) (st : Stmt) (fI : Addr) : Prop where
  gC : mg x = some (.ref C)
  no : PySem.W.findIn K (.ref C) f = some none
  no2 : PySem.W.findIn K (.ref C) g = some none
  i : PySem.W.findIn K (.ref C) "__init__" = some (some (.ref fI))
  t : PySem.W.typeIn K (.ref fI) = some (.type "function")
  d : Dn K "__init__" qual st fI
end B
namespace B
open PySem L2
/-! End3: methods, own items, making by keywords -/
section
variable {P : Program} {w : World} {K : PySem.W.Frag} {mg : Str → Option Value} {base : Heap} {CX : CXT} {k n : Nat} {x y qual : Str} {st : Stmt} {C f p : Addr} {ps ks : List Str} {sp : Sp}
end
theorem vals_app {zs : List V} {ws : List Value} (k : Vals zs ws) : ∀ {vs : List V} {us : List Value}, Vals vs us → Vals (vs ++ zs) (us ++ ws)
  | _, _, .nil => k
  | _, _, .cons h r => .cons h (vals_app k r)
end B
namespace B
open PySem L2
/-! Head: the top run once, in the kernel; what it leaves, by names -/
open PySem.Spec PyProof.Rows
open PySem.W (Frag nsIn findIn)
/-- the getter of a property -/
theorem DfR.dn {K : Frag} {d : DfR} (e : fnV K (d.ad K) = d.val) (c : d.ok K = true) : Dn K d.name d.qual d.st (d.ad K) := by
  obtain ⟨kp, c2⟩ := He.ba c
  refine ⟨?_, kp⟩
  unfold fnV at e
  cases q : K.lookup (d.ad K) with
  | none => rw [q] at c2; cases c2
  | some o =>
    obtain ⟨oc, od, dt, osl⟩ := o
    rw [q] at c2 e
    cases dt with
    | func fd =>
      obtain ⟨n1, n2, n3, n4, n5, n6, n7, n8, n9, n10, n11, n12, n13, n14, n15⟩ := fd
      have e2 : (some (n1, n2, n3, n4, n5, n6, n7, n8, n15) : He.FnV) = some (d.name, d.qual, defArgs d.st, .stmts (defBody d.st), defScope d.st, mainGlobals, [], .none, builtinsNs) := e
      simp only [Option.some.injEq, Prod.mk.injEq] at e2
      obtain ⟨h1, h2, h3, h4, h5, h6, h7, h8, h9⟩ := e2
      subst h1 h2 h3 h4 h5 h6 h7 h8 h9
      exact ⟨oc, od, n9, n10, n11, n12, n13, n14, osl, rfl, c2⟩
    | _ => cases c2
section
variable {K : Frag} {h : Heap} {mg : Str → Option Value}
theorem hk_glo (X : K.In h) (G : h.Ns mainGlobals mg) {x : Str} (c : (Fk.glo x).ok K = true) : mg x = some (.ref (He.ga K x)) := PySem.W.mg_of X G (He.eqO_ok c)
theorem hk_free (X : K.In h) (G : h.Ns mainGlobals mg) {x : Str} (c : (Fk.free x).ok K = true) : mg x = none := PySem.W.mg_none_of X G (He.eqO_ok c)
theorem hk_dt {x : Str} {st : Stmt} (c : (Fk.glo x).ok K = true) (d : Dn K x x st (He.ga K x)) : Dt K x st (He.ga K x) := ⟨He.eqO_ok c, d.l, d.k⟩
theorem hk_bce (X : K.In h) (G : h.Ns mainGlobals mg) (c : Fk.bce.ok K = true) : Bce K mg (He.ga K "BundleError") (mcA K) := by
  obtain ⟨c1, c⟩ := He.ba c
  obtain ⟨c2, c⟩ := He.ba c
  obtain ⟨c3, c⟩ := He.ba c
  obtain ⟨c4, c5⟩ := He.ba c
  refine bce_mk X G (He.eqO_ok c1) (of_decide_eq_true c2) c3 (He.eqO_ok c4) ?_
  unfold inB at c5
  split at c5
  · rename_i s e
    rw [e, of_decide_eq_true c5]
  · cases c5
theorem hk_dm (X : K.In h) (G : h.Ns mainGlobals mg) {x q f : Str} {st : Stmt} (a : (Fk.glo x).ok K = true) (n : (Fk.noat x f).ok K = true) (c : (Fk.exi x).ok K = true) (d : Dn K "__init__" q st (He.ma K (He.ga K x) "__init__")) : Dm K mg x q (He.ga K x) f st (He.ma K (He.ga K x) "__init__") := by
  obtain ⟨c1, c2⟩ := He.ba c
  exact ⟨hk_glo X G a, He.eqO_ok n, He.eqO_ok c1, of_decide_eq_true c2, d.l, d.k⟩
theorem hk_dm2 (X : K.In h) (G : h.Ns mainGlobals mg) {x q f g : Str} {st : Stmt} (a : (Fk.glo x).ok K = true) (n : (Fk.noat x f).ok K = true) (n2 : (Fk.noat x g).ok K = true) (c : (Fk.exi x).ok K = true) (d : Dn K "__init__" q st (He.ma K (He.ga K x) "__init__")) : Dm2 K mg x q (He.ga K x) f g st (He.ma K (He.ga K x) "__init__") := by
  obtain ⟨c1, c2⟩ := He.ba c
  exact ⟨hk_glo X G a, He.eqO_ok n, He.eqO_ok n2, He.eqO_ok c1, of_decide_eq_true c2, d⟩
end
theorem hk_any {K : Frag} {f : Frag → Bool} (c : (Fk.any f).ok K = true) : f K = true := c
theorem hk_ers {K : Frag} {f : Frag → Nat → Addr} {S : List Nat} (c : (Fk.ers f S).ok K = true) : erB K (f K) S = true := c
/-! ### the Hook -/
/-- the youngest k objects -/
def downF : Nat → Nat → List Addr
  | 0, _ => []
  | k + 1, n => match n with
    | 0 => []
    | m + 1 => m :: downF k m
def obsKG (n : Nat) (fk : List Fk) (fn : List DfR) (m : Nat) (g : Addr → Option Obj) : AlH := obsK fk fn (He.frG g (mainGlobals :: cStatics :: downF n m))
def hookK (n : Nat) (fk : List Fk) (fn : List DfR) : PySem.W.Hook where
  α := AlH
  obs := fun s => obsKG n fk fn s.heap.objs.size s.heap.get?
  val := fun _ => valK fn
  says := fun _ h => ∃ K : Frag, K.In h ∧ SaysK fk fn K
  of := fun _ _ e => ⟨_, He.frG_in, e⟩
  keeps := fun _ _ _ ⟨K, hK, c⟩ k => ⟨K, PySem.W.Frag.In.keeps hK k, c⟩
section
variable {fk : List Fk} {fn : List DfR} {K : Frag}
theorem SaysK.fact (c : SaysK fk fn K) (i : Nat) {f : Fk} (h : fk[i]? = some f := by rfl) : f.ok K = true := by
  have c1 := (He.ba (show ((fk.all fun f => f.ok K) && fn.all fun d => d.ok K) = true from congrArg (fun z : AlH => z.1) c)).1
  exact List.all_eq_true.mp c1 f (List.mem_of_getElem? h)
theorem SaysK.def_ (c : SaysK fk fn K) (i : Nat) {d : DfR} (h : fn[i]? = some d := by rfl) : Dn K d.name d.qual d.st (d.ad K) := by
  have c2 := (He.ba (show ((fk.all fun f => f.ok K) && fn.all fun d => d.ok K) = true from congrArg (fun z : AlH => z.1) c)).2
  have e : fn.map (fun d => fnV K (d.ad K)) = fn.map DfR.val := congrArg (fun z : AlH => z.2) c
  have e2 : (fn.map fun d => fnV K (d.ad K))[i]? = (fn.map DfR.val)[i]? := by rw [e]
  rw [List.getElem?_map, List.getElem?_map, h] at e2
  exact DfR.dn (Option.some.inj e2) (List.all_eq_true.mp c2 d (List.mem_of_getElem? h))
end
/-- the last end over such a head -/
theorem walkE {l : PySem.W.OpenLaw} {k : Nat} {q : Program} {loose : List Str} {XP : (Str → Option Value) → Heap → Prop} {d : DefRec} {fk : List Fk} {fn : List DfR} {n : Nat} (hr : Room k callerA) (hn : l.most = some 63) (hdf : d.params.defaults = []) (hnm : d.name = ("law" : Str))
    (F : ∀ (w : World) (K : Frag) (mg : Str → Option Value) (fa : Addr) (h : Heap), K.In h → h.Ns mainGlobals mg → mg "law" = some (.ref fa) → SaysK fk fn K →
      ∃ fd : FuncData, (∀ (s : Shared) (u : Value), BindsTo s fd ⟨[u], []⟩ [("_law_script", u)]) ∧ ∀ base : Heap, K.In base → base.Ns mainGlobals mg → FnOk l.prog w K mg base CX0 k fa fd ["_law_script"] (spLaw K)) :
    PySem.W.WalkO q loose XP (hookK n fk fn).says l.row.toRowW d [] (fun f vs => PySem.call f vs) := by
  refine L2.walk_ofE (l := l) (n := 63) (k := k) (x := "_law_script") (CX := L2.CX0) hn (by decide) hdf hr ?_ (fun _ _ _ _ z => z)
  intro w mg fa h Y G hmg
  obtain ⟨K, KX, c⟩ := Y
  rw [hnm] at hmg
  obtain ⟨fd, hb, hF⟩ := F w K mg fa h KX G hmg c
  exact ⟨K, fd, spLaw K, KX, hb, fun H a ns hl _ hS => ⟨a, ns, rfl, hS, hl, fun _ => rfl⟩, hF⟩
end B
namespace B
open PySem L2
/-! EndS: the ends of defs with a star parameter, of error classes without fields -/
structure Dm0 (K : PySem.W.Frag) (mg : Str → Option Value) (x qual : Str) (C : Addr) (st : Stmt) (fI : Addr) : Prop where
  g : mg x = some (.ref C)
  i : PySem.W.findIn K (.ref C) "__init__" = some (some (.ref fI))
  t : PySem.W.typeIn K (.ref fI) = some (.type "function")
  d : Dn K "__init__" qual st fI
theorem hk_dm0 {K : PySem.W.Frag} {h : Heap} {mg : Str → Option Value} (X : K.In h) (G : h.Ns mainGlobals mg) {x q : Str} {st : Stmt} (a : (Fk.glo x).ok K = true) (c : (Fk.exi x).ok K = true) (d : Dn K "__init__" q st (He.ma K (He.ga K x) "__init__")) : Dm0 K mg x q (He.ga K x) st (He.ma K (He.ga K x) "__init__") := by
  obtain ⟨c1, c2⟩ := He.ba c
  exact ⟨hk_glo X G a, He.eqO_ok c1, of_decide_eq_true c2, d⟩
theorem exd0_mk {P : Program} {w : World} {K : PySem.W.Frag} {mg : Str → Option Value} {base : Heap} {x qual : Str} {C fI : Addr} {st : Stmt} (d : Dm0 K mg x qual C st fI) (T : Ec K C) (G : ∀ fd, Fun K "__init__" qual st fI fd → FnOk P w K mg base CX0 1 fI fd ["self"] (spI0 K))
    (hb : ∀ (kV doc pm : Value) (an : Option Addr) (cdv ct : Value) (us : List Value), us.length = (["self"] : List Str).length → bindArgs (PySem.W.fnOf "__init__" qual (defArgs st) (defBody st) (defScope st) .none kV doc pm an cdv ct) ⟨us, []⟩ = pure ((["self"] : List Str).zip us)) : ExcD0 P w K mg base 1 x C := by
  obtain ⟨fd, F⟩ := d.d.fun
  exact ⟨T, d.g, fI, fd, d.i, d.t, F.binds hb, G fd F⟩
end B
namespace B
open PySem L2
/-! EndX: the ends of error classes made by place and by name -/
section
variable {P : Program} {w : World} {K : PySem.W.Frag} {mg : Str → Option Value} {base : Heap} {x qual f g : Str} {C fI : Addr} {st : Stmt}
theorem ek1_mk (d : Dm K mg x qual C f st fI) (T : Ec K C) (G : ∀ fd, Fun K "__init__" qual st fI fd → FnOk P w K mg base CX0 1 fI fd ["self", f] (spI1 K f))
    (hb : ∀ (kV doc pm : Value) (an : Option Addr) (cdv ct : Value) (us : List Value), us.length = (["self", f] : List Str).length → bindArgs (PySem.W.fnOf "__init__" qual (defArgs st) (defBody st) (defScope st) .none kV doc pm an cdv ct) ⟨us, []⟩ = pure ((["self", f] : List Str).zip us))
    (hk : ∀ (kV doc pm : Value) (an : Option Addr) (cdv ct : Value), KBn K (PySem.W.fnOf "__init__" qual (defArgs st) (defBody st) (defScope st) .none kV doc pm an cdv ct) ["self", f] 1 [f] (fun us ws => us ++ ws) (fun vs zs => vs ++ zs)) : Ek1 P w K mg base x C f := by
  obtain ⟨oc, od, kV, doc, pm, an, cdv, ct, osl, l, cc⟩ := d.l
  have F := fun_mk l cc d.k
  exact ⟨T, d.no, d.g, fI, _, d.i, d.t, F.binds hb, hk kV doc pm an cdv ct, G _ F⟩
theorem ek2_mk (d : Dm2 K mg x qual C f g st fI) (T : Ec K C) (G : ∀ fd, Fun K "__init__" qual st fI fd → FnOk P w K mg base CX0 1 fI fd ["self", f, g] (spI2 K f g))
    (hb : ∀ (kV doc pm : Value) (an : Option Addr) (cdv ct : Value) (us : List Value), us.length = (["self", f, g] : List Str).length → bindArgs (PySem.W.fnOf "__init__" qual (defArgs st) (defBody st) (defScope st) .none kV doc pm an cdv ct) ⟨us, []⟩ = pure ((["self", f, g] : List Str).zip us))
    (hk : ∀ (kV doc pm : Value) (an : Option Addr) (cdv ct : Value), KBn K (PySem.W.fnOf "__init__" qual (defArgs st) (defBody st) (defScope st) .none kV doc pm an cdv ct) ["self", f, g] 1 [g, f] (fun us ws => us ++ permL .none [1, 0] ws) (fun vs zs => vs ++ permL .non [1, 0] zs)) : Ek2 P w K mg base x C f g := by
  obtain ⟨oc, od, kV, doc, pm, an, cdv, ct, osl, l, cc⟩ := d.d.l
  have F := fun_mk l cc d.d.k
  exact ⟨T, d.no, d.no2, d.gC, fI, _, d.i, d.t, F.binds hb, hk kV doc pm an cdv ct, G _ F⟩
end
end B
namespace B
open PySem L2
/-! EndE: the ends of own __eq__, of keyword-only defaults, of isinstance by an own class -/
structure EqOf (K : PySem.W.Frag) (C f : Addr) : Prop where
  i : PySem.W.findIn K (.ref C) "__eq__" = some (some (.ref f))
  fn : PySem.W.isFn K (.ref f) = true
section
variable {P : Program} {w : World} {K : PySem.W.Frag} {mg : Str → Option Value} {base : Heap} {CX : CXT} {k n : Nat} {x y qual : Str} {st : Stmt} {C f p : Addr} {ps ks : List Str} {sp : Sp}
end
end B
namespace B
open PySem L2
/-! HeadS: the head's hook over a small part of the heap: what the module's names reach in five steps -/
open PySem.Spec PyProof.Rows
open PySem.W (Frag nsIn findIn)
/-- the last end over such a head -/
theorem walkS {l : PySem.W.OpenLaw} {k : Nat} {q : Program} {loose : List Str} {XP : (Str → Option Value) → Heap → Prop} {d : DefRec} {fk : List Fk} {fn : List DfR} (hr : Room k callerA) (hn : l.most = some 63) (hdf : d.params.defaults = []) (hnm : d.name = ("law" : Str))
    (F : ∀ (w : World) (K : Frag) (mg : Str → Option Value) (fa : Addr) (h : Heap), K.In h → h.Ns mainGlobals mg → mg "law" = some (.ref fa) → SaysK fk fn K →
      ∃ fd : FuncData, (∀ (s : Shared) (u : Value), BindsTo s fd ⟨[u], []⟩ [("_law_script", u)]) ∧ ∀ base : Heap, K.In base → base.Ns mainGlobals mg → FnOk l.prog w K mg base CX0 k fa fd ["_law_script"] (spLaw K)) :
    PySem.W.WalkO q loose XP (hookS fk fn).says l.row.toRowW d [] (fun f vs => PySem.call f vs) := walkE (n := 0) hr hn hdf hnm F
end B
namespace B
open PySem L2
theorem all_mk {P : Program} {w : World} {K : PySem.W.Frag} {h : Heap} {mg : Str → Option Value} {fa : Addr} {f_l_start f_l_draw f_l_signs f_l_thing f_l_all f_l_named f_l_kinds f_l_keeps f_law C_1 i_1 C_2 i_2 C_3 i_3 C_4 i_4 C_5 i_5 C_6 i_6 C_7 i_7 C_8 i_8 C_9 i_9 C_10 i_10 C_11 i_11 C_12 i_12 C_13 i_13 C_14 i_14 C_15 i_15 C_16 i_16 C_17 i_17 C_18 i_18 C_19 i_19 C_20 i_20 : Addr} {Bc : Addr} {mc : Value} (X : K.In h) (G : h.Ns mainGlobals mg) (hfa : mg "law" = some (.ref fa)) (T : Bt mg)
    (d_l_start : Dt K "_law_start" s_l_start f_l_start)
    (d_l_draw : Dt K "_law_draw" s_l_draw f_l_draw)
    (d_l_signs : Dt K "_law_signs" s_l_signs f_l_signs)
    (d_l_thing : Dt K "_law_thing" s_l_thing f_l_thing)
    (d_l_all : Dt K "_law_all" s_l_all f_l_all)
    (d_l_named : Dt K "_law_named" s_l_named f_l_named)
    (d_l_kinds : Dt K "_law_kinds" s_l_kinds f_l_kinds)
    (d_l_keeps : Dt K "_law_keeps" s_l_keeps f_l_keeps)
    (d_law : Dt K "law" s_law f_law)
    (Be : Bce K mg Bc mc)
    (m_BadName : Dm K mg "BadName" "BadName.__init__" C_1 "name" s_BadName___init__ i_1)
    (m_DuplicateName : Dm K mg "DuplicateName" "DuplicateName.__init__" C_2 "name" s_DuplicateName___init__ i_2)
    (m_UnknownName : Dm K mg "UnknownName" "UnknownName.__init__" C_3 "name" s_UnknownName___init__ i_3)
    (m_BadCount : Dm K mg "BadCount" "BadCount.__init__" C_4 "count" s_BadCount___init__ i_4)
    (m_BadBundle : Dm K mg "BadBundle" "BadBundle.__init__" C_5 "value" s_BadBundle___init__ i_5)
    (m_BadWorth : Dm K mg "BadWorth" "BadWorth.__init__" C_6 "worth" s_BadWorth___init__ i_6)
    (m_NotRising : Dm2 K mg "NotRising" "NotRising.__init__" C_7 "value" "name" s_NotRising___init__ i_7)
    (m_BadText : Dm K mg "BadText" "BadText.__init__" C_8 "text" s_BadText___init__ i_8)
    (m_BadPrice : Dm K mg "BadPrice" "BadPrice.__init__" C_9 "price" s_BadPrice___init__ i_9)
    (m_BadUnit : Dm K mg "BadUnit" "BadUnit.__init__" C_10 "value" s_BadUnit___init__ i_10)
    (m_BadFactor : Dm K mg "BadFactor" "BadFactor.__init__" C_11 "value" s_BadFactor___init__ i_11)
    (m_UnlikeGoods : Dm K mg "UnlikeGoods" "UnlikeGoods.__init__" C_12 "names" s_UnlikeGoods___init__ i_12)
    (m_NotWanted : Dm K mg "NotWanted" "NotWanted.__init__" C_13 "value" s_NotWanted___init__ i_13)
    (m_NotHigher : Dm K mg "NotHigher" "NotHigher.__init__" C_14 "name" s_NotHigher___init__ i_14)
    (m_NotNested : Dm K mg "NotNested" "NotNested.__init__" C_15 "value" s_NotNested___init__ i_15)
    (m_BadSteps : Dm K mg "BadSteps" "BadSteps.__init__" C_16 "steps" s_BadSteps___init__ i_16)
    (m_BadSharing : Dm K mg "BadSharing" "BadSharing.__init__" C_17 "sharing" s_BadSharing___init__ i_17)
    (m_IsSubstitutes : Dm0 K mg "IsSubstitutes" "IsSubstitutes.__init__" C_18 s_IsSubstitutes___init__ i_18)
    (m_BadBound : Dm K mg "BadBound" "BadBound.__init__" C_19 "bound" s_BadBound___init__ i_19)
    (m_NothingToUndo : Dm0 K mg "NothingToUndo" "NothingToUndo.__init__" C_20 s_NothingToUndo___init__ i_20)
    (T_ValueError : mg "ValueError" = none)
    (kin : kinB K (fun i => if i = 1 then C_1 else if i = 2 then C_2 else if i = 3 then C_3 else if i = 4 then C_4 else if i = 5 then C_5 else if i = 6 then C_6 else if i = 7 then C_7 else if i = 8 then C_8 else if i = 9 then C_9 else if i = 10 then C_10 else if i = 11 then C_11 else if i = 12 then C_12 else if i = 13 then C_13 else if i = 14 then C_14 else if i = 15 then C_15 else if i = 16 then C_16 else if i = 17 then C_17 else if i = 18 then C_18 else if i = 19 then C_19 else if i = 20 then C_20 else 0) Bc = true)
    (er : erB K (fun i => if i = 1 then C_1 else if i = 2 then C_2 else if i = 3 then C_3 else if i = 4 then C_4 else if i = 5 then C_5 else if i = 6 then C_6 else if i = 7 then C_7 else if i = 8 then C_8 else if i = 9 then C_9 else if i = 10 then C_10 else if i = 11 then C_11 else if i = 12 then C_12 else if i = 13 then C_13 else if i = 14 then C_14 else if i = 15 then C_15 else if i = 16 then C_16 else if i = 17 then C_17 else if i = 18 then C_18 else if i = 19 then C_19 else if i = 20 then C_20 else 0) [1, 2, 3, 4, 5, 6, 7, 8, 9, 10, 11, 12, 13, 14, 15, 16, 17, 18, 19, 20] = true)
    : ∃ fd : FuncData, (∀ (s : Shared) (v : Value), BindsTo s fd ⟨[v], []⟩ [("_law_script", v)]) ∧ ∀ base : Heap, K.In base → base.Ns mainGlobals mg → FnOk P w K mg base CX0 4 fa fd ["_law_script"] (spLaw K) := by
  obtain ⟨c, hc⟩ : ∃ c : Ct, c = ⟨K, fun i => 0, fun i => [], fun i => if i = 1 then C_1 else if i = 2 then C_2 else if i = 3 then C_3 else if i = 4 then C_4 else if i = 5 then C_5 else if i = 6 then C_6 else if i = 7 then C_7 else if i = 8 then C_8 else if i = 9 then C_9 else if i = 10 then C_10 else if i = 11 then C_11 else if i = 12 then C_12 else if i = 13 then C_13 else if i = 14 then C_14 else if i = 15 then C_15 else if i = 16 then C_16 else if i = 17 then C_17 else if i = 18 then C_18 else if i = 19 then C_19 else if i = 20 then C_20 else 0, fun i => if i = 1 then [("name" : Str)] else if i = 2 then [("name" : Str)] else if i = 3 then [("name" : Str)] else if i = 4 then [("count" : Str)] else if i = 5 then [("value" : Str)] else if i = 6 then [("worth" : Str)] else if i = 7 then [("name" : Str), ("value" : Str)] else if i = 8 then [("text" : Str)] else if i = 9 then [("price" : Str)] else if i = 10 then [("value" : Str)] else if i = 11 then [("value" : Str)] else if i = 12 then [("names" : Str)] else if i = 13 then [("value" : Str)] else if i = 14 then [("name" : Str)] else if i = 15 then [("value" : Str)] else if i = 16 then [("steps" : Str)] else if i = 17 then [("sharing" : Str)] else if i = 18 then [] else if i = 19 then [("bound" : Str)] else if i = 20 then [] else []⟩ := ⟨_, rfl⟩
  have e_K : K = c.K := by rw [hc]
  have e_1 : C_1 = c.ec 1 := by rw [hc]; rfl
  have hf_1 : c.ef 1 = [("name" : Str)] := by rw [hc]; rfl
  have e_2 : C_2 = c.ec 2 := by rw [hc]; rfl
  have hf_2 : c.ef 2 = [("name" : Str)] := by rw [hc]; rfl
  have e_3 : C_3 = c.ec 3 := by rw [hc]; rfl
  have hf_3 : c.ef 3 = [("name" : Str)] := by rw [hc]; rfl
  have e_4 : C_4 = c.ec 4 := by rw [hc]; rfl
  have hf_4 : c.ef 4 = [("count" : Str)] := by rw [hc]; rfl
  have e_5 : C_5 = c.ec 5 := by rw [hc]; rfl
  have hf_5 : c.ef 5 = [("value" : Str)] := by rw [hc]; rfl
  have e_6 : C_6 = c.ec 6 := by rw [hc]; rfl
  have hf_6 : c.ef 6 = [("worth" : Str)] := by rw [hc]; rfl
  have e_7 : C_7 = c.ec 7 := by rw [hc]; rfl
  have hf_7 : c.ef 7 = [("name" : Str), ("value" : Str)] := by rw [hc]; rfl
  have e_8 : C_8 = c.ec 8 := by rw [hc]; rfl
  have hf_8 : c.ef 8 = [("text" : Str)] := by rw [hc]; rfl
  have e_9 : C_9 = c.ec 9 := by rw [hc]; rfl
  have hf_9 : c.ef 9 = [("price" : Str)] := by rw [hc]; rfl
  have e_10 : C_10 = c.ec 10 := by rw [hc]; rfl
  have hf_10 : c.ef 10 = [("value" : Str)] := by rw [hc]; rfl
  have e_11 : C_11 = c.ec 11 := by rw [hc]; rfl
  have hf_11 : c.ef 11 = [("value" : Str)] := by rw [hc]; rfl
  have e_12 : C_12 = c.ec 12 := by rw [hc]; rfl
  have hf_12 : c.ef 12 = [("names" : Str)] := by rw [hc]; rfl
  have e_13 : C_13 = c.ec 13 := by rw [hc]; rfl
  have hf_13 : c.ef 13 = [("value" : Str)] := by rw [hc]; rfl
  have e_14 : C_14 = c.ec 14 := by rw [hc]; rfl
  have hf_14 : c.ef 14 = [("name" : Str)] := by rw [hc]; rfl
  have e_15 : C_15 = c.ec 15 := by rw [hc]; rfl
  have hf_15 : c.ef 15 = [("value" : Str)] := by rw [hc]; rfl
  have e_16 : C_16 = c.ec 16 := by rw [hc]; rfl
  have hf_16 : c.ef 16 = [("steps" : Str)] := by rw [hc]; rfl
  have e_17 : C_17 = c.ec 17 := by rw [hc]; rfl
  have hf_17 : c.ef 17 = [("sharing" : Str)] := by rw [hc]; rfl
  have e_18 : C_18 = c.ec 18 := by rw [hc]; rfl
  have hf_18 : c.ef 18 = [] := by rw [hc]; rfl
  have e_19 : C_19 = c.ec 19 := by rw [hc]; rfl
  have hf_19 : c.ef 19 = [("bound" : Str)] := by rw [hc]; rfl
  have e_20 : C_20 = c.ec 20 := by rw [hc]; rfl
  have hf_20 : c.ef 20 = [] := by rw [hc]; rfl
  have er_c : erB c.K c.ec [1, 2, 3, 4, 5, 6, 7, 8, 9, 10, 11, 12, 13, 14, 15, 16, 17, 18, 19, 20] = true := by rw [hc]; exact er
  have KI : kinB c.K c.ec Bc = true := by rw [hc]; exact kin
  clear hc
  subst e_1
  subst e_2
  subst e_3
  subst e_4
  subst e_5
  subst e_6
  subst e_7
  subst e_8
  subst e_9
  subst e_10
  subst e_11
  subst e_12
  subst e_13
  subst e_14
  subst e_15
  subst e_16
  subst e_17
  subst e_18
  subst e_19
  subst e_20
  subst e_K
  have R := erB_ok er_c
  have R_all := R
  have e := hfa.symm.trans (PySem.W.mg_of X G d_law.a)
  cases e
  obtain ⟨fd, F, kV, doc, pm, an, cdv, ct, e⟩ := d_law.fun
  subst e
  refine ⟨PySem.W.fnOf "law" "law" (defArgs s_law) (defBody s_law) (defScope s_law) .none kV doc pm an cdv ct, fun s v => .of_eq rfl, fun base _ _ => ?_⟩
  have XK_BadName : Ek1 P w c.K mg base "BadName" (c.ec 1) "name" := ek1_mk m_BadName (R.ok 1 (by decide)) (fun fd F => ok_BadName___init__ F Be.r Be.i Be.g) (fun _ _ _ _ _ _ us hl => match us, hl with | [_, _], _ => rfl) (fun _ _ _ _ _ _ => ⟨fun s us ws _ h1 h2 => match us, h1, ws, h2 with | [_], _, [_], _ => .of_eq rfl, fun r1 r2 => vals_app r2 r1⟩)
  have XK_DuplicateName : Ek1 P w c.K mg base "DuplicateName" (c.ec 2) "name" := ek1_mk m_DuplicateName (R.ok 2 (by decide)) (fun fd F => ok_DuplicateName___init__ F Be.r Be.i Be.g) (fun _ _ _ _ _ _ us hl => match us, hl with | [_, _], _ => rfl) (fun _ _ _ _ _ _ => ⟨fun s us ws _ h1 h2 => match us, h1, ws, h2 with | [_], _, [_], _ => .of_eq rfl, fun r1 r2 => vals_app r2 r1⟩)
  have XK_UnknownName : Ek1 P w c.K mg base "UnknownName" (c.ec 3) "name" := ek1_mk m_UnknownName (R.ok 3 (by decide)) (fun fd F => ok_UnknownName___init__ F Be.r Be.i Be.g) (fun _ _ _ _ _ _ us hl => match us, hl with | [_, _], _ => rfl) (fun _ _ _ _ _ _ => ⟨fun s us ws _ h1 h2 => match us, h1, ws, h2 with | [_], _, [_], _ => .of_eq rfl, fun r1 r2 => vals_app r2 r1⟩)
  have XK_BadCount : Ek1 P w c.K mg base "BadCount" (c.ec 4) "count" := ek1_mk m_BadCount (R.ok 4 (by decide)) (fun fd F => ok_BadCount___init__ F Be.r Be.i Be.g) (fun _ _ _ _ _ _ us hl => match us, hl with | [_, _], _ => rfl) (fun _ _ _ _ _ _ => ⟨fun s us ws _ h1 h2 => match us, h1, ws, h2 with | [_], _, [_], _ => .of_eq rfl, fun r1 r2 => vals_app r2 r1⟩)
  have XK_BadBundle : Ek1 P w c.K mg base "BadBundle" (c.ec 5) "value" := ek1_mk m_BadBundle (R.ok 5 (by decide)) (fun fd F => ok_BadBundle___init__ F Be.r Be.i Be.g) (fun _ _ _ _ _ _ us hl => match us, hl with | [_, _], _ => rfl) (fun _ _ _ _ _ _ => ⟨fun s us ws _ h1 h2 => match us, h1, ws, h2 with | [_], _, [_], _ => .of_eq rfl, fun r1 r2 => vals_app r2 r1⟩)
  have XK_BadWorth : Ek1 P w c.K mg base "BadWorth" (c.ec 6) "worth" := ek1_mk m_BadWorth (R.ok 6 (by decide)) (fun fd F => ok_BadWorth___init__ F Be.r Be.i Be.g) (fun _ _ _ _ _ _ us hl => match us, hl with | [_, _], _ => rfl) (fun _ _ _ _ _ _ => ⟨fun s us ws _ h1 h2 => match us, h1, ws, h2 with | [_], _, [_], _ => .of_eq rfl, fun r1 r2 => vals_app r2 r1⟩)
  have XK_NotRising : Ek2 P w c.K mg base "NotRising" (c.ec 7) "value" "name" := ek2_mk m_NotRising (R.ok 7 (by decide)) (fun fd F => ok_NotRising___init__ F Be.r Be.i Be.g) (fun _ _ _ _ _ _ us hl => match us, hl with | [_, _, _], _ => rfl) (fun _ _ _ _ _ _ => ⟨fun s us ws _ h1 h2 => match us, h1, ws, h2 with | [_], _, [_, _], _ => .of_eq rfl, fun r1 r2 => vals_app (vals_perm r2 _) r1⟩)
  have XK_BadText : Ek1 P w c.K mg base "BadText" (c.ec 8) "text" := ek1_mk m_BadText (R.ok 8 (by decide)) (fun fd F => ok_BadText___init__ F Be.r Be.i Be.g) (fun _ _ _ _ _ _ us hl => match us, hl with | [_, _], _ => rfl) (fun _ _ _ _ _ _ => ⟨fun s us ws _ h1 h2 => match us, h1, ws, h2 with | [_], _, [_], _ => .of_eq rfl, fun r1 r2 => vals_app r2 r1⟩)
  have XK_BadPrice : Ek1 P w c.K mg base "BadPrice" (c.ec 9) "price" := ek1_mk m_BadPrice (R.ok 9 (by decide)) (fun fd F => ok_BadPrice___init__ F Be.r Be.i Be.g) (fun _ _ _ _ _ _ us hl => match us, hl with | [_, _], _ => rfl) (fun _ _ _ _ _ _ => ⟨fun s us ws _ h1 h2 => match us, h1, ws, h2 with | [_], _, [_], _ => .of_eq rfl, fun r1 r2 => vals_app r2 r1⟩)
  have XK_BadUnit : Ek1 P w c.K mg base "BadUnit" (c.ec 10) "value" := ek1_mk m_BadUnit (R.ok 10 (by decide)) (fun fd F => ok_BadUnit___init__ F Be.r Be.i Be.g) (fun _ _ _ _ _ _ us hl => match us, hl with | [_, _], _ => rfl) (fun _ _ _ _ _ _ => ⟨fun s us ws _ h1 h2 => match us, h1, ws, h2 with | [_], _, [_], _ => .of_eq rfl, fun r1 r2 => vals_app r2 r1⟩)
  have XK_BadFactor : Ek1 P w c.K mg base "BadFactor" (c.ec 11) "value" := ek1_mk m_BadFactor (R.ok 11 (by decide)) (fun fd F => ok_BadFactor___init__ F Be.r Be.i Be.g) (fun _ _ _ _ _ _ us hl => match us, hl with | [_, _], _ => rfl) (fun _ _ _ _ _ _ => ⟨fun s us ws _ h1 h2 => match us, h1, ws, h2 with | [_], _, [_], _ => .of_eq rfl, fun r1 r2 => vals_app r2 r1⟩)
  have XK_UnlikeGoods : Ek1 P w c.K mg base "UnlikeGoods" (c.ec 12) "names" := ek1_mk m_UnlikeGoods (R.ok 12 (by decide)) (fun fd F => ok_UnlikeGoods___init__ F Be.r Be.i Be.g) (fun _ _ _ _ _ _ us hl => match us, hl with | [_, _], _ => rfl) (fun _ _ _ _ _ _ => ⟨fun s us ws _ h1 h2 => match us, h1, ws, h2 with | [_], _, [_], _ => .of_eq rfl, fun r1 r2 => vals_app r2 r1⟩)
  have XK_NotWanted : Ek1 P w c.K mg base "NotWanted" (c.ec 13) "value" := ek1_mk m_NotWanted (R.ok 13 (by decide)) (fun fd F => ok_NotWanted___init__ F Be.r Be.i Be.g) (fun _ _ _ _ _ _ us hl => match us, hl with | [_, _], _ => rfl) (fun _ _ _ _ _ _ => ⟨fun s us ws _ h1 h2 => match us, h1, ws, h2 with | [_], _, [_], _ => .of_eq rfl, fun r1 r2 => vals_app r2 r1⟩)
  have XK_NotHigher : Ek1 P w c.K mg base "NotHigher" (c.ec 14) "name" := ek1_mk m_NotHigher (R.ok 14 (by decide)) (fun fd F => ok_NotHigher___init__ F Be.r Be.i Be.g) (fun _ _ _ _ _ _ us hl => match us, hl with | [_, _], _ => rfl) (fun _ _ _ _ _ _ => ⟨fun s us ws _ h1 h2 => match us, h1, ws, h2 with | [_], _, [_], _ => .of_eq rfl, fun r1 r2 => vals_app r2 r1⟩)
  have XK_NotNested : Ek1 P w c.K mg base "NotNested" (c.ec 15) "value" := ek1_mk m_NotNested (R.ok 15 (by decide)) (fun fd F => ok_NotNested___init__ F Be.r Be.i Be.g) (fun _ _ _ _ _ _ us hl => match us, hl with | [_, _], _ => rfl) (fun _ _ _ _ _ _ => ⟨fun s us ws _ h1 h2 => match us, h1, ws, h2 with | [_], _, [_], _ => .of_eq rfl, fun r1 r2 => vals_app r2 r1⟩)
  have XK_BadSteps : Ek1 P w c.K mg base "BadSteps" (c.ec 16) "steps" := ek1_mk m_BadSteps (R.ok 16 (by decide)) (fun fd F => ok_BadSteps___init__ F Be.r Be.i Be.g) (fun _ _ _ _ _ _ us hl => match us, hl with | [_, _], _ => rfl) (fun _ _ _ _ _ _ => ⟨fun s us ws _ h1 h2 => match us, h1, ws, h2 with | [_], _, [_], _ => .of_eq rfl, fun r1 r2 => vals_app r2 r1⟩)
  have XK_BadSharing : Ek1 P w c.K mg base "BadSharing" (c.ec 17) "sharing" := ek1_mk m_BadSharing (R.ok 17 (by decide)) (fun fd F => ok_BadSharing___init__ F Be.r Be.i Be.g) (fun _ _ _ _ _ _ us hl => match us, hl with | [_, _], _ => rfl) (fun _ _ _ _ _ _ => ⟨fun s us ws _ h1 h2 => match us, h1, ws, h2 with | [_], _, [_], _ => .of_eq rfl, fun r1 r2 => vals_app r2 r1⟩)
  have X_IsSubstitutes : ExcD0 P w c.K mg base 1 "IsSubstitutes" (c.ec 18) := exd0_mk m_IsSubstitutes (R.ok 18 (by decide)) (fun fd F => ok_IsSubstitutes___init__ F Be.r Be.i Be.g) fun _ _ _ _ _ _ us hl => match us, hl with | [_], _ => rfl
  have XK_BadBound : Ek1 P w c.K mg base "BadBound" (c.ec 19) "bound" := ek1_mk m_BadBound (R.ok 19 (by decide)) (fun fd F => ok_BadBound___init__ F Be.r Be.i Be.g) (fun _ _ _ _ _ _ us hl => match us, hl with | [_, _], _ => rfl) (fun _ _ _ _ _ _ => ⟨fun s us ws _ h1 h2 => match us, h1, ws, h2 with | [_], _, [_], _ => .of_eq rfl, fun r1 r2 => vals_app r2 r1⟩)
  have X_NothingToUndo : ExcD0 P w c.K mg base 1 "NothingToUndo" (c.ec 20) := exd0_mk m_NothingToUndo (R.ok 20 (by decide)) (fun fd F => ok_NothingToUndo___init__ F Be.r Be.i Be.g) fun _ _ _ _ _ _ us hl => match us, hl with | [_], _ => rfl
  have D_l_start : Df P w c.K mg base CX0 1 "_law_start" ["_law_script"] (spStart c.K) := df_mk d_l_start (PySem.W.mg_of X G d_l_start.a) (fun fd F => ok_startA F T) fun _ _ _ _ _ _ us hl => match us, hl with | [_], _ => rfl
  have D_l_draw : Df P w c.K mg base CX0 1 "_law_draw" ["_law_state", "_law_size"] spDraw := df_mk d_l_draw (PySem.W.mg_of X G d_l_draw.a) (fun fd F => ok_l_draw F T) fun _ _ _ _ _ _ us hl => match us, hl with | [_, _], _ => rfl
  have D_l_signs : Df P w c.K mg base CX0 1 "_law_signs" [] spSigns := df_mk d_l_signs (PySem.W.mg_of X G d_l_signs.a) (fun fd F => ok_l_signs F) fun _ _ _ _ _ _ us hl => match us, hl with | [], _ => rfl
  have D_l_thing : Df P w c.K mg base CX0 2 "_law_thing" ["_law_state"] spThing := df_mk d_l_thing (PySem.W.mg_of X G d_l_thing.a) (fun fd F => ok_l_thing F T D_l_draw D_l_signs) fun _ _ _ _ _ _ us hl => match us, hl with | [_], _ => rfl
  have D_l_all : Df P w c.K mg base CX0 3 "_law_all" ["_law_t"] (spAll c) := df_mk d_l_all (PySem.W.mg_of X G d_l_all.a) (fun fd F => ok_l_all F T XK_BadName XK_DuplicateName XK_UnknownName XK_BadCount XK_BadBundle XK_BadWorth XK_NotRising XK_BadText XK_BadPrice XK_BadUnit XK_BadFactor XK_UnlikeGoods XK_NotWanted XK_NotHigher XK_NotNested XK_BadSteps XK_BadSharing XK_BadBound X_IsSubstitutes X_NothingToUndo) fun _ _ _ _ _ _ us hl => match us, hl with | [_], _ => rfl
  have D_l_named : Df P w c.K mg base CX0 3 "_law_named" ["_law_t"] (spAll c) := df_mk d_l_named (PySem.W.mg_of X G d_l_named.a) (fun fd F => ok_l_named F T XK_BadName XK_DuplicateName XK_UnknownName XK_BadCount XK_BadBundle XK_BadWorth XK_NotRising XK_BadText XK_BadPrice XK_BadUnit XK_BadFactor XK_UnlikeGoods XK_NotWanted XK_NotHigher XK_NotNested XK_BadSteps XK_BadSharing XK_BadBound X_IsSubstitutes X_NothingToUndo) fun _ _ _ _ _ _ us hl => match us, hl with | [_], _ => rfl
  have D_l_kinds : Df P w c.K mg base CX0 1 "_law_kinds" ["_law_e"] (spKinds c) := df_mk d_l_kinds (PySem.W.mg_of X G d_l_kinds.a) (fun fd F => ok_l_kinds F T R_all XK_BadName XK_DuplicateName XK_UnknownName XK_BadCount XK_BadBundle XK_BadWorth XK_NotRising XK_BadText XK_BadPrice XK_BadUnit XK_BadFactor XK_UnlikeGoods XK_NotWanted XK_NotHigher XK_NotNested XK_BadSteps XK_BadSharing XK_BadBound X_IsSubstitutes X_NothingToUndo KI) fun _ _ _ _ _ _ us hl => match us, hl with | [_], _ => rfl
  have D_l_keeps : Df P w c.K mg base CX0 2 "_law_keeps" ["_law_made", "_law_t"] (spKeeps c) := df_mk d_l_keeps (PySem.W.mg_of X G d_l_keeps.a) (fun fd F => ok_l_keeps F T T_ValueError Be R_all XK_BadName XK_DuplicateName XK_UnknownName XK_BadCount XK_BadBundle XK_BadWorth XK_NotRising XK_BadText XK_BadPrice XK_BadUnit XK_BadFactor XK_UnlikeGoods XK_NotWanted XK_NotHigher XK_NotNested XK_BadSteps XK_BadSharing XK_BadBound X_IsSubstitutes X_NothingToUndo KI D_l_kinds) fun _ _ _ _ _ _ us hl => match us, hl with | [_, _], _ => rfl
  exact ok_law F T D_l_start D_l_draw D_l_thing D_l_all D_l_named D_l_keeps
end B
namespace B.Hd
open PySem L2 B
end B.Hd
namespace B.Hd
open PySem PySem.Spec PyProof.Rows L2 B
theorem bt {K : PySem.W.Frag} {h : Heap} {mg : Str → Option Value} (KX : K.In h) (G : h.Ns mainGlobals mg) (c : SaysK fk fn K) : Bt mg := by
  constructor
  all_goals first
    | exact hk_free KX G (c.fact 72)
    | exact hk_free KX G (c.fact 73)
    | exact hk_free KX G (c.fact 74)
    | exact hk_free KX G (c.fact 75)
    | exact hk_free KX G (c.fact 76)
    | exact hk_free KX G (c.fact 77)
    | exact hk_free KX G (c.fact 78)
    | exact hk_free KX G (c.fact 79)
    | exact hk_free KX G (c.fact 80)
    | exact hk_free KX G (c.fact 81)
    | exact hk_free KX G (c.fact 82)
    | exact hk_free KX G (c.fact 83)
    | exact hk_free KX G (c.fact 84)
    | exact hk_free KX G (c.fact 85)
    | exact hk_free KX G (c.fact 86)
    | exact hk_free KX G (c.fact 87)
    | exact hk_free KX G (c.fact 88)
theorem facts {P : Program} {w : World} {K : PySem.W.Frag} {h : Heap} {mg : Str → Option Value} {fa : Addr} (KX : K.In h) (G : h.Ns mainGlobals mg) (hmg : mg ("law" : Str) = some (.ref fa)) (c : SaysK fk fn K) : ∃ fd : FuncData, (∀ (s : Shared) (v : Value), BindsTo s fd ⟨[v], []⟩ [("_law_script", v)]) ∧ ∀ base : Heap, K.In base → base.Ns mainGlobals mg → FnOk P w K mg base CX0 4 fa fd ["_law_script"] (spLaw K) :=
  B.all_mk KX G hmg (bt KX G c)
    (B.hk_dt (c.fact 0) (c.def_ 0)) (B.hk_dt (c.fact 1) (c.def_ 1)) (B.hk_dt (c.fact 2) (c.def_ 2)) (B.hk_dt (c.fact 3) (c.def_ 3))
    (B.hk_dt (c.fact 4) (c.def_ 4)) (B.hk_dt (c.fact 5) (c.def_ 5)) (B.hk_dt (c.fact 6) (c.def_ 6)) (B.hk_dt (c.fact 7) (c.def_ 7))
    (B.hk_dt (c.fact 8) (c.def_ 8)) (B.hk_bce KX G (c.fact 9)) (B.hk_dm KX G (c.fact 10) (c.fact 11) (c.fact 12) (c.def_ 9)) (B.hk_dm KX G (c.fact 13) (c.fact 14) (c.fact 15) (c.def_ 10))
    (B.hk_dm KX G (c.fact 16) (c.fact 17) (c.fact 18) (c.def_ 11)) (B.hk_dm KX G (c.fact 19) (c.fact 20) (c.fact 21) (c.def_ 12)) (B.hk_dm KX G (c.fact 22) (c.fact 23) (c.fact 24) (c.def_ 13)) (B.hk_dm KX G (c.fact 25) (c.fact 26) (c.fact 27) (c.def_ 14))
    (B.hk_dm2 KX G (c.fact 28) (c.fact 29) (c.fact 30) (c.fact 31) (c.def_ 15)) (B.hk_dm KX G (c.fact 32) (c.fact 33) (c.fact 34) (c.def_ 16)) (B.hk_dm KX G (c.fact 35) (c.fact 36) (c.fact 37) (c.def_ 17)) (B.hk_dm KX G (c.fact 38) (c.fact 39) (c.fact 40) (c.def_ 18))
    (B.hk_dm KX G (c.fact 41) (c.fact 42) (c.fact 43) (c.def_ 19)) (B.hk_dm KX G (c.fact 44) (c.fact 45) (c.fact 46) (c.def_ 20)) (B.hk_dm KX G (c.fact 47) (c.fact 48) (c.fact 49) (c.def_ 21)) (B.hk_dm KX G (c.fact 50) (c.fact 51) (c.fact 52) (c.def_ 22))
    (B.hk_dm KX G (c.fact 53) (c.fact 54) (c.fact 55) (c.def_ 23)) (B.hk_dm KX G (c.fact 56) (c.fact 57) (c.fact 58) (c.def_ 24)) (B.hk_dm KX G (c.fact 59) (c.fact 60) (c.fact 61) (c.def_ 25)) (B.hk_dm0 KX G (c.fact 62) (c.fact 63) (c.def_ 26))
    (B.hk_dm KX G (c.fact 64) (c.fact 65) (c.fact 66) (c.def_ 27)) (B.hk_dm0 KX G (c.fact 67) (c.fact 68) (c.def_ 28)) (hk_free KX G (c.fact 69)) (B.hk_any (c.fact 70))
    (B.hk_ers (c.fact 71))
end B.Hd
open PySem PySem.W PySem.Calls PyProof.Rows
set_option maxRecDepth 100000 in
set_option maxHeartbeats 0 in
theorem PySem.Challenge.cw_bundlekinds_k02_errors_holds : PySem.Challenge.rw_bundlekinds_k02_errors.Holds := by
  w_on; o_law
  refine HandSHeadRun.head_any (r := OpenLaw.row PySem.Challenge.rw_bundlekinds_k02_errors) (q := view (OpenLaw.row PySem.Challenge.rw_bundlekinds_k02_errors).prog [31]) (H := B.Hd.hk) (ob := B.Hd.ob) (M := 20000) (loose := B.Hd.loose) (d := HandSHeadRun.topDef (OpenLaw.row PySem.Challenge.rw_bundlekinds_k02_errors).prog 31) (kwd := []) B.Hd.ob_eq
    (by kernel_rfl) (fun s => by kernel_rfl) B.Hd.run (by kernel_rfl) (by kernel_rfl) (by kernel_rfl) (by rfl) (by first | assumption | decide +kernel) (by decide +kernel) ⟨rfl, rfl, rfl, rfl, rfl, by decide +kernel⟩ ?hw ?hc
  case hw => w_witness2
  case hc =>
    exact B.walkS (l := PySem.Challenge.rw_bundlekinds_k02_errors) (k := 4) ⟨rfl, by decide, by decide⟩ rfl (by kernel_rfl) (by kernel_rfl) (fun w K mg fa h KX G hmg c => B.Hd.facts KX G hmg c)
#print axioms PySem.Challenge.cw_bundlekinds_k02_errors_holds
