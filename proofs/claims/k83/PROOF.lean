import PyProof.Rows.All
import Wide.All
import OpenK.AllK
import Wide.FinOn
import HandS.ForMost
import HandS.Wide
import HandS.Evl
import HandS.Exc
import HandS.TryMany
import HandS.ExcInit
import HandS.ExcField
import HandS.ExcIs
import HandS.IsInst
import HandS.Style
import HandS.TupAny
import HandS.TupLe
import HandS.Flow
import HandS.Defaults
import KE.DataEq
import KE.LtData
import HandS.Property
import HandS.ClsMeth
import KE.KExcIs
import HandS.ExcOwn
import HandS.WordsExc
import KE.SortKeyHeap
import HandS.SortKw
import HandS.Walk
import HandS.TupLen
import HandS.WordsDict
import HandS.GenList
import HandS.Star
import HandS.TryOnly
import HandS.DictComp
import HandS.Codes
import HandS.SlotsOwn
import HandS.MakeKwOnly
import KE.KStateDown
import HandS.Base
import HandS.Call
import HandS.Ends
import HandS.More
import HandS.Words
import HandS.Head0
import HandS.Head1
import HandS.Head2
import HandS.HeadEnd
import HandS.HeadHook1
import HandS.HeadHook2
import HandS.ExcCtx
import KE.GoesMore
import HandS.Zip
import HandS.Iter
import HandS.WideBits
import PySem.Challenge.RW_bundlekinds_k83_best_mix
set_option Elab.async false
set_option linter.all false
set_option maxRecDepth 100000
set_option maxHeartbeats 4000000
namespace B
open PySem L2
open PySem.Spec PyProof.Rows
open PySem.W (Frag nsIn findIn)
def top (i : Nat) : Stmt := PySem.Challenge.pw_bundlekinds_k83_best_mix.main.body.getD i (.Pass ⟨0, 0, 0, 0⟩)
abbrev s_BadCount___init__ : Stmt := inClass (top 2) 0
abbrev s_BadBound___init__ : Stmt := inClass (top 3) 0
abbrev s_common_divisor : Stmt := top 5
abbrev s_check_program : Stmt := top 6
abbrev s_Tableau___init__ : Stmt := inClass (top 7) 0
abbrev s_Tableau_entering : Stmt := inClass (top 7) 1
abbrev s_Tableau_leaving : Stmt := inClass (top 7) 2
abbrev s_Tableau_is_nearer : Stmt := inClass (top 7) 3
abbrev s_Tableau_turn : Stmt := inClass (top 7) 4
abbrev s_Tableau_reduced : Stmt := inClass (top 7) 5
abbrev s_Tableau_mix_numbers : Stmt := inClass (top 7) 6
abbrev s_Tableau_endless_numbers : Stmt := inClass (top 7) 7
abbrev s_best_mix : Stmt := top 8
abbrev s_l_start : Stmt := top 10
abbrev s_l_take : Stmt := top 11
abbrev s_l_divisor : Stmt := top 12
abbrev s_l_dot : Stmt := top 13
abbrev s_l_whole : Stmt := top 14
abbrev s_l_right : Stmt := top 15
abbrev s_l_told : Stmt := top 16
abbrev s_l_due : Stmt := top 17
abbrev s_l_drawn : Stmt := top 18
abbrev s_l_market : Stmt := top 19
abbrev s_l_round : Stmt := top 20
abbrev s_law : Stmt := top 21
def oexB (K : PySem.W.Frag) (C : Addr) : Bool := match K.lookup C with
  | some ⟨.type "type", _, .cls cd, sl⟩ => (match cd.mro, sl.toList with
    | .ref C' :: bm, [_, _, _, _, some (.builtin n), _] => C' == C && n == "ValueError.__new__" && !cd.hasDel && cd.hasDict && PySem.HandSPX.refsVE bm
    | _, _ => false)
  | _ => false
def ecB (K : PySem.W.Frag) (C : Addr) : Bool :=
  oexB K C && (decide (PySem.W.findIn K (.ref C) "__setattr__" = some (some (.builtin "object.__setattr__"))) && (decide (PySem.W.subIn K (.ref C) (.type "BaseException") = some true) && (decide (PySem.W.typeIn K (.ref C) = some (.type "type")) && (PySem.W.keepIn K (.ref C) &&
  (xfB K C && ((PySem.W.clsIn K C).isSome && (decide (PySem.W.findIn K (.ref C) "__class__" = some (some (.builtin "object.__class__"))) && (decide (PySem.W.specialIn K (.builtin "object.__class__") "__get__" = some (some (.builtin "getset_descriptor.__get__"))) && (decide (PySem.W.takesIn K (.builtin "object.__class__") = some true) && decide (PySem.W.mroIn K C (.type "object") = some true))))))))))
def erB (K : PySem.W.Frag) (ec : Nat → Addr) (S : List Nat) : Bool := S.all (fun i => ecB K (ec i)) && S.all fun i => S.all fun j => decide (PySem.W.exmOne K (.ref (ec i)) (.ref (ec j)) = some (decide (i = j)))
def ptA (K : Frag) (p : Addr) : Addr := match PySem.W.recIn K p "property" with
  | some (.ref g :: _) => g
  | _ => 0
def ppA (K : Frag) (x m : Str) : Addr := ptA K (He.ma K (He.ga K x) m)
structure DfR where
  ad : Frag → Addr
  name : Str
  qual : Str
  st : Stmt
def fnV (K : Frag) (a : Addr) : He.FnV := match K.lookup a with
  | some ⟨_, _, .func fd, _⟩ => some (fd.name, fd.qualname, fd.params, fd.body, fd.scope, fd.globals, fd.closure, fd.defaults, fd.builtins)
  | _ => none
def DfR.val (d : DfR) : He.FnV := some (d.name, d.qual, defArgs d.st, .stmts (defBody d.st), defScope d.st, mainGlobals, [], .none, builtinsNs)
def DfR.ok (K : Frag) (d : DfR) : Bool := PySem.W.keepIn K (.ref (d.ad K)) && (match K.lookup (d.ad K) with
  | some ⟨_, _, .func fd, _⟩ => PySem.W.codeIn K fd.code d.qual
  | _ => false)
def mcA (K : Frag) : Value := match PySem.W.typeIn K (.ref (He.ga K "BundleError")) with
  | some v => v
  | none => .none
def mtA (K : Frag) (x : Str) : Value := match PySem.W.typeIn K (.ref (He.ga K x)) with
  | some v => v
  | none => .none
def cmA (K : Frag) (x m : Str) : Addr := match PySem.W.recIn K (He.ma K (He.ga K x) m) "classmethod" with
  | some (.ref g :: _) => g
  | _ => 0
def cmB (K : Frag) (x m : Str) : Bool := match PySem.W.findCls K (.ref (He.ga K x)) (mtA K x) m with
  | some (.get (.builtin s) (.ref p) .none (.ref C)) => decide (s = "classmethod.__get__") && (decide (p = He.ma K (He.ga K x) m) && decide (C = He.ga K x))
  | _ => false
inductive Fk where
  | glo (x : Str)
  | free (x : Str)
  | int (x : Str) (i : Int)
  | str (x z : Str)
  | bce
  | exi (x : Str)
  | noat (x f : Str)
  | cls (x : Str)
  | ini (x : Str)
  | meth (x m : Str)
  | cal (x m : Str)
  | prop (x m : Str)
  | ers (f : Frag → Nat → Addr) (S : List Nat)
  | nst (x : Str)
  | own (x m : Str)
  | kwd (x m k : Str) (i : Int)
  | isi (x : Str)
  | cmt (x m : Str)
  | nec (x : Str)
  | isn (x : Str)
  | ise (x : Str)
  | nsq (x : Str)
  | any (f : Frag → Bool)
def kwA (K : Frag) (f : Addr) : Value := match K.lookup f with
  | some ⟨_, _, .func fd, _⟩ => fd.kwdefaults
  | _ => .none
def kwOk (K : Frag) (f : Addr) (k : Str) (i : Int) : Bool := match kwA K f with
  | .ref D => match nsIn K D k with
    | some (some (.int j _)) => decide (j = i)
    | _ => false
  | _ => false
def inB (K : Frag) (m : Addr) : Bool := match PySem.W.findCls K (.ref m) (mcA K) "__init__" with
  | some (.val (.builtin s)) => decide (s = "ValueError.__init__")
  | _ => false
def Fk.ok (K : Frag) : Fk → Bool
  | .glo x => He.eqO (nsIn K mainGlobals x) (some (some (.ref (He.ga K x))))
  | .free x => He.eqO (nsIn K mainGlobals x) (some none)
  | .int x i => (He.Fa.int x i).ok K
  | .str x z => (He.Fa.str x z).ok K
  | .bce => He.eqO (nsIn K mainGlobals "BundleError") (some (some (.ref (He.ga K "BundleError")))) && (decide (PySem.W.typeIn K (.ref (He.ga K "BundleError")) = some (mcA K)) && (PySem.W.readsIn K (He.ga K "BundleError") (mcA K) && (He.eqO (PySem.W.specialIn K (.ref (He.ga K "BundleError")) "__getattribute__") (some (some (.builtin "type.__getattribute__"))) && inB K (He.ga K "BundleError"))))
  | .exi x => He.eqO (findIn K (.ref (He.ga K x)) "__init__") (some (some (.ref (He.ma K (He.ga K x) "__init__")))) && decide (PySem.W.typeIn K (.ref (He.ma K (He.ga K x) "__init__")) = some (.type "function"))
  | .noat x f => He.eqO (findIn K (.ref (He.ga K x)) f) (some none)
  | .cls x => (He.Fa.cls x).ok K && (PySem.W.makesIn K (He.ga K x) && PySem.W.keepIn K (.ref (He.ga K x)))
  | .ini x => He.eqO (findIn K (.ref (He.ga K x)) "__init__") (some (some (.ref (He.ma K (He.ga K x) "__init__")))) && PySem.W.isFn K (.ref (He.ma K (He.ga K x) "__init__"))
  | .meth x m => (He.Fa.meth x m).ok K
  | .cal x m => He.eqO (findIn K (.ref (He.ga K x)) m) (some (some (.ref (He.ma K (He.ga K x) m)))) && (decide (PySem.W.typeIn K (.ref (He.ma K (He.ga K x) m)) = some (.type "function")) && PySem.W.fnIn K (He.ma K (He.ga K x) m))
  | .prop x m => He.eqO (findIn K (.ref (He.ga K x)) m) (some (some (.ref (He.ma K (He.ga K x) m)))) && (He.eqO (PySem.W.specialIn K (.ref (He.ma K (He.ga K x) m)) "__get__") (some (some (.builtin "property.__get__"))) && (decide (PySem.W.takesIn K (.ref (He.ma K (He.ga K x) m)) = some true) && (match PySem.W.recIn K (He.ma K (He.ga K x) m) "property" with
    | some (.ref _ :: _) => true
    | _ => false)))
  | .ers f S => erB K (f K) S
  | .nst x => decide (PySem.W.subIn K (.ref (He.ga K x)) (.type "StopIteration") = some false)
  | .own x m => He.eqO (findIn K (.ref (He.ga K x)) m) (some (some (.ref (He.ma K (He.ga K x) m)))) && PySem.W.isFn K (.ref (He.ma K (He.ga K x) m))
  | .kwd x m k i => kwOk K (He.ma K (He.ga K x) m) k i
  | .isi x => He.eqO (findIn K (.ref (He.ga K x)) "__class__") (some (some (.builtin "object.__class__"))) && (He.eqO (PySem.W.specialIn K (.builtin "object.__class__") "__get__") (some (some (.builtin "getset_descriptor.__get__"))) && (decide (PySem.W.takesIn K (.builtin "object.__class__") = some true) && (decide (PySem.W.mroIn K (He.ga K x) (.type "object") = some true) && decide (PySem.W.kitOne K (.ref (He.ga K x)) (.ref (He.ga K x)) = some true))))
  | .cmt x m => PySem.W.readsIn K (He.ga K x) (mtA K x) && (He.eqO (PySem.W.specialIn K (.ref (He.ga K x)) "__getattribute__") (some (some (.builtin "type.__getattribute__"))) && (cmB K x m && ((match PySem.W.recIn K (He.ma K (He.ga K x) m) "classmethod" with
    | some (.ref _ :: _) => true
    | _ => false) && PySem.W.fnIn K (cmA K x m))))
  | .nec x => decide (PySem.W.mroIn K (He.ga K x) (.type "object") = some true) && (He.eqO (findIn K (.ref (He.ga K x)) "__ne__") (some (some (.builtin "object.__ne__"))) && ((["NoneType", "int", "str", "list", "tuple", "dict"] : List String).all fun T => decide (PySem.W.subIn K (.ref (He.ga K x)) (.type T) = some false)))
  | .nsq x => PySem.W.noSeq K (He.ga K x)
  | .any f => f K
  | .isn x => (["NoneType", "int", "str", "list", "tuple", "dict"] : List String).all fun T => decide (PySem.W.kitOne K (.type T) (.ref (He.ga K x)) = some false)
  | .ise x => He.eqO (findIn K (.ref (He.ga K x)) "__getattribute__") (some (some (.builtin "BaseException.__getattribute__"))) && (He.eqO (findIn K (.ref (He.ga K x)) "__getattr__") (some none) && (decide (PySem.W.subIn K (.ref (He.ga K x)) (.type "BaseException") = some true) && (PySem.W.hasDictIn K (He.ga K x) && (He.eqO (findIn K (.ref (He.ga K x)) "__class__") (some (some (.builtin "object.__class__"))) && (He.eqO (PySem.W.specialIn K (.builtin "object.__class__") "__get__") (some (some (.builtin "getset_descriptor.__get__"))) && (decide (PySem.W.takesIn K (.builtin "object.__class__") = some true) && (decide (PySem.W.mroIn K (He.ga K x) (.type "object") = some true) && decide (PySem.W.kitOne K (.ref (He.ga K x)) (.ref (He.ga K "BundleError")) = some true))))))))
abbrev AlH : Type := Bool × List He.FnV
def obsK (fk : List Fk) (fn : List DfR) (K : Frag) : AlH := ((fk.all fun f => f.ok K) && fn.all fun d => d.ok K, fn.map fun d => fnV K (d.ad K))
def valK (fn : List DfR) : AlH := (true, fn.map DfR.val)
def SaysK (fk : List Fk) (fn : List DfR) (K : Frag) : Prop := obsK fk fn K = valK fn
def kidsO (o : Obj) : List Addr := match o.data with
  | .dict es _ => es.toList.flatMap fun e => He.refV e.val
  | .func fd => He.refV fd.code ++ He.refV fd.kwdefaults
  | .cls cd => [cd.ns]
  | .fields vs => vs.toList.flatMap He.refV
  | _ => []
def kidsG (g : Addr → Option Obj) (as : List Addr) : List Addr := as.flatMap fun a => match g a with
  | some o => kidsO o
  | none => []
def lvls (g : Addr → Option Obj) : Nat → List Addr → List Addr
  | 0, _ => []
  | k + 1, as => kidsG g as ++ lvls g k (kidsG g as)
def smallF (g : Addr → Option Obj) : Frag := He.frG g (mainGlobals :: cStatics :: lvls g 5 [mainGlobals])
def obsSG (fk : List Fk) (fn : List DfR) (g : Addr → Option Obj) : AlH := obsK fk fn (smallF g)
def hookS (fk : List Fk) (fn : List DfR) : PySem.W.Hook where
  α := AlH
  obs := fun s => obsSG fk fn s.heap.get?
  val := fun _ => valK fn
  says := fun _ h => ∃ K : Frag, K.In h ∧ SaysK fk fn K
  of := fun _ _ e => ⟨_, He.frG_in, e⟩
  keeps := fun _ _ _ ⟨K, hK, c⟩ k => ⟨K, PySem.W.Frag.In.keeps hK k, c⟩
theorem obsSG_eq {fk : List Fk} {fn : List DfR} (s : PySem.W.SharedT) : obsSG fk fn (HandSHeadRun.getT s) = (hookS fk fn).obs s.abs := by
  have e : HandSHeadRun.getT s = s.abs.heap.get? := funext (HandSHeadRun.getT_eq s)
  show _ = obsSG fk fn s.abs.heap.get?
  rw [e]
end B
namespace B.Hd
open PySem L2 B
def fk : List Fk := ([.glo "_law_start", .glo "_law_take", .glo "_law_drawn", .glo "_law_round", .glo "_law_market", .glo "_law_due", .glo "check_program", .glo "common_divisor", .glo "best_mix", .glo "_law_told", .glo "_law_whole", .glo "_law_dot", .glo "_law_divisor", .glo "_law_right", .glo "law", .bce, .glo "BadCount", .noat "BadCount" "count", .exi "BadCount", .glo "BadBound", .noat "BadBound" "bound", .exi "BadBound", .glo "Tableau", .cls "Tableau", .noat "Tableau" "width"] : List Fk) ++ ([.noat "Tableau" "lines", .noat "Tableau" "last", .noat "Tableau" "basis", .noat "Tableau" "scale", .ini "Tableau", .meth "Tableau" "entering", .meth "Tableau" "is_nearer", .meth "Tableau" "leaving", .meth "Tableau" "reduced", .meth "Tableau" "turn", .meth "Tableau" "mix_numbers", .meth "Tableau" "endless_numbers", .ers (fun K => fun i => if i = 4 then He.ga K "BadCount" else if i = 19 then He.ga K "BadBound" else 0) [4, 19], .free "len", .free "abs", .free "int", .free "str", .free "bool", .free "list", .free "tuple", .free "dict", .free "range", .free "enumerate", .free "zip", .free "sorted"] : List Fk) ++ ([.free "sum", .free "max", .free "min", .free "all", .free "isinstance"] : List Fk)
def fn : List DfR := ([⟨fun K => He.ga K "_law_start", "_law_start", "_law_start", s_l_start⟩, ⟨fun K => He.ga K "_law_take", "_law_take", "_law_take", s_l_take⟩, ⟨fun K => He.ga K "_law_drawn", "_law_drawn", "_law_drawn", s_l_drawn⟩, ⟨fun K => He.ga K "_law_round", "_law_round", "_law_round", s_l_round⟩, ⟨fun K => He.ga K "_law_market", "_law_market", "_law_market", s_l_market⟩, ⟨fun K => He.ga K "_law_due", "_law_due", "_law_due", s_l_due⟩, ⟨fun K => He.ga K "check_program", "check_program", "check_program", s_check_program⟩, ⟨fun K => He.ga K "common_divisor", "common_divisor", "common_divisor", s_common_divisor⟩, ⟨fun K => He.ga K "best_mix", "best_mix", "best_mix", s_best_mix⟩, ⟨fun K => He.ga K "_law_told", "_law_told", "_law_told", s_l_told⟩, ⟨fun K => He.ga K "_law_whole", "_law_whole", "_law_whole", s_l_whole⟩, ⟨fun K => He.ga K "_law_dot", "_law_dot", "_law_dot", s_l_dot⟩, ⟨fun K => He.ga K "_law_divisor", "_law_divisor", "_law_divisor", s_l_divisor⟩, ⟨fun K => He.ga K "_law_right", "_law_right", "_law_right", s_l_right⟩, ⟨fun K => He.ga K "law", "law", "law", s_law⟩, ⟨fun K => He.ma K (He.ga K "BadCount") "__init__", "__init__", "BadCount.__init__", s_BadCount___init__⟩, ⟨fun K => He.ma K (He.ga K "BadBound") "__init__", "__init__", "BadBound.__init__", s_BadBound___init__⟩, ⟨fun K => He.ma K (He.ga K "Tableau") "__init__", "__init__", "Tableau.__init__", s_Tableau___init__⟩, ⟨fun K => He.ma K (He.ga K "Tableau") "entering", "entering", "Tableau.entering", s_Tableau_entering⟩, ⟨fun K => He.ma K (He.ga K "Tableau") "is_nearer", "is_nearer", "Tableau.is_nearer", s_Tableau_is_nearer⟩, ⟨fun K => He.ma K (He.ga K "Tableau") "leaving", "leaving", "Tableau.leaving", s_Tableau_leaving⟩, ⟨fun K => He.ma K (He.ga K "Tableau") "reduced", "reduced", "Tableau.reduced", s_Tableau_reduced⟩, ⟨fun K => He.ma K (He.ga K "Tableau") "turn", "turn", "Tableau.turn", s_Tableau_turn⟩, ⟨fun K => He.ma K (He.ga K "Tableau") "mix_numbers", "mix_numbers", "Tableau.mix_numbers", s_Tableau_mix_numbers⟩, ⟨fun K => He.ma K (He.ga K "Tableau") "endless_numbers", "endless_numbers", "Tableau.endless_numbers", s_Tableau_endless_numbers⟩] : List DfR)
def loose : List PySem.Str := (["__name__", "BundleError", "BadCount", "BadBound", "common_divisor", "check_program", "Tableau", "best_mix", "_law_start", "_law_take", "_law_divisor", "_law_dot", "_law_whole", "_law_right", "_law_told", "_law_due", "_law_drawn", "_law_market", "_law_round"] : List PySem.Str)
end B.Hd
namespace B.Hd
open PySem PySem.Spec PyProof.Rows L2 B
abbrev R : PySem.W.OpenRow := PySem.W.OpenLaw.row PySem.Challenge.rw_bundlekinds_k83_best_mix
abbrev hk : PySem.W.Hook := hookS fk fn
def ob (s : PySem.W.SharedT) : AlH := obsSG fk fn (HandSHeadRun.getT s)
theorem ob_eq (s : PySem.W.SharedT) : ob s = hk.obs s.abs := obsSG_eq s
set_option maxHeartbeats 0 in
theorem run (w : World) : HandSHeadRun.RunEq R (PySem.W.view R.prog [21]) hk ob 20000 loose w := by
  intro os
  kernel_rfl
end B.Hd
namespace B
open PySem L2
open PySem.Spec PyProof.Rows
/-! B0: readings that are the run itself (WE, WT, WA, WS, WB), so that a body is read from the left, statement by statement -/
section
variable {X : Cx} {e : Expr} {es : List Expr} {s : Stmt} {ss : List Stmt} {σ : L2.St} {H : Hp} {D D' : Ends}
def WE (X : Cx) (e : Expr) : TE := fun σ H Q => ∀ (pins : List (Addr × Obj)) (s : Shared), Inv X pins σ H s → wpAny (model X.prog X.w) X.A (eval e X.env) (EP X pins σ Q) X.xe s
def WT (X : Cx) (e : Expr) : TT := fun σ H Q => ∀ (pins : List (Addr × Obj)) (s : Shared), Inv X pins σ H s → wpAny (model X.prog X.w) X.A (isTrue e X.env (eval e X.env)) (TP X pins σ Q) X.xe s
def WA (X : Cx) (es : List Expr) : TA := fun σ H Q => ∀ (pos : Pos) (pins : List (Addr × Obj)) (s : Shared), Inv X pins σ H s → wpAny (model X.prog X.w) X.A (spliced (backTo pos (starEach es X.env))) (AP X pins σ Q) X.xe s
def WS (X : Cx) (st : Stmt) : TS := fun D σ H => ∀ (pins : List (Addr × Obj)) (s : Shared), Inv X pins σ H s → wpAny (model X.prog X.w) X.A (exec st X.env) (SP X pins D) X.xe s
def WB (X : Cx) (ss : List Stmt) : TS := fun D σ H => ∀ (pins : List (Addr × Obj)) (s : Shared), Inv X pins σ H s → wpAny (model X.prog X.w) X.A (execs ss X.env) (SP X pins D) X.xe s
theorem we : PE X e (WE X e) := ⟨fun pins s _ _ _ I h => h pins s I⟩
theorem wt : PT X e (WT X e) := ⟨fun pins s _ _ _ I h => h pins s I⟩
theorem ws : PS X s (WS X s) := ⟨fun pins s _ _ _ I h => h pins s I⟩
theorem wb : PSs X ss (WB X ss) := ⟨fun pins s _ _ _ I h => h pins s I⟩
theorem WE.of {t : TE} {Q : VK} (p : PE X e t) (h : t σ H Q) : WE X e σ H Q := fun pins s I => p.run pins s σ H Q I h
theorem WT.of {t : TT} {Q : Bool → Hp → Prop} (p : PT X e t) (h : t σ H Q) : WT X e σ H Q := fun pins s I => p.run pins s σ H Q I h
theorem WA.of {t : TA} {Q : List V → Hp → Prop} (p : PA X es t) (h : t σ H Q) : WA X es σ H Q := fun pos pins s I => p.run pos pins s σ H Q I h
theorem WS.of {t : TS} (p : PS X s t) (h : t D σ H) : WS X s D σ H := fun pins s' I => p.run pins s' σ H D I h
theorem WB.of {t : TS} (p : PSs X ss t) (h : t D σ H) : WB X ss D σ H := fun pins s' I => p.run pins s' σ H D I h
theorem WE.mono {Q Q' : VK} (h : WE X e σ H Q) (k : ∀ v H', Q v H' → Q' v H') : WE X e σ H Q' := fun pins s I =>
  thn (h pins s I) fun _ _ ⟨v, H', I', r, q⟩ => ⟨v, H', I', r, k v H' q⟩
theorem WT.mono {Q Q' : Bool → Hp → Prop} (h : WT X e σ H Q) (k : ∀ v H', Q v H' → Q' v H') : WT X e σ H Q' := fun pins s I =>
  thn (h pins s I) fun b _ ⟨H', I', q⟩ => ⟨H', I', k b H' q⟩
theorem WB.mono (h : WB X ss D σ H) (hn : ∀ σ' H', D.nx σ' H' → D'.nx σ' H') (hr : ∀ v H', D.rt v H' → D'.rt v H') (hb : ∀ σ' H', D.bk σ' H' → D'.bk σ' H') (hc : ∀ σ' H', D.ct σ' H' → D'.ct σ' H') : WB X ss D' σ H := fun pins s I =>
  thn (h pins s I) fun f s' q => by
    cases f with
    | next => obtain ⟨σ', H', I', q⟩ := q; exact ⟨σ', H', I', hn _ _ q⟩
    | brk => obtain ⟨σ', H', I', q⟩ := q; exact ⟨σ', H', I', hb _ _ q⟩
    | cont => obtain ⟨σ', H', I', q⟩ := q; exact ⟨σ', H', I', hc _ _ q⟩
    | ret v => obtain ⟨v, σ', H', I', r, q⟩ := q; exact ⟨v, σ', H', I', r, hr _ _ q⟩
/-- the next statement -/
theorem nxt {t : TS} (p : PS X s t) (h : t { D with nx := WB X ss D } σ H) : WB X (s :: ss) D σ H := WB.of (pss_cons p wb) h
theorem last {t : TS} (p : PS X s t) (h : t D σ H) : WB X [s] D σ H := WB.of (pss_one p) h
theorem fin (h : D.nx σ H) : WB X [] D σ H := WB.of pss_nil h
/-- the next statement, what is behind it by a letter -/
theorem nxtN {t : TS} (p : PS X s t) (h : ∀ N : L2.St → Hp → Prop, (∀ σ' H', WB X ss D σ' H' → N σ' H') → t { D with nx := N } σ H) : WB X (s :: ss) D σ H := nxt p (h _ fun _ _ q => q)
/-- .. by what holds between -/
theorem nxtC {t : TS} (p : PS X s t) (M : L2.St → Hp → Prop) (h : t { D with nx := M } σ H) (k : ∀ σ' H', M σ' H' → WB X ss D σ' H') : WB X (s :: ss) D σ H := WB.of (Evl.pss_cut p wb) ⟨M, h, k⟩
/-! ### o[i] of a list, for o[i] += e -/
def rGetL (K : PySem.W.Frag) : V → V → Hp → VK → Prop := fun o i H Q => ∃ (p : Addr) (xs : List V) (j : Nat) (v : V), o = .ref p ∧ i = .int (j : Int) ∧ SqL K H p xs ∧ xs[j]? = some v ∧ Q v H
/-! ### a text from behind -/
def revS (z : Str) : Str := ⟨z.cps.toList.reverse.toArray⟩
def tRevS (te : TE) : TE := fun σ H Q => te σ H fun x H1 => ∃ z : Str, x = .str z ∧ z.length ≤ sizeLine ∧ Q (.str (revS z)) H1
end
/-! ### a def of the text, with its promise -/
structure Df (P : Program) (w : World) (K : PySem.W.Frag) (mg : Str → Option Value) (base : Heap) (CX : CXT) (k : Nat) (x : Str) (ps : List Str) (sp : Sp) : Prop where
  ex : ∃ (f : Addr) (fd : FuncData), mg x = some (.ref f) ∧ PySem.W.keepIn K (.ref f) = true ∧ Binds K fd ps [] ∧ FnOk P w K mg base CX k f fd ps sp
section
variable {X : Cx} {CX : CXT} {k : Nat} {x : Str} {ps : List Str} {sp : Sp} {E : XK} {e : Expr} {es : List Expr} {t tk : TA} {p pos : Pos} {kws : List Keyword}
theorem pcx (F : Df X.prog X.w X.K X.mg X.base CX k x ps sp) (hr : Room k X.A) (hx : Passes CX X E) (ha : PA X (e :: es) t) (hg : Gl X x := by rfl) (hdb : (x == ("__debug__" : Str)) = false := by decide) (he : starEach (e :: es) X.env = (false, eval e X.env) :: starEach es X.env := by rfl) (hpl : (backTo pos (starEach es X.env)).any (·.1) = false := by rfl) :
    PE X (.Call (.Name x p) (e :: es) [] pos) (tCall sp [] E t) := by
  obtain ⟨f, fd, h1, h2, h3, h4⟩ := F.ex
  exact pe_call h4 hr hg h1 h2 h3 .nil hx ha hdb he hpl
theorem pc (F : Df X.prog X.w X.K X.mg X.base CX0 k x ps sp) (hr : Room k X.A) (ha : PA X (e :: es) t) (hg : Gl X x := by rfl) (hdb : (x == ("__debug__" : Str)) = false := by decide) (he : starEach (e :: es) X.env = (false, eval e X.env) :: starEach es X.env := by rfl) (hpl : (backTo pos (starEach es X.env)).any (·.1) = false := by rfl) :
    PE X (.Call (.Name x p) (e :: es) [] pos) (tCall sp [] E0 t) := pcx F hr pass0 ha hg hdb he hpl
end
/-- a def with how keywords bind to it: n values by place, then the keywords ks -/
structure DfK (P : Program) (w : World) (K : PySem.W.Frag) (mg : Str → Option Value) (base : Heap) (CX : CXT) (k : Nat) (x : Str) (ps : List Str) (n : Nat) (ks : List Str) (g : List Value → List Value → List Value) (gV : List V → List V → List V) (sp : Sp) : Prop where
  ex : ∃ (f : Addr) (fd : FuncData), mg x = some (.ref f) ∧ PySem.W.keepIn K (.ref f) = true ∧ KBn K fd ps n ks g gV ∧ FnOk P w K mg base CX k f fd ps sp
section
variable {X : Cx} {CX : CXT} {k n : Nat} {x : Str} {ps ks : List Str} {sp : Sp} {E : XK} {e : Expr} {es : List Expr} {t tk : TA} {p pos : Pos} {kws : List Keyword} {g : List Value → List Value → List Value} {gV : List V → List V → List V}
end
/-! ### built-ins that the text leaves alone -/
structure Bt (mg : Str → Option Value) : Prop where
  len : mg "len" = none
  abs : mg "abs" = none
  int : mg "int" = none
  str : mg "str" = none
  bool : mg "bool" = none
  list : mg "list" = none
  tuple : mg "tuple" = none
  dict : mg "dict" = none
  range : mg "range" = none
  enumerate : mg "enumerate" = none
  zip : mg "zip" = none
  sorted : mg "sorted" = none
  sum : mg "sum" = none
  max : mg "max" = none
  min : mg "min" = none
  all : mg "all" = none
  isinstance : mg "isinstance" = none
end B
namespace B
open PySem L2
/-! B1: heaps that grow; the drawing state of a law -/
section
variable {H H' H2 : Hp} {p a b : Addr} {o u : HO} {K : PySem.W.Frag} {xs : List V}
theorem sm_new (h : H p = none) : Same H (upd H p o) := fun a u e => by
  rw [upd_ne (ne_of_none e h)]
  exact e
@[elab_as_elim] theorem upd_gen {motive : Hp → Prop} (np : H p = none) (h : ∀ H1, Same H H1 → H1 p = some o → motive H1) : motive (upd H p o) := h _ (sm_new np) upd_same
theorem sm_t (e : Same H H') (h : SqT K H a xs) : SqT K H' a xs := by
  rcases h with (h | ⟨o, h⟩) | h
  · exact .inl (.inl (e _ _ h))
  · exact .inl (.inr ⟨o, e _ _ h⟩)
  · exact .inr h
theorem sm_l (e : Same H H') (h : SqL K H a xs) : SqL K H' a xs := e.seq h
theorem sqL (h : H a = some (.lst xs)) : SqL K H a xs := Or.inl (Or.inl h)
theorem sqT (h : H a = some (.tup xs)) : SqT K H a xs := Or.inl (Or.inl h)
/-- the objects of the drawing state at p: the state itself and its lists -/
def Own (H : Hp) (p b : Addr) : Prop := b = p ∨ ∃ x y n, H p = some (.lst [x, y, n]) ∧ (x = .ref b ∨ y = .ref b)
structure Kp (p : Addr) (H H' : Hp) : Prop where
  keep : ∀ b o, H b = some o → ¬ Own H p b → H' b = some o
  own : ∀ b, Own H' p b → Own H p b ∨ H b = none
  has : ∀ b o, H b = some o → ∃ o', H' b = some o'
theorem Kp.refl (p : Addr) (H : Hp) : Kp p H H := ⟨fun _ _ h _ => h, fun _ h => .inl h, fun _ o h => ⟨o, h⟩⟩
theorem Kp.free (x : Kp p H H') (h : H' b = none) : H b = none := by
  cases q : H b with
  | none => rfl
  | some o =>
    obtain ⟨o', e⟩ := x.has b o q
    rw [h] at e; cases e
theorem Kp.trans (x : Kp p H H') (y : Kp p H' H2) : Kp p H H2 := by
  refine ⟨fun b o h n => y.keep b o (x.keep b o h n) fun z => ?_, fun b z => ?_, fun b o h => ?_⟩
  · rcases x.own b z with w | w
    · exact n w
    · rw [h] at w; cases w
  · rcases y.own b z with w | w
    · exact x.own b w
    · cases q : H b with
      | none => exact .inr rfl
      | some u =>
        by_cases c : Own H p b
        · exact .inl c
        · rw [x.keep b u q c] at w; cases w
  · obtain ⟨o1, h1⟩ := x.has b o h
    exact y.has b o1 h1
/-- an object that is none of the state's -/
def At (p : Addr) (H : Hp) (b : Addr) (o : HO) : Prop := H b = some o ∧ ¬ Own H p b
theorem At.kp (h : At p H b o) (k : Kp p H H') : At p H' b o := by
  refine ⟨k.keep b o h.1 h.2, fun z => ?_⟩
  rcases k.own b z with w | w
  · exact h.2 w
  · rw [h.1] at w; cases w
theorem own_same (e : H' p = H p) : Own H' p b ↔ Own H p b := by
  unfold Own
  rw [e]
/-- what grows keeps all -/
theorem Kp.same (e : Same H H') (hp : H p = some o) : Kp p H H' :=
  ⟨fun b o h _ => e b o h, fun b z => .inl ((own_same ((e _ _ hp).trans hp.symm)).mp z), fun b o h => ⟨o, e b o h⟩⟩
end
end B
namespace B
open PySem L2
open PySem.Spec PyProof.Rows
/-! B2: data (PyData) that values stand for; ==, !=, in over them -/
mutual
theorem dp_plain {K : PySem.W.Frag} {H : Hp} : ∀ (d : PyData) (v : V), Dp K H v d → d.plain = true
  | .none, _, h => rfl
  | .bool _, _, h => rfl
  | .int _, _, h => rfl
  | .str _, _, h => rfl
  | .list ds, v, h => by
    cases h with
    | lst h1 h2 => exact dp_plainAll ds _ h2
  | .tuple ds, v, h => by
    cases h with
    | tup h1 h2 => exact dp_plainAll ds _ h2
  | .dict _, _, h => by cases h
theorem dp_plainAll {K : PySem.W.Frag} {H : Hp} : ∀ (ds : List PyData) (vs : List V), DpAll K H vs ds → PyData.plainAll ds = true
  | [], _, h => rfl
  | d :: ds, vs, h => by
    cases h with
    | cons h1 h2 => simp only [PyData.plainAll, dp_plain d _ h1, dp_plainAll ds _ h2, Bool.and_self]
end
mutual
theorem dp_same {K : PySem.W.Frag} {H H' : Hp} (e : Same H H') : ∀ (d : PyData) (v : V), Dp K H v d → Dp K H' v d
  | .none, _, h => by cases h; exact .non
  | .bool _, _, h => by cases h; exact .bl _
  | .int _, _, h => by cases h; exact .int _
  | .str _, _, h => by cases h; exact .str _
  | .list ds, v, h => by
    cases h with
    | lst h1 h2 => exact .lst (sm_l e h1) (dp_sameAll e ds _ h2)
  | .tuple ds, v, h => by
    cases h with
    | tup h1 h2 => exact .tup (sm_t e h1) (dp_sameAll e ds _ h2)
  | .dict _, _, h => by cases h
theorem dp_sameAll {K : PySem.W.Frag} {H H' : Hp} (e : Same H H') : ∀ (ds : List PyData) (vs : List V), DpAll K H vs ds → DpAll K H' vs ds
  | [], _, h => by cases h; exact .nil
  | d :: ds, vs, h => by
    cases h with
    | cons h1 h2 => exact .cons (dp_same e d _ h1) (dp_sameAll e ds _ h2)
end
/-- what is no list stays -/
def NLk (H H' : Hp) : Prop := ∀ b u, H b = some u → (∀ xs, u ≠ .lst xs) → H' b = some u
theorem NLk.refl (H : Hp) : NLk H H := fun _ _ h _ => h
theorem NLk.trans {H H1 H2 : Hp} (x : NLk H H1) (y : NLk H1 H2) : NLk H H2 := fun b u h n => y b u (x b u h n) n
theorem NLk.same {H H' : Hp} (e : Same H H') : NLk H H' := fun b u h _ => e b u h
theorem NLk.upd {H H' : Hp} {a : Addr} {xs : List V} {o : HO} (x : NLk H H') (h : H' a = some (.lst xs)) : NLk H (upd H' a o) := fun b u hb n => by
  have h1 := x b u hb n
  rw [upd_ne (fun e => by rw [e, h] at h1; cases h1; exact n xs rfl)]
  exact h1
theorem ts_t {K : PySem.W.Frag} {H H' : Hp} {a : Addr} {xs : List V} (e : NLk H H') (h : SqT K H a xs) : SqT K H' a xs := by
  rcases h with (h | ⟨o, h⟩) | h
  · exact .inl (.inl (e _ _ h fun _ z => nomatch z))
  · exact .inl (.inr ⟨o, e _ _ h fun _ z => nomatch z⟩)
  · exact .inr h
mutual
/-- no list lies within -/
def noL : PyData → Bool
  | .list _ => false
  | .tuple xs => noLs xs
  | .dict _ => false
  | _ => true
def noLs : List PyData → Bool
  | [] => true
  | x :: xs => noL x && noLs xs
end
mutual
theorem dp_ts {K : PySem.W.Frag} {H H' : Hp} (e : NLk H H') : ∀ (d : PyData) (v : V), noL d = true → Dp K H v d → Dp K H' v d
  | .none, _, _, h => by cases h; exact .non
  | .bool _, _, _, h => by cases h; exact .bl _
  | .int _, _, _, h => by cases h; exact .int _
  | .str _, _, _, h => by cases h; exact .str _
  | .list ds, v, n, h => by cases n
  | .tuple ds, v, n, h => by
    cases h with
    | tup h1 h2 => exact .tup (ts_t e h1) (dp_tsAll e ds _ n h2)
  | .dict _, _, _, h => by cases h
theorem dp_tsAll {K : PySem.W.Frag} {H H' : Hp} (e : NLk H H') : ∀ (ds : List PyData) (vs : List V), noLs ds = true → DpAll K H vs ds → DpAll K H' vs ds
  | [], _, _, h => by cases h; exact .nil
  | d :: ds, vs, n, h => by
    have n' : noL d = true ∧ noLs ds = true := by simpa [noLs] using n
    cases h with
    | cons h1 h2 => exact .cons (dp_ts e d _ n'.1 h1) (dp_tsAll e ds _ n'.2 h2)
end
theorem eqv_self {K : PySem.W.Frag} {H : Hp} {v : V} {d : PyData} (h : Dp K H v d) : PyData.eqv d d = true := SeqAt.eqv_refl_plain d (dp_plain _ _ h)
section
variable {X : Cx} {K : PySem.W.Frag} {H H' : Hp}
theorem Dp.same {v : V} {d : PyData} (h : Dp K H v d) (e : Same H H') : Dp K H' v d := dp_same e d v h
theorem dp_ints : ∀ ns : List Int, DpAll K H (ns.map V.int) (ns.map PyData.int)
  | [] => .nil
  | n :: ns => .cons (.int n) (dp_ints ns)
theorem dpL {a : Addr} {xs : List V} {ds : List PyData} (h : H a = some (.lst xs)) (k : DpAll K H xs ds) : Dp K H (.ref a) (.list ds) := .lst (sqL h) k
theorem dpT {a : Addr} {xs : List V} {ds : List PyData} (h : H a = some (.tup xs)) (k : DpAll K H xs ds) : Dp K H (.ref a) (.tuple ds) := .tup (sqT h) k
def rEqP (K : PySem.W.Frag) : R2 := fun x y H Q => ∃ d e, Dp K H x d ∧ Dp K H y e ∧ (d.depth ≤ 60 ∨ e.depth ≤ 60) ∧ Q (.bl (PyData.eqv d e)) H
def rNeP (K : PySem.W.Frag) : R2 := fun x y H Q => ∃ d e, Dp K H x d ∧ Dp K H y e ∧ (d.depth ≤ 60 ∨ e.depth ≤ 60) ∧ Q (.bl (!PyData.eqv d e)) H
theorem op_eqP (hu : X.A.units + 64 < cLine) : OpR X (compareOp .Eq) (rEqP X.K) := by
  intro pins s σ H x y v u Q I rx ry h
  obtain ⟨d, e, hd, he, hz, q⟩ := h
  obtain ⟨as, r1⟩ := Dp.reads I d x v hd rx
  obtain ⟨bs, r2⟩ := Dp.reads I e y u he ry
  exact SeqAt.eq_plain r1 r2 (dp_plain _ _ hd) (dp_plain _ _ he) (by omega) ⟨.bl _, H, I, rfl, q⟩
theorem op_neP (hu : X.A.units + 64 < cLine) : OpR X (compareOp .NotEq) (rNeP X.K) := by
  intro pins s σ H x y v u Q I rx ry h
  obtain ⟨d, e, hd, he, hz, q⟩ := h
  obtain ⟨as, r1⟩ := Dp.reads I d x v hd rx
  obtain ⟨bs, r2⟩ := Dp.reads I e y u he ry
  exact SeqAt.ne_plain r1 r2 (dp_plain _ _ hd) (dp_plain _ _ he) (by omega) ⟨.bl _, H, I, rfl, q⟩
/-- x in a list, a tuple of data -/
def rInP (K : PySem.W.Frag) (neg : Bool) : R2 := fun x y H Q => ∃ d ds, Dp K H x d ∧ (Dp K H y (.list ds) ∨ Dp K H y (.tuple ds)) ∧ (d.depth ≤ 60 ∨ PyData.depthAll ds ≤ 60) ∧ Q (.bl (if neg then !(ds.any fun z => PyData.eqv z d) else ds.any fun z => PyData.eqv z d)) H
/-! ### what == says of lists of texts, of ints -/
theorem depth_ints : ∀ xs : List Int, PyData.depthAll (xs.map PyData.int) = 0
  | [] => rfl
  | x :: xs => by simp [PyData.depthAll, PyData.depth, depth_ints xs]
end
end B
namespace B
open PySem L2
def spLaw (K : PySem.W.Frag) : Sp := fun vs H Q _ => ∃ (a : Addr) (ns : List Int), vs = [.ref a] ∧ SqL K H a (ns.map V.int) ∧ ns.length ≤ 63 ∧ ∀ H', Q (.bl true) H'
/-- what the top has left of a def -/
structure Dt (K : PySem.W.Frag) (x : Str) (st : Stmt) (f : Addr) : Prop where
  a : PySem.W.nsIn K mainGlobals x = some (some (.ref f))
  l : ∃ (oc : Value) (od : Option Addr) (kV doc pm : Value) (an : Option Addr) (cdv ct : Value) (osl : Array (Option Value)), K.lookup f = some ⟨oc, od, .func (PySem.W.fnOf x x (defArgs st) (defBody st) (defScope st) .none kV doc pm an cdv ct), osl⟩ ∧ PySem.W.codeIn K cdv x = true
  k : PySem.W.keepIn K (.ref f) = true
theorem Dt.fun {K : PySem.W.Frag} {x : Str} {st : Stmt} {f : Addr} (d : Dt K x st f) : ∃ fd, Fun K x x st f fd ∧ ∃ (kV doc pm : Value) (an : Option Addr) (cdv ct : Value), fd = PySem.W.fnOf x x (defArgs st) (defBody st) (defScope st) .none kV doc pm an cdv ct := by
  obtain ⟨oc, od, kV, doc, pm, an, cdv, ct, osl, l, c⟩ := d.l
  exact ⟨_, fun_mk l c d.k, kV, doc, pm, an, cdv, ct, rfl⟩
section
variable {P : Program} {w : World} {K : PySem.W.Frag} {mg : Str → Option Value} {base : Heap} {CX : CXT} {k : Nat} {x : Str} {st : Stmt} {f : Addr} {ps : List Str} {sp : Sp}
/-- a def with its promise -/
theorem df_mk (d : Dt K x st f) (hm : mg x = some (.ref f)) (G : ∀ fd, Fun K x x st f fd → FnOk P w K mg base CX k f fd ps sp)
    (hb : ∀ (kV doc pm : Value) (an : Option Addr) (cdv ct : Value) (us : List Value), us.length = ps.length → bindArgs (PySem.W.fnOf x x (defArgs st) (defBody st) (defScope st) .none kV doc pm an cdv ct) ⟨us, []⟩ = pure (ps.zip us)) : Df P w K mg base CX k x ps sp := by
  obtain ⟨fd, F, kV, doc, pm, an, cdv, ct, e⟩ := d.fun
  exact ⟨f, fd, hm, d.k, F.binds hb, G fd F⟩
theorem dfk_mk {n : Nat} {ks : List Str} {g : List Value → List Value → List Value} {gV : List V → List V → List V} (d : Dt K x st f) (hm : mg x = some (.ref f)) (G : ∀ fd, Fun K x x st f fd → FnOk P w K mg base CX k f fd ps sp)
    (hb : ∀ (kV doc pm : Value) (an : Option Addr) (cdv ct : Value), KBn K (PySem.W.fnOf x x (defArgs st) (defBody st) (defScope st) .none kV doc pm an cdv ct) ps n ks g gV) : DfK P w K mg base CX k x ps n ks g gV sp := by
  obtain ⟨fd, F, kV, doc, pm, an, cdv, ct, e⟩ := d.fun
  subst e
  exact ⟨f, _, hm, d.k, hb kV doc pm an cdv ct, G _ F⟩
end
/-- the last end: a law whose promise is spLaw -/
theorem walk {l : PySem.W.OpenLaw} {k : Nat} {q : Program} {loose : List Str} {XP : (Str → Option Value) → Heap → Prop} {YP : World → Heap → Prop} {d : DefRec} {K : Params → PySem.W.Frag} (hr : Room k callerA) (hn : l.most = some 63) (hdf : d.params.defaults = [])
    (hY : ∀ (w : World) (h : Heap), YP w h → (K w.params).In h)
    (F : ∀ (w : World) (mg : Str → Option Value) (fa : Addr) (h : Heap), (K w.params).In h → h.Ns mainGlobals mg → mg d.name = some (.ref fa) →
      ∃ fd : FuncData, (∀ (s : Shared) (u : Value), BindsTo s fd ⟨[u], []⟩ [("_law_script", u)]) ∧ ∀ base : Heap, (K w.params).In base → base.Ns mainGlobals mg → FnOk l.prog w (K w.params) mg base CX0 k fa fd ["_law_script"] (spLaw (K w.params))) :
    PySem.W.WalkO q loose XP YP l.row.toRowW d [] (fun f vs => PySem.call f vs) :=
  L2.walk_of (n := 63) (k := k) (x := "_law_script") (CX := fun _ => CX0) (sp := fun w => spLaw (K w.params)) hn (by decide) hdf hr hY F (fun _ _ a ns hl _ hS => ⟨a, ns, rfl, hS, hl, fun _ => rfl⟩) fun _ _ _ _ _ z => z
/-- the built-ins -/
def blts : List Str := ["len", "abs", "int", "str", "bool", "list", "tuple", "dict", "range", "enumerate", "zip", "sorted", "sum", "max", "min", "all", "isinstance"]
/-- what the top has left of an error class with one field -/
structure Dm (K : PySem.W.Frag) (mg : Str → Option Value) (x qual : Str) (C : Addr) (f : Str) (st : Stmt) (fI : Addr) : Prop where
  g : mg x = some (.ref C)
  no : PySem.W.findIn K (.ref C) f = some none
  i : PySem.W.findIn K (.ref C) "__init__" = some (some (.ref fI))
  t : PySem.W.typeIn K (.ref fI) = some (.type "function")
  l : ∃ (oc : Value) (od : Option Addr) (kV doc pm : Value) (an : Option Addr) (cdv ct : Value) (osl : Array (Option Value)), K.lookup fI = some ⟨oc, od, .func (PySem.W.fnOf "__init__" qual (defArgs st) (defBody st) (defScope st) .none kV doc pm an cdv ct), osl⟩ ∧ PySem.W.codeIn K cdv qual = true
  k : PySem.W.keepIn K (.ref fI) = true
theorem Dm.fun {K : PySem.W.Frag} {mg : Str → Option Value} {x qual f : Str} {C fI : Addr} {st : Stmt} (d : Dm K mg x qual C f st fI) : ∃ fd, Fun K "__init__" qual st fI fd := by
  obtain ⟨oc, od, kV, doc, pm, an, cdv, ct, osl, l, c⟩ := d.l
  exact ⟨_, fun_mk l c d.k⟩
end B
namespace B
open PySem L2
/-! names; loops over texts -/
abbrev LET : Str := "abcdefghijklmnopqrstuvwxyz"
abbrev DIG : Str := "0123456789"
/-- a sign of a name -/
def alnum (c : Nat) : Bool := decide (c ∈ LET.cps.toList) || decide (c ∈ DIG.cps.toList)
/-- a name -/
def vn (w : Str) : Bool := decide (1 ≤ w.length ∧ w.length ≤ 6) && ((w.cps[0]?).any fun c => decide (c ∈ LET.cps.toList)) && w.cps.toList.all alnum
theorem at_lst {α : Type} {xs : List α} {r : Int} (h0 : 0 ≤ r) (h1 : r < xs.length) : ∃ c, atI xs r = some c ∧ c ∈ xs := by
  obtain ⟨j, rfl⟩ : ∃ j : Nat, r = (j : Int) := ⟨r.toNat, (Int.toNat_of_nonneg h0).symm⟩
  have hj : j < xs.length := by omega
  exact ⟨xs[j], atI_nat (List.getElem?_eq_getElem hj), List.getElem_mem hj⟩
end B
namespace B
open PySem L2
open PySem.Spec PyProof.Rows
/-! own errors: the classes' facts, raising one with one field, a try with several named clauses -/
/-- the class object at C is an exception class over ValueError -/
theorem oexB_ok {K : PySem.W.Frag} {C : Addr} (q : oexB K C = true) : ∃ nm q N bs bm sn sub ab col dd k0 k1 k2 k3 k5, K.lookup C = some (excClassObj nm q C N bs bm true sn sub ab col dd k0 k1 k2 k3 k5 "ValueError.__new__") ∧ PySem.HandSPX.refsVE bm = true := by
  unfold oexB at q
  split at q
  · rename_i dd cd sl ho
    split at q
    · rename_i C' bm k0 k1 k2 k3 n k5 hm hs
      simp only [Bool.and_eq_true, beq_iff_eq, Bool.not_eq_true'] at q
      obtain ⟨⟨⟨⟨rfl, rfl⟩, hdel⟩, hhd⟩, ht⟩ := q
      obtain ⟨nm, bs, mro, ns, qn, hd, sn, sub, ab, col, del⟩ := cd
      dsimp only at hm hdel hhd
      subst hm hdel hhd
      have hsl : sl = #[k0, k1, k2, k3, some (.builtin "ValueError.__new__"), k5] := by
        obtain ⟨l⟩ := sl
        simp only at hs
        rw [hs]
      subst hsl
      exact ⟨nm, qn, ns, bs, bm, sn, sub, ab, col, dd, k0, k1, k2, k3, k5, ho, ht⟩
    · cases q
  · cases q
/-- what is asked of an error class -/
structure Ec (K : PySem.W.Frag) (C : Addr) : Prop where
  o : OexC K C
  x : XfC K C
  cl : (PySem.W.clsIn K C).isSome = true
  cls : PySem.W.findIn K (.ref C) "__class__" = some (some (.builtin "object.__class__"))
  gs : PySem.W.specialIn K (.builtin "object.__class__") "__get__" = some (some (.builtin "getset_descriptor.__get__"))
  tk : PySem.W.takesIn K (.builtin "object.__class__") = some true
  mo : PySem.W.mroIn K C (.type "object") = some true
theorem ecB_ok {K : PySem.W.Frag} {C : Addr} (h : ecB K C = true) : Ec K C := by
  unfold ecB at h
  simp only [Bool.and_eq_true, decide_eq_true_eq] at h
  obtain ⟨h1, h2, h3, h4, h5, h6, h7, h8, h9, h10, h11⟩ := h
  exact ⟨⟨oexB_ok h1, h2, h3, h4, h5⟩, xfB_ok h6, h7, h8, h9, h10, h11⟩
/-- the classes ec i, i in S, are apart: an except clause for one takes no other -/
structure Er (K : PySem.W.Frag) (ec : Nat → Addr) (S : List Nat) : Prop where
  ok : ∀ i ∈ S, Ec K (ec i)
  ex : ∀ i ∈ S, ∀ j ∈ S, PySem.W.exmOne K (.ref (ec i)) (.ref (ec j)) = some (decide (i = j))
theorem erB_ok {K : PySem.W.Frag} {ec : Nat → Addr} {S : List Nat} (h : erB K ec S = true) : Er K ec S := by
  unfold erB at h
  simp only [Bool.and_eq_true, List.all_eq_true, decide_eq_true_eq] at h
  exact ⟨fun i hi => ecB_ok (h.1 i hi), fun i hi j hj => h.2 i hi j hj⟩
/-! ### B.__init__(self, ..) -/
section
variable {X : Cx} {o e : Expr} {es : List Expr} {to te : TE} {ta : TA} {f x : Str} {p p' p1 p2 pos : Pos} {Bc : Addr} {mc : Value}
theorem pe_beinit {pl : Sem Bool} (r : ClX.CRead X.K Bc mc) (k : PySem.W.findCls X.K (.ref Bc) mc "__init__" = some (.val (.builtin "ValueError.__init__"))) (hm : X.mg x = some (.ref Bc)) (ha : PA X (e :: es) ta) (hg : Gl X x := by rfl) (hd : (x == ("__debug__" : Str)) = false := by decide)
    (hc : eval (.Call (.Attribute (.Name x p1) "__init__" p2) (e :: es) [] pos) X.env = (do
      let ov ← eval (.Name x p1) X.env
      standAt p2.atName
      let (f, first) ← holding [ov] (getMethod ov "__init__" pl)
      callWith pos f first (backTo pos (starEach (e :: es) X.env)) (backToKw pos (keywordEach [] X.env))) := by rfl)
    (he : starEach (e :: es) X.env = (false, eval e X.env) :: starEach es X.env := by rfl) (hpl : (backTo pos (starEach es X.env)).any (·.1) = false := by rfl) :
    PE X (.Call (.Attribute (.Name x p1) "__init__" p2) (e :: es) [] pos) (tVeI X.K ta) := by
  refine ⟨fun pins s σ H Q I h => ?_⟩
  refine PySem.W.methodCall_KW (ld_glob I hg hm ?_ hd) hc
  refine PySem.W.method_cls I.kIn r.ga (PySem.W.cls_value I.kIn r.rd k rfl ?_)
  show wpAny _ _ (callWith pos (Value.builtin "ValueError.__init__") [] (backTo pos (starEach (e :: es) X.env)) []) _ _ _
  refine PyProof.Rows.callWith_method1 (thn (ha.run pos pins _ σ H _ (I.tok _) h) fun us s1 ⟨vs, H1, I1, r1, a, C, ws, ev, hl, T, ea, q⟩ => ?_) he hpl
  subst ev
  cases r1 with
  | @cons _ u0 _ ur ra rw' =>
    obtain rfl : u0 = Value.ref a := ra
    have hlen : ur.length ≤ sizeLine := by
      rw [← Paired.length rw', sizeLine_eq]
      omega
    exact oinit_ok T I1 ea hlen fun s' J => ⟨.non, H1, J, rfl, q⟩
end
/-- the promise of an __init__ that keeps one argument -/
def spI1 (K : PySem.W.Frag) (f : Str) : Sp := fun vs H Q _ => ∃ (a C : Addr) (v : V), vs = [.ref a, v] ∧ OexC K C ∧ PySem.W.findIn K (.ref C) f = some none ∧ H a = some (exo a C none) ∧ ∀ dx, H dx = none → dx ≠ a → Q .non (upd (upd H dx (exd dx [(f, v)])) a (exo a C (some dx)))
/-- an error class x at C whose __init__ keeps the one argument f -/
structure ExcD (P : Program) (w : World) (K : PySem.W.Frag) (mg : Str → Option Value) (base : Heap) (k : Nat) (x : Str) (C : Addr) (f : Str) : Prop where
  T : Ec K C
  no : PySem.W.findIn K (.ref C) f = some none
  gC : mg x = some (.ref C)
  ini : ∃ (fI : Addr) (fd : FuncData), PySem.W.findIn K (.ref C) "__init__" = some (some (.ref fI)) ∧ PySem.W.typeIn K (.ref fI) = some (.type "function") ∧ Binds K fd ["self", f] [] ∧ FnOk P w K mg base CX0 k fI fd ["self", f] (spI1 K f)
def tRaise1 (C : Addr) (f : Str) (W : WX) (te : TE) : TS := fun _ σ H => te σ H fun v H1 => ∀ d H2, H1 d = none → Same H1 H2 → H2 d = some (.xd [(f, v)]) → W (.ref C) (some d) σ H2
section
variable {X : Cx} {e : Expr} {te : TE} {W : WX} {x f : Str} {C : Addr} {k : Nat} {p pos pos2 : Pos}
/-- raise x(e) -/
theorem raise1 (D : ExcD X.prog X.w X.K X.mg X.base k x C f) (hr : Room (k + 1) X.A) (hc : X.calm = true) (tk : Takes X W) (he : PE X e te) (hg : Gl X x := by rfl) (hdb : (x == ("__debug__" : Str)) = false := by decide)
    (hst : starEach [e] X.env = (false, eval e X.env) :: starEach [] X.env := by rfl) : PS X (.Raise (some (.Call (.Name x p) [e] [] pos)) none pos2) (tRaise1 C f W te) := by
  obtain ⟨fI, fd, h1, h2, h3, h4⟩ := D.ini
  have M := ps_raise (pos := pos2) hc tk (pmk_oex (p := p) (pos := pos) (dvs := []) (ds := []) (ta := tCons (WE X e) tNil) D.T.o h1 h2 h4 hr h3 .nil (fun _ _ _ _ _ _ _ z => z.elim) hg D.gC (pa_cons (hs := hst) we pa_nil) hdb hst rfl)
  refine ⟨fun pins s σ H D' I h => ?_⟩
  refine M.run pins s σ H D' I ?_
  show WE X e σ H _
  refine WE.mono (WE.of he h) fun v H1 q => ?_
  show 1 ≤ 1000 ∧ _
  refine ⟨(by decide), fun a na => ⟨a, C, v, rfl, D.T.o, D.no, upd_same, fun dx ndx nd => ⟨rfl, dx, [(f, v)], upd_same, ?_, ?_, ?_⟩⟩⟩
  · rw [upd_ne nd, upd_same]
  · rw [upd_ne nd] at ndx; exact ndx
  · have ndx' : H1 dx = none := by rw [upd_ne nd] at ndx; exact ndx
    refine q dx _ ndx' (fun b o hb => ?_) upd_same
    have hbd : b ≠ dx := ne_of_none hb ndx'
    have hba : b ≠ a := ne_of_none hb na
    rw [upd_ne hbd, del_ne hba, upd_ne hba, upd_ne hbd, upd_ne hba]
    exact hb
end
/-! ### a def that raises, called -/
section
variable {X : Cx} {k n : Nat} {x : Str} {ps ks : List Str} {sp : Sp} {W : WX} {E : XK} {e : Expr} {es : List Expr} {t tk : TA} {p pos : Pos} {kws : List Keyword} {g : List Value → List Value → List Value} {gV : List V → List V → List V}
/-- .. from a def that hands it on -/
theorem pcr (F : Df X.prog X.w X.K X.mg X.base (L2.CX X.prog X.w) k x ps sp) (hr : Room k X.A) (tk : Takes X (fun cls d _ H => E cls d H)) (ha : PA X (e :: es) t) (hg : Gl X x := by rfl) (hdb : (x == ("__debug__" : Str)) = false := by decide) (he : starEach (e :: es) X.env = (false, eval e X.env) :: starEach es X.env := by rfl) (hpl : (backTo pos (starEach es X.env)).any (·.1) = false := by rfl) :
    PE X (.Call (.Name x p) (e :: es) [] pos) (tCall sp [] E t) := pcx F hr (passes_call tk fun _ _ _ _ h => h) ha hg hdb he hpl
/-- .. where it raises nothing -/
theorem pcn (F : Df X.prog X.w X.K X.mg X.base (L2.CX X.prog X.w) k x ps sp) (hr : Room k X.A) (ha : PA X (e :: es) t) (hg : Gl X x := by rfl) (hdb : (x == ("__debug__" : Str)) = false := by decide) (he : starEach (e :: es) X.env = (false, eval e X.env) :: starEach es X.env := by rfl) (hpl : (backTo pos (starEach es X.env)).any (·.1) = false := by rfl) :
    PE X (.Call (.Name x p) (e :: es) [] pos) (tCall sp [] E0 t) := pcx F hr passL ha hg hdb he hpl
end
/-! ### try with several clauses 'except x as n' -/
abbrev SU := Addr → Value → Option Addr → TS
/-- the suite's own run -/
def WSu (X : Cx) (ss : List Stmt) : SU := fun a cls d D σ H => ∀ (oe : Obj) (pn : List (Addr × Obj)), Zc cls d oe → (∃ vs, oe.data = .fields vs) → WB (X.suite a ((a, oe) :: pn)) ss D σ H
def wMs (K : PySem.W.Frag) (i : Nat) (Wout : WX) (D : Ends) : List (Value × SU) → WX
  | [] => Wout
  | (c, ts) :: r => fun cls d σ H => ∃ b, PySem.W.exmOne K cls c = some b ∧ (b = true → ∀ a, H a = none → ts a cls d { nx := fun σ' H' => D.nx (σ'.set i none) H', rt := D.rt, bk := fun σ' H' => D.bk (σ'.set i none) H', ct := fun σ' H' => D.ct (σ'.set i none) H' } (σ.set i (some (.ref a))) H) ∧ (b = false → wMs K i Wout D r cls d σ H)
inductive HdsA (X : Cx) (n : Str) : List ExceptHandler → List (Value × SU) → Prop
  | nil : HdsA X n [] []
  | cons {x : Str} {c : Value} {b₀ : Stmt} {suite : List Stmt} {np pos' : Pos} {hds : List ExceptHandler} {l : List (Value × SU)} (hc : Names X x c) (r : HdsA X n hds l) :
      HdsA X n (.ExceptHandler (some (.Name x np)) (some n) (b₀ :: suite) pos' :: hds) ((c, WSu X (b₀ :: suite)) :: l)
/-- the body's own run under the clauses' wish -/
def WTry (X : Cx) (body : List Stmt) (i : Nat) (Wout : WX) (l : List (Value × SU)) : TS := fun D σ H => ∀ (pn : List (Addr × Obj)) (xe : Value → Shared → Prop), Takes (X.tr pn xe) (wMs X.K i Wout D l) → PassesOwn (model X.prog X.w) X.A X.env xe → WB (X.tr pn xe) body D σ H
section
variable {X : Cx} {body : List Stmt} {h₀ : ExceptHandler} {hds : List ExceptHandler} {l : List (Value × SU)} {pos : Pos} {Wout : WX} {i : Nat} {n : Str}
theorem try_ms (hs : X.stack = X.env :: X.outer) (hf : X.env.frame = some X.env.locals) (hN : X.N.Nodup) (hi : X.N[i]? = some n) (hln : X.env.kindOf n = some .local) (tk : Takes X Wout) (hh : HdsA X n (h₀ :: hds) l) :
    PS X (.Try body (h₀ :: hds) [] [] pos) (WTry X body i Wout l) := by
  refine ⟨fun pins s σ H D I h => ?_⟩
  have ok := I.ok
  have hfr : X.A.frames = some (X.env :: X.outer) := by rw [ok.frames, hs]
  have hloc : Loc X.env.scope n := .inl hln
  refine wpAny_Try_except ?_
  refine wpAny_mono (h (X.pn ++ pins) (fun e s₁ => wpAny (model X.prog X.w) X.A (noteFrame e X.env) (fun _ s₂ => wpAny (model X.prog X.w) X.A (setFlight e none) (fun _ s₃ =>
    wpAny (model X.prog X.w) X.A (handleBy e X.env (h₀ :: hds)) (SP X pins D) X.xe s₃) X.xe s₂) X.xe s₁) (fun u s' xx => ?_) PassesOwn.looking [] s (I.toTry _)) (fun f s1 hsp => ?_) (fun e s1 he => he)
  · obtain ⟨a, B, sI, pins', σ', H', cls, d, rfl, J', nb, up, sky, na, os, ag, w⟩ := xx
    have J : Inv X pins σ' H' sI := J'.ofTry ok
    have sky' : Sky B (X.env :: X.outer) a (Zc cls d) X.env.locals s'.heap := by rw [← hs]; exact sky
    show wpAny (model X.prog X.w) X.A (noteFrame (.ref a) X.env) _ _ _
    refine Sky.land Zc.steady hfr hf sky' fun h3 fl3 up3 => ?_
    have J3 : Inv X pins σ' H' { s' with heap := h3 } := J.landed nb fl3.1 (up.trans up3) os ag
    obtain ⟨oe3, vs3, he3, hz3, hd3⟩ := fl3.there
    have nfr : a ∉ frs (X.env :: X.outer) := fun hm => by
      obtain ⟨_, o', e', hnf⟩ := fl3.2.2.1.mem hm
      rw [he3] at e'; cases e'
      exact hnf _ hd3
    have nL : a ≠ X.env.locals := fun z => nfr (List.mem_filterMap.mpr ⟨X.env, List.mem_cons_self, by rw [hf, z]⟩)
    have nF : a ∉ X.fs := fun hm => by
      obtain ⟨e, he, q⟩ := List.mem_filterMap.mp hm
      exact nfr (List.mem_filterMap.mpr ⟨e, List.mem_cons_of_mem _ he, q⟩)
    have S3 := J3.suite he3 hd3 na nL nF
    have go : ∀ {hds' : List ExceptHandler} {l' : List (Value × SU)}, HdsA X n hds' l' → wMs X.K i Wout D l' cls d σ' H' → wpAny (model X.prog X.w) X.A (handleBy (.ref a) X.env hds') (SP X pins D) X.xe { s' with heap := h3 } := by
      intro hds' l' hk
      induction hk with
      | nil =>
        intro w
        refine wpAny_handleBy_nil ?_
        obtain ⟨k1, k2, k3, oe, vs, T, oT, ts', he, hz, hd, h1, hr⟩ := id fl3
        unfold PySem.passOn
        refine wpAny_bind (wpAny_field he hd h1 ?_)
        rw [if_neg (show ¬ ((Value.ref T == Value.none) = true) from by simp)]
        have fin : wpAny (model X.prog X.w) X.A (setFlight (.ref a) X.env.frame) (fun _ s4 => wpAny (model X.prog X.w) X.A (throw (.ref a) : Sem Flow) (SP X pins D) X.xe s4) X.xe { s' with heap := h3 } := by
          rw [hf]
          refine HandSPX.setFlight_upZ fl3 fun h4 hh4 up4 => wpAny_throw (tk _ _ ?_)
          exact ⟨a, B, sI, pins, σ', H', cls, d, rfl, J, nb, (up.trans up3).trans up4, .inr (.inr (by rw [hs]; exact hh4)), na, os, ag, w⟩
        first
          | exact wpAny_bind (wpAny_pure (wpAny_bind fin))
          | exact wpAny_bind fin
      | @cons x c b₀ suite np pos' hds2 l2 hc r ih =>
        intro w
        obtain ⟨b, hb1, hyes, hno⟩ := w
        refine wpAny_handleBy_cons (codeAny_handlers_test ?_) (by intro q; cases q)
        have LT : PySem.W.Looks (model X.prog X.w) h3 (typeOf (.ref a)) cls := fun A Q E s k q => wpAny_typeOf_ref (k _ _ he3) (by rw [hz3.1]; exact q)
        have LM := PySem.W.exm_one (M := model X.prog X.w) (J3.kIn) LT hb1
        have test : ∀ {Q : Value → Shared → Prop} {E : Value → Shared → Prop}, Q c { s' with heap := h3 } → wpAny (model X.prog X.w) (X.A.mark (some (.ref a))) (eval (.Name x np) X.env) Q E { s' with heap := h3 } := fun {Q E} q => by
          obtain ⟨hg, hdbg, hm | ⟨hm, hv, hnn⟩⟩ := hc
          · exact ld_glob (X := X.suite a ((a, oe3) :: (X.pn ++ pins))) S3 hg hm q hdbg
          · exact ld_blt (X := X.suite a ((a, oe3) :: (X.pn ++ pins))) S3 hg hm hv q hnn hdbg
        refine test (LM.here ?_)
        cases b with
        | true =>
          refine codeAny_handlers_suite_as ?_
          refine HandSPX.lands_againZ fl3 fun h4 fl4 up4 => ?_
          have J4 : Inv X pins σ' H' { s' with heap := h4 } := J.landed nb fl4.1 ((up.trans up3).trans up4) os ag
          obtain ⟨oe4, vs4, he4, hz4, hd4⟩ := fl4.there
          have S4 := J4.suite he4 hd4 na nL nF
          refine store_ok (X := X.suite a ((a, oe4) :: (X.pn ++ pins))) (v := .ref a) S4 hN hi hloc rfl (fun s5 S5 => ?_) (.inr hln)
          refine wpAny_mono (hyes rfl a na oe4 (X.pn ++ pins) hz4 ⟨_, hd4⟩ [] s5 S5) (fun f s6 hsp => ?_) (fun _ _ z => False.elim z)
          have end_ : ∀ {σ6 : L2.St} {H6 : Hp} {Q : Shared → Prop}, Inv (X.suite a ((a, oe4) :: (X.pn ++ pins))) [] σ6 H6 s6 → (∀ s7, Inv X pins (σ6.set i none) H6 s7 → Q s7) →
              wpAny (model X.prog X.w) X.A (do bindName X.env n .none; unbindBehindTheSuite X.env n pos') (fun _ s7 => Q s7) X.xe s6 := fun {σ6 H6 Q} S6 hq => gone_ok (S6.unsuite ok) hN hi hln hq
          cases f with
          | next =>
            obtain ⟨σ6, H6, S6, q6⟩ := hsp
            exact end_ S6 fun s7 J7 => ⟨_, _, J7, q6⟩
          | brk =>
            obtain ⟨σ6, H6, S6, q6⟩ := hsp
            exact end_ S6 fun s7 J7 => ⟨_, _, J7, q6⟩
          | cont =>
            obtain ⟨σ6, H6, S6, q6⟩ := hsp
            exact end_ S6 fun s7 J7 => ⟨_, _, J7, q6⟩
          | ret u =>
            obtain ⟨v6, σ6, H6, S6, r6, q6⟩ := hsp
            exact end_ S6 fun s7 J7 => ⟨_, _, _, J7, r6, q6⟩
        | false =>
          show wpAny _ X.A (handleBy (.ref a) X.env hds2) _ _ _
          exact ih (hno rfl)
    exact go hh w
  · cases f with
    | next =>
      obtain ⟨σ', H', J', q⟩ := hsp
      exact wpAny_execs_nil ⟨σ', H', J'.ofTry ok, q⟩
    | brk =>
      obtain ⟨σ', H', J', q⟩ := hsp
      exact ⟨σ', H', J'.ofTry ok, q⟩
    | cont =>
      obtain ⟨σ', H', J', q⟩ := hsp
      exact ⟨σ', H', J'.ofTry ok, q⟩
    | ret u =>
      obtain ⟨v, σ', H', J', r, q⟩ := hsp
      exact ⟨v, σ', H', J'.ofTry ok, r, q⟩
end
/-! ### isinstance(e, c), e the error that a suite holds -/
def rIsX (K : PySem.W.Frag) (D a : Addr) : List V → Hp → VK → Prop := fun xs H Q => ∃ (c : V) (cv : Value) (b : Bool), xs = [.ref a, c] ∧ ClsV c cv ∧ PySem.W.kitOne K (.ref D) cv = some b ∧ Q (.bl b) H
/-- the class BundleError -/
structure Bce (K : PySem.W.Frag) (mg : Str → Option Value) (Bc : Addr) (mc : Value) : Prop where
  g : mg "BundleError" = some (.ref Bc)
  r : ClX.CRead K Bc mc
  i : PySem.W.findCls K (.ref Bc) mc "__init__" = some (.val (.builtin "ValueError.__init__"))
theorem bce_mk {K : PySem.W.Frag} {mg : Str → Option Value} {h : Heap} {Bc : Addr} {mc : Value} (X : K.In h) (G : h.Ns mainGlobals mg) (a : PySem.W.nsIn K mainGlobals "BundleError" = some (some (.ref Bc))) (t : PySem.W.typeIn K (.ref Bc) = some mc) (r : PySem.W.readsIn K Bc mc = true) (ga : PySem.W.specialIn K (.ref Bc) "__getattribute__" = some (some (.builtin "type.__getattribute__")))
    (i : PySem.W.findCls K (.ref Bc) mc "__init__" = some (.val (.builtin "ValueError.__init__"))) : Bce K mg Bc mc := ⟨PySem.W.mg_of X G a, ⟨r, ga⟩, i⟩
theorem exd_mk {P : Program} {w : World} {K : PySem.W.Frag} {mg : Str → Option Value} {base : Heap} {x qual f : Str} {C fI : Addr} {st : Stmt} (d : Dm K mg x qual C f st fI) (T : Ec K C) (G : ∀ fd, Fun K "__init__" qual st fI fd → FnOk P w K mg base CX0 1 fI fd ["self", f] (spI1 K f))
    (hb : ∀ (kV doc pm : Value) (an : Option Addr) (cdv ct : Value) (us : List Value), us.length = (["self", f] : List Str).length → bindArgs (PySem.W.fnOf "__init__" qual (defArgs st) (defBody st) (defScope st) .none kV doc pm an cdv ct) ⟨us, []⟩ = pure ((["self", f] : List Str).zip us)) : ExcD P w K mg base 1 x C f := by
  obtain ⟨fd, F⟩ := d.fun
  exact ⟨T, d.no, d.g, fI, fd, d.i, d.t, F.binds hb, G fd F⟩
end B
namespace B
open PySem L2
open PySem.W (dataLe AllAlike Sortable EachIs)
/-! Sort: sorted(xs) of data, sorted(xs, key=f) -/
section
variable {X : Cx}
/-- sorted(xs), xs a list of alike data -/
def rSortD (K : PySem.W.Frag) : List V → Hp → VK → Prop := fun vs H Q => ∃ (a : Addr) (ps : List (V × PyData)), vs = [.ref a] ∧ SqL K H a (ps.map Prod.fst) ∧ (∀ p ∈ ps, Dp K H p.1 p.2 ∧ p.2.depth ≤ 60) ∧ AllAlike (ps.map Prod.snd) ∧ Sortable (ps.map Prod.snd) ∧
  ∀ d, H d = none → Q (.ref d) (upd H d (.lst ((ps.mergeSort (dataLe false Prod.snd)).map Prod.fst)))
/-- f(x) for one x, by key=: whatever else was laid -/
def KeyFn (X : Cx) (f : Addr) (H : Hp) (x : V) (k : PyData) : Prop := ∀ (pins : List (Addr × Obj)) (σ : L2.St) (s : Shared) (v : Value), Inv X pins σ H s → RelV x v → wpAny (model X.prog X.w) X.A.in1.in1 (call (.ref f) [v]) (PySem.W.KeyPure k s) (fun _ _ => False) s
def rSortK (X : Cx) (f : Addr) : List V → List V → Hp → VK → Prop := fun vs zs H Q => ∃ (a : Addr) (ps : List (V × PyData)), vs = [.ref a] ∧ zs = [.ref f] ∧ SqL X.K H a (ps.map Prod.fst) ∧ (∀ p ∈ ps, KeyFn X f H p.1 p.2 ∧ p.2.depth ≤ 60) ∧ AllAlike (ps.map Prod.snd) ∧ Sortable (ps.map Prod.snd) ∧
  ∀ d, H d = none → Q (.ref d) (upd H d (.lst ((ps.mergeSort (dataLe false Prod.snd)).map Prod.fst)))
end
/-! ### bundles as data -/
def tupS (b : List Str) : PyData := .tuple (b.map .str)
def rankD (b : List Str) : PyData := .tuple [.int b.length, tupS b]
end B
namespace B
open PySem L2
open PySem.W (dataLe AllAlike Sortable EachIs)
/-! Bund: lists of data; the bundles of goods -/
section
variable {K : PySem.W.Frag} {H H' : Hp} {α : Type}
theorem dpAll_app : ∀ {xs ys : List V} {ds es : List PyData}, DpAll K H xs ds → DpAll K H ys es → DpAll K H (xs ++ ys) (ds ++ es)
  | _, _, _, _, .nil, h => h
  | _, _, _, _, .cons h1 h2, h => .cons h1 (dpAll_app h2 h)
theorem dpAll_same {xs : List V} {ds : List PyData} (h : DpAll K H xs ds) (e : Same H H') : DpAll K H' xs ds := dp_sameAll e ds xs h
/-- in the midst of a list display by for: pre i is what is there behind i items -/
def PvP (K : PySem.W.Frag) (H1 : Hp) (D : Addr) (pre : Nat → List PyData) (i : Nat) (H : Hp) : Prop := Same H1 H ∧ ∃ acc, H D = some (.lst acc) ∧ acc.length ≤ i ∧ DpAll K H acc (pre i)
variable {H1 H4 : Hp} {D : Addr} {pre : Nat → List PyData} {i : Nat}
theorem PvP.zero (hD : H1 D = none) (h0 : pre 0 = []) : PvP K H1 D pre 0 (upd H1 D (.lst [])) := ⟨sm_new hD, [], upd_same, Nat.le_refl _, by rw [h0]; exact .nil⟩
theorem PvP.step {y : V} {d : PyData} (hD : H1 D = none) (p : PvP K H1 D pre i H) (hn : noLs (pre i) = true) (nd : noL d = true) (hp : pre (i + 1) = pre i ++ [d]) (e : Same H H4) (hy : Dp K H4 y d) (hi : i < sizeLine) : ∃ acc, H4 D = some (.lst acc) ∧ acc.length < sizeLine ∧ PvP K H1 D pre (i + 1) (upd H4 D (.lst (acc ++ [y]))) := by
  obtain ⟨e1, acc, ha, hl, hd⟩ := p
  have h4 := e D _ ha
  refine ⟨acc, h4, by omega, ⟨fun b o hb => ?_, acc ++ [y], upd_same, by rw [List.length_append, List.length_singleton]; omega, ?_⟩⟩
  · rw [upd_ne (fun z => by rw [z, hD] at hb; cases hb)]
    exact e _ _ (e1 _ _ hb)
  · have k : NLk H4 (upd H4 D (.lst (acc ++ [y]))) := (NLk.refl H4).upd h4
    rw [hp]
    exact dpAll_app (dp_tsAll k _ _ hn (dpAll_same hd e)) (.cons (dp_ts k _ _ nd hy) .nil)
theorem PvP.skip (p : PvP K H1 D pre i H) (hp : pre (i + 1) = pre i) (e : Same H H4) : PvP K H1 D pre (i + 1) H4 := by
  obtain ⟨e1, acc, ha, hl, hd⟩ := p
  exact ⟨e1.trans e, acc, e _ _ ha, by omega, by rw [hp]; exact dpAll_same hd e⟩
end
section
/-! ### all subsets, in the order of bundle_rank -/
def grow (bs : List (List Str)) (x : Str) : List (List Str) := bs ++ bs.map (· ++ [x])
def subs (g : List Str) : List (List Str) := g.foldl grow [[]]
def bnds (g : List Str) : List (List Str) := (subs g).mergeSort (dataLe false rankD)
variable {K : PySem.W.Frag} {H : Hp}
def spBunds (K : PySem.W.Frag) : Sp := fun vs H Q _ => ∃ (a : Addr) (g : List Str), vs = [.ref a] ∧ SqT K H a (g.map V.str) ∧ g.length ≤ 5 ∧ ∀ (q : Addr) (xs : List V) (H' : Hp), Same H H' → H q = none → H' q = some (.lst xs) → DpAll K H' xs ((bnds g).map tupS) → Q (.ref q) H'
end
/-- len(xs), xs a list or a tuple -/
def rLenS (K : PySem.W.Frag) : List V → Hp → VK → Prop := fun xs H Q => ∃ p ys, xs = [.ref p] ∧ (SqL K H p ys ∨ SqT K H p ys) ∧ Q (.int (ys.length : Nat)) H
/-- list(xs), xs a list or a tuple -/
def rListS (K : PySem.W.Frag) : List V → Hp → VK → Prop := fun xs H Q => ∃ p ys, xs = [.ref p] ∧ (SqL K H p ys ∨ SqT K H p ys) ∧ ∀ l, H l = none → Q (.ref l) (upd H l (.lst ys))
end B
namespace B
open PySem L2
/-! RevT: t[::-1], t a tuple -/
section
open PyProof.Rows HT
open PySem.SeqAt
open PySem.AutoSeq1 (wpAny_loadPart')
open PySem.MeetsSeq PySem.MeetsSeq2 PySem.MeetsSeq3
variable {prog : Program} {w : World} {A : Around} {E : Value → Shared → Prop} {s : Shared}
end
section
open PySem.Spec PyProof.Rows
variable {X : Cx}
def tRevT (K : PySem.W.Frag) (te : TE) : TE := fun σ H Q => te σ H fun x H1 => ∃ (a : Addr) (xs : List V), x = .ref a ∧ SqT K H1 a xs ∧ ∀ p, H1 p = none → Q (.ref p) (upd H1 p (.tup xs.reverse))
end
end B
namespace B
open PySem L2
/-! Q0: pure data, the monad of pure runs, regions of the heap, what stands for what -/
inductive D where
  | non
  | bl (b : Bool)
  | int (i : Int)
  | str (s : Str)
  | tup (ds : List D)
  | lst (ds : List D)
  | dic (t : Bool) (kvs : List (D × D))
  | obj (c : Nat) (fs : List D)
/-- how a pure run ends -/
inductive Out (S α : Type) where
  | ok (a : α) (s : S)
  | err (n : Nat) (ds : List D) (s : S)
  | bad
def M (S α : Type) : Type := S → Out S α
namespace M
variable {S α β : Type}
def pur (a : α) : M S α := fun s => .ok a s
def bind (m : M S α) (k : α → M S β) : M S β := fun s => match m s with
  | .ok a s' => k a s'
  | .err n ds s' => .err n ds s'
  | .bad => .bad
def bad : M S α := fun _ => .bad
def raise (n : Nat) (ds : List D) : M S α := fun s => .err n ds s
end M
instance {S : Type} : Monad (M S) where
  pure := M.pur
  bind := M.bind
section
variable {S α β γ : Type}
theorem M.bind_def (m : M S α) (k : α → M S β) (s : S) : (m >>= k) s = match m s with
  | .ok a s' => k a s'
  | .err n ds s' => .err n ds s'
  | .bad => .bad := rfl
@[simp] theorem M.pure_app (a : α) (s : S) : (pure a : M S α) s = .ok a s := rfl
@[simp] theorem M.bad_app (s : S) : (M.bad : M S α) s = .bad := rfl
@[simp] theorem M.raise_app (n : Nat) (ds : List D) (s : S) : (M.raise n ds : M S α) s = .err n ds s := rfl
theorem M.bind_ok {m : M S α} {k : α → M S β} {s s' : S} {a : α} (h : m s = .ok a s') : (m >>= k) s = k a s' := by rw [M.bind_def, h]
theorem M.bind_err {m : M S α} {k : α → M S β} {s s' : S} {n : Nat} {ds : List D} (h : m s = .err n ds s') : (m >>= k) s = .err n ds s' := by rw [M.bind_def, h]
theorem M.bind_bad {m : M S α} {k : α → M S β} {s : S} (h : m s = .bad) : (m >>= k) s = .bad := by rw [M.bind_def, h]
@[simp] theorem M.pure_bind (a : α) (k : α → M S β) : (pure a >>= k) = k a := rfl
@[simp] theorem M.bad_bind (k : α → M S β) : ((M.bad : M S α) >>= k) = M.bad := rfl
@[simp] theorem M.raise_bind (n : Nat) (ds : List D) (k : α → M S β) : ((M.raise n ds : M S α) >>= k) = M.raise n ds := rfl
@[simp] theorem M.bind_pure (m : M S α) : (m >>= fun a => pure a) = m := by
  funext s
  rw [M.bind_def]
  cases m s <;> rfl
@[simp] theorem M.bind_assoc (m : M S α) (k : α → M S β) (l : β → M S γ) : ((m >>= k) >>= l) = (m >>= fun a => k a >>= l) := by
  funext s
  rw [M.bind_def, M.bind_def, M.bind_def]
  cases m s <;> rfl
end
/-! ### regions -/
/-- what F tells, H tells (a thing that may change may be locked in H) -/
def LockD : HO → Prop
  | .dK _ => True
  | .dT _ => True
  | _ => False
def Sub (F H : Hp) : Prop := ∀ a u, F a = some u → H a = some u ∨ (LockD u ∧ ∃ o, H a = some (.frz o u))
theorem Sub.refl (F : Hp) : Sub F F := fun _ _ h => .inl h
theorem Sub.trans {F G H : Hp} (a : Sub F G) (b : Sub G H) : Sub F H := fun x u h => by
  rcases a x u h with h1 | ⟨m, o, h1⟩
  · exact b x u h1
  · rcases b x _ h1 with h2 | ⟨m2, _⟩
    · exact .inr ⟨m, o, h2⟩
    · exact m2.elim
theorem Sub.rd {F H : Hp} {a : Addr} {u : HO} (e : Sub F H) (h : Rd F a u) : Rd H a u := by
  rcases h with h | ⟨o, h⟩
  · rcases e a u h with h1 | ⟨_, o, h1⟩
    · exact .inl h1
    · exact .inr ⟨o, h1⟩
  · rcases e a _ h with h1 | ⟨m, _⟩
    · exact .inr ⟨o, h1⟩
    · exact m.elim
theorem Sub.tup {F H : Hp} {a : Addr} {xs : List V} (e : Sub F H) (h : F a = some (.tup xs)) : H a = some (.tup xs) := by
  rcases e a _ h with h1 | ⟨m, _⟩
  · exact h1
  · exact m.elim
theorem Sub.lst {F H : Hp} {a : Addr} {xs : List V} (e : Sub F H) (h : F a = some (.lst xs)) : H a = some (.lst xs) := by
  rcases e a _ h with h1 | ⟨m, _⟩
  · exact h1
  · exact m.elim
theorem Sub.ins {F H : Hp} {a C dx : Addr} {fs : List (Str × V)} (e : Sub F H) (h : F a = some (.ins C dx fs)) : H a = some (.ins C dx fs) := by
  rcases e a _ h with h1 | ⟨m, _⟩
  · exact h1
  · exact m.elim
theorem Sub.has {F H : Hp} {a : Addr} (e : Sub F H) (h : H a = none) : F a = none := by
  cases q : F a with
  | none => rfl
  | some u =>
    rcases e a u q with h1 | ⟨_, o, h1⟩ <;> rw [h] at h1 <;> cases h1
theorem sub_upd {F G : Hp} {p : Addr} {o : HO} (e : Sub F G) : Sub (upd F p o) (upd G p o) := fun a u h => by
  by_cases q : a = p
  · subst q; rw [upd_same] at h; cases h; exact .inl upd_same
  · rw [upd_ne q] at h ⊢; exact e a u h
theorem sub_new {F : Hp} {p : Addr} {o : HO} (h : F p = none) : Sub F (upd F p o) := fun a u q => by
  have : a ≠ p := fun z => by rw [z, h] at q; cases q
  rw [upd_ne this]; exact .inl q
/-- a change where F tells nothing -/
theorem sub_set {F H : Hp} {p : Addr} {o : HO} (e : Sub F H) (h : F p = none) : Sub F (upd H p o) := fun a u q => by
  have : a ≠ p := fun z => by rw [z, h] at q; cases q
  rw [upd_ne this]; exact e a u q
/-! ### what stands for what -/
structure Ct where
  K : PySem.W.Frag
  cl : Nat → Addr
  fl : Nat → List Str
  ec : Nat → Addr
  ef : Nat → List Str
def kD : Key → D
  | .inl i => .int i
  | .inr x => .str x
def kTD (k : List Key) : D := .tup (k.map kD)
mutual
inductive Rp (c : Ct) (F : Hp) : V → D → Prop
  | non : Rp c F .non .non
  | bl (b : Bool) : Rp c F (.bl b) (.bl b)
  | int (i : Int) : Rp c F (.int i) (.int i)
  | str (x : Str) : Rp c F (.str x) (.str x)
  | tup {a : Addr} {xs : List V} {ds : List D} : F a = some (.tup xs) → RpA c F xs ds → Rp c F (.ref a) (.tup ds)
  | lst {a : Addr} {xs : List V} {ds : List D} : F a = some (.lst xs) → RpA c F xs ds → Rp c F (.ref a) (.lst ds)
  | dK {a : Addr} {kvs : List (Key × V)} {ks : List (D × D)} : Rd F a (.dK kvs) → (kvs.map fun p => kD p.1) = ks.map Prod.fst → RpA c F (kvs.map Prod.snd) (ks.map Prod.snd) → Rp c F (.ref a) (.dic false ks)
  | dT {a : Addr} {kvs : List (List Key × V)} {ks : List (D × D)} : Rd F a (.dT kvs) → (kvs.map fun p => kTD p.1) = ks.map Prod.fst → RpA c F (kvs.map Prod.snd) (ks.map Prod.snd) → Rp c F (.ref a) (.dic true ks)
  | obj {a dx : Addr} {n : Nat} {fs : List (Str × V)} {ds : List D} : F a = some (.ins (c.cl n) dx fs) → fs.map Prod.fst = c.fl n → RpA c F (fs.map Prod.snd) ds → Rp c F (.ref a) (.obj n ds)
inductive RpA (c : Ct) (F : Hp) : List V → List D → Prop
  | nil : RpA c F [] []
  | cons {v : V} {vs : List V} {d : D} {ds : List D} : Rp c F v d → RpA c F vs ds → RpA c F (v :: vs) (d :: ds)
end
section
variable {c : Ct} {F G H : Hp}
mutual
theorem Rp.mono (e : Sub F H) : ∀ {v : V} {d : D}, Rp c F v d → Rp c H v d
  | _, _, .non => .non
  | _, _, .bl b => .bl b
  | _, _, .int i => .int i
  | _, _, .str x => .str x
  | _, _, .tup h k => .tup (e.tup h) (RpA.mono e k)
  | _, _, .lst h k => .lst (e.lst h) (RpA.mono e k)
  | _, _, .dK h q k => .dK (e.rd h) q (RpA.mono e k)
  | _, _, .dT h q k => .dT (e.rd h) q (RpA.mono e k)
  | _, _, .obj h q k => .obj (e.ins h) q (RpA.mono e k)
theorem RpA.mono (e : Sub F H) : ∀ {vs : List V} {ds : List D}, RpA c F vs ds → RpA c H vs ds
  | _, _, .nil => .nil
  | _, _, .cons h k => .cons (Rp.mono e h) (RpA.mono e k)
end
theorem RpA.length : ∀ {vs : List V} {ds : List D}, RpA c F vs ds → vs.length = ds.length
  | _, _, .nil => rfl
  | _, _, .cons _ k => by rw [List.length_cons, List.length_cons, RpA.length k]
theorem RpA.get : ∀ {vs : List V} {ds : List D} {i : Nat} {v : V}, RpA c F vs ds → vs[i]? = some v → ∃ d, ds[i]? = some d ∧ Rp c F v d
  | _, _, i, _, .nil, h => by cases i <;> cases h
  | _, _, 0, _, .cons h _, e => by cases e; exact ⟨_, rfl, h⟩
  | _ :: vs, _ :: ds, i + 1, v, .cons _ k, e => by
    obtain ⟨d, e', r⟩ := RpA.get (vs := vs) (ds := ds) (i := i) k (by rw [List.getElem?_cons_succ] at e; exact e)
    exact ⟨d, by rw [List.getElem?_cons_succ]; exact e', r⟩
theorem RpA.getD : ∀ {vs : List V} {ds : List D} {i : Nat} {d : D}, RpA c F vs ds → ds[i]? = some d → ∃ v, vs[i]? = some v ∧ Rp c F v d
  | _, _, i, _, .nil, h => by cases i <;> cases h
  | _, _, 0, _, .cons h _, e => by cases e; exact ⟨_, rfl, h⟩
  | _ :: vs, _ :: ds, i + 1, v, .cons _ k, e => by
    obtain ⟨d, e', r⟩ := RpA.getD (vs := vs) (ds := ds) (i := i) k (by rw [List.getElem?_cons_succ] at e; exact e)
    exact ⟨d, by rw [List.getElem?_cons_succ]; exact e', r⟩
theorem RpA.app : ∀ {vs us : List V} {ds es : List D}, RpA c F vs ds → RpA c F us es → RpA c F (vs ++ us) (ds ++ es)
  | _, _, _, _, .nil, k => k
  | _, _, _, _, .cons h k, r => .cons h (RpA.app k r)
theorem RpA.take : ∀ {vs : List V} {ds : List D} (n : Nat), RpA c F vs ds → RpA c F (vs.take n) (ds.take n)
  | _, _, 0, _ => .nil
  | _, _, _ + 1, .nil => .nil
  | _, _, n + 1, .cons h k => .cons h (RpA.take n k)
theorem RpA.drop : ∀ {vs : List V} {ds : List D} (n : Nat), RpA c F vs ds → RpA c F (vs.drop n) (ds.drop n)
  | _, _, 0, k => k
  | _, _, _ + 1, .nil => .nil
  | _, _, n + 1, .cons _ k => RpA.drop n k
theorem RpA.set : ∀ {vs : List V} {ds : List D} {v : V} {d : D} (n : Nat), RpA c F vs ds → Rp c F v d → RpA c F (vs.set n v) (ds.set n d)
  | _, _, _, _, _, .nil, _ => .nil
  | _, _, _, _, 0, .cons _ k, r => .cons r k
  | _, _, _, _, n + 1, .cons h k, r => .cons h (RpA.set n k r)
theorem RpA.reverse {vs : List V} {ds : List D} (h : RpA c F vs ds) : RpA c F vs.reverse ds.reverse := by
  have go : ∀ {vs us : List V} {ds es : List D}, RpA c F vs ds → RpA c F us es → RpA c F (vs.reverseAux us) (ds.reverseAux es) := by
    intro vs
    induction vs with
    | nil => intro us ds es h k; cases h; exact k
    | cons v vs ih =>
      intro us ds es h k
      cases h with
      | @cons _ _ d ds h1 h2 => exact ih (ds := ds) (es := d :: es) h2 (.cons h1 k)
  exact go h .nil
theorem RpA.ints : ∀ ns : List Int, RpA c F (ns.map V.int) (ns.map D.int)
  | [] => .nil
  | n :: ns => .cons (.int n) (RpA.ints ns)
end
end B
namespace B
open PySem L2
/-! Q1: the state of a run: regions, the drawing state, the slots -/
/-- F: what may be kept in answers; G: what may be read for good; H: all -/
structure W3 where
  F : Hp
  G : Hp
  H : Hp
def Inc (F F' : Hp) : Prop := ∀ a u, F a = some u → F' a = some u
theorem Inc.refl (F : Hp) : Inc F F := fun _ _ h => h
theorem Inc.trans {F G H : Hp} (a : Inc F G) (b : Inc G H) : Inc F H := fun x u h => b x u (a x u h)
theorem Inc.sub {F F' : Hp} (h : Inc F F') : Sub F F' := fun a u q => .inl (h a u q)
theorem inc_new {F : Hp} {p : Addr} {o : HO} (h : F p = none) : Inc F (upd F p o) := fun a u q => by
  have : a ≠ p := fun z => by rw [z, h] at q; cases q
  rw [upd_ne this]; exact q
structure LeR (F G F' G' : Hp) : Prop where
  f : Sub F F'
  g : Sub G G'
  fs : Inc F F'
  gs : Inc G G'
def W3.le (w w' : W3) : Prop := LeR w.F w.G w'.F w'.G
theorem W3.le.of {w w' : W3} (a : Inc w.F w'.F) (b : Inc w.G w'.G) : w.le w' := ⟨a.sub, b.sub, a, b⟩
theorem W3.le.same {F G H H' : Hp} : W3.le ⟨F, G, H⟩ ⟨F, G, H'⟩ := .of (.refl _) (.refl _)
theorem W3.le.refl (w : W3) : w.le w := .of (.refl _) (.refl _)
theorem W3.le.trans {a b d : W3} (x : a.le b) (y : b.le d) : a.le d := .of (x.fs.trans y.fs) (x.gs.trans y.gs)
/-- a kind of state that is handed through -/
structure StK where
  S : Type
  rep : Hp → Hp → S → Prop
  own : Hp → Addr → Prop
  at_ : Addr → Prop
  at2 : Nat → Addr → Prop := fun _ _ => False
  stay : ∀ {F F' H H' : Hp} {s : S}, rep F H s → Sub F F' → Sub F' H' → (∀ b o, own H b → H b = some o → H' b = some o) → rep F' H' s ∧ ∀ b, own H' b ↔ own H b
  has : ∀ {F H : Hp} {s : S} {b : Addr}, rep F H s → own H b → ∃ o, H b = some o
/-- no state -/
def Z0 : StK where
  S := Unit
  rep := fun _ _ _ => True
  own := fun _ _ => False
  at_ := fun _ => False
  stay := fun _ _ _ _ => ⟨trivial, fun _ => Iff.rfl⟩
  has := fun _ h => h.elim
/-- the frame: the world at the entry, what may be changed of it -/
structure Fm where
  w : W3
  T : Addr → Prop
structure Wd (Φ : Fm) (w : W3) : Prop where
  fg : Sub w.F w.G
  gh : Sub w.G w.H
  le : Φ.w.le w
  keep : ∀ b o, Φ.w.H b = some o → ¬ Φ.T b → w.H b = some o
  has : ∀ b, w.H b = none → Φ.w.H b = none
  frF : ∀ b o, Φ.w.H b = some o → ¬ Φ.T b → Φ.w.F b = none → w.F b = none
  frG : ∀ b o, Φ.w.H b = some o → ¬ Φ.T b → Φ.w.G b = none → w.G b = none
/-- a slot: unknown, kept for good, read for good, an object of one's own, the state -/
inductive Sl where
  | un
  | fz (d : D)
  | bo (d : D)
  | sh (d : D)
  | ow (d : D)
  | st
  | st2 (i : Nat)
/-- an object of one's own: a list, a dict -/
def Ow (c : Ct) (w : W3) (a : Addr) : D → Prop
  | .lst ds => ∃ xs, w.H a = some (.lst xs) ∧ RpA c w.F xs ds
  | .dic false ks => ∃ kvs : List (Key × V), w.H a = some (.dK kvs) ∧ (kvs.map fun p => kD p.1) = ks.map Prod.fst ∧ RpA c w.F (kvs.map Prod.snd) (ks.map Prod.snd)
  | .dic true ks => ∃ kvs : List (List Key × V), w.H a = some (.dT kvs) ∧ (kvs.map fun p => kTD p.1) = ks.map Prod.fst ∧ RpA c w.F (kvs.map Prod.snd) (ks.map Prod.snd)
  | _ => False
def Fresh (Φ : Fm) (a : Addr) : Prop := Φ.T a ∨ Φ.w.H a = none
/-- an object that is read for good, its items kept for good -/
def OwS (c : Ct) (F G : Hp) (a : Addr) : D → Prop
  | .lst ds => ∃ xs, G a = some (.lst xs) ∧ RpA c F xs ds
  | .dic false ks => ∃ kvs : List (Key × V), Rd G a (.dK kvs) ∧ (kvs.map fun p => kD p.1) = ks.map Prod.fst ∧ RpA c F (kvs.map Prod.snd) (ks.map Prod.snd)
  | .dic true ks => ∃ kvs : List (List Key × V), Rd G a (.dT kvs) ∧ (kvs.map fun p => kTD p.1) = ks.map Prod.fst ∧ RpA c F (kvs.map Prod.snd) (ks.map Prod.snd)
  | _ => False
theorem OwS.mono {c : Ct} {F G F' G' : Hp} {a : Addr} {d : D} (h : OwS c F G a d) (f : Sub F F') (g : Sub G G') : OwS c F' G' a d := by
  cases d with
  | lst ds => obtain ⟨xs, h1, h2⟩ := h; exact ⟨xs, g.lst h1, h2.mono f⟩
  | dic t ks =>
    cases t with
    | false => obtain ⟨kvs, h1, h2, h3⟩ := h; exact ⟨kvs, g.rd h1, h2, h3.mono f⟩
    | true => obtain ⟨kvs, h1, h2, h3⟩ := h; exact ⟨kvs, g.rd h1, h2, h3.mono f⟩
  | _ => exact h.elim
theorem OwS.rp {c : Ct} {F G H : Hp} {a : Addr} {d : D} (h : OwS c F G a d) (f : Sub F H) (g : Sub G H) : Rp c H (.ref a) d := by
  cases d with
  | lst ds => obtain ⟨xs, h1, h2⟩ := h; exact .lst (g.lst h1) (h2.mono f)
  | dic t ks =>
    cases t with
    | false => obtain ⟨kvs, h1, h2, h3⟩ := h; exact .dK (g.rd h1) h2 (h3.mono f)
    | true => obtain ⟨kvs, h1, h2, h3⟩ := h; exact .dT (g.rd h1) h2 (h3.mono f)
  | _ => exact h.elim
/-- an object of one's own, apart from the rest -/
structure Mine (c : Ct) (Φ : Fm) (Z : StK) (w : W3) (a : Addr) (d : D) : Prop where
  ow : Ow c w a d
  ng : w.G a = none
  fr : Fresh Φ a
  ns : ¬ Z.own w.H a
def SlOk (c : Ct) (Φ : Fm) (Z : StK) (w : W3) (o : Option V) : Sl → Prop
  | .un => True
  | .fz d => ∃ v, o = some v ∧ Rp c w.F v d
  | .bo d => ∃ v, o = some v ∧ Rp c w.G v d
  | .sh d => ∃ a, o = some (.ref a) ∧ OwS c w.F w.G a d
  | .ow d => ∃ a, o = some (.ref a) ∧ Mine c Φ Z w a d
  | .st => ∃ p, o = some (.ref p) ∧ Z.at_ p
  | .st2 i => ∃ p, o = some (.ref p) ∧ Z.at2 i p
/-- the state of a run, but for the slots -/
structure Fin (Φ : Fm) (Z : StK) (s : Z.S) (w : W3) : Prop where
  wd : Wd Φ w
  rep : Z.rep w.F w.H s
  so : ∀ b, Z.own w.H b → w.G b = none ∧ Fresh Φ b
structure In (c : Ct) (Φ : Fm) (Z : StK) (γ : List Sl) (s : Z.S) (w : W3) (σ : L2.St) : Prop where
  fin : Fin Φ Z s w
  ln : σ.length = γ.length
  sl : ∀ (i : Nat) (x : Sl) (o : Option V), γ[i]? = some x → σ[i]? = some o → SlOk c Φ Z w o x
  ds : ∀ (i j : Nat) (d e : D) (a : Addr), γ[i]? = some (.ow d) → γ[j]? = some (.ow e) → σ[i]? = some (some (.ref a)) → σ[j]? = some (some (.ref a)) → i = j
section
variable {c : Ct} {Φ : Fm} {Z : StK} {γ : List Sl} {s s' : Z.S} {w w' : W3} {σ : L2.St} {a p : Addr} {d : D} {o : HO}
theorem Ow.keep (h : Ow c w a d) (e : Sub w.F w'.F) (k : ∀ o, w.H a = some o → w'.H a = some o) : Ow c w' a d := by
  cases d with
  | lst ds => obtain ⟨xs, h1, h2⟩ := h; exact ⟨xs, k _ h1, h2.mono e⟩
  | dic t ks =>
    cases t with
    | false => obtain ⟨kvs, h1, h2, h3⟩ := h; exact ⟨kvs, k _ h1, h2, h3.mono e⟩
    | true => obtain ⟨kvs, h1, h2, h3⟩ := h; exact ⟨kvs, k _ h1, h2, h3.mono e⟩
  | _ => exact h.elim
theorem Ow.has (h : Ow c w a d) : ∃ o, w.H a = some o := by
  cases d with
  | lst ds => obtain ⟨xs, h1, h2⟩ := h; exact ⟨_, h1⟩
  | dic t ks =>
    cases t with
    | false => obtain ⟨kvs, h1, h2, h3⟩ := h; exact ⟨_, h1⟩
    | true => obtain ⟨kvs, h1, h2, h3⟩ := h; exact ⟨_, h1⟩
  | _ => exact h.elim
theorem Ow.rp (h : Ow c w a d) (e : Sub w.F w.H) : Rp c w.H (.ref a) d := by
  cases d with
  | lst ds => obtain ⟨xs, h1, h2⟩ := h; exact .lst h1 (h2.mono e)
  | dic t ks =>
    cases t with
    | false => obtain ⟨kvs, h1, h2, h3⟩ := h; exact .dK (.inl h1) h2 (h3.mono e)
    | true => obtain ⟨kvs, h1, h2, h3⟩ := h; exact .dT (.inl h1) h2 (h3.mono e)
  | _ => exact h.elim
theorem Wd.fh (x : Wd Φ w) : Sub w.F w.H := x.fg.trans x.gh
/-- what a step does that changes the state alone -/
structure Cont (Z : StK) (w w' : W3) (s' : Z.S) (T : Addr → Prop) : Prop where
  fg : Sub w'.F w'.G
  gh : Sub w'.G w'.H
  le : w.le w'
  keep : ∀ b o, w.H b = some o → ¬ Z.own w.H b → ¬ T b → w'.H b = some o
  has : ∀ b, w'.H b = none → w.H b = none
  frF : ∀ b o, w.H b = some o → ¬ Z.own w.H b → ¬ T b → w.F b = none → w'.F b = none
  frG : ∀ b o, w.H b = some o → ¬ Z.own w.H b → ¬ T b → w.G b = none → w'.G b = none
  rep : Z.rep w'.F w'.H s'
  so : ∀ b, Z.own w'.H b → w'.G b = none ∧ (Z.own w.H b ∨ T b ∨ w.H b = none)
theorem Fin.cont {T : Addr → Prop} (I : Fin Φ Z s w) (k : Cont Z w w' s' T) (hT : ∀ b, T b → Fresh Φ b) : Fin Φ Z s' w' := by
  have nw : ∀ b o, Φ.w.H b = some o → ¬ Φ.T b → ¬ Z.own w.H b ∧ ¬ T b := fun b o h n => by
    refine ⟨fun z => ?_, fun z => ?_⟩
    · rcases (I.so b z).2 with q | q
      · exact n q
      · rw [h] at q; cases q
    · rcases hT b z with q | q
      · exact n q
      · rw [h] at q; cases q
  refine ⟨⟨k.fg, k.gh, I.wd.le.trans k.le, fun b o h n => ?_, fun b h => I.wd.has b (k.has b h), fun b o h n f => ?_, fun b o h n f => ?_⟩, k.rep, fun b z => ?_⟩
  · exact k.keep b o (I.wd.keep b o h n) (nw b o h n).1 (nw b o h n).2
  · exact k.frF b o (I.wd.keep b o h n) (nw b o h n).1 (nw b o h n).2 (I.wd.frF b o h n f)
  · exact k.frG b o (I.wd.keep b o h n) (nw b o h n).1 (nw b o h n).2 (I.wd.frG b o h n f)
  · refine ⟨(k.so b z).1, ?_⟩
    rcases (k.so b z).2 with q | q | q
    · exact (I.so b q).2
    · exact hT b q
    · exact .inr (I.wd.has b q)
theorem Mine.cont {T : Addr → Prop} (h : Mine c Φ Z w a d) (k : Cont Z w w' s' T) (nT : ¬ T a) : Mine c Φ Z w' a d := by
  obtain ⟨o, ho⟩ := h.ow.has
  refine ⟨h.ow.keep k.le.1 fun o q => k.keep a o q h.ns nT, k.frG a o ho h.ns nT h.ng, h.fr, fun z => ?_⟩
  rcases (k.so a z).2 with q | q | q
  · exact h.ns q
  · exact nT q
  · rw [ho] at q; cases q
theorem SlOk.cont {T : Addr → Prop} {x : Sl} {ov : Option V} (h : SlOk c Φ Z w ov x) (k : Cont Z w w' s' T) (nT : ∀ a, ov = some (.ref a) → ¬ T a) : SlOk c Φ Z w' ov x := by
  cases x with
  | un => trivial
  | fz d => obtain ⟨v, e, r⟩ := h; exact ⟨v, e, r.mono k.le.1⟩
  | bo d => obtain ⟨v, e, r⟩ := h; exact ⟨v, e, r.mono k.le.2⟩
  | sh d => obtain ⟨a, e, r⟩ := h; exact ⟨a, e, r.mono k.le.1 k.le.2⟩
  | ow d => obtain ⟨a, e, r⟩ := h; exact ⟨a, e, r.cont k (nT a e)⟩
  | st => exact h
  | st2 => exact h
theorem In.cont {T : Addr → Prop} (I : In c Φ Z γ s w σ) (k : Cont Z w w' s' T) (hT : ∀ b, T b → Fresh Φ b) (nT : ∀ (i : Nat) (d : D) (a : Addr), γ[i]? = some (.ow d) → σ[i]? = some (some (.ref a)) → ¬ T a) : In c Φ Z γ s' w' σ := by
  refine ⟨I.fin.cont k hT, I.ln, fun i x o hx ho => ?_, I.ds⟩
  have h := I.sl i x o hx ho
  cases x with
  | ow d =>
    obtain ⟨a, e, r⟩ := h
    subst e
    exact ⟨a, rfl, r.cont k (nT i d a hx ho)⟩
  | un => trivial
  | fz d => obtain ⟨v, e, r⟩ := h; exact ⟨v, e, r.mono k.le.1⟩
  | bo d => obtain ⟨v, e, r⟩ := h; exact ⟨v, e, r.mono k.le.2⟩
  | sh d => obtain ⟨a, e, r⟩ := h; exact ⟨a, e, r.mono k.le.1 k.le.2⟩
  | st => exact h
  | st2 => exact h
theorem In.cont0 (I : In c Φ Z γ s w σ) (k : Cont Z w w' s' fun _ => False) : In c Φ Z γ s' w' σ := I.cont k (fun _ z => z.elim) fun _ _ _ _ _ z => z
/-- a new object that is kept for good -/
def W3.new (w : W3) (p : Addr) (o : HO) : W3 := ⟨upd w.F p o, upd w.G p o, upd w.H p o⟩
/-- .. that is read for good -/
def W3.newG (w : W3) (p : Addr) (o : HO) : W3 := ⟨w.F, upd w.G p o, upd w.H p o⟩
/-- .. of one's own -/
def W3.set (w : W3) (p : Addr) (o : HO) : W3 := ⟨w.F, w.G, upd w.H p o⟩
theorem Fin.noF (I : Fin Φ Z s w) (h : w.H p = none) : w.F p = none := I.wd.fh.has h
theorem Fin.noG (I : Fin Φ Z s w) (h : w.H p = none) : w.G p = none := I.wd.gh.has h
theorem own_new {F' : Hp} (I : Fin Φ Z s w) (h : w.H p = none) (hF : Sub w.F F') (hs : Sub F' (upd w.H p o)) : Z.rep F' (upd w.H p o) s ∧ ∀ b, Z.own (upd w.H p o) b ↔ Z.own w.H b := by
  refine Z.stay I.rep hF hs fun b u _ q => ?_
  rw [upd_ne (fun z => by rw [z, h] at q; cases q)]
  exact q
theorem ne_own (I : Fin Φ Z s w) (h : w.H p = none) {b : Addr} (z : Z.own w.H b) : b ≠ p := fun e => by
  obtain ⟨u, q⟩ := Z.has I.rep z
  rw [e, h] at q; cases q
theorem Fin.new (I : Fin Φ Z s w) (h : w.H p = none) : Cont Z w (w.new p o) s fun _ => False := by
  have hF := I.noF h
  have hG := I.noG h
  have so := own_new (o := o) I h (sub_new hF) (sub_upd I.wd.fh)
  have hb : ∀ b u, w.H b = some u → b ≠ p := fun b u q z => by rw [z, h] at q; cases q
  refine ⟨sub_upd I.wd.fg, sub_upd I.wd.gh, .of (inc_new hF) (inc_new hG), fun b u q _ _ => ?_, fun b q => ?_, fun b u q _ _ f => ?_, fun b u q _ _ f => ?_, so.1, fun b z => ?_⟩
  · show upd w.H p o b = _
    rw [upd_ne (hb b u q)]; exact q
  · by_cases z : b = p
    · rw [z]; exact h
    · have q : upd w.H p o b = none := q
      rw [upd_ne z] at q; exact q
  · show upd w.F p o b = none
    rw [upd_ne (hb b u q)]; exact f
  · show upd w.G p o b = none
    rw [upd_ne (hb b u q)]; exact f
  · have z : Z.own w.H b := (so.2 b).mp z
    refine ⟨?_, .inl z⟩
    show upd w.G p o b = none
    rw [upd_ne (ne_own I h z)]; exact (I.so b z).1
theorem Fin.newG (I : Fin Φ Z s w) (h : w.H p = none) : Cont Z w (w.newG p o) s fun _ => False := by
  have hF := I.noF h
  have hG := I.noG h
  have so := own_new (o := o) I h (.refl w.F) (sub_set I.wd.fh hF)
  have hb : ∀ b u, w.H b = some u → b ≠ p := fun b u q z => by rw [z, h] at q; cases q
  refine ⟨I.wd.fg.trans (sub_new hG), sub_upd I.wd.gh, .of (.refl _) (inc_new hG), fun b u q _ _ => ?_, fun b q => ?_, fun b u q _ _ f => f, fun b u q _ _ f => ?_, so.1, fun b z => ?_⟩
  · show upd w.H p o b = _
    rw [upd_ne (hb b u q)]; exact q
  · by_cases z : b = p
    · rw [z]; exact h
    · have q : upd w.H p o b = none := q
      rw [upd_ne z] at q; exact q
  · show upd w.G p o b = none
    rw [upd_ne (hb b u q)]; exact f
  · have z : Z.own w.H b := (so.2 b).mp z
    refine ⟨?_, .inl z⟩
    show upd w.G p o b = none
    rw [upd_ne (ne_own I h z)]; exact (I.so b z).1
theorem Fin.newO (I : Fin Φ Z s w) (h : w.H p = none) : Cont Z w (w.set p o) s fun _ => False := by
  have hG := I.noG h
  have so := own_new (o := o) I h (.refl w.F) (sub_set I.wd.fh (I.noF h))
  have hb : ∀ b u, w.H b = some u → b ≠ p := fun b u q z => by rw [z, h] at q; cases q
  refine ⟨I.wd.fg, sub_set I.wd.gh hG, .of (.refl _) (.refl _), fun b u q _ _ => ?_, fun b q => ?_, fun b u q _ _ f => f, fun b u q _ _ f => f, so.1, fun b z => ?_⟩
  · show upd w.H p o b = _
    rw [upd_ne (hb b u q)]; exact q
  · by_cases z : b = p
    · rw [z]; exact h
    · have q : upd w.H p o b = none := q
      rw [upd_ne z] at q; exact q
  · have z : Z.own w.H b := (so.2 b).mp z
    exact ⟨(I.so b z).1, .inl z⟩
theorem In.new (I : In c Φ Z γ s w σ) (h : w.H p = none) : In c Φ Z γ s (w.new p o) σ := I.cont0 (I.fin.new h)
theorem In.newG (I : In c Φ Z γ s w σ) (h : w.H p = none) : In c Φ Z γ s (w.newG p o) σ := I.cont0 (I.fin.newG h)
theorem In.newO (I : In c Φ Z γ s w σ) (h : w.H p = none) : In c Φ Z γ s (w.set p o) σ := I.cont0 (I.fin.newO h)
theorem Fin.fresh (I : Fin Φ Z s w) (h : w.H p = none) : Fresh Φ p := .inr (I.wd.has p h)
/-- an object of one's own changes -/
theorem Fin.chg (I : Fin Φ Z s w) (h : Mine c Φ Z w a d) : Fin Φ Z s (w.set a o) ∧ ∀ b, Z.own (upd w.H a o) b ↔ Z.own w.H b := by
  obtain ⟨u, hu⟩ := h.ow.has
  have so : Z.rep w.F (upd w.H a o) s ∧ ∀ b, Z.own (upd w.H a o) b ↔ Z.own w.H b := by
    refine Z.stay I.rep (.refl _) (sub_set I.wd.fh (I.wd.fg.has h.ng)) fun b u z q => ?_
    rw [upd_ne (fun e : b = a => h.ns (by rw [← e]; exact z))]
    exact q
  refine ⟨⟨⟨I.wd.fg, sub_set I.wd.gh h.ng, I.wd.le, fun b v q n => ?_, fun b q => ?_, I.wd.frF, I.wd.frG⟩, so.1, fun b z => I.so b ((so.2 b).mp z)⟩, so.2⟩
  · show upd w.H a o b = _
    have : b ≠ a := fun e => by
      subst e
      rcases h.fr with z | z
      · exact n z
      · rw [q] at z; cases z
    rw [upd_ne this]; exact I.wd.keep b v q n
  · have q : upd w.H a o b = none := q
    by_cases z : b = a
    · rw [z, upd_same] at q; cases q
    · rw [upd_ne z] at q; exact I.wd.has b q
theorem Mine.chg {d' : D} (I : Fin Φ Z s w) (h : Mine c Φ Z w a d) (k : Ow c (w.set a o) a d') : Mine c Φ Z (w.set a o) a d' :=
  ⟨k, h.ng, h.fr, fun z => h.ns (((I.chg (o := o) h).2 a).mp z)⟩
theorem In.chg {d' : D} {i : Nat} (I : In c Φ Z γ s w σ) (hi : γ[i]? = some (.ow d)) (hs : σ[i]? = some (some (.ref a))) (k : Ow c (w.set a o) a d') : In c Φ Z (γ.set i (.ow d')) s (w.set a o) σ := by
  have hm : Mine c Φ Z w a d := by
    obtain ⟨a', e, r⟩ := I.sl i _ _ hi hs
    cases e; exact r
  have F := I.fin.chg (o := o) hm
  have hil : i < γ.length := (List.getElem?_eq_some_iff.mp hi).1
  refine ⟨F.1, by rw [List.length_set]; exact I.ln, fun j x ov hx ho => ?_, fun j l e f b h1 h2 h3 h4 => ?_⟩
  · by_cases hj : j = i
    · subst hj
      rw [List.getElem?_set_self hil] at hx
      cases hx
      rw [hs] at ho; cases ho
      exact ⟨a, rfl, hm.chg I.fin k⟩
    · rw [List.getElem?_set_ne (Ne.symm hj)] at hx
      have q := I.sl j x ov hx ho
      cases x with
      | un => trivial
      | fz d => exact q
      | bo d => exact q
      | sh d => exact q
      | st => exact q
      | st2 => exact q
      | ow e =>
        obtain ⟨b, e1, r⟩ := q
        subst e1
        have nb : b ≠ a := fun z => by subst z; exact hj (I.ds j i _ _ b hx hi ho hs)
        exact ⟨b, rfl, r.ow.keep (.refl _) (fun u q => by show upd w.H a o b = _; rw [upd_ne nb]; exact q), r.ng, r.fr, fun z => r.ns ((F.2 b).mp z)⟩
  · have g : ∀ (m : Nat) (f : D), (γ.set i (.ow d'))[m]? = some (.ow f) → ∃ f', γ[m]? = some (.ow f') := fun m f h => by
      by_cases hm : m = i
      · rw [hm]; exact ⟨_, hi⟩
      · rw [List.getElem?_set_ne (Ne.symm hm)] at h; exact ⟨_, h⟩
    obtain ⟨e', h1⟩ := g j e h1
    obtain ⟨f', h2⟩ := g l f h2
    exact I.ds j l e' f' b h1 h2 h3 h4
/-- a value is stored -/
theorem In.put {i : Nat} {x : Sl} {v : V} (I : In c Φ Z γ s w σ) (hn : ∀ d, x ≠ .ow d) (h : SlOk c Φ Z w (some v) x) : In c Φ Z (γ.set i x) s w (σ.set i (some v)) := by
  refine ⟨I.fin, by rw [List.length_set, List.length_set]; exact I.ln, fun j y ov hy ho => ?_, fun j l e f b h1 h2 h3 h4 => ?_⟩
  · by_cases hj : j = i
    · subst hj
      have hil : j < γ.length := by
        have := (List.getElem?_eq_some_iff.mp hy).1
        rwa [List.length_set] at this
      rw [List.getElem?_set_self hil] at hy
      rw [List.getElem?_set_self (by rw [I.ln]; exact hil)] at ho
      cases hy; cases ho
      exact h
    · rw [List.getElem?_set_ne (Ne.symm hj)] at hy ho
      exact I.sl j y ov hy ho
  · have g : ∀ (m : Nat) (f : D), (γ.set i x)[m]? = some (.ow f) → m ≠ i ∧ γ[m]? = some (.ow f) := fun m f h => by
      by_cases hm : m = i
      · subst hm
        have hil : m < γ.length := by
          have := (List.getElem?_eq_some_iff.mp h).1
          rwa [List.length_set] at this
        rw [List.getElem?_set_self hil] at h
        cases h
        exact absurd rfl (hn f)
      · rw [List.getElem?_set_ne (Ne.symm hm)] at h; exact ⟨hm, h⟩
    obtain ⟨n1, h1⟩ := g j e h1
    obtain ⟨n2, h2⟩ := g l f h2
    rw [List.getElem?_set_ne (Ne.symm n1)] at h3
    rw [List.getElem?_set_ne (Ne.symm n2)] at h4
    exact I.ds j l e f b h1 h2 h3 h4
/-- an object of one's own is stored: it is no other slot's -/
theorem In.putO {i : Nat} {d : D} (I : In c Φ Z γ s w σ) (h : Mine c Φ Z w a d) (na : ∀ (j : Nat) (e : D), γ[j]? = some (.ow e) → σ[j]? ≠ some (some (.ref a))) : In c Φ Z (γ.set i (.ow d)) s w (σ.set i (some (.ref a))) := by
  refine ⟨I.fin, by rw [List.length_set, List.length_set]; exact I.ln, fun j y ov hy ho => ?_, fun j l e f b h1 h2 h3 h4 => ?_⟩
  · by_cases hj : j = i
    · subst hj
      have hil : j < γ.length := by
        have := (List.getElem?_eq_some_iff.mp hy).1
        rwa [List.length_set] at this
      rw [List.getElem?_set_self hil] at hy
      rw [List.getElem?_set_self (by rw [I.ln]; exact hil)] at ho
      cases hy; cases ho
      exact ⟨a, rfl, h⟩
    · rw [List.getElem?_set_ne (Ne.symm hj)] at hy ho
      exact I.sl j y ov hy ho
  · by_cases hj : j = i
    · by_cases hl : l = i
      · rw [hj, hl]
      · subst hj
        have hil : j < σ.length := by
          have := (List.getElem?_eq_some_iff.mp h3).1
          rwa [List.length_set] at this
        rw [List.getElem?_set_self hil] at h3
        cases h3
        rw [List.getElem?_set_ne (Ne.symm hl)] at h2 h4
        exact absurd h4 (na l f h2)
    · rw [List.getElem?_set_ne (Ne.symm hj)] at h1 h3
      by_cases hl : l = i
      · subst hl
        have hil : l < σ.length := by
          have := (List.getElem?_eq_some_iff.mp h4).1
          rwa [List.length_set] at this
        rw [List.getElem?_set_self hil] at h4
        cases h4
        exact absurd h3 (na j e h1)
      · rw [List.getElem?_set_ne (Ne.symm hl)] at h2 h4
        exact I.ds j l e f b h1 h2 h3 h4
/-- less is known -/
def Lek : List Sl → List Sl → Prop
  | [], [] => True
  | x :: γ, y :: γ' => (y = .un ∨ x = y) ∧ Lek γ γ'
  | _, _ => False
theorem Lek.get : ∀ {γ γ' : List Sl} {i : Nat} {y : Sl}, Lek γ γ' → γ'[i]? = some y → y = .un ∨ γ[i]? = some y
  | [], [], _, _, _, h => by cases h
  | [], _ :: _, _, _, h, _ => h.elim
  | _ :: _, [], _, _, h, _ => h.elim
  | _ :: _, _ :: _, 0, _, h, e => by
    cases e
    rcases h.1 with q | q
    · exact .inl q
    · exact .inr (by rw [q]; rfl)
  | _ :: _, _ :: _, i + 1, _, h, e => by
    rw [List.getElem?_cons_succ] at e ⊢
    exact Lek.get h.2 e
theorem Lek.len : ∀ {γ γ' : List Sl}, Lek γ γ' → γ.length = γ'.length
  | [], [], _ => rfl
  | [], _ :: _, h => h.elim
  | _ :: _, [], h => h.elim
  | _ :: _, _ :: _, h => by rw [List.length_cons, List.length_cons, Lek.len h.2]
theorem Lek.refl : ∀ γ : List Sl, Lek γ γ
  | [] => trivial
  | _ :: γ => ⟨.inr rfl, Lek.refl γ⟩
theorem In.weak {γ' : List Sl} (I : In c Φ Z γ s w σ) (h : Lek γ γ') : In c Φ Z γ' s w σ := by
  refine ⟨I.fin, I.ln.trans h.len, fun i x o hx ho => ?_, fun i j d e a h1 h2 h3 h4 => ?_⟩
  · rcases h.get hx with q | q
    · subst q; trivial
    · exact I.sl i x o q ho
  · rcases h.get h1 with q | q
    · cases q
    · rcases h.get h2 with q2 | q2
      · cases q2
      · exact I.ds i j d e a q q2 h3 h4
/-- the frame anew: here and now -/
def re (Z : StK) (γ : List Sl) (w : W3) (σ : L2.St) : Fm := ⟨w, fun b => Z.own w.H b ∨ ∃ (i : Nat) (d : D), γ[i]? = some (.ow d) ∧ σ[i]? = some (some (.ref b))⟩
theorem In.re (I : In c Φ Z γ s w σ) : In c (re Z γ w σ) Z γ s w σ := by
  refine ⟨⟨⟨I.fin.wd.fg, I.fin.wd.gh, .refl _, fun _ _ h _ => h, fun _ h => h, fun _ _ _ _ h => h, fun _ _ _ _ h => h⟩, I.fin.rep, fun b z => ⟨(I.fin.so b z).1, .inl (.inl z)⟩⟩, I.ln, fun i x o hx ho => ?_, I.ds⟩
  have h := I.sl i x o hx ho
  cases x with
  | un => trivial
  | fz d => exact h
  | bo d => exact h
  | sh d => exact h
  | st => exact h
  | st2 => exact h
  | ow d =>
    obtain ⟨a, e, r⟩ := h
    subst e
    exact ⟨a, rfl, r.ow, r.ng, .inl (.inr ⟨i, d, hx, ho⟩), r.ns⟩
theorem re_fresh (I : In c Φ Z γ s w σ) {b : Addr} (h : (B.re Z γ w σ).T b) : Fresh Φ b := by
  rcases h with z | ⟨i, d, h1, h2⟩
  · exact (I.fin.so b z).2
  · obtain ⟨a, e, r⟩ := I.sl i _ _ h1 h2
    cases e; exact r.fr
theorem Fresh.re (I : In c Φ Z γ s w σ) {b : Addr} (h : Fresh (B.re Z γ w σ) b) : Fresh Φ b := by
  rcases h with z | z
  · exact re_fresh I z
  · exact .inr (I.fin.wd.has b z)
theorem Wd.ofRe (I : In c Φ Z γ s w σ) (h : Wd (B.re Z γ w σ) w') : Wd Φ w' := by
  have nT : ∀ b o, Φ.w.H b = some o → ¬ Φ.T b → ¬ (B.re Z γ w σ).T b := fun b o h n z => by
    rcases re_fresh I z with q | q
    · exact n q
    · rw [h] at q; cases q
  refine ⟨h.fg, h.gh, I.fin.wd.le.trans h.le, fun b o q n => h.keep b o (I.fin.wd.keep b o q n) (nT b o q n), fun b q => I.fin.wd.has b (h.has b q), fun b o q n f => ?_, fun b o q n f => ?_⟩
  · exact h.frF b o (I.fin.wd.keep b o q n) (nT b o q n) (I.fin.wd.frF b o q n f)
  · exact h.frG b o (I.fin.wd.keep b o q n) (nT b o q n) (I.fin.wd.frG b o q n f)
theorem Fin.ofRe (I : In c Φ Z γ s w σ) (h : Fin (B.re Z γ w σ) Z s' w') : Fin Φ Z s' w' :=
  ⟨h.wd.ofRe I, h.rep, fun b z => ⟨(h.so b z).1, (h.so b z).2.re I⟩⟩
theorem Mine.ofRe (I : In c Φ Z γ s w σ) (h : Mine c (B.re Z γ w σ) Z w' a d) : Mine c Φ Z w' a d := ⟨h.ow, h.ng, h.fr.re I, h.ns⟩
theorem In.ofRe {γ' : List Sl} {σ' : L2.St} (I : In c Φ Z γ s w σ) (h : In c (B.re Z γ w σ) Z γ' s' w' σ') : In c Φ Z γ' s' w' σ' := by
  refine ⟨h.fin.ofRe I, h.ln, fun i x o hx ho => ?_, h.ds⟩
  have q := h.sl i x o hx ho
  cases x with
  | un => trivial
  | fz d => exact q
  | bo d => exact q
  | sh d => exact q
  | st => exact q
  | st2 => exact q
  | ow d =>
    obtain ⟨a, e, r⟩ := q
    exact ⟨a, e, r.ofRe I⟩
end
end B
namespace B
open PySem L2
/-! Q2: the pure operations -/
mutual
def D.dec : (a b : D) → Decidable (a = b)
  | .non, .non => .isTrue rfl
  | .bl a, .bl b => if h : a = b then .isTrue (by rw [h]) else .isFalse fun e => h (D.bl.inj e)
  | .int a, .int b => if h : a = b then .isTrue (by rw [h]) else .isFalse fun e => h (D.int.inj e)
  | .str a, .str b => if h : a = b then .isTrue (by rw [h]) else .isFalse fun e => h (D.str.inj e)
  | .tup a, .tup b => match D.decs a b with
    | .isTrue h => .isTrue (by rw [h])
    | .isFalse h => .isFalse fun e => h (D.tup.inj e)
  | .lst a, .lst b => match D.decs a b with
    | .isTrue h => .isTrue (by rw [h])
    | .isFalse h => .isFalse fun e => h (D.lst.inj e)
  | .dic c a, .dic d b => if hc : c = d then match D.deck a b with
      | .isTrue h => .isTrue (by rw [h, hc])
      | .isFalse h => .isFalse fun e => h (D.dic.inj e).2
    else .isFalse fun e => hc (D.dic.inj e).1
  | .obj c a, .obj d b => if hc : c = d then match D.decs a b with
      | .isTrue h => .isTrue (by rw [h, hc])
      | .isFalse h => .isFalse fun e => h (D.obj.inj e).2
    else .isFalse fun e => hc (D.obj.inj e).1
  | .non, .bl _ | .non, .int _ | .non, .str _ | .non, .tup _ | .non, .lst _ | .non, .dic _ _ | .non, .obj _ _ => .isFalse fun e => nomatch e
  | .bl _, .non | .bl _, .int _ | .bl _, .str _ | .bl _, .tup _ | .bl _, .lst _ | .bl _, .dic _ _ | .bl _, .obj _ _ => .isFalse fun e => nomatch e
  | .int _, .non | .int _, .bl _ | .int _, .str _ | .int _, .tup _ | .int _, .lst _ | .int _, .dic _ _ | .int _, .obj _ _ => .isFalse fun e => nomatch e
  | .str _, .non | .str _, .bl _ | .str _, .int _ | .str _, .tup _ | .str _, .lst _ | .str _, .dic _ _ | .str _, .obj _ _ => .isFalse fun e => nomatch e
  | .tup _, .non | .tup _, .bl _ | .tup _, .int _ | .tup _, .str _ | .tup _, .lst _ | .tup _, .dic _ _ | .tup _, .obj _ _ => .isFalse fun e => nomatch e
  | .lst _, .non | .lst _, .bl _ | .lst _, .int _ | .lst _, .str _ | .lst _, .tup _ | .lst _, .dic _ _ | .lst _, .obj _ _ => .isFalse fun e => nomatch e
  | .dic _ _, .non | .dic _ _, .bl _ | .dic _ _, .int _ | .dic _ _, .str _ | .dic _ _, .tup _ | .dic _ _, .lst _ | .dic _ _, .obj _ _ => .isFalse fun e => nomatch e
  | .obj _ _, .non | .obj _ _, .bl _ | .obj _ _, .int _ | .obj _ _, .str _ | .obj _ _, .tup _ | .obj _ _, .lst _ | .obj _ _, .dic _ _ => .isFalse fun e => nomatch e
def D.decs : (a b : List D) → Decidable (a = b)
  | [], [] => .isTrue rfl
  | [], _ :: _ => .isFalse fun e => nomatch e
  | _ :: _, [] => .isFalse fun e => nomatch e
  | x :: xs, y :: ys => match D.dec x y, D.decs xs ys with
    | .isTrue h, .isTrue k => .isTrue (by rw [h, k])
    | .isFalse h, _ => .isFalse fun e => h (List.cons.inj e).1
    | _, .isFalse k => .isFalse fun e => k (List.cons.inj e).2
def D.deck : (a b : List (D × D)) → Decidable (a = b)
  | [], [] => .isTrue rfl
  | [], _ :: _ => .isFalse fun e => nomatch e
  | _ :: _, [] => .isFalse fun e => nomatch e
  | (x, u) :: xs, (y, v) :: ys => match D.dec x y, D.dec u v, D.deck xs ys with
    | .isTrue h, .isTrue l, .isTrue k => .isTrue (by rw [h, l, k])
    | .isFalse h, _, _ => .isFalse fun e => h (Prod.mk.inj (List.cons.inj e).1).1
    | _, .isFalse h, _ => .isFalse fun e => h (Prod.mk.inj (List.cons.inj e).1).2
    | _, _, .isFalse k => .isFalse fun e => k (List.cons.inj e).2
end
instance : DecidableEq D := D.dec
section
variable {S α : Type}
def lift : Option α → M S α
  | some a => pure a
  | none => M.bad
@[simp] theorem lift_some (a : α) : (lift (some a) : M S α) = pure a := rfl
@[simp] theorem lift_none : (lift none : M S α) = M.bad := rfl
end
def lim : Nat := 100000
/-! ### numbers, texts, sequences -/
def addD : D → D → Option D
  | .int i, .int j => some (.int (i + j))
  | .str i, .str j => if i.length + j.length ≤ lim then some (.str (i ++ j)) else none
  | .lst a, .lst b => if a.length + b.length ≤ lim then some (.lst (a ++ b)) else none
  | .tup a, .tup b => if a.length + b.length ≤ lim then some (.tup (a ++ b)) else none
  | _, _ => none
def subD : D → D → Option D
  | .int i, .int j => some (.int (i - j))
  | _, _ => none
def big : Int := 2 ^ 64
def mulD : D → D → Option D
  | .int i, .int j => if (-big < i ∧ i < big) ∨ (-big < j ∧ j < big) then some (.int (i * j)) else none
  | _, _ => none
def modD : D → D → Option D
  | .int i, .int j => if 0 < j then some (.int (i % j)) else none
  | _, _ => none
def divD : D → D → Option D
  | .int i, .int j => if 0 < j ∧ j < big then some (.int (i / j)) else none
  | _, _ => none
def powD : D → D → Option D
  | .int i, .int j => if 0 ≤ j ∧ j ≤ 1000 ∧ -big < i ∧ i < big then some (.int (i ^ j.toNat)) else none
  | _, _ => none
def shlD : D → D → Option D
  | .int i, .int j => if 0 ≤ j ∧ j ≤ 1000 ∧ -big < i ∧ i < big then some (.int (i * 2 ^ j.toNat)) else none
  | _, _ => none
def negD : D → Option D
  | .int i => some (.int (-i))
  | _ => none
def ltD : D → D → Option D
  | .int i, .int j => some (.bl (decide (i < j)))
  | .str i, .str j => some (.bl (decide (i.cps.toList < j.cps.toList)))
  | _, _ => none
def gtD (x y : D) : Option D := ltD y x
def leD : D → D → Option D
  | .int i, .int j => some (.bl (decide (i ≤ j)))
  | .str i, .str j => some (.bl (!decide (j.cps.toList < i.cps.toList)))
  | _, _ => none
def geD (x y : D) : Option D := leD y x
/-! ### plain data -/
mutual
def D.toP : D → Option PyData
  | .non => some .none
  | .bl b => some (.bool b)
  | .int i => some (.int i)
  | .str s => some (.str s)
  | .tup ds => (D.toPs ds).map .tuple
  | .lst ds => (D.toPs ds).map .list
  | .dic _ _ => none
  | .obj _ _ => none
def D.toPs : List D → Option (List PyData)
  | [] => some []
  | d :: ds => match D.toP d, D.toPs ds with
    | some p, some ps => some (p :: ps)
    | _, _ => none
end
def eqO (x y : D) : Option Bool := match x.toP, y.toP with
  | some a, some b => if a.depth ≤ 60 ∨ b.depth ≤ 60 then some (PyData.eqv a b) else none
  | _, _ => none
def eqD (x y : D) : Option D := (eqO x y).map .bl
def neD (x y : D) : Option D := (eqO x y).map fun b => .bl (!b)
/-! ### dicts -/
def isK : D → Bool
  | .int _ => true
  | .str _ => true
  | _ => false
def isT : D → Bool
  | .tup ds => ds.all isK
  | _ => false
def kindOk (t : Bool) (k : D) : Bool := if t then isT k else isK k
def getK (ks : List (D × D)) (k : D) : Option D := (ks.find? fun p => decide (p.1 = k)).map Prod.snd
def putK' (ks : List (D × D)) (k v : D) : List (D × D) :=
  if (ks.any fun p => decide (p.1 = k)) = true then ks.map (fun p => if p.1 = k then (p.1, v) else p) else ks ++ [(k, v)]
def oneSign (s : Str) : Option Nat := match s.cps.toList with
  | [c] => some c
  | _ => none
def inO (x y : D) : Option Bool := match y with
  | .lst ds => match x.toP, D.toPs ds with
    | some p, some ps => if p.depth ≤ 60 ∨ PyData.depthAll ps ≤ 60 then some (ps.any fun z => PyData.eqv z p) else none
    | _, _ => none
  | .tup ds => match x.toP, D.toPs ds with
    | some p, some ps => if p.depth ≤ 60 ∨ PyData.depthAll ps ≤ 60 then some (ps.any fun z => PyData.eqv z p) else none
    | _, _ => none
  | .str z => match x with
    | .str s => (oneSign s).map fun c => decide (c ∈ z.cps.toList)
    | _ => none
  | .dic t ks => if kindOk t x = true then some (getK ks x).isSome else none
  | _ => none
def inD (x y : D) : Option D := (inO x y).map .bl
def notInD (x y : D) : Option D := (inO x y).map fun b => .bl (!b)
def isNonD (x : D) : Option D := match x with
  | .non => some (.bl true)
  | _ => some (.bl false)
def notNonD (x : D) : Option D := match x with
  | .non => some (.bl false)
  | _ => some (.bl true)
/-- x is True, x is False -/
def isBlD (x y : D) : Option D := match x, y with
  | .bl a, .bl b => some (.bl (decide (a = b)))
  | _, _ => none
def isNotBlD (x y : D) : Option D := match x, y with
  | .bl a, .bl b => some (.bl (!decide (a = b)))
  | _, _ => none
def signs (s : Str) : List D := s.cps.toList.map fun c => .str ⟨#[c]⟩
def ixD : D → D → Option D
  | .lst ds, .int i => atI ds i
  | .tup ds, .int i => atI ds i
  | .str s, .int i => if s.length ≤ lim then (atI s.cps.toList i).map fun c => .str ⟨#[c]⟩ else none
  | .dic t ks, k => if kindOk t k = true then getK ks k else none
  | _, _ => none
def cutL (ds : List D) (lo hi : Option Int) : List D := (ds.drop (HT.sIx ds.length 0 lo)).take (HT.sIx ds.length ds.length hi - HT.sIx ds.length 0 lo)
def cutD (d : D) (lo hi : Option Int) : Option D := match d with
  | .lst ds => some (.lst (cutL ds lo hi))
  | .tup ds => some (.tup (cutL ds lo hi))
  | .str s => if s.length ≤ lim then some (.str (cutS s lo hi)) else none
  | _ => none
def partO : D → Option (Option Int)
  | .int i => some (some i)
  | _ => none
def revD : D → Option D
  | .lst ds => some (.lst ds.reverse)
  | .tup ds => some (.tup ds.reverse)
  | .str s => if s.length ≤ lim then some (.str (revS s)) else none
  | _ => none
/-! ### built-ins -/
def lenD : D → Option D
  | .lst ds => some (.int ds.length)
  | .tup ds => some (.int ds.length)
  | .dic _ ks => some (.int ks.length)
  | .str s => if s.length ≤ lim then some (.int s.length) else none
  | _ => none
def absD : D → Option D
  | .int i => some (.int (if i < 0 then -i else i))
  | _ => none
def intD : D → Option D
  | .int i => some (.int i)
  | .bl k => some (.int (if k then 1 else 0))
  | .str s => if s.length ≤ 640 then (PySem.intText? s).map .int else none
  | _ => none
def strD : D → Option D
  | .int i => if -big < i ∧ i < big then some (.str (toString i)) else none
  | _ => none
def intsO : List D → Option (List Int)
  | [] => some []
  | .int i :: ds => (intsO ds).map (i :: ·)
  | _ :: _ => none
def strsO : List D → Option (List Str)
  | [] => some []
  | .str s :: ds => (strsO ds).map (s :: ·)
  | _ :: _ => none
def blsO : List D → Option (List Bool)
  | [] => some []
  | .bl b :: ds => (blsO ds).map (b :: ·)
  | _ :: _ => none
def maxI : List Int → Int
  | [] => 0
  | [i] => i
  | i :: is => max i (maxI is)
def minI : List Int → Int
  | [] => 0
  | [i] => i
  | i :: is => min i (minI is)
def seqO : D → Option (List D)
  | .lst ds => some ds
  | .tup ds => some ds
  | _ => none
def sumD : D → Option D
  | .lst ds => (intsO ds).map fun ns => .int ns.sum
  | _ => none
def maxD : D → Option D
  | .lst ds => match intsO ds with
    | some (i :: is) => some (.int (maxI (i :: is)))
    | _ => none
  | _ => none
def minD : D → Option D
  | .lst ds => match intsO ds with
    | some (i :: is) => some (.int (minI (i :: is)))
    | _ => none
  | _ => none
def max2D : D → D → Option D
  | .int i, .int j => some (.int (if j > i then j else i))
  | _, _ => none
def min2D : D → D → Option D
  | .int i, .int j => some (.int (if j < i then j else i))
  | _, _ => none
def allD : D → Option D
  | .lst ds => (blsO ds).map fun bs => .bl (bs.all id)
  | _ => none
def anyD : D → Option D
  | .lst ds => (blsO ds).map fun bs => .bl (bs.any id)
  | _ => none
/-- what a for walks -/
def itemsD : D → Option (List D)
  | .lst ds => some ds
  | .tup ds => some ds
  | .str s => some (signs s)
  | _ => none
def listD (d : D) : Option D := (itemsD d).map .lst
def tupleD (d : D) : Option D := (itemsD d).map .tup
def pairs2 (xs ys : List D) : List D := (xs.zip ys).map fun p => .tup [p.1, p.2]
def rangeL (n : Int) : List D := (List.range n.toNat).map fun i => .int (i : Nat)
/-- items of one kind, to be sorted -/
def dataLeP (x y : PyData) : Bool := PySem.W.dataLe false id x y
def sortP (ds : List D) : Option (List D) := match D.toPs ds with
  | some ps => some (((ds.zip ps).mergeSort (PySem.W.dataLe false Prod.snd)).map Prod.fst)
  | none => none
/-! ### loops -/
section
variable {S β : Type}
inductive Fl (β : Type) where
  | nx (b : β)
  | rt (d : D)
def onFl {α : Type} (k : β → M S α) (g : D → M S α) : Fl β → M S α
  | .nx b => k b
  | .rt d => g d
@[simp] theorem onFl_nx {α : Type} (k : β → M S α) (g : D → M S α) (b : β) : onFl k g (.nx b) = k b := rfl
@[simp] theorem onFl_rt {α : Type} (k : β → M S α) (g : D → M S α) (d : D) : onFl k g (.rt d) = g d := rfl
def forN : List D → (D → β → M S β) → β → M S β
  | [], _, b => pure b
  | x :: xs, f, b => f x b >>= fun b' => forN xs f b'
def forF : List D → (D → β → M S (Fl β)) → β → M S (Fl β)
  | [], _, b => pure (.nx b)
  | x :: xs, f, b => f x b >>= fun r => onFl (fun b' => forF xs f b') (fun d => pure (.rt d)) r
/-- nothing is raised -/
def noErr {α : Type} (m : M S α) : M S α := fun s => match m s with
  | .ok a s' => .ok a s'
  | _ => .bad
@[simp] theorem noErr_pure {α : Type} (a : α) : (noErr (pure a) : M S α) = pure a := rfl
@[simp] theorem noErr_bad {α : Type} : (noErr M.bad : M S α) = M.bad := rfl
theorem noErr_ok {α : Type} {m : M S α} {a : α} {s s' : S} (h : m s = .ok a s') : noErr m s = .ok a s' := by simp [noErr, h]
/-- a list by for: what each item gives (none: left out) -/
def compM : List D → (D → M S (Option D)) → M S (List D)
  | [], _ => pure []
  | x :: xs, f => noErr (f x) >>= fun r => compM xs f >>= fun rs => match r with
    | some d => pure (d :: rs)
    | none => pure rs
def compL (xs : List D) (f : D → M S (Option D)) : M S (List D) := if xs.length ≤ lim then compM xs f else M.bad
def whileN : Nat → (β → M S Bool) → (β → M S β) → β → M S β
  | 0, _, _, _ => M.bad
  | n + 1, c, f, b => c b >>= fun t => if t = true then f b >>= fun b' => whileN n c f b' else pure b
end
end B
namespace B
open PySem L2
open PySem.Spec PyProof.Rows
/-! Q3: the rules for operators and built-ins over pure data -/
inductive Sc : V → D → Prop
  | non : Sc .non .non
  | bl (b : Bool) : Sc (.bl b) (.bl b)
  | int (i : Int) : Sc (.int i) (.int i)
  | str (s : Str) : Sc (.str s) (.str s)
theorem Sc.rp {c : Ct} {F : Hp} {v : V} {d : D} (h : Sc v d) : Rp c F v d := by
  cases h with
  | non => exact .non
  | bl b => exact .bl b
  | int i => exact .int i
  | str s => exact .str s
def rX2 (c : Ct) (g : D → D → Option D) : R2 := fun x y H Q => ∃ a b d v, Rp c H x a ∧ Rp c H y b ∧ g a b = some d ∧ Sc v d ∧ Q v H
def rX1 (c : Ct) (g : D → Option D) : V → Hp → VK → Prop := fun x H Q => ∃ a d v, Rp c H x a ∧ g a = some d ∧ Sc v d ∧ Q v H
def rC1 (c : Ct) (g : D → Option D) : List V → Hp → VK → Prop := fun xs H Q => ∃ x a d v, xs = [x] ∧ Rp c H x a ∧ g a = some d ∧ Sc v d ∧ Q v H
def rC2 (c : Ct) (g : D → D → Option D) : List V → Hp → VK → Prop := fun xs H Q => ∃ x y a b d v, xs = [x, y] ∧ Rp c H x a ∧ Rp c H y b ∧ g a b = some d ∧ Sc v d ∧ Q v H
section
variable {X : Cx} {c : Ct} {r r' : R2} {f : Value → Value → Sem Value}
theorem OpR.or (h : OpR X f r) (h' : OpR X f r') : OpR X f (fun x y H Q => r x y H Q ∨ r' x y H Q) := fun pins s σ H x y v u Q I rx ry q => q.elim (fun q => h pins s σ H x y v u Q I rx ry q) fun q => h' pins s σ H x y v u Q I rx ry q
theorem IxR.or (h : IxR X r) (h' : IxR X r') : IxR X (fun x y H Q => r x y H Q ∨ r' x y H Q) := fun va sl pins s σ H x y v u Q I rx ry q => q.elim (fun q => h va sl pins s σ H x y v u Q I rx ry q) fun q => h' va sl pins s σ H x y v u Q I rx ry q
theorem Sc.inj {v v' : V} {d : D} (h : Sc v d) (h' : Sc v' d) : v = v' := by cases h <;> cases h' <;> rfl
/-! ### plain data -/
section
variable {H : Hp}
mutual
theorem Rp.dp : ∀ {v : V} {d : D} {p : PyData}, Rp c H v d → d.toP = some p → Dp c.K H v p
  | _, .non, _, .non, e => by cases e; exact .non
  | _, .bl b, _, .bl _, e => by cases e; exact .bl _
  | _, .int i, _, .int _, e => by cases e; exact .int _
  | _, .str s, _, .str _, e => by cases e; exact .str _
  | _, .tup ds, p, .tup h k, e => by
    unfold D.toP at e
    cases q : D.toPs ds with
    | none => rw [q] at e; cases e
    | some ps => rw [q] at e; cases e; exact .tup (SqT.of h) (RpA.dp k q)
  | _, .lst ds, p, .lst h k, e => by
    unfold D.toP at e
    cases q : D.toPs ds with
    | none => rw [q] at e; cases e
    | some ps => rw [q] at e; cases e; exact .lst (SqL.of h) (RpA.dp k q)
  | _, .dic _ _, _, _, e => by unfold D.toP at e; cases e
  | _, .obj _ _, _, _, e => by unfold D.toP at e; cases e
theorem RpA.dp : ∀ {vs : List V} {ds : List D} {ps : List PyData}, RpA c H vs ds → D.toPs ds = some ps → DpAll c.K H vs ps
  | _, [], _, .nil, e => by unfold D.toPs at e; cases e; exact .nil
  | _, d :: ds, ps, .cons h k, e => by
    unfold D.toPs at e
    cases q : D.toP d with
    | none => rw [q] at e; cases e
    | some p =>
      cases q2 : D.toPs ds with
      | none => rw [q, q2] at e; cases e
      | some ps' => rw [q, q2] at e; cases e; exact .cons (Rp.dp h q) (RpA.dp k q2)
end
end
/-! ### dicts -/
theorem kD_inj {k k' : Key} (h : kD k = kD k') : k = k' := by
  cases k <;> cases k' <;> cases h <;> rfl
theorem kDs_inj : ∀ {k k' : List Key}, k.map kD = k'.map kD → k = k'
  | [], [], _ => rfl
  | [], _ :: _, h => by cases h
  | _ :: _, [], h => by cases h
  | a :: k, b :: k', h => by
    rw [List.map_cons, List.map_cons] at h
    rw [kD_inj (List.cons.inj h).1, kDs_inj (List.cons.inj h).2]
theorem kTD_inj {k k' : List Key} (h : kTD k = kTD k') : k = k' := kDs_inj (D.tup.inj h)
theorem key_of_isK {H : Hp} {v : V} {d : D} (h : Rp c H v d) (k : isK d = true) : ∃ x : Key, v = kV x ∧ d = kD x := by
  cases h with
  | int i => exact ⟨.inl i, rfl, rfl⟩
  | str s => exact ⟨.inr s, rfl, rfl⟩
  | _ => cases k
theorem keys_of_isK {H : Hp} : ∀ {vs : List V} {ds : List D}, RpA c H vs ds → ds.all isK = true → ∃ x : List Key, vs = x.map kV ∧ ds = x.map kD
  | _, _, .nil, _ => ⟨[], rfl, rfl⟩
  | _, _, .cons h k, e => by
    rw [List.all_cons, Bool.and_eq_true] at e
    obtain ⟨x, rfl, rfl⟩ := key_of_isK h e.1
    obtain ⟨xs, rfl, rfl⟩ := keys_of_isK k e.2
    exact ⟨x :: xs, rfl, rfl⟩
theorem key_of_isT {H : Hp} {v : V} {d : D} (h : Rp c H v d) (k : isT d = true) : ∃ (b : Addr) (x : List Key), v = .ref b ∧ H b = some (.tup (x.map kV)) ∧ d = kTD x := by
  cases h with
  | @tup a xs ds h1 h2 =>
    obtain ⟨x, rfl, rfl⟩ := keys_of_isK h2 k
    exact ⟨a, x, rfl, h1, rfl⟩
  | _ => cases k
section
variable {κ : Type} [DecidableEq κ] {k2 : κ → D} {H : Hp}
/-- the pure dict beside the tracked one -/
theorem find_rel (inj : ∀ a b, k2 a = k2 b → a = b) : ∀ {kvs : List (κ × V)} {ks : List (D × D)}, (kvs.map fun p => k2 p.1) = ks.map Prod.fst → RpA c H (kvs.map Prod.snd) (ks.map Prod.snd) → ∀ k : κ,
    (∀ d, getK ks (k2 k) = some d → ∃ v, valV kvs k = some v ∧ Rp c H v d) ∧ (getK ks (k2 k) = none → valV kvs k = none)
  | [], [], _, _, _ => ⟨fun _ h => (by cases h), fun _ => rfl⟩
  | [], _ :: _, h, _, _ => by cases h
  | _ :: _, [], h, _, _ => by cases h
  | (a, v) :: kvs, (d, e) :: ks, h, r, k => by
    rw [List.map_cons, List.map_cons] at h
    have h1 : k2 a = d := (List.cons.inj h).1
    have h2 := (List.cons.inj h).2
    cases r with
    | cons r1 r2 =>
      have ih := find_rel inj h2 r2 k
      by_cases q : a = k
      · subst q
        have e1 : getK ((d, e) :: ks) (k2 a) = some e := by simp [getK, h1]
        have e2 : valV ((a, v) :: kvs) a = some v := by simp [valV]
        rw [e1, e2]
        exact ⟨fun d' z => by cases z; exact ⟨v, rfl, r1⟩, fun z => by cases z⟩
      · have nd : ¬ d = k2 k := fun z => q (inj _ _ (h1.trans z))
        have e1 : getK ((d, e) :: ks) (k2 k) = getK ks (k2 k) := by simp [getK, nd]
        have e2 : valV ((a, v) :: kvs) k = valV kvs k := by simp [valV, q]
        rw [e1, e2]
        exact ih
end
end
end B
namespace B
open PySem L2
open PySem.Spec PyProof.Rows
/-! Q4: more rules by values -/
section
variable {X : Cx} {c : Ct}
theorem CallR.or {f : Value} {r r' : List V → Hp → VK → Prop} (h : CallR X f r) (h' : CallR X f r') : CallR X f (fun xs H Q => r xs H Q ∨ r' xs H Q) := fun pins s σ H xs us Q I rx q => q.elim (fun q => h pins s σ H xs us Q I rx q) fun q => h' pins s σ H xs us Q I rx q
/-! ### numbers -/
/-! ### + of any kind, subscripts, slices -/
def rAddA (K : PySem.W.Frag) : R2 := fun x y H Q => rI0 (fun i j => .int (i + j)) x y H Q ∨ (∃ i j, x = .str i ∧ y = .str j ∧ i.length + j.length ≤ sizeLine ∧ Q (.str (i ++ j)) H) ∨ rCat x y H Q ∨ rCatA K x y H Q
def rGetA (K : PySem.W.Frag) : R2 := fun x y H Q => rIxL K x y H Q ∨ rIxT K x y H Q ∨ rIxS x y H Q ∨ ∃ a v, x = .ref a ∧ DGet H a y (some v) ∧ Q v H
theorem ix_dict (hu : X.A.units + 64 < cLine) : IxR X (fun x y H Q => ∃ a v, x = .ref a ∧ DGet H a y (some v) ∧ Q v H) := by
  intro va sl pins s σ H x y v u Q I rx ry h hs
  obtain ⟨a, w, rfl, g, q⟩ := h
  cases rx
  exact tail_any (dict_typeIs I g) PySem.F.slot_dict_getitem.lookup (d_getItem (by omega) I g ry fun w' s' I' r' => ⟨w, H, I', r', q⟩) hs
theorem ix_any (hu : X.A.units + 64 < cLine) : IxR X (rGetA X.K) := IxR.or ix_list (IxR.or ix_tup (IxR.or ix_str (ix_dict hu)))
def rCutA (K : PySem.W.Frag) : V → Option Int → Option Int → Hp → VK → Prop := fun x lo hi H Q => rSlL K x lo hi H Q ∨ rSlA K x lo hi H Q ∨ rSlS x lo hi H Q
end
end B
namespace B
open PySem L2
/-! Q5: expressions and their pure runs -/
inductive Fg where
  | f
  | g
  | s
  | o (i : Nat)
def el : Fg → Fg
  | .g => .g
  | _ => .f
/-- where the items lie -/
def W3.reg (w : W3) : Fg → Hp
  | .g => w.G
  | _ => w.F
def Vl (c : Ct) (γ : List Sl) (w : W3) (σ : L2.St) : Fg → V → D → Prop
  | .f, v, d => Rp c w.F v d
  | .g, v, d => Rp c w.G v d
  | .s, v, d => ∃ a, v = .ref a ∧ OwS c w.F w.G a d
  | .o i, v, d => γ[i]? = some (.ow d) ∧ σ[i]? = some (some v)
def ErrP (c : Ct) (Φ : Fm) (Z : StK) (γ : List Sl) (W : WX) (σ : L2.St) (w : W3) (n : Nat) (ds : List D) (s' : Z.S) : Prop :=
  ∀ (dx : Addr) (vs : List V) (w' : W3), In c Φ Z γ s' w' σ → w.le w' → w'.H dx = some (.xd ((c.ef n).zip vs)) → (vs.length = (c.ef n).length ∧ w'.G dx = none ∧ Φ.w.H dx = none ∧ ¬ Z.own w'.H dx) → RpA c w'.F vs ds → W (.ref (c.ec n)) (some dx) σ w'.H
def Ps {α β : Type} (c : Ct) (Φ : Fm) (Z : StK) (γ : List Sl) (W : WX) (σ : L2.St) (Vp : W3 → β → α → Prop) (w : W3) (o : Out Z.S α) (Q : β → Hp → Prop) : Prop := match o with
  | .ok a s' => ∀ v w', In c Φ Z γ s' w' σ → w.le w' → Vp w' v a → Q v w'.H
  | .err n ds s' => ErrP c Φ Z γ W σ w n ds s'
  | .bad => False
def Eg {α β : Type} (c : Ct) (Z : StK) (γ : List Sl) (W : WX) (Vp : W3 → L2.St → β → α → Prop) (t : L2.St → Hp → (β → Hp → Prop) → Prop) (m : M Z.S α) : Prop :=
  ∀ (Φ : Fm) (s : Z.S) (w : W3) (σ : L2.St) (Q : β → Hp → Prop), In c Φ Z γ s w σ → Ps c Φ Z γ W σ (fun w => Vp w σ) w (m s) Q → t σ w.H Q
abbrev Ev (c : Ct) (Z : StK) (γ : List Sl) (W : WX) (fl : Fg) (t : TE) (m : M Z.S D) : Prop := Eg c Z γ W (fun w σ v d => Vl c γ w σ fl v d) t m
abbrev Et (c : Ct) (Z : StK) (γ : List Sl) (W : WX) (t : TT) (m : M Z.S Bool) : Prop := Eg c Z γ W (fun _ _ b d => b = d) t m
/-- a new object of one's own -/
def Nw (c : Ct) (Φ : Fm) (Z : StK) (γ : List Sl) (w : W3) (σ : L2.St) (v : V) (d : D) : Prop := ∃ a, v = .ref a ∧ Mine c Φ Z w a d ∧ ∀ (j : Nat) (e : D), γ[j]? = some (.ow e) → σ[j]? ≠ some (some (.ref a))
def En (c : Ct) (Z : StK) (γ : List Sl) (W : WX) (t : TE) (m : M Z.S D) : Prop :=
  ∀ (Φ : Fm) (s : Z.S) (w : W3) (σ : L2.St) (Q : VK), In c Φ Z γ s w σ → Ps c Φ Z γ W σ (fun w v d => Nw c Φ Z γ w σ v d) w (m s) Q → t σ w.H Q
section
variable {c : Ct} {Φ : Fm} {Z : StK} {γ : List Sl} {W : WX} {s : Z.S} {w w' : W3} {σ : L2.St} {fl fa fb : Fg} {v : V} {d : D}
theorem Vl.mono (e : w.le w') (h : Vl c γ w σ fl v d) : Vl c γ w' σ fl v d := by
  cases fl with
  | f => exact Rp.mono e.1 h
  | g => exact Rp.mono e.2 h
  | s => obtain ⟨a, e1, r⟩ := h; exact ⟨a, e1, r.mono e.1 e.2⟩
  | o i => exact h
theorem In.own {i : Nat} (I : In c Φ Z γ s w σ) (h : γ[i]? = some (.ow d)) (hs : σ[i]? = some (some v)) : ∃ a, v = .ref a ∧ Mine c Φ Z w a d := by
  obtain ⟨a, e, r⟩ := I.sl i _ _ h hs
  cases e
  exact ⟨a, rfl, r⟩
/-- a list's items -/
theorem Vl.lst {ds : List D} (I : In c Φ Z γ s w σ) (h : Vl c γ w σ fl v (.lst ds)) : ∃ a xs, v = .ref a ∧ w.H a = some (.lst xs) ∧ RpA c (w.reg fl) xs ds := by
  cases fl with
  | f => cases h with | @lst a xs _ h1 h2 => exact ⟨a, xs, rfl, I.fin.wd.fh.lst h1, h2⟩
  | g => cases h with | @lst a xs _ h1 h2 => exact ⟨a, xs, rfl, I.fin.wd.gh.lst h1, h2⟩
  | s =>
    obtain ⟨a, rfl, xs, h1, h2⟩ := h
    exact ⟨a, xs, rfl, I.fin.wd.gh.lst h1, h2⟩
  | o i =>
    obtain ⟨a, rfl, r⟩ := I.own h.1 h.2
    obtain ⟨xs, h1, h2⟩ := r.ow
    exact ⟨a, xs, rfl, h1, h2⟩
theorem Vl.tup {ds : List D} (I : In c Φ Z γ s w σ) (h : Vl c γ w σ fl v (.tup ds)) : ∃ a xs, v = .ref a ∧ w.H a = some (.tup xs) ∧ (w.reg fl) a = some (.tup xs) ∧ RpA c (w.reg fl) xs ds := by
  cases fl with
  | f => cases h with | @tup a xs _ h1 h2 => exact ⟨a, xs, rfl, I.fin.wd.fh.tup h1, h1, h2⟩
  | g => cases h with | @tup a xs _ h1 h2 => exact ⟨a, xs, rfl, I.fin.wd.gh.tup h1, h1, h2⟩
  | s => obtain ⟨a, rfl, r⟩ := h; exact r.elim
  | o i =>
    obtain ⟨a, rfl, r⟩ := I.own h.1 h.2
    exact r.ow.elim
theorem Vl.sc (h : Sc v d) : Vl c γ w σ .f v d := h.rp
theorem Ps.mono {α β : Type} {Vp : W3 → β → α → Prop} {o : Out Z.S α} {Q : β → Hp → Prop} (le : w.le w') (h : Ps c Φ Z γ W σ Vp w o Q) : Ps c Φ Z γ W σ Vp w' o Q := by
  cases o with
  | ok a s' => exact fun v w2 I l q => h v w2 I (le.trans l) q
  | err n ds s' => exact fun dx vs w2 I l h1 h2 h3 => h dx vs w2 I (le.trans l) h1 h2 h3
  | bad => exact h
theorem Eg.seq {α β α' β' : Type} {Vp : W3 → L2.St → β → α → Prop} {Vp' : W3 → β' → α' → Prop} {t : L2.St → Hp → (β → Hp → Prop) → Prop} {m : M Z.S α} {k : α → M Z.S α'} {Q : β' → Hp → Prop} {R : β → Hp → Prop} (h : Eg c Z γ W Vp t m) (I : In c Φ Z γ s w σ)
    (q : Ps c Φ Z γ W σ Vp' w ((m >>= k) s) Q) (f : ∀ a s' v w', In c Φ Z γ s' w' σ → w.le w' → Vp w' σ v a → Ps c Φ Z γ W σ Vp' w' (k a s') Q → R v w'.H) : t σ w.H R := by
  refine h Φ s w σ R I ?_
  cases e : m s with
  | ok a s' =>
    rw [M.bind_ok e] at q
    exact fun v w' I' le vl => f a s' v w' I' le vl (q.mono le)
  | err n ds s' =>
    rw [M.bind_err e] at q
    exact q
  | bad =>
    rw [M.bind_bad e] at q
    exact q
/-- the last step: the answer -/
theorem Ps.ret {α β : Type} {Vp : W3 → β → α → Prop} {Q : β → Hp → Prop} {a : α} {v : β} (I : In c Φ Z γ s w σ) (q : Ps c Φ Z γ W σ Vp w ((pure a : M Z.S α) s) Q) (h : Vp w v a) : Q v w.H := q v w I (.refl w) h
theorem Ps.lift {α β : Type} {Vp : W3 → β → α → Prop} {Q : β → Hp → Prop} {o : Option α} (q : Ps c Φ Z γ W σ Vp w ((B.lift o : M Z.S α) s) Q) : ∃ a, o = some a ∧ Ps c Φ Z γ W σ Vp w ((pure a : M Z.S α) s) Q := by
  cases o with
  | none => exact q.elim
  | some a => exact ⟨a, rfl, q⟩
theorem Ps.liftK {α β α' : Type} {Vp : W3 → β → α → Prop} {Q : β → Hp → Prop} {o : Option α'} {k : α' → M Z.S α} (q : Ps c Φ Z γ W σ Vp w (((B.lift o : M Z.S α') >>= k) s) Q) : ∃ a, o = some a ∧ Ps c Φ Z γ W σ Vp w (k a s) Q := by
  cases o with
  | none => exact q.elim
  | some a => exact ⟨a, rfl, q⟩
theorem Eg.congr {α β : Type} {Vp : W3 → L2.St → β → α → Prop} {t : L2.St → Hp → (β → Hp → Prop) → Prop} {m m' : M Z.S α} (h : Eg c Z γ W Vp t m) (e : m = m') : Eg c Z γ W Vp t m' := e ▸ h
/-! ### names, constants -/
theorem In.slot {i : Nat} {x : Sl} (I : In c Φ Z γ s w σ) (h : γ[i]? = some x) : ∃ o, σ[i]? = some o ∧ SlOk c Φ Z w o x := by
  have hi : i < σ.length := by rw [I.ln]; exact (List.getElem?_eq_some_iff.mp h).1
  exact ⟨σ[i], List.getElem?_eq_getElem hi, I.sl i x _ h (List.getElem?_eq_getElem hi)⟩
/-- what is a scalar may be kept -/
def scO : D → Option D
  | .non => some .non
  | .bl b => some (.bl b)
  | .int i => some (.int i)
  | .str s => some (.str s)
  | _ => none
/-! ### operators with scalar answers -/
variable {t ta tb : TE} {ma mb : M Z.S D} {tt tu : TT} {mt mu : M Z.S Bool} {g : D → D → Option D} {g1 : D → Option D}
/-- the answers of g are scalars -/
def ScG2 (g : D → D → Option D) : Prop := ∀ a b d, g a b = some d → ∃ v, Sc v d
def ScG1 (g : D → Option D) : Prop := ∀ a d, g a = some d → ∃ v, Sc v d
def blO : D → Option Bool
  | .bl b => some b
  | _ => none
end
end B
namespace B
open PySem L2
/-! Q6: argument lists, displays, +, subscripts, slices, built-ins -/
inductive Am where
  | v (fl : Fg)
  | st
  | st2 (i : Nat)
def Vam (c : Ct) (Z : StK) (γ : List Sl) (w : W3) (σ : L2.St) : Am → V → D → Prop
  | .v fl, v, d => Vl c γ w σ fl v d
  | .st, v, d => ∃ p, v = .ref p ∧ Z.at_ p ∧ d = .non
  | .st2 i, v, d => ∃ p, v = .ref p ∧ Z.at2 i p ∧ d = .non
inductive VamA (c : Ct) (Z : StK) (γ : List Sl) (w : W3) (σ : L2.St) : List Am → List V → List D → Prop
  | nil : VamA c Z γ w σ [] [] []
  | cons {m : Am} {ms : List Am} {v : V} {vs : List V} {d : D} {ds : List D} : Vam c Z γ w σ m v d → VamA c Z γ w σ ms vs ds → VamA c Z γ w σ (m :: ms) (v :: vs) (d :: ds)
/-- arguments from the left; mk: the pure run, handed what follows -/
def Ea (c : Ct) (Z : StK) (γ : List Sl) (W : WX) (ms : List Am) (ta : TA) (mk : (List D → M Z.S D) → M Z.S D) : Prop :=
  ∀ (Φ : Fm) (s : Z.S) (w : W3) (σ : L2.St) (Vp : W3 → V → D → Prop) (k : List D → M Z.S D) (Q : VK) (R : List V → Hp → Prop), In c Φ Z γ s w σ → Ps c Φ Z γ W σ Vp w (mk k s) Q →
    (∀ ds s' vs w', In c Φ Z γ s' w' σ → w.le w' → VamA c Z γ w' σ ms vs ds → Ps c Φ Z γ W σ Vp w' (k ds s') Q → R vs w'.H) → ta σ w.H R
section
variable {c : Ct} {Φ : Fm} {Z : StK} {γ : List Sl} {W : WX} {s : Z.S} {w w' : W3} {σ : L2.St} {fl fa fb : Fg} {v : V} {d : D} {te ta tb : TE} {ma mb : M Z.S D} {tr : TA} {mk : (List D → M Z.S D) → M Z.S D} {ms : List Am}
theorem Vam.mono {m : Am} (e : w.le w') (h : Vam c Z γ w σ m v d) : Vam c Z γ w' σ m v d := by
  cases m with
  | v fl => exact Vl.mono e h
  | st => exact h
  | st2 => exact h
/-! ### displays -/
def allF (n : Nat) : List Am := List.replicate n (.v .f)
theorem VamA.rp : ∀ {ms : List Am} {vs : List V} {ds : List D}, (∀ m ∈ ms, m = .v .f) → VamA c Z γ w σ ms vs ds → RpA c w.F vs ds
  | _, _, _, _, .nil => .nil
  | m :: _, _, _, h, .cons h1 h2 => by
    have e := h m List.mem_cons_self
    subst e
    exact .cons h1 (VamA.rp (fun m hm => h m (List.mem_cons_of_mem _ hm)) h2)
theorem VamA.len : ∀ {ms : List Am} {vs : List V} {ds : List D}, VamA c Z γ w σ ms vs ds → vs.length = ms.length ∧ ds.length = ms.length
  | _, _, _, .nil => ⟨rfl, rfl⟩
  | _, _, _, .cons _ h => ⟨by rw [List.length_cons, List.length_cons, (VamA.len h).1], by rw [List.length_cons, List.length_cons, (VamA.len h).2]⟩
def allf : List Am → Bool
  | [] => true
  | .v .f :: ms => allf ms
  | _ => false
def allg : List Am → Bool
  | [] => true
  | .v .f :: ms => allg ms
  | .v .g :: ms => allg ms
  | _ => false
/-! ### + -/
/-- list + list, of one's own -/
def addL : D → D → Option D
  | .lst a, .lst b => if a.length + b.length ≤ lim then some (.lst (a ++ b)) else none
  | _, _ => none
end
end B
namespace B
open PySem L2
open PySem.W (dataLe AllAlike Sortable)
/-! Q7: subscripts, slices, built-ins -/
/-- a dict to be read: its place in H, its values in R -/
def DicAt (c : Ct) (H R : Hp) (a : Addr) : Bool → List (D × D) → Prop
  | false, ks => ∃ kvs : List (Key × V), Rd H a (.dK kvs) ∧ (kvs.map fun p => kD p.1) = ks.map Prod.fst ∧ RpA c R (kvs.map Prod.snd) (ks.map Prod.snd)
  | true, ks => ∃ kvs : List (List Key × V), Rd H a (.dT kvs) ∧ (kvs.map fun p => kTD p.1) = ks.map Prod.fst ∧ RpA c R (kvs.map Prod.snd) (ks.map Prod.snd)
section
variable {c : Ct} {Φ : Fm} {Z : StK} {γ : List Sl} {W : WX} {s : Z.S} {w w' : W3} {σ : L2.St} {fl fa fb : Fg} {v : V} {d : D} {te ta tb : TE} {ma mb : M Z.S D} {tr : TA} {mk : (List D → M Z.S D) → M Z.S D} {ms : List Am} {tK : PySem.W.Frag}
theorem DicAt.get {H R : Hp} {a : Addr} {y : V} {t : Bool} {ks : List (D × D)} {k : D} (h : DicAt c H R a t ks) (hy : Rp c H y k) (kk : kindOk t k = true) :
    ∃ o, DGet H a y o ∧ (∀ d, getK ks k = some d → ∃ v, o = some v ∧ Rp c R v d) ∧ (getK ks k = none → o = none) := by
  cases t with
  | false =>
    obtain ⟨kvs, h1, h2, h3⟩ := h
    obtain ⟨x, rfl, rfl⟩ := key_of_isK hy kk
    have f := find_rel (k2 := kD) (fun _ _ => kD_inj) h2 h3 x
    exact ⟨valV kvs x, .inl ⟨kvs, x, h1, rfl, rfl⟩, f.1, f.2⟩
  | true =>
    obtain ⟨kvs, h1, h2, h3⟩ := h
    obtain ⟨b, x, rfl, hb, rfl⟩ := key_of_isT hy kk
    have f := find_rel (k2 := kTD) (fun _ _ => kTD_inj) h2 h3 x
    exact ⟨valV kvs x, .inr ⟨kvs, x, b, h1, rfl, hb, rfl⟩, f.1, f.2⟩
theorem Rp.dicAt {F H : Hp} {t : Bool} {ks : List (D × D)} (e : Sub F H) (h : Rp c F v (.dic t ks)) : ∃ a, v = .ref a ∧ DicAt c H F a t ks := by
  cases h with
  | @dK a kvs _ h1 h2 h3 => exact ⟨a, rfl, kvs, e.rd h1, h2, h3⟩
  | @dT a kvs _ h1 h2 h3 => exact ⟨a, rfl, kvs, e.rd h1, h2, h3⟩
theorem Vl.dic {t : Bool} {ks : List (D × D)} (I : In c Φ Z γ s w σ) (h : Vl c γ w σ fl v (.dic t ks)) : ∃ a, v = .ref a ∧ DicAt c w.H (w.reg fl) a t ks := by
  cases fl with
  | f => exact Rp.dicAt I.fin.wd.fh h
  | g => exact Rp.dicAt I.fin.wd.gh h
  | s =>
    obtain ⟨a, rfl, r⟩ := h
    cases t with
    | false => obtain ⟨kvs, h1, h2, h3⟩ := r; exact ⟨a, rfl, kvs, I.fin.wd.gh.rd h1, h2, h3⟩
    | true => obtain ⟨kvs, h1, h2, h3⟩ := r; exact ⟨a, rfl, kvs, I.fin.wd.gh.rd h1, h2, h3⟩
  | o i =>
    obtain ⟨a, rfl, r⟩ := I.own h.1 h.2
    have k := r.ow
    cases t with
    | false => obtain ⟨kvs, h1, h2, h3⟩ := k; exact ⟨a, rfl, kvs, .inl h1, h2, h3⟩
    | true => obtain ⟨kvs, h1, h2, h3⟩ := k; exact ⟨a, rfl, kvs, .inl h1, h2, h3⟩
theorem RpA.atI {F : Hp} {xs : List V} {ds : List D} {i : Int} (h : RpA c F xs ds) (e : L2.atI ds i = some d) : ∃ v, L2.atI xs i = some v ∧ Rp c F v d := by
  unfold L2.atI at e ⊢
  rw [h.length]
  cases q : ixN ds.length i with
  | none => rw [q] at e; cases e
  | some j =>
    rw [q] at e
    exact h.getD e
/-! ### slices -/
abbrev Eo (c : Ct) (Z : StK) (γ : List Sl) (W : WX) (t : TO) (m : M Z.S (Option Int)) : Prop := Eg c Z γ W (fun _ _ b d => b = d) t m
theorem RpA.cut {F : Hp} {xs : List V} {ds : List D} {lo hi : Option Int} (h : RpA c F xs ds) : RpA c F (cutV xs lo hi) (cutL ds lo hi) := by
  unfold cutV cutL
  rw [h.length]
  exact (h.drop _).take _
def cutLO (d : D) (lo hi : Option Int) : Option D := match d with
  | .lst ds => some (.lst (cutL ds lo hi))
  | _ => none
def revLO : D → Option D
  | .lst ds => some (.lst ds.reverse)
  | _ => none
def revTO : D → Option D
  | .tup ds => some (.tup ds.reverse)
  | _ => none
def revSO : D → Option D
  | .str z => if z.length ≤ lim then some (.str (revS z)) else none
  | _ => none
/-! ### chains a <= b <= c -/
end
end B
namespace B
open PySem L2
open PySem.Spec PyProof.Rows
open PySem.W (dataLe AllAlike Sortable)
/-! Q8: built-ins -/
section
variable {X : Cx} {c : Ct}
end
section
variable {c : Ct} {Φ : Fm} {Z : StK} {γ : List Sl} {W : WX} {s : Z.S} {w w' : W3} {σ : L2.St} {fl fa fb : Fg} {v : V} {d : D} {te ta tb : TE} {ma mb : M Z.S D} {tK : PySem.W.Frag} {g : D → D → Option D} {g1 : D → Option D}
/-! ### scalar answers -/
theorem sg_abs : ScG1 absD := fun a d h => by
  unfold absD at h
  split at h <;> cases h
  exact ⟨_, .int _⟩
end
end B
namespace B
open PySem L2
open PySem.Spec PyProof.Rows
open PySem.W (dataLe AllAlike Sortable EachIs)
/-! Q9: list, tuple, sorted, isinstance; what is walked; lists by for -/
def rListQ (K : PySem.W.Frag) : List V → Hp → VK → Prop := fun xs H Q => ∃ p ys, xs = [.ref p] ∧ (SqL K H p ys ∨ SqT K H p ys) ∧ ∀ l, H l = none → Q (.ref l) (upd H l (.lst ys))
def rTupleQ (K : PySem.W.Frag) : List V → Hp → VK → Prop := fun xs H Q => ∃ p ys, xs = [.ref p] ∧ ((SqL K H p ys ∧ ∀ l, H l = none → Q (.ref l) (upd H l (.tup ys))) ∨ (SqT K H p ys ∧ Q (.ref p) H))
def listO : D → Option D
  | .lst ds => some (.lst ds)
  | .tup ds => some (.lst ds)
  | _ => none
def tupO : D → Option D
  | .lst ds => some (.tup ds)
  | .tup ds => some (.tup ds)
  | _ => none
def tupNE : PyData → Bool
  | .tuple (_ :: _) => true
  | _ => false
def noTup : PyData → Bool
  | .tuple _ => false
  | .none => false
  | _ => true
def sortB (ps : List PyData) : Bool := (ps.all fun a => ps.all fun b => PySem.W.alike a b) && (ps.all tupNE || ps.all noTup) && ps.all fun p => decide (p.depth ≤ 60)
def sortL (ds : List D) (ps : List PyData) : List D := ((ds.zip ps).mergeSort (dataLe false Prod.snd)).map Prod.fst
def sortO : D → Option D
  | .lst ds => match D.toPs ds with
    | some ps => if sortB ps = true then some (.lst (sortL ds ps)) else none
    | none => none
  | _ => none
section
variable {c : Ct} {Φ : Fm} {Z : StK} {γ : List Sl} {W : WX} {s : Z.S} {w w' : W3} {σ : L2.St} {fl fa fb : Fg} {v : V} {d : D} {te ta tb : TE} {ma mb : M Z.S D} {tK : PySem.W.Frag}
/-! ### isinstance -/
def tyN : D → Option String
  | .non => some "NoneType"
  | .bl _ => some "bool"
  | .int _ => some "int"
  | .str _ => some "str"
  | .tup _ => some "tuple"
  | .lst _ => some "list"
  | .dic _ _ => some "dict"
  | .obj _ _ => none
def isN (n T : String) : Bool := n == T || (n == "bool" && T == "int")
def isiD (T : String) (d : D) : Option D := (tyN d).map fun n => .bl (isN n T)
def KitT (K : PySem.W.Frag) (T : String) : Prop := ∀ (d : D) (n : String), tyN d = some n → PySem.W.kitOne K (.type n) (.type T) = some (isN n T)
def rIsQ (c : Ct) (T : String) : List V → Hp → VK → Prop := fun xs H Q => ∃ x d n, xs = [x, .ty T] ∧ Rp c H x d ∧ tyN d = some n ∧ Q (.bl (isN n T)) H
/-! ### is None -/
/-! ### what is walked -/
/-- the walk J gives ds, whatever comes later -/
def Wk (c : Ct) (Φ : Fm) (Z : StK) (fl : Fg) (J : It) (ds : List D) (w1 : W3) : Prop :=
  ∀ (γ2 : List Sl) (s2 : Z.S) (w2 : W3) (σ2 : L2.St), In c Φ Z γ2 s2 w2 σ2 → w1.le w2 →
    (∀ i, i < ds.length → J.go i w2.H) ∧ J.stop ds.length w2.H ∧ ∀ (i : Nat) (d : D) (x : V) (H' : Hp), ds[i]? = some d → J.yld i w2.H x H' → ∃ w3 : W3, w3.H = H' ∧ Cont Z w2 w3 s2 (fun _ => False) ∧ Rp c (w3.reg fl) x d
def IvAt (c : Ct) (Φ : Fm) (Z : StK) (γ : List Sl) (W : WX) (fl : Fg) (wi : TI) (m : M Z.S (List D)) : Prop :=
  ∀ (s : Z.S) (w : W3) (σ : L2.St) (R : It → Hp → Prop), In c Φ Z γ s w σ → Ps c Φ Z γ W σ (fun w (J : It) ds => Wk c Φ Z fl J ds w) w (m s) R → wi σ w.H R
def Iv (c : Ct) (Z : StK) (γ : List Sl) (W : WX) (fl : Fg) (wi : TI) (m : M Z.S (List D)) : Prop := ∀ Φ : Fm, IvAt c Φ Z γ W fl wi m
theorem Cont.rfl (I : In c Φ Z γ s w σ) : Cont Z w w s fun _ => False :=
  ⟨I.fin.wd.fg, I.fin.wd.gh, .refl _, fun _ _ h _ _ => h, fun _ h => h, fun _ _ _ _ _ h => h, fun _ _ _ _ _ h => h, I.fin.rep, fun b z => ⟨(I.fin.so b z).1, .inl z⟩⟩
end
end B
namespace B
open PySem L2
open PySem.Spec PyProof.Rows
/-! Q10: walks, targets, lists by for -/
def iAny (K : PySem.W.Frag) (tl : TE) : TI := fun σ H R => tl σ H fun x H1 => (∃ a, x = .ref a ∧ (∃ xs, SqL K H1 a xs) ∧ R (Itl K a) H1) ∨ (∃ a, x = .ref a ∧ (∃ xs, SqT K H1 a xs) ∧ R (Itt K a) H1) ∨ (∃ z, x = .str z ∧ R (Its z) H1)
def rangeO : D → Option (List D)
  | .int n => if -1000000 < n ∧ n < 1000000 then some (rangeL n) else none
  | _ => none
section
variable {c : Ct} {Φ : Fm} {Z : StK} {γ γ' : List Sl} {W : WX} {s s' : Z.S} {w w' : W3} {σ σ' : L2.St} {fl fa fb : Fg} {v : V} {d : D} {te ta tb : TE} {ma mb : M Z.S D} {tK : PySem.W.Frag}
theorem ivpt_seq {α' β' : Type} {Vp' : W3 → β' → α' → Prop} {wi : TI} {m : M Z.S (List D)} {k : List D → M Z.S α'} {Q : β' → Hp → Prop} {R : It → Hp → Prop} (h : ∀ R : It → Hp → Prop, Ps c Φ Z γ W σ (fun w (J : It) ds => Wk c Φ Z fl J ds w) w (m s) R → wi σ w.H R)
    (q : Ps c Φ Z γ W σ Vp' w ((m >>= k) s) Q) (f : ∀ ds s' J w', In c Φ Z γ s' w' σ → w.le w' → Wk c Φ Z fl J ds w' → Ps c Φ Z γ W σ Vp' w' (k ds s') Q → R J w'.H) : wi σ w.H R := by
  refine h R ?_
  cases e : m s with
  | ok a s' =>
    rw [M.bind_ok e] at q
    exact fun v w' I' le vl => f a s' v w' I' le vl (q.mono le)
  | err n ds s' =>
    rw [M.bind_err e] at q
    exact q
  | bad =>
    rw [M.bind_bad e] at q
    exact q
theorem IvAt.seq {α' β' : Type} {Vp' : W3 → β' → α' → Prop} {wi : TI} {m : M Z.S (List D)} {k : List D → M Z.S α'} {Q : β' → Hp → Prop} {R : It → Hp → Prop} (h : IvAt c Φ Z γ W fl wi m) (I : In c Φ Z γ s w σ)
    (q : Ps c Φ Z γ W σ Vp' w ((m >>= k) s) Q) (f : ∀ ds s' J w', In c Φ Z γ s' w' σ → w.le w' → Wk c Φ Z fl J ds w' → Ps c Φ Z γ W σ Vp' w' (k ds s') Q → R J w'.H) : wi σ w.H R := ivpt_seq (fun R => h s w σ R I) q f
theorem Iv.seq {α' β' : Type} {Vp' : W3 → β' → α' → Prop} {wi : TI} {m : M Z.S (List D)} {k : List D → M Z.S α'} {Q : β' → Hp → Prop} {R : It → Hp → Prop} (h : Iv c Z γ W fl wi m) (I : In c Φ Z γ s w σ)
    (q : Ps c Φ Z γ W σ Vp' w ((m >>= k) s) Q) (f : ∀ ds s' J w', In c Φ Z γ s' w' σ → w.le w' → Wk c Φ Z fl J ds w' → Ps c Φ Z γ W σ Vp' w' (k ds s') Q → R J w'.H) : wi σ w.H R := IvAt.seq (h Φ) I q f
/-! ### slots stored and forgotten -/
/-- .. is kept by what runs in the frame anew -/
theorem Mine.stay {a : Addr} {γ2 : List Sl} {σ2 : L2.St} (I : In c Φ Z γ s w σ) (h : Mine c Φ Z w a d) (na : ∀ (j : Nat) (e : D), γ[j]? = some (.ow e) → σ[j]? ≠ some (some (.ref a))) (k : Fin (B.re Z γ w σ) Z s' w') : Mine c Φ Z w' a d := by
  obtain ⟨o, ho⟩ := h.ow.has
  have nT : ¬ (B.re Z γ w σ).T a := fun z => by
    rcases z with z | ⟨i, e, h1, h2⟩
    · exact h.ns z
    · exact na i e h1 h2
  refine ⟨h.ow.keep k.wd.le.1 fun u q => k.wd.keep a u q nT, k.wd.frG a o ho nT h.ng, h.fr, fun z => ?_⟩
  rcases (k.so a z).2 with q | q
  · exact nT q
  · rw [show (B.re Z γ w σ).w.H a = w.H a from rfl, ho] at q; cases q
end
end B
namespace B
open PySem L2
/-! Q11: lists by for -/
def fzl : Fg → D → Sl
  | .g, d => .bo d
  | _, d => .fz d
def WF : WX := fun _ _ _ _ => False
structure TgC (c : Ct) (Z : StK) (γ : List Sl) (fl : Fg) (g : TG) (vs : List Nat) (bnd : D → Option (List Sl)) : Prop where
  run : ∀ (Φ : Fm) (s : Z.S) (w : W3) (σ : L2.St) (x : V) (d : D) (γ' : List Sl) (R : L2.St → Hp → Prop), In c Φ Z γ s w σ → Rp c (w.reg fl) x d → bnd d = some γ' →
    (∀ σ2, In c Φ Z γ' s w σ2 → wipe σ2 vs = wipe σ vs → (∀ (j : Nat) (o : Option V), j ∉ vs → σ[j]? = some o → σ2[j]? = some o) → R σ2 w.H) → g x (wipe σ vs) w.H R
  un : ∀ j ∈ vs, γ[j]? = some .un
  ow : ∀ (d : D) (γ' : List Sl) (j : Nat) (e : D), bnd d = some γ' → γ'[j]? = some (.ow e) → γ[j]? = some (.ow e) ∧ j ∉ vs
  ag : ∀ (d : D) (γ' : List Sl) (j : Nat) (x : Sl), bnd d = some γ' → j ∉ vs → γ[j]? = some x → γ'[j]? = some x
section
variable {c : Ct} {Φ : Fm} {Z : StK} {γ γ' : List Sl} {W : WX} {s s' : Z.S} {w w' : W3} {σ σ' : L2.St} {fl fa fb : Fg} {v : V} {d : D} {te ta tb : TE} {ma mb : M Z.S D} {tK : PySem.W.Frag}
end
end B
namespace B
open PySem L2
/-! Q12: statements and their pure runs -/
/-- what is wanted behind a block, by how its pure run ends -/
structure EK (Z : StK) (α : Type) where
  p : Fm → W3 → Ends → α → Z.S → Prop
  mono : ∀ {Φ : Fm} {w w' : W3} {E : Ends} {a : α} {s : Z.S}, w.le w' → p Φ w E a s → p Φ w' E a s
def SErr (c : Ct) (Φ : Fm) (Z : StK) (γe : List Sl) (W : WX) (w : W3) (n : Nat) (ds : List D) (s' : Z.S) : Prop :=
  ∀ (dx : Addr) (vs : List V) (w' : W3) (σ' : L2.St), In c Φ Z γe s' w' σ' → w.le w' → w'.H dx = some (.xd ((c.ef n).zip vs)) → (vs.length = (c.ef n).length ∧ w'.G dx = none ∧ Φ.w.H dx = none ∧ ¬ Z.own w'.H dx) → RpA c w'.F vs ds → W (.ref (c.ec n)) (some dx) σ' w'.H
def SPs {α : Type} (c : Ct) (Φ : Fm) (Z : StK) (γe : List Sl) (W : WX) (K : EK Z α) (w : W3) (o : Out Z.S α) (E : Ends) : Prop := match o with
  | .ok a s' => K.p Φ w E a s'
  | .err n ds s' => SErr c Φ Z γe W w n ds s'
  | .bad => False
def Sg {α : Type} (c : Ct) (Z : StK) (γ : List Sl) (W : WX) (γe : List Sl) (K : EK Z α) (t : TS) (m : M Z.S α) : Prop :=
  ∀ (Φ : Fm) (s : Z.S) (w : W3) (σ : L2.St) (E : Ends), In c Φ Z γ s w σ → SPs c Φ Z γe W K w (m s) E → t E σ w.H
theorem Sg.app {α : Type} {c : Ct} {Z : StK} {γ : List Sl} {W : WX} {γ' : List Sl} {k : EK Z α} {t : TS} {p : M Z.S α} {Φ : Fm} {s : Z.S} {w : W3} {σ : L2.St} {E : Ends} (h : Sg c Z γ W γ' k t p) (I : In c Φ Z γ s w σ) (q : SPs c Φ Z γ' W k w (p s) E) : t E σ w.H := h Φ s w σ E I q
/-- how an answer lies: for good, or as an object of one's own -/
def Rs (c : Ct) (Φ : Fm) (Z : StK) (rm : Bool) (w : W3) (v : V) (d : D) : Prop := if rm = true then ∃ a, v = .ref a ∧ Mine c Φ Z w a d else Rp c w.F v d
def ekR (c : Ct) (Z : StK) (rm : Bool) : EK Z D where
  p := fun Φ w E d s' => ∀ v w', Fin Φ Z s' w' → w.le w' → Rs c Φ Z rm w' v d → E.rt v w'.H
  mono := fun le h v w' F l r => h v w' F (le.trans l) r
def ekN {β : Type} (c : Ct) (Z : StK) (G : β → List Sl) : EK Z β where
  p := fun Φ w E b s' => ∀ w' σ', In c Φ Z (G b) s' w' σ' → w.le w' → E.nx σ' w'.H
  mono := fun le h w' σ' I l => h w' σ' I (le.trans l)
def ekF {β : Type} (c : Ct) (Z : StK) (G : β → List Sl) (rm : Bool) : EK Z (Fl β) where
  p := fun Φ w E b s' => match b with
    | .nx b => (ekN c Z G).p Φ w E b s'
    | .rt d => (ekR c Z rm).p Φ w E d s'
  mono := fun {Φ w w' E a s} le h => by
    cases a with
    | nx b => exact (ekN c Z G).mono le h
    | rt d => exact (ekR c Z rm).mono le h
section
variable {c : Ct} {Φ : Fm} {Z : StK} {γ γe : List Sl} {W : WX} {s s' : Z.S} {w w' : W3} {σ σ' : L2.St} {fl fa fb : Fg} {v : V} {d : D} {te ta tb : TE} {ma mb : M Z.S D} {tK : PySem.W.Frag} {α β : Type} {K : EK Z α} {E : Ends} {t t1 t2 : TS}
theorem SPs.mono {o : Out Z.S α} (le : w.le w') (h : SPs c Φ Z γe W K w o E) : SPs c Φ Z γe W K w' o E := by
  cases o with
  | ok a s' => exact K.mono le h
  | err n ds s' => exact fun dx vs w2 σ2 I l h1 h2 h3 => h dx vs w2 σ2 I (le.trans l) h1 h2 h3
  | bad => exact h
/-- an expression within a statement -/
theorem Eg.stm {α' β' : Type} {Vp : W3 → L2.St → β' → α' → Prop} {t : L2.St → Hp → (β' → Hp → Prop) → Prop} {m : M Z.S α'} {k : α' → M Z.S α} {R : β' → Hp → Prop} (h : Eg c Z γ W Vp t m) (hk : Lek γ γe) (I : In c Φ Z γ s w σ)
    (q : SPs c Φ Z γe W K w ((m >>= k) s) E) (f : ∀ a s' v w', In c Φ Z γ s' w' σ → w.le w' → Vp w' σ v a → SPs c Φ Z γe W K w' (k a s') E → R v w'.H) : t σ w.H R := by
  refine h Φ s w σ R I ?_
  cases e : m s with
  | ok a s' =>
    rw [M.bind_ok e] at q
    exact fun v w' I' le vl => f a s' v w' I' le vl (q.mono le)
  | err n ds s' =>
    rw [M.bind_err e] at q
    exact fun dx vs w' I' le h1 h2 h3 => q dx vs w' σ (I'.weak hk) le h1 h2 h3
  | bad =>
    rw [M.bind_bad e] at q
    exact q
theorem En.stm {t : TE} {m : M Z.S D} {k : D → M Z.S α} {R : VK} (h : En c Z γ W t m) (hk : Lek γ γe) (I : In c Φ Z γ s w σ)
    (q : SPs c Φ Z γe W K w ((m >>= k) s) E) (f : ∀ a s' v w', In c Φ Z γ s' w' σ → w.le w' → Nw c Φ Z γ w' σ v a → SPs c Φ Z γe W K w' (k a s') E → R v w'.H) : t σ w.H R := by
  refine h Φ s w σ R I ?_
  cases e : m s with
  | ok a s' =>
    rw [M.bind_ok e] at q
    exact fun v w' I' le vl => f a s' v w' I' le vl (q.mono le)
  | err n ds s' =>
    rw [M.bind_err e] at q
    exact fun dx vs w' I' le h1 h2 h3 => q dx vs w' σ (I'.weak hk) le h1 h2 h3
  | bad =>
    rw [M.bind_bad e] at q
    exact q
theorem Iv.stm {wi : TI} {m : M Z.S (List D)} {k : List D → M Z.S α} {R : It → Hp → Prop} (h : Iv c Z γ W fl wi m) (hk : Lek γ γe) (I : In c Φ Z γ s w σ)
    (q : SPs c Φ Z γe W K w ((m >>= k) s) E) (f : ∀ ds s' J w', In c Φ Z γ s' w' σ → w.le w' → Wk c Φ Z fl J ds w' → SPs c Φ Z γe W K w' (k ds s') E → R J w'.H) : wi σ w.H R := by
  refine h Φ s w σ R I ?_
  cases e : m s with
  | ok a s' =>
    rw [M.bind_ok e] at q
    exact fun v w' I' le vl => f a s' v w' I' le vl (q.mono le)
  | err n ds s' =>
    rw [M.bind_err e] at q
    exact fun dx vs w' I' le h1 h2 h3 => q dx vs w' σ (I'.weak hk) le h1 h2 h3
  | bad =>
    rw [M.bind_bad e] at q
    exact q
theorem SPs.liftK {α' : Type} {o : Option α'} {k : α' → M Z.S α} (q : SPs c Φ Z γe W K w (((B.lift o : M Z.S α') >>= k) s) E) : ∃ a, o = some a ∧ SPs c Φ Z γe W K w (k a s) E := by
  cases o with
  | none => exact q.elim
  | some a => exact ⟨a, rfl, q⟩
/-! ### assignments -/
/-! ### the ends of a block -/
/-! ### one after another -/
/-! ### if -/
variable {tt : TT} {mt : M Z.S Bool} {m1 m2 : M Z.S α}
end
end B
namespace B
open PySem L2
/-! Q13: loops, stores -/
structure TgL (c : Ct) (Z : StK) (fl : Fg) (g : TG) (bnd : List Sl → D → Option (List Sl)) : Prop where
  run : ∀ (Φ : Fm) (γ : List Sl) (s : Z.S) (w : W3) (σ : L2.St) (x : V) (d : D) (γ' : List Sl) (R : L2.St → Hp → Prop), In c Φ Z γ s w σ → Rp c (w.reg fl) x d → bnd γ d = some γ' → (∀ σ2, In c Φ Z γ' s w σ2 → R σ2 w.H) → g x σ w.H R
def bN (fl : Fg) (i : Nat) (γ : List Sl) (d : D) : Option (List Sl) := some (γ.set i (fzl fl d))
def bP (fl : Fg) (i j : Nat) (γ : List Sl) (d : D) : Option (List Sl) := match d with
  | .tup [x, y] => some ((γ.set i (fzl fl x)).set j (fzl fl y))
  | _ => none
section
variable {c : Ct} {Φ : Fm} {Z : StK} {γ γe : List Sl} {W : WX} {s s' : Z.S} {w w' : W3} {σ σ' : L2.St} {fl fa fb : Fg} {v : V} {d : D} {te ta tb : TE} {ma mb : M Z.S D} {tK : PySem.W.Frag} {α β : Type} {K : EK Z α} {E : Ends} {t t1 t2 tB : TS}
def onPair {α : Type} {S : Type} (f : D → D → M S α) : D → M S α
  | .tup [x, y] => f x y
  | _ => M.bad
/-! ### lists by for: shorter words -/
end
end B
namespace B
open PySem L2
open PySem.Spec PyProof.Rows
/-! Q14: stores, defs and their calls -/
def rSetA : TSet := fun o i v H Q => rSetL o i v H Q ∨ ∃ a H', o = .ref a ∧ DPut H a i v H' ∧ Q H'
def lstO : D → Option (List D)
  | .lst ds => some ds
  | _ => none
def appL (ds : List D) (d : D) : Option D := if ds.length < lim then some (.lst (ds ++ [d])) else none
def putO : D → D → D → Option D
  | .lst ds, .int i, v => (ixN ds.length i).map fun j => .lst (ds.set j v)
  | .dic t ks, k, v => if kindOk t k = true ∧ ks.length < lim then some (.dic t (putK' ks k v)) else none
  | _, _, _ => none
def popO : D → D → Option (D × D)
  | .lst ds, .int i => if 0 ≤ i ∧ i < ds.length ∧ ds.length ≤ lim then (ds[i.toNat]?).map fun d => (d, .lst (ds.eraseIdx i.toNat)) else none
  | _, _ => none
section
variable {c : Ct} {κ : Type} [DecidableEq κ] {k2 : κ → D} {F : Hp}
end
section
variable {c : Ct} {Φ : Fm} {Z : StK} {γ γe : List Sl} {W : WX} {s s' : Z.S} {w w' : W3} {σ σ' : L2.St} {fl fa fb : Fg} {v : V} {d x y : D} {te ta tb tk : TE} {ma mb mk : M Z.S D} {tK : PySem.W.Frag} {α β : Type} {K : EK Z α} {E : Ends} {t t1 t2 tB : TS}
theorem SPs.set {o : Out Z.S α} {a : Addr} {u : HO} (q : SPs c Φ Z γe W K w o E) : SPs c Φ Z γe W K (w.set a u) o E := SPs.mono (show w.le (w.set a u) from (W3.le.of (.refl _) (.refl _))) q
end
end B
namespace B
open PySem L2
/-! Q15: defs by their pure runs, and their calls -/
inductive Md where
  | fz
  | bo
  | sh
  | st
  | st2 (i : Nat)
  | mv
def ArgOk (c : Ct) (Z : StK) (w : W3) : Md → V → D → Prop
  | .fz, v, d => Rp c w.F v d
  | .bo, v, d => Rp c w.G v d
  | .sh, v, d => ∃ a, v = .ref a ∧ OwS c w.F w.G a d
  | .st, v, d => ∃ p, v = .ref p ∧ Z.at_ p ∧ d = .non
  | .st2 i, v, d => ∃ p, v = .ref p ∧ Z.at2 i p ∧ d = .non
  | .mv, v, d => ∃ a, v = .ref a ∧ Ow c w a d ∧ w.G a = none ∧ ¬ Z.own w.H a
inductive Args (c : Ct) (Z : StK) (w : W3) : List Md → List V → List D → Prop
  | nil : Args c Z w [] [] []
  | cons {m : Md} {ms : List Md} {v : V} {vs : List V} {d : D} {ds : List D} : ArgOk c Z w m v d → Args c Z w ms vs ds → Args c Z w (m :: ms) (v :: vs) (d :: ds)
/-- what is handed over -/
def mvT : List Md → List V → Addr → Prop
  | .mv :: _, .ref a :: _, b => b = a
  | _ :: ms, _ :: vs, b => mvT ms vs b
  | _, _, _ => False
def fmD (Z : StK) (w : W3) (ms : List Md) (vs : List V) : Fm := ⟨w, fun b => Z.own w.H b ∨ mvT ms vs b⟩
def spD (c : Ct) (Z : StK) (ms : List Md) (rm : Bool) (f : List D → M Z.S D) : Sp := fun vs H Q E => ∃ (w : W3) (s : Z.S) (ds : List D), w.H = H ∧ Sub w.F w.G ∧ Sub w.G w.H ∧ Z.rep w.F w.H s ∧ (∀ b, Z.own w.H b → w.G b = none) ∧ Args c Z w ms vs ds ∧
  match f ds s with
  | .ok d s' => ∀ v w', Cont Z w w' s' (mvT ms vs) → Rs c (fmD Z w ms vs) Z rm w' v d → Q v w'.H
  | .err n es s' => ∀ dx xs w', Cont Z w w' s' (mvT ms vs) → w'.H dx = some (.xd ((c.ef n).zip xs)) → (xs.length = (c.ef n).length ∧ w'.G dx = none ∧ w.H dx = none ∧ ¬ Z.own w'.H dx) → RpA c w'.F xs es → E (.ref (c.ec n)) (some dx) w'.H
  | .bad => False
def slA : Md → D → Sl
  | .fz, d => .fz d
  | .bo, d => .bo d
  | .sh, d => .sh d
  | .st, _ => .st
  | .st2 i, _ => .st2 i
  | .mv, d => .ow d
def ini : List Md → List D → Nat → List Sl
  | m :: ms, d :: ds, n => slA m d :: ini ms ds n
  | _, _, n => List.replicate n .un
/-- at most one object is handed over -/
def oneMv : List Md → Bool
  | [] => true
  | .mv :: ms => ms.all fun m => match m with | .mv => false | _ => true
  | _ :: ms => oneMv ms
section
variable {c : Ct} {Z : StK} {w : W3} {ms : List Md} {vs : List V} {ds : List D}
theorem Args.len : ∀ {ms : List Md} {vs : List V} {ds : List D}, Args c Z w ms vs ds → vs.length = ms.length ∧ ds.length = ms.length
  | _, _, _, .nil => ⟨rfl, rfl⟩
  | _, _, _, .cons _ h => ⟨by rw [List.length_cons, List.length_cons, h.len.1], by rw [List.length_cons, List.length_cons, h.len.2]⟩
theorem ini_len : ∀ {ms : List Md} {ds : List D} (n : Nat), ds.length = ms.length → (ini ms ds n).length = ms.length + n
  | [], [], n, _ => by simp [ini]
  | m :: ms, d :: ds, n, h => by
    rw [ini, List.length_cons, List.length_cons, ini_len n (Nat.succ.inj h)]; omega
theorem ini_get : ∀ {ms : List Md} {vs : List V} {ds : List D} {n i : Nat} {x : Sl}, Args c Z w ms vs ds → (ini ms ds n)[i]? = some x → x = .un ∨ ∃ m v d, ms[i]? = some m ∧ vs[i]? = some v ∧ x = slA m d ∧ ArgOk c Z w m v d
  | _, _, _, n, i, x, .nil, h => by
    unfold ini at h
    left
    have := List.mem_of_getElem? h
    exact (List.mem_replicate.mp this).2
  | _, _, _, n, 0, x, .cons (m := m) (v := v) (d := d) h1 h2, h => by
    rw [ini, List.getElem?_cons_zero] at h
    cases h
    exact .inr ⟨m, v, d, rfl, rfl, rfl, h1⟩
  | _, _, _, n, i + 1, x, .cons h1 h2, h => by
    rw [ini, List.getElem?_cons_succ] at h
    rcases ini_get h2 h with q | ⟨m, v, d, a1, a2, a3, a4⟩
    · exact .inl q
    · exact .inr ⟨m, v, d, by rw [List.getElem?_cons_succ]; exact a1, by rw [List.getElem?_cons_succ]; exact a2, a3, a4⟩
theorem mvT_of : ∀ {ms : List Md} {vs : List V} {i : Nat} {a : Addr}, oneMv ms = true → ms[i]? = some .mv → vs[i]? = some (.ref a) → mvT ms vs a
  | [], _, i, _, _, h, _ => by cases i <;> cases h
  | m :: ms, [], i, _, _, _, h => by cases i <;> cases h
  | m :: ms, v :: vs, 0, a, _, h, h' => by cases h; cases h'; rfl
  | m :: ms, v :: vs, i + 1, a, o, h, h' => by
    rw [List.getElem?_cons_succ] at h h'
    cases m with
    | mv =>
      have := (List.all_eq_true.mp o) .mv (List.mem_of_getElem? h)
      cases this
    | fz => exact mvT_of (ms := ms) o h h'
    | bo => exact mvT_of (ms := ms) o h h'
    | sh => exact mvT_of (ms := ms) o h h'
    | st => exact mvT_of (ms := ms) o h h'
    | st2 => exact mvT_of (ms := ms) o h h'
theorem one_mv : ∀ {ms : List Md} {i j : Nat}, oneMv ms = true → ms[i]? = some .mv → ms[j]? = some .mv → i = j
  | [], i, _, _, h, _ => by cases i <;> cases h
  | m :: ms, 0, 0, _, _, _ => rfl
  | m :: ms, 0, j + 1, o, h, h' => by
    cases h
    rw [List.getElem?_cons_succ] at h'
    have := (List.all_eq_true.mp o) .mv (List.mem_of_getElem? h')
    cases this
  | m :: ms, i + 1, 0, o, h, h' => by
    cases h'
    rw [List.getElem?_cons_succ] at h
    have := (List.all_eq_true.mp o) .mv (List.mem_of_getElem? h)
    cases this
  | m :: ms, i + 1, j + 1, o, h, h' => by
    rw [List.getElem?_cons_succ] at h h'
    cases m with
    | mv =>
      have := (List.all_eq_true.mp o) .mv (List.mem_of_getElem? h)
      cases this
    | fz => rw [one_mv (ms := ms) o h h']
    | bo => rw [one_mv (ms := ms) o h h']
    | sh => rw [one_mv (ms := ms) o h h']
    | st => rw [one_mv (ms := ms) o h h']
    | st2 => rw [one_mv (ms := ms) o h h']
/-- the state at a def's entry -/
theorem In.entry {s : Z.S} {n : Nat} (fg : Sub w.F w.G) (gh : Sub w.G w.H) (rep : Z.rep w.F w.H s) (so : ∀ b, Z.own w.H b → w.G b = none) (ha : Args c Z w ms vs ds) (ho : oneMv ms = true) : In c (fmD Z w ms vs) Z (ini ms ds n) s w (vs.map some ++ List.replicate n none) := by
  refine ⟨⟨⟨fg, gh, .refl _, fun _ _ h _ => h, fun _ h => h, fun _ _ _ _ h => h, fun _ _ _ _ h => h⟩, rep, fun b z => ⟨so b z, .inl (.inl z)⟩⟩, ?_, fun i x o hx hv => ?_, fun i j d e a h1 h2 h3 h4 => ?_⟩
  · rw [ini_len n ha.len.2, List.length_append, List.length_map, List.length_replicate, ha.len.1]
  · rcases ini_get ha hx with q | ⟨m, v, d, a1, a2, a3, a4⟩
    · subst q; trivial
    · have hi : i < vs.length := (List.getElem?_eq_some_iff.mp a2).1
      rw [List.getElem?_append_left (by rw [List.length_map]; exact hi), List.getElem?_map, a2] at hv
      cases hv
      subst a3
      cases m with
      | fz => exact ⟨v, rfl, a4⟩
      | bo => exact ⟨v, rfl, a4⟩
      | sh => obtain ⟨a, e, r⟩ := a4; exact ⟨a, by rw [e], r⟩
      | st => obtain ⟨p, e, h, _⟩ := a4; exact ⟨p, by rw [e], h⟩
      | st2 => obtain ⟨p, e, h, _⟩ := a4; exact ⟨p, by rw [e], h⟩
      | mv =>
        obtain ⟨a, e, h1, h2, h3⟩ := a4
        subst e
        exact ⟨a, rfl, h1, h2, .inl (.inr (mvT_of ho a1 a2)), h3⟩
  · have g : ∀ (i : Nat) (d : D), (ini ms ds n)[i]? = some (.ow d) → ms[i]? = some .mv := fun i d h => by
      rcases ini_get ha h with q | ⟨m, v, d', a1, a2, a3, a4⟩
      · cases q
      · cases m with
        | mv => exact a1
        | _ => cases a3
    exact one_mv ho (g i d h1) (g j e h2)
/-! ### calls -/
open Classical in
/-- own slots may be read by the callee -/
noncomputable def lendG (γ : List Sl) (w : W3) (σ : L2.St) : Hp := fun b => if ∃ (i : Nat) (d : D), γ[i]? = some (.ow d) ∧ σ[i]? = some (some (.ref b)) then w.H b else w.G b
open Classical in
noncomputable def backG (γ : List Sl) (G : Hp) (σ : L2.St) : Hp := fun b => if ∃ (i : Nat) (d : D), γ[i]? = some (.ow d) ∧ σ[i]? = some (some (.ref b)) then none else G b
section
variable {Φ : Fm} {γ : List Sl} {s s' : Z.S} {w' : W3} {σ : L2.St} {W : WX} {v : V} {d : D}
theorem lend_at {b : Addr} {i : Nat} {d : D} (h : γ[i]? = some (.ow d)) (h' : σ[i]? = some (some (.ref b))) : lendG γ w σ b = w.H b := by
  unfold lendG; rw [if_pos ⟨i, d, h, h'⟩]
theorem lend_ne {b : Addr} (h : ¬ ∃ (i : Nat) (d : D), γ[i]? = some (.ow d) ∧ σ[i]? = some (some (.ref b))) : lendG γ w σ b = w.G b := by
  unfold lendG; rw [if_neg h]
theorem In.nG (I : In c Φ Z γ s w σ) {b : Addr} (h : ∃ (i : Nat) (d : D), γ[i]? = some (.ow d) ∧ σ[i]? = some (some (.ref b))) : w.G b = none ∧ (∃ o, w.H b = some o) ∧ ¬ Z.own w.H b := by
  obtain ⟨i, d, h1, h2⟩ := h
  obtain ⟨a, e, m⟩ := I.own h1 h2
  cases e
  exact ⟨m.ng, m.ow.has, m.ns⟩
theorem lend_fg (I : In c Φ Z γ s w σ) : Sub w.G (lendG γ w σ) := fun b u h => by
  rw [lend_ne fun z => by rw [(I.nG z).1] at h; cases h]
  exact .inl h
/-- behind a call -/
theorem In.called (I : In c Φ Z γ s w σ) (k : Cont Z ⟨w.F, lendG γ w σ, w.H⟩ w' s' fun _ => False) : Cont Z w ⟨w'.F, backG γ w'.G σ, w'.H⟩ s' fun _ => False := by
  have bn : ∀ {b : Addr}, (∃ (i : Nat) (d : D), γ[i]? = some (.ow d) ∧ σ[i]? = some (some (.ref b))) → backG γ w'.G σ b = none := fun z => by unfold backG; rw [if_pos z]
  have bb : ∀ {b : Addr}, ¬ (∃ (i : Nat) (d : D), γ[i]? = some (.ow d) ∧ σ[i]? = some (some (.ref b))) → backG γ w'.G σ b = w'.G b := fun z => by unfold backG; rw [if_neg z]
  refine ⟨fun b u h => ?_, fun b u h => ?_, W3.le.of k.le.fs (fun b u h => ?_), k.keep, k.has, k.frF, fun b o h1 h2 h3 h4 => ?_, k.rep, fun b z => ⟨?_, (k.so b z).2⟩⟩
  · have nz : ¬ ∃ (i : Nat) (d : D), γ[i]? = some (.ow d) ∧ σ[i]? = some (some (.ref b)) := fun z => by
      obtain ⟨g0, ⟨o, ho⟩, g2⟩ := I.nG z
      have := k.frF b o ho g2 (fun z => z) (I.fin.wd.fg.has g0)
      have h : w'.F b = some u := h
      rw [this] at h; cases h
    show backG γ w'.G σ b = some u ∨ (LockD u ∧ ∃ o, backG γ w'.G σ b = some (.frz o u))
    rw [bb nz]; exact k.fg b u h
  · have h : backG γ w'.G σ b = some u := h
    by_cases z : ∃ (i : Nat) (d : D), γ[i]? = some (.ow d) ∧ σ[i]? = some (some (.ref b))
    · rw [bn z] at h; cases h
    · rw [bb z] at h; exact k.gh b u h
  · have nz : ¬ ∃ (i : Nat) (d : D), γ[i]? = some (.ow d) ∧ σ[i]? = some (some (.ref b)) := fun z => by rw [(I.nG z).1] at h; cases h
    show backG γ w'.G σ b = some u
    rw [bb nz]
    exact k.le.gs b u (by show lendG γ w σ b = some u; rw [lend_ne nz]; exact h)
  · by_cases z : ∃ (i : Nat) (d : D), γ[i]? = some (.ow d) ∧ σ[i]? = some (some (.ref b))
    · exact bn z
    · show backG γ w'.G σ b = none
      rw [bb z]
      exact k.frG b o h1 h2 h3 (by show lendG γ w σ b = none; rw [lend_ne z]; exact h4)
  · by_cases y : ∃ (i : Nat) (d : D), γ[i]? = some (.ow d) ∧ σ[i]? = some (some (.ref b))
    · exact bn y
    · show backG γ w'.G σ b = none
      rw [bb y]; exact (k.so b z).1
/-- the arguments fit -/
def fits : List Am → List Md → Bool
  | [], [] => true
  | .v .f :: as, .fz :: ms => fits as ms
  | .v _ :: as, .bo :: ms => fits as ms
  | .v .s :: as, .sh :: ms => fits as ms
  | .v (.o _) :: as, .sh :: ms => fits as ms
  | .st :: as, .st :: ms => fits as ms
  | .st2 i :: as, .st2 j :: ms => i == j && fits as ms
  | _, _ => false
theorem Vl.lend {fl : Fg} (I : In c Φ Z γ s w σ) (h : Vl c γ w σ fl v d) : Rp c (lendG γ w σ) v d := by
  cases fl with
  | f => exact Rp.mono (I.fin.wd.fg.trans (lend_fg I)) h
  | g => exact Rp.mono (lend_fg I) h
  | s => obtain ⟨a, rfl, r⟩ := h; exact r.rp (I.fin.wd.fg.trans (lend_fg I)) (lend_fg I)
  | o i =>
    obtain ⟨a, rfl, m⟩ := I.own h.1 h.2
    have e := lend_at (w := w) h.1 h.2
    have es : Sub w.F (lendG γ w σ) := I.fin.wd.fg.trans (lend_fg I)
    have k := m.ow
    cases d with
    | lst ds => obtain ⟨xs, h1, h2⟩ := k; exact .lst (by rw [e]; exact h1) (h2.mono es)
    | dic t ks =>
      cases t with
      | false => obtain ⟨kvs, h1, h2, h3⟩ := k; exact .dK (.inl (by rw [e]; exact h1)) h2 (h3.mono es)
      | true => obtain ⟨kvs, h1, h2, h3⟩ := k; exact .dT (.inl (by rw [e]; exact h1)) h2 (h3.mono es)
    | _ => exact k.elim
variable {as : List Am} {ta : TA} {mk : (List D → M Z.S D) → M Z.S D} {f : List D → M Z.S D}
end
end
/-! ### raise -/
section
variable {c : Ct} {Φ : Fm} {Z : StK} {γ γe : List Sl} {W : WX} {s : Z.S} {w : W3} {σ : L2.St} {te : TE} {ma : M Z.S D} {α : Type} {K : EK Z α}
theorem In.grow {H2 : Hp} (I : In c Φ Z γ s w σ) (e : Same w.H H2) : Cont Z w ⟨w.F, w.G, H2⟩ s fun _ => False := by
  have sf : Sub w.F H2 := fun b u h => by
    rcases I.fin.wd.fh b u h with q | ⟨l, o, q⟩
    · exact .inl (e b u q)
    · exact .inr ⟨l, o, e b _ q⟩
  have st := Z.stay I.fin.rep (.refl _) sf (fun b o _ h => e b o h)
  refine ⟨I.fin.wd.fg, fun b u h => ?_, (W3.le.of (.refl _) (.refl _)), fun b o h _ _ => e b o h, fun b h => ?_, fun b o h _ _ f => f, fun b o h _ _ f => f, st.1, fun b z => ?_⟩
  · rcases I.fin.wd.gh b u h with q | ⟨l, o, q⟩
    · exact .inl (e b u q)
    · exact .inr ⟨l, o, e b _ q⟩
  · cases q : w.H b with
    | none => rfl
    | some o =>
      have h : H2 b = none := h
      rw [e b o q] at h; cases h
  · have z : Z.own w.H b := (st.2 b).mp z
    exact ⟨(I.fin.so b z).1, .inl z⟩
end
end B
namespace B
open PySem L2
/-! Q16: defs for every state; for every place of the state -/
def spP (c : Ct) (ms : List Md) (rm : Bool) (f : (S : Type) → List D → M S D) : Sp := fun vs H Q E => ∃ Z : StK, spD c Z ms rm (f Z.S) vs H Q E
section
variable {c : Ct} {Z : StK} {γ : List Sl} {W : WX} {ms : List Md} {as : List Am} {ta : TA} {mk : (List D → M Z.S D) → M Z.S D} {f : (S : Type) → List D → M S D}
end
/-! ### the drawing state: [cells, at, count], or of the first kind of laws: [great cells, script + [5], count] -/
structure StV where
  cells : List Int
  at_ : Int
  cnt : Int
  scr : List Int := []
  fam : Bool := false
def stB (ns : List Int) : StV := ⟨ns, 0, 0, [], false⟩
def bigs (ns : List Int) : List Int := (ns.map fun z => if z < 0 then -z else z).filter fun z => decide (10 ^ 18 ≤ z)
def stA (ns : List Int) : StV := ⟨bigs ns, 0, 0, ns ++ [5], true⟩
def ownB (p : Addr) (H : Hp) (b : Addr) : Prop := b = p ∨ ∃ xs, H p = some (.lst xs) ∧ V.ref b ∈ xs
def repB (p : Addr) (H : Hp) (s : StV) : Prop :=
  (s.fam = false ∧ ∃ a, H p = some (.lst [.ref a, .int s.at_, .int s.cnt]) ∧ H a = some (.lst (s.cells.map V.int)) ∧ a ≠ p ∧ s.cells.length ≤ 64 ∧ 0 ≤ s.at_ ∧ 0 ≤ s.cnt ∧ s.at_ ≤ s.cnt) ∨
  (s.fam = true ∧ ∃ a b, H p = some (.lst [.ref a, .ref b, .int s.cnt]) ∧ H a = some (.lst (s.cells.map V.int)) ∧ H b = some (.lst (s.scr.map V.int)) ∧ a ≠ p ∧ b ≠ p ∧ a ≠ b ∧ s.cells.length ≤ 64 ∧ 0 < s.scr.length ∧ s.scr.length ≤ 64 ∧ 0 ≤ s.cnt)
theorem own_ref1 {H : Hp} {p a : Addr} {i j : Int} (h : H p = some (.lst [.ref a, .int i, .int j])) (b : Addr) : ownB p H b ↔ b = p ∨ b = a := by
  unfold ownB
  rw [h]
  constructor
  · rintro (z | ⟨xs, z, q⟩)
    · exact .inl z
    · cases z
      simp only [List.mem_cons, List.not_mem_nil, or_false, V.ref.injEq, reduceCtorEq] at q
      exact .inr q
  · rintro (z | z)
    · exact .inl z
    · exact .inr ⟨_, rfl, by rw [z]; exact List.mem_cons_self⟩
theorem own_ref2 {H : Hp} {p a c : Addr} {j : Int} (h : H p = some (.lst [.ref a, .ref c, .int j])) (b : Addr) : ownB p H b ↔ b = p ∨ b = a ∨ b = c := by
  unfold ownB
  rw [h]
  constructor
  · rintro (z | ⟨xs, z, q⟩)
    · exact .inl z
    · cases z
      simp only [List.mem_cons, List.not_mem_nil, or_false, V.ref.injEq, reduceCtorEq] at q
      exact .inr q
  · rintro (z | z | z)
    · exact .inl z
    · exact .inr ⟨_, rfl, by rw [z]; exact List.mem_cons_self⟩
    · exact .inr ⟨_, rfl, by rw [z]; exact List.mem_cons_of_mem _ List.mem_cons_self⟩
def ZB (p : Addr) : StK where
  S := StV
  rep := fun _ => repB p
  own := ownB p
  at_ := fun q => q = p
  stay := fun {F F' H H' s} h _ _ k => by
    rcases h with ⟨hf, a, h1, h2, h3⟩ | ⟨hf, a, b, h1, h2, h3, h4⟩
    · have k1 := k p _ (.inl rfl) h1
      refine ⟨.inl ⟨hf, a, k1, k a _ ((own_ref1 h1 a).mpr (.inr rfl)) h2, h3⟩, fun b => ?_⟩
      unfold ownB
      rw [h1, k1]
    · have k1 := k p _ (.inl rfl) h1
      refine ⟨.inr ⟨hf, a, b, k1, k a _ ((own_ref2 h1 a).mpr (.inr (.inl rfl))) h2, k b _ ((own_ref2 h1 b).mpr (.inr (.inr rfl))) h3, h4⟩, fun b => ?_⟩
      unfold ownB
      rw [h1, k1]
  has := fun {F H s b} h k => by
    rcases h with ⟨hf, a, h1, h2, h3⟩ | ⟨hf, a, c, h1, h2, h3, h4⟩
    · rcases (own_ref1 h1 b).mp k with rfl | rfl
      · exact ⟨_, h1⟩
      · exact ⟨_, h2⟩
    · rcases (own_ref2 h1 b).mp k with rfl | rfl | rfl
      · exact ⟨_, h1⟩
      · exact ⟨_, h2⟩
      · exact ⟨_, h3⟩
def spS (c : Ct) (ms : List Md) (rm : Bool) (f : List D → M StV D) : Sp := fun vs H Q E => ∃ p, spD c (ZB p) ms rm f vs H Q E
section
variable {c : Ct} {p : Addr} {γ : List Sl} {W : WX} {ms : List Md} {as : List Am} {ta : TA} {mk : (List D → M (ZB p).S D) → M (ZB p).S D} {f : List D → M StV D}
end
end B
namespace B
open PySem L2
/-! Q17: an object under construction: its fields kept for good, one dict of its own -/
abbrev DS := List (D × D)
structure Ob where
  C : Addr
  x : Addr
  dx : Addr
  ff : List (Str × V × D)
  df : Str
  a : Addr
  t : Bool
def Ob.fs (o : Ob) : List (Str × V) := o.ff.map (fun p => (p.1, p.2.1)) ++ [(o.df, .ref o.a)]
def ZD (c : Ct) (o : Ob) : StK where
  S := DS
  rep := fun F H ks => H o.x = some (.ins o.C o.dx o.fs) ∧ H o.dx = some (.own o.x) ∧ Ow c ⟨F, F, H⟩ o.a (.dic o.t ks) ∧ ∀ p ∈ o.ff, Rp c F p.2.1 p.2.2
  own := fun _ b => b = o.x ∨ b = o.dx ∨ b = o.a
  at_ := fun q => q = o.x
  stay := fun {F F' H H' s} h e _ k => by
    obtain ⟨h1, h2, h3, h4⟩ := h
    refine ⟨⟨k _ _ (.inl rfl) h1, k _ _ (.inr (.inl rfl)) h2, Ow.keep (w := ⟨F, F, H⟩) (w' := ⟨F', F', H'⟩) h3 e fun u q => k _ u (.inr (.inr rfl)) q, fun p hp => (h4 p hp).mono e⟩, fun _ => Iff.rfl⟩
  has := fun {F H s b} h k => by
    obtain ⟨h1, h2, h3, h4⟩ := h
    rcases k with rfl | rfl | rfl
    · exact ⟨_, h1⟩
    · exact ⟨_, h2⟩
    · exact Ow.has (w := ⟨F, F, H⟩) h3
def getS (t : Bool) (k : D) : M DS D := fun ks => if kindOk t k = true then match getK ks k with
    | some d => .ok d ks
    | none => .bad
  else .bad
def putS (t : Bool) (k v : D) : M DS Unit := fun ks => if kindOk t k = true ∧ ks.length < lim then .ok () (putK' ks k v) else .bad
/-- a run with a state of its own -/
def runIn {S S' α : Type} (m : M S' α) (s0 : S') : M S (α × S') := fun s => match m s0 with
  | .ok a s' => .ok (a, s') s
  | .err n ds _ => .err n ds s
  | .bad => .bad
section
variable {c : Ct} {o : Ob} {Φ : Fm} {γ γe : List Sl} {W : WX} {s : DS} {w : W3} {σ : L2.St} {fl : Fg} {te tk : TE} {ma mk : M DS D} {tK : PySem.W.Frag} {α : Type} {K : EK (ZD c o) α} {t2 : TS}
end
end B
namespace B
open PySem L2
/-! Q18: zip, enumerate; calls dropped; raise with two fields -/
section
variable {c : Ct} {Φ : Fm} {Z : StK} {γ γe : List Sl} {W : WX} {s : Z.S} {w : W3} {σ : L2.St} {fl fa fb : Fg} {te ta tb : TE} {ma mb : M Z.S D} {tK : PySem.W.Frag}
/-- zip(xs, ys) of two lists -/
def zipO : D → D → Option (List D)
  | .lst a, .lst b => some (pairs2 a b)
  | _, _ => none
end
end B
namespace B
open PySem L2
open PySem.Spec PyProof.Rows
/-! Ex2: an error with two fields -/
def spI2 (K : PySem.W.Frag) (f g : Str) : Sp := fun vs H Q _ => ∃ (a C : Addr) (v u : V), vs = [.ref a, v, u] ∧ OexC K C ∧ PySem.W.findIn K (.ref C) f = some none ∧ PySem.W.findIn K (.ref C) g = some none ∧ H a = some (exo a C none) ∧
  ∀ dx, H dx = none → dx ≠ a → Q .non (upd (upd (upd H dx (exd dx [(f, v)])) a (exo a C (some dx))) dx (exd dx [(g, u), (f, v)]))
structure ExcD2 (P : Program) (w : World) (K : PySem.W.Frag) (mg : Str → Option Value) (base : Heap) (k : Nat) (x : Str) (C : Addr) (f g : Str) : Prop where
  T : Ec K C
  no : PySem.W.findIn K (.ref C) f = some none
  no2 : PySem.W.findIn K (.ref C) g = some none
  gC : mg x = some (.ref C)
  ini : ∃ (fI : Addr) (fd : FuncData), PySem.W.findIn K (.ref C) "__init__" = some (some (.ref fI)) ∧ PySem.W.typeIn K (.ref fI) = some (.type "function") ∧ Binds K fd ["self", f, g] [] ∧ FnOk P w K mg base CX0 k fI fd ["self", f, g] (spI2 K f g)
def tRaise2 (C : Addr) (f g : Str) (W : WX) (te tu : TE) : TS := fun _ σ H => te σ H fun v H1 => tu σ H1 fun u H2 => ∀ d H3, H2 d = none → Same H2 H3 → H3 d = some (.xd [(g, u), (f, v)]) → W (.ref C) (some d) σ H3
section
variable {X : Cx} {e e2 : Expr} {te tu : TE} {W : WX} {x f g : Str} {C : Addr} {k : Nat} {p pos pos2 : Pos}
end
end B
namespace B
open PySem L2
/-! Q19: raise with two fields -/
section
variable {c : Ct} {Z : StK} {γ γe : List Sl} {W : WX} {te tu : TE} {ma mb : M Z.S D} {α : Type} {K : EK Z α}
end
end B
namespace B
open PySem L2
/-! Q20: an object under construction: fields kept for good alone -/
def ffs (ff : List (Str × V × D)) : List (Str × V) := ff.map fun p => (p.1, p.2.1)
def ZA (c : Ct) (C x dx : Addr) (ff : List (Str × V × D)) : StK where
  S := Unit
  rep := fun F H _ => H x = some (.ins C dx (ffs ff)) ∧ H dx = some (.own x) ∧ ∀ p ∈ ff, Rp c F p.2.1 p.2.2
  own := fun _ b => b = x ∨ b = dx
  at_ := fun q => q = x
  stay := fun {F F' H H' s} h e _ k => by
    obtain ⟨h1, h2, h4⟩ := h
    exact ⟨⟨k _ _ (.inl rfl) h1, k _ _ (.inr rfl) h2, fun p hp => (h4 p hp).mono e⟩, fun _ => Iff.rfl⟩
  has := fun {F H s b} h k => by
    obtain ⟨h1, h2, h4⟩ := h
    rcases k with rfl | rfl
    · exact ⟨_, h1⟩
    · exact ⟨_, h2⟩
/-- ends told by the world alone -/
structure PT' (α : Type) where
  p : Fm → W3 → Ends → α → Prop
  mono : ∀ {Φ : Fm} {w w' : W3} {E : Ends} {a : α}, w.le w' → p Φ w E a → p Φ w' E a
  nx : ∀ {Φ : Fm} {w : W3} {E E' : Ends} {a : α}, E'.nx = E.nx → p Φ w E a → p Φ w E' a
def kA {c : Ct} {C x dx : Addr} {ff : List (Str × V × D)} {α : Type} (P : PT' α) : EK (ZA c C x dx ff) α := ⟨fun Φ w E a _ => P.p Φ w E a, fun le h => P.mono le h⟩
section
variable {c : Ct} {C x dx : Addr} {ff : List (Str × V × D)} {Φ : Fm} {γ γe : List Sl} {W : WX} {w : W3} {σ : L2.St} {te : TE} {ma : M Unit D} {tK : PySem.W.Frag} {α : Type} {P : PT' α} {t2 : TS} {E : Ends}
/-- the object's own record changes: it stays apart -/
theorem In.record {Z Z' : StK} {s : Z.S} {s' : Z'.S} {u : HO} {z : Addr} (I : In c Φ Z γ s w σ) (hz : Z.own w.H z) (ho : ∀ b, Z'.own (upd w.H z u) b ↔ Z.own w.H b) (hat : ∀ q, Z.at_ q → Z'.at_ q) (hr : Z'.rep w.F (upd w.H z u) s') (hat2 : ∀ i q, Z.at2 i q → Z'.at2 i q := by exact fun _ _ h => h) : In c Φ Z' γ s' (w.set z u) σ := by
  have ng : w.G z = none := (I.fin.so z hz).1
  have fr : Fresh Φ z := (I.fin.so z hz).2
  refine ⟨⟨⟨I.fin.wd.fg, sub_set I.fin.wd.gh ng, I.fin.wd.le, fun b v q n => ?_, fun b q => ?_, I.fin.wd.frF, I.fin.wd.frG⟩, hr, fun b q => I.fin.so b ((ho b).mp q)⟩, I.ln, fun j y ov hx hov => ?_, I.ds⟩
  · show upd w.H z u b = _
    have : b ≠ z := fun e => by
      subst e
      rcases fr with z | z
      · exact n z
      · rw [q] at z; cases z
    rw [upd_ne this]; exact I.fin.wd.keep b v q n
  · have q : upd w.H z u b = none := q
    by_cases e : b = z
    · rw [e, upd_same] at q; cases q
    · rw [upd_ne e] at q; exact I.fin.wd.has b q
  · have q := I.sl j y ov hx hov
    cases y with
    | un => trivial
    | fz d => exact q
    | bo d => exact q
    | sh d => exact q
    | st => obtain ⟨p, e, h⟩ := q; exact ⟨p, e, hat p h⟩
    | st2 => obtain ⟨p, e, h⟩ := q; exact ⟨p, e, hat2 _ p h⟩
    | ow e =>
      obtain ⟨b, e1, r⟩ := q
      subst e1
      have nb : b ≠ z := fun e => r.ns (by rw [e]; exact hz)
      exact ⟨b, rfl, r.ow.keep (.refl _) (fun u' q => by show upd w.H z u b = _; rw [upd_ne nb]; exact q), r.ng, r.fr, fun q => r.ns ((ho b).mp q)⟩
end
/-! ### what is raised, whatever the object is then -/
def SErrW (c : Ct) (Φ : Fm) (W : WX) (w : W3) (n : Nat) (es : List D) : Prop :=
  ∀ (dx : Addr) (vs : List V) (w' : W3) (σ' : L2.St), Wd Φ w' → w.le w' → w'.H dx = some (.xd ((c.ef n).zip vs)) → (vs.length = (c.ef n).length ∧ w'.G dx = none ∧ Φ.w.H dx = none) → RpA c w'.F vs es → W (.ref (c.ec n)) (some dx) σ' w'.H
def SPsW {α S : Type} (c : Ct) (Φ : Fm) (W : WX) (P : W3 → α → Prop) (w : W3) (o : Out S α) : Prop := match o with
  | .ok a _ => P w a
  | .err n es _ => SErrW c Φ W w n es
  | .bad => False
section
variable {c : Ct} {Φ : Fm} {Z : StK} {γ : List Sl} {W : WX} {s : Z.S} {w : W3} {σ : L2.St} {α : Type} {P : W3 → α → Prop}
theorem SErrW.mono {w' : W3} {n : Nat} {es : List D} (le : w.le w') (h : SErrW c Φ W w n es) : SErrW c Φ W w' n es := fun dx vs w2 σ2 I l h1 h2 h3 => h dx vs w2 σ2 I (le.trans l) h1 h2 h3
theorem SPsW.mono {S : Type} {w' : W3} {o : Out S α} (le : w.le w') (hP : ∀ a, P w a → P w' a) (h : SPsW c Φ W P w o) : SPsW c Φ W P w' o := by
  cases o with
  | ok a s' => exact hP a h
  | err n es s' => exact SErrW.mono le h
  | bad => exact h
end
section
variable {c : Ct} {Φ : Fm} {γ : List Sl} {w : W3} {σ : L2.St} {o : Ob} {ks : DS}
end
end B
namespace B
open PySem L2
/-! Q21: objects made: C(..) -/
structure DfM (P : Program) (w : World) (K : PySem.W.Frag) (mg : Str → Option Value) (base : Heap) (CX : CXT) (k : Nat) (x : Str) (C : Addr) (ps : List Str) (sp : Sp) : Prop where
  gC : mg x = some (.ref C)
  ex : ∃ (f : Addr) (fd : FuncData), Mk K C f ∧ Binds K fd ps [] ∧ FnOk P w K mg base CX k f fd ps sp
def tMakeS (C : Addr) (sp : Sp) (E : L2.St → XK) (t : TA) : TE := fun σ H Q => t σ H fun vs H1 => ∀ x dx, H1 x = none → H1 dx = none → dx ≠ x →
  sp (.ref x :: vs) (upd (upd H1 dx (.own x)) x (.ins C dx [])) (fun v H2 => v = .non ∧ Q (.ref x) H2) (E σ)
section
variable {X : Cx} {CX : CXT} {k : Nat} {f C : Addr} {fd : FuncData} {ps : List Str} {sp : Sp} {E : L2.St → XK} {x : Str} {p pos : Pos} {e : Expr} {es : List Expr} {t : TA} {W : WX}
end
/-- C(..) by its pure run: the object is kept for good -/
def spMk (c : Ct) (n : Nat) (ms : List Md) (f : (S : Type) → List D → M S D) : Sp := fun vs H Q E => ∃ (x dx : Addr) (vs' : List V) (H0 : Hp), vs = .ref x :: vs' ∧ H0 x = none ∧ H0 dx = none ∧ dx ≠ x ∧ H = upd (upd H0 dx (.own x)) x (.ins (c.cl n) dx []) ∧ spP c ms false f vs' H0 (fun v H2 => v = .ref x → Q .non H2) E
def mkU {S α : Type} (m : M Unit α) : M S α := fun s => match m () with
  | .ok a _ => .ok a s
  | .err n ds _ => .err n ds s
  | .bad => .bad
section
variable {c : Ct} {Φ : Fm} {Z : StK} {γ : List Sl} {W : WX} {ms : List Md} {as : List Am} {ta : TA} {mk : (List D → M Z.S D) → M Z.S D} {f : (S : Type) → List D → M S D} {n : Nat}
/-- what the making leaves of the rest -/
theorem no_upd {H : Hp} {p b : Addr} {o : HO} (h : upd H p o b = none) : H b = none := by
  by_cases e : b = p
  · subst e; rw [upd_same] at h; cases h
  · rwa [upd_ne e] at h
theorem Wd.out {s : Z.S} {w w' : W3} {x dx : Addr} {o1 o2 : HO} {T : Addr → Prop} (fg : Sub w.F w.G) (gh : Sub w.G w.H) (r : Z.rep w.F w.H s) (so : ∀ b, Z.own w.H b → w.G b = none) (nx : w.H x = none) (ndx : w.H dx = none) (k : Wd ⟨⟨w.F, w.G, upd (upd w.H dx o1) x o2⟩, fun b => b = x ∨ b = dx⟩ w') : Cont Z w w' s T := by
  have up : ∀ b o, w.H b = some o → ¬ (b = x ∨ b = dx) ∧ upd (upd w.H dx o1) x o2 b = some o := fun b o h => by
    have n1 : b ≠ x := fun e => by rw [e, nx] at h; cases h
    have n2 : b ≠ dx := fun e => by rw [e, ndx] at h; cases h
    exact ⟨fun z => z.elim n1 n2, by rw [upd_ne n1, upd_ne n2]; exact h⟩
  have st := Z.stay (H' := w'.H) r k.le.1 k.fh fun b o z h => k.keep b o (up b o h).2 (up b o h).1
  refine ⟨k.fg, k.gh, k.le, fun b o h _ _ => k.keep b o (up b o h).2 (up b o h).1, fun b h => ?_, fun b o h _ _ f => k.frF b o (up b o h).2 (up b o h).1 f, fun b o h _ _ f => k.frG b o (up b o h).2 (up b o h).1 f, st.1, fun b z => ?_⟩
  · cases q : w.H b with
    | none => rfl
    | some o => have := k.keep b o (up b o q).2 (up b o q).1; rw [h] at this; cases this
  · have z := (st.2 b).mp z
    obtain ⟨o, ho⟩ := Z.has r z
    exact ⟨k.frG b o (up b o ho).2 (up b o ho).1 (so b z), .inl z⟩
end
end B
namespace B
open PySem L2
open PySem.Spec PyProof.Rows
/-! DispT: {t: v}, t a tuple of texts and ints -/
section
variable {X : Cx}
def tDispT (tk tv : TE) : TE := fun σ H Q => ∀ p, H p = none → tk σ (upd H p (.dT [])) fun x H1 => tv σ H1 fun y H2 => H2 p = some (.dT []) ∧ ∃ (k : List Key) (b : Addr), x = .ref b ∧ H2 b = some (.tup (k.map kV)) ∧ Q (.ref p) (upd H2 p (.dT (putK [] k y)))
end
end B
namespace B
open PySem L2
/-! Q22: new dicts -/
section
variable {c : Ct} {Φ : Fm} {Z : StK} {γ : List Sl} {W : WX} {s : Z.S} {w : W3} {σ : L2.St} {i : Int}
end
end B
namespace B
open PySem L2
/-! Q23: an object of one's own handed over to a def -/
def EaP (c : Ct) (Z : StK) (γ : List Sl) (W : WX) (ms : List Am) (ta : TA) (mk : (List D → M Z.S D) → M Z.S D) : Prop :=
  ∀ (Φ : Fm) (s : Z.S) (w : W3) (σ : L2.St) (PP : W3 → Out Z.S D → Prop) (k : List D → M Z.S D) (R : List V → Hp → Prop), (∀ w w' o, w.le w' → PP w o → PP w' o) → (∀ w n es s', PP w (.err n es s') → ErrP c Φ Z γ W σ w n es s') → (∀ w, ¬ PP w .bad) → In c Φ Z γ s w σ → PP w (mk k s) →
    (∀ ds s' vs w', In c Φ Z γ s' w' σ → w.le w' → VamA c Z γ w' σ ms vs ds → PP w' (k ds s') → R vs w'.H) → ta σ w.H R
/-- a new object by an expression that takes an object of one's own away -/
def Enm (c : Ct) (Z : StK) (γ γ' : List Sl) (W : WX) (t : TE) (m : M Z.S D) : Prop :=
  ∀ (Φ : Fm) (s : Z.S) (w : W3) (σ : L2.St) (Q : VK), In c Φ Z γ s w σ → Ps c Φ Z γ' W σ (fun w v d => Nw c Φ Z γ' w σ v d) w (m s) Q → t σ w.H Q
def fitsM (i : Nat) : List Am → List Md → Bool
  | .v .f :: as, .fz :: ms => fitsM i as ms
  | .v .f :: as, .bo :: ms => fitsM i as ms
  | .v .g :: as, .bo :: ms => fitsM i as ms
  | [.v (.o j)], [.mv] => j == i
  | .st :: as, .st :: ms => fitsM i as ms
  | _, _ => false
section
variable {c : Ct} {Φ : Fm} {Z : StK} {γ γe : List Sl} {W : WX} {s s' : Z.S} {w w' : W3} {σ : L2.St} {fl : Fg} {te : TE} {ma : M Z.S D} {tr ta : TA} {mk : (List D → M Z.S D) → M Z.S D} {as : List Am} {ms : List Md} {i : Nat} {d0 : D}
variable {f : List D → M Z.S D}
end
section
variable {c : Ct} {Φ : Fm} {Z : StK} {γ γ' γe : List Sl} {W : WX} {α : Type} {K : EK Z α} {te : TE} {ma : M Z.S D} {t2 : TS}
theorem Enm.stm {s : Z.S} {w : W3} {σ : L2.St} {E : Ends} {t : TE} {m : M Z.S D} {k : D → M Z.S α} {R : VK} (h : Enm c Z γ γ' W t m) (hk : Lek γ' γe) (I : In c Φ Z γ s w σ)
    (q : SPs c Φ Z γe W K w ((m >>= k) s) E) (f : ∀ a s' v w', In c Φ Z γ' s' w' σ → w.le w' → Nw c Φ Z γ' w' σ v a → SPs c Φ Z γe W K w' (k a s') E → R v w'.H) : t σ w.H R := by
  refine h Φ s w σ R I ?_
  cases e : m s with
  | ok a s' =>
    rw [M.bind_ok e] at q
    exact fun v w' I' le vl => f a s' v w' I' le vl (q.mono le)
  | err n ds s' =>
    rw [M.bind_err e] at q
    exact fun dx vs w' I' le h1 h2 h3 => q dx vs w' σ (I'.weak hk) le h1 h2 h3
  | bad =>
    rw [M.bind_bad e] at q
    exact q
end
section
variable {c : Ct} {p : Addr} {γ : List Sl} {W : WX} {ms : List Md} {as : List Am} {ta : TA} {mk : (List D → M (ZB p).S D) → M (ZB p).S D} {f : List D → M StV D}
end
end B
namespace B
open PySem L2
/-! Q24: an object called -/
structure CallOf (K : PySem.W.Frag) (C g : Addr) : Prop where
  at_ : PySem.W.findIn K (.ref C) "__call__" = some (some (.ref g))
  ty : PySem.W.typeIn K (.ref g) = some (.type "function")
  fn : PySem.W.fnIn K g = true
section
variable {prog : Program} {w : World} {A : Around} {E : Value → Shared → Prop} {s : Shared} {K : PySem.W.Frag} {a C dx g : Addr}
end
/-- x(..), x a local name that holds an instance -/
def tCallI (C : Addr) (sp : Sp) (E : L2.St → XK) (i : Nat) (t : TA) : TE := fun σ H Q => ∃ a, σ[i]? = some (some (.ref a)) ∧ t σ H fun vs H1 => ∃ dx fs, H1 a = some (.ins C dx fs) ∧ sp (.ref a :: vs) H1 Q (E σ)
section
variable {X : Cx} {CX : CXT} {k i : Nat} {C g : Addr} {fd : FuncData} {ps : List Str} {sp : Sp} {E : L2.St → XK} {x : Str} {p pos : Pos} {e : Expr} {es : List Expr} {t : TA} {W : WX}
end
end B
namespace B
open PySem L2
/-! Q25: finished objects: fields, properties, calls -/
def isO (n : Nat) : D → Option D
  | .obj m ds => if m = n then some (.obj m ds) else none
  | _ => none
def ofO (n k : Nat) : D → Option D
  | .obj m ds => if m = n then ds[k]? else none
  | _ => none
section
variable {c : Ct} {F : Hp} {v : V} {d d' : D} {n k : Nat}
theorem RpA.at : ∀ {vs : List V} {ds : List D} {k : Nat} {d : D}, RpA c F vs ds → ds[k]? = some d → ∃ v, vs[k]? = some v ∧ Rp c F v d
  | _, _, k, _, .nil, h => by cases k <;> cases h
  | _, _, 0, _, .cons r _, h => by rw [List.getElem?_cons_zero] at h; cases h; exact ⟨_, rfl, r⟩
  | _, _, k + 1, _, .cons _ r, h => by rw [List.getElem?_cons_succ] at h ⊢; exact r.at h
end
section
variable {c : Ct} {Φ : Fm} {Z : StK} {γ : List Sl} {W : WX} {s : Z.S} {w : W3} {σ : L2.St} {fl : Fg} {te : TE} {ma : M Z.S D} {tK : PySem.W.Frag} {ta : TA} {as : List Am} {ms : List Md} {mk : (List D → M Z.S D) → M Z.S D} {f : (S : Type) → List D → M S D}
theorem Ps.noErr {α β : Type} {Vp : W3 → β → α → Prop} {Q : β → Hp → Prop} {m : M Z.S α} (q : Ps c Φ Z γ W σ Vp w (B.noErr m s) Q) : Ps c Φ Z γ WF σ Vp w (m s) Q := by
  unfold B.noErr at q
  cases e : m s with
  | ok a s' => rw [e] at q; exact q
  | err n ds s' => rw [e] at q; exact q.elim
  | bad => rw [e] at q; exact q
end
end B
namespace B
open PySem L2
/-! Q26: getters and __call__ of a class -/
structure DfG (P : Program) (w : World) (K : PySem.W.Frag) (mg : Str → Option Value) (base : Heap) (CX : CXT) (k : Nat) (C : Addr) (f : Str) (ps : List Str) (sp : Sp) : Prop where
  ex : ∃ (p g : Addr) (fd : FuncData), PropOf K C f p g ∧ Binds K fd ps [] ∧ FnOk P w K mg base CX k g fd ps sp
structure DfI (P : Program) (w : World) (K : PySem.W.Frag) (mg : Str → Option Value) (base : Heap) (CX : CXT) (k : Nat) (C : Addr) (ps : List Str) (sp : Sp) : Prop where
  ex : ∃ (g : Addr) (fd : FuncData), CallOf K C g ∧ Binds K fd ps [] ∧ FnOk P w K mg base CX k g fd ps sp
section
variable {X : Cx} {k i : Nat} {C : Addr} {f x : Str} {ps : List Str} {sp : Sp} {e : Expr} {es : List Expr} {p pos : Pos} {ta : TE} {t : TA} {W : WX}
end
end B
namespace B
open PySem L2
/-! Q27: calls by keywords; the law's own def -/
section
variable {X : Cx} {k n : Nat} {x : Str} {ps ks : List Str} {sp : Sp} {E : XK} {t : TA} {p pos : Pos} {kws : List Keyword} {g : List Value → List Value → List Value} {gV : List V → List V → List V}
end
section
variable {c : Ct} {Z : StK} {γ : List Sl} {E : XK} {ms : List Md} {as : List Am} {ta : TA} {mk : (List D → M Z.S D) → M Z.S D} {f : (S : Type) → List D → M S D} {m : Nat}
end
/-- a def that promises nothing of exceptions raises none -/
theorem FnOk.calm {P : Program} {w : World} {K : PySem.W.Frag} {mg : Str → Option Value} {base : Heap} {k : Nat} {f : Addr} {fd : FuncData} {ps : List Str} {sp : Sp} (F : FnOk P w K mg base (L2.CX P w) k f fd ps sp) (h : ∀ vs H Q E, sp vs H Q E → sp vs H Q E0) : FnOk P w K mg base CX0 k f fd ps sp :=
  ⟨F.len, fun A outer s H args us vs Q E hr he hb hv hs => codeAny_mono (F.run A outer s H args us vs Q E0 hr he hb hv (h _ _ _ _ hs)) fun r s' q => by
    cases r with
    | error e =>
      obtain ⟨_, _, _, _, _, _, _, _, _, _, _, _, z⟩ := (show L2.CX P w outer H s E0 e s' from q)
      exact z.elim
    | ok fl => cases fl <;> exact q⟩
/-- the state made: nothing else is known -/
def fmB (p : Addr) (H : Hp) : Fm := ⟨⟨fun _ => none, fun _ => none, H⟩, ownB p H⟩
end B
namespace B
open PySem L2
/-! Q28: try .. except C as e, all ways return -/
/-- the state, and the caught exception at a with its dict at dx -/
def ZX (c : Ct) (Z : StK) (a dx : Addr) (n : Nat) (vs : List V) (ds : List D) : StK where
  S := Z.S
  rep := fun F H s => Z.rep F H s ∧ H dx = some (.xd ((c.ef n).zip vs)) ∧ ¬ Z.own H dx ∧ RpA c F vs ds
  own := fun H b => Z.own H b ∨ b = dx
  at_ := fun q => q = a
  at2 := Z.at2
  stay := fun {F F' H H' s} h e1 e2 k => by
    obtain ⟨h1, h2, h3, h4⟩ := h
    have st := Z.stay h1 e1 e2 fun b o z q => k b o (.inl z) q
    refine ⟨⟨st.1, k dx _ (.inr rfl) h2, fun z => h3 ((st.2 dx).mp z), h4.mono e1⟩, fun b => ?_⟩
    exact or_congr (st.2 b) Iff.rfl
  has := fun {F H s b} h k => by
    obtain ⟨h1, h2, h3, h4⟩ := h
    rcases k with k | rfl
    · exact Z.has h1 k
    · exact ⟨_, h2⟩
section
variable {c : Ct} {Φ : Fm} {Z : StK} {γ : List Sl} {s : Z.S} {w : W3} {σ : L2.St} {a dx : Addr} {n : Nat} {vs : List V} {ds : List D} {i : Nat}
theorem Fin.unX (F : Fin Φ (ZX c Z a dx n vs ds) s w) : Fin Φ Z s w := ⟨F.wd, F.rep.1, fun b z => F.so b (.inl z)⟩
theorem Mine.unX {b : Addr} {d : D} (m : Mine c Φ (ZX c Z a dx n vs ds) w b d) : Mine c Φ Z w b d := ⟨m.ow, m.ng, m.fr, fun z => m.ns (.inl z)⟩
/-- no slot holds the state -/
def noSt : List Sl → Bool
  | [] => true
  | .st :: _ => false
  | _ :: γ => noSt γ
end
def hand {S α : Type} (o : Option (M S α)) (n : Nat) (ds : List D) (s : S) : Out S α := match o with
  | some k => noErr k s
  | none => .err n ds s
/-- the errors' clauses: by the number -/
def tryM {S α : Type} (es : List Nat) (m : M S α) (h : Nat → List D → Option (M S α)) : M S α := fun s => match m s with
  | .ok a s' => .ok a s'
  | .err n ds s' => if n ∈ es then hand (h n ds) n ds s' else .bad
  | .bad => .bad
/-- e.f in a clause -/
def xfO (ds : List D) (k : Nat) : Option D := ds[k]?
section
variable {c : Ct} {Z : StK} {γ : List Sl} {W : WX} {a dx : Addr} {n i : Nat} {vs : List V} {ds : List D}
end
/-- the clauses and their runs -/
inductive Hds (X : Cx) (c : Ct) (Z : StK) (γh : List Sl) (i : Nat) (rm : Bool) : List Nat → List (Value × SU) → (Nat → List D → Option (M Z.S D)) → Prop
  | nil : Hds X c Z γh i rm [] [] (fun _ _ => none)
  | cons {es : List Nat} {suite : List Stmt} {l : List (Value × SU)} {h : Nat → List D → Option (M Z.S D)} (nk : Nat) (mH : List D → M Z.S D)
      (hH : ∀ (a dx : Addr) (vs : List V) (ds : List D) (oe : Obj) (pn : List (Addr × Obj)), vs.length = (c.ef nk).length → Zc (.ref (c.ec nk)) (some dx) oe → (∃ us, oe.data = .fields us) →
        ∃ (tH : TS) (γe : List Sl), PSs (X.suite a ((a, oe) :: pn)) suite tH ∧ Sg c (ZX c Z a dx nk vs ds) (γh.set i .st) WF γe (ekR c (ZX c Z a dx nk vs ds) rm) tH (mH ds))
      (r : Hds X c Z γh i rm es l h) : Hds X c Z γh i rm (nk :: es) ((.ref (c.ec nk), WSu X suite) :: l) (fun n ds => if n = nk then some (mH ds) else h n ds)
section
variable {X : Cx} {c : Ct} {Z : StK} {γ γh γe : List Sl} {W : WX} {i : Nat} {rm : Bool} {body : List Stmt} {l : List (Value × SU)} {es ks : List Nat} {mB : M Z.S D} {h : Nat → List D → Option (M Z.S D)}
end
end B
namespace B
open PySem L2
/-! Q29: calls by keywords in any order, also within a try -/
def permL {α : Type} (d : α) (π : List Nat) (xs : List α) : List α := π.map fun i => xs.getD i d
/-- x(k = v, ..) -/
def tCallKS (m : Nat) (sp : Sp) (gV : List V → List V → List V) (E : L2.St → XK) (t : TA) : TE := fun σ H Q => t σ H fun zs H2 => zs.length = m ∧ sp (gV [] zs) H2 Q (E σ)
section
variable {X : Cx} {k : Nat} {x : Str} {ps ks : List Str} {sp : Sp} {W : WX} {t : TA} {p pos : Pos} {kws : List Keyword} {g : List Value → List Value → List Value} {gV : List V → List V → List V}
theorem pckS (F : DfK X.prog X.w X.K X.mg X.base (L2.CX X.prog X.w) k x ps 0 ks g gV sp) (hr : Room k X.A) (tk : Takes X W) (hkw : PK X kws t) (hg : Gl X x := by rfl) (hall : (backToKw pos (keywordEach kws X.env)).all (·.1.isSome) = true := by rfl) (hks : (backToKw pos (keywordEach kws X.env)).filterMap (·.1) = ks := by rfl)
    (hdb : (x == ("__debug__" : Str)) = false := by decide) (hpl : ((backTo pos (starEach [] X.env)).any (·.1) || (backToKw pos (keywordEach kws X.env)).any (·.1.isNone)) = false := by rfl) : PE X (.Call (.Name x p) [] kws pos) (tCallKS ks.length sp gV (L2.WE W) t) := by
  obtain ⟨f, fd, hm, hk, hb, F⟩ := F.ex
  refine ⟨fun pins s σ H Q I h => ?_⟩
  refine wpAny_Call_Name_kw (ld_glob I hg hm ?_ hdb)
  refine PySem.W.callWith_KW0 (h₀ := X.base) I.ok.mod.kin hk hall ?_ hpl
  refine thn (hkw.run pos pins s σ H _ I h) fun ws s2 ⟨zs, H2, I2, rz, l2, q2⟩ => ⟨I2.kIn, ?_⟩
  rw [hks, List.append_nil]
  have r2 := hb.rel .nil rz
  refine wpAny_call (codeAny_mono (F.run X.A X.stack s2 H2 ⟨[], ks.zip ws⟩ (g [] ws) (gV [] zs) Q (L2.WE W σ) hr I2.env0 (hb.to s2 [] ws I2.kIn rfl (rz.length.symm.trans l2)) r2 q2) fun r s' hq => ?_)
  cases r with
  | error e => exact L2.passAt tk σ pins H2 s2 e s' I2 hq
  | ok fl =>
    cases fl with
    | ret u => exact I2.after hq
    | next => exact False.elim hq
    | brk => exact False.elim hq
    | cont => exact False.elim hq
end
section
variable {c : Ct} {Z : StK} {γ : List Sl} {W : WX} {ms : List Md} {as : List Am} {ta : TA} {mk : (List D → M Z.S D) → M Z.S D} {f : (S : Type) → List D → M S D} {m : Nat}
end
theorem vals_get : ∀ {vs : List V} {us : List Value} {i : Nat}, Vals vs us → i < vs.length → RelV (vs.getD i .non) (us.getD i .none)
  | _, _, i, .nil, h => absurd h (by simp)
  | _, _, 0, .cons h1 _, _ => h1
  | _ :: vs, _ :: us, i + 1, .cons _ h2, h => vals_get (vs := vs) (us := us) (i := i) h2 (by simpa using h)
theorem relV_non : RelV .non .none := rfl
theorem vals_get' {vs : List V} {us : List Value} (h : Vals vs us) (i : Nat) : RelV (vs.getD i .non) (us.getD i .none) := by
  by_cases q : i < vs.length
  · exact vals_get h q
  · have l := h.length
    rw [List.getD_eq_getElem?_getD, List.getD_eq_getElem?_getD, List.getElem?_eq_none (by omega), List.getElem?_eq_none (by omega)]
    exact relV_non
theorem vals_perm {vs : List V} {us : List Value} (h : Vals vs us) : ∀ π : List Nat, Vals (permL .non π vs) (permL .none π us)
  | [] => .nil
  | i :: π => .cons (vals_get' h i) (vals_perm h π)
end B
namespace B
open PySem L2
/-! Q30: a, b = e -/
section
variable {c : Ct} {Z : StK} {γ γe : List Sl} {W : WX} {te : TE} {ma : M Z.S D} {α : Type} {K : EK Z α} {t2 : TS} {tK : PySem.W.Frag}
end
end B
namespace B
open PySem L2
/-! Q31: methods of finished objects; x[k] by an own __getitem__ -/
structure DfMt (P : Program) (w : World) (K : PySem.W.Frag) (mg : Str → Option Value) (base : Heap) (CX : CXT) (k : Nat) (C : Addr) (m : Str) (ps : List Str) (sp : Sp) : Prop where
  ex : ∃ (g : Addr) (fd : FuncData), Meth K C m g ∧ Binds K fd ps [] ∧ FnOk P w K mg base CX k g fd ps sp
/-- o.m(..) -/
def tMethW (C : Addr) (m : Str) (sp : Sp) (E : L2.St → XK) (ta : TE) (t : TA) : TE := fun σ H Q => ta σ H fun x H1 => ∃ a dx fs, x = .ref a ∧ H1 a = some (.ins C dx fs) ∧ fs.lookup m = none ∧ t σ H1 fun vs H2 => sp (.ref a :: vs) H2 Q (E σ)
section
variable {X : Cx} {k : Nat} {C : Addr} {m : Str} {ps : List Str} {sp : Sp} {o e : Expr} {es : List Expr} {apos pos : Pos} {ta : TE} {t : TA} {W : WX} {E : L2.St → XK}
end
section
variable {c : Ct} {Z : StK} {γ : List Sl} {W : WX} {te : TE} {ma : M Z.S D} {ta : TA} {as : List Am} {ms : List Md} {mk : (List D → M Z.S D) → M Z.S D} {f : (S : Type) → List D → M S D}
end
end B
namespace B
open PySem L2
open PyProof.Rows
/-! Q32: x[k], x an object whose class has a __getitem__ of its own -/
structure GetOf (K : PySem.W.Frag) (C g : Addr) : Prop where
  at_ : PySem.W.findIn K (.ref C) "__getitem__" = some (some (.ref g))
  ty : PySem.W.typeIn K (.ref g) = some (.type "function")
  fn : PySem.W.fnIn K g = true
section
variable {prog : Program} {w : World} {A : Around} {E : Value → Shared → Prop} {s : Shared} {K : PySem.W.Frag} {a C dx g : Addr}
end
structure DfGi (P : Program) (w : World) (K : PySem.W.Frag) (mg : Str → Option Value) (base : Heap) (CX : CXT) (k : Nat) (C : Addr) (ps : List Str) (sp : Sp) : Prop where
  ex : ∃ (g : Addr) (fd : FuncData), GetOf K C g ∧ Binds K fd ps [] ∧ FnOk P w K mg base CX k g fd ps sp
def tGetI (C : Addr) (sp : Sp) (E : L2.St → XK) (ta tb : TE) : TE := fun σ H Q => ta σ H fun x H1 => tb σ H1 fun y H2 => ∃ a dx fs, x = .ref a ∧ H2 a = some (.ins C dx fs) ∧ sp [.ref a, y] H2 Q (E σ)
section
variable {X : Cx} {k : Nat} {C : Addr} {ps : List Str} {sp : Sp} {e b : Expr} {pos : Pos} {ta tb : TE} {W : WX} {E : L2.St → XK}
end
section
variable {c : Ct} {Z : StK} {γ : List Sl} {W : WX} {fb : Fg} {ta tb : TE} {ma mb : M Z.S D} {f : (S : Type) → List D → M S D}
end
end B
namespace B
open PySem L2
/-! Q33: while -/
section
variable {c : Ct} {Z : StK} {γ γe : List Sl} {W : WX} {β : Type} {tB : TS}
end
end B
namespace B
open PySem L2
/-! Q34: for k in d, d a dict by texts and numbers that is kept for good; nothing is raised within -/
def keysO : D → Option (List D)
  | .dic false ks => some (ks.map Prod.fst)
  | _ => none
def tLockOr (t : TS) : TS := fun D σ H => tLock t D σ H ∨ t D σ H
section
variable {c : Ct} {Z : StK} {γ : List Sl} {s : Z.S} {w : W3} {σ : L2.St} {a : Addr} {Φ : Fm} {o : Obj} {u : HO}
/-- .. and unlocked again -/
theorem In.unlockD {γ2 : List Sl} {s2 : Z.S} {w2 : W3} {σ2 : L2.St} {od : Obj} (I : In c Φ Z γ s w σ) (hG : w.G a = some u) (hH : w.H a = some u) (so : ∀ b, Z.own (upd w.H a (.frz od u)) b ↔ Z.own w.H b)
    (J : In c (B.re Z γ ⟨w.F, w.G, upd w.H a (.frz od u)⟩ σ) Z γ2 s2 w2 σ2) : w2.H a = some (.frz od u) ∧ In c Φ Z γ2 s2 ⟨w2.F, w2.G, upd w2.H a u⟩ σ2 := by
  have no : ∀ b, Z.own w.H b → b ≠ a := fun b z e => by rw [e] at z; rw [(I.fin.so a z).1] at hG; cases hG
  have nT : ¬ (B.re Z γ ⟨w.F, w.G, upd w.H a (.frz od u)⟩ σ).T a := fun z => by
    rcases z with z | ⟨i, d, h1, h2⟩
    · exact no a ((so a).mp z) rfl
    · obtain ⟨b, e, r⟩ := I.sl i _ _ h1 h2
      cases e
      rw [r.ng] at hG; cases hG
  have k2 : w2.H a = some (.frz od u) := J.fin.wd.keep a _ upd_same nT
  have g2 : w2.G a = some u := J.fin.wd.le.gs a u hG
  have no2 : ∀ b, Z.own w2.H b → b ≠ a := fun b z e => by rw [e] at z; rw [(J.fin.so a z).1] at g2; cases g2
  have tt : ∀ b, (B.re Z γ ⟨w.F, w.G, upd w.H a (.frz od u)⟩ σ).T b → (B.re Z γ w σ).T b := fun b z => by
    rcases z with z | z
    · exact .inl ((so b).mp z)
    · exact .inr z
  have tt' : ∀ b, (B.re Z γ w σ).T b → (B.re Z γ ⟨w.F, w.G, upd w.H a (.frz od u)⟩ σ).T b := fun b z => by
    rcases z with z | z
    · exact .inl ((so b).mpr z)
    · exact .inr z
  have fr : ∀ b, Fresh (B.re Z γ ⟨w.F, w.G, upd w.H a (.frz od u)⟩ σ) b → Fresh (B.re Z γ w σ) b := fun b z => by
    rcases z with z | z
    · exact .inl (tt b z)
    · exact .inr (no_upd (p := a) (o := .frz od u) z)
  have gh : Sub w2.G (upd w2.H a u) := fun b v h => by
    by_cases e : b = a
    · subst e; rw [g2] at h; cases h; exact .inl upd_same
    · rw [upd_ne e]; exact J.fin.wd.gh b v h
  have st := Z.stay J.fin.rep (.refl _) (J.fin.wd.fg.trans gh) fun b v z h => by rw [upd_ne (no2 b z)]; exact h
  refine ⟨k2, I.ofRe ⟨⟨⟨J.fin.wd.fg, gh, .of J.fin.wd.le.fs J.fin.wd.le.gs, fun b v h n => ?_, fun b h => ?_, fun b v h n f => ?_, fun b v h n f => ?_⟩, st.1, fun b z => ⟨(J.fin.so b ((st.2 b).mp z)).1, fr b (J.fin.so b ((st.2 b).mp z)).2⟩⟩, J.ln, fun i x ov hx ho => ?_, J.ds⟩⟩
  · by_cases e : b = a
    · subst e
      have h : w.H b = some v := h
      rw [hH] at h; cases h; exact upd_same
    · show upd w2.H a u b = some v
      rw [upd_ne e]
      exact J.fin.wd.keep b v (by show upd w.H a _ b = some v; rw [upd_ne e]; exact h) fun z => n (tt b z)
  · have h : upd w2.H a u b = none := h
    by_cases e : b = a
    · subst e; rw [upd_same] at h; cases h
    · rw [upd_ne e] at h
      exact no_upd (p := a) (o := .frz od u) (J.fin.wd.has b h)
  · by_cases e : b = a
    · subst e
      have f : w.F b = none := f
      exact J.fin.wd.frF b _ upd_same nT f
    · exact J.fin.wd.frF b v (by show upd w.H a _ b = some v; rw [upd_ne e]; exact h) (fun z => n (tt b z)) f
  · by_cases e : b = a
    · subst e
      exact J.fin.wd.frG b _ upd_same nT f
    · exact J.fin.wd.frG b v (by show upd w.H a _ b = some v; rw [upd_ne e]; exact h) (fun z => n (tt b z)) f
  · have h := J.sl i x ov hx ho
    cases x with
    | un => trivial
    | fz d => exact h
    | bo d => exact h
    | sh d => exact h
    | st => exact h
    | st2 => exact h
    | ow d =>
      obtain ⟨b, e, r⟩ := h
      subst e
      have nb : b ≠ a := fun z => by rw [z] at r; rw [r.ng] at g2; cases g2
      exact ⟨b, rfl, r.ow.keep (.refl _) (fun v q => by show upd w2.H a _ b = _; rw [upd_ne nb]; exact q), r.ng, fr b r.fr, fun z => r.ns ((st.2 b).mp z)⟩
end
section
variable {c : Ct} {Z : StK} {γ γe : List Sl} {W : WX} {β : Type} {G : β → List Sl} {mB : D → β → M Z.S β} {tB : TS} {i j : Nat} {b0 : β}
end
end B
namespace B
open PySem L2
/-! Sle: texts in order -/
/-- a before b or the same -/
def sle (a b : Str) : Bool := !decide (b.cps.toList < a.cps.toList)
/-- the texts in ascending order -/
def sortS (xs : List Str) : List Str := xs.mergeSort sle
end B
namespace B
open PySem L2
/-! Q35: dict(d), sorted(d), d.pop(k): dicts by texts -/
def copyO : D → Option D
  | .dic false ks => some (.dic false ks)
  | _ => none
def sortDO : D → Option D
  | .dic false ks => (strsO (ks.map Prod.fst)).bind fun xs => if xs.length < 64 then some (.lst ((sortS xs).map .str)) else none
  | _ => none
def rDictC : List V → Hp → VK → Prop := fun xs H Q => ∃ (a : Addr) (kvs : List (Key × V)), xs = [.ref a] ∧ Rd H a (.dK kvs) ∧ ∀ p, H p = none → Q (.ref p) (upd H p (.dK kvs))
def rSortDk : List V → Hp → VK → Prop := fun xs H Q => ∃ (a : Addr) (kvs : List (Key × V)) (ks : List Str), xs = [.ref a] ∧ Rd H a (.dK kvs) ∧ kvs.map (·.1) = ks.map Sum.inr ∧ ks.length < 64 ∧ ∀ ys p, ys.Perm ks → PyProof.Rows.sortedS ys = true → H p = none → Q (.ref p) (upd H p (.lst (ys.map V.str)))
section
variable {c : Ct} {Φ : Fm} {Z : StK} {γ : List Sl} {W : WX} {s : Z.S} {w : W3} {σ : L2.St} {ta : TE} {ma : M Z.S D}
end
def dropK' (ks : List (D × D)) (k : D) : List (D × D) := ks.filter fun p => !decide (p.1 = k)
def dpopO : D → D → Option D
  | .dic false ks, k => if isK k = true ∧ (getK ks k).isSome = true then some (.dic false (dropK' ks k)) else none
  | _, _ => none
section
variable {c : Ct} {F : Hp}
end
section
variable {c : Ct} {Z : StK} {γ γe : List Sl} {W : WX} {fl : Fg} {tk : TE} {mk : M Z.S D} {α : Type} {K : EK Z α} {t2 : TS} {x : D}
end
end B
namespace B
open PySem L2
/-! Q36: [e for v in d.values()], d a dict by texts that is kept for good -/
def valsO : D → Option (List D)
  | .dic false ks => some (ks.map Prod.snd)
  | _ => none
def tLockEOr (t : TE) : TE := fun σ H Q => tLockE t σ H Q ∨ t σ H Q
/-- an expression that reads what is kept for good, also where it is locked -/
structure Pd (c : Ct) (Z : StK) (γ : List Sl) (td : TE) (d : D) : Prop where
  at_ : ∀ (Φ : Fm) (s : Z.S) (w : W3) (σ : L2.St), In c Φ Z γ s w σ → ∃ v, Rp c w.F v d ∧ (∀ R : VK, R v w.H → td σ w.H R) ∧ ∀ (a : Addr) (od : Obj) (u : HO) (R : VK), v = .ref a → w.F a ≠ none → R v (upd w.H a (.frz od u)) → td σ (upd w.H a (.frz od u)) R
section
variable {c : Ct} {Φ : Fm} {Z : StK} {γ : List Sl} {W : WX} {s : Z.S} {w : W3} {σ : L2.St} {a : Addr} {o : Obj} {kvs : List (Key × V)} {ks : List (D × D)} {td te : TE}
theorem Mine.unlockD {γ2 : List Sl} {s2 : Z.S} {w2 : W3} {od : Obj} {u : HO} {b : Addr} {d : D} {σ2 : L2.St} (I : In c Φ Z γ s w σ) (hG : w.G a = some u) (so : ∀ b, Z.own (upd w.H a (.frz od u)) b ↔ Z.own w.H b) (J : In c (B.re Z γ ⟨w.F, w.G, upd w.H a (.frz od u)⟩ σ) Z γ2 s2 w2 σ2)
    (m : Mine c (B.re Z γ ⟨w.F, w.G, upd w.H a (.frz od u)⟩ σ) Z w2 b d) : Mine c Φ Z ⟨w2.F, w2.G, upd w2.H a u⟩ b d := by
  have g2 : w2.G a = some u := J.fin.wd.le.gs a u hG
  have nb : b ≠ a := fun z => by rw [z] at m; rw [m.ng] at g2; cases g2
  have no2 : ∀ b, Z.own w2.H b → b ≠ a := fun b z e => by rw [e] at z; rw [(J.fin.so a z).1] at g2; cases g2
  have gh : Sub w2.G (upd w2.H a u) := fun b v h => by
    by_cases e : b = a
    · subst e; rw [g2] at h; cases h; exact .inl upd_same
    · rw [upd_ne e]; exact J.fin.wd.gh b v h
  have st := Z.stay J.fin.rep (.refl _) (J.fin.wd.fg.trans gh) fun b v z h => by rw [upd_ne (no2 b z)]; exact h
  refine ⟨m.ow.keep (.refl _) (fun v q => by show upd w2.H a _ b = _; rw [upd_ne nb]; exact q), m.ng, ?_, fun z => m.ns ((st.2 b).mp z)⟩
  refine Fresh.re I ?_
  rcases m.fr with z | z
  · rcases z with z | z
    · exact .inl (.inl ((so b).mp z))
    · exact .inl (.inr z)
  · exact .inr (no_upd (p := a) (o := .frz od u) z)
end
end B
namespace B
open PySem L2
/-! Q37: an object under construction, statement by statement -/
def Sx (c : Ct) (Φ : Fm) (W : WX) (P : W3 → D → Prop) (E : Ends) (Z : StK) (γ : List Sl) (t : TS) (m : M Z.S D) : Prop := ∀ (s : Z.S) (w : W3) (σ : L2.St), In c Φ Z γ s w σ → SPsW c Φ W P w (m s) → t E σ w.H
section
variable {c : Ct} {Φ : Fm} {W : WX} {P : W3 → D → Prop} {E : Ends} {Z : StK} {γ γe : List Sl} {C x dx : Addr} {ff : List (Str × V × D)} {tK : PySem.W.Frag} {te : TE} {t1 t2 : TS}
theorem Sx.app {t : TS} {m : M Z.S D} {s : Z.S} {w : W3} {σ : L2.St} (h : Sx c Φ W P E Z γ t m) (I : In c Φ Z γ s w σ) (q : SPsW c Φ W P w (m s)) : t E σ w.H := h s w σ I q
end
end B
namespace B
open PySem L2
/-! Q38: fields of an object under construction; C(.., k = ..) -/
def atS {S S' α : Type} (s0 : S') (m : M S' α) : M S α := fun s => match m s0 with
  | .ok a _ => .ok a s
  | .err n ds _ => .err n ds s
  | .bad => .bad
def sealM {α : Type} (k : DS → M Unit α) : M DS α := fun ks => atS () (k ks) ks
def noOw : List Sl → Bool
  | [] => true
  | .ow _ :: _ => false
  | _ :: γ => noOw γ
section
variable {c : Ct} {Φ : Fm} {W : WX} {P : W3 → D → Prop} {E : Ends} {γ γe : List Sl} {C x dx : Addr} {ff : List (Str × V × D)} {tK : PySem.W.Frag} {te : TE} {t1 t2 : TS} {f : Str} {o : Ob}
theorem SPsW.atS {S S' α : Type} {Q : W3 → α → Prop} {w : W3} {s0 : S'} {m : M S' α} {s : S} (h : SPsW c Φ W Q w (B.atS s0 m s)) : SPsW c Φ W Q w (m s0) := by
  unfold B.atS at h
  cases e : m s0 with
  | ok a s' => rw [e] at h; exact h
  | err n ds s' => rw [e] at h; exact h
  | bad => rw [e] at h; exact h
end
/-! ### what __init__ promises -/
def spIn (c : Ct) (n : Nat) (ms : List Md) (f : List D → M Unit D) : Sp := fun vs H Q E => ∃ (w : W3) (x dx : Addr) (vs' : List V) (ds : List D) (Z : StK) (H0 : Hp), vs = .ref x :: vs' ∧ w.H = H ∧ Sub w.F w.G ∧ Sub w.G w.H ∧ w.H x = some (.ins (c.cl n) dx []) ∧ w.H dx = some (.own x) ∧ dx ≠ x ∧ w.G x = none ∧ w.G dx = none ∧ Args c Z ⟨w.F, w.G, H0⟩ ms vs' ds ∧
  match f ds () with
  | .ok d _ => ∀ (ff : List (Str × V × D)) (w' : W3), d = .obj n (ff.map fun p => p.2.2) → ff.map (·.1) = c.fl n → Fin ⟨w, fun b => b = x ∨ b = dx⟩ (ZA c (c.cl n) x dx ff) () w' → Q .non w'.H
  | .err m es _ => ∀ dx' xs w', Wd ⟨w, fun b => b = x ∨ b = dx⟩ w' → w'.H dx' = some (.xd ((c.ef m).zip xs)) → (xs.length = (c.ef m).length ∧ w'.G dx' = none ∧ w.H dx' = none) → RpA c w'.F xs es → E (.ref (c.ec m)) (some dx') w'.H
  | .bad => False
/-! ### C(e, .., k = v, ..) -/
structure DfMK (P : Program) (w : World) (K : PySem.W.Frag) (mg : Str → Option Value) (base : Heap) (CX : CXT) (k : Nat) (x : Str) (C : Addr) (ps : List Str) (n : Nat) (ks : List Str) (sp : Sp) : Prop where
  gC : mg x = some (.ref C)
  ex : ∃ (f : Addr) (fd : FuncData), Mk K C f ∧ KBn K fd ps (n + 1) ks (fun us ws => us ++ ws) (fun vs zs => vs ++ zs) ∧ FnOk P w K mg base CX k f fd ps sp
def tMakeKS (C : Addr) (n m : Nat) (sp : Sp) (E : L2.St → XK) (t tk : TA) : TE := fun σ H Q => t σ H fun vs H1 => tk σ H1 fun zs H2 => (vs.length = n ∧ zs.length = m) ∧ ∀ y dy, H2 y = none → H2 dy = none → dy ≠ y →
  sp (.ref y :: (vs ++ zs)) (upd (upd H2 dy (.own y)) y (.ins C dy [])) (fun r H3 => r = .non ∧ Q (.ref y) H3) (E σ)
section
variable {X : Cx} {k n : Nat} {C : Addr} {ps ks : List Str} {sp : Sp} {E : L2.St → XK} {x : Str} {p pos : Pos} {e : Expr} {es : List Expr} {kws : List Keyword} {t tk : TA} {W : WX}
end
section
variable {c : Ct} {Z : StK} {γ : List Sl} {W : WX} {ms : List Md} {as as2 : List Am} {ta tb : TA} {mk mk2 : (List D → M Z.S D) → M Z.S D} {f : (S : Type) → List D → M S D} {n m1 m2 : Nat}
theorem VamA.mono {w w' : W3} {σ : L2.St} (l : w.le w') : ∀ {as : List Am} {vs : List V} {ds : List D}, VamA c Z γ w σ as vs ds → VamA c Z γ w' σ as vs ds
  | _, _, _, .nil => .nil
  | _, _, _, .cons h r => .cons (Vam.mono l h) (r.mono l)
theorem VamA.app {w : W3} {σ : L2.St} {bs : List Am} {us : List V} {es : List D} (k : VamA c Z γ w σ bs us es) : ∀ {as : List Am} {vs : List V} {ds : List D}, VamA c Z γ w σ as vs ds → VamA c Z γ w σ (as ++ bs) (vs ++ us) (ds ++ es)
  | _, _, _, .nil => k
  | _, _, _, .cons h r => .cons h (VamA.app k r)
end
section
variable {c : Ct} {Φ : Fm} {W : WX} {P : W3 → D → Prop} {E : Ends} {Z : StK} {γ γe : List Sl} {t1 t2 : TS}
end
end B
namespace B
open PySem L2
/-! Q39: a, b = (e, f), e a new object of one's own; how long a while may go on -/
def fuelD : D → Nat
  | .int i => i.natAbs + 2
  | _ => 0
section
variable {c : Ct} {Z : StK} {γ γe : List Sl} {W : WX} {te tf : TE} {ma mb : M Z.S D} {α : Type} {K : EK Z α} {t2 : TS} {tK : PySem.W.Frag}
end
theorem pe_fldK {X : Cx} {o : Expr} {f : Str} {pos : Pos} {ta : TE} {K : PySem.W.Frag} (hK : X.K = K) (ha : PE X o ta) (hab : attributeBase o f X.env (eval o X.env) = eval o X.env := by rfl) : PE X (.Attribute o f pos) (tFld K ta f) := by
  subst hK
  exact pe_fld ha hab
end B
namespace B
open PySem L2
/-! Q40: three targets -/
def bP3 (fl : Fg) (i j l : Nat) (γ : List Sl) (d : D) : Option (List Sl) := match d with
  | .tup [x, y, z] => some (((γ.set i (fzl fl x)).set j (fzl fl y)).set l (fzl fl z))
  | _ => none
def onTrip {α : Type} {S : Type} (f : D → D → D → M S α) : D → M S α
  | .tup [x, y, z] => f x y z
  | _ => M.bad
section
variable {c : Ct} {Z : StK} {γ γe : List Sl} {W : WX} {fl : Fg} {te : TE} {ma : M Z.S D} {tK : PySem.W.Frag} {α β : Type} {K : EK Z α} {t2 tB : TS}
end
end B
namespace B
open PySem L2
/-! Q41: is True, is False; while (x := e) is not None -/
def isBD (b : Bool) (x : D) : Option D := match x with
  | .bl a => some (.bl (decide (a = b)))
  | _ => none
def notBD (b : Bool) (x : D) : Option D := match x with
  | .bl a => some (.bl (!decide (a = b)))
  | _ => none
/-- while (x := e) is not None -/
def whileO {S β : Type} (me : β → M S D) (mB : D → β → M S β) : Nat → β → M S β
  | 0, _ => M.bad
  | n + 1, b => me b >>= fun d => lift ((notNonD d).bind blO) >>= fun t => if t = true then mB d b >>= fun b' => whileO me mB n b' else pure b
section
variable {c : Ct} {Z : StK} {γ γe : List Sl} {W : WX} {fa : Fg} {ta te : TE} {ma : M Z.S D} {β : Type} {tB : TS}
end
end B
namespace B
open PySem L2
/-! S1: stars: in targets (a, .., *z = a tuple), in calls (f(a, *z)), in parameters (def f(a, *z)) -/
section
open PySem.Spec PyProof.Rows
variable {prog : Program} {w : World} {A : Around} {E : Value → Shared → Prop} {s : Shared}
end
section
open PySem.Spec PyProof.Rows
variable {X : Cx} {pos : Pos}
/-- (a, .., *z) = a tuple -/
def gStar (K : PySem.W.Frag) (n : Nat) (t : TGs) : TG := fun v σ H Q => ∃ a xs, v = .ref a ∧ SqT K H a xs ∧ n ≤ xs.length ∧ ∀ p, H p = none → t (xs.take n ++ [.ref p]) σ (upd H p (.lst (xs.drop n))) Q
end
/-! ### defs with a star parameter -/
section
open PySem.Spec PyProof.Rows StX
def spV (n : Nat) (sp : Sp) : Sp := fun vs H Q E => ∃ ws rest, vs = ws ++ rest ∧ ws.length = n ∧ rest.length ≤ sizeLine ∧ ∀ p, H p = none → sp (ws ++ [.ref p]) (upd H p (.tup rest)) Q E
structure DfV (P : Program) (w : World) (K : PySem.W.Frag) (mg : Str → Option Value) (base : Heap) (k : Nat) (x : Str) (n : Nat) (sp : Sp) : Prop where
  ex : ∃ f, mg x = some (.ref f) ∧ PySem.W.keepIn K (.ref f) = true ∧ FnR P w K mg base (L2.CX P w) k f (spV n sp)
variable {X : Cx} {W : WX} {k : Nat} {x : Str} {sp : Sp} {e e1 e2 : Expr} {es : List Expr} {te te1 te2 : TE} {tr : TA} {p p2 pos : Pos}
/-- *z where a new tuple is made of its items -/
def tStarT (K : PySem.W.Frag) (te : TE) : TE := fun σ H Q => te σ H fun x H1 => ∃ p xs, x = V.ref p ∧ (SqT K H1 p xs ∨ SqL K H1 p xs) ∧ (xs ++ []).length ≤ sizeLine ∧ ∀ q, H1 q = none → Q (.ref q) (upd H1 q (.tup (xs ++ [])))
end
end B
namespace B
open PySem L2
/-! Q42: lists by two fors -/
def cat2 {S : Type} (me1 : D → M S D) (f : D → D → M S (Option D)) : List D → M S (List D)
  | [] => pure []
  | x :: xs => noErr (me1 x) >>= fun v => lift (itemsD v) >>= fun es => if es.length ≤ 300 then compM es (f x) >>= fun r => cat2 me1 f xs >>= fun rs => pure (r ++ rs) else M.bad
def cat2L {S : Type} (ds : List D) (me1 : D → M S D) (f : D → D → M S (Option D)) : M S (List D) := if ds.length ≤ 300 then cat2 me1 f ds else M.bad
section
variable {c : Ct} {Φ : Fm} {Z : StK} {γ γ' : List Sl} {W : WX} {s s' : Z.S} {w w' : W3} {σ σ' : L2.St} {fl fa fb : Fg} {v : V} {d : D} {te te1 ta tb : TE} {ma mb : M Z.S D} {tK : PySem.W.Frag}
/-- what is walked within, whatever the frame -/
def Wk0 (c : Ct) (Z : StK) (J : It) (ds : List D) (w1 : W3) : Prop := ∀ Φ : Fm, Wk c Φ Z .f J ds w1
end
end B
namespace B
open PySem L2
/-! S2: an error without fields, raised -/
section
open PySem.Spec PyProof.Rows
variable {X : Cx}
/-- the promise of an __init__ that keeps nothing -/
def spI0 (K : PySem.W.Frag) : Sp := fun vs H Q _ => ∃ (a C : Addr), vs = [.ref a] ∧ OexC K C ∧ H a = some (exo a C none) ∧ Q .non H
structure ExcD0 (P : Program) (w : World) (K : PySem.W.Frag) (mg : Str → Option Value) (base : Heap) (k : Nat) (x : Str) (C : Addr) : Prop where
  T : Ec K C
  gC : mg x = some (.ref C)
  ini : ∃ (fI : Addr) (fd : FuncData), PySem.W.findIn K (.ref C) "__init__" = some (some (.ref fI)) ∧ PySem.W.typeIn K (.ref fI) = some (.type "function") ∧ Binds K fd ["self"] [] ∧ FnOk P w K mg base CX0 k fI fd ["self"] (spI0 K)
variable {W : WX} {x : Str} {C fI : Addr} {k : Nat} {fd : FuncData} {p pos pos2 : Pos}
def tRaise0 (C : Addr) (W : WX) : TS := fun _ σ H => W (.ref C) none σ H
end
end B
namespace B
open PySem L2
/-! S3: stars over the layer Q; an error without fields told by a mark -/
/-- no value stands for it: IsSubstitutes was raised -/
def rzD : D := .dic false [(.non, .non)]
def isRz : D → Bool
  | .dic false [(.non, .non)] => true
  | _ => false
def starO : D → Option D
  | .tup ds => if ds.length ≤ 1000 then some (.tup ds) else none
  | .lst ds => if ds.length ≤ 1000 then some (.tup ds) else none
  | _ => none
def onStar4 {α : Type} {S : Type} (f : D → D → D → D → D → M S α) : D → M S α
  | .tup (x :: y :: z :: u :: r) => f x y z u (.lst r)
  | _ => M.bad
section
variable {c : Ct} {Z : StK} {γ γe : List Sl} {W : WX} {te : TE} {ma : M Z.S D} {tK : PySem.W.Frag} {α β : Type} {K : EK Z α} {t t1 t2 : TS} {tt : TT} {mt : M Z.S Bool}
/-! ### the mark -/
def ekX (c : Ct) (Z : StK) (W : WX) : EK Z D where
  p := fun Φ w E d s' => (isRz d = false → (ekR c Z false).p Φ w E d s') ∧ (isRz d = true → ∀ w' σ', Fin Φ Z s' w' → w.le w' → W (.ref (c.ec 18)) none σ' w'.H)
  mono := fun le h => ⟨fun z => (ekR c Z false).mono le (h.1 z), fun z w' σ' F l => h.2 z w' σ' F (le.trans l)⟩
end
section
variable {c : Ct} {Z : StK} {w : W3} {ms : List Md} {vs : List V} {ds : List D}
def spDX (c : Ct) (Z : StK) (ms : List Md) (f : List D → M Z.S D) : Sp := fun vs H Q E => ∃ (w : W3) (s : Z.S) (ds : List D), w.H = H ∧ Sub w.F w.G ∧ Sub w.G w.H ∧ Z.rep w.F w.H s ∧ (∀ b, Z.own w.H b → w.G b = none) ∧ Args c Z w ms vs ds ∧
  match f ds s with
  | .ok d s' => (isRz d = false → ∀ v w', Cont Z w w' s' (mvT ms vs) → Rs c (fmD Z w ms vs) Z false w' v d → Q v w'.H) ∧ (isRz d = true → ∀ w', Cont Z w w' s' (mvT ms vs) → E (.ref (c.ec 18)) none w'.H)
  | .err n es s' => ∀ dx xs w', Cont Z w w' s' (mvT ms vs) → w'.H dx = some (.xd ((c.ef n).zip xs)) → (xs.length = (c.ef n).length ∧ w'.G dx = none ∧ w.H dx = none ∧ ¬ Z.own w'.H dx) → RpA c w'.F xs es → E (.ref (c.ec n)) (some dx) w'.H
  | .bad => False
def spX (c : Ct) (ms : List Md) (f : (S : Type) → List D → M S D) : Sp := fun vs H Q E => ∃ Z : StK, spDX c Z ms (f Z.S) vs H Q E
/-- not raised -/
def noRz {S : Type} (m : M S D) : M S D := m >>= fun d => if isRz d = true then M.bad else pure d
variable {Φ : Fm} {γ γe : List Sl} {W : WX} {σ : L2.St} {s : Z.S} {as : List Am} {ta : TA} {mk : (List D → M Z.S D) → M Z.S D} {m : Nat}
variable {f : (S : Type) → List D → M S D}
/-- try: return f(k = ..) / except IsSubstitutes: return None -/
def tTryZ (K : PySem.W.Frag) (C : Value) (m : Nat) (sp : Sp) (gV : List V → List V → List V) (W : WX) (t : TA) : TE := fun σ H Q => tCallKS m sp gV (L2.WE (wOnly K C (fun _ _ _ => tRet (tC .non)) W { nx := fun _ _ => False, rt := Q })) t σ H Q
def catchRz {S : Type} (m : M S D) : M S D := noErr m >>= fun d => if isRz d = true then pure .non else pure d
end
section
open PySem.Spec PyProof.Rows
variable {X : Cx} {W : WX} {k : Nat} {x y : Str} {ps ks : List Str} {sp : Sp} {t : TA} {p pos pos1 pos2 pos3 pos4 pos5 np : Pos} {j5 : Nat} {kws : List Keyword} {g : List Value → List Value → List Value} {gV : List V → List V → List V} {C : Value}
end
end B
namespace B
open PySem L2
/-! Q43: dicts by for: {k: v for x in xs} -/
def dcM {S : Type} (f : D → M S (D × D)) : List D → D → M S D
  | [], acc => pure acc
  | x :: xs, acc => noErr (f x) >>= fun r => lift (putO acc r.1 r.2) >>= fun acc' => dcM f xs acc'
def dcL {S : Type} (ds : List D) (f : D → M S (D × D)) : M S D := if ds.length ≤ lim then dcM f ds (.dic false []) else M.bad
section
variable {c : Ct} {Φ : Fm} {Z : StK} {γ γ' : List Sl} {W : WX} {s s' : Z.S} {w w' : W3} {σ σ' : L2.St} {fl fa fb : Fg} {v : V} {d : D} {te tk tv : TE} {tK : PySem.W.Frag}
end
end B
namespace B
open PySem L2
/-! Q44: walks of dicts with tuple keys: the key is lent (readable in the turn alone) -/
def keysTO : D → Option (List D)
  | .dic true ks => some (ks.map Prod.fst)
  | _ => none
def noBo : List Sl → Bool
  | [] => true
  | .bo _ :: _ => false
  | .sh _ :: _ => false
  | _ :: γ => noBo γ
/-- no object of the state is a tuple -/
def NoTupZ (Z : StK) : Prop := ∀ {F H : Hp} {s : Z.S} {b : Addr} {xs : List V}, Z.rep F H s → Z.own H b → H b ≠ some (.tup xs)
section
variable {c : Ct} {Φ : Fm} {Z : StK} {γ γ' γe : List Sl} {W : WX} {s s' : Z.S} {w w' : W3} {σ σ' : L2.St} {q : Addr} {ks : List V}
def lendQ (w : W3) (q : Addr) (ks : List V) : W3 := ⟨w.F, upd w.G q (.tup ks), w.H⟩
def backQ (w : W3) (q : Addr) : W3 := ⟨w.F, fun b => if b = q then none else w.G b, w.H⟩
theorem own_notup {a : Addr} {d : D} (h : Ow c w a d) (hq : w.H q = some (.tup ks)) : a ≠ q := fun z => by
  subst z
  cases d with
  | lst ds => obtain ⟨xs, h1, _⟩ := h; rw [hq] at h1; cases h1
  | dic t ks' =>
    cases t with
    | false => obtain ⟨kvs, h1, _⟩ := h; rw [hq] at h1; cases h1
    | true => obtain ⟨kvs, h1, _⟩ := h; rw [hq] at h1; cases h1
  | _ => exact h.elim
theorem In.lend (hZ : NoTupZ Z) (I : In c Φ Z γ s w σ) (hq : w.H q = some (.tup ks)) (hg : w.G q = none) : In c (B.re Z γ (lendQ w q ks) σ) Z γ s (lendQ w q ks) σ := by
  have nq : ∀ b, Z.own w.H b → b ≠ q := fun b z e => by subst e; exact hZ I.fin.rep z hq
  have fg : Sub w.F (upd w.G q (.tup ks)) := fun b u h => by
    have : b ≠ q := fun e => by
      subst e
      rcases I.fin.wd.fg b u h with z | ⟨_, _, z⟩ <;> rw [hg] at z <;> cases z
    rw [upd_ne this]; exact I.fin.wd.fg b u h
  have gh : Sub (upd w.G q (.tup ks)) w.H := fun b u h => by
    by_cases e : b = q
    · subst e; rw [upd_same] at h; cases h; exact .inl hq
    · rw [upd_ne e] at h; exact I.fin.wd.gh b u h
  refine ⟨⟨⟨fg, gh, .refl _, fun _ _ h _ => h, fun _ h => h, fun _ _ _ _ h => h, fun _ _ _ _ h => h⟩, I.fin.rep, fun b z => ⟨?_, .inl (.inl z)⟩⟩, I.ln, fun i x ov hx ho => ?_, I.ds⟩
  · show upd w.G q (.tup ks) b = none
    rw [upd_ne (nq b z)]; exact (I.fin.so b z).1
  · have h := I.sl i x ov hx ho
    cases x with
    | un => trivial
    | fz d => exact h
    | bo d =>
      obtain ⟨v, e, r⟩ := h
      exact ⟨v, e, Rp.mono (sub_new hg) r⟩
    | sh d =>
      obtain ⟨v, e, r⟩ := h
      exact ⟨v, e, r.mono (.refl _) (sub_new hg)⟩
    | st => exact h
    | st2 => exact h
    | ow d =>
      obtain ⟨b, e, r⟩ := h
      subst e
      have nb := own_notup r.ow hq
      exact ⟨b, rfl, r.ow, by show upd w.G q (.tup ks) b = none; rw [upd_ne nb]; exact r.ng, .inl (.inr ⟨i, d, hx, ho⟩), r.ns⟩
end
section
variable {c : Ct} {Z : StK} {γ γe : List Sl} {W : WX} {β : Type} {G : β → List Sl} {mB : D → β → M Z.S β} {tB : TS} {i j : Nat} {b0 : β}
end
end B
namespace B
open PySem L2
/-! Q45: d[k] -= n; C(..) whose keyword-only parameter is left out; isinstance by an own class; methods without arguments; == by an own __eq__ -/
def daugO (n : Int) : D → D → Option D
  | .dic false ks, k => (ixD (.dic false ks) k).bind fun v => (subD v (.int n)).bind fun z => putO (.dic false ks) k z
  | _, _ => none
section
variable {c : Ct} {Φ : Fm} {Z : StK} {γ γe : List Sl} {W : WX} {fl : Fg} {d x : D} {tk : TE} {mk : M Z.S D} {α : Type} {K : EK Z α} {t2 : TS}
end
/-! ### C(e, ..), a keyword-only parameter left out: its default is dv -/
structure DfMD (P : Program) (w : World) (K : PySem.W.Frag) (mg : Str → Option Value) (base : Heap) (CX : CXT) (k : Nat) (x : Str) (C : Addr) (ps : List Str) (n : Nat) (dv : V) (sp : Sp) : Prop where
  gC : mg x = some (.ref C)
  ex : ∃ (f : Addr) (fd : FuncData) (g : List Value → List Value → List Value), Mk K C f ∧ KBn K fd ps (n + 1) [] g (fun vs _ => vs ++ [dv]) ∧ FnOk P w K mg base CX k f fd ps sp
section
variable {X : Cx} {k n : Nat} {C : Addr} {ps : List Str} {sp : Sp} {E : L2.St → XK} {x : Str} {p pos : Pos} {e : Expr} {es : List Expr} {t : TA} {W : WX} {dv : V}
end
/-! ### isinstance(e, C), where it is one -/
def isiC (n : Nat) : D → Option D
  | .obj m _ => if m = n then some (.bl true) else none
  | _ => none
def rIsC (C : Addr) : List V → Hp → VK → Prop := fun xs H Q => ∃ a dx fs, xs = [.ref a, .ref C] ∧ H a = some (.ins C dx fs) ∧ Q (.bl true) H
structure IsC (K : PySem.W.Frag) (mg : Str → Option Value) (x : Str) (C : Addr) : Prop where
  ins : C8.InsC K C
  g : mg x = some (.ref C)
section
variable {c : Ct} {Z : StK} {γ : List Sl} {W : WX} {te : TE} {ma : M Z.S D}
end
/-! ### o.m() -/
section
variable {X : Cx} {k : Nat} {C : Addr} {m : Str} {ps : List Str} {sp : Sp} {o : Expr} {apos pos : Pos} {ta : TE} {W : WX} {E : L2.St → XK}
end
/-! ### x == y by an own __eq__ -/
structure DfEq (P : Program) (w : World) (K : PySem.W.Frag) (mg : Str → Option Value) (base : Heap) (CX : CXT) (k : Nat) (C : Addr) (ps : List Str) (sp : Sp) : Prop where
  ex : ∃ (g : Addr) (fd : FuncData), PySem.W.findIn K (.ref C) "__eq__" = some (some (.ref g)) ∧ PySem.W.isFn K (.ref g) = true ∧ Binds K fd ps [] ∧ FnOk P w K mg base CX k g fd ps sp
def rEqI (C : Addr) (sp : Sp) : R2 := fun x y H Q => ∃ a b dx dy fs gs, x = .ref a ∧ y = .ref b ∧ H a = some (.ins C dx fs) ∧ H b = some (.ins C dy gs) ∧ sp [.ref a, .ref b] H Q E0
section
variable {X : Cx} {k : Nat} {C : Addr} {ps : List Str} {sp : Sp}
end
section
variable {c : Ct} {Z : StK} {γ : List Sl} {W : WX} {ta tb : TE} {ma mb : M Z.S D} {f : (S : Type) → List D → M S D}
end
/-! ### no object of the drawing state is a tuple -/
end B
namespace B
open PySem L2
/-! G0: generators that sleep are left alone by code that does not know them -/
open Sem (wp)
open PyProof.Rows
def deadK : Resume → Sem PySem.Fin := fun _ => .unsupported "dead"
def poison : GenState → GenState
  | .suspended _ l c p fs cl => .suspended deadK l c p fs cl
  | x => x
def Sus : GenState → Prop
  | .suspended .. => True
  | _ => False
/-- the frames that a suspended one keeps hold no generator -/
def NoGf : GenState → Prop
  | .suspended _ _ _ _ fs _ => splitAtGen fs = none
  | _ => True
/-- b0: those that slept at the start; a: with these dead; b: the true ones -/
structure GR (b0 a b : Array GenState) : Prop where
  sz : a.size = b.size
  le : b0.size ≤ b.size
  old : ∀ (i : Nat) (x : GenState), b0[i]? = some x → Sus x → a[i]? = some (poison x) ∧ b[i]? = some x
  new : ∀ (i : Nat), (∀ x, b0[i]? = some x → ¬ Sus x) → a[i]? = b[i]? ∧ ∀ x, a[i]? = some x → NoGf x
def SR (b0 : Array GenState) (s t : Shared) : Prop := s = { t with gens := s.gens } ∧ GR b0 s.gens t.gens
theorem gget_set {a : Array GenState} {g i : Nat} {x : GenState} : (a.setIfInBounds g x)[i]? = if g = i ∧ i < a.size then some x else a[i]? := by
  rw [Array.getElem?_setIfInBounds]
  by_cases h : g = i
  · subst h
    by_cases h2 : g < a.size
    · simp [h2]
    · simp [h2]
  · simp [h]
theorem GR.set {b0 a b : Array GenState} {g : Nat} {x y : GenState} (h : GR b0 a b) (hg : a[g]? = some y) (hy : ∀ z, b0[g]? = some z → ¬ Sus z) (hx : NoGf x) : GR b0 (a.setIfInBounds g x) (b.setIfInBounds g x) := by
  refine ⟨by simp [h.sz], by simp [h.le], fun i z hz hs => ?_, fun i hi => ?_⟩
  · have ne : g ≠ i := fun e => hy z (by rw [e]; exact hz) hs
    rw [gget_set, gget_set, if_neg (by simp [ne]), if_neg (by simp [ne])]
    exact h.old i z hz hs
  · rw [gget_set, gget_set, h.sz]
    obtain ⟨h1, h2⟩ := h.new i hi
    by_cases e : g = i ∧ i < b.size
    · rw [if_pos e, if_pos e]
      exact ⟨rfl, fun z hz => by cases hz; exact hx⟩
    · rw [if_neg e, if_neg e]
      exact ⟨h1, h2⟩
theorem GR.push {b0 a b : Array GenState} {x : GenState} (h : GR b0 a b) (hx : NoGf x) : GR b0 (a.push x) (b.push x) := by
  refine ⟨by simp [h.sz], by simp; have := h.le; omega, fun i z hz hs => ?_, fun i hi => ?_⟩
  · obtain ⟨h1, h2⟩ := h.old i z hz hs
    have l1 := (Array.getElem?_eq_some_iff.mp h1).1
    have l2 := (Array.getElem?_eq_some_iff.mp h2).1
    rw [Array.getElem?_push, Array.getElem?_push, if_neg (by omega), if_neg (by omega)]
    exact ⟨h1, h2⟩
  · obtain ⟨h1, h2⟩ := h.new i hi
    rw [Array.getElem?_push, Array.getElem?_push, h.sz]
    by_cases e : i = b.size
    · rw [if_pos e, if_pos e]; exact ⟨rfl, fun z hz => by cases hz; exact hx⟩
    · rw [if_neg e, if_neg e]; exact ⟨h1, h2⟩
def NoGe : End → Prop
  | .ret _ => True
  | .susp _ _ _ _ _ _ fs => splitAtGen fs = none
section
variable {b0 : Array GenState} {s u : Shared}
theorem SR.eh (q : SR b0 s u) : s.heap = u.heap := by rw [q.1]
theorem SR.et (q : SR b0 s u) : s.toks = u.toks := by rw [q.1]
theorem SR.ed (q : SR b0 s u) : s.drawn = u.drawn := by rw [q.1]
theorem SR.eo (q : SR b0 s u) : s.os = u.os := by rw [q.1]
theorem SR.mk' (a : s.heap = u.heap) (b : s.toks = u.toks) (c : s.drawn = u.drawn) (d : s.os = u.os) (g : GR b0 s.gens u.gens) : SR b0 s u := by
  obtain ⟨h1, h2, h3, h4, h5⟩ := s
  obtain ⟨k1, k2, k3, k4, k5⟩ := u
  cases a; cases b; cases c; cases d
  exact ⟨rfl, g⟩
theorem SR.h (f : Heap → Heap) (q : SR b0 s u) : SR b0 { s with heap := f s.heap } { u with heap := f u.heap } := .mk' (by show f s.heap = f u.heap; rw [q.eh]) q.et q.ed q.eo q.2
theorem SR.t (q : SR b0 s u) : SR b0 { s with toks := s.toks + 1 } { u with toks := u.toks + 1 } := .mk' q.eh (by show s.toks + 1 = u.toks + 1; rw [q.et]) q.ed q.eo q.2
theorem SR.d (src : Source) (q : SR b0 s u) : SR b0 { s with drawn := s.drawn.bump src } { u with drawn := u.drawn.bump src } := .mk' q.eh q.et (by show s.drawn.bump src = u.drawn.bump src; rw [q.ed]) q.eo q.2
theorem SR.o (r : OsRequest) (q : SR b0 s u) : SR b0 { s with os := (Os.step s.os r).1 } { u with os := (Os.step u.os r).1 } := .mk' q.eh q.et q.ed (by show (Os.step s.os r).1 = (Os.step u.os r).1; rw [q.eo]) q.2
theorem SR.g (c : Code) (q : SR b0 s u) : SR b0 { s with gens := s.gens.push (.fresh c) } { u with gens := u.gens.push (.fresh c) } := .mk' q.eh q.et q.ed q.eo (q.2.push trivial)
end
/-- those that sleep are kept; G: how the run saw the table -/
structure Slp (b G b' : Array GenState) : Prop where
  keep : ∀ (i : Nat) (x : GenState), b[i]? = some x → Sus x → b'[i]? = some x
  bare : AllBare b → AllBare G → AllBare b'
end B
namespace B
open PySem L2
/-! G1: generators that are walked: the context of one that sleeps and is woken -/
open PySem.Spec PyProof.Rows
def cutH (L : Nat) (h : Heap) : Heap := { h with objs := (h.objs.toList.take L).toArray }
theorem cutH_objs {L : Nat} {h : Heap} {b : Nat} : (cutH L h).objs[b]? = if b < L then h.objs[b]? else none := by
  show ((h.objs.toList.take L).toArray)[b]? = _
  rw [List.getElem?_toArray, List.getElem?_take, Array.getElem?_toList]
theorem cutH_get {L : Nat} {h : Heap} {b : Addr} : (cutH L h).get? b = if b < L then h.get? b else none := by
  unfold Heap.get?
  rw [cutH_objs]
  by_cases l : b < L
  · rw [if_pos l, if_pos l]
  · rw [if_neg l, if_neg l]
theorem cutH_lt {L : Nat} {h : Heap} {b : Addr} (l : b < L) : (cutH L h).get? b = h.get? b := by rw [cutH_get, if_pos l]
theorem cutH_some {L : Nat} {h : Heap} {b : Addr} {o : Obj} (e : (cutH L h).get? b = some o) : b < L ∧ h.get? b = some o := by
  rw [cutH_get] at e
  by_cases l : b < L
  · rw [if_pos l] at e; exact ⟨l, e⟩
  · rw [if_neg l] at e; cases e
theorem cutH_size {L : Nat} {h : Heap} : (cutH L h).objs.size = min L h.objs.size := by
  show ((h.objs.toList.take L).toArray).size = _
  simp
def cutP (L : Nat) (H : Hp) : Hp := fun b => if b < L then H b else none
theorem cutP_lt {L : Nat} {H : Hp} {b : Addr} (l : b < L) : cutP L H b = H b := if_pos l
theorem cutP_some {L : Nat} {H : Hp} {b : Addr} {o : HO} (e : cutP L H b = some o) : b < L ∧ H b = some o := by
  unfold cutP at e
  by_cases l : b < L
  · rw [if_pos l] at e; exact ⟨l, e⟩
  · rw [if_neg l] at e; cases e
theorem cutP_none {L : Nat} {H : Hp} {b : Addr} (e : H b = none) : cutP L H b = none := by
  unfold cutP; split
  · exact e
  · rfl
def cutS (L : Nat) (s : Shared) : Shared := { s with heap := cutH L s.heap }
/-- where a generator's code runs: a, go: its object; L: its frame -/
structure GCx where
  P : Program
  w : World
  c : Ct
  mg : Str → Option Value
  base : Heap
  N : List Str
  qual : Str
  scope : Scope
  f : Addr
  cd : Value
  A : Around
  outer : List Env
  a : Addr
  go : Obj
  L : Nat
def GCx.env (X : GCx) : Env := envOfC X.qual X.scope X.L X.f X.cd
/-- the context from a wake on: s, H: the state there -/
def GCx.cx (X : GCx) (E : XK) (s : Shared) (H : Hp) : Cx where
  prog := X.P
  w := X.w
  K := X.c.K
  mg := X.mg
  base := X.base
  A := X.A.deeper X.env
  N := X.N
  s_0 := cutS X.L s
  H_0 := cutP X.L H
  env := X.env
  outer := X.outer
  stack := X.env :: X.outer
  ex := []
  calm := true
  fn := fun _ => true
  pn := [(X.a, X.go)]
  xe := fun e s' => wpAny (model X.P X.w) (X.A.deeper X.env) (leaving X.env e) (fun _ s'' => CX X.P X.w X.outer (cutP X.L H) (cutS X.L s) E e s'' ∧ ∀ p ∈ [(X.a, X.go)], s''.heap.get? p.1 = some p.2) (fun _ _ => False) s'
theorem funs_cut {L : Nat} {h h' base : Heap} : ∀ {l : List Env}, (cutH L h).FunFrames base l → h'.FunFrames base l → (cutH L h').FunFrames base l
  | [], _, _ => trivial
  | env :: l, ⟨_, ⟨_, o1, f1, _, g1, _⟩, r1⟩, ⟨k2, ⟨L2, o2, f2, n2, g2, d2⟩, r2⟩ => by
    refine ⟨k2, ⟨L2, o2, f2, n2, ?_, d2⟩, funs_cut r1 r2⟩
    rw [f1] at f2; cases f2
    rw [cutH_lt (cutH_some g1).1]; exact g2
/-- the addresses of a sleeper -/
def GCx.fp (X : GCx) (ip : List (Addr × Obj)) : List Addr := X.L :: X.a :: ip.map (·.1)
theorem GCx.wake {X : GCx} {E E' : XK} {s₀ s s' : Shared} {H₀ H H' : Hp} {ip : List (Addr × Obj)} {σ : L2.St} (hc : X.env.cells = []) (hL : X.L ≤ s'.heap.objs.size) (I : Inv (X.cx E s₀ H₀) ip σ H s) (e0 : Env0 X.P X.w X.c.K X.mg X.base X.A X.outer s' H')
    (hk : ∀ b ∈ X.fp ip, H' b = none ∧ ∀ o, s.heap.get? b = some o → s'.heap.get? b = some o) : Inv (X.cx E' s' H') ip σ H' s' := by
  have nc : ∀ x c, X.env.cells.lookup x = some c → False := fun x c e => by rw [hc] at e; cases e
  have bl : X.base.objs.size ≤ X.L := by
    have h1 : X.base.objs.size ≤ (cutH X.L s₀.heap).objs.size := I.ok.bsz
    rw [cutH_size] at h1; omega
  refine ⟨⟨I.ok.mod, I.ok.kind, I.ok.glob, I.ok.blt, ?_, I.ok.inj, I.ok.has, fun x c _ e => (nc x c e).elim, I.ok.hd, I.ok.frames, I.ok.stk, fun b z => absurd (show b ∈ ([] : List Addr) from z) (by simp), fun b o e => ?_, ?_, fun b o e z => absurd (show b ∈ ([] : List Addr) from z) (by simp),
    fun b z => absurd (show b ∈ ([] : List Addr) from z) (by simp), ?_, fun b hb => cutP_none (e0.frf b hb)⟩, rfl, e0.bare, ?_, ?_, fun x c e => (nc x c e).elim, (hk X.L (by unfold GCx.fp; simp)).1, fun x c e => (nc x c e).elim, fun p hp => ?_, e0.hok, I.len⟩
  · show (cutH X.L s'.heap).objs.size ≤ X.L
    rw [cutH_size]; omega
  · have hb : b < X.L := Nat.lt_of_lt_of_le (Heap.lt_size e) bl
    exact ⟨(cutH_lt hb).trans (e0.bs b o e).1, cutP_none (e0.bs b o e).2⟩
  · show X.base.objs.size ≤ (cutH X.L s'.heap).objs.size
    rw [cutH_size]; omega
  · exact funs_cut I.ok.funs e0.funs
  · refine ⟨fun b o q n _ _ => (cutH_some q).2, fun b o q n hb _ => ⟨o.slots, (cutH_some q).2⟩, fun b o q n _ => ?_, fun b o q _ => ⟨o, (cutH_some q).2⟩, fun b xs q => (cutP_some q).2, fun b o u q => (cutP_some q).2, fun b ps q => ⟨#[], by rw [(cutP_some q).2]; simp⟩⟩
    have n : cutP X.L H' b = none := n
    rw [cutP_lt (cutH_some q).1] at n; exact n
  · obtain ⟨m, hn, hl⟩ := I.loc
    refine ⟨m, hn.at' fun o e => (hk X.L (by unfold GCx.fp; simp)).2 o e, fun i x v e1 e2 e3 => ?_⟩
    obtain ⟨u, r, l⟩ := hl i x v e1 e2 e3
    refine ⟨u, r, ?_⟩
    rcases l with l | ⟨_, c, e, _⟩
    · exact .inl l
    · exact (nc x c e).elim
  · obtain ⟨e, n, ne, nf, d⟩ := I.pin p hp
    have hm : p.1 ∈ X.fp ip := by
      unfold GCx.fp
      have hp : p ∈ [(X.a, X.go)] ++ ip := hp
      rcases List.mem_append.mp hp with z | z
      · rw [List.mem_singleton.mp z]; simp
      · exact List.mem_cons_of_mem _ (List.mem_cons_of_mem _ (List.mem_map_of_mem z))
    exact ⟨(hk _ hm).2 _ e, (hk _ hm).1, ne, nf, d⟩
end B
namespace B
open PySem L2
/-! G2: a generator's body and its pure run: all that it hands out -/
open PySem.Spec PyProof.Rows GenW
def noX : XK := fun _ _ _ => False
def up {β : Type} (m : M Unit β) : M (List D) β := fun ys => match m () with
  | .ok b _ => .ok b ys
  | .err n es _ => .err n es ys
  | .bad => .bad
def upN {β : Type} (m : M Unit β) : M (List D) β := fun ys => match m () with
  | .ok b _ => .ok b ys
  | _ => .bad
def yldM (d : D) : M (List D) Unit := fun ys => .ok () (ys ++ [d])
/-- what is out stays out -/
def Ext {β : Type} (p : M (List D) β) : Prop := ∀ ys : List D, match p ys with
  | .ok _ ys' => ys <+: ys'
  | .err _ _ ys' => ys <+: ys'
  | .bad => True
section
variable {β β' : Type}
end
/-- a walk: ds: all that comes; Hnd: what the consumer holds at a wake (a number of items is out); EE: its wish of an exception -/
structure GWk where
  X : GCx
  ds : List D
  Hnd : Nat → W3 → Shared → Prop
  EE : XK
  g : Nat
  fin : Prop
namespace GWk
def nof : Addr → Prop := fun _ => False
def Gd (V : GWk) (ww : W3) (s₀ : Shared) (w : W3) (s : Shared) (fp : List Addr) : Prop :=
  s.os = s₀.os ∧ AllBare s.gens ∧ Un (frs V.X.outer) [] (cutP V.X.L ww.H) w.H (cutH V.X.L s₀.heap) s.heap ∧ HOk V.X.P V.X.w w.H s.heap ∧ Wd ⟨ww, nof⟩ w ∧ s.heap.NoLimit ∧ s.heap.IsGen V.X.a V.g ∧ V.X.a ∈ fp ∧
    ∀ b ∈ fp, w.H b = none ∧ V.X.L ≤ b ∧ ∃ o, s.heap.get? b = some o ∧ ∀ v, o.data ≠ .cell v
structure Rly (V : GWk) (fp : List Addr) (w : W3) (s : Shared) (w' : W3) (s' : Shared) : Prop where
  e0 : Env0 V.X.P V.X.w V.X.c.K V.X.mg V.X.base V.X.A V.X.outer s' w'.H
  le : w.le w'
  fg : Sub w'.F w'.G
  gh : Sub w'.G w'.H
  sz : V.X.L ≤ s'.heap.objs.size
  keep : ∀ b ∈ fp, w'.H b = none ∧ ∀ o, s.heap.get? b = some o → s'.heap.get? b = some o
def YY (V : GWk) : Protocol := fun n s₀ v s kap => ∃ (i : Nat) (ww w : W3) (x : L2.V) (d : D) (fp : List Addr), n + i = V.ds.length ∧ V.ds[i]? = some d ∧ V.Hnd i ww s₀ ∧ RelV x v ∧ Rp V.X.c w.F x d ∧ V.Gd ww s₀ w s fp ∧
  ∀ s' w', V.Rly fp w s w' s' → V.Hnd (i + 1) w' s' → kap (.send .none) s' ∧ kap (.send (.bool true)) s'
def RF (V : GWk) (n : Nat) (s₀ s : Shared) : Prop := V.fin ∧ n = 1 ∧ ∃ ww w, V.Hnd V.ds.length ww s₀ ∧ V.Gd ww s₀ w s [V.X.a]
def RE (V : GWk) (e : Value) (s : Shared) : Prop := ∃ s₀ ww, V.Hnd 0 ww s₀ ∧ CX V.X.P V.X.w V.X.outer (cutP V.X.L ww.H) (cutS V.X.L s₀) V.EE e s ∧ s.heap.IsGen V.X.a V.g
def RR (V : GWk) : GenEnd := fun n s₀ r s => ((r = .ok (.ret .none) ∨ r = .ok .next) ∧ V.RF n s₀ s) ∨ ∃ e, r = .error e ∧ V.RE e s
open Classical in
noncomputable def Eof (V : GWk) (ys : List D) : XK := if ys = [] then V.EE else noX
/-- within the body: ys is out -/
def St (V : GWk) (wb : W3) (ip : List (Addr × Obj)) (γ : List Sl) (n : Nat) (ys : List D) (s₀ s : Shared) (σ : L2.St) : Prop :=
  ∃ (ww w : W3), n + ys.length = V.ds.length + 1 ∧ V.Hnd ys.length ww s₀ ∧ Inv (V.X.cx (V.Eof ys) s₀ ww.H) ip σ w.H s ∧ In V.X.c ⟨ww, nof⟩ Z0 γ () w σ ∧ (∀ p ∈ ip, V.X.L ≤ p.1) ∧ V.X.L ≤ s₀.heap.objs.size ∧ wb.le w
def Xs (V : GWk) (e : Value) (s₀ s : Shared) : Prop := ∃ (ww : W3) (ys : List D), V.Hnd ys.length ww s₀ ∧ (V.X.cx (V.Eof ys) s₀ ww.H).xe e s
def XOk (V : GWk) (n : Nat) (es : List D) : Prop := ∀ ww s₀, V.Hnd 0 ww s₀ → ∀ dx xs w', Wd ⟨ww, nof⟩ w' → w'.H dx = some (.xd ((V.X.c.ef n).zip xs)) → (xs.length = (V.X.c.ef n).length ∧ w'.G dx = none ∧ ww.H dx = none) → RpA V.X.c w'.F xs es → V.EE (.ref (V.X.c.ec n)) (some dx) w'.H
def Good (V : GWk) {β : Type} (o : Out (List D) β) (C : β → List D → Prop) : Prop := match o with
  | .ok b ys' => ys' <+: V.ds ∧ C b ys'
  | .err n es ys' => ys' = [] ∧ V.XOk n es
  | .bad => False
structure C2 (V : GWk) (c : Code) (fs : List Frame) (gd : Bool → Bool) : Prop where
  over : V.X.A.over c fs = V.X.A.deeper V.X.env
  split : splitAtGen fs = none
  guard : fs.any Frame.guarded = false
  gd : gd false = false
structure Ok (V : GWk) : Prop where
  cells : V.X.env.cells = []
  gen : ∀ h : Heap, h.get? V.X.a = some V.X.go → h.IsGen V.X.a V.g
  la : V.X.L ≤ V.X.a
end GWk
abbrev SegV (V : GWk) (n : Nat) (s₀ : Shared) (c : Code) (t : Sem PySem.Fin) (fs : List Frame) (s : Shared) : Prop := Seg (model V.X.P V.X.w) V.X.A V.RR V.YY n s₀ c t fs s
/-- statements of a generator, by their pure run -/
def GQ (V : GWk) (γ : List Sl) (st : List Stmt) {β : Type} (G : β → List Sl) (p : M (List D) β) : Prop :=
  Ext p ∧ ∀ (n : Nat) (ys : List D) (s₀ : Shared) (c : Code) (fs : List Frame) (K : Flow → Sem PySem.Fin) (J : Value → Sem PySem.Fin) (gd : Bool → Bool) (lv : List Value → List Value) (s : Shared) (σ : L2.St) (ip : List (Addr × Obj)) (wb : W3),
    V.C2 c fs gd → V.St wb ip γ n ys s₀ s σ → V.Good (p ys) (fun b ys' => ∀ n' s₀' s' σ', V.St wb ip (G b) n' ys' s₀' s' σ' → SegV V n' s₀' c (K .next) fs s') → (∀ n' s₀' e s', V.Xs e s₀' s' → SegV V n' s₀' c (J e) fs s') →
      SegV V n s₀ c ((execs st V.X.env).wrap K J gd lv) fs s
section
variable {V : GWk} {γ γ' γe : List Sl} {β β1 : Type} {G : β → List Sl} {G1 : β1 → List Sl} {rest : List Stmt}
theorem GWk.St.weak {wb : W3} {ip : List (Addr × Obj)} {n : Nat} {ys : List D} {s₀ s : Shared} {σ : L2.St} (h : V.St wb ip γ n ys s₀ s σ) (l : Lek γ γ') : V.St wb ip γ' n ys s₀ s σ := by
  obtain ⟨ww, w, h1, h2, h3, h4, h5⟩ := h
  exact ⟨ww, w, h1, h2, h3, h4.weak l, h5⟩
/-- the good end of a first part -/
theorem GWk.Good.bind {p1 : M Unit β1} {p2 : β1 → M (List D) β} {ys : List D} {C : β → List D → Prop} {b : β1} (h : V.Good ((up p1 >>= p2) ys) C) (e : p1 () = .ok b ()) : V.Good (p2 b ys) C := by
  have q : (up p1 >>= p2) ys = p2 b ys := by rw [M.bind_def]; unfold up; rw [e]
  rw [q] at h; exact h
def noMv : List Sl → Bool
  | [] => true
  | .ow _ :: _ => false
  | .st :: _ => false
  | .st2 _ :: _ => false
  | _ :: γ => noMv γ
end
end B
namespace B
open PySem L2
/-! G3: if and for in a generator -/
open PySem.Spec PyProof.Rows GenW
section
variable {V : GWk} {γ γ' γe : List Sl} {β β1 : Type} {G : β → List Sl} {G1 : β1 → List Sl} {rest : List Stmt}
/-! ### for -/
def noteX (env : Env) (x : Value) : Sem PySem.Fin := (do noteFrame x env; theTreesLotGoes x : Sem Unit).wrap (fun _ => .raise x) .raise id id
def ownF (env : Env) (K : Flow → Sem PySem.Fin) (J : Value → Sem PySem.Fin) (gd : Bool → Bool) (lv : List Value → List Value) : Result → Sem PySem.Fin := fun r => ((match r with | .ok f => (.pure f : Sem Flow) | .error e => .raise e).onRaise (cameBack env)).wrap K J gd lv
def itemsL : D → Option (List D)
  | .lst ds => some ds
  | .tup ds => some ds
  | _ => none
def Fpo (V : GWk) (ip : List (Addr × Obj)) (b : Addr) : Prop := V.X.L < b ∧ b ∉ frs V.X.outer ∧ b ≠ V.X.a ∧ ∀ p ∈ ip, p.1 ≠ b
theorem Fpo.ok {ip : List (Addr × Obj)} {b : Addr} {E : XK} {s₀ : Shared} {H₀ H : Hp} (ok : V.Ok) (h : Fpo V ip b) (hb : H b = none) : FpOk (V.X.cx E s₀ H₀) ip H b := by
  refine ⟨hb, Nat.ne_of_gt h.1, h.2.1, .inr ?_, fun x c e => ?_, fun p hp => ?_⟩
  · show (cutH V.X.L s₀.heap).objs.size ≤ b
    rw [cutH_size]
    exact Nat.le_trans (Nat.min_le_left _ _) (Nat.le_of_lt h.1)
  · have e : V.X.env.cells.lookup x = some c := e
    rw [ok.cells] at e; cases e
  · have hp : p ∈ [(V.X.a, V.X.go)] ++ ip := hp
    rcases List.mem_append.mp hp with z | z
    · rw [List.mem_singleton.mp z]; exact Ne.symm h.2.2.1
    · exact h.2.2.2 p z
theorem Fpo.of {ip : List (Addr × Obj)} {b : Addr} {E : XK} {s₀ : Shared} {H₀ H : Hp} (hL : V.X.L ≤ s₀.heap.objs.size) (h : FpOk (V.X.cx E s₀ H₀) ip H b) : Fpo V ip b := by
  obtain ⟨_, h1, h2, h3, _, h5⟩ := h
  refine ⟨?_, h2, fun z => h5 (V.X.a, V.X.go) (List.mem_append_left _ (List.mem_singleton.mpr rfl)) z.symm, fun p hp => h5 p (List.mem_append_right _ hp)⟩
  rcases h3 with z | z
  · cases z
  · have z : (cutH V.X.L s₀.heap).objs.size ≤ b := z
    rw [cutH_size, Nat.min_eq_left hL] at z
    exact Nat.lt_of_le_of_ne z (Ne.symm h1)
end
end B
namespace B
open PySem L2
/-! G4: a generator def called: a generator that has not begun -/
open PySem.Spec PyProof.Rows GenW
def fzs (ds : List D) (n : Nat) : List Sl := ds.map Sl.fz ++ List.replicate n .un
theorem funs_cut0 {h h' base : Heap} : ∀ {l : List Env}, h.FunFrames base l → h'.FunFrames base l → (cutH h.objs.size h').FunFrames base l
  | [], _, _ => trivial
  | env :: l, ⟨_, ⟨_, o1, f1, _, g1, _⟩, r1⟩, ⟨k2, ⟨L2, o2, f2, n2, g2, d2⟩, r2⟩ => by
    refine ⟨k2, ⟨L2, o2, f2, n2, ?_, d2⟩, funs_cut0 r1 r2⟩
    rw [f1] at f2; cases f2
    rw [cutH_lt (Heap.lt_size g1)]; exact g2
theorem GCx.start {P : Program} {w : World} {c : Ct} {mg : Str → Option Value} {base : Heap} {N : List Str} {qual : Str} {scope : Scope} {f : Addr} {cd : Value} {A : Around} {outer : List Env} {s s1 s2 : Shared} {H H2 : Hp} {E E' : XK} {σ : L2.St} {a : Addr} {go : Obj}
    (I : Inv (gcxOf P w c.K mg base N qual scope f cd A outer s H E []) [] σ H s1) (hc : (envOfC qual scope s.heap.objs.size f cd).cells = []) (e0 : Env0 P w c.K mg base A outer s2 H2) (hL : s.heap.objs.size ≤ s2.heap.objs.size)
    (hl : H2 s.heap.objs.size = none ∧ ∀ o, s1.heap.get? s.heap.objs.size = some o → s2.heap.get? s.heap.objs.size = some o) (ha : s2.heap.get? a = some go ∧ H2 a = none ∧ s.heap.objs.size < a ∧ ∀ v, go.data ≠ .cell v) :
    Inv ((GCx.mk P w c mg base N qual scope f cd A outer a go s.heap.objs.size).cx E' s2 H2) [] σ H2 s2 := by
  have nc : ∀ x c, (envOfC qual scope s.heap.objs.size f cd).cells.lookup x = some c → False := fun x c e => by rw [hc] at e; cases e
  have bl : base.objs.size ≤ s.heap.objs.size := I.ok.bsz
  refine ⟨⟨I.ok.mod, I.ok.kind, I.ok.glob, I.ok.blt, ?_, I.ok.inj, I.ok.has, fun x c _ e => (nc x c e).elim, I.ok.hd, I.ok.frames, I.ok.stk, fun b z => absurd (show b ∈ ([] : List Addr) from z) (by simp), fun b o e => ?_, ?_, fun b o e z => absurd (show b ∈ ([] : List Addr) from z) (by simp),
    fun b z => absurd (show b ∈ ([] : List Addr) from z) (by simp), funs_cut0 I.ok.funs e0.funs, fun b hb => cutP_none (e0.frf b hb)⟩, rfl, e0.bare, ?_, ?_, fun x c e => (nc x c e).elim, hl.1, fun x c e => (nc x c e).elim, fun p hp => ?_, e0.hok, I.len⟩
  · show (cutH _ s2.heap).objs.size ≤ s.heap.objs.size
    rw [cutH_size]; exact Nat.min_le_left _ _
  · have hb : b < s.heap.objs.size := Nat.lt_of_lt_of_le (Heap.lt_size e) bl
    exact ⟨(cutH_lt hb).trans (e0.bs b o e).1, cutP_none (e0.bs b o e).2⟩
  · show base.objs.size ≤ (cutH _ s2.heap).objs.size
    rw [cutH_size]; exact Nat.le_min.mpr ⟨bl, Nat.le_trans bl hL⟩
  · refine ⟨fun b o q n _ _ => (cutH_some q).2, fun b o q n hb _ => ⟨o.slots, (cutH_some q).2⟩, fun b o q n _ => ?_, fun b o q _ => ⟨o, (cutH_some q).2⟩, fun b xs q => (cutP_some q).2, fun b o u q => (cutP_some q).2, fun b ps q => ⟨#[], by rw [(cutP_some q).2]; simp⟩⟩
    have n : cutP _ H2 b = none := n
    rw [cutP_lt (cutH_some q).1] at n; exact n
  · obtain ⟨m, hn, hl'⟩ := I.loc
    refine ⟨m, hn.at' fun o e => hl.2 o e, fun i x v e1 e2 e3 => ?_⟩
    obtain ⟨u, r, l⟩ := hl' i x v e1 e2 e3
    refine ⟨u, r, ?_⟩
    rcases l with l | ⟨_, c, e, _⟩
    · exact .inl l
    · exact (nc x c e).elim
  · have hp : p ∈ [(a, go)] ++ [] := hp
    rw [List.append_nil] at hp
    rw [List.mem_singleton.mp hp]
    refine ⟨ha.1, ha.2.1, Nat.ne_of_gt ha.2.2.1, fun hm => ?_, ha.2.2.2⟩
    obtain ⟨_, o, ho, _⟩ := I.ok.funs.mem hm
    exact absurd (Nat.lt_trans ha.2.2.1 (Heap.lt_size ho)) (Nat.lt_irrefl _)
/-- a generator made by a call, not begun -/
def GMd (P : Program) (w : World) (c : Ct) (mg : Str → Option Value) (base : Heap) (k : Nat) (outer : List Env) (s : Shared) (w3 : W3) (gn : M (List D) Unit) (u : Value) (s' : Shared) : Prop :=
  ∃ (a : Addr) (g : Nat) (code : Code) (go : Obj) (N : List Str) (qual : Str) (scope : Scope) (f : Addr) (cd : Value), u = .ref a ∧ s.heap.objs.size < a ∧ a < s'.heap.objs.size ∧ s'.heap.get? a = some go ∧ (∀ h : Heap, h.get? a = some go → h.IsGen a g) ∧ (∀ v, go.data ≠ .cell v) ∧ s'.gens[g]? = some (.fresh code) ∧ s'.os = s.os ∧ AllBare s'.gens ∧ s'.heap.NoLimit ∧
    (∀ b o, s.heap.get? b = some o → s'.heap.get? b = some o) ∧ (∃ o, s'.heap.get? s.heap.objs.size = some o ∧ ∀ v, o.data ≠ .cell v) ∧ ∀ (A : Around) (dsT : List D) (Hnd : Nat → W3 → Shared → Prop) (EE : XK) (fin : Prop) (s2 : Shared) (w2 : W3), Room k A → A.frames = some outer →
      (GWk.mk (GCx.mk P w c mg base N qual scope f cd A outer a go s.heap.objs.size) dsT Hnd EE g fin).Good (gn []) (fun _ ys => ys = dsT ∧ fin) → Hnd 0 w2 s2 → w3.le w2 → Sub w2.F w2.G → Sub w2.G w2.H → Env0 P w c.K mg base A outer s2 w2.H → s.heap.objs.size ≤ s2.heap.objs.size →
      (∀ b, (b = s.heap.objs.size ∨ b = a) → w2.H b = none ∧ ∀ o, s'.heap.get? b = some o → s2.heap.get? b = some o) →
      SegV (GWk.mk (GCx.mk P w c mg base N qual scope f cd A outer a go s.heap.objs.size) dsT Hnd EE g fin) (dsT.length + 1) s2 code ((model P w).den code) [] s2
structure GenOk (P : Program) (w : World) (c : Ct) (mg : Str → Option Value) (base : Heap) (k : Nat) (f : Addr) (fd : FuncData) (ps : List Str) (gn : List D → M (List D) Unit) : Prop where
  run : ∀ (A : Around) (outer : List Env) (s : Shared) (args : PySem.Args) (us : List Value) (vs : List V) (ds : List D) (w3 : W3), Room k A → Env0 P w c.K mg base A outer s w3.H → BindsTo s fd args (ps.zip us) → Vals vs us → Sub w3.F w3.G → Sub w3.G w3.H → RpA c w3.F vs ds → ds.length = ps.length →
    codeAny (model P w) A (.call (.ref f) args) (fun r s' => match r with | .ok (.ret u) => GMd P w c mg base k outer s w3 (gn ds) u s' | _ => False) s
end B
namespace B
open PySem L2
/-! G5: a generator walked by for -/
open PySem.Spec PyProof.Rows GenW
def tRaw (X : Cx) (st : Stmt) : TS := fun D σ H => ∀ pins s, Inv X pins σ H s → wpAny (model X.prog X.w) X.A (exec st X.env) (SP X pins D) X.xe s
/-- all that a generator hands out; Sx: the errors that it may raise ahead of its first item -/
def genL {S : Type} (Sx : List Nat) (m : M (List D) Unit) : M S (List D) := fun s => match m [] with
  | .ok _ ys => .ok ys s
  | .err n es [] => if n ∈ Sx then .err n es s else .bad
  | _ => .bad
def tVars : List Nat → TA
  | [] => tNil
  | i :: is => tCons (tVar i) (tVars is)
def FzAt (γ : List Sl) : List Nat → List D → Prop
  | [], [] => True
  | i :: is, d :: ds => γ[i]? = some (.fz d) ∧ FzAt γ is ds
  | _, _ => False
structure DfY (P : Program) (w : World) (c : Ct) (mg : Str → Option Value) (base : Heap) (k : Nat) (x : Str) (ps : List Str) (gn : List D → M (List D) Unit) : Prop where
  ex : ∃ f fd, mg x = some (.ref f) ∧ PySem.W.keepIn c.K (.ref f) = true ∧ Binds c.K fd ps [] ∧ GenOk P w c mg base k f fd ps gn
/-- what is wanted of an exception does not look at the generators that sleep -/
def XeS (X : Cx) : Prop := ∀ (b0 : Array GenState) (e : Value) (s u : Shared), AllBare b0 → SR b0 s u → X.xe e s → X.xe e u
section
variable {X : Cx} {c : Ct} {Z : StK} {γ γe : List Sl} {W : WX} {β : Type} {G : β → List Sl} {rm : Bool}
end
end B
namespace B
open PySem L2
/-! G6: shorter words for walked generators -/
open PySem.Spec PyProof.Rows GenW
section
variable {V : GWk} {γ γ' γe : List Sl} {β β1 : Type} {G : β → List Sl} {G1 : β1 → List Sl} {rest : List Stmt}
end
section
variable {X : Cx} {c : Ct} {Z : StK} {γ γe : List Sl} {W : WX} {β : Type} {G : β → List Sl} {rm : Bool} {t : TS}
variable {tg : Expr} {x : Str} {e : Expr} {es : List Expr} {body : List Stmt} {pos pos' p : Pos} {k : Nat} {ps : List Str} {gn : List D → M (List D) Unit} {is : List Nat} {ds : List D} {g : TG} {tB : TS} {tK : PySem.W.Frag}
end
end B
namespace B
open PySem L2
/-! ZG: enumerate of a list or a tuple -/
open PySem PySem.Spec PyProof.Rows
theorem meets_enumT (t : Addr) (items : Array Value) :
    Meets (Builtin.«enumerate.__new__» ⟨[.type "enumerate", .ref t], []⟩) (fun _ R s => s.heap.IsTuple t items ∧
      R (.ok (.ret (.ref (s.heap.push { cls := .type "tuple_iterator", data := .fields #[.ref t, .int 0 0] }).objs.size)))
        { s with heap := (s.heap.push { cls := .type "tuple_iterator", data := .fields #[.ref t, .int 0 0] }).push { cls := .type "enumerate", data := .fields #[.none, .bool false, .ref s.heap.objs.size, rawInt 0, .none, .none] } }) :=
  .of_wp fun prog w A R s h => by
    obtain ⟨hp, g, d, tk, os⟩ := s; obtain ⟨hl, h⟩ := h
    have hsub := sub_enumerate
    have hL : Heap.IsTuple (Shared.heap ⟨hp, g, d, tk, os⟩) t items := hl
    wp_walk using wpAny_pyIter_tuple hL
    refine wpAny_stack_any fun st => wpAny_pure ?_
    split
    · rename_i c _ _ _ _ _
      cases (c == Value.type "enumerate") <;> (wp_walk using wpAny_pyIter_tuple hL; exact ⟨_, rfl, h⟩)
    · wp_walk using wpAny_pyIter_tuple hL
      exact ⟨_, rfl, h⟩
theorem call_enumT {prog : Program} {w : World} {A : Around} {E : Value → Shared → Prop} {s : Shared} {t : Addr} {items : Array Value} {Q : Value → Shared → Prop} (ht : s.heap.IsTuple t items)
    (h : ∀ h', IsEnum h' (s.heap.objs.size + 1) s.heap.objs.size 0 .none → h'.IsTupleIter s.heap.objs.size t 0 → (∀ b o, s.heap.get? b = some o → h'.get? b = some o) → Q (.ref (s.heap.objs.size + 1)) { s with heap := h' }) :
    wpAny (model prog w) A (call (.type "enumerate") [.ref t]) Q E s := by
  refine callType_new F.called_enumerate (by decide) (F.typeCall_enumerate_1 _) (F.newCall_enumerate_1 _) (fun obj => F.args_object_init_2 obj _) F.entry_enumerate_new (meets_enumT t items) ⟨ht, ?_⟩
  have e1 : (s.heap.push { cls := .type "tuple_iterator", data := .fields #[.ref t, .int 0 0] }).objs.size = s.heap.objs.size + 1 := Heap.size_push ..
  show _ ∧ _
  rw [e1]
  have en := Heap.get?_push_size (s.heap.push { cls := .type "tuple_iterator", data := .fields #[.ref t, .int 0 0] }) (o := { cls := .type "enumerate", data := .fields #[.none, .bool false, .ref s.heap.objs.size, rawInt 0, .none, .none] }) rfl
  rw [e1] at en
  exact ⟨⟨_, en, rfl⟩, h _ en ⟨_, Heap.get?_push_of_some _ (Heap.get?_push_size _ rfl), rfl, rfl⟩ fun b o x => Heap.get?_push_of_some _ (Heap.get?_push_of_some _ x)⟩
/-- the tuple's items, each in a new pair -/
def IteT (K : PySem.W.Frag) (a : Addr) : It where
  go := fun i H => ∃ (xs : List V) (x : V), SqT K H a xs ∧ xs[i]? = some x
  yld := fun i H v H' => ∃ T x, v = .ref T ∧ H T = none ∧ H' = upd H T (.tup [.int (i : Nat), x]) ∧ ∀ xs, SqT K H a xs → xs[i]? = some x
  stop := fun i H => ∃ xs : List V, SqT K H a xs ∧ xs.length = i
theorem turn_enumT {P : Program} {w : World} {K : PySem.W.Frag} {elts : List Expr} {kk : Nat} {tpos : Pos} (a e it : Addr) :
    Turn P w K (.Tuple elts kk tpos) (IteT K a) [e, it] e (fun i h => (∃ old, IsEnum h e it ((i : Nat) : Int) old) ∧ h.IsTupleIter it a i ∧ e ≠ it ∧ a ≠ it ∧ e ≠ a) where
  mem := by simp
  obj := fun i h ⟨⟨old, he⟩, ⟨o, ho, _, hd⟩, _⟩ b hb => by
    have : b = e ∨ b = it := by simpa using hb
    rcases this with rfl | rfl
    · exact ⟨_, he, fun v q => nomatch q⟩
    · exact ⟨o, ho, fun v q => by rw [hd] at q; cases q⟩
  keep := fun i h h' ⟨⟨old, he⟩, hi, n⟩ k => ⟨⟨old, k e (by simp) _ he⟩, hi.at fun o q => k it (by simp) o q, n⟩
  item := by
    rintro X rfl rfl rfl hc i pins s σ H E I hf ⟨⟨old, he⟩, hit, n1, n2, n3⟩ ⟨xs, x, hq, hx⟩
    obtain ⟨its, rv, p, hz⟩ := I.tuple hq
    obtain ⟨u, hu, ru⟩ := rv.get hx
    have hlt : i < its.toArray.size := by
      have := (List.getElem?_eq_some_iff.mp hu).1
      simpa using this
    have hel : e < s.heap.objs.size := Heap.lt_size he
    have hil : it < s.heap.objs.size := by obtain ⟨_, q, _⟩ := hit; exact Heap.lt_size q
    have hh : X.A.in1.handled = none := I.ok.hd hc
    refine wpAny_pyNext_enum_itemD (Draws.tuple hh it a n2 its.toArray) he ⟨hit, p⟩ hlt n1 (by simp [n1, n3]) fun u' h' tk hP ho st' hT hsz hk => ?_
    have eu : u' = u := by
      have hP : its.toArray[i]? = some u' := hP
      simp only [List.getElem?_toArray] at hP
      rw [hu] at hP; exact (Option.some.inj hP).symm
    subst eu
    refine ⟨_, rfl, wpAny_letOwnedTupleGo_enum (s := { s with heap := h', toks := tk + 1 }) ho fun h2 he2 sb => ?_⟩
    have old2 : ∀ b o, b ≠ e → b ≠ it → s.heap.get? b = some o → h2.get? b = some o := fun b o z1 z2 q => (sb.2 b z1).trans (hk b o z1 z2 q)
    have J : Inv X pins σ (upd H s.heap.objs.size (.tup [.int (i : Nat), x])) { s with heap := h2, toks := tk + 1 } :=
      I.turnedNew (ch := [e, it]) (fun b ob hb q => old2 b ob (fun z => hb (by simp [z])) (fun z => hb (by simp [z])) q) hf (Nat.le_refl _)
        ⟨by show 2 ≤ sizeLine; decide, [.int i tk, u'], .cons ⟨_, rfl⟩ (.cons ru .nil), ⟨_, (sb.2 _ (Nat.ne_of_gt hel)).trans hT, rfl, _, rfl⟩⟩
    refine ⟨.ref s.heap.objs.size, _, J, rfl, ⟨_, x, rfl, I.hok.fresh (Nat.le_refl _), rfl, fun ys hy => by rw [I.tuple_inj hy hq]; exact hx⟩, ⟨⟨u', ?_⟩, st'.1.at fun o q => (sb.2 it (Ne.symm n1)).trans q, n1, n2, n3⟩, fun b hb => ?_⟩
    · rw [show ((i + 1 : Nat) : Int) = (i : Int) + 1 by omega]; exact he2
    · have lt : b < s.heap.objs.size := by
        have : b = e ∨ b = it := by simpa using hb
        rcases this with rfl | rfl
        · exact hel
        · exact hil
      exact (upd_ne (Nat.ne_of_lt lt)).trans (hf b hb).1
  done := by
    rintro X rfl rfl rfl hc i pins s σ H E I hf ⟨⟨old, he⟩, hit, n1, n2, n3⟩ ⟨xs, hq, hx⟩
    obtain ⟨its, rv, p, hz⟩ := I.tuple hq
    obtain ⟨f0, f1, f2, f3, f4, f5⟩ := hf it (by simp)
    have hl := rv.length
    have hh : X.A.in1.handled = none := I.ok.hd hc
    have ei : its.toArray.size = i := by simp; omega
    refine wpAny_pyNext_enum_endD (Draws.tuple hh it a n2 its.toArray) he (by rw [ei]; exact ⟨hit, p⟩) fun h' eb => ⟨rfl, I.turned (t' := s.toks) (fun b o hb q => eb b o hb q) f0 f1 f3 f4 f5⟩
  self := fun A i s Q E ⟨⟨_, he⟩, _⟩ h => wpAny_pyIter_enum he h
def iEnumE (K : PySem.W.Frag) (ta : TA) : TI := fun σ H R => ta σ H fun vs H1 => ∃ a xs, vs = [.ref a] ∧ ((SqL K H1 a xs ∧ R (Ite K a) H1) ∨ (SqT K H1 a xs ∧ R (IteT K a) H1))
theorem pi_enumE {X : Cx} {e : Expr} {ta : TA} {p pos tpos : Pos} {elts : List Expr} {kk : Nat} (hg : Gl X "enumerate") (hm : X.mg "enumerate" = none) (ha : PA X [e] ta) (hs : starEach [e] X.env = [(false, eval e X.env)] := by rfl) :
    PI X (.Tuple elts kk tpos) (.Call (.Name "enumerate" p) [e] [] pos) (iEnumE X.K ta) := by
  refine ⟨fun pins s σ H R I h => Call_ (ld_blt I hg hm boot_enumerate (PyProof.Rows.callWith_type1 (thn (ha.run pos pins s σ H _ I h) fun us s1 hx => ?_) hs rfl))⟩
  obtain ⟨vs, H1, I1, rv, a, xs, ev, q⟩ := hx
  subst ev
  cases rv with
  | cons ra rv =>
    cases rv; cases ra
    have up : ∀ b ∈ [s1.heap.objs.size + 1, s1.heap.objs.size], FpOk X pins H1 b := fun b hb => by
      have ge : s1.heap.objs.size ≤ b := by
        have : b = s1.heap.objs.size + 1 ∨ b = s1.heap.objs.size := by simpa using hb
        rcases this with rfl | rfl
        · exact Nat.le_add_right _ _
        · exact Nat.le_refl _
      exact I1.fpOk ge (I1.hok.fresh ge)
    rcases q with ⟨sq, q⟩ | ⟨sq, q⟩
    · obtain ⟨its, _, p1, _⟩ := I1.list sq
      refine call_enumerate_list p1.isList fun h' he hit _ hk => wpAny_pyIter_enum he ?_
      have J : Inv X pins σ H1 { s1 with heap := h' } := I1.kept (t' := s1.toks) hk
      exact ⟨s1.heap.objs.size + 1, [s1.heap.objs.size + 1, s1.heap.objs.size], _, _, H1, rfl, J, turn_enum a (s1.heap.objs.size + 1) s1.heap.objs.size, ⟨⟨.none, he⟩, hit, Nat.succ_ne_self _⟩, up, q⟩
    · obtain ⟨its, _, p1, _⟩ := I1.tuple sq
      have p1 : s1.heap.IsTuple a its.toArray := p1
      have la : a < s1.heap.objs.size := by obtain ⟨o, e, _⟩ := id p1; exact Heap.lt_size e
      refine call_enumT p1 fun h' he hit hk => wpAny_pyIter_enum he ?_
      have J : Inv X pins σ H1 { s1 with heap := h' } := I1.kept (t' := s1.toks) hk
      exact ⟨s1.heap.objs.size + 1, [s1.heap.objs.size + 1, s1.heap.objs.size], _, _, H1, rfl, J, turn_enumT a (s1.heap.objs.size + 1) s1.heap.objs.size, ⟨⟨.none, he⟩, hit, Nat.succ_ne_self _, Nat.ne_of_lt la, fun z => Nat.not_succ_lt_self (show s1.heap.objs.size + 1 < s1.heap.objs.size from by rw [← z] at la; exact la)⟩, up, q⟩
end B
namespace B
open PySem L2
theorem sc_BadCount___init__ : FnScope ["self", "count"] ["self", "count"] (defScope s_BadCount___init__) := ⟨rfl, rfl, rfl, by decide +kernel, rfl, by decide +kernel, by decide +kernel⟩
theorem sc_BadBound___init__ : FnScope ["self", "bound"] ["self", "bound"] (defScope s_BadBound___init__) := ⟨rfl, rfl, rfl, by decide +kernel, rfl, by decide +kernel, by decide +kernel⟩
theorem sc_common_divisor : FnScope ["first", "second"] ["first", "second"] (defScope s_common_divisor) := ⟨rfl, rfl, rfl, by decide +kernel, rfl, by decide +kernel, by decide +kernel⟩
theorem sc_check_program : FnScope ["rows", "bounds", "worths", "row", "bound"] ["rows", "bounds", "worths"] (defScope s_check_program) := ⟨rfl, rfl, rfl, by decide +kernel, rfl, by decide +kernel, by decide +kernel⟩
theorem sc_Tableau___init__ : FnScope ["self", "rows", "bounds", "worths", "index", "row", "slack", "other", "worth"] ["self", "rows", "bounds", "worths"] (defScope s_Tableau___init__) := ⟨rfl, rfl, rfl, by decide +kernel, rfl, by decide +kernel, by decide +kernel⟩
theorem sc_Tableau_entering : FnScope ["self", "index"] ["self"] (defScope s_Tableau_entering) := ⟨rfl, rfl, rfl, by decide +kernel, rfl, by decide +kernel, by decide +kernel⟩
theorem sc_Tableau_leaving : FnScope ["self", "column", "best", "index", "line"] ["self", "column"] (defScope s_Tableau_leaving) := ⟨rfl, rfl, rfl, by decide +kernel, rfl, by decide +kernel, by decide +kernel⟩
theorem sc_Tableau_is_nearer : FnScope ["self", "index", "other", "column", "here", "there"] ["self", "index", "other", "column"] (defScope s_Tableau_is_nearer) := ⟨rfl, rfl, rfl, by decide +kernel, rfl, by decide +kernel, by decide +kernel⟩
theorem sc_Tableau_turn : FnScope ["self", "index", "column", "chosen", "pivot", "other"] ["self", "index", "column"] (defScope s_Tableau_turn) := ⟨rfl, rfl, rfl, by decide +kernel, rfl, by decide +kernel, by decide +kernel⟩
theorem sc_Tableau_reduced : FnScope ["self", "line", "chosen", "column", "factor", "pivot", "item", "other"] ["self", "line", "chosen", "column"] (defScope s_Tableau_reduced) := ⟨rfl, rfl, rfl, by decide +kernel, rfl, by decide +kernel, by decide +kernel⟩
theorem sc_Tableau_mix_numbers : FnScope ["self", "found", "index", "place"] ["self"] (defScope s_Tableau_mix_numbers) := ⟨rfl, rfl, rfl, by decide +kernel, rfl, by decide +kernel, by decide +kernel⟩
theorem sc_Tableau_endless_numbers : FnScope ["self", "column", "found", "index", "place"] ["self", "column"] (defScope s_Tableau_endless_numbers) := ⟨rfl, rfl, rfl, by decide +kernel, rfl, by decide +kernel, by decide +kernel⟩
theorem sc_best_mix : FnScope ["rows", "bounds", "worths", "tableau", "column", "index", "numbers", "costs", "divisor", "number", "shared", "cost"] ["rows", "bounds", "worths"] (defScope s_best_mix) := ⟨rfl, rfl, rfl, by decide +kernel, rfl, by decide +kernel, by decide +kernel⟩
theorem sc_l_start : FnScope ["_law_script", "_law_cell"] ["_law_script"] (defScope s_l_start) := ⟨rfl, rfl, rfl, by decide +kernel, rfl, by decide +kernel, by decide +kernel⟩
theorem sc_l_take : FnScope ["_law_state", "_law_limit", "_law_cells", "_law_at", "_law_cell", "_law_number"] ["_law_state", "_law_limit"] (defScope s_l_take) := ⟨rfl, rfl, rfl, by decide +kernel, rfl, by decide +kernel, by decide +kernel⟩
theorem sc_l_divisor : FnScope ["_law_numbers", "_law_found", "_law_number", "_law_one"] ["_law_numbers"] (defScope s_l_divisor) := ⟨rfl, rfl, rfl, by decide +kernel, rfl, by decide +kernel, by decide +kernel⟩
theorem sc_l_dot : FnScope ["_law_one", "_law_other", "_law_k"] ["_law_one", "_law_other"] (defScope s_l_dot) := ⟨rfl, rfl, rfl, by decide +kernel, rfl, by decide +kernel, by decide +kernel⟩
theorem sc_l_whole : FnScope ["_law_items", "_law_size", "_law_item"] ["_law_items", "_law_size"] (defScope s_l_whole) := ⟨rfl, rfl, rfl, by decide +kernel, rfl, by decide +kernel, by decide +kernel⟩
theorem sc_l_right : FnScope ["_law_lines", "_law_caps", "_law_gains", "_law_told_here", "_law_grows", "_law_scale", "_law_numbers", "_law_costs", "_law_k", "_law_row"] ["_law_lines", "_law_caps", "_law_gains", "_law_told_here"] (defScope s_l_right) := ⟨rfl, rfl, rfl, by decide +kernel, rfl, by decide +kernel, by decide +kernel⟩
theorem sc_l_told : FnScope ["_law_lines", "_law_caps", "_law_gains", "e"] ["_law_lines", "_law_caps", "_law_gains"] (defScope s_l_told) := ⟨rfl, rfl, rfl, by decide +kernel, rfl, by decide +kernel, by decide +kernel⟩
theorem sc_l_due : FnScope ["_law_lines", "_law_caps", "_law_gains", "_law_row", "_law_bound"] ["_law_lines", "_law_caps", "_law_gains"] (defScope s_l_due) := ⟨rfl, rfl, rfl, by decide +kernel, rfl, by decide +kernel, by decide +kernel⟩
theorem sc_l_drawn : FnScope ["_law_state", "_law_height", "_law_size", "_law_low", "_law_lines", "_law_caps", "_law_gains", "_law_turn", "_law_k"] ["_law_state"] (defScope s_l_drawn) := ⟨rfl, rfl, rfl, by decide +kernel, rfl, by decide +kernel, by decide +kernel⟩
theorem sc_l_market : FnScope ["_law_state", "_law_buyers", "_law_count", "_law_pairs", "_law_buyer", "_law_lines", "_law_pair", "_law_good", "_law_mask"] ["_law_state"] (defScope s_l_market) := ⟨rfl, rfl, rfl, by decide +kernel, rfl, by decide +kernel, by decide +kernel⟩
theorem sc_l_round : FnScope ["_law_state", "_law_order", "_law_lines", "_law_gains", "_law_line", "_law_k"] ["_law_state"] (defScope s_l_round) := ⟨rfl, rfl, rfl, by decide +kernel, rfl, by decide +kernel, by decide +kernel⟩
theorem sc_law : FnScope ["_law_script", "_law_state", "_law_lines", "_law_caps", "_law_gains", "_law_turn", "_law_plan", "_law_k", "_law_handed", "_law_due_here", "_law_told_here", "_law_row"] ["_law_script"] (defScope s_law) := ⟨rfl, rfl, rfl, by decide +kernel, rfl, by decide +kernel, by decide +kernel⟩
end B
namespace B
open PySem L2
/-! texts in order; what goods_of makes of a list of names -/
/-- the first item that is wrong: 1 no name, 2 an earlier one again -/
def firstBad (seen : List Str) : List Str → Option (Nat × Str)
  | [] => none
  | w :: ws => if vn w = false then some (1, w) else if w ∈ seen then some (2, w) else firstBad (seen ++ [w]) ws
/-- an error by its number, its field, what it keeps -/
abbrev Er1 := Nat × Str × V
def goodsOf (ws : List Str) : Except Er1 (List Str) :=
  if 1 ≤ ws.length ∧ ws.length ≤ 5 then
    match firstBad [] ws with
    | some (c, w) => .error (c, "name", .str w)
    | none => .ok (sortS ws)
  else .error (4, "count", .int ws.length)
/-- a list or a tuple -/
def Sq (K : PySem.W.Frag) (H : Hp) (a : Addr) (xs : List V) : Prop := SqL K H a xs ∨ SqT K H a xs
theorem Sq.same {K : PySem.W.Frag} {H H' : Hp} {a : Addr} {xs : List V} (h : Sq K H a xs) (e : Same H H') : Sq K H' a xs := h.imp (sm_l e) (sm_t e)
def iSeq (K : PySem.W.Frag) (tl : TE) : TI := fun σ H R => tl σ H fun x H1 => ∃ a, x = .ref a ∧ (((∃ xs, SqL K H1 a xs) ∧ R (Itl K a) H1) ∨ ((∃ xs, SqT K H1 a xs) ∧ R (Itt K a) H1))
theorem pi_seq {X : Cx} {tg l : Expr} {tl : TE} (hl : PE X l tl) : PI X tg l (iSeq X.K tl) := by
  refine ⟨fun pins s σ H R I h => ?_⟩
  refine thn (hl.run pins s σ H _ I h) fun v s1 ⟨x, H1, I1, r1, a, ex, q⟩ => ?_
  subst ex
  cases r1
  have ff : ∀ b ∈ [s1.heap.objs.size], FpOk X pins H1 b := fun b hb => by
    have e : b = s1.heap.objs.size := by simpa using hb
    subst e
    exact I1.fpOk (Nat.le_refl _) (I1.hok.fresh (Nat.le_refl _))
  rcases q with ⟨⟨xs, hx⟩, q⟩ | ⟨⟨xs, hx⟩, q⟩
  · obtain ⟨its, rv, p, hz⟩ := I1.list hx
    exact wpAny_pyIter_list p.isList ⟨_, _, _, _, H1, rfl, I1.kept (t' := s1.toks) fun b o e => Heap.get?_push_of_some _ e, turn_list a _, ⟨_, Heap.get?_push_size _ rfl, rfl, rfl⟩, ff, q⟩
  · obtain ⟨its, rv, p, hz⟩ := I1.tuple hx
    exact wpAny_pyIter_tuple (show s1.heap.IsTuple a its.toArray from p) ⟨_, _, _, _, H1, rfl, I1.kept (t' := s1.toks) fun b o e => Heap.get?_push_of_some _ e, turn_tuple a _, ⟨_, Heap.get?_push_size _ rfl, rfl, rfl⟩, ff, q⟩
section
variable {K : PySem.W.Frag} {a : Addr} {xs : List V} {g : TG} {tb : TS} {D : Ends} {σ : L2.St} {H : Hp}
/-- for over a list or a tuple that is left as it is -/
theorem for_sq {Hb : Hp} (h : Sq K Hb a xs) (Pv : Nat → L2.St → Hp → Prop) (h0 : Pv 0 σ H) (hk : ∀ i σ' H', Pv i σ' H' → Same Hb H')
    (hs : ∀ i x σ' H', xs[i]? = some x → Pv i σ' H' → g x σ' H' fun σ2 H2 => tb { D with nx := Pv (i + 1), ct := Pv (i + 1), bk := D.nx } σ2 H2) (hd : ∀ σ' H', Pv xs.length σ' H' → D.nx σ' H') :
    ((∃ xs, SqL K H a xs) ∧ ∃ W : Nat → Nat → L2.St → Hp → Prop, (∃ m, W 0 m σ H) ∧ ∀ i m σ H, W i m σ H →
      ((Itl K a).stop i H ∧ D.nx σ H) ∨ ((Itl K a).go i H ∧ ∃ N : L2.St → Hp → Prop, (∀ σ' H', N σ' H' → ∃ m', m' < m ∧ W (i + 1) m' σ' H') ∧ ∀ x H', (Itl K a).yld i H x H' → g x σ H' fun σ2 H2 => tb { D with nx := N, ct := N, bk := D.nx } σ2 H2)) ∨
    ((∃ xs, SqT K H a xs) ∧ ∃ W : Nat → Nat → L2.St → Hp → Prop, (∃ m, W 0 m σ H) ∧ ∀ i m σ H, W i m σ H →
      ((Itt K a).stop i H ∧ D.nx σ H) ∨ ((Itt K a).go i H ∧ ∃ N : L2.St → Hp → Prop, (∀ σ' H', N σ' H' → ∃ m', m' < m ∧ W (i + 1) m' σ' H') ∧ ∀ x H', (Itt K a).yld i H x H' → g x σ H' fun σ2 H2 => tb { D with nx := N, ct := N, bk := D.nx } σ2 H2)) := by
  rcases h with h | h
  · exact .inl ⟨⟨_, sm_l (hk _ _ _ h0) h⟩, for_list (K := K) (a := a) (xs := xs) Pv h0 (fun i σ' H' _ p => sm_l (hk i σ' H' p) h) hs hd⟩
  · exact .inr ⟨⟨_, sm_t (hk _ _ _ h0) h⟩, for_tup (K := K) (a := a) (xs := xs) Pv h0 (fun i σ' H' _ p => sm_t (hk i σ' H' p) h) hs hd⟩
end
end B
namespace B
open PySem L2
section
variable {P : Program} {w : World} {K : PySem.W.Frag} {mg : Str → Option Value} {base : Heap} {Bc : Addr} {mc : Value}
theorem ok_BadCount___init__ {f : Addr} {fd : FuncData} (F : Fun K "__init__" "BadCount.__init__" s_BadCount___init__ f fd) (rB : ClX.CRead K Bc mc) (kB : PySem.W.findCls K (.ref Bc) mc "__init__" = some (.val (.builtin "ValueError.__init__"))) (gB : mg "BundleError" = some (.ref Bc)) : FnOk P w K mg base CX0 1 f fd ["self", "count"] (spI1 K "count") := by
  refine F.ok sc_BadCount___init__ (fun vs H Q E h => ?_) (fun cdv A outer s H vs Q E hr h => ⟨_, wb, ?_⟩)
  · obtain ⟨a, C, v, rfl, _⟩ := h
    rfl
  · obtain ⟨a, C, v, rfl, T, no, ha, k⟩ := h
    refine nxt (ps_expr (pe_beinit rB kB gB (pa_cons (pv 0) (pa_cons pe_str pa_nil)))) ?_
    refine ⟨_, rfl, a, C, _, rfl, (by show 1 ≤ 1000; decide), T, ha, ?_⟩
    refine last (ps_ost (pv 0) (pv 1)) ?_
    exact ⟨_, rfl, _, rfl, a, C, rfl, T, no, .inl ⟨ha, fun dx n ne => k dx n ne⟩⟩
theorem ok_BadBound___init__ {f : Addr} {fd : FuncData} (F : Fun K "__init__" "BadBound.__init__" s_BadBound___init__ f fd) (rB : ClX.CRead K Bc mc) (kB : PySem.W.findCls K (.ref Bc) mc "__init__" = some (.val (.builtin "ValueError.__init__"))) (gB : mg "BundleError" = some (.ref Bc)) : FnOk P w K mg base CX0 1 f fd ["self", "bound"] (spI1 K "bound") := by
  refine F.ok sc_BadBound___init__ (fun vs H Q E h => ?_) (fun cdv A outer s H vs Q E hr h => ⟨_, wb, ?_⟩)
  · obtain ⟨a, C, v, rfl, _⟩ := h
    rfl
  · obtain ⟨a, C, v, rfl, T, no, ha, k⟩ := h
    refine nxt (ps_expr (pe_beinit rB kB gB (pa_cons (pv 0) (pa_cons pe_str pa_nil)))) ?_
    refine ⟨_, rfl, a, C, _, rfl, (by show 1 ≤ 1000; decide), T, ha, ?_⟩
    refine last (ps_ost (pv 0) (pv 1)) ?_
    exact ⟨_, rfl, _, rfl, a, C, rfl, T, no, .inl ⟨ha, fun dx n ne => k dx n ne⟩⟩
end
end B
namespace B
open PySem L2
/-! M10: determinants by rows (Laplace), and what Cramer says -/
namespace Lp
section
def S : Nat → (Nat → Int) → Int
  | 0, _ => 0
  | n + 1, f => S n f + f n
theorem S_congr {n : Nat} {f g : Nat → Int} (h : ∀ k, k < n → f k = g k) : S n f = S n g := by
  induction n with
  | zero => rfl
  | succ n ih => rw [S, S, ih fun k hk => h k (by omega), h n (by omega)]
theorem S_zero {n : Nat} {f : Nat → Int} (h : ∀ k, k < n → f k = 0) : S n f = 0 := by
  induction n with
  | zero => rfl
  | succ n ih => rw [S, ih fun k hk => h k (by omega), h n (by omega)]; rfl
theorem S_add (n : Nat) (f g : Nat → Int) : S n (fun k => f k + g k) = S n f + S n g := by
  induction n with
  | zero => rfl
  | succ n ih => rw [S, S, S, ih]; omega
theorem S_mul (n : Nat) (a : Int) (f : Nat → Int) : S n (fun k => a * f k) = a * S n f := by
  induction n with
  | zero => simp [S]
  | succ n ih => rw [S, S, ih, Int.mul_add]
theorem S_neg (n : Nat) (f : Nat → Int) : S n (fun k => - f k) = - S n f := by
  induction n with
  | zero => rfl
  | succ n ih => rw [S, S, ih]; omega
theorem S_swap (n m : Nat) (f : Nat → Nat → Int) : S n (fun k => S m (f k)) = S m (fun l => S n fun k => f k l) := by
  induction n with
  | zero => rw [S]; exact (S_zero fun _ _ => rfl).symm
  | succ n ih =>
    rw [S, ih, ← S_add]
    rfl
/-- one term alone -/
theorem S_one {n : Nat} {f : Nat → Int} (j : Nat) (hj : j < n) (h : ∀ k, k < n → k ≠ j → f k = 0) : S n f = f j := by
  induction n with
  | zero => omega
  | succ n ih =>
    rw [S]
    by_cases e : j = n
    · subst e
      rw [S_zero fun k hk => h k (by omega) (by omega)]; omega
    · rw [ih (by omega) (fun k hk => h k (by omega)), h n (by omega) (by omega)]; omega
/-- two terms alone -/
theorem S_two {n : Nat} {f : Nat → Int} (i j : Nat) (hi : i < n) (hj : j < n) (hij : i ≠ j) (h : ∀ k, k < n → k ≠ i → k ≠ j → f k = 0) : S n f = f i + f j := by
  have e : S n f = S n (fun k => (if k = i then f i else 0) + (if k = i then 0 else f k)) := S_congr fun k _ => by
    by_cases q : k = i
    · rw [if_pos q, if_pos q, q]; omega
    · rw [if_neg q, if_neg q]; omega
  rw [e, S_add, S_one i hi (fun k _ q => by rw [if_neg q]), S_one j hj (fun k hk q => by
    by_cases r : k = i
    · rw [if_pos r]
    · rw [if_neg r]; exact h k hk r q), if_pos rfl, if_neg (Ne.symm hij)]
theorem S_first (n : Nat) (f : Nat → Int) : S (n + 1) f = f 0 + S n fun k => f (k + 1) := by
  induction n with
  | zero => simp [S]
  | succ n ih => rw [S, ih, S]; omega
def sk (k j : Nat) : Nat := if j < k then j else j + 1
/-- a sum that leaves one out -/
theorem S_skip (n : Nat) (f : Nat → Int) (k : Nat) (hk : k < n + 1) : S n (fun l => f (sk k l)) = S (n + 1) fun m => if m = k then 0 else f m := by
  induction n generalizing k with
  | zero =>
    have : k = 0 := by omega
    subst this
    simp [S]
  | succ n ih =>
    rw [S, S]
    by_cases e : k = n + 1
    · subst e
      rw [if_pos rfl]
      rw [S_congr (g := f) fun l hl => by unfold sk; rw [if_pos (by omega)]]
      rw [S_congr (n := n + 1) (g := f) fun m hm => by rw [if_neg (by omega)]]
      rw [S]
      unfold sk
      rw [if_pos (by omega)]
      omega
    · rw [ih k (by omega), if_neg (Ne.symm e)]
      congr 1
      unfold sk
      rw [if_neg (by omega)]
def sg : Nat → Int
  | 0 => 1
  | k + 1 => - sg k
theorem sg_sq (k : Nat) : sg k * sg k = 1 := by
  induction k with
  | zero => rfl
  | succ k ih => rw [sg, Int.neg_mul_neg, ih]
abbrev Vc := Nat → Int
/-- the columns without the k-th -/
def wo (k : Nat) (v : Nat → Vc) : Nat → Vc := fun j => v (sk k j)
def det : List Nat → (Nat → Vc) → Int
  | [], _ => 1
  | r :: rs, v => S (rs.length + 1) fun k => sg k * v k r * det rs (wo k v)
def up (v : Nat → Vc) (j : Nat) (x : Vc) : Nat → Vc := fun k => if k = j then x else v k
theorem up_same {v : Nat → Vc} {j : Nat} {x : Vc} : up v j x j = x := if_pos rfl
theorem up_ne {v : Nat → Vc} {j k : Nat} {x : Vc} (h : k ≠ j) : up v j x k = v k := if_neg h
theorem det_congr : ∀ (rs : List Nat) {v w : Nat → Vc}, (∀ k, k < rs.length → ∀ r ∈ rs, v k r = w k r) → det rs v = det rs w := by
  intro rs
  induction rs with
  | nil => intro _ _ _; rfl
  | cons r rs ih =>
    intro v w h
    rw [det, det]
    refine S_congr fun k hk => ?_
    rw [h k (by simpa using hk) r List.mem_cons_self]
    congr 1
    refine ih fun l hl q hq => h _ ?_ q (List.mem_cons_of_mem _ hq)
    unfold sk
    simp only [List.length_cons]
    split <;> omega
theorem wo_up_same (v : Nat → Vc) (j : Nat) (x : Vc) : wo j (up v j x) = wo j v := by
  funext k
  unfold wo
  rw [up_ne]
  unfold sk
  split <;> omega
/-- the place of j when k is left out -/
def pl (k j : Nat) : Nat := if j < k then j else j - 1
theorem wo_up (v : Nat → Vc) {k j : Nat} (h : k ≠ j) (x : Vc) : wo k (up v j x) = up (wo k v) (pl k j) x := by
  funext l
  show (if sk k l = j then x else v (sk k l)) = if l = pl k j then x else v (sk k l)
  have e : (sk k l = j) ↔ (l = pl k j) := by
    unfold sk pl
    split <;> split <;> omega
  by_cases q : l = pl k j
  · rw [if_pos (e.mpr q), if_pos q]
  · rw [if_neg (fun z => q (e.mp z)), if_neg q]
theorem pl_lt {n k j : Nat} (hk : k < n + 1) (hj : j < n + 1) (h : k ≠ j) : pl k j < n := by
  unfold pl
  split <;> omega
/-- linear in each column -/
theorem det_lin : ∀ (rs : List Nat) (v : Nat → Vc) (j : Nat), j < rs.length → ∀ (a b : Int) (x y : Vc),
    det rs (up v j fun r => a * x r + b * y r) = a * det rs (up v j x) + b * det rs (up v j y) := by
  intro rs
  induction rs with
  | nil => intro v j hj; exact absurd hj (Nat.not_lt_zero _)
  | cons r rs ih =>
    intro v j hj a b x y
    simp only [det]
    rw [← S_mul, ← S_mul, ← S_add]
    refine S_congr fun k hk => ?_
    by_cases e : k = j
    · subst e
      rw [up_same, up_same, up_same, wo_up_same, wo_up_same, wo_up_same]
      rw [Int.mul_add, Int.add_mul]
      congr 1 <;> ac_rfl
    · rw [up_ne e, up_ne e, up_ne e, wo_up v e, wo_up v e, wo_up v e]
      rw [ih (wo k v) (pl k j) (pl_lt hk (by simpa using hj) e) a b x y, Int.mul_add]
      congr 1 <;> ac_rfl
theorem up_self (v : Nat → Vc) (j : Nat) : up v j (v j) = v := by
  funext k
  unfold up
  by_cases h : k = j
  · rw [if_pos h, h]
  · rw [if_neg h]
theorem det_zero (rs : List Nat) (v : Nat → Vc) (j : Nat) (hj : j < rs.length) : det rs (up v j fun _ => 0) = 0 := by
  have h := det_lin rs v j hj 0 0 (v j) (v j)
  have e : (fun r => (0 : Int) * v j r + 0 * v j r) = fun _ => 0 := by funext r; omega
  rw [e] at h
  omega
/-- two equal neighbours -/
theorem det_adj : ∀ (rs : List Nat) (v : Nat → Vc) (j : Nat), j + 1 < rs.length → v j = v (j + 1) → det rs v = 0 := by
  intro rs
  induction rs with
  | nil => intro v j hj; exact absurd hj (Nat.not_lt_zero _)
  | cons r rs ih =>
    intro v j hj h
    have hj' : j + 1 < rs.length + 1 := by simpa using hj
    rw [det, S_two j (j + 1) (by omega) hj' (by omega) (fun k hk n1 n2 => ?_)]
    · have e : wo j v = wo (j + 1) v := by
        funext l
        unfold wo sk
        by_cases a : l < j
        · rw [if_pos a, if_pos (by omega)]
        · rw [if_neg a]
          by_cases b : l = j
          · subst b
            rw [if_pos (by omega), h]
          · rw [if_neg (by omega)]
      rw [← e, ← h, sg]
      have : (- sg j) * v j r * det rs (wo j v) = - (sg j * v j r * det rs (wo j v)) := by rw [Int.neg_mul, Int.neg_mul]
      omega
    · have z : det rs (wo k v) = 0 := by
        by_cases a : k < j
        · refine ih (wo k v) (j - 1) (by omega) ?_
          unfold wo sk
          rw [if_neg (by omega), if_neg (by omega)]
          have e1 : j - 1 + 1 = j := by omega
          rw [e1]
          exact h
        · refine ih (wo k v) j (by omega) ?_
          unfold wo sk
          rw [if_pos (by omega), if_pos (by omega)]
          exact h
      rw [z, Int.mul_zero]
end
end Lp
end B
namespace B
open PySem L2
/-! M11: columns and rows exchanged; Cramer -/
namespace Lp
section
theorem up_comm (v : Nat → Vc) {i j : Nat} (h : i ≠ j) (a b : Vc) : up (up v i a) j b = up (up v j b) i a := by
  funext k
  unfold up
  by_cases p : k = j
  · rw [if_pos p, if_neg (by omega), if_pos p]
  · rw [if_neg p]
    by_cases q : k = i
    · rw [if_pos q, if_pos q]
    · rw [if_neg q, if_neg q, if_neg p]
theorem det_add (rs : List Nat) (v : Nat → Vc) (j : Nat) (hj : j < rs.length) (x y : Vc) : det rs (up v j fun r => x r + y r) = det rs (up v j x) + det rs (up v j y) := by
  have h := det_lin rs v j hj 1 1 x y
  have e : (fun r => (1 : Int) * x r + 1 * y r) = fun r => x r + y r := by funext r; omega
  rw [e] at h
  omega
theorem det_swap (rs : List Nat) (v : Nat → Vc) (j : Nat) (hj : j + 1 < rs.length) (x y : Vc) : det rs (up (up v j x) (j + 1) y) = - det rs (up (up v j y) (j + 1) x) := by
  have n : j ≠ j + 1 := by omega
  have z : ∀ a : Vc, det rs (up (up v j a) (j + 1) a) = 0 := fun a => det_adj rs _ j hj (by rw [up_ne n, up_same, up_same])
  have l1 : ∀ a b c : Vc, det rs (up (up v j fun r => a r + b r) (j + 1) c) = det rs (up (up v j a) (j + 1) c) + det rs (up (up v j b) (j + 1) c) := fun a b c => by
    rw [up_comm v n, up_comm v n, up_comm v n]
    exact det_add rs _ j (by omega) a b
  have h := z fun r => x r + y r
  rw [l1, det_add rs _ (j + 1) hj, det_add rs _ (j + 1) hj, z, z] at h
  omega
theorem up_id (v : Nat → Vc) (j : Nat) : up (up v j (v j)) (j + 1) (v (j + 1)) = v := by
  rw [up_self]; exact up_self v (j + 1)
theorem det_eqc (rs : List Nat) : ∀ (d i : Nat) (v : Nat → Vc), i + d + 1 < rs.length → v i = v (i + d + 1) → det rs v = 0
  | 0, i, v, h, e => det_adj rs v i h e
  | d + 1, i, v, h, e => by
    have s := det_swap rs v (i + d + 1) (by omega) (v (i + d + 1)) (v (i + d + 1 + 1))
    rw [up_id] at s
    rw [s, det_eqc rs d i _ (by omega) ?_]
    · rfl
    · rw [up_ne (by omega), up_ne (by omega), up_ne (by omega), up_same]
      exact e
theorem det_two (rs : List Nat) (v : Nat → Vc) {i j : Nat} (hi : i < rs.length) (hj : j < rs.length) (h : i ≠ j) (e : v i = v j) : det rs v = 0 := by
  rcases Nat.lt_or_gt_of_ne h with q | q
  · refine det_eqc rs (j - i - 1) i v (by omega) ?_
    rw [show i + (j - i - 1) + 1 = j by omega]; exact e
  · refine det_eqc rs (i - j - 1) j v (by omega) ?_
    rw [show j + (i - j - 1) + 1 = i by omega]; exact e.symm
/-! ### rows -/
theorem pl_sk (k l : Nat) : pl k (sk k l) = l := by
  unfold pl sk
  by_cases h : l < k
  · rw [if_pos h, if_pos h]
  · rw [if_neg h, if_neg (by omega)]; omega
theorem sk_two {k m : Nat} (h : k ≠ m) (j : Nat) : sk k (sk (pl k m) j) = sk m (sk (pl m k) j) := by
  unfold sk pl
  repeat' split
  all_goals omega
theorem sg_two {k m : Nat} (h : k ≠ m) : sg k * sg (pl k m) = - (sg m * sg (pl m k)) := by
  have key : ∀ a b : Nat, a < b → sg a * sg (pl a b) = - (sg b * sg (pl b a)) := fun a b q => by
    obtain ⟨c, rfl⟩ : ∃ c, b = c + 1 := ⟨b - 1, by omega⟩
    unfold pl
    rw [if_neg (by omega), if_pos q, sg, Nat.add_sub_cancel, Int.neg_mul, Int.neg_neg]
    exact Int.mul_comm _ _
  rcases Nat.lt_or_gt_of_ne h with q | q
  · exact key k m q
  · have := key m k q
    omega
theorem det_rows2 (r q : Nat) (rs : List Nat) (v : Nat → Vc) : det (r :: q :: rs) v = S (rs.length + 2) fun k => S (rs.length + 2) fun m => if m = k then 0 else sg k * sg (pl k m) * (v k r * v m q) * det rs (fun j => v (sk k (sk (pl k m) j))) := by
  rw [det]
  refine S_congr fun k hk => ?_
  have hk' : k < rs.length + 1 + 1 := by simpa using hk
  have e := S_skip (rs.length + 1) (fun m => sg k * sg (pl k m) * (v k r * v m q) * det rs (fun j => v (sk k (sk (pl k m) j)))) k hk'
  rw [show rs.length + 2 = rs.length + 1 + 1 from rfl, ← e, det, ← S_mul]
  refine S_congr fun l hl => ?_
  rw [pl_sk]
  show sg k * v k r * (sg l * v (sk k l) q * det rs (wo l (wo k v))) = sg k * sg l * (v k r * v (sk k l) q) * det rs (fun j => v (sk k (sk l j)))
  have e2 : (wo l (wo k v)) = fun j => v (sk k (sk l j)) := rfl
  rw [e2]
  ac_rfl
theorem det_rowswap (r q : Nat) (rs : List Nat) (v : Nat → Vc) : det (r :: q :: rs) v = - det (q :: r :: rs) v := by
  rw [det_rows2, det_rows2, S_swap, ← S_neg]
  refine S_congr fun k hk => ?_
  rw [← S_neg]
  refine S_congr fun m hm => ?_
  by_cases h : k = m
  · rw [if_pos h, if_pos h.symm]; rfl
  · rw [if_neg h, if_neg (Ne.symm h), sg_two (Ne.symm h)]
    have e : (fun j => v (sk m (sk (pl m k) j))) = fun j => v (sk k (sk (pl k m) j)) := by
      funext j; rw [sk_two h]
    rw [e, Int.neg_mul, Int.neg_mul]
    congr 1
    ac_rfl
theorem det_rowtwo (i : Nat) : ∀ (a b : List Nat) (v : Nat → Vc), det (i :: (a ++ i :: b)) v = 0 := by
  intro a
  induction a with
  | nil =>
    intro b v
    have := det_rowswap i i b v
    show det (i :: i :: b) v = 0
    omega
  | cons x a ih =>
    intro b v
    show det (i :: x :: (a ++ i :: b)) v = 0
    rw [det_rowswap, det, S_zero, Int.neg_zero]
    intro k _
    rw [ih, Int.mul_zero]
/-- a column put ahead, moved to its place -/
def ahead (v : Nat → Vc) (c : Vc) (k t : Nat) : Nat → Vc := fun j => if j < t then v j else if j = t then c else if j ≤ k then v (j - 1) else v j
theorem det_ahead (rs : List Nat) (v : Nat → Vc) (c : Vc) (k : Nat) (hk : k < rs.length) : ∀ t, t ≤ k → det rs (ahead v c k 0) = sg t * det rs (ahead v c k t)
  | 0, _ => by rw [sg]; omega
  | t + 1, h => by
    rw [det_ahead rs v c k hk t (by omega), sg]
    have e1 : ahead v c k t = up (up (ahead v c k t) t c) (t + 1) (v t) := by
      funext j
      unfold up ahead
      repeat' split
      all_goals first | rfl | (exfalso; omega) | (congr 1 <;> omega)
    have e2 : ahead v c k (t + 1) = up (up (ahead v c k t) t (v t)) (t + 1) c := by
      funext j
      unfold up ahead
      repeat' split
      all_goals first | rfl | (exfalso; omega) | (congr 1 <;> omega)
    rw [e2]
    have s := det_swap rs (ahead v c k t) t (by omega) c (v t)
    rw [← e1] at s
    rw [s, Int.mul_neg, Int.neg_mul]
theorem ahead_end (v : Nat → Vc) (c : Vc) (k : Nat) : ahead v c k k = up v k c := by
  funext j
  unfold ahead up
  repeat' split
  all_goals first | rfl | (exfalso; omega) | (congr 1 <;> omega)
/-- Cramer -/
theorem cramer {rs : List Nat} {i : Nat} (hi : i ∈ rs) (v : Nat → Vc) (c : Vc) : det rs v * c i = S rs.length fun k => det rs (up v k c) * v k i := by
  obtain ⟨a, b, e⟩ := List.append_of_mem hi
  have z : det (i :: rs) (fun j => if j = 0 then c else v (j - 1)) = 0 := by rw [e]; exact det_rowtwo i a b _
  rw [det, S_first] at z
  have t0 : wo 0 (fun j => if j = 0 then c else v (j - 1)) = v := by
    funext j
    show (if sk 0 j = 0 then c else v (sk 0 j - 1)) = v j
    unfold sk
    repeat' split
    all_goals first | rfl | (exfalso; omega) | (congr 1 <;> omega)
  rw [t0, if_pos rfl, sg] at z
  have e2 : (S rs.length fun k => sg (k + 1) * (if k + 1 = 0 then c else v (k + 1 - 1)) i * det rs (wo (k + 1) fun j => if j = 0 then c else v (j - 1))) = - S rs.length fun k => det rs (up v k c) * v k i := by
    rw [← S_neg]
    refine S_congr fun k hk => ?_
    have t1 : wo (k + 1) (fun j => if j = 0 then c else v (j - 1)) = ahead v c k 0 := by
      funext j
      show (if sk (k + 1) j = 0 then c else v (sk (k + 1) j - 1)) = ahead v c k 0 j
      unfold sk ahead
      repeat' split
      all_goals first | rfl | (exfalso; omega) | (congr 1 <;> omega)
    rw [if_neg (by omega), t1, det_ahead rs v c k hk k (Nat.le_refl _), ahead_end, sg, Nat.add_sub_cancel]
    have : - sg k * v k i * (sg k * det rs (up v k c)) = - (sg k * sg k * (det rs (up v k c) * v k i)) := by
      rw [Int.neg_mul, Int.neg_mul]
      congr 1
      ac_rfl
    rw [this, sg_sq, Int.one_mul]
  rw [e2] at z
  have : det rs v * c i = 1 * c i * det rs v := by rw [Int.one_mul, Int.mul_comm]
  omega
end
end Lp
end B
namespace B
open PySem L2
/-! M12: a tableau's numbers as determinants; what a turn makes of them -/
namespace Lp
section
theorem det_sum (rs : List Nat) (v : Nat → Vc) (i : Nat) (hi : i < rs.length) (a : Nat → Int) (x : Nat → Vc) : ∀ n, det rs (up v i fun r => S n fun k => a k * x k r) = S n fun k => a k * det rs (up v i (x k))
  | 0 => det_zero rs v i hi
  | n + 1 => by
    have e : (fun r => S (n + 1) fun k => a k * x k r) = fun r => 1 * (S n fun k => a k * x k r) + a n * x n r := by
      funext r; rw [S, Int.one_mul]
    rw [e, det_lin rs v i hi, det_sum rs v i hi a x n, S, Int.one_mul]
theorem det_mul (rs : List Nat) (v : Nat → Vc) (i : Nat) (hi : i < rs.length) (a : Int) (x : Vc) : det rs (up v i fun r => a * x r) = a * det rs (up v i x) := by
  have h := det_lin rs v i hi a 0 x x
  have e : (fun r => a * x r + 0 * x r) = fun r => a * x r := by funext r; omega
  rw [e] at h
  omega
theorem det_swap2 (rs : List Nat) (v : Nat → Vc) {i j : Nat} (hi : i < rs.length) (hj : j < rs.length) (n : i ≠ j) (x y : Vc) : det rs (up (up v i x) j y) = - det rs (up (up v i y) j x) := by
  have z : ∀ a : Vc, det rs (up (up v i a) j a) = 0 := fun a => det_two rs _ hi hj n (by rw [up_ne n, up_same, up_same])
  have l1 : ∀ a b c : Vc, det rs (up (up v i fun r => a r + b r) j c) = det rs (up (up v i a) j c) + det rs (up (up v i b) j c) := fun a b c => by
    rw [up_comm v n, up_comm v n, up_comm v n]
    exact det_add rs _ i hi a b
  have h := z fun r => x r + y r
  rw [l1, det_add rs _ j hj, det_add rs _ j hj, z, z] at h
  omega
/-- a unit vector -/
def un (i : Nat) : Vc := fun r => if r = i then 1 else 0
/-- the columns of a basis, and the worth's own -/
def bs (A : Nat → Vc) (m : Nat) (β : Nat → Nat) : Nat → Vc := fun k => if k < m then A (β k) else un m
def rw_ (m : Nat) : List Nat := List.range (m + 1)
theorem rw_len (m : Nat) : (rw_ m).length = m + 1 := by simp [rw_]
theorem rw_mem {m i : Nat} (h : i ≤ m) : i ∈ rw_ m := by simp [rw_]; omega
def dd (A : Nat → Vc) (m : Nat) (β : Nat → Nat) : Int := det (rw_ m) (bs A m β)
def tt (A : Nat → Vc) (m : Nat) (β : Nat → Nat) (i j : Nat) : Int := det (rw_ m) (up (bs A m β) i (A j))
/-- the worth's row as a linear form -/
def ll (A : Nat → Vc) (m : Nat) (β : Nat → Nat) (x : Vc) : Int := det (rw_ m) (up (bs A m β) m x)
variable {A : Nat → Vc} {m : Nat} {β : Nat → Nat}
theorem bs_lt {k : Nat} (h : k < m) : bs A m β k = A (β k) := if_pos h
theorem bs_m : bs A m β m = un m := if_neg (Nat.lt_irrefl m)
theorem tt_self {k : Nat} (h : k < m) : tt A m β k (β k) = dd A m β := by
  unfold tt dd
  rw [← bs_lt (A := A) h, up_self]
theorem tt_other {i k : Nat} (hi : i ≤ m) (h : k < m) (n : i ≠ k) : tt A m β i (β k) = 0 := by
  unfold tt
  exact det_two _ _ (i := i) (j := k) (by rw [rw_len]; omega) (by rw [rw_len]; omega) n (by rw [up_same, up_ne (Ne.symm n), bs_lt h])
theorem cram {r : Nat} (hr : r ≤ m) (j : Nat) : dd A m β * A j r = S m (fun k => tt A m β k j * A (β k) r) + tt A m β m j * un m r := by
  unfold dd
  rw [cramer (rw_mem hr) (bs A m β) (A j), rw_len, S, bs_m]
  congr 1
  exact S_congr fun k hk => by rw [bs_lt hk]; rfl
/-- one column goes, another comes -/
def re (β : Nat → Nat) (s r : Nat) : Nat → Nat := fun k => if k = s then r else β k
theorem bs_re {s r : Nat} (hs : s < m) : bs A m (re β s r) = up (bs A m β) s (A r) := by
  funext k
  unfold bs up re
  by_cases h : k = s
  · rw [if_pos (by omega), if_pos h, if_pos h]
  · rw [if_neg h, if_neg h]
theorem dd_re {s r : Nat} (hs : s < m) : dd A m (re β s r) = tt A m β s r := by
  unfold dd tt
  rw [bs_re hs]
theorem up_up (v : Nat → Vc) (i : Nat) (x y : Vc) : up (up v i x) i y = up v i y := by
  funext k
  unfold up
  split <;> rfl
theorem tt_re_self {s r : Nat} (hs : s < m) (j : Nat) : tt A m (re β s r) s j = tt A m β s j := by
  unfold tt
  rw [bs_re hs, up_up]
/-- x as what the basis makes of it -/
theorem det_basis {i : Nat} (hi : i ≤ m) (v : Nat → Vc) (j : Nat) : dd A m β * det (rw_ m) (up v i (A j)) = S (m + 1) fun k => tt A m β k j * det (rw_ m) (up v i (bs A m β k)) := by
  have hi' : i < (rw_ m).length := by rw [rw_len]; omega
  rw [← det_sum _ _ _ hi', ← det_mul _ _ _ hi']
  refine det_congr _ fun k hk r hr => ?_
  by_cases e : k = i
  · subst e
    rw [up_same, up_same]
    have hr' : r ∈ rw_ m := hr
    unfold dd
    rw [cramer hr' (bs A m β) (A j), rw_len]
    rfl
  · rw [up_ne e, up_ne e]
theorem tt_re {s r i : Nat} (hs : s < m) (hi : i ≤ m) (n : i ≠ s) (j : Nat) : dd A m β * tt A m (re β s r) i j = tt A m β i j * tt A m β s r - tt A m β i r * tt A m β s j := by
  have hi' : i < (rw_ m).length := by rw [rw_len]; omega
  have hs' : s < (rw_ m).length := by rw [rw_len]; omega
  have e := det_basis (A := A) (β := β) hi (bs A m (re β s r)) j
  unfold tt at e ⊢
  rw [e, S_two i s (by omega) (by omega) n (fun k hk n1 n2 => ?_)]
  · have e1 : det (rw_ m) (up (bs A m (re β s r)) i (bs A m β i)) = det (rw_ m) (up (bs A m β) s (A r)) := by
      rw [bs_re hs]
      have : bs A m β i = up (bs A m β) s (A r) i := (up_ne n).symm
      rw [this, up_self]
    have e2 : det (rw_ m) (up (bs A m (re β s r)) i (bs A m β s)) = - det (rw_ m) (up (bs A m β) i (A r)) := by
      rw [bs_re hs, det_swap2 _ _ hs' hi' (Ne.symm n), up_self]
    rw [e1, e2, Int.mul_neg, Int.sub_eq_add_neg]
    congr 2
    exact Int.mul_comm _ _
  · have z : det (rw_ m) (up (bs A m (re β s r)) i (bs A m β k)) = 0 := by
      refine det_two _ _ hi' (j := k) (by rw [rw_len]; omega) (Ne.symm n1) ?_
      rw [up_same, up_ne n1, bs_re hs, up_ne n2]
    rw [z, Int.mul_zero]
/-! ### the first basis -/
theorem det_units : ∀ (rs : List Nat) (v : Nat → Vc), rs.Nodup → (∀ k, (h : k < rs.length) → v k = un rs[k]) → det rs v = 1 := by
  intro rs
  induction rs with
  | nil => intro _ _ _; rfl
  | cons r rs ih =>
    intro v nd h
    rw [det, S_first, S_zero, h 0 (by simp)]
    · have e : det rs (wo 0 v) = 1 := by
        refine ih _ (List.nodup_cons.mp nd).2 fun k hk => ?_
        show v (sk 0 k) = _
        unfold sk
        rw [if_neg (Nat.not_lt_zero k), h (k + 1) (by simpa using hk)]
        rfl
      rw [e]
      show sg 0 * un r r * 1 + 0 = 1
      unfold un
      rw [if_pos rfl]; rfl
    · intro k hk
      rw [h (k + 1) (by simpa using hk)]
      have n : r ≠ rs[k] := fun z => (List.nodup_cons.mp nd).1 (by rw [z]; exact List.getElem_mem hk)
      show sg (k + 1) * un rs[k] r * _ = 0
      unfold un
      rw [if_neg n, Int.mul_zero, Int.zero_mul]
theorem bs_first {w : Nat} (hA : ∀ k, k < m → A (w + k) = un k) : ∀ k, k ≤ m → bs A m (fun k => w + k) k = un k := fun k hk => by
  unfold bs
  by_cases h : k < m
  · rw [if_pos h, hA k h]
  · rw [if_neg h]; congr 1; omega
theorem dd_first {w : Nat} (hA : ∀ k, k < m → A (w + k) = un k) : dd A m (fun k => w + k) = 1 := by
  refine det_units _ _ List.nodup_range fun k hk => ?_
  rw [rw_len] at hk
  rw [bs_first hA k (by omega)]
  congr 1
  simp [rw_]
theorem tt_first {w : Nat} (hA : ∀ k, k < m → A (w + k) = un k) {i : Nat} (hi : i ≤ m) (j : Nat) : tt A m (fun k => w + k) i j = A j i := by
  have h := cramer (rw_mem hi) (bs A m fun k => w + k) (A j)
  have e := dd_first hA
  unfold dd at e
  rw [e, Int.one_mul, rw_len, S_one i (by omega) (fun k hk n => ?_), bs_first hA i hi] at h
  · unfold un at h
    rw [if_pos rfl, Int.mul_one] at h
    exact h.symm
  · rw [bs_first hA k (by omega)]
    unfold un
    rw [if_neg (Ne.symm n), Int.mul_zero]
/-! ### the worth's row -/
theorem ll_tt (j : Nat) : ll A m β (A j) = tt A m β m j := rfl
theorem ll_un : ll A m β (un m) = dd A m β := by
  unfold ll dd
  rw [← bs_m (A := A) (β := β), up_self]
theorem ll_sum (a : Nat → Int) (x : Nat → Vc) (n : Nat) : ll A m β (fun r => S n fun k => a k * x k r) = S n fun k => a k * ll A m β (x k) := det_sum _ _ _ (by rw [rw_len]; omega) a x n
theorem ll_congr {x y : Vc} (h : ∀ r, r ≤ m → x r = y r) : ll A m β x = ll A m β y := det_congr _ fun k _ r hr => by
  by_cases e : k = m
  · subst e
    rw [up_same, up_same]
    exact h r (by simp [rw_] at hr; omega)
  · rw [up_ne e, up_ne e]
/-- by unit vectors -/
theorem ll_units (x : Vc) : ll A m β x = S (m + 1) fun i => x i * ll A m β (un i) := by
  rw [← ll_sum]
  refine ll_congr fun r hr => ?_
  rw [S_one r (by omega) (fun k _ n => ?_)]
  · unfold un; rw [if_pos rfl, Int.mul_one]
  · unfold un; rw [if_neg (Ne.symm n), Int.mul_zero]
end
end Lp
end B
namespace B
open PySem L2
/-! M13: what a tableau's last state tells: the best mix, or a way without end -/
namespace Lp
section
theorem S_mono {n : Nat} {f g : Nat → Int} (h : ∀ k, k < n → f k ≤ g k) : S n f ≤ S n g := by
  induction n with
  | zero => exact Int.le_refl _
  | succ n ih =>
    have := ih fun k hk => h k (by omega)
    have := h n (by omega)
    rw [S, S]; omega
theorem S_nonneg {n : Nat} {f : Nat → Int} (h : ∀ k, k < n → 0 ≤ f k) : 0 ≤ S n f := by
  have := S_mono (f := fun _ => 0) h
  rw [S_zero fun _ _ => rfl] at this
  exact this
theorem S_split (n m : Nat) (f : Nat → Int) : S (n + m) f = S n f + S m fun k => f (n + k) := by
  induction m with
  | zero => simp [S]
  | succ m ih => rw [← Nat.add_assoc, S, S, ih]; omega
theorem S_mul_r (n : Nat) (f : Nat → Int) (a : Int) : S n (fun k => f k * a) = S n f * a := by
  rw [Int.mul_comm, ← S_mul]
  exact S_congr fun k _ => Int.mul_comm _ _
/-- the weight of column j -/
def wt (m : Nat) (β : Nat → Nat) (a : Nat → Int) (j : Nat) : Int := S m fun k => if β k = j then a k else 0
theorem wt_comb {m N : Nat} {β : Nat → Nat} (hβ : ∀ k, k < m → β k < N) (a : Nat → Int) (f : Nat → Int) : S m (fun k => a k * f (β k)) = S N fun j => wt m β a j * f j := by
  have e : (fun j => wt m β a j * f j) = fun j => S m fun k => if β k = j then a k * f j else 0 := by
    funext j
    unfold wt
    rw [← S_mul_r]
    refine S_congr fun k _ => ?_
    by_cases h : β k = j
    · rw [if_pos h, if_pos h]
    · rw [if_neg h, if_neg h, Int.zero_mul]
  rw [e, S_swap]
  refine S_congr fun k hk => ?_
  rw [S_one (β k) (hβ k hk) (fun j _ n => if_neg (Ne.symm n)), if_pos rfl]
theorem wt_nonneg {m : Nat} {β : Nat → Nat} {a : Nat → Int} (h : ∀ k, k < m → 0 ≤ a k) (j : Nat) : 0 ≤ wt m β a j := S_nonneg fun k hk => by
  by_cases e : β k = j
  · rw [if_pos e]; exact h k hk
  · rw [if_neg e]; exact Int.le_refl _
/-- the program: w columns of its own, m slack columns, the bounds in column w + m; the worths (negated) in row m -/
structure Prg (A : Nat → Vc) (w m : Nat) : Prop where
  sl : ∀ k, k < m → A (w + k) = un k
  b0 : A (w + m) m = 0
variable {A : Nat → Vc} {w m : Nat} {β : Nat → Nat}
theorem un_m {i : Nat} (h : i < m) : un m i = 0 := if_neg (by omega)
/-- the slack columns at row i -/
theorem Prg.slack (P : Prg A w m) {i : Nat} (hi : i < m) (z : Nat → Int) : S m (fun k => z (w + k) * A (w + k) i) = z (w + i) := by
  rw [S_one i hi (fun k hk n => ?_), P.sl i hi]
  · unfold un; rw [if_pos rfl, Int.mul_one]
  · rw [P.sl k hk]; unfold un; rw [if_neg (Ne.symm n), Int.mul_zero]
theorem Prg.slack_m (P : Prg A w m) (z : Nat → Int) : S m (fun k => z (w + k) * A (w + k) m) = 0 := S_zero fun k hk => by
  rw [P.sl k hk]; unfold un; rw [if_neg (by omega), Int.mul_zero]
structure Best (A : Nat → Vc) (w m : Nat) (D : Int) (x y : Nat → Int) : Prop where
  d : 0 < D
  x0 : ∀ j, j < w → 0 ≤ x j
  y0 : ∀ i, i < m → 0 ≤ y i
  row : ∀ i, i < m → S w (fun j => A j i * x j) ≤ A (w + m) i * D
  col : ∀ j, j < w → - A j m * D ≤ S m fun i => A j i * y i
  val : S m (fun i => A (w + m) i * y i) = S w fun j => - A j m * x j
theorem best_of (P : Prg A w m) (hβ : ∀ k, k < m → β k < w + m) (hd : 0 < dd A m β) (hb : ∀ k, k < m → 0 ≤ tt A m β k (w + m)) (hc : ∀ j, j < w + m → 0 ≤ tt A m β m j) :
    Best A w m (dd A m β) (wt m β fun k => tt A m β k (w + m)) (fun i => tt A m β m (w + i)) := by
  have lin : ∀ j, tt A m β m j = S m (fun i => A j i * tt A m β m (w + i)) + A j m * dd A m β := fun j => by
    rw [← ll_tt, ll_units, S, ll_un]
    congr 1
    exact S_congr fun i hi => by rw [← ll_tt, P.sl i hi]
  have row : ∀ r, r ≤ m → dd A m β * A (w + m) r = S w (fun j => wt m β (fun k => tt A m β k (w + m)) j * A j r) + S m (fun k => wt m β (fun k => tt A m β k (w + m)) (w + k) * A (w + k) r) + tt A m β m (w + m) * un m r := fun r hr => by
    rw [cram hr, wt_comb hβ _ fun j => A j r, S_split]
  have x0 := wt_nonneg (β := β) hb
  refine ⟨hd, fun j _ => x0 j, fun i hi => hc _ (by omega), fun i hi => ?_, fun j hj => ?_, ?_⟩
  · have h := row i (by omega)
    rw [P.slack hi (wt m β fun k => tt A m β k (w + m)), un_m hi, Int.mul_zero] at h
    have := x0 (w + i)
    rw [S_congr (g := fun j => wt m β (fun k => tt A m β k (w + m)) j * A j i) fun j _ => Int.mul_comm _ _, Int.mul_comm]
    omega
  · have h := lin j
    have := hc j (by omega)
    rw [Int.neg_mul]
    omega
  · have h := row m (Nat.le_refl m)
    rw [P.slack_m, P.b0] at h
    have l := lin (w + m)
    rw [P.b0] at l
    unfold un at h
    rw [if_pos rfl] at h
    have e : S w (fun j => - A j m * wt m β (fun k => tt A m β k (w + m)) j) = - S w fun j => wt m β (fun k => tt A m β k (w + m)) j * A j m := by
      rw [← S_neg]
      exact S_congr fun j _ => by rw [Int.neg_mul, Int.mul_comm]
    rw [e]
    omega
structure Endless (A : Nat → Vc) (w m : Nat) (z : Nat → Int) : Prop where
  z0 : ∀ j, j < w → 0 ≤ z j
  row : ∀ i, i < m → S w (fun j => A j i * z j) ≤ 0
  val : 0 < S w fun j => - A j m * z j
theorem endless_of (P : Prg A w m) (hβ : ∀ k, k < m → β k < w + m) (hd : 0 < dd A m β) {r : Nat} (hr : r < w + m) (hc : tt A m β m r < 0) (hn : ∀ k, k < m → tt A m β k r ≤ 0) :
    Endless A w m fun j => (if j = r then dd A m β else 0) + wt m β (fun k => - tt A m β k r) j := by
  have z0 : ∀ j, 0 ≤ (if j = r then dd A m β else 0) + wt m β (fun k => - tt A m β k r) j := fun j => by
    have := wt_nonneg (β := β) (a := fun k => - tt A m β k r) (m := m) (fun k hk => by have := hn k hk; omega) j
    split <;> omega
  have row : ∀ i, i ≤ m → S w (fun j => ((if j = r then dd A m β else 0) + wt m β (fun k => - tt A m β k r) j) * A j i) + S m (fun k => ((if w + k = r then dd A m β else 0) + wt m β (fun k => - tt A m β k r) (w + k)) * A (w + k) i) = tt A m β m r * un m i := fun i hi => by
    rw [← S_split w m fun j => ((if j = r then dd A m β else 0) + wt m β (fun k => - tt A m β k r) j) * A j i]
    have e : (fun j => ((if j = r then dd A m β else 0) + wt m β (fun k => - tt A m β k r) j) * A j i) = fun j => (if j = r then dd A m β * A j i else 0) + wt m β (fun k => - tt A m β k r) j * A j i := by
      funext j
      rw [Int.add_mul]
      congr 1
      split
      · rfl
      · rw [Int.zero_mul]
    rw [e, S_add, S_one r hr (fun j _ n => if_neg n), if_pos rfl, ← wt_comb hβ _ fun j => A j i, cram hi]
    have : (fun k => - tt A m β k r * A (β k) i) = fun k => - (tt A m β k r * A (β k) i) := by funext k; rw [Int.neg_mul]
    rw [this, S_neg]
    omega
  refine ⟨fun j _ => z0 j, fun i hi => ?_, ?_⟩
  · have h := row i (by omega)
    rw [P.slack hi fun j => (if j = r then dd A m β else 0) + wt m β (fun k => - tt A m β k r) j, un_m hi, Int.mul_zero] at h
    have := z0 (w + i)
    rw [S_congr (g := fun j => ((if j = r then dd A m β else 0) + wt m β (fun k => - tt A m β k r) j) * A j i) fun j _ => Int.mul_comm _ _]
    omega
  · have h := row m (Nat.le_refl m)
    rw [P.slack_m fun j => (if j = r then dd A m β else 0) + wt m β (fun k => - tt A m β k r) j] at h
    unfold un at h
    rw [if_pos rfl] at h
    rw [S_congr (g := fun j => - (((if j = r then dd A m β else 0) + wt m β (fun k => - tt A m β k r) j) * A j m)) fun j _ => by rw [Int.neg_mul, Int.mul_comm], S_neg]
    omega
end
end Lp
end B
namespace B
open PySem L2
/-! M14: Bland's rule makes no circles, so the turns end -/
namespace Lp
section
/-- what a turn is: the first column that pays, the nearest row (of those, the one with the least column) -/
structure Turn (A : Nat → Vc) (w m : Nat) (β : Nat → Nat) (r s : Nat) : Prop where
  r0 : r < w + m
  neg : tt A m β m r < 0
  first : ∀ j, j < r → 0 ≤ tt A m β m j
  s0 : s < m
  pos : 0 < tt A m β s r
  near : ∀ i, i < m → 0 < tt A m β i r → tt A m β s (w + m) * tt A m β i r ≤ tt A m β i (w + m) * tt A m β s r
  least : ∀ i, i < m → 0 < tt A m β i r → tt A m β s (w + m) * tt A m β i r = tt A m β i (w + m) * tt A m β s r → β s ≤ β i
structure Good (A : Nat → Vc) (w m : Nat) (β : Nat → Nat) : Prop where
  lt : ∀ k, k < m → β k < w + m
  d : 0 < dd A m β
  b : ∀ k, k < m → 0 ≤ tt A m β k (w + m)
variable {A : Nat → Vc} {w m : Nat} {β : Nat → Nat} {r s : Nat}
theorem lge (a b : Int) : a < b ∨ b ≤ a := by omega
theorem pos_of_mul {a b : Int} (ha : 0 < a) (h : 0 ≤ a * b) : 0 ≤ b := by
  rcases lge b 0 with c | c
  · have := Int.mul_neg_of_pos_of_neg ha c; omega
  · exact c
theorem Good.inj (G : Good A w m β) {i k : Nat} (hi : i < m) (hk : k < m) (e : β i = β k) : i = k := by
  rcases Nat.decEq i k with n | n
  · have h1 := tt_other (A := A) (β := β) (i := i) (by omega) hk n
    rw [← e, tt_self hi] at h1
    have := G.d; omega
  · exact n
theorem Good.turn (G : Good A w m β) (T : Turn A w m β r s) : Good A w m (re β s r) := by
  refine ⟨fun k hk => ?_, by rw [dd_re T.s0]; exact T.pos, fun k hk => ?_⟩
  · unfold re
    split
    · exact T.r0
    · exact G.lt k hk
  · by_cases e : k = s
    · subst e
      rw [tt_re_self T.s0]; exact G.b k hk
    · have h := tt_re (A := A) (β := β) (r := r) T.s0 (Nat.le_of_lt hk) e (w + m)
      refine pos_of_mul G.d ?_
      rw [h]
      rcases lge 0 (tt A m β k r) with c | c
      · have := T.near k hk c
        rw [Int.mul_comm (tt A m β k r)]
        omega
      · have h1 := Int.mul_nonneg (G.b k hk) (Int.le_of_lt T.pos)
        have h2 : tt A m β k r * tt A m β s (w + m) ≤ 0 := Int.mul_nonpos_of_nonpos_of_nonneg c (G.b s T.s0)
        omega
/-- the worth told never falls -/
theorem turn_val (T : Turn A w m β r s) : dd A m β * tt A m (re β s r) m (w + m) = tt A m β m (w + m) * dd A m (re β s r) + (- tt A m β m r) * tt A m β s (w + m) := by
  rw [tt_re T.s0 (Nat.le_refl m) (by have := T.s0; omega), dd_re T.s0, Int.neg_mul]
  omega
/-! ### a circle -/
structure Circ (A : Nat → Vc) (w m : Nat) (β : Nat → Nat → Nat) (r s : Nat → Nat) (L : Nat) : Prop where
  pos : 0 < L
  good : ∀ t, t ≤ L → Good A w m (β t)
  turn : ∀ t, t < L → Turn A w m (β t) (r t) (s t)
  next : ∀ t, t < L → β (t + 1) = re (β t) (s t) (r t)
  back : ∀ k, k < m → β L k = β 0 k
theorem bs_same {β β' : Nat → Nat} (h : ∀ k, k < m → β k = β' k) : bs A m β = bs A m β' := by
  funext k
  unfold bs
  by_cases e : k < m
  · rw [if_pos e, if_pos e, h k e]
  · rw [if_neg e, if_neg e]
theorem tt_same {β β' : Nat → Nat} (h : ∀ k, k < m → β k = β' k) (i j : Nat) : tt A m β i j = tt A m β' i j := by
  unfold tt; rw [bs_same h]
theorem dd_same {β β' : Nat → Nat} (h : ∀ k, k < m → β k = β' k) : dd A m β = dd A m β' := by
  unfold dd; rw [bs_same h]
def bas (m : Nat) (β : Nat → Nat) (j : Nat) : Prop := ∃ k, k < m ∧ β k = j
theorem ratio_trans {a b c p q u : Int} (hq : 0 < q) (hp : 0 < p) (hu : 0 < u) (h1 : a * q ≤ b * p) (h2 : b * u ≤ c * q) : a * u ≤ c * p := by
  have e1 := Int.mul_le_mul_of_nonneg_right h1 (Int.le_of_lt hu)
  have e2 := Int.mul_le_mul_of_nonneg_right h2 (Int.le_of_lt hp)
  have e3 : q * (a * u) ≤ q * (c * p) := by
    have x1 : a * q * u = q * (a * u) := by ac_rfl
    have x2 : b * p * u = b * u * p := by ac_rfl
    have x3 : c * q * p = q * (c * p) := by ac_rfl
    omega
  exact Int.le_of_mul_le_mul_left e3 hq
variable {β : Nat → Nat → Nat} {r s : Nat → Nat} {L : Nat}
theorem Circ.mono (C : Circ A w m β r s L) : ∀ (d t : Nat), t + d ≤ L → tt A m (β t) m (w + m) * dd A m (β (t + d)) ≤ tt A m (β (t + d)) m (w + m) * dd A m (β t)
  | 0, t, _ => Int.le_refl _
  | d + 1, t, h => by
    have ih := C.mono d t (by omega)
    have v := turn_val (C.turn (t + d) (by omega))
    rw [← C.next (t + d) (by omega)] at v
    have g1 := (C.good t (by omega)).d
    have g2 := (C.good (t + d) (by omega)).d
    have g3 := (C.good (t + d + 1) (by omega)).d
    have n1 : 0 ≤ - tt A m (β (t + d)) m (r (t + d)) * tt A m (β (t + d)) (s (t + d)) (w + m) := Int.mul_nonneg (by have := (C.turn (t + d) (by omega)).neg; omega) ((C.good (t + d) (by omega)).b _ (C.turn (t + d) (by omega)).s0)
    refine ratio_trans g2 g1 g3 ih ?_
    show tt A m (β (t + d)) m (w + m) * dd A m (β (t + d + 1)) ≤ tt A m (β (t + d + 1)) m (w + m) * dd A m (β (t + d))
    rw [Int.mul_comm (tt A m (β (t + d + 1)) m (w + m))]
    omega
/-- every turn of a circle moves nothing -/
theorem Circ.still (C : Circ A w m β r s L) {t : Nat} (ht : t < L) : tt A m (β t) (s t) (w + m) = 0 := by
  have T := C.turn t ht
  have v := turn_val T
  rw [← C.next t ht] at v
  have g0 := (C.good 0 (by omega)).d
  have g1 := (C.good t (by omega)).d
  have g2 := (C.good (t + 1) (by omega)).d
  have m1 := C.mono (L - (t + 1)) (t + 1) (by omega)
  rw [show t + 1 + (L - (t + 1)) = L by omega, tt_same C.back, dd_same (A := A) C.back] at m1
  have m2 := C.mono t 0 (by omega)
  rw [Nat.zero_add] at m2
  have m3 := ratio_trans g0 g2 g1 m1 m2
  have b0 := (C.good t (by omega)).b (s t) T.s0
  have n1 := T.neg
  have e : (- tt A m (β t) m (r t)) * tt A m (β t) (s t) (w + m) ≤ 0 := by
    rw [Int.mul_comm (tt A m (β (t + 1)) m (w + m))] at m3
    omega
  rcases lge 0 (tt A m (β t) (s t) (w + m)) with c | c
  · have := Int.mul_pos (show 0 < - tt A m (β t) m (r t) by omega) c
    omega
  · omega
/-- what is out of the basis once has no weight in all the circle -/
theorem Circ.zero (C : Circ A w m β r s L) {p t0 : Nat} (h0 : t0 ≤ L) (hp : ¬ bas m (β t0) p) {t : Nat} (ht : t ≤ L) {k : Nat} (hk : k < m) (e : β t k = p) : tt A m (β t) k (w + m) = 0 := by
  have step : ∀ t, t < L → (∀ k, k < m → β t k = p → tt A m (β t) k (w + m) = 0) → ∀ k, k < m → β (t + 1) k = p → tt A m (β (t + 1)) k (w + m) = 0 := fun t ht Z k hk e => by
    have T := C.turn t ht
    rw [C.next t ht] at e ⊢
    by_cases q : k = s t
    · subst q
      rw [tt_re_self T.s0]; exact C.still ht
    · have h := tt_re (A := A) (β := β t) (r := r t) T.s0 (Nat.le_of_lt hk) q (w + m)
      unfold re at e
      rw [if_neg q] at e
      rw [Z k hk e, C.still ht, Int.zero_mul, Int.mul_zero] at h
      have g := (C.good t (by omega)).d
      rcases Int.mul_eq_zero.mp (show dd A m (β t) * tt A m (re (β t) (s t) (r t)) k (w + m) = 0 by omega) with z | z
      · omega
      · exact z
  have go : ∀ d t, t + d ≤ L → (∀ k, k < m → β t k = p → tt A m (β t) k (w + m) = 0) → ∀ k, k < m → β (t + d) k = p → tt A m (β (t + d)) k (w + m) = 0 := fun d => by
    induction d with
    | zero => intro t _ Z; exact Z
    | succ d ih => intro t h Z; exact step (t + d) (by omega) (ih t (by omega) Z)
  have z0 : ∀ k, k < m → β t0 k = p → tt A m (β t0) k (w + m) = 0 := fun k hk e => absurd ⟨k, hk, e⟩ hp
  have zL := go (L - t0) t0 (by omega) z0
  rw [show t0 + (L - t0) = L by omega] at zL
  have zO : ∀ k, k < m → β 0 k = p → tt A m (β 0) k (w + m) = 0 := fun k hk e => by
    have := zL k hk (by rw [C.back k hk]; exact e)
    rw [tt_same C.back] at this
    exact this
  have := go t 0 (by omega) zO k hk
  rw [Nat.zero_add] at this
  exact this e
theorem switch {P : Nat → Prop} : ∀ (d a : Nat), P a → ¬ P (a + d) → ∃ t, a ≤ t ∧ t < a + d ∧ P t ∧ ¬ P (t + 1)
  | 0, a, h, n => absurd h n
  | d + 1, a, h, n => by
    by_cases q : P (a + d)
    · exact ⟨a + d, by omega, by omega, q, n⟩
    · obtain ⟨t, h1, h2, h3⟩ := switch d a h q
      exact ⟨t, h1, by omega, h3⟩
theorem switch2 {P : Nat → Prop} {a b : Nat} (h : a ≤ b) (ha : P a) (hb : ¬ P b) : ∃ t, t < b ∧ P t ∧ ¬ P (t + 1) := by
  have := switch (P := P) (b - a) a ha (by rw [show a + (b - a) = b by omega]; exact hb)
  obtain ⟨t, h1, h2, h3⟩ := this
  exact ⟨t, by omega, h3⟩
theorem Circ.bas_back (C : Circ A w m β r s L) (j : Nat) : bas m (β L) j ↔ bas m (β 0) j := by
  constructor
  · rintro ⟨k, hk, e⟩
    exact ⟨k, hk, by rw [← C.back k hk]; exact e⟩
  · rintro ⟨k, hk, e⟩
    exact ⟨k, hk, by rw [C.back k hk]; exact e⟩
/-- what is true at times and false at times, in a circle -/
theorem around {P : Nat → Prop} {L a b : Nat} (hb : P L ↔ P 0) (ha : a ≤ L) (hl : b ≤ L) (pa : P a) (pb : ¬ P b) : ∃ t, t < L ∧ P t ∧ ¬ P (t + 1) := by
  rcases Nat.lt_or_ge a b with q | q
  · obtain ⟨t, h1, h2⟩ := switch2 (Nat.le_of_lt q) pa pb
    exact ⟨t, by omega, h2⟩
  · by_cases z : P L
    · obtain ⟨t, h1, h2⟩ := switch2 (P := P) (Nat.zero_le b) (hb.mp z) pb
      exact ⟨t, by omega, h2⟩
    · obtain ⟨t, h1, h2⟩ := switch2 ha pa z
      exact ⟨t, h1, h2⟩
theorem maxOf {F : Nat → Prop} : ∀ n, (∃ j, j < n ∧ F j) → ∃ q, F q ∧ q < n ∧ ∀ j, j < n → F j → j ≤ q
  | 0, ⟨j, h, _⟩ => absurd h (Nat.not_lt_zero j)
  | n + 1, h => by
    by_cases c : F n
    · exact ⟨n, c, by omega, fun j hj _ => by omega⟩
    · obtain ⟨j, hj, fj⟩ := h
      have hj' : j < n := by
        rcases Nat.lt_or_ge j n with q | q
        · exact q
        · have : j = n := by omega
          rw [this] at fj; exact absurd fj c
      obtain ⟨q, h1, h2, h3⟩ := maxOf n ⟨j, hj', fj⟩
      refine ⟨q, h1, by omega, fun i hi fi => ?_⟩
      rcases Nat.lt_or_ge i n with z | z
      · exact h3 i z fi
      · have : i = n := by omega
        rw [this] at fi; exact absurd fi c
theorem Circ.out (C : Circ A w m β r s L) {t k : Nat} (ht : t < L) (hk : k < m) : β t k ≠ r t := fun e => by
  have := tt_other (A := A) (β := β t) (Nat.le_refl m) hk (by omega)
  rw [e] at this
  have := (C.turn t ht).neg
  omega
theorem Circ.no (C : Circ A w m β r s L) : False := by
  have T0 := C.turn 0 C.pos
  let F : Nat → Prop := fun j => (∃ t, t ≤ L ∧ bas m (β t) j) ∧ ∃ t, t ≤ L ∧ ¬ bas m (β t) j
  have hF0 : F (r 0) := by
    refine ⟨⟨1, C.pos, s 0, T0.s0, ?_⟩, 0, by omega, fun ⟨k, hk, e⟩ => C.out C.pos hk e⟩
    rw [C.next 0 C.pos]
    unfold re
    rw [if_pos rfl]
  obtain ⟨q, Fq, hqN, hmax⟩ := maxOf (F := F) (w + m) ⟨r 0, T0.r0, hF0⟩
  obtain ⟨⟨a, ha, pa⟩, b, hb, pb⟩ := Fq
  obtain ⟨t1, h1, n1, i1⟩ : ∃ t, t < L ∧ ¬ bas m (β t) q ∧ bas m (β (t + 1)) q := by
    obtain ⟨t, x1, x2, x3⟩ := around (P := fun t => ¬ bas m (β t) q) (L := L) (by rw [C.bas_back]) hb ha pb (fun z => z pa)
    exact ⟨t, x1, x2, by exact Classical.byContradiction x3⟩
  have e1 : r t1 = q := by
    obtain ⟨k, hk, e⟩ := i1
    rw [C.next t1 h1] at e
    unfold re at e
    by_cases z : k = s t1
    · rw [if_pos z] at e; exact e
    · rw [if_neg z] at e; exact absurd ⟨k, hk, e⟩ n1
  obtain ⟨t2, h2, i2, n2⟩ : ∃ t, t < L ∧ bas m (β t) q ∧ ¬ bas m (β (t + 1)) q := around (P := fun t => bas m (β t) q) (C.bas_back q) ha hb pa pb
  have T1 := C.turn t1 h1
  have T2 := C.turn t2 h2
  have G1 := C.good t1 (by omega)
  have G2 := C.good t2 (by omega)
  have e2 : β t2 (s t2) = q := by
    obtain ⟨k, hk, e⟩ := i2
    by_cases z : k = s t2
    · rw [← z]; exact e
    · refine absurd ⟨k, hk, ?_⟩ n2
      rw [C.next t2 h2]
      unfold re
      rw [if_neg z]; exact e
  rw [e1] at T1
  have Fr : F (r t2) := by
    refine ⟨⟨t2 + 1, by omega, s t2, T2.s0, ?_⟩, t2, by omega, fun ⟨k, hk, e⟩ => C.out h2 hk e⟩
    rw [C.next t2 h2]
    unfold re
    rw [if_pos rfl]
  have hr : r t2 < q := by
    have h := hmax _ T2.r0 Fr
    have n : r t2 ≠ q := fun z => C.out h2 T2.s0 (by rw [e2, z])
    omega
  have p1 := T1.first _ hr
  have id : dd A m (β t2) * tt A m (β t1) m (r t2) = S m (fun k => tt A m (β t2) k (r t2) * tt A m (β t1) m (β t2 k)) + tt A m (β t2) m (r t2) * dd A m (β t1) := by
    have x := ll_congr (A := A) (m := m) (β := β t1) (x := fun i => dd A m (β t2) * A (r t2) i) (y := fun i => S (m + 1) fun k => tt A m (β t2) k (r t2) * bs A m (β t2) k i) fun i hi => by
      rw [cram hi, S, bs_m]
      congr 1
      exact S_congr fun k hk => by rw [bs_lt hk]
    rw [ll_sum, S, bs_m, ll_un] at x
    have y : ll A m (β t1) (fun i => dd A m (β t2) * A (r t2) i) = dd A m (β t2) * tt A m (β t1) m (r t2) := det_mul _ _ _ (by rw [rw_len]; omega) _ _
    rw [y] at x
    rw [x]
    congr 1
    exact S_congr fun k hk => by rw [bs_lt hk]; rfl
  obtain ⟨k, hk, hp⟩ : ∃ k, k < m ∧ 0 < tt A m (β t2) k (r t2) * tt A m (β t1) m (β t2 k) := by
    refine Classical.byContradiction fun z => ?_
    have : S m (fun k => tt A m (β t2) k (r t2) * tt A m (β t1) m (β t2 k)) ≤ 0 := by
      have := S_mono (n := m) (f := fun k => tt A m (β t2) k (r t2) * tt A m (β t1) m (β t2 k)) (g := fun _ => 0) fun k hk => by
        rcases lge 0 (tt A m (β t2) k (r t2) * tt A m (β t1) m (β t2 k)) with c | c
        · exact absurd ⟨k, hk, c⟩ z
        · exact c
      rw [S_zero (f := fun _ => 0) fun _ _ => rfl] at this
      exact this
    have y1 := Int.mul_nonneg (Int.le_of_lt G2.d) p1
    have y2 := Int.mul_neg_of_neg_of_pos T2.neg G1.d
    omega
  have nz : tt A m (β t1) m (β t2 k) ≠ 0 := fun z => by rw [z, Int.mul_zero] at hp; omega
  have nb : ¬ bas m (β t1) (β t2 k) := fun ⟨j, hj, e⟩ => nz (by rw [← e]; exact tt_other (Nat.le_refl m) hj (by omega))
  have le := hmax _ (G2.lt k hk) ⟨⟨t2, by omega, k, hk, rfl⟩, t1, by omega, nb⟩
  have np : β t2 k ≠ q := fun z => by
    have ks : k = s t2 := G2.inj hk T2.s0 (by rw [z, e2])
    rw [ks, e2] at hp
    have := Int.mul_neg_of_pos_of_neg T2.pos T1.neg
    omega
  have p2 := T1.first (β t2 k) (by omega)
  have p3 : 0 < tt A m (β t2) k (r t2) := by
    rcases lge 0 (tt A m (β t2) k (r t2)) with c | c
    · exact c
    · have := Int.mul_nonpos_of_nonpos_of_nonneg c p2
      omega
  have z1 := C.zero (t0 := t1) (by omega) nb (t := t2) (by omega) hk rfl
  have z2 := C.still h2
  have := T2.least k hk p3 (by rw [z1, z2, Int.zero_mul, Int.zero_mul])
  rw [e2] at this
  omega
/-! ### so the turns end -/
theorem pigeon : ∀ (F : Nat) (c : Nat → Nat), (∀ t, t ≤ F → c t < F) → ∃ a b, a < b ∧ b ≤ F ∧ c a = c b
  | 0, c, h => absurd (h 0 (Nat.le_refl 0)) (Nat.not_lt_zero _)
  | F + 1, c, h => by
    by_cases q : ∃ a, a ≤ F ∧ c a = c (F + 1)
    · obtain ⟨a, h1, h2⟩ := q
      exact ⟨a, F + 1, by omega, by omega, h2⟩
    · have hv := h (F + 1) (by omega)
      obtain ⟨a, b, h1, h2, h3⟩ := pigeon F (fun t => if c t < c (F + 1) then c t else c t - 1) fun t ht => by
        have n : c t ≠ c (F + 1) := fun e => q ⟨t, ht, e⟩
        have h5 := h t (by omega)
        show (if c t < c (F + 1) then c t else c t - 1) < F
        by_cases z : c t < c (F + 1)
        · rw [if_pos z]; omega
        · rw [if_neg z]; omega
      refine ⟨a, b, h1, by omega, ?_⟩
      have na : c a ≠ c (F + 1) := fun e => q ⟨a, by omega, e⟩
      have nb : c b ≠ c (F + 1) := fun e => q ⟨b, by omega, e⟩
      have h3 : (if c a < c (F + 1) then c a else c a - 1) = (if c b < c (F + 1) then c b else c b - 1) := h3
      split at h3 <;> split at h3 <;> omega
def code (N : Nat) (β : Nat → Nat) : Nat → Nat
  | 0 => 0
  | m + 1 => code N β m * N + β m
theorem code_lt {N : Nat} {β : Nat → Nat} : ∀ {m : Nat}, (∀ k, k < m → β k < N) → code N β m < N ^ m
  | 0, _ => Nat.one_pos
  | m + 1, h => by
    have ih := code_lt (m := m) fun k hk => h k (by omega)
    have hb := h m (by omega)
    rw [code, Nat.pow_succ]
    calc code N β m * N + β m < code N β m * N + N := by omega
      _ = (code N β m + 1) * N := by rw [Nat.add_mul, Nat.one_mul]
      _ ≤ N ^ m * N := Nat.mul_le_mul_right N ih
theorem code_inj {N : Nat} {β γ : Nat → Nat} : ∀ {m : Nat}, (∀ k, k < m → β k < N) → (∀ k, k < m → γ k < N) → code N β m = code N γ m → ∀ k, k < m → β k = γ k
  | 0, _, _, _, k, hk => absurd hk (Nat.not_lt_zero k)
  | m + 1, hb, hg, e, k, hk => by
    have b1 := hb m (by omega)
    have g1 := hg m (by omega)
    rw [code, code] at e
    have e1 : β m = γ m := by
      have := congrArg (· % N) e
      simp only [Nat.mul_add_mod_of_lt b1, Nat.mul_add_mod_of_lt g1] at this
      exact this
    have e2 : code N β m = code N γ m := by
      rw [e1] at e
      have : code N β m * N = code N γ m * N := by omega
      exact Nat.eq_of_mul_eq_mul_right (by omega) this
    rcases Nat.lt_or_ge k m with q | q
    · exact code_inj (fun k hk => hb k (by omega)) (fun k hk => hg k (by omega)) e2 k q
    · have : k = m := by omega
      rw [this]; exact e1
/-- so many turns there are at most -/
theorem turns_end {F : Nat} (hF : (w + m) ^ m ≤ F) (g : Good A w m (β 0)) (tu : ∀ t, t < F → Turn A w m (β t) (r t) (s t)) (ne : ∀ t, t < F → β (t + 1) = re (β t) (s t) (r t)) : False := by
  have good : ∀ t, t ≤ F → Good A w m (β t) := fun t => by
    induction t with
    | zero => intro _; exact g
    | succ t ih => intro h; rw [ne t (by omega)]; exact (ih (by omega)).turn (tu t (by omega))
  obtain ⟨a, b, h1, h2, h3⟩ := pigeon F (fun t => code (w + m) (β t) m) fun t ht => Nat.lt_of_lt_of_le (code_lt (good t ht).lt) hF
  have h3 : code (w + m) (β a) m = code (w + m) (β b) m := h3
  refine Circ.no (A := A) (w := w) (m := m) (β := fun t => β (a + t)) (r := fun t => r (a + t)) (s := fun t => s (a + t)) (L := b - a) ⟨by omega, fun t ht => good _ (by omega), fun t ht => tu _ (by omega), fun t ht => ?_, fun k hk => ?_⟩
  · exact ne (a + t) (by omega)
  · show β (a + (b - a)) k = β (a + 0) k
    rw [show a + (b - a) = b by omega]
    exact (code_inj (good a (by omega)).lt (good b (by omega)).lt h3 k hk).symm
end
end Lp
end B
namespace B
open PySem L2
/-! k83: a tableau on the heap; its looks -/
open Lp in
/-- which row is at most as far -/
def leR (x y : Nat → Int) (b : Nat → Nat) (i k : Nat) : Prop := x i * y k ≤ x k * y i ∧ (x i * y k = x k * y i → b i ≤ b k)
theorem leR_refl {x y : Nat → Int} {b : Nat → Nat} (i : Nat) : leR x y b i i := ⟨Int.le_refl _, fun _ => Nat.le_refl _⟩
theorem leR_trans {x y : Nat → Int} {b : Nat → Nat} {i s k : Nat} (hi : 0 < y i) (hs : 0 < y s) (hk : 0 < y k) (h1 : leR x y b i s) (h2 : leR x y b s k) : leR x y b i k := by
  have e1 := Int.mul_le_mul_of_nonneg_right h1.1 (Int.le_of_lt hk)
  have e2 := Int.mul_le_mul_of_nonneg_right h2.1 (Int.le_of_lt hi)
  have x1 : x i * y s * y k = y s * (x i * y k) := by ac_rfl
  have x2 : x s * y i * y k = x s * y k * y i := by ac_rfl
  have x3 : x k * y s * y i = y s * (x k * y i) := by ac_rfl
  refine ⟨Int.le_of_mul_le_mul_left (a := y s) (by omega) hs, fun e => ?_⟩
  have e3 : y s * (x i * y k) = y s * (x k * y i) := by rw [e]
  have q1 : x i * y s * y k = x s * y i * y k := by omega
  have q2 : x s * y k * y i = x k * y s * y i := by omega
  have r1 := Int.eq_of_mul_eq_mul_right (by omega) q1
  have r2 := Int.eq_of_mul_eq_mul_right (by omega) q2
  exact Nat.le_trans (h1.2 r1) (h2.2 r2)
def nearB (x y : Nat → Int) (b : Nat → Nat) (i k : Nat) : Bool := decide (x i * y k < x k * y i) || (decide (x i * y k = x k * y i) && decide (b i < b k))
theorem nearB_t {x y : Nat → Int} {b : Nat → Nat} {i k : Nat} (h : nearB x y b i k = true) : leR x y b i k := by
  unfold nearB at h
  simp only [Bool.or_eq_true, Bool.and_eq_true, decide_eq_true_eq] at h
  rcases h with h | ⟨h1, h2⟩
  · exact ⟨by omega, fun e => by omega⟩
  · exact ⟨by omega, fun _ => by omega⟩
theorem nearB_f {x y : Nat → Int} {b : Nat → Nat} {i k : Nat} (h : nearB x y b i k = false) : leR x y b k i := by
  unfold nearB at h
  simp only [Bool.or_eq_false_iff, Bool.and_eq_false_iff, decide_eq_false_iff_not] at h
  refine ⟨by omega, fun e => ?_⟩
  rcases h.2 with q | q
  · exact absurd e.symm q
  · omega
section
open Lp
def rowV (A : Nat → Vc) (w m : Nat) (β : Nat → Nat) (i : Nat) : List V := (List.range (w + m + 1)).map fun j => V.int (tt A m β i j)
def basV (m : Nat) (β : Nat → Nat) : List V := (List.range m).map fun k => V.int (β k : Nat)
structure Tb (C : Addr) (H : Hp) (a dx L l b : Addr) (rs : List Addr) (A : Nat → Vc) (w m : Nat) (β : Nat → Nat) : Prop where
  o : H a = some (.ins C dx [("width", .int (w : Nat)), ("lines", .ref L), ("last", .ref l), ("basis", .ref b), ("scale", .int (dd A m β))])
  L : H L = some (.lst (rs.map V.ref))
  n : rs.length = m
  row : ∀ i r, rs[i]? = some r → H r = some (.lst (rowV A w m β i))
  last : H l = some (.lst (rowV A w m β m))
  bas : H b = some (.lst (basV m β))
variable {C : Addr} {H H' : Hp} {a dx L l b : Addr} {rs : List Addr} {A : Nat → Vc} {w m : Nat} {β : Nat → Nat}
theorem Tb.same (T : Tb C H a dx L l b rs A w m β) (e : Same H H') : Tb C H' a dx L l b rs A w m β :=
  ⟨e _ _ T.o, e _ _ T.L, T.n, fun i r h => e _ _ (T.row i r h), e _ _ T.last, e _ _ T.bas⟩
theorem row_at {i j : Nat} (h : j ≤ w + m) : atI (rowV A w m β i) (j : Int) = some (.int (tt A m β i j)) := atI_nat (by
  unfold rowV
  rw [List.getElem?_map, List.getElem?_range (by omega)]
  rfl)
theorem row_len {i : Nat} : (rowV A w m β i).length = w + m + 1 := by unfold rowV; rw [List.length_map, List.length_range]
theorem row_end {i : Nat} : atI (rowV A w m β i) (-1) = some (.int (tt A m β i (w + m))) := by
  have h : atI (rowV A w m β i) (-1) = (rowV A w m β i)[w + m]? := by
    unfold atI ixN
    rw [row_len]
    rw [if_neg (by omega), if_pos (by omega)]
    simp
    congr 1
    omega
  rw [h]
  unfold rowV
  rw [List.getElem?_map, List.getElem?_range (by omega)]
  rfl
theorem bas_at {k : Nat} (h : k < m) : atI (basV m β) (k : Int) = some (.int (β k : Nat)) := atI_nat (by
  unfold basV
  rw [List.getElem?_map, List.getElem?_range h]
  rfl)
theorem Tb.line (T : Tb C H a dx L l b rs A w m β) {i : Nat} (h : i < m) : ∃ r, rs[i]? = some r ∧ atI (rs.map V.ref) (i : Int) = some (.ref r) ∧ H r = some (.lst (rowV A w m β i)) := by
  have h' : i < rs.length := by rw [T.n]; exact h
  exact ⟨rs[i], List.getElem?_eq_getElem h', atI_nat (by rw [List.getElem?_map, List.getElem?_eq_getElem h']; rfl), T.row i _ (List.getElem?_eq_getElem h')⟩
/-- numbers that are small -/
def Sm (A : Nat → Vc) (w m : Nat) (β : Nat → Nat) : Prop := (∀ i j, i ≤ m → j ≤ w + m → -(2 ^ 64) < tt A m β i j ∧ tt A m β i j < 2 ^ 64) ∧ 0 < dd A m β ∧ dd A m β < 2 ^ 64 ∧ w + m < 900
end
/-- what the class must have -/
structure TbC (K : PySem.W.Frag) (C : Addr) : Prop where
  c : Cls K C
  w : NoAttr K C "width"
  li : NoAttr K C "lines"
  la : NoAttr K C "last"
  ba : NoAttr K C "basis"
  sc : NoAttr K C "scale"
section
open Lp
def spEnter (C : Addr) : Sp := fun vs H Q _ => ∃ (a dx L l b : Addr) (rs : List Addr) (A : Nat → Vc) (w m : Nat) (β : Nat → Nat), vs = [.ref a] ∧ Tb C H a dx L l b rs A w m β ∧ w + m < 100000 ∧
  (∀ (r : Nat), r < w + m → tt A m β m r < 0 → (∀ j, j < r → 0 ≤ tt A m β m j) → Q (.int r) H) ∧ ((∀ j, j < w + m → 0 ≤ tt A m β m j) → Q .non H)
def spNear (C : Addr) : Sp := fun vs H Q _ => ∃ (a dx L l b : Addr) (rs : List Addr) (A : Nat → Vc) (w m : Nat) (β : Nat → Nat) (i k r : Nat), vs = [.ref a, .int i, .int k, .int r] ∧ Tb C H a dx L l b rs A w m β ∧ Sm A w m β ∧ i < m ∧ k < m ∧ r ≤ w + m ∧
  Q (.bl (nearB (fun i => tt A m β i (w + m)) (fun i => tt A m β i r) β i k)) H
variable {P : Program} {w_ : World} {mg : Str → Option Value} {base : Heap} {c : Ct}
theorem ok_Tableau_entering {f : Addr} {fd : FuncData} (F : Fun c.K "entering" "Tableau.entering" s_Tableau_entering f fd) (T : Bt mg) (TC : TbC c.K (c.cl 6)) : FnOk P w_ c.K mg base CX0 1 f fd ["self"] (spEnter (c.cl 6)) := by
  refine F.ok sc_Tableau_entering (fun vs H Q E h => ?_) (fun cdv A outer s H vs Q E hr h => ⟨_, wb, ?_⟩)
  · obtain ⟨a, dx, L, l, b, rs, A, w, m, β, rfl, _⟩ := h
    rfl
  · obtain ⟨a, dx, L, l, b, rs, A, w, m, β, rfl, Tt, hw, k1, k2⟩ := h
    refine nxtN (ps_for PassesOwn.never rfl (pi_range1 (by rfl) T.range (pa_cons (pe_op op_sub (pe_callB call_len_seq (by rfl) T.len PySem.boot_len (pa_cons (pe_fld (pv 0) rfl) pa_nil)) pe_int) pa_nil)) (pg_name (i := 1) sc_Tableau_entering.nd rfl (Or.inl rfl)) wb) fun N hN => ?_
    refine ⟨_, rfl, a, _, _, _, _, rfl, Tt.o, TC.c, TC.la, rfl, l, _, rfl, .inl (sqL Tt.last), _, _, rfl, rfl, _, rfl, by rw [row_len]; omega, by rw [row_len]; omega, ?_⟩
    have en : (((rowV A w m β m).length : Int) - 1).toNat = w + m := by rw [row_len]; omega
    refine for_range (lo := 0) (fun i σ H' => H' = H ∧ (∃ v1, σ = [some (.ref a), v1]) ∧ ∀ j, j < i → 0 ≤ tt A m β m j) ⟨rfl, ⟨_, rfl⟩, fun j hj => absurd hj (Nat.not_lt_zero j)⟩ ?_ ?_
    · rintro i σ H1 hi ⟨rfl, ⟨v1, rfl⟩, hj⟩
      rw [en] at hi
      refine last (ps_if (pt_cmpR op_lt (pe_ix ix_list (pe_fld (pv 0) rfl) (pv 1) (fun _ _ => rfl)) pe_int (nomark _)) (pss_one (ps_ret (pv 1))) pss_nil) ?_
      refine ⟨_, rfl, a, _, _, _, _, rfl, Tt.o, TC.c, TC.la, rfl, _, rfl, l, _, _, _, rfl, rfl, sqL Tt.last, (by rw [Int.zero_add]; exact row_at (Nat.le_of_lt hi)), _, _, rfl, rfl, _, rfl, ?_⟩
      refine ite2 (fun h => ?_) (fun h => ?_)
      · refine ⟨_, rfl, ?_⟩
        rw [Int.zero_add]
        exact k1 i hi (of_decide_eq_true h) hj
      · refine ⟨rfl, ⟨_, rfl⟩, fun j hj' => ?_⟩
        rcases Nat.lt_or_ge j i with q | q
        · exact hj j q
        · have : j = i := by omega
          rw [this]
          have : ¬ tt A m β m i < 0 := fun z => h (decide_eq_true z)
          omega
    · rintro σ H1 ⟨rfl, ⟨v1, rfl⟩, hj⟩
      rw [en] at hj
      refine hN _ _ ?_
      refine last (ps_ret pe_non) ?_
      exact k2 hj
end
/-! k83: the nearest row -/
section
open Lp
def spLeave (C : Addr) : Sp := fun vs H Q _ => ∃ (a dx L l b : Addr) (rs : List Addr) (A : Nat → Vc) (w m : Nat) (β : Nat → Nat) (r : Nat), vs = [.ref a, .int r] ∧ Tb C H a dx L l b rs A w m β ∧ Sm A w m β ∧ r ≤ w + m ∧
  (∀ s H', Same H H' → s < m → 0 < tt A m β s r → (∀ k, k < m → 0 < tt A m β k r → leR (fun i => tt A m β i (w + m)) (fun i => tt A m β i r) β s k) → Q (.int (s : Nat)) H') ∧ (∀ H', Same H H' → (∀ k, k < m → tt A m β k r ≤ 0) → Q .non H')
variable {P : Program} {w_ : World} {mg : Str → Option Value} {base : Heap} {c : Ct}
theorem cmul {i j : Int} (h : -(2 ^ 64) < j ∧ j < 2 ^ 64) : CMul i j := .inr h
theorem ok_Tableau_is_nearer {f : Addr} {fd : FuncData} (F : Fun c.K "is_nearer" "Tableau.is_nearer" s_Tableau_is_nearer f fd) (T : Bt mg) (TC : TbC c.K (c.cl 6)) : FnOk P w_ c.K mg base CX0 1 f fd ["self", "index", "other", "column"] (spNear (c.cl 6)) := by
  refine F.ok sc_Tableau_is_nearer (fun vs H Q E h => ?_) (fun cdv A outer s H vs Q E hr h => ⟨_, wb, ?_⟩)
  · obtain ⟨a, dx, L, l, b, rs, A, w, m, β, i, k, r, rfl, _⟩ := h
    rfl
  · obtain ⟨a, dx, L, l, b, rs, A, w, m, β, i, k, r, rfl, Tt, S0, hi, hk, hrr, k1⟩ := h
    obtain ⟨ri, _, ai, hri⟩ := Tt.line hi
    obtain ⟨rk, _, ak, hrk⟩ := Tt.line hk
    refine nxt (ps_set (i := 4) sc_Tableau_is_nearer.nd rfl (Or.inl rfl) (pe_op op_mul (pe_ix ix_list (pe_ix ix_list (pe_fld (pv 0) rfl) (pv 1) (fun _ _ => rfl)) (pe_un un_neg pe_int) (fun _ _ => rfl)) (pe_ix ix_list (pe_ix ix_list (pe_fld (pv 0) rfl) (pv 2) (fun _ _ => rfl)) (pv 3) (fun _ _ => rfl)))) ?_
    refine ⟨_, rfl, a, _, _, _, _, rfl, Tt.o, TC.c, TC.li, rfl, _, rfl, L, _, _, _, rfl, rfl, sqL Tt.L, ai, _, rfl, ri, _, _, _, rfl, rfl, sqL hri, row_end, _, rfl, a, _, _, _, _, rfl, Tt.o, TC.c, TC.li, rfl, _, rfl, L, _, _, _, rfl, rfl, sqL Tt.L, ak, _, rfl, rk, _, _, _, rfl, rfl, sqL hrk, row_at hrr, _, _, rfl, rfl, cmul (S0.1 k r (by omega) hrr), ?_⟩
    refine nxt (ps_set (i := 5) sc_Tableau_is_nearer.nd rfl (Or.inl rfl) (pe_op op_mul (pe_ix ix_list (pe_ix ix_list (pe_fld (pv 0) rfl) (pv 2) (fun _ _ => rfl)) (pe_un un_neg pe_int) (fun _ _ => rfl)) (pe_ix ix_list (pe_ix ix_list (pe_fld (pv 0) rfl) (pv 1) (fun _ _ => rfl)) (pv 3) (fun _ _ => rfl)))) ?_
    refine ⟨_, rfl, a, _, _, _, _, rfl, Tt.o, TC.c, TC.li, rfl, _, rfl, L, _, _, _, rfl, rfl, sqL Tt.L, ak, _, rfl, rk, _, _, _, rfl, rfl, sqL hrk, row_end, _, rfl, a, _, _, _, _, rfl, Tt.o, TC.c, TC.li, rfl, _, rfl, L, _, _, _, rfl, rfl, sqL Tt.L, ai, _, rfl, ri, _, _, _, rfl, rfl, sqL hri, row_at hrr, _, _, rfl, rfl, cmul (S0.1 i r (by omega) hrr), ?_⟩
    refine last (ps_ret (pe_or (pe_cmpR op_lt (pv 4) (pv 5) (nomark _)) (pe_one (pe_and (pe_cmpR op_eq (pv 4) (pv 5) (nomark _)) (pe_one (pe_cmpR op_lt (pe_ix ix_list (pe_fld (pv 0) rfl) (pv 1) (fun _ _ => rfl)) (pe_ix ix_list (pe_fld (pv 0) rfl) (pv 2) (fun _ _ => rfl)) (nomark _))))))) ?_
    unfold nearB at k1
    refine ⟨_, rfl, _, rfl, _, _, rfl, rfl, _, rfl, ?_⟩
    by_cases c1 : tt A m β i (w + m) * tt A m β k r < tt A m β k (w + m) * tt A m β i r
    · rw [decide_eq_true c1] at k1 ⊢
      exact k1
    · rw [decide_eq_false c1] at k1 ⊢
      refine ⟨_, rfl, _, rfl, rfl, _, rfl, ?_⟩
      by_cases c2 : tt A m β i (w + m) * tt A m β k r = tt A m β k (w + m) * tt A m β i r
      · rw [decide_eq_true c2] at k1
        rw [decide_eq_true (congrArg V.int c2)]
        refine ⟨_, rfl, a, _, _, _, _, rfl, Tt.o, TC.c, TC.ba, rfl, _, rfl, b, _, _, _, rfl, rfl, sqL Tt.bas, bas_at hi, _, rfl, a, _, _, _, _, rfl, Tt.o, TC.c, TC.ba, rfl, _, rfl, b, _, _, _, rfl, rfl, sqL Tt.bas, bas_at hk, _, _, rfl, rfl, ?_⟩
        have e : decide (((β i : Nat) : Int) < ((β k : Nat) : Int)) = decide (β i < β k) := by
          by_cases q : β i < β k
          · rw [decide_eq_true q, decide_eq_true (by omega)]
          · rw [decide_eq_false q, decide_eq_false (by omega)]
        show Q (.bl (decide (((β i : Nat) : Int) < ((β k : Nat) : Int)))) H
        rw [e]
        exact k1
      · rw [decide_eq_false c2] at k1
        rw [decide_eq_false (fun z => c2 (V.int.inj z))]
        exact k1
end
/-! k83: the row that leaves -/
section
variable {X : Cx} {k : Nat} {C : Addr} {m : Str} {ps : List Str} {sp : Sp} {o e : Expr} {es : List Expr} {apos pos : Pos} {ta : TE} {t : TA}
theorem pm0 {pl : Sem Bool} (F : DfMt X.prog X.w X.K X.mg X.base CX0 k C m ps sp) (cl : Cls X.K C) (hr : Room k X.A) (ho : PE X o ta) (ha : PA X (e :: es) t)
    (hst : starEach (e :: es) X.env = (false, eval e X.env) :: starEach es X.env := by rfl) (hpl : (backTo pos (starEach es X.env)).any (·.1) = false := by rfl)
    (ht : eval (.Call (.Attribute o m apos) (e :: es) [] pos) X.env = (do
      let ov ← eval o X.env; standAt apos.atName
      let (f, first) ← holding [ov] (getMethod ov m pl); callWith pos f first (backTo pos (starEach (e :: es) X.env)) (backToKw pos (keywordEach [] X.env))) := by rfl) : PE X (.Call (.Attribute o m apos) (e :: es) [] pos) (tMeth C m sp [] E0 ta t) := by
  obtain ⟨g, fd, hm, hb, F⟩ := F.ex
  exact pe_meth ho cl hm F hr hb .nil pass0 ha hst hpl ht
end
section
open Lp
variable {P : Program} {w_ : World} {mg : Str → Option Value} {base : Heap} {c : Ct}
/-- the best row of the first i -/
def Bst (A : Nat → Vc) (w m : Nat) (β : Nat → Nat) (r i : Nat) (v : V) : Prop := (v = .non ∧ ∀ k, k < i → tt A m β k r ≤ 0) ∨ ∃ s : Nat, v = .int (s : Nat) ∧ s < i ∧ 0 < tt A m β s r ∧ ∀ k, k < i → 0 < tt A m β k r → leR (fun i => tt A m β i (w + m)) (fun i => tt A m β i r) β s k
theorem Bst.skip {A : Nat → Vc} {w m : Nat} {β : Nat → Nat} {r i : Nat} {v : V} (h : Bst A w m β r i v) (n : tt A m β i r ≤ 0) : Bst A w m β r (i + 1) v := by
  rcases h with ⟨e, h⟩ | ⟨s, e, h1, h2, h3⟩
  · refine .inl ⟨e, fun k hk => ?_⟩
    rcases Nat.lt_or_ge k i with q | q
    · exact h k q
    · have : k = i := by omega
      rw [this]; exact n
  · refine .inr ⟨s, e, by omega, h2, fun k hk hp => ?_⟩
    rcases Nat.lt_or_ge k i with q | q
    · exact h3 k q hp
    · have : k = i := by omega
      rw [this] at hp; omega
theorem ok_Tableau_leaving {f : Addr} {fd : FuncData} (F : Fun c.K "leaving" "Tableau.leaving" s_Tableau_leaving f fd) (T : Bt mg) (TC : TbC c.K (c.cl 6)) (D_Tableau_is_nearer : DfMt P w_ c.K mg base CX0 1 (c.cl 6) "is_nearer" ["self", "index", "other", "column"] (spNear (c.cl 6))) : FnOk P w_ c.K mg base CX0 2 f fd ["self", "column"] (spLeave (c.cl 6)) := by
  refine F.ok sc_Tableau_leaving (fun vs H Q E h => ?_) (fun cdv A outer s H vs Q E hr h => ⟨_, wb, ?_⟩)
  · obtain ⟨a, dx, L, l, b, rs, A, w, m, β, r, rfl, _⟩ := h
    rfl
  · obtain ⟨a, dx, L, l, b, rs, A, w, m, β, r, rfl, Tt, S0, hrr, k1, k2⟩ := h
    refine nxt (ps_set (i := 2) sc_Tableau_leaving.nd rfl (Or.inl rfl) pe_non) ?_
    refine nxtN (ps_for PassesOwn.never rfl (pi_enum (by rfl) T.enumerate (pa_cons (pe_fld (pv 0) rfl) pa_nil)) (pg_tup (by rfl) (pgs_cons (pg_name (i := 3) sc_Tableau_leaving.nd rfl (Or.inl rfl)) (pgs_cons (pg_name (i := 4) sc_Tableau_leaving.nd rfl (Or.inl rfl)) pgs_nil))) wb) fun N hN => ?_
    have hlen : (rs.map V.ref).length = m := by rw [List.length_map]; exact Tt.n
    refine ⟨_, rfl, a, _, _, _, _, rfl, Tt.o, TC.c, TC.li, rfl, L, _, rfl, sqL Tt.L, for_it (walk_enum (K := c.K) (a := L) (xs := rs.map V.ref)) (fun i σ H' => Same H H' ∧ ∃ v3 v4 v2, σ = [some (.ref a), some (.int (r : Nat)), some v2, v3, v4] ∧ Bst A w m β r i v2) ⟨Same.refl H, _, _, _, rfl, .inl ⟨rfl, fun k hk => absurd hk (Nat.not_lt_zero k)⟩⟩ (fun i σ H' _ p => sqL (p.1 _ _ Tt.L)) ?_ ?_⟩
    · rintro i x σ H1 H2 hi ⟨e1, v3, v4, v2, rfl, hb⟩ ⟨T2, y1, y2, rfl, nT, rfl, e5, e6⟩
      rw [hlen] at hi
      cases e5
      obtain ⟨ri, hri0, _, hri⟩ := Tt.line hi
      have e6 : (rs.map V.ref)[i]? = some y2 := e6
      rw [List.getElem?_map, hri0] at e6
      cases e6
      have e2 : Same H (upd H1 T2 (.tup [.int (i : Nat), .ref ri])) := e1.trans (sm_new nT)
      refine ⟨T2, _, rfl, sqT upd_same, rfl, _, _, rfl, _, _, rfl, rfl, ?_⟩
      generalize upd H1 T2 (.tup [.int (i : Nat), .ref ri]) = H3 at e2
      refine last (ps_if (pt_cmpR op_gt (pe_ix ix_list (pv 4) (pv 1) (fun _ _ => rfl)) pe_int (nomark _)) wb pss_nil) ?_
      refine ⟨_, rfl, _, rfl, ri, _, _, _, rfl, rfl, sqL (e2 _ _ hri), row_at hrr, _, _, rfl, rfl, _, rfl, ?_⟩
      have Tt3 := Tt.same e2
      refine ite2 (fun hp => ?_) (fun hp => ?_)
      · have hp : 0 < tt A m β i r := of_decide_eq_true hp
        refine last (ps_if (PW.pt (pw_or (pt_cmpR op_isN (pv 2) pe_non (nomark _)) (pw_or1 (pt_val (pm0 D_Tableau_is_nearer TC.c (hr.mono (by decide)) (pv 0) (pa_cons (pv 3) (pa_cons (pv 2) (pa_cons (pv 1) pa_nil)))))))) (pss_one (ps_set (i := 2) sc_Tableau_leaving.nd rfl (Or.inl rfl) (pv 3))) pss_nil) ?_
        have new : (∀ k, k < i → 0 < tt A m β k r → leR (fun i => tt A m β i (w + m)) (fun i => tt A m β i r) β i k) → Bst A w m β r (i + 1) (.int (i : Nat)) := fun h => .inr ⟨i, rfl, by omega, hp, fun k hk hk2 => by
          rcases Nat.lt_or_ge k i with q | q
          · exact h k q hk2
          · have : k = i := by omega
            rw [this]; exact leR_refl i⟩
        rcases hb with ⟨rfl, hn⟩ | ⟨s, rfl, hs1, hs2, hs3⟩
        · refine ⟨_, rfl, rfl, _, rfl, ?_⟩
          refine ⟨_, rfl, e2, _, _, _, rfl, new fun k hk hk2 => ?_⟩
          have := hn k hk
          omega
        · refine ⟨_, rfl, rfl, _, rfl, ?_⟩
          refine ⟨_, rfl, a, _, _, rfl, Tt3.o, rfl, _, rfl, _, rfl, _, rfl, a, dx, L, l, b, rs, A, w, m, β, i, s, r, rfl, Tt3, S0, hi, by omega, hrr, _, rfl, ?_⟩
          refine ite2 (fun hn => ?_) (fun hn => ?_)
          · exact ⟨_, rfl, e2, _, _, _, rfl, new fun k hk hk2 => leR_trans hp hs2 hk2 (nearB_t hn) (hs3 k hk hk2)⟩
          · refine ⟨e2, _, _, _, rfl, .inr ⟨s, rfl, by omega, hs2, fun k hk hk2 => ?_⟩⟩
            rcases Nat.lt_or_ge k i with q | q
            · exact hs3 k q hk2
            · have : k = i := by omega
              rw [this]; exact nearB_f (Bool.eq_false_iff.mpr hn)
      · exact ⟨e2, _, _, _, rfl, hb.skip (by have : ¬ 0 < tt A m β i r := fun z => hp (decide_eq_true z); omega)⟩
    · rintro σ H1 ⟨e1, v3, v4, v2, rfl, hb⟩
      rw [hlen] at hb
      refine hN _ _ ?_
      refine last (ps_ret (pv 2)) ?_
      rcases hb with ⟨rfl, hn⟩ | ⟨s, rfl, hs1, hs2, hs3⟩
      · exact ⟨_, rfl, k2 _ e1 hn⟩
      · exact ⟨_, rfl, k1 s _ e1 hs1 hs2 hs3⟩
end
end B
namespace B
open PySem L2
/-! k83: a turn -/
section
open Lp
def spRed (C : Addr) : Sp := fun vs H Q _ => ∃ (a x y : Addr) (dx : Addr) (fs : List (Str × V)) (A : Nat → Vc) (w m : Nat) (β : Nat → Nat) (i s r : Nat), vs = [.ref a, .ref x, .ref y, .int r] ∧ H a = some (.ins C dx fs) ∧ fs.lookup ("scale" : Str) = some (V.int (dd A m β)) ∧ fs.lookup ("reduced" : Str) = none ∧
  H x = some (.lst (rowV A w m β i)) ∧ H y = some (.lst (rowV A w m β s)) ∧ Sm A w m β ∧ i ≤ m ∧ s < m ∧ i ≠ s ∧ r ≤ w + m ∧
  ∀ q H', H q = none → Same H H' → H' q = some (.lst (rowV A w m (Lp.re β s r) i)) → Q (.ref q) H'
variable {P : Program} {w_ : World} {mg : Str → Option Value} {base : Heap} {c : Ct}
theorem red_div {A : Nat → Vc} {w m : Nat} {β : Nat → Nat} (S0 : Sm A w m β) {i s r : Nat} (hi : i ≤ m) (hs : s < m) (n : i ≠ s) (j : Nat) : (tt A m β i j * tt A m β s r - tt A m β i r * tt A m β s j) / dd A m β = tt A m (Lp.re β s r) i j := by
  rw [← tt_re hs hi n j]
  exact Int.mul_ediv_cancel_left _ (by have := S0.2.1; omega)
theorem row_get {A : Nat → Vc} {w m : Nat} {β : Nat → Nat} {i j : Nat} {v : V} (h : (rowV A w m β i)[j]? = some v) : j < w + m + 1 ∧ v = .int (tt A m β i j) := by
  have hj : j < w + m + 1 := by
    have := (List.getElem?_eq_some_iff.mp h).1
    rw [row_len] at this
    exact this
  unfold rowV at h
  rw [List.getElem?_map, List.getElem?_range hj] at h
  exact ⟨hj, (Option.some.inj h).symm⟩
theorem ok_Tableau_reduced {f : Addr} {fd : FuncData} (F : Fun c.K "reduced" "Tableau.reduced" s_Tableau_reduced f fd) (T : Bt mg) (TC : TbC c.K (c.cl 6)) : FnOk P w_ c.K mg base CX0 1 f fd ["self", "line", "chosen", "column"] (spRed (c.cl 6)) := by
  refine F.ok sc_Tableau_reduced (fun vs H Q E h => ?_) (fun cdv A outer s H vs Q E hr h => ⟨_, wb, ?_⟩)
  · obtain ⟨a, x, y, dx, fs, A, w, m, β, i, s, r, rfl, _⟩ := h
    rfl
  · obtain ⟨a, x, y, dx, fs, A, w, m, β, i, s, r, rfl, ho, hsc, _, hx, hy, S0, hi, hs, n, hrr, k⟩ := h
    refine nxt (ps_set (i := 4) sc_Tableau_reduced.nd rfl (Or.inr rfl) (pe_ix ix_list (pv 1) (pv 3) (fun _ _ => rfl))) ?_
    refine ⟨_, rfl, _, rfl, x, _, _, _, rfl, rfl, sqL hx, row_at hrr, ?_⟩
    refine nxt (ps_set (i := 5) sc_Tableau_reduced.nd rfl (Or.inr rfl) (pe_ix ix_list (pv 2) (pv 3) (fun _ _ => rfl))) ?_
    refine ⟨_, rfl, _, rfl, y, _, _, _, rfl, rfl, sqL hy, row_at hrr, ?_⟩
    refine last (ps_ret (pe_lc (own := [("item", 6), ("other", 7)]) (g := gTup _ 2 _) rfl sc_Tableau_reduced.nd (RZ.pi_zipA (by rfl) T.zip (pa_cons (pv 1) (pa_cons (pv 2) pa_nil))) (blkOk_by (own := [("item", 6), ("other", 7)]) (N := ["self", "line", "chosen", "column", "factor", "pivot", "item", "other"]) (sc := defScope s_Tableau_reduced) (by decide +kernel)) (fun _ _ _ _ _ => (pg_tup (by rfl) (pgs_cons (pg_name (i := 6) sc_Tableau_reduced.nd rfl (Or.inl rfl)) (pgs_cons (pg_name (i := 7) sc_Tableau_reduced.nd rfl (Or.inl rfl)) pgs_nil)))) (fun _ _ _ _ _ => pts_nil) (fun _ _ _ _ _ => (pe_op op_fdivW (pe_op op_sub (pe_op op_mul (pv 6) (pv 5)) (pe_op op_mul (pv 4) (pv 7))) (pe_fldK (K := c.K) rfl (pv 0)))))) ?_
    refine ⟨_, rfl, _, rfl, x, y, _, _, rfl, .inl ⟨sqL hx, sqL hy, fun D nD => lc_it (walk_zip (K := c.K) (n := w + m + 1) (by rw [row_len, row_len]; omega)) (fun j H' => Same H H' ∧ H' D = some (.lst ((List.range j).map fun t => V.int (tt A m (Lp.re β s r) i t)))) ⟨sm_new nD, upd_same⟩ (fun j H' _ p => ⟨sqL (p.1 _ _ hx), sqL (p.1 _ _ hy)⟩) ?_ ?_⟩⟩
    · rintro j v H1 H2 hj ⟨e1, h1⟩ ⟨T2, y1, y2, rfl, nT, rfl, e5, e6⟩
      obtain ⟨_, rfl⟩ := row_get e5
      obtain ⟨_, rfl⟩ := row_get e6
      have e2 := e1.trans (sm_new (o := .tup [.int (tt A m β i j), .int (tt A m β s j)]) nT)
      have hD2 : (upd H1 T2 (.tup [.int (tt A m β i j), .int (tt A m β s j)])) D = _ := sm_new nT _ _ h1
      refine ⟨T2, _, rfl, sqT upd_same, rfl, _, _, rfl, _, _, rfl, rfl, ?_⟩
      generalize upd H1 T2 (.tup [.int (tt A m β i j), .int (tt A m β s j)]) = H3 at e2 hD2
      refine ⟨rfl, ?_⟩
      have hsm := S0.2.2.2
      refine ⟨_, rfl, _, rfl, _, _, rfl, rfl, cmul (S0.1 s r (by omega) hrr), _, rfl, _, rfl, _, _, rfl, rfl, .inl (S0.1 i r hi hrr), _, _, rfl, rfl, _, rfl, a, _, _, _, _, rfl, e2 _ _ ho, TC.c, TC.sc, hsc, _, _, rfl, rfl, wide_div S0.2.1 (b := 64) (by have := S0.2.1; have := S0.2.2.1; omega) (by decide) (by decide), _, hD2, small1000 (by simp; omega), ?_, ?_⟩
      · intro b o hb
        rw [upd_ne (ne_of_none hb nD)]
        exact e2 b o hb
      · rw [upd_same, List.range_succ, List.map_append]
        show some (HO.lst (_ ++ [V.int ((tt A m β i j * tt A m β s r - tt A m β i r * tt A m β s j) / dd A m β)])) = _
        rw [red_div S0 hi hs n j]
        rfl
    · rintro H3 ⟨e3, h3⟩
      exact k D H3 nD e3 h3
end
end B
namespace B
open PySem L2
/-! k83: a turn of the tableau -/
section
open Lp
theorem row_ne {A : Nat → Vc} {w m : Nat} {β : Nat → Nat} {i : Nat} {rs : List Addr} : rowV A w m β i ≠ rs.map V.ref := fun e => by
  have h : (rowV A w m β i)[0]? = (rs.map V.ref)[0]? := by rw [e]
  have h0 : (rowV A w m β i)[0]? = some (.int (tt A m β i 0)) := by
    unfold rowV
    rw [List.getElem?_map, List.getElem?_range (by omega)]
    rfl
  rw [h0, List.getElem?_map] at h
  cases q : rs[0]? with
  | none => rw [q] at h; cases h
  | some z => rw [q] at h; cases h
theorem bas_ne {m : Nat} (hm : 0 < m) {β : Nat → Nat} {rs : List Addr} : basV m β ≠ rs.map V.ref := fun e => by
  have h : (basV m β)[0]? = (rs.map V.ref)[0]? := by rw [e]
  have h0 : (basV m β)[0]? = some (.int (β 0 : Nat)) := by
    unfold basV
    rw [List.getElem?_map, List.getElem?_range hm]
    rfl
  rw [h0, List.getElem?_map] at h
  cases q : rs[0]? with
  | none => rw [q] at h; cases h
  | some z => rw [q] at h; cases h
theorem row_bas {A : Nat → Vc} {w m : Nat} {β γ : Nat → Nat} {i : Nat} : rowV A w m β i ≠ basV m γ := fun e => by
  have := congrArg List.length e
  rw [row_len] at this
  unfold basV at this
  rw [List.length_map, List.length_range] at this
  omega
theorem ad_ne {H : Hp} {x y : Addr} {xs ys : List V} (hx : H x = some (.lst xs)) (hy : H y = some (.lst ys)) (n : xs ≠ ys) : x ≠ y := fun e => by
  rw [e, hy] at hx
  cases hx
  exact n rfl
theorem ad_ne2 {H : Hp} {x y C dx : Addr} {fs : List (Str × V)} {ys : List V} (hx : H x = some (.ins C dx fs)) (hy : H y = some (.lst ys)) : x ≠ y := fun e => by
  rw [e, hy] at hx
  cases hx
def spTurn (C : Addr) : Sp := fun vs H Q _ => ∃ (a dx L l b : Addr) (rs : List Addr) (A : Nat → Vc) (w m : Nat) (β : Nat → Nat) (s r : Nat), vs = [.ref a, .int s, .int r] ∧ Tb C H a dx L l b rs A w m β ∧ Sm A w m β ∧ s < m ∧ r ≤ w + m ∧
  ∀ (H' : Hp) (l' : Addr) (rs' : List Addr), Tb C H' a dx L l' b rs' A w m (Lp.re β s r) → (∀ x o, H x = some o → x ≠ a → x ≠ L → x ≠ b → H' x = some o) → Q .non H'
variable {P : Program} {w_ : World} {mg : Str → Option Value} {base : Heap} {c : Ct}
theorem ok_Tableau_turn {f : Addr} {fd : FuncData} (F : Fun c.K "turn" "Tableau.turn" s_Tableau_turn f fd) (T : Bt mg) (TC : TbC c.K (c.cl 6)) (D_Tableau_reduced : DfMt P w_ c.K mg base CX0 1 (c.cl 6) "reduced" ["self", "line", "chosen", "column"] (spRed (c.cl 6))) : FnOk P w_ c.K mg base CX0 2 f fd ["self", "index", "column"] (spTurn (c.cl 6)) := by
  refine F.ok sc_Tableau_turn (fun vs H Q E h => ?_) (fun cdv A outer s H vs Q E hr h => ⟨_, wb, ?_⟩)
  · obtain ⟨a, dx, L, l, b, rs, A, w, m, β, s, r, rfl, _⟩ := h
    rfl
  · obtain ⟨a, dx, L, l, b, rs, A, w, m, β, s, r, rfl, Tt, S0, hs, hrr, k⟩ := h
    obtain ⟨ch, hch0, ach, hch⟩ := Tt.line hs
    have hm : 0 < m := by omega
    have naL := ad_ne2 Tt.o Tt.L
    have nab := ad_ne2 Tt.o Tt.bas
    have nlL := ad_ne Tt.last Tt.L row_ne
    have nbL := ad_ne Tt.bas Tt.L (bas_ne hm)
    have nlb := ad_ne Tt.last Tt.bas row_bas
    have ncL := ad_ne hch Tt.L row_ne
    refine nxt (ps_set (i := 3) sc_Tableau_turn.nd rfl (Or.inl rfl) (pe_ix ix_list (pe_fld (pv 0) rfl) (pv 1) (fun _ _ => rfl))) ?_
    refine ⟨_, rfl, a, _, _, _, _, rfl, Tt.o, TC.c, TC.li, rfl, _, rfl, L, _, _, _, rfl, rfl, sqL Tt.L, ach, ?_⟩
    refine nxt (ps_set (i := 4) sc_Tableau_turn.nd rfl (Or.inl rfl) (pe_ix ix_list (pv 3) (pv 2) (fun _ _ => rfl))) ?_
    refine ⟨_, rfl, _, rfl, ch, _, _, _, rfl, rfl, sqL hch, row_at hrr, ?_⟩
    refine nxtN (ps_for PassesOwn.never rfl (pi_range1 (by rfl) T.range (pa_cons (pe_callB call_len_seq (by rfl) T.len PySem.boot_len (pa_cons (pe_fld (pv 0) rfl) pa_nil)) pa_nil)) (pg_name (i := 5) sc_Tableau_turn.nd rfl (Or.inl rfl)) wb) fun N hN => ?_
    have hlen : (rs.map V.ref).length = m := by rw [List.length_map]; exact Tt.n
    have hw := S0.2.2.2
    refine ⟨_, rfl, a, _, _, _, _, rfl, Tt.o, TC.c, TC.li, rfl, L, _, rfl, .inl (sqL Tt.L), _, rfl, by rw [hlen]; omega, by rw [hlen]; omega, ?_⟩
    refine for_range (lo := 0) (fun i σ H1 => (∃ v5, σ = [some (.ref a), some (.int (s : Nat)), some (.int (r : Nat)), some (.ref ch), some (.int (tt A m β s r)), v5]) ∧ (∀ x o, H x = some o → x ≠ L → H1 x = some o) ∧ ∃ rs1 : List Addr, H1 L = some (.lst (rs1.map V.ref)) ∧ rs1.length = m ∧
      (∀ k r', k < i → rs1[k]? = some r' → H1 r' = some (.lst (rowV A w m (Lp.re β s r) k))) ∧ ∀ k, i ≤ k → rs1[k]? = rs[k]?) ⟨⟨_, rfl⟩, fun x o h _ => h, rs, Tt.L, Tt.n, fun k r' h => absurd h (Nat.not_lt_zero k), fun _ _ => rfl⟩ ?_ ?_
    · rintro i σ H1 hi ⟨⟨v5, rfl⟩, fr, rs1, hL, hn, old, new⟩
      rw [hlen] at hi
      have hi : i < m := by simpa using hi
      have o1 := fr _ _ Tt.o naL
      refine last (ps_if (pt_cmpR op_ne (pv 5) (pv 1) (nomark _)) (pss_one (ps_asg (pm0 D_Tableau_reduced TC.c (hr.mono (by decide)) (pv 0) (pa_cons (pe_ix ix_list (pe_fld (pv 0) rfl) (pv 5) (fun _ _ => rfl)) (pa_cons (pv 3) (pa_cons (pv 2) pa_nil)))) (pg_sub (pe_fld (pv 0) rfl) (pv 5) set_list))) pss_nil) ?_
      refine ⟨_, rfl, _, rfl, rfl, _, rfl, ?_⟩
      obtain ⟨ri, hri0, _, hri⟩ := Tt.line hi
      have hri1 : rs1[i]? = some ri := by rw [new i (Nat.le_refl i)]; exact hri0
      refine ite2 (fun hp => ?_) (fun hp => ?_)
      · have ne : i ≠ s := fun e => by
          subst e
          rw [Int.zero_add] at hp
          simp at hp
        have at1 : atI (rs1.map V.ref) ((0 : Int) + i) = some (.ref ri) := by
          rw [Int.zero_add]
          exact atI_nat (by rw [List.getElem?_map, hri1]; rfl)
        refine ⟨_, rfl, a, _, _, rfl, o1, rfl, _, rfl, a, _, _, _, _, rfl, o1, TC.c, TC.li, rfl, _, rfl, L, _, _, _, rfl, rfl, sqL hL, at1, _, rfl, _, rfl, a, ri, ch, dx, _, A, w, m, β, i, s, r, rfl, o1, rfl, rfl, fr _ _ hri (ad_ne hri Tt.L row_ne), fr _ _ hch ncL, S0, Nat.le_of_lt hi, hs, ne, hrr, fun q H2 nq e2 hq => ?_⟩
        refine ⟨_, rfl, a, _, _, _, _, rfl, e2 _ _ o1, TC.c, TC.li, rfl, _, rfl, L, _, _, i, rfl, rfl, e2 _ _ hL, (by rw [Int.zero_add]; exact Evl.ixN_nat (by rw [List.length_map, hn]; exact hi)), ?_⟩
        have nqL : q ≠ L := (ne_of_none hL nq).symm
        refine ⟨⟨_, rfl⟩, fun x o h nx => by rw [upd_ne nx]; exact e2 _ _ (fr x o h nx), rs1.set i q, ?_, by rw [List.length_set]; exact hn, fun k r' hk hr' => ?_, fun k hk => ?_⟩
        · rw [upd_same, List.map_set]
        · by_cases e : k = i
          · subst e
            rw [List.getElem?_set_self (by omega)] at hr'
            cases hr'
            rw [upd_ne nqL]; exact hq
          · rw [List.getElem?_set_ne (Ne.symm e)] at hr'
            have h1 := old k r' (by omega) hr'
            rw [upd_ne (ad_ne h1 hL row_ne)]
            exact e2 _ _ h1
        · rw [List.getElem?_set_ne (by omega)]
          exact new k (by omega)
      · have eis : i = s := by
          have : ¬ (V.int ((0 : Int) + i) ≠ V.int (s : Nat)) := fun z => hp (by rw [decide_eq_false z]; rfl)
          have := Classical.byContradiction this
          have := V.int.inj this
          omega
        refine ⟨⟨_, rfl⟩, fr, rs1, hL, hn, fun k2 r' hk hr' => ?_, fun k2 hk => new k2 (by omega)⟩
        by_cases e : k2 = i
        · rw [e, hri1] at hr'
          cases hr'
          rw [eis] at hri
          rw [e, eis]
          have : rowV A w m (Lp.re β s r) s = rowV A w m β s := by
            unfold rowV
            exact List.map_congr_left fun j _ => by rw [tt_re_self hs]
          rw [this]
          exact fr _ _ hri (ad_ne hri Tt.L row_ne)
        · exact old k2 r' (by omega) hr'
    · rintro σ H1 ⟨⟨v5, rfl⟩, fr, rs1, hL, hn, old, new⟩
      rw [hlen] at old
      have old : ∀ k r', k < m → rs1[k]? = some r' → H1 r' = some (.lst (rowV A w m (Lp.re β s r) k)) := fun k r' hk => old k r' (by simpa using hk)
      refine hN _ _ ?_
      have o1 := fr _ _ Tt.o naL
      refine nxt (ps_fld (pv 0) (pm0 D_Tableau_reduced TC.c (hr.mono (by decide)) (pv 0) (pa_cons (pe_fld (pv 0) rfl) (pa_cons (pv 3) (pa_cons (pv 2) pa_nil)))) rfl) ?_
      refine ⟨_, rfl, a, _, _, rfl, o1, rfl, _, rfl, a, _, _, _, _, rfl, o1, TC.c, TC.la, rfl, _, rfl, _, rfl, a, l, ch, dx, _, A, w, m, β, m, s, r, rfl, o1, rfl, rfl, fr _ _ Tt.last nlL, fr _ _ hch ncL, S0, Nat.le_refl m, hs, by omega, hrr, fun l2 H2 nl2 e2 hl2 => ?_⟩
      refine ⟨_, rfl, a, _, _, _, rfl, e2 _ _ o1, TC.c, TC.la, (by show 5 < 1000; decide), ?_⟩
      have na2 : l2 ≠ a := (ne_of_none o1 nl2).symm
      have nl2b : l2 ≠ b := (ne_of_none (fr _ _ Tt.bas nbL) nl2).symm
      have hb2 : (upd H2 a (.ins (c.cl 6) dx (putF "last" (.ref l2) [("width", .int (w : Nat)), ("lines", .ref L), ("last", .ref l), ("basis", .ref b), ("scale", .int (dd A m β))]))) b = some (.lst (basV m β)) := by
        rw [upd_ne nab.symm]; exact e2 _ _ (fr _ _ Tt.bas nbL)
      refine nxt (ps_asg (pv 2) (pg_sub (pe_fld (pv 0) rfl) (pv 1) set_list)) ?_
      refine ⟨_, rfl, _, rfl, a, _, _, _, _, rfl, upd_same, TC.c, TC.ba, rfl, _, rfl, b, _, _, s, rfl, rfl, hb2, Evl.ixN_nat (by unfold basV; rw [List.length_map, List.length_range]; exact hs), ?_⟩
      refine last (ps_fld (pv 0) (pv 4) rfl) ?_
      refine ⟨_, rfl, _, rfl, a, _, _, _, rfl, (upd_ne nab).trans upd_same, TC.c, TC.sc, (by show 5 < 1000; decide), ?_⟩
      have keep : ∀ x o, x ≠ a → x ≠ b → H2 x = some o → (upd (upd (upd H2 a (.ins (c.cl 6) dx (putF "last" (.ref l2) [("width", .int (w : Nat)), ("lines", .ref L), ("last", .ref l), ("basis", .ref b), ("scale", .int (dd A m β))]))) b (.lst ((basV m β).set s (.int (r : Nat))))) a (.ins (c.cl 6) dx (putF "scale" (.int (tt A m β s r)) (putF "last" (.ref l2) [("width", .int (w : Nat)), ("lines", .ref L), ("last", .ref l), ("basis", .ref b), ("scale", .int (dd A m β))])))) x = some o := fun x o h1 h2 h => by
        rw [upd_ne h1, upd_ne h2, upd_ne h1]; exact h
      refine k _ l2 rs1 ⟨?_, keep L _ (Ne.symm naL) (Ne.symm nbL) (e2 _ _ hL), hn, fun i r' hr' => ?_, keep l2 _ na2 nl2b hl2, ?_⟩ fun x o h n1 n2 n3 => keep x o n1 n3 (e2 _ _ (fr x o h n2))
      · rw [upd_same, dd_re hs]
        rfl
      · have hi : i < m := by rw [← hn]; exact (List.getElem?_eq_some_iff.mp hr').1
        have h1 := old i r' hi hr'
        exact keep r' _ (ad_ne2 o1 h1).symm (ad_ne h1 (fr _ _ Tt.bas nbL) row_bas) (e2 _ _ h1)
      · rw [upd_ne nab.symm, upd_same]
        congr 2
        unfold basV
        refine List.ext_getElem? fun j => ?_
        rw [List.getElem?_set, List.getElem?_map, List.getElem?_map]
        by_cases hj : j < m
        · rw [List.getElem?_range hj, List.length_map, List.length_range]
          by_cases e : s = j
          · rw [if_pos e, if_pos hs]
            unfold Lp.re
            simp [e]
          · rw [if_neg e]
            unfold Lp.re
            simp [Ne.symm e]
        · rw [if_neg (by omega), List.getElem?_eq_none (by simp; omega)]
          rfl
end
end B
namespace B
open PySem L2
/-! k83: the mix told, the way without end told -/
section
open Lp
def rngI (n : Nat) (f : Nat → Int) : List V := (List.range n).map fun j => V.int (f j)
theorem rngI_len {n : Nat} {f : Nat → Int} : (rngI n f).length = n := by unfold rngI; rw [List.length_map, List.length_range]
theorem rngI_congr {n : Nat} {f g : Nat → Int} (h : ∀ j, j < n → f j = g j) : rngI n f = rngI n g := by
  unfold rngI
  exact List.map_congr_left fun j hj => by rw [h j (List.mem_range.mp hj)]
theorem rngI_set {n p : Nat} {f : Nat → Int} {v : Int} : (rngI n f).set p (.int v) = rngI n fun j => if j = p then v else f j := by
  unfold rngI
  refine List.ext_getElem? fun j => ?_
  rw [List.getElem?_set, List.getElem?_map, List.getElem?_map, List.length_map, List.length_range]
  by_cases hj : j < n
  · rw [List.getElem?_range hj]
    by_cases e : p = j
    · rw [if_pos e, if_pos (by omega)]
      simp [e]
    · rw [if_neg e]
      simp [Ne.symm e]
  · rw [List.getElem?_eq_none (by simp; omega)]
    by_cases e : p = j
    · rw [if_pos e, if_neg (by omega)]; rfl
    · rw [if_neg e]; rfl
theorem rep_zero (n : Nat) : (List.replicate n [V.int 0]).flatten = rngI n fun _ => 0 := by
  induction n with
  | zero => rfl
  | succ n ih =>
    rw [List.replicate_succ', List.flatten_append, ih]
    unfold rngI
    rw [List.range_succ, List.map_append]
    rfl
/-- the weights of the first i places -/
theorem wgt_step {i : Nat} {β : Nat → Nat} {a : Nat → Int} (inj : ∀ k, k < i → β k ≠ β i) (j : Nat) : S (i + 1) (fun k => if β k = j then a k else 0) = if j = β i then a i else S i fun k => if β k = j then a k else 0 := by
  rw [S]
  by_cases e : j = β i
  · rw [if_pos e, if_pos e.symm, S_zero fun k hk => by rw [e]; exact if_neg (inj k hk)]
    omega
  · rw [if_neg e, if_neg (Ne.symm e)]
    omega
def spMix (C : Addr) : Sp := fun vs H Q _ => ∃ (a dx L l b : Addr) (rs : List Addr) (A : Nat → Vc) (w m : Nat) (β : Nat → Nat), vs = [.ref a] ∧ Tb C H a dx L l b rs A w m β ∧ Sm A w m β ∧ (∀ i k, i < m → k < m → β i = β k → i = k) ∧
  ∀ q H', H q = none → Same H H' → H' q = some (.lst (rngI w (Lp.wt m β fun k => tt A m β k (w + m)))) → Q (.ref q) H'
def spEnd (C : Addr) : Sp := fun vs H Q _ => ∃ (a dx L l b : Addr) (rs : List Addr) (A : Nat → Vc) (w m : Nat) (β : Nat → Nat) (r : Nat), vs = [.ref a, .int r] ∧ Tb C H a dx L l b rs A w m β ∧ Sm A w m β ∧ (∀ i k, i < m → k < m → β i = β k → i = k) ∧ r < w + m ∧ (∀ k, k < m → β k ≠ r) ∧
  ∀ q H', H q = none → Same H H' → H' q = some (.tup (rngI w fun j => (if j = r then dd A m β else 0) + Lp.wt m β (fun k => - tt A m β k r) j)) → Q (.ref q) H'
variable {P : Program} {w_ : World} {mg : Str → Option Value} {base : Heap} {c : Ct}
theorem ok_Tableau_mix_numbers {f : Addr} {fd : FuncData} (F : Fun c.K "mix_numbers" "Tableau.mix_numbers" s_Tableau_mix_numbers f fd) (T : Bt mg) (TC : TbC c.K (c.cl 6)) : FnOk P w_ c.K mg base CX0 1 f fd ["self"] (spMix (c.cl 6)) := by
  refine F.ok sc_Tableau_mix_numbers (fun vs H Q E h => ?_) (fun cdv A outer s H vs Q E hr h => ⟨_, wb, ?_⟩)
  · obtain ⟨a, dx, L, l, b, rs, A, w, m, β, rfl, _⟩ := h
    rfl
  · obtain ⟨a, dx, L, l, b, rs, A, w, m, β, rfl, Tt, S0, inj, k⟩ := h
    have hw := S0.2.2.2
    refine nxt (ps_set (i := 1) sc_Tableau_mix_numbers.nd rfl (Or.inl rfl) (pe_op op_rep (pe_lst (pa_cons pe_int pa_nil)) (pe_fld (pv 0) rfl))) ?_
    refine ⟨(by show 1 ≤ sizeLine; decide), fun q0 n0 => ?_⟩
    refine upd_gen n0 fun H1 e1 h1 => ?_
    refine ⟨_, rfl, a, _, _, _, _, rfl, e1 _ _ Tt.o, TC.c, TC.w, rfl, q0, _, _, rfl, rfl, h1, by omega, by omega, Nat.le_of_lt (small1000 (by show 1 * _ ≤ 1000; rw [Int.toNat_natCast]; omega)), fun q n => ?_⟩
    rw [Int.toNat_natCast, rep_zero]
    refine upd_gen n fun H2 e2 h2 => ?_
    have nq : H q = none := by
      cases z : H q with
      | none => rfl
      | some o => rw [e1 q o z] at n; cases n
    have T2 := (Tt.same e1).same e2
    refine nxtN (ps_for PassesOwn.never rfl (pi_enum (by rfl) T.enumerate (pa_cons (pe_fld (pv 0) rfl) pa_nil)) (pg_tup (by rfl) (pgs_cons (pg_name (i := 2) sc_Tableau_mix_numbers.nd rfl (Or.inl rfl)) (pgs_cons (pg_name (i := 3) sc_Tableau_mix_numbers.nd rfl (Or.inl rfl)) pgs_nil))) wb) fun N hN => ?_
    have hlen : (basV m β).length = m := by unfold basV; rw [List.length_map, List.length_range]
    refine ⟨_, rfl, a, _, _, _, _, rfl, T2.o, TC.c, TC.ba, rfl, b, _, rfl, sqL T2.bas, for_it (walk_enum (K := c.K) (a := b) (xs := basV m β)) (fun i σ H' => (∃ v2 v3, σ = [some (.ref a), some (.ref q), v2, v3]) ∧ Same H H' ∧ H' q = some (.lst (rngI w fun j => S i fun k => if β k = j then tt A m β k (w + m) else 0))) ⟨⟨_, _, rfl⟩, e1.trans e2, h2⟩ (fun i σ H' _ p => sqL (p.2.1 _ _ Tt.bas)) ?_ ?_⟩
    · rintro i x σ H3 H4 hi ⟨⟨v2, v3, rfl⟩, e3, h3⟩ ⟨T2, y1, y2, rfl, nT, rfl, e5, e6⟩
      rw [hlen] at hi
      cases e5
      have e6 : (basV m β)[i]? = some y2 := e6
      unfold basV at e6
      rw [List.getElem?_map, List.getElem?_range hi] at e6
      cases e6
      have e4 : Same H (upd H3 T2 (.tup [.int (i : Nat), .int (β i : Nat)])) := e3.trans (sm_new nT)
      have h4 : (upd H3 T2 (.tup [.int (i : Nat), .int (β i : Nat)])) q = _ := sm_new nT _ _ h3
      refine ⟨T2, _, rfl, sqT upd_same, rfl, _, _, rfl, _, _, rfl, rfl, ?_⟩
      generalize upd H3 T2 (.tup [.int (i : Nat), .int (β i : Nat)]) = H5 at e4 h4
      obtain ⟨ri, _, ai, hri⟩ := Tt.line hi
      refine last (ps_if (pt_cmpR op_lt (pv 3) (pe_fld (pv 0) rfl) (nomark _)) (pss_one (ps_asg (pe_ix ix_list (pe_ix ix_list (pe_fld (pv 0) rfl) (pv 2) (fun _ _ => rfl)) (pe_un un_neg pe_int) (fun _ _ => rfl)) (pg_sub (pv 1) (pv 3) set_list))) pss_nil) ?_
      refine ⟨_, rfl, _, rfl, a, _, _, _, _, rfl, e4 _ _ Tt.o, TC.c, TC.w, rfl, _, _, rfl, rfl, _, rfl, ?_⟩
      refine ite2 (fun hp => ?_) (fun hp => ?_)
      · have hp : β i < w := by have := of_decide_eq_true hp; omega
        refine ⟨_, rfl, a, _, _, _, _, rfl, e4 _ _ Tt.o, TC.c, TC.li, rfl, _, rfl, L, _, _, _, rfl, rfl, sqL (e4 _ _ Tt.L), ai, _, rfl, ri, _, _, _, rfl, rfl, sqL (e4 _ _ hri), row_end, _, rfl, _, rfl, q, _, _, β i, rfl, rfl, h4, Evl.ixN_nat (by rw [rngI_len]; exact hp), ?_⟩
        refine ⟨⟨_, _, rfl⟩, fun b o hb => by rw [upd_ne (ne_of_none hb nq)]; exact e4 b o hb, ?_⟩
        rw [upd_same, rngI_set]
        congr 2
        exact rngI_congr fun j _ => (wgt_step (fun k hk e => by have := inj k i (by omega) hi e; omega) j).symm
      · have hp : ¬ β i < w := fun z => hp (decide_eq_true (by omega))
        refine ⟨⟨_, _, rfl⟩, e4, ?_⟩
        rw [h4]
        congr 2
        exact rngI_congr fun j hj => by rw [wgt_step (fun k hk e => by have := inj k i (by omega) hi e; omega) j, if_neg (by omega)]
    · rintro σ H3 ⟨⟨v2, v3, rfl⟩, e3, h3⟩
      rw [hlen] at h3
      refine hN _ _ ?_
      refine last (ps_ret (pv 1)) ?_
      exact ⟨_, rfl, k q H3 nq e3 h3⟩
theorem ok_Tableau_endless_numbers {f : Addr} {fd : FuncData} (F : Fun c.K "endless_numbers" "Tableau.endless_numbers" s_Tableau_endless_numbers f fd) (T : Bt mg) (TC : TbC c.K (c.cl 6)) : FnOk P w_ c.K mg base CX0 1 f fd ["self", "column"] (spEnd (c.cl 6)) := by
  refine F.ok sc_Tableau_endless_numbers (fun vs H Q E h => ?_) (fun cdv A outer s H vs Q E hr h => ⟨_, wb, ?_⟩)
  · obtain ⟨a, dx, L, l, b, rs, A, w, m, β, r, rfl, _⟩ := h
    rfl
  · obtain ⟨a, dx, L, l, b, rs, A, w, m, β, r, rfl, Tt, S0, inj, hr0, out, k⟩ := h
    have hw := S0.2.2.2
    refine nxt (ps_set (i := 2) sc_Tableau_endless_numbers.nd rfl (Or.inl rfl) (pe_op op_rep (pe_lst (pa_cons pe_int pa_nil)) (pe_fld (pv 0) rfl))) ?_
    refine ⟨(by show 1 ≤ sizeLine; decide), fun q0 n0 => ?_⟩
    refine upd_gen n0 fun H1 e1 h1 => ?_
    refine ⟨_, rfl, a, _, _, _, _, rfl, e1 _ _ Tt.o, TC.c, TC.w, rfl, q0, _, _, rfl, rfl, h1, by omega, by omega, Nat.le_of_lt (small1000 (by show 1 * _ ≤ 1000; rw [Int.toNat_natCast]; omega)), fun q n => ?_⟩
    rw [Int.toNat_natCast, rep_zero]
    refine upd_gen n fun H2 e2 h2 => ?_
    have nq : H q = none := by
      cases z : H q with
      | none => rfl
      | some o => rw [e1 q o z] at n; cases n
    have e12 := e1.trans e2
    refine nxtC (ps_if (pt_cmpR op_lt (pv 1) (pe_fld (pv 0) rfl) (nomark _)) (pss_one (ps_asg (pe_fld (pv 0) rfl) (pg_sub (pv 2) (pv 1) set_list))) pss_nil) (fun σ' H' => σ' = [some (.ref a), some (.int (r : Nat)), some (.ref q), none, none] ∧ Same H H' ∧ H' q = some (.lst (rngI w fun j => if j = r then dd A m β else 0))) ?_ ?_
    · refine ⟨_, rfl, _, rfl, a, _, _, _, _, rfl, e12 _ _ Tt.o, TC.c, TC.w, rfl, _, _, rfl, rfl, _, rfl, ?_⟩
      refine ite2 (fun hp => ?_) (fun hp => ?_)
      · have hp : r < w := by have := of_decide_eq_true hp; omega
        refine ⟨_, rfl, a, _, _, _, _, rfl, e12 _ _ Tt.o, TC.c, TC.sc, rfl, _, rfl, _, rfl, q, _, _, r, rfl, rfl, h2, Evl.ixN_nat (by rw [rngI_len]; exact hp), ?_⟩
        refine ⟨rfl, fun b o hb => by rw [upd_ne (ne_of_none hb nq)]; exact e12 b o hb, ?_⟩
        rw [upd_same, rngI_set]
      · have hp : ¬ r < w := fun z => hp (decide_eq_true (by omega))
        refine ⟨rfl, e12, ?_⟩
        rw [h2]
        congr 2
        exact rngI_congr fun j hj => (if_neg (by omega)).symm
    rintro σ' H3 ⟨rfl, e3, h3⟩
    have T3 := Tt.same e3
    refine nxtN (ps_for PassesOwn.never rfl (pi_enum (by rfl) T.enumerate (pa_cons (pe_fld (pv 0) rfl) pa_nil)) (pg_tup (by rfl) (pgs_cons (pg_name (i := 3) sc_Tableau_endless_numbers.nd rfl (Or.inl rfl)) (pgs_cons (pg_name (i := 4) sc_Tableau_endless_numbers.nd rfl (Or.inl rfl)) pgs_nil))) wb) fun N hN => ?_
    have hlen : (basV m β).length = m := by unfold basV; rw [List.length_map, List.length_range]
    refine ⟨_, rfl, a, _, _, _, _, rfl, T3.o, TC.c, TC.ba, rfl, b, _, rfl, sqL T3.bas, for_it (walk_enum (K := c.K) (a := b) (xs := basV m β)) (fun i σ H' => (∃ v2 v3, σ = [some (.ref a), some (.int (r : Nat)), some (.ref q), v2, v3]) ∧ Same H H' ∧ H' q = some (.lst (rngI w fun j => (if j = r then dd A m β else 0) + S i fun k => if β k = j then - tt A m β k r else 0))) ⟨⟨_, _, rfl⟩, e3, ?_⟩ (fun i σ H' _ p => sqL (p.2.1 _ _ Tt.bas)) ?_ ?_⟩
    · rw [h3]
      congr 2
      exact rngI_congr fun j _ => by rw [S]; omega
    · rintro i x σ H3 H4 hi ⟨⟨v2, v3, rfl⟩, e3, h3⟩ ⟨T2, y1, y2, rfl, nT, rfl, e5, e6⟩
      rw [hlen] at hi
      cases e5
      have e6 : (basV m β)[i]? = some y2 := e6
      unfold basV at e6
      rw [List.getElem?_map, List.getElem?_range hi] at e6
      cases e6
      have e4 : Same H (upd H3 T2 (.tup [.int (i : Nat), .int (β i : Nat)])) := e3.trans (sm_new nT)
      have h4 : (upd H3 T2 (.tup [.int (i : Nat), .int (β i : Nat)])) q = _ := sm_new nT _ _ h3
      refine ⟨T2, _, rfl, sqT upd_same, rfl, _, _, rfl, _, _, rfl, rfl, ?_⟩
      generalize upd H3 T2 (.tup [.int (i : Nat), .int (β i : Nat)]) = H5 at e4 h4
      obtain ⟨ri, _, ai, hri⟩ := Tt.line hi
      have st := wgt_step (i := i) (β := β) (a := fun k => - tt A m β k r) (fun k hk e => by have := inj k i (by omega) hi e; omega)
      refine last (ps_if (pt_cmpR op_lt (pv 4) (pe_fld (pv 0) rfl) (nomark _)) (pss_one (ps_asg (pe_un un_neg (pe_ix ix_list (pe_ix ix_list (pe_fld (pv 0) rfl) (pv 3) (fun _ _ => rfl)) (pv 1) (fun _ _ => rfl))) (pg_sub (pv 2) (pv 4) set_list))) pss_nil) ?_
      refine ⟨_, rfl, _, rfl, a, _, _, _, _, rfl, e4 _ _ Tt.o, TC.c, TC.w, rfl, _, _, rfl, rfl, _, rfl, ?_⟩
      refine ite2 (fun hp => ?_) (fun hp => ?_)
      · have hp : β i < w := by have := of_decide_eq_true hp; omega
        refine ⟨_, rfl, a, _, _, _, _, rfl, e4 _ _ Tt.o, TC.c, TC.li, rfl, _, rfl, L, _, _, _, rfl, rfl, sqL (e4 _ _ Tt.L), ai, _, rfl, ri, _, _, _, rfl, rfl, sqL (e4 _ _ hri), row_at (Nat.le_of_lt hr0), _, rfl, _, rfl, _, rfl, q, _, _, β i, rfl, rfl, h4, Evl.ixN_nat (by rw [rngI_len]; exact hp), ?_⟩
        refine ⟨⟨_, _, rfl⟩, fun b o hb => by rw [upd_ne (ne_of_none hb nq)]; exact e4 b o hb, ?_⟩
        rw [upd_same, rngI_set]
        congr 2
        refine rngI_congr fun j _ => ?_
        rw [st j]
        by_cases e : j = β i
        · rw [if_pos e, if_pos e, if_neg (fun z => out i hi (by rw [← e]; exact z))]
          omega
        · rw [if_neg e, if_neg e]
      · have hp : ¬ β i < w := fun z => hp (decide_eq_true (by omega))
        refine ⟨⟨_, _, rfl⟩, e4, ?_⟩
        rw [h4]
        congr 2
        exact rngI_congr fun j hj => by rw [st j, if_neg (show ¬ j = β i by omega)]
    · rintro σ H3 ⟨⟨v2, v3, rfl⟩, e3, h3⟩
      rw [hlen] at h3
      refine hN _ _ ?_
      refine last (ps_ret (pe_callTy call_tuple_of (by rfl) T.tuple (by decide +kernel) (pa_cons (pv 2) pa_nil))) ?_
      refine ⟨_, rfl, q, _, rfl, .inl ⟨sqL h3, fun q2 n2 => ?_⟩⟩
      refine upd_gen n2 fun H4 e4 h4 => ?_
      have nq2 : H q2 = none := by
        cases z : H q2 with
        | none => rfl
        | some o => rw [e3 q2 o z] at n2; cases n2
      exact k q2 H4 nq2 (e3.trans e4) h4
end
end B
namespace B
open PySem L2
/-! k83: the greatest divisor; a program looked at -/
section
def IL (K : PySem.W.Frag) (H : Hp) (v : V) (xs : List Int) : Prop := ∃ p, v = .ref p ∧ Sq K H p (xs.map V.int)
def ML (K : PySem.W.Frag) (H : Hp) (v : V) (M : List (List Int)) : Prop := ∃ (p : Addr) (vs : List V), v = .ref p ∧ Sq K H p vs ∧ vs.length = M.length ∧ ∀ (i : Nat) (x : V) (r : List Int), vs[i]? = some x → M[i]? = some r → IL K H x r
theorem IL.same {K : PySem.W.Frag} {H H' : Hp} {v : V} {xs : List Int} (h : IL K H v xs) (e : Same H H') : IL K H' v xs := let ⟨p, a, b⟩ := h; ⟨p, a, b.same e⟩
theorem ML.same {K : PySem.W.Frag} {H H' : Hp} {v : V} {M : List (List Int)} (h : ML K H v M) (e : Same H H') : ML K H' v M := let ⟨p, vs, a, b, c, d⟩ := h; ⟨p, vs, a, b.same e, c, fun i x r h1 h2 => (d i x r h1 h2).same e⟩
def rowBad (w : Nat) : List (List Int) → Option (Nat × Str × Int)
  | [] => none
  | r :: rs => if r.length ≠ w then some (4, "count", r.length) else rowBad w rs
def capBad : List Int → Option (Nat × Str × Int)
  | [] => none
  | b :: bs => if b < 0 then some (19, "bound", b) else capBad bs
def chkP (rows : List (List Int)) (caps gains : List Int) : Option (Nat × Str × Int) :=
  if caps.length ≠ rows.length then some (4, "count", caps.length) else match rowBad gains.length rows with
    | some e => some e
    | none => capBad caps
def spGcd : Sp := fun vs H Q _ => ∃ x y : Nat, vs = [.int x, .int y] ∧ Q (.int (Nat.gcd x y : Nat)) H
/-- an answer, or an error of one field -/
def spOr (ec : Nat → Addr) (H : Hp) (E : XK) (r : Option (Nat × Str × Int)) (ok : Prop) : Prop := match r with
  | none => ok
  | some (n, f, z) => ∀ d H', H d = none → Same H H' → H' d = some (.xd [(f, .int z)]) → E (.ref (ec n)) (some d) H'
def spCheck (c : Ct) : Sp := fun vs H Q E => ∃ (rv bv gv : V) (rows : List (List Int)) (caps gains : List Int), vs = [rv, bv, gv] ∧ ML c.K H rv rows ∧ IL c.K H bv caps ∧ IL c.K H gv gains ∧ spOr c.ec H E (chkP rows caps gains) (∀ H', Same H H' → Q .non H')
variable {P : Program} {w_ : World} {mg : Str → Option Value} {base : Heap} {c : Ct}
theorem ok_common_divisor {f : Addr} {fd : FuncData} (F : Fun c.K "common_divisor" "common_divisor" s_common_divisor f fd) (T : Bt mg) : FnOk P w_ c.K mg base CX0 1 f fd ["first", "second"] spGcd := by
  refine F.ok sc_common_divisor (fun vs H Q E h => ?_) (fun cdv A outer s H vs Q E hr h => ⟨_, wb, ?_⟩)
  · obtain ⟨x, y, rfl, _⟩ := h
    rfl
  · obtain ⟨x, y, rfl, k⟩ := h
    refine nxtN (ps_while PassesOwn.never (pt_cmpR op_ne (pv 1) pe_int (nomark _)) wb) fun N hN => ?_
    refine ⟨fun m σ H' => H' = H ∧ ∃ u : Nat, σ = [some (.int (u : Nat)), some (.int (m : Nat))] ∧ Nat.gcd u m = Nat.gcd x y, ⟨y, rfl, x, rfl, rfl⟩, ?_⟩
    rintro m σ H1 ⟨rfl, u, rfl, hg⟩
    refine ⟨_, rfl, rfl, _, rfl, ?_⟩
    refine ite2 (fun hp => ?_) (fun hp => ?_)
    · have hm : 0 < m := by
        rcases Nat.eq_zero_or_pos m with z | z
        · subst z; simp at hp
        · exact z
      refine ⟨_, fun _ _ h => h, ?_⟩
      refine last (ps_par (i := 0) (j := 1) (by rfl) sc_common_divisor.nd rfl rfl (by decide) rfl rfl (pa_cons (pv 1) (pa_cons (pe_op op_mod (pv 0) (pv 1)) pa_nil)) (by rfl)) ?_
      refine ⟨_, rfl, _, rfl, _, rfl, _, _, rfl, rfl, by omega, _, _, rfl, u % m, Nat.mod_lt _ hm, rfl, m, rfl, ?_⟩
      rw [← hg, Nat.gcd_comm u m, Nat.gcd_rec m u, Nat.gcd_comm]
    · have hm : m = 0 := by
        have : ¬ (V.int (m : Nat) ≠ V.int 0) := fun z => hp (by rw [decide_eq_false z]; rfl)
        have := V.int.inj (Classical.byContradiction this)
        omega
      subst hm
      refine hN _ _ ?_
      refine last (ps_ret (pv 0)) ?_
      refine ⟨_, rfl, ?_⟩
      rw [← hg, Nat.gcd_zero_right] at k
      exact k
theorem int_ne {a b : Nat} : ((!decide (V.int (a : Nat) = V.int (b : Nat))) = true) ↔ a ≠ b := by
  constructor
  · intro h e
    subst e
    simp at h
  · intro h
    rw [decide_eq_false (fun z => h (by have := V.int.inj z; omega))]
    rfl
theorem ok_check_program {f : Addr} {fd : FuncData} (F : Fun c.K "check_program" "check_program" s_check_program f fd) (T : Bt mg) (X_BadCount : ExcD P w_ c.K mg base 1 "BadCount" (c.ec 4) "count") (X_BadBound : ExcD P w_ c.K mg base 1 "BadBound" (c.ec 19) "bound") : FnOk P w_ c.K mg base (L2.CX P w_) 4 f fd ["rows", "bounds", "worths"] (spCheck c) := by
  refine F.okX sc_check_program (fun vs H Q E h => ?_) (fun cdv A outer s H vs Q E hr h => ⟨_, wb, ?_⟩)
  · obtain ⟨rv, bv, gv, rows, caps, gains, rfl, _⟩ := h
    rfl
  · obtain ⟨rv, bv, gv, rows, caps, gains, rfl, hM, ⟨pb, rfl, hB⟩, ⟨pg, rfl, hG⟩, k⟩ := h
    obtain ⟨pr, vs, rfl, hR, hl, hrow⟩ := hM
    have tk := takes_of (X := cxOf (L2.CX P w_) P w_ c.K mg base ["rows", "bounds", "worths", "row", "bound"] "check_program" (defScope s_check_program) f cdv A outer s H E) (E := E) rfl rfl rfl rfl
    refine nxtN (ps_if (pt_cmpR op_ne (pe_callB call_len_seq (by rfl) T.len PySem.boot_len (pa_cons (pv 1) pa_nil)) (pe_callB call_len_seq (by rfl) T.len PySem.boot_len (pa_cons (pv 0) pa_nil)) (nomark _)) (pss_one (raise1 X_BadCount (hr.mono (by decide)) rfl tk (pe_callB call_len_seq (by rfl) T.len PySem.boot_len (pa_cons (pv 1) pa_nil)))) pss_nil) fun N hN => ?_
    refine ⟨_, rfl, pb, _, rfl, hB, _, rfl, pr, _, rfl, hR, rfl, _, rfl, ?_⟩
    rw [List.length_map, hl]
    unfold chkP at k
    refine ite2 (fun c1 => ?_) (fun c1 => ?_)
    · rw [if_pos (int_ne.mp c1)] at k
      refine ⟨_, rfl, pb, _, rfl, hB, fun d H2 nd e2 h2 => ?_⟩
      rw [List.length_map] at h2
      exact k d H2 nd e2 h2
    · rw [if_neg (fun z => c1 (int_ne.mpr z))] at k
      refine hN _ _ ?_
      refine nxtN (ps_for (passes_of rfl) rfl (pi_seq (pv 0)) (pg_name (i := 3) sc_check_program.nd rfl (Or.inl rfl)) wb) fun N2 hN2 => ?_
      refine ⟨_, rfl, pr, rfl, for_sq hR (fun i σ H' => (∃ v, σ = [some (.ref pr), some (.ref pb), some (.ref pg), v, none]) ∧ Same H H' ∧ rowBad gains.length rows = rowBad gains.length (rows.drop i)) ⟨⟨_, rfl⟩, Same.refl H, rfl⟩ (fun i σ' H' p => p.2.1) ?_ ?_⟩
      · rintro i x σ' H2 hi ⟨⟨v, rfl⟩, e2, hb⟩
        have hil : i < rows.length := by rw [← hl]; exact (List.getElem?_eq_some_iff.mp hi).1
        obtain ⟨px, rfl, hx⟩ := hrow i x rows[i] hi (List.getElem?_eq_getElem hil)
        rw [List.drop_eq_getElem_cons hil, rowBad] at hb
        refine last (ps_if (pt_cmpR op_ne (pe_callB call_len_seq (by rfl) T.len PySem.boot_len (pa_cons (pv 3) pa_nil)) (pe_callB call_len_seq (by rfl) T.len PySem.boot_len (pa_cons (pv 2) pa_nil)) (nomark _)) (pss_one (raise1 X_BadCount (hr.mono (by decide)) rfl tk (pe_callB call_len_seq (by rfl) T.len PySem.boot_len (pa_cons (pv 3) pa_nil)))) pss_nil) ?_
        refine ⟨_, rfl, px, _, rfl, hx.same e2, _, rfl, pg, _, rfl, hG.same e2, rfl, _, rfl, ?_⟩
        rw [List.length_map, List.length_map]
        refine ite2 (fun c2 => ?_) (fun c2 => ?_)
        · rw [if_pos (int_ne.mp c2)] at hb
          rw [hb] at k
          refine ⟨_, rfl, px, _, rfl, hx.same e2, fun d H3 nd e3 h3 => ?_⟩
          rw [List.length_map] at h3
          exact k d H3 (e2.free nd) (e2.trans e3) h3
        · rw [if_neg (fun z => c2 (int_ne.mpr z))] at hb
          exact ⟨⟨_, rfl⟩, e2, hb⟩
      · rintro σ' H2 ⟨⟨v, rfl⟩, e2, hb⟩
        rw [hl, List.drop_length, rowBad] at hb
        rw [hb] at k
        refine hN2 _ _ ?_
        refine last (ps_for (passes_of rfl) rfl (pi_seq (pv 1)) (pg_name (i := 4) sc_check_program.nd rfl (Or.inl rfl)) wb) ?_
        refine ⟨_, rfl, pb, rfl, for_sq hB (fun i σ H' => (∃ v v2, σ = [some (.ref pr), some (.ref pb), some (.ref pg), v, v2]) ∧ Same H H' ∧ capBad caps = capBad (caps.drop i)) ⟨⟨_, _, rfl⟩, e2, rfl⟩ (fun i σ' H' p => p.2.1) ?_ ?_⟩
        · rintro i x σ' H3 hi ⟨⟨v, v2, rfl⟩, e3, hb3⟩
          have hil : i < caps.length := by have := (List.getElem?_eq_some_iff.mp hi).1; rw [List.length_map] at this; exact this
          rw [List.getElem?_map, List.getElem?_eq_getElem hil] at hi
          cases hi
          rw [List.drop_eq_getElem_cons hil, capBad] at hb3
          refine last (ps_if (pt_cmpR op_lt (pv 4) pe_int (nomark _)) (pss_one (raise1 X_BadBound (hr.mono (by decide)) rfl tk (pv 4))) pss_nil) ?_
          refine ⟨_, rfl, _, _, rfl, rfl, _, rfl, ?_⟩
          refine ite2 (fun c2 => ?_) (fun c2 => ?_)
          · rw [if_pos (of_decide_eq_true c2)] at hb3
            rw [hb3] at k
            exact ⟨_, rfl, fun d H4 nd e4 h4 => k d H4 (e3.free nd) (e3.trans e4) h4⟩
          · rw [if_neg (fun z => c2 (decide_eq_true z))] at hb3
            exact ⟨⟨_, _, rfl⟩, e3, hb3⟩
        · rintro σ' H3 ⟨⟨v, v2, rfl⟩, e3, hb3⟩
          rw [List.length_map, List.drop_length, capBad] at hb3
          rw [hb3] at k
          exact k H3 e3
end
end B
namespace B
open PySem L2
/-! k83: a tableau made -/
section
variable {K : PySem.W.Frag} {a : Addr} {xs : List V}
theorem walk_enumT : Walk (IteT K a) xs.length (fun H => SqT K H a xs) (YPair (fun i => some (.int (i : Nat))) (fun i => xs[i]?)) := by
  refine ⟨fun i _ hi q => ⟨xs, xs[i], q, by simp [hi]⟩, fun _ q => ⟨xs, q, rfl⟩, fun i H v H' _ q y => ?_⟩
  obtain ⟨T, x, h1, h2, h3, h4⟩ := y
  exact ⟨T, .int (i : Nat), x, h1, h2, h3, rfl, h4 xs q⟩
/-- for i, x in enumerate(xs), a list or a tuple -/
theorem for_enq {g : TG} {tb : TS} {D : Ends} {σ : L2.St} {H : Hp} (Pv : Nat → L2.St → Hp → Prop) (h0 : Pv 0 σ H) (hq : (∀ i σ' H', Pv i σ' H' → SqL K H' a xs) ∨ ∀ i σ' H', Pv i σ' H' → SqT K H' a xs)
    (hs : ∀ i x T σ' H', i < xs.length → Pv i σ' H' → xs[i]? = some x → H' T = none → g (.ref T) σ' (upd H' T (.tup [.int (i : Nat), x])) fun σ2 H2 => tb { D with nx := Pv (i + 1), ct := Pv (i + 1), bk := D.nx } σ2 H2) (hd : ∀ σ' H', Pv xs.length σ' H' → D.nx σ' H') :
    (SqL K H a xs ∧ ∃ W : Nat → Nat → L2.St → Hp → Prop, (∃ m, W 0 m σ H) ∧ ∀ i m σ H, W i m σ H →
      ((Ite K a).stop i H ∧ D.nx σ H) ∨ ((Ite K a).go i H ∧ ∃ N : L2.St → Hp → Prop, (∀ σ' H', N σ' H' → ∃ m', m' < m ∧ W (i + 1) m' σ' H') ∧ ∀ x H', (Ite K a).yld i H x H' → g x σ H' fun σ2 H2 => tb { D with nx := N, ct := N, bk := D.nx } σ2 H2)) ∨
    (SqT K H a xs ∧ ∃ W : Nat → Nat → L2.St → Hp → Prop, (∃ m, W 0 m σ H) ∧ ∀ i m σ H, W i m σ H →
      ((IteT K a).stop i H ∧ D.nx σ H) ∨ ((IteT K a).go i H ∧ ∃ N : L2.St → Hp → Prop, (∀ σ' H', N σ' H' → ∃ m', m' < m ∧ W (i + 1) m' σ' H') ∧ ∀ x H', (IteT K a).yld i H x H' → g x σ H' fun σ2 H2 => tb { D with nx := N, ct := N, bk := D.nx } σ2 H2)) := by
  rcases hq with hq | hq
  · refine .inl ⟨hq _ _ _ h0, for_it (walk_enum (K := K) (a := a) (xs := xs)) Pv h0 (fun i σ' H' _ p => hq i σ' H' p) (fun i x σ' H1 H2 hi p y => ?_) hd⟩
    obtain ⟨T, y1, y2, rfl, nT, rfl, e5, e6⟩ := y
    cases e5
    exact hs i y2 T σ' H1 hi p e6 nT
  · refine .inr ⟨hq _ _ _ h0, for_it (walk_enumT (K := K) (a := a) (xs := xs)) Pv h0 (fun i σ' H' _ p => hq i σ' H' p) (fun i x σ' H1 H2 hi p y => ?_) hd⟩
    obtain ⟨T, y1, y2, rfl, nT, rfl, e5, e6⟩ := y
    cases e5
    exact hs i y2 T σ' H1 hi p e6 nT
end
section
open Lp
def AX (rows : List (List Int)) (caps gains : List Int) : Nat → Vc := fun j r =>
  if j < gains.length then (if r < rows.length then (rows.getD r []).getD j 0 else if r = rows.length then - gains.getD j 0 else 0)
  else if j < gains.length + rows.length then un (j - gains.length) r else if r < rows.length then caps.getD r 0 else 0
theorem ax_prg (rows : List (List Int)) (caps gains : List Int) : Prg (AX rows caps gains) gains.length rows.length := by
  refine ⟨fun k hk => ?_, ?_⟩
  · funext r
    unfold AX
    rw [if_neg (by omega), if_pos (by omega), Nat.add_sub_cancel_left]
  · unfold AX
    rw [if_neg (by omega), if_neg (by omega), if_neg (by omega)]
theorem rngI_add (a b : Nat) (f : Nat → Int) : rngI (a + b) f = rngI a f ++ rngI b fun k => f (a + k) := by
  unfold rngI
  rw [List.range_add, List.map_append, List.map_map]
  rfl
theorem rngI_of (xs : List Int) (f : Nat → Int) (h : ∀ j, j < xs.length → f j = xs.getD j 0) : rngI xs.length f = xs.map V.int := by
  unfold rngI
  refine List.ext_getElem? fun j => ?_
  rw [List.getElem?_map, List.getElem?_map]
  by_cases hj : j < xs.length
  · rw [List.getElem?_range hj, List.getElem?_eq_getElem hj]
    simp [h j hj, List.getD_eq_getElem?_getD, hj]
  · rw [List.getElem?_eq_none (by simp; omega), List.getElem?_eq_none (by omega)]; rfl
theorem rowV_rng {A : Nat → Vc} {w m : Nat} {β : Nat → Nat} {i : Nat} : rowV A w m β i = rngI (w + m + 1) fun j => tt A m β i j := rfl
theorem ax_row {rows : List (List Int)} {caps gains : List Int} (hc : caps.length = rows.length) {i : Nat} (hi : i < rows.length) (hr : rows[i].length = gains.length) : rowV (AX rows caps gains) gains.length rows.length (fun k => gains.length + k) i = rows[i].map V.int ++ (rngI rows.length (fun o => if o = i then 1 else 0) ++ [V.int caps[i]]) := by
  rw [rowV_rng, rngI_congr (g := fun j => AX rows caps gains j i) fun j _ => tt_first (ax_prg rows caps gains).sl (Nat.le_of_lt hi) j, Nat.add_assoc, rngI_add, rngI_add]
  congr 1
  · rw [← hr]
    refine rngI_of _ _ fun j hj => ?_
    unfold AX
    rw [if_pos (by omega), if_pos hi]
    simp [List.getD_eq_getElem?_getD, hi]
  · congr 1
    · refine rngI_congr fun o ho => ?_
      rw [(ax_prg rows caps gains).sl o ho]
      unfold un
      by_cases e : i = o
      · rw [if_pos e, if_pos e.symm]
      · rw [if_neg e, if_neg (Ne.symm e)]
    · show [V.int (AX rows caps gains (gains.length + (rows.length + 0)) i)] = _
      unfold AX
      rw [if_neg (by omega), if_neg (by omega), if_pos hi]
      simp [List.getD_eq_getElem?_getD, hc, hi]
theorem ax_last {rows : List (List Int)} {caps gains : List Int} : rowV (AX rows caps gains) gains.length rows.length (fun k => gains.length + k) rows.length = (gains.map fun z => V.int (- z)) ++ rngI (rows.length + 1) fun _ => 0 := by
  rw [rowV_rng, rngI_congr (g := fun j => AX rows caps gains j rows.length) fun j _ => tt_first (ax_prg rows caps gains).sl (Nat.le_refl _) j, Nat.add_assoc, rngI_add]
  congr 1
  · have e : gains.map (fun z => V.int (- z)) = (gains.map fun z => - z).map V.int := by rw [List.map_map]; rfl
    rw [e]
    have := rngI_of (gains.map fun z => - z) (fun j => AX rows caps gains j rows.length) fun j hj => by
      have hj : j < gains.length := by simpa using hj
      unfold AX
      rw [if_pos hj, if_neg (by omega), if_pos rfl]
      simp [List.getD_eq_getElem?_getD, hj]
    rw [List.length_map] at this
    exact this
  · refine rngI_congr fun k hk => ?_
    unfold AX
    rw [if_neg (by omega)]
    by_cases h : k < rows.length
    · rw [if_pos (by omega)]
      unfold un
      rw [if_neg (by omega)]
    · rw [if_neg (by omega), if_neg (by omega)]
end
end B
namespace B
open PySem L2
/-! k83: Tableau.__init__ -/
section
open Lp
theorem sq_fr {K : PySem.W.Frag} {H H' : Hp} {a C dx p : Addr} {fs : List (Str × V)} {xs : List V} (ha : H a = some (.ins C dx fs)) (fr : ∀ x o, H x = some o → x ≠ a → H' x = some o) (h : Sq K H p xs) : Sq K H' p xs := by
  have ne : ∀ {o : HO}, H p = some o → (∀ C dx fs, o ≠ .ins C dx fs) → p ≠ a := fun {o} h n e => by
    rw [e, ha] at h
    exact n _ _ _ (Option.some.inj h).symm
  rcases h with ((h | ⟨o, h⟩) | h) | ((h | ⟨o, h⟩) | h)
  · exact .inl (.inl (.inl (fr _ _ h (ne h fun _ _ _ z => nomatch z))))
  · exact .inl (.inl (.inr ⟨o, fr _ _ h (ne h fun _ _ _ z => nomatch z)⟩))
  · exact .inl (.inr h)
  · exact .inr (.inl (.inl (fr _ _ h (ne h fun _ _ _ z => nomatch z))))
  · exact .inr (.inl (.inr ⟨o, fr _ _ h (ne h fun _ _ _ z => nomatch z)⟩))
  · exact .inr (.inr h)
/-- a comprehension over a list or a tuple -/
theorem lc_sq {K : PySem.W.Frag} {a : Addr} {xs : List V} {g : TG} {tt : TT} {te : TE} {vs : List Nat} {σ : L2.St} {H1 : Hp} {Qd : Addr → Hp → Prop} (h : Sq K H1 a xs) (Pv : Addr → Nat → Hp → Prop) (h0 : ∀ D, H1 D = none → Pv D 0 (upd H1 D (.lst []))) (hk : ∀ D i H, H1 D = none → Pv D i H → Same H1 H)
    (hs : ∀ D i x H, H1 D = none → xs[i]? = some x → Pv D i H → g x (wipe σ vs) H fun σ2 H2 => wipe σ2 vs = wipe σ vs ∧ tt σ2 H2 fun b H3 =>
      if b = true then te σ2 H3 fun y H4 => ∃ acc, H4 D = some (.lst acc) ∧ acc.length < sizeLine ∧ Pv D (i + 1) (upd H4 D (.lst (acc ++ [y]))) else Pv D (i + 1) H3) (hd : ∀ D H, H1 D = none → Pv D xs.length H → Qd D H) :
    ((∃ xs, SqL K H1 a xs) ∧ ∀ D, H1 D = none → ∃ W : Nat → Nat → Hp → Prop, (∃ m, W 0 m (upd H1 D (.lst []))) ∧ ∀ i m H, W i m H →
      ((Itl K a).stop i H ∧ Qd D H) ∨ ((Itl K a).go i H ∧ ∃ Nx : Hp → Prop, (∀ H', Nx H' → ∃ m', m' < m ∧ W (i + 1) m' H') ∧ ∀ x H', (Itl K a).yld i H x H' → g x (wipe σ vs) H' fun σ2 H2 => wipe σ2 vs = wipe σ vs ∧ tt σ2 H2 fun b H3 =>
        if b = true then te σ2 H3 fun y H4 => ∃ acc, H4 D = some (.lst acc) ∧ acc.length < sizeLine ∧ Nx (upd H4 D (.lst (acc ++ [y]))) else Nx H3)) ∨
    ((∃ xs, SqT K H1 a xs) ∧ ∀ D, H1 D = none → ∃ W : Nat → Nat → Hp → Prop, (∃ m, W 0 m (upd H1 D (.lst []))) ∧ ∀ i m H, W i m H →
      ((Itt K a).stop i H ∧ Qd D H) ∨ ((Itt K a).go i H ∧ ∃ Nx : Hp → Prop, (∀ H', Nx H' → ∃ m', m' < m ∧ W (i + 1) m' H') ∧ ∀ x H', (Itt K a).yld i H x H' → g x (wipe σ vs) H' fun σ2 H2 => wipe σ2 vs = wipe σ vs ∧ tt σ2 H2 fun b H3 =>
        if b = true then te σ2 H3 fun y H4 => ∃ acc, H4 D = some (.lst acc) ∧ acc.length < sizeLine ∧ Nx (upd H4 D (.lst (acc ++ [y]))) else Nx H3)) := by
  rcases h with h | h
  · exact .inl ⟨⟨_, h⟩, fun D nD => lc_list (K := K) (a := a) (xs := xs) (Pv D) (h0 D nD) (fun i H _ p => sm_l (hk D i H nD p) h) (fun i x H hi p => hs D i x H nD hi p) fun H p => hd D H nD p⟩
  · exact .inr ⟨⟨_, h⟩, fun D nD => lc_tup (K := K) (a := a) (xs := xs) (Pv D) (h0 D nD) (fun i H _ p => sm_t (hk D i H nD p) h) (fun i x H hi p => hs D i x H nD hi p) fun H p => hd D H nD p⟩
theorem rget_sq {K : PySem.W.Frag} {H : Hp} {p : Addr} {xs : List Int} {j : Nat} {Q : VK} (h : Sq K H p (xs.map V.int)) (hj : j < xs.length) (q : Q (.int xs[j]) H) : rGetA K (.ref p) (.int (j : Nat)) H Q := by
  have at1 : atI (xs.map V.int) (j : Int) = some (.int xs[j]) := atI_nat (by rw [List.getElem?_map, List.getElem?_eq_getElem hj]; rfl)
  rcases h with h | h
  · exact .inl ⟨p, _, _, _, rfl, rfl, h, at1, q⟩
  · exact .inr (.inl ⟨p, _, _, _, rfl, rfl, h, at1, q⟩)
theorem rngI_succ (n : Nat) (f : Nat → Int) : rngI (n + 1) f = rngI n f ++ [V.int (f n)] := by
  unfold rngI
  rw [List.range_succ, List.map_append]
  rfl
def spIni (c : Ct) : Sp := fun vs H Q _ => ∃ (a dx : Addr) (rv bv gv : V) (rows : List (List Int)) (caps gains : List Int), vs = [.ref a, rv, bv, gv] ∧ H a = some (.ins (c.cl 6) dx []) ∧ ML c.K H rv rows ∧ IL c.K H bv caps ∧ IL c.K H gv gains ∧ caps.length = rows.length ∧ (∀ (i : Nat) (r : List Int), rows[i]? = some r → r.length = gains.length) ∧ gains.length + rows.length < 800 ∧
  ∀ (H' : Hp) (L l b : Addr) (rs : List Addr), Tb (c.cl 6) H' a dx L l b rs (AX rows caps gains) gains.length rows.length (fun k => gains.length + k) → (∀ x o, H x = some o → x ≠ a → H' x = some o) → H L = none → H b = none → Q .non H'
variable {P : Program} {w_ : World} {mg : Str → Option Value} {base : Heap} {c : Ct}
theorem ok_Tableau_init {f : Addr} {fd : FuncData} (F : Fun c.K "__init__" "Tableau.__init__" s_Tableau___init__ f fd) (T : Bt mg) (TC : TbC c.K (c.cl 6)) : FnOk P w_ c.K mg base CX0 1 f fd ["self", "rows", "bounds", "worths"] (spIni c) := by
  refine F.ok sc_Tableau___init__ (fun vs H Q E h => ?_) (fun cdv A outer s H vs Q E hr h => ⟨_, wb, ?_⟩)
  · obtain ⟨a, dx, rv, bv, gv, rows, caps, gains, rfl, _⟩ := h
    rfl
  · obtain ⟨a, dx, rv, bv, gv, rows, caps, gains, rfl, ha, hM, ⟨pb, rfl, hB⟩, ⟨pg, rfl, hG⟩, hc, hw, hz, k⟩ := h
    obtain ⟨pr, vs, rfl, hR, hl, hrow⟩ := hM
    refine nxt (ps_fld (pv 0) (pe_callB call_len_seq (by rfl) T.len PySem.boot_len (pa_cons (pv 3) pa_nil)) rfl) ?_
    refine ⟨_, rfl, pg, _, rfl, hG, _, rfl, a, _, _, _, rfl, ha, TC.c, TC.w, (by show 0 < 1000; decide), ?_⟩
    rw [List.length_map]
    have fr1 : ∀ x o, H x = some o → x ≠ a → (upd H a (.ins (c.cl 6) dx (putF "width" (.int (gains.length : Nat)) []))) x = some o := fun x o h n => by rw [upd_ne n]; exact h
    have ha1 : (upd H a (.ins (c.cl 6) dx (putF "width" (.int (gains.length : Nat)) []))) a = some (.ins (c.cl 6) dx [("width", .int (gains.length : Nat))]) := upd_same
    generalize upd H a (.ins (c.cl 6) dx (putF "width" (.int (gains.length : Nat)) [])) = H1 at fr1 ha1
    refine nxt (ps_fld (pv 0) (pe_lst pa_nil) rfl) ?_
    refine ⟨(by show 0 ≤ sizeLine; decide), fun L nL => ?_⟩
    refine upd_gen nL fun H2 e2 h2 => ?_
    refine ⟨_, rfl, a, _, _, _, rfl, e2 _ _ ha1, TC.c, TC.li, (by show 1 < 1000; decide), ?_⟩
    have nLa : L ≠ a := (ne_of_none ha1 nL).symm
    have nLH : H L = none := by
      cases z : H L with
      | none => rfl
      | some o => rw [fr1 L o z nLa] at nL; cases nL
    have fr3 : ∀ x o, H x = some o → x ≠ a → (upd H2 a (.ins (c.cl 6) dx (putF "lines" (.ref L) [("width", .int (gains.length : Nat))]))) x = some o := fun x o h n => by rw [upd_ne n]; exact e2 _ _ (fr1 x o h n)
    have ha3 : (upd H2 a (.ins (c.cl 6) dx (putF "lines" (.ref L) [("width", .int (gains.length : Nat))]))) a = some (.ins (c.cl 6) dx [("width", .int (gains.length : Nat)), ("lines", .ref L)]) := upd_same
    have hL3 : (upd H2 a (.ins (c.cl 6) dx (putF "lines" (.ref L) [("width", .int (gains.length : Nat))]))) L = some (.lst []) := (upd_ne nLa).trans h2
    generalize upd H2 a (.ins (c.cl 6) dx (putF "lines" (.ref L) [("width", .int (gains.length : Nat))])) = H3 at fr3 ha3 hL3
    refine nxtN (ps_for PassesOwn.never rfl (pi_enumE (by rfl) T.enumerate (pa_cons (pv 1) pa_nil)) (pg_tup (by rfl) (pgs_cons (pg_name (i := 4) sc_Tableau___init__.nd rfl (Or.inr rfl)) (pgs_cons (pg_name (i := 5) sc_Tableau___init__.nd rfl (Or.inl rfl)) pgs_nil))) wb) fun N hN => ?_
    refine ⟨_, rfl, pr, vs, rfl, for_enq (K := c.K) (a := pr) (xs := vs) (fun i σ H' => (∃ v4 v5 v6, σ = [some (.ref a), some (.ref pr), some (.ref pb), some (.ref pg), v4, v5, v6, none, none]) ∧ (∀ x o, H x = some o → x ≠ a → H' x = some o) ∧ H' a = some (.ins (c.cl 6) dx [("width", .int (gains.length : Nat)), ("lines", .ref L)]) ∧ ∃ rs : List Addr, H' L = some (.lst (rs.map V.ref)) ∧ rs.length = i ∧ ∀ (k : Nat) (r' : Addr), rs[k]? = some r' → H' r' = some (.lst (rowV (AX rows caps gains) gains.length rows.length (fun k => gains.length + k) k))) ⟨⟨_, _, _, rfl⟩, fr3, ha3, [], hL3, rfl, fun k r' h => by simp at h⟩ ?_ ?_ ?_⟩
    · rcases hR with hR | hR
      · exact .inl fun i σ' H' p => (sq_fr ha p.2.1 (.inl hR)).elim id fun z => by
          rcases hR with (h | ⟨o, h⟩) | h
          · exact .inl (.inl (p.2.1 _ _ h (fun e => by rw [e, ha] at h; cases h)))
          · exact .inl (.inr ⟨o, p.2.1 _ _ h (fun e => by rw [e, ha] at h; cases h)⟩)
          · exact .inr h
      · exact .inr fun i σ' H' p => by
          rcases hR with (h | ⟨o, h⟩) | h
          · exact .inl (.inl (p.2.1 _ _ h (fun e => by rw [e, ha] at h; cases h)))
          · exact .inl (.inr ⟨o, p.2.1 _ _ h (fun e => by rw [e, ha] at h; cases h)⟩)
          · exact .inr h
    · rintro i x T2 σ H4 hi ⟨⟨v4, v5, v6, rfl⟩, fr4, ha4, rs, hL4, hn, hrs⟩ hx nT
      have hil : i < rows.length := by rw [← hl]; exact hi
      obtain ⟨px, rfl, hxr⟩ := hrow i x rows[i] hx (List.getElem?_eq_getElem hil)
      have hwi := hw i rows[i] (List.getElem?_eq_getElem hil)
      refine ⟨T2, _, rfl, sqT upd_same, rfl, _, _, rfl, _, _, rfl, rfl, ?_⟩
      have e5 := sm_new (o := .tup [.int (i : Nat), .ref px]) nT
      generalize upd H4 T2 (.tup [.int (i : Nat), .ref px]) = H5 at e5
      refine nxt (ps_setLc (i := 6) (own := [("other", 7)]) (g := gName 7) rfl sc_Tableau___init__.nd rfl rfl (sw_true rfl rfl rfl (by decide +kernel)) (pi_range1 (by rfl) T.range (pa_cons (pe_callB call_len_seq (by rfl) T.len PySem.boot_len (pa_cons (pv 1) pa_nil)) pa_nil)) (blkOk_by (own := [("other", 7)]) (N := ["self", "rows", "bounds", "worths", "index", "row", "slack", "other", "worth"]) (sc := defScope s_Tableau___init__) (by decide +kernel)) (fun _ _ _ _ _ => (pg_name (i := 7) sc_Tableau___init__.nd rfl (Or.inl rfl))) (fun _ _ _ _ _ => pts_nil) (fun _ _ _ _ _ => (pe_callTy call_int1 (by rfl) T.int (by decide +kernel) (pa_cons (pe_cmpR op_eq (pv 7) (pv 4) (nomark _)) pa_nil)))) ?_
      have fr5 : ∀ x o, H x = some o → x ≠ a → H5 x = some o := fun x o h n => e5 _ _ (fr4 x o h n)
      refine ⟨_, rfl, pr, _, rfl, sq_fr ha fr5 hR, _, rfl, by rw [hl]; omega, by rw [hl]; omega, fun D nD => lc_range (lo := 0) (n := ((vs.length : Nat) : Int).toNat) (fun j H' => Same H5 H' ∧ H' D = some (.lst (rngI j fun o => if o = i then 1 else 0))) ⟨sm_new nD, upd_same⟩ ?_ ?_⟩
      · rintro j H6 hj ⟨e6, h6⟩
        rw [Int.toNat_natCast, hl] at hj
        refine ⟨rfl, ?_⟩
        refine ⟨_, rfl, _, rfl, rfl, .inr ⟨_, rfl, _, h6, small1000 (by rw [rngI_len]; omega), ?_, ?_⟩⟩
        · intro b o hb
          rw [upd_ne (ne_of_none hb nD)]
          exact e6 b o hb
        · rw [upd_same, rngI_succ]
          congr 4
          by_cases e : j = i
          · rw [if_pos e, decide_eq_true (by rw [e, Int.zero_add])]; rfl
          · rw [if_neg e, decide_eq_false (fun z => e (by have := V.int.inj z; omega))]; rfl
      · rintro H6 ⟨e6, h6⟩
        rw [Int.toNat_natCast, hl] at h6
        have fr6 : ∀ x o, H x = some o → x ≠ a → H6 x = some o := fun x o h n => e6 _ _ (fr5 x o h n)
        have ha6 := e6 _ _ (e5 _ _ ha4)
        have hL6 := e6 _ _ (e5 _ _ hL4)
        have hrs6 : ∀ (k : Nat) (r' : Addr), rs[k]? = some r' → H6 r' = some (.lst (rowV (AX rows caps gains) gains.length rows.length (fun k => gains.length + k) k)) := fun k r' h => e6 _ _ (e5 _ _ (hrs k r' h))
        refine last (ps_expr (pe_bm PySem.F.plainAttrs_list PySem.F.slot_list_append PySem.F.type_list_append mt_append (pe_fld (pv 0) rfl) (pa_cons (pe_lst (StX.pa_star (pv 5) (StX.pa_star (pv 6) (pa_cons (pe_ix (r := rGetA c.K) (ix_any hr.units) (pv 2) (pv 4) (fun _ _ => rfl)) pa_nil)))) pa_nil))) ?_
        have hic : i < caps.length := by omega
        refine ⟨_, rfl, a, _, _, _, _, rfl, ha6, TC.c, TC.li, rfl, .inl ⟨rfl, _, sqL hL6⟩, _, rfl, px, _, rfl, (sq_fr ha fr6 hxr).symm, _, rfl, D, _, rfl, .inr (sqL h6), _, rfl, _, rfl, rget_sq (sq_fr ha fr6 hB) hic ⟨?_, fun q nq => ?_⟩⟩
        · refine Nat.le_of_lt (small1000 ?_)
          simp [rngI_len, hwi]
          omega
        have row := ax_row (rows := rows) (caps := caps) (gains := gains) hc hil hwi
        refine upd_gen nq fun H7 e7 h7 => ?_
        rw [← row] at h7
        refine ⟨L, _, _, rfl, rfl, e7 _ _ hL6, small1000 (by simp; omega), ?_⟩
        have nqL : q ≠ L := (ne_of_none hL6 nq).symm
        refine ⟨⟨_, _, _, rfl⟩, fun x o h n => ?_, ?_, rs ++ [q], ?_, by simp; omega, fun k r' hr' => ?_⟩
        · rw [upd_ne (ne_of_none h nLH)]
          exact e7 _ _ (fr6 x o h n)
        · rw [upd_ne (Ne.symm nLa)]
          exact e7 _ _ ha6
        · rw [upd_same, List.map_append]; rfl
        · have st : ∀ (r' : Addr) (xs : List V), xs ≠ rs.map V.ref → H7 r' = some (.lst xs) → (upd H7 L (.lst (rs.map V.ref ++ [.ref q]))) r' = some (.lst xs) := fun r' xs n h => by
            rw [upd_ne (ad_ne h (e7 _ _ hL6) n)]; exact h
          rcases Nat.lt_or_ge k rs.length with z | z
          · rw [List.getElem?_append_left z] at hr'
            exact st _ _ row_ne (e7 _ _ (hrs6 k r' hr'))
          · rw [List.getElem?_append_right z] at hr'
            have : k = i := by
              rcases Nat.eq_zero_or_pos (k - rs.length) with y | y
              · omega
              · rw [List.getElem?_eq_none (by simp; omega)] at hr'; cases hr'
            rw [this, hn, Nat.sub_self] at hr'
            cases hr'
            rw [this]
            exact st _ _ row_ne h7
    · rintro σ H4 ⟨⟨v4, v5, v6, rfl⟩, fr4, ha4, rs, hL4, hn, hrs⟩
      rw [hl] at hn
      refine hN _ _ ?_
      refine nxt (ps_fld (pv 0) (pe_op op_cat (pe_lc (own := [("worth", 8)]) (g := gName 8) rfl sc_Tableau___init__.nd (pi_seq (pv 3)) (blkOk_by (own := [("worth", 8)]) (N := ["self", "rows", "bounds", "worths", "index", "row", "slack", "other", "worth"]) (sc := defScope s_Tableau___init__) (by decide +kernel)) (fun _ _ _ _ _ => (pg_name (i := 8) sc_Tableau___init__.nd rfl (Or.inl rfl))) (fun _ _ _ _ _ => pts_nil) (fun _ _ _ _ _ => (pe_un un_neg (pv 8)))) (pe_op op_rep (pe_lst (pa_cons pe_int pa_nil)) (pe_op op_add (pe_callB call_len_seq (by rfl) T.len PySem.boot_len (pa_cons (pv 1) pa_nil)) pe_int))) rfl) ?_
      refine ⟨_, rfl, pg, rfl, lc_sq (sq_fr ha fr4 hG) (fun D i H' => Same H4 H' ∧ H' D = some (.lst ((gains.take i).map fun z => V.int (- z)))) (fun D nD => ⟨sm_new nD, by simpa using upd_same⟩) (fun D i H' _ p => p.1) ?_ ?_⟩
      · rintro D i x H5 nD hx ⟨e5, h5⟩
        have hil : i < gains.length := by have := (List.getElem?_eq_some_iff.mp hx).1; rw [List.length_map] at this; exact this
        rw [List.getElem?_map, List.getElem?_eq_getElem hil] at hx
        cases hx
        refine ⟨rfl, ?_⟩
        refine ⟨_, rfl, _, rfl, _, h5, small1000 (by simp; omega), ?_, ?_⟩
        · intro b o hb
          rw [upd_ne (ne_of_none hb nD)]
          exact e5 b o hb
        · rw [upd_same, List.take_add_one, List.map_append, List.getElem?_eq_getElem hil]
          rfl
      · rintro D H5 nD ⟨e5, h5⟩
        rw [List.length_map, List.take_length] at h5
        refine ⟨(by show 1 ≤ sizeLine; decide), fun q6 n6 => ?_⟩
        refine upd_gen n6 fun H6 e6 h6 => ?_
        have e46 := e5.trans e6
        have fr6 : ∀ x o, H x = some o → x ≠ a → H6 x = some o := fun x o h n => e46 _ _ (fr4 x o h n)
        refine ⟨_, rfl, pr, vs, rfl, sq_fr ha fr6 hR, _, _, rfl, rfl, q6, _, _, rfl, rfl, h6, by omega, by omega, Nat.le_of_lt (small1000 (by show 1 * _ ≤ 1000; omega)), fun q7 n7 => ?_⟩
        refine upd_gen n7 fun H7 e7 h7 => ?_
        rw [show ((vs.length : Int) + 1).toNat = rows.length + 1 by omega, rep_zero] at h7
        refine ⟨D, q7, _, _, rfl, rfl, e7 _ _ (e6 _ _ h5), h7, Nat.le_of_lt (small1000 (by rw [List.length_map, rngI_len]; omega)), fun l n8 => ?_⟩
        refine upd_gen n8 fun H8 e8 h8 => ?_
        rw [← ax_last (rows := rows) (caps := caps) (gains := gains)] at h8
        have e48 := e46.trans (e7.trans e8)
        refine ⟨_, rfl, a, _, _, _, rfl, e48 _ _ ha4, TC.c, TC.la, (by show 2 < 1000; decide), ?_⟩
        have nla : l ≠ a := (ne_of_none (e7 _ _ (e46 _ _ ha4)) n8).symm
        have fr9 : ∀ x o, H x = some o → x ≠ a → (upd H8 a (.ins (c.cl 6) dx (putF "last" (.ref l) [("width", .int (gains.length : Nat)), ("lines", .ref L)]))) x = some o := fun x o h n => by rw [upd_ne n]; exact e48 _ _ (fr4 x o h n)
        have ha9 : (upd H8 a (.ins (c.cl 6) dx (putF "last" (.ref l) [("width", .int (gains.length : Nat)), ("lines", .ref L)]))) a = some (.ins (c.cl 6) dx [("width", .int (gains.length : Nat)), ("lines", .ref L), ("last", .ref l)]) := upd_same
        have k9 : ∀ x o, x ≠ a → H8 x = some o → (upd H8 a (.ins (c.cl 6) dx (putF "last" (.ref l) [("width", .int (gains.length : Nat)), ("lines", .ref L)]))) x = some o := fun x o n h => by rw [upd_ne n]; exact h
        generalize upd H8 a (.ins (c.cl 6) dx (putF "last" (.ref l) [("width", .int (gains.length : Nat)), ("lines", .ref L)])) = H9 at fr9 ha9 k9
        refine nxt (ps_fld (pv 0) (pe_lc (own := [("index", 4)]) (g := gName 4) rfl sc_Tableau___init__.nd (pi_range1 (by rfl) T.range (pa_cons (pe_callB call_len_seq (by rfl) T.len PySem.boot_len (pa_cons (pv 1) pa_nil)) pa_nil)) (blkOk_by (own := [("index", 4)]) (N := ["self", "rows", "bounds", "worths", "index", "row", "slack", "other", "worth"]) (sc := defScope s_Tableau___init__) (by decide +kernel)) (fun _ _ _ _ _ => (pg_name (i := 4) sc_Tableau___init__.nd rfl (Or.inl rfl))) (fun _ _ _ _ _ => pts_nil) (fun _ _ _ _ _ => (pe_op op_add (pe_fldK (K := c.K) rfl (pv 0)) (pv 4)))) rfl) ?_
        refine ⟨_, rfl, pr, vs, rfl, sq_fr ha fr9 hR, _, rfl, by rw [hl]; omega, by rw [hl]; omega, fun b nb => lc_range (lo := 0) (n := ((vs.length : Nat) : Int).toNat) (fun j H' => Same H9 H' ∧ H' b = some (.lst (basV j fun k => gains.length + k))) ⟨sm_new nb, upd_same⟩ ?_ ?_⟩
        · rintro j H10 hj ⟨e10, h10⟩
          rw [Int.toNat_natCast, hl] at hj
          refine ⟨rfl, ?_⟩
          refine ⟨_, rfl, a, _, _, _, _, rfl, e10 _ _ ha9, TC.c, TC.w, rfl, _, rfl, _, _, rfl, rfl, _, h10, small1000 (by unfold basV; simp; omega), ?_, ?_⟩
          · intro x o hx
            rw [upd_ne (ne_of_none hx nb)]
            exact e10 x o hx
          · rw [upd_same]
            unfold basV
            rw [List.range_succ, List.map_append]
            congr 4
            show V.int _ = V.int _
            congr 1
            show (gains.length : Int) + (0 + (j : Int)) = ((gains.length + j : Nat) : Int)
            omega
        · rintro H10 ⟨e10, h10⟩
          rw [Int.toNat_natCast, hl] at h10
          refine ⟨_, rfl, a, _, _, _, rfl, e10 _ _ ha9, TC.c, TC.ba, (by show 3 < 1000; decide), ?_⟩
          have nba : b ≠ a := (ne_of_none ha9 nb).symm
          refine last (ps_fld (pv 0) pe_int rfl) ?_
          refine ⟨_, rfl, a, _, _, _, rfl, upd_same, TC.c, TC.sc, (by show 4 < 1000; decide), ?_⟩
          have keep : ∀ x o, x ≠ a → H10 x = some o → (upd (upd H10 a (.ins (c.cl 6) dx (putF "basis" (.ref b) [("width", .int (gains.length : Nat)), ("lines", .ref L), ("last", .ref l)]))) a (.ins (c.cl 6) dx (putF "scale" (.int 1) (putF "basis" (.ref b) [("width", .int (gains.length : Nat)), ("lines", .ref L), ("last", .ref l)])))) x = some o := fun x o n h => by rw [upd_ne n, upd_ne n]; exact h
          have ups : ∀ x o, x ≠ a → H4 x = some o → H10 x = some o := fun x o n h => e10 _ _ (k9 x o n (e48 _ _ h))
          refine k _ L l b rs ⟨?_, keep L _ nLa (ups L _ nLa hL4), hn, fun i r' hr' => ?_, keep l _ nla (e10 _ _ (k9 l _ nla h8)), keep b _ nba h10⟩ (fun x o h n => keep x o n (e10 _ _ (fr9 x o h n))) nLH (by
            cases z : H b with
            | none => rfl
            | some o => rw [fr9 b o z nba] at nb; cases nb)
          · rw [upd_same, dd_first (ax_prg rows caps gains).sl]
            rfl
          · have h1 := hrs i r' hr'
            have n1 := (ad_ne2 ha4 h1).symm
            exact keep r' _ n1 (ups r' _ n1 h1)
theorem ok_Tableau {f : Addr} {fd : FuncData} (h : FnOk P w_ c.K mg base CX0 1 f fd ["self", "rows", "bounds", "worths"] (spIni c)) : FnOk P w_ c.K mg base CX0 1 f fd ["self", "rows", "bounds", "worths"] (spIni c) := h
end
end B
namespace B
open PySem L2
/-! M15: what the turns end in; one end alone; bounds of determinants -/
namespace Lp
section
variable {A : Nat → Vc} {w m : Nat} {β : Nat → Nat}
/-- the end of the turns: the basis, and the column that grows without end -/
inductive Run (A : Nat → Vc) (w m : Nat) : (Nat → Nat) → (Nat → Nat) × Option Nat → Prop where
  | best {β : Nat → Nat} (h : ∀ j, j < w + m → 0 ≤ tt A m β m j) : Run A w m β (β, none)
  | endl {β : Nat → Nat} {r : Nat} (h0 : r < w + m) (h1 : tt A m β m r < 0) (h2 : ∀ j, j < r → 0 ≤ tt A m β m j) (h3 : ∀ k, k < m → tt A m β k r ≤ 0) : Run A w m β (β, some r)
  | turn {β : Nat → Nat} {r s : Nat} {e : (Nat → Nat) × Option Nat} (t : Turn A w m β r s) (k : Run A w m (re β s r) e) : Run A w m β e
theorem first_one {r r' : Nat} (h1 : tt A m β m r < 0) (h2 : ∀ j, j < r → 0 ≤ tt A m β m j) (h3 : tt A m β m r' < 0) (h4 : ∀ j, j < r' → 0 ≤ tt A m β m j) : r = r' := by
  rcases Nat.lt_or_ge r r' with q | q
  · have := h4 r q; omega
  · rcases Nat.lt_or_ge r' r with z | z
    · have := h2 r' z; omega
    · omega
theorem Turn.one (G : Good A w m β) {r s r' s' : Nat} (T : Turn A w m β r s) (U : Turn A w m β r' s') : r = r' ∧ s = s' := by
  have e := first_one T.neg T.first U.neg U.first
  subst e
  have n1 := T.near s' U.s0 U.pos
  have n2 := U.near s T.s0 T.pos
  have l1 := T.least s' U.s0 U.pos (by omega)
  have l2 := U.least s T.s0 T.pos (by omega)
  exact ⟨rfl, G.inj T.s0 U.s0 (by omega)⟩
theorem Run.one {e e' : (Nat → Nat) × Option Nat} (G : Good A w m β) (R : Run A w m β e) (R' : Run A w m β e') : e = e' := by
  induction R generalizing e' with
  | best h =>
    cases R' with
    | best _ => rfl
    | endl h0 h1 _ _ => have := h _ h0; omega
    | turn t _ => have := h _ t.r0; have := t.neg; omega
  | endl h0 h1 h2 h3 =>
    cases R' with
    | best h => have := h _ h0; omega
    | endl _ k1 k2 _ => rw [first_one h1 h2 k1 k2]
    | turn t _ =>
      have e := first_one h1 h2 t.neg t.first
      subst e
      have := h3 _ t.s0
      have := t.pos
      omega
  | turn t k ih =>
    cases R' with
    | best h => have := h _ t.r0; have := t.neg; omega
    | endl k0 k1 k2 k3 =>
      have e := first_one k1 k2 t.neg t.first
      subst e
      have := k3 _ t.s0
      have := t.pos
      omega
    | turn t' k' =>
      obtain ⟨e1, e2⟩ := t.one G t'
      subst e1 e2
      exact ih (G.turn t) k'
/-- n turns from β to γ -/
def Pth (A : Nat → Vc) (w m : Nat) (β : Nat → Nat) (n : Nat) (γ : Nat → Nat) : Prop := ∃ (b : Nat → Nat → Nat) (r s : Nat → Nat), b 0 = β ∧ b n = γ ∧ ∀ t, t < n → Turn A w m (b t) (r t) (s t) ∧ b (t + 1) = re (b t) (s t) (r t)
theorem Pth.zero : Pth A w m β 0 β := ⟨fun _ => β, fun _ => 0, fun _ => 0, rfl, rfl, fun t h => absurd h (Nat.not_lt_zero t)⟩
theorem Pth.step {n r s : Nat} {γ : Nat → Nat} (p : Pth A w m β n γ) (t : Turn A w m γ r s) : Pth A w m β (n + 1) (re γ s r) := by
  obtain ⟨b, r', s', h0, hn, h⟩ := p
  refine ⟨fun t => if t ≤ n then b t else re γ s r, fun t => if t < n then r' t else r, fun t => if t < n then s' t else s, by simp [h0], if_neg (by omega), fun t ht => ?_⟩
  by_cases q : t < n
  · obtain ⟨h1, h2⟩ := h t q
    simp only [if_pos (Nat.le_of_lt q), if_pos q, if_pos (show t + 1 ≤ n from q)]
    exact ⟨h1, h2⟩
  · have e : t = n := by omega
    subst e
    simp only [if_pos (Nat.le_refl t), if_neg q, if_neg (show ¬ t + 1 ≤ t by omega), hn]
    exact ⟨by assumption, trivial⟩
theorem Pth.lt {n : Nat} {γ : Nat → Nat} (G : Good A w m β) (p : Pth A w m β n γ) : n < (w + m) ^ m := by
  obtain ⟨b, r, s, h0, hn, h⟩ := p
  rcases Nat.lt_or_ge n ((w + m) ^ m) with q | q
  · exact q
  · exact (turns_end (A := A) (w := w) (m := m) (β := b) (r := r) (s := s) q (by rw [h0]; exact G) (fun t ht => (h t ht).1) fun t ht => (h t ht).2).elim
theorem Pth.good {n : Nat} {γ : Nat → Nat} (G : Good A w m β) (p : Pth A w m β n γ) : Good A w m γ := by
  obtain ⟨b, r, s, h0, hn, h⟩ := p
  have : ∀ t, t ≤ n → Good A w m (b t) := fun t => by
    induction t with
    | zero => intro _; rw [h0]; exact G
    | succ t ih => intro ht; rw [(h t ht).2]; exact (ih (by omega)).turn (h t ht).1
  rw [← hn]
  exact this n (Nat.le_refl n)
theorem Pth.run {n : Nat} {γ : Nat → Nat} {e : (Nat → Nat) × Option Nat} (p : Pth A w m β n γ) (k : Run A w m γ e) : Run A w m β e := by
  obtain ⟨b, r, s, h0, hn, h⟩ := p
  have : ∀ d, d ≤ n → Run A w m (b (n - d)) e := fun d => by
    induction d with
    | zero => intro _; rw [Nat.sub_zero, hn]; exact k
    | succ d ih =>
      intro hd
      obtain ⟨h1, h2⟩ := h (n - (d + 1)) (by omega)
      refine .turn h1 ?_
      rw [← h2, show n - (d + 1) + 1 = n - d by omega]
      exact ih (by omega)
  have := this n (Nat.le_refl n)
  rw [Nat.sub_self, h0] at this
  exact this
/-! ### bounds -/
def fact : Nat → Nat
  | 0 => 1
  | n + 1 => (n + 1) * fact n
def prodN : List Nat → Nat
  | [] => 1
  | x :: xs => x * prodN xs
theorem abs_S (n : Nat) (f : Nat → Int) (B : Nat) (h : ∀ k, k < n → (f k).natAbs ≤ B) : (S n f).natAbs ≤ n * B := by
  induction n with
  | zero => simp [S]
  | succ n ih =>
    have h1 := ih fun k hk => h k (by omega)
    have h2 := h n (by omega)
    rw [S, Nat.add_mul, Nat.one_mul]
    have := Int.natAbs_add_le (S n f) (f n)
    omega
theorem sg_abs (k : Nat) : (sg k).natAbs = 1 := by
  induction k with
  | zero => rfl
  | succ k ih => rw [sg, Int.natAbs_neg, ih]
theorem det_abs (B : Nat → Nat) : ∀ (rs : List Nat) (v : Nat → Vc), (∀ k, k < rs.length → ∀ r ∈ rs, (v k r).natAbs ≤ B r) → (det rs v).natAbs ≤ fact rs.length * prodN (rs.map B) := by
  intro rs
  induction rs with
  | nil => intro _ _; exact Nat.le_refl _
  | cons r rs ih =>
    intro v h
    rw [det]
    refine Nat.le_trans (abs_S _ _ (B r * (fact rs.length * prodN (rs.map B))) fun k hk => ?_) ?_
    · rw [Int.natAbs_mul, Int.natAbs_mul, sg_abs, Nat.one_mul]
      refine Nat.mul_le_mul (h k (by simpa using hk) r List.mem_cons_self) (ih _ fun l hl q hq => h _ ?_ q (List.mem_cons_of_mem _ hq))
      unfold sk
      simp only [List.length_cons]
      split <;> omega
    · show (rs.length + 1) * (B r * (fact rs.length * prodN (rs.map B))) ≤ ((rs.length + 1) * fact rs.length) * (B r * prodN (rs.map B))
      have : (rs.length + 1) * (B r * (fact rs.length * prodN (rs.map B))) = ((rs.length + 1) * fact rs.length) * (B r * prodN (rs.map B)) := by ac_rfl
      omega
end
end Lp
end B
namespace B
open PySem L2
/-! M16: the mix in lowest terms -/
namespace Lp
section
def gf (g : Nat) (xs : List Nat) : Nat := xs.foldl Nat.gcd g
theorem gf_cons (g x : Nat) (xs : List Nat) : gf g (x :: xs) = gf (Nat.gcd g x) xs := rfl
theorem gf_dvd : ∀ (xs : List Nat) (g : Nat), gf g xs ∣ g ∧ ∀ x ∈ xs, gf g xs ∣ x
  | [], g => ⟨Nat.dvd_refl g, fun x h => by simp at h⟩
  | y :: ys, g => by
    have ⟨h1, h2⟩ := gf_dvd ys (Nat.gcd g y)
    rw [gf_cons]
    refine ⟨Nat.dvd_trans h1 (Nat.gcd_dvd_left g y), fun x hx => ?_⟩
    rcases List.mem_cons.mp hx with e | hx
    · rw [e]; exact Nat.dvd_trans h1 (Nat.gcd_dvd_right g y)
    · exact h2 x hx
theorem gf_max : ∀ (xs : List Nat) (g d : Nat), d ∣ g → (∀ x ∈ xs, d ∣ x) → d ∣ gf g xs
  | [], _, _, h, _ => h
  | y :: ys, g, d, h, k => by
    rw [gf_cons]
    exact gf_max ys _ d (Nat.dvd_gcd h (k y List.mem_cons_self)) fun x hx => k x (List.mem_cons_of_mem _ hx)
theorem gf_pos {xs : List Nat} {g : Nat} (h : 0 < g) : 0 < gf g xs := Nat.pos_of_dvd_of_pos (gf_dvd xs g).1 h
/-- nothing above 1 divides all of it -/
theorem gf_low {xs : List Nat} {g d : Nat} (h : 0 < g) (h1 : d ∣ g / gf g xs) (h2 : ∀ x ∈ xs, d ∣ x / gf g xs) : d = 1 := by
  have p := gf_pos (xs := xs) h
  have ⟨e1, e2⟩ := gf_dvd xs g
  have key : ∀ x, gf g xs ∣ x → d ∣ x / gf g xs → d * gf g xs ∣ x := fun x a b => by
    obtain ⟨y, rfl⟩ := a
    rw [Nat.mul_div_cancel_left y p] at b
    obtain ⟨z, rfl⟩ := b
    exact ⟨z, by rw [← Nat.mul_assoc, Nat.mul_comm d]⟩
  have m := gf_max xs g (d * gf g xs) (key g e1 h1) fun x hx => key x (e2 x hx) (h2 x hx)
  have le := Nat.le_of_dvd p m
  rcases Nat.lt_or_ge 1 d with q | q
  · have : 2 * gf g xs ≤ d * gf g xs := Nat.mul_le_mul_right _ q
    omega
  · rcases Nat.eq_zero_or_pos d with z | z
    · rw [z, Nat.zero_mul] at m
      have := Nat.eq_zero_of_zero_dvd m
      omega
    · omega
variable {A : Nat → Vc} {w m : Nat} {D : Int} {x y : Nat → Int}
theorem Best.div (B : Best A w m D x y) {g : Int} (hg : 0 < g) (hD : g ∣ D) (hx : ∀ j, j < w → g ∣ x j) (hy : ∀ i, i < m → g ∣ y i) : Best A w m (D / g) (fun j => x j / g) (fun i => y i / g) := by
  have sx : ∀ a : Nat → Int, S w (fun j => a j * x j) = g * S w fun j => a j * (x j / g) := fun a => by
    rw [← S_mul]
    refine S_congr fun j hj => ?_
    obtain ⟨z, e⟩ := hx j hj
    rw [e, Int.mul_ediv_cancel_left z (by omega)]
    ac_rfl
  have sy : ∀ a : Nat → Int, S m (fun i => a i * y i) = g * S m fun i => a i * (y i / g) := fun a => by
    rw [← S_mul]
    refine S_congr fun j hj => ?_
    obtain ⟨z, e⟩ := hy j hj
    rw [e, Int.mul_ediv_cancel_left z (by omega)]
    ac_rfl
  have sD : ∀ a : Int, a * D = g * (a * (D / g)) := fun a => by
    obtain ⟨z, e⟩ := hD
    rw [e, Int.mul_ediv_cancel_left z (by omega)]
    ac_rfl
  refine ⟨?_, fun j hj => Int.ediv_nonneg (B.x0 j hj) (Int.le_of_lt hg), fun i hi => Int.ediv_nonneg (B.y0 i hi) (Int.le_of_lt hg), fun i hi => ?_, fun j hj => ?_, ?_⟩
  · obtain ⟨z, e⟩ := hD
    have := B.d
    rw [e] at this ⊢
    rw [Int.mul_ediv_cancel_left z (by omega)]
    rcases lge 0 z with q | q
    · exact q
    · have := Int.mul_nonpos_of_nonneg_of_nonpos (Int.le_of_lt hg) q
      omega
  · have h := B.row i hi
    rw [sx, sD] at h
    exact Int.le_of_mul_le_mul_left h hg
  · have h := B.col j hj
    rw [sy, sD] at h
    exact Int.le_of_mul_le_mul_left h hg
  · have h := B.val
    rw [sy, sx] at h
    exact Int.eq_of_mul_eq_mul_left (by omega) h
end
end Lp
end B
namespace B
open PySem L2
/-! k83: best_mix -/
section
variable {X : Cx} {k : Nat} {C : Addr} {m x : Str} {ps : List Str} {sp : Sp} {o e : Expr} {es : List Expr} {apos p pos : Pos} {ta : TE} {t : TA}
theorem pm00 {pl : Sem Bool} (F : DfMt X.prog X.w X.K X.mg X.base CX0 k C m ps sp) (cl : Cls X.K C) (hr : Room k X.A) (ho : PE X o ta)
    (ht : eval (.Call (.Attribute o m apos) [] [] pos) X.env = (do
      let ov ← eval o X.env; standAt apos.atName
      let (f, first) ← holding [ov] (getMethod ov m pl); callWith pos f first (backTo pos (starEach [] X.env)) (backToKw pos (keywordEach [] X.env))) := by rfl) : PE X (.Call (.Attribute o m apos) [] [] pos) (tMeth C m sp [] E0 ta tNil) := by
  obtain ⟨g, fd, hm, hb, F⟩ := F.ex
  exact pe_meth0 ho cl hm F hr hb .nil pass0 ht
theorem pmk0 (F : DfM X.prog X.w X.K X.mg X.base CX0 k x C ps sp) (hr : Room (k + 1) X.A) (ha : PA X (e :: es) t) (hg : Gl X x := by rfl) (hdb : (x == ("__debug__" : Str)) = false := by decide) (he : starEach (e :: es) X.env = (false, eval e X.env) :: starEach es X.env := by rfl) (hpl : (backTo pos (starEach es X.env)).any (·.1) = false := by rfl) :
    PE X (.Call (.Name x p) (e :: es) [] pos) (tMake C sp [] E0 t) := by
  obtain ⟨f, fd, M, hb, G⟩ := F.ex
  exact pe_make M G hr hg F.gC hb .nil pass0 ha hdb he hpl
end
section
open Lp
theorem rowBad_none {w : Nat} : ∀ {rows : List (List Int)}, rowBad w rows = none → ∀ (i : Nat) (r : List Int), rows[i]? = some r → r.length = w
  | [], _, i, r, h => by simp at h
  | q :: rows, h, i, r, hr => by
    rw [rowBad] at h
    by_cases e : q.length ≠ w
    · rw [if_pos e] at h; cases h
    · rw [if_neg e] at h
      cases i with
      | zero => cases hr; exact Classical.byContradiction e
      | succ i => exact rowBad_none h i r hr
theorem capBad_none : ∀ {caps : List Int}, capBad caps = none → ∀ (i : Nat) (r : Int), caps[i]? = some r → 0 ≤ r
  | [], _, i, r, h => by simp at h
  | q :: caps, h, i, r, hr => by
    rw [capBad] at h
    by_cases e : q < 0
    · rw [if_pos e] at h; cases h
    · rw [if_neg e] at h
      cases i with
      | zero => cases hr; omega
      | succ i => exact capBad_none h i r hr
theorem chkP_none {rows : List (List Int)} {caps gains : List Int} (h : chkP rows caps gains = none) : caps.length = rows.length ∧ (∀ (i : Nat) (r : List Int), rows[i]? = some r → r.length = gains.length) ∧ ∀ (i : Nat) (r : Int), caps[i]? = some r → 0 ≤ r := by
  unfold chkP at h
  by_cases e : caps.length ≠ rows.length
  · rw [if_pos e] at h; cases h
  · rw [if_neg e] at h
    cases q : rowBad gains.length rows with
    | some z => rw [q] at h; cases h
    | none =>
      rw [q] at h
      exact ⟨Classical.byContradiction e, rowBad_none q, capBad_none h⟩
theorem ax_good {rows : List (List Int)} {caps gains : List Int} (h : chkP rows caps gains = none) : Good (AX rows caps gains) gains.length rows.length fun k => gains.length + k := by
  obtain ⟨h1, h2, h3⟩ := chkP_none h
  refine ⟨fun k hk => by omega, by rw [dd_first (ax_prg rows caps gains).sl]; omega, fun k hk => ?_⟩
  rw [tt_first (ax_prg rows caps gains).sl (Nat.le_of_lt hk)]
  unfold AX
  rw [if_neg (by omega), if_neg (by omega), if_pos hk]
  have hk' : k < caps.length := by omega
  have := h3 k caps[k] (List.getElem?_eq_getElem hk')
  simpa [List.getD_eq_getElem?_getD, hk'] using this
theorem cut_row {A : Nat → Vc} {w m : Nat} {β : Nat → Nat} : cutV (rowV A w m β m) (some (w : Nat)) (some (-1)) = rngI m fun i => tt A m β m (w + i) := by
  have e : cutV (rowV A w m β m) (some (w : Nat)) (some (-1)) = ((rowV A w m β m).drop w).take m := by
    unfold cutV
    have h : HT.sIx (w + m + 1) (w + m + 1) (some (-1)) = w + m := by
      show (if (-1 : Int) < 0 then ((-1 : Int) + ((w + m + 1 : Nat) : Int)).toNat else min (-1 : Int).toNat (w + m + 1)) = w + m
      rw [if_pos (by omega)]
      omega
    rw [row_len, HT.sIx_nat, Nat.min_eq_left (by omega), h, Nat.add_sub_cancel_left]
  rw [e, rowV_rng, Nat.add_assoc, rngI_add, List.drop_left' rngI_len, rngI_add, List.take_left' rngI_len]
/-- the numbers that divide all -/
def nms (A : Nat → Vc) (w m : Nat) (β : Nat → Nat) : List Nat := ((List.range w).map fun j => (Lp.wt m β (fun k => tt A m β k (w + m)) j).toNat) ++ (List.range m).map fun i => (tt A m β m (w + i)).toNat
def dvs (A : Nat → Vc) (w m : Nat) (β : Nat → Nat) : Nat := gf (dd A m β).toNat (nms A w m β)
theorem rngI_nat {n : Nat} {f : Nat → Int} (h : ∀ j, j < n → 0 ≤ f j) : rngI n f = ((List.range n).map fun j => (f j).toNat).map fun z : Nat => V.int z := by
  unfold rngI
  rw [List.map_map]
  refine List.map_congr_left fun j hj => ?_
  show V.int (f j) = V.int ((f j).toNat : Nat)
  rw [Int.toNat_of_nonneg (h j (List.mem_range.mp hj))]
theorem gf_take {g : Nat} {xs : List Nat} {i x : Nat} (h : xs[i]? = some x) : gf g (xs.take (i + 1)) = Nat.gcd (gf g (xs.take i)) x := by
  unfold gf
  rw [List.take_add_one, h, List.foldl_append]
  rfl
theorem rngI_get {n i : Nat} {f : Nat → Int} {x : V} (h : (rngI n f)[i]? = some x) : i < n ∧ x = .int (f i) := by
  have hi : i < n := by
    have := (List.getElem?_eq_some_iff.mp h).1
    rw [rngI_len] at this
    exact this
  unfold rngI at h
  rw [List.getElem?_map, List.getElem?_range hi] at h
  exact ⟨hi, (Option.some.inj h).symm⟩
def TellB (H : Hp) (v : V) (A : Nat → Vc) (w m : Nat) (e : (Nat → Nat) × Option Nat) : Prop := match e.2 with
  | some r => ∃ t p : Addr, v = .ref t ∧ H t = some (.tup [.str "endless", .ref p]) ∧ H p = some (.tup (rngI w fun j => (if j = r then dd A m e.1 else 0) + Lp.wt m e.1 (fun k => - tt A m e.1 k r) j))
  | none => ∃ t p q : Addr, v = .ref t ∧ H t = some (.tup [.str "best", .int (dd A m e.1 / (dvs A w m e.1 : Nat)), .ref p, .ref q]) ∧ H p = some (.tup (rngI w fun j => Lp.wt m e.1 (fun k => tt A m e.1 k (w + m)) j / (dvs A w m e.1 : Nat))) ∧ H q = some (.tup (rngI m fun i => tt A m e.1 m (w + i) / (dvs A w m e.1 : Nat)))
def spBest (c : Ct) : Sp := fun vs H Q E => ∃ (rv bv gv : V) (rows : List (List Int)) (caps gains : List Int), vs = [rv, bv, gv] ∧ ML c.K H rv rows ∧ IL c.K H bv caps ∧ IL c.K H gv gains ∧ gains.length + rows.length < 800 ∧ (∀ β, Good (AX rows caps gains) gains.length rows.length β → Sm (AX rows caps gains) gains.length rows.length β) ∧
  spOr c.ec H E (chkP rows caps gains) (∀ e H' v, Run (AX rows caps gains) gains.length rows.length (fun k => gains.length + k) e → Same H H' → TellB H' v (AX rows caps gains) gains.length rows.length e → Q v H')
variable {P : Program} {w_ : World} {mg : Str → Option Value} {base : Heap} {c : Ct}
theorem ok_best_mix {f : Addr} {fd : FuncData} (F : Fun c.K "best_mix" "best_mix" s_best_mix f fd) (T : Bt mg) (TC : TbC c.K (c.cl 6)) (D_check_program : Df P w_ c.K mg base (L2.CX P w_) 4 "check_program" ["rows", "bounds", "worths"] (spCheck c)) (D_common_divisor : Df P w_ c.K mg base CX0 1 "common_divisor" ["first", "second"] spGcd) (D_Tableau : DfM P w_ c.K mg base CX0 1 "Tableau" (c.cl 6) ["self", "rows", "bounds", "worths"] (spIni c)) (D_Tableau_entering : DfMt P w_ c.K mg base CX0 1 (c.cl 6) "entering" ["self"] (spEnter (c.cl 6))) (D_Tableau_leaving : DfMt P w_ c.K mg base CX0 2 (c.cl 6) "leaving" ["self", "column"] (spLeave (c.cl 6))) (D_Tableau_turn : DfMt P w_ c.K mg base CX0 2 (c.cl 6) "turn" ["self", "index", "column"] (spTurn (c.cl 6))) (D_Tableau_mix_numbers : DfMt P w_ c.K mg base CX0 1 (c.cl 6) "mix_numbers" ["self"] (spMix (c.cl 6))) (D_Tableau_endless_numbers : DfMt P w_ c.K mg base CX0 1 (c.cl 6) "endless_numbers" ["self", "column"] (spEnd (c.cl 6))) : FnOk P w_ c.K mg base (L2.CX P w_) 6 f fd ["rows", "bounds", "worths"] (spBest c) := by
  refine F.okX sc_best_mix (fun vs H Q E h => ?_) (fun cdv A outer s H vs Q E hr h => ⟨_, wb, ?_⟩)
  · obtain ⟨rv, bv, gv, rows, caps, gains, rfl, _⟩ := h
    rfl
  · obtain ⟨rv, bv, gv, rows, caps, gains, rfl, hM, hB, hG, hz, hsm, k⟩ := h
    have tk := takes_of (X := cxOf (L2.CX P w_) P w_ c.K mg base ["rows", "bounds", "worths", "tableau", "column", "index", "numbers", "costs", "divisor", "number", "shared", "cost"] "best_mix" (defScope s_best_mix) f cdv A outer s H E) (E := E) rfl rfl rfl rfl
    refine nxt (ps_expr (pcr D_check_program (hr.mono (by decide)) tk (pa_cons (pv 0) (pa_cons (pv 1) (pa_cons (pv 2) pa_nil))))) ?_
    refine ⟨_, rfl, _, rfl, _, rfl, rv, bv, gv, rows, caps, gains, rfl, hM, hB, hG, ?_⟩
    cases ec : chkP rows caps gains with
    | some z => rw [ec] at k; exact k
    | none =>
    rw [ec] at k
    have k : ∀ e H' v, Run (AX rows caps gains) gains.length rows.length (fun k => gains.length + k) e → Same H H' → TellB H' v (AX rows caps gains) gains.length rows.length e → Q v H' := k
    show ∀ H', Same H H' → _
    intro H1 e1
    have G0 := ax_good ec
    obtain ⟨hc, hw, _⟩ := chkP_none ec
    refine nxt (ps_set (i := 3) sc_best_mix.nd rfl (Or.inl rfl) (pmk0 D_Tableau (hr.mono (by decide)) (pa_cons (pv 0) (pa_cons (pv 1) (pa_cons (pv 2) pa_nil))))) ?_
    refine ⟨_, rfl, _, rfl, _, rfl, fun a dx na nd ne => ?_⟩
    have e2 : Same H1 (upd (upd H1 dx (.own a)) a (.ins (c.cl 6) dx [])) := fun b o hb => by
      rw [upd_ne (ne_of_none hb na), upd_ne (ne_of_none hb nd)]; exact hb
    have e02 := e1.trans e2
    refine ⟨a, dx, rv, bv, gv, rows, caps, gains, rfl, upd_same, hM.same e02, hB.same e02, hG.same e02, hc, hw, hz, fun H3 L l b rs Tt fr nL nb => ⟨rfl, ?_⟩⟩
    have nH : ∀ q, H1 q = none → H q = none := fun q z => by
      cases y : H q with
      | none => rfl
      | some o => rw [e1 q o y] at z; cases z
    have nH2 : ∀ q, (upd (upd H1 dx (.own a)) a (.ins (c.cl 6) dx [])) q = none → H q = none := fun q z => by
      cases y : H q with
      | none => rfl
      | some o => rw [e02 q o y] at z; cases z
    have naH := nH a na
    have nLH := nH2 L nL
    have nbH := nH2 b nb
    have fr3 : Same H H3 := fun x o h => fr x o (e02 x o h) (ne_of_none h naH)
    clear fr e2 e02 nL nb
    refine nxtN (ps_whileW (passes_of rfl) (ptw_cmp op_notN (pew_named (i := 4) sc_best_mix.nd rfl (Or.inl rfl) (pew_of (pm00 D_Tableau_entering TC.c (hr.mono (by decide)) (pv 3)))) pe_non (nomark _)) wb pss_nil) fun N hN => ?_
    refine ⟨fun M σ H' => ∃ (n : Nat) (β : Nat → Nat) (l : Addr) (rs : List Addr) (v4 v5 : Option V), M = (gains.length + rows.length) ^ rows.length - n ∧ σ = [some rv, some bv, some gv, some (.ref a), v4, v5, none, none, none, none, none, none] ∧ Same H H' ∧ Tb (c.cl 6) H' a dx L l b rs (AX rows caps gains) gains.length rows.length β ∧ Pth (AX rows caps gains) gains.length rows.length (fun k => gains.length + k) n β, ⟨_, 0, _, l, rs, _, _, rfl, rfl, fr3, Tt, .zero⟩, ?_⟩
    clear Tt fr3 l rs
    rintro M σ H4 ⟨n, β, l, rs, v4, v5, rfl, rfl, e4, Tt, pt⟩
    have G := pt.good G0
    have S0 := hsm β G
    have hlt := pt.lt G0
    refine ⟨_, rfl, a, _, _, rfl, Tt.o, rfl, a, dx, L, l, b, rs, _, _, _, β, rfl, Tt, by omega, fun r hr0 hneg hfirst => ?_, fun hall => ?_⟩
    · show V.non = V.non ∧ ∃ k, V.bl (!decide (V.int (r : Nat) = V.non)) = .bl k ∧ _
      refine ⟨rfl, _, rfl, ?_⟩
      rw [decide_eq_false (fun z => nomatch z)]
      refine iteT ?_
      refine ⟨fun σ H' => ∃ (n2 : Nat) (β : Nat → Nat) (l : Addr) (rs : List Addr) (v4 v5 : Option V), n2 = n + 1 ∧ σ = [some rv, some bv, some gv, some (.ref a), v4, v5, none, none, none, none, none, none] ∧ Same H H' ∧ Tb (c.cl 6) H' a dx L l b rs (AX rows caps gains) gains.length rows.length β ∧ Pth (AX rows caps gains) gains.length rows.length (fun k => gains.length + k) n2 β, fun σ' H' ⟨n2, β, l, rs, v4, v5, h1, h2, h3, h4, h5⟩ => ⟨_, by omega, n2, β, l, rs, v4, v5, rfl, h2, h3, h4, h5⟩, ?_⟩
      refine nxt (ps_set (i := 5) sc_best_mix.nd rfl (Or.inl rfl) (pm0 D_Tableau_leaving TC.c (hr.mono (by decide)) (pv 3) (pa_cons (pv 4) pa_nil))) ?_
      refine ⟨_, rfl, a, _, _, rfl, Tt.o, rfl, _, rfl, a, dx, L, l, b, rs, _, _, _, β, r, rfl, Tt, S0, Nat.le_of_lt hr0, fun s H5 e5 hs hpos hle => ?_, fun H5 e5 hno => ?_⟩
      · -- if index is None:
        refine nxtN (ps_if (pt_cmpR op_isN (pv 5) pe_non (nomark _)) (pss_one (ps_ret (pe_tup (pa_cons pe_str (pa_cons (pm0 D_Tableau_endless_numbers TC.c (hr.mono (by decide)) (pv 3) (pa_cons (pv 4) pa_nil)) pa_nil))))) pss_nil) fun N2 hN2 => ?_
        refine ⟨_, rfl, rfl, _, rfl, ?_⟩
        rw [decide_eq_false (fun z => nomatch z)]
        refine iteF ?_
        refine hN2 _ _ ?_
        have T5 := Tt.same e5
        refine last (ps_expr (pm0 D_Tableau_turn TC.c (hr.mono (by decide)) (pv 3) (pa_cons (pv 5) (pa_cons (pv 4) pa_nil)))) ?_
        refine ⟨_, rfl, a, _, _, rfl, T5.o, rfl, _, rfl, _, rfl, a, dx, L, l, b, rs, _, _, _, β, s, r, rfl, T5, S0, hs, Nat.le_of_lt hr0, fun H6 l' rs' T6 fr6 => ?_⟩
        exact ⟨n + 1, _, l', rs', _, _, rfl, rfl, fun x o h => fr6 x o (e5 _ _ (e4 _ _ h)) (ne_of_none h naH) (ne_of_none h nLH) (ne_of_none h nbH), T6, pt.step ⟨hr0, hneg, hfirst, hs, hpos, fun i hi hp => (hle i hi hp).1, fun i hi hp => (hle i hi hp).2⟩⟩
      · -- if index is None:
        refine nxtN (ps_if (pt_cmpR op_isN (pv 5) pe_non (nomark _)) (pss_one (ps_ret (pe_tup (pa_cons pe_str (pa_cons (pm0 D_Tableau_endless_numbers TC.c (hr.mono (by decide)) (pv 3) (pa_cons (pv 4) pa_nil)) pa_nil))))) pss_nil) fun N2 hN2 => ?_
        refine ⟨_, rfl, rfl, _, rfl, ?_⟩
        rw [decide_eq_true rfl]
        refine iteT ?_
        have T5 := Tt.same e5
        refine ⟨_, rfl, a, _, _, rfl, T5.o, rfl, _, rfl, a, dx, L, l, b, rs, _, _, _, β, r, rfl, T5, S0, fun i k hi hk => G.inj hi hk, hr0, fun k2 hk e => ?_, fun q H6 nq e6 hq => ⟨(by show 2 ≤ sizeLine; decide), fun t nt => ?_⟩⟩
        · have := tt_other (A := AX rows caps gains) (β := β) (Nat.le_refl rows.length) hk (by omega)
          rw [e] at this
          omega
        refine upd_gen nt fun H7 e7 h7 => ?_
        exact k (β, some r) H7 (.ref t) (pt.run (.endl hr0 hneg hfirst hno)) (e4.trans (e5.trans (e6.trans e7))) ⟨t, q, rfl, h7, e7 _ _ hq⟩
    · show V.non = V.non ∧ ∃ k, V.bl (!decide (V.non = V.non)) = .bl k ∧ _
      refine ⟨rfl, _, rfl, ?_⟩
      rw [decide_eq_true rfl]
      refine iteF ?_
      refine hN _ _ ?_
      have hrun := pt.run (Run.best hall)
      refine nxt (ps_set (i := 6) sc_best_mix.nd rfl (Or.inl rfl) (pm00 D_Tableau_mix_numbers TC.c (hr.mono (by decide)) (pv 3))) ?_
      refine ⟨_, rfl, a, _, _, rfl, Tt.o, rfl, a, dx, L, l, b, rs, _, _, _, β, rfl, Tt, S0, fun i k hi hk => G.inj hi hk, fun q H5 nq e5 hq => ?_⟩
      have T5 := Tt.same e5
      have e05 := e4.trans e5
      obtain ⟨pg, rfl, hGq⟩ := hG
      refine nxt (ps_set (i := 7) sc_best_mix.nd rfl (Or.inl rfl) (pe_slice sl_list (pe_fld (pv 3) rfl) (po_some (pe_callB call_len_seq (by rfl) T.len PySem.boot_len (pa_cons (pv 2) pa_nil))) (po_some (pe_un un_neg pe_int)))) ?_
      refine ⟨_, rfl, a, _, _, _, _, rfl, T5.o, TC.c, TC.la, rfl, _, rfl, pg, _, rfl, hGq.same e05, _, rfl, _, rfl, _, rfl, l, _, rfl, sqL T5.last, fun z nz => ?_⟩
      rw [List.length_map, cut_row]
      refine upd_gen nz fun H6 e6 h6 => ?_
      have T6 := T5.same e6
      refine nxt (ps_set (i := 8) sc_best_mix.nd rfl (Or.inr rfl) (pe_fld (pv 3) rfl)) ?_
      refine ⟨_, rfl, a, _, _, _, _, rfl, T6.o, TC.c, TC.sc, rfl, ?_⟩
      have x0 : ∀ j, j < gains.length → 0 ≤ Lp.wt rows.length β (fun k => tt (AX rows caps gains) rows.length β k (gains.length + rows.length)) j := fun j _ => wt_nonneg G.b j
      have y0 : ∀ i, i < rows.length → 0 ≤ tt (AX rows caps gains) rows.length β rows.length (gains.length + i) := fun i hi => hall _ (by omega)
      obtain ⟨dn, hdn⟩ : ∃ dn : Nat, dd (AX rows caps gains) rows.length β = (dn : Nat) := ⟨_, (Int.toNat_of_nonneg (Int.le_of_lt G.d)).symm⟩
      have hdt : (dd (AX rows caps gains) rows.length β).toNat = dn := by rw [hdn]; rfl
      have ad := e6 _ _ hq
      have lst : rngI gains.length (Lp.wt rows.length β (fun k => tt (AX rows caps gains) rows.length β k (gains.length + rows.length))) ++ rngI rows.length (fun i => tt (AX rows caps gains) rows.length β rows.length (gains.length + i)) = (nms (AX rows caps gains) gains.length rows.length β).map fun z : Nat => V.int z := by
        unfold nms
        rw [List.map_append, ← rngI_nat x0, ← rngI_nat y0]
      refine nxtN (ps_for (passes_of rfl) rfl (pi_list (pe_op op_cat (pv 6) (pv 7))) (pg_name (i := 9) sc_best_mix.nd rfl (Or.inl rfl)) wb) fun N3 hN3 => ?_
      refine ⟨_, rfl, _, rfl, q, z, _, _, rfl, rfl, ad, h6, Nat.le_of_lt (small1000 (by rw [rngI_len, rngI_len]; omega)), fun y ny => ?_⟩
      rw [lst]
      refine upd_gen ny fun H7 e7 h7 => ?_
      refine ⟨y, rfl, ⟨_, sqL h7⟩, for_list (K := c.K) (a := y) (xs := (nms (AX rows caps gains) gains.length rows.length β).map fun z : Nat => V.int z) (fun i σ H' => H' = H7 ∧ ∃ v9, σ = [some rv, some bv, some (.ref pg), some (.ref a), some .non, v5, some (.ref q), some (.ref z), some (.int (gf dn ((nms (AX rows caps gains) gains.length rows.length β).take i) : Nat)), v9, none, none]) ⟨rfl, none, by rw [hdn]; rfl⟩ (fun i σ H' _ p => by rw [p.1]; exact sqL h7) ?_ ?_⟩
      · rintro i x σ H8 hx ⟨rfl, v9, rfl⟩
        rw [List.getElem?_map] at hx
        cases hn : (nms (AX rows caps gains) gains.length rows.length β)[i]? with
        | none => rw [hn] at hx; cases hx
        | some nm =>
          rw [hn] at hx
          cases hx
          refine last (ps_set (i := 8) sc_best_mix.nd rfl (Or.inr rfl) (pc D_common_divisor (hr.mono (by decide)) (pa_cons (pv 8) (pa_cons (pv 9) pa_nil)))) ?_
          refine ⟨_, rfl, _, rfl, _, nm, rfl, rfl, some (.int (nm : Nat)), ?_⟩
          rw [gf_take hn]
          rfl
      rintro σ H8 ⟨rfl, v9, rfl⟩
      rw [List.length_map, List.take_length]
      refine hN3 _ _ ?_
      have hg : gf dn (nms (AX rows caps gains) gains.length rows.length β) = dvs (AX rows caps gains) gains.length rows.length β := by unfold dvs; rw [hdt]
      rw [hg]
      have g0 : 0 < dvs (AX rows caps gains) gains.length rows.length β := by
        rw [← hg]; exact gf_pos (by have := G.d; omega)
      have g1 : dvs (AX rows caps gains) gains.length rows.length β < 2 ^ 64 := by
        have h1 := Nat.le_of_dvd (by have := G.d; omega) (gf_dvd (nms (AX rows caps gains) gains.length rows.length β) dn).1
        rw [hg] at h1
        have := S0.2.2.1
        omega
      generalize hgn : dvs (AX rows caps gains) gains.length rows.length β = gn at g0 g1
      have wd : ∀ i : Int, CDivW i (gn : Nat) := fun i => wide_div (by omega) (b := 64) (by omega) (by decide) (by decide)
      refine nxt (ps_set (i := 10) sc_best_mix.nd rfl (Or.inl rfl) (pe_callTy call_tuple_of (by rfl) T.tuple (by decide +kernel) (pa_cons (pe_lc (own := [("number", 9)]) (g := gName 9) rfl sc_best_mix.nd (pi_list (pv 6)) (blkOk_by (own := [("number", 9)]) (N := ["rows", "bounds", "worths", "tableau", "column", "index", "numbers", "costs", "divisor", "number", "shared", "cost"]) (sc := defScope s_best_mix) (by decide +kernel)) (fun _ _ _ _ _ => (pg_name (i := 9) sc_best_mix.nd rfl (Or.inl rfl))) (fun _ _ _ _ _ => pts_nil) (fun _ _ _ _ _ => (pe_op op_fdivW (pv 9) (pv 8)))) pa_nil))) ?_
      refine ⟨_, rfl, q, rfl, ⟨_, sqL (e7 _ _ ad)⟩, fun D nD => lc_list (K := c.K) (a := q) (xs := rngI gains.length (Lp.wt rows.length β fun k => tt (AX rows caps gains) rows.length β k (gains.length + rows.length))) (fun i H' => Same H8 H' ∧ H' D = some (.lst (rngI i fun j => Lp.wt rows.length β (fun k => tt (AX rows caps gains) rows.length β k (gains.length + rows.length)) j / (gn : Nat)))) ⟨sm_new nD, upd_same⟩ (fun i H' _ p => sqL (p.1 _ _ (e7 _ _ ad))) ?_ ?_⟩
      · rintro i x H9 hx ⟨e9, h9⟩
        obtain ⟨hi, rfl⟩ : i < gains.length ∧ x = .int (Lp.wt rows.length β (fun k => tt (AX rows caps gains) rows.length β k (gains.length + rows.length)) i) := rngI_get hx
        refine ⟨rfl, ?_⟩
        refine ⟨_, rfl, _, rfl, _, _, rfl, rfl, wd _, _, h9, small1000 (by rw [rngI_len]; omega), ?_, ?_⟩
        · intro b o hb
          rw [upd_ne (ne_of_none hb nD)]
          exact e9 b o hb
        · rw [upd_same, rngI_succ]
      rintro H9 ⟨e9, h9⟩
      rw [rngI_len] at h9
      refine ⟨D, _, rfl, .inl ⟨sqL h9, fun sh nsh => ?_⟩⟩
      refine upd_gen nsh fun H10 e10 h10 => ?_
      have e810 := e9.trans e10
      have T10 := (T6.same e7).same e810
      refine last (ps_ret (pe_tup (pa_cons pe_str (pa_cons (pe_op op_fdivW (pe_fld (pv 3) rfl) (pv 8)) (pa_cons (pv 10) (pa_cons (pe_callTy call_tuple_of (by rfl) T.tuple (by decide +kernel) (pa_cons (pe_lc (own := [("cost", 11)]) (g := gName 11) rfl sc_best_mix.nd (pi_list (pv 7)) (blkOk_by (own := [("cost", 11)]) (N := ["rows", "bounds", "worths", "tableau", "column", "index", "numbers", "costs", "divisor", "number", "shared", "cost"]) (sc := defScope s_best_mix) (by decide +kernel)) (fun _ _ _ _ _ => (pg_name (i := 11) sc_best_mix.nd rfl (Or.inl rfl))) (fun _ _ _ _ _ => pts_nil) (fun _ _ _ _ _ => (pe_op op_fdivW (pv 11) (pv 8)))) pa_nil)) pa_nil)))))) ?_
      have hz10 := e810 _ _ (e7 _ _ h6)
      refine ⟨_, rfl, a, _, _, _, _, rfl, T10.o, TC.c, TC.sc, rfl, _, rfl, _, _, rfl, rfl, wd _, _, rfl, _, rfl, z, rfl, ⟨_, sqL hz10⟩, fun D2 nD2 => lc_list (K := c.K) (a := z) (xs := rngI rows.length fun i => tt (AX rows caps gains) rows.length β rows.length (gains.length + i)) (fun i H' => Same H10 H' ∧ H' D2 = some (.lst (rngI i fun j => tt (AX rows caps gains) rows.length β rows.length (gains.length + j) / (gn : Nat)))) ⟨sm_new nD2, upd_same⟩ (fun i H' _ p => sqL (p.1 _ _ hz10)) ?_ ?_⟩
      · rintro i x H11 hx ⟨e11, h11⟩
        obtain ⟨hi, rfl⟩ : i < rows.length ∧ x = .int (tt (AX rows caps gains) rows.length β rows.length (gains.length + i)) := rngI_get hx
        refine ⟨rfl, ?_⟩
        refine ⟨_, rfl, _, rfl, _, _, rfl, rfl, wd _, _, h11, small1000 (by rw [rngI_len]; omega), ?_, ?_⟩
        · intro b o hb
          rw [upd_ne (ne_of_none hb nD2)]
          exact e11 b o hb
        · rw [upd_same, rngI_succ]
      rintro H11 ⟨e11, h11⟩
      rw [rngI_len] at h11
      refine ⟨D2, _, rfl, .inl ⟨sqL h11, fun co nco => ?_⟩⟩
      refine upd_gen nco fun H12 e12 h12 => ?_
      refine ⟨(by show 4 ≤ sizeLine; decide), fun t nt => ?_⟩
      refine upd_gen nt fun H13 e13 h13 => ?_
      refine k (β, none) H13 (.ref t) hrun (e05.trans (e6.trans (e7.trans (e810.trans (e11.trans (e12.trans e13)))))) ⟨t, sh, co, rfl, ?_, ?_, ?_⟩
      · rw [h13, hgn]
      · rw [hgn]; exact e13 _ _ (e12 _ _ (e11 _ _ h10))
      · rw [hgn]; exact e13 _ _ h12
end
end B
namespace B
open PySem L2
/-! k83: the law's drawing; greatest divisor; dot -/
section
/-- the drawing state at p, its cells at a; m draws are left -/
def StB (H : Hp) (p a : Addr) (m : Nat) : Prop := ∃ (cs : List Int) (i n : Int), H p = some (.lst [.ref a, .int i, .int n]) ∧ H a = some (.lst (cs.map V.int)) ∧ a ≠ p ∧ 0 ≤ i ∧ 0 ≤ n ∧ n + m ≤ 2 ^ 30
def FrB (p a : Addr) (H H' : Hp) : Prop := ∀ b o, b ≠ p → b ≠ a → H b = some o → H' b = some o
theorem StB.le {H : Hp} {p a : Addr} {m m' : Nat} (S : StB H p a m) (h : m' ≤ m) : StB H p a m' := by
  obtain ⟨cs, i, n, h1, h2, h3, h4, h5, h6⟩ := S
  exact ⟨cs, i, n, h1, h2, h3, h4, h5, by omega⟩
theorem StB.same {H H' : Hp} {p a : Addr} {m : Nat} (S : StB H p a m) (e : Same H H') : StB H' p a m := by
  obtain ⟨cs, i, n, h1, h2, h3⟩ := S
  exact ⟨cs, i, n, e _ _ h1, e _ _ h2, h3⟩
theorem FrB.same {p a : Addr} {H H' : Hp} (e : Same H H') : FrB p a H H' := fun b o _ _ h => e b o h
theorem FrB.trans {p a : Addr} {H H1 H2 : Hp} (x : FrB p a H H1) (y : FrB p a H1 H2) : FrB p a H H2 := fun b o n1 n2 h => y b o n1 n2 (x b o n1 n2 h)
def spStart' (K : PySem.W.Frag) : Sp := fun vs H Q _ => ∃ (s : Addr) (ns : List Int), vs = [.ref s] ∧ SqL K H s (ns.map V.int) ∧ ns.length ≤ 63 ∧ ∀ (p a : Addr) (H' : Hp), Same H H' → StB H' p a (2 ^ 30) → H p = none → H a = none → Q (.ref p) H'
def spTake : Sp := fun vs H Q _ => ∃ (p a : Addr) (m : Nat) (z : Int), vs = [.ref p, .int z] ∧ StB H p a (m + 1) ∧ 0 < z ∧ z < 2 ^ 40 ∧ ∀ (r : Int) (H' : Hp), 0 ≤ r → r < z → StB H' p a m → FrB p a H H' → Q (.int r) H'
variable {P : Program} {w_ : World} {mg : Str → Option Value} {base : Heap} {c : Ct}
theorem ok_startB {f : Addr} {fd : FuncData} (F : Fun c.K "_law_start" "_law_start" s_l_start f fd) (T : Bt mg) : FnOk P w_ c.K mg base CX0 1 f fd ["_law_script"] (spStart' c.K) := by
  refine F.ok sc_l_start (fun vs H Q E h => ?_) (fun cdv A outer s H vs Q E hr h => ⟨_, wb, ?_⟩)
  · obtain ⟨s, ns, rfl, _⟩ := h
    rfl
  · obtain ⟨s, ns, rfl, hS, hlen, k⟩ := h
    refine last (ps_ret (pe_lst (pa_cons (pe_lc (own := [("_law_cell", 1)]) (g := gName 1) rfl sc_l_start.nd (pi_list (pv 0)) (blkOk_by (own := [("_law_cell", 1)]) (N := ["_law_script", "_law_cell"]) (sc := defScope s_l_start) (by decide +kernel)) (fun _ _ _ _ _ => (pg_name (i := 1) sc_l_start.nd rfl (Or.inl rfl))) (fun _ _ _ _ _ => pts_nil) (fun _ _ _ _ _ => (pe_callTy call_int1 (by rfl) T.int (by decide +kernel) (pa_cons (pv 1) pa_nil)))) (pa_cons pe_int (pa_cons pe_int pa_nil))))) ?_
    refine ⟨_, rfl, s, rfl, ⟨_, hS⟩, fun D nD => lc_list (K := c.K) (a := s) (xs := ns.map V.int) (fun i H' => Same H H' ∧ H' D = some (.lst ((ns.take i).map V.int))) ⟨sm_new nD, by simpa using upd_same⟩ (fun i H' _ p => sm_l p.1 hS) ?_ ?_⟩
    · rintro i x H1 hx ⟨e1, h1⟩
      have hil : i < ns.length := by have := (List.getElem?_eq_some_iff.mp hx).1; rw [List.length_map] at this; exact this
      rw [List.getElem?_map, List.getElem?_eq_getElem hil] at hx
      cases hx
      refine ⟨rfl, ?_⟩
      refine ⟨_, rfl, .inl ⟨_, rfl, _, h1, small1000 (by simp; omega), ?_, ?_⟩⟩
      · intro b o hb
        rw [upd_ne (ne_of_none hb nD)]
        exact e1 b o hb
      · rw [upd_same, List.take_add_one, List.map_append, List.getElem?_eq_getElem hil]
        rfl
    · rintro H1 ⟨e1, h1⟩
      rw [List.length_map, List.take_length] at h1
      refine ⟨(by show 3 ≤ sizeLine; decide), fun p np => ?_⟩
      refine upd_gen np fun H2 e2 h2 => ?_
      have npH : H p = none := by
        cases y : H p with
        | none => rfl
        | some o => rw [e1 p o y] at np; cases np
      exact k p D H2 (e1.trans e2) ⟨ns, 0, 0, h2, e2 _ _ h1, ne_of_none h1 np, by omega, by omega, by omega⟩ npH nD
theorem ok_l_take {f : Addr} {fd : FuncData} (F : Fun c.K "_law_take" "_law_take" s_l_take f fd) (T : Bt mg) : FnOk P w_ c.K mg base CX0 1 f fd ["_law_state", "_law_limit"] spTake := by
  refine F.ok sc_l_take (fun vs H Q E h => ?_) (fun cdv A outer s H vs Q E hr h => ⟨_, wb, ?_⟩)
  · obtain ⟨p, a, m, z, rfl, _⟩ := h
    rfl
  · obtain ⟨p, a, m, z, rfl, ⟨cs, i, n, hp, hc, nap, i0, n0, n1⟩, z0, z1, k⟩ := h
    refine nxt (ps_set (i := 2) sc_l_take.nd rfl (Or.inl rfl) (pe_ix ix_list (pv 0) pe_int (fun _ _ => rfl))) ?_
    refine ⟨_, rfl, p, _, 0, _, rfl, rfl, sqL hp, rfl, ?_⟩
    refine nxt (ps_asg (pe_op op_add (pe_ix ix_list (pv 0) pe_int (fun _ _ => rfl)) pe_int) (pg_sub (pv 0) pe_int set_list)) ?_
    refine ⟨_, rfl, p, _, 2, _, rfl, rfl, sqL hp, rfl, _, _, rfl, rfl, _, rfl, p, _, 2, 2, rfl, rfl, hp, rfl, ?_⟩
    have hp1 : (upd H p (.lst [.ref a, .int i, .int (n + 1)])) p = some (.lst [.ref a, .int i, .int (n + 1)]) := upd_same
    have hc1 : (upd H p (.lst [.ref a, .int i, .int (n + 1)])) a = some (.lst (cs.map V.int)) := (upd_ne nap).trans hc
    have fr1 : FrB p a H (upd H p (.lst [.ref a, .int i, .int (n + 1)])) := fun b o n1 _ h => by rw [upd_ne n1]; exact h
    generalize hH1 : upd H p (.lst [.ref a, .int i, .int (n + 1)]) = H1 at hp1 hc1 fr1
    show WB _ _ _ _ (upd H p (.lst [.ref a, .int i, .int (n + 1)]))
    rw [hH1]
    refine nxt (ps_set (i := 3) sc_l_take.nd rfl (Or.inl rfl) (pe_op op_mod (pe_callTy call_int1 (by rfl) T.int (by decide +kernel) (pa_cons (pe_ix ix_list (pv 0) pe_int (fun _ _ => rfl)) pa_nil)) (pe_callB (call_max2 rfl) (by rfl) T.max (by decide +kernel) (pa_cons pe_int (pa_cons (pe_callB call_len_seq (by rfl) T.len PySem.boot_len (pa_cons (pv 2) pa_nil)) pa_nil))))) ?_
    refine ⟨_, rfl, p, _, 1, _, rfl, rfl, sqL hp1, rfl, .inl ⟨_, rfl, _, rfl, a, _, rfl, .inl (sqL hc1), _, _, rfl, _, _, rfl, rfl, ?_, ?_⟩⟩
    · split <;> omega
    obtain ⟨at_, hat⟩ : ∃ at_ : Int, at_ = i % (if ((cs.map V.int).length : Int) > 1 then ((cs.map V.int).length : Int) else 1) := ⟨_, rfl⟩
    have at0 : 0 ≤ at_ := by rw [hat]; exact Int.emod_nonneg _ (by split <;> omega)
    have at1 : cs ≠ [] → at_ < cs.length := fun hne => by
      have hl : 0 < cs.length := List.length_pos_iff.mpr hne
      have := Int.emod_lt_of_pos i (b := if ((cs.map V.int).length : Int) > 1 then ((cs.map V.int).length : Int) else 1) (by split <;> omega)
      rw [← hat, List.length_map] at this
      split at this <;> omega
    show gName 3 (V.int (i % (if ((cs.map V.int).length : Int) > 1 then ((cs.map V.int).length : Int) else 1))) _ H1 _
    rw [← hat]
    refine nxt (ps_set (i := 4) sc_l_take.nd rfl (Or.inl rfl) pe_int) ?_
    refine nxtC (ps_if (pt_truth (pv 2) (by intro _; rfl)) (pss_one (ps_set (i := 4) sc_l_take.nd rfl (Or.inl rfl) (pe_ix ix_list (pv 2) (pv 3) (fun _ _ => rfl)))) pss_nil) (fun σ' H' => H' = H1 ∧ ∃ cell : Int, σ' = [some (.ref p), some (.int z), some (.ref a), some (.int at_), some (.int cell), none] ∧ (cell ≠ 0 → cs ≠ [])) ?_ ?_
    · refine ⟨_, rfl, _, .inl ⟨_, sqL hc1, rfl⟩, ?_⟩
      cases cs with
      | nil => exact ⟨rfl, 0, rfl, fun h => absurd rfl h⟩
      | cons c0 cr =>
        refine iteT ?_
        obtain ⟨j, hj⟩ : ∃ j : Nat, at_ = (j : Nat) := ⟨at_.toNat, (Int.toNat_of_nonneg at0).symm⟩
        have hjl : j < (c0 :: cr).length := by have := at1 (by simp); omega
        refine ⟨_, rfl, _, rfl, a, _, _, .int (c0 :: cr)[j], rfl, rfl, sqL hc1, ?_, rfl, _, rfl, fun _ => by simp⟩
        rw [hj]
        exact atI_nat (by rw [List.getElem?_map, List.getElem?_eq_getElem hjl]; rfl)
    rintro σ' H' ⟨rfl, cell, rfl, hcell⟩
    refine nxtN (ps_if (pt_cmpR op_ge (pe_callB call_abs (by rfl) T.abs (by decide +kernel) (pa_cons (pv 4) pa_nil)) (pe_op op_pow pe_int pe_int) (nomark _)) wb pss_nil) fun N hN => ?_
    refine ⟨_, rfl, _, rfl, _, _, rfl, rfl, ⟨by decide, by decide, by decide⟩, _, _, rfl, rfl, _, rfl, ?_⟩
    refine ite2 (fun hb => ?_) (fun hb => ?_)
    · have hne : cs ≠ [] := hcell fun e => by
        subst e
        simp at hb
      obtain ⟨j, hj⟩ : ∃ j : Nat, at_ = (j : Nat) := ⟨at_.toNat, (Int.toNat_of_nonneg at0).symm⟩
      have hjl : j < cs.length := by have := at1 hne; omega
      refine nxt (ps_asg (pe_op op_fdivW (pe_callB call_abs (by rfl) T.abs (by decide +kernel) (pa_cons (pv 4) pa_nil)) (pv 1)) (pg_sub (pv 2) (pv 3) set_list)) ?_
      refine ⟨_, rfl, _, rfl, _, rfl, _, _, rfl, rfl, wide_div z0 (b := 40) (by omega) (by decide) (by decide), _, rfl, _, rfl, a, _, _, j, rfl, rfl, hc1, by rw [hj]; exact Evl.ixN_nat (by rw [List.length_map]; exact hjl), ?_⟩
      refine last (ps_ret (pe_op op_mod (pe_callB call_abs (by rfl) T.abs (by decide +kernel) (pa_cons (pv 4) pa_nil)) (pv 1))) ?_
      refine ⟨_, rfl, _, rfl, _, rfl, _, _, rfl, rfl, z0, ?_⟩
      refine k _ _ (Int.emod_nonneg _ (by omega)) (Int.emod_lt_of_pos _ z0) ⟨cs.set j ((if cell < 0 then -cell else cell) / z), i, n + 1, ?_, ?_, nap, i0, by omega, by omega⟩ fun b o n1 n2 h => ?_
      · rw [upd_ne (Ne.symm nap)]; exact hp1
      · rw [upd_same, List.map_set]
      · rw [upd_ne n2]; exact fr1 b o n1 n2 h
    · refine hN _ _ ?_
      refine nxt (ps_asg (pe_op op_add (pe_ix ix_list (pv 0) pe_int (fun _ _ => rfl)) pe_int) (pg_sub (pv 0) pe_int set_list)) ?_
      refine ⟨_, rfl, p, _, 1, _, rfl, rfl, sqL hp1, rfl, _, _, rfl, rfl, _, rfl, p, _, 1, 1, rfl, rfl, hp1, rfl, ?_⟩
      have hp2 : (upd H' p (.lst [.ref a, .int (i + 1), .int (n + 1)])) p = some (.lst [.ref a, .int (i + 1), .int (n + 1)]) := upd_same
      have S2 : StB (upd H' p (.lst [.ref a, .int (i + 1), .int (n + 1)])) p a m := ⟨cs, i + 1, n + 1, upd_same, (upd_ne nap).trans hc1, nap, by omega, by omega, by omega⟩
      have fr2 : FrB p a H (upd H' p (.lst [.ref a, .int (i + 1), .int (n + 1)])) := fun b o n1 n2 h => by rw [upd_ne n1]; exact fr1 b o n1 n2 h
      show WB _ _ _ _ (upd H' p (.lst [.ref a, .int (i + 1), .int (n + 1)]))
      generalize upd H' p (.lst [.ref a, .int (i + 1), .int (n + 1)]) = H2 at hp2 S2 fr2 ⊢
      refine nxt (ps_set (i := 5) sc_l_take.nd rfl (Or.inl rfl) (pe_op op_mod (pe_op op_pow (pe_callTy call_int1 (by rfl) T.int (by decide +kernel) (pa_cons (pe_op op_add (pe_op op_add (pe_op op_mul (pe_op op_mod (pe_callTy call_int1 (by rfl) T.int (by decide +kernel) (pa_cons (pv 4) pa_nil)) pe_int) pe_int) (pe_op op_mul (pe_ix ix_list (pv 0) pe_int (fun _ _ => rfl)) pe_int)) pe_int) pa_nil)) pe_int) pe_int)) ?_
      have c0 : 0 ≤ cell % 2147483647 := Int.emod_nonneg _ (by decide)
      have c1 : cell % 2147483647 < 2147483647 := Int.emod_lt_of_pos _ (by decide)
      refine ⟨_, rfl, .inl ⟨_, rfl, _, _, rfl, rfl, (by show (0 : Int) < _; decide), _, _, rfl, rfl, .inl ⟨by omega, by omega⟩, _, rfl, p, _, 2, _, rfl, rfl, sqL hp2, rfl, _, _, rfl, rfl, .inl ⟨by omega, by omega⟩, _, _, rfl, rfl, _, _, rfl, rfl, .inl ⟨_, rfl, _, _, rfl, rfl, ⟨by decide, by decide, ?_⟩, _, _, rfl, rfl, (by show (0 : Int) < _; decide), ?_⟩⟩⟩
      · omega
      have e5 : (5 : Int).toNat = 5 := rfl
      rw [e5]
      have o0 : 0 ≤ (cell % 2147483647 * 48271 + (n + 1) * 69621 + 11) ^ 5 % 2147483647 := Int.emod_nonneg _ (by decide)
      have o1 : (cell % 2147483647 * 48271 + (n + 1) * 69621 + 11) ^ 5 % 2147483647 < 2147483647 := Int.emod_lt_of_pos _ (by decide)
      show WB _ _ _ [_, _, _, _, _, some (.int ((cell % 2147483647 * 48271 + (n + 1) * 69621 + 11) ^ 5 % 2147483647))] _
      generalize (cell % 2147483647 * 48271 + (n + 1) * 69621 + 11) ^ 5 % 2147483647 = one at o0 o1
      refine nxt (ps_set (i := 5) sc_l_take.nd rfl (Or.inl rfl) (pe_op op_mod (pe_op op_pow (pe_callTy call_int1 (by rfl) T.int (by decide +kernel) (pa_cons (pe_op op_add (pe_op op_add (pe_op op_mul (pv 5) pe_int) (pe_op op_mul (pe_ix ix_list (pv 0) pe_int (fun _ _ => rfl)) pe_int)) pe_int) pa_nil)) pe_int) pe_int)) ?_
      refine ⟨_, rfl, _, _, rfl, rfl, .inl ⟨by omega, by omega⟩, _, rfl, p, _, 2, _, rfl, rfl, sqL hp2, rfl, _, _, rfl, rfl, .inl ⟨by omega, by omega⟩, _, _, rfl, rfl, _, _, rfl, rfl, .inl ⟨_, rfl, _, _, rfl, rfl, ⟨by decide, by decide, ?_⟩, _, _, rfl, rfl, (by show (0 : Int) < _; decide), ?_⟩⟩
      · omega
      refine last (ps_ret (pe_op op_mod (pe_op op_fdivW (pv 5) pe_int) (pv 1))) ?_
      refine ⟨_, rfl, _, _, rfl, rfl, wide_div (by decide) (b := 40) (by decide) (by decide) (by decide), _, rfl, _, _, rfl, rfl, z0, ?_⟩
      exact k _ _ (Int.emod_nonneg _ (by omega)) (Int.emod_lt_of_pos _ z0) S2 fr2
end
end B
namespace B
open PySem L2
/-! k83: the law's greatest divisor -/
section
open Lp
def spDiv (c : Ct) : Sp := fun vs H Q _ => ∃ (t : Addr) (ns : List Nat), vs = [.ref t] ∧ Sq c.K H t (ns.map fun n : Nat => V.int n) ∧ Q (.int (gf 0 ns : Nat)) H
variable {P : Program} {w_ : World} {mg : Str → Option Value} {base : Heap} {c : Ct}
theorem ok_l_divisor {f : Addr} {fd : FuncData} (F : Fun c.K "_law_divisor" "_law_divisor" s_l_divisor f fd) (T : Bt mg) : FnOk P w_ c.K mg base CX0 1 f fd ["_law_numbers"] (spDiv c) := by
  refine F.ok sc_l_divisor (fun vs H Q E h => ?_) (fun cdv A outer s H vs Q E hr h => ⟨_, wb, ?_⟩)
  · obtain ⟨t, ns, rfl, _⟩ := h
    rfl
  · obtain ⟨t, ns, rfl, hS, k⟩ := h
    refine nxt (ps_set (i := 1) sc_l_divisor.nd rfl (Or.inl rfl) pe_int) ?_
    refine nxtN (ps_for PassesOwn.never rfl (pi_seq (pv 0)) (pg_name (i := 2) sc_l_divisor.nd rfl (Or.inl rfl)) wb) fun N hN => ?_
    refine ⟨_, rfl, t, rfl, for_sq hS (fun i σ H' => H' = H ∧ ∃ v2 v3, σ = [some (.ref t), some (.int (gf 0 (ns.take i) : Nat)), v2, v3]) ⟨rfl, _, _, rfl⟩ (fun i σ' H' p => by rw [p.1]; exact Same.refl H) ?_ ?_⟩
    · rintro i x σ H1 hx ⟨rfl, v2, v3, rfl⟩
      rw [List.getElem?_map] at hx
      cases hn : ns[i]? with
      | none => rw [hn] at hx; cases hx
      | some nm =>
        rw [hn] at hx
        cases hx
        refine nxt (ps_set (i := 3) sc_l_divisor.nd rfl (Or.inl rfl) (pe_callB call_abs (by rfl) T.abs (by decide +kernel) (pa_cons (pv 2) pa_nil))) ?_
        refine ⟨_, rfl, _, rfl, ?_⟩
        show WB _ _ _ [_, _, _, some (.int (if ((nm : Nat) : Int) < 0 then -((nm : Nat) : Int) else ((nm : Nat) : Int)))] _
        rw [if_neg (by omega)]
        refine last (ps_while PassesOwn.never (pt_cmpR op_ne (pv 3) pe_int (nomark _)) wb) ?_
        refine ⟨fun M σ H' => H' = H1 ∧ ∃ u : Nat, σ = [some (.ref t), some (.int (u : Nat)), some (.int (nm : Nat)), some (.int (M : Nat))] ∧ Nat.gcd u M = Nat.gcd (gf 0 (ns.take i)) nm, ⟨nm, rfl, gf 0 (ns.take i), rfl, rfl⟩, ?_⟩
        rintro M σ H2 ⟨rfl, u, rfl, hg⟩
        refine ⟨_, rfl, rfl, _, rfl, ?_⟩
        refine ite2 (fun hp => ?_) (fun hp => ?_)
        · have hm : 0 < M := by
            rcases Nat.eq_zero_or_pos M with z | z
            · subst z; simp at hp
            · exact z
          refine ⟨_, fun _ _ h => h, ?_⟩
          refine last (ps_par (i := 1) (j := 3) (by rfl) sc_l_divisor.nd rfl rfl (by decide) rfl rfl (pa_cons (pv 3) (pa_cons (pe_op op_mod (pe_callTy call_int1 (by rfl) T.int (by decide +kernel) (pa_cons (pv 1) pa_nil)) (pv 3)) pa_nil)) (by rfl)) ?_
          refine ⟨_, rfl, _, rfl, .inl ⟨_, rfl, _, rfl, _, _, rfl, rfl, by omega, _, _, rfl, u % M, Nat.mod_lt _ hm, rfl, M, rfl, ?_⟩⟩
          rw [← hg, Nat.gcd_comm u M, Nat.gcd_rec M u, Nat.gcd_comm]
        · have hm : M = 0 := by
            have : ¬ (V.int (M : Nat) ≠ V.int 0) := fun z => hp (by rw [decide_eq_false z]; rfl)
            have := V.int.inj (Classical.byContradiction this)
            omega
          subst hm
          rw [Nat.gcd_zero_right] at hg
          refine ⟨rfl, some (.int (nm : Nat)), some (.int (0 : Nat)), ?_⟩
          rw [gf_take hn, ← hg]
    · rintro σ H1 ⟨rfl, v2, v3, rfl⟩
      rw [List.length_map, List.take_length]
      refine hN _ _ ?_
      exact last (ps_ret (pv 1)) ⟨_, rfl, k⟩
end
end B
namespace B
open PySem L2
/-! k83: dot, whole -/
section
open Lp
def dotL (xs ys : List Int) : Int := S xs.length fun k => xs.getD k 0 * ys.getD k 0
theorem sum_rng (n : Nat) (f : Nat → Int) : ((List.range n).map f).sum = S n f := by
  induction n with
  | zero => rfl
  | succ n ih => rw [List.range_succ, List.map_append, List.sum_append, ih, S]; simp
def spDot (c : Ct) : Sp := fun vs H Q _ => ∃ (u v : V) (xs ys : List Int), vs = [u, v] ∧ IL c.K H u xs ∧ IL c.K H v ys ∧ xs.length = ys.length ∧ xs.length < 900 ∧ (∀ x ∈ xs, -(2 ^ 64) < x ∧ x < 2 ^ 64) ∧ ∀ H', Same H H' → Q (.int (dotL xs ys)) H'
def spWhole (c : Ct) : Sp := fun vs H Q _ => ∃ (t : Addr) (xs : List Int), vs = [.ref t, .int xs.length] ∧ H t = some (.tup (xs.map V.int)) ∧ (∀ x ∈ xs, 0 ≤ x) ∧ xs.length < 900 ∧ ∀ H', Same H H' → Q (.bl true) H'
variable {P : Program} {w_ : World} {mg : Str → Option Value} {base : Heap} {c : Ct}
theorem ok_l_dot {f : Addr} {fd : FuncData} (F : Fun c.K "_law_dot" "_law_dot" s_l_dot f fd) (T : Bt mg) : FnOk P w_ c.K mg base CX0 1 f fd ["_law_one", "_law_other"] (spDot c) := by
  refine F.ok sc_l_dot (fun vs H Q E h => ?_) (fun cdv A outer s H vs Q E hr h => ⟨_, wb, ?_⟩)
  · obtain ⟨u, v, xs, ys, rfl, _⟩ := h
    rfl
  · obtain ⟨u, v, xs, ys, rfl, ⟨pu, rfl, hu⟩, ⟨pw, rfl, hv⟩, hl, hz, hb, k⟩ := h
    refine last (ps_ret (pe_callB (cr_sum rfl) (by rfl) T.sum (by decide +kernel) (pa_cons (pe_lc (own := [("_law_k", 2)]) (g := gName 2) rfl sc_l_dot.nd (pi_range1 (by rfl) T.range (pa_cons (pe_callB call_len_seq (by rfl) T.len PySem.boot_len (pa_cons (pv 0) pa_nil)) pa_nil)) (blkOk_by (own := [("_law_k", 2)]) (N := ["_law_one", "_law_other", "_law_k"]) (sc := defScope s_l_dot) (by decide +kernel)) (fun _ _ _ _ _ => (pg_name (i := 2) sc_l_dot.nd rfl (Or.inl rfl))) (fun _ _ _ _ _ => pts_nil) (fun _ _ _ _ _ => (pe_op op_mul (pe_ix (r := rGetA c.K) (ix_any hr.units) (pv 0) (pv 2) (fun _ _ => rfl)) (pe_ix (r := rGetA c.K) (ix_any hr.units) (pv 1) (pv 2) (fun _ _ => rfl))))) pa_nil))) ?_
    refine ⟨_, rfl, pu, _, rfl, hu, _, rfl, by rw [List.length_map]; omega, by rw [List.length_map]; omega, fun D nD => lc_range (lo := 0) (n := (((xs.map V.int).length : Nat) : Int).toNat) (fun j H' => Same H H' ∧ H' D = some (.lst (((List.range j).map fun k => xs.getD k 0 * ys.getD k 0).map V.int))) ⟨sm_new nD, upd_same⟩ ?_ ?_⟩
    · rintro j H1 hj ⟨e1, h1⟩
      have hj : j < xs.length := by simpa using hj
      have hj2 : j < ys.length := by omega
      refine ⟨rfl, ?_⟩
      refine ⟨_, rfl, _, rfl, ?_⟩
      rw [Int.zero_add]
      refine rget_sq (hu.same e1) hj ?_
      refine ⟨_, rfl, _, rfl, rget_sq (hv.same e1) hj2 ⟨_, _, rfl, rfl, .inl (hb _ (List.getElem_mem hj)), _, h1, small1000 (by simp; omega), ?_, ?_⟩⟩
      · intro b o hb
        rw [upd_ne (ne_of_none hb nD)]
        exact e1 b o hb
      · rw [upd_same, List.range_succ, List.map_append, List.map_append]
        simp [List.getD_eq_getElem?_getD, hj, hj2]
    · rintro H1 ⟨e1, h1⟩
      have h1 : H1 D = some (.lst (((List.range xs.length).map fun k => xs.getD k 0 * ys.getD k 0).map V.int)) := by simpa using h1
      refine ⟨D, _, rfl, sqL h1, ?_⟩
      rw [sum_rng]
      exact k H1 e1
theorem ok_l_whole {f : Addr} {fd : FuncData} (F : Fun c.K "_law_whole" "_law_whole" s_l_whole f fd) (T : Bt mg) : FnOk P w_ c.K mg base CX0 1 f fd ["_law_items", "_law_size"] (spWhole c) := by
  refine F.ok sc_l_whole (fun vs H Q E h => ?_) (fun cdv A outer s H vs Q E hr h => ⟨_, wb, ?_⟩)
  · obtain ⟨t, xs, rfl, _⟩ := h
    rfl
  · obtain ⟨t, xs, rfl, ht, hp, hz, k⟩ := h
    refine nxtN (ps_if (PW.pt (pw_or (pt_not (pt_val (pe_callB call_isi (by rfl) T.isinstance (by decide +kernel) (pa_cons (pv 0) (pa_cons (pe_bltn (v := .ty "tuple") (by rfl) T.tuple (by decide +kernel) rfl) pa_nil))))) (pw_or1 (pt_cmpR op_ne (pe_callB call_len_seq (by rfl) T.len PySem.boot_len (pa_cons (pv 0) pa_nil)) (pv 1) (nomark _))))) (pss_one (ps_ret pe_bl)) pss_nil) fun N hN => ?_
    refine ⟨_, rfl, _, _, _, _, _, rfl, .ty "tuple", .base (.tup ht), kit_ty (r := true) (by decide +kernel), _, rfl, ?_⟩
    refine ⟨_, rfl, t, _, rfl, .inr (sqT ht), _, rfl, rfl, _, rfl, ?_⟩
    rw [List.length_map, decide_eq_true rfl]
    refine iteF ?_
    refine hN _ _ ?_
    refine last (ps_ret (pe_callB (cr_all rfl) (by rfl) T.all (by decide +kernel) (pa_cons (pe_lc (own := [("_law_item", 2)]) (g := gName 2) rfl sc_l_whole.nd (pi_tup (pv 0)) (blkOk_by (own := [("_law_item", 2)]) (N := ["_law_items", "_law_size", "_law_item"]) (sc := defScope s_l_whole) (by decide +kernel)) (fun _ _ _ _ _ => (pg_name (i := 2) sc_l_whole.nd rfl (Or.inl rfl))) (fun _ _ _ _ _ => pts_nil) (fun _ _ _ _ _ => (pe_and (pe_callB (id := "isinstance") (r := rIsi c.K) call_isi (by rfl) T.isinstance (by decide +kernel) (pa_cons (pv 2) (pa_cons (pe_bltn (v := .ty "int") (by rfl) T.int (by decide +kernel) rfl) pa_nil))) (pe_and (pe_not (pe_callB (id := "isinstance") (r := rIsi c.K) call_isi (by rfl) T.isinstance (by decide +kernel) (pa_cons (pv 2) (pa_cons (pe_bltn (v := .ty "bool") (by rfl) T.bool (by decide +kernel) rfl) pa_nil)))) (pe_one (pe_cmpR op_ge (pv 2) pe_int (nomark _))))))) pa_nil))) ?_
    refine ⟨_, rfl, t, rfl, ⟨_, sqT ht⟩, fun D nD => lc_tup (K := c.K) (a := t) (xs := xs.map V.int) (fun i H' => Same H H' ∧ H' D = some (.lst ((List.replicate i true).map V.bl))) ⟨sm_new nD, upd_same⟩ (fun i H' _ p => sm_t p.1 (sqT ht)) ?_ ?_⟩
    · rintro i x H1 hx ⟨e1, h1⟩
      have hil : i < xs.length := by have := (List.getElem?_eq_some_iff.mp hx).1; rw [List.length_map] at this; exact this
      rw [List.getElem?_map, List.getElem?_eq_getElem hil] at hx
      cases hx
      refine ⟨rfl, ?_⟩
      refine ⟨_, rfl, _, _, _, _, _, rfl, .ty "int", .base (.int _), kit_ty (r := true) (by decide +kernel), _, rfl, ?_⟩
      refine ⟨_, rfl, _, _, _, _, _, rfl, .ty "bool", .base (.int _), kit_ty (r := false) (by decide +kernel), _, rfl, _, rfl, ?_⟩
      refine ⟨_, rfl, _, _, rfl, rfl, _, h1, small1000 (by simp; omega), ?_, ?_⟩
      · intro b o hb
        rw [upd_ne (ne_of_none hb nD)]
        exact e1 b o hb
      · rw [upd_same, List.replicate_succ', List.map_append]
        have := hp xs[i] (List.getElem_mem hil)
        simp [this]
    · rintro H1 ⟨e1, h1⟩
      refine ⟨D, _, rfl, sqL h1, ?_⟩
      have : (List.replicate (xs.map V.int).length true).all id = true := by simp
      rw [this]
      exact k H1 e1
end
end B
namespace B
open PySem L2
/-! k83: what is due -/
section
def tellP (H : Hp) (Q : VK) : Option (Nat × Str × Int) → Prop
  | none => ∀ H', Same H H' → Q .non H'
  | some (_, f, z) => ∀ t H', H t = none → Same H H' → H' t = some (.tup [.str f, .int z]) → Q (.ref t) H'
def spDue (c : Ct) : Sp := fun vs H Q _ => ∃ (rv bv gv : V) (rows : List (List Int)) (caps gains : List Int), vs = [rv, bv, gv] ∧ ML c.K H rv rows ∧ IL c.K H bv caps ∧ IL c.K H gv gains ∧ tellP H Q (chkP rows caps gains)
variable {P : Program} {w_ : World} {mg : Str → Option Value} {base : Heap} {c : Ct}
theorem ok_l_due {f : Addr} {fd : FuncData} (F : Fun c.K "_law_due" "_law_due" s_l_due f fd) (T : Bt mg) : FnOk P w_ c.K mg base CX0 1 f fd ["_law_lines", "_law_caps", "_law_gains"] (spDue c) := by
  refine F.ok sc_l_due (fun vs H Q E h => ?_) (fun cdv A outer s H vs Q E hr h => ⟨_, wb, ?_⟩)
  · obtain ⟨rv, bv, gv, rows, caps, gains, rfl, _⟩ := h
    rfl
  · obtain ⟨rv, bv, gv, rows, caps, gains, rfl, hM, ⟨pb, rfl, hB⟩, ⟨pg, rfl, hG⟩, k⟩ := h
    obtain ⟨pr, vs, rfl, hR, hl, hrow⟩ := hM
    refine nxtN (ps_if (pt_cmpR op_ne (pe_callB call_len_seq (by rfl) T.len PySem.boot_len (pa_cons (pv 1) pa_nil)) (pe_callB call_len_seq (by rfl) T.len PySem.boot_len (pa_cons (pv 0) pa_nil)) (nomark _)) (pss_one (ps_ret (pe_tup (pa_cons pe_str (pa_cons (pe_callB call_len_seq (by rfl) T.len PySem.boot_len (pa_cons (pv 1) pa_nil)) pa_nil))))) pss_nil) fun N hN => ?_
    refine ⟨_, rfl, pb, _, rfl, hB, _, rfl, pr, _, rfl, hR, rfl, _, rfl, ?_⟩
    rw [List.length_map, hl]
    unfold chkP at k
    refine ite2 (fun c1 => ?_) (fun c1 => ?_)
    · rw [if_pos (int_ne.mp c1)] at k
      refine ⟨_, rfl, pb, _, rfl, hB, (by show 2 ≤ sizeLine; decide), fun t nt => ?_⟩
      refine upd_gen nt fun H2 e2 h2 => ?_
      rw [List.length_map] at h2
      exact k t H2 nt e2 h2
    · rw [if_neg (fun z => c1 (int_ne.mpr z))] at k
      refine hN _ _ ?_
      refine nxtN (ps_for PassesOwn.never rfl (pi_seq (pv 0)) (pg_name (i := 3) sc_l_due.nd rfl (Or.inl rfl)) wb) fun N2 hN2 => ?_
      refine ⟨_, rfl, pr, rfl, for_sq hR (fun i σ H' => (∃ v, σ = [some (.ref pr), some (.ref pb), some (.ref pg), v, none]) ∧ H' = H ∧ rowBad gains.length rows = rowBad gains.length (rows.drop i)) ⟨⟨_, rfl⟩, rfl, rfl⟩ (fun i σ' H' p => by rw [p.2.1]; exact Same.refl H) ?_ ?_⟩
      · rintro i x σ' H2 hi ⟨⟨v, rfl⟩, rfl, hb⟩
        have hil : i < rows.length := by rw [← hl]; exact (List.getElem?_eq_some_iff.mp hi).1
        obtain ⟨px, rfl, hx⟩ := hrow i x rows[i] hi (List.getElem?_eq_getElem hil)
        rw [List.drop_eq_getElem_cons hil, rowBad] at hb
        refine last (ps_if (pt_cmpR op_ne (pe_callB call_len_seq (by rfl) T.len PySem.boot_len (pa_cons (pv 3) pa_nil)) (pe_callB call_len_seq (by rfl) T.len PySem.boot_len (pa_cons (pv 2) pa_nil)) (nomark _)) (pss_one (ps_ret (pe_tup (pa_cons pe_str (pa_cons (pe_callB call_len_seq (by rfl) T.len PySem.boot_len (pa_cons (pv 3) pa_nil)) pa_nil))))) pss_nil) ?_
        refine ⟨_, rfl, px, _, rfl, hx, _, rfl, pg, _, rfl, hG, rfl, _, rfl, ?_⟩
        rw [List.length_map, List.length_map]
        refine ite2 (fun c2 => ?_) (fun c2 => ?_)
        · rw [if_pos (int_ne.mp c2)] at hb
          rw [hb] at k
          refine ⟨_, rfl, px, _, rfl, hx, (by show 2 ≤ sizeLine; decide), fun t nt => ?_⟩
          refine upd_gen nt fun H3 e3 h3 => ?_
          rw [List.length_map] at h3
          exact k t H3 nt e3 h3
        · rw [if_neg (fun z => c2 (int_ne.mpr z))] at hb
          exact ⟨⟨_, rfl⟩, rfl, hb⟩
      · rintro σ' H2 ⟨⟨v, rfl⟩, rfl, hb⟩
        rw [hl, List.drop_length, rowBad] at hb
        rw [hb] at k
        refine hN2 _ _ ?_
        refine nxtN (ps_for PassesOwn.never rfl (pi_seq (pv 1)) (pg_name (i := 4) sc_l_due.nd rfl (Or.inl rfl)) wb) fun N3 hN3 => ?_
        refine ⟨_, rfl, pb, rfl, for_sq hB (fun i σ H' => (∃ v v2, σ = [some (.ref pr), some (.ref pb), some (.ref pg), v, v2]) ∧ H' = H2 ∧ capBad caps = capBad (caps.drop i)) ⟨⟨_, _, rfl⟩, rfl, rfl⟩ (fun i σ' H' p => by rw [p.2.1]; exact Same.refl H2) ?_ ?_⟩
        · rintro i x σ' H3 hi ⟨⟨v, v2, rfl⟩, rfl, hb3⟩
          have hil : i < caps.length := by have := (List.getElem?_eq_some_iff.mp hi).1; rw [List.length_map] at this; exact this
          rw [List.getElem?_map, List.getElem?_eq_getElem hil] at hi
          cases hi
          rw [List.drop_eq_getElem_cons hil, capBad] at hb3
          refine last (ps_if (pt_cmpR op_lt (pv 4) pe_int (nomark _)) (pss_one (ps_ret (pe_tup (pa_cons pe_str (pa_cons (pv 4) pa_nil))))) pss_nil) ?_
          refine ⟨_, rfl, _, _, rfl, rfl, _, rfl, ?_⟩
          refine ite2 (fun c2 => ?_) (fun c2 => ?_)
          · rw [if_pos (of_decide_eq_true c2)] at hb3
            rw [hb3] at k
            refine ⟨_, rfl, (by show 2 ≤ sizeLine; decide), fun t nt => ?_⟩
            refine upd_gen nt fun H4 e4 h4 => ?_
            exact k t H4 nt e4 h4
          · rw [if_neg (fun z => c2 (decide_eq_true z))] at hb3
            exact ⟨⟨_, _, rfl⟩, rfl, hb3⟩
        · rintro σ' H3 ⟨⟨v, v2, rfl⟩, rfl, hb3⟩
          rw [List.length_map, List.drop_length, capBad] at hb3
          rw [hb3] at k
          refine hN3 _ _ ?_
          exact last (ps_ret pe_non) (k H3 (Same.refl H3))
end
end B
namespace B
open PySem L2
/-! k83: told -/
section
open Lp
def spToldL (c : Ct) : Sp := fun vs H Q _ => ∃ (rv bv gv : V) (rows : List (List Int)) (caps gains : List Int), vs = [rv, bv, gv] ∧ ML c.K H rv rows ∧ IL c.K H bv caps ∧ IL c.K H gv gains ∧ gains.length + rows.length < 800 ∧ (∀ β, Good (AX rows caps gains) gains.length rows.length β → Sm (AX rows caps gains) gains.length rows.length β) ∧
  (∀ z, chkP rows caps gains = some z → ∀ t H', H t = none → Same H H' → H' t = some (.tup [.str z.2.1, .int z.2.2]) → Q (.ref t) H') ∧
  (chkP rows caps gains = none → ∀ e H' t v, Run (AX rows caps gains) gains.length rows.length (fun k => gains.length + k) e → Same H H' → H t = none → TellB H' v (AX rows caps gains) gains.length rows.length e → H' t = some (.tup [.str "told", v]) → Q (.ref t) H')
theorem TellB.same {H H' : Hp} {v : V} {A : Nat → Vc} {w m : Nat} {e : (Nat → Nat) × Option Nat} (h : TellB H v A w m e) (s : Same H H') : TellB H' v A w m e := by
  obtain ⟨β, o⟩ := e
  cases o with
  | some r =>
    obtain ⟨t, p, h1, h2, h3⟩ := h
    exact ⟨t, p, h1, s _ _ h2, s _ _ h3⟩
  | none =>
    obtain ⟨t, p, q, h1, h2, h3, h4⟩ := h
    exact ⟨t, p, q, h1, s _ _ h2, s _ _ h3, s _ _ h4⟩
theorem rowBad_kind {w : Nat} : ∀ {rows : List (List Int)} {z : Nat × Str × Int}, rowBad w rows = some z → z.1 = 4 ∧ z.2.1 = "count"
  | [], z, h => nomatch h
  | q :: rows, z, h => by
    rw [rowBad] at h
    split at h
    · cases h; exact ⟨rfl, rfl⟩
    · exact rowBad_kind h
theorem capBad_kind : ∀ {caps : List Int} {z : Nat × Str × Int}, capBad caps = some z → z.1 = 19 ∧ z.2.1 = "bound"
  | [], z, h => nomatch h
  | q :: caps, z, h => by
    rw [capBad] at h
    split at h
    · cases h; exact ⟨rfl, rfl⟩
    · exact capBad_kind h
theorem chkP_kind {rows : List (List Int)} {caps gains : List Int} {z : Nat × Str × Int} (h : chkP rows caps gains = some z) : (z.1 = 4 ∧ z.2.1 = "count") ∨ (z.1 = 19 ∧ z.2.1 = "bound") := by
  unfold chkP at h
  split at h
  · cases h; exact .inl ⟨rfl, rfl⟩
  · split at h
    · rename_i e he
      cases h
      exact .inl (rowBad_kind he)
    · exact .inr (capBad_kind h)
variable {P : Program} {w_ : World} {mg : Str → Option Value} {base : Heap} {c : Ct}
theorem ok_l_told {f : Addr} {fd : FuncData} (F : Fun c.K "_law_told" "_law_told" s_l_told f fd) (T : Bt mg) (R : Er c.K c.ec [4, 19]) (X_BadCount : ExcD P w_ c.K mg base 1 "BadCount" (c.ec 4) "count") (X_BadBound : ExcD P w_ c.K mg base 1 "BadBound" (c.ec 19) "bound") (Dk_best_mix : DfK P w_ c.K mg base (L2.CX P w_) 6 "best_mix" ["rows", "bounds", "worths"] 0 ["worths", "rows", "bounds"] (fun _ ws => permL .none [1, 2, 0] ws) (fun _ zs => permL .non [1, 2, 0] zs) (spBest c)) : FnOk P w_ c.K mg base CX0 8 f fd ["_law_lines", "_law_caps", "_law_gains"] (spToldL c) := by
  refine F.ok sc_l_told (fun vs H Q E h => ?_) (fun cdv A outer s H vs Q E hr h => ⟨_, wb, ?_⟩)
  · obtain ⟨rv, bv, gv, rows, caps, gains, rfl, _⟩ := h
    rfl
  · obtain ⟨rv, bv, gv, rows, caps, gains, rfl, hM, hB, hG, hz, hsm, k1, k2⟩ := h
    refine last (try_ms (i := 3) rfl rfl sc_l_told.nd rfl rfl takes0 (.cons ⟨rfl, by decide, .inl X_BadCount.gC⟩ (.cons ⟨rfl, by decide, .inl X_BadBound.gC⟩ .nil))) ?_
    intro pn xe tk po
    refine last (ps_ret (pe_tup (pa_cons pe_str (pa_cons (pckS Dk_best_mix (hr.mono (by decide)) tk (pk_cons (pv 2) (pk_cons (pv 0) (pk_cons (pv 1) pk_nil)))) pa_nil)))) ?_
    refine ⟨_, rfl, _, rfl, _, rfl, rfl, rv, bv, gv, rows, caps, gains, rfl, hM, hB, hG, hz, hsm, ?_⟩
    cases ec : chkP rows caps gains with
    | none =>
      intro e H1 v hrun e1 tell
      refine ⟨(by show 2 ≤ sizeLine; decide), fun t nt => ?_⟩
      refine upd_gen nt fun H2 e2 h2 => ?_
      exact k2 ec e H2 t v hrun (e1.trans e2) (e1.free nt) (tell.same e2) h2
    | some z =>
      have kd := chkP_kind ec
      obtain ⟨n, f, z⟩ := z
      intro d H1 nd e1 h1
      rcases kd with ⟨rfl, rfl⟩ | ⟨rfl, rfl⟩
      · refine ⟨true, R.ex 4 (by decide) 4 (by decide), fun _ a0 na => ?_, fun q => nomatch q⟩
        intro oe pn hz hf
        refine last (ps_ret (pe_tup (pa_cons pe_str (pa_cons (pe_xf (R.ok 4 (by decide)).x X_BadCount.no hz hf (pv 3)) pa_nil)))) ?_
        refine ⟨_, rfl, rfl, rfl, d, _, _, rfl, h1, rfl, (by show 2 ≤ sizeLine; decide), fun t nt => ?_⟩
        refine upd_gen nt fun H2 e2 h2 => ?_
        exact k1 _ ec t H2 (e1.free nt) (e1.trans e2) h2
      · refine ⟨false, R.ex 19 (by decide) 4 (by decide), (fun q => nomatch q), fun _ => ⟨true, R.ex 19 (by decide) 19 (by decide), fun _ a0 na => ?_, fun q => nomatch q⟩⟩
        intro oe pn hz hf
        refine last (ps_ret (pe_tup (pa_cons pe_str (pa_cons (pe_xf (R.ok 19 (by decide)).x X_BadBound.no hz hf (pv 3)) pa_nil)))) ?_
        refine ⟨_, rfl, rfl, rfl, d, _, _, rfl, h1, rfl, (by show 2 ≤ sizeLine; decide), fun t nt => ?_⟩
        refine upd_gen nt fun H2 e2 h2 => ?_
        exact k1 _ ec t H2 (e1.free nt) (e1.trans e2) h2
end
end B
namespace B
open PySem L2
/-! k83: right -/
section
open Lp
def EndT (c : Ct) (H : Hp) (v : V) (rows : List (List Int)) (gains : List Int) : Prop := ∃ (t p : Addr) (zs : List Int), v = .ref t ∧ H t = some (.tup [.str "endless", .ref p]) ∧ H p = some (.tup (zs.map V.int)) ∧ zs.length = gains.length ∧ (∀ x ∈ zs, 0 ≤ x) ∧ (∀ r ∈ rows, dotL r zs ≤ 0) ∧ 0 < dotL gains zs
def BestT (c : Ct) (H : Hp) (v : V) (rows : List (List Int)) (caps gains : List Int) : Prop := ∃ (t p q : Addr) (D : Nat) (xs ys : List Nat), v = .ref t ∧ H t = some (.tup [.str "best", .int D, .ref p, .ref q]) ∧ H p = some (.tup (xs.map fun n : Nat => V.int n)) ∧ H q = some (.tup (ys.map fun n : Nat => V.int n)) ∧ xs.length = gains.length ∧ ys.length = rows.length ∧ 1 ≤ D ∧
  (∀ (k : Nat) (r : List Int) (b : Int), rows[k]? = some r → caps[k]? = some b → dotL r (xs.map Int.ofNat) ≤ b * D) ∧ (∀ (k : Nat) (g : Int), gains[k]? = some g → g * D ≤ dotL (rows.map fun r => r.getD k 0) (ys.map Int.ofNat)) ∧ gf 0 (D :: (xs ++ ys)) = 1 ∧ dotL caps (ys.map Int.ofNat) = dotL gains (xs.map Int.ofNat)
def sml (xs : List Int) : Prop := ∀ x ∈ xs, -(2 ^ 64) < x ∧ x < 2 ^ 64
def spRight (c : Ct) : Sp := fun vs H Q _ => ∃ (lv cv gv v : V) (rows : List (List Int)) (caps gains : List Int), vs = [lv, cv, gv, v] ∧ ML c.K H lv rows ∧ IL c.K H cv caps ∧ IL c.K H gv gains ∧ caps.length = rows.length ∧ (∀ (i : Nat) (r : List Int), rows[i]? = some r → r.length = gains.length ∧ sml r) ∧ sml caps ∧ sml gains ∧ gains.length + rows.length < 800 ∧
  (EndT c H v rows gains ∨ BestT c H v rows caps gains) ∧ ∀ H', Same H H' → Q (.bl true) H'
/-- t + u, whatever is empty -/
theorem cat_sq {K : PySem.W.Frag} {H : Hp} {a b : Addr} {xs ys : List V} {Q : VK} (ha : SqT K H a xs) (hb : SqT K H b ys) (hz : xs.length + ys.length ≤ 1000) (k : ∀ t H', Same H H' → SqT K H' t (xs ++ ys) → Q (.ref t) H') : rCatA K (.ref a) (.ref b) H Q :=
  ⟨a, b, xs, ys, rfl, rfl, ha, hb, Nat.le_trans hz (by decide), fun e => by subst e; exact k b H (Same.refl H) hb, fun _ e => by subst e; exact k a H (Same.refl H) (by rw [List.append_nil]; exact ha), fun _ _ q nq => k q _ (sm_new nq) (sqT upd_same)⟩
theorem rget_ref {K : PySem.W.Frag} {H : Hp} {p : Addr} {xs : List V} {x : V} {j : Nat} {Q : VK} (h : Sq K H p xs) (hj : xs[j]? = some x) (q : Q x H) : rGetA K (.ref p) (.int (j : Nat)) H Q := by
  have at1 : atI xs (j : Int) = some x := atI_nat hj
  rcases h with h | h
  · exact .inl ⟨p, _, _, _, rfl, rfl, h, at1, q⟩
  · exact .inr (.inl ⟨p, _, _, _, rfl, rfl, h, at1, q⟩)
variable {P : Program} {w_ : World} {mg : Str → Option Value} {base : Heap} {c : Ct}
theorem ok_l_right {f : Addr} {fd : FuncData} (F : Fun c.K "_law_right" "_law_right" s_l_right f fd) (T : Bt mg) (D_l_whole : Df P w_ c.K mg base CX0 1 "_law_whole" ["_law_items", "_law_size"] (spWhole c)) (D_l_dot : Df P w_ c.K mg base CX0 1 "_law_dot" ["_law_one", "_law_other"] (spDot c)) (D_l_divisor : Df P w_ c.K mg base CX0 1 "_law_divisor" ["_law_numbers"] (spDiv c)) : FnOk P w_ c.K mg base CX0 2 f fd ["_law_lines", "_law_caps", "_law_gains", "_law_told_here"] (spRight c) := by
  refine F.ok sc_l_right (fun vs H Q E h => ?_) (fun cdv A outer s H vs Q E hr h => ⟨_, wb, ?_⟩)
  · obtain ⟨lv, cv, gv, v, rows, caps, gains, rfl, _⟩ := h
    rfl
  · obtain ⟨lv, cv, gv, v, rows, caps, gains, rfl, hM, ⟨pc_, rfl, hC⟩, ⟨pg, rfl, hG⟩, hc, hrw, hcs, hgs, hz, he, k⟩ := h
    obtain ⟨pl_, vs, rfl, hR, hl, hrow⟩ := id hM
    refine nxtN (ps_if (PW.pt (pw_or (pt_not (pt_val (pe_callB call_isi (by rfl) T.isinstance (by decide +kernel) (pa_cons (pv 3) (pa_cons (pe_bltn (v := .ty "tuple") (by rfl) T.tuple (by decide +kernel) rfl) pa_nil))))) (pw_or1 (pt_cmpR op_lt (pe_callB call_len_seq (by rfl) T.len PySem.boot_len (pa_cons (pv 3) pa_nil)) pe_int (nomark _))))) (pss_one (ps_ret pe_bl)) pss_nil) fun N hN => ?_
    rcases he with ⟨t, p, zs, rfl, ht, hp, zl, z0, zr, zg⟩ | ⟨t, p, q, D, xs, ys, rfl, ht, hp, hq, xl, yl, d1, br, bc, bg, bv⟩
    · refine ⟨_, rfl, _, _, _, _, _, rfl, .ty "tuple", .base (.tup ht), kit_ty (r := true) (by decide +kernel), _, rfl, ?_⟩
      refine ⟨_, rfl, t, _, rfl, .inr (sqT ht), _, _, rfl, rfl, _, rfl, ?_⟩
      refine ite2 (fun h => ?_) (fun _ => ?_)
      · exfalso
        simp at h
      refine hN _ _ ?_
      refine nxtN (ps_if (pt_cmpR op_eq (pe_ix ix_tup (pv 3) pe_int (fun _ _ => rfl)) pe_str (nomark _)) wb pss_nil) fun N2 hN2 => ?_
      refine ⟨_, rfl, t, _, _, _, rfl, rfl, sqT ht, rfl, rfl, _, rfl, ?_⟩
      rw [decide_eq_true rfl]
      refine iteT ?_
      refine nxtN (ps_if (PW.pt (pw_or (pt_cmpR op_ne (pe_callB call_len_seq (by rfl) T.len PySem.boot_len (pa_cons (pv 3) pa_nil)) pe_int (nomark _)) (pw_or1 (pt_not (pt_val (pc D_l_whole (hr.mono (by decide)) (pa_cons (pe_ix ix_tup (pv 3) pe_int (fun _ _ => rfl)) (pa_cons (pe_callB call_len_seq (by rfl) T.len PySem.boot_len (pa_cons (pv 2) pa_nil)) pa_nil)))))))) (pss_one (ps_ret pe_bl)) pss_nil) fun N3 hN3 => ?_
      refine ⟨_, rfl, t, _, rfl, .inr (sqT ht), rfl, _, rfl, ?_⟩
      refine ⟨_, rfl, t, _, _, _, rfl, rfl, sqT ht, rfl, _, rfl, pg, _, rfl, hG, p, zs, (by simp [zl]), hp, z0, by omega, fun H1 e1 => ⟨_, rfl, ?_⟩⟩
      refine hN3 _ _ ?_
      refine nxt (ps_setLc (i := 4) (own := [("_law_row", 9)]) (g := gName 9) rfl sc_l_right.nd rfl rfl (sw_true rfl rfl rfl (by decide +kernel)) (pi_seq (pv 0)) (blkOk_by (own := [("_law_row", 9)]) (N := ["_law_lines", "_law_caps", "_law_gains", "_law_told_here", "_law_grows", "_law_scale", "_law_numbers", "_law_costs", "_law_k", "_law_row"]) (sc := defScope s_l_right) (by decide +kernel)) (fun _ _ _ _ _ => (pg_name (i := 9) sc_l_right.nd rfl (Or.inl rfl))) (fun _ _ _ _ _ => (pts_one (pt_cmpR op_gt (pc D_l_dot (hr.mono (by decide)) (pa_cons (pv 9) (pa_cons (pe_ix (r := rGetA c.K) (ix_any hr.units) (pv 3) pe_int (fun _ _ => rfl)) pa_nil))) pe_int (nomark _)))) (fun _ _ _ _ _ => (pv 9))) ?_
      refine ⟨_, rfl, pl_, rfl, lc_sq (hR.same e1) (fun D i H' => Same H1 H' ∧ H' D = some (.lst [])) (fun D nD => ⟨sm_new nD, upd_same⟩) (fun D i H' _ p => p.1) ?_ ?_⟩
      · rintro D i x H2 nD hx ⟨e2, h2⟩
        have hil : i < rows.length := by rw [← hl]; exact (List.getElem?_eq_some_iff.mp hx).1
        have hxr := hrow i x rows[i] hx (List.getElem?_eq_getElem hil)
        obtain ⟨w1, w2⟩ := hrw i rows[i] (List.getElem?_eq_getElem hil)
        have e12 := e1.trans e2
        refine ⟨rfl, ?_⟩
        refine ⟨_, rfl, _, rfl, .inr (.inl ⟨t, _, _, _, rfl, rfl, sm_t e12 (sqT ht), rfl, x, .ref p, rows[i], zs, rfl, hxr.same e12, ⟨p, rfl, .inr (sqT (e12 _ _ hp))⟩, by omega, by omega, w2, fun H3 e3 => ⟨_, _, rfl, rfl, _, rfl, ?_⟩⟩)⟩
        have neg := zr rows[i] (List.getElem_mem hil)
        rw [decide_eq_false (by omega)]
        exact ⟨e2.trans e3, e3 _ _ h2⟩
      · rintro D H2 nD ⟨e2, h2⟩
        have e12 := e1.trans e2
        refine last (ps_ret (pe_and (pe_cmpR (op_eqP hr.units) (pv 4) (pe_lst pa_nil) (nomark _)) (pe_one (pe_cmpR op_gt (pc D_l_dot (hr.mono (by decide)) (pa_cons (pv 2) (pa_cons (pe_ix ix_tup (pv 3) pe_int (fun _ _ => rfl)) pa_nil))) pe_int (nomark _))))) ?_
        refine ⟨_, rfl, (by show 0 ≤ sizeLine; decide), fun q nq => ?_⟩
        refine upd_gen nq fun H3 e3 h3 => ?_
        refine ⟨_, _, dpL (e3 _ _ h2) .nil, dpL h3 .nil, .inr (by decide), _, rfl, ?_⟩
        have e13 := e12.trans e3
        refine ⟨_, rfl, _, rfl, t, _, _, _, rfl, rfl, sm_t e13 (sqT ht), rfl, .ref pg, .ref p, gains, zs, rfl, ⟨pg, rfl, hG.same e13⟩, ⟨p, rfl, .inr (sqT (e13 _ _ hp))⟩, by omega, by omega, hgs, fun H4 e4 => ⟨_, _, rfl, rfl, ?_⟩⟩
        show Q (.bl (decide ((0 : Int) < dotL gains zs))) H4
        rw [decide_eq_true zg]
        exact k H4 (e13.trans e4)
    · refine ⟨_, rfl, _, _, _, _, _, rfl, .ty "tuple", .base (.tup ht), kit_ty (r := true) (by decide +kernel), _, rfl, ?_⟩
      refine ⟨_, rfl, t, _, rfl, .inr (sqT ht), _, _, rfl, rfl, _, rfl, ?_⟩
      refine ite2 (fun h => ?_) (fun _ => ?_)
      · exfalso
        simp at h
      refine hN _ _ ?_
      refine nxtN (ps_if (pt_cmpR op_eq (pe_ix ix_tup (pv 3) pe_int (fun _ _ => rfl)) pe_str (nomark _)) wb pss_nil) fun N2 hN2 => ?_
      refine ⟨_, rfl, t, _, _, _, rfl, rfl, sqT ht, rfl, rfl, _, rfl, ?_⟩
      rw [decide_eq_false (fun z => absurd (V.str.inj z) (by decide +kernel))]
      refine iteF ?_
      refine hN2 _ _ ?_
      refine nxtN (ps_if (PW.pt (pw_or (pt_cmpR op_ne (pe_ix ix_tup (pv 3) pe_int (fun _ _ => rfl)) pe_str (nomark _)) (pw_or (pt_cmpR op_ne (pe_callB call_len_seq (by rfl) T.len PySem.boot_len (pa_cons (pv 3) pa_nil)) pe_int (nomark _)) (pw_or (pt_not (pt_val (pc D_l_whole (hr.mono (by decide)) (pa_cons (pe_tup (pa_cons (pe_ix ix_tup (pv 3) pe_int (fun _ _ => rfl)) pa_nil)) (pa_cons pe_int pa_nil))))) (pw_or1 (pt_cmpR op_lt (pe_ix ix_tup (pv 3) pe_int (fun _ _ => rfl)) pe_int (nomark _))))))) (pss_one (ps_ret pe_bl)) pss_nil) fun N3 hN3 => ?_
      refine ⟨_, rfl, t, _, _, _, rfl, rfl, sqT ht, rfl, rfl, _, rfl, ?_⟩
      rw [decide_eq_true rfl]
      refine iteF ?_
      refine ⟨_, rfl, t, _, rfl, .inr (sqT ht), rfl, _, rfl, ?_⟩
      refine ⟨_, rfl, t, _, _, _, rfl, rfl, sqT ht, rfl, (by show 1 ≤ sizeLine; decide), fun u nu => ?_⟩
      refine upd_gen nu fun H1 e1 h1 => ?_
      refine ⟨u, [(D : Int)], rfl, h1, by simp, (by show 1 < 900; decide), fun H2 e2 => ⟨_, rfl, ?_⟩⟩
      have e12 := e1.trans e2
      refine ⟨_, rfl, t, _, _, _, rfl, rfl, sm_t e12 (sqT ht), rfl, _, _, rfl, rfl, _, rfl, ?_⟩
      rw [decide_eq_false (by omega)]
      refine iteF ?_
      refine hN3 _ _ ?_
      refine nxt (ps_asg (pe_slice sl_tup (pv 3) (po_some pe_int) po_none) (pg_tup (by rfl) (pgs_cons (pg_name (i := 5) sc_l_right.nd rfl (Or.inl rfl)) (pgs_cons (pg_name (i := 6) sc_l_right.nd rfl (Or.inl rfl)) (pgs_cons (pg_name (i := 7) sc_l_right.nd rfl (Or.inl rfl)) pgs_nil))))) ?_
      refine ⟨_, rfl, _, rfl, t, _, rfl, sm_t e12 (sqT ht), (by show ¬ (1 = 0 ∧ 4 = 4); decide), fun u2 nu2 => ?_⟩
      show gTup _ _ _ (V.ref u2) _ (upd H2 u2 (.tup [.int D, .ref p, .ref q])) _
      refine ⟨u2, _, rfl, sqT upd_same, rfl, _, _, rfl, _, _, rfl, _, _, rfl, rfl, ?_⟩
      have e3 := sm_new (o := .tup [.int D, .ref p, .ref q]) nu2
      generalize upd H2 u2 (.tup [.int D, .ref p, .ref q]) = H3 at e3
      have e13 := e12.trans e3
      refine nxtN (ps_if (PW.pt (pw_or (pt_not (pt_val (pc D_l_whole (hr.mono (by decide)) (pa_cons (pv 6) (pa_cons (pe_callB call_len_seq (by rfl) T.len PySem.boot_len (pa_cons (pv 2) pa_nil)) pa_nil))))) (pw_or1 (pt_not (pt_val (pc D_l_whole (hr.mono (by decide)) (pa_cons (pv 7) (pa_cons (pe_callB call_len_seq (by rfl) T.len PySem.boot_len (pa_cons (pv 0) pa_nil)) pa_nil)))))))) (pss_one (ps_ret pe_bl)) pss_nil) fun N4 hN4 => ?_
      have mi : ∀ ns : List Nat, (ns.map fun n : Nat => V.int n) = (ns.map Int.ofNat).map V.int := fun ns => by rw [List.map_map]; rfl
      have nn : ∀ (ns : List Nat), ∀ x ∈ ns.map Int.ofNat, 0 ≤ x := fun ns x hx => by
        obtain ⟨n, _, rfl⟩ := List.mem_map.mp hx
        exact Int.natCast_nonneg n
      refine ⟨_, rfl, _, rfl, pg, _, rfl, hG.same e13, p, xs.map Int.ofNat, (by simp [xl]), (e13 _ _ hp).trans (by rw [mi]), nn xs, by simp; omega, fun H4 e4 => ⟨_, rfl, ?_⟩⟩
      refine ⟨_, rfl, _, rfl, pl_, _, rfl, hR.same (e13.trans e4), q, ys.map Int.ofNat, (by simp [yl, hl]), ((e13.trans e4) _ _ hq).trans (by rw [mi]), nn ys, by simp; omega, fun H5 e5 => ⟨_, rfl, ?_⟩⟩
      refine hN4 _ _ ?_
      have e15 := e13.trans (e4.trans e5)
      have ilp : ∀ (n : Addr) (ns : List Nat) (H' : Hp), H' n = some (.tup (ns.map fun n : Nat => V.int n)) → IL c.K H' (.ref n) (ns.map Int.ofNat) := fun n ns H' h => ⟨n, rfl, .inr (by rw [← mi]; exact sqT h)⟩
      have cut : ∀ (zs : List Int) (k : Nat) (hk : k < zs.length), sml zs → sml [zs[k]] := fun zs k hk h x hx => by
        rw [List.mem_singleton] at hx
        exact hx ▸ h _ (List.getElem_mem hk)
      refine nxtN (ps_for PassesOwn.never rfl (pi_range1 (by rfl) T.range (pa_cons (pe_callB call_len_seq (by rfl) T.len PySem.boot_len (pa_cons (pv 0) pa_nil)) pa_nil)) (pg_name (i := 8) sc_l_right.nd rfl (Or.inr rfl)) wb) fun N5 hN5 => ?_
      refine ⟨_, rfl, pl_, _, rfl, hR.same e15, _, rfl, by omega, by omega, ?_⟩
      refine for_range (lo := 0) (fun i σ H6 => (∃ v8, σ = [some (.ref pl_), some (.ref pc_), some (.ref pg), some (.ref t), none, some (.int D), some (.ref p), some (.ref q), v8, none]) ∧ Same H5 H6) ⟨⟨_, rfl⟩, fun _ _ h => h⟩ ?_ ?_
      · rintro i σ H6 hi ⟨⟨v8, rfl⟩, e6⟩
        have hi : i < rows.length := by rw [hl] at hi; simpa using hi
        have e16 := e15.trans e6
        refine last (ps_if (pt_cmpR op_gt (pc D_l_dot (hr.mono (by decide)) (pa_cons (pe_ix (r := rGetA c.K) (ix_any hr.units) (pv 0) (pv 8) (fun _ _ => rfl)) (pa_cons (pv 6) pa_nil))) (pe_op op_mul (pe_ix (r := rGetA c.K) (ix_any hr.units) (pv 1) (pv 8) (fun _ _ => rfl)) (pv 5)) (nomark _)) (pss_one (ps_ret pe_bl)) pss_nil) ?_
        obtain ⟨x, hx⟩ : ∃ x, vs[i]? = some x := ⟨_, List.getElem?_eq_getElem (by omega)⟩
        obtain ⟨px, rfl, hxr⟩ := hrow i x rows[i] hx (List.getElem?_eq_getElem hi)
        obtain ⟨w1, w2⟩ := hrw i rows[i] (List.getElem?_eq_getElem hi)
        refine ⟨_, rfl, _, rfl, ?_⟩
        rw [Int.zero_add]
        refine rget_ref (hR.same e16) hx ?_
        refine ⟨_, rfl, .ref px, .ref p, rows[i], xs.map Int.ofNat, rfl, ⟨px, rfl, hxr.same e16⟩, ilp p xs _ (e16 _ _ hp), by simp; omega, by omega, w2, fun H7 e7 => ?_⟩
        refine ⟨_, rfl, _, rfl, rget_sq (hC.same (e16.trans e7)) (by omega) ?_⟩
        refine ⟨_, rfl, _, _, rfl, rfl, .inl (hcs _ (List.getElem_mem (by omega))), _, _, rfl, rfl, ?_⟩
        have hbr := br i rows[i] caps[i] (List.getElem?_eq_getElem hi) (List.getElem?_eq_getElem (by omega))
        refine ⟨_, rfl, ?_⟩
        rw [decide_eq_false (by omega)]
        refine iteF ?_
        exact ⟨⟨_, rfl⟩, e6.trans e7⟩
      rintro σ H6 ⟨⟨v8, rfl⟩, e6⟩
      refine hN5 _ _ ?_
      have e16 := e15.trans e6
      refine nxtN (ps_for PassesOwn.never rfl (pi_range1 (by rfl) T.range (pa_cons (pe_callB call_len_seq (by rfl) T.len PySem.boot_len (pa_cons (pv 2) pa_nil)) pa_nil)) (pg_name (i := 8) sc_l_right.nd rfl (Or.inr rfl)) wb) fun N6 hN6 => ?_
      refine ⟨_, rfl, pg, _, rfl, hG.same e16, _, rfl, by rw [List.length_map]; omega, by rw [List.length_map]; omega, ?_⟩
      refine for_range (lo := 0) (fun i σ H7 => (∃ v8, σ = [some (.ref pl_), some (.ref pc_), some (.ref pg), some (.ref t), none, some (.int D), some (.ref p), some (.ref q), v8, none]) ∧ Same H6 H7) ⟨⟨_, rfl⟩, fun _ _ h => h⟩ ?_ ?_
      · rintro i0 σ H7 hi ⟨⟨v8, rfl⟩, e7⟩
        have hi : i0 < gains.length := by simpa using hi
        have e17 := e16.trans e7
        refine last (ps_if (pt_cmpR op_lt (pc D_l_dot (hr.mono (by decide)) (pa_cons (pe_lc (own := [("_law_row", 9)]) (g := gName 9) rfl sc_l_right.nd (pi_seq (pv 0)) (blkOk_by (own := [("_law_row", 9)]) (N := ["_law_lines", "_law_caps", "_law_gains", "_law_told_here", "_law_grows", "_law_scale", "_law_numbers", "_law_costs", "_law_k", "_law_row"]) (sc := defScope s_l_right) (by decide +kernel)) (fun _ _ _ _ _ => (pg_name (i := 9) sc_l_right.nd rfl (Or.inl rfl))) (fun _ _ _ _ _ => pts_nil) (fun _ _ _ _ _ => (pe_ix (r := rGetA c.K) (ix_any hr.units) (pv 9) (pv 8) (fun _ _ => rfl)))) (pa_cons (pv 7) pa_nil))) (pe_op op_mul (pe_ix (r := rGetA c.K) (ix_any hr.units) (pv 2) (pv 8) (fun _ _ => rfl)) (pv 5)) (nomark _)) (pss_one (ps_ret pe_bl)) pss_nil) ?_
        refine ⟨_, rfl, pl_, rfl, lc_sq (hR.same e17) (fun D i H' => Same H7 H' ∧ H' D = some (.lst (((rows.take i).map fun r => r.getD i0 0).map V.int))) (fun D nD => ⟨sm_new nD, by rw [upd_same]; rfl⟩) (fun D i H' _ p => p.1) ?_ ?_⟩
        · rintro D' i x H8 nD hx ⟨e8, h8⟩
          have hil : i < rows.length := by rw [← hl]; exact (List.getElem?_eq_some_iff.mp hx).1
          obtain ⟨px, rfl, hxr⟩ := hrow i x rows[i] hx (List.getElem?_eq_getElem hil)
          have e18 := e17.trans e8
          obtain ⟨w1, w2⟩ := hrw i rows[i] (List.getElem?_eq_getElem hil)
          refine ⟨rfl, ?_⟩
          refine ⟨_, rfl, _, rfl, ?_⟩
          rw [Int.zero_add]
          refine rget_sq (hxr.same e18) (by omega) ⟨_, h8, small1000 (by simp; omega), ?_, ?_⟩
          · intro b o hb
            rw [upd_ne (ne_of_none hb nD)]
            exact e8 b o hb
          · have g0 : rows[i].getD i0 0 = rows[i][i0]'(by omega) := by
              rw [List.getD_eq_getElem?_getD, List.getElem?_eq_getElem (by omega)]; rfl
            rw [upd_same, List.take_add_one, List.getElem?_eq_getElem hil, Option.toList_some, List.map_append, List.map_append, List.map_cons, List.map_nil, List.map_cons, List.map_nil, g0]
        · rintro D' H8 nD ⟨e8, h8⟩
          rw [hl, List.take_length] at h8
          have e18 := e17.trans e8
          refine ⟨_, rfl, .ref D', .ref q, _, ys.map Int.ofNat, rfl, ⟨D', rfl, .inl (sqL h8)⟩, ilp q ys _ (e18 _ _ hq), by simp; omega, by simp; omega, ?_, fun H9 e9 => ?_⟩
          · intro x hx
            obtain ⟨r, hr1, rfl⟩ := List.mem_map.mp hx
            obtain ⟨i, hi1, rfl⟩ := List.getElem_of_mem hr1
            obtain ⟨w1, w2⟩ := hrw i rows[i] (List.getElem?_eq_getElem hi1)
            rw [List.getD_eq_getElem?_getD, List.getElem?_eq_getElem (by omega)]
            exact w2 _ (List.getElem_mem _)
          refine ⟨_, rfl, _, rfl, ?_⟩
          rw [Int.zero_add]
          refine rget_sq (hG.same (e18.trans e9)) hi ?_
          refine ⟨_, rfl, _, _, rfl, rfl, .inl (hgs _ (List.getElem_mem hi)), _, _, rfl, rfl, ?_⟩
          have hbc := bc i0 gains[i0] (List.getElem?_eq_getElem hi)
          refine ⟨_, rfl, ?_⟩
          rw [decide_eq_false (by omega)]
          refine iteF ?_
          exact ⟨⟨_, rfl⟩, e7.trans (e8.trans e9)⟩
      rintro σ H7 ⟨⟨v8, rfl⟩, e7⟩
      refine hN6 _ _ ?_
      have e17 := e16.trans e7
      refine nxtN (ps_if (pt_cmpR op_ne (pc D_l_divisor (hr.mono (by decide)) (pa_cons (pe_op op_catA (pe_op op_catA (pe_tup (pa_cons (pv 5) pa_nil)) (pv 6)) (pv 7)) pa_nil)) pe_int (nomark _)) (pss_one (ps_ret pe_bl)) pss_nil) fun N7 hN7 => ?_
      refine ⟨_, rfl, (by show 1 ≤ sizeLine; decide), fun u4 nu4 => ?_⟩
      refine upd_gen nu4 fun H8 e8 h8 => ?_
      have e18 := e17.trans e8
      refine ⟨_, rfl, cat_sq (sqT h8) (sqT (e18 _ _ hp)) (by simp; omega) fun u5 H9 e9 h9 => ?_⟩
      have e19 := e18.trans e9
      refine ⟨_, rfl, cat_sq h9 (sqT (e19 _ _ hq)) (by simp; omega) fun u6 H10 e10 h10 => ?_⟩
      have h10 : SqT c.K H10 u6 _ := h10
      refine ⟨u6, D :: (xs ++ ys), rfl, .inr (by simpa only [List.map_append, List.map_cons, List.cons_append, List.nil_append, List.append_assoc] using h10), ?_⟩
      rw [bg]
      refine ⟨rfl, _, rfl, ?_⟩
      have e110 := e19.trans e10
      refine iteF ?_
      refine hN7 _ _ ?_
      refine last (ps_ret (pe_cmpR op_eq (pc D_l_dot (hr.mono (by decide)) (pa_cons (pv 1) (pa_cons (pv 7) pa_nil))) (pc D_l_dot (hr.mono (by decide)) (pa_cons (pv 2) (pa_cons (pv 6) pa_nil))) (nomark _))) ?_
      refine ⟨_, rfl, _, rfl, .ref pc_, .ref q, caps, ys.map Int.ofNat, rfl, ⟨pc_, rfl, hC.same e110⟩, ilp q ys _ (e110 _ _ hq), by simp; omega, by omega, hcs, fun H11 e11 => ?_⟩
      have e111 := e110.trans e11
      refine ⟨_, rfl, _, rfl, .ref pg, .ref p, gains, xs.map Int.ofNat, rfl, ⟨pg, rfl, hG.same e111⟩, ilp p xs _ (e111 _ _ hp), by simp; omega, by omega, hgs, fun H12 e12 => ?_⟩
      refine ⟨rfl, ?_⟩
      rw [bv, decide_eq_true rfl]
      exact k H12 (e111.trans e12)
end
end B
namespace B
open PySem L2
/-! k83: what is told is right -/
section
open Lp
def lst (n : Nat) (f : Nat → Int) : List Int := (List.range n).map f
theorem lst_len {n : Nat} {f : Nat → Int} : (lst n f).length = n := by simp [lst]
theorem lst_get {n j : Nat} {f : Nat → Int} (h : j < n) : (lst n f).getD j 0 = f j := by simp [lst, List.getD_eq_getElem?_getD, h]
theorem rngI_lst {n : Nat} {f : Nat → Int} : rngI n f = (lst n f).map V.int := by unfold rngI lst; rw [List.map_map]; rfl
theorem rngI_nats {n : Nat} {f : Nat → Int} (h : ∀ j, j < n → 0 ≤ f j) : rngI n f = ((lst n f).map Int.toNat).map fun z : Nat => V.int z := by
  rw [rngI_lst, List.map_map]
  refine List.map_congr_left fun x hx => ?_
  obtain ⟨j, hj, rfl⟩ := List.mem_map.mp hx
  show V.int (f j) = V.int ((f j).toNat : Nat)
  rw [Int.toNat_of_nonneg (h j (List.mem_range.mp hj))]
theorem dotL_lst {w : Nat} {xs : List Int} {f : Nat → Int} (h : xs.length = w) : dotL xs (lst w f) = S w fun j => xs.getD j 0 * f j := by
  unfold dotL
  rw [h]
  exact S_congr fun k hk => by rw [lst_get hk]
theorem Run.out {A : Nat → Vc} {w m : Nat} {β : Nat → Nat} {e : (Nat → Nat) × Option Nat} (G : Good A w m β) (R : Run A w m β e) : Good A w m e.1 ∧ match e.2 with
    | none => ∀ j, j < w + m → 0 ≤ tt A m e.1 m j
    | some r => r < w + m ∧ tt A m e.1 m r < 0 ∧ ∀ k, k < m → tt A m e.1 k r ≤ 0 := by
  induction R with
  | best h => exact ⟨G, h⟩
  | endl h0 h1 h2 h3 => exact ⟨G, h0, h1, h3⟩
  | turn t k ih => exact ih (G.turn t)
variable {rows : List (List Int)} {caps gains : List Int}
theorem ax_in {i j : Nat} (hj : j < gains.length) (hi : i < rows.length) : AX rows caps gains j i = rows[i].getD j 0 := by
  unfold AX
  rw [if_pos hj, if_pos hi]
  simp [List.getD_eq_getElem?_getD, hi]
theorem ax_gain {j : Nat} (hj : j < gains.length) : - AX rows caps gains j rows.length = gains.getD j 0 := by
  unfold AX
  rw [if_pos hj, if_neg (Nat.lt_irrefl _), if_pos rfl, Int.neg_neg]
theorem ax_cap {i : Nat} (hi : i < rows.length) : AX rows caps gains (gains.length + rows.length) i = caps.getD i 0 := by
  unfold AX
  rw [if_neg (by omega), if_neg (by omega), if_pos hi]
theorem lst_div {n g : Nat} {f : Nat → Int} (h : ∀ j, j < n → 0 ≤ f j) : (lst n fun j => f j / (g : Nat)).map Int.toNat = ((List.range n).map fun j => (f j).toNat).map fun x => x / g := by
  unfold lst
  rw [List.map_map, List.map_map]
  refine List.map_congr_left fun j hj => ?_
  show (f j / (g : Nat)).toNat = (f j).toNat / g
  have e := Int.toNat_of_nonneg (h j (List.mem_range.mp hj))
  rw [← e, ← Int.natCast_ediv, Int.toNat_natCast, Int.toNat_natCast]
theorem lst_back {n : Nat} {f : Nat → Int} (h : ∀ j, j < n → 0 ≤ f j) : ((lst n f).map Int.toNat).map Int.ofNat = lst n f := by
  unfold lst
  rw [List.map_map, List.map_map]
  exact List.map_congr_left fun j hj => Int.toNat_of_nonneg (h j (List.mem_range.mp hj))
theorem right_of {c : Ct} {H : Hp} {v : V} {e : (Nat → Nat) × Option Nat} (hch : chkP rows caps gains = none) (R : Run (AX rows caps gains) gains.length rows.length (fun k => gains.length + k) e) (h : TellB H v (AX rows caps gains) gains.length rows.length e) : EndT c H v rows gains ∨ BestT c H v rows caps gains := by
  obtain ⟨hc, hw, _⟩ := chkP_none hch
  obtain ⟨G, o⟩ := Run.out (ax_good hch) R
  have P := ax_prg rows caps gains
  obtain ⟨β, r⟩ := e
  cases r with
  | some r =>
    obtain ⟨hr, hn, ho⟩ := o
    have E := endless_of P G.lt G.d hr hn ho
    obtain ⟨t, p, rfl, ht, hp⟩ := h
    refine .inl ⟨t, p, _, rfl, ht, hp.trans (by rw [rngI_lst]), lst_len, fun x hx => ?_, fun q hq => ?_, ?_⟩
    · obtain ⟨j, hj, rfl⟩ := List.mem_map.mp hx
      exact E.z0 j (List.mem_range.mp hj)
    · obtain ⟨i, hi, rfl⟩ := List.getElem_of_mem hq
      rw [dotL_lst (hw i rows[i] (List.getElem?_eq_getElem hi))]
      have := E.row i hi
      rw [S_congr fun j hj => by rw [ax_in hj hi]] at this
      exact this
    · rw [dotL_lst rfl]
      have := E.val
      rw [S_congr fun j hj => by rw [ax_gain hj]] at this
      exact this
  | none =>
    have G : Good (AX rows caps gains) gains.length rows.length β := G
    have B := best_of P G.lt G.d G.b o
    obtain ⟨t, p, q, rfl, ht, hp, hq⟩ := h
    have h0 : 0 < (dd (AX rows caps gains) rows.length β).toNat := by have := B.d; omega
    have hg := gf_pos (xs := nms (AX rows caps gains) gains.length rows.length β) h0
    have hdv := gf_dvd (nms (AX rows caps gains) gains.length rows.length β) (dd (AX rows caps gains) rows.length β).toNat
    have hlow := fun d => gf_low (xs := nms (AX rows caps gains) gains.length rows.length β) (d := d) h0
    have ex : dvs (AX rows caps gains) gains.length rows.length β = gf (dd (AX rows caps gains) rows.length β).toNat (nms (AX rows caps gains) gains.length rows.length β) := rfl
    generalize dvs (AX rows caps gains) gains.length rows.length β = g at ht hp hq ex
    rw [← ex] at hg hdv hlow
    have ed : dd (AX rows caps gains) rows.length β = ((dd (AX rows caps gains) rows.length β).toNat : Int) := (Int.toNat_of_nonneg (Int.le_of_lt B.d)).symm
    have mw : ∀ j, j < gains.length → ((Lp.wt rows.length β (fun k => tt (AX rows caps gains) rows.length β k (gains.length + rows.length)) j).toNat) ∈ nms (AX rows caps gains) gains.length rows.length β := fun j hj => List.mem_append_left _ (List.mem_map.mpr ⟨j, List.mem_range.mpr hj, rfl⟩)
    have mr : ∀ i, i < rows.length → ((tt (AX rows caps gains) rows.length β rows.length (gains.length + i)).toNat) ∈ nms (AX rows caps gains) gains.length rows.length β := fun j hj => List.mem_append_right _ (List.mem_map.mpr ⟨j, List.mem_range.mpr hj, rfl⟩)
    have B2 := B.div (g := (g : Nat)) (by omega) (by rw [ed]; exact Int.natCast_dvd_natCast.mpr hdv.1) (fun j hj => by
      have := hdv.2 _ (mw j hj)
      rw [← Int.toNat_of_nonneg (B.x0 j hj)]
      exact Int.natCast_dvd_natCast.mpr this) (fun i hi => by
      have := hdv.2 _ (mr i hi)
      rw [← Int.toNat_of_nonneg (B.y0 i hi)]
      exact Int.natCast_dvd_natCast.mpr this)
    have eD : dd (AX rows caps gains) rows.length β / (g : Nat) = (((dd (AX rows caps gains) rows.length β).toNat / g : Nat) : Int) := by
      rw [Int.natCast_ediv, ← ed]
    rw [eD] at ht B2
    refine .inr ⟨t, p, q, _, _, _, rfl, ht, hp.trans (by rw [rngI_nats B2.x0]), hq.trans (by rw [rngI_nats B2.y0]), by simp [lst_len], by simp [lst_len], by have := B2.d; omega, ?_, ?_, ?_, ?_⟩
    · intro k r b hr hb
      rw [lst_back B2.x0]
      obtain ⟨hk, rfl⟩ := List.getElem?_eq_some_iff.mp hr
      rw [dotL_lst (hw k rows[k] hr)]
      have := B2.row k hk
      rw [S_congr fun j hj => by rw [ax_in hj hk], ax_cap hk, List.getD_eq_getElem?_getD, hb] at this
      exact this
    · intro k z hz
      rw [lst_back B2.y0]
      obtain ⟨hk, rfl⟩ := List.getElem?_eq_some_iff.mp hz
      rw [dotL_lst (w := rows.length) (by simp)]
      have := B2.col k hk
      rw [S_congr (g := fun i => (rows.map fun r => r.getD k 0).getD i 0 * (tt (AX rows caps gains) rows.length β rows.length (gains.length + i) / (g : Nat))) fun i hi => by rw [ax_in hk hi]; simp [List.getD_eq_getElem?_getD, hi], ax_gain hk, List.getD_eq_getElem?_getD, hz] at this
      exact this
    · rw [gf_cons, Nat.gcd_zero_left]
      have e : ((lst gains.length fun j => Lp.wt rows.length β (fun k => tt (AX rows caps gains) rows.length β k (gains.length + rows.length)) j / (g : Nat)).map Int.toNat) ++ ((lst rows.length fun i => tt (AX rows caps gains) rows.length β rows.length (gains.length + i) / (g : Nat)).map Int.toNat) = (nms (AX rows caps gains) gains.length rows.length β).map fun x => x / g := by
        rw [lst_div B.x0, lst_div B.y0, ← List.map_append]
        rfl
      rw [e]
      have dv := gf_dvd ((nms (AX rows caps gains) gains.length rows.length β).map fun x => x / g) ((dd (AX rows caps gains) rows.length β).toNat / g)
      exact hlow _ dv.1 fun x hx => dv.2 _ (List.mem_map_of_mem hx)
    · rw [lst_back B2.x0, lst_back B2.y0, dotL_lst hc, dotL_lst rfl]
      have := B2.val
      rw [S_congr fun i hi => by rw [ax_cap hi], S_congr (n := gains.length) fun j hj => by rw [ax_gain hj]] at this
      exact this
end
end B
namespace B
open PySem L2
/-! k83: drawn -/
section
def bdL (B : Int) (xs : List Int) : Prop := ∀ x ∈ xs, -B ≤ x ∧ x ≤ B
theorem bdL.nil {B : Int} : bdL B [] := fun x h => nomatch h
theorem bdL.snoc {B y : Int} {xs : List Int} (h : bdL B xs) (h1 : -B ≤ y) (h2 : y ≤ B) : bdL B (xs ++ [y]) := fun x hx => by
  rcases List.mem_append.mp hx with q | q
  · exact h x q
  · rw [List.mem_singleton] at q; subst q; exact ⟨h1, h2⟩
/-- a list of ints at r -/
def LI (H : Hp) (r : Addr) (n : Nat) (B : Int) : Prop := ∃ xs : List Int, H r = some (.lst (xs.map V.int)) ∧ xs.length ≤ n ∧ bdL B xs
theorem LI.mono {H : Hp} {r : Addr} {n n' : Nat} {B : Int} (h : LI H r n B) (l : n ≤ n') : LI H r n' B := let ⟨xs, a, b, c⟩ := h; ⟨xs, a, Nat.le_trans b l, c⟩
theorem LI.of {H H' : Hp} {r : Addr} {n : Nat} {B : Int} (h : LI H r n B) (e : ∀ o, H r = some o → H' r = some o) : LI H' r n B := let ⟨xs, a, b, c⟩ := h; ⟨xs, e _ a, b, c⟩
theorem LI.new {H : Hp} {r : Addr} {B : Int} : LI (upd H r (.lst [])) r 0 B := ⟨[], upd_same, Nat.le_refl _, bdL.nil⟩
theorem LI.push {H : Hp} {r : Addr} {n : Nat} {B z : Int} (h : LI H r n B) (h1 : -B ≤ z) (h2 : z ≤ B) : ∃ acc, H r = some (.lst acc) ∧ acc.length ≤ n ∧ LI (upd H r (.lst (acc ++ [.int z]))) r (n + 1) B := by
  obtain ⟨xs, a, b, c⟩ := h
  exact ⟨_, a, by rw [List.length_map]; exact b, xs ++ [z], by rw [upd_same, List.map_append]; rfl, by simp; omega, c.snoc h1 h2⟩
theorem FrB.refl {p a : Addr} (H : Hp) : FrB p a H H := fun _ _ _ _ h => h
theorem FrB.upd {p a D : Addr} {H1 H : Hp} {o : HO} (f : FrB p a H1 H) (n : H1 D = none) : FrB p a H1 (upd H D o) := fun b o' h1 h2 h => by
  rw [upd_ne (ne_of_none h n)]; exact f b o' h1 h2 h
theorem StB.upd {p a D : Addr} {H : Hp} {o : HO} {m : Nat} (S : StB H p a m) (n1 : D ≠ p) (n2 : D ≠ a) : StB (upd H D o) p a m := by
  obtain ⟨cs, i, n, h1, h2, h3⟩ := S
  exact ⟨cs, i, n, by rw [upd_ne (Ne.symm n1)]; exact h1, by rw [upd_ne (Ne.symm n2)]; exact h2, h3⟩
theorem StB.new {p a D : Addr} {H : Hp} {m : Nat} (S : StB H p a m) (n : H D = none) : D ≠ p ∧ D ≠ a := by
  obtain ⟨cs, i, n', h1, h2, h3⟩ := S
  exact ⟨(ne_of_none h1 n).symm, (ne_of_none h2 n).symm⟩
/-- a program on the heap, spoiled k times -/
structure PB (H : Hp) (p a L C G : Addr) (k : Nat) (rs : List Addr) : Prop where
  hL : H L = some (.lst (rs.map V.ref))
  hC : LI H C (8 + k) 20
  hG : LI H G (60 + k) 60
  nL : rs.length ≤ 8
  rw : ∀ r ∈ rs, LI H r (60 + 2 * k) 20 ∧ r ≠ p ∧ r ≠ a ∧ r ≠ L ∧ r ≠ C ∧ r ≠ G
  ne : L ≠ p ∧ L ≠ a ∧ C ≠ p ∧ C ≠ a ∧ G ≠ p ∧ G ≠ a ∧ L ≠ C ∧ L ≠ G ∧ C ≠ G
def spDrawn : Sp := fun vs H Q _ => ∃ (p a : Addr) (m : Nat), vs = [.ref p] ∧ StB H p a (m + 100) ∧ ∀ (t L C G : Addr) (rs : List Addr) (H' : Hp), StB H' p a m → H' t = some (.tup [.ref L, .ref C, .ref G]) → PB H' p a L C G 0 rs → Q (.ref t) H'
variable {P : Program} {w_ : World} {mg : Str → Option Value} {base : Heap} {c : Ct}
theorem ok_l_drawn {f : Addr} {fd : FuncData} (F : Fun c.K "_law_drawn" "_law_drawn" s_l_drawn f fd) (T : Bt mg) (D_l_take : Df P w_ c.K mg base CX0 1 "_law_take" ["_law_state", "_law_limit"] spTake) : FnOk P w_ c.K mg base CX0 2 f fd ["_law_state"] spDrawn := by
  refine F.ok sc_l_drawn (fun vs H Q E h => ?_) (fun cdv A outer s H vs Q E hr h => ⟨_, wb, ?_⟩)
  · obtain ⟨p, a, m, rfl, _⟩ := h
    rfl
  · obtain ⟨p, a, m, rfl, S0, k⟩ := h
    refine nxt (ps_set (i := 1) sc_l_drawn.nd rfl (Or.inl rfl) (pc D_l_take (hr.mono (by decide)) (pa_cons (pv 0) (pa_cons pe_int pa_nil)))) ?_
    refine ⟨_, rfl, p, a, m + 99, 6, rfl, S0, by decide, by decide, fun h H1 h0 h1 S1 f1 => ?_⟩
    refine nxt (ps_set (i := 2) sc_l_drawn.nd rfl (Or.inr rfl) (pc D_l_take (hr.mono (by decide)) (pa_cons (pv 0) (pa_cons pe_int pa_nil)))) ?_
    refine ⟨_, rfl, p, a, m + 98, 7, rfl, S1, by decide, by decide, fun z H2 z0 z1 S2 f2 => ?_⟩
    refine nxt (ps_set (i := 3) sc_l_drawn.nd rfl (Or.inr rfl) (pe_ix ix_list (pe_lst (pa_cons pe_int (pa_cons (pe_un un_neg pe_int) pa_nil))) (pc D_l_take (hr.mono (by decide)) (pa_cons (pv 0) (pa_cons pe_int pa_nil))) (fun _ _ => rfl))) ?_
    refine ⟨_, rfl, (by show 2 ≤ sizeLine; decide), fun q nq => ?_⟩
    refine upd_gen nq fun H3 e3 h3 => ?_
    refine ⟨_, rfl, p, a, m + 97, 2, rfl, S2.same e3, by decide, by decide, fun r4 H4 r40 r41 S4 f4 => ?_⟩
    obtain ⟨v, hv, hvm⟩ := at_lst (xs := [V.int 0, .int (-3)]) r40 r41
    obtain ⟨low, rfl, hlow⟩ : ∃ low : Int, v = .int low ∧ (low = 0 ∨ low = -3) := by
      simp only [List.mem_cons, List.not_mem_nil, or_false] at hvm
      rcases hvm with rfl | rfl
      · exact ⟨0, rfl, .inl rfl⟩
      · exact ⟨-3, rfl, .inr rfl⟩
    have nqq := (S2).new nq
    refine ⟨q, _, r4, .int low, rfl, rfl, sqL (f4 _ _ nqq.1 nqq.2 h3), hv, ?_⟩
    refine nxt (ps_setLc (i := 4) (own := [("_law_turn", 7)]) (g := gName 7) rfl sc_l_drawn.nd rfl rfl (sw_true rfl rfl rfl (by decide +kernel)) (pi_range1 (by rfl) T.range (pa_cons (pv 1) pa_nil)) (blkOk_by (own := [("_law_turn", 7)]) (N := ["_law_state", "_law_height", "_law_size", "_law_low", "_law_lines", "_law_caps", "_law_gains", "_law_turn", "_law_k"]) (sc := defScope s_l_drawn) (by decide +kernel)) (fun _ _ _ _ _ => (pg_name (i := 7) sc_l_drawn.nd rfl (Or.inl rfl))) (fun _ _ _ _ _ => pts_nil) (fun _ _ _ _ _ => (pe_lc (own := [("_law_k", 8)]) (g := gName 8) rfl sc_l_drawn.nd (pi_range1 (by rfl) T.range (pa_cons (pv 2) pa_nil)) (blkOk_by (own := [("_law_k", 8)]) (by kernel_rfl)) (fun _ _ _ _ _ => (pg_name (i := 8) sc_l_drawn.nd rfl (Or.inl rfl))) (fun _ _ _ _ _ => pts_nil) (fun _ _ _ _ _ => (pe_op op_add (pc D_l_take (hr.mono (by decide)) (pa_cons (pv 0) (pa_cons (pe_op op_sub pe_int (pv 3)) pa_nil))) (pv 3)))))) ?_
    refine ⟨_, rfl, _, rfl, by omega, by omega, fun L nL => lc_range (lo := 0) (n := h.toNat) (fun i H' => StB H' p a (m + 97 - 7 * i) ∧ ∃ rs : List Addr, H' L = some (.lst (rs.map V.ref)) ∧ rs.length = i ∧ ∀ r ∈ rs, LI H' r 60 20 ∧ r ≠ p ∧ r ≠ a ∧ r ≠ L) ?_ ?_ ?_⟩
    · have := S4.new nL
      exact ⟨S4.upd this.1 this.2, [], upd_same, rfl, fun r hr => nomatch hr⟩
    · rintro i H5 hi ⟨S5, rs, h5, hl, hrs⟩
      have hi6 : i < 6 := by omega
      have nLp : L ≠ p ∧ L ≠ a := S4.new nL
      refine ⟨rfl, ?_⟩
      refine ⟨_, rfl, _, rfl, by omega, by omega, fun D nD => lc_range (lo := 0) (n := z.toNat) (fun j H' => StB H' p a (m + 97 - 7 * i - j) ∧ FrB p a H5 H' ∧ LI H' D j 20) ?_ ?_ ?_⟩
      · have := S5.new nD
        exact ⟨S5.upd this.1 this.2, (FrB.refl _).upd nD, LI.new⟩
      · rintro j H6 hj ⟨S6, f6, l6⟩
        have nDp := S5.new nD
        refine ⟨rfl, ?_⟩
        refine ⟨_, rfl, _, rfl, _, _, rfl, rfl, p, a, m + 97 - 7 * i - j - 1, 7 - low, rfl, S6.le (by omega), by omega, by omega, fun x H7 x0 x1 S7 f7 => ?_⟩
        obtain ⟨acc, ha, hal, hl7⟩ := (l6.of fun o ho => f7 _ _ nDp.1 nDp.2 ho).push (z := x + low) (by omega) (by omega)
        refine ⟨_, rfl, _, _, rfl, rfl, acc, ha, small1000 (by omega), (S7.upd nDp.1 nDp.2).le (by omega), (f6.trans f7).upd nD, hl7⟩
      · rintro H6 ⟨S6, f6, l6⟩
        have nDp := S5.new nD
        have nDL : D ≠ L := (ne_of_none h5 nD).symm
        refine ⟨_, f6 _ _ nLp.1 nLp.2 h5, small1000 (by simp; omega), (S6.upd nLp.1 nLp.2).le (by omega), rs ++ [D], ?_, by simp; omega, fun r hr' => ?_⟩
        · rw [upd_same, List.map_append]; rfl
        rcases List.mem_append.mp hr' with hr' | hr'
        · obtain ⟨l, n1, n2, n3⟩ := hrs r hr'
          exact ⟨(l.of fun o ho => f6 _ _ n1 n2 ho).of fun o ho => by rw [upd_ne n3]; exact ho, n1, n2, n3⟩
        · rw [List.mem_singleton.mp hr']
          exact ⟨(l6.mono (by omega)).of fun o ho => by rw [upd_ne nDL]; exact ho, nDp.1, nDp.2, nDL⟩
    rintro H5 ⟨S5, rs, h5, hl, hrs⟩
    have nLp : L ≠ p ∧ L ≠ a := S4.new nL
    have S5 : StB H5 p a (m + 55) := S5.le (by omega)
    refine nxt (ps_setLc (i := 5) (own := [("_law_turn", 7)]) (g := gName 7) rfl sc_l_drawn.nd rfl rfl (sw_true rfl rfl rfl (by decide +kernel)) (pi_range1 (by rfl) T.range (pa_cons (pv 1) pa_nil)) (blkOk_by (own := [("_law_turn", 7)]) (N := ["_law_state", "_law_height", "_law_size", "_law_low", "_law_lines", "_law_caps", "_law_gains", "_law_turn", "_law_k"]) (sc := defScope s_l_drawn) (by decide +kernel)) (fun _ _ _ _ _ => (pg_name (i := 7) sc_l_drawn.nd rfl (Or.inl rfl))) (fun _ _ _ _ _ => pts_nil) (fun _ _ _ _ _ => (pc D_l_take (hr.mono (by decide)) (pa_cons (pv 0) (pa_cons (pe_ix (r := rIxL c.K) ix_list (pe_lst (pa_cons pe_int (pa_cons pe_int pa_nil))) (pc D_l_take (hr.mono (by decide)) (pa_cons (pv 0) (pa_cons pe_int pa_nil))) (fun _ _ => rfl)) pa_nil))))) ?_
    refine ⟨_, rfl, _, rfl, by omega, by omega, fun C nC => lc_range (lo := 0) (n := h.toNat) (fun i H' => StB H' p a (m + 55 - 2 * i) ∧ FrB p a H5 H' ∧ LI H' C i 20) ?_ ?_ ?_⟩
    · have := S5.new nC
      exact ⟨S5.upd this.1 this.2, (FrB.refl _).upd nC, LI.new⟩
    · rintro i H6 hi ⟨S6, f6, l6⟩
      have hi6 : i < 6 := by omega
      have nCp := S5.new nC
      refine ⟨rfl, ?_⟩
      refine ⟨_, rfl, (by show 2 ≤ sizeLine; decide), fun q nq => ?_⟩
      refine upd_gen nq fun H7 e7 h7 => ?_
      have nqq := S6.new nq
      refine ⟨_, rfl, p, a, m + 55 - 2 * i - 1, 2, rfl, (S6.same e7).le (by omega), by decide, by decide, fun r8 H8 r80 r81 S8 f8 => ?_⟩
      obtain ⟨v, hv, hvm⟩ := at_lst (xs := [V.int 2, .int 21]) r80 r81
      obtain ⟨lim, rfl, hlim⟩ : ∃ lim : Int, v = .int lim ∧ (lim = 2 ∨ lim = 21) := by
        simp only [List.mem_cons, List.not_mem_nil, or_false] at hvm
        rcases hvm with rfl | rfl
        · exact ⟨2, rfl, .inl rfl⟩
        · exact ⟨21, rfl, .inr rfl⟩
      refine ⟨q, _, r8, .int lim, rfl, rfl, sqL (f8 _ _ nqq.1 nqq.2 h7), hv, ?_⟩
      refine ⟨p, a, m + 55 - 2 * i - 2, lim, rfl, S8.le (by omega), by omega, by omega, fun x H9 x0 x1 S9 f9 => ?_⟩
      have f79 := ((FrB.same e7).trans f8).trans f9
      obtain ⟨acc, ha, hal, hl9⟩ := (l6.of fun o ho => f79 _ _ nCp.1 nCp.2 ho).push (z := x) (by omega) (by omega)
      exact ⟨acc, ha, small1000 (by omega), (S9.upd nCp.1 nCp.2).le (by omega), (f6.trans f79).upd nC, hl9⟩
    rintro H6 ⟨S6, f6, l6⟩
    have nCp := S5.new nC
    have S6 : StB H6 p a (m + 43) := S6.le (by omega)
    refine nxt (ps_setLc (i := 6) (own := [("_law_k", 8)]) (g := gName 8) rfl sc_l_drawn.nd rfl rfl (sw_true rfl rfl rfl (by decide +kernel)) (pi_range1 (by rfl) T.range (pa_cons (pv 2) pa_nil)) (blkOk_by (own := [("_law_k", 8)]) (N := ["_law_state", "_law_height", "_law_size", "_law_low", "_law_lines", "_law_caps", "_law_gains", "_law_turn", "_law_k"]) (sc := defScope s_l_drawn) (by decide +kernel)) (fun _ _ _ _ _ => (pg_name (i := 8) sc_l_drawn.nd rfl (Or.inl rfl))) (fun _ _ _ _ _ => pts_nil) (fun _ _ _ _ _ => (pe_op op_sub (pc D_l_take (hr.mono (by decide)) (pa_cons (pv 0) (pa_cons pe_int pa_nil))) pe_int))) ?_
    refine ⟨_, rfl, _, rfl, by omega, by omega, fun G nG => lc_range (lo := 0) (n := z.toNat) (fun i H' => StB H' p a (m + 43 - i) ∧ FrB p a H6 H' ∧ LI H' G i 60) ?_ ?_ ?_⟩
    · have := S6.new nG
      exact ⟨S6.upd this.1 this.2, (FrB.refl _).upd nG, LI.new⟩
    · rintro i H7 hi ⟨S7, f7, l7⟩
      have nGp := S6.new nG
      refine ⟨rfl, ?_⟩
      refine ⟨_, rfl, p, a, m + 43 - i - 1, 15, rfl, S7.le (by omega), by decide, by decide, fun x H8 x0 x1 S8 f8 => ?_⟩
      obtain ⟨acc, ha, hal, hl8⟩ := (l7.of fun o ho => f8 _ _ nGp.1 nGp.2 ho).push (z := x - 5) (by omega) (by omega)
      exact ⟨_, _, rfl, rfl, acc, ha, small1000 (by omega), (S8.upd nGp.1 nGp.2).le (by omega), (f7.trans f8).upd nG, hl8⟩
    rintro H7 ⟨S7, f7, l7⟩
    have nGp := S6.new nG
    refine last (ps_ret (pe_tup (pa_cons (pv 4) (pa_cons (pv 5) (pa_cons (pv 6) pa_nil))))) ?_
    refine ⟨_, rfl, _, rfl, _, rfl, (by show 3 ≤ sizeLine; decide), fun t nt => ?_⟩
    refine upd_gen nt fun H8 e8 h8 => ?_
    have f57 := f6.trans f7
    obtain ⟨_, hC6, _, _⟩ := id l6
    have hL6 := f6 _ _ nLp.1 nLp.2 h5
    refine k t L C G rs H8 ((S7.same e8).le (by omega)) h8 ⟨e8 _ _ (f57 _ _ nLp.1 nLp.2 h5), ((l6.of fun o ho => f7 _ _ nCp.1 nCp.2 ho).of fun o ho => e8 _ _ ho).mono (by omega), (l7.of fun o ho => e8 _ _ ho).mono (by omega), by omega, fun r hr' => ?_, nLp.1, nLp.2, nCp.1, nCp.2, nGp.1, nGp.2, ne_of_none h5 nC, ne_of_none hL6 nG, ne_of_none hC6 nG⟩
    obtain ⟨l, n1, n2, n3⟩ := hrs r hr'
    obtain ⟨_, hr5, _, _⟩ := id l
    have hr6 := f6 _ _ n1 n2 hr5
    exact ⟨(l.of fun o ho => f57 _ _ n1 n2 ho).of fun o ho => e8 _ _ ho, n1, n2, n3, ne_of_none hr5 nC, ne_of_none hr6 nG⟩
end
end B
namespace B
open PySem L2
/-! k83: the numbers of a drawn program stay small -/
section
open Lp
theorem bd_get {B : Int} {xs : List Int} (h : bdL B xs) (b : 0 ≤ B) (j : Nat) : (xs.getD j 0).natAbs ≤ B.toNat := by
  rw [List.getD_eq_getElem?_getD]
  cases e : xs[j]? with
  | none => simp
  | some x =>
    have := h x (List.mem_of_getElem? e)
    simp only [Option.getD_some]
    omega
theorem un_abs (i r : Nat) : (un i r).natAbs ≤ 1 := by
  unfold un
  split <;> decide
theorem ax_abs {rows : List (List Int)} {caps gains : List Int} (hr : ∀ r ∈ rows, bdL 20 r) (hc : bdL 20 caps) (hg : bdL 60 gains) (j r : Nat) : (AX rows caps gains j r).natAbs ≤ if r < rows.length then 20 else 60 := by
  have h1 : ∀ r, ((rows.getD r []).getD j 0).natAbs ≤ 20 := fun r => bd_get (B := 20) (by
    rw [List.getD_eq_getElem?_getD]
    cases e : rows[r]? with
    | none => exact bdL.nil
    | some x => exact hr x (List.mem_of_getElem? e)) (by decide) j
  have h2 := bd_get hc (by decide) r
  have h3 := bd_get hg (by decide) j
  have h4 := h1 r
  have h5 := un_abs (j - gains.length) r
  unfold AX
  split
  · split
    · omega
    · split
      · rw [Int.natAbs_neg]; omega
      · simp
  · split
    · split <;> omega
    · split
      · omega
      · simp
theorem fac_lt : ∀ m, m < 9 → fact (m + 1) * prodN ((List.range (m + 1)).map fun r => if r < m then 20 else 60) < 2 ^ 64 := by decide
theorem sm_of {rows : List (List Int)} {caps gains : List Int} (hm : rows.length ≤ 8) (hr : ∀ r ∈ rows, bdL 20 r) (hc : bdL 20 caps) (hg : bdL 60 gains) (hz : gains.length + rows.length < 800) (β : Nat → Nat) (G : Good (AX rows caps gains) gains.length rows.length β) : Sm (AX rows caps gains) gains.length rows.length β := by
  have hf := fac_lt rows.length (by omega)
  have key : ∀ v : Nat → Vc, (∀ k r, r ∈ rw_ rows.length → (v k r).natAbs ≤ if r < rows.length then 20 else 60) → (det (rw_ rows.length) v).natAbs < 2 ^ 64 := fun v hv => by
    have := det_abs (fun r => if r < rows.length then 20 else 60) (rw_ rows.length) v fun k _ r hr' => hv k r hr'
    rw [rw_len] at this
    exact Nat.lt_of_le_of_lt this hf
  have hb : ∀ k r, r ∈ rw_ rows.length → (bs (AX rows caps gains) rows.length β k r).natAbs ≤ if r < rows.length then 20 else 60 := fun k r _ => by
    unfold bs
    split
    · exact ax_abs hr hc hg _ _
    · have := un_abs rows.length r
      split <;> omega
  have h1 := key _ hb
  have h2 : ∀ i j, (tt (AX rows caps gains) rows.length β i j).natAbs < 2 ^ 64 := fun i j => key _ fun k r hr' => by
    by_cases e : k = i
    · subst e; rw [up_same]; exact ax_abs hr hc hg _ _
    · rw [up_ne e]; exact hb k r hr'
  refine ⟨fun i j _ _ => ?_, G.d, ?_, by omega⟩
  · have := h2 i j
    omega
  · have : (dd (AX rows caps gains) rows.length β).natAbs < 2 ^ 64 := h1
    omega
end
end B
namespace B
open PySem L2
/-! k83: a program on the heap, spoiled -/
section
variable {H H' : Hp} {p a L C G : Addr} {k : Nat} {rs : List Addr}
theorem LI.get {r : Addr} {n : Nat} {B : Int} (h : LI H r n B) : ∃ acc, H r = some (.lst acc) := let ⟨_, a, _⟩ := h; ⟨_, a⟩
theorem PB.mono (h : PB H p a L C G k rs) {k' : Nat} (l : k ≤ k') : PB H p a L C G k' rs := ⟨h.hL, h.hC.mono (by omega), h.hG.mono (by omega), h.nL, fun r hr => let ⟨x, y⟩ := h.rw r hr; ⟨x.mono (by omega), y⟩, h.ne⟩
theorem PB.fr (h : PB H p a L C G k rs) (f : FrB p a H H') : PB H' p a L C G k rs := by
  obtain ⟨n1, n2, n3, n4, n5, n6, n7, n8, n9⟩ := h.ne
  exact ⟨f _ _ n1 n2 h.hL, h.hC.of fun o ho => f _ _ n3 n4 ho, h.hG.of fun o ho => f _ _ n5 n6 ho, h.nL, fun r hr => let ⟨x, y, z, w⟩ := h.rw r hr; ⟨x.of fun o ho => f _ _ y z ho, y, z, w⟩, h.ne⟩
theorem PB.same (h : PB H p a L C G k rs) (e : Same H H') : PB H' p a L C G k rs := h.fr (FrB.same e)
theorem PB.push (h : PB H p a L C G k rs) {r : Addr} {acc : List V} (hr : r ∈ rs) (e : H r = some (.lst acc)) : PB (upd H r (.lst (acc ++ [.int 1]))) p a L C G (k + 1) rs := by
  obtain ⟨x0, y1, y2, y3, y4, y5⟩ := h.rw r hr
  refine ⟨by rw [upd_ne (Ne.symm y3)]; exact h.hL, (h.hC.of fun o ho => by rw [upd_ne (Ne.symm y4)]; exact ho).mono (by omega), (h.hG.of fun o ho => by rw [upd_ne (Ne.symm y5)]; exact ho).mono (by omega), h.nL, fun q hq => ?_, h.ne⟩
  obtain ⟨x, z⟩ := h.rw q hq
  refine ⟨?_, z⟩
  by_cases eq : q = r
  · subst eq
    obtain ⟨acc', e', _, l⟩ := x.push (z := 1) (by decide) (by decide)
    rw [e] at e'
    cases e'
    exact l.mono (by omega)
  · exact (x.of fun o ho => by rw [upd_ne eq]; exact ho).mono (by omega)
theorem PB.setL (h : PB H p a L C G k rs) {D : Addr} (j : Nat) (l : LI H D (60 + 2 * k + 2) 20) (n1 : D ≠ p) (n2 : D ≠ a) (n3 : D ≠ L) (n4 : D ≠ C) (n5 : D ≠ G) : PB (upd H L (.lst ((rs.map V.ref).set j (.ref D)))) p a L C G (k + 1) (rs.set j D) := by
  obtain ⟨m1, m2, m3, m4, m5, m6, m7, m8, m9⟩ := h.ne
  refine ⟨by rw [upd_same, List.map_set], (h.hC.of fun o ho => by rw [upd_ne (Ne.symm m7)]; exact ho).mono (by omega), (h.hG.of fun o ho => by rw [upd_ne (Ne.symm m8)]; exact ho).mono (by omega), by rw [List.length_set]; exact h.nL, fun q hq => ?_, h.ne⟩
  rcases List.mem_or_eq_of_mem_set hq with hq | hq
  · obtain ⟨x, y, z, w, v⟩ := h.rw q hq
    exact ⟨(x.of fun o ho => by rw [upd_ne w]; exact ho).mono (by omega), y, z, w, v⟩
  · subst hq
    exact ⟨(l.of fun o ho => by rw [upd_ne n3]; exact ho).mono (by omega), n1, n2, n3, n4, n5⟩
theorem PB.setC (h : PB H p a L C G k rs) {acc : List V} {z : Int} (j : Nat) (e : H C = some (.lst acc)) (h1 : -20 ≤ z) (h2 : z ≤ 20) : PB (upd H C (.lst (acc.set j (.int z)))) p a L C G (k + 1) rs := by
  obtain ⟨m1, m2, m3, m4, m5, m6, m7, m8, m9⟩ := h.ne
  obtain ⟨xs, e', lx, bx⟩ := h.hC
  rw [e] at e'
  cases e'
  refine ⟨by rw [upd_ne m7]; exact h.hL, ⟨xs.set j z, by rw [upd_same, List.map_set], by rw [List.length_set]; omega, fun x hx => ?_⟩, (h.hG.of fun o ho => by rw [upd_ne (Ne.symm m9)]; exact ho).mono (by omega), h.nL, fun q hq => ?_, h.ne⟩
  · rcases List.mem_or_eq_of_mem_set hx with hx | hx
    · exact bx x hx
    · subst hx; exact ⟨h1, h2⟩
  · obtain ⟨x, y, z, w, v, u⟩ := h.rw q hq
    exact ⟨(x.of fun o ho => by rw [upd_ne v]; exact ho).mono (by omega), y, z, w, v, u⟩
theorem PB.newC (h : PB H p a L C G k rs) {D : Addr} (l : LI H D (8 + (k + 1)) 20) (n : ∀ q o, (q = p ∨ q = a ∨ q = L ∨ q = G ∨ q ∈ rs) → H q = some o → D ≠ q) (hp : ∃ o, H p = some o) (ha : ∃ o, H a = some o) : PB H p a L D G (k + 1) rs := by
  obtain ⟨m1, m2, m3, m4, m5, m6, m7, m8, m9⟩ := h.ne
  obtain ⟨_, hp⟩ := hp
  obtain ⟨_, ha⟩ := ha
  obtain ⟨_, hg⟩ := h.hG.get
  refine ⟨h.hL, l, h.hG.mono (by omega), h.nL, fun q hq => ?_, m1, m2, n p _ (.inl rfl) hp, n a _ (.inr (.inl rfl)) ha, m5, m6, (n L _ (.inr (.inr (.inl rfl))) h.hL).symm, m8, n G _ (.inr (.inr (.inr (.inl rfl)))) hg⟩
  obtain ⟨x, y, z, w, v, u⟩ := h.rw q hq
  obtain ⟨_, hqq⟩ := x.get
  exact ⟨x.mono (by omega), y, z, w, (n q _ (.inr (.inr (.inr (.inr hq)))) hqq).symm, u⟩
theorem PB.pushG (h : PB H p a L C G k rs) {acc : List V} (e : H G = some (.lst acc)) : PB (upd H G (.lst (acc ++ [.int 2]))) p a L C G (k + 1) rs := by
  obtain ⟨m1, m2, m3, m4, m5, m6, m7, m8, m9⟩ := h.ne
  obtain ⟨acc', e', _, l⟩ := h.hG.push (z := 2) (by decide) (by decide)
  rw [e] at e'
  cases e'
  refine ⟨by rw [upd_ne m8]; exact h.hL, (h.hC.of fun o ho => by rw [upd_ne m9]; exact ho).mono (by omega), l.mono (by omega), h.nL, fun q hq => ?_, h.ne⟩
  obtain ⟨x, y, z, w, v, u⟩ := h.rw q hq
  exact ⟨(x.of fun o ho => by rw [upd_ne u]; exact ho).mono (by omega), y, z, w, v, u⟩
theorem StB.get {m : Nat} (S : StB H p a m) : (∃ o, H p = some o) ∧ ∃ o, H a = some o := by
  obtain ⟨cs, i, n, h1, h2, _⟩ := S
  exact ⟨⟨_, h1⟩, _, h2⟩
/-- a new list is none of those told -/
theorem PB.fresh (h : PB H p a L C G k rs) {m : Nat} (S : StB H p a m) {D : Addr} (n : H D = none) : D ≠ p ∧ D ≠ a ∧ D ≠ L ∧ D ≠ C ∧ D ≠ G := by
  obtain ⟨n1, n2⟩ := S.new n
  obtain ⟨_, hc⟩ := h.hC.get
  obtain ⟨_, hg⟩ := h.hG.get
  exact ⟨n1, n2, (ne_of_none h.hL n).symm, (ne_of_none hc n).symm, (ne_of_none hg n).symm⟩
/-- the numbers of it -/
theorem rows_of {n : Nat} {B : Int} : ∀ {rs : List Addr}, (∀ r ∈ rs, LI H r n B) → ∃ M : List (List Int), M.length = rs.length ∧ (∀ (i : Nat) (r : Addr) (q : List Int), rs[i]? = some r → M[i]? = some q → H r = some (.lst (q.map V.int))) ∧ ∀ q ∈ M, q.length ≤ n ∧ bdL B q
  | [], _ => ⟨[], rfl, fun i r q h => by simp at h, fun q h => nomatch h⟩
  | r :: rs, h => by
    obtain ⟨M, h1, h2, h3⟩ := rows_of fun q hq => h q (List.mem_cons_of_mem _ hq)
    obtain ⟨x, e, lx, bx⟩ := h r List.mem_cons_self
    refine ⟨x :: M, by simp [h1], fun i r' q hr hq => ?_, fun q hq => ?_⟩
    · cases i with
      | zero => cases hr; cases hq; exact e
      | succ i => exact h2 i r' q hr hq
    · rcases List.mem_cons.mp hq with rfl | hq
      · exact ⟨lx, bx⟩
      · exact h3 q hq
end
end B
namespace B
open PySem L2
/-! k83: the market's program; the program that goes round -/
section
/-- pairs in a list -/
def PrA (H : Hp) (P : Addr) (n : Nat) : Prop := ∃ ts : List Addr, H P = some (.lst (ts.map V.ref)) ∧ ts.length ≤ n ∧ ∀ t ∈ ts, ∃ b k : Int, H t = some (.tup [.int b, .int k])
theorem PrA.same {H H' : Hp} {P : Addr} {n : Nat} (h : PrA H P n) (e : Same H H') : PrA H' P n := let ⟨ts, a, b, c⟩ := h; ⟨ts, e _ _ a, b, fun t ht => let ⟨x, y, z⟩ := c t ht; ⟨x, y, e _ _ z⟩⟩
/-- rows of ints in a list, made behind H0 -/
def RwA (H0 H : Hp) (L : Addr) (n : Nat) : Prop := ∃ rs : List Addr, H L = some (.lst (rs.map V.ref)) ∧ rs.length ≤ n ∧ ∀ r ∈ rs, LI H r 60 20 ∧ H0 r = none ∧ r ≠ L
theorem RwA.same {H0 H H' : Hp} {P : Addr} {n : Nat} (h : RwA H0 H P n) (e : Same H H') : RwA H0 H' P n := let ⟨ts, a, b, c⟩ := h; ⟨ts, e _ _ a, b, fun t ht => let ⟨x, y⟩ := c t ht; ⟨x.of fun o ho => e _ _ ho, y⟩⟩
theorem RwA.push {H0 H1 H : Hp} {L D : Addr} {n : Nat} (h : RwA H0 H1 L n) (e : Same H1 H) (n0 : H0 D = none) (n1 : H1 D = none) (l : LI H D 60 20) : ∃ acc, H L = some (.lst acc) ∧ acc.length ≤ n ∧ RwA H0 (upd H L (.lst (acc ++ [.ref D]))) L (n + 1) := by
  obtain ⟨rs, a, b, c⟩ := h
  have nDL : D ≠ L := (ne_of_none a n1).symm
  refine ⟨_, e _ _ a, by rw [List.length_map]; exact b, rs ++ [D], by rw [upd_same, List.map_append]; rfl, by simp; omega, fun r hr => ?_⟩
  rcases List.mem_append.mp hr with hr | hr
  · obtain ⟨x, y, z⟩ := c r hr
    exact ⟨(x.of fun o ho => e _ _ ho).of fun o ho => by rw [upd_ne z]; exact ho, y, z⟩
  · rw [List.mem_singleton.mp hr]
    exact ⟨l.of fun o ho => by rw [upd_ne nDL]; exact ho, n0, nDL⟩
theorem none_up {H H' : Hp} {r : Addr} (e : Same H H') (n : H' r = none) : H r = none := by
  cases y : H r with
  | none => rfl
  | some o => rw [e r o y] at n; cases n
theorem pi_listK {X : Cx} {tg l : Expr} {tl : TE} {K : PySem.W.Frag} (hK : X.K = K) (hl : PE X l tl) : PI X tg l (iList K tl) := by
  subst hK
  exact pi_list hl
theorem rep1 : ∀ n, (List.replicate n [V.int 1]).flatten = (List.replicate n 1).map V.int
  | 0 => rfl
  | n + 1 => by rw [List.replicate_succ, List.replicate_succ, List.flatten_cons, rep1 n]; rfl
variable {P : Program} {w_ : World} {mg : Str → Option Value} {base : Heap} {c : Ct}
theorem ok_l_market {f : Addr} {fd : FuncData} (F : Fun c.K "_law_market" "_law_market" s_l_market f fd) (T : Bt mg) (D_l_take : Df P w_ c.K mg base CX0 1 "_law_take" ["_law_state", "_law_limit"] spTake) : FnOk P w_ c.K mg base CX0 2 f fd ["_law_state"] spDrawn := by
  refine F.ok sc_l_market (fun vs H Q E h => ?_) (fun cdv A outer s H vs Q E hr h => ⟨_, wb, ?_⟩)
  · obtain ⟨p, a, m, rfl, _⟩ := h
    rfl
  · obtain ⟨p, a, m, rfl, S0, k⟩ := h
    refine nxt (ps_par (i := 1) (j := 2) (by rfl) sc_l_market.nd rfl rfl (by decide) rfl rfl (pa_cons (pe_op op_add pe_int (pc D_l_take (hr.mono (by decide)) (pa_cons (pv 0) (pa_cons pe_int pa_nil)))) (pa_cons (pe_op op_add pe_int (pc D_l_take (hr.mono (by decide)) (pa_cons (pv 0) (pa_cons pe_int pa_nil)))) pa_nil)) (by rfl)) ?_
    refine ⟨_, rfl, p, a, m + 99, 4, rfl, S0, by decide, by decide, fun b H1 b0 b1 S1 f1 => ⟨_, _, rfl, rfl, _, rfl, p, a, m + 98, 4, rfl, S1, by decide, by decide, fun n H2 n0 n1 S2 f2 => ⟨_, _, rfl, rfl, _, _, rfl, ?_⟩⟩⟩
    refine nxt (ps_set (i := 3) sc_l_market.nd rfl (Or.inr rfl) (pe_lst pa_nil)) ?_
    refine ⟨(by show 0 ≤ sizeLine; decide), fun P0 nP0 => ?_⟩
    refine upd_gen nP0 fun H3 e3 h3 => ?_
    refine nxtN (ps_for PassesOwn.never rfl (pi_range1 (by rfl) T.range (pa_cons (pv 1) pa_nil)) (pg_name (i := 4) sc_l_market.nd rfl (Or.inr rfl)) wb) fun N hN => ?_
    refine ⟨_, rfl, _, rfl, by omega, by omega, for_range (lo := 0) (n := (1 + b).toNat) (fun i σ H' => (∃ (Pp : Addr) (v : Option V), σ = [some (.ref p), some (.int (1 + b)), some (.int (1 + n)), some (.ref Pp), v, none, none, none, none] ∧ PrA H' Pp (15 * i) ∧ H2 Pp = none) ∧ Same H2 H') ⟨⟨P0, _, rfl, ⟨[], h3, Nat.le_refl _, fun t ht => nomatch ht⟩, nP0⟩, e3⟩ ?_ ?_⟩
    · rintro i σ' H4 hi ⟨⟨Pp, v, rfl, hp, nPp⟩, e4⟩
      have hi : i < 4 := by omega
      refine last (ps_set (i := 3) sc_l_market.nd rfl (Or.inr rfl) (pe_op op_cat (pv 3) (pe_lc (own := [("_law_mask", 8)]) (g := gName 8) rfl sc_l_market.nd (pi_range2 (by rfl) T.range (pa_cons pe_int (pa_cons (pe_op op_shlN pe_int (pv 2)) pa_nil))) (blkOk_by (own := [("_law_mask", 8)]) (N := ["_law_state", "_law_buyers", "_law_count", "_law_pairs", "_law_buyer", "_law_lines", "_law_pair", "_law_good", "_law_mask"]) (sc := defScope s_l_market) (by decide +kernel)) (fun _ _ _ _ _ => (pg_name (i := 8) sc_l_market.nd rfl (Or.inl rfl))) (fun _ _ _ _ _ => pts_nil) (fun _ _ _ _ _ => (pe_tup (pa_cons (pv 4) (pa_cons (pv 8) pa_nil))))))) ?_
      obtain ⟨cn, hcn⟩ : ∃ cn : Nat, 1 + n = (cn : Nat) := ⟨(1 + n).toNat, by omega⟩
      rw [hcn]
      have hc4 : cn ≤ 4 := by omega
      obtain ⟨k1, k2⟩ := (show ∀ k, k ≤ 4 → (1 : Int) ≤ 1 * 2 ^ k ∧ (1 : Int) * 2 ^ k ≤ 16 by decide) cn hc4
      refine ⟨_, rfl, _, rfl, 1, cn, rfl, rfl, shl_ok (n := 1) (by decide) (by omega), ?_⟩
      generalize (1 : Int) * 2 ^ cn = top_ at k1 k2
      obtain ⟨ts, hP, hl, ht⟩ := hp
      refine ⟨_, _, rfl, ⟨by decide, by decide, by omega, by omega⟩, fun D nD => lc_range (lo := 1) (n := (top_ - 1).toNat) (fun j H' => Same H4 H' ∧ PrA H' D j) ⟨sm_new nD, [], upd_same, Nat.le_refl _, fun t ht => nomatch ht⟩ ?_ ?_⟩
      · rintro j H5 hj ⟨e5, us, hu, ul, ut⟩
        have hj : j < 15 := by omega
        refine ⟨rfl, ?_⟩
        refine ⟨_, rfl, _, rfl, (by show 2 ≤ sizeLine; decide), fun t nt => ?_⟩
        refine upd_gen nt fun H6 e6 h6 => ?_
        have nDt : t ≠ D := (ne_of_none hu nt).symm
        refine ⟨_, e6 _ _ hu, small1000 (by rw [List.length_map]; omega), fun b o hb => ?_, us ++ [t], by rw [upd_same, List.map_append]; rfl, by simp; omega, fun t' ht' => ?_⟩
        · rw [upd_ne (ne_of_none hb nD)]
          exact e6 _ _ (e5 _ _ hb)
        rcases List.mem_append.mp ht' with ht' | ht'
        · obtain ⟨x, y, hxy⟩ := ut t' ht'
          have : t' ≠ D := fun z => by rw [z, hu] at hxy; cases hxy
          exact ⟨x, y, by rw [upd_ne this]; exact e6 _ _ hxy⟩
        · rw [List.mem_singleton.mp ht']
          exact ⟨_, _, by rw [upd_ne nDt]; exact h6⟩
      · rintro H5 ⟨e5, us, hu, ul, ut⟩
        refine ⟨Pp, D, _, _, rfl, rfl, e5 _ _ hP, hu, Nat.le_of_lt (small1000 (by rw [List.length_map, List.length_map]; omega)), fun q nq => ?_⟩
        refine upd_gen nq fun H6 e6 h6 => ?_
        refine ⟨⟨q, _, rfl, ⟨ts ++ us, by rw [List.map_append]; exact h6, by simp; omega, fun t' ht' => ?_⟩, none_up (e4.trans e5) nq⟩, e4.trans (e5.trans e6)⟩
        rcases List.mem_append.mp ht' with ht' | ht'
        · obtain ⟨x, y, hxy⟩ := ht t' ht'
          exact ⟨x, y, e6 _ _ (e5 _ _ hxy)⟩
        · obtain ⟨x, y, hxy⟩ := ut t' ht'
          exact ⟨x, y, e6 _ _ hxy⟩
    rintro σ' H4 ⟨⟨Pp, v, rfl, ⟨ts, hP, hl, ht⟩, nPp⟩, e4⟩
    have nPq := S2.new nPp
    refine hN _ _ ?_
    have hl : ts.length ≤ 60 := by omega
    refine nxt (ps_setLc (i := 5) (own := [("_law_buyer", 4)]) (g := gName 4) rfl sc_l_market.nd rfl rfl (sw_true rfl rfl rfl (by decide +kernel)) (pi_range1 (by rfl) T.range (pa_cons (pv 1) pa_nil)) (blkOk_by (own := [("_law_buyer", 4)]) (N := ["_law_state", "_law_buyers", "_law_count", "_law_pairs", "_law_buyer", "_law_lines", "_law_pair", "_law_good", "_law_mask"]) (sc := defScope s_l_market) (by decide +kernel)) (fun _ _ _ _ _ => (pg_name (i := 4) sc_l_market.nd rfl (Or.inr rfl))) (fun _ _ _ _ _ => pts_nil) (fun _ _ _ _ _ => (pe_lc (own := [("_law_pair", 6)]) (g := gName 6) rfl sc_l_market.nd (pi_listK (K := c.K) rfl (pv 3)) (blkOk_by (own := [("_law_pair", 6)]) (by kernel_rfl)) (fun _ _ _ _ _ => (pg_name (i := 6) sc_l_market.nd rfl (Or.inl rfl))) (fun _ _ _ _ _ => pts_nil) (fun _ _ _ _ _ => (pe_callTy call_int1 (by rfl) T.int (by decide +kernel) (pa_cons (pe_cmpR op_eq (pe_ix (r := rIxT c.K) ix_tup (pv 6) pe_int (fun _ _ => rfl)) (pv 4) (nomark _)) pa_nil)))))) ?_
    refine ⟨_, rfl, _, rfl, by omega, by omega, fun L nL => lc_range (lo := 0) (n := (1 + b).toNat) (fun i H' => Same H4 H' ∧ RwA H2 H' L i) ⟨sm_new nL, [], upd_same, Nat.le_refl _, fun r hr' => nomatch hr'⟩ ?_ ?_⟩
    · rintro i H5 hi ⟨e5, R5⟩
      refine ⟨rfl, ?_⟩
      refine ⟨_, rfl, Pp, rfl, ⟨_, sqL (e5 _ _ hP)⟩, fun D nD => lc_list (K := c.K) (a := Pp) (xs := ts.map V.ref) (fun j H' => Same H5 H' ∧ LI H' D j 20) ⟨sm_new nD, LI.new⟩ (fun j H' _ q => sm_l q.1 (sqL (e5 _ _ hP))) ?_ ?_⟩
      · rintro j x H6 hx ⟨e6, l6⟩
        have hj : j < 60 := by have := (List.getElem?_eq_some_iff.mp hx).1; rw [List.length_map] at this; omega
        obtain ⟨t, htm, rfl⟩ := List.mem_map.mp (List.mem_of_getElem? hx)
        obtain ⟨y, z, hyz⟩ := ht t htm
        have hyz := e6 _ _ (e5 _ _ hyz)
        refine ⟨rfl, ?_⟩
        refine ⟨_, rfl, t, _, 0, _, rfl, rfl, sqT hyz, rfl, _, rfl, rfl, .inr ⟨_, rfl, ?_⟩⟩
        obtain ⟨acc, ha, hal, hl8⟩ := l6.push (z := if decide (V.int y = V.int (0 + (i : Nat))) = true then 1 else 0) (by split <;> decide) (by split <;> decide)
        refine ⟨acc, ha, small1000 (by omega), fun b o hb => ?_, ?_⟩
        · rw [upd_ne (ne_of_none hb nD)]; exact e6 _ _ hb
        · exact hl8
      · rintro H6 ⟨e6, l6⟩
        obtain ⟨acc, ha, hal, hR⟩ := R5.push e6 (none_up (e4.trans e5) nD) nD (l6.mono (by rw [List.length_map]; exact hl))
        refine ⟨acc, ha, small1000 (by omega), fun b o hb => ?_, hR⟩
        rw [upd_ne (ne_of_none hb nL)]; exact e6 _ _ (e5 _ _ hb)
    rintro H5 ⟨e5, R5⟩
    have hP5 := e5 _ _ hP
    obtain ⟨rs, hL5, lrs, hrs⟩ := R5
    refine nxt (ps_set (i := 5) sc_l_market.nd rfl (Or.inl rfl) (pe_op op_cat (pv 5) (pe_lc (own := [("_law_good", 7)]) (g := gName 7) rfl sc_l_market.nd (pi_range1 (by rfl) T.range (pa_cons (pv 2) pa_nil)) (blkOk_by (own := [("_law_good", 7)]) (N := ["_law_state", "_law_buyers", "_law_count", "_law_pairs", "_law_buyer", "_law_lines", "_law_pair", "_law_good", "_law_mask"]) (sc := defScope s_l_market) (by decide +kernel)) (fun _ _ _ _ _ => (pg_name (i := 7) sc_l_market.nd rfl (Or.inr rfl))) (fun _ _ _ _ _ => pts_nil) (fun _ _ _ _ _ => (pe_lc (own := [("_law_pair", 6)]) (g := gName 6) rfl sc_l_market.nd (pi_listK (K := c.K) rfl (pv 3)) (blkOk_by (own := [("_law_pair", 6)]) (by kernel_rfl)) (fun _ _ _ _ _ => (pg_name (i := 6) sc_l_market.nd rfl (Or.inl rfl))) (fun _ _ _ _ _ => pts_nil) (fun _ _ _ _ _ => (pe_op op_andM (pe_op op_shrN (pe_ix (r := rIxT c.K) ix_tup (pv 6) pe_int (fun _ _ => rfl)) (pv 7)) pe_int))))))) ?_
    refine ⟨_, rfl, _, rfl, _, rfl, by omega, by omega, fun M nM => lc_range (lo := 0) (n := (1 + n).toNat) (fun i H' => Same H5 H' ∧ RwA H2 H' M i) ⟨sm_new nM, [], upd_same, Nat.le_refl _, fun r hr' => nomatch hr'⟩ ?_ ?_⟩
    · rintro i H6 hi ⟨e6, R6⟩
      refine ⟨rfl, ?_⟩
      refine ⟨_, rfl, Pp, rfl, ⟨_, sqL (e6 _ _ hP5)⟩, fun D nD => lc_list (K := c.K) (a := Pp) (xs := ts.map V.ref) (fun j H' => Same H6 H' ∧ LI H' D j 20) ⟨sm_new nD, LI.new⟩ (fun j H' _ q => sm_l q.1 (sqL (e6 _ _ hP5))) ?_ ?_⟩
      · rintro j x H7 hx ⟨e7, l7⟩
        have hj : j < 60 := by have := (List.getElem?_eq_some_iff.mp hx).1; rw [List.length_map] at this; omega
        obtain ⟨t, htm, rfl⟩ := List.mem_map.mp (List.mem_of_getElem? hx)
        obtain ⟨y, z, hyz⟩ := ht t htm
        have hyz := e7 _ _ (e6 _ _ (e5 _ _ hyz))
        refine ⟨rfl, ?_⟩
        refine ⟨_, rfl, t, _, 1, _, rfl, rfl, sqT hyz, atI_nat (j := 1) rfl, _, rfl, z, i, rfl, by rw [Int.zero_add], _, 1, rfl, rfl, ?_⟩
        have z0 : 0 ≤ z / 2 ^ i % 2 ^ 1 := Int.emod_nonneg _ (by decide)
        have z1 : z / 2 ^ i % 2 ^ 1 < 2 := Int.emod_lt_of_pos _ (by decide)
        obtain ⟨acc, ha, hal, hl8⟩ := l7.push (z := z / 2 ^ i % 2 ^ 1) (by omega) (by omega)
        refine ⟨acc, ha, small1000 (by omega), fun b o hb => ?_, hl8⟩
        rw [upd_ne (ne_of_none hb nD)]; exact e7 _ _ hb
      · rintro H7 ⟨e7, l7⟩
        obtain ⟨acc, ha, hal, hR⟩ := R6.push e7 (none_up ((e4.trans e5).trans e6) nD) nD (l7.mono (by rw [List.length_map]; exact hl))
        refine ⟨acc, ha, small1000 (by omega), fun b o hb => ?_, hR⟩
        rw [upd_ne (ne_of_none hb nM)]; exact e7 _ _ (e6 _ _ hb)
    rintro H6 ⟨e6, rs2, hM6, lrs2, hrs2⟩
    refine ⟨L, M, _, _, rfl, rfl, e6 _ _ hL5, hM6, Nat.le_of_lt (small1000 (by rw [List.length_map, List.length_map]; omega)), fun L2 nL2 => ?_⟩
    refine upd_gen nL2 fun H7 e7 h7 => ?_
    rw [← List.map_append] at h7
    have hall : ∀ r ∈ rs ++ rs2, LI H7 r 60 20 ∧ H2 r = none := fun r hr' => by
      rcases List.mem_append.mp hr' with hr' | hr'
      · obtain ⟨x, y, _⟩ := hrs r hr'
        exact ⟨x.of fun o ho => e7 _ _ (e6 _ _ ho), y⟩
      · obtain ⟨x, y, _⟩ := hrs2 r hr'
        exact ⟨x.of fun o ho => e7 _ _ ho, y⟩
    have hlen : (rs ++ rs2).length ≤ 8 := by rw [List.length_append]; omega
    have e27 := e4.trans (e5.trans (e6.trans e7))
    have S7 := S2.same e27
    have hnL : H2 L2 = none := none_up (e4.trans (e5.trans e6)) nL2
    have hP7 := e7 _ _ (e6 _ _ hP5)
    generalize rs ++ rs2 = rw_ at h7 hall hlen
    clear hrs hrs2 hL5 hM6 lrs lrs2
    refine last (ps_ret (pe_tup (pa_cons (pv 5) (pa_cons (pe_op op_rep (pe_lst (pa_cons pe_int pa_nil)) (pe_callB call_len_seq (by rfl) T.len PySem.boot_len (pa_cons (pv 5) pa_nil))) (pa_cons (pe_lc (own := [("_law_pair", 6)]) (g := gName 6) rfl sc_l_market.nd (pi_list (pv 3)) (blkOk_by (own := [("_law_pair", 6)]) (N := ["_law_state", "_law_buyers", "_law_count", "_law_pairs", "_law_buyer", "_law_lines", "_law_pair", "_law_good", "_law_mask"]) (sc := defScope s_l_market) (by decide +kernel)) (fun _ _ _ _ _ => (pg_name (i := 6) sc_l_market.nd rfl (Or.inl rfl))) (fun _ _ _ _ _ => pts_nil) (fun _ _ _ _ _ => (pc D_l_take (hr.mono (by decide)) (pa_cons (pv 0) (pa_cons pe_int pa_nil))))) pa_nil))))) ?_
    refine ⟨_, rfl, (by show 1 ≤ sizeLine; decide), fun o1 no1 => ?_⟩
    refine upd_gen no1 fun H8 e8 h8 => ?_
    refine ⟨_, rfl, L2, _, rfl, .inl (sqL (e8 _ _ h7)), o1, _, _, rfl, rfl, h8, by rw [List.length_map]; omega, by rw [List.length_map]; omega, Nat.le_of_lt (small1000 (by show 1 * _ ≤ 1000; rw [List.length_map]; omega)), fun C nC => ?_⟩
    refine upd_gen nC fun H9 e9 h9 => ?_
    have hC9 : LI H9 C 8 20 := ⟨List.replicate rw_.length 1, by rw [h9, List.length_map, Int.toNat_natCast]; congr 2; exact rep1 _, by rw [List.length_replicate]; exact hlen, fun x hx => by rw [List.eq_of_mem_replicate hx]; decide⟩
    have e79 := e8.trans e9
    have S9 := S7.same e79
    refine ⟨_, rfl, Pp, rfl, ⟨_, sqL (e79 _ _ hP7)⟩, fun G nG => lc_list (K := c.K) (a := Pp) (xs := ts.map V.ref) (fun i H' => StB H' p a (m + 98 - i) ∧ FrB p a H9 H' ∧ LI H' G i 60) ⟨?_, (FrB.refl _).upd nG, LI.new⟩ (fun j H' _ q => sqL (q.2.1 _ _ nPq.1 nPq.2 (e79 _ _ hP7))) ?_ ?_⟩
    · exact S9.upd (S9.new nG).1 (S9.new nG).2
    · rintro j x H10 hx ⟨S10, f10, l10⟩
      have hj : j < 60 := by have := (List.getElem?_eq_some_iff.mp hx).1; rw [List.length_map] at this; omega
      have nGp := S9.new nG
      refine ⟨rfl, ?_⟩
      refine ⟨_, rfl, p, a, m + 98 - j - 1, 10, rfl, S10.le (by omega), by decide, by decide, fun y H11 y0 y1 S11 f11 => ?_⟩
      obtain ⟨acc, ha, hal, hl11⟩ := (l10.of fun o ho => f11 _ _ nGp.1 nGp.2 ho).push (z := y) (by omega) (by omega)
      exact ⟨acc, ha, small1000 (by omega), (S11.upd nGp.1 nGp.2).le (by omega), (f10.trans f11).upd nG, hl11⟩
    rintro H10 ⟨S10, f10, l10⟩
    have nGp := S9.new nG
    have nC7 : H7 C = none := none_up e8 nC
    have nCp := S7.new nC7
    have nLp := S2.new hnL
    refine ⟨(by show 3 ≤ sizeLine; decide), fun t nt => ?_⟩
    refine upd_gen nt fun H11 e11 h11 => ?_
    obtain ⟨_, hCC⟩ := hC9.get
    refine k t L2 C G rw_ H11 ((S10.same e11).le (by rw [List.length_map]; omega)) h11 ⟨e11 _ _ (f10 _ _ nLp.1 nLp.2 (e79 _ _ h7)), ((hC9.of fun o ho => f10 _ _ nCp.1 nCp.2 ho).of fun o ho => e11 _ _ ho).mono (by omega), (l10.of fun o ho => e11 _ _ ho).mono (by rw [List.length_map]; omega), hlen, fun r hr' => ?_, nLp.1, nLp.2, nCp.1, nCp.2, nGp.1, nGp.2, ne_of_none h7 nC7, ne_of_none (e79 _ _ h7) nG, ne_of_none hCC nG⟩
    obtain ⟨l, nr⟩ := hall r hr'
    have nrp := S2.new nr
    obtain ⟨_, hr7⟩ := l.get
    have nrL : r ≠ L2 := fun z => by
      subst z
      obtain ⟨xs, hx, _, _⟩ := l
      rw [h7] at hx
      cases rw_ with
      | nil => exact nomatch hr'
      | cons q qs =>
        cases xs with
        | nil => cases hx
        | cons x xs => cases hx
    exact ⟨((l.of fun o ho => e79 _ _ ho).of fun o ho => f10 _ _ nrp.1 nrp.2 ho).of fun o ho => e11 _ _ ho, nrp.1, nrp.2, nrL, ne_of_none hr7 nC7, ne_of_none (e79 _ _ hr7) nG⟩
end
end B
namespace B
open PySem L2
/-! k83: the program that goes round -/
section
/-- an order of six -/
def OrA (H : Hp) (O : Addr) : Prop := ∃ os : List Int, H O = some (.lst (os.map V.int)) ∧ os.length ≤ 6 ∧ ∀ x ∈ os, 0 ≤ x ∧ x < 6
/-- six ints -/
def L6 (H : Hp) (r : Addr) (B : Int) : Prop := ∃ xs : List Int, H r = some (.lst (xs.map V.int)) ∧ xs.length = 6 ∧ bdL B xs
theorem L6.same {H H' : Hp} {r : Addr} {B : Int} (h : L6 H r B) (e : Same H H') : L6 H' r B := let ⟨xs, a, b⟩ := h; ⟨xs, e _ _ a, b⟩
theorem L6.at {H : Hp} {r : Addr} {B x : Int} {K : PySem.W.Frag} (h : L6 H r B) (h0 : 0 ≤ x) (h1 : x < 6) : ∃ xs y, SqL K H r xs ∧ atI xs x = some (.int y) ∧ -B ≤ y ∧ y ≤ B := by
  obtain ⟨xs, a, b, c⟩ := h
  obtain ⟨j, rfl⟩ : ∃ j : Nat, x = (j : Nat) := ⟨x.toNat, (Int.toNat_of_nonneg h0).symm⟩
  have hj : j < xs.length := by omega
  exact ⟨_, xs[j], sqL a, atI_nat (by rw [List.getElem?_map, List.getElem?_eq_getElem hj]; rfl), c _ (List.getElem_mem hj)⟩
variable {P : Program} {w_ : World} {mg : Str → Option Value} {base : Heap} {c : Ct}
theorem ok_l_round {f : Addr} {fd : FuncData} (F : Fun c.K "_law_round" "_law_round" s_l_round f fd) (T : Bt mg) (D_l_take : Df P w_ c.K mg base CX0 1 "_law_take" ["_law_state", "_law_limit"] spTake) : FnOk P w_ c.K mg base CX0 2 f fd ["_law_state"] spDrawn := by
  refine F.ok sc_l_round (fun vs H Q E h => ?_) (fun cdv A outer s H vs Q E hr h => ⟨_, wb, ?_⟩)
  · obtain ⟨p, a, m, rfl, _⟩ := h
    rfl
  · obtain ⟨p, a, m, rfl, S0, k⟩ := h
    refine nxt (ps_set (i := 1) sc_l_round.nd rfl (Or.inr rfl) (pe_lst (pa_cons pe_int (pa_cons pe_int (pa_cons pe_int (pa_cons pe_int (pa_cons pe_int (pa_cons pe_int pa_nil)))))))) ?_
    refine ⟨(by show 6 ≤ sizeLine; decide), fun O nO => ?_⟩
    refine upd_gen nO fun H1 e1 h1 => ?_
    have S1 := S0.same e1
    refine nxtC (ps_if (pt_cmpR op_eq (pc D_l_take (hr.mono (by decide)) (pa_cons (pv 0) (pa_cons pe_int pa_nil))) pe_int (nomark _)) (pss_one (ps_set (i := 1) sc_l_round.nd rfl (Or.inr rfl) (pe_lst (pa_cons pe_int (pa_cons pe_int (pa_cons pe_int (pa_cons pe_int (pa_cons pe_int (pa_cons pe_int pa_nil))))))))) pss_nil) (fun σ' H' => ∃ O, σ' = [some (.ref p), some (.ref O), none, none, none, none] ∧ OrA H' O ∧ StB H' p a (m + 99)) ?_ ?_
    · refine ⟨_, rfl, p, a, m + 99, 2, rfl, S1, by decide, by decide, fun x H2 x0 x1 S2 f2 => ?_⟩
      refine ⟨rfl, _, rfl, ?_⟩
      have nO2 := S0.new nO
      refine ite2 (fun _ => ?_) (fun _ => ?_)
      · refine ⟨(by show 6 ≤ sizeLine; decide), fun O' nO' => ?_⟩
        refine upd_gen nO' fun H3 e3 h3 => ?_
        exact ⟨O', rfl, ⟨[5, 4, 3, 2, 1, 0], h3, by decide, by decide⟩, S2.same e3⟩
      · exact ⟨O, rfl, ⟨[0, 1, 2, 3, 4, 5], f2 _ _ nO2.1 nO2.2 h1, by decide, by decide⟩, S2⟩
    rintro σ' H4 ⟨O, rfl, ⟨os, h4, ol, ob⟩, S4⟩
    clear h1 S1 e1 nO
    refine nxt (ps_set (i := 2) sc_l_round.nd rfl (Or.inl rfl) (pe_lst (pa_cons (pe_lst (pa_cons pe_int (pa_cons (pe_un un_neg pe_int) (pa_cons (pe_un un_neg pe_int) (pa_cons pe_int (pa_cons pe_int (pa_cons pe_int pa_nil))))))) (pa_cons (pe_lst (pa_cons pe_int (pa_cons (pe_un un_neg pe_int) (pa_cons (pe_un un_neg pe_int) (pa_cons pe_int (pa_cons pe_int (pa_cons pe_int pa_nil))))))) (pa_cons (pe_lst (pa_cons pe_int (pa_cons pe_int (pa_cons pe_int (pa_cons pe_int (pa_cons pe_int (pa_cons pe_int pa_nil))))))) pa_nil))))) ?_
    refine ⟨_, rfl, _, rfl, (by show 6 ≤ sizeLine; decide), fun r1 m1 => ?_⟩
    refine upd_gen m1 fun H5 e5 h5 => ?_
    refine ⟨_, rfl, _, rfl, (by show 6 ≤ sizeLine; decide), fun r2 m2 => ?_⟩
    refine upd_gen m2 fun H6 e6 h6 => ?_
    refine ⟨(by show 6 ≤ sizeLine; decide), fun r3 m3 => ?_⟩
    refine upd_gen m3 fun H7 e7 h7 => ?_
    refine ⟨(by show 3 ≤ sizeLine; decide), fun L m4 => ?_⟩
    refine upd_gen m4 fun H8 e8 h8 => ?_
    have a1 : L6 H8 r1 20 := ⟨[1, -11, -5, 18, 2, 0], e8 _ _ (e7 _ _ (e6 _ _ h5)), rfl, by unfold bdL; decide⟩
    have a2 : L6 H8 r2 20 := ⟨[1, -3, -1, 2, 0, 2], e8 _ _ (e7 _ _ h6), rfl, by unfold bdL; decide⟩
    have a3 : L6 H8 r3 20 := ⟨[1, 0, 0, 0, 0, 0], e8 _ _ h7, rfl, by unfold bdL; decide⟩
    have hall : ∀ r ∈ [r1, r2, r3], L6 H8 r 20 := fun r hr' => by
      simp only [List.mem_cons, List.not_mem_nil, or_false] at hr'
      rcases hr' with rfl | rfl | rfl
      · exact a1
      · exact a2
      · exact a3
    have h8 : H8 L = some (.lst ([r1, r2, r3].map V.ref)) := h8
    have e48 := e5.trans (e6.trans (e7.trans e8))
    have hl3 : [r1, r2, r3].length = 3 := rfl
    have hne : ∀ r ∈ [r1, r2, r3], r ≠ L := fun r hr' z => by
      subst z
      obtain ⟨xs, hx, _⟩ := hall _ hr'
      rw [h8] at hx
      cases xs <;> cases hx
    generalize [r1, r2, r3] = rs at hall h8 hl3 hne
    have S8 := S4.same e48
    have h48 := e48 _ _ h4
    refine nxt (ps_set (i := 3) sc_l_round.nd rfl (Or.inr rfl) (pe_lst (pa_cons pe_int (pa_cons (pe_un un_neg pe_int) (pa_cons (pe_un un_neg pe_int) (pa_cons (pe_un un_neg pe_int) (pa_cons pe_int (pa_cons pe_int pa_nil)))))))) ?_
    refine ⟨_, rfl, _, rfl, _, rfl, (by show 6 ≤ sizeLine; decide), fun r4 m5 => ?_⟩
    refine upd_gen m5 fun H9 e9 h9 => ?_
    have a4 : L6 H9 r4 60 := ⟨[10, -57, -9, -24, 0, 0], h9, rfl, by unfold bdL; decide⟩
    have S9 := S8.same e9
    have h49 := e9 _ _ h48
    refine last (ps_ret (pe_tup (pa_cons (pe_lc (own := [("_law_line", 4)]) (g := gName 4) rfl sc_l_round.nd (pi_list (pv 2)) (blkOk_by (own := [("_law_line", 4)]) (N := ["_law_state", "_law_order", "_law_lines", "_law_gains", "_law_line", "_law_k"]) (sc := defScope s_l_round) (by decide +kernel)) (fun _ _ _ _ _ => (pg_name (i := 4) sc_l_round.nd rfl (Or.inr rfl))) (fun _ _ _ _ _ => pts_nil) (fun _ _ _ _ _ => (pe_lc (own := [("_law_k", 5)]) (g := gName 5) rfl sc_l_round.nd (pi_listK (K := c.K) rfl (pv 1)) (blkOk_by (own := [("_law_k", 5)]) (by kernel_rfl)) (fun _ _ _ _ _ => (pg_name (i := 5) sc_l_round.nd rfl (Or.inl rfl))) (fun _ _ _ _ _ => pts_nil) (fun _ _ _ _ _ => (pe_ix (r := rIxL c.K) ix_list (pv 4) (pv 5) (fun _ _ => rfl)))))) (pa_cons (pe_lst (pa_cons pe_int (pa_cons pe_int (pa_cons pe_int pa_nil)))) (pa_cons (pe_lc (own := [("_law_k", 5)]) (g := gName 5) rfl sc_l_round.nd (pi_list (pv 1)) (blkOk_by (own := [("_law_k", 5)]) (N := ["_law_state", "_law_order", "_law_lines", "_law_gains", "_law_line", "_law_k"]) (sc := defScope s_l_round) (by decide +kernel)) (fun _ _ _ _ _ => (pg_name (i := 5) sc_l_round.nd rfl (Or.inl rfl))) (fun _ _ _ _ _ => pts_nil) (fun _ _ _ _ _ => (pe_ix (r := rIxL c.K) ix_list (pv 3) (pv 5) (fun _ _ => rfl)))) pa_nil))))) ?_
    refine ⟨_, rfl, L, rfl, ⟨_, sqL (e9 _ _ h8)⟩, fun D nD => lc_list (K := c.K) (a := L) (xs := rs.map V.ref) (fun i H' => Same H9 H' ∧ RwA H9 H' D i) ⟨sm_new nD, [], upd_same, Nat.le_refl _, fun r hr' => nomatch hr'⟩ (fun j H' _ q => sm_l q.1 (sqL (e9 _ _ h8))) ?_ ?_⟩
    · rintro i x H10 hx ⟨e10, R10⟩
      obtain ⟨r, hrm, rfl⟩ := List.mem_map.mp (List.mem_of_getElem? hx)
      have hi : i < 3 := by have := (List.getElem?_eq_some_iff.mp hx).1; rw [List.length_map] at this; omega
      refine ⟨rfl, ?_⟩
      have hO := e10 _ _ h49
      refine ⟨_, rfl, O, rfl, ⟨_, sqL hO⟩, fun D2 nD2 => lc_list (K := c.K) (a := O) (xs := os.map V.int) (fun j H' => Same H10 H' ∧ LI H' D2 j 20) ⟨sm_new nD2, LI.new⟩ (fun j H' _ q => sm_l q.1 (sqL hO)) ?_ ?_⟩
      · rintro j x H11 hx ⟨e11, l11⟩
        obtain ⟨y, hym, rfl⟩ := List.mem_map.mp (List.mem_of_getElem? hx)
        have hj : j < 6 := by have := (List.getElem?_eq_some_iff.mp hx).1; rw [List.length_map] at this; omega
        obtain ⟨y0, y1⟩ := ob y hym
        obtain ⟨xs, z, q1, q2, q3, q4⟩ := (((hall r hrm).same e9).same (e10.trans e11)).at (K := c.K) y0 y1
        refine ⟨rfl, ?_⟩
        obtain ⟨acc, ha, hal, hl8⟩ := l11.push (z := z) q3 q4
        refine ⟨_, rfl, _, rfl, r, xs, y, _, rfl, rfl, q1, q2, acc, ha, small1000 (by omega), fun b o hb => ?_, hl8⟩
        rw [upd_ne (ne_of_none hb nD2)]; exact e11 _ _ hb
      · rintro H11 ⟨e11, l11⟩
        obtain ⟨acc, ha, hal, hR⟩ := R10.push e11 (none_up e10 nD2) nD2 (l11.mono (by rw [List.length_map]; omega))
        refine ⟨acc, ha, small1000 (by omega), fun b o hb => ?_, hR⟩
        rw [upd_ne (ne_of_none hb nD)]; exact e11 _ _ (e10 _ _ hb)
    rintro H10 ⟨e10, rs2, hD10, lrs2, hrs2⟩
    refine ⟨(by show 3 ≤ sizeLine; decide), fun C nC => ?_⟩
    refine upd_gen nC fun H11 e11 h11 => ?_
    have hC : LI H11 C 8 20 := ⟨[0, 0, 1], h11, by decide, by unfold bdL; decide⟩
    refine ⟨_, rfl, O, rfl, ⟨_, sqL (e11 _ _ (e10 _ _ h49))⟩, fun G nG => lc_list (K := c.K) (a := O) (xs := os.map V.int) (fun j H' => Same H11 H' ∧ LI H' G j 60) ⟨sm_new nG, LI.new⟩ (fun j H' _ q => sm_l q.1 (sqL (e11 _ _ (e10 _ _ h49)))) ?_ ?_⟩
    · rintro j x H12 hx ⟨e12, l12⟩
      obtain ⟨y, hym, rfl⟩ := List.mem_map.mp (List.mem_of_getElem? hx)
      have hj : j < 6 := by have := (List.getElem?_eq_some_iff.mp hx).1; rw [List.length_map] at this; omega
      obtain ⟨y0, y1⟩ := ob y hym
      obtain ⟨xs, z, q1, q2, q3, q4⟩ := (a4.same ((e10.trans e11).trans e12)).at (K := c.K) y0 y1
      refine ⟨rfl, ?_⟩
      obtain ⟨acc, ha, hal, hl8⟩ := l12.push (z := z) q3 q4
      refine ⟨_, rfl, _, rfl, r4, xs, y, _, rfl, rfl, q1, q2, acc, ha, small1000 (by omega), fun b o hb => ?_, hl8⟩
      rw [upd_ne (ne_of_none hb nG)]; exact e12 _ _ hb
    rintro H12 ⟨e12, l12⟩
    refine ⟨(by show 3 ≤ sizeLine; decide), fun t nt => ?_⟩
    refine upd_gen nt fun H13 e13 h13 => ?_
    have n9 := S9.new nD
    have n10 := (S9.same e10).new nC
    have n11 := (S9.same (e10.trans e11)).new nG
    have e1013 := e11.trans (e12.trans e13)
    obtain ⟨_, hCC⟩ := hC.get
    refine k t D C G rs2 H13 ((S9.same (e10.trans e1013)).le (by omega)) h13 ⟨e1013 _ _ hD10, (hC.of fun o ho => e13 _ _ (e12 _ _ ho)).mono (by omega), (l12.of fun o ho => e13 _ _ ho).mono (by rw [List.length_map]; omega), by rw [List.length_map] at lrs2; omega, fun r hr' => ?_, n9.1, n9.2, n10.1, n10.2, n11.1, n11.2, ne_of_none hD10 nC, ne_of_none (e11 _ _ hD10) nG, ne_of_none hCC nG⟩
    obtain ⟨l, nr, nrD⟩ := hrs2 r hr'
    have nrp := S9.new nr
    obtain ⟨_, hr10⟩ := l.get
    exact ⟨l.of fun o ho => e1013 _ _ ho, nrp.1, nrp.2, nrD, ne_of_none hr10 nC, ne_of_none (e11 _ _ hr10) nG⟩
end
end B
namespace B
open PySem L2
/-! k83: the law -/
section
open Lp
def tellD (A : Nat → Vc) (w m : Nat) (e : (Nat → Nat) × Option Nat) : PyData := match e.2 with
  | some r => .tuple [.str "endless", .tuple ((lst w fun j => (if j = r then dd A m e.1 else 0) + Lp.wt m e.1 (fun k => - tt A m e.1 k r) j).map PyData.int)]
  | none => .tuple [.str "best", .int (dd A m e.1 / (dvs A w m e.1 : Nat)), .tuple ((lst w fun j => Lp.wt m e.1 (fun k => tt A m e.1 k (w + m)) j / (dvs A w m e.1 : Nat)).map PyData.int), .tuple ((lst m fun i => tt A m e.1 m (w + i) / (dvs A w m e.1 : Nat)).map PyData.int)]
theorem TellB.dp {K : PySem.W.Frag} {H : Hp} {v : V} {A : Nat → Vc} {w m : Nat} {e : (Nat → Nat) × Option Nat} (h : TellB H v A w m e) : Dp K H v (tellD A w m e) := by
  obtain ⟨β, o⟩ := e
  cases o with
  | some r =>
    obtain ⟨t, p, rfl, h2, h3⟩ := h
    rw [rngI_lst] at h3
    exact dpT h2 (.cons (.str _) (.cons (dpT h3 (dp_ints _)) .nil))
  | none =>
    obtain ⟨t, p, q, rfl, h2, h3, h4⟩ := h
    rw [rngI_lst] at h3 h4
    exact dpT h2 (.cons (.str _) (.cons (.int _) (.cons (dpT h3 (dp_ints _)) (.cons (dpT h4 (dp_ints _)) .nil))))
theorem tellD_depth {A : Nat → Vc} {w m : Nat} {e : (Nat → Nat) × Option Nat} : (tellD A w m e).depth ≤ 10 := by
  obtain ⟨β, o⟩ := e
  cases o with
  | some r => simp [tellD, PyData.depth, PyData.depthAll, depth_ints]
  | none => simp [tellD, PyData.depth, PyData.depthAll, depth_ints]
def rowsD (M : List (List Int)) : List PyData := M.map fun q => .list (q.map PyData.int)
theorem depth_rows : ∀ M : List (List Int), PyData.depthAll (rowsD M) ≤ 1
  | [] => Nat.zero_le _
  | q :: M => by
    have := depth_rows M
    unfold rowsD at this ⊢
    simp [PyData.depthAll, PyData.depth, depth_ints, this]
theorem dp_rows {K : PySem.W.Frag} {H : Hp} : ∀ {rs : List Addr} {M : List (List Int)}, M.length = rs.length → (∀ (i : Nat) (r : Addr) (q : List Int), rs[i]? = some r → M[i]? = some q → H r = some (.lst (q.map V.int))) → DpAll K H (rs.map V.ref) (rowsD M)
  | [], [], _, _ => .nil
  | r :: rs, q :: M, hl, h => .cons (dpL (h 0 r q rfl rfl) (dp_ints _)) (dp_rows (by simpa using hl) fun i r' q' h1 h2 => h (i + 1) r' q' h1 h2)
theorem ml_rows {K : PySem.W.Frag} {H : Hp} {L : Addr} {rs : List Addr} {M : List (List Int)} (hL : H L = some (.lst (rs.map V.ref))) (hl : M.length = rs.length) (h : ∀ (i : Nat) (r : Addr) (q : List Int), rs[i]? = some r → M[i]? = some q → H r = some (.lst (q.map V.int))) : ML K H (.ref L) M := by
  refine ⟨L, _, rfl, .inl (sqL hL), by rw [List.length_map, hl], fun i x q hx hq => ?_⟩
  rw [List.getElem?_map] at hx
  cases e : rs[i]? with
  | none => rw [e] at hx; cases hx
  | some r => rw [e] at hx; cases hx; exact ⟨r, rfl, .inl (sqL (h i r q e hq))⟩
/-- a program behind k spoilings, the state of the law's names -/
def InvL (s p a : Addr) (k n : Nat) (v5 v6 v7 : Option V) : L2.St → Hp → Prop := fun σ H => ∃ (L C G : Addr) (rs : List Addr), σ = [some (.ref s), some (.ref p), some (.ref L), some (.ref C), some (.ref G), v5, v6, v7, none, none, none, none] ∧ PB H p a L C G k rs ∧ StB H p a n
theorem cut_int (xs : List Int) (lo hi : Option Int) : ∃ ys : List Int, cutV (xs.map V.int) lo hi = ys.map V.int ∧ ys.length ≤ xs.length ∧ ∀ y ∈ ys, y ∈ xs := by
  unfold cutV
  rw [← List.map_drop, ← List.map_take]
  refine ⟨_, rfl, ?_, fun y hy => List.mem_of_mem_drop (List.mem_of_mem_take hy)⟩
  rw [List.length_take, List.length_drop]
  omega
def rLstOf (K : PySem.W.Frag) : List V → Hp → VK → Prop := fun xs H Q => ∃ p ys, xs = [.ref p] ∧ (SqL K H p ys ∨ SqT K H p ys) ∧ ∀ l, H l = none → Q (.ref l) (upd H l (.lst ys))
def rTupOf (K : PySem.W.Frag) : List V → Hp → VK → Prop := fun xs H Q => ∃ p ys, xs = [.ref p] ∧ ((SqL K H p ys ∧ ∀ l, H l = none → Q (.ref l) (upd H l (.tup ys))) ∨ (SqT K H p ys ∧ Q (.ref p) H))
theorem rs_at {rs : List Addr} {x : Int} (h0 : 0 ≤ x) (h1 : x < rs.length) : ∃ (j : Nat) (r : Addr), x = j ∧ j < rs.length ∧ r ∈ rs ∧ atI (rs.map V.ref) (j : Int) = some (.ref r) := by
  obtain ⟨j, rfl⟩ : ∃ j : Nat, x = (j : Nat) := ⟨x.toNat, (Int.toNat_of_nonneg h0).symm⟩
  have hj : j < rs.length := by omega
  exact ⟨j, rs[j], rfl, hj, List.getElem_mem hj, atI_nat (by rw [List.getElem?_map, List.getElem?_eq_getElem hj]; rfl)⟩
variable {P : Program} {w_ : World} {mg : Str → Option Value} {base : Heap} {c : Ct}
theorem ok_law {f : Addr} {fd : FuncData} (F : Fun c.K "law" "law" s_law f fd) (T : Bt mg) (D_l_start : Df P w_ c.K mg base CX0 1 "_law_start" ["_law_script"] (spStart' c.K)) (D_l_take : Df P w_ c.K mg base CX0 1 "_law_take" ["_law_state", "_law_limit"] spTake) (D_l_drawn : Df P w_ c.K mg base CX0 2 "_law_drawn" ["_law_state"] spDrawn) (D_l_round : Df P w_ c.K mg base CX0 2 "_law_round" ["_law_state"] spDrawn) (D_l_market : Df P w_ c.K mg base CX0 2 "_law_market" ["_law_state"] spDrawn) (D_l_due : Df P w_ c.K mg base CX0 1 "_law_due" ["_law_lines", "_law_caps", "_law_gains"] (spDue c)) (D_l_told : Df P w_ c.K mg base CX0 8 "_law_told" ["_law_lines", "_law_caps", "_law_gains"] (spToldL c)) (D_l_right : Df P w_ c.K mg base CX0 2 "_law_right" ["_law_lines", "_law_caps", "_law_gains", "_law_told_here"] (spRight c)) (D_best_mix : Df P w_ c.K mg base (L2.CX P w_) 6 "best_mix" ["rows", "bounds", "worths"] (spBest c)) : FnOk P w_ c.K mg base CX0 9 f fd ["_law_script"] (spLaw c.K) := by
  refine F.ok sc_law (fun vs H Q E h => ?_) (fun cdv A outer s H vs Q E hr h => ⟨_, wb, ?_⟩)
  · obtain ⟨s, ns, rfl, _⟩ := h
    rfl
  · obtain ⟨s, ns, rfl, hS, hlen, k⟩ := h
    refine nxt (ps_set (i := 1) sc_law.nd rfl (Or.inl rfl) (pc D_l_start (hr.mono (by decide)) (pa_cons (pv 0) pa_nil))) ?_
    refine ⟨_, rfl, s, ns, rfl, hS, hlen, fun p a H1 e1 S1 _ _ => ?_⟩
    have S1 : StB H1 p a (2000 + 100) := S1.le (by decide)
    refine nxt (ps_asg (pc D_l_drawn (hr.mono (by decide)) (pa_cons (pv 1) pa_nil)) (pg_tup (by rfl) (pgs_cons (pg_name (i := 2) sc_law.nd rfl (Or.inl rfl)) (pgs_cons (pg_name (i := 3) sc_law.nd rfl (Or.inl rfl)) (pgs_cons (pg_name (i := 4) sc_law.nd rfl (Or.inl rfl)) pgs_nil))))) ?_
    refine ⟨_, rfl, p, a, 2000, rfl, S1, fun t L C G rs H2 S2 h2 P2 => ?_⟩
    refine ⟨t, _, rfl, sqT h2, rfl, _, _, rfl, _, _, rfl, _, _, rfl, rfl, ?_⟩
    refine nxtC (ps_if (pt_cmpR op_eq (pc D_l_take (hr.mono (by decide)) (pa_cons (pv 1) (pa_cons pe_int pa_nil))) pe_int (nomark _)) (pss_one (ps_asg (pc D_l_round (hr.mono (by decide)) (pa_cons (pv 1) pa_nil)) (pg_tup (by rfl) (pgs_cons (pg_name (i := 2) sc_law.nd rfl (Or.inl rfl)) (pgs_cons (pg_name (i := 3) sc_law.nd rfl (Or.inl rfl)) (pgs_cons (pg_name (i := 4) sc_law.nd rfl (Or.inl rfl)) pgs_nil)))))) pss_nil) (InvL s p a 0 1899 none none none) ?_ ?_
    · refine ⟨_, rfl, p, a, 1999, 9, rfl, S2, by decide, by decide, fun x H3 x0 x1 S3 f3 => ⟨rfl, _, rfl, ite2 (fun _ => ?_) (fun _ => ?_)⟩⟩
      · exact ⟨_, rfl, p, a, 1899, rfl, S3, fun t L C G rs H4 S4 h4 P4 => ⟨t, _, rfl, sqT h4, rfl, _, _, rfl, _, _, rfl, _, _, rfl, rfl, L, C, G, rs, rfl, P4, S4⟩⟩
      · exact ⟨L, C, G, rs, rfl, P2.fr f3, S3.le (by decide)⟩
    clear P2 S2 h2 S1 e1
    rintro σ3 H3 ⟨L, C, G, rs, rfl, P3, S3⟩
    refine nxtC (ps_if (pt_cmpR op_eq (pc D_l_take (hr.mono (by decide)) (pa_cons (pv 1) (pa_cons pe_int pa_nil))) pe_int (nomark _)) (pss_one (ps_asg (pc D_l_market (hr.mono (by decide)) (pa_cons (pv 1) pa_nil)) (pg_tup (by rfl) (pgs_cons (pg_name (i := 2) sc_law.nd rfl (Or.inl rfl)) (pgs_cons (pg_name (i := 3) sc_law.nd rfl (Or.inl rfl)) (pgs_cons (pg_name (i := 4) sc_law.nd rfl (Or.inl rfl)) pgs_nil)))))) pss_nil) (InvL s p a 0 1798 none none none) ?_ ?_
    · refine ⟨_, rfl, p, a, 1898, 3, rfl, S3, by decide, by decide, fun x H4 x0 x1 S4 f4 => ⟨rfl, _, rfl, ite2 (fun _ => ?_) (fun _ => ?_)⟩⟩
      · exact ⟨_, rfl, p, a, 1798, rfl, S4, fun t L C G rs H4 S4 h4 P4 => ⟨t, _, rfl, sqT h4, rfl, _, _, rfl, _, _, rfl, _, _, rfl, rfl, L, C, G, rs, rfl, P4, S4⟩⟩
      · exact ⟨L, C, G, rs, rfl, P3.fr f4, S4.le (by decide)⟩
    clear P3 S3
    rintro σ4 H4 ⟨L, C, G, rs, rfl, P4, S4⟩
    refine nxtN (ps_for PassesOwn.never rfl (pi_range1 (by rfl) T.range (pa_cons (pe_ix ix_list (pe_lst (pa_cons pe_int (pa_cons pe_int (pa_cons pe_int (pa_cons pe_int (pa_cons pe_int (pa_cons pe_int pa_nil))))))) (pc D_l_take (hr.mono (by decide)) (pa_cons (pv 1) (pa_cons pe_int pa_nil))) (fun _ _ => rfl)) pa_nil)) (pg_name (i := 5) sc_law.nd rfl (Or.inl rfl)) wb) fun N hN => ?_
    refine ⟨(by show 6 ≤ sizeLine; decide), fun q nq => ?_⟩
    refine upd_gen nq fun H5 e5 h5 => ?_
    have nqq := S4.new nq
    refine ⟨_, rfl, p, a, 1797, 6, rfl, S4.same e5, by decide, by decide, fun r6 H6 r60 r61 S6 f6 => ?_⟩
    obtain ⟨v, hv, hvm⟩ := at_lst (xs := [V.int 0, .int 0, .int 0, .int 1, .int 2, .int 3]) r60 r61
    obtain ⟨tn, rfl, tn0, tn1⟩ : ∃ tn : Int, v = .int tn ∧ 0 ≤ tn ∧ tn ≤ 3 := by
      simp only [List.mem_cons, List.not_mem_nil, or_false] at hvm
      rcases hvm with rfl | rfl | rfl | rfl | rfl | rfl <;> exact ⟨_, rfl, by decide, by decide⟩
    have P6 := (P4.same e5).fr f6
    refine ⟨q, _, r6, .int tn, rfl, rfl, sqL (f6 _ _ nqq.1 nqq.2 h5), hv, ?_⟩
    clear P4 S4
    refine ⟨_, rfl, by omega, by omega, for_range (lo := 0) (n := tn.toNat) (fun i σ' H' => ∃ v5 v6 v7, InvL s p a (5 * i) (1797 - 20 * i) v5 v6 v7 σ' H') ⟨_, _, _, L, C, G, rs, rfl, P6, S6⟩ ?_ ?_⟩
    · rintro i σ7 H7 hi ⟨v5, v6, v7, L, C, G, rs, rfl, P7, S7⟩
      have hi : i < 3 := by omega
      obtain ⟨n, hn⟩ : ∃ n, 1797 - 20 * i = n + 20 := ⟨1777 - 20 * i, by omega⟩
      rw [hn] at S7
      refine nxt (ps_set (i := 6) sc_law.nd rfl (Or.inl rfl) (pc D_l_take (hr.mono (by decide)) (pa_cons (pv 1) (pa_cons pe_int pa_nil)))) ?_
      refine ⟨_, rfl, p, a, n + 19, 5, rfl, S7, by decide, by decide, fun pl H8 _ _ S8 f8 => ?_⟩
      have P8 := P7.fr f8
      clear P7 S7 f8
      refine nxtC (ps_if (PW.pt (pw_and (pt_cmpR op_eq (pv 6) pe_int (nomark _)) (pw_and1 (pt_truth (pv 2) (by intro _; rfl))))) (pss_one (ps_expr (pe_bm PySem.F.plainAttrs_list PySem.F.slot_list_append PySem.F.type_list_append mt_append (pe_ix ix_list (pv 2) (pc D_l_take (hr.mono (by decide)) (pa_cons (pv 1) (pa_cons (pe_callB call_len_seq (by rfl) T.len PySem.boot_len (pa_cons (pv 2) pa_nil)) pa_nil))) (fun _ _ => rfl)) (pa_cons pe_int pa_nil)))) pss_nil) (fun σ' H' => ∃ v5 v7, InvL s p a (5 * i + 1) (n + 18) v5 (some (.int pl)) v7 σ' H') ?_ ?_
      · refine ⟨_, rfl, rfl, _, rfl, ?_⟩
        refine ite2 (fun _ => ?_) (fun _ => ?_)
        · refine ⟨_, rfl, _, .inl ⟨_, sqL P8.hL, rfl⟩, ?_⟩
          refine ite2 (fun he => ?_) (fun _ => ?_)
          · have hlen : 0 < rs.length := by
              cases rs with
              | nil => cases he
              | cons _ _ => simp
            refine ⟨_, rfl, _, rfl, _, rfl, L, _, rfl, .inl (sqL P8.hL), p, a, n + 18, _, rfl, S8, by rw [List.length_map]; omega, by rw [List.length_map]; have := P8.nL; omega, fun x H9 x0 x1 S9 f9 => ?_⟩
            rw [List.length_map] at x1
            have P9 := P8.fr f9
            obtain ⟨j, r, rfl, hj, hr9, hat⟩ := rs_at x0 x1
            obtain ⟨acc, hacc, hal, _⟩ := (P9.rw r hr9).1.push (z := 1) (by decide) (by decide)
            refine ⟨L, _, _, .ref r, rfl, rfl, sqL P9.hL, hat, .inl ⟨rfl, _, sqL hacc⟩, r, acc, _, rfl, rfl, hacc, small1000 (by omega), ?_⟩
            exact ⟨_, _, L, C, G, rs, rfl, P9.push hr9 hacc, S9.upd (P9.rw r hr9).2.1 (P9.rw r hr9).2.2.1⟩
          · exact ⟨_, _, L, C, G, rs, rfl, P8.mono (by omega), S8.le (by omega)⟩
        · refine iteF ?_
          exact ⟨_, _, L, C, G, rs, rfl, P8.mono (by omega), S8.le (by omega)⟩
      clear P8 S8
      rintro σ8 H8 ⟨v5, v7, L, C, G, rs, rfl, P8, S8⟩
      refine nxtC (ps_if (PW.pt (pw_and (pt_cmpR op_eq (pv 6) pe_int (nomark _)) (pw_and1 (pt_truth (pv 2) (by intro _; rfl))))) wb pss_nil) (fun σ' H' => ∃ v5 v7, InvL s p a (5 * i + 2) (n + 16) v5 (some (.int pl)) v7 σ' H') ?_ ?_
      · refine ⟨_, rfl, rfl, _, rfl, ?_⟩
        refine ite2 (fun _ => ?_) (fun _ => ?_)
        · refine ⟨_, rfl, _, .inl ⟨_, sqL P8.hL, rfl⟩, ?_⟩
          refine ite2 (fun he => ?_) (fun _ => ?_)
          · have hlen : 0 < rs.length := by
              cases rs with
              | nil => cases he
              | cons _ _ => simp
            refine nxt (ps_set (i := 7) sc_law.nd rfl (Or.inl rfl) (pc D_l_take (hr.mono (by decide)) (pa_cons (pv 1) (pa_cons (pe_callB call_len_seq (by rfl) T.len PySem.boot_len (pa_cons (pv 2) pa_nil)) pa_nil)))) ?_
            refine ⟨_, rfl, _, rfl, L, _, rfl, .inl (sqL P8.hL), p, a, n + 17, _, rfl, S8, by rw [List.length_map]; omega, by rw [List.length_map]; have := P8.nL; omega, fun x H9 x0 x1 S9 f9 => ?_⟩
            rw [List.length_map] at x1
            have P9 := P8.fr f9
            obtain ⟨j, r, rfl, hj, hr9, hat⟩ := rs_at x0 x1
            obtain ⟨xs, hxs, hxl, hxb⟩ := (P9.rw r hr9).1
            refine last (ps_asg (pe_ix ix_list (pe_lst (pa_cons (pe_slice sl_list (pe_ix ix_list (pv 2) (pv 7) (fun _ _ => rfl)) po_none (po_some (pe_un un_neg pe_int))) (pa_cons (pe_op op_cat (pe_ix ix_list (pv 2) (pv 7) (fun _ _ => rfl)) (pe_lst (pa_cons pe_int (pa_cons pe_int pa_nil)))) pa_nil))) (pc D_l_take (hr.mono (by decide)) (pa_cons (pv 1) (pa_cons pe_int pa_nil))) (fun _ _ => rfl)) (pg_sub (pv 2) (pv 7) set_list)) ?_
            refine ⟨_, rfl, _, rfl, L, _, _, .ref r, rfl, rfl, sqL P9.hL, hat, ?_⟩
            refine ⟨_, rfl, _, rfl, r, _, rfl, sqL hxs, fun q1 nq1 => ?_⟩
            refine upd_gen nq1 fun H10 e10 h10 => ?_
            obtain ⟨ys, hys, hyl, hyb⟩ := cut_int xs none (some (-1))
            rw [hys] at h10
            have P10 := P9.same e10
            have hxs10 := e10 _ _ hxs
            refine ⟨_, rfl, _, rfl, L, _, _, .ref r, rfl, rfl, sqL P10.hL, hat, (by show 2 ≤ sizeLine; decide), fun q2 nq2 => ?_⟩
            refine upd_gen nq2 fun H11 e11 h11 => ?_
            refine ⟨r, q2, _, _, rfl, rfl, e11 _ _ hxs10, h11, Nat.le_of_lt (small1000 (by show (xs.map V.int).length + 2 ≤ 1000; rw [List.length_map]; omega)), fun q3 nq3 => ?_⟩
            refine upd_gen nq3 fun H12 e12 h12 => ?_
            refine ⟨(by show 2 ≤ sizeLine; decide), fun q4 nq4 => ?_⟩
            refine upd_gen nq4 fun H13 e13 h13 => ?_
            have e1013 := e11.trans (e12.trans e13)
            have n1 := P9.fresh S9 nq1
            have n3 := ((P10.same e11)).fresh ((S9.same e10).same e11) nq3
            have n4 := S9.new (none_up (e10.trans (e11.trans e12)) nq4)
            have S13 := (S9.same e10).same e1013
            have P13 := P10.same e1013
            have l1 : LI H13 q1 (60 + 2 * (5 * i + 1) + 2) 20 := ⟨ys, e1013 _ _ h10, by omega, fun y hy => hxb y (hyb y hy)⟩
            have l3 : LI H13 q3 (60 + 2 * (5 * i + 1) + 2) 20 := ⟨xs ++ [1, 2], by rw [List.map_append]; exact e13 _ _ h12, by simp; omega, fun y hy => by
              rcases List.mem_append.mp hy with hy | hy
              · exact hxb y hy
              · simp only [List.mem_cons, List.not_mem_nil, or_false] at hy
                rcases hy with rfl | rfl <;> decide⟩
            refine ⟨_, rfl, p, a, n + 16, 2, rfl, S13, by decide, by decide, fun y H14 y0 y1 S14 f14 => ?_⟩
            have P14 := P13.fr f14
            have l1 := l1.of fun o ho => f14 _ _ n1.1 n1.2.1 ho
            have l3 := l3.of fun o ho => f14 _ _ n3.1 n3.2.1 ho
            obtain ⟨v, hv, hvm⟩ := at_lst (xs := [V.ref q1, .ref q3]) y0 y1
            refine ⟨q4, _, y, v, rfl, rfl, sqL (f14 _ _ n4.1 n4.2 h13), hv, ?_⟩
            have nLp := P14.ne
            simp only [List.mem_cons, List.not_mem_nil, or_false] at hvm
            rcases hvm with rfl | rfl
            · refine ⟨_, rfl, _, rfl, L, _, _, j, rfl, rfl, P14.hL, Evl.ixN_nat (by rw [List.length_map]; exact hj), ?_⟩
              exact ⟨_, _, L, C, G, _, rfl, P14.setL j l1 n1.1 n1.2.1 n1.2.2.1 n1.2.2.2.1 n1.2.2.2.2, S14.upd nLp.1 nLp.2.1⟩
            · refine ⟨_, rfl, _, rfl, L, _, _, j, rfl, rfl, P14.hL, Evl.ixN_nat (by rw [List.length_map]; exact hj), ?_⟩
              exact ⟨_, _, L, C, G, _, rfl, P14.setL j l3 n3.1 n3.2.1 n3.2.2.1 n3.2.2.2.1 n3.2.2.2.2, S14.upd nLp.1 nLp.2.1⟩
          · exact ⟨_, _, L, C, G, rs, rfl, P8.mono (by omega), S8.le (by omega)⟩
        · refine iteF ?_
          exact ⟨_, _, L, C, G, rs, rfl, P8.mono (by omega), S8.le (by omega)⟩
      clear P8 S8
      rintro σ9 H8 ⟨v5, v7, L, C, G, rs, rfl, P8, S8⟩
      refine nxtC (ps_if (PW.pt (pw_and (pt_cmpR op_eq (pv 6) pe_int (nomark _)) (pw_and1 (pt_truth (pv 3) (by intro _; rfl))))) (pss_one (ps_asg (pe_op op_sub (pe_un un_neg pe_int) (pc D_l_take (hr.mono (by decide)) (pa_cons (pv 1) (pa_cons pe_int pa_nil)))) (pg_sub (pv 3) (pc D_l_take (hr.mono (by decide)) (pa_cons (pv 1) (pa_cons (pe_callB call_len_seq (by rfl) T.len PySem.boot_len (pa_cons (pv 3) pa_nil)) pa_nil))) set_list))) pss_nil) (fun σ' H' => ∃ v5 v7, InvL s p a (5 * i + 3) (n + 14) v5 (some (.int pl)) v7 σ' H') ?_ ?_
      · refine ⟨_, rfl, rfl, _, rfl, ?_⟩
        refine ite2 (fun _ => ?_) (fun _ => ?_)
        · obtain ⟨xs, hxs, hxl, hxb⟩ := P8.hC
          refine ⟨_, rfl, _, .inl ⟨_, sqL hxs, rfl⟩, ?_⟩
          refine ite2 (fun he => ?_) (fun _ => ?_)
          · have hlen : 0 < xs.length := by
              cases xs with
              | nil => cases he
              | cons _ _ => simp
            refine ⟨_, rfl, _, rfl, p, a, n + 15, 3, rfl, S8, by decide, by decide, fun x H9 x0 x1 S9 f9 => ⟨_, _, rfl, rfl, ?_⟩⟩
            have P9 := P8.fr f9
            have nLp := P8.ne
            have hxs9 := f9 _ _ nLp.2.2.1 nLp.2.2.2.1 hxs
            refine ⟨_, rfl, _, rfl, _, rfl, C, _, rfl, .inl (sqL hxs9), p, a, n + 14, _, rfl, S9, by rw [List.length_map]; omega, by rw [List.length_map]; omega, fun y H10 y0 y1 S10 f10 => ?_⟩
            rw [List.length_map] at y1
            obtain ⟨j, rfl⟩ : ∃ j : Nat, y = (j : Nat) := ⟨y.toNat, (Int.toNat_of_nonneg y0).symm⟩
            have P10 := P9.fr f10
            have hxs10 := f10 _ _ nLp.2.2.1 nLp.2.2.2.1 hxs9
            refine ⟨C, _, _, j, rfl, rfl, hxs10, Evl.ixN_nat (by rw [List.length_map]; omega), ?_⟩
            exact ⟨_, _, L, C, G, _, rfl, P10.setC j hxs10 (by omega) (by omega), S10.upd nLp.2.2.1 nLp.2.2.2.1⟩
          · exact ⟨_, _, L, C, G, rs, rfl, P8.mono (by omega), S8.le (by omega)⟩
        · refine iteF ?_
          exact ⟨_, _, L, C, G, rs, rfl, P8.mono (by omega), S8.le (by omega)⟩
      clear P8 S8
      rintro σ10 H8 ⟨v5, v7, L, C, G, rs, rfl, P8, S8⟩
      refine nxtC (ps_if (pt_cmpR op_eq (pv 6) pe_int (nomark _)) (pss_one (ps_set (i := 3) sc_law.nd rfl (Or.inl rfl) (pe_ix ix_list (pe_lst (pa_cons (pe_op op_cat (pv 3) (pe_lst (pa_cons pe_int pa_nil))) (pa_cons (pe_slice sl_list (pv 3) (po_some pe_int) po_none) pa_nil))) (pc D_l_take (hr.mono (by decide)) (pa_cons (pv 1) (pa_cons pe_int pa_nil))) (fun _ _ => rfl)))) pss_nil) (fun σ' H' => ∃ v5 v7, InvL s p a (5 * i + 4) (n + 12) v5 (some (.int pl)) v7 σ' H') ?_ ?_
      · refine ⟨_, rfl, rfl, _, rfl, ?_⟩
        refine ite2 (fun _ => ?_) (fun _ => ?_)
        · obtain ⟨xs, hxs, hxl, hxb⟩ := id P8.hC
          refine ⟨_, rfl, (by show 1 ≤ sizeLine; decide), fun q1 nq1 => ?_⟩
          refine upd_gen nq1 fun H9 e9 h9 => ?_
          refine ⟨C, q1, _, _, rfl, rfl, e9 _ _ hxs, h9, Nat.le_of_lt (small1000 (by show (xs.map V.int).length + 1 ≤ 1000; rw [List.length_map]; omega)), fun q2 nq2 => ?_⟩
          refine upd_gen nq2 fun H10 e10 h10 => ?_
          refine ⟨_, rfl, _, rfl, C, _, rfl, sqL (e10 _ _ (e9 _ _ hxs)), fun q3 nq3 => ?_⟩
          refine upd_gen nq3 fun H11 e11 h11 => ?_
          obtain ⟨ys, hys, hyl, hyb⟩ := cut_int xs (some 1) none
          rw [hys] at h11
          refine ⟨(by show 2 ≤ sizeLine; decide), fun q4 nq4 => ?_⟩
          refine upd_gen nq4 fun H12 e12 h12 => ?_
          have e812 := e9.trans (e10.trans (e11.trans e12))
          have P12 := P8.same e812
          have S12 := S8.same e812
          have m2 := none_up e9 nq2
          have m3 := none_up (e9.trans e10) nq3
          have l2 : LI H12 q2 (8 + (5 * i + 3 + 1)) 20 := ⟨xs ++ [3], by rw [List.map_append]; exact e12 _ _ (e11 _ _ h10), by simp; omega, hxb.snoc (by decide) (by decide)⟩
          have l3 : LI H12 q3 (8 + (5 * i + 3 + 1)) 20 := ⟨ys, e12 _ _ h11, by omega, fun y hy => hxb y (hyb y hy)⟩
          have n4 := S8.new (none_up (e9.trans (e10.trans e11)) nq4)
          have n2 := S8.new m2
          have n3 := S8.new m3
          refine ⟨_, rfl, p, a, n + 12, 2, rfl, S12.le (by omega), by decide, by decide, fun y H13 y0 y1 S13 f13 => ?_⟩
          have P13 := P12.fr f13
          obtain ⟨v, hv, hvm⟩ := at_lst (xs := [V.ref q2, .ref q3]) y0 y1
          refine ⟨q4, _, y, v, rfl, rfl, sqL (f13 _ _ n4.1 n4.2 h12), hv, ?_⟩
          have frs : ∀ D, H8 D = none → D ≠ p → D ≠ a → ∀ q o, (q = p ∨ q = a ∨ q = L ∨ q = G ∨ q ∈ rs) → H13 q = some o → D ≠ q := fun D nD d1 d2 q o hq _ => by
            have nn := P8.fresh S8 nD
            rcases hq with rfl | rfl | rfl | rfl | hq
            · exact d1
            · exact d2
            · exact nn.2.2.1
            · exact nn.2.2.2.2
            · obtain ⟨_, hy⟩ := (P8.rw q hq).1.get
              exact (ne_of_none hy nD).symm
          simp only [List.mem_cons, List.not_mem_nil, or_false] at hvm
          rcases hvm with rfl | rfl
          · exact ⟨_, _, L, q2, G, rs, rfl, P13.newC (l2.of fun o ho => f13 _ _ n2.1 n2.2 ho) (frs q2 m2 n2.1 n2.2) S13.get.1 S13.get.2, S13⟩
          · exact ⟨_, _, L, q3, G, rs, rfl, P13.newC (l3.of fun o ho => f13 _ _ n3.1 n3.2 ho) (frs q3 m3 n3.1 n3.2) S13.get.1 S13.get.2, S13⟩
        · exact ⟨_, _, L, C, G, rs, rfl, P8.mono (by omega), S8.le (by omega)⟩
      clear P8 S8
      rintro σ11 H8 ⟨v5, v7, L, C, G, rs, rfl, P8, S8⟩
      refine last (ps_if (pt_cmpR op_eq (pv 6) pe_int (nomark _)) (pss_one (ps_expr (pe_bm PySem.F.plainAttrs_list PySem.F.slot_list_append PySem.F.type_list_append mt_append (pv 4) (pa_cons pe_int pa_nil)))) pss_nil) ?_
      refine ⟨_, rfl, rfl, _, rfl, ?_⟩
      refine ite2 (fun _ => ?_) (fun _ => ?_)
      · obtain ⟨xs, hxs, hxl, hxb⟩ := id P8.hG
        have nLp := P8.ne
        refine ⟨_, rfl, .inl ⟨rfl, _, sqL hxs⟩, G, _, _, rfl, rfl, hxs, small1000 (by rw [List.length_map]; omega), ?_⟩
        exact ⟨_, _, _, L, C, G, rs, rfl, (P8.pushG hxs).mono (by omega), (S8.upd nLp.2.2.2.2.1 nLp.2.2.2.2.2.1).le (by omega)⟩
      · exact ⟨_, _, _, L, C, G, rs, rfl, P8.mono (by omega), S8.le (by omega)⟩
    clear P6 S6
    rintro σ7 H7 ⟨v5, v6, v7, L, C, G, rs, rfl, P7, S7⟩
    refine hN _ _ ?_
    have P7 : PB H7 p a L C G 15 rs := P7.mono (by omega)
    clear S7 hN f6 e5 h5 nqq
    obtain ⟨caps, hC, hCl, hCb⟩ := P7.hC
    obtain ⟨gains, hG, hGl, hGb⟩ := P7.hG
    obtain ⟨M, hMl, hMr, hMb⟩ := rows_of fun r hr' => (P7.rw r hr').1
    have hL := P7.hL
    have hn8 := P7.nL
    clear P7
    refine nxt (ps_set (i := 8) sc_law.nd rfl (Or.inl rfl) (pe_tup (pa_cons (pe_lc (own := [("_law_row", 11)]) (g := gName 11) rfl sc_law.nd (pi_list (pv 2)) (blkOk_by (own := [("_law_row", 11)]) (N := ["_law_script", "_law_state", "_law_lines", "_law_caps", "_law_gains", "_law_turn", "_law_plan", "_law_k", "_law_handed", "_law_due_here", "_law_told_here", "_law_row"]) (sc := defScope s_law) (by decide +kernel)) (fun _ _ _ _ _ => (pg_name (i := 11) sc_law.nd rfl (Or.inl rfl))) (fun _ _ _ _ _ => pts_nil) (fun _ _ _ _ _ => (pe_callTy (r := rLstOf c.K) call_list_of (by rfl) T.list (by decide +kernel) (pa_cons (pv 11) pa_nil)))) (pa_cons (pe_callTy call_list_of (by rfl) T.list (by decide +kernel) (pa_cons (pv 3) pa_nil)) (pa_cons (pe_callTy call_list_of (by rfl) T.list (by decide +kernel) (pa_cons (pv 4) pa_nil)) pa_nil))))) ?_
    refine ⟨_, rfl, L, rfl, ⟨_, sqL hL⟩, fun D nD => lc_list (K := c.K) (a := L) (xs := rs.map V.ref) (fun i H' => Same H7 H' ∧ ∃ ds : List Addr, H' D = some (.lst (ds.map V.ref)) ∧ ds.length = i ∧ (∀ d ∈ ds, d ≠ D) ∧ ∀ (j : Nat) (d : Addr) (q : List Int), ds[j]? = some d → M[j]? = some q → H' d = some (.lst (q.map V.int))) ⟨sm_new nD, [], upd_same, rfl, (fun d hd => nomatch hd), fun j d q h => by simp at h⟩ (fun j H' _ q => sm_l q.1 (sqL hL)) ?_ ?_⟩
    · rintro i x H8 hx ⟨e8, ds, hD, hdl, hdn, hdr⟩
      rw [List.getElem?_map] at hx
      cases er : rs[i]? with
      | none => rw [er] at hx; cases hx
      | some r =>
      rw [er] at hx
      cases hx
      have hi : i < rs.length := (List.getElem?_eq_some_iff.mp er).1
      obtain ⟨q, hq⟩ : ∃ q, M[i]? = some q := ⟨M[i]'(by omega), List.getElem?_eq_getElem (by omega)⟩
      have hr8 := e8 _ _ (hMr i r q er hq)
      refine ⟨rfl, ?_⟩
      refine ⟨_, rfl, r, _, rfl, .inl (sqL hr8), fun d nd => ?_⟩
      refine upd_gen nd fun H9 e9 h9 => ?_
      have hD9 := e9 _ _ hD
      have ndD : d ≠ D := (ne_of_none hD nd).symm
      refine ⟨_, hD9, small1000 (by rw [List.length_map]; omega), fun b o hb => ?_, ds ++ [d], by rw [upd_same, List.map_append]; rfl, by simp; omega, fun d' hd' => ?_, fun j d' q' h1 h2 => ?_⟩
      · rw [upd_ne (ne_of_none hb nD)]; exact e9 _ _ (e8 _ _ hb)
      · rcases List.mem_append.mp hd' with hd' | hd'
        · exact hdn d' hd'
        · rw [List.mem_singleton.mp hd']; exact ndD
      · rcases Nat.lt_or_ge j ds.length with hj | hj
        · rw [List.getElem?_append_left hj] at h1
          have := hdr j d' q' h1 h2
          rw [upd_ne (hdn d' (List.mem_of_getElem? h1))]
          exact e9 _ _ this
        · rw [List.getElem?_append_right hj] at h1
          have hj0 : j - ds.length = 0 := by
            have := (List.getElem?_eq_some_iff.mp h1).1
            simp at this
            omega
          rw [hj0] at h1
          cases h1
          have : j = i := by omega
          subst this
          rw [hq] at h2
          cases h2
          rw [upd_ne ndD]
          exact h9
    rintro H8 ⟨e8, ds, hD, hdl, hdn, hdr⟩
    rw [List.length_map] at hdl
    refine ⟨_, rfl, C, _, rfl, .inl (sqL (e8 _ _ hC)), fun c1 nc1 => ?_⟩
    refine upd_gen nc1 fun H9 e9 h9 => ?_
    refine ⟨_, rfl, G, _, rfl, .inl (sqL (e9 _ _ (e8 _ _ hG))), fun g1 ng1 => ?_⟩
    refine upd_gen ng1 fun H10 e10 h10 => ?_
    refine ⟨(by show 3 ≤ sizeLine; decide), fun hd nhd => ?_⟩
    refine upd_gen nhd fun H11 e11 h11 => ?_
    have e711 := e8.trans (e9.trans (e10.trans e11))
    have e811 := e9.trans (e10.trans e11)
    have hdM : M.length = ds.length := by omega
    have mlH : ML c.K H11 (.ref D) M := ml_rows (e811 _ _ hD) hdM fun i r q h1 h2 => e811 _ _ (hdr i r q h1 h2)
    have mlL : ML c.K H11 (.ref L) M := ml_rows (e711 _ _ hL) hMl fun i r q h1 h2 => e711 _ _ (hMr i r q h1 h2)
    have ilc : IL c.K H11 (.ref c1) caps := ⟨c1, rfl, .inl (sqL (e11 _ _ (e10 _ _ h9)))⟩
    have ilg : IL c.K H11 (.ref g1) gains := ⟨g1, rfl, .inl (sqL (e11 _ _ h10))⟩
    have ilC : IL c.K H11 (.ref C) caps := ⟨C, rfl, .inl (sqL (e711 _ _ hC))⟩
    have ilG : IL c.K H11 (.ref G) gains := ⟨G, rfl, .inl (sqL (e711 _ _ hG))⟩
    have hz : gains.length + M.length < 800 := by omega
    have hsm := sm_of (rows := M) (caps := caps) (gains := gains) (by omega) (fun q hq => (hMb q hq).2) hCb hGb hz
    have dpH : Dp c.K H11 (.ref hd) (.tuple [.list (rowsD M), .list (caps.map PyData.int), .list (gains.map PyData.int)]) := dpT h11 (.cons (dpL (e811 _ _ hD) (dp_rows hdM fun i r q h1 h2 => e811 _ _ (hdr i r q h1 h2))) (.cons (dpL (e11 _ _ (e10 _ _ h9)) (dp_ints _)) (.cons (dpL (e11 _ _ h10) (dp_ints _)) .nil)))
    have dpL_ : ∀ t H', Same H11 H' → H' t = some (.tup [.ref L, .ref C, .ref G]) → Dp c.K H' (.ref t) (.tuple [.list (rowsD M), .list (caps.map PyData.int), .list (gains.map PyData.int)]) := fun t H' e h => dpT h (.cons (dpL (e _ _ (e711 _ _ hL)) (dp_rows hMl fun i r q h1 h2 => e _ _ (e711 _ _ (hMr i r q h1 h2)))) (.cons (dpL (e _ _ (e711 _ _ hC)) (dp_ints _)) (.cons (dpL (e _ _ (e711 _ _ hG)) (dp_ints _)) .nil)))
    have hdep : (PyData.tuple [.list (rowsD M), .list (caps.map PyData.int), .list (gains.map PyData.int)]).depth ≤ 60 := by
      have := depth_rows M
      simp [PyData.depth, PyData.depthAll, depth_ints]
      omega
    have hM8 : ∀ (i : Nat) (r : List Int), M[i]? = some r → r.length ≤ 90 ∧ bdL 20 r := fun i r h => hMb r (List.mem_of_getElem? h)
    have hL11 := e711 _ _ hL
    have hMr11 : ∀ (i : Nat) (r : Addr) (q : List Int), rs[i]? = some r → M[i]? = some q → H11 r = some (.lst (q.map V.int)) := fun i r q h1 h2 => e711 _ _ (hMr i r q h1 h2)
    have hC11 := e711 _ _ hC
    have hG11 := e711 _ _ hG
    clear hMr e8 e9 e10 e11 e711 e811 hL hC hG hD hdr hdn h9 h10 nc1 ng1 nhd nD hMb
    refine nxt (ps_set (i := 9) sc_law.nd rfl (Or.inl rfl) (pc D_l_due (hr.mono (by decide)) (pa_cons (pv 2) (pa_cons (pv 3) (pa_cons (pv 4) pa_nil))))) ?_
    refine ⟨_, rfl, _, rfl, _, rfl, .ref L, .ref C, .ref G, M, caps, gains, rfl, mlL, ilC, ilG, ?_⟩
    cases ec : chkP M caps gains with
    | some z =>
      obtain ⟨zn, zf, zz⟩ := z
      intro td H12 ntd e12 h12
      refine nxt (ps_set (i := 10) sc_law.nd rfl (Or.inl rfl) (pc D_l_told (hr.mono (by decide)) (pa_cons (pe_ix ix_tup (pv 8) pe_int (fun _ _ => rfl)) (pa_cons (pe_ix ix_tup (pv 8) pe_int (fun _ _ => rfl)) (pa_cons (pe_ix ix_tup (pv 8) pe_int (fun _ _ => rfl)) pa_nil))))) ?_
      refine ⟨_, rfl, hd, _, _, _, rfl, rfl, sqT (e12 _ _ h11), rfl, _, rfl, hd, _, _, _, rfl, rfl, sqT (e12 _ _ h11), atI_nat (j := 1) rfl, _, rfl, hd, _, _, _, rfl, rfl, sqT (e12 _ _ h11), atI_nat (j := 2) rfl, .ref D, .ref c1, .ref g1, M, caps, gains, rfl, mlH.same e12, ilc.same e12, ilg.same e12, hz, hsm, fun z hz' t2 H13 nt2 e13 h13 => ?_, fun hno => by rw [ec] at hno; cases hno⟩
      rw [ec] at hz'
      cases hz'
      refine nxtN (ps_if (pt_cmpR (op_neP hr.units) (pv 8) (pe_tup (pa_cons (pv 2) (pa_cons (pv 3) (pa_cons (pv 4) pa_nil)))) (nomark _)) (pss_one (ps_ret pe_bl)) pss_nil) fun N hN => ?_
      refine ⟨_, rfl, _, rfl, _, rfl, _, rfl, (by show 3 ≤ sizeLine; decide), fun t3 nt3 => ?_⟩
      refine upd_gen nt3 fun H14 e14 h14 => ?_
      have e1114 := e12.trans (e13.trans e14)
      refine ⟨_, _, dp_same e1114 _ _ dpH, dpL_ t3 H14 e1114 h14, .inl hdep, ?_⟩
      refine ⟨_, rfl, ?_⟩
      rw [eqv_self (dp_same e1114 _ _ dpH)]
      refine iteF ?_
      refine hN _ _ ?_
      refine nxtN (ps_if (pt_cmpR op_notN (pv 9) pe_non (nomark _)) (pss_one (ps_ret (pe_cmpR (op_eqP hr.units) (pv 10) (pv 9) (nomark _)))) pss_nil) fun N2 hN2 => ?_
      refine ⟨_, rfl, rfl, _, rfl, ?_⟩
      rw [decide_eq_false (fun z => nomatch z)]
      refine iteT ?_
      have d1 : Dp c.K H14 (.ref t2) (.tuple [.str zf, .int zz]) := dpT (e14 _ _ h13) (.cons (.str _) (.cons (.int _) .nil))
      have d2 : Dp c.K H14 (.ref td) (.tuple [.str zf, .int zz]) := dpT (e14 _ _ (e13 _ _ h12)) (.cons (.str _) (.cons (.int _) .nil))
      refine ⟨_, rfl, _, rfl, _, _, d1, d2, .inl (by simp [PyData.depth, PyData.depthAll]), ?_⟩
      rw [eqv_self d1]
      exact k _
    | none =>
      intro H12 e12
      obtain ⟨hcl, hw, hc0⟩ := chkP_none ec
      refine nxt (ps_set (i := 10) sc_law.nd rfl (Or.inl rfl) (pc D_l_told (hr.mono (by decide)) (pa_cons (pe_ix ix_tup (pv 8) pe_int (fun _ _ => rfl)) (pa_cons (pe_ix ix_tup (pv 8) pe_int (fun _ _ => rfl)) (pa_cons (pe_ix ix_tup (pv 8) pe_int (fun _ _ => rfl)) pa_nil))))) ?_
      refine ⟨_, rfl, hd, _, _, _, rfl, rfl, sqT (e12 _ _ h11), rfl, _, rfl, hd, _, _, _, rfl, rfl, sqT (e12 _ _ h11), atI_nat (j := 1) rfl, _, rfl, hd, _, _, _, rfl, rfl, sqT (e12 _ _ h11), atI_nat (j := 2) rfl, .ref D, .ref c1, .ref g1, M, caps, gains, rfl, mlH.same e12, ilc.same e12, ilg.same e12, hz, hsm, (fun z hz' => by rw [ec] at hz'; cases hz'), fun _ e H13 t2 v2 hrun e13 nt2 tell h13 => ?_⟩
      refine nxtN (ps_if (pt_cmpR (op_neP hr.units) (pv 8) (pe_tup (pa_cons (pv 2) (pa_cons (pv 3) (pa_cons (pv 4) pa_nil)))) (nomark _)) (pss_one (ps_ret pe_bl)) pss_nil) fun N hN => ?_
      refine ⟨_, rfl, _, rfl, _, rfl, _, rfl, (by show 3 ≤ sizeLine; decide), fun t3 nt3 => ?_⟩
      refine upd_gen nt3 fun H14 e14 h14 => ?_
      have e1114 := e12.trans (e13.trans e14)
      refine ⟨_, _, dp_same e1114 _ _ dpH, dpL_ t3 H14 e1114 h14, .inl hdep, ?_⟩
      refine ⟨_, rfl, ?_⟩
      rw [eqv_self (dp_same e1114 _ _ dpH)]
      refine iteF ?_
      refine hN _ _ ?_
      refine nxtN (ps_if (pt_cmpR op_notN (pv 9) pe_non (nomark _)) (pss_one (ps_ret (pe_cmpR (op_eqP hr.units) (pv 10) (pv 9) (nomark _)))) pss_nil) fun N2 hN2 => ?_
      refine ⟨_, rfl, rfl, _, rfl, ?_⟩
      rw [decide_eq_true rfl]
      refine iteF ?_
      refine hN2 _ _ ?_
      have S14 := (tell.same e14)
      have h14t := e14 _ _ h13
      have dt : Dp c.K H14 (.ref t2) (.tuple [.str "told", tellD (AX M caps gains) gains.length M.length e]) := dpT h14t (.cons (.str _) (.cons S14.dp .nil))
      have dtd : (PyData.tuple [.str "told", tellD (AX M caps gains) gains.length M.length e]).depth ≤ 60 := by
        have := tellD_depth (A := AX M caps gains) (w := gains.length) (m := M.length) (e := e)
        simp [PyData.depth, PyData.depthAll]
        omega
      clear h14 dpL_ tell h13 nt2 nt3
      have sm20 : ∀ {B : Int} {xs : List Int}, bdL B xs → B < 2 ^ 60 → sml xs := fun h1 h2 x hx => by
        have := h1 x hx
        omega
      refine nxtN (ps_if (PW.pt (pw_or (pt_cmpR op_ne (pe_ix ix_tup (pv 10) pe_int (fun _ _ => rfl)) pe_str (nomark _)) (pw_or1 (pt_not (pt_val (pc D_l_right (hr.mono (by decide)) (pa_cons (pv 2) (pa_cons (pv 3) (pa_cons (pv 4) (pa_cons (pe_ix ix_tup (pv 10) pe_int (fun _ _ => rfl)) pa_nil)))))))))) (pss_one (ps_ret pe_bl)) pss_nil) fun N3 hN3 => ?_
      refine ⟨_, rfl, t2, _, _, _, rfl, rfl, sqT h14t, rfl, rfl, _, rfl, ?_⟩
      rw [decide_eq_true rfl]
      refine iteF ?_
      refine ⟨_, rfl, _, rfl, _, rfl, _, rfl, t2, _, _, _, rfl, rfl, sqT h14t, atI_nat (j := 1) rfl, .ref L, .ref C, .ref G, v2, M, caps, gains, rfl, mlL.same e1114, ilC.same e1114, ilG.same e1114, hcl, fun i r h => ⟨hw i r h, sm20 (hM8 i r h).2 (by decide)⟩, sm20 hCb (by decide), sm20 hGb (by decide), hz, right_of ec hrun S14, fun H15 e15 => ?_⟩
      have e1115 := e1114.trans e15
      refine ⟨_, rfl, ?_⟩
      refine iteF ?_
      refine hN3 _ _ ?_
      refine nxtN (ps_if (pt_cmpR (op_neP hr.units) (pcn D_best_mix (hr.mono (by decide)) (pa_cons (pe_ix ix_tup (pv 8) pe_int (fun _ _ => rfl)) (pa_cons (pe_ix ix_tup (pv 8) pe_int (fun _ _ => rfl)) (pa_cons (pe_ix ix_tup (pv 8) pe_int (fun _ _ => rfl)) pa_nil)))) (pe_ix ix_tup (pv 10) pe_int (fun _ _ => rfl)) (nomark _)) (pss_one (ps_ret pe_bl)) pss_nil) fun N4 hN4 => ?_
      have hh15 := e1115 _ _ h11
      refine ⟨_, rfl, hd, _, _, _, rfl, rfl, sqT hh15, rfl, _, rfl, hd, _, _, _, rfl, rfl, sqT hh15, atI_nat (j := 1) rfl, _, rfl, hd, _, _, _, rfl, rfl, sqT hh15, atI_nat (j := 2) rfl, .ref D, .ref c1, .ref g1, M, caps, gains, rfl, mlH.same e1115, ilc.same e1115, ilg.same e1115, hz, hsm, ?_⟩
      rw [ec]
      show ∀ e H' v, _
      intro e' H16 v6 hrun' e16 tell6
      have ee := Run.one (ax_good ec) hrun hrun'
      subst ee
      have e1116 := e1115.trans e16
      have ht16 := e16 _ _ (e15 _ _ h14t)
      have S16 := (S14.same e15).same e16
      refine ⟨_, rfl, t2, _, _, _, rfl, rfl, sqT ht16, atI_nat (j := 1) rfl, _, _, tell6.dp, S16.dp, .inl (Nat.le_trans tellD_depth (by decide)), ?_⟩
      refine ⟨_, rfl, ?_⟩
      rw [eqv_self (TellB.dp (K := c.K) tell6)]
      refine iteF ?_
      refine hN4 _ _ ?_
      refine last (ps_ret (pe_cmpR (op_eqP hr.units) (pc D_l_told (hr.mono (by decide)) (pa_cons (pe_callTy call_tuple_of (by rfl) T.tuple (by decide +kernel) (pa_cons (pe_lc (own := [("_law_row", 11)]) (g := gName 11) rfl sc_law.nd (pi_list (pv 2)) (blkOk_by (own := [("_law_row", 11)]) (N := ["_law_script", "_law_state", "_law_lines", "_law_caps", "_law_gains", "_law_turn", "_law_plan", "_law_k", "_law_handed", "_law_due_here", "_law_told_here", "_law_row"]) (sc := defScope s_law) (by decide +kernel)) (fun _ _ _ _ _ => (pg_name (i := 11) sc_law.nd rfl (Or.inl rfl))) (fun _ _ _ _ _ => pts_nil) (fun _ _ _ _ _ => (pe_callTy (r := rTupOf c.K) call_tuple_of (by rfl) T.tuple (by decide +kernel) (pa_cons (pv 11) pa_nil)))) pa_nil)) (pa_cons (pe_callTy call_tuple_of (by rfl) T.tuple (by decide +kernel) (pa_cons (pv 3) pa_nil)) (pa_cons (pe_callTy call_tuple_of (by rfl) T.tuple (by decide +kernel) (pa_cons (pv 4) pa_nil)) pa_nil)))) (pv 10) (nomark _))) ?_
      have hL16 := e1116 _ _ hL11
      refine ⟨_, rfl, L, rfl, ⟨_, sqL hL16⟩, fun D2 nD2 => lc_list (K := c.K) (a := L) (xs := rs.map V.ref) (fun i H' => Same H16 H' ∧ ∃ ds : List Addr, H' D2 = some (.lst (ds.map V.ref)) ∧ ds.length = i ∧ (∀ d ∈ ds, d ≠ D2) ∧ ∀ (j : Nat) (d : Addr) (q : List Int), ds[j]? = some d → M[j]? = some q → H' d = some (.tup (q.map V.int))) ⟨sm_new nD2, [], upd_same, rfl, (fun d hd => nomatch hd), fun j d q h => by simp at h⟩ (fun j H' _ q => sm_l q.1 (sqL hL16)) ?_ ?_⟩
      · rintro i x H17 hx ⟨e17, ds2, hD2, hdl2, hdn2, hdr2⟩
        rw [List.getElem?_map] at hx
        cases er : rs[i]? with
        | none => rw [er] at hx; cases hx
        | some r =>
        rw [er] at hx
        cases hx
        have hi : i < rs.length := (List.getElem?_eq_some_iff.mp er).1
        obtain ⟨q, hq⟩ : ∃ q, M[i]? = some q := ⟨M[i]'(by omega), List.getElem?_eq_getElem (by omega)⟩
        have hr17 := e17 _ _ (e1116 _ _ (hMr11 i r q er hq))
        refine ⟨rfl, ?_⟩
        refine ⟨_, rfl, r, _, rfl, .inl ⟨sqL hr17, fun d nd => ?_⟩⟩
        refine upd_gen nd fun H18 e18 h18 => ?_
        have hD18 := e18 _ _ hD2
        have ndD : d ≠ D2 := (ne_of_none hD2 nd).symm
        refine ⟨_, hD18, small1000 (by rw [List.length_map]; omega), fun b o hb => ?_, ds2 ++ [d], by rw [upd_same, List.map_append]; rfl, by simp; omega, fun d' hd' => ?_, fun j d' q' h1 h2 => ?_⟩
        · rw [upd_ne (ne_of_none hb nD2)]; exact e18 _ _ (e17 _ _ hb)
        · rcases List.mem_append.mp hd' with hd' | hd'
          · exact hdn2 d' hd'
          · rw [List.mem_singleton.mp hd']; exact ndD
        · rcases Nat.lt_or_ge j ds2.length with hj | hj
          · rw [List.getElem?_append_left hj] at h1
            have := hdr2 j d' q' h1 h2
            rw [upd_ne (hdn2 d' (List.mem_of_getElem? h1))]
            exact e18 _ _ this
          · rw [List.getElem?_append_right hj] at h1
            have hj0 : j - ds2.length = 0 := by
              have := (List.getElem?_eq_some_iff.mp h1).1
              simp at this
              omega
            rw [hj0] at h1
            cases h1
            have : j = i := by omega
            subst this
            rw [hq] at h2
            cases h2
            rw [upd_ne ndD]
            exact h18
      rintro H17 ⟨e17, ds2, hD2, hdl2, hdn2, hdr2⟩
      rw [List.length_map] at hdl2
      refine ⟨D2, _, rfl, .inl ⟨sqL hD2, fun t7 nt7 => ?_⟩⟩
      refine upd_gen nt7 fun H18 e18 h18 => ?_
      have e1118 := e1116.trans (e17.trans e18)
      refine ⟨_, rfl, C, _, rfl, .inl ⟨sqL (e1118 _ _ hC11), fun c7 nc7 => ?_⟩⟩
      refine upd_gen nc7 fun H19 e19 h19 => ?_
      refine ⟨_, rfl, G, _, rfl, .inl ⟨sqL (e19 _ _ (e1118 _ _ hG11)), fun g7 ng7 => ?_⟩⟩
      refine upd_gen ng7 fun H20 e20 h20 => ?_
      have e1820 := e19.trans e20
      have ml20 : ML c.K H20 (.ref t7) M := by
        refine ⟨t7, _, rfl, .inr (sqT (e1820 _ _ h18)), by rw [List.length_map]; omega, fun i x q hx hq => ?_⟩
        rw [List.getElem?_map] at hx
        cases er : ds2[i]? with
        | none => rw [er] at hx; cases hx
        | some r => rw [er] at hx; cases hx; exact ⟨r, rfl, .inr (sqT (e1820 _ _ (e18 _ _ (hdr2 i r q er hq))))⟩
      refine ⟨.ref t7, .ref c7, .ref g7, M, caps, gains, rfl, ml20, ⟨c7, rfl, .inr (sqT (e20 _ _ h19))⟩, ⟨g7, rfl, .inr (sqT h20)⟩, hz, hsm, (fun z hz' => by rw [ec] at hz'; cases hz'), fun _ e3 H21 t8 v8 hrun3 e21 nt8 tell8 h21 => ?_⟩
      have ee := Run.one (ax_good ec) hrun hrun3
      subst ee
      have d1 : Dp c.K H21 (.ref t8) (.tuple [.str "told", tellD (AX M caps gains) gains.length M.length e]) := dpT h21 (.cons (.str _) (.cons tell8.dp .nil))
      refine ⟨_, rfl, _, _, d1, dp_same ((e15.trans e16).trans ((e17.trans e18).trans (e1820.trans e21))) _ _ dt, .inl dtd, ?_⟩
      rw [eqv_self d1]
      exact k _
end
end B
namespace B
open PySem L2
/-! End2: what the top has left of classes; the defs of the layer Q -/
/-- a def within a class -/
structure Dn (K : PySem.W.Frag) (x qual : Str) (st : Stmt) (f : Addr) : Prop where
  l : ∃ (oc : Value) (od : Option Addr) (kV doc pm : Value) (an : Option Addr) (cdv ct : Value) (osl : Array (Option Value)), K.lookup f = some ⟨oc, od, .func (PySem.W.fnOf x qual (defArgs st) (defBody st) (defScope st) .none kV doc pm an cdv ct), osl⟩ ∧ PySem.W.codeIn K cdv qual = true
  k : PySem.W.keepIn K (.ref f) = true
theorem Dn.fun {K : PySem.W.Frag} {x qual : Str} {st : Stmt} {f : Addr} (d : Dn K x qual st f) : ∃ fd, Fun K x qual st f fd := by
  obtain ⟨oc, od, kV, doc, pm, an, cdv, ct, osl, l, c⟩ := d.l
  exact ⟨_, fun_mk l c d.k⟩
/-- a class whose objects are made -/
structure Dcl (K : PySem.W.Frag) (mg : Str → Option Value) (x : Str) (C : Addr) : Prop where
  g : mg x = some (.ref C)
  c : Cls K C
  mk_ : PySem.W.makesIn K C = true
  kp : PySem.W.keepIn K (.ref C) = true
/-- __init__ -/
structure Din (K : PySem.W.Frag) (C : Addr) (f : Addr) : Prop where
  i : PySem.W.findIn K (.ref C) "__init__" = some (some (.ref f))
  fn : PySem.W.isFn K (.ref f) = true
section
variable {P : Program} {w : World} {K : PySem.W.Frag} {mg : Str → Option Value} {base : Heap} {CX : CXT} {k : Nat} {x y qual : Str} {st : Stmt} {C f p : Addr} {ps : List Str} {sp : Sp}
theorem dfm_mk (c : Dcl K mg x C) (i : Din K C f) (d : Dn K "__init__" qual st f) (G : ∀ fd, Fun K "__init__" qual st f fd → FnOk P w K mg base CX k f fd ps sp)
    (hb : ∀ (kV doc pm : Value) (an : Option Addr) (cdv ct : Value) (us : List Value), us.length = ps.length → bindArgs (PySem.W.fnOf "__init__" qual (defArgs st) (defBody st) (defScope st) .none kV doc pm an cdv ct) ⟨us, []⟩ = pure (ps.zip us)) : DfM P w K mg base CX k x C ps sp := by
  obtain ⟨fd, F⟩ := d.fun
  exact ⟨c.g, f, fd, ⟨c.mk_, i.i, i.fn, c.kp⟩, F.binds hb, G fd F⟩
end
/-- what the top has left of an error class with two fields -/
structure Dm2 (K : PySem.W.Frag) (mg : Str → Option Value) (x qual : Str) (C : Addr) (f g : Str) (st : Stmt) (fI : Addr) : Prop where
  gC : mg x = some (.ref C)
  no : PySem.W.findIn K (.ref C) f = some none
  no2 : PySem.W.findIn K (.ref C) g = some none
  i : PySem.W.findIn K (.ref C) "__init__" = some (some (.ref fI))
  t : PySem.W.typeIn K (.ref fI) = some (.type "function")
  d : Dn K "__init__" qual st fI
end B
namespace B
open PySem L2
/-! End3: methods, own items, making by keywords -/
section
variable {P : Program} {w : World} {K : PySem.W.Frag} {mg : Str → Option Value} {base : Heap} {CX : CXT} {k n : Nat} {x y qual : Str} {st : Stmt} {C f p : Addr} {ps ks : List Str} {sp : Sp}
theorem dfmt_mk (c : Meth K C x f) (d : Dn K y qual st f) (G : ∀ fd, Fun K y qual st f fd → FnOk P w K mg base CX k f fd ps sp)
    (hb : ∀ (kV doc pm : Value) (an : Option Addr) (cdv ct : Value) (us : List Value), us.length = ps.length → bindArgs (PySem.W.fnOf y qual (defArgs st) (defBody st) (defScope st) .none kV doc pm an cdv ct) ⟨us, []⟩ = pure (ps.zip us)) : DfMt P w K mg base CX k C x ps sp := by
  obtain ⟨fd, F⟩ := d.fun
  exact ⟨f, fd, c, F.binds hb, G fd F⟩
end
end B
namespace B
open PySem L2
/-! Head: the top run once, in the kernel; what it leaves, by names -/
open PySem.Spec PyProof.Rows
open PySem.W (Frag nsIn findIn)
/-- the getter of a property -/
theorem DfR.dn {K : Frag} {d : DfR} (e : fnV K (d.ad K) = d.val) (c : d.ok K = true) : Dn K d.name d.qual d.st (d.ad K) := by
  obtain ⟨kp, c2⟩ := He.ba c
  refine ⟨?_, kp⟩
  unfold fnV at e
  cases q : K.lookup (d.ad K) with
  | none => rw [q] at c2; cases c2
  | some o =>
    obtain ⟨oc, od, dt, osl⟩ := o
    rw [q] at c2 e
    cases dt with
    | func fd =>
      obtain ⟨n1, n2, n3, n4, n5, n6, n7, n8, n9, n10, n11, n12, n13, n14, n15⟩ := fd
      have e2 : (some (n1, n2, n3, n4, n5, n6, n7, n8, n15) : He.FnV) = some (d.name, d.qual, defArgs d.st, .stmts (defBody d.st), defScope d.st, mainGlobals, [], .none, builtinsNs) := e
      simp only [Option.some.injEq, Prod.mk.injEq] at e2
      obtain ⟨h1, h2, h3, h4, h5, h6, h7, h8, h9⟩ := e2
      subst h1 h2 h3 h4 h5 h6 h7 h8 h9
      exact ⟨oc, od, n9, n10, n11, n12, n13, n14, osl, rfl, c2⟩
    | _ => cases c2
section
variable {K : Frag} {h : Heap} {mg : Str → Option Value}
theorem hk_glo (X : K.In h) (G : h.Ns mainGlobals mg) {x : Str} (c : (Fk.glo x).ok K = true) : mg x = some (.ref (He.ga K x)) := PySem.W.mg_of X G (He.eqO_ok c)
theorem hk_free (X : K.In h) (G : h.Ns mainGlobals mg) {x : Str} (c : (Fk.free x).ok K = true) : mg x = none := PySem.W.mg_none_of X G (He.eqO_ok c)
theorem hk_dt {x : Str} {st : Stmt} (c : (Fk.glo x).ok K = true) (d : Dn K x x st (He.ga K x)) : Dt K x st (He.ga K x) := ⟨He.eqO_ok c, d.l, d.k⟩
theorem hk_bce (X : K.In h) (G : h.Ns mainGlobals mg) (c : Fk.bce.ok K = true) : Bce K mg (He.ga K "BundleError") (mcA K) := by
  obtain ⟨c1, c⟩ := He.ba c
  obtain ⟨c2, c⟩ := He.ba c
  obtain ⟨c3, c⟩ := He.ba c
  obtain ⟨c4, c5⟩ := He.ba c
  refine bce_mk X G (He.eqO_ok c1) (of_decide_eq_true c2) c3 (He.eqO_ok c4) ?_
  unfold inB at c5
  split at c5
  · rename_i s e
    rw [e, of_decide_eq_true c5]
  · cases c5
theorem hk_dm (X : K.In h) (G : h.Ns mainGlobals mg) {x q f : Str} {st : Stmt} (a : (Fk.glo x).ok K = true) (n : (Fk.noat x f).ok K = true) (c : (Fk.exi x).ok K = true) (d : Dn K "__init__" q st (He.ma K (He.ga K x) "__init__")) : Dm K mg x q (He.ga K x) f st (He.ma K (He.ga K x) "__init__") := by
  obtain ⟨c1, c2⟩ := He.ba c
  exact ⟨hk_glo X G a, He.eqO_ok n, He.eqO_ok c1, of_decide_eq_true c2, d.l, d.k⟩
theorem hk_noat {x f : Str} (c : (Fk.noat x f).ok K = true) : NoAttr K (He.ga K x) f := He.eqO_ok c
theorem hk_cls (X : K.In h) (G : h.Ns mainGlobals mg) {x : Str} (a : (Fk.glo x).ok K = true) (c : (Fk.cls x).ok K = true) : Dcl K mg x (He.ga K x) := by
  obtain ⟨c1, c⟩ := He.ba c
  obtain ⟨c2, c3⟩ := He.ba c
  exact ⟨hk_glo X G a, He.cls_ok c1, c2, c3⟩
theorem hk_ini {x : Str} (c : (Fk.ini x).ok K = true) : Din K (He.ga K x) (He.ma K (He.ga K x) "__init__") := by
  obtain ⟨c1, c2⟩ := He.ba c
  exact ⟨He.eqO_ok c1, c2⟩
theorem hk_meth {x m : Str} (c : (Fk.meth x m).ok K = true) : Meth K (He.ga K x) m (He.ma K (He.ga K x) m) := He.meth_ok c
end
theorem hk_ers {K : Frag} {f : Frag → Nat → Addr} {S : List Nat} (c : (Fk.ers f S).ok K = true) : erB K (f K) S = true := c
/-! ### the Hook -/
/-- the youngest k objects -/
def downF : Nat → Nat → List Addr
  | 0, _ => []
  | k + 1, n => match n with
    | 0 => []
    | m + 1 => m :: downF k m
def obsKG (n : Nat) (fk : List Fk) (fn : List DfR) (m : Nat) (g : Addr → Option Obj) : AlH := obsK fk fn (He.frG g (mainGlobals :: cStatics :: downF n m))
def hookK (n : Nat) (fk : List Fk) (fn : List DfR) : PySem.W.Hook where
  α := AlH
  obs := fun s => obsKG n fk fn s.heap.objs.size s.heap.get?
  val := fun _ => valK fn
  says := fun _ h => ∃ K : Frag, K.In h ∧ SaysK fk fn K
  of := fun _ _ e => ⟨_, He.frG_in, e⟩
  keeps := fun _ _ _ ⟨K, hK, c⟩ k => ⟨K, PySem.W.Frag.In.keeps hK k, c⟩
section
variable {fk : List Fk} {fn : List DfR} {K : Frag}
theorem SaysK.fact (c : SaysK fk fn K) (i : Nat) {f : Fk} (h : fk[i]? = some f := by rfl) : f.ok K = true := by
  have c1 := (He.ba (show ((fk.all fun f => f.ok K) && fn.all fun d => d.ok K) = true from congrArg (fun z : AlH => z.1) c)).1
  exact List.all_eq_true.mp c1 f (List.mem_of_getElem? h)
theorem SaysK.def_ (c : SaysK fk fn K) (i : Nat) {d : DfR} (h : fn[i]? = some d := by rfl) : Dn K d.name d.qual d.st (d.ad K) := by
  have c2 := (He.ba (show ((fk.all fun f => f.ok K) && fn.all fun d => d.ok K) = true from congrArg (fun z : AlH => z.1) c)).2
  have e : fn.map (fun d => fnV K (d.ad K)) = fn.map DfR.val := congrArg (fun z : AlH => z.2) c
  have e2 : (fn.map fun d => fnV K (d.ad K))[i]? = (fn.map DfR.val)[i]? := by rw [e]
  rw [List.getElem?_map, List.getElem?_map, h] at e2
  exact DfR.dn (Option.some.inj e2) (List.all_eq_true.mp c2 d (List.mem_of_getElem? h))
end
/-- the last end over such a head -/
theorem walkE {l : PySem.W.OpenLaw} {k : Nat} {q : Program} {loose : List Str} {XP : (Str → Option Value) → Heap → Prop} {d : DefRec} {fk : List Fk} {fn : List DfR} {n : Nat} (hr : Room k callerA) (hn : l.most = some 63) (hdf : d.params.defaults = []) (hnm : d.name = ("law" : Str))
    (F : ∀ (w : World) (K : Frag) (mg : Str → Option Value) (fa : Addr) (h : Heap), K.In h → h.Ns mainGlobals mg → mg "law" = some (.ref fa) → SaysK fk fn K →
      ∃ fd : FuncData, (∀ (s : Shared) (u : Value), BindsTo s fd ⟨[u], []⟩ [("_law_script", u)]) ∧ ∀ base : Heap, K.In base → base.Ns mainGlobals mg → FnOk l.prog w K mg base CX0 k fa fd ["_law_script"] (spLaw K)) :
    PySem.W.WalkO q loose XP (hookK n fk fn).says l.row.toRowW d [] (fun f vs => PySem.call f vs) := by
  refine L2.walk_ofE (l := l) (n := 63) (k := k) (x := "_law_script") (CX := L2.CX0) hn (by decide) hdf hr ?_ (fun _ _ _ _ z => z)
  intro w mg fa h Y G hmg
  obtain ⟨K, KX, c⟩ := Y
  rw [hnm] at hmg
  obtain ⟨fd, hb, hF⟩ := F w K mg fa h KX G hmg c
  exact ⟨K, fd, spLaw K, KX, hb, fun H a ns hl _ hS => ⟨a, ns, rfl, hS, hl, fun _ => rfl⟩, hF⟩
end B
namespace B
open PySem L2
/-! EndS: the ends of defs with a star parameter, of error classes without fields -/
structure Dm0 (K : PySem.W.Frag) (mg : Str → Option Value) (x qual : Str) (C : Addr) (st : Stmt) (fI : Addr) : Prop where
  g : mg x = some (.ref C)
  i : PySem.W.findIn K (.ref C) "__init__" = some (some (.ref fI))
  t : PySem.W.typeIn K (.ref fI) = some (.type "function")
  d : Dn K "__init__" qual st fI
end B
namespace B
open PySem L2
/-! EndE: the ends of own __eq__, of keyword-only defaults, of isinstance by an own class -/
structure EqOf (K : PySem.W.Frag) (C f : Addr) : Prop where
  i : PySem.W.findIn K (.ref C) "__eq__" = some (some (.ref f))
  fn : PySem.W.isFn K (.ref f) = true
section
variable {P : Program} {w : World} {K : PySem.W.Frag} {mg : Str → Option Value} {base : Heap} {CX : CXT} {k n : Nat} {x y qual : Str} {st : Stmt} {C f p : Addr} {ps ks : List Str} {sp : Sp}
end
end B
namespace B
open PySem L2
/-! HeadS: the head's hook over a small part of the heap: what the module's names reach in five steps -/
open PySem.Spec PyProof.Rows
open PySem.W (Frag nsIn findIn)
/-- the last end over such a head -/
theorem walkS {l : PySem.W.OpenLaw} {k : Nat} {q : Program} {loose : List Str} {XP : (Str → Option Value) → Heap → Prop} {d : DefRec} {fk : List Fk} {fn : List DfR} (hr : Room k callerA) (hn : l.most = some 63) (hdf : d.params.defaults = []) (hnm : d.name = ("law" : Str))
    (F : ∀ (w : World) (K : Frag) (mg : Str → Option Value) (fa : Addr) (h : Heap), K.In h → h.Ns mainGlobals mg → mg "law" = some (.ref fa) → SaysK fk fn K →
      ∃ fd : FuncData, (∀ (s : Shared) (u : Value), BindsTo s fd ⟨[u], []⟩ [("_law_script", u)]) ∧ ∀ base : Heap, K.In base → base.Ns mainGlobals mg → FnOk l.prog w K mg base CX0 k fa fd ["_law_script"] (spLaw K)) :
    PySem.W.WalkO q loose XP (hookS fk fn).says l.row.toRowW d [] (fun f vs => PySem.call f vs) := walkE (n := 0) hr hn hdf hnm F
end B
namespace B
open PySem L2
theorem all_mk {P : Program} {w : World} {K : PySem.W.Frag} {h : Heap} {mg : Str → Option Value} {fa : Addr} {f_l_start f_l_take f_l_drawn f_l_round f_l_market f_l_due f_check_program f_common_divisor f_best_mix f_l_told f_l_whole f_l_dot f_l_divisor f_l_right f_law C_4 i_4 C_19 i_19 K_6 f_Tableau___init__ f_Tableau_entering f_Tableau_is_nearer f_Tableau_leaving f_Tableau_reduced f_Tableau_turn f_Tableau_mix_numbers f_Tableau_endless_numbers : Addr} {Bc : Addr} {mc : Value} (X : K.In h) (G : h.Ns mainGlobals mg) (hfa : mg "law" = some (.ref fa)) (T : Bt mg)
    (d_l_start : Dt K "_law_start" s_l_start f_l_start)
    (d_l_take : Dt K "_law_take" s_l_take f_l_take)
    (d_l_drawn : Dt K "_law_drawn" s_l_drawn f_l_drawn)
    (d_l_round : Dt K "_law_round" s_l_round f_l_round)
    (d_l_market : Dt K "_law_market" s_l_market f_l_market)
    (d_l_due : Dt K "_law_due" s_l_due f_l_due)
    (d_check_program : Dt K "check_program" s_check_program f_check_program)
    (d_common_divisor : Dt K "common_divisor" s_common_divisor f_common_divisor)
    (d_best_mix : Dt K "best_mix" s_best_mix f_best_mix)
    (d_l_told : Dt K "_law_told" s_l_told f_l_told)
    (d_l_whole : Dt K "_law_whole" s_l_whole f_l_whole)
    (d_l_dot : Dt K "_law_dot" s_l_dot f_l_dot)
    (d_l_divisor : Dt K "_law_divisor" s_l_divisor f_l_divisor)
    (d_l_right : Dt K "_law_right" s_l_right f_l_right)
    (d_law : Dt K "law" s_law f_law)
    (Be : Bce K mg Bc mc)
    (m_BadCount : Dm K mg "BadCount" "BadCount.__init__" C_4 "count" s_BadCount___init__ i_4)
    (m_BadBound : Dm K mg "BadBound" "BadBound.__init__" C_19 "bound" s_BadBound___init__ i_19)
    (k_Tableau : Dcl K mg "Tableau" K_6)
    (na_6_width : NoAttr K K_6 "width")
    (na_6_lines : NoAttr K K_6 "lines")
    (na_6_last : NoAttr K K_6 "last")
    (na_6_basis : NoAttr K K_6 "basis")
    (na_6_scale : NoAttr K K_6 "scale")
    (j_Tableau___init__ : Din K K_6 f_Tableau___init__)
    (d_Tableau___init__ : Dn K "__init__" "Tableau.__init__" s_Tableau___init__ f_Tableau___init__)
    (j_Tableau_entering : Meth K K_6 "entering" f_Tableau_entering)
    (d_Tableau_entering : Dn K "entering" "Tableau.entering" s_Tableau_entering f_Tableau_entering)
    (j_Tableau_is_nearer : Meth K K_6 "is_nearer" f_Tableau_is_nearer)
    (d_Tableau_is_nearer : Dn K "is_nearer" "Tableau.is_nearer" s_Tableau_is_nearer f_Tableau_is_nearer)
    (j_Tableau_leaving : Meth K K_6 "leaving" f_Tableau_leaving)
    (d_Tableau_leaving : Dn K "leaving" "Tableau.leaving" s_Tableau_leaving f_Tableau_leaving)
    (j_Tableau_reduced : Meth K K_6 "reduced" f_Tableau_reduced)
    (d_Tableau_reduced : Dn K "reduced" "Tableau.reduced" s_Tableau_reduced f_Tableau_reduced)
    (j_Tableau_turn : Meth K K_6 "turn" f_Tableau_turn)
    (d_Tableau_turn : Dn K "turn" "Tableau.turn" s_Tableau_turn f_Tableau_turn)
    (j_Tableau_mix_numbers : Meth K K_6 "mix_numbers" f_Tableau_mix_numbers)
    (d_Tableau_mix_numbers : Dn K "mix_numbers" "Tableau.mix_numbers" s_Tableau_mix_numbers f_Tableau_mix_numbers)
    (j_Tableau_endless_numbers : Meth K K_6 "endless_numbers" f_Tableau_endless_numbers)
    (d_Tableau_endless_numbers : Dn K "endless_numbers" "Tableau.endless_numbers" s_Tableau_endless_numbers f_Tableau_endless_numbers)
    (er : erB K (fun i => if i = 4 then C_4 else if i = 19 then C_19 else 0) [4, 19] = true)
    : ∃ fd : FuncData, (∀ (s : Shared) (v : Value), BindsTo s fd ⟨[v], []⟩ [("_law_script", v)]) ∧ ∀ base : Heap, K.In base → base.Ns mainGlobals mg → FnOk P w K mg base CX0 9 fa fd ["_law_script"] (spLaw K) := by
  obtain ⟨c, hc⟩ : ∃ c : Ct, c = ⟨K, fun i => if i = 6 then K_6 else 0, fun i => if i = 6 then [("width" : Str), ("lines" : Str), ("last" : Str), ("basis" : Str), ("scale" : Str)] else [], fun i => if i = 4 then C_4 else if i = 19 then C_19 else 0, fun i => if i = 4 then [("count" : Str)] else if i = 19 then [("bound" : Str)] else []⟩ := ⟨_, rfl⟩
  have e_K : K = c.K := by rw [hc]
  have e_cl6 : K_6 = c.cl 6 := by rw [hc]; rfl
  have hfl_6 : c.fl 6 = [("width" : Str), ("lines" : Str), ("last" : Str), ("basis" : Str), ("scale" : Str)] := by rw [hc]; rfl
  have e_4 : C_4 = c.ec 4 := by rw [hc]; rfl
  have hf_4 : c.ef 4 = [("count" : Str)] := by rw [hc]; rfl
  have e_19 : C_19 = c.ec 19 := by rw [hc]; rfl
  have hf_19 : c.ef 19 = [("bound" : Str)] := by rw [hc]; rfl
  have er_c : erB c.K c.ec [4, 19] = true := by rw [hc]; exact er
  clear hc
  subst e_cl6
  subst e_4
  subst e_19
  subst e_K
  have R := erB_ok er_c
  have e := hfa.symm.trans (PySem.W.mg_of X G d_law.a)
  cases e
  obtain ⟨fd, F, kV, doc, pm, an, cdv, ct, e⟩ := d_law.fun
  subst e
  refine ⟨PySem.W.fnOf "law" "law" (defArgs s_law) (defBody s_law) (defScope s_law) .none kV doc pm an cdv ct, fun s v => .of_eq rfl, fun base _ _ => ?_⟩
  have cl_6 := k_Tableau.c
  have TC : TbC c.K (c.cl 6) := ⟨k_Tableau.c, na_6_width, na_6_lines, na_6_last, na_6_basis, na_6_scale⟩
  have X_BadCount : ExcD P w c.K mg base 1 "BadCount" (c.ec 4) "count" := exd_mk m_BadCount (R.ok 4 (by decide)) (fun fd F => ok_BadCount___init__ F Be.r Be.i Be.g) fun _ _ _ _ _ _ us hl => match us, hl with | [_, _], _ => rfl
  have X_BadBound : ExcD P w c.K mg base 1 "BadBound" (c.ec 19) "bound" := exd_mk m_BadBound (R.ok 19 (by decide)) (fun fd F => ok_BadBound___init__ F Be.r Be.i Be.g) fun _ _ _ _ _ _ us hl => match us, hl with | [_, _], _ => rfl
  have D_l_start : Df P w c.K mg base CX0 1 "_law_start" ["_law_script"] (spStart' c.K) := df_mk d_l_start (PySem.W.mg_of X G d_l_start.a) (fun fd F => ok_startB F T) fun _ _ _ _ _ _ us hl => match us, hl with | [_], _ => rfl
  have D_l_take : Df P w c.K mg base CX0 1 "_law_take" ["_law_state", "_law_limit"] spTake := df_mk d_l_take (PySem.W.mg_of X G d_l_take.a) (fun fd F => ok_l_take F T) fun _ _ _ _ _ _ us hl => match us, hl with | [_, _], _ => rfl
  have D_l_drawn : Df P w c.K mg base CX0 2 "_law_drawn" ["_law_state"] spDrawn := df_mk d_l_drawn (PySem.W.mg_of X G d_l_drawn.a) (fun fd F => ok_l_drawn F T D_l_take) fun _ _ _ _ _ _ us hl => match us, hl with | [_], _ => rfl
  have D_l_round : Df P w c.K mg base CX0 2 "_law_round" ["_law_state"] spDrawn := df_mk d_l_round (PySem.W.mg_of X G d_l_round.a) (fun fd F => ok_l_round F T D_l_take) fun _ _ _ _ _ _ us hl => match us, hl with | [_], _ => rfl
  have D_l_market : Df P w c.K mg base CX0 2 "_law_market" ["_law_state"] spDrawn := df_mk d_l_market (PySem.W.mg_of X G d_l_market.a) (fun fd F => ok_l_market F T D_l_take) fun _ _ _ _ _ _ us hl => match us, hl with | [_], _ => rfl
  have D_l_due : Df P w c.K mg base CX0 1 "_law_due" ["_law_lines", "_law_caps", "_law_gains"] (spDue c) := df_mk d_l_due (PySem.W.mg_of X G d_l_due.a) (fun fd F => ok_l_due F T) fun _ _ _ _ _ _ us hl => match us, hl with | [_, _, _], _ => rfl
  have D_check_program : Df P w c.K mg base (L2.CX P w) 4 "check_program" ["rows", "bounds", "worths"] (spCheck c) := df_mk d_check_program (PySem.W.mg_of X G d_check_program.a) (fun fd F => ok_check_program F T X_BadCount X_BadBound) fun _ _ _ _ _ _ us hl => match us, hl with | [_, _, _], _ => rfl
  have D_common_divisor : Df P w c.K mg base CX0 1 "common_divisor" ["first", "second"] spGcd := df_mk d_common_divisor (PySem.W.mg_of X G d_common_divisor.a) (fun fd F => ok_common_divisor F T) fun _ _ _ _ _ _ us hl => match us, hl with | [_, _], _ => rfl
  have D_Tableau : DfM P w c.K mg base CX0 1 "Tableau" (c.cl 6) ["self", "rows", "bounds", "worths"] (spIni c) := dfm_mk k_Tableau j_Tableau___init__ d_Tableau___init__ (fun fd F => ok_Tableau (ok_Tableau_init F T TC)) fun _ _ _ _ _ _ us hl => match us, hl with | [_, _, _, _], _ => rfl
  have D_Tableau_entering : DfMt P w c.K mg base CX0 1 (c.cl 6) "entering" ["self"] (spEnter (c.cl 6)) := dfmt_mk j_Tableau_entering d_Tableau_entering (fun fd F => ok_Tableau_entering F T TC) fun _ _ _ _ _ _ us hl => match us, hl with | [_], _ => rfl
  have D_Tableau_is_nearer : DfMt P w c.K mg base CX0 1 (c.cl 6) "is_nearer" ["self", "index", "other", "column"] (spNear (c.cl 6)) := dfmt_mk j_Tableau_is_nearer d_Tableau_is_nearer (fun fd F => ok_Tableau_is_nearer F T TC) fun _ _ _ _ _ _ us hl => match us, hl with | [_, _, _, _], _ => rfl
  have D_Tableau_leaving : DfMt P w c.K mg base CX0 2 (c.cl 6) "leaving" ["self", "column"] (spLeave (c.cl 6)) := dfmt_mk j_Tableau_leaving d_Tableau_leaving (fun fd F => ok_Tableau_leaving F T TC D_Tableau_is_nearer) fun _ _ _ _ _ _ us hl => match us, hl with | [_, _], _ => rfl
  have D_Tableau_reduced : DfMt P w c.K mg base CX0 1 (c.cl 6) "reduced" ["self", "line", "chosen", "column"] (spRed (c.cl 6)) := dfmt_mk j_Tableau_reduced d_Tableau_reduced (fun fd F => ok_Tableau_reduced F T TC) fun _ _ _ _ _ _ us hl => match us, hl with | [_, _, _, _], _ => rfl
  have D_Tableau_turn : DfMt P w c.K mg base CX0 2 (c.cl 6) "turn" ["self", "index", "column"] (spTurn (c.cl 6)) := dfmt_mk j_Tableau_turn d_Tableau_turn (fun fd F => ok_Tableau_turn F T TC D_Tableau_reduced) fun _ _ _ _ _ _ us hl => match us, hl with | [_, _, _], _ => rfl
  have D_Tableau_mix_numbers : DfMt P w c.K mg base CX0 1 (c.cl 6) "mix_numbers" ["self"] (spMix (c.cl 6)) := dfmt_mk j_Tableau_mix_numbers d_Tableau_mix_numbers (fun fd F => ok_Tableau_mix_numbers F T TC) fun _ _ _ _ _ _ us hl => match us, hl with | [_], _ => rfl
  have D_Tableau_endless_numbers : DfMt P w c.K mg base CX0 1 (c.cl 6) "endless_numbers" ["self", "column"] (spEnd (c.cl 6)) := dfmt_mk j_Tableau_endless_numbers d_Tableau_endless_numbers (fun fd F => ok_Tableau_endless_numbers F T TC) fun _ _ _ _ _ _ us hl => match us, hl with | [_, _], _ => rfl
  have D_best_mix : Df P w c.K mg base (L2.CX P w) 6 "best_mix" ["rows", "bounds", "worths"] (spBest c) := df_mk d_best_mix (PySem.W.mg_of X G d_best_mix.a) (fun fd F => ok_best_mix F T TC D_check_program D_common_divisor D_Tableau D_Tableau_entering D_Tableau_leaving D_Tableau_turn D_Tableau_mix_numbers D_Tableau_endless_numbers) fun _ _ _ _ _ _ us hl => match us, hl with | [_, _, _], _ => rfl
  have Dk_best_mix : DfK P w c.K mg base (L2.CX P w) 6 "best_mix" ["rows", "bounds", "worths"] 0 ["worths", "rows", "bounds"] (fun _ ws => permL .none [1, 2, 0] ws) (fun _ zs => permL .non [1, 2, 0] zs) (spBest c) := dfk_mk d_best_mix (PySem.W.mg_of X G d_best_mix.a) (fun fd F => ok_best_mix F T TC D_check_program D_common_divisor D_Tableau D_Tableau_entering D_Tableau_leaving D_Tableau_turn D_Tableau_mix_numbers D_Tableau_endless_numbers) fun _ _ _ _ _ _ => ⟨fun s us ws _ h1 h2 => match us, h1, ws, h2 with | [], _, [_, _, _], _ => .of_eq rfl, fun _ r => vals_perm r _⟩
  have D_l_told : Df P w c.K mg base CX0 8 "_law_told" ["_law_lines", "_law_caps", "_law_gains"] (spToldL c) := df_mk d_l_told (PySem.W.mg_of X G d_l_told.a) (fun fd F => ok_l_told F T R X_BadCount X_BadBound Dk_best_mix) fun _ _ _ _ _ _ us hl => match us, hl with | [_, _, _], _ => rfl
  have D_l_whole : Df P w c.K mg base CX0 1 "_law_whole" ["_law_items", "_law_size"] (spWhole c) := df_mk d_l_whole (PySem.W.mg_of X G d_l_whole.a) (fun fd F => ok_l_whole F T) fun _ _ _ _ _ _ us hl => match us, hl with | [_, _], _ => rfl
  have D_l_dot : Df P w c.K mg base CX0 1 "_law_dot" ["_law_one", "_law_other"] (spDot c) := df_mk d_l_dot (PySem.W.mg_of X G d_l_dot.a) (fun fd F => ok_l_dot F T) fun _ _ _ _ _ _ us hl => match us, hl with | [_, _], _ => rfl
  have D_l_divisor : Df P w c.K mg base CX0 1 "_law_divisor" ["_law_numbers"] (spDiv c) := df_mk d_l_divisor (PySem.W.mg_of X G d_l_divisor.a) (fun fd F => ok_l_divisor F T) fun _ _ _ _ _ _ us hl => match us, hl with | [_], _ => rfl
  have D_l_right : Df P w c.K mg base CX0 2 "_law_right" ["_law_lines", "_law_caps", "_law_gains", "_law_told_here"] (spRight c) := df_mk d_l_right (PySem.W.mg_of X G d_l_right.a) (fun fd F => ok_l_right F T D_l_whole D_l_dot D_l_divisor) fun _ _ _ _ _ _ us hl => match us, hl with | [_, _, _, _], _ => rfl
  exact ok_law F T D_l_start D_l_take D_l_drawn D_l_round D_l_market D_l_due D_l_told D_l_right D_best_mix
end B
namespace B.Hd
open PySem L2 B
end B.Hd
namespace B.Hd
open PySem PySem.Spec PyProof.Rows L2 B
theorem bt {K : PySem.W.Frag} {h : Heap} {mg : Str → Option Value} (KX : K.In h) (G : h.Ns mainGlobals mg) (c : SaysK fk fn K) : Bt mg := by
  constructor
  all_goals first
    | exact hk_free KX G (c.fact 38)
    | exact hk_free KX G (c.fact 39)
    | exact hk_free KX G (c.fact 40)
    | exact hk_free KX G (c.fact 41)
    | exact hk_free KX G (c.fact 42)
    | exact hk_free KX G (c.fact 43)
    | exact hk_free KX G (c.fact 44)
    | exact hk_free KX G (c.fact 45)
    | exact hk_free KX G (c.fact 46)
    | exact hk_free KX G (c.fact 47)
    | exact hk_free KX G (c.fact 48)
    | exact hk_free KX G (c.fact 49)
    | exact hk_free KX G (c.fact 50)
    | exact hk_free KX G (c.fact 51)
    | exact hk_free KX G (c.fact 52)
    | exact hk_free KX G (c.fact 53)
    | exact hk_free KX G (c.fact 54)
theorem facts {P : Program} {w : World} {K : PySem.W.Frag} {h : Heap} {mg : Str → Option Value} {fa : Addr} (KX : K.In h) (G : h.Ns mainGlobals mg) (hmg : mg ("law" : Str) = some (.ref fa)) (c : SaysK fk fn K) : ∃ fd : FuncData, (∀ (s : Shared) (v : Value), BindsTo s fd ⟨[v], []⟩ [("_law_script", v)]) ∧ ∀ base : Heap, K.In base → base.Ns mainGlobals mg → FnOk P w K mg base CX0 9 fa fd ["_law_script"] (spLaw K) :=
  B.all_mk KX G hmg (bt KX G c)
    (B.hk_dt (c.fact 0) (c.def_ 0)) (B.hk_dt (c.fact 1) (c.def_ 1)) (B.hk_dt (c.fact 2) (c.def_ 2)) (B.hk_dt (c.fact 3) (c.def_ 3))
    (B.hk_dt (c.fact 4) (c.def_ 4)) (B.hk_dt (c.fact 5) (c.def_ 5)) (B.hk_dt (c.fact 6) (c.def_ 6)) (B.hk_dt (c.fact 7) (c.def_ 7))
    (B.hk_dt (c.fact 8) (c.def_ 8)) (B.hk_dt (c.fact 9) (c.def_ 9)) (B.hk_dt (c.fact 10) (c.def_ 10)) (B.hk_dt (c.fact 11) (c.def_ 11))
    (B.hk_dt (c.fact 12) (c.def_ 12)) (B.hk_dt (c.fact 13) (c.def_ 13)) (B.hk_dt (c.fact 14) (c.def_ 14)) (B.hk_bce KX G (c.fact 15))
    (B.hk_dm KX G (c.fact 16) (c.fact 17) (c.fact 18) (c.def_ 15)) (B.hk_dm KX G (c.fact 19) (c.fact 20) (c.fact 21) (c.def_ 16)) (B.hk_cls KX G (c.fact 22) (c.fact 23)) (B.hk_noat (c.fact 24))
    (B.hk_noat (c.fact 25)) (B.hk_noat (c.fact 26)) (B.hk_noat (c.fact 27)) (B.hk_noat (c.fact 28))
    (B.hk_ini (c.fact 29)) (c.def_ 17) (B.hk_meth (c.fact 30)) (c.def_ 18)
    (B.hk_meth (c.fact 31)) (c.def_ 19) (B.hk_meth (c.fact 32)) (c.def_ 20)
    (B.hk_meth (c.fact 33)) (c.def_ 21) (B.hk_meth (c.fact 34)) (c.def_ 22)
    (B.hk_meth (c.fact 35)) (c.def_ 23) (B.hk_meth (c.fact 36)) (c.def_ 24)
    (B.hk_ers (c.fact 37))
end B.Hd
open PySem PySem.W PySem.Calls PyProof.Rows
set_option maxRecDepth 100000 in
set_option maxHeartbeats 0 in
theorem PySem.Challenge.cw_bundlekinds_k83_best_mix_holds : PySem.Challenge.rw_bundlekinds_k83_best_mix.Holds := by
  w_on; o_law
  refine HandSHeadRun.head_any (r := OpenLaw.row PySem.Challenge.rw_bundlekinds_k83_best_mix) (q := view (OpenLaw.row PySem.Challenge.rw_bundlekinds_k83_best_mix).prog [21]) (H := B.Hd.hk) (ob := B.Hd.ob) (M := 20000) (loose := B.Hd.loose) (d := HandSHeadRun.topDef (OpenLaw.row PySem.Challenge.rw_bundlekinds_k83_best_mix).prog 21) (kwd := []) B.Hd.ob_eq
    (by kernel_rfl) (fun s => by kernel_rfl) B.Hd.run (by kernel_rfl) (by kernel_rfl) (by kernel_rfl) (by rfl) (by first | assumption | decide +kernel) (by decide +kernel) ⟨rfl, rfl, rfl, rfl, rfl, by decide +kernel⟩ ?hw ?hc
  case hw => w_witness2
  case hc =>
    exact B.walkS (l := PySem.Challenge.rw_bundlekinds_k83_best_mix) (k := 9) ⟨rfl, by decide, by decide⟩ rfl (by kernel_rfl) (by kernel_rfl) (fun w K mg fa h KX G hmg c => B.Hd.facts KX G hmg c)
#print axioms PySem.Challenge.cw_bundlekinds_k83_best_mix_holds
