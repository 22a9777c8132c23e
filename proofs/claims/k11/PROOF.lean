import PyProof.Rows.All
import Wide.All
import OpenK.AllK
import Wide.FinOn
import HandS.ForMost
import HandS.Wide
import HandS.Evl
import HandS.Exc
import HandS.TryMany
import HandS.ExcInit
import HandS.ExcField
import HandS.ExcIs
import HandS.IsInst
import HandS.Style
import HandS.TupAny
import HandS.TupLe
import HandS.Flow
import HandS.Defaults
import KE.DataEq
import KE.LtData
import HandS.ClsMeth
import KE.KExcIs
import HandS.ExcOwn
import HandS.WordsExc
import KE.SortKeyHeap
import HandS.SortKw
import PySem.Challenge.RW_bundlekinds_k11_bundles
set_option Elab.async false
set_option linter.all false
set_option maxRecDepth 100000
set_option maxHeartbeats 4000000
namespace B
open PySem L2
open PySem.Spec PyProof.Rows
/-! B0: readings that are the run itself (WE, WT, WA, WS, WB), so that a body is read from the left, statement by statement -/
section
variable {X : Cx} {e : Expr} {es : List Expr} {s : Stmt} {ss : List Stmt} {σ : L2.St} {H : Hp} {D D' : Ends}
def WE (X : Cx) (e : Expr) : TE := fun σ H Q => ∀ (pins : List (Addr × Obj)) (s : Shared), Inv X pins σ H s → wpAny (model X.prog X.w) X.A (eval e X.env) (EP X pins σ Q) X.xe s
def WT (X : Cx) (e : Expr) : TT := fun σ H Q => ∀ (pins : List (Addr × Obj)) (s : Shared), Inv X pins σ H s → wpAny (model X.prog X.w) X.A (isTrue e X.env (eval e X.env)) (TP X pins σ Q) X.xe s
def WA (X : Cx) (es : List Expr) : TA := fun σ H Q => ∀ (pos : Pos) (pins : List (Addr × Obj)) (s : Shared), Inv X pins σ H s → wpAny (model X.prog X.w) X.A (spliced (backTo pos (starEach es X.env))) (AP X pins σ Q) X.xe s
def WS (X : Cx) (st : Stmt) : TS := fun D σ H => ∀ (pins : List (Addr × Obj)) (s : Shared), Inv X pins σ H s → wpAny (model X.prog X.w) X.A (exec st X.env) (SP X pins D) X.xe s
def WB (X : Cx) (ss : List Stmt) : TS := fun D σ H => ∀ (pins : List (Addr × Obj)) (s : Shared), Inv X pins σ H s → wpAny (model X.prog X.w) X.A (execs ss X.env) (SP X pins D) X.xe s
theorem we : PE X e (WE X e) := ⟨fun pins s _ _ _ I h => h pins s I⟩
theorem wt : PT X e (WT X e) := ⟨fun pins s _ _ _ I h => h pins s I⟩
theorem wa : PA X es (WA X es) := ⟨fun pos pins s _ _ _ I h => h pos pins s I⟩
theorem ws : PS X s (WS X s) := ⟨fun pins s _ _ _ I h => h pins s I⟩
theorem wb : PSs X ss (WB X ss) := ⟨fun pins s _ _ _ I h => h pins s I⟩
theorem WE.of {t : TE} {Q : VK} (p : PE X e t) (h : t σ H Q) : WE X e σ H Q := fun pins s I => p.run pins s σ H Q I h
theorem WT.of {t : TT} {Q : Bool → Hp → Prop} (p : PT X e t) (h : t σ H Q) : WT X e σ H Q := fun pins s I => p.run pins s σ H Q I h
theorem WA.of {t : TA} {Q : List V → Hp → Prop} (p : PA X es t) (h : t σ H Q) : WA X es σ H Q := fun pos pins s I => p.run pos pins s σ H Q I h
theorem WS.of {t : TS} (p : PS X s t) (h : t D σ H) : WS X s D σ H := fun pins s' I => p.run pins s' σ H D I h
theorem WB.of {t : TS} (p : PSs X ss t) (h : t D σ H) : WB X ss D σ H := fun pins s' I => p.run pins s' σ H D I h
theorem WE.mono {Q Q' : VK} (h : WE X e σ H Q) (k : ∀ v H', Q v H' → Q' v H') : WE X e σ H Q' := fun pins s I =>
  thn (h pins s I) fun _ _ ⟨v, H', I', r, q⟩ => ⟨v, H', I', r, k v H' q⟩
theorem WT.mono {Q Q' : Bool → Hp → Prop} (h : WT X e σ H Q) (k : ∀ v H', Q v H' → Q' v H') : WT X e σ H Q' := fun pins s I =>
  thn (h pins s I) fun b _ ⟨H', I', q⟩ => ⟨H', I', k b H' q⟩
theorem WB.mono (h : WB X ss D σ H) (hn : ∀ σ' H', D.nx σ' H' → D'.nx σ' H') (hr : ∀ v H', D.rt v H' → D'.rt v H') (hb : ∀ σ' H', D.bk σ' H' → D'.bk σ' H') (hc : ∀ σ' H', D.ct σ' H' → D'.ct σ' H') : WB X ss D' σ H := fun pins s I =>
  thn (h pins s I) fun f s' q => by
    cases f with
    | next => obtain ⟨σ', H', I', q⟩ := q; exact ⟨σ', H', I', hn _ _ q⟩
    | brk => obtain ⟨σ', H', I', q⟩ := q; exact ⟨σ', H', I', hb _ _ q⟩
    | cont => obtain ⟨σ', H', I', q⟩ := q; exact ⟨σ', H', I', hc _ _ q⟩
    | ret v => obtain ⟨v, σ', H', I', r, q⟩ := q; exact ⟨v, σ', H', I', r, hr _ _ q⟩
/-- the next statement -/
theorem nxt {t : TS} (p : PS X s t) (h : t { D with nx := WB X ss D } σ H) : WB X (s :: ss) D σ H := WB.of (pss_cons p wb) h
theorem last {t : TS} (p : PS X s t) (h : t D σ H) : WB X [s] D σ H := WB.of (pss_one p) h
theorem fin (h : D.nx σ H) : WB X [] D σ H := WB.of pss_nil h
/-- a test's, a value's answer by what is known of it -/
theorem wt_by {c : Expr} {tc : TT} {R : Bool → Hp → Prop} (hc : PT X c tc) (Pq : Bool → Hp → Prop) (h : tc σ H Pq) (k : ∀ b H', Pq b H' → R b H') : WT X c σ H R := WT.mono (WT.of hc h) k
theorem we_by {c : Expr} {tc : TE} {R : VK} (hc : PE X c tc) (Pq : VK) (h : tc σ H Pq) (k : ∀ b H', Pq b H' → R b H') : WE X c σ H R := WE.mono (WE.of hc h) k
/-- a module's constant -/
theorem pgI {x : Str} {i : Int} {pos : Pos} (h : ∃ t, X.mg x = some (.int i t)) (hg : Gl X x := by rfl) (hd : (x == ("__debug__" : Str)) = false := by decide) : PE X (.Name x pos) (tC (.int i)) := by
  obtain ⟨t, h⟩ := h
  exact pe_glob hg h ⟨_, rfl⟩ hd
theorem pgS {x z : Str} {pos : Pos} (h : ∃ t, X.mg x = some (.str z t)) (hg : Gl X x := by rfl) (hd : (x == ("__debug__" : Str)) = false := by decide) : PE X (.Name x pos) (tC (.str z)) := by
  obtain ⟨t, h⟩ := h
  exact pe_glob hg h ⟨_, rfl⟩ hd
/-- the next statement, what is behind it by a letter -/
theorem nxtN {t : TS} (p : PS X s t) (h : ∀ N : L2.St → Hp → Prop, (∀ σ' H', WB X ss D σ' H' → N σ' H') → t { D with nx := N } σ H) : WB X (s :: ss) D σ H := nxt p (h _ fun _ _ q => q)
/-- .. by what holds between -/
theorem nxtC {t : TS} (p : PS X s t) (M : L2.St → Hp → Prop) (h : t { D with nx := M } σ H) (k : ∀ σ' H', M σ' H' → WB X ss D σ' H') : WB X (s :: ss) D σ H := WB.of (Evl.pss_cut p wb) ⟨M, h, k⟩
/-! ### o[i] of a list, for o[i] += e -/
def rGetL (K : PySem.W.Frag) : V → V → Hp → VK → Prop := fun o i H Q => ∃ (p : Addr) (xs : List V) (j : Nat) (v : V), o = .ref p ∧ i = .int (j : Int) ∧ SqL K H p xs ∧ xs[j]? = some v ∧ Q v H
theorem get_list : PGet X (rGetL X.K) := by
  intro pins s σ H o i ov iv Q I ro ri h
  obtain ⟨p, xs, j, v, rfl, rfl, hq, he, q⟩ := h
  cases ro
  obtain ⟨t, rfl⟩ := ri
  obtain ⟨its, r, pl, hz⟩ := I.list hq
  obtain ⟨w, ew, rw'⟩ := r.get he
  have hl := r.length
  have hn := line63
  have hj : j < xs.length := (List.getElem?_eq_some_iff.mp he).1
  exact wpAny_getItem_list pl.isList (by omega) (by omega) (by simpa using ew) ⟨v, H, I, rw', q⟩
/-! ### a text from behind -/
def revS (z : Str) : Str := ⟨z.cps.toList.reverse.toArray⟩
def tRevS (te : TE) : TE := fun σ H Q => te σ H fun x H1 => ∃ z : Str, x = .str z ∧ z.length ≤ sizeLine ∧ Q (.str (revS z)) H1
theorem rev_at (z : Str) : ((Builtin.Str.strSliceIndices none none (-1) z.length).filterMap (z.cps[·]?)) = z.cps.toList.reverse := by
  have e : Builtin.Str.strSliceIndices none none (-1) z.length = sliceRange ((z.length : Int) - 1) (-1) (-1) := by
    unfold Builtin.Str.strSliceIndices
    rfl
  rw [e, PySem.W.krv_sliceRange, PySem.W.krv_range, List.filterMap_reverse]
  congr 1
  show (List.range z.cps.size).filterMap (z.cps[·]?) = _
  exact PySem.W.krv_all _
theorem pe_revS {e : Expr} {te : TE} {k : Nat} {p1 p2 p3 pos : Pos} (he : PE X e te) : PE X (.Subscript e (.Slice none none (some (.UnaryOp .USub (.Constant (.int 1) k p1) p2)) p3) pos) (tRevS te) := by
  refine ⟨fun pins s σ H Q I h => ?_⟩
  refine Subscript_ (thn (he.run pins s σ H _ I h) fun v s1 ⟨x, H1, I1, r1, q1⟩ => ?_)
  obtain ⟨z, ex, hz, q⟩ := q1
  subst ex
  obtain ⟨t, rfl⟩ := r1
  have hst : PO X (some (.UnaryOp .USub (.Constant (.int 1) k p1) p2)) (tPart (tUn (rU fun i => .int (-i)) (tC (.int 1)))) := po_some (pe_un un_neg pe_int)
  refine wpAny_Slice (thn (po_none.run pins s1 σ H1 (fun o H2 => o = none ∧ H2 = H1) I1 ⟨rfl, rfl⟩) fun vl s2 ⟨l, H2, I2, pl, el, e2⟩ => ?_)
  subst el e2
  refine thn (po_none.run pins s2 σ H2 (fun o H3 => o = none ∧ H3 = H2) I2 ⟨rfl, rfl⟩) fun vu s3 ⟨u, H3, I3, pu, eu, e3⟩ => ?_
  subst eu e3
  refine thn (hst.run pins s3 σ H3 (fun o H4 => o = some (-1) ∧ H4 = H3) I3 ⟨1, rfl, -1, rfl, rfl, rfl⟩) fun vs s4 ⟨o, H4, I4, ps, eo, e4⟩ => ?_
  subst eo e4
  have I5 : Inv X pins σ H4 { s4 with heap := s4.heap.push { cls := .type "slice", data := .fields #[vl, vu, vs] } } := I4.kept (t' := s4.toks) fun b ob q => Heap.get?_push_of_some _ q
  obtain ⟨l1, rfl, hl1⟩ := IsPart.raw pl
  obtain ⟨u1, rfl, hu1⟩ := IsPart.raw pu
  obtain ⟨k1, rfl, hk1⟩ := IsPart.raw ps
  show wpAny (model X.prog X.w) X.A (subscriptTail e (.Slice none none (some (.UnaryOp .USub (.Constant (.int 1) k p1) p2)) p3) (.str z t) (.ref s4.heap.objs.size)) (EP X pins σ Q) X.xe { s4 with heap := s4.heap.push { cls := .type "slice", data := .fields #[partValue l1, partValue u1, partValue k1] } }
  refine tail_any (ops := [.str z t, .ref s4.heap.objs.size]) (typeIs_str _ _ _) (F.slot_str_getitem.lookup) ?_ (by with_unfolding_all rfl)
  have hk2 : (k1.map (·.1)).getD 1 = -1 := by rw [hk1]; rfl
  refine wpAny_getItem_str_slice (l := l1) (u := u1) (st := k1) ⟨_, Heap.get?_push_size _ rfl, rfl, rfl⟩ (by rw [hk2]; rfl) ?_
  unfold sliceMade
  rw [hk2, if_neg (by intro h; simp at h)]
  have e : (slicePicked z l1 u1 k1).filterMap (z.cps[·]?) = z.cps.toList.reverse := by
    unfold slicePicked
    rw [hk2, hl1, hu1]
    exact rev_at z
  rw [e]
  have hl : (⟨z.cps.toList.reverse.toArray⟩ : Str).length ≤ sizeLine := by
    have : (⟨z.cps.toList.reverse.toArray⟩ : Str).length = z.length := by simp [Str.length]
    rw [this]; exact hz
  exact ⟨hl, .str _, H4, I5.tok _, ⟨_, rfl⟩, q⟩
end
/-! ### a def of the text, with its promise -/
structure Df (P : Program) (w : World) (K : PySem.W.Frag) (mg : Str → Option Value) (base : Heap) (CX : CXT) (k : Nat) (x : Str) (ps : List Str) (sp : Sp) : Prop where
  ex : ∃ (f : Addr) (fd : FuncData), mg x = some (.ref f) ∧ PySem.W.keepIn K (.ref f) = true ∧ Binds K fd ps [] ∧ FnOk P w K mg base CX k f fd ps sp
section
variable {X : Cx} {CX : CXT} {k : Nat} {x : Str} {ps : List Str} {sp : Sp} {E : XK} {e : Expr} {es : List Expr} {t tk : TA} {p pos : Pos} {kws : List Keyword}
theorem pcx (F : Df X.prog X.w X.K X.mg X.base CX k x ps sp) (hr : Room k X.A) (hx : Passes CX X E) (ha : PA X (e :: es) t) (hg : Gl X x := by rfl) (hdb : (x == ("__debug__" : Str)) = false := by decide) (he : starEach (e :: es) X.env = (false, eval e X.env) :: starEach es X.env := by rfl) (hpl : (backTo pos (starEach es X.env)).any (·.1) = false := by rfl) :
    PE X (.Call (.Name x p) (e :: es) [] pos) (tCall sp [] E t) := by
  obtain ⟨f, fd, h1, h2, h3, h4⟩ := F.ex
  exact pe_call h4 hr hg h1 h2 h3 .nil hx ha hdb he hpl
theorem pc (F : Df X.prog X.w X.K X.mg X.base CX0 k x ps sp) (hr : Room k X.A) (ha : PA X (e :: es) t) (hg : Gl X x := by rfl) (hdb : (x == ("__debug__" : Str)) = false := by decide) (he : starEach (e :: es) X.env = (false, eval e X.env) :: starEach es X.env := by rfl) (hpl : (backTo pos (starEach es X.env)).any (·.1) = false := by rfl) :
    PE X (.Call (.Name x p) (e :: es) [] pos) (tCall sp [] E0 t) := pcx F hr pass0 ha hg hdb he hpl
theorem pc0 (F : Df X.prog X.w X.K X.mg X.base CX0 k x ps sp) (hr : Room k X.A) (hg : Gl X x := by rfl) (hdb : (x == ("__debug__" : Str)) = false := by decide) : PE X (.Call (.Name x p) [] [] pos) (tCall sp [] E0 tNil) := by
  obtain ⟨f, fd, h1, h2, h3, h4⟩ := F.ex
  exact pe_call0 h4 hr hg h1 h2 h3 .nil pass0 hdb
end
/-- a def with how keywords bind to it: n values by place, then the keywords ks -/
structure DfK (P : Program) (w : World) (K : PySem.W.Frag) (mg : Str → Option Value) (base : Heap) (CX : CXT) (k : Nat) (x : Str) (ps : List Str) (n : Nat) (ks : List Str) (g : List Value → List Value → List Value) (gV : List V → List V → List V) (sp : Sp) : Prop where
  ex : ∃ (f : Addr) (fd : FuncData), mg x = some (.ref f) ∧ PySem.W.keepIn K (.ref f) = true ∧ KBn K fd ps n ks g gV ∧ FnOk P w K mg base CX k f fd ps sp
section
variable {X : Cx} {CX : CXT} {k n : Nat} {x : Str} {ps ks : List Str} {sp : Sp} {E : XK} {e : Expr} {es : List Expr} {t tk : TA} {p pos : Pos} {kws : List Keyword} {g : List Value → List Value → List Value} {gV : List V → List V → List V}
theorem pcxK (F : DfK X.prog X.w X.K X.mg X.base CX k x ps n ks g gV sp) (hr : Room k X.A) (hx : Passes CX X E) (ha : PA X (e :: es) t) (hkw : PK X kws tk) (hg : Gl X x := by rfl) (hall : (backToKw pos (keywordEach kws X.env)).all (·.1.isSome) = true := by rfl) (hks : (backToKw pos (keywordEach kws X.env)).filterMap (·.1) = ks := by rfl)
    (hdb : (x == ("__debug__" : Str)) = false := by decide) (he : starEach (e :: es) X.env = (false, eval e X.env) :: starEach es X.env := by rfl)
    (hpl : ((backTo pos (starEach (e :: es) X.env)).any (·.1) || (backToKw pos (keywordEach kws X.env)).any (·.1.isNone)) = false := by rfl) : PE X (.Call (.Name x p) (e :: es) kws pos) (tCallN n ks.length sp gV E t tk) := by
  obtain ⟨f, fd, h1, h2, h3, h4⟩ := F.ex
  exact pe_callN h4 hr hg h1 h2 h3 hx ha hkw hall hks hdb he hpl
theorem pcxK0 (F : DfK X.prog X.w X.K X.mg X.base CX k x ps 0 ks g gV sp) (hr : Room k X.A) (hx : Passes CX X E) (hkw : PK X kws tk) (hg : Gl X x := by rfl) (hall : (backToKw pos (keywordEach kws X.env)).all (·.1.isSome) = true := by rfl) (hks : (backToKw pos (keywordEach kws X.env)).filterMap (·.1) = ks := by rfl)
    (hdb : (x == ("__debug__" : Str)) = false := by decide) (hpl : ((backTo pos (starEach [] X.env)).any (·.1) || (backToKw pos (keywordEach kws X.env)).any (·.1.isNone)) = false := by rfl) : PE X (.Call (.Name x p) [] kws pos) (tCallN 0 ks.length sp gV E tNil tk) := by
  obtain ⟨f, fd, h1, h2, h3, h4⟩ := F.ex
  refine ⟨fun pins s σ H Q I h => ?_⟩
  refine wpAny_Call_Name_kw (ld_glob I hg h1 ?_ hdb)
  refine PySem.W.callWith_KW0 (h₀ := X.base) I.ok.mod.kin h2 hall ?_ hpl
  refine thn (hkw.run pos pins s σ H _ I h) fun ws s2 ⟨zs, H2, I2, rz, l1, l2, q2⟩ => ⟨I2.kIn, ?_⟩
  rw [hks]
  exact run_fnN (us := []) (vs := []) h4 hr h3 hx I2 .nil rz rfl l2 q2
theorem pcK (F : DfK X.prog X.w X.K X.mg X.base CX0 k x ps n ks g gV sp) (hr : Room k X.A) (ha : PA X (e :: es) t) (hkw : PK X kws tk) (hg : Gl X x := by rfl) (hall : (backToKw pos (keywordEach kws X.env)).all (·.1.isSome) = true := by rfl) (hks : (backToKw pos (keywordEach kws X.env)).filterMap (·.1) = ks := by rfl)
    (hdb : (x == ("__debug__" : Str)) = false := by decide) (he : starEach (e :: es) X.env = (false, eval e X.env) :: starEach es X.env := by rfl)
    (hpl : ((backTo pos (starEach (e :: es) X.env)).any (·.1) || (backToKw pos (keywordEach kws X.env)).any (·.1.isNone)) = false := by rfl) : PE X (.Call (.Name x p) (e :: es) kws pos) (tCallN n ks.length sp gV E0 t tk) := pcxK F hr pass0 ha hkw hg hall hks hdb he hpl
theorem pcK0 (F : DfK X.prog X.w X.K X.mg X.base CX0 k x ps 0 ks g gV sp) (hr : Room k X.A) (hkw : PK X kws tk) (hg : Gl X x := by rfl) (hall : (backToKw pos (keywordEach kws X.env)).all (·.1.isSome) = true := by rfl) (hks : (backToKw pos (keywordEach kws X.env)).filterMap (·.1) = ks := by rfl)
    (hdb : (x == ("__debug__" : Str)) = false := by decide) (hpl : ((backTo pos (starEach [] X.env)).any (·.1) || (backToKw pos (keywordEach kws X.env)).any (·.1.isNone)) = false := by rfl) : PE X (.Call (.Name x p) [] kws pos) (tCallN 0 ks.length sp gV E0 tNil tk) := pcxK0 F hr pass0 hkw hg hall hks hdb hpl
end
/-! ### built-ins that the text leaves alone -/
structure Bt (mg : Str → Option Value) : Prop where
  len : mg "len" = none
  abs : mg "abs" = none
  int : mg "int" = none
  str : mg "str" = none
  bool : mg "bool" = none
  list : mg "list" = none
  tuple : mg "tuple" = none
  dict : mg "dict" = none
  range : mg "range" = none
  enumerate : mg "enumerate" = none
  zip : mg "zip" = none
  sorted : mg "sorted" = none
  sum : mg "sum" = none
  max : mg "max" = none
  min : mg "min" = none
  all : mg "all" = none
  isinstance : mg "isinstance" = none
end B
namespace B
open PySem L2
/-! B1: heaps that grow; the drawing state of a law -/
section
variable {H H' H2 : Hp} {p a b : Addr} {o u : HO} {K : PySem.W.Frag} {xs : List V}
theorem sm_new (h : H p = none) : Same H (upd H p o) := fun a u e => by
  rw [upd_ne (ne_of_none e h)]
  exact e
@[elab_as_elim] theorem upd_gen {motive : Hp → Prop} (np : H p = none) (h : ∀ H1, Same H H1 → H1 p = some o → motive H1) : motive (upd H p o) := h _ (sm_new np) upd_same
theorem sm_t (e : Same H H') (h : SqT K H a xs) : SqT K H' a xs := by
  rcases h with (h | ⟨o, h⟩) | h
  · exact .inl (.inl (e _ _ h))
  · exact .inl (.inr ⟨o, e _ _ h⟩)
  · exact .inr h
theorem sm_l (e : Same H H') (h : SqL K H a xs) : SqL K H' a xs := e.seq h
theorem sqL (h : H a = some (.lst xs)) : SqL K H a xs := Or.inl (Or.inl h)
theorem sqT (h : H a = some (.tup xs)) : SqT K H a xs := Or.inl (Or.inl h)
/-- the objects of the drawing state at p: the state itself and its lists -/
def Own (H : Hp) (p b : Addr) : Prop := b = p ∨ ∃ x y n, H p = some (.lst [x, y, n]) ∧ (x = .ref b ∨ y = .ref b)
structure Kp (p : Addr) (H H' : Hp) : Prop where
  keep : ∀ b o, H b = some o → ¬ Own H p b → H' b = some o
  own : ∀ b, Own H' p b → Own H p b ∨ H b = none
  has : ∀ b o, H b = some o → ∃ o', H' b = some o'
theorem Kp.refl (p : Addr) (H : Hp) : Kp p H H := ⟨fun _ _ h _ => h, fun _ h => .inl h, fun _ o h => ⟨o, h⟩⟩
theorem Kp.free (x : Kp p H H') (h : H' b = none) : H b = none := by
  cases q : H b with
  | none => rfl
  | some o =>
    obtain ⟨o', e⟩ := x.has b o q
    rw [h] at e; cases e
theorem Kp.trans (x : Kp p H H') (y : Kp p H' H2) : Kp p H H2 := by
  refine ⟨fun b o h n => y.keep b o (x.keep b o h n) fun z => ?_, fun b z => ?_, fun b o h => ?_⟩
  · rcases x.own b z with w | w
    · exact n w
    · rw [h] at w; cases w
  · rcases y.own b z with w | w
    · exact x.own b w
    · cases q : H b with
      | none => exact .inr rfl
      | some u =>
        by_cases c : Own H p b
        · exact .inl c
        · rw [x.keep b u q c] at w; cases w
  · obtain ⟨o1, h1⟩ := x.has b o h
    exact y.has b o1 h1
/-- an object that is none of the state's -/
def At (p : Addr) (H : Hp) (b : Addr) (o : HO) : Prop := H b = some o ∧ ¬ Own H p b
theorem At.kp (h : At p H b o) (k : Kp p H H') : At p H' b o := by
  refine ⟨k.keep b o h.1 h.2, fun z => ?_⟩
  rcases k.own b z with w | w
  · exact h.2 w
  · rw [h.1] at w; cases w
theorem own_same (e : H' p = H p) : Own H' p b ↔ Own H p b := by
  unfold Own
  rw [e]
/-- what grows keeps all -/
theorem Kp.same (e : Same H H') (hp : H p = some o) : Kp p H H' :=
  ⟨fun b o h _ => e b o h, fun b z => .inl ((own_same ((e _ _ hp).trans hp.symm)).mp z), fun b o h => ⟨o, e b o h⟩⟩
/-- an object that H does not know, and that isn't the state, may change -/
theorem Kp.mut (k : Kp p H H') (h : H b = none) (n : b ≠ p) : Kp p H (upd H' b o) := by
  refine ⟨fun a u q z => ?_, fun a z => ?_, fun a u q => ?_⟩
  · rw [upd_ne (ne_of_none q h)]; exact k.keep a u q z
  · exact k.own a ((own_same (upd_ne (Ne.symm n))).mp z)
  · rw [upd_ne (ne_of_none q h)]; exact k.has a u q
/-- .. stays apart from the state -/
theorem own_mut (n : b ≠ p) : Own (upd H b o) p a ↔ Own H p a := own_same (upd_ne (Ne.symm n))
end
end B
namespace B
open PySem L2
open PySem.Spec PyProof.Rows
/-! B2: data (PyData) that values stand for; ==, !=, in over them -/
mutual
theorem dp_plain {K : PySem.W.Frag} {H : Hp} : ∀ (d : PyData) (v : V), Dp K H v d → d.plain = true
  | .none, _, h => rfl
  | .bool _, _, h => rfl
  | .int _, _, h => rfl
  | .str _, _, h => rfl
  | .list ds, v, h => by
    cases h with
    | lst h1 h2 => exact dp_plainAll ds _ h2
  | .tuple ds, v, h => by
    cases h with
    | tup h1 h2 => exact dp_plainAll ds _ h2
  | .dict _, _, h => by cases h
theorem dp_plainAll {K : PySem.W.Frag} {H : Hp} : ∀ (ds : List PyData) (vs : List V), DpAll K H vs ds → PyData.plainAll ds = true
  | [], _, h => rfl
  | d :: ds, vs, h => by
    cases h with
    | cons h1 h2 => simp only [PyData.plainAll, dp_plain d _ h1, dp_plainAll ds _ h2, Bool.and_self]
end
mutual
theorem dp_same {K : PySem.W.Frag} {H H' : Hp} (e : Same H H') : ∀ (d : PyData) (v : V), Dp K H v d → Dp K H' v d
  | .none, _, h => by cases h; exact .non
  | .bool _, _, h => by cases h; exact .bl _
  | .int _, _, h => by cases h; exact .int _
  | .str _, _, h => by cases h; exact .str _
  | .list ds, v, h => by
    cases h with
    | lst h1 h2 => exact .lst (sm_l e h1) (dp_sameAll e ds _ h2)
  | .tuple ds, v, h => by
    cases h with
    | tup h1 h2 => exact .tup (sm_t e h1) (dp_sameAll e ds _ h2)
  | .dict _, _, h => by cases h
theorem dp_sameAll {K : PySem.W.Frag} {H H' : Hp} (e : Same H H') : ∀ (ds : List PyData) (vs : List V), DpAll K H vs ds → DpAll K H' vs ds
  | [], _, h => by cases h; exact .nil
  | d :: ds, vs, h => by
    cases h with
    | cons h1 h2 => exact .cons (dp_same e d _ h1) (dp_sameAll e ds _ h2)
end
/-- what is no list stays -/
def NLk (H H' : Hp) : Prop := ∀ b u, H b = some u → (∀ xs, u ≠ .lst xs) → H' b = some u
theorem NLk.refl (H : Hp) : NLk H H := fun _ _ h _ => h
theorem NLk.trans {H H1 H2 : Hp} (x : NLk H H1) (y : NLk H1 H2) : NLk H H2 := fun b u h n => y b u (x b u h n) n
theorem NLk.same {H H' : Hp} (e : Same H H') : NLk H H' := fun b u h _ => e b u h
theorem NLk.upd {H H' : Hp} {a : Addr} {xs : List V} {o : HO} (x : NLk H H') (h : H' a = some (.lst xs)) : NLk H (upd H' a o) := fun b u hb n => by
  have h1 := x b u hb n
  rw [upd_ne (fun e => by rw [e, h] at h1; cases h1; exact n xs rfl)]
  exact h1
theorem ts_t {K : PySem.W.Frag} {H H' : Hp} {a : Addr} {xs : List V} (e : NLk H H') (h : SqT K H a xs) : SqT K H' a xs := by
  rcases h with (h | ⟨o, h⟩) | h
  · exact .inl (.inl (e _ _ h fun _ z => nomatch z))
  · exact .inl (.inr ⟨o, e _ _ h fun _ z => nomatch z⟩)
  · exact .inr h
mutual
/-- no list lies within -/
def noL : PyData → Bool
  | .list _ => false
  | .tuple xs => noLs xs
  | .dict _ => false
  | _ => true
def noLs : List PyData → Bool
  | [] => true
  | x :: xs => noL x && noLs xs
end
mutual
theorem dp_ts {K : PySem.W.Frag} {H H' : Hp} (e : NLk H H') : ∀ (d : PyData) (v : V), noL d = true → Dp K H v d → Dp K H' v d
  | .none, _, _, h => by cases h; exact .non
  | .bool _, _, _, h => by cases h; exact .bl _
  | .int _, _, _, h => by cases h; exact .int _
  | .str _, _, _, h => by cases h; exact .str _
  | .list ds, v, n, h => by cases n
  | .tuple ds, v, n, h => by
    cases h with
    | tup h1 h2 => exact .tup (ts_t e h1) (dp_tsAll e ds _ n h2)
  | .dict _, _, _, h => by cases h
theorem dp_tsAll {K : PySem.W.Frag} {H H' : Hp} (e : NLk H H') : ∀ (ds : List PyData) (vs : List V), noLs ds = true → DpAll K H vs ds → DpAll K H' vs ds
  | [], _, _, h => by cases h; exact .nil
  | d :: ds, vs, n, h => by
    have n' : noL d = true ∧ noLs ds = true := by simpa [noLs] using n
    cases h with
    | cons h1 h2 => exact .cons (dp_ts e d _ n'.1 h1) (dp_tsAll e ds _ n'.2 h2)
end
theorem noLs_strs : ∀ xs : List Str, noLs (xs.map PyData.str) = true
  | [] => rfl
  | x :: xs => by simp [noLs, noL, noLs_strs xs]
theorem eqv_self {K : PySem.W.Frag} {H : Hp} {v : V} {d : PyData} (h : Dp K H v d) : PyData.eqv d d = true := SeqAt.eqv_refl_plain d (dp_plain _ _ h)
section
variable {X : Cx} {K : PySem.W.Frag} {H H' : Hp}
theorem Dp.same {v : V} {d : PyData} (h : Dp K H v d) (e : Same H H') : Dp K H' v d := dp_same e d v h
theorem dp_ints : ∀ ns : List Int, DpAll K H (ns.map V.int) (ns.map PyData.int)
  | [] => .nil
  | n :: ns => .cons (.int n) (dp_ints ns)
theorem dp_strs : ∀ ns : List Str, DpAll K H (ns.map V.str) (ns.map PyData.str)
  | [] => .nil
  | n :: ns => .cons (.str n) (dp_strs ns)
theorem dpL {a : Addr} {xs : List V} {ds : List PyData} (h : H a = some (.lst xs)) (k : DpAll K H xs ds) : Dp K H (.ref a) (.list ds) := .lst (sqL h) k
theorem dpT {a : Addr} {xs : List V} {ds : List PyData} (h : H a = some (.tup xs)) (k : DpAll K H xs ds) : Dp K H (.ref a) (.tuple ds) := .tup (sqT h) k
def rEqP (K : PySem.W.Frag) : R2 := fun x y H Q => ∃ d e, Dp K H x d ∧ Dp K H y e ∧ (d.depth ≤ 60 ∨ e.depth ≤ 60) ∧ Q (.bl (PyData.eqv d e)) H
def rNeP (K : PySem.W.Frag) : R2 := fun x y H Q => ∃ d e, Dp K H x d ∧ Dp K H y e ∧ (d.depth ≤ 60 ∨ e.depth ≤ 60) ∧ Q (.bl (!PyData.eqv d e)) H
theorem op_eqP (hu : X.A.units + 64 < cLine) : OpR X (compareOp .Eq) (rEqP X.K) := by
  intro pins s σ H x y v u Q I rx ry h
  obtain ⟨d, e, hd, he, hz, q⟩ := h
  obtain ⟨as, r1⟩ := Dp.reads I d x v hd rx
  obtain ⟨bs, r2⟩ := Dp.reads I e y u he ry
  exact SeqAt.eq_plain r1 r2 (dp_plain _ _ hd) (dp_plain _ _ he) (by omega) ⟨.bl _, H, I, rfl, q⟩
theorem op_neP (hu : X.A.units + 64 < cLine) : OpR X (compareOp .NotEq) (rNeP X.K) := by
  intro pins s σ H x y v u Q I rx ry h
  obtain ⟨d, e, hd, he, hz, q⟩ := h
  obtain ⟨as, r1⟩ := Dp.reads I d x v hd rx
  obtain ⟨bs, r2⟩ := Dp.reads I e y u he ry
  exact SeqAt.ne_plain r1 r2 (dp_plain _ _ hd) (dp_plain _ _ he) (by omega) ⟨.bl _, H, I, rfl, q⟩
/-- x in a list, a tuple of data -/
def rInP (K : PySem.W.Frag) (neg : Bool) : R2 := fun x y H Q => ∃ d ds, Dp K H x d ∧ (Dp K H y (.list ds) ∨ Dp K H y (.tuple ds)) ∧ (d.depth ≤ 60 ∨ PyData.depthAll ds ≤ 60) ∧ Q (.bl (if neg then !(ds.any fun z => PyData.eqv z d) else ds.any fun z => PyData.eqv z d)) H
theorem op_inP (hu : X.A.units + 64 < cLine) : OpR X (compareOp .In) (rInP X.K false) := by
  intro pins s σ H x y v u Q I rx ry h
  obtain ⟨d, ds, hd, he, hz, q⟩ := h
  obtain ⟨as, r1⟩ := Dp.reads I d x v hd rx
  rcases he with he | he
  · obtain ⟨bs, r2⟩ := Dp.reads I _ y u he ry
    exact SeqAt.in_list_data r2 r1 (dp_plain _ _ he) (dp_plain _ _ hd) (by omega) ⟨.bl _, H, I, rfl, q⟩
  · obtain ⟨bs, r2⟩ := Dp.reads I _ y u he ry
    exact SeqAt.in_tuple_data r2 r1 (dp_plain _ _ he) (dp_plain _ _ hd) (by omega) ⟨.bl _, H, I, rfl, q⟩
theorem op_notInP (hu : X.A.units + 64 < cLine) : OpR X (compareOp .NotIn) (rInP X.K true) := by
  intro pins s σ H x y v u Q I rx ry h
  obtain ⟨d, ds, hd, he, hz, q⟩ := h
  obtain ⟨as, r1⟩ := Dp.reads I d x v hd rx
  rcases he with he | he
  · obtain ⟨bs, r2⟩ := Dp.reads I _ y u he ry
    exact SeqAt.notIn_list_data r2 r1 (dp_plain _ _ he) (dp_plain _ _ hd) (by omega) ⟨.bl _, H, I, rfl, q⟩
  · obtain ⟨bs, r2⟩ := Dp.reads I _ y u he ry
    exact SeqAt.notIn_tuple_data r2 r1 (dp_plain _ _ he) (dp_plain _ _ hd) (by omega) ⟨.bl _, H, I, rfl, q⟩
/-! ### what == says of lists of texts, of ints -/
theorem eqv_strs : ∀ xs ys : List Str, PyData.eqvAll (xs.map PyData.str) (ys.map PyData.str) = decide (xs = ys)
  | [], [] => by simp [PyData.eqvAll]
  | [], _ :: _ => by simp [PyData.eqvAll]
  | _ :: _, [] => by simp [PyData.eqvAll]
  | x :: xs, y :: ys => by
    have ih := eqv_strs xs ys
    simp only [List.map_cons, PyData.eqvAll, PyData.eqv, ih, List.cons.injEq]
    by_cases h : x = y
    · subst h; simp
    · simp [h]
theorem eqv_ints : ∀ xs ys : List Int, PyData.eqvAll (xs.map PyData.int) (ys.map PyData.int) = decide (xs = ys)
  | [], [] => by simp [PyData.eqvAll]
  | [], _ :: _ => by simp [PyData.eqvAll]
  | _ :: _, [] => by simp [PyData.eqvAll]
  | x :: xs, y :: ys => by
    have ih := eqv_ints xs ys
    simp only [List.map_cons, PyData.eqvAll, PyData.eqv, ih, List.cons.injEq]
    by_cases h : x = y
    · subst h; simp
    · simp [h]
theorem any_strs (w : Str) : ∀ xs : List Str, ((xs.map PyData.str).any fun z => PyData.eqv z (.str w)) = decide (w ∈ xs)
  | [] => by simp
  | x :: xs => by
    have ih := any_strs w xs
    rw [List.map_cons, List.any_cons, ih]
    simp only [PyData.eqv, List.mem_cons]
    by_cases h : x = w
    · subst h; simp
    · have h' : ¬ w = x := fun e => h e.symm
      simp [h, h']
theorem eqv_nil (xs : List PyData) : PyData.eqvAll xs [] = xs.isEmpty := by cases xs <;> rfl
theorem eqv_nil' (xs : List PyData) : PyData.eqvAll [] xs = xs.isEmpty := by cases xs <;> rfl
theorem depth_strs : ∀ xs : List Str, PyData.depthAll (xs.map PyData.str) = 0
  | [] => rfl
  | x :: xs => by simp [PyData.depthAll, PyData.depth, depth_strs xs]
theorem depth_ints : ∀ xs : List Int, PyData.depthAll (xs.map PyData.int) = 0
  | [] => rfl
  | x :: xs => by simp [PyData.depthAll, PyData.depth, depth_ints xs]
end
end B
namespace B
open PySem L2
/-! SA: the drawing state of the first kind of laws: [great cells, script + [5], count] -/
theorem Kp.set {p c c' l : Addr} {H H' : Hp} {n0 n1 : V} (hp : H p = some (.lst [.ref c, .ref l, n0])) (hp' : H' p = some (.lst [.ref c', .ref l, n1])) (hc : c' = c ∨ H c' = none) (hk : ∀ b o, H b = some o → b ≠ p → b ≠ c → b ≠ l → H' b = some o) (hcc : ∃ o, H' c = some o) (hll : ∃ o, H' l = some o) : Kp p H H' := by
  refine ⟨fun b o h n => hk b o h (fun z => n (.inl z)) (fun z => n (.inr ⟨_, _, _, hp, .inl (by rw [z])⟩)) (fun z => n (.inr ⟨_, _, _, hp, .inr (by rw [z])⟩)), fun b z => ?_, fun b o h => ?_⟩
  rcases z with z | ⟨d, l2, n2, h, z⟩
  · exact .inl (.inl z)
  · rw [hp'] at h
    cases h
    rcases z with z | z
    · cases z
      rcases hc with q | q
      · exact .inl (.inr ⟨_, _, _, hp, .inl (by rw [q])⟩)
      · exact .inr q
    · cases z
      exact .inl (.inr ⟨_, _, _, hp, .inr rfl⟩)
  · by_cases h1 : b = p
    · rw [h1]; exact ⟨_, hp'⟩
    · by_cases h2 : b = c
      · rw [h2]; exact hcc
      · by_cases h3 : b = l
        · rw [h3]; exact hll
        · exact ⟨o, hk b o h h1 h2 h3⟩
/-- the drawing state at p; m draws are left -/
structure StA (H : Hp) (p : Addr) (m : Nat) : Prop where
  ex : ∃ (c l : Addr) (cs sc : List Int) (n : Int), H p = some (.lst [.ref c, .ref l, .int n]) ∧ H c = some (.lst (cs.map V.int)) ∧ H l = some (.lst (sc.map V.int)) ∧ c ≠ l ∧ cs.length ≤ 64 ∧ 0 < sc.length ∧ sc.length ≤ 64 ∧ 0 ≤ n ∧ n + m ≤ 2 ^ 30
def spDraw : Sp := fun vs H Q _ => ∃ (p : Addr) (m : Nat) (z : Int), vs = [.ref p, .int z] ∧ StA H p (m + 1) ∧ 0 < z ∧ z < 2 ^ 40 ∧ ∀ (r : Int) (H' : Hp), 0 ≤ r → r < z → StA H' p m → Kp p H H' → Q (.int r) H'
structure Dz (p l : Addr) (sc : List Int) (n : Int) (H H' : Hp) (c : Addr) (cs : List Int) : Prop where
  hp : H' p = some (.lst [.ref c, .ref l, .int n])
  hc : H' c = some (.lst (cs.map V.int))
  hl : H' l = some (.lst (sc.map V.int))
  ncl : c ≠ l
  npc : c ≠ p
  npl : l ≠ p
  ln : cs.length ≤ 64
  kp : Kp p H H'
theorem ne_st {H : Hp} {p c : Addr} {a : Addr} {l n : V} {cs : List Int} (hp : H p = some (.lst [.ref a, l, n])) (hc : H c = some (.lst (cs.map V.int))) : c ≠ p := by
  intro e; subst e; rw [hp] at hc
  cases cs <;> cases hc
theorem Dz.same {p l : Addr} {sc cs : List Int} {n : Int} {H H1 H2 : Hp} {c : Addr} (d : Dz p l sc n H H1 c cs) (e : Same H1 H2) : Dz p l sc n H H2 c cs :=
  ⟨e _ _ d.hp, e _ _ d.hc, e _ _ d.hl, d.ncl, d.npc, d.npl, d.ln, d.kp.trans (Kp.same e d.hp)⟩
theorem Dz.st {p l : Addr} {sc cs : List Int} {n : Int} {H H1 : Hp} {c : Addr} {m : Nat} (d : Dz p l sc n H H1 c cs) (l0 : 0 < sc.length) (l1 : sc.length ≤ 64) (n0 : 0 ≤ n) (n1 : n + m ≤ 2 ^ 30) : StA H1 p m :=
  ⟨⟨c, l, cs, sc, n, d.hp, d.hc, d.hl, d.ncl, d.ln, l0, l1, n0, n1⟩⟩
section
variable {H H' : Hp} {p D : Addr} {m m' : Nat} {o : HO}
theorem StA.le (S : StA H p m) (h : m' ≤ m) : StA H p m' := by
  obtain ⟨c, l, cs, sc, n, h1, h2, h3, h4, h5, h6, h7, h8, h9⟩ := S.ex
  exact ⟨c, l, cs, sc, n, h1, h2, h3, h4, h5, h6, h7, h8, by omega⟩
theorem StA.same (S : StA H p m) (e : Same H H') : StA H' p m := by
  obtain ⟨c, l, cs, sc, n, h1, h2, h3, h4⟩ := S.ex
  exact ⟨c, l, cs, sc, n, e _ _ h1, e _ _ h2, e _ _ h3, h4⟩
theorem StA.kp (S : StA H p m) (e : Same H H') : Kp p H H' := by
  obtain ⟨c, l, cs, sc, n, h1, _⟩ := S.ex
  exact Kp.same e h1
theorem StA.fresh (S : StA H p m) (h : H D = none) : ¬ Own H p D := by
  obtain ⟨c, l, cs, sc, n, h1, h2, h3, _⟩ := S.ex
  rintro (z | ⟨x, y, k, z, q⟩)
  · rw [z, h1] at h; cases h
  · rw [h1] at z
    cases z
    rcases q with q | q
    · cases q; rw [h2] at h; cases h
    · cases q; rw [h3] at h; cases h
theorem StA.upd (S : StA H p m) (h : ¬ Own H p D) : StA (upd H D o) p m := by
  obtain ⟨c, l, cs, sc, n, h1, h2, h3, h4⟩ := S.ex
  have a1 : p ≠ D := fun z => h (.inl z.symm)
  have a2 : c ≠ D := fun z => h (.inr ⟨_, _, _, h1, .inl (by rw [z])⟩)
  have a3 : l ≠ D := fun z => h (.inr ⟨_, _, _, h1, .inr (by rw [z])⟩)
  exact ⟨c, l, cs, sc, n, by rw [upd_ne a1]; exact h1, by rw [upd_ne a2]; exact h2, by rw [upd_ne a3]; exact h3, h4⟩
/-- a new object -/
theorem StA.new (S : StA H p m) (h : H D = none) (e : Same H H') (h' : H' D = some o) : At p H' D o := by
  refine ⟨h', fun z => S.fresh h ?_⟩
  obtain ⟨c, l, cs, sc, n, h1, _⟩ := S.ex
  exact (own_same ((e _ _ h1).trans h1.symm)).mp z
theorem StA.at (S : StA H p m) {xs : List V} (h : H D = some (.tup xs)) : At p H D (.tup xs) := by
  obtain ⟨c, l, cs, sc, n, h1, h2, h3, _⟩ := S.ex
  refine ⟨h, ?_⟩
  rintro (z | ⟨x, y, k, z, q⟩)
  · rw [z, h1] at h; cases h
  · rw [h1] at z
    cases z
    rcases q with q | q
    · cases q; rw [h2] at h; cases h
    · cases q; rw [h3] at h; cases h
end
theorem at0 {x : V} {xs : List V} : atI (x :: xs) 0 = some x := atI_nat (j := 0) rfl
theorem ixN_nat {n j : Nat} (h : j < n) : ixN n (j : Int) = some j := by
  unfold ixN
  rw [if_pos (by omega), if_pos (by omega)]
  simp
theorem cut1 (cs : List Int) : cutV (cs.map V.int) (some 1) none = cs.tail.map V.int := by
  unfold cutV HT.sIx
  cases cs with
  | nil => rfl
  | cons a r =>
    simp
    exact List.take_of_length_le (by simp)
end B
namespace B
open PySem L2
/-! names; loops over texts -/
abbrev LET : Str := "abcdefghijklmnopqrstuvwxyz"
abbrev DIG : Str := "0123456789"
/-- a sign of a name -/
def alnum (c : Nat) : Bool := decide (c ∈ LET.cps.toList) || decide (c ∈ DIG.cps.toList)
/-- a name -/
def vn (w : Str) : Bool := decide (1 ≤ w.length ∧ w.length ≤ 6) && ((w.cps[0]?).any fun c => decide (c ∈ LET.cps.toList)) && w.cps.toList.all alnum
theorem str_len (w : Str) : w.length = w.cps.toList.length := by simp [Str.length]
theorem vn_short {w : Str} (h : ¬ (1 ≤ w.length ∧ w.length ≤ 6)) : vn w = false := by unfold vn; rw [decide_eq_false h]; rfl
theorem vn_first {w : Str} {c : Nat} (h : w.cps[0]? = some c) (hc : c ∉ LET.cps.toList) : vn w = false := by
  unfold vn
  rw [h]
  simp only [Option.any_some, decide_eq_false hc, Bool.and_false, Bool.false_and]
theorem vn_all {w : Str} {c : Nat} (h1 : 1 ≤ w.length ∧ w.length ≤ 6) (h : w.cps[0]? = some c) (hc : c ∈ LET.cps.toList) : vn w = w.cps.toList.all alnum := by
  unfold vn
  rw [h]
  simp only [Option.any_some, decide_eq_true hc, Bool.and_true, decide_eq_true h1, Bool.true_and]
theorem sz5 {n : Nat} (h : n ≤ 100000) : n ≤ sizeLine := Nat.le_trans h (by decide)
theorem at0s {w : Str} {c : Nat} (h : w.cps[0]? = some c) : atI w.cps.toList 0 = some c := atI_nat (j := 0) (by simpa using h)
theorem first_of {w : Str} (h : 1 ≤ w.length) : ∃ c, w.cps[0]? = some c := by
  have h' : 0 < w.cps.size := h
  exact ⟨w.cps[0], by simp [h']⟩
/-- a for over a text -/
theorem for_str {x : Str} {g : TG} {tb : TS} {D : Ends} {σ : L2.St} {H : Hp} (Pv : Nat → L2.St → Hp → Prop) (h0 : Pv 0 σ H)
    (hs : ∀ i c σ H, x.cps.toList[i]? = some c → Pv i σ H → g (.str ⟨#[c]⟩) σ H fun σ2 H2 => tb { D with nx := Pv (i + 1), ct := Pv (i + 1), bk := D.nx } σ2 H2) (hd : ∀ σ H, Pv x.cps.toList.length σ H → D.nx σ H) :
    ∃ W : Nat → Nat → L2.St → Hp → Prop, (∃ m, W 0 m σ H) ∧ ∀ i m σ H, W i m σ H →
      ((Its x).stop i H ∧ D.nx σ H) ∨ ((Its x).go i H ∧ ∃ N : L2.St → Hp → Prop, (∀ σ' H', N σ' H' → ∃ m', m' < m ∧ W (i + 1) m' σ' H') ∧ ∀ v H', (Its x).yld i H v H' → g v σ H' fun σ2 H2 => tb { D with nx := N, ct := N, bk := D.nx } σ2 H2) := by
  have el : x.cps.toList.length = x.cps.size := by simp
  refine ⟨fun i m σ H => m = x.cps.size - i ∧ i ≤ x.cps.size ∧ Pv i σ H, ⟨x.cps.size, by simp, Nat.zero_le _, h0⟩, ?_⟩
  rintro i m σ H ⟨rfl, hi, p⟩
  by_cases hlt : i < x.cps.size
  · refine .inr ⟨hlt, Pv (i + 1), fun σ' H' p' => ⟨x.cps.size - (i + 1), by omega, rfl, hlt, p'⟩, fun v H' y => ?_⟩
    obtain ⟨e, c, hc, y⟩ := y
    subst e y
    exact hs i c σ _ (by simpa using hc) p
  · have e : i = x.cps.size := by omega
    subst e
    rw [el] at hd
    exact .inl ⟨Nat.le_refl _, hd σ H p⟩
/-- a comprehension over a text -/
theorem lc_str {x : Str} {g : TG} {tt : TT} {te : TE} {vs : List Nat} {σ : L2.St} {H1 : Hp} {D : Addr} {Qd : Hp → Prop} (Pv : Nat → Hp → Prop) (h0 : Pv 0 (upd H1 D (.lst [])))
    (hs : ∀ i c H, x.cps.toList[i]? = some c → Pv i H → g (.str ⟨#[c]⟩) (wipe σ vs) H fun σ2 H2 => wipe σ2 vs = wipe σ vs ∧ tt σ2 H2 fun b H3 =>
      if b = true then te σ2 H3 fun y H4 => ∃ acc, H4 D = some (.lst acc) ∧ acc.length < sizeLine ∧ Pv (i + 1) (upd H4 D (.lst (acc ++ [y]))) else Pv (i + 1) H3) (hd : ∀ H, Pv x.cps.toList.length H → Qd H) :
    ∃ W : Nat → Nat → Hp → Prop, (∃ m, W 0 m (upd H1 D (.lst []))) ∧ ∀ i m H, W i m H →
      ((Its x).stop i H ∧ Qd H) ∨ ((Its x).go i H ∧ ∃ Nx : Hp → Prop, (∀ H', Nx H' → ∃ m', m' < m ∧ W (i + 1) m' H') ∧ ∀ v H', (Its x).yld i H v H' → g v (wipe σ vs) H' fun σ2 H2 => wipe σ2 vs = wipe σ vs ∧ tt σ2 H2 fun b H3 =>
        if b = true then te σ2 H3 fun y H4 => ∃ acc, H4 D = some (.lst acc) ∧ acc.length < sizeLine ∧ Nx (upd H4 D (.lst (acc ++ [y]))) else Nx H3) := by
  have el : x.cps.toList.length = x.cps.size := by simp
  refine ⟨fun i m H => m = x.cps.size - i ∧ i ≤ x.cps.size ∧ Pv i H, ⟨x.cps.size, by simp, Nat.zero_le _, h0⟩, ?_⟩
  rintro i m H ⟨rfl, hi, p⟩
  by_cases hlt : i < x.cps.size
  · refine .inr ⟨hlt, Pv (i + 1), fun H' p' => ⟨x.cps.size - (i + 1), by omega, rfl, hlt, p'⟩, fun v H' y => ?_⟩
    obtain ⟨e, c, hc, y⟩ := y
    subst e y
    exact hs i c _ (by simpa using hc) p
  · have e : i = x.cps.size := by omega
    subst e
    rw [el] at hd
    exact .inl ⟨Nat.le_refl _, hd H p⟩
theorem app_mem (c : Nat) (a b : Str) : c ∈ (a ++ b).cps.toList ↔ c ∈ a.cps.toList ∨ c ∈ b.cps.toList := by
  show c ∈ (a.cps ++ b.cps).toList ↔ _
  simp
theorem at_str {z : Str} {r : Int} (h0 : 0 ≤ r) (h1 : r < z.length) : ∃ c, atI z.cps.toList r = some c ∧ c ∈ z.cps.toList := by
  obtain ⟨j, rfl⟩ : ∃ j : Nat, r = (j : Int) := ⟨r.toNat, (Int.toNat_of_nonneg h0).symm⟩
  have hj : j < z.cps.toList.length := by have := str_len z; omega
  exact ⟨z.cps.toList[j], atI_nat (List.getElem?_eq_getElem hj), List.getElem_mem hj⟩
theorem at_lst {α : Type} {xs : List α} {r : Int} (h0 : 0 ≤ r) (h1 : r < xs.length) : ∃ c, atI xs r = some c ∧ c ∈ xs := by
  obtain ⟨j, rfl⟩ : ∃ j : Nat, r = (j : Int) := ⟨r.toNat, (Int.toNat_of_nonneg h0).symm⟩
  have hj : j < xs.length := by omega
  exact ⟨xs[j], atI_nat (List.getElem?_eq_getElem hj), List.getElem_mem hj⟩
theorem join0 : ∀ ws : List Str, (∀ c ∈ ws, c.length ≤ 1) → (Str.join "" ws).length ≤ ws.length
  | ws, h => by
    have h1 := StrLaws.join_length_le "" ws
    have h2 : (ws.map (·.length)).sum ≤ ws.length := by
      clear h1
      induction ws with
      | nil => simp
      | cons a r ih =>
        have := h a List.mem_cons_self
        have := ih fun c hc => h c (List.mem_cons_of_mem _ hc)
        simp only [List.map_cons, List.sum_cons, List.length_cons]; omega
    have h3 : (("" : Str)).length = 0 := by decide +kernel
    rw [h3] at h1
    omega
end B
namespace B
open PySem L2
def spLaw (K : PySem.W.Frag) : Sp := fun vs H Q _ => ∃ (a : Addr) (ns : List Int), vs = [.ref a] ∧ SqL K H a (ns.map V.int) ∧ ns.length ≤ 63 ∧ ∀ H', Q (.bl true) H'
/-- what the top has left of a def -/
structure Dt (K : PySem.W.Frag) (x : Str) (st : Stmt) (f : Addr) : Prop where
  a : PySem.W.nsIn K mainGlobals x = some (some (.ref f))
  l : ∃ (oc : Value) (od : Option Addr) (kV doc pm : Value) (an : Option Addr) (cdv ct : Value) (osl : Array (Option Value)), K.lookup f = some ⟨oc, od, .func (PySem.W.fnOf x x (defArgs st) (defBody st) (defScope st) .none kV doc pm an cdv ct), osl⟩ ∧ PySem.W.codeIn K cdv x = true
  k : PySem.W.keepIn K (.ref f) = true
theorem dt_mk {K : PySem.W.Frag} {x : Str} {st : Stmt} {f : Addr} {oc : Value} {od an : Option Addr} {osl : Array (Option Value)} {kV doc pm cdv ct : Value} (a : PySem.W.nsIn K mainGlobals x = some (some (.ref f))) (l : K.lookup f = some ⟨oc, od, .func (PySem.W.fnOf x x (defArgs st) (defBody st) (defScope st) .none kV doc pm an cdv ct), osl⟩)
    (c : PySem.W.codeIn K cdv x = true) (k : PySem.W.keepIn K (.ref f) = true) : Dt K x st f := ⟨a, ⟨oc, od, kV, doc, pm, an, cdv, ct, osl, l, c⟩, k⟩
theorem Dt.fun {K : PySem.W.Frag} {x : Str} {st : Stmt} {f : Addr} (d : Dt K x st f) : ∃ fd, Fun K x x st f fd ∧ ∃ (kV doc pm : Value) (an : Option Addr) (cdv ct : Value), fd = PySem.W.fnOf x x (defArgs st) (defBody st) (defScope st) .none kV doc pm an cdv ct := by
  obtain ⟨oc, od, kV, doc, pm, an, cdv, ct, osl, l, c⟩ := d.l
  exact ⟨_, fun_mk l c d.k, kV, doc, pm, an, cdv, ct, rfl⟩
section
variable {P : Program} {w : World} {K : PySem.W.Frag} {mg : Str → Option Value} {base : Heap} {CX : CXT} {k : Nat} {x : Str} {st : Stmt} {f : Addr} {ps : List Str} {sp : Sp}
/-- a def with its promise -/
theorem df_mk (d : Dt K x st f) (hm : mg x = some (.ref f)) (G : ∀ fd, Fun K x x st f fd → FnOk P w K mg base CX k f fd ps sp)
    (hb : ∀ (kV doc pm : Value) (an : Option Addr) (cdv ct : Value) (us : List Value), us.length = ps.length → bindArgs (PySem.W.fnOf x x (defArgs st) (defBody st) (defScope st) .none kV doc pm an cdv ct) ⟨us, []⟩ = pure (ps.zip us)) : Df P w K mg base CX k x ps sp := by
  obtain ⟨fd, F, kV, doc, pm, an, cdv, ct, e⟩ := d.fun
  exact ⟨f, fd, hm, d.k, F.binds hb, G fd F⟩
theorem dfk_mk {n : Nat} {ks : List Str} {g : List Value → List Value → List Value} {gV : List V → List V → List V} (d : Dt K x st f) (hm : mg x = some (.ref f)) (G : ∀ fd, Fun K x x st f fd → FnOk P w K mg base CX k f fd ps sp)
    (hb : ∀ (kV doc pm : Value) (an : Option Addr) (cdv ct : Value), KBn K (PySem.W.fnOf x x (defArgs st) (defBody st) (defScope st) .none kV doc pm an cdv ct) ps n ks g gV) : DfK P w K mg base CX k x ps n ks g gV sp := by
  obtain ⟨fd, F, kV, doc, pm, an, cdv, ct, e⟩ := d.fun
  subst e
  exact ⟨f, _, hm, d.k, hb kV doc pm an cdv ct, G _ F⟩
end
/-- the last end: a law whose promise is spLaw -/
theorem walk {l : PySem.W.OpenLaw} {k : Nat} {q : Program} {loose : List Str} {XP : (Str → Option Value) → Heap → Prop} {YP : World → Heap → Prop} {d : DefRec} {K : Params → PySem.W.Frag} (hr : Room k callerA) (hn : l.most = some 63) (hdf : d.params.defaults = [])
    (hY : ∀ (w : World) (h : Heap), YP w h → (K w.params).In h)
    (F : ∀ (w : World) (mg : Str → Option Value) (fa : Addr) (h : Heap), (K w.params).In h → h.Ns mainGlobals mg → mg d.name = some (.ref fa) →
      ∃ fd : FuncData, (∀ (s : Shared) (u : Value), BindsTo s fd ⟨[u], []⟩ [("_law_script", u)]) ∧ ∀ base : Heap, (K w.params).In base → base.Ns mainGlobals mg → FnOk l.prog w (K w.params) mg base CX0 k fa fd ["_law_script"] (spLaw (K w.params))) :
    PySem.W.WalkO q loose XP YP l.row.toRowW d [] (fun f vs => PySem.call f vs) :=
  L2.walk_of (n := 63) (k := k) (x := "_law_script") (CX := fun _ => CX0) (sp := fun w => spLaw (K w.params)) hn (by decide) hdf hr hY F (fun _ _ a ns hl _ hS => ⟨a, ns, rfl, hS, hl, fun _ => rfl⟩) fun _ _ _ _ _ z => z
/-- the built-ins -/
def blts : List Str := ["len", "abs", "int", "str", "bool", "list", "tuple", "dict", "range", "enumerate", "zip", "sorted", "sum", "max", "min", "all", "isinstance"]
theorem bt_mk {K : PySem.W.Frag} {h : Heap} {mg : Str → Option Value} (X : K.In h) (G : h.Ns mainGlobals mg) (z : blts.all (fun x => decide (PySem.W.nsIn K mainGlobals x = some none)) = true) : Bt mg := by
  have q : ∀ x ∈ blts, mg x = none := fun x hx => PySem.W.mg_none_of X G (of_decide_eq_true (List.all_eq_true.mp z x hx))
  constructor <;> exact q _ (by decide +kernel)
/-- what the top has left of an error class with one field -/
structure Dm (K : PySem.W.Frag) (mg : Str → Option Value) (x qual : Str) (C : Addr) (f : Str) (st : Stmt) (fI : Addr) : Prop where
  g : mg x = some (.ref C)
  no : PySem.W.findIn K (.ref C) f = some none
  i : PySem.W.findIn K (.ref C) "__init__" = some (some (.ref fI))
  t : PySem.W.typeIn K (.ref fI) = some (.type "function")
  l : ∃ (oc : Value) (od : Option Addr) (kV doc pm : Value) (an : Option Addr) (cdv ct : Value) (osl : Array (Option Value)), K.lookup fI = some ⟨oc, od, .func (PySem.W.fnOf "__init__" qual (defArgs st) (defBody st) (defScope st) .none kV doc pm an cdv ct), osl⟩ ∧ PySem.W.codeIn K cdv qual = true
  k : PySem.W.keepIn K (.ref fI) = true
theorem dm_mk {K : PySem.W.Frag} {mg : Str → Option Value} {h : Heap} {x qual f : Str} {C fI : Addr} {st : Stmt} {oc : Value} {od an : Option Addr} {osl : Array (Option Value)} {kV doc pm cdv ct : Value} (X : K.In h) (G : h.Ns mainGlobals mg) (a : PySem.W.nsIn K mainGlobals x = some (some (.ref C))) (no : PySem.W.findIn K (.ref C) f = some none)
    (i : PySem.W.findIn K (.ref C) "__init__" = some (some (.ref fI))) (t : PySem.W.typeIn K (.ref fI) = some (.type "function")) (l : K.lookup fI = some ⟨oc, od, .func (PySem.W.fnOf "__init__" qual (defArgs st) (defBody st) (defScope st) .none kV doc pm an cdv ct), osl⟩) (c : PySem.W.codeIn K cdv qual = true) (k : PySem.W.keepIn K (.ref fI) = true) : Dm K mg x qual C f st fI :=
  ⟨PySem.W.mg_of X G a, no, i, t, ⟨oc, od, kV, doc, pm, an, cdv, ct, osl, l, c⟩, k⟩
theorem Dm.fun {K : PySem.W.Frag} {mg : Str → Option Value} {x qual f : Str} {C fI : Addr} {st : Stmt} (d : Dm K mg x qual C f st fI) : ∃ fd, Fun K "__init__" qual st fI fd := by
  obtain ⟨oc, od, kV, doc, pm, an, cdv, ct, osl, l, c⟩ := d.l
  exact ⟨_, fun_mk l c d.k⟩
theorem cst_mkI {K : PySem.W.Frag} {h : Heap} {mg : Str → Option Value} {x : Str} {v : Int} {t : Tok} (X : K.In h) (G : h.Ns mainGlobals mg) (e : PySem.W.nsIn K mainGlobals x = some (some (.int v t))) : ∃ t, mg x = some (.int v t) := ⟨t, PySem.W.mg_of X G e⟩
theorem cst_mkS {K : PySem.W.Frag} {h : Heap} {mg : Str → Option Value} {x v : Str} {t : Tok} (X : K.In h) (G : h.Ns mainGlobals mg) (e : PySem.W.nsIn K mainGlobals x = some (some (.str v t))) : ∃ t, mg x = some (.str v t) := ⟨t, PySem.W.mg_of X G e⟩
end B
namespace B
open PySem L2
open PySem.Spec PyProof.Rows
/-! own errors: the classes' facts, raising one with one field, a try with several named clauses -/
/-- the class object at C is an exception class over ValueError -/
def oexB (K : PySem.W.Frag) (C : Addr) : Bool := match K.lookup C with
  | some ⟨.type "type", _, .cls cd, sl⟩ => (match cd.mro, sl.toList with
    | .ref C' :: bm, [_, _, _, _, some (.builtin n), _] => C' == C && n == "ValueError.__new__" && !cd.hasDel && cd.hasDict && PySem.HandSPX.refsVE bm
    | _, _ => false)
  | _ => false
theorem oexB_ok {K : PySem.W.Frag} {C : Addr} (q : oexB K C = true) : ∃ nm q N bs bm sn sub ab col dd k0 k1 k2 k3 k5, K.lookup C = some (excClassObj nm q C N bs bm true sn sub ab col dd k0 k1 k2 k3 k5 "ValueError.__new__") ∧ PySem.HandSPX.refsVE bm = true := by
  unfold oexB at q
  split at q
  · rename_i dd cd sl ho
    split at q
    · rename_i C' bm k0 k1 k2 k3 n k5 hm hs
      simp only [Bool.and_eq_true, beq_iff_eq, Bool.not_eq_true'] at q
      obtain ⟨⟨⟨⟨rfl, rfl⟩, hdel⟩, hhd⟩, ht⟩ := q
      obtain ⟨nm, bs, mro, ns, qn, hd, sn, sub, ab, col, del⟩ := cd
      dsimp only at hm hdel hhd
      subst hm hdel hhd
      have hsl : sl = #[k0, k1, k2, k3, some (.builtin "ValueError.__new__"), k5] := by
        obtain ⟨l⟩ := sl
        simp only at hs
        rw [hs]
      subst hsl
      exact ⟨nm, qn, ns, bs, bm, sn, sub, ab, col, dd, k0, k1, k2, k3, k5, ho, ht⟩
    · cases q
  · cases q
/-- what is asked of an error class -/
structure Ec (K : PySem.W.Frag) (C : Addr) : Prop where
  o : OexC K C
  x : XfC K C
  cl : (PySem.W.clsIn K C).isSome = true
  cls : PySem.W.findIn K (.ref C) "__class__" = some (some (.builtin "object.__class__"))
  gs : PySem.W.specialIn K (.builtin "object.__class__") "__get__" = some (some (.builtin "getset_descriptor.__get__"))
  tk : PySem.W.takesIn K (.builtin "object.__class__") = some true
  mo : PySem.W.mroIn K C (.type "object") = some true
def ecB (K : PySem.W.Frag) (C : Addr) : Bool :=
  oexB K C && (decide (PySem.W.findIn K (.ref C) "__setattr__" = some (some (.builtin "object.__setattr__"))) && (decide (PySem.W.subIn K (.ref C) (.type "BaseException") = some true) && (decide (PySem.W.typeIn K (.ref C) = some (.type "type")) && (PySem.W.keepIn K (.ref C) &&
  (xfB K C && ((PySem.W.clsIn K C).isSome && (decide (PySem.W.findIn K (.ref C) "__class__" = some (some (.builtin "object.__class__"))) && (decide (PySem.W.specialIn K (.builtin "object.__class__") "__get__" = some (some (.builtin "getset_descriptor.__get__"))) && (decide (PySem.W.takesIn K (.builtin "object.__class__") = some true) && decide (PySem.W.mroIn K C (.type "object") = some true))))))))))
theorem ecB_ok {K : PySem.W.Frag} {C : Addr} (h : ecB K C = true) : Ec K C := by
  unfold ecB at h
  simp only [Bool.and_eq_true, decide_eq_true_eq] at h
  obtain ⟨h1, h2, h3, h4, h5, h6, h7, h8, h9, h10, h11⟩ := h
  exact ⟨⟨oexB_ok h1, h2, h3, h4, h5⟩, xfB_ok h6, h7, h8, h9, h10, h11⟩
/-- the classes ec i, i in S, are apart: an except clause for one takes no other -/
structure Er (K : PySem.W.Frag) (ec : Nat → Addr) (S : List Nat) : Prop where
  ok : ∀ i ∈ S, Ec K (ec i)
  ex : ∀ i ∈ S, ∀ j ∈ S, PySem.W.exmOne K (.ref (ec i)) (.ref (ec j)) = some (decide (i = j))
def erB (K : PySem.W.Frag) (ec : Nat → Addr) (S : List Nat) : Bool := S.all (fun i => ecB K (ec i)) && S.all fun i => S.all fun j => decide (PySem.W.exmOne K (.ref (ec i)) (.ref (ec j)) = some (decide (i = j)))
theorem erB_ok {K : PySem.W.Frag} {ec : Nat → Addr} {S : List Nat} (h : erB K ec S = true) : Er K ec S := by
  unfold erB at h
  simp only [Bool.and_eq_true, List.all_eq_true, decide_eq_true_eq] at h
  exact ⟨fun i hi => ecB_ok (h.1 i hi), fun i hi j hj => h.2 i hi j hj⟩
/-! ### B.__init__(self, ..) -/
section
variable {X : Cx} {o e : Expr} {es : List Expr} {to te : TE} {ta : TA} {f x : Str} {p p' p1 p2 pos : Pos} {Bc : Addr} {mc : Value}
theorem pe_beinit {pl : Sem Bool} (r : ClX.CRead X.K Bc mc) (k : PySem.W.findCls X.K (.ref Bc) mc "__init__" = some (.val (.builtin "ValueError.__init__"))) (hm : X.mg x = some (.ref Bc)) (ha : PA X (e :: es) ta) (hg : Gl X x := by rfl) (hd : (x == ("__debug__" : Str)) = false := by decide)
    (hc : eval (.Call (.Attribute (.Name x p1) "__init__" p2) (e :: es) [] pos) X.env = (do
      let ov ← eval (.Name x p1) X.env
      standAt p2.atName
      let (f, first) ← holding [ov] (getMethod ov "__init__" pl)
      callWith pos f first (backTo pos (starEach (e :: es) X.env)) (backToKw pos (keywordEach [] X.env))) := by rfl)
    (he : starEach (e :: es) X.env = (false, eval e X.env) :: starEach es X.env := by rfl) (hpl : (backTo pos (starEach es X.env)).any (·.1) = false := by rfl) :
    PE X (.Call (.Attribute (.Name x p1) "__init__" p2) (e :: es) [] pos) (tVeI X.K ta) := by
  refine ⟨fun pins s σ H Q I h => ?_⟩
  refine PySem.W.methodCall_KW (ld_glob I hg hm ?_ hd) hc
  refine PySem.W.method_cls I.kIn r.ga (PySem.W.cls_value I.kIn r.rd k rfl ?_)
  show wpAny _ _ (callWith pos (Value.builtin "ValueError.__init__") [] (backTo pos (starEach (e :: es) X.env)) []) _ _ _
  refine PyProof.Rows.callWith_method1 (thn (ha.run pos pins _ σ H _ (I.tok _) h) fun us s1 ⟨vs, H1, I1, r1, a, C, ws, ev, hl, T, ea, q⟩ => ?_) he hpl
  subst ev
  cases r1 with
  | @cons _ u0 _ ur ra rw' =>
    obtain rfl : u0 = Value.ref a := ra
    have hlen : ur.length ≤ sizeLine := by
      rw [← Paired.length rw', sizeLine_eq]
      omega
    exact oinit_ok T I1 ea hlen fun s' J => ⟨.non, H1, J, rfl, q⟩
end
/-- the promise of an __init__ that keeps one argument -/
def spI1 (K : PySem.W.Frag) (f : Str) : Sp := fun vs H Q _ => ∃ (a C : Addr) (v : V), vs = [.ref a, v] ∧ OexC K C ∧ PySem.W.findIn K (.ref C) f = some none ∧ H a = some (exo a C none) ∧ ∀ dx, H dx = none → dx ≠ a → Q .non (upd (upd H dx (exd dx [(f, v)])) a (exo a C (some dx)))
/-- an error class x at C whose __init__ keeps the one argument f -/
structure ExcD (P : Program) (w : World) (K : PySem.W.Frag) (mg : Str → Option Value) (base : Heap) (k : Nat) (x : Str) (C : Addr) (f : Str) : Prop where
  T : Ec K C
  no : PySem.W.findIn K (.ref C) f = some none
  gC : mg x = some (.ref C)
  ini : ∃ (fI : Addr) (fd : FuncData), PySem.W.findIn K (.ref C) "__init__" = some (some (.ref fI)) ∧ PySem.W.typeIn K (.ref fI) = some (.type "function") ∧ Binds K fd ["self", f] [] ∧ FnOk P w K mg base CX0 k fI fd ["self", f] (spI1 K f)
def tRaise1 (C : Addr) (f : Str) (W : WX) (te : TE) : TS := fun _ σ H => te σ H fun v H1 => ∀ d H2, H1 d = none → Same H1 H2 → H2 d = some (.xd [(f, v)]) → W (.ref C) (some d) σ H2
section
variable {X : Cx} {e : Expr} {te : TE} {W : WX} {x f : Str} {C : Addr} {k : Nat} {p pos pos2 : Pos}
/-- raise x(e) -/
theorem raise1 (D : ExcD X.prog X.w X.K X.mg X.base k x C f) (hr : Room (k + 1) X.A) (hc : X.calm = true) (tk : Takes X W) (he : PE X e te) (hg : Gl X x := by rfl) (hdb : (x == ("__debug__" : Str)) = false := by decide)
    (hst : starEach [e] X.env = (false, eval e X.env) :: starEach [] X.env := by rfl) : PS X (.Raise (some (.Call (.Name x p) [e] [] pos)) none pos2) (tRaise1 C f W te) := by
  obtain ⟨fI, fd, h1, h2, h3, h4⟩ := D.ini
  have M := ps_raise (pos := pos2) hc tk (pmk_oex (p := p) (pos := pos) (dvs := []) (ds := []) (ta := tCons (WE X e) tNil) D.T.o h1 h2 h4 hr h3 .nil (fun _ _ _ _ _ _ _ z => z.elim) hg D.gC (pa_cons (hs := hst) we pa_nil) hdb hst rfl)
  refine ⟨fun pins s σ H D' I h => ?_⟩
  refine M.run pins s σ H D' I ?_
  show WE X e σ H _
  refine WE.mono (WE.of he h) fun v H1 q => ?_
  show 1 ≤ 1000 ∧ _
  refine ⟨(by decide), fun a na => ⟨a, C, v, rfl, D.T.o, D.no, upd_same, fun dx ndx nd => ⟨rfl, dx, [(f, v)], upd_same, ?_, ?_, ?_⟩⟩⟩
  · rw [upd_ne nd, upd_same]
  · rw [upd_ne nd] at ndx; exact ndx
  · have ndx' : H1 dx = none := by rw [upd_ne nd] at ndx; exact ndx
    refine q dx _ ndx' (fun b o hb => ?_) upd_same
    have hbd : b ≠ dx := ne_of_none hb ndx'
    have hba : b ≠ a := ne_of_none hb na
    rw [upd_ne hbd, del_ne hba, upd_ne hba, upd_ne hbd, upd_ne hba]
    exact hb
end
/-! ### a def that raises, called -/
section
variable {X : Cx} {k n : Nat} {x : Str} {ps ks : List Str} {sp : Sp} {W : WX} {E : XK} {e : Expr} {es : List Expr} {t tk : TA} {p pos : Pos} {kws : List Keyword} {g : List Value → List Value → List Value} {gV : List V → List V → List V}
/-- .. where what it raises is taken by W (a try around) -/
theorem pcs (F : Df X.prog X.w X.K X.mg X.base (L2.CX X.prog X.w) k x ps sp) (hr : Room k X.A) (tk : Takes X W) (ha : PA X (e :: es) t) (hg : Gl X x := by rfl) (hdb : (x == ("__debug__" : Str)) = false := by decide) (he : starEach (e :: es) X.env = (false, eval e X.env) :: starEach es X.env := by rfl) (hpl : (backTo pos (starEach es X.env)).any (·.1) = false := by rfl) :
    PE X (.Call (.Name x p) (e :: es) [] pos) (tCallS sp (L2.WE W) t) := by
  obtain ⟨f, fd, h1, h2, h3, h4⟩ := F.ex
  exact pe_callS h4 hr hg h1 h2 h3 (fun σ => passAt tk σ) ha hdb he hpl
/-- .. from a def that hands it on -/
theorem pcr (F : Df X.prog X.w X.K X.mg X.base (L2.CX X.prog X.w) k x ps sp) (hr : Room k X.A) (tk : Takes X (fun cls d _ H => E cls d H)) (ha : PA X (e :: es) t) (hg : Gl X x := by rfl) (hdb : (x == ("__debug__" : Str)) = false := by decide) (he : starEach (e :: es) X.env = (false, eval e X.env) :: starEach es X.env := by rfl) (hpl : (backTo pos (starEach es X.env)).any (·.1) = false := by rfl) :
    PE X (.Call (.Name x p) (e :: es) [] pos) (tCall sp [] E t) := pcx F hr (passes_call tk fun _ _ _ _ h => h) ha hg hdb he hpl
/-- .. where it raises nothing -/
theorem pcn (F : Df X.prog X.w X.K X.mg X.base (L2.CX X.prog X.w) k x ps sp) (hr : Room k X.A) (ha : PA X (e :: es) t) (hg : Gl X x := by rfl) (hdb : (x == ("__debug__" : Str)) = false := by decide) (he : starEach (e :: es) X.env = (false, eval e X.env) :: starEach es X.env := by rfl) (hpl : (backTo pos (starEach es X.env)).any (·.1) = false := by rfl) :
    PE X (.Call (.Name x p) (e :: es) [] pos) (tCall sp [] E0 t) := pcx F hr passL ha hg hdb he hpl
theorem pcnK0 (F : DfK X.prog X.w X.K X.mg X.base (L2.CX X.prog X.w) k x ps 0 ks g gV sp) (hr : Room k X.A) (hkw : PK X kws t) (hg : Gl X x := by rfl) (hall : (backToKw pos (keywordEach kws X.env)).all (·.1.isSome) = true := by rfl) (hks : (backToKw pos (keywordEach kws X.env)).filterMap (·.1) = ks := by rfl)
    (hdb : (x == ("__debug__" : Str)) = false := by decide) (hpl : ((backTo pos (starEach [] X.env)).any (·.1) || (backToKw pos (keywordEach kws X.env)).any (·.1.isNone)) = false := by rfl) : PE X (.Call (.Name x p) [] kws pos) (tCallN 0 ks.length sp gV E0 tNil t) := pcxK0 F hr passL hkw hg hall hks hdb hpl
end
/-! ### try with several clauses 'except x as n' -/
abbrev SU := Addr → Value → Option Addr → TS
/-- the suite's own run -/
def WSu (X : Cx) (ss : List Stmt) : SU := fun a cls d D σ H => ∀ (oe : Obj) (pn : List (Addr × Obj)), Zc cls d oe → (∃ vs, oe.data = .fields vs) → WB (X.suite a ((a, oe) :: pn)) ss D σ H
def wMs (K : PySem.W.Frag) (i : Nat) (Wout : WX) (D : Ends) : List (Value × SU) → WX
  | [] => Wout
  | (c, ts) :: r => fun cls d σ H => ∃ b, PySem.W.exmOne K cls c = some b ∧ (b = true → ∀ a, H a = none → ts a cls d { nx := fun σ' H' => D.nx (σ'.set i none) H', rt := D.rt, bk := fun σ' H' => D.bk (σ'.set i none) H', ct := fun σ' H' => D.ct (σ'.set i none) H' } (σ.set i (some (.ref a))) H) ∧ (b = false → wMs K i Wout D r cls d σ H)
inductive HdsA (X : Cx) (n : Str) : List ExceptHandler → List (Value × SU) → Prop
  | nil : HdsA X n [] []
  | cons {x : Str} {c : Value} {b₀ : Stmt} {suite : List Stmt} {np pos' : Pos} {hds : List ExceptHandler} {l : List (Value × SU)} (hc : Names X x c) (r : HdsA X n hds l) :
      HdsA X n (.ExceptHandler (some (.Name x np)) (some n) (b₀ :: suite) pos' :: hds) ((c, WSu X (b₀ :: suite)) :: l)
/-- the body's own run under the clauses' wish -/
def WTry (X : Cx) (body : List Stmt) (i : Nat) (Wout : WX) (l : List (Value × SU)) : TS := fun D σ H => ∀ (pn : List (Addr × Obj)) (xe : Value → Shared → Prop), Takes (X.tr pn xe) (wMs X.K i Wout D l) → PassesOwn (model X.prog X.w) X.A X.env xe → WB (X.tr pn xe) body D σ H
section
variable {X : Cx} {body : List Stmt} {h₀ : ExceptHandler} {hds : List ExceptHandler} {l : List (Value × SU)} {pos : Pos} {Wout : WX} {i : Nat} {n : Str}
theorem try_ms (hs : X.stack = X.env :: X.outer) (hf : X.env.frame = some X.env.locals) (hN : X.N.Nodup) (hi : X.N[i]? = some n) (hln : X.env.kindOf n = some .local) (tk : Takes X Wout) (hh : HdsA X n (h₀ :: hds) l) :
    PS X (.Try body (h₀ :: hds) [] [] pos) (WTry X body i Wout l) := by
  refine ⟨fun pins s σ H D I h => ?_⟩
  have ok := I.ok
  have hfr : X.A.frames = some (X.env :: X.outer) := by rw [ok.frames, hs]
  have hloc : Loc X.env.scope n := .inl hln
  refine wpAny_Try_except ?_
  refine wpAny_mono (h (X.pn ++ pins) (fun e s₁ => wpAny (model X.prog X.w) X.A (noteFrame e X.env) (fun _ s₂ => wpAny (model X.prog X.w) X.A (setFlight e none) (fun _ s₃ =>
    wpAny (model X.prog X.w) X.A (handleBy e X.env (h₀ :: hds)) (SP X pins D) X.xe s₃) X.xe s₂) X.xe s₁) (fun u s' xx => ?_) PassesOwn.looking [] s (I.toTry _)) (fun f s1 hsp => ?_) (fun e s1 he => he)
  · obtain ⟨a, B, sI, pins', σ', H', cls, d, rfl, J', nb, up, sky, na, os, ag, w⟩ := xx
    have J : Inv X pins σ' H' sI := J'.ofTry ok
    have sky' : Sky B (X.env :: X.outer) a (Zc cls d) X.env.locals s'.heap := by rw [← hs]; exact sky
    show wpAny (model X.prog X.w) X.A (noteFrame (.ref a) X.env) _ _ _
    refine Sky.land Zc.steady hfr hf sky' fun h3 fl3 up3 => ?_
    have J3 : Inv X pins σ' H' { s' with heap := h3 } := J.landed nb fl3.1 (up.trans up3) os ag
    obtain ⟨oe3, vs3, he3, hz3, hd3⟩ := fl3.there
    have nfr : a ∉ frs (X.env :: X.outer) := fun hm => by
      obtain ⟨_, o', e', hnf⟩ := fl3.2.2.1.mem hm
      rw [he3] at e'; cases e'
      exact hnf _ hd3
    have nL : a ≠ X.env.locals := fun z => nfr (List.mem_filterMap.mpr ⟨X.env, List.mem_cons_self, by rw [hf, z]⟩)
    have nF : a ∉ X.fs := fun hm => by
      obtain ⟨e, he, q⟩ := List.mem_filterMap.mp hm
      exact nfr (List.mem_filterMap.mpr ⟨e, List.mem_cons_of_mem _ he, q⟩)
    have S3 := J3.suite he3 hd3 na nL nF
    have go : ∀ {hds' : List ExceptHandler} {l' : List (Value × SU)}, HdsA X n hds' l' → wMs X.K i Wout D l' cls d σ' H' → wpAny (model X.prog X.w) X.A (handleBy (.ref a) X.env hds') (SP X pins D) X.xe { s' with heap := h3 } := by
      intro hds' l' hk
      induction hk with
      | nil =>
        intro w
        refine wpAny_handleBy_nil ?_
        obtain ⟨k1, k2, k3, oe, vs, T, oT, ts', he, hz, hd, h1, hr⟩ := id fl3
        unfold PySem.passOn
        refine wpAny_bind (wpAny_field he hd h1 ?_)
        rw [if_neg (show ¬ ((Value.ref T == Value.none) = true) from by simp)]
        have fin : wpAny (model X.prog X.w) X.A (setFlight (.ref a) X.env.frame) (fun _ s4 => wpAny (model X.prog X.w) X.A (throw (.ref a) : Sem Flow) (SP X pins D) X.xe s4) X.xe { s' with heap := h3 } := by
          rw [hf]
          refine HandSPX.setFlight_upZ fl3 fun h4 hh4 up4 => wpAny_throw (tk _ _ ?_)
          exact ⟨a, B, sI, pins, σ', H', cls, d, rfl, J, nb, (up.trans up3).trans up4, .inr (.inr (by rw [hs]; exact hh4)), na, os, ag, w⟩
        first
          | exact wpAny_bind (wpAny_pure (wpAny_bind fin))
          | exact wpAny_bind fin
      | @cons x c b₀ suite np pos' hds2 l2 hc r ih =>
        intro w
        obtain ⟨b, hb1, hyes, hno⟩ := w
        refine wpAny_handleBy_cons (codeAny_handlers_test ?_) (by intro q; cases q)
        have LT : PySem.W.Looks (model X.prog X.w) h3 (typeOf (.ref a)) cls := fun A Q E s k q => wpAny_typeOf_ref (k _ _ he3) (by rw [hz3.1]; exact q)
        have LM := PySem.W.exm_one (M := model X.prog X.w) (J3.kIn) LT hb1
        have test : ∀ {Q : Value → Shared → Prop} {E : Value → Shared → Prop}, Q c { s' with heap := h3 } → wpAny (model X.prog X.w) (X.A.mark (some (.ref a))) (eval (.Name x np) X.env) Q E { s' with heap := h3 } := fun {Q E} q => by
          obtain ⟨hg, hdbg, hm | ⟨hm, hv, hnn⟩⟩ := hc
          · exact ld_glob (X := X.suite a ((a, oe3) :: (X.pn ++ pins))) S3 hg hm q hdbg
          · exact ld_blt (X := X.suite a ((a, oe3) :: (X.pn ++ pins))) S3 hg hm hv q hnn hdbg
        refine test (LM.here ?_)
        cases b with
        | true =>
          refine codeAny_handlers_suite_as ?_
          refine HandSPX.lands_againZ fl3 fun h4 fl4 up4 => ?_
          have J4 : Inv X pins σ' H' { s' with heap := h4 } := J.landed nb fl4.1 ((up.trans up3).trans up4) os ag
          obtain ⟨oe4, vs4, he4, hz4, hd4⟩ := fl4.there
          have S4 := J4.suite he4 hd4 na nL nF
          refine store_ok (X := X.suite a ((a, oe4) :: (X.pn ++ pins))) (v := .ref a) S4 hN hi hloc rfl (fun s5 S5 => ?_) (.inr hln)
          refine wpAny_mono (hyes rfl a na oe4 (X.pn ++ pins) hz4 ⟨_, hd4⟩ [] s5 S5) (fun f s6 hsp => ?_) (fun _ _ z => False.elim z)
          have end_ : ∀ {σ6 : L2.St} {H6 : Hp} {Q : Shared → Prop}, Inv (X.suite a ((a, oe4) :: (X.pn ++ pins))) [] σ6 H6 s6 → (∀ s7, Inv X pins (σ6.set i none) H6 s7 → Q s7) →
              wpAny (model X.prog X.w) X.A (do bindName X.env n .none; unbindBehindTheSuite X.env n pos') (fun _ s7 => Q s7) X.xe s6 := fun {σ6 H6 Q} S6 hq => gone_ok (S6.unsuite ok) hN hi hln hq
          cases f with
          | next =>
            obtain ⟨σ6, H6, S6, q6⟩ := hsp
            exact end_ S6 fun s7 J7 => ⟨_, _, J7, q6⟩
          | brk =>
            obtain ⟨σ6, H6, S6, q6⟩ := hsp
            exact end_ S6 fun s7 J7 => ⟨_, _, J7, q6⟩
          | cont =>
            obtain ⟨σ6, H6, S6, q6⟩ := hsp
            exact end_ S6 fun s7 J7 => ⟨_, _, J7, q6⟩
          | ret u =>
            obtain ⟨v6, σ6, H6, S6, r6, q6⟩ := hsp
            exact end_ S6 fun s7 J7 => ⟨_, _, _, J7, r6, q6⟩
        | false =>
          show wpAny _ X.A (handleBy (.ref a) X.env hds2) _ _ _
          exact ih (hno rfl)
    exact go hh w
  · cases f with
    | next =>
      obtain ⟨σ', H', J', q⟩ := hsp
      exact wpAny_execs_nil ⟨σ', H', J'.ofTry ok, q⟩
    | brk =>
      obtain ⟨σ', H', J', q⟩ := hsp
      exact ⟨σ', H', J'.ofTry ok, q⟩
    | cont =>
      obtain ⟨σ', H', J', q⟩ := hsp
      exact ⟨σ', H', J'.ofTry ok, q⟩
    | ret u =>
      obtain ⟨v, σ', H', J', r, q⟩ := hsp
      exact ⟨v, σ', H', J'.ofTry ok, r, q⟩
end
/-! ### isinstance(e, c), e the error that a suite holds -/
def rIsX (K : PySem.W.Frag) (D a : Addr) : List V → Hp → VK → Prop := fun xs H Q => ∃ (c : V) (cv : Value) (b : Bool), xs = [.ref a, c] ∧ ClsV c cv ∧ PySem.W.kitOne K (.ref D) cv = some b ∧ Q (.bl b) H
theorem call_isX {X : Cx} {a D : Addr} {oe : Obj} {pn : List (Addr × Obj)} {dd : Addr} {fs : List (Str × V)} (C : Ec X.K D) (hz : Zc (.ref D) (some dd) oe) (hf : ∃ vs, oe.data = .fields vs) :
    CallR (X.suite a ((a, oe) :: pn)) (.builtin "isinstance") (fun xs H Q => H dd = some (.xd fs) ∧ rIsX X.K D a xs H Q) := by
  intro pins s σ H xs us Q I r h
  obtain ⟨hdd, c, cv, b, rfl, hcv, e, q⟩ := h
  cases r with
  | cons rx rr =>
    cases rr with
    | cons rt rr =>
      cases rr
      cases rx
      have ec := hcv.eq rt
      subst ec
      obtain ⟨hget, _⟩ := I.pin (a, oe) (List.mem_append.mpr (.inl List.mem_cons_self))
      obtain ⟨vs, hv⟩ := hf
      have hx : ObjOk X.prog X.w H s.heap dd (.xd fs) := I.hok dd _ hdd
      obtain ⟨mA, hns, _⟩ := hx
      obtain ⟨od, es, ep, ho, _⟩ := id hns
      have J : PySem.W.InstAt s.heap a oe D (some od) := ⟨hget, hz.1, by unfold PySem.W.notCls; rw [hv] <;> rfl, by rw [hz.2]; exact ho⟩
      exact PySem.W.kia_one (PySem.W.kitx_exc C.cl C.x.ga C.x.gg C.x.exC C.cls C.gs C.tk C.mo) I.kIn J e (fun z => nomatch z) fun tk => ⟨.bl b, H, I.kept (t' := tk) fun _ _ z => z, rfl, q⟩
/-- the class BundleError -/
structure Bce (K : PySem.W.Frag) (mg : Str → Option Value) (Bc : Addr) (mc : Value) : Prop where
  g : mg "BundleError" = some (.ref Bc)
  r : ClX.CRead K Bc mc
  i : PySem.W.findCls K (.ref Bc) mc "__init__" = some (.val (.builtin "ValueError.__init__"))
theorem bce_mk {K : PySem.W.Frag} {mg : Str → Option Value} {h : Heap} {Bc : Addr} {mc : Value} (X : K.In h) (G : h.Ns mainGlobals mg) (a : PySem.W.nsIn K mainGlobals "BundleError" = some (some (.ref Bc))) (t : PySem.W.typeIn K (.ref Bc) = some mc) (r : PySem.W.readsIn K Bc mc = true) (ga : PySem.W.specialIn K (.ref Bc) "__getattribute__" = some (some (.builtin "type.__getattribute__")))
    (i : PySem.W.findCls K (.ref Bc) mc "__init__" = some (.val (.builtin "ValueError.__init__"))) : Bce K mg Bc mc := ⟨PySem.W.mg_of X G a, ⟨r, ga⟩, i⟩
theorem exd_mk {P : Program} {w : World} {K : PySem.W.Frag} {mg : Str → Option Value} {base : Heap} {x qual f : Str} {C fI : Addr} {st : Stmt} (d : Dm K mg x qual C f st fI) (T : Ec K C) (G : ∀ fd, Fun K "__init__" qual st fI fd → FnOk P w K mg base CX0 1 fI fd ["self", f] (spI1 K f))
    (hb : ∀ (kV doc pm : Value) (an : Option Addr) (cdv ct : Value) (us : List Value), us.length = (["self", f] : List Str).length → bindArgs (PySem.W.fnOf "__init__" qual (defArgs st) (defBody st) (defScope st) .none kV doc pm an cdv ct) ⟨us, []⟩ = pure ((["self", f] : List Str).zip us)) : ExcD P w K mg base 1 x C f := by
  obtain ⟨fd, F⟩ := d.fun
  exact ⟨T, d.no, d.g, fI, fd, d.i, d.t, F.binds hb, G fd F⟩
end B
namespace B
open PySem L2
/-! texts in order; what goods_of makes of a list of names -/
/-- a before b or the same -/
def sle (a b : Str) : Bool := !decide (b.cps.toList < a.cps.toList)
theorem sle_iff {a b : Str} : sle a b = true ↔ a.cps.toList ≤ b.cps.toList := by
  unfold sle
  rw [Bool.not_eq_true', decide_eq_false_iff_not]
  exact List.not_lt
theorem str_ext {a b : Str} (h : a.cps.toList = b.cps.toList) : a = b := by
  cases a; cases b
  simpa using h
theorem sle_trans (a b c : Str) (h1 : sle a b = true) (h2 : sle b c = true) : sle a c = true := by
  rw [sle_iff] at *
  exact List.le_trans h1 h2
theorem sle_total (a b : Str) : (sle a b || sle b a) = true := by
  rw [Bool.or_eq_true, sle_iff, sle_iff]
  exact List.le_total _ _
theorem sle_anti {a b : Str} (h1 : sle a b = true) (h2 : sle b a = true) : a = b := by
  rw [sle_iff] at *
  exact str_ext (List.le_antisymm h1 h2)
/-- the texts in ascending order -/
def sortS (xs : List Str) : List Str := xs.mergeSort sle
theorem sortS_perm (xs : List Str) : (sortS xs).Perm xs := List.mergeSort_perm _ _
theorem sortS_sorted (xs : List Str) : (sortS xs).Pairwise fun a b => sle a b = true := List.pairwise_mergeSort sle_trans sle_total xs
theorem sortS_eq {xs ys : List Str} (h : ys.Perm xs) (hs : ys.Pairwise fun a b => sle a b = true) : ys = sortS xs :=
  List.Perm.eq_of_pairwise (fun _ _ _ _ => sle_anti) hs (sortS_sorted xs) (h.trans (sortS_perm xs).symm)
theorem sortS_len (xs : List Str) : (sortS xs).length = xs.length := (sortS_perm xs).length_eq
theorem rising_pair : ∀ (r : List Str) (x : Str), PyProof.Rows.risingS x r = true → (x :: r).Pairwise fun a b => sle a b = true
  | [], x, _ => List.pairwise_singleton _ _
  | y :: r, x, h => by
    unfold PyProof.Rows.risingS at h
    rw [Bool.and_eq_true] at h
    have ih := rising_pair r y h.2
    have hxy : sle x y = true := by unfold sle; rw [← PyProof.Rows.ltCps_eq]; exact h.1
    refine List.pairwise_cons.mpr ⟨fun z hz => ?_, ih⟩
    rcases List.mem_cons.mp hz with e | e
    · rw [e]; exact hxy
    · exact sle_trans _ _ _ hxy ((List.pairwise_cons.mp ih).1 z e)
theorem sortedS_pair : ∀ {xs : List Str}, PyProof.Rows.sortedS xs = true → xs.Pairwise fun a b => sle a b = true
  | [], _ => List.Pairwise.nil
  | x :: r, h => rising_pair r x h
/-- the first item that is wrong: 1 no name, 2 an earlier one again -/
def firstBad (seen : List Str) : List Str → Option (Nat × Str)
  | [] => none
  | w :: ws => if vn w = false then some (1, w) else if w ∈ seen then some (2, w) else firstBad (seen ++ [w]) ws
theorem firstBad_cons (seen : List Str) (w : Str) (ws : List Str) : firstBad seen (w :: ws) = if vn w = false then some (1, w) else if w ∈ seen then some (2, w) else firstBad (seen ++ [w]) ws := rfl
/-- an error by its number, its field, what it keeps -/
abbrev Er1 := Nat × Str × V
def goodsOf (ws : List Str) : Except Er1 (List Str) :=
  if 1 ≤ ws.length ∧ ws.length ≤ 5 then
    match firstBad [] ws with
    | some (c, w) => .error (c, "name", .str w)
    | none => .ok (sortS ws)
  else .error (4, "count", .int ws.length)
theorem firstBad_none {ws : List Str} : ∀ {seen : List Str}, firstBad seen ws = none ↔ (∀ w ∈ ws, vn w = true) ∧ ws.Nodup ∧ ∀ w ∈ ws, w ∉ seen := by
  induction ws with
  | nil => intro seen; simp [firstBad]
  | cons w r ih =>
    intro seen
    unfold firstBad
    by_cases h1 : vn w = false
    · rw [if_pos h1]
      simp [h1]
    · rw [if_neg h1]
      have h1' : vn w = true := by simpa using h1
      by_cases h2 : w ∈ seen
      · rw [if_pos h2]
        simp [h2]
      · rw [if_neg h2, ih]
        simp only [List.mem_cons, forall_eq_or_imp, h1', true_and, List.nodup_cons, h2, not_false_eq_true, List.mem_append, List.not_mem_nil, or_false, not_or]
        constructor
        · rintro ⟨a, b, c⟩
          exact ⟨a, ⟨fun hm => (c w hm).2 rfl, b⟩, fun x hx => (c x hx).1⟩
        · rintro ⟨a, ⟨b1, b⟩, c⟩
          exact ⟨a, b, fun x hx => ⟨c x hx, fun e => b1 (e ▸ hx)⟩⟩
theorem goodsOf_ok {ws : List Str} (h : 1 ≤ ws.length ∧ ws.length ≤ 5) (h1 : ∀ w ∈ ws, vn w = true) (h2 : ws.Nodup) : goodsOf ws = .ok (sortS ws) := by
  unfold goodsOf
  rw [if_pos h, firstBad_none.mpr ⟨h1, h2, by simp⟩]
theorem firstBad_some {ws : List Str} : ∀ {seen : List Str} {c : Nat} {w : Str}, firstBad seen ws = some (c, w) → (c = 1 ∨ c = 2) ∧ w ∈ ws := by
  induction ws with
  | nil => intro seen c w h; cases h
  | cons x r ih =>
    intro seen c w h
    rw [firstBad_cons] at h
    by_cases h1 : vn x = false
    · rw [if_pos h1] at h
      cases h
      exact ⟨.inl rfl, List.mem_cons_self⟩
    · rw [if_neg h1] at h
      by_cases h2 : x ∈ seen
      · rw [if_pos h2] at h
        cases h
        exact ⟨.inr rfl, List.mem_cons_self⟩
      · rw [if_neg h2] at h
        exact ⟨(ih h).1, List.mem_cons_of_mem _ (ih h).2⟩
theorem goodsOf_err {ws : List Str} {c : Nat} {f : Str} {v : V} (h : goodsOf ws = .error (c, f, v)) : (c = 4 ∧ f = "count" ∧ v = .int ws.length) ∨ (c = 1 ∧ f = "name" ∧ ∃ w ∈ ws, v = .str w) ∨ (c = 2 ∧ f = "name" ∧ ∃ w ∈ ws, v = .str w) := by
  unfold goodsOf at h
  by_cases c1 : 1 ≤ ws.length ∧ ws.length ≤ 5
  · rw [if_pos c1] at h
    cases e : firstBad [] ws with
    | none => rw [e] at h; cases h
    | some p =>
      obtain ⟨c', w⟩ := p
      rw [e] at h
      cases h
      obtain ⟨h1, h2⟩ := firstBad_some e
      rcases h1 with rfl | rfl
      · exact .inr (.inl ⟨rfl, rfl, w, h2, rfl⟩)
      · exact .inr (.inr ⟨rfl, rfl, w, h2, rfl⟩)
  · rw [if_neg c1] at h
    cases h
    exact .inl ⟨rfl, rfl, rfl⟩
theorem goodsOf_inv {ws gs : List Str} (h : goodsOf ws = .ok gs) : gs = sortS ws ∧ (1 ≤ ws.length ∧ ws.length ≤ 5) ∧ (∀ w ∈ ws, vn w = true) ∧ ws.Nodup := by
  unfold goodsOf at h
  by_cases c1 : 1 ≤ ws.length ∧ ws.length ≤ 5
  · rw [if_pos c1] at h
    cases e : firstBad [] ws with
    | none =>
      rw [e] at h
      cases h
      obtain ⟨h1, h2, _⟩ := firstBad_none.mp e
      exact ⟨rfl, c1, h1, h2⟩
    | some p => rw [e] at h; cases h
  · rw [if_neg c1] at h; cases h
theorem goodsOf_idem {ws gs : List Str} (h : goodsOf ws = .ok gs) : goodsOf gs = .ok gs := by
  obtain ⟨rfl, h1, h2, h3⟩ := goodsOf_inv h
  have hp := sortS_perm ws
  rw [goodsOf_ok (by rw [hp.length_eq]; exact h1) (fun w hw => h2 w (hp.subset hw)) (hp.nodup_iff.mpr h3), ← sortS_eq (List.Perm.refl _) (sortS_sorted ws)]
/-- a list or a tuple -/
def Sq (K : PySem.W.Frag) (H : Hp) (a : Addr) (xs : List V) : Prop := SqL K H a xs ∨ SqT K H a xs
theorem Sq.same {K : PySem.W.Frag} {H H' : Hp} {a : Addr} {xs : List V} (h : Sq K H a xs) (e : Same H H') : Sq K H' a xs := h.imp (sm_l e) (sm_t e)
def iSeq (K : PySem.W.Frag) (tl : TE) : TI := fun σ H R => tl σ H fun x H1 => ∃ a, x = .ref a ∧ (((∃ xs, SqL K H1 a xs) ∧ R (Itl K a) H1) ∨ ((∃ xs, SqT K H1 a xs) ∧ R (Itt K a) H1))
theorem pi_seq {X : Cx} {tg l : Expr} {tl : TE} (hl : PE X l tl) : PI X tg l (iSeq X.K tl) := by
  refine ⟨fun pins s σ H R I h => ?_⟩
  refine thn (hl.run pins s σ H _ I h) fun v s1 ⟨x, H1, I1, r1, a, ex, q⟩ => ?_
  subst ex
  cases r1
  have ff : ∀ b ∈ [s1.heap.objs.size], FpOk X pins H1 b := fun b hb => by
    have e : b = s1.heap.objs.size := by simpa using hb
    subst e
    exact I1.fpOk (Nat.le_refl _) (I1.hok.fresh (Nat.le_refl _))
  rcases q with ⟨⟨xs, hx⟩, q⟩ | ⟨⟨xs, hx⟩, q⟩
  · obtain ⟨its, rv, p, hz⟩ := I1.list hx
    exact wpAny_pyIter_list p.isList ⟨_, _, _, _, H1, rfl, I1.kept (t' := s1.toks) fun b o e => Heap.get?_push_of_some _ e, turn_list a _, ⟨_, Heap.get?_push_size _ rfl, rfl, rfl⟩, ff, q⟩
  · obtain ⟨its, rv, p, hz⟩ := I1.tuple hx
    exact wpAny_pyIter_tuple (show s1.heap.IsTuple a its.toArray from p) ⟨_, _, _, _, H1, rfl, I1.kept (t' := s1.toks) fun b o e => Heap.get?_push_of_some _ e, turn_tuple a _, ⟨_, Heap.get?_push_size _ rfl, rfl, rfl⟩, ff, q⟩
section
variable {K : PySem.W.Frag} {a : Addr} {xs : List V} {g : TG} {tb : TS} {D : Ends} {σ : L2.St} {H : Hp}
/-- for over a list or a tuple that is left as it is -/
theorem for_sq {Hb : Hp} (h : Sq K Hb a xs) (Pv : Nat → L2.St → Hp → Prop) (h0 : Pv 0 σ H) (hk : ∀ i σ' H', Pv i σ' H' → Same Hb H')
    (hs : ∀ i x σ' H', xs[i]? = some x → Pv i σ' H' → g x σ' H' fun σ2 H2 => tb { D with nx := Pv (i + 1), ct := Pv (i + 1), bk := D.nx } σ2 H2) (hd : ∀ σ' H', Pv xs.length σ' H' → D.nx σ' H') :
    ((∃ xs, SqL K H a xs) ∧ ∃ W : Nat → Nat → L2.St → Hp → Prop, (∃ m, W 0 m σ H) ∧ ∀ i m σ H, W i m σ H →
      ((Itl K a).stop i H ∧ D.nx σ H) ∨ ((Itl K a).go i H ∧ ∃ N : L2.St → Hp → Prop, (∀ σ' H', N σ' H' → ∃ m', m' < m ∧ W (i + 1) m' σ' H') ∧ ∀ x H', (Itl K a).yld i H x H' → g x σ H' fun σ2 H2 => tb { D with nx := N, ct := N, bk := D.nx } σ2 H2)) ∨
    ((∃ xs, SqT K H a xs) ∧ ∃ W : Nat → Nat → L2.St → Hp → Prop, (∃ m, W 0 m σ H) ∧ ∀ i m σ H, W i m σ H →
      ((Itt K a).stop i H ∧ D.nx σ H) ∨ ((Itt K a).go i H ∧ ∃ N : L2.St → Hp → Prop, (∀ σ' H', N σ' H' → ∃ m', m' < m ∧ W (i + 1) m' σ' H') ∧ ∀ x H', (Itt K a).yld i H x H' → g x σ H' fun σ2 H2 => tb { D with nx := N, ct := N, bk := D.nx } σ2 H2)) := by
  rcases h with h | h
  · exact .inl ⟨⟨_, sm_l (hk _ _ _ h0) h⟩, for_list (K := K) (a := a) (xs := xs) Pv h0 (fun i σ' H' _ p => sm_l (hk i σ' H' p) h) hs hd⟩
  · exact .inr ⟨⟨_, sm_t (hk _ _ _ h0) h⟩, for_tup (K := K) (a := a) (xs := xs) Pv h0 (fun i σ' H' _ p => sm_t (hk i σ' H' p) h) hs hd⟩
end
theorem strs_at {ws : List Str} {i : Nat} {x : V} (h : (ws.map V.str)[i]? = some x) : ∃ w, ws[i]? = some w ∧ x = .str w := by
  rw [List.getElem?_map] at h
  cases e : ws[i]? with
  | none => rw [e] at h; cases h
  | some w => rw [e] at h; exact ⟨w, rfl, (Option.some.inj h).symm⟩
end B
namespace B
open PySem L2
open PySem.W (dataLe AllAlike Sortable EachIs)
/-! Sort: sorted(xs) of data, sorted(xs, key=f) -/
section
variable {X : Cx}
theorem each_of {α : Type} : ∀ {ps : List (V × α)} {us : List Value}, Vals (ps.map Prod.fst) us → EachIs (fun u p => RelV p.1 u) us ps
  | [], [], _ => .nil
  | [], _ :: _, h => nomatch h
  | _ :: _, [], h => nomatch h
  | p :: ps, u :: us, h => by
    cases h with
    | cons h1 h2 => exact .cons h1 (each_of h2)
theorem of_each {α : Type} : ∀ {ps : List (V × α)} {us : List Value}, EachIs (fun u p => RelV p.1 u) us ps → Vals (ps.map Prod.fst) us
  | [], [], _ => .nil
  | [], _ :: _, h => nomatch h
  | _ :: _, [], h => nomatch h
  | p :: ps, u :: us, h => by
    cases h with
    | cons h1 h2 => exact .cons h1 (of_each h2)
theorem each_and {α β : Type} {R S : α → β → Prop} : ∀ {xs : List α} {ys : List β}, EachIs R xs ys → (∀ x y, R x y → y ∈ ys → S x y) → EachIs S xs ys
  | _, _, .nil, _ => .nil
  | _, _, .cons h1 h2, k => .cons (k _ _ h1 List.mem_cons_self) (each_and h2 fun x y r m => k x y r (List.mem_cons_of_mem _ m))
/-- sorted(xs), xs a list of alike data -/
def rSortD (K : PySem.W.Frag) : List V → Hp → VK → Prop := fun vs H Q => ∃ (a : Addr) (ps : List (V × PyData)), vs = [.ref a] ∧ SqL K H a (ps.map Prod.fst) ∧ (∀ p ∈ ps, Dp K H p.1 p.2 ∧ p.2.depth ≤ 60) ∧ AllAlike (ps.map Prod.snd) ∧ Sortable (ps.map Prod.snd) ∧
  ∀ d, H d = none → Q (.ref d) (upd H d (.lst ((ps.mergeSort (dataLe false Prod.snd)).map Prod.fst)))
theorem call_sortD (hu : X.A.units + 64 < cLine) : CallR X (.builtin "sorted") (rSortD X.K) := by
  intro pins s σ H vs us Q I r h
  obtain ⟨a, ps, rfl, hs, hd, hal, hk, q⟩ := h
  obtain rfl := Vals.ref1 r
  obtain ⟨its, rv, hl, hz⟩ := I.list hs
  have e := each_of rv
  have hz' : ps.length ≤ sizeLine := by rw [List.length_map] at hz; exact hz
  refine PySem.W.sorted_data (R := fun u p => RelV p.1 u) (enc := Prod.snd) (bs := ps) hl.isList e (each_and e fun u p rp hp => Dp.reads I _ _ _ (hd p hp).1 rp) hal hk hz' (fun b hb => by have := (hd b hb).2; omega) fun out ho eo => ?_
  obtain ⟨ep, he'⟩ := PyProof.Rows.sortedAll_at s.heap its out.toArray
  have hlen : ((ps.mergeSort (dataLe false Prod.snd)).map Prod.fst).length ≤ sizeLine := by rw [List.length_map, List.length_mergeSort]; exact hz'
  exact ⟨.ref _, upd H (s.heap.objs.size + 1) (.lst _), I.laid (t' := s.toks) (fun _ _ => PyProof.Rows.sortedAll_old) (Nat.le_succ _) ⟨hlen, out, ep, of_each eo, he'⟩, rfl, q _ (I.hok.fresh (Nat.le_succ _))⟩
/-- f(x) for one x, by key=: whatever else was laid -/
def KeyFn (X : Cx) (f : Addr) (H : Hp) (x : V) (k : PyData) : Prop := ∀ (pins : List (Addr × Obj)) (σ : L2.St) (s : Shared) (v : Value), Inv X pins σ H s → RelV x v → wpAny (model X.prog X.w) X.A.in1.in1 (call (.ref f) [v]) (PySem.W.KeyPure k s) (fun _ _ => False) s
def rSortK (X : Cx) (f : Addr) : List V → List V → Hp → VK → Prop := fun vs zs H Q => ∃ (a : Addr) (ps : List (V × PyData)), vs = [.ref a] ∧ zs = [.ref f] ∧ SqL X.K H a (ps.map Prod.fst) ∧ (∀ p ∈ ps, KeyFn X f H p.1 p.2 ∧ p.2.depth ≤ 60) ∧ AllAlike (ps.map Prod.snd) ∧ Sortable (ps.map Prod.snd) ∧
  ∀ d, H d = none → Q (.ref d) (upd H d (.lst ((ps.mergeSort (dataLe false Prod.snd)).map Prod.fst)))
theorem cr_sortK {f : Addr} (hu : X.A.units + 64 < cLine) : CallRK X (.builtin "sorted") [Str.ofString "key"] (rSortK X f) := by
  intro pins s σ H vs zs us ws Q I r rz h
  obtain ⟨a, ps, rfl, rfl, hs, hd, hal, hk, q⟩ := h
  obtain rfl := Vals.ref1 r
  obtain rfl := Vals.ref1 rz
  obtain ⟨its, rv, hl, hz⟩ := I.list hs
  have e := each_of rv
  have hz' : ps.length ≤ sizeLine := by rw [List.length_map] at hz; exact hz
  refine PySem.W.sorted_key_data (R := fun u p => RelV p.1 u) (b := false) (f := .ref f) Prod.snd hl.isList e hal hk hz' (fun b hb => by have := (hd b hb).2; omega) (PyProof.Rows.ksk_s1 _ _) (fun _ => PyProof.Rows.ksk_l1 _ _) (fun _ => PyProof.Rows.ksk_t1 _ _)
    (fun v x rx hx h tk kp => (hd x hx).1 pins σ _ v (I.kept (t' := tk) kp) rx) fun out c h' tk kp fr he ho eo => ?_
  have hlen : ((ps.mergeSort (dataLe false Prod.snd)).map Prod.fst).length ≤ sizeLine := by rw [List.length_map, List.length_mergeSort]; exact hz'
  exact ⟨.ref _, upd H (s.heap.objs.size + 1) (.lst _), I.laid (t' := tk) kp (Nat.le_succ _) ⟨hlen, out, c, of_each eo, he⟩, rfl, q _ (I.hok.fresh (Nat.le_succ _))⟩
end
/-! ### bundles as data -/
def tupS (b : List Str) : PyData := .tuple (b.map .str)
def rankD (b : List Str) : PyData := .tuple [.int b.length, tupS b]
theorem alike_strs : ∀ xs ys : List Str, PySem.W.alikeAll (xs.map .str) (ys.map .str) = true
  | [], _ => by simp [PySem.W.alikeAll]
  | _ :: _, [] => by simp [PySem.W.alikeAll]
  | x :: xs, y :: ys => by simp [PySem.W.alikeAll, PySem.W.alike, alike_strs xs ys]
theorem alike_rank (b c : List Str) : PySem.W.alike (rankD b) (rankD c) = true := by
  simp [rankD, tupS, PySem.W.alike, PySem.W.alikeAll, alike_strs]
theorem depth_rank (b : List Str) : (rankD b).depth ≤ 60 := by
  simp [rankD, tupS, PyData.depth, PyData.depthAll, depth_strs]
theorem depth_tupS (b : List Str) : (tupS b).depth ≤ 1 := by
  simp [tupS, PyData.depth, depth_strs]
end B
namespace B
open PySem L2
open PySem.W (dataLe AllAlike Sortable EachIs)
/-! Bund: lists of data; the bundles of goods -/
section
variable {K : PySem.W.Frag} {H H' : Hp} {α : Type}
theorem dpAll_len : ∀ {xs : List V} {ds : List PyData}, DpAll K H xs ds → xs.length = ds.length
  | _, _, .nil => rfl
  | _, _, .cons _ h => by rw [List.length_cons, List.length_cons, dpAll_len h]
theorem dpAll_get : ∀ {xs : List V} {ds : List PyData} {i : Nat} {x : V}, DpAll K H xs ds → xs[i]? = some x → ∃ d, ds[i]? = some d ∧ Dp K H x d
  | _, _, i, x, .nil, h => by cases i <;> cases h
  | _, _, 0, x, .cons h1 _, h => by cases h; exact ⟨_, rfl, h1⟩
  | _ :: xs, _ :: ds, i + 1, x, .cons _ h2, h => by
    obtain ⟨d, e, k⟩ := dpAll_get (xs := xs) (ds := ds) (i := i) h2 (by rw [List.getElem?_cons_succ] at h; exact h)
    exact ⟨d, by rw [List.getElem?_cons_succ]; exact e, k⟩
theorem dpAll_app : ∀ {xs ys : List V} {ds es : List PyData}, DpAll K H xs ds → DpAll K H ys es → DpAll K H (xs ++ ys) (ds ++ es)
  | _, _, _, _, .nil, h => h
  | _, _, _, _, .cons h1 h2, h => .cons h1 (dpAll_app h2 h)
theorem dpAll_zip {enc : α → PyData} : ∀ {xs : List V} {bs : List α}, DpAll K H xs (bs.map enc) → ∀ p ∈ xs.zip bs, Dp K H p.1 (enc p.2)
  | [], _, _ => fun p hp => by rw [List.zip_nil_left] at hp; cases hp
  | x :: xs, [], h => by cases h
  | x :: xs, b :: bs, h => fun p hp => by
    cases h with
    | cons h1 h2 =>
      rw [List.zip_cons_cons] at hp
      rcases List.mem_cons.mp hp with rfl | hp
      · exact h1
      · exact dpAll_zip h2 p hp
theorem dpAll_of {enc : α → PyData} : ∀ {L : List (V × α)}, (∀ p ∈ L, Dp K H p.1 (enc p.2)) → DpAll K H (L.map Prod.fst) ((L.map Prod.snd).map enc)
  | [], _ => .nil
  | p :: L, h => .cons (h p List.mem_cons_self) (dpAll_of fun q hq => h q (List.mem_cons_of_mem _ hq))
theorem dpAll_same {xs : List V} {ds : List PyData} (h : DpAll K H xs ds) (e : Same H H') : DpAll K H' xs ds := dp_sameAll e ds xs h
theorem strs_of : ∀ {xs : List V} {b : List Str}, DpAll K H xs (b.map PyData.str) → xs = b.map V.str
  | [], [], _ => rfl
  | [], _ :: _, h => by cases h
  | _ :: _, [], h => by cases h
  | x :: xs, y :: ys, h => by
    cases h with
    | cons h1 h2 => cases h1; rw [strs_of h2, List.map_cons]
/-- a bundle's tuple -/
theorem tup_of {x : V} {b : List Str} (h : Dp K H x (tupS b)) : ∃ t, x = .ref t ∧ SqT K H t (b.map V.str) := by
  unfold tupS at h
  cases h with
  | @tup t xs ds h1 h2 => rw [strs_of h2] at h1; exact ⟨_, rfl, h1⟩
theorem of_tup {t : Addr} {b : List Str} (h : SqT K H t (b.map V.str)) : Dp K H (.ref t) (tupS b) := .tup h (dp_strs b)
theorem noL_tupS (b : List Str) : noL (tupS b) = true := noLs_strs b
theorem noL_rank (b : List Str) : noL (rankD b) = true := by simp [rankD, noL, noLs, noL_tupS]
theorem noLs_map {enc : α → PyData} (h : ∀ b, noL (enc b) = true) : ∀ bs : List α, noLs (bs.map enc) = true
  | [] => rfl
  | b :: bs => by simp [noLs, h b, noLs_map h bs]
/-- in the midst of a list display by for: pre i is what is there behind i items -/
def PvP (K : PySem.W.Frag) (H1 : Hp) (D : Addr) (pre : Nat → List PyData) (i : Nat) (H : Hp) : Prop := Same H1 H ∧ ∃ acc, H D = some (.lst acc) ∧ acc.length ≤ i ∧ DpAll K H acc (pre i)
variable {H1 H4 : Hp} {D : Addr} {pre : Nat → List PyData} {i : Nat}
theorem PvP.zero (hD : H1 D = none) (h0 : pre 0 = []) : PvP K H1 D pre 0 (upd H1 D (.lst [])) := ⟨sm_new hD, [], upd_same, Nat.le_refl _, by rw [h0]; exact .nil⟩
theorem PvP.step {y : V} {d : PyData} (hD : H1 D = none) (p : PvP K H1 D pre i H) (hn : noLs (pre i) = true) (nd : noL d = true) (hp : pre (i + 1) = pre i ++ [d]) (e : Same H H4) (hy : Dp K H4 y d) (hi : i < sizeLine) : ∃ acc, H4 D = some (.lst acc) ∧ acc.length < sizeLine ∧ PvP K H1 D pre (i + 1) (upd H4 D (.lst (acc ++ [y]))) := by
  obtain ⟨e1, acc, ha, hl, hd⟩ := p
  have h4 := e D _ ha
  refine ⟨acc, h4, by omega, ⟨fun b o hb => ?_, acc ++ [y], upd_same, by rw [List.length_append, List.length_singleton]; omega, ?_⟩⟩
  · rw [upd_ne (fun z => by rw [z, hD] at hb; cases hb)]
    exact e _ _ (e1 _ _ hb)
  · have k : NLk H4 (upd H4 D (.lst (acc ++ [y]))) := (NLk.refl H4).upd h4
    rw [hp]
    exact dpAll_app (dp_tsAll k _ _ hn (dpAll_same hd e)) (.cons (dp_ts k _ _ nd hy) .nil)
theorem PvP.skip (p : PvP K H1 D pre i H) (hp : pre (i + 1) = pre i) (e : Same H H4) : PvP K H1 D pre (i + 1) H4 := by
  obtain ⟨e1, acc, ha, hl, hd⟩ := p
  exact ⟨e1.trans e, acc, e _ _ ha, by omega, by rw [hp]; exact dpAll_same hd e⟩
/-- one for each -/
theorem pre_take {ds : List PyData} {d : PyData} (h : ds[i]? = some d) : ds.take (i + 1) = ds.take i ++ [d] := by rw [List.take_add_one, h]; rfl
end
section
/-! ### all subsets, in the order of bundle_rank -/
def grow (bs : List (List Str)) (x : Str) : List (List Str) := bs ++ bs.map (· ++ [x])
def subs (g : List Str) : List (List Str) := g.foldl grow [[]]
def bnds (g : List Str) : List (List Str) := (subs g).mergeSort (dataLe false rankD)
theorem subs_len : ∀ (g : List Str) (bs : List (List Str)), (g.foldl grow bs).length = bs.length * 2 ^ g.length
  | [], bs => by simp
  | x :: g, bs => by
    rw [List.foldl_cons, subs_len g, List.length_cons, Nat.pow_succ]
    unfold grow
    rw [List.length_append, List.length_map, Nat.mul_comm (2 ^ g.length) 2, ← Nat.mul_assoc]
    congr 1
    omega
theorem subs_take {g : List Str} {i : Nat} {x : Str} (h : g[i]? = some x) : subs (g.take (i + 1)) = grow (subs (g.take i)) x := by
  unfold subs
  rw [List.take_add_one, h, List.foldl_append]
  rfl
theorem subs_mem_len : ∀ (g : List Str) (bs : List (List Str)) (n : Nat), (∀ b ∈ bs, b.length ≤ n) → ∀ b ∈ g.foldl grow bs, b.length ≤ n + g.length
  | [], bs, n, h => by simpa using h
  | x :: g, bs, n, h => by
    intro b hb
    rw [List.foldl_cons] at hb
    have := subs_mem_len g (grow bs x) (n + 1) (fun c hc => by
      unfold grow at hc
      rcases List.mem_append.mp hc with hc | hc
      · have := h c hc; omega
      · obtain ⟨c', hc', rfl⟩ := List.mem_map.mp hc
        have := h c' hc'
        rw [List.length_append, List.length_singleton]; omega) b hb
    rw [List.length_cons]; omega
variable {K : PySem.W.Frag} {H : Hp}
/-- the sorted ones, by whatever stands for them -/
theorem sort_dp {enc : List Str → PyData} {L : List (V × List Str)} (h : ∀ p ∈ L, Dp K H p.1 (enc p.2)) :
    DpAll K H (((L.map fun p => (p.1, rankD p.2)).mergeSort (dataLe false Prod.snd)).map Prod.fst) (((L.map Prod.snd).mergeSort (dataLe false rankD)).map enc) := by
  have e1 := PySem.W.sort_maps (r := dataLe false fun p : V × List Str => rankD p.2) (s := dataLe false (Prod.snd : V × PyData → PyData)) (fun p : V × List Str => (p.1, rankD p.2)) (l := L) (fun _ _ _ _ => rfl)
  have e2 := PySem.W.sort_maps (r := dataLe false fun p : V × List Str => rankD p.2) (s := dataLe false rankD) (Prod.snd : V × List Str → List Str) (l := L) (fun _ _ _ _ => rfl)
  rw [← e1, ← e2, List.map_map]
  exact dpAll_of fun p hp => h p ((List.mergeSort_perm _ _).mem_iff.mp hp)
def spBunds (K : PySem.W.Frag) : Sp := fun vs H Q _ => ∃ (a : Addr) (g : List Str), vs = [.ref a] ∧ SqT K H a (g.map V.str) ∧ g.length ≤ 5 ∧ ∀ (q : Addr) (xs : List V) (H' : Hp), Same H H' → H q = none → H' q = some (.lst xs) → DpAll K H' xs ((bnds g).map tupS) → Q (.ref q) H'
theorem sorts_rank (L : List (V × List Str)) : AllAlike ((L.map fun p => (p.1, rankD p.2)).map Prod.snd) ∧ Sortable ((L.map fun p => (p.1, rankD p.2)).map Prod.snd) := by
  rw [List.map_map]
  exact ⟨PySem.W.AllAlike.of (enc := fun p : V × List Str => rankD p.2) fun _ _ => alike_rank _ _, PySem.W.Sortable.tuples (enc := fun p : V × List Str => rankD p.2) fun p => ⟨_, _, rfl⟩⟩
end
/-- len(xs), xs a list or a tuple -/
def rLenS (K : PySem.W.Frag) : List V → Hp → VK → Prop := fun xs H Q => ∃ p ys, xs = [.ref p] ∧ (SqL K H p ys ∨ SqT K H p ys) ∧ Q (.int (ys.length : Nat)) H
theorem call_lenS {X : Cx} : CallR X (.builtin "len") (rLenS X.K) := call_len_seq
end B
namespace B
open PySem L2
/-! RevT: t[::-1], t a tuple -/
section
open PyProof.Rows HT
open PySem.SeqAt
open PySem.AutoSeq1 (wpAny_loadPart')
open PySem.MeetsSeq PySem.MeetsSeq2 PySem.MeetsSeq3
variable {prog : Program} {w : World} {A : Around} {E : Value → Shared → Prop} {s : Shared}
theorem adj_rev (n : Nat) : Builtin.Slice.sliceAdjust none none (-1) (n : Int) = ((n : Int) - 1, -1) := by
  unfold Builtin.Slice.sliceAdjust; rfl
theorem places_rev (n : Nat) : Builtin.Slice.slicePlaces ((n : Int) - 1) (-1) (-1) = n := by
  unfold Builtin.Slice.slicePlaces
  rw [if_neg (by decide)]
  by_cases h : ((n : Int) - 1) > -1
  · rw [if_pos h]; simp <;> omega
  · rw [if_neg h]; simp; omega
theorem applied_rev {sl : Addr} {vl vu vk : Value} {n : Nat} {Q : Int × Int × Nat → Shared → Prop} (hs : s.heap.IsSliceOf sl vl vu vk) (pl : IsPart vl none) (pu : IsPart vu none) (pk : IsPart vk (some (-1)))
    (h : Q ((n : Int) - 1, -1, n) s) : wpAny (model prog w) A (Builtin.Slice.sliceApplied (.ref sl) (pure (n : Int))) Q E s := by
  obtain ⟨os, hos, hcs, hds⟩ := id hs
  unfold Builtin.Slice.sliceApplied Builtin.Slice.sliceFields
  refine wpAny_bind (wpAny_bind (wpAny_field hos hds (x := vl) rfl (wpAny_bind (wpAny_field hos hds (x := vu) rfl (wpAny_bind (wpAny_field hos hds (x := vk) rfl (wpAny_pure ?_)))))))
  refine wpAny_bind (slicePart_ pk ?_)
  show wpAny _ _ (if ((-1 : Int) == 0) = true then _ else _) _ _ s
  rw [if_neg (by decide)]
  refine wpAny_bind (slicePart_ pl (wpAny_bind (slicePart_ pu (wpAny_bind (wpAny_pure ?_)))))
  show wpAny _ _ (match Builtin.Slice.sliceAdjust none none (-1) (n : Int) with | (lo, hi) => pure (lo, (-1 : Int), Builtin.Slice.slicePlaces lo hi (-1))) _ _ s
  rw [adj_rev n]
  show wpAny _ _ (pure ((n : Int) - 1, (-1 : Int), Builtin.Slice.slicePlaces ((n : Int) - 1) (-1) (-1))) _ _ s
  rw [places_rev]
  exact wpAny_pure h
theorem pick_rev (xs : Array Value) : ((List.range xs.size).filterMap fun (k : Nat) => xs[((xs.size : Int) - 1 + (k : Int) * (-1)).toNat]?).toArray = xs.toList.reverse.toArray := by
  have e : ∀ l : List Nat, (l.filterMap fun (k : Nat) => xs[((xs.size : Int) - 1 + (k : Int) * (-1)).toNat]?) = (l.map fun k => xs.size - 1 - k).filterMap (xs[·]?) := fun l => by
    rw [List.filterMap_map]
    congr 1
    funext k
    have : ((xs.size : Int) - 1 + (k : Int) * (-1)).toNat = xs.size - 1 - k := by omega
    rw [this]; rfl
  rw [e, PySem.W.krv_range, List.filterMap_reverse]
  congr 2
  exact PySem.W.krv_all _
theorem getItem_tuple_rev {t sl : Addr} {items : Array Value} {vl vu vk : Value} {Q : Value → Shared → Prop} (ht : IsTup s.heap t items) (hs : s.heap.IsSliceOf sl vl vu vk) (pl : IsPart vl none) (pu : IsPart vu none) (pk : IsPart vk (some (-1)))
    (h : Q (.ref s.heap.objs.size) { s with heap := s.heap.push { cls := .type "tuple", data := .seq items.toList.reverse.toArray } }) (hsz : items.size ≤ sizeLine) : wpAny (model prog w) A (getItem (.ref t) (.ref sl)) Q E s := by
  have htake : sizeOk (.seq items.toList.reverse.toArray) := by
    show items.toList.reverse.toArray.size ≤ sizeLine
    rw [List.size_toArray, List.length_reverse, Array.length_toList]
    exact hsz
  obtain ⟨os, hos, hcs, hds⟩ := id hs
  have hTs : s.TypeIs (.ref sl) "slice" := ⟨os, hos, hcs⟩
  unfold getItem
  try with_reducible refine wpAny_holding ?_
  first | refine wpAny_bind (wpAny_pure ?_) | skip
  refine wpAny_bind (wpAny_sequenceKey ht.typeIs (by decide) ?_)
  refine wpAny_bind (wpAny_callSpecial?_slot (name := Str.ofString "__getitem__") ht.typeIs PyProof.Rows.slot_tuple_getitem
    (wpAny_call_entry PyProof.Rows.slot_tuple_getitem ht.typeIs entry_tuple_getitem ?_ (args_tuple_getitem _ _)))
  show wpAny _ _ (Builtin.Tuple.tupleItemsOf (.ref t) >>= _) _ _ s
  refine wpAny_bind (tupleItemsOf_ ht ?_)
  refine wpAny_bind (wpAny_typeOf hTs ?_)
  rw [if_pos (by decide)]
  refine wpAny_bind (applied_rev hs pl pu pk ?_)
  show wpAny _ _ (if (((items.size : Int) - 1) == 0 && (-1 : Int) == 1 && items.size == items.size) = true then _ else _) _ _ s
  rw [if_neg (by simp), pick_rev]
  first
    | exact wpAny_bind (m := Builtin.Tuple.tupleExact _) (wpAny_newObj_type (wpAny_pure ⟨_, rfl, wpAny_pure h⟩) htake)
    | exact wpAny_bind (m := Builtin.Tuple.tupleExact _) (wpAny_newObj_type (wpAny_bind (wpAny_pure (wpAny_pure ⟨_, rfl, wpAny_pure h⟩))) htake)
    | exact wpAny_bind (wpAny_bind (m := Builtin.Tuple.tupleExact _) (wpAny_newObj_type (wpAny_pure (wpAny_pure ⟨_, rfl, wpAny_pure h⟩)) htake))
    | exact wpAny_bind (wpAny_bind (m := Builtin.Tuple.tupleExact _) (wpAny_newObj_type (wpAny_pure ⟨_, rfl, wpAny_pure h⟩) htake))
end
section
open PySem.Spec PyProof.Rows
variable {X : Cx}
def tRevT (K : PySem.W.Frag) (te : TE) : TE := fun σ H Q => te σ H fun x H1 => ∃ (a : Addr) (xs : List V), x = .ref a ∧ SqT K H1 a xs ∧ ∀ p, H1 p = none → Q (.ref p) (upd H1 p (.tup xs.reverse))
theorem vals_rev {xs : List V} {us : List Value} (r : Vals xs us) : Vals xs.reverse us.reverse := by
  induction r with
  | nil => exact .nil
  | cons h t ih => rw [List.reverse_cons, List.reverse_cons]; exact ih.append (.cons h .nil)
theorem pe_revT {e : Expr} {te : TE} {k : Nat} {p1 p2 p3 pos : Pos} (he : PE X e te) : PE X (.Subscript e (.Slice none none (some (.UnaryOp .USub (.Constant (.int 1) k p1) p2)) p3) pos) (tRevT X.K te) := by
  refine ⟨fun pins s σ H Q I h => ?_⟩
  refine Subscript_ (thn (he.run pins s σ H _ I h) fun v s1 ⟨x, H1, I1, r1, q1⟩ => ?_)
  obtain ⟨a, xs, ex, hx, q⟩ := q1
  subst ex
  cases r1
  have hst : PO X (some (.UnaryOp .USub (.Constant (.int 1) k p1) p2)) (tPart (tUn (rU fun i => .int (-i)) (tC (.int 1)))) := po_some (pe_un un_neg pe_int)
  refine wpAny_Slice (thn (po_none.run pins s1 σ H1 (fun o H2 => o = none ∧ H2 = H1) I1 ⟨rfl, rfl⟩) fun vl s2 ⟨l, H2, I2, pl, el, e2⟩ => ?_)
  subst el e2
  refine thn (po_none.run pins s2 σ H2 (fun o H3 => o = none ∧ H3 = H2) I2 ⟨rfl, rfl⟩) fun vu s3 ⟨u, H3, I3, pu, eu, e3⟩ => ?_
  subst eu e3
  refine thn (hst.run pins s3 σ H3 (fun o H4 => o = some (-1) ∧ H4 = H3) I3 ⟨1, rfl, -1, rfl, rfl, rfl⟩) fun vs s4 ⟨o, H4, I4, ps, eo, e4⟩ => ?_
  subst eo e4
  have I5 : Inv X pins σ H4 { s4 with heap := s4.heap.push { cls := .type "slice", data := .fields #[vl, vu, vs] } } := I4.kept (t' := s4.toks) fun b ob q => Heap.get?_push_of_some _ q
  obtain ⟨its, r, ht, hz⟩ := I5.tuple hx
  refine tail_any (ops := [.ref a, .ref s4.heap.objs.size]) ht.typeIs (PyProof.Rows.slot_tuple_getitem.lookup) ?_ (by with_unfolding_all rfl)
  refine getItem_tuple_rev ht ⟨_, Heap.get?_push_size _ rfl, rfl, rfl⟩ pl pu ps ?_ (by rw [List.size_toArray, ← r.length]; exact hz)
  refine ⟨.ref _, _, I5.laid (t' := s4.toks) (o := .tup xs.reverse) (fun b ob q => Heap.get?_push_of_some _ q) (Nat.le_refl _) ?_, rfl, q _ (I5.hok.fresh (Nat.le_refl _))⟩
  exact ⟨by rw [List.length_reverse]; exact hz, _, vals_rev r, IsTup.new _ _⟩
end
end B
namespace B
open PySem L2
/-! Any: values of all kinds -/
section
variable {K : PySem.W.Frag} {H H' : Hp} {p : Addr} {m : Nat}
theorem StA.nlk (S : StA H p m) (k : Kp p H H') : NLk H H' := fun b u hb n => k.keep b u hb fun z => by
  obtain ⟨c, l, cs, sc, nn, h1, h2, h3, _⟩ := S.ex
  rcases z with z | ⟨x, y, kk, z, q⟩
  · rw [z, h1] at hb; cases hb; exact n _ rfl
  · rw [h1] at z
    cases z
    rcases q with q | q
    · cases q; rw [h2] at hb; cases hb; exact n _ rfl
    · cases q; rw [h3] at hb; cases hb; exact n _ rfl
/-- no tuple -/
inductive NT (H : Hp) : V → Prop
  | non : NT H .non
  | bl (b : Bool) : NT H (.bl b)
  | int (i : Int) : NT H (.int i)
  | str (x : Str) : NT H (.str x)
  | lst {a : Addr} {xs : List V} (h : H a = some (.lst xs)) : NT H (.ref a)
  | dct {a : Addr} {kvs : List (Key × V)} (h : H a = some (.dK kvs)) : NT H (.ref a)
theorem NT.same {v : V} (h : NT H v) (e : Same H H') : NT H' v := by
  cases h with
  | non => exact .non
  | bl b => exact .bl b
  | int b => exact .int b
  | str b => exact .str b
  | lst h => exact .lst (e _ _ h)
  | dct h => exact .dct (e _ _ h)
theorem NT.ty {v : V} (h : NT H v) : ∃ t, TyX K H v t ∧ PySem.W.kitOne K t (.type "tuple") = some false := by
  cases h with
  | non => exact ⟨_, .base .non, rfl⟩
  | bl b => exact ⟨_, .base (.bl b), rfl⟩
  | int b => exact ⟨_, .base (.int b), rfl⟩
  | str b => exact ⟨_, .base (.str b), rfl⟩
  | lst h => exact ⟨_, .base (.lst h), rfl⟩
  | dct h => exact ⟨_, .base (.dK h), rfl⟩
/-- a simple item -/
def El (K : PySem.W.Frag) (H : Hp) (v : V) : Prop := ∃ d, Dp K H v d ∧ noL d = true ∧ d.depth ≤ 2
theorem El.nlk {v : V} (h : El K H v) (e : NLk H H') : El K H' v := let ⟨d, a, b, c⟩ := h; ⟨d, dp_ts e d v b a, b, c⟩
theorem El.same {v : V} (h : El K H v) (e : Same H H') : El K H' v := h.nlk (NLk.same e)
theorem El.str (x : Str) : El K H (.str x) := ⟨.str x, .str x, rfl, by show (0 : Nat) ≤ 2; decide⟩
theorem els_strs (b : List Str) : ∀ v ∈ b.map V.str, El K H v := fun v hv => by
  obtain ⟨x, _, rfl⟩ := List.mem_map.mp hv
  exact El.str x
theorem els_dp : ∀ {xs : List V}, (∀ v ∈ xs, El K H v) → ∃ ds, DpAll K H xs ds ∧ noLs ds = true ∧ PyData.depthAll ds ≤ 2
  | [], _ => ⟨[], .nil, rfl, by show (0 : Nat) ≤ 2; decide⟩
  | v :: xs, h => by
    obtain ⟨d, a, b, c⟩ := h v List.mem_cons_self
    obtain ⟨ds, a1, b1, c1⟩ := els_dp (xs := xs) fun u hu => h u (List.mem_cons_of_mem _ hu)
    exact ⟨d :: ds, .cons a a1, by simp [noLs, b, b1], by simp only [PyData.depthAll]; omega⟩
inductive AnyV (K : PySem.W.Frag) (p : Addr) (H : Hp) : V → Prop
  | tup {v : V} {ds : List PyData} (h : Dp K H v (.tuple ds)) (n : noLs ds = true) (d : PyData.depthAll ds ≤ 50) : AnyV K p H v
  | nt {v : V} (h : NT H v) (hn : ∀ a, v = .ref a → ¬ Own H p a) : AnyV K p H v
  | tl {t l : Addr} {bs : List Str} (h : H t = some (.tup [.ref l])) (hl : At p H l (.lst (bs.map V.str))) : AnyV K p H (.ref t)
theorem AnyV.els {t : Addr} {xs : List V} (h : SqT K H t xs) (e : ∀ v ∈ xs, El K H v) : AnyV K p H (.ref t) := by
  obtain ⟨ds, a, b, c⟩ := els_dp e
  exact .tup (.tup h a) b (by omega)
theorem AnyV.kp {v : V} (h : AnyV K p H v) (S : StA H p m) (k : Kp p H H') : AnyV K p H' v := by
  cases h with
  | tup h n d => exact .tup (dp_ts (S.nlk k) _ v n h) n d
  | tl h hl => exact .tl (S.nlk k _ _ h fun _ z => nomatch z) (hl.kp k)
  | nt h hn =>
    cases h with
    | non => exact .nt .non fun _ z => nomatch z
    | bl b => exact .nt (.bl b) fun _ z => nomatch z
    | int b => exact .nt (.int b) fun _ z => nomatch z
    | str b => exact .nt (.str b) fun _ z => nomatch z
    | @lst a xs h =>
      have A : At p H' a _ := At.kp ⟨h, hn a rfl⟩ k
      exact .nt (.lst A.1) fun b z => by cases z; exact A.2
    | @dct a xs h =>
      have A : At p H' a _ := At.kp ⟨h, hn a rfl⟩ k
      exact .nt (.dct A.1) fun b z => by cases z; exact A.2
theorem AnyV.lst {a : Addr} {xs : List V} (h : At p H a (.lst xs)) : AnyV K p H (.ref a) := .nt (.lst h.1) fun b z => by cases z; exact h.2
theorem AnyV.out {v : V} (h : AnyV K p H v) : (∃ ds, Dp K H v (.tuple ds) ∧ PyData.depthAll ds ≤ 50) ∨ NT H v := by
  cases h with
  | tup h n d => exact .inl ⟨_, h, d⟩
  | nt h hn => exact .inr h
  | @tl t l bs h hl => exact .inl ⟨_, .tup (sqT h) (.cons (dpL hl.1 (dp_strs bs)) .nil), by simp [PyData.depthAll, PyData.depth, depth_strs]⟩
/-- t + u, whatever is empty -/
theorem cat_any {a b : Addr} {xs ys : List V} {Q : VK} (ha : SqT K H a xs) (hb : SqT K H b ys) (hz : xs.length + ys.length ≤ 1000) (k : ∀ t H', Same H H' → SqT K H' t (xs ++ ys) → Q (.ref t) H') : rCatA K (.ref a) (.ref b) H Q :=
  ⟨a, b, xs, ys, rfl, rfl, ha, hb, Nat.le_trans hz (by decide), fun e => by subst e; exact k b H (Same.refl H) hb, fun _ e => by subst e; exact k a H (Same.refl H) (by rw [List.append_nil]; exact ha), fun _ _ q nq => k q _ (sm_new nq) (sqT upd_same)⟩
/-- t[:n] -/
theorem cut_any {a : Addr} {xs : List V} {n : Nat} {Q : VK} (ha : SqT K H a xs) (k : ∀ t H', Same H H' → SqT K H' t (xs.take n) → Q (.ref t) H') : rSlA K (.ref a) none (some (n : Int)) H Q := by
  refine ⟨a, xs, rfl, ha, fun e => k a H (Same.refl H) ?_, fun _ q nq => k q _ (sm_new nq) ?_⟩
  · rw [HT.sIx_nat] at e
    rw [List.take_of_length_le (by omega)]; exact ha
  · have e : cutV xs none (some (n : Int)) = xs.take n := by
      unfold cutV
      rw [HT.sIx_none, HT.sIx_nat, List.drop_zero, Nat.sub_zero]
      by_cases h : n ≤ xs.length
      · rw [Nat.min_eq_left h]
      · rw [Nat.min_eq_right (by omega), List.take_length, List.take_of_length_le (by omega)]
    rw [e]; exact sqT upd_same
end
end B
namespace B
open PySem L2
def top (i : Nat) : Stmt := PySem.Challenge.pw_bundlekinds_k11_bundles.main.body.getD i (.Pass ⟨0, 0, 0, 0⟩)
abbrev s_BadName___init__ : Stmt := inClass (top 2) 0
theorem sc_BadName___init__ : FnScope ["self", "name"] ["self", "name"] (defScope s_BadName___init__) := ⟨rfl, rfl, rfl, by decide +kernel, rfl, by decide +kernel, by decide +kernel⟩
abbrev s_DuplicateName___init__ : Stmt := inClass (top 3) 0
theorem sc_DuplicateName___init__ : FnScope ["self", "name"] ["self", "name"] (defScope s_DuplicateName___init__) := ⟨rfl, rfl, rfl, by decide +kernel, rfl, by decide +kernel, by decide +kernel⟩
abbrev s_BadCount___init__ : Stmt := inClass (top 4) 0
theorem sc_BadCount___init__ : FnScope ["self", "count"] ["self", "count"] (defScope s_BadCount___init__) := ⟨rfl, rfl, rfl, by decide +kernel, rfl, by decide +kernel, by decide +kernel⟩
abbrev s_valid_name : Stmt := top 9
theorem sc_valid_name : FnScope ["text", "char"] ["text"] (defScope s_valid_name) := ⟨rfl, rfl, rfl, by decide +kernel, rfl, by decide +kernel, by decide +kernel⟩
abbrev s_goods_of : Stmt := top 12
theorem sc_goods_of : FnScope ["names", "goods", "name"] ["names"] (defScope s_goods_of) := ⟨rfl, rfl, rfl, by decide +kernel, rfl, by decide +kernel, by decide +kernel⟩
abbrev s_bundle_rank : Stmt := top 13
theorem sc_bundle_rank : FnScope ["bundle"] ["bundle"] (defScope s_bundle_rank) := ⟨rfl, rfl, rfl, by decide +kernel, rfl, by decide +kernel, by decide +kernel⟩
abbrev s_all_bundles : Stmt := top 14
theorem sc_all_bundles : FnScope ["goods", "bundles", "name", "bundle"] ["goods"] (defScope s_all_bundles) := ⟨rfl, rfl, rfl, by decide +kernel, rfl, by decide +kernel, by decide +kernel⟩
abbrev s_is_bundle : Stmt := top 15
theorem sc_is_bundle : FnScope ["goods", "value", "name"] ["goods", "value"] (defScope s_is_bundle) := ⟨rfl, rfl, rfl, by decide +kernel, rfl, by decide +kernel, by decide +kernel⟩
abbrev s_l_start : Stmt := top 17
theorem sc_l_start : FnScope ["_law_script", "_law_cell"] ["_law_script"] (defScope s_l_start) := ⟨rfl, rfl, rfl, by decide +kernel, rfl, by decide +kernel, by decide +kernel⟩
abbrev s_l_draw : Stmt := top 18
theorem sc_l_draw : FnScope ["_law_state", "_law_size", "_law_digit", "_law_cell", "_law_one"] ["_law_state", "_law_size"] (defScope s_l_draw) := ⟨rfl, rfl, rfl, by decide +kernel, rfl, by decide +kernel, by decide +kernel⟩
abbrev s_l_names : Stmt := top 19
theorem sc_l_names : FnScope ["_law_state", "_law_count", "_law_signs", "_law_k", "_law_stem", "_law_letter", "_law_offset", "_law_stride", "_law_plan", "_law_step", "_law_whole", "_law_words", "_law_sign", "_law_back"] ["_law_state", "_law_count"] (defScope s_l_names) := ⟨rfl, rfl, rfl, by decide +kernel, rfl, by decide +kernel, by decide +kernel⟩
abbrev s_l_bundles : Stmt := top 20
theorem sc_l_bundles : FnScope ["_law_stock", "_law_found", "_law_label", "_law_pair", "_law_bag"] ["_law_stock"] (defScope s_l_bundles) := ⟨rfl, rfl, rfl, by decide +kernel, rfl, by decide +kernel, by decide +kernel⟩
abbrev s_l_any : Stmt := top 21
theorem sc_l_any : FnScope ["_law_state", "_law_stock", "_law_menu", "_law_row", "_law_part", "_law_values", "_law_k", "_law_label"] ["_law_state", "_law_stock"] (defScope s_l_any) := ⟨rfl, rfl, rfl, by decide +kernel, rfl, by decide +kernel, by decide +kernel⟩
abbrev s_l_is_bundle : Stmt := top 22
theorem sc_l_is_bundle : FnScope ["_law_stock", "_law_thing", "_law_label"] ["_law_stock", "_law_thing"] (defScope s_l_is_bundle) := ⟨rfl, rfl, rfl, by decide +kernel, rfl, by decide +kernel, by decide +kernel⟩
abbrev s_law : Stmt := top 23
theorem sc_law : FnScope ["_law_script", "_law_state", "_law_stock", "_law_due", "_law_told", "_law_bag", "_law_turn", "_law_thing", "_law_actual", "_law_few"] ["_law_script"] (defScope s_law) := ⟨rfl, rfl, rfl, by decide +kernel, rfl, by decide +kernel, by decide +kernel⟩
end B
namespace B
open PySem L2
def spVN : Sp := fun vs H Q _ => ∃ w : Str, vs = [.str w] ∧ w.length ≤ 100000 ∧ Q (.bl (vn w)) H
section
variable {P : Program} {w : World} {K : PySem.W.Frag} {mg : Str → Option Value} {base : Heap}
theorem ok_valid_name {f : Addr} {fd : FuncData} (F : Fun K "valid_name" "valid_name" s_valid_name f fd) (T : Bt mg) (C_LETTERS : ∃ t, mg "LETTERS" = some (.str LET t)) (C_DIGITS : ∃ t, mg "DIGITS" = some (.str DIG t)) (C_LONGEST : ∃ t, mg "LONGEST" = some (.int 6 t)) : FnOk P w K mg base CX0 1 f fd ["text"] spVN := by
  refine F.ok sc_valid_name (fun vs H Q E h => ?_) (fun cdv A outer s H vs Q E hr h => ⟨_, wb, ?_⟩)
  · obtain ⟨p, rfl, _⟩ := h
    rfl
  · obtain ⟨z, rfl, hz, k⟩ := h
    refine nxtN (ps_if (PW.pt (pw_or (pt_not (pt_chain op_le op_le pe_int (pe_callB call_len_str (by rfl) T.len PySem.boot_len (pa_cons (pv 0) pa_nil)) (pgI C_LONGEST))) (pw_or1 (pt_cmpR op_notIn_sign (pe_ix ix_str (pv 0) pe_int (fun _ _ => rfl)) (pgS C_LETTERS) rfl)))) (pss_one (ps_ret pe_bl)) pss_nil) fun N hN => ?_
    refine ⟨_, rfl, z, rfl, sz5 hz, _, _, rfl, rfl, _, rfl, ?_⟩
    refine ite2 (fun c1 => ?_) (fun c1 => ?_)
    · refine ⟨_, _, rfl, rfl, _, rfl, ?_⟩
      have d1 := of_decide_eq_true c1
      refine ite2 (fun c2 => ?_) (fun c2 => ?_)
      · refine iteT ?_
        show Q (.bl false) H
        have d2 : ¬ ((z.length : Int) ≤ 6) := by simpa using c2
        rw [vn_short (by omega)] at k
        exact k
      · have d2 : (z.length : Int) ≤ 6 := by simpa using c2
        obtain ⟨c, hc⟩ := first_of (w := z) (by omega)
        refine ⟨_, rfl, z, 0, c, rfl, rfl, sz5 hz, at0s hc, c, LET, rfl, rfl, _, rfl, ?_⟩
        refine ite2 (fun c3 => ?_) (fun c3 => ?_)
        · show Q (.bl false) H
          rw [vn_first hc (by simpa using c3)] at k
          exact k
        · refine hN _ _ ?_
          have c3' : c ∈ LET.cps.toList := by simpa using c3
          rw [vn_all (by omega) hc c3'] at k
          refine nxtN (ps_for PassesOwn.never rfl (pi_str (pv 0)) (pg_name (i := 1) sc_valid_name.nd rfl (Or.inl rfl)) wb) fun N2 hN2 => ?_
          refine ⟨_, rfl, z, rfl, for_str (fun i σ H' => H' = H ∧ (∃ v, σ = [some (.str z), v]) ∧ (z.cps.toList.take i).all alnum = true) ⟨rfl, ⟨_, rfl⟩, rfl⟩ ?_ ?_⟩
          · rintro i c σ H1 hi ⟨rfl, ⟨v, rfl⟩, ha⟩
            refine last (ps_if (PW.pt (pw_and (pt_cmpR op_notIn_sign (pv 1) (pgS C_LETTERS) rfl) (pw_and1 (pt_cmpR op_notIn_sign (pv 1) (pgS C_DIGITS) rfl)))) (pss_one (ps_ret pe_bl)) pss_nil) ?_
            refine ⟨_, rfl, c, LET, rfl, rfl, _, rfl, ?_⟩
            have next : alnum c = true → (z.cps.toList.take (i + 1)).all alnum = true := fun h => by
              rw [List.take_add_one, hi, List.all_append, ha]
              simp [h]
            refine ite2 (fun c4 => ?_) (fun c4 => ?_)
            · refine ⟨_, rfl, c, DIG, rfl, rfl, _, rfl, ?_⟩
              refine ite2 (fun c5 => ?_) (fun c5 => ?_)
              · show Q (.bl false) H1
                have e : z.cps.toList.all alnum = false := by
                  rw [List.all_eq_false]
                  refine ⟨c, List.mem_of_getElem? hi, ?_⟩
                  unfold alnum
                  rw [decide_eq_false (by simpa using c4), decide_eq_false (by simpa using c5)]
                  decide
                rw [e] at k
                exact k
              · refine ⟨rfl, ⟨_, rfl⟩, next ?_⟩
                unfold alnum
                rw [decide_eq_true (p := c ∈ DIG.cps.toList) (by simpa using c5), Bool.or_true]
            · refine iteF ?_
              refine ⟨rfl, ⟨_, rfl⟩, next ?_⟩
              unfold alnum
              rw [decide_eq_true (p := c ∈ LET.cps.toList) (by simpa using c4), Bool.true_or]
          · rintro σ H1 ⟨rfl, ⟨v, rfl⟩, ha⟩
            refine hN2 _ _ ?_
            refine last (ps_ret pe_bl) ?_
            rw [List.take_length] at ha
            rw [ha] at k
            exact k
    · refine ⟨_, rfl, ?_⟩
      show Q (.bl false) H
      have d1 : ¬ (1 ≤ (z.length : Int)) := by simpa using c1
      rw [vn_short (by omega)] at k
      exact k
end
end B
namespace B
open PySem L2
/-- an answer or an error of one field -/
def spRes (ec : Nat → Addr) (r : Except Er1 (List Str)) (H : Hp) (Q : VK) (E : XK) : Prop := match r with
  | .ok gs => ∀ p H', H p = none → Same H H' → H' p = some (.tup (gs.map V.str)) → Q (.ref p) H'
  | .error (c, f, v) => ∀ d H', H d = none → Same H H' → H' d = some (.xd [(f, v)]) → E (.ref (ec c)) (some d) H'
def spGoods (K : PySem.W.Frag) (ec : Nat → Addr) : Sp := fun vs H Q E => ∃ (a : Addr) (ws : List Str), vs = [.ref a] ∧ Sq K H a (ws.map V.str) ∧ (∀ w ∈ ws, w.length ≤ 100000) ∧ spRes ec (goodsOf ws) H Q E
section
variable {P : Program} {w : World} {K : PySem.W.Frag} {mg : Str → Option Value} {base : Heap} {ec : Nat → Addr}
theorem ok_goods_of {f : Addr} {fd : FuncData} (F : Fun K "goods_of" "goods_of" s_goods_of f fd) (T : Bt mg) (C_MOST_GOODS : ∃ t, mg "MOST_GOODS" = some (.int 5 t)) (D_valid_name : Df P w K mg base CX0 1 "valid_name" ["text"] spVN)
    (X_BadName : ExcD P w K mg base 1 "BadName" (ec 1) "name") (X_DuplicateName : ExcD P w K mg base 1 "DuplicateName" (ec 2) "name") (X_BadCount : ExcD P w K mg base 1 "BadCount" (ec 4) "count") : FnOk P w K mg base (L2.CX P w) 4 f fd ["names"] (spGoods K ec) := by
  refine F.okX sc_goods_of (fun vs H Q E h => ?_) (fun cdv A outer s H vs Q E hr h => ⟨_, wb, ?_⟩)
  · obtain ⟨a, ws, rfl, _⟩ := h
    rfl
  · obtain ⟨a, ws, rfl, hS, hw, k⟩ := h
    have tk := takes_of (X := cxOf (L2.CX P w) P w K mg base ["names", "goods", "name"] "goods_of" (defScope s_goods_of) f cdv A outer s H E) (E := E) rfl rfl rfl rfl
    refine nxtN (ps_if (pt_not (pt_chain op_le op_le pe_int (pe_callB call_len_seq (by rfl) T.len PySem.boot_len (pa_cons (pv 0) pa_nil)) (pgI C_MOST_GOODS))) (pss_one (raise1 X_BadCount (hr.mono (by decide)) rfl tk (pe_callB call_len_seq (by rfl) T.len PySem.boot_len (pa_cons (pv 0) pa_nil)))) pss_nil) fun N hN => ?_
    have bad : ¬ (1 ≤ ws.length ∧ ws.length ≤ 5) → tRaise1 (ec 4) "count" (fun cls d _ H => E cls d H) (tCB (fun xs H Q => ∃ p ys, xs = [.ref p] ∧ (SqL K H p ys ∨ SqT K H p ys) ∧ Q (.int ys.length) H) (tCons (tVar 0) tNil)) { nx := N, rt := Q } [some (.ref a), none, none] H := fun c => by
      refine ⟨_, rfl, a, _, rfl, hS, fun d H2 nd e2 h2 => ?_⟩
      unfold goodsOf at k
      rw [if_neg c] at k
      exact k d H2 nd e2 (by rw [List.length_map] at h2; exact h2)
    refine ⟨_, rfl, a, _, rfl, hS, _, _, rfl, rfl, _, rfl, ?_⟩
    rw [List.length_map]
    refine ite2 (fun c1 => ?_) (fun c1 => ?_)
    · refine ⟨_, _, rfl, rfl, _, rfl, ?_⟩
      have d1 := of_decide_eq_true c1
      refine ite2 (fun c2 => ?_) (fun c2 => ?_)
      · have d2 : ¬ ((ws.length : Int) ≤ 5) := by simpa using c2
        exact bad (by omega)
      · have d2 : (ws.length : Int) ≤ 5 := by simpa using c2
        refine hN _ _ ?_
        have hl : 1 ≤ ws.length ∧ ws.length ≤ 5 := by omega
        unfold goodsOf at k
        rw [if_pos hl] at k
        refine nxt (ps_set (i := 1) sc_goods_of.nd rfl (Or.inl rfl) (pe_lst pa_nil)) ?_
        refine ⟨by decide, fun g ng => ?_⟩
        refine upd_gen ng fun H1 e1 h1 => ?_
        refine nxtN (ps_for (passes_of rfl) rfl (pi_seq (pv 0)) (pg_name (i := 2) sc_goods_of.nd rfl (Or.inl rfl)) wb) fun N2 hN2 => ?_
        refine ⟨_, rfl, a, rfl, for_sq hS (fun i σ H' => (∃ v, σ = [some (.ref a), some (.ref g), v]) ∧ Same H H' ∧ H' g = some (.lst ((ws.take i).map V.str)) ∧ firstBad [] ws = firstBad (ws.take i) (ws.drop i)) ⟨⟨_, rfl⟩, e1, by simpa using h1, by simp⟩ (fun i σ' H' p => p.2.1) ?_ ?_⟩
        · rintro i x σ' H2 hi ⟨⟨v, rfl⟩, e2, h2, hb⟩
          obtain ⟨nm, hnm, rfl⟩ := strs_at hi
          have hil : i < ws.length := (List.getElem?_eq_some_iff.mp hnm).1
          have hdr : ws.drop i = nm :: ws.drop (i + 1) := by
            rw [List.drop_eq_getElem_cons hil]
            congr 1
            exact (List.getElem?_eq_some_iff.mp hnm).2
          have hnl := hw nm (List.mem_of_getElem? hnm)
          rw [hdr, firstBad_cons] at hb
          refine nxtN (ps_if (pt_not (pt_val (pc D_valid_name (hr.mono (by decide)) (pa_cons (pv 2) pa_nil)))) (pss_one (raise1 X_BadName (hr.mono (by decide)) rfl tk (pv 2))) pss_nil) fun N3 hN3 => ?_
          refine ⟨_, rfl, nm, rfl, hnl, _, rfl, ?_⟩
          refine ite2 (fun c3 => ?_) (fun c3 => ?_)
          · have c3' : vn nm = false := by simpa using c3
            refine ⟨_, rfl, fun d H3 nd e3 h3 => ?_⟩
            rw [hb, if_pos c3'] at k
            exact k d H3 (e2.free nd) (e2.trans e3) h3
          · have c3' : ¬ vn nm = false := by simpa using c3
            rw [if_neg c3'] at hb
            refine hN3 _ _ ?_
            refine nxtN (ps_if (pt_cmpR (op_inP hr.units) (pv 2) (pv 1) rfl) (pss_one (raise1 X_DuplicateName (hr.mono (by decide)) rfl tk (pv 2))) pss_nil) fun N4 hN4 => ?_
            refine ⟨_, rfl, _, rfl, _, _, .str nm, .inl (dpL h2 (dp_strs _)), .inl (by show 0 ≤ 60; decide), _, rfl, ?_⟩
            rw [any_strs]
            refine ite2 (fun c4 => ?_) (fun c4 => ?_)
            · have c4' : nm ∈ ws.take i := by simpa using c4
              refine ⟨_, rfl, fun d H3 nd e3 h3 => ?_⟩
              rw [hb, if_pos c4'] at k
              exact k d H3 (e2.free nd) (e2.trans e3) h3
            · have c4' : nm ∉ ws.take i := by simpa using c4
              rw [if_neg c4'] at hb
              refine hN4 _ _ ?_
              refine last (ps_expr (pe_bm PySem.F.plainAttrs_list PySem.F.slot_list_append PySem.F.type_list_append mt_append (pv 1) (pa_cons (pv 2) pa_nil))) ?_
              refine ⟨_, rfl, .inl ⟨rfl, _, sqL h2⟩, _, rfl, g, _, _, rfl, rfl, h2, small1000 (by simp; omega), ?_⟩
              refine ⟨⟨_, rfl⟩, fun b o q => ?_, ?_, ?_⟩
              · rw [upd_ne (ne_of_none q ng)]; exact e2 _ _ q
              · rw [upd_same, List.take_add_one, hnm, List.map_append]; rfl
              · rw [hb, List.take_add_one, hnm]; rfl
        · rintro σ' H2 ⟨⟨v, rfl⟩, e2, h2, hb⟩
          rw [List.length_map, List.take_length] at h2
          rw [List.length_map, List.take_length, List.drop_length] at hb
          refine hN2 _ _ ?_
          refine last (ps_ret (pe_callTy call_tuple_of (by rfl) T.tuple (by decide +kernel) (pa_cons (pe_callB cr_sortedS (by rfl) T.sorted (by decide +kernel) (pa_cons (pv 1) pa_nil)) pa_nil))) ?_
          refine ⟨_, rfl, g, ws, rfl, sqL h2, by omega, fun ys q hp hs nq => ?_⟩
          refine upd_gen nq fun H3 e3 h3 => ?_
          refine ⟨q, _, rfl, .inl ⟨sqL h3, fun r nr => ?_⟩⟩
          refine upd_gen nr fun H4 e4 h4 => ?_
          rw [hb] at k
          refine k r H4 ((e2.trans e3).free nr) ((e2.trans e3).trans e4) ?_
          rw [← sortS_eq hp (sortedS_pair hs)]
          exact h4
    · refine ⟨_, rfl, ?_⟩
      have d1 : ¬ (1 ≤ (ws.length : Int)) := by simpa using c1
      exact bad (by omega)
end
end B
namespace B
open PySem L2
section
variable {P : Program} {w : World} {K : PySem.W.Frag} {mg : Str → Option Value} {base : Heap} {Bc : Addr} {mc : Value}
theorem ok_BadName___init__ {f : Addr} {fd : FuncData} (F : Fun K "__init__" "BadName.__init__" s_BadName___init__ f fd) (rB : ClX.CRead K Bc mc) (kB : PySem.W.findCls K (.ref Bc) mc "__init__" = some (.val (.builtin "ValueError.__init__"))) (gB : mg "BundleError" = some (.ref Bc)) : FnOk P w K mg base CX0 1 f fd ["self", "name"] (spI1 K "name") := by
  refine F.ok sc_BadName___init__ (fun vs H Q E h => ?_) (fun cdv A outer s H vs Q E hr h => ⟨_, wb, ?_⟩)
  · obtain ⟨a, C, v, rfl, _⟩ := h
    rfl
  · obtain ⟨a, C, v, rfl, T, no, ha, k⟩ := h
    refine nxt (ps_expr (pe_beinit rB kB gB (pa_cons (pv 0) (pa_cons pe_str pa_nil)))) ?_
    refine ⟨_, rfl, a, C, _, rfl, (by show 1 ≤ 1000; decide), T, ha, ?_⟩
    refine last (ps_ost (pv 0) (pv 1)) ?_
    exact ⟨_, rfl, _, rfl, a, C, rfl, T, no, .inl ⟨ha, fun dx n ne => k dx n ne⟩⟩
theorem ok_DuplicateName___init__ {f : Addr} {fd : FuncData} (F : Fun K "__init__" "DuplicateName.__init__" s_DuplicateName___init__ f fd) (rB : ClX.CRead K Bc mc) (kB : PySem.W.findCls K (.ref Bc) mc "__init__" = some (.val (.builtin "ValueError.__init__"))) (gB : mg "BundleError" = some (.ref Bc)) : FnOk P w K mg base CX0 1 f fd ["self", "name"] (spI1 K "name") := by
  refine F.ok sc_DuplicateName___init__ (fun vs H Q E h => ?_) (fun cdv A outer s H vs Q E hr h => ⟨_, wb, ?_⟩)
  · obtain ⟨a, C, v, rfl, _⟩ := h
    rfl
  · obtain ⟨a, C, v, rfl, T, no, ha, k⟩ := h
    refine nxt (ps_expr (pe_beinit rB kB gB (pa_cons (pv 0) (pa_cons pe_str pa_nil)))) ?_
    refine ⟨_, rfl, a, C, _, rfl, (by show 1 ≤ 1000; decide), T, ha, ?_⟩
    refine last (ps_ost (pv 0) (pv 1)) ?_
    exact ⟨_, rfl, _, rfl, a, C, rfl, T, no, .inl ⟨ha, fun dx n ne => k dx n ne⟩⟩
theorem ok_BadCount___init__ {f : Addr} {fd : FuncData} (F : Fun K "__init__" "BadCount.__init__" s_BadCount___init__ f fd) (rB : ClX.CRead K Bc mc) (kB : PySem.W.findCls K (.ref Bc) mc "__init__" = some (.val (.builtin "ValueError.__init__"))) (gB : mg "BundleError" = some (.ref Bc)) : FnOk P w K mg base CX0 1 f fd ["self", "count"] (spI1 K "count") := by
  refine F.ok sc_BadCount___init__ (fun vs H Q E h => ?_) (fun cdv A outer s H vs Q E hr h => ⟨_, wb, ?_⟩)
  · obtain ⟨a, C, v, rfl, _⟩ := h
    rfl
  · obtain ⟨a, C, v, rfl, T, no, ha, k⟩ := h
    refine nxt (ps_expr (pe_beinit rB kB gB (pa_cons (pv 0) (pa_cons pe_str pa_nil)))) ?_
    refine ⟨_, rfl, a, C, _, rfl, (by show 1 ≤ 1000; decide), T, ha, ?_⟩
    refine last (ps_ost (pv 0) (pv 1)) ?_
    exact ⟨_, rfl, _, rfl, a, C, rfl, T, no, .inl ⟨ha, fun dx n ne => k dx n ne⟩⟩
end
end B
namespace B
open PySem L2
section
variable {P : Program} {w : World} {K : PySem.W.Frag} {mg : Str → Option Value} {base : Heap}
/-- bundle_rank(t): a new tuple, nothing else changes -/
theorem rank_run {f : Addr} {fd : FuncData} (F : Fun K "bundle_rank" "bundle_rank" s_bundle_rank f fd) (hl : mg "len" = none) {A : Around} {outer : List Env} {s : Shared} {H : Hp} {t : Addr} {xs : List V} {E : Value → Shared → Prop} {Q : Value → Shared → Prop} (hr : Room 1 A) (e0 : Env0 P w K mg base A outer s H) (ht : SqT K H t xs)
    (h : ∀ (h' : Heap) (tk n : Nat) (c : Addr), (∀ b o, s.heap.get? b = some o → h'.get? b = some o) → h'.get? c = some { cls := .type "tuple", data := .seq #[.int xs.length n, .ref t] } → Q (.ref c) { s with heap := h', toks := tk }) :
    wpAny (model P w) A (call (.ref f) [.ref t]) Q E s := by
  obtain ⟨oc, od, kV, doc, pm, an, cdv, ct, osl, rfl, lk, hcd⟩ := F.ex
  have S := sc_bundle_rank
  have KX : K.In s.heap := e0.mod.kin.keeps fun b o e => (e0.bs b o e).1
  have lim : s.heap.NoLimit := e0.mod.nolimit.keeps fun b o e => (e0.bs b o e).1
  have hkind : ∀ y ∈ (["bundle"] : List Str).zip [Value.ref t], (defScope s_bundle_rank).names.lookup y.1 = some .local ∨ ((defScope s_bundle_rank).names.lookup y.1 = some .cell ∧ ((cellsFrom (s.heap.objs.size + 1) (defScope s_bundle_rank).names []).lookup y.1).isSome = true) := fun ⟨n, v⟩ hy => by
    rcases S.par n (List.of_mem_zip hy).1 with q | q
    · exact .inl q
    · exact .inr ⟨q, PySem.W.cellsFrom_some _ _ _ (.inl q)⟩
  refine wpAny_call (codeAny_call_function hr.depth (KX _ _ lk) rfl S.co S.gen rfl (PySem.W.codeRec_of KX hcd) ((show BindsTo s _ ⟨[.ref t], []⟩ ((["bundle"] : List Str).zip [Value.ref t]) from .of_eq rfl) _ _ _ _ ?_))
  refine wpAny_newFunctionEnv_cells S.kind hkind fun env he s1 x => ?_
  subst he
  refine ⟨lim.keeps x.toInCall.keep, codeAny_func ?_⟩
  have I : Inv (cxOf CX0 P w K mg base ["bundle"] "bundle_rank" (defScope s_bundle_rank) f cdv A outer s H E0) [] (start ["bundle"] [.ref t]) H s1 := inv_start S hr.hd e0 rfl (.cons rfl .nil) x
  obtain ⟨h1, tk1, e1, k1⟩ := x.done
  have var : ∀ (s2 : Shared) (pos : Pos) (Q2 : Value → Shared → Prop) (E2 : Value → Shared → Prop), Inv (cxOf CX0 P w K mg base ["bundle"] "bundle_rank" (defScope s_bundle_rank) f cdv A outer s H E0) [] (start ["bundle"] [.ref t]) H s2 → Q2 (.ref t) s2 →
      wpAny (model P w) (A.deeper (PyProof.Rows.envOfC "bundle_rank" (defScope s_bundle_rank) s.heap.objs.size f cdv)) (eval (.Name "bundle" pos) (PyProof.Rows.envOfC "bundle_rank" (defScope s_bundle_rank) s.heap.objs.size f cdv)) Q2 E2 s2 := by
    intro s2 pos Q2 E2 J q
    obtain ⟨m, hn, hl⟩ := J.loc
    obtain ⟨u, r, l⟩ := hl 0 "bundle" (.ref t) rfl rfl (.inl rfl)
    cases r
    rcases l with ⟨hk, hm⟩ | ⟨hk, _⟩
    · exact wpAny_Name (wpAny_loadName_local J.ok.kind hk hn hm q) (by decide)
    · rcases hk with hk | hk <;> exact absurd (show List.lookup _ (defScope s_bundle_rank).names = _ from hk) (by decide +kernel)
  obtain ⟨its, rv, pl, hz⟩ := I.tuple ht
  have hlen := rv.length
  have hn63 := line63
  refine wpAny_execs_cons (wpAny_Return_some (wpAny_Tuple_spliced (Calls.spliced_cons (x := eval _ _) ?_)))
  refine wpAny_Call_Name_kw (ld_blt I (by rfl) hl PySem.boot_len ?_)
  refine PyProof.Rows.callWith_builtin1 (Calls.spliced_cons (x := eval _ _) (var _ _ _ _ I ?_))
  refine Calls.spliced_nil ?_
  refine PyProof.Rows.len_tuple pl (by simp only [List.size_toArray] <;> omega) ?_
  refine Calls.spliced_cons (x := eval _ _) (var _ _ _ _ (I.tok _) ?_)
  refine Calls.spliced_nil ⟨(by show 2 ≤ sizeLine; decide), ?_⟩
  subst e1
  show Q _ _
  have e2 : (its.toArray.size : Int) = (xs.length : Int) := by rw [List.size_toArray, hlen]
  rw [e2]
  exact h _ _ _ _ (fun b o e => Heap.get?_push_of_some _ (k1 b o e)) (Heap.get?_push_size _ rfl)
theorem reads_strs {h : Heap} : ∀ {b : List Str} {us : List Value}, Vals (b.map V.str) us → PySem.ReadsAll h us (b.map PyData.str) []
  | [], [], _ => .nil
  | [], _ :: _, r => nomatch r
  | _ :: _, [], r => nomatch r
  | x :: b, u :: us, r => by
    cases r with
    | cons r1 r2 =>
      obtain ⟨t, rfl⟩ := r1
      exact ReadsAll.cons (as := []) (bs := []) (Reads.str x t) (reads_strs r2)
theorem rank_key {X : Cx} {f : Addr} {fd : FuncData} (F : Fun X.K "bundle_rank" "bundle_rank" s_bundle_rank f fd) (hl : X.mg "len" = none) (hr : Room 3 X.A) {H : Hp} {x : V} {b : List Str} (hx : Dp X.K H x (tupS b)) : KeyFn X f H x (rankD b) := by
  intro pins σ s v I rx
  obtain ⟨t, rfl, ht⟩ := tup_of hx
  cases rx
  refine rank_run F hl hr.in1.in1 I.env0.in1.in1 ht fun h' tk n c kp hc => ⟨h', tk, rfl, kp, ?_⟩
  obtain ⟨its, rv, ⟨o, ho, hoc, n', hd⟩, hz⟩ := I.tuple ht
  rw [List.length_map] at hc
  refine Reads.tuple (as := []) hc rfl rfl (ReadsAll.cons (as := []) (bs := []) (Reads.int _ _) (ReadsAll.cons (as := []) (bs := []) (Reads.tuple (as := []) (kp _ _ ho) hoc hd ?_) .nil))
  exact reads_strs rv
end
end B
namespace B
open PySem L2
section
variable {P : Program} {w : World} {K : PySem.W.Frag} {mg : Str → Option Value} {base : Heap}
/-- t + (x,) -/
theorem cat_one {H : Hp} {Q : VK} {b : List Str} {x : Str} {t q : Addr} (ht : SqT K H t (b.map V.str)) (nq : H q = none) (hb : b.length ≤ 100) (k : ∀ y H4, Same H H4 → Dp K H4 y (tupS (b ++ [x])) → Q y H4) : rCatA K (.ref t) (.ref q) (upd H q (.tup [.str x])) Q := by
  refine ⟨t, q, b.map V.str, [.str x], rfl, rfl, sm_t (sm_new nq) ht, sqT upd_same, (by rw [List.length_map]; show b.length + 1 ≤ sizeLine; exact Nat.le_trans (Nat.succ_le_succ hb) (by decide)), fun e => ?_, fun _ e => (by cases e), fun _ _ p np => ?_⟩
  · have e0 : b = [] := by simpa using e
    subst e0
    exact k _ _ (sm_new nq) (of_tup (b := [x]) (sqT upd_same))
  · refine k _ _ ((sm_new nq).trans (sm_new np)) (of_tup (b := b ++ [x]) ?_)
    rw [List.map_append]
    exact sqT upd_same
theorem ok_all_bundles {f fr : Addr} {fd fdr : FuncData} (F : Fun K "all_bundles" "all_bundles" s_all_bundles f fd) (T : Bt mg) (Fr : Fun K "bundle_rank" "bundle_rank" s_bundle_rank fr fdr) (gr : mg "bundle_rank" = some (.ref fr)) : FnOk P w K mg base CX0 4 f fd ["goods"] (spBunds K) := by
  refine F.ok sc_all_bundles (fun vs H Q E h => ?_) (fun cdv A outer s H vs Q E hr h => ⟨_, wb, ?_⟩)
  · obtain ⟨a, g, rfl, _⟩ := h
    rfl
  · obtain ⟨a, g, rfl, hS, h5, k⟩ := h
    refine nxt (ps_set (i := 1) sc_all_bundles.nd rfl (Or.inl rfl) (pe_lst (pa_cons (pe_tup pa_nil) pa_nil))) ?_
    refine ⟨by decide, fun t0 n0 => ?_⟩
    refine upd_gen n0 fun H1 e1 h1 => ?_
    refine ⟨(by show 1 ≤ sizeLine; decide), fun q2 n2 => ?_⟩
    refine upd_gen n2 fun H2 e2 h2 => ?_
    have nq2 : H q2 = none := by
      cases z : H q2 with
      | none => rfl
      | some o => rw [e1 _ _ z] at n2; cases n2
    refine nxtN (ps_for PassesOwn.never rfl (pi_tup (pv 0)) (pg_name (i := 2) sc_all_bundles.nd rfl (Or.inr rfl)) wb) fun N hN => ?_
    refine ⟨_, rfl, a, rfl, ⟨_, sm_t (e1.trans e2) hS⟩, for_tup (K := K) (xs := g.map V.str) (fun i σ H' => (∃ q v xs, σ = [some (.ref a), some (.ref q), v, none] ∧ H q = none ∧ Same H H' ∧ H' q = some (.lst xs) ∧ DpAll K H' xs ((subs (g.take i)).map tupS))) ?_ (fun i σ' H' _ ⟨q, v, xs, _, _, e, _⟩ => sm_t e hS) ?_ ?_⟩
    · exact ⟨q2, _, _, rfl, nq2, e1.trans e2, h2, .cons (of_tup (b := []) (sqT (e2 _ _ h1))) .nil⟩
    · rintro i x σ' H3 hx ⟨q, v, xs, rfl, nq, e3, h3, hd⟩
      rw [List.getElem?_map] at hx
      obtain ⟨nm, hnm, rfl⟩ := Option.map_eq_some_iff.mp hx
      have hi : i < g.length := (List.getElem?_eq_some_iff.mp hnm).1
      have hsl : (subs (g.take i)).length ≤ 32 := by
        unfold subs
        rw [subs_len, List.length_take, List.length_singleton, Nat.one_mul]
        exact Nat.le_trans (Nat.pow_le_pow_right (by decide) (show min i g.length ≤ 5 by omega)) (by decide)
      have hxl : xs.length ≤ 32 := by rw [dpAll_len hd, List.length_map]; exact hsl
      refine last (ps_set (i := 1) sc_all_bundles.nd rfl (Or.inl rfl) (pe_op op_cat (pv 1) (pe_lc (own := [("bundle", 3)]) (g := gName 3) rfl sc_all_bundles.nd (pi_list (pv 1)) (blkOk_by (own := [("bundle", 3)]) (N := ["goods", "bundles", "name", "bundle"]) (sc := defScope s_all_bundles) (by decide +kernel)) (fun _ _ _ _ _ => (pg_name (i := 3) sc_all_bundles.nd rfl (Or.inl rfl))) (fun _ _ _ _ _ => pts_nil) (fun _ _ _ _ _ => (pe_op (r := rCatA K) op_catA (pv 3) (pe_tup (pa_cons (pv 2) pa_nil))))))) ?_
      have hbs : ∀ b ∈ subs (g.take i), b.length ≤ 5 := fun b hb => by
        have := subs_mem_len (g.take i) [[]] 0 (by simp) b hb
        rw [List.length_take] at this
        omega
      rw [subs_take hnm]
      generalize subs (g.take i) = bs at hd hsl hbs
      refine ⟨_, rfl, _, rfl, q, rfl, ⟨_, sqL h3⟩, fun D nD => ?_⟩
      refine lc_list (K := K) (xs := xs) (PvP K H3 D fun j => (bs.map fun b => tupS (b ++ [nm])).take j) (.zero nD rfl) (fun j H' _ p => sm_l p.1 (sqL h3)) ?_ ?_
      · intro j x H4 hx p
        obtain ⟨d, hd1, hd2⟩ := dpAll_get hd hx
        rw [List.getElem?_map] at hd1
        obtain ⟨b, hb, rfl⟩ := Option.map_eq_some_iff.mp hd1
        obtain ⟨t, rfl, ht⟩ := tup_of hd2
        have hjl : j < 32 := by have := (List.getElem?_eq_some_iff.mp hx).1; omega
        have hbl : b.length ≤ 100 := by have := hbs b (List.mem_of_getElem? hb); omega
        refine ⟨rfl, ?_⟩
        refine ⟨_, rfl, _, rfl, (by show 1 ≤ sizeLine; decide), fun q5 n5 => ?_⟩
        refine cat_one (sm_t p.1 ht) n5 hbl fun y H5 e5 hy => ?_
        refine PvP.step nD p ?_ (noL_tupS _) (pre_take ?_) e5 hy (by show j < sizeLine; exact Nat.lt_of_lt_of_le hjl (by decide))
        · show noLs (List.take j _) = true
          rw [← List.map_take]
          exact noLs_map (fun b => noL_tupS _) _
        · rw [List.getElem?_map, hb]; rfl
      · rintro H4 ⟨e4, acc, ha, _, hacc⟩
        have hlen : xs.length = (bs.map fun b => tupS (b ++ [nm])).length := by rw [dpAll_len hd, List.length_map, List.length_map]
        have hacc : DpAll K H4 acc (List.take xs.length (bs.map fun b => tupS (b ++ [nm]))) := hacc
        rw [hlen, List.take_length] at hacc
        have hal : acc.length ≤ 32 := by rw [dpAll_len hacc, List.length_map]; exact hsl
        refine ⟨q, D, xs, acc, rfl, rfl, e4 _ _ h3, ha, Nat.le_trans (show xs.length + acc.length ≤ 64 by omega) (by decide), fun p6 n6 => ?_⟩
        have nq6 : H p6 = none := by
          cases z : H p6 with
          | none => rfl
          | some o => rw [e4 _ _ (e3 _ _ z)] at n6; cases n6
        refine ⟨p6, _, _, rfl, nq6, (e3.trans e4).trans (sm_new n6), upd_same, ?_⟩
        unfold grow
        rw [List.map_append, List.map_map]
        exact dpAll_same (dpAll_app (dpAll_same hd e4) hacc) (sm_new n6)
    · rintro σ' H3 ⟨q, v, xs, rfl, nq, e3, h3, hd⟩
      refine hN _ _ ?_
      rw [List.length_map, List.take_length] at hd
      refine last (ps_ret (pe_callBK (cr_sortK (f := fr) hr.units) (by rfl) T.sorted (by decide +kernel) (pa_cons (pv 1) pa_nil) (pk_cons (pe_glob (v := .ref fr) (by rfl) gr rfl) pk_nil))) ?_
      have hz1 : xs.length = (subs g).length := by rw [dpAll_len hd, List.length_map]
      have hL := dpAll_zip hd
      obtain ⟨al, so⟩ := sorts_rank (xs.zip (subs g))
      refine ⟨_, rfl, q, (xs.zip (subs g)).map fun p => (p.1, rankD p.2), rfl, rfl, ?_, ?_, al, so, fun d nd => ?_⟩
      · rw [List.map_map]
        show SqL K H3 q ((xs.zip (subs g)).map Prod.fst)
        rw [List.map_fst_zip (Nat.le_of_eq hz1)]
        exact sqL h3
      · intro p hp
        obtain ⟨p', hp', rfl⟩ := List.mem_map.mp hp
        exact ⟨rank_key Fr T.len hr (hL p' hp'), depth_rank _⟩
      · have nqd : H d = none := by
          cases z : H d with
          | none => rfl
          | some o => rw [e3 _ _ z] at nd; cases nd
        refine k d _ _ (e3.trans (sm_new nd)) nqd upd_same (dpAll_same ?_ (sm_new nd))
        have := sort_dp hL
        rw [List.map_snd_zip (Nat.le_of_eq hz1.symm)] at this
        exact this
end
end B
namespace B
open PySem L2
open PySem.W (dataLe)
section
variable {P : Program} {w : World} {K : PySem.W.Frag} {mg : Str → Option Value} {base : Heap}
theorem ok_l_bundles {f : Addr} {fd : FuncData} (F : Fun K "_law_bundles" "_law_bundles" s_l_bundles f fd) (T : Bt mg) : FnOk P w K mg base CX0 2 f fd ["_law_stock"] (spBunds K) := by
  refine F.ok sc_l_bundles (fun vs H Q E h => ?_) (fun cdv A outer s H vs Q E hr h => ⟨_, wb, ?_⟩)
  · obtain ⟨a, g, rfl, _⟩ := h
    rfl
  · obtain ⟨a, g, rfl, hS, h5, k⟩ := h
    refine nxt (ps_set (i := 1) sc_l_bundles.nd rfl (Or.inl rfl) (pe_lst (pa_cons (pe_tup pa_nil) pa_nil))) ?_
    refine ⟨by decide, fun t0 n0 => ?_⟩
    refine upd_gen n0 fun H1 e1 h1 => ?_
    refine ⟨(by show 1 ≤ sizeLine; decide), fun q2 n2 => ?_⟩
    refine upd_gen n2 fun H2 e2 h2 => ?_
    have nq2 : H q2 = none := by
      cases z : H q2 with
      | none => rfl
      | some o => rw [e1 _ _ z] at n2; cases n2
    refine nxtN (ps_for PassesOwn.never rfl (pi_tup (pv 0)) (pg_name (i := 2) sc_l_bundles.nd rfl (Or.inr rfl)) wb) fun N hN => ?_
    refine ⟨_, rfl, a, rfl, ⟨_, sm_t (e1.trans e2) hS⟩, for_tup (K := K) (xs := g.map V.str) (fun i σ H' => (∃ q v xs, σ = [some (.ref a), some (.ref q), v, none, none] ∧ H q = none ∧ Same H H' ∧ H' q = some (.lst xs) ∧ DpAll K H' xs ((subs (g.take i)).map tupS))) ?_ (fun i σ' H' _ ⟨q, v, xs, _, _, e, _⟩ => sm_t e hS) ?_ ?_⟩
    · exact ⟨q2, _, _, rfl, nq2, e1.trans e2, h2, .cons (of_tup (b := []) (sqT (e2 _ _ h1))) .nil⟩
    · rintro i x σ' H3 hx ⟨q, v, xs, rfl, nq, e3, h3, hd⟩
      rw [List.getElem?_map] at hx
      obtain ⟨nm, hnm, rfl⟩ := Option.map_eq_some_iff.mp hx
      have hi : i < g.length := (List.getElem?_eq_some_iff.mp hnm).1
      have hsl : (subs (g.take i)).length ≤ 32 := by
        unfold subs
        rw [subs_len, List.length_take, List.length_singleton, Nat.one_mul]
        exact Nat.le_trans (Nat.pow_le_pow_right (by decide) (show min i g.length ≤ 5 by omega)) (by decide)
      have hxl : xs.length ≤ 32 := by rw [dpAll_len hd, List.length_map]; exact hsl
      refine last (ps_set (i := 1) sc_l_bundles.nd rfl (Or.inl rfl) (pe_op op_cat (pv 1) (pe_lc (own := [("_law_bag", 4)]) (g := gName 4) rfl sc_l_bundles.nd (pi_list (pv 1)) (blkOk_by (own := [("_law_bag", 4)]) (N := ["_law_stock", "_law_found", "_law_label", "_law_pair", "_law_bag"]) (sc := defScope s_l_bundles) (by decide +kernel)) (fun _ _ _ _ _ => (pg_name (i := 4) sc_l_bundles.nd rfl (Or.inl rfl))) (fun _ _ _ _ _ => pts_nil) (fun _ _ _ _ _ => (pe_op (r := rCatA K) op_catA (pv 4) (pe_tup (pa_cons (pv 2) pa_nil))))))) ?_
      have hbs : ∀ b ∈ subs (g.take i), b.length ≤ 5 := fun b hb => by
        have := subs_mem_len (g.take i) [[]] 0 (by simp) b hb
        rw [List.length_take] at this
        omega
      rw [subs_take hnm]
      generalize subs (g.take i) = bs at hd hsl hbs
      refine ⟨_, rfl, _, rfl, q, rfl, ⟨_, sqL h3⟩, fun D nD => ?_⟩
      refine lc_list (K := K) (xs := xs) (PvP K H3 D fun j => (bs.map fun b => tupS (b ++ [nm])).take j) (.zero nD rfl) (fun j H' _ p => sm_l p.1 (sqL h3)) ?_ ?_
      · intro j x H4 hx p
        obtain ⟨d, hd1, hd2⟩ := dpAll_get hd hx
        rw [List.getElem?_map] at hd1
        obtain ⟨b, hb, rfl⟩ := Option.map_eq_some_iff.mp hd1
        obtain ⟨t, rfl, ht⟩ := tup_of hd2
        have hjl : j < 32 := by have := (List.getElem?_eq_some_iff.mp hx).1; omega
        have hbl : b.length ≤ 100 := by have := hbs b (List.mem_of_getElem? hb); omega
        refine ⟨rfl, ?_⟩
        refine ⟨_, rfl, _, rfl, (by show 1 ≤ sizeLine; decide), fun q5 n5 => ?_⟩
        refine cat_one (sm_t p.1 ht) n5 hbl fun y H5 e5 hy => ?_
        refine PvP.step nD p ?_ (noL_tupS _) (pre_take ?_) e5 hy (by show j < sizeLine; exact Nat.lt_of_lt_of_le hjl (by decide))
        · show noLs (List.take j _) = true
          rw [← List.map_take]
          exact noLs_map (fun b => noL_tupS _) _
        · rw [List.getElem?_map, hb]; rfl
      · rintro H4 ⟨e4, acc, ha, _, hacc⟩
        have hlen : xs.length = (bs.map fun b => tupS (b ++ [nm])).length := by rw [dpAll_len hd, List.length_map, List.length_map]
        have hacc : DpAll K H4 acc (List.take xs.length (bs.map fun b => tupS (b ++ [nm]))) := hacc
        rw [hlen, List.take_length] at hacc
        have hal : acc.length ≤ 32 := by rw [dpAll_len hacc, List.length_map]; exact hsl
        refine ⟨q, D, xs, acc, rfl, rfl, e4 _ _ h3, ha, Nat.le_trans (show xs.length + acc.length ≤ 64 by omega) (by decide), fun p6 n6 => ?_⟩
        have nq6 : H p6 = none := by
          cases z : H p6 with
          | none => rfl
          | some o => rw [e4 _ _ (e3 _ _ z)] at n6; cases n6
        refine ⟨p6, _, _, rfl, nq6, (e3.trans e4).trans (sm_new n6), upd_same, ?_⟩
        unfold grow
        rw [List.map_append, List.map_map]
        exact dpAll_same (dpAll_app (dpAll_same hd e4) hacc) (sm_new n6)
    · rintro σ' H3 ⟨q, v, xs, rfl, nq, e3, h3, hd⟩
      refine hN _ _ ?_
      rw [List.length_map, List.take_length] at hd
      have hz1 : xs.length = (subs g).length := by rw [dpAll_len hd, List.length_map]
      have hbs : ∀ b ∈ subs g, b.length ≤ 5 := fun b hb => by
        have := subs_mem_len g [[]] 0 (by simp) b hb
        omega
      have hsl : (subs g).length ≤ 32 := by
        unfold subs
        rw [subs_len, List.length_singleton, Nat.one_mul]
        exact Nat.le_trans (Nat.pow_le_pow_right (by decide) h5) (by decide)
      refine last (ps_ret (pe_lc (own := [("_law_pair", 3)]) (g := gName 3) rfl sc_l_bundles.nd (pi_list (pe_callB (call_sortD hr.units) (by rfl) T.sorted (by decide +kernel) (pa_cons (pe_lc (own := [("_law_bag", 4)]) (g := gName 4) rfl sc_l_bundles.nd (pi_list (pv 1)) (blkOk_by (own := [("_law_bag", 4)]) (N := ["_law_stock", "_law_found", "_law_label", "_law_pair", "_law_bag"]) (sc := defScope s_l_bundles) (by decide +kernel)) (fun _ _ _ _ _ => (pg_name (i := 4) sc_l_bundles.nd rfl (Or.inl rfl))) (fun _ _ _ _ _ => pts_nil) (fun _ _ _ _ _ => (pe_tup (pa_cons (pe_callB (r := rLenS K) call_lenS (by rfl) T.len PySem.boot_len (pa_cons (pv 4) pa_nil)) (pa_cons (pv 4) pa_nil))))) pa_nil))) (blkOk_by (own := [("_law_pair", 3)]) (N := ["_law_stock", "_law_found", "_law_label", "_law_pair", "_law_bag"]) (sc := defScope s_l_bundles) (by decide +kernel)) (fun _ _ _ _ _ => (pg_name (i := 3) sc_l_bundles.nd rfl (Or.inl rfl))) (fun _ _ _ _ _ => pts_nil) (fun _ _ _ _ _ => (pe_ix (r := rIxT K) ix_tup (pv 3) pe_int (fun _ _ => rfl))))) ?_
      refine ⟨_, rfl, q, rfl, ⟨_, sqL h3⟩, fun D nD => ?_⟩
      refine lc_list (K := K) (xs := xs) (PvP K H3 D fun j => ((subs g).map rankD).take j) (.zero nD rfl) (fun j H' _ p => sm_l p.1 (sqL h3)) ?_ ?_
      · intro j x H4 hx p
        obtain ⟨d, hd1, hd2⟩ := dpAll_get hd hx
        rw [List.getElem?_map] at hd1
        obtain ⟨b, hb, rfl⟩ := Option.map_eq_some_iff.mp hd1
        obtain ⟨t, rfl, ht⟩ := tup_of hd2
        have hjl : j < 32 := by have := (List.getElem?_eq_some_iff.mp hx).1; omega
        refine ⟨rfl, ?_⟩
        refine ⟨_, rfl, t, _, rfl, .inr (sm_t p.1 ht), _, rfl, (by show 2 ≤ sizeLine; decide), fun q5 n5 => ?_⟩
        have e5 := sm_new (o := .tup [.int ((b.map V.str).length : Nat), .ref t]) n5
        refine PvP.step (d := rankD b) nD p ?_ (noL_rank _) (pre_take ?_) e5 (.tup (sqT upd_same) (.cons ?_ (.cons (of_tup (sm_t (p.1.trans e5) ht)) .nil))) (by show j < sizeLine; exact Nat.lt_of_lt_of_le hjl (by decide))
        · show noLs (List.take j _) = true
          rw [← List.map_take]
          exact noLs_map (fun b => noL_rank _) _
        · rw [List.getElem?_map, hb]; rfl
        · rw [List.length_map]; exact .int _
      rintro H4 ⟨e4, acc, ha, _, hacc⟩
      have hlen : xs.length = ((subs g).map rankD).length := by rw [hz1, List.length_map]
      have hacc : DpAll K H4 acc (List.take xs.length ((subs g).map rankD)) := hacc
      rw [hlen, List.take_length] at hacc
      have hz2 : acc.length = (subs g).length := by rw [dpAll_len hacc, List.length_map]
      have hL := dpAll_zip hacc
      obtain ⟨al, so⟩ := sorts_rank (acc.zip (subs g))
      refine ⟨D, (acc.zip (subs g)).map fun p => (p.1, rankD p.2), rfl, ?_, ?_, al, so, fun d nd => ?_⟩
      · rw [List.map_map]
        show SqL K H4 D ((acc.zip (subs g)).map Prod.fst)
        rw [List.map_fst_zip (Nat.le_of_eq hz2)]
        exact sqL ha
      · intro p hp
        obtain ⟨p', hp', rfl⟩ := List.mem_map.mp hp
        exact ⟨hL p' hp', depth_rank _⟩
      have hso := sort_dp hL
      rw [List.map_snd_zip (Nat.le_of_eq hz2.symm)] at hso
      have hso : DpAll K H4 _ ((bnds g).map rankD) := hso
      generalize (((acc.zip (subs g)).map fun p => (p.1, rankD p.2)).mergeSort (dataLe false Prod.snd)).map Prod.fst = zs at hso
      refine upd_gen nd fun H5 e5 h5' => ?_
      have hso := dpAll_same hso e5
      have hbl : (bnds g).length ≤ 32 := by unfold bnds; rw [List.length_mergeSort]; exact hsl
      have hzl : zs.length = (bnds g).length := by rw [dpAll_len hso, List.length_map]
      refine ⟨d, rfl, ⟨_, sqL h5'⟩, fun D2 nD2 => ?_⟩
      refine lc_list (K := K) (xs := zs) (PvP K H5 D2 fun j => ((bnds g).map tupS).take j) (.zero nD2 rfl) (fun j H' _ p => sm_l p.1 (sqL h5')) ?_ ?_
      · intro j x H6 hx p
        obtain ⟨dd, hd1, hd2⟩ := dpAll_get hso hx
        rw [List.getElem?_map] at hd1
        obtain ⟨b, hb, rfl⟩ := Option.map_eq_some_iff.mp hd1
        have hjl : j < 32 := by have := (List.getElem?_eq_some_iff.mp hx).1; omega
        unfold rankD at hd2
        cases hd2 with
        | @tup u us ds hu1 hu2 =>
          cases hu2 with
          | @cons y1 ys d1 ds1 z1 z2 =>
            cases z2 with
            | @cons y2 ys2 d2 ds2 z3 z4 =>
              cases z4
              refine ⟨rfl, ?_⟩
              refine ⟨_, rfl, _, _, 1, y2, rfl, rfl, sm_t p.1 hu1, rfl, ?_⟩
              refine PvP.step (d := tupS b) nD2 p ?_ (noL_tupS _) (pre_take ?_) (Same.refl _) (Dp.same z3 p.1) (by show j < sizeLine; exact Nat.lt_of_lt_of_le hjl (by decide))
              · show noLs (List.take j _) = true
                rw [← List.map_take]
                exact noLs_map (fun b => noL_tupS _) _
              · rw [List.getElem?_map, hb]; rfl
      · rintro H6 ⟨e6, acc2, ha2, _, hacc2⟩
        have hlen2 : zs.length = ((bnds g).map tupS).length := by rw [hzl, List.length_map]
        have hacc2 : DpAll K H6 acc2 (List.take zs.length ((bnds g).map tupS)) := hacc2
        rw [hlen2, List.take_length] at hacc2
        have nqd : H D2 = none := by
          cases z : H D2 with
          | none => rfl
          | some o => rw [e5 _ _ (e4 _ _ (e3 _ _ z))] at nD2; cases nD2
        exact k D2 _ _ (((e3.trans e4).trans e5).trans e6) nqd ha2 hacc2
end
end B
namespace B
open PySem L2
section
variable {P : Program} {w : World} {K : PySem.W.Frag} {mg : Str → Option Value} {base : Heap}
def hasD (ds : List PyData) (x : Str) : Bool := ds.any fun z => PyData.eqv z (.str x)
def isB (g : List Str) (ds : List PyData) : Bool := PyData.eqvAll ds ((g.filter (hasD ds)).map .str)
def spIsB (K : PySem.W.Frag) : Sp := fun vs H Q _ => ∃ (a : Addr) (g : List Str) (v : V), vs = [.ref a, v] ∧ SqT K H a (g.map V.str) ∧ g.length ≤ 20 ∧
  ((∃ ds, Dp K H v (.tuple ds) ∧ PyData.depthAll ds ≤ 50 ∧ ∀ H', Same H H' → Q (.bl (isB g ds)) H') ∨ (∃ t, TyX K H v t ∧ PySem.W.kitOne K t (.type "tuple") = some false ∧ Q (.bl false) H))
theorem ty_tup {H : Hp} {v : V} {ds : List PyData} (h : Dp K H v (.tuple ds)) : TyX K H v (.type "tuple") := by
  cases h with
  | @tup t xs ds h1 h2 =>
    rcases h1 with (h1 | ⟨o, h1⟩) | h1
    · exact .base (.tup h1)
    · exact .fTuple h1
    · obtain ⟨o, its, n, h2, h3, _⟩ := h1
      exact .kTuple h2 h3
theorem filt_take {g : List Str} {p : Str → Bool} {i : Nat} {x : Str} (h : g[i]? = some x) : ((g.take (i + 1)).filter p) = if p x = true then (g.take i).filter p ++ [x] else (g.take i).filter p := by
  rw [List.take_add_one, h, List.filter_append]
  by_cases c : p x = true
  · rw [if_pos c]; simp [c]
  · rw [if_neg c]; simp [c]
/-- list(xs), xs a list or a tuple -/
def rListS (K : PySem.W.Frag) : List V → Hp → VK → Prop := fun xs H Q => ∃ p ys, xs = [.ref p] ∧ (SqL K H p ys ∨ SqT K H p ys) ∧ ∀ l, H l = none → Q (.ref l) (upd H l (.lst ys))
theorem call_listS {X : Cx} : CallR X (.type "list") (rListS X.K) := call_list_of
theorem ok_is_bundle {f : Addr} {fd : FuncData} (F : Fun K "is_bundle" "is_bundle" s_is_bundle f fd) (T : Bt mg) : FnOk P w K mg base CX0 1 f fd ["goods", "value"] (spIsB K) := by
  refine F.ok sc_is_bundle (fun vs H Q E h => ?_) (fun cdv A outer s H vs Q E hr h => ⟨_, wb, ?_⟩)
  · obtain ⟨a, g, v, rfl, _⟩ := h
    rfl
  · obtain ⟨a, g, v, rfl, hS, hg, k⟩ := h
    refine nxt (ps_if (pt_not (pt_val (pe_callB call_isi (by rfl) T.isinstance (by decide +kernel) (pa_cons (pv 1) (pa_cons (pe_bltn (v := .ty "tuple") (by rfl) T.tuple (by decide +kernel) rfl) pa_nil))))) (pss_one (ps_ret pe_bl)) pss_nil) ?_
    rcases k with ⟨ds, hd, hdp, k⟩ | ⟨t, ht, hk, k⟩
    · refine ⟨_, rfl, _, _, _, _, true, rfl, .ty _, ty_tup hd, rfl, _, rfl, ?_⟩
      refine last (ps_ret (pe_cmpR (op_eqP hr.units) (pe_callTy call_list_of (by rfl) T.list (by decide +kernel) (pa_cons (pv 1) pa_nil)) (pe_lc (own := [("name", 2)]) (g := gName 2) rfl sc_is_bundle.nd (pi_tup (pv 0)) (blkOk_by (own := [("name", 2)]) (N := ["goods", "value", "name"]) (sc := defScope s_is_bundle) (by decide +kernel)) (fun _ _ _ _ _ => (pg_name (i := 2) sc_is_bundle.nd rfl (Or.inl rfl))) (fun _ _ _ _ _ => (pts_one (pt_cmpR (r := rInP K false) (op_inP hr.units) (pv 2) (pv 1) rfl))) (fun _ _ _ _ _ => (pv 2))) (nomark _))) ?_
      cases hd with
      | @tup t xs _ h1 h2 =>
      refine ⟨_, rfl, t, xs, rfl, .inr h1, fun q1 n1 => ?_⟩
      refine upd_gen n1 fun H1 e1 h1' => ?_
      refine ⟨_, rfl, a, rfl, ⟨_, sm_t e1 hS⟩, fun D nD => ?_⟩
      refine lc_tup (K := K) (xs := g.map V.str) (PvP K H1 D fun j => ((g.take j).filter (hasD ds)).map .str) (.zero nD rfl) (fun j H' _ p => sm_t (e1.trans p.1) hS) ?_ ?_
      · intro j x H4 hx p
        rw [List.getElem?_map] at hx
        obtain ⟨nm, hnm, rfl⟩ := Option.map_eq_some_iff.mp hx
        have hjl : j < 20 := by have := (List.getElem?_eq_some_iff.mp hnm).1; omega
        have e4 := e1.trans p.1
        refine ⟨rfl, ?_⟩
        refine ⟨_, rfl, _, rfl, .str nm, ds, .str nm, .inr (.tup (sm_t e4 h1) (dpAll_same h2 e4)), .inl (show 0 ≤ 60 by decide), _, rfl, ?_⟩
        have hft := filt_take (p := hasD ds) hnm
        refine ite2 (fun c => ?_) (fun c => ?_)
        · have c : hasD ds nm = true := c
          rw [if_pos c] at hft
          refine ⟨_, rfl, ?_⟩
          refine PvP.step (d := .str nm) nD p (noLs_strs _) rfl ?_ (Same.refl _) (.str nm) (by show j < sizeLine; exact Nat.lt_of_lt_of_le hjl (by decide))
          show ((g.take (j + 1)).filter (hasD ds)).map PyData.str = _
          rw [hft, List.map_append]; rfl
        · have c : ¬ hasD ds nm = true := c
          rw [if_neg c] at hft
          refine PvP.skip p ?_ (Same.refl _)
          show ((g.take (j + 1)).filter (hasD ds)).map PyData.str = _
          rw [hft]
      · rintro H4 ⟨e4, acc, ha, _, hacc⟩
        have hacc : DpAll K H4 acc (((g.take (g.map V.str).length).filter (hasD ds)).map .str) := hacc
        rw [List.length_map, List.take_length] at hacc
        refine ⟨.list ds, _, dpL (e4 _ _ h1') (dpAll_same h2 (e1.trans e4)), dpL ha hacc, .inl (by show PyData.depthAll ds + 1 ≤ 60; omega), ?_⟩
        exact k H4 (e1.trans e4)
    · refine ⟨_, rfl, _, _, _, _, false, rfl, .ty _, ht, hk, _, rfl, ?_⟩
      exact k
theorem ok_l_is_bundle {f : Addr} {fd : FuncData} (F : Fun K "_law_is_bundle" "_law_is_bundle" s_l_is_bundle f fd) (T : Bt mg) : FnOk P w K mg base CX0 1 f fd ["_law_stock", "_law_thing"] (spIsB K) := by
  refine F.ok sc_l_is_bundle (fun vs H Q E h => ?_) (fun cdv A outer s H vs Q E hr h => ⟨_, wb, ?_⟩)
  · obtain ⟨a, g, v, rfl, _⟩ := h
    rfl
  · obtain ⟨a, g, v, rfl, hS, hg, k⟩ := h
    refine nxt (ps_if (pt_not (pt_val (pe_callB call_isi (by rfl) T.isinstance (by decide +kernel) (pa_cons (pv 1) (pa_cons (pe_bltn (v := .ty "tuple") (by rfl) T.tuple (by decide +kernel) rfl) pa_nil))))) (pss_one (ps_ret pe_bl)) pss_nil) ?_
    rcases k with ⟨ds, hd, hdp, k⟩ | ⟨t, ht, hk, k⟩
    · refine ⟨_, rfl, _, _, _, _, true, rfl, .ty _, ty_tup hd, rfl, _, rfl, ?_⟩
      refine last (ps_ret (pe_cmpR (op_eqP hr.units) (pe_callTy call_list_of (by rfl) T.list (by decide +kernel) (pa_cons (pv 1) pa_nil)) (pe_lc (own := [("_law_label", 2)]) (g := gName 2) rfl sc_l_is_bundle.nd (pi_tup (pv 0)) (blkOk_by (own := [("_law_label", 2)]) (N := ["_law_stock", "_law_thing", "_law_label"]) (sc := defScope s_l_is_bundle) (by decide +kernel)) (fun _ _ _ _ _ => (pg_name (i := 2) sc_l_is_bundle.nd rfl (Or.inl rfl))) (fun _ _ _ _ _ => (pts_one (pt_cmpR (r := rInP K false) (op_inP hr.units) (pv 2) (pe_callTy (r := rListS K) call_listS (by rfl) T.list (by decide +kernel) (pa_cons (pv 1) pa_nil)) rfl))) (fun _ _ _ _ _ => (pv 2))) (nomark _))) ?_
      cases hd with
      | @tup t xs _ h1 h2 =>
      refine ⟨_, rfl, t, xs, rfl, .inr h1, fun q1 n1 => ?_⟩
      refine upd_gen n1 fun H1 e1 h1' => ?_
      refine ⟨_, rfl, a, rfl, ⟨_, sm_t e1 hS⟩, fun D nD => ?_⟩
      refine lc_tup (K := K) (xs := g.map V.str) (PvP K H1 D fun j => ((g.take j).filter (hasD ds)).map .str) (.zero nD rfl) (fun j H' _ p => sm_t (e1.trans p.1) hS) ?_ ?_
      · intro j x H4 hx p
        rw [List.getElem?_map] at hx
        obtain ⟨nm, hnm, rfl⟩ := Option.map_eq_some_iff.mp hx
        have hjl : j < 20 := by have := (List.getElem?_eq_some_iff.mp hnm).1; omega
        have e4 := e1.trans p.1
        refine ⟨rfl, ?_⟩
        refine ⟨_, rfl, _, rfl, t, xs, rfl, .inr (sm_t e4 h1), fun q5 n5 => ?_⟩
        refine upd_gen n5 fun H5 e5 h5 => ?_
        refine ⟨.str nm, ds, .str nm, .inl (dpL h5 (dpAll_same h2 (e4.trans e5))), .inl (show 0 ≤ 60 by decide), _, rfl, ?_⟩
        have hft := filt_take (p := hasD ds) hnm
        refine ite2 (fun c => ?_) (fun c => ?_)
        · have c : hasD ds nm = true := c
          rw [if_pos c] at hft
          refine ⟨_, rfl, ?_⟩
          refine PvP.step (d := .str nm) nD p (noLs_strs _) rfl ?_ e5 (.str nm) (by show j < sizeLine; exact Nat.lt_of_lt_of_le hjl (by decide))
          show ((g.take (j + 1)).filter (hasD ds)).map PyData.str = _
          rw [hft, List.map_append]; rfl
        · have c : ¬ hasD ds nm = true := c
          rw [if_neg c] at hft
          refine PvP.skip p ?_ e5
          show ((g.take (j + 1)).filter (hasD ds)).map PyData.str = _
          rw [hft]
      · rintro H4 ⟨e4, acc, ha, _, hacc⟩
        have hacc : DpAll K H4 acc (((g.take (g.map V.str).length).filter (hasD ds)).map .str) := hacc
        rw [List.length_map, List.take_length] at hacc
        refine ⟨.list ds, _, dpL (e4 _ _ h1') (dpAll_same h2 (e1.trans e4)), dpL ha hacc, .inl (by show PyData.depthAll ds + 1 ≤ 60; omega), ?_⟩
        exact k H4 (e1.trans e4)
    · refine ⟨_, rfl, _, _, _, _, false, rfl, .ty _, ht, hk, _, rfl, ?_⟩
      exact k
end
end B
namespace B
open PySem L2
section
variable {P : Program} {w : World} {K : PySem.W.Frag} {mg : Str → Option Value} {base : Heap}
theorem ok_draw {f : Addr} {fd : FuncData} (F : Fun K "_law_draw" "_law_draw" s_l_draw f fd) (T : Bt mg) : FnOk P w K mg base CX0 1 f fd ["_law_state", "_law_size"] spDraw := by
  refine F.ok sc_l_draw (fun vs H Q E h => ?_) (fun cdv A outer s H vs Q E hr h => ⟨_, wb, ?_⟩)
  · obtain ⟨p, m, z, rfl, _⟩ := h
    rfl
  · obtain ⟨p, m, z, rfl, S, z0, z1, k⟩ := h
    obtain ⟨c, l, cs, sc, n, hp, hc, hl, ncl, lc, l0, l1, n0, n1⟩ := S.ex
    have npc := ne_st hp hc
    have npl := ne_st hp hl
    refine nxt (ps_augS (pv 0) pe_int get_list pe_int ip_add set_list) ?_
    refine ⟨_, rfl, p, _, 2, _, rfl, rfl, sqL hp, rfl, _, _, rfl, rfl, p, _, 2, 2, rfl, rfl, hp, rfl, ?_⟩
    have D1 : Dz p l sc (n + 1) H (upd H p (.lst [.ref c, .ref l, .int (n + 1)])) c cs :=
      ⟨upd_same, by rw [upd_ne npc]; exact hc, by rw [upd_ne npl]; exact hl, ncl, npc, npl, lc, Kp.set hp upd_same (.inl rfl) (fun b o h hb _ _ => by rw [upd_ne hb]; exact h) ⟨_, by rw [upd_ne npc]; exact hc⟩ ⟨_, by rw [upd_ne npl]; exact hl⟩⟩
    refine nxtN (ps_while PassesOwn.never (PW.pt (pw_and (pt_cmpR (op_neP hr.units) (pe_ix ix_list (pv 0) pe_int (fun _ _ => rfl)) (pe_lst pa_nil) (nomark _)) (pw_and1 (pt_cmpR op_eq (pe_ix ix_list (pe_ix ix_list (pv 0) pe_int (fun _ _ => rfl)) pe_int (fun _ _ => rfl)) pe_int (nomark _))))) wb) fun N hN => ?_
    refine ⟨fun m' σ H' => σ = [some (.ref p), some (.int z), none, none, none] ∧ ∃ c cs, cs.length = m' ∧ Dz p l sc (n + 1) H H' c cs, ⟨_, rfl, c, cs, rfl, D1⟩, ?_⟩
    rintro m' σ H1 ⟨rfl, c1, cs1, hlen, D⟩
    refine ⟨_, rfl, p, _, 0, _, rfl, rfl, sqL D.hp, rfl, by decide, fun q nq => ?_⟩
    refine upd_gen nq fun H2 e2 h2 => ?_
    have D2 := D.same e2
    refine ⟨_, _, dpL D2.hc (dp_ints _), dpL h2 .nil, .inr (by decide), _, rfl, ?_⟩
    have out : ∀ H3 c3 cs3, Dz p l sc (n + 1) H H3 c3 cs3 → N [some (.ref p), some (.int z), none, none, none] H3 := ?out
    case out =>
      intro H3 c3 cs3 D3
      refine hN _ _ ?_
      refine nxtN (ps_if (pt_cmpR (op_neP hr.units) (pe_ix ix_list (pv 0) pe_int (fun _ _ => rfl)) (pe_lst pa_nil) (nomark _)) wb pss_nil) fun N2 hN2 => ?_
      refine ⟨_, rfl, p, _, 0, _, rfl, rfl, sqL D3.hp, rfl, by decide, fun q nq => ?_⟩
      refine upd_gen nq fun H4 e4 h4 => ?_
      have D4 := D3.same e4
      refine ⟨_, _, dpL D4.hc (dp_ints _), dpL h4 .nil, .inr (by decide), _, rfl, ?_⟩
      rw [PyData.eqv, eqv_nil]
      cases cs3 with
      | cons a r =>
        refine iteT ?_
        refine nxt (ps_set (i := 2) sc_l_draw.nd rfl (Or.inl rfl) (pe_op op_mod (pe_callTy call_int1 (by rfl) T.int (by decide +kernel) (pa_cons (pe_ix ix_list (pe_ix ix_list (pv 0) pe_int (fun _ _ => rfl)) pe_int (fun _ _ => rfl)) pa_nil)) (pv 1))) ?_
        refine ⟨_, rfl, p, _, 0, _, rfl, rfl, sqL D4.hp, rfl, c3, _, 0, _, rfl, rfl, sqL D4.hc, at0, .inl ⟨_, rfl, _, rfl, _, _, rfl, rfl, z0, ?_⟩⟩
        refine nxt (ps_asg (pe_op op_fdivW (pe_ix ix_list (pe_ix ix_list (pv 0) pe_int (fun _ _ => rfl)) pe_int (fun _ _ => rfl)) (pv 1)) (pg_sub (pe_ix ix_list (pv 0) pe_int (fun _ _ => rfl)) pe_int set_list)) ?_
        refine ⟨_, rfl, p, _, 0, _, rfl, rfl, sqL D4.hp, rfl, c3, _, 0, _, rfl, rfl, sqL D4.hc, at0, _, rfl, _, _, rfl, rfl, wide_div z0 (b := 40) (by omega) (by decide) (by decide), _, rfl, p, _, 0, _, rfl, rfl, sqL D4.hp, rfl, c3, _, 0, 0, rfl, rfl, D4.hc, ?_, ?_⟩
        · show ixN ((a :: r).map V.int).length 0 = some 0
          exact ixN_nat (j := 0) (by simp)
        refine last (ps_ret (pv 2)) ?_
        refine ⟨_, rfl, ?_⟩
        refine k _ _ (Int.emod_nonneg _ (by omega)) (Int.emod_lt_of_pos _ z0) ?_ ?_
        · refine Dz.st (c := c3) (cs := a / z :: r) (n := n + 1) (l := l) (sc := sc) ⟨?_, upd_same, ?_, D4.ncl, D4.npc, D4.npl, D4.ln, Kp.refl _ _⟩ l0 l1 (by omega) (by omega)
          · rw [upd_ne D4.npc.symm]; exact D4.hp
          · rw [upd_ne D4.ncl.symm]; exact D4.hl
        · refine D4.kp.trans (Kp.set D4.hp (by rw [upd_ne D4.npc.symm]; exact D4.hp) (.inl rfl) (fun b o h _ hb _ => by rw [upd_ne hb]; exact h) ⟨_, upd_same⟩ ⟨_, by rw [upd_ne D4.ncl.symm]; exact D4.hl⟩)
      | nil =>
        refine iteF ?_
        refine hN2 _ _ ?_
        refine nxt (ps_set (i := 3) sc_l_draw.nd rfl (Or.inl rfl) (pe_op op_mod (pe_callTy call_int1 (by rfl) T.int (by decide +kernel) (pa_cons (pe_ix ix_list (pe_ix ix_list (pv 0) pe_int (fun _ _ => rfl)) (pe_op op_mod (pe_callTy call_int1 (by rfl) T.int (by decide +kernel) (pa_cons (pe_ix ix_list (pv 0) pe_int (fun _ _ => rfl)) pa_nil)) (pe_callB call_len_seq (by rfl) T.len PySem.boot_len (pa_cons (pe_ix ix_list (pv 0) pe_int (fun _ _ => rfl)) pa_nil))) (fun _ _ => rfl)) pa_nil)) pe_int)) ?_
        have hm0 : 0 ≤ (n + 1) % (sc.length : Int) := Int.emod_nonneg _ (by omega)
        have hm1 : (n + 1) % (sc.length : Int) < (sc.length : Int) := Int.emod_lt_of_pos _ (by omega)
        obtain ⟨j, hj⟩ : ∃ j : Nat, (n + 1) % (sc.length : Int) = (j : Int) := ⟨_, (Int.toNat_of_nonneg hm0).symm⟩
        have hj1 : j < sc.length := by omega
        refine ⟨_, rfl, p, _, 1, _, rfl, rfl, sqL D4.hp, rfl, _, rfl, p, _, 2, _, rfl, rfl, sqL D4.hp, rfl, .inl ⟨_, rfl, _, rfl, p, _, 1, _, rfl, rfl, sqL D4.hp, rfl, l, _, rfl, .inl (sqL D4.hl), _, _, rfl, rfl, ?_, ?_⟩⟩
        · show (0 : Int) < ((sc.map V.int).length : Int)
          rw [List.length_map]; omega
        refine ⟨l, _, _, V.int sc[j], rfl, rfl, sqL D4.hl, ?_, .inl ⟨_, rfl, _, _, rfl, rfl, (by show (0 : Int) < _; decide), ?_⟩⟩
        · rw [List.length_map, hj]
          exact atI_nat (by simp [hj1])
        have c0 : 0 ≤ sc[j] % 2147483647 := Int.emod_nonneg _ (by decide)
        have c1 : sc[j] % 2147483647 < 2147483647 := Int.emod_lt_of_pos _ (by decide)
        generalize sc[j] % 2147483647 = cell at c0 c1
        refine nxt (ps_set (i := 4) sc_l_draw.nd rfl (Or.inl rfl) (pe_op op_mod (pe_callTy call_int1 (by rfl) T.int (by decide +kernel) (pa_cons (pe_op op_pow (pe_op op_add (pe_op op_add (pe_op op_mul (pv 3) pe_int) (pe_op op_mul (pe_ix ix_list (pv 0) pe_int (fun _ _ => rfl)) pe_int)) pe_int) pe_int) pa_nil)) pe_int)) ?_
        refine ⟨_, rfl, _, _, rfl, rfl, .inl ⟨by omega, by omega⟩, _, rfl, p, _, 2, _, rfl, rfl, sqL D4.hp, rfl, _, _, rfl, rfl, .inl ⟨by omega, by omega⟩, _, _, rfl, rfl, _, _, rfl, rfl, _, _, rfl, rfl, ⟨by decide, by decide, by omega⟩, .inl ⟨_, rfl, _, _, rfl, rfl, (by show (0 : Int) < _; decide), ?_⟩⟩
        have o0 : 0 ≤ (cell * 48271 + (n + 1) * 69621 + 7) ^ 5 % 2147483647 := Int.emod_nonneg _ (by decide)
        have o1 : (cell * 48271 + (n + 1) * 69621 + 7) ^ 5 % 2147483647 < 2147483647 := Int.emod_lt_of_pos _ (by decide)
        have e5 : (5 : Int).toNat = 5 := rfl
        rw [e5]
        generalize (cell * 48271 + (n + 1) * 69621 + 7) ^ 5 % 2147483647 = one at o0 o1
        refine last (ps_ret (pe_op op_mod (pe_op op_mod (pe_callTy call_int1 (by rfl) T.int (by decide +kernel) (pa_cons (pe_op op_pow (pe_op op_add (pe_op op_add (pe_op op_mul (pv 4) pe_int) (pe_op op_mul (pe_ix ix_list (pv 0) pe_int (fun _ _ => rfl)) pe_int)) pe_int) pe_int) pa_nil)) pe_int) (pv 1))) ?_
        refine ⟨_, rfl, _, _, rfl, rfl, .inl ⟨by omega, by omega⟩, _, rfl, p, _, 2, _, rfl, rfl, sqL D4.hp, rfl, _, _, rfl, rfl, .inl ⟨by omega, by omega⟩, _, _, rfl, rfl, _, _, rfl, rfl, _, _, rfl, rfl, ⟨by decide, by decide, by omega⟩, .inl ⟨_, rfl, _, _, rfl, rfl, (by show (0 : Int) < _; decide), _, rfl, _, _, rfl, rfl, z0, ?_⟩⟩
        exact k _ _ (Int.emod_nonneg _ (by omega)) (Int.emod_lt_of_pos _ z0) (D4.st l0 l1 (by omega) (by omega)) D4.kp
    rw [PyData.eqv, eqv_nil]
    cases cs1 with
    | nil =>
      refine iteF ?_
      refine iteF ?_
      exact out _ _ _ D2
    | cons a r =>
      refine iteT ?_
      refine ⟨_, rfl, p, _, 0, _, rfl, rfl, sqL D2.hp, rfl, c1, _, 0, _, rfl, rfl, sqL D2.hc, at0, rfl, _, rfl, ?_⟩
      refine ite2 (fun _ => ?_) (fun _ => ?_)
      · refine ⟨_, fun _ _ h => h, ?_⟩
        refine last (ps_asg (pe_slice sl_list (pe_ix ix_list (pv 0) pe_int (fun _ _ => rfl)) (po_some pe_int) po_none) (pg_sub (pv 0) pe_int set_list)) ?_
        refine ⟨_, rfl, p, _, 0, _, rfl, rfl, sqL D2.hp, rfl, _, rfl, c1, _, rfl, sqL D2.hc, fun q3 nq3 => ?_⟩
        rw [cut1]
        refine upd_gen nq3 fun H5 e5 h5 => ?_
        have D5 := D2.same e5
        refine ⟨_, rfl, p, _, 0, 0, rfl, rfl, D5.hp, rfl, ?_⟩
        have np3 : q3 ≠ p := (ne_of_none D2.hp nq3).symm
        refine ⟨r.length, by rw [← hlen]; exact Nat.lt_succ_self _, rfl, q3, r, rfl, upd_same, ?_, ?_, (ne_of_none D2.hl nq3).symm, np3, D2.npl, by have := D2.ln; simp at this; omega, ?_⟩
        · rw [upd_ne np3]; exact h5
        · rw [upd_ne D2.npl]; exact D5.hl
        · refine D2.kp.trans (Kp.set D2.hp upd_same (.inr nq3) (fun b o h hb _ _ => ?_) ⟨_, (upd_ne D2.npc).trans D5.hc⟩ ⟨_, (upd_ne D2.npl).trans D5.hl⟩)
          rw [upd_ne hb]; exact e5 _ _ h
      · exact out _ _ _ D2
end
end B
namespace B
open PySem L2
def spStart (K : PySem.W.Frag) : Sp := fun vs H Q _ => ∃ (a : Addr) (ns : List Int), vs = [.ref a] ∧ SqL K H a (ns.map V.int) ∧ ns.length ≤ 63 ∧ ∀ (p : Addr) (H' : Hp), Same H H' → StA H' p (2 ^ 30) → (∀ b, Own H' p b → H b = none) → Q (.ref p) H'
section
variable {P : Program} {w : World} {K : PySem.W.Frag} {mg : Str → Option Value} {base : Heap}
theorem ok_start {f : Addr} {fd : FuncData} (F : Fun K "_law_start" "_law_start" s_l_start f fd) (T : Bt mg) : FnOk P w K mg base CX0 1 f fd ["_law_script"] (spStart K) := by
  refine F.ok sc_l_start (fun vs H Q E h => ?_) (fun cdv A outer s H vs Q E hr h => ⟨_, wb, ?_⟩)
  · obtain ⟨p, ns, rfl, _⟩ := h
    rfl
  · obtain ⟨a, ns, rfl, hS, hlen, k⟩ := h
    refine last (ps_ret (pe_lst (pa_cons (pe_lc (own := [("_law_cell", 1)]) (g := gName 1) rfl sc_l_start.nd (pi_list (pv 0)) (blkOk_by (own := [("_law_cell", 1)]) (N := ["_law_script", "_law_cell"]) (sc := defScope s_l_start) (by decide +kernel)) (fun _ _ _ _ _ => (pg_name (i := 1) sc_l_start.nd rfl (Or.inl rfl))) (fun _ _ _ _ _ => (pts_one (pt_cmpR op_ge (pe_callB call_abs (by rfl) T.abs (by decide +kernel) (pa_cons (pv 1) pa_nil)) (pe_op op_pow pe_int pe_int) (nomark _)))) (fun _ _ _ _ _ => (pe_callB call_abs (by rfl) T.abs (by decide +kernel) (pa_cons (pv 1) pa_nil)))) (pa_cons (pe_op op_cat (pe_callTy call_list_of (by rfl) T.list (by decide +kernel) (pa_cons (pv 0) pa_nil)) (pe_lst (pa_cons pe_int pa_nil))) (pa_cons pe_int pa_nil))))) ?_
    refine ⟨_, rfl, a, rfl, ⟨_, hS⟩, fun D nD => lc_list (K := K) (a := a) (xs := ns.map V.int) (fun i H' => Same H H' ∧ ∃ cs : List Int, H' D = some (.lst (cs.map V.int)) ∧ cs.length ≤ i) ⟨sm_new nD, [], upd_same, Nat.le_refl _⟩ (fun i H' _ h => sm_l h.1 hS) ?_ ?_⟩
    · rintro i y H1 hi ⟨e1, cs, h1, hc⟩
      rw [List.getElem?_map] at hi
      cases e : ns[i]? with
      | none => rw [e] at hi; cases hi
      | some z =>
        rw [e] at hi
        cases hi
        have hin : i < ns.length := (List.getElem?_eq_some_iff.mp e).1
        refine ⟨rfl, _, rfl, _, rfl, _, _, rfl, rfl, ⟨by decide, by decide, by decide⟩, _, _, rfl, rfl, _, rfl, ?_⟩
        refine ite2 (fun _ => ?_) (fun _ => ?_)
        · refine ⟨_, rfl, _, rfl, _, h1, small1000 (by simp; omega), ?_⟩
          refine ⟨fun b o q => ?_, cs ++ [if z < 0 then -z else z], ?_, by simp; omega⟩
          · rw [upd_ne (ne_of_none q nD)]; exact e1 _ _ q
          · rw [List.map_append]; exact upd_same
        · exact ⟨e1, cs, h1, by omega⟩
    · rintro H1 ⟨e1, cs, h1, hc⟩
      rw [List.length_map] at hc
      refine ⟨_, rfl, a, _, rfl, .inl (sm_l e1 hS), fun q nq => ?_⟩
      refine upd_gen nq fun H2 e2 h2 => ?_
      refine ⟨by decide, fun q3 nq3 => ?_⟩
      refine upd_gen nq3 fun H3 e3 h3 => ?_
      refine ⟨_, _, _, _, rfl, rfl, e3 _ _ h2, h3, ?_, fun l nl => ?_⟩
      · simp; exact small1000 (by omega)
      refine upd_gen nl fun H4 e4 h4 => ?_
      refine ⟨(by show 3 ≤ sizeLine; decide), fun p np => ?_⟩
      refine upd_gen np fun H5 e5 h5 => ?_
      have eH1 : Same H1 H5 := ((e2.trans e3).trans e4).trans e5
      have hD5 := eH1 _ _ h1
      refine k p H5 (e1.trans eH1) ⟨⟨D, l, cs, ns ++ [5], 0, h5, hD5, ?_, ?_, by omega, by simp, by simp; omega, by decide, by decide⟩⟩ ?_
      · rw [List.map_append]; exact e5 _ _ h4
      · exact ne_of_none (((e2.trans e3)) _ _ h1) nl
      · rintro b (z | ⟨c, l0, n0, z1, z2⟩)
        · rw [z]; exact (((e1.trans e2).trans e3).trans e4).free np
        · rw [h5] at z1
          cases z1
          rcases z2 with z2 | z2
          · cases z2; exact nD
          · cases z2; exact ((e1.trans e2).trans e3).free nl
end
end B
namespace B
open PySem L2
section
variable {P : Program} {w : World} {K : PySem.W.Frag} {mg : Str → Option Value} {base : Heap}
def spAny (K : PySem.W.Frag) : Sp := fun vs H Q _ => ∃ (p a : Addr) (g : List Str) (m : Nat), vs = [.ref p, .ref a] ∧ StA H p (m + 12) ∧ H a = some (.tup (g.map V.str)) ∧ 1 ≤ g.length ∧ g.length ≤ 5 ∧ (∀ x ∈ g, x.length ≤ 6) ∧ ∀ (v : V) (H' : Hp), StA H' p m → Kp p H H' → AnyV K p H' v → Q v H'
theorem ok_l_any {f : Addr} {fd : FuncData} (F : Fun K "_law_any" "_law_any" s_l_any f fd) (T : Bt mg) (D_l_draw : Df P w K mg base CX0 1 "_law_draw" ["_law_state", "_law_size"] spDraw) : FnOk P w K mg base CX0 2 f fd ["_law_state", "_law_stock"] (spAny K) := by
  refine F.ok sc_l_any (fun vs H Q E h => ?_) (fun cdv A outer s H vs Q E hr h => ⟨_, wb, ?_⟩)
  · obtain ⟨p, a, g, m, rfl, _⟩ := h
    rfl
  · obtain ⟨p, a, g, m, rfl, S, ha, g1, g5, g6, k⟩ := h
    refine nxt (ps_set (i := 2) sc_l_any.nd rfl (Or.inr rfl) (pe_op op_cat (pe_callTy call_list_of (by rfl) T.list (by decide +kernel) (pa_cons (pv 1) pa_nil)) (pe_lst (pa_cons pe_str (pa_cons pe_str (pa_cons pe_int (pa_cons pe_non (pa_cons (pe_tup pa_nil) (pa_cons pe_str pa_nil))))))))) ?_
    refine ⟨_, rfl, a, _, rfl, .inr (sqT ha), fun q1 n1 => ?_⟩
    refine upd_gen n1 fun H1 e1 h1 => ?_
    refine ⟨by decide, fun t0 n2 => ?_⟩
    refine upd_gen n2 fun H2 e2 h2 => ?_
    refine ⟨(by show 6 ≤ sizeLine; decide), fun q3 n3 => ?_⟩
    refine upd_gen n3 fun H3 e3 h3 => ?_
    refine ⟨q1, q3, _, _, rfl, rfl, e3 _ _ (e2 _ _ h1), h3, Nat.le_trans (by rw [List.length_map]; show g.length + 6 ≤ 100; omega) (by decide), fun q4 n4 => ?_⟩
    refine upd_gen n4 fun H4 e4 h4 => ?_
    have e14 : Same H H4 := ((e1.trans e2).trans e3).trans e4
    have S4 := S.same e14
    have k4 := S.kp e14
    have A4 := (S.same ((e1.trans e2).trans e3)).new n4 e4 h4
    have a4 := e14 _ _ ha
    have hM : ∀ v ∈ g.map V.str ++ [V.str "zz9", V.str "", V.int 1, V.non, V.ref t0, V.str "A"], El K H4 v := fun v hv => by
      rcases List.mem_append.mp hv with hv | hv
      · exact els_strs g v hv
      · simp only [List.mem_cons, List.not_mem_nil, or_false] at hv
        rcases hv with rfl | rfl | rfl | rfl | rfl | rfl
        · exact El.str _
        · exact El.str _
        · exact ⟨.int 1, .int 1, rfl, by show (0 : Nat) ≤ 2; decide⟩
        · exact ⟨.none, .non, rfl, by show (0 : Nat) ≤ 2; decide⟩
        · exact ⟨.tuple [], .tup (sqT (e4 _ _ (e3 _ _ h2))) .nil, rfl, by show (1 : Nat) ≤ 2; decide⟩
        · exact El.str _
    have hMl : (g.map V.str ++ [V.str "zz9", V.str "", V.int 1, V.non, V.ref t0, V.str "A"]).length = g.length + 6 := by rw [List.length_append, List.length_map]; rfl
    generalize g.map V.str ++ [V.str "zz9", V.str "", V.int 1, V.non, V.ref t0, V.str "A"] = M at *
    clear h1 h2 h3 h4 n1 n2 n3 n4 e1 e2 e3 e4
    refine nxt (ps_setLc (i := 3) (own := [("_law_k", 6)]) (g := gName 6) rfl sc_l_any.nd rfl rfl (sw_true rfl rfl rfl (by decide +kernel)) (pi_range1 (by rfl) T.range (pa_cons (pc D_l_draw (hr.mono (by decide)) (pa_cons (pv 0) (pa_cons pe_int pa_nil))) pa_nil)) (blkOk_by (own := [("_law_k", 6)]) (N := ["_law_state", "_law_stock", "_law_menu", "_law_row", "_law_part", "_law_values", "_law_k", "_law_label"]) (sc := defScope s_l_any) (by decide +kernel)) (fun _ _ _ _ _ => (pg_name (i := 6) sc_l_any.nd rfl (Or.inl rfl))) (fun _ _ _ _ _ => pts_nil) (fun _ _ _ _ _ => (pe_ix (r := rIxL K) ix_list (pv 2) (pc D_l_draw (hr.mono (by decide)) (pa_cons (pv 0) (pa_cons (pe_callB (r := rLenS K) call_lenS (by rfl) T.len PySem.boot_len (pa_cons (pv 2) pa_nil)) pa_nil))) (fun _ _ => rfl)))) ?_
    refine ⟨_, rfl, p, m + 11, 4, rfl, S4, by decide, by decide, fun r5 H5 r50 r51 S5 k5 => ?_⟩
    refine ⟨r5, rfl, by omega, by omega, fun D nD => lc_range (lo := 0) (n := r5.toNat) (fun i H' => Kp p H5 H' ∧ StA H' p (m + 11 - i) ∧ ∃ acc, At p H' D (.lst acc) ∧ acc.length = i ∧ ∀ v ∈ acc, El K H' v) ?_ ?_ ?_⟩
    · have e := sm_new (o := .lst []) nD
      exact ⟨S5.kp e, S5.same e, [], S5.new nD e upd_same, rfl, by simp⟩
    · rintro i H6 hi ⟨k6, S6, acc, A6, hl, hw⟩
      refine ⟨rfl, ?_⟩
      have AM := (A4.kp k5).kp k6
      refine ⟨_, rfl, _, rfl, _, rfl, q4, _, rfl, .inl (sqL AM.1), p, m + 11 - (i + 1), _, rfl, S6.le (by omega), (by rw [hMl]; omega), (by rw [hMl]; omega), fun r7 H7 r70 r71 S7 k7 => ?_⟩
      obtain ⟨v, hv, hvm⟩ := at_lst (xs := M) r70 r71
      have A7 := A6.kp k7
      refine ⟨q4, _, r7, v, rfl, rfl, sqL (AM.kp k7).1, hv, acc, A7.1, Nat.lt_of_le_of_lt (show acc.length ≤ 4 by omega) (by decide), ?_⟩
      have nDp : D ≠ p := fun z => A7.2 (.inl z)
      have nl : NLk H7 (upd H7 D (.lst (acc ++ [v]))) := (NLk.refl H7).upd A7.1
      refine ⟨(k6.trans k7).mut nD nDp, (S7.upd A7.2).le (by omega), acc ++ [v], ⟨upd_same, fun z => A7.2 ((own_mut nDp).mp z)⟩, by rw [List.length_append, hl]; rfl, fun u hu => ?_⟩
      rcases List.mem_append.mp hu with hu | hu
      · exact ((hw u hu).nlk (S6.nlk k7)).nlk nl
      · rw [List.mem_singleton] at hu
        subst hu
        exact ((hM u hvm).nlk (S4.nlk ((k5.trans k6).trans k7))).nlk nl
    rintro H6 ⟨k6, S6, row, A6, hrl, hrow⟩
    have hrl : row.length ≤ 3 := by omega
    have S6 : StA H6 p (m + 8) := S6.le (by omega)
    have AM := (A4.kp k5).kp k6
    have As := ((S4.at a4).kp k5).kp k6
    have k06 := (k4.trans k5).trans k6
    have hM6 : ∀ v ∈ M, El K H6 v := fun v hv => (hM v hv).nlk (S4.nlk (k5.trans k6))
    clear k4 k5 k6 A4 S5 S4 hM nD a4
    refine nxt (ps_set (i := 4) sc_l_any.nd rfl (Or.inl rfl) (pe_callTy call_tuple_of (by rfl) T.tuple (by decide +kernel) (pa_cons (pe_lc (own := [("_law_label", 7)]) (g := gName 7) rfl sc_l_any.nd (pi_tup (pv 1)) (blkOk_by (own := [("_law_label", 7)]) (N := ["_law_state", "_law_stock", "_law_menu", "_law_row", "_law_part", "_law_values", "_law_k", "_law_label"]) (sc := defScope s_l_any) (by decide +kernel)) (fun _ _ _ _ _ => (pg_name (i := 7) sc_l_any.nd rfl (Or.inl rfl))) (fun _ _ _ _ _ => (pts_one (pt_cmpR op_eq (pc D_l_draw (hr.mono (by decide)) (pa_cons (pv 0) (pa_cons pe_int pa_nil))) pe_int (nomark _)))) (fun _ _ _ _ _ => (pv 7))) pa_nil))) ?_
    refine ⟨_, rfl, a, rfl, ⟨_, sqT As.1⟩, fun D2 nD2 => ?_⟩
    refine lc_tup (K := K) (xs := g.map V.str) (fun i H' => Kp p H6 H' ∧ StA H' p (m + 8 - i) ∧ ∃ bs : List Str, At p H' D2 (.lst (bs.map V.str)) ∧ bs.length ≤ i ∧ ∀ x ∈ bs, x ∈ g) ?_ (fun i H' _ q => sqT (As.kp q.1).1) ?_ ?_
    · have e := sm_new (o := .lst []) nD2
      exact ⟨S6.kp e, S6.same e, [], S6.new nD2 e upd_same, Nat.le_refl _, by simp⟩
    · rintro i x H7 hx ⟨k7, S7, bs, A7, hbl, hbg⟩
      rw [List.getElem?_map] at hx
      obtain ⟨nm, hnm, rfl⟩ := Option.map_eq_some_iff.mp hx
      have hi : i < g.length := (List.getElem?_eq_some_iff.mp hnm).1
      refine ⟨rfl, ?_⟩
      refine ⟨_, rfl, p, m + 8 - (i + 1), 2, rfl, S7.le (by omega), by decide, by decide, fun r8 H8 r80 r81 S8 k8 => ?_⟩
      have A8 := A7.kp k8
      refine ⟨rfl, _, rfl, ?_⟩
      refine ite2 (fun c => ?_) (fun c => ?_)
      · refine ⟨_, rfl, bs.map V.str, A8.1, Nat.lt_of_le_of_lt (show (bs.map V.str).length ≤ 5 by rw [List.length_map]; omega) (by decide), ?_⟩
        have nDp : D2 ≠ p := fun z => A8.2 (.inl z)
        refine ⟨(k7.trans k8).mut nD2 nDp, S8.upd A8.2, bs ++ [nm], ⟨by rw [List.map_append]; exact upd_same, fun z => A8.2 ((own_mut nDp).mp z)⟩, by rw [List.length_append]; exact Nat.succ_le_succ hbl, fun x hx => ?_⟩
        rcases List.mem_append.mp hx with hx | hx
        · exact hbg x hx
        · rw [List.mem_singleton] at hx
          subst hx
          exact List.mem_of_getElem? hnm
      · exact ⟨k7.trans k8, S8, bs, A8, by omega, hbg⟩
    rintro H7 ⟨k7, S7, bs, A7, hbl, hbg⟩
    rw [List.length_map] at hbl S7
    have S7 : StA H7 p (m + 3) := S7.le (by omega)
    refine ⟨D2, _, rfl, .inl ⟨sqL A7.1, fun tp np => ?_⟩⟩
    refine upd_gen np fun H8 e8 h8 => ?_
    have k8 := k7.trans (S7.kp e8)
    have S8 := S7.same e8
    have AM8 := AM.kp k8
    have As8 := As.kp k8
    have Ar8 := A6.kp k8
    have hM8 : ∀ v ∈ M, El K H8 v := fun v hv => (hM6 v hv).nlk (S6.nlk k8)
    have hrow8 : ∀ v ∈ row, El K H8 v := fun v hv => (hrow v hv).nlk (S6.nlk k8)
    have k08 := k06.trans k8
    have hb5 : bs.length ≤ 5 := by omega
    have hb6 : ∀ x ∈ bs, x.length ≤ 6 := fun x hx => g6 x (hbg x hx)
    clear k06 k7 k8 AM As A6 hM6 hrow S6 S7 A7 nD2 np e8
    refine nxt (ps_set (i := 5) sc_l_any.nd rfl (Or.inl rfl) (pe_lst (pa_cons (pv 4) (pa_cons (pe_callTy call_tuple_of (by rfl) T.tuple (by decide +kernel) (pa_cons (pv 3) pa_nil)) (pa_cons (pe_callTy call_list_of (by rfl) T.list (by decide +kernel) (pa_cons (pv 4) pa_nil)) (pa_cons (pe_revT (pv 4)) (pa_cons (pe_op op_catA (pv 4) (pe_slice sl_tupA (pv 4) po_none (po_some pe_int))) (pa_cons (pe_op op_catA (pv 4) (pe_tup (pa_cons (pe_ix ix_list (pv 2) (pc D_l_draw (hr.mono (by decide)) (pa_cons (pv 0) (pa_cons (pe_callB call_len_seq (by rfl) T.len PySem.boot_len (pa_cons (pv 2) pa_nil)) pa_nil))) (fun _ _ => rfl)) pa_nil))) pa_nil)))))))) ?_
    refine ⟨_, rfl, _, rfl, D, _, rfl, .inl ⟨sqL Ar8.1, fun t1 n1 => ?_⟩⟩
    refine upd_gen n1 fun H9 e9 h9 => ?_
    refine ⟨_, rfl, tp, _, rfl, .inr (sqT (e9 _ _ h8)), fun l2 n2 => ?_⟩
    refine upd_gen n2 fun H10 e10 h10 => ?_
    have e810 := e9.trans e10
    refine ⟨_, rfl, tp, _, rfl, sqT (e810 _ _ h8), fun t3 n3 => ?_⟩
    refine upd_gen n3 fun H11 e11 h11 => ?_
    have e811 := e810.trans e11
    refine ⟨_, rfl, _, rfl, _, rfl, ?_⟩
    refine cut_any (n := 1) (sqT (e811 _ _ h8)) fun t4 H12 e12 h12 => ?_
    refine cat_any (sqT (e12 _ _ (e811 _ _ h8))) h12 (by rw [List.length_take, List.length_map]; omega) fun t5 H13 e13 h13 => ?_
    have e813 := (e811.trans e12).trans e13
    have S13 := S8.same e813
    have kk13 := S8.kp e813
    refine ⟨_, rfl, _, rfl, _, rfl, _, rfl, q4, _, rfl, .inl (sqL (AM8.kp kk13).1), p, m + 2, _, rfl, S13, (by rw [hMl]; omega), (by rw [hMl]; omega), fun r14 H14 r140 r141 S14 k14 => ?_⟩
    obtain ⟨v14, hv14, hvm14⟩ := at_lst (xs := M) r140 r141
    refine ⟨q4, _, r14, v14, rfl, rfl, sqL ((AM8.kp kk13).kp k14).1, hv14, (by show 1 ≤ sizeLine; decide), fun t15 n15 => ?_⟩
    refine upd_gen n15 fun H15 e15 h15 => ?_
    have nl := S13.nlk k14
    have tp15 : H15 tp = some (.tup (bs.map V.str)) := e15 _ _ (nl _ _ (e813 _ _ h8) fun _ z => nomatch z)
    refine cat_any (sqT tp15) (sqT h15) (by rw [List.length_map]; show bs.length + 1 ≤ 1000; omega) fun t16 H16 e16 h16 => ?_
    have kx : Kp p H13 H16 := (k14.trans (S14.kp e15)).trans ((S14.same e15).kp e16)
    have S16 : StA H16 p (m + 2) := (S14.same e15).same e16
    have k816 : Kp p H8 H16 := kk13.trans kx
    have tp16 : H16 tp = some (.tup (bs.map V.str)) := e16 _ _ tp15
    have V1 : AnyV K p H16 (.ref tp) := .els (sqT tp16) (els_strs bs)
    have V2 : AnyV K p H16 (.ref t1) := AnyV.kp (.els (sqT (((e10.trans e11).trans (e12.trans e13)) _ _ h9)) fun v hv => (hrow8 v hv).same e813) S13 kx
    have V3 : AnyV K p H16 (.ref l2) := AnyV.lst ((((S8.same e9).new n2 e10 h10).kp ((S8.same e810).kp (e11.trans (e12.trans e13)))).kp kx)
    have V4 : AnyV K p H16 (.ref t3) := AnyV.kp (.els (sqT ((e12.trans e13) _ _ h11)) fun v hv => els_strs bs v (List.mem_reverse.mp hv)) S13 kx
    have V5 : AnyV K p H16 (.ref t5) := AnyV.kp (.els h13 fun v hv => by
      rcases List.mem_append.mp hv with hv | hv
      · exact els_strs bs v hv
      · exact els_strs bs v (List.mem_of_mem_take hv)) S13 kx
    have V6 : AnyV K p H16 (.ref t16) := .els h16 fun v hv => by
      rcases List.mem_append.mp hv with hv | hv
      · exact els_strs bs v hv
      · rw [List.mem_singleton] at hv
        subst hv
        exact (hM8 _ hvm14).nlk (S8.nlk k816)
    refine ⟨(by show 6 ≤ sizeLine; decide), fun q17 n17 => ?_⟩
    refine upd_gen n17 fun H17 e17 h17 => ?_
    have A17 := S16.new n17 e17 h17
    have S17 := S16.same e17
    have k017 := k08.trans (k816.trans (S16.kp e17))
    have Ar17 := (Ar8.kp k816).kp (S16.kp e17)
    have As17 := (As8.kp k816).kp (S16.kp e17)
    have tp17 := e17 _ _ tp16
    have W1 : ∀ v ∈ [V.ref tp, .ref t1, .ref l2, .ref t3, .ref t5, .ref t16], AnyV K p H17 v := fun v hv => by
      simp only [List.mem_cons, List.not_mem_nil, or_false] at hv
      rcases hv with rfl | rfl | rfl | rfl | rfl | rfl
      · exact V1.kp S16 (S16.kp e17)
      · exact V2.kp S16 (S16.kp e17)
      · exact V3.kp S16 (S16.kp e17)
      · exact V4.kp S16 (S16.kp e17)
      · exact V5.kp S16 (S16.kp e17)
      · exact V6.kp S16 (S16.kp e17)
    clear V1 V2 V3 V4 V5 V6 e16 h16 e15 h15 n15 k14 S14 e813 e12 e13 e11 e10 e9 n1 n2 n3 kx k816 k08 Ar8 As8 AM8 hM8 hrow8 S13 kk13 tp15 tp16 nl S16 n17 e17 h17
    refine nxt (ps_set (i := 5) sc_l_any.nd rfl (Or.inl rfl) (pe_op op_cat (pv 5) (pe_lst (pa_cons (pv 3) (pa_cons (pe_join pe_str (pv 4)) (pa_cons (pe_join pe_str (pv 1)) (pa_cons pe_non (pa_cons pe_bl (pa_cons pe_int (pa_cons (pe_disp (pps_cons (pe_ix ix_tup (pv 1) pe_int (fun _ _ => rfl)) pe_int pps_nil) rfl rfl (by simp) (by decide)) (pa_cons (pe_tup (pa_cons (pv 4) pa_nil)) (pa_cons (pe_un un_neg pe_int) (pa_cons (pe_tup (pa_cons (pe_callTy call_list_of (by rfl) T.list (by decide +kernel) (pa_cons (pv 4) pa_nil)) pa_nil)) pa_nil))))))))))))) ?_
    have len6 : ∀ (xs : List Str), xs.length ≤ 5 → (∀ x ∈ xs, x.length ≤ 6) → (xs.map (·.length)).sum ≤ 30 := fun xs h1 h2 => by
      have : ∀ ys : List Str, (∀ x ∈ ys, x.length ≤ 6) → (ys.map (·.length)).sum ≤ 6 * ys.length := fun ys => by
        induction ys with
        | nil => intro _; simp
        | cons y ys ih =>
          intro h
          have a := h y List.mem_cons_self
          have b := ih fun x hx => h x (List.mem_cons_of_mem _ hx)
          simp only [List.map_cons, List.sum_cons, List.length_cons]
          omega
      have := this xs h2
      omega
    obtain ⟨x0, gr, eg⟩ : ∃ x0 gr, g = x0 :: gr := by
      cases g with
      | nil => simp at g1
      | cons x0 gr => exact ⟨x0, gr, rfl⟩
    refine ⟨_, rfl, _, rfl, ⟨_, rfl⟩, _, rfl, _, tp, bs, rfl, rfl, .inr (sqT tp17), ?_, ⟨_, rfl⟩, _, rfl, _, a, g, rfl, rfl, .inr (sqT As17.1), ?_, fun d18 n18 => ?_⟩
    · have := len6 bs hb5 hb6
      have l0 : (("" : Str)).length = 0 := by decide +kernel
      rw [l0]; omega
    · have := len6 g g5 g6
      have l0 : ((" " : Str)).length = 1 := by decide +kernel
      rw [l0]; omega
    have e18 : Same H17 (upd H17 d18 (.dK [])) := sm_new n18
    refine ⟨_, rfl, a, g.map V.str, 0, .str x0, rfl, rfl, sqT (e18 _ _ As17.1), (by rw [eg]; exact at0), upd_same, [(.inr x0, .int 1)], rfl, (by show 1 ≤ 15; decide), ?_⟩
    have ed : Same H17 (upd (upd H17 d18 (.dK [])) d18 (.dK (mergeK [] [(.inr x0, .int 1)]))) := fun b o hb => by
      rw [upd_ne (fun z => by rw [z, n18] at hb; cases hb)]
      exact e18 _ _ hb
    obtain ⟨H18, eH18⟩ : ∃ H18, H18 = upd (upd H17 d18 (.dK [])) d18 (.dK (mergeK [] [(.inr x0, .int 1)])) := ⟨_, rfl⟩
    have h18 : H18 d18 = some (.dK (mergeK [] [(.inr x0, .int 1)])) := by rw [eH18]; exact upd_same
    rw [← eH18] at ed ⊢
    clear eH18
    refine ⟨_, rfl, (by show 1 ≤ sizeLine; decide), fun t19 n19 => ?_⟩
    refine upd_gen n19 fun H19 e19 h19 => ?_
    refine ⟨_, rfl, _, rfl, tp, _, rfl, .inr (sqT (e19 _ _ (ed _ _ tp17))), fun l20 n20 => ?_⟩
    refine upd_gen n20 fun H20 e20 h20 => ?_
    refine ⟨(by show 1 ≤ sizeLine; decide), fun t21 n21 => ?_⟩
    refine upd_gen n21 fun H21 e21 h21 => ?_
    refine ⟨(by show 10 ≤ sizeLine; decide), fun q22 n22 => ?_⟩
    refine upd_gen n22 fun H22 e22 h22 => ?_
    have e1722 : Same H17 H22 := (((ed.trans e19).trans e20).trans e21).trans e22
    refine ⟨q17, q22, _, _, rfl, rfl, e1722 _ _ A17.1, h22, (by show 6 + 10 ≤ sizeLine; decide), fun q23 n23 => ?_⟩
    refine upd_gen n23 fun H23 e23 h23 => ?_
    have S22 := S17.same e1722
    have S23 := S22.same e23
    have k23 := (S17.kp e1722).trans (S22.kp e23)
    have A23 := S22.new n23 e23 h23
    have S18 := S17.same ed
    have S19 := S18.same e19
    have eL := ((e21.trans e22).trans e23)
    have tp23 := e23 _ _ (e1722 _ _ tp17)
    refine last (ps_ret (pe_ix ix_list (pv 5) (pc D_l_draw (hr.mono (by decide)) (pa_cons (pv 0) (pa_cons (pe_callB call_len_seq (by rfl) T.len PySem.boot_len (pa_cons (pv 5) pa_nil)) pa_nil))) (fun _ _ => rfl))) ?_
    refine ⟨_, rfl, _, rfl, _, rfl, q23, _, rfl, .inl (sqL A23.1), p, m + 1, _, rfl, S23, (by show (0 : Int) < 16; decide), (by show (16 : Int) < 2 ^ 40; decide), fun r24 H24 r240 r241 S24 k24 => ?_⟩
    obtain ⟨v, hv, hvm⟩ := at_lst (xs := [V.ref tp, .ref t1, .ref l2, .ref t3, .ref t5, .ref t16] ++ [.ref D, .str (Txt.join "" bs), .str (Txt.join " " g), .non, .bl true, .int 0, .ref d18, .ref t19, .int (-1), .ref t21]) r240 r241
    refine ⟨q23, _, r24, v, rfl, rfl, sqL (A23.kp k24).1, hv, k v _ (S24.le (by omega)) ((k017.trans k23).trans k24) (AnyV.kp ?_ S23 k24)⟩
    rcases List.mem_append.mp hvm with hv | hv
    · exact (W1 v hv).kp S17 k23
    · simp only [List.mem_cons, List.not_mem_nil, or_false] at hv
      rcases hv with rfl | rfl | rfl | rfl | rfl | rfl | rfl | rfl | rfl | rfl
      · exact .lst (Ar17.kp k23)
      · exact .nt (.str _) fun _ z => nomatch z
      · exact .nt (.str _) fun _ z => nomatch z
      · exact .nt .non fun _ z => nomatch z
      · exact .nt (.bl _) fun _ z => nomatch z
      · exact .nt (.int _) fun _ z => nomatch z
      · have A18 : At p H23 d18 _ := (S17.new n18 ed h18).kp (S18.kp ((e19.trans e20).trans eL))
        exact .nt (.dct A18.1) fun b z => by cases z; exact A18.2
      · exact .tup (ds := [.tuple (bs.map .str)]) (.tup (sqT ((e20.trans eL) _ _ h19)) (.cons (.tup (sqT tp23) (dp_strs bs)) .nil)) (by simp [noLs, noL, noLs_strs]) (by simp [PyData.depthAll, PyData.depth, depth_strs])
      · exact .nt (.int _) fun _ z => nomatch z
      · exact .tl (bs := bs) (e23 _ _ (e22 _ _ h21)) ((S19.new n20 e20 h20).kp ((S19.same e20).kp eL))
end
end B
namespace B
open PySem L2
/-! the drawn names: what they are made of -/
abbrev SGN : Str := "abcdefghijklmnopqrstuvwxyz0123456789"
theorem sgn_len : SGN.length = 36 := by decide +kernel
theorem sgn_all : ∀ c ∈ SGN.cps.toList, alnum c = true := by decide +kernel
theorem sgn_let : ∀ j, j < 26 → SGN.cps.toList[j]? = some (97 + j) ∧ 97 + j ∈ LET.cps.toList := by decide +kernel
def one (c : Nat) : Str := ⟨#[c]⟩
theorem one_tl (c : Nat) : (one c).cps.toList = [c] := rfl
theorem at_sgn {r : Int} (h0 : 0 ≤ r) (h1 : r < 36) : ∃ c, atI SGN.cps.toList r = some c ∧ alnum c = true := by
  obtain ⟨c, hc, hm⟩ := at_str (z := SGN) h0 (by rw [sgn_len]; exact h1)
  exact ⟨c, hc, sgn_all c hm⟩
theorem at_let {r : Int} (h0 : 0 ≤ r) (h1 : r < 26) : atI SGN.cps.toList r = some (97 + r.toNat) ∧ 97 + r.toNat ∈ LET.cps.toList := by
  obtain ⟨j, rfl⟩ : ∃ j : Nat, r = (j : Int) := ⟨r.toNat, (Int.toNat_of_nonneg h0).symm⟩
  rw [Int.toNat_natCast]
  have := sgn_let j (by omega)
  exact ⟨atI_nat this.1, this.2⟩
theorem let_alnum {c : Nat} (h : c ∈ LET.cps.toList) : alnum c = true := by
  unfold alnum
  rw [decide_eq_true h, Bool.true_or]
theorem vn_mk {w : Str} {c : Nat} {r : List Nat} (h : w.cps.toList = c :: r) (hc : c ∈ LET.cps.toList) (hr : ∀ x ∈ r, alnum x = true) (hl : r.length ≤ 5) : vn w = true := by
  have h1 : w.length = r.length + 1 := by rw [str_len, h]; rfl
  have h2 : w.cps[0]? = some c := by
    have : w.cps.toList[0]? = some c := by rw [h]; rfl
    simpa using this
  rw [vn_all ⟨by omega, by omega⟩ h2 hc, h, List.all_cons, let_alnum hc, Bool.true_and, List.all_eq_true]
  exact hr
theorem tl_app (a b : Str) : (a ++ b).cps.toList = a.cps.toList ++ b.cps.toList := TL.tl_append a b
theorem str_len_app (a b : Str) : (a ++ b).length = a.length + b.length := by rw [str_len, str_len, str_len, tl_app, List.length_append]
theorem join_ones (cs : List Nat) : (Txt.join "" (cs.map one)).cps.toList = cs := by
  rw [TL.join_eq]
  have e : TL.tl (("" : Str)) = [] := by decide +kernel
  have := TL.tl_join "" (cs.map one)
  rw [e] at this
  show TL.tl _ = _
  rw [this]
  clear this
  induction cs with
  | nil => rfl
  | cons c r ih =>
    cases r with
    | nil => rfl
    | cons d r =>
      show TL.joinL [] ([c] :: ((d :: r).map one).map TL.tl) = _
      have ih' : TL.joinL [] (((d :: r).map one).map TL.tl) = d :: r := ih
      show [c] ++ ([] ++ TL.joinL [] (((d :: r).map one).map TL.tl)) = _
      rw [ih']; rfl
theorem ones_sum (cs : List Nat) : ((cs.map one).map (·.length)).sum = cs.length := by
  induction cs with
  | nil => rfl
  | cons c r ih =>
    have e : (one c).length = 1 := rfl
    simp only [List.map_cons, List.sum_cons, List.length_cons, ih, e]; omega
theorem nodup_range_map {α : Type} {f : Nat → α} {n : Nat} (h : ∀ i j, i < j → j < n → f i ≠ f j) : ((List.range n).map f).Nodup := by
  refine List.pairwise_map.mpr ?_
  refine List.Pairwise.imp_of_mem (R := fun a b => a < b) (fun {a b} _ hb hab => h a b hab (List.mem_range.mp hb)) List.pairwise_lt_range
/-- small numbers as texts -/
theorem num_ok : ∀ n : Nat, n < 73 → 1 ≤ n → ((toString (n : Int) : Str).cps.toList.length ≤ 2 ∧ ∀ c ∈ (toString (n : Int) : Str).cps.toList, alnum c = true) := by decide +kernel
theorem num_ne : ∀ a : Nat, a < 73 → ∀ b : Nat, b < 73 → a ≠ b → (toString (a : Int) : Str).cps.toList ≠ (toString (b : Int) : Str).cps.toList := by decide +kernel
theorem cut_pre (z : Str) (k : Nat) (h : k + 1 ≤ z.length) : (cutS z none (some ((k : Int) + 1))).cps.toList = z.cps.toList.take (k + 1) := by
  unfold cutS
  have e : ((k : Int) + 1) = ((k + 1 : Nat) : Int) := by omega
  rw [e, HT.sIx_none, HT.sIx_nat, List.drop_zero, Nat.sub_zero, Nat.min_eq_left h]
theorem stride_ne {o s i j : Nat} (hs : s = 1 ∨ s = 3 ∨ s = 5 ∨ s = 7 ∨ s = 9 ∨ s = 11) (hij : i < j) (hj : j < 26) : (o + s * i) % 26 ≠ (o + s * j) % 26 := by
  rcases hs with rfl | rfl | rfl | rfl | rfl | rfl <;> omega
theorem nodup_key {α β : Type} {l : List α} {key : α → β} {g : Nat → β} (hk : ∀ i x, l[i]? = some x → key x = g i) (hg : ∀ i j, i < j → j < l.length → g i ≠ g j) : l.Nodup := by
  refine List.pairwise_iff_getElem.mpr fun i j hi hj hij e => hg i j hij hj ?_
  rw [← hk i _ (List.getElem?_eq_getElem hi), ← hk j _ (List.getElem?_eq_getElem hj), e]
end B
namespace B
open PySem L2
def spNames : Sp := fun vs H Q _ => ∃ (p : Addr) (m n : Nat), vs = [.ref p, .int (n : Int)] ∧ StA H p (m + 20) ∧ n ≤ 8 ∧
  ∀ (q : Addr) (ws : List Str) (H' : Hp), H q = none → ws.length = n → (∀ w ∈ ws, vn w = true) → ws.Nodup → StA H' p m → Kp p H H' → At p H' q (.lst (ws.map V.str)) → Q (.ref q) H'
section
variable {P : Program} {w : World} {K : PySem.W.Frag} {mg : Str → Option Value} {base : Heap}
theorem ok_l_names {f : Addr} {fd : FuncData} (F : Fun K "_law_names" "_law_names" s_l_names f fd) (T : Bt mg) (D_l_draw : Df P w K mg base CX0 1 "_law_draw" ["_law_state", "_law_size"] spDraw) : FnOk P w K mg base CX0 2 f fd ["_law_state", "_law_count"] spNames := by
  refine F.ok sc_l_names (fun vs H Q E h => ?_) (fun cdv A outer s H vs Q E hr h => ⟨_, wb, ?_⟩)
  · obtain ⟨p, m, n, rfl, _⟩ := h
    rfl
  · obtain ⟨p, m, n, rfl, S, hn, k⟩ := h
    refine nxt (ps_set (i := 2) sc_l_names.nd rfl (Or.inr rfl) pe_str) ?_
    refine nxt (ps_set (i := 4) sc_l_names.nd rfl (Or.inl rfl) (pe_join pe_str (pe_lc (own := [("_law_k", 3)]) (g := gName 3) rfl sc_l_names.nd (pi_range1 (by rfl) T.range (pa_cons (pc D_l_draw (hr.mono (by decide)) (pa_cons (pv 0) (pa_cons pe_int pa_nil))) pa_nil)) (blkOk_by (own := [("_law_k", 3)]) (N := ["_law_state", "_law_count", "_law_signs", "_law_k", "_law_stem", "_law_letter", "_law_offset", "_law_stride", "_law_plan", "_law_step", "_law_whole", "_law_words", "_law_sign", "_law_back"]) (sc := defScope s_l_names) (by decide +kernel)) (fun _ _ _ _ _ => (pg_name (i := 3) sc_l_names.nd rfl (Or.inl rfl))) (fun _ _ _ _ _ => pts_nil) (fun _ _ _ _ _ => (pe_ix ix_str (pv 2) (pc D_l_draw (hr.mono (by decide)) (pa_cons (pv 0) (pa_cons pe_int pa_nil))) (fun _ _ => rfl)))))) ?_
    refine ⟨⟨_, rfl⟩, _, rfl, p, m + 19, 5, rfl, S, by decide, by decide, fun r1 H1 r10 r11 S1 k1 => ?_⟩
    refine ⟨r1, rfl, by omega, by omega, fun D nD => lc_range (lo := 0) (n := r1.toNat) (fun i H' => Kp p H1 H' ∧ StA H' p (m + 19 - i) ∧ ∃ cs : List Nat, At p H' D (.lst ((cs.map one).map V.str)) ∧ cs.length = i ∧ ∀ c ∈ cs, alnum c = true) ?_ ?_ ?_⟩
    · have e := sm_new (o := .lst []) nD
      exact ⟨S1.kp e, (S1.same e).le (by omega), [], S1.new nD e upd_same, rfl, by simp⟩
    · rintro i H6 hi ⟨k6, S6, cs, A6, hl, hw⟩
      refine ⟨rfl, ?_⟩
      refine ⟨_, rfl, _, rfl, p, m + 19 - (i + 1), 36, rfl, S6.le (by omega), by decide, by decide, fun r7 H7 r70 r71 S7 k7 => ?_⟩
      obtain ⟨c, hc, hca⟩ := at_sgn r70 r71
      refine ⟨SGN, r7, c, rfl, rfl, sz5 (by rw [sgn_len]; decide), hc, _, (A6.kp k7).1, small1000 (by simp; omega), ?_⟩
      have nDp : D ≠ p := fun z => (A6.kp k7).2 (.inl z)
      refine ⟨(k6.trans k7).mut nD nDp, S7.upd (A6.kp k7).2, cs ++ [c], ⟨?_, fun z => (A6.kp k7).2 ((own_mut nDp).mp z)⟩, by simp; omega, ?_⟩
      · rw [List.map_append, List.map_append]; exact upd_same
      · intro x hx
        rcases List.mem_append.mp hx with hx | hx
        · exact hw x hx
        · simp at hx; subst hx; exact hca
    rintro H2 ⟨k2, S2, stem, A2, hstl, hst⟩
    have S2 : StA H2 p (m + 15) := S2.le (by omega)
    have hstl : stem.length ≤ 4 := by omega
    have k02 := k1.trans k2
    have hz0 : (("" : Str)).length = 0 := by decide +kernel
    refine ⟨_, D, _, rfl, rfl, .inl (sqL A2.1), (by rw [ones_sum, hz0]; omega), ?_⟩
    refine nxt (ps_set (i := 5) sc_l_names.nd rfl (Or.inr rfl) (pe_ix ix_str (pv 2) (pc D_l_draw (hr.mono (by decide)) (pa_cons (pv 0) (pa_cons pe_int pa_nil))) (fun _ _ => rfl))) ?_
    refine ⟨_, rfl, _, rfl, p, m + 14, 26, rfl, S2, by decide, by decide, fun r3 H3 r30 r31 S3 k3 => ?_⟩
    obtain ⟨hle, hlm⟩ := at_let r30 r31
    refine ⟨SGN, r3, _, rfl, rfl, sz5 (by rw [sgn_len]; decide), hle, ?_⟩
    obtain ⟨lt, hlt⟩ : ∃ lt, lt = 97 + r3.toNat := ⟨_, rfl⟩
    rw [← hlt] at hlm ⊢
    refine nxt (ps_set (i := 6) sc_l_names.nd rfl (Or.inl rfl) (pc D_l_draw (hr.mono (by decide)) (pa_cons (pv 0) (pa_cons pe_int pa_nil)))) ?_
    refine ⟨_, rfl, p, m + 13, 26, rfl, S3, by decide, by decide, fun off H4 o0 o1 S4 k4 => ?_⟩
    refine nxt (ps_set (i := 7) sc_l_names.nd rfl (Or.inl rfl) (pe_ix ix_list (pe_lst (pa_cons pe_int (pa_cons pe_int (pa_cons pe_int (pa_cons pe_int (pa_cons pe_int (pa_cons pe_int pa_nil))))))) (pc D_l_draw (hr.mono (by decide)) (pa_cons (pv 0) (pa_cons pe_int pa_nil))) (fun _ _ => rfl))) ?_
    refine ⟨by decide, fun q5 nq5 => ?_⟩
    refine upd_gen nq5 fun H5 e5 h5 => ?_
    refine ⟨_, rfl, p, m + 12, 6, rfl, S4.same e5, by decide, by decide, fun r6 H6 r60 r61 S6 k6 => ?_⟩
    obtain ⟨v, hv, hvm⟩ := at_lst (xs := [V.int 1, .int 3, .int 5, .int 7, .int 9, .int 11]) r60 r61
    obtain ⟨st, rfl, hstr⟩ : ∃ st : Nat, v = .int (st : Int) ∧ (st = 1 ∨ st = 3 ∨ st = 5 ∨ st = 7 ∨ st = 9 ∨ st = 11) := by
      simp only [List.mem_cons, List.not_mem_nil, or_false] at hvm
      rcases hvm with rfl | rfl | rfl | rfl | rfl | rfl
      · exact ⟨1, rfl, by omega⟩
      · exact ⟨3, rfl, by omega⟩
      · exact ⟨5, rfl, by omega⟩
      · exact ⟨7, rfl, by omega⟩
      · exact ⟨9, rfl, by omega⟩
      · exact ⟨11, rfl, by omega⟩
    refine ⟨q5, _, r6, _, rfl, rfl, sqL ((S4.new nq5 e5 h5).kp k6).1, hv, ?_⟩
    refine nxt (ps_set (i := 8) sc_l_names.nd rfl (Or.inl rfl) (pc D_l_draw (hr.mono (by decide)) (pa_cons (pv 0) (pa_cons pe_int pa_nil)))) ?_
    refine ⟨_, rfl, p, m + 11, 6, rfl, S6, by decide, by decide, fun pl H7 pl0 pl1 S7 k7 => ?_⟩
    have k07 : Kp p H H7 := (((k02.trans k3).trans k4).trans ((S4.kp e5).trans k6)).trans k7
    clear S S1 S2 S3 S4 S6 k1 k2 k3 k4 k6 k7 k02 A2 h5 e5 nq5 hv hvm
    obtain ⟨stemS, hstemS⟩ : ∃ z, z = Txt.join "" (stem.map one) := ⟨_, rfl⟩
    have hstemT : stemS.cps.toList = stem := by rw [hstemS]; exact join_ones stem
    have hstemL : stemS.length ≤ 4 := by rw [str_len, hstemT]; exact hstl
    rw [← hstemS]
    refine nxtN (ps_if wt wb pss_nil) fun N hN => ?_
    refine wt_by (PW.pt (pw_or (pt_cmpR op_eq (pv 8) pe_int (nomark _)) (pw_or1 (PW.pt (pw_and (pt_cmpR op_eq (pv 8) pe_int (nomark _)) (pw_and1 (pt_cmpR op_gt (pv 1) pe_int (nomark _)))))))) (fun b H' => H7 = H' ∧ (b = false → pl = 5 → n ≤ 6)) ?_ ?_
    · refine ⟨_, rfl, rfl, _, rfl, ?_⟩
      refine ite2 (fun _ => ⟨rfl, fun h => nomatch h⟩) (fun _ => ?_)
      refine ⟨_, rfl, rfl, _, rfl, ?_⟩
      refine ite2 (fun _ => ?_) (fun c => ⟨rfl, fun _ h => ?_⟩)
      · refine ⟨_, rfl, _, _, rfl, rfl, _, rfl, rfl, fun h _ => ?_⟩
        have := of_decide_eq_false h
        omega
      · exact absurd (decide_eq_true (by rw [h])) c
    rintro b H' ⟨rfl, hb5⟩
    cases b with
    | true =>
      clear hN hb5
      refine iteT ?_
      refine nxt (ps_set (i := 9) sc_l_names.nd rfl (Or.inr rfl) (pe_op op_add pe_int (pc D_l_draw (hr.mono (by decide)) (pa_cons (pv 0) (pa_cons pe_int pa_nil))))) ?_
      refine ⟨_, rfl, p, m + 10, 9, rfl, S7, by decide, by decide, fun r8 H8 r80 r81 S8 k8 => ?_⟩
      refine ⟨_, _, rfl, rfl, ?_⟩
      obtain ⟨sp, hsp⟩ : ∃ sp : Nat, 1 + r8 = (sp : Int) := ⟨(1 + r8).toNat, (Int.toNat_of_nonneg (by omega)).symm⟩
      show gName 9 (V.int (1 + r8)) _ _ _
      rw [hsp]
      have hsp1 : 1 ≤ sp ∧ sp ≤ 9 := by omega
      refine last (ps_ret (pe_lc (own := [("_law_k", 3)]) (g := gName 3) rfl sc_l_names.nd (pi_range1 (by rfl) T.range (pa_cons (pv 1) pa_nil)) (blkOk_by (own := [("_law_k", 3)]) (N := ["_law_state", "_law_count", "_law_signs", "_law_k", "_law_stem", "_law_letter", "_law_offset", "_law_stride", "_law_plan", "_law_step", "_law_whole", "_law_words", "_law_sign", "_law_back"]) (sc := defScope s_l_names) (by decide +kernel)) (fun _ _ _ _ _ => (pg_name (i := 3) sc_l_names.nd rfl (Or.inl rfl))) (fun _ _ _ _ _ => pts_nil) (fun _ _ _ _ _ => (pe_op op_add_str (pv 5) (pe_callTy call_str_int (by rfl) T.str (by decide +kernel) (pa_cons (pe_op op_mul (pv 9) (pe_op op_add (pv 3) pe_int)) pa_nil)))))) ?_
      obtain ⟨fw, hfw⟩ : ∃ fw : Nat → Str, fw = fun j => one lt ++ (toString (((sp * (j + 1) : Nat)) : Int) : Str) := ⟨_, rfl⟩
      have hfl : ∀ j, j < 8 → sp * (j + 1) < 73 ∧ 1 ≤ sp * (j + 1) := fun j hj => by
        have h1 : sp * (j + 1) ≤ 9 * 8 := Nat.mul_le_mul hsp1.2 (by omega)
        have h2 : 1 * 1 ≤ sp * (j + 1) := Nat.mul_le_mul hsp1.1 (by omega)
        omega
      refine ⟨_, rfl, n, rfl, by omega, by omega, fun D2 nD2 => lc_range (lo := 0) (n := (n : Int).toNat) (fun i H' => Kp p H8 H' ∧ StA H' p (m + 10) ∧ At p H' D2 (.lst (((List.range i).map fw).map V.str))) ?_ ?_ ?_⟩
      · have e := sm_new (o := .lst []) nD2
        exact ⟨S8.kp e, S8.same e, S8.new nD2 e upd_same⟩
      · rintro i H9 hi ⟨k9, S9, A9⟩
        rw [Int.toNat_natCast] at hi
        refine ⟨rfl, ?_⟩
        have hi8 := hfl i (by omega)
        have ei : (sp : Int) * (0 + (i : Int) + 1) = ((sp * (i + 1) : Nat) : Int) := by push_cast; congr 1; omega
        have hnum := num_ok _ hi8.1 hi8.2
        refine ⟨_, rfl, _, rfl, _, rfl, _, _, rfl, rfl, _, _, rfl, rfl, .inl ⟨by omega, by omega⟩, _, rfl, ?_, _, _, rfl, rfl, ?_, ?_⟩
        · rw [ei]; exact Nat.lt_of_le_of_lt (Nat.log2_le_self _) (by omega)
        · rw [ei]
          have := str_len (toString (((sp * (i + 1) : Nat)) : Int) : Str)
          refine sz5 ?_
          show 1 + (toString (((sp * (i + 1) : Nat)) : Int) : Str).length ≤ 100000
          have := hnum.1
          omega
        · rw [ei]
          refine ⟨_, A9.1, small1000 (by simp; omega), ?_⟩
          have nDp : D2 ≠ p := fun z => A9.2 (.inl z)
          refine ⟨k9.mut nD2 nDp, S9.upd A9.2, ?_, fun z => A9.2 ((own_mut nDp).mp z)⟩
          rw [List.range_succ, List.map_append, List.map_append, upd_same, hfw]
          rfl
      · rintro H9 ⟨k9, S9, A9⟩
        rw [Int.toNat_natCast] at A9
        have hmem : ∀ x ∈ (List.range n).map fw, ∃ j, j < n ∧ x = fw j := fun x hx => by
          obtain ⟨j, hj, rfl⟩ := List.mem_map.mp hx
          exact ⟨j, List.mem_range.mp hj, rfl⟩
        have htl : ∀ j, (fw j).cps.toList = lt :: (toString (((sp * (j + 1) : Nat)) : Int) : Str).cps.toList := fun j => by rw [hfw]; exact tl_app _ _
        refine k D2 _ H9 ((k07.trans k8).free nD2) (by simp) (fun x hx => ?_) (nodup_range_map fun i j hij hj e => ?_) (S9.le (by omega)) ((k07.trans k8).trans k9) A9
        · obtain ⟨j, hj, rfl⟩ := hmem x hx
          have := hfl j (by omega)
          exact vn_mk (htl j) hlm (num_ok _ this.1 this.2).2 (by have := (num_ok _ this.1 this.2).1; omega)
        · have h1 := hfl i (by omega)
          have h2 := hfl j (by omega)
          have e' := congrArg (fun z : Str => z.cps.toList) e
          simp only [htl] at e'
          refine num_ne _ h1.1 _ h2.1 (fun z => ?_) (List.cons.inj e').2
          have := Nat.eq_of_mul_eq_mul_left (by omega) z
          omega
    | false =>
      refine iteF ?_
      refine hN _ _ ?_
      have hb5 := hb5 rfl
      clear hN
      refine nxtN (ps_if (pt_cmpR op_eq (pv 8) pe_int (nomark _)) wb pss_nil) fun N hN => ?_
      refine ⟨_, rfl, rfl, _, rfl, ?_⟩
      refine ite2 (fun c5 => ?_) (fun c5 => ?_)
      · have hn6 : n ≤ 6 := hb5 (by simpa using c5)
        clear hN
        refine nxt (ps_set (i := 10) sc_l_names.nd rfl (Or.inr rfl) (pe_op op_add_str (pv 5) (pe_join pe_str (pe_lc (own := [("_law_k", 3)]) (g := gName 3) rfl sc_l_names.nd (pi_range1 (by rfl) T.range (pa_cons pe_int pa_nil)) (blkOk_by (own := [("_law_k", 3)]) (N := ["_law_state", "_law_count", "_law_signs", "_law_k", "_law_stem", "_law_letter", "_law_offset", "_law_stride", "_law_plan", "_law_step", "_law_whole", "_law_words", "_law_sign", "_law_back"]) (sc := defScope s_l_names) (by decide +kernel)) (fun _ _ _ _ _ => (pg_name (i := 3) sc_l_names.nd rfl (Or.inl rfl))) (fun _ _ _ _ _ => pts_nil) (fun _ _ _ _ _ => (pe_ix ix_str (pv 2) (pc D_l_draw (hr.mono (by decide)) (pa_cons (pv 0) (pa_cons pe_int pa_nil))) (fun _ _ => rfl))))))) ?_
        refine ⟨_, rfl, ⟨_, rfl⟩, 5, rfl, by decide, by decide, fun D nD => lc_range (lo := 0) (n := 5) (fun i H' => Kp p H' H' ∧ Kp p H7 H' ∧ StA H' p (m + 11 - i) ∧ ∃ cs : List Nat, At p H' D (.lst ((cs.map one).map V.str)) ∧ cs.length = i ∧ ∀ c ∈ cs, alnum c = true) ?_ ?_ ?_⟩
        · have e := sm_new (o := .lst []) nD
          exact ⟨Kp.refl _ _, S7.kp e, (S7.same e).le (by omega), [], S7.new nD e upd_same, rfl, by simp⟩
        · rintro i H8 hi ⟨_, k8, S8, cs, A8, hl, hw⟩
          refine ⟨rfl, ?_⟩
          refine ⟨_, rfl, _, rfl, p, m + 11 - (i + 1), 36, rfl, S8.le (by omega), by decide, by decide, fun r9 H9 r90 r91 S9 k9 => ?_⟩
          obtain ⟨c, hc, hca⟩ := at_sgn r90 r91
          refine ⟨SGN, r9, c, rfl, rfl, sz5 (by rw [sgn_len]; decide), hc, _, (A8.kp k9).1, small1000 (by simp; omega), ?_⟩
          have nDp : D ≠ p := fun z => (A8.kp k9).2 (.inl z)
          refine ⟨Kp.refl _ _, (k8.trans k9).mut nD nDp, S9.upd (A8.kp k9).2, cs ++ [c], ⟨?_, fun z => (A8.kp k9).2 ((own_mut nDp).mp z)⟩, by simp; omega, ?_⟩
          · rw [List.map_append, List.map_append]; exact upd_same
          · intro x hx
            rcases List.mem_append.mp hx with hx | hx
            · exact hw x hx
            · simp at hx; subst hx; exact hca
        rintro H8 ⟨_, k8, S8, cs, A8, hcl, hcs⟩
        have hjt := join_ones cs
        have hjl : (Txt.join "" (cs.map one)).length = 5 := by rw [str_len, hjt, hcl]
        refine ⟨_, D, _, rfl, rfl, .inl (sqL A8.1), (by rw [ones_sum, hz0]; omega), _, _, rfl, rfl, sz5 (by rw [hjl]; show 1 + 5 ≤ _; decide), ?_⟩
        obtain ⟨wh, hwh⟩ : ∃ wh : Str, wh = one lt ++ Txt.join "" (cs.map one) := ⟨_, rfl⟩
        have hwt : wh.cps.toList = lt :: cs := by rw [hwh, tl_app, hjt]; rfl
        have hwl : wh.length = 6 := by rw [str_len, hwt]; simp [hcl]
        show gName 10 (V.str (one lt ++ Txt.join "" (cs.map one))) _ _ _
        rw [← hwh]
        refine last (ps_ret (pe_lc (own := [("_law_k", 3)]) (g := gName 3) rfl sc_l_names.nd (pi_range1 (by rfl) T.range (pa_cons (pv 1) pa_nil)) (blkOk_by (own := [("_law_k", 3)]) (N := ["_law_state", "_law_count", "_law_signs", "_law_k", "_law_stem", "_law_letter", "_law_offset", "_law_stride", "_law_plan", "_law_step", "_law_whole", "_law_words", "_law_sign", "_law_back"]) (sc := defScope s_l_names) (by decide +kernel)) (fun _ _ _ _ _ => (pg_name (i := 3) sc_l_names.nd rfl (Or.inl rfl))) (fun _ _ _ _ _ => pts_nil) (fun _ _ _ _ _ => (pe_slice sl_str (pv 10) po_none (po_some (pe_op op_add (pv 3) pe_int)))))) ?_
        refine ⟨_, rfl, n, rfl, by omega, by omega, fun D2 nD2 => lc_range (lo := 0) (n := (n : Int).toNat) (fun i H' => Kp p H8 H' ∧ StA H' p (m + 6) ∧ At p H' D2 (.lst (((List.range i).map fun j : Nat => cutS wh none (some ((j : Int) + 1))).map V.str))) ?_ ?_ ?_⟩
        · have e := sm_new (o := .lst []) nD2
          exact ⟨S8.kp e, (S8.same e).le (by omega), S8.new nD2 e upd_same⟩
        · rintro i H9 hi ⟨k9, S9, A9⟩
          rw [Int.toNat_natCast] at hi
          refine ⟨rfl, ?_⟩
          have ei : (0 + (i : Int) + 1) = (i : Int) + 1 := by omega
          refine ⟨_, rfl, _, rfl, _, _, rfl, rfl, _, rfl, wh, rfl, sz5 (by omega), ?_⟩
          rw [ei]
          refine ⟨_, A9.1, small1000 (by simp; omega), ?_⟩
          have nDp : D2 ≠ p := fun z => A9.2 (.inl z)
          refine ⟨k9.mut nD2 nDp, S9.upd A9.2, ?_, fun z => A9.2 ((own_mut nDp).mp z)⟩
          rw [List.range_succ, List.map_append, List.map_append, upd_same]
          rfl
        · rintro H9 ⟨k9, S9, A9⟩
          rw [Int.toNat_natCast] at A9
          have htl : ∀ j : Nat, j < n → (cutS wh none (some ((j : Int) + 1))).cps.toList = lt :: cs.take j := fun j hj => by rw [cut_pre wh j (by omega), hwt]; rfl
          refine k D2 _ H9 ((k07.trans k8).free nD2) (by simp) (fun x hx => ?_) (nodup_range_map fun i j hij hj e => ?_) (S9.le (by omega)) ((k07.trans k8).trans k9) A9
          · obtain ⟨j, hj, rfl⟩ := List.mem_map.mp hx
            have hj := List.mem_range.mp hj
            exact vn_mk (htl j hj) hlm (fun y hy => hcs y (List.mem_of_mem_take hy)) (by rw [List.length_take]; omega)
          · have e' := congrArg (fun z : Str => z.cps.toList.length) e
            simp only [htl i (by omega), htl j hj, List.length_cons, List.length_take] at e'
            omega
      · refine hN _ _ ?_
        clear hN hb5
        refine nxt (ps_set (i := 11) sc_l_names.nd rfl (Or.inl rfl) (pe_lst pa_nil)) ?_
        refine ⟨by decide, fun D nD => ?_⟩
        refine upd_gen nD fun H8 e8 h8 => ?_
        obtain ⟨o, rfl⟩ : ∃ o : Nat, off = (o : Int) := ⟨off.toNat, (Int.toNat_of_nonneg o0).symm⟩
        obtain ⟨q, rfl⟩ : ∃ q : Nat, pl = (q : Int) := ⟨pl.toNat, (Int.toNat_of_nonneg pl0).symm⟩
        refine nxtN (ps_for PassesOwn.never rfl (pi_range1 (by rfl) T.range (pa_cons (pv 1) pa_nil)) (pg_name (i := 3) sc_l_names.nd rfl (Or.inl rfl)) wb) fun N hN => ?_
        refine ⟨_, rfl, n, rfl, by omega, by omega, for_range (lo := 0) (n := (n : Int).toNat) (fun i σ H' => (∃ v0 v1 v2, σ = [some (.ref p), some (.int n), some (.str SGN), v0, some (.str stemS), some (.str (one lt)), some (.int o), some (.int st), some (.int q), none, none, some (.ref D), v1, v2]) ∧ Kp p H7 H' ∧ StA H' p (m + 10) ∧
          ∃ ws : List Str, At p H' D (.lst (ws.map V.str)) ∧ ws.length = i ∧ (∀ x ∈ ws, vn x = true) ∧ ∀ j x, ws[j]? = some x → (if q % 2 = 0 then x.cps.toList.getLast? else x.cps.toList.head?) = some (97 + (o + st * j) % 26)) ?_ ?_ ?_⟩
        · exact ⟨⟨_, _, _, rfl⟩, S7.kp e8, (S7.same e8).le (by omega), [], S7.new nD e8 h8, rfl, by simp, by simp⟩
        · rintro i σ' H9 hi ⟨⟨v0, v1, v2, rfl⟩, k9, S9, ws, A9, hwl, hwv, hwk⟩
          rw [Int.toNat_natCast] at hi
          have e0 : (0 : Int) + (i : Int) = (i : Int) := by omega
          show WB _ _ _ [some (.ref p), some (.int n), some (.str SGN), some (.int (0 + (i : Int))), some (.str stemS), some (.str (one lt)), some (.int o), some (.int st), some (.int q), none, none, some (.ref D), v1, v2] H9
          rw [e0]
          refine nxt (ps_set (i := 12) sc_l_names.nd rfl (Or.inl rfl) (pe_ix ix_str (pv 2) (pe_op op_mod (pe_callTy call_int1 (by rfl) T.int (by decide +kernel) (pa_cons (pe_op op_add (pv 6) (pe_op op_mul (pv 7) (pv 3))) pa_nil)) pe_int) (fun _ _ => rfl))) ?_
          have em : ((o : Int) + (st : Int) * (i : Int)) % 26 = (((o + st * i) % 26 : Nat) : Int) := by push_cast; rfl
          have hm26 : (o + st * i) % 26 < 26 := Nat.mod_lt _ (by decide)
          obtain ⟨hle2, hlm2⟩ := at_let (r := (((o + st * i) % 26 : Nat) : Int)) (by omega) (by omega)
          rw [Int.toNat_natCast] at hle2 hlm2
          refine ⟨_, rfl, _, rfl, _, rfl, _, rfl, _, _, rfl, rfl, .inl ⟨by omega, by omega⟩, _, _, rfl, rfl, .inl ⟨_, rfl, _, _, rfl, rfl, (by show (0 : Int) < 26; decide), SGN, _, _, rfl, rfl, sz5 (by rw [sgn_len]; decide), (by rw [em]; exact hle2), ?_⟩⟩
          refine nxt (ps_set (i := 13) sc_l_names.nd rfl (Or.inl rfl) (pe_ix ix_list (pe_lst (pa_cons (pv 4) (pa_cons pe_str pa_nil))) we (fun _ _ => rfl))) ?_
          refine ⟨_, rfl, (by show 2 ≤ sizeLine; decide), fun q10 nq10 => ?_⟩
          refine upd_gen nq10 fun H10 e10 h10 => ?_
          refine we_by (pe_callTy call_int1 (by rfl) T.int (by decide +kernel) (pa_cons (pe_and (pe_cmpR op_gt (pv 8) pe_int (nomark _)) (pe_one (pe_cmpR op_eq (pe_op op_mod (pv 3) pe_int) pe_int (nomark _)))) pa_nil)) (fun v H' => H10 = H' ∧ ∃ b : Bool, v = .int (if b then 1 else 0)) ?_ ?_
          · refine ⟨_, rfl, _, _, rfl, rfl, _, rfl, ?_⟩
            refine ite2 (fun _ => ?_) (fun _ => ?_)
            · exact ⟨_, rfl, _, _, rfl, rfl, (by show (0 : Int) < 2; decide), rfl, .inr ⟨_, rfl, rfl, _, rfl⟩⟩
            · exact .inr ⟨_, rfl, rfl, _, rfl⟩
          rintro v H' ⟨rfl, b, rfl⟩
          obtain ⟨bk, hbk, hbl, hba⟩ : ∃ bk : Str, atI [V.str stemS, V.str ""] (if b then 1 else 0) = some (.str bk) ∧ bk.length ≤ 4 ∧ ∀ c ∈ bk.cps.toList, alnum c = true := by
            cases b with
            | true => exact ⟨_, rfl, by rw [hz0]; decide, by decide +kernel⟩
            | false => exact ⟨stemS, rfl, hstemL, by rw [hstemT]; exact hst⟩
          refine ⟨q10, _, _, _, rfl, rfl, sqL h10, hbk, ?_⟩
          have S10 := S9.same e10
          have A10 := A9.kp (S9.kp e10)
          refine last (ps_expr (pe_bm PySem.F.plainAttrs_list PySem.F.slot_list_append PySem.F.type_list_append mt_append (pv 11) (pa_cons (pe_ix ix_list (pe_lst (pa_cons (pe_op op_add_str (pe_op op_add_str (pv 5) (pv 13)) (pv 12)) (pa_cons (pe_op op_add_str (pv 12) (pv 13)) pa_nil))) (pe_op op_mod (pe_callTy call_int1 (by rfl) T.int (by decide +kernel) (pa_cons (pv 8) pa_nil)) pe_int) (fun _ _ => rfl)) pa_nil))) ?_
          obtain ⟨sg, hsg⟩ : ∃ sg : Str, sg = one (97 + (o + st * i) % 26) := ⟨_, rfl⟩
          have hsl : sg.length = 1 := by rw [hsg]; rfl
          have hll : (one lt).length = 1 := rfl
          have l1 := str_len_app (one lt) bk
          refine ⟨_, rfl, .inl ⟨rfl, _, sqL A10.1⟩, _, rfl, _, rfl, _, _, rfl, rfl, sz5 (by omega), _, rfl, _, _, rfl, rfl, sz5 (by rw [l1]; show _ + 1 ≤ _; omega), _, rfl, _, rfl, _, _, rfl, rfl, sz5 (by show 1 + _ ≤ _; omega), (by show 2 ≤ sizeLine; decide), fun q11 nq11 => ?_⟩
          refine upd_gen nq11 fun H11 e11 h11 => ?_
          have S11 := S10.same e11
          have A11 := A10.kp (S10.kp e11)
          obtain ⟨wd, hwd, hwv1, hwk1⟩ : ∃ wd : Str, atI [V.str (one lt ++ bk ++ sg), V.str (sg ++ bk)] ((q : Int) % 2) = some (.str wd) ∧ vn wd = true ∧ (if q % 2 = 0 then wd.cps.toList.getLast? else wd.cps.toList.head?) = some (97 + (o + st * i) % 26) := by
            have hsa : alnum (97 + (o + st * i) % 26) = true := let_alnum hlm2
            have hbl' : bk.cps.toList.length ≤ 4 := by rw [← str_len]; exact hbl
            by_cases hq : q % 2 = 0
            · have e : (q : Int) % 2 = 0 := by omega
              rw [e]
              have ht : (one lt ++ bk ++ sg).cps.toList = lt :: (bk.cps.toList ++ [97 + (o + st * i) % 26]) := by rw [tl_app, tl_app, hsg]; rfl
              refine ⟨_, rfl, vn_mk ht hlm (fun x hx => ?_) (by simp; omega), ?_⟩
              · rcases List.mem_append.mp hx with hx | hx
                · exact hba x hx
                · simp at hx; rw [hx]; exact hsa
              · rw [if_pos hq, ht, ← List.cons_append, List.getLast?_concat]
            · have e : (q : Int) % 2 = 1 := by omega
              rw [e]
              have ht : (sg ++ bk).cps.toList = (97 + (o + st * i) % 26) :: bk.cps.toList := by rw [tl_app, hsg]; rfl
              refine ⟨_, rfl, vn_mk ht hlm2 hba (by omega), ?_⟩
              rw [if_neg hq, ht]; rfl
          rw [hsg] at hwd
          refine ⟨_, rfl, .inl ⟨_, rfl, _, _, rfl, rfl, (by show (0 : Int) < 2; decide), q11, _, _, _, rfl, rfl, sqL h11, hwd, D, _, _, rfl, rfl, A11.1, small1000 (by simp; omega), ?_⟩⟩
          have nDp : D ≠ p := fun z => A11.2 (.inl z)
          refine ⟨⟨_, _, _, rfl⟩, ((k9.trans (S9.kp e10)).trans (S10.kp e11)).mut nD nDp, S11.upd A11.2, ws ++ [wd], ⟨?_, fun z => A11.2 ((own_mut nDp).mp z)⟩, by simp; omega, ?_, ?_⟩
          · rw [List.map_append]; exact upd_same
          · intro x hx
            rcases List.mem_append.mp hx with hx | hx
            · exact hwv x hx
            · simp at hx; subst hx; exact hwv1
          · intro j x hx
            by_cases hj : j < ws.length
            · rw [List.getElem?_append_left hj] at hx
              exact hwk j x hx
            · rw [List.getElem?_append_right (by omega)] at hx
              have hj0 : j - ws.length = 0 := by
                have := (List.getElem?_eq_some_iff.mp hx).1
                simp at this; omega
              rw [hj0] at hx
              cases hx
              have : j = i := by omega
              rw [this]; exact hwk1
        · rintro σ' H9 ⟨⟨v0, v1, v2, rfl⟩, k9, S9, ws, A9, hwl, hwv, hwk⟩
          rw [Int.toNat_natCast] at hwl
          refine hN _ _ ?_
          refine last (ps_ret (pv 11)) ?_
          refine ⟨_, rfl, k D ws H9 (k07.free nD) hwl hwv (nodup_key hwk fun i j hij hj e => ?_) (S9.le (by omega)) (k07.trans k9) A9⟩
          have := stride_ne (o := o) hstr hij (by omega)
          have e' := Option.some.inj e
          omega
end
end B
namespace B
open PySem L2
/-! BundLaw: a bundle is told by its items -/
theorem grow_sub : ∀ (g : List Str) (bs : List (List Str)) (pre : List Str), (∀ b ∈ bs, List.Sublist b pre) → ∀ b ∈ g.foldl grow bs, List.Sublist b (pre ++ g)
  | [], bs, pre, h => by simpa using h
  | x :: g, bs, pre, h => by
    intro b hb
    rw [List.foldl_cons] at hb
    have := grow_sub g (grow bs x) (pre ++ [x]) (fun c hc => by
      unfold grow at hc
      rcases List.mem_append.mp hc with hc | hc
      · exact (h c hc).trans (List.sublist_append_left _ _)
      · obtain ⟨c', hc', rfl⟩ := List.mem_map.mp hc
        exact (h c' hc').append (List.Sublist.refl _)) b hb
    rwa [List.append_assoc, List.singleton_append] at this
theorem subs_sub {g b : List Str} (h : b ∈ subs g) : List.Sublist b g := by
  have := grow_sub g [[]] [] (by simp) b h
  rwa [List.nil_append] at this
theorem bnds_sub {g b : List Str} (h : b ∈ bnds g) : List.Sublist b g := subs_sub ((List.mergeSort_perm _ _).mem_iff.mp h)
theorem filter_sub : ∀ {b g : List Str}, List.Sublist b g → g.Nodup → g.filter (fun x => decide (x ∈ b)) = b := by
  intro b g h
  induction h with
  | slnil => intro _; rfl
  | @cons l₁ l₂ a h ih =>
    intro hn
    have hn' := List.nodup_cons.mp hn
    rw [List.filter_cons, if_neg (by simpa using fun z => hn'.1 (h.subset z))]
    exact ih hn'.2
  | @cons_cons l₁ l₂ a h ih =>
    intro hn
    have hn' := List.nodup_cons.mp hn
    rw [List.filter_cons, if_pos (by simp)]
    congr 1
    rw [← ih hn'.2]
    refine List.filter_congr fun x hx => ?_
    have hxa : x ≠ a := fun z => hn'.1 (z ▸ hx)
    rw [ih hn'.2]
    simp [hxa]
theorem hasD_strs (b : List Str) : hasD (b.map .str) = fun x => decide (x ∈ b) := by
  funext x
  exact any_strs x b
theorem isB_strs (g b : List Str) : isB g (b.map .str) = decide (b = g.filter fun x => decide (x ∈ b)) := by
  unfold isB
  rw [hasD_strs, eqv_strs]
theorem isB_bnd {g b : List Str} (hn : g.Nodup) (h : List.Sublist b g) : isB g (b.map .str) = true := by
  rw [isB_strs, filter_sub h hn]
  simp
theorem isB_take (g : List Str) (n : Nat) : isB (g.take n) (g.map .str) = decide (g.take n = g) := by
  rw [isB_strs]
  have e : (g.take n).filter (fun x => decide (x ∈ g)) = g.take n := List.filter_eq_self.mpr fun x hx => by simpa using List.mem_of_mem_take hx
  rw [e]
  exact decide_eq_decide.mpr ⟨Eq.symm, Eq.symm⟩
theorem bnds_len (g : List Str) : (bnds g).length = 2 ^ g.length := by
  unfold bnds subs
  rw [List.length_mergeSort, subs_len]; simp
theorem vn_len6 {w : Str} (h : vn w = true) : w.length ≤ 6 := by
  by_cases c : 1 ≤ w.length ∧ w.length ≤ 6
  · exact c.2
  · rw [vn_short c] at h; cases h
end B
namespace B
open PySem L2
section
variable {P : Program} {w : World} {K : PySem.W.Frag} {mg : Str → Option Value} {base : Heap} {ec : Nat → Addr}
theorem depth_bnds (bs : List (List Str)) : PyData.depthAll (bs.map tupS) ≤ 1 := by
  induction bs with
  | nil => show (0 : Nat) ≤ 1; decide
  | cons b bs ih =>
    have := depth_tupS b
    simp only [List.map_cons, PyData.depthAll]
    omega
theorem noLs_bnds (bs : List (List Str)) : noLs (bs.map tupS) = true := noLs_map (fun b => noL_tupS b) bs
theorem ok_law {f : Addr} {fd : FuncData} (F : Fun K "law" "law" s_law f fd) (T : Bt mg) (D_l_start : Df P w K mg base CX0 1 "_law_start" ["_law_script"] (spStart K)) (D_l_draw : Df P w K mg base CX0 1 "_law_draw" ["_law_state", "_law_size"] spDraw)
    (D_l_names : Df P w K mg base CX0 2 "_law_names" ["_law_state", "_law_count"] spNames) (D_goods_of : Df P w K mg base (L2.CX P w) 4 "goods_of" ["names"] (spGoods K ec)) (D_l_bundles : Df P w K mg base CX0 2 "_law_bundles" ["_law_stock"] (spBunds K)) (D_all_bundles : Df P w K mg base CX0 4 "all_bundles" ["goods"] (spBunds K))
    (D_all_bundles_k : DfK P w K mg base CX0 4 "all_bundles" ["goods"] 0 ["goods"] (fun _ ws => ws) (fun _ zs => zs) (spBunds K)) (D_is_bundle : Df P w K mg base CX0 1 "is_bundle" ["goods", "value"] (spIsB K)) (D_is_bundle_k : DfK P w K mg base CX0 1 "is_bundle" ["goods", "value"] 0 ["value", "goods"] (fun _ ws => ws.reverse) (fun _ zs => zs.reverse) (spIsB K))
    (D_l_any : Df P w K mg base CX0 2 "_law_any" ["_law_state", "_law_stock"] (spAny K)) (D_l_is_bundle : Df P w K mg base CX0 1 "_law_is_bundle" ["_law_stock", "_law_thing"] (spIsB K)) : FnOk P w K mg base CX0 6 f fd ["_law_script"] (spLaw K) := by
  refine F.ok sc_law (fun vs H Q E h => ?_) (fun cdv A outer s H vs Q E hr h => ⟨_, wb, ?_⟩)
  · obtain ⟨a, ns, rfl, _⟩ := h
    rfl
  · obtain ⟨a, ns, rfl, hS, hlen, k⟩ := h
    refine nxt (ps_set (i := 1) sc_law.nd rfl (Or.inl rfl) (pc D_l_start (hr.mono (by decide)) (pa_cons (pv 0) pa_nil))) ?_
    refine ⟨_, rfl, a, ns, rfl, hS, hlen, fun p H1 e1 S1 o1 => ?_⟩
    refine nxt (ps_set (i := 2) sc_law.nd rfl (Or.inl rfl) (pcn D_goods_of (hr.mono (by decide)) (pa_cons (pc D_l_names (hr.mono (by decide)) (pa_cons (pv 1) (pa_cons (pe_op op_add pe_int (pc D_l_draw (hr.mono (by decide)) (pa_cons (pv 1) (pa_cons pe_int pa_nil)))) pa_nil))) pa_nil))) ?_
    refine ⟨_, rfl, _, rfl, p, 999, 5, rfl, S1.le (by decide), by decide, by decide, fun r2 H2 r20 r21 S2 k2 => ?_⟩
    obtain ⟨n, rfl⟩ : ∃ n : Nat, r2 = (n : Int) := ⟨r2.toNat, (Int.toNat_of_nonneg (by omega)).symm⟩
    refine ⟨_, _, rfl, rfl, ?_⟩
    refine ⟨p, 900, 1 + n, rfl, S2.le (by decide), by omega, fun q3 ws H3 nq3 hl3 hv3 hn3 S3 k3 A3 => ?_⟩
    have hw6 : ∀ x ∈ ws, x.length ≤ 6 := fun x hx => vn_len6 (hv3 x hx)
    refine ⟨q3, ws, rfl, .inl (sqL A3.1), fun x hx => by have := hw6 x hx; omega, ?_⟩
    rw [goodsOf_ok (by omega) hv3 hn3]
    intro st H4 nst e4 h4
    have hg1 : 1 ≤ (sortS ws).length ∧ (sortS ws).length ≤ 5 := by rw [sortS_len]; omega
    have hg6 : ∀ x ∈ sortS ws, x.length ≤ 6 := fun x hx => hw6 x ((sortS_perm ws).subset hx)
    have hgn : (sortS ws).Nodup := (sortS_perm ws).nodup_iff.mpr hn3
    have S4 := S3.same e4
    have As4 := S4.at h4
    generalize sortS ws = g at *
    clear hl3 hv3 hn3 hw6 A3 k3 k2 S2 S1 S3 e4 nst nq3 o1 e1
    refine nxt (ps_set (i := 3) sc_law.nd rfl (Or.inl rfl) (pc D_l_bundles (hr.mono (by decide)) (pa_cons (pv 2) pa_nil))) ?_
    refine ⟨_, rfl, st, g, rfl, sqT As4.1, hg1.2, fun du xs5 H5 e5 n5 h5 d5 => ?_⟩
    refine nxt (ps_set (i := 4) sc_law.nd rfl (Or.inl rfl) (pc D_all_bundles (hr.mono (by decide)) (pa_cons (pv 2) pa_nil))) ?_
    refine ⟨_, rfl, st, g, rfl, sqT (e5 _ _ As4.1), hg1.2, fun to xs6 H6 e6 n6 h6 d6 => ?_⟩
    have ndt : du ≠ to := fun z => by rw [z, n6] at h5; cases h5
    refine nxtN (ps_if (PW.pt (pw_or (pt_not (pt_val (pe_callB call_isi (by rfl) T.isinstance (by decide +kernel) (pa_cons (pv 4) (pa_cons (pe_bltn (v := .ty "list") (by rfl) T.list (by decide +kernel) rfl) pa_nil))))) (pw_or1 (pt_cmpR (op_neP hr.units) (pv 4) (pv 3) (nomark _))))) (pss_one (ps_ret pe_bl)) pss_nil) fun N hN => ?_
    refine ⟨_, rfl, _, _, _, _, true, rfl, .ty _, .base (.lst h6), rfl, _, rfl, ?_⟩
    refine ⟨_, rfl, _, rfl, _, _, dpL h6 d6, dpL (e6 _ _ h5) (dpAll_same d5 e6), .inl ?_, _, rfl, ?_⟩
    · have := depth_bnds (bnds g)
      show PyData.depthAll ((bnds g).map tupS) + 1 ≤ 60
      omega
    rw [eqv_self (dpL h6 d6)]
    refine hN _ _ ?_
    refine nxt (ps_expr (pe_bm0 PySem.F.plainAttrs_list PySem.F.slot_list_pop PySem.F.type_list_pop mt_pop (pv 4))) ?_
    have hx6 : xs6.length = 2 ^ g.length := by rw [dpAll_len d6, List.length_map, bnds_len]
    have hx6p : 0 < xs6.length := by rw [hx6]; exact Nat.pow_pos (by decide)
    refine ⟨_, rfl, .inl ⟨rfl, _, sqL h6⟩, to, xs6, _, rfl, rfl, h6, List.getElem?_eq_getElem (show xs6.length - 1 < xs6.length by omega), ?_⟩
    refine nxt (ps_expr (pe_bm PySem.F.plainAttrs_list PySem.F.slot_list_append PySem.F.type_list_append mt_append (pv 4) (pa_cons (pe_tup (pa_cons pe_str pa_nil)) pa_nil))) ?_
    have S5 := S4.same e5
    have S6 := S5.same e6
    have Ato := S5.new n6 e6 h6
    have Adu := (S4.new n5 e5 h5).kp (S5.kp e6)
    have ntp : to ≠ p := fun z => Ato.2 (.inl z)
    have S7 : StA (upd H6 to (.lst xs6.dropLast)) p 900 := S6.upd Ato.2
    have At7 : At p (upd H6 to (.lst xs6.dropLast)) to (.lst xs6.dropLast) := ⟨upd_same, fun z => Ato.2 ((own_mut ntp).mp z)⟩
    have Ad7 : At p (upd H6 to (.lst xs6.dropLast)) du (.lst xs5) := ⟨by rw [upd_ne ndt]; exact Adu.1, fun z => Adu.2 ((own_mut ntp).mp z)⟩
    have nl7 : NLk H6 (upd H6 to (.lst xs6.dropLast)) := (NLk.refl H6).upd h6
    generalize upd H6 to (.lst xs6.dropLast) = H7 at *
    refine ⟨_, rfl, .inl ⟨rfl, _, sqL At7.1⟩, (by show 1 ≤ sizeLine; decide), fun t8 n8 => ?_⟩
    refine upd_gen n8 fun H8 e8 h8 => ?_
    have At8 := At7.kp (S7.kp e8)
    have Ad8 := Ad7.kp (S7.kp e8)
    have S8 := S7.same e8
    have hx32 : xs6.length ≤ 32 := by rw [hx6]; exact Nat.le_trans (Nat.pow_le_pow_right (by decide) hg1.2) (by decide)
    refine ⟨to, _, _, rfl, rfl, At8.1, small1000 (by rw [List.length_dropLast]; omega), ?_⟩
    have S9 : StA (upd H8 to (.lst (xs6.dropLast ++ [.ref t8]))) p 900 := S8.upd At8.2
    have Ad9 : At p (upd H8 to (.lst (xs6.dropLast ++ [.ref t8]))) du (.lst xs5) := ⟨by rw [upd_ne ndt]; exact Ad8.1, fun z => Ad8.2 ((own_mut ntp).mp z)⟩
    have nl9 : NLk H6 (upd H8 to (.lst (xs6.dropLast ++ [.ref t8]))) := (nl7.trans (NLk.same e8)).upd At8.1
    generalize upd H8 to (.lst (xs6.dropLast ++ [.ref t8])) = H9 at *
    have st9 : H9 st = some (.tup (g.map V.str)) := nl9 _ _ (e6 _ _ (e5 _ _ As4.1)) fun _ z => nomatch z
    have d9 : DpAll K H9 xs5 ((bnds g).map tupS) := dp_tsAll nl9 _ _ (noLs_bnds _) (dpAll_same d5 e6)
    clear S4 S5 S6 S7 S8 Ato Adu At7 Ad7 At8 Ad8 nl7 nl9 e8 h8 n8 e6 e5 h5 h6 n5 n6 d5 d6 hN As4 h4 hx6 hx6p hx32 ndt ntp
    refine nxtN (ps_if (pt_cmpR (op_neP hr.units) (pcK0 D_all_bundles_k (hr.mono (by decide)) (pk_cons (pv 2) pk_nil)) (pv 3) (nomark _)) (pss_one (ps_ret pe_bl)) pss_nil) fun N hN => ?_
    refine ⟨_, rfl, rfl, rfl, st, g, rfl, sqT st9, hg1.2, fun q10 xs10 H10 e10 n10 h10 d10 => ?_⟩
    refine ⟨_, rfl, _, _, dpL h10 d10, dpL (e10 _ _ Ad9.1) (dpAll_same d9 e10), .inl ?_, _, rfl, ?_⟩
    · have := depth_bnds (bnds g)
      show PyData.depthAll ((bnds g).map tupS) + 1 ≤ 60
      omega
    rw [eqv_self (dpL h10 d10)]
    refine hN _ _ ?_
    have S10 := S9.same e10
    have st10 := e10 _ _ st9
    have Ad10 := Ad9.kp (S9.kp e10)
    have d10 := dpAll_same d9 e10
    clear S9 st9 Ad9 d9 hN e10 n10 h10
    refine nxtN (ps_for PassesOwn.never rfl (pi_list (pv 3)) (pg_name (i := 5) sc_law.nd rfl (Or.inl rfl)) wb) fun N hN => ?_
    refine ⟨_, rfl, du, rfl, ⟨_, sqL Ad10.1⟩, for_list (K := K) (xs := xs5) (fun i σ H' => (∃ v, σ = [some (.ref a), some (.ref p), some (.ref st), some (.ref du), some (.ref to), v, none, none, none, none]) ∧ Same H10 H') ⟨⟨_, rfl⟩, Same.refl _⟩ (fun i σ H' _ q => sm_l q.2 (sqL Ad10.1)) ?_ ?_⟩
    · rintro i x σ' H11 hx ⟨⟨v, rfl⟩, e11⟩
      obtain ⟨d, hd1, hd2⟩ := dpAll_get d10 hx
      rw [List.getElem?_map] at hd1
      obtain ⟨b, hb, rfl⟩ := Option.map_eq_some_iff.mp hd1
      have hbs := bnds_sub (List.mem_of_getElem? hb)
      refine last (ps_if (pt_cmpR op_isnot_bl (pc D_is_bundle (hr.mono (by decide)) (pa_cons (pv 2) (pa_cons (pv 5) pa_nil))) pe_bl (nomark _)) (pss_one (ps_ret pe_bl)) pss_nil) ?_
      refine ⟨_, rfl, _, rfl, st, g, x, rfl, sqT (e11 _ _ st10), by omega, .inl ⟨b.map .str, Dp.same hd2 e11, by rw [depth_strs]; decide, fun H12 e12 => ?_⟩⟩
      rw [isB_bnd hgn hbs]
      exact ⟨_, _, rfl, rfl, _, rfl, ⟨_, rfl⟩, e11.trans e12⟩
    rintro σ' H11 ⟨⟨v5, rfl⟩, e11⟩
    refine hN _ _ ?_
    have S11 := S10.same e11
    have st11 := S11.at (e11 _ _ st10)
    clear S10 st10 Ad10 d10 hN e11
    refine nxtN (ps_for PassesOwn.never rfl (pi_range1 (by rfl) T.range (pa_cons pe_int pa_nil)) (pg_name (i := 6) sc_law.nd rfl (Or.inl rfl)) wb) fun N hN => ?_
    refine ⟨12, rfl, by decide, by decide, for_range (lo := 0) (n := 12) (fun i σ H' => (∃ v0 v1 v2, σ = [some (.ref a), some (.ref p), some (.ref st), some (.ref du), some (.ref to), v5, v0, v1, v2, none]) ∧ StA H' p (900 - 20 * i) ∧ At p H' st (.tup (g.map V.str))) ⟨⟨_, _, _, rfl⟩, S11, st11⟩ ?_ ?_⟩
    · rintro i σ' H12 hi ⟨⟨v0, v1, v2, rfl⟩, S12, A12⟩
      refine nxt (ps_set (i := 7) sc_law.nd rfl (Or.inl rfl) (pc D_l_any (hr.mono (by decide)) (pa_cons (pv 1) (pa_cons (pv 2) pa_nil)))) ?_
      refine ⟨_, rfl, _, rfl, p, st, g, 900 - 20 * (i + 1), rfl, S12.le (by omega), A12.1, hg1.1, hg1.2, hg6, fun v H13 S13 k13 V13 => ?_⟩
      have A13 := A12.kp k13
      obtain ⟨bo, hbo⟩ : ∃ bo : Bool, ∀ H' (Q' : VK), Same H13 H' → (∀ H2, Same H' H2 → Q' (.bl bo) H2) → ∀ E', spIsB K [.ref st, v] H' Q' E' := by
        rcases V13.out with ⟨ds, hd, hdp⟩ | hnt
        · exact ⟨isB g ds, fun H' Q' e q E' => ⟨st, g, v, rfl, sqT (e _ _ A13.1), by omega, .inl ⟨ds, Dp.same hd e, hdp, q⟩⟩⟩
        · exact ⟨false, fun H' Q' e q E' => by
            obtain ⟨t, h1, h2⟩ := NT.ty (K := K) (hnt.same e)
            exact ⟨st, g, v, rfl, sqT (e _ _ A13.1), by omega, .inr ⟨t, h1, h2, q _ (Same.refl _)⟩⟩⟩
      refine nxt (ps_set (i := 8) sc_law.nd rfl (Or.inl rfl) (pc D_is_bundle (hr.mono (by decide)) (pa_cons (pv 2) (pa_cons (pv 7) pa_nil)))) ?_
      refine ⟨_, rfl, _, rfl, ?_⟩
      dsimp only [tNil]
      refine hbo H13 _ (Same.refl _) (fun H14 e14 => ?_) _
      refine last (ps_if (PW.pt (pw_or (pt_not (pt_val (pe_callB call_isi (by rfl) T.isinstance (by decide +kernel) (pa_cons (pv 8) (pa_cons (pe_bltn (v := .ty "bool") (by rfl) T.bool (by decide +kernel) rfl) pa_nil))))) (pw_or1 (pt_cmpR op_ne (pv 8) (pc D_l_is_bundle (hr.mono (by decide)) (pa_cons (pv 2) (pa_cons (pv 7) pa_nil))) (nomark _))))) (pss_one (ps_ret pe_bl)) pss_nil) ?_
      refine ⟨_, rfl, _, _, _, _, true, rfl, .ty _, .base (.bl bo), rfl, _, rfl, ?_⟩
      refine ⟨_, rfl, _, rfl, _, rfl, ?_⟩
      dsimp only [tNil]
      refine hbo H14 _ e14 (fun H15 e15 => ?_) _
      have S15 := (S13.same e14).same e15
      have A15 := (A13.kp (S13.kp e14)).kp ((S13.same e14).kp e15)
      refine ⟨(by cases bo <;> rfl), _, rfl, ?_⟩
      have ed : (!decide (V.bl bo = V.bl bo)) = false := by simp
      rw [ed]
      exact ⟨⟨_, _, _, rfl⟩, S15, A15⟩
    rintro σ' H12 ⟨⟨v0, v1, v2, rfl⟩, S12, A12⟩
    refine hN _ _ ?_
    have S12 : StA H12 p 600 := S12.le (by decide)
    refine nxt (ps_set (i := 9) sc_law.nd rfl (Or.inl rfl) (pe_slice sl_tupA (pv 2) po_none (po_some (pe_op op_add pe_int (pc D_l_draw (hr.mono (by decide)) (pa_cons (pv 1) (pa_cons (pe_callB call_len_seq (by rfl) T.len PySem.boot_len (pa_cons (pv 2) pa_nil)) pa_nil))))))) ?_
    refine ⟨_, rfl, _, rfl, _, rfl, st, _, rfl, .inr (sqT A12.1), p, 599, _, rfl, S12, (by rw [List.length_map]; omega), (by rw [List.length_map]; omega), fun r13 H13 r130 r131 S13 k13 => ?_⟩
    obtain ⟨n13, rfl⟩ : ∃ n : Nat, r13 = (n : Int) := ⟨r13.toNat, (Int.toNat_of_nonneg (by omega)).symm⟩
    refine ⟨_, _, rfl, rfl, _, rfl, ?_⟩
    have A13 := A12.kp k13
    refine cut_any (n := 1 + n13) (sqT A13.1) fun fw H14 e14 h14 => ?_
    rw [← List.map_take] at h14
    have st14 := e14 _ _ A13.1
    have hf5 : (g.take (1 + n13)).length ≤ 5 := by rw [List.length_take]; omega
    refine last (ps_ret (pe_and (pe_cmpR (op_eqP hr.units) (pc D_all_bundles (hr.mono (by decide)) (pa_cons (pv 9) pa_nil)) (pc D_l_bundles (hr.mono (by decide)) (pa_cons (pv 9) pa_nil)) (nomark _)) (pe_one (pe_cmpR op_eq (pcK0 D_is_bundle_k (hr.mono (by decide)) (pk_cons (pv 2) (pk_cons (pv 9) pk_nil))) (pe_cmpR (op_eqP hr.units) (pv 9) (pv 2) (nomark _)) (nomark _))))) ?_
    refine ⟨_, rfl, fw, _, rfl, h14, hf5, fun q15 xs15 H15 e15 n15 h15 d15 => ?_⟩
    refine ⟨_, rfl, fw, _, rfl, sm_t e15 h14, hf5, fun q16 xs16 H16 e16 n16 h16 d16 => ?_⟩
    refine ⟨_, _, dpL (e16 _ _ h15) (dpAll_same d15 e16), dpL h16 d16, .inl ?_, ?_⟩
    · have := depth_bnds (bnds (g.take (1 + n13)))
      show PyData.depthAll ((bnds (g.take (1 + n13))).map tupS) + 1 ≤ 60
      omega
    rw [eqv_self (dpL h16 d16)]
    refine ⟨_, rfl, iteT ?_⟩
    refine ⟨_, rfl, _, rfl, rfl, rfl, fw, g.take (1 + n13), .ref st, rfl, sm_t (e15.trans e16) h14, by omega, .inl ⟨g.map .str, .tup (sqT (e16 _ _ (e15 _ _ st14))) (dp_strs g), by rw [depth_strs]; decide, fun H17 e17 => ?_⟩⟩
    refine ⟨_, rfl, _, rfl, _, _, .tup (sm_t ((e15.trans e16).trans e17) h14) (dp_strs _), .tup (sqT (e17 _ _ (e16 _ _ (e15 _ _ st14)))) (dp_strs g), .inl ?_, ?_⟩
    · show PyData.depthAll _ + 1 ≤ 60
      rw [depth_strs]; decide
    have ee : PyData.eqv (.tuple ((g.take (1 + n13)).map .str)) (.tuple (g.map .str)) = decide (g.take (1 + n13) = g) := by rw [PyData.eqv, eqv_strs]
    rw [isB_take, ee]
    refine ⟨(by cases decide (g.take (1 + n13) = g) <;> rfl), ?_⟩
    have ed : decide (V.bl (decide (g.take (1 + n13) = g)) = V.bl (decide (g.take (1 + n13) = g))) = true := by simp
    rw [ed]
    exact k _
end
end B
namespace B
open PySem L2
theorem all_mk {P : Program} {w : World} {K : PySem.W.Frag} {h : Heap} {mg : Str → Option Value} {fa : Addr} {C_1 i_1 C_2 i_2 C_4 i_4 f_valid_name f_goods_of f_bundle_rank f_all_bundles f_is_bundle f_l_start f_l_draw f_l_names f_l_bundles f_l_any f_l_is_bundle f_law : Addr} {Bc : Addr} {mc : Value} (X : K.In h) (G : h.Ns mainGlobals mg) (hfa : mg "law" = some (.ref fa)) (T : Bt mg)
    (Be : Bce K mg Bc mc)
    (m_BadName : Dm K mg "BadName" "BadName.__init__" C_1 "name" s_BadName___init__ i_1)
    (m_DuplicateName : Dm K mg "DuplicateName" "DuplicateName.__init__" C_2 "name" s_DuplicateName___init__ i_2)
    (m_BadCount : Dm K mg "BadCount" "BadCount.__init__" C_4 "count" s_BadCount___init__ i_4)
    (C_LETTERS : ∃ t, mg "LETTERS" = some (.str "abcdefghijklmnopqrstuvwxyz" t))
    (C_DIGITS : ∃ t, mg "DIGITS" = some (.str "0123456789" t))
    (C_LONGEST : ∃ t, mg "LONGEST" = some (.int 6 t))
    (d_valid_name : Dt K "valid_name" s_valid_name f_valid_name)
    (C_MOST_GOODS : ∃ t, mg "MOST_GOODS" = some (.int 5 t))
    (d_goods_of : Dt K "goods_of" s_goods_of f_goods_of)
    (d_bundle_rank : Dt K "bundle_rank" s_bundle_rank f_bundle_rank)
    (d_all_bundles : Dt K "all_bundles" s_all_bundles f_all_bundles)
    (d_is_bundle : Dt K "is_bundle" s_is_bundle f_is_bundle)
    (d_l_start : Dt K "_law_start" s_l_start f_l_start)
    (d_l_draw : Dt K "_law_draw" s_l_draw f_l_draw)
    (d_l_names : Dt K "_law_names" s_l_names f_l_names)
    (d_l_bundles : Dt K "_law_bundles" s_l_bundles f_l_bundles)
    (d_l_any : Dt K "_law_any" s_l_any f_l_any)
    (d_l_is_bundle : Dt K "_law_is_bundle" s_l_is_bundle f_l_is_bundle)
    (d_law : Dt K "law" s_law f_law)
    (er : erB K (fun i => if i = 1 then C_1 else if i = 2 then C_2 else if i = 4 then C_4 else 0) [1, 2, 4] = true)
    (ek : ([1, 2, 4]).all (fun i => decide (PySem.W.kitOne K (.ref ((fun i => if i = 1 then C_1 else if i = 2 then C_2 else if i = 4 then C_4 else 0) i)) (.ref Bc) = some true)) = true)
    : ∃ fd : FuncData, (∀ (s : Shared) (v : Value), BindsTo s fd ⟨[v], []⟩ [("_law_script", v)]) ∧ ∀ base : Heap, K.In base → base.Ns mainGlobals mg → FnOk P w K mg base CX0 6 fa fd ["_law_script"] (spLaw K) := by
  obtain ⟨ec, hec⟩ : ∃ ec : Nat → Addr, ec = (fun i => if i = 1 then C_1 else if i = 2 then C_2 else if i = 4 then C_4 else 0) := ⟨_, rfl⟩
  have e_1 : C_1 = ec 1 := by rw [hec]; rfl
  have e_2 : C_2 = ec 2 := by rw [hec]; rfl
  have e_4 : C_4 = ec 4 := by rw [hec]; rfl
  rw [← hec] at er ek
  subst e_1
  subst e_2
  subst e_4
  have R := erB_ok er
  have kB : ∀ i ∈ ([1, 2, 4] : List Nat), PySem.W.kitOne K (.ref (ec i)) (.ref Bc) = some true := fun i hi => of_decide_eq_true (List.all_eq_true.mp ek i hi)
  have e := hfa.symm.trans (PySem.W.mg_of X G d_law.a)
  cases e
  obtain ⟨fd, F, kV, doc, pm, an, cdv, ct, e⟩ := d_law.fun
  subst e
  refine ⟨PySem.W.fnOf "law" "law" (defArgs s_law) (defBody s_law) (defScope s_law) .none kV doc pm an cdv ct, fun s v => .of_eq rfl, fun base _ _ => ?_⟩
  have X1 : ExcD P w K mg base 1 "BadName" (ec 1) "name" := exd_mk m_BadName (R.ok 1 (by decide)) (fun fd F => ok_BadName___init__ F Be.r Be.i Be.g) fun _ _ _ _ _ _ us hl => match us, hl with | [_, _], _ => rfl
  have X2 : ExcD P w K mg base 1 "DuplicateName" (ec 2) "name" := exd_mk m_DuplicateName (R.ok 2 (by decide)) (fun fd F => ok_DuplicateName___init__ F Be.r Be.i Be.g) fun _ _ _ _ _ _ us hl => match us, hl with | [_, _], _ => rfl
  have X4 : ExcD P w K mg base 1 "BadCount" (ec 4) "count" := exd_mk m_BadCount (R.ok 4 (by decide)) (fun fd F => ok_BadCount___init__ F Be.r Be.i Be.g) fun _ _ _ _ _ _ us hl => match us, hl with | [_, _], _ => rfl
  have Dv : Df P w K mg base CX0 1 "valid_name" ["text"] spVN := df_mk d_valid_name (PySem.W.mg_of X G d_valid_name.a) (fun fd F => ok_valid_name F T C_LETTERS C_DIGITS C_LONGEST) fun _ _ _ _ _ _ us hl => match us, hl with | [_], _ => rfl
  have Dg : Df P w K mg base (L2.CX P w) 4 "goods_of" ["names"] (spGoods K ec) := df_mk d_goods_of (PySem.W.mg_of X G d_goods_of.a) (fun fd F => ok_goods_of F T C_MOST_GOODS Dv X1 X2 X4) fun _ _ _ _ _ _ us hl => match us, hl with | [_], _ => rfl
  have Dd : Df P w K mg base CX0 1 "_law_draw" ["_law_state", "_law_size"] spDraw := df_mk d_l_draw (PySem.W.mg_of X G d_l_draw.a) (fun fd F => ok_draw F T) fun _ _ _ _ _ _ us hl => match us, hl with | [_, _], _ => rfl
  have Ds : Df P w K mg base CX0 1 "_law_start" ["_law_script"] (spStart K) := df_mk d_l_start (PySem.W.mg_of X G d_l_start.a) (fun fd F => ok_start F T) fun _ _ _ _ _ _ us hl => match us, hl with | [_], _ => rfl
  have Dn : Df P w K mg base CX0 2 "_law_names" ["_law_state", "_law_count"] spNames := df_mk d_l_names (PySem.W.mg_of X G d_l_names.a) (fun fd F => ok_l_names F T Dd) fun _ _ _ _ _ _ us hl => match us, hl with | [_, _], _ => rfl
  have Dlb : Df P w K mg base CX0 2 "_law_bundles" ["_law_stock"] (spBunds K) := df_mk d_l_bundles (PySem.W.mg_of X G d_l_bundles.a) (fun fd F => ok_l_bundles F T) fun _ _ _ _ _ _ us hl => match us, hl with | [_], _ => rfl
  obtain ⟨fdr, Fr, _⟩ := d_bundle_rank.fun
  have Gb : ∀ fd, Fun K "all_bundles" "all_bundles" s_all_bundles f_all_bundles fd → FnOk P w K mg base CX0 4 f_all_bundles fd ["goods"] (spBunds K) := fun fd F => ok_all_bundles F T Fr (PySem.W.mg_of X G d_bundle_rank.a)
  have Dab : Df P w K mg base CX0 4 "all_bundles" ["goods"] (spBunds K) := df_mk d_all_bundles (PySem.W.mg_of X G d_all_bundles.a) Gb fun _ _ _ _ _ _ us hl => match us, hl with | [_], _ => rfl
  have Dabk : DfK P w K mg base CX0 4 "all_bundles" ["goods"] 0 ["goods"] (fun _ ws => ws) (fun _ zs => zs) (spBunds K) := dfk_mk d_all_bundles (PySem.W.mg_of X G d_all_bundles.a) Gb fun _ _ _ _ _ _ => ⟨fun s us ws _ h1 h2 => match us, h1, ws, h2 with | [], _, [_], _ => .of_eq rfl, fun _ r => r⟩
  have Dib : Df P w K mg base CX0 1 "is_bundle" ["goods", "value"] (spIsB K) := df_mk d_is_bundle (PySem.W.mg_of X G d_is_bundle.a) (fun fd F => ok_is_bundle F T) fun _ _ _ _ _ _ us hl => match us, hl with | [_, _], _ => rfl
  have Dibk : DfK P w K mg base CX0 1 "is_bundle" ["goods", "value"] 0 ["value", "goods"] (fun _ ws => ws.reverse) (fun _ zs => zs.reverse) (spIsB K) := dfk_mk d_is_bundle (PySem.W.mg_of X G d_is_bundle.a) (fun fd F => ok_is_bundle F T) fun _ _ _ _ _ _ => ⟨fun s us ws _ h1 h2 => match us, h1, ws, h2 with | [], _, [_, _], _ => .of_eq rfl, fun _ r => vals_rev r⟩
  have Dan : Df P w K mg base CX0 2 "_law_any" ["_law_state", "_law_stock"] (spAny K) := df_mk d_l_any (PySem.W.mg_of X G d_l_any.a) (fun fd F => ok_l_any F T Dd) fun _ _ _ _ _ _ us hl => match us, hl with | [_, _], _ => rfl
  have Dlib : Df P w K mg base CX0 1 "_law_is_bundle" ["_law_stock", "_law_thing"] (spIsB K) := df_mk d_l_is_bundle (PySem.W.mg_of X G d_l_is_bundle.a) (fun fd F => ok_l_is_bundle F T) fun _ _ _ _ _ _ us hl => match us, hl with | [_, _], _ => rfl
  exact ok_law F T Ds Dd Dn Dg Dlb Dab Dabk Dib Dibk Dan Dlib
end B
open PySem PySem.W PyProof.Rows
set_option maxRecDepth 100000 in
set_option maxHeartbeats 0 in
theorem PySem.Challenge.cw_bundlekinds_k11_bundles_holds : PySem.Challenge.rw_bundlekinds_k11_bundles.Holds := by
  w_on; o_law; k_head; (case hw => w_witness2)
  k_fill
  refine B.walk (k := 6) (l := PySem.Challenge.rw_bundlekinds_k11_bundles) ⟨rfl, by decide, by decide⟩ rfl rfl (fun w h Y => PySem.W.kIn_of Y) ?F
  case F =>
    intro w mg fa h KX G hmg
    have T : B.Bt mg := by
      constructor
      all_goals (refine mg_none_of KX G ?_; k_is)
    refine' B.all_mk KX G hmg T (B.bce_mk KX G ?p1 ?q1 ?r1 ?s1 ?t1) (B.dm_mk KX G ?u2 ?v2 ?w2 ?x2 ?y2 ?z2 ?o2) (B.dm_mk KX G ?u3 ?v3 ?w3 ?x3 ?y3 ?z3 ?o3) (B.dm_mk KX G ?u4 ?v4 ?w4 ?x4 ?y4 ?z4 ?o4) (B.cst_mkS KX G ?c5) (B.cst_mkS KX G ?c6) (B.cst_mkI KX G ?c7) (B.dt_mk ?a8 ?l8 ?b8 ?k8) (B.cst_mkI KX G ?c9) (B.dt_mk ?a10 ?l10 ?b10 ?k10) (B.dt_mk ?a11 ?l11 ?b11 ?k11) (B.dt_mk ?a12 ?l12 ?b12 ?k12) (B.dt_mk ?a13 ?l13 ?b13 ?k13) (B.dt_mk ?a14 ?l14 ?b14 ?k14) (B.dt_mk ?a15 ?l15 ?b15 ?k15) (B.dt_mk ?a16 ?l16 ?b16 ?k16) (B.dt_mk ?a17 ?l17 ?b17 ?k17) (B.dt_mk ?a18 ?l18 ?b18 ?k18) (B.dt_mk ?a19 ?l19 ?b19 ?k19) (B.dt_mk ?a20 ?l20 ?b20 ?k20) ?er ?ek
    (case p1 => k_is); (case q1 => k_is); (case r1 => k_is); (case s1 => k_is); (case t1 => k_is); (case u2 => k_is)
    (case v2 => k_is); (case w2 => k_is); (case x2 => k_is); (case y2 => k_is); (case z2 => k_is); (case o2 => k_is)
    (case u3 => k_is); (case v3 => k_is); (case w3 => k_is); (case x3 => k_is); (case y3 => k_is); (case z3 => k_is)
    (case o3 => k_is); (case u4 => k_is); (case v4 => k_is); (case w4 => k_is); (case x4 => k_is); (case y4 => k_is)
    (case z4 => k_is); (case o4 => k_is); (case c5 => k_is); (case c6 => k_is); (case c7 => k_is); (case a8 => k_is)
    (case l8 => k_is); (case b8 => k_is); (case k8 => k_is); (case c9 => k_is); (case a10 => k_is); (case l10 => k_is)
    (case b10 => k_is); (case k10 => k_is); (case a11 => k_is); (case l11 => k_is); (case b11 => k_is); (case k11 => k_is)
    (case a12 => k_is); (case l12 => k_is); (case b12 => k_is); (case k12 => k_is); (case a13 => k_is); (case l13 => k_is)
    (case b13 => k_is); (case k13 => k_is); (case a14 => k_is); (case l14 => k_is); (case b14 => k_is); (case k14 => k_is)
    (case a15 => k_is); (case l15 => k_is); (case b15 => k_is); (case k15 => k_is); (case a16 => k_is); (case l16 => k_is)
    (case b16 => k_is); (case k16 => k_is); (case a17 => k_is); (case l17 => k_is); (case b17 => k_is); (case k17 => k_is)
    (case a18 => k_is); (case l18 => k_is); (case b18 => k_is); (case k18 => k_is); (case a19 => k_is); (case l19 => k_is)
    (case b19 => k_is); (case k19 => k_is); (case a20 => k_is); (case l20 => k_is); (case b20 => k_is); (case k20 => k_is)
    (case er => kernel_rfl); (case ek => kernel_rfl)
#print axioms PySem.Challenge.cw_bundlekinds_k11_bundles_holds
