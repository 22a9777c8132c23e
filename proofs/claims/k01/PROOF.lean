import PyProof.Rows.All
import Wide.All
import OpenK.AllK
import Wide.FinOn
import HandS.ForMost
import HandS.Wide
import HandS.Evl
import HandS.Exc
import HandS.TryMany
import HandS.ExcInit
import HandS.ExcField
import HandS.ExcIs
import HandS.IsInst
import HandS.Style
import HandS.TupAny
import HandS.TupLe
import HandS.Flow
import HandS.Defaults
import KE.DataEq
import KE.LtData
import PySem.Challenge.RW_bundlekinds_k01_valid_names
set_option Elab.async false
set_option linter.all false
set_option maxRecDepth 100000
set_option maxHeartbeats 4000000
namespace B
open PySem L2
open PySem.Spec PyProof.Rows
/-! B0: readings that are the run itself (WE, WT, WA, WS, WB), so that a body is read from the left, statement by statement -/
section
variable {X : Cx} {e : Expr} {es : List Expr} {s : Stmt} {ss : List Stmt} {σ : L2.St} {H : Hp} {D D' : Ends}
def WE (X : Cx) (e : Expr) : TE := fun σ H Q => ∀ (pins : List (Addr × Obj)) (s : Shared), Inv X pins σ H s → wpAny (model X.prog X.w) X.A (eval e X.env) (EP X pins σ Q) X.xe s
def WT (X : Cx) (e : Expr) : TT := fun σ H Q => ∀ (pins : List (Addr × Obj)) (s : Shared), Inv X pins σ H s → wpAny (model X.prog X.w) X.A (isTrue e X.env (eval e X.env)) (TP X pins σ Q) X.xe s
def WA (X : Cx) (es : List Expr) : TA := fun σ H Q => ∀ (pos : Pos) (pins : List (Addr × Obj)) (s : Shared), Inv X pins σ H s → wpAny (model X.prog X.w) X.A (spliced (backTo pos (starEach es X.env))) (AP X pins σ Q) X.xe s
def WS (X : Cx) (st : Stmt) : TS := fun D σ H => ∀ (pins : List (Addr × Obj)) (s : Shared), Inv X pins σ H s → wpAny (model X.prog X.w) X.A (exec st X.env) (SP X pins D) X.xe s
def WB (X : Cx) (ss : List Stmt) : TS := fun D σ H => ∀ (pins : List (Addr × Obj)) (s : Shared), Inv X pins σ H s → wpAny (model X.prog X.w) X.A (execs ss X.env) (SP X pins D) X.xe s
theorem we : PE X e (WE X e) := ⟨fun pins s _ _ _ I h => h pins s I⟩
theorem wt : PT X e (WT X e) := ⟨fun pins s _ _ _ I h => h pins s I⟩
theorem wa : PA X es (WA X es) := ⟨fun pos pins s _ _ _ I h => h pos pins s I⟩
theorem ws : PS X s (WS X s) := ⟨fun pins s _ _ _ I h => h pins s I⟩
theorem wb : PSs X ss (WB X ss) := ⟨fun pins s _ _ _ I h => h pins s I⟩
theorem WE.of {t : TE} {Q : VK} (p : PE X e t) (h : t σ H Q) : WE X e σ H Q := fun pins s I => p.run pins s σ H Q I h
theorem WT.of {t : TT} {Q : Bool → Hp → Prop} (p : PT X e t) (h : t σ H Q) : WT X e σ H Q := fun pins s I => p.run pins s σ H Q I h
theorem WA.of {t : TA} {Q : List V → Hp → Prop} (p : PA X es t) (h : t σ H Q) : WA X es σ H Q := fun pos pins s I => p.run pos pins s σ H Q I h
theorem WS.of {t : TS} (p : PS X s t) (h : t D σ H) : WS X s D σ H := fun pins s' I => p.run pins s' σ H D I h
theorem WB.of {t : TS} (p : PSs X ss t) (h : t D σ H) : WB X ss D σ H := fun pins s' I => p.run pins s' σ H D I h
theorem WE.mono {Q Q' : VK} (h : WE X e σ H Q) (k : ∀ v H', Q v H' → Q' v H') : WE X e σ H Q' := fun pins s I =>
  thn (h pins s I) fun _ _ ⟨v, H', I', r, q⟩ => ⟨v, H', I', r, k v H' q⟩
theorem WT.mono {Q Q' : Bool → Hp → Prop} (h : WT X e σ H Q) (k : ∀ v H', Q v H' → Q' v H') : WT X e σ H Q' := fun pins s I =>
  thn (h pins s I) fun b _ ⟨H', I', q⟩ => ⟨H', I', k b H' q⟩
theorem WB.mono (h : WB X ss D σ H) (hn : ∀ σ' H', D.nx σ' H' → D'.nx σ' H') (hr : ∀ v H', D.rt v H' → D'.rt v H') (hb : ∀ σ' H', D.bk σ' H' → D'.bk σ' H') (hc : ∀ σ' H', D.ct σ' H' → D'.ct σ' H') : WB X ss D' σ H := fun pins s I =>
  thn (h pins s I) fun f s' q => by
    cases f with
    | next => obtain ⟨σ', H', I', q⟩ := q; exact ⟨σ', H', I', hn _ _ q⟩
    | brk => obtain ⟨σ', H', I', q⟩ := q; exact ⟨σ', H', I', hb _ _ q⟩
    | cont => obtain ⟨σ', H', I', q⟩ := q; exact ⟨σ', H', I', hc _ _ q⟩
    | ret v => obtain ⟨v, σ', H', I', r, q⟩ := q; exact ⟨v, σ', H', I', r, hr _ _ q⟩
/-- the next statement -/
theorem nxt {t : TS} (p : PS X s t) (h : t { D with nx := WB X ss D } σ H) : WB X (s :: ss) D σ H := WB.of (pss_cons p wb) h
theorem last {t : TS} (p : PS X s t) (h : t D σ H) : WB X [s] D σ H := WB.of (pss_one p) h
theorem fin (h : D.nx σ H) : WB X [] D σ H := WB.of pss_nil h
/-- a module's constant -/
theorem pgI {x : Str} {i : Int} {pos : Pos} (h : ∃ t, X.mg x = some (.int i t)) (hg : Gl X x := by rfl) (hd : (x == ("__debug__" : Str)) = false := by decide) : PE X (.Name x pos) (tC (.int i)) := by
  obtain ⟨t, h⟩ := h
  exact pe_glob hg h ⟨_, rfl⟩ hd
theorem pgS {x z : Str} {pos : Pos} (h : ∃ t, X.mg x = some (.str z t)) (hg : Gl X x := by rfl) (hd : (x == ("__debug__" : Str)) = false := by decide) : PE X (.Name x pos) (tC (.str z)) := by
  obtain ⟨t, h⟩ := h
  exact pe_glob hg h ⟨_, rfl⟩ hd
/-- the next statement, what is behind it by a letter -/
theorem nxtN {t : TS} (p : PS X s t) (h : ∀ N : L2.St → Hp → Prop, (∀ σ' H', WB X ss D σ' H' → N σ' H') → t { D with nx := N } σ H) : WB X (s :: ss) D σ H := nxt p (h _ fun _ _ q => q)
/-- .. by what holds between -/
theorem nxtC {t : TS} (p : PS X s t) (M : L2.St → Hp → Prop) (h : t { D with nx := M } σ H) (k : ∀ σ' H', M σ' H' → WB X ss D σ' H') : WB X (s :: ss) D σ H := WB.of (Evl.pss_cut p wb) ⟨M, h, k⟩
/-! ### o[i] of a list, for o[i] += e -/
def rGetL (K : PySem.W.Frag) : V → V → Hp → VK → Prop := fun o i H Q => ∃ (p : Addr) (xs : List V) (j : Nat) (v : V), o = .ref p ∧ i = .int (j : Int) ∧ SqL K H p xs ∧ xs[j]? = some v ∧ Q v H
theorem get_list : PGet X (rGetL X.K) := by
  intro pins s σ H o i ov iv Q I ro ri h
  obtain ⟨p, xs, j, v, rfl, rfl, hq, he, q⟩ := h
  cases ro
  obtain ⟨t, rfl⟩ := ri
  obtain ⟨its, r, pl, hz⟩ := I.list hq
  obtain ⟨w, ew, rw'⟩ := r.get he
  have hl := r.length
  have hn := line63
  have hj : j < xs.length := (List.getElem?_eq_some_iff.mp he).1
  exact wpAny_getItem_list pl.isList (by omega) (by omega) (by simpa using ew) ⟨v, H, I, rw', q⟩
/-! ### a text from behind -/
def revS (z : Str) : Str := ⟨z.cps.toList.reverse.toArray⟩
def tRevS (te : TE) : TE := fun σ H Q => te σ H fun x H1 => ∃ z : Str, x = .str z ∧ z.length ≤ sizeLine ∧ Q (.str (revS z)) H1
theorem rev_at (z : Str) : ((Builtin.Str.strSliceIndices none none (-1) z.length).filterMap (z.cps[·]?)) = z.cps.toList.reverse := by
  have e : Builtin.Str.strSliceIndices none none (-1) z.length = sliceRange ((z.length : Int) - 1) (-1) (-1) := by
    unfold Builtin.Str.strSliceIndices
    rfl
  rw [e, PySem.W.krv_sliceRange, PySem.W.krv_range, List.filterMap_reverse]
  congr 1
  show (List.range z.cps.size).filterMap (z.cps[·]?) = _
  exact PySem.W.krv_all _
theorem pe_revS {e : Expr} {te : TE} {k : Nat} {p1 p2 p3 pos : Pos} (he : PE X e te) : PE X (.Subscript e (.Slice none none (some (.UnaryOp .USub (.Constant (.int 1) k p1) p2)) p3) pos) (tRevS te) := by
  refine ⟨fun pins s σ H Q I h => ?_⟩
  refine Subscript_ (thn (he.run pins s σ H _ I h) fun v s1 ⟨x, H1, I1, r1, q1⟩ => ?_)
  obtain ⟨z, ex, hz, q⟩ := q1
  subst ex
  obtain ⟨t, rfl⟩ := r1
  have hst : PO X (some (.UnaryOp .USub (.Constant (.int 1) k p1) p2)) (tPart (tUn (rU fun i => .int (-i)) (tC (.int 1)))) := po_some (pe_un un_neg pe_int)
  refine wpAny_Slice (thn (po_none.run pins s1 σ H1 (fun o H2 => o = none ∧ H2 = H1) I1 ⟨rfl, rfl⟩) fun vl s2 ⟨l, H2, I2, pl, el, e2⟩ => ?_)
  subst el e2
  refine thn (po_none.run pins s2 σ H2 (fun o H3 => o = none ∧ H3 = H2) I2 ⟨rfl, rfl⟩) fun vu s3 ⟨u, H3, I3, pu, eu, e3⟩ => ?_
  subst eu e3
  refine thn (hst.run pins s3 σ H3 (fun o H4 => o = some (-1) ∧ H4 = H3) I3 ⟨1, rfl, -1, rfl, rfl, rfl⟩) fun vs s4 ⟨o, H4, I4, ps, eo, e4⟩ => ?_
  subst eo e4
  have I5 : Inv X pins σ H4 { s4 with heap := s4.heap.push { cls := .type "slice", data := .fields #[vl, vu, vs] } } := I4.kept (t' := s4.toks) fun b ob q => Heap.get?_push_of_some _ q
  obtain ⟨l1, rfl, hl1⟩ := IsPart.raw pl
  obtain ⟨u1, rfl, hu1⟩ := IsPart.raw pu
  obtain ⟨k1, rfl, hk1⟩ := IsPart.raw ps
  show wpAny (model X.prog X.w) X.A (subscriptTail e (.Slice none none (some (.UnaryOp .USub (.Constant (.int 1) k p1) p2)) p3) (.str z t) (.ref s4.heap.objs.size)) (EP X pins σ Q) X.xe { s4 with heap := s4.heap.push { cls := .type "slice", data := .fields #[partValue l1, partValue u1, partValue k1] } }
  refine tail_any (ops := [.str z t, .ref s4.heap.objs.size]) (typeIs_str _ _ _) (F.slot_str_getitem.lookup) ?_ (by with_unfolding_all rfl)
  have hk2 : (k1.map (·.1)).getD 1 = -1 := by rw [hk1]; rfl
  refine wpAny_getItem_str_slice (l := l1) (u := u1) (st := k1) ⟨_, Heap.get?_push_size _ rfl, rfl, rfl⟩ (by rw [hk2]; rfl) ?_
  unfold sliceMade
  rw [hk2, if_neg (by intro h; simp at h)]
  have e : (slicePicked z l1 u1 k1).filterMap (z.cps[·]?) = z.cps.toList.reverse := by
    unfold slicePicked
    rw [hk2, hl1, hu1]
    exact rev_at z
  rw [e]
  have hl : (⟨z.cps.toList.reverse.toArray⟩ : Str).length ≤ sizeLine := by
    have : (⟨z.cps.toList.reverse.toArray⟩ : Str).length = z.length := by simp [Str.length]
    rw [this]; exact hz
  exact ⟨hl, .str _, H4, I5.tok _, ⟨_, rfl⟩, q⟩
end
/-! ### a def of the text, with its promise -/
structure Df (P : Program) (w : World) (K : PySem.W.Frag) (mg : Str → Option Value) (base : Heap) (CX : CXT) (k : Nat) (x : Str) (ps : List Str) (sp : Sp) : Prop where
  ex : ∃ (f : Addr) (fd : FuncData), mg x = some (.ref f) ∧ PySem.W.keepIn K (.ref f) = true ∧ Binds K fd ps [] ∧ FnOk P w K mg base CX k f fd ps sp
section
variable {X : Cx} {CX : CXT} {k : Nat} {x : Str} {ps : List Str} {sp : Sp} {E : XK} {e : Expr} {es : List Expr} {t tk : TA} {p pos : Pos} {kws : List Keyword}
theorem pcx (F : Df X.prog X.w X.K X.mg X.base CX k x ps sp) (hr : Room k X.A) (hx : Passes CX X E) (ha : PA X (e :: es) t) (hg : Gl X x := by rfl) (hdb : (x == ("__debug__" : Str)) = false := by decide) (he : starEach (e :: es) X.env = (false, eval e X.env) :: starEach es X.env := by rfl) (hpl : (backTo pos (starEach es X.env)).any (·.1) = false := by rfl) :
    PE X (.Call (.Name x p) (e :: es) [] pos) (tCall sp [] E t) := by
  obtain ⟨f, fd, h1, h2, h3, h4⟩ := F.ex
  exact pe_call h4 hr hg h1 h2 h3 .nil hx ha hdb he hpl
theorem pc (F : Df X.prog X.w X.K X.mg X.base CX0 k x ps sp) (hr : Room k X.A) (ha : PA X (e :: es) t) (hg : Gl X x := by rfl) (hdb : (x == ("__debug__" : Str)) = false := by decide) (he : starEach (e :: es) X.env = (false, eval e X.env) :: starEach es X.env := by rfl) (hpl : (backTo pos (starEach es X.env)).any (·.1) = false := by rfl) :
    PE X (.Call (.Name x p) (e :: es) [] pos) (tCall sp [] E0 t) := pcx F hr pass0 ha hg hdb he hpl
theorem pc0 (F : Df X.prog X.w X.K X.mg X.base CX0 k x ps sp) (hr : Room k X.A) (hg : Gl X x := by rfl) (hdb : (x == ("__debug__" : Str)) = false := by decide) : PE X (.Call (.Name x p) [] [] pos) (tCall sp [] E0 tNil) := by
  obtain ⟨f, fd, h1, h2, h3, h4⟩ := F.ex
  exact pe_call0 h4 hr hg h1 h2 h3 .nil pass0 hdb
end
/-- a def with how keywords bind to it: n values by place, then the keywords ks -/
structure DfK (P : Program) (w : World) (K : PySem.W.Frag) (mg : Str → Option Value) (base : Heap) (CX : CXT) (k : Nat) (x : Str) (ps : List Str) (n : Nat) (ks : List Str) (g : List Value → List Value → List Value) (gV : List V → List V → List V) (sp : Sp) : Prop where
  ex : ∃ (f : Addr) (fd : FuncData), mg x = some (.ref f) ∧ PySem.W.keepIn K (.ref f) = true ∧ KBn K fd ps n ks g gV ∧ FnOk P w K mg base CX k f fd ps sp
section
variable {X : Cx} {CX : CXT} {k n : Nat} {x : Str} {ps ks : List Str} {sp : Sp} {E : XK} {e : Expr} {es : List Expr} {t tk : TA} {p pos : Pos} {kws : List Keyword} {g : List Value → List Value → List Value} {gV : List V → List V → List V}
theorem pcxK (F : DfK X.prog X.w X.K X.mg X.base CX k x ps n ks g gV sp) (hr : Room k X.A) (hx : Passes CX X E) (ha : PA X (e :: es) t) (hkw : PK X kws tk) (hg : Gl X x := by rfl) (hall : (backToKw pos (keywordEach kws X.env)).all (·.1.isSome) = true := by rfl) (hks : (backToKw pos (keywordEach kws X.env)).filterMap (·.1) = ks := by rfl)
    (hdb : (x == ("__debug__" : Str)) = false := by decide) (he : starEach (e :: es) X.env = (false, eval e X.env) :: starEach es X.env := by rfl)
    (hpl : ((backTo pos (starEach (e :: es) X.env)).any (·.1) || (backToKw pos (keywordEach kws X.env)).any (·.1.isNone)) = false := by rfl) : PE X (.Call (.Name x p) (e :: es) kws pos) (tCallN n ks.length sp gV E t tk) := by
  obtain ⟨f, fd, h1, h2, h3, h4⟩ := F.ex
  exact pe_callN h4 hr hg h1 h2 h3 hx ha hkw hall hks hdb he hpl
theorem pcxK0 (F : DfK X.prog X.w X.K X.mg X.base CX k x ps 0 ks g gV sp) (hr : Room k X.A) (hx : Passes CX X E) (hkw : PK X kws tk) (hg : Gl X x := by rfl) (hall : (backToKw pos (keywordEach kws X.env)).all (·.1.isSome) = true := by rfl) (hks : (backToKw pos (keywordEach kws X.env)).filterMap (·.1) = ks := by rfl)
    (hdb : (x == ("__debug__" : Str)) = false := by decide) (hpl : ((backTo pos (starEach [] X.env)).any (·.1) || (backToKw pos (keywordEach kws X.env)).any (·.1.isNone)) = false := by rfl) : PE X (.Call (.Name x p) [] kws pos) (tCallN 0 ks.length sp gV E tNil tk) := by
  obtain ⟨f, fd, h1, h2, h3, h4⟩ := F.ex
  refine ⟨fun pins s σ H Q I h => ?_⟩
  refine wpAny_Call_Name_kw (ld_glob I hg h1 ?_ hdb)
  refine PySem.W.callWith_KW0 (h₀ := X.base) I.ok.mod.kin h2 hall ?_ hpl
  refine thn (hkw.run pos pins s σ H _ I h) fun ws s2 ⟨zs, H2, I2, rz, l1, l2, q2⟩ => ⟨I2.kIn, ?_⟩
  rw [hks]
  exact run_fnN (us := []) (vs := []) h4 hr h3 hx I2 .nil rz rfl l2 q2
theorem pcK (F : DfK X.prog X.w X.K X.mg X.base CX0 k x ps n ks g gV sp) (hr : Room k X.A) (ha : PA X (e :: es) t) (hkw : PK X kws tk) (hg : Gl X x := by rfl) (hall : (backToKw pos (keywordEach kws X.env)).all (·.1.isSome) = true := by rfl) (hks : (backToKw pos (keywordEach kws X.env)).filterMap (·.1) = ks := by rfl)
    (hdb : (x == ("__debug__" : Str)) = false := by decide) (he : starEach (e :: es) X.env = (false, eval e X.env) :: starEach es X.env := by rfl)
    (hpl : ((backTo pos (starEach (e :: es) X.env)).any (·.1) || (backToKw pos (keywordEach kws X.env)).any (·.1.isNone)) = false := by rfl) : PE X (.Call (.Name x p) (e :: es) kws pos) (tCallN n ks.length sp gV E0 t tk) := pcxK F hr pass0 ha hkw hg hall hks hdb he hpl
theorem pcK0 (F : DfK X.prog X.w X.K X.mg X.base CX0 k x ps 0 ks g gV sp) (hr : Room k X.A) (hkw : PK X kws tk) (hg : Gl X x := by rfl) (hall : (backToKw pos (keywordEach kws X.env)).all (·.1.isSome) = true := by rfl) (hks : (backToKw pos (keywordEach kws X.env)).filterMap (·.1) = ks := by rfl)
    (hdb : (x == ("__debug__" : Str)) = false := by decide) (hpl : ((backTo pos (starEach [] X.env)).any (·.1) || (backToKw pos (keywordEach kws X.env)).any (·.1.isNone)) = false := by rfl) : PE X (.Call (.Name x p) [] kws pos) (tCallN 0 ks.length sp gV E0 tNil tk) := pcxK0 F hr pass0 hkw hg hall hks hdb hpl
end
/-! ### built-ins that the text leaves alone -/
structure Bt (mg : Str → Option Value) : Prop where
  len : mg "len" = none
  abs : mg "abs" = none
  int : mg "int" = none
  str : mg "str" = none
  bool : mg "bool" = none
  list : mg "list" = none
  tuple : mg "tuple" = none
  dict : mg "dict" = none
  range : mg "range" = none
  enumerate : mg "enumerate" = none
  zip : mg "zip" = none
  sorted : mg "sorted" = none
  sum : mg "sum" = none
  max : mg "max" = none
  min : mg "min" = none
  all : mg "all" = none
  isinstance : mg "isinstance" = none
end B
namespace B
open PySem L2
/-! B1: heaps that grow; the drawing state of a law -/
section
variable {H H' H2 : Hp} {p a b : Addr} {o u : HO} {K : PySem.W.Frag} {xs : List V}
theorem sm_new (h : H p = none) : Same H (upd H p o) := fun a u e => by
  rw [upd_ne (ne_of_none e h)]
  exact e
@[elab_as_elim] theorem upd_gen {motive : Hp → Prop} (np : H p = none) (h : ∀ H1, Same H H1 → H1 p = some o → motive H1) : motive (upd H p o) := h _ (sm_new np) upd_same
theorem sm_t (e : Same H H') (h : SqT K H a xs) : SqT K H' a xs := by
  rcases h with (h | ⟨o, h⟩) | h
  · exact .inl (.inl (e _ _ h))
  · exact .inl (.inr ⟨o, e _ _ h⟩)
  · exact .inr h
theorem sm_l (e : Same H H') (h : SqL K H a xs) : SqL K H' a xs := e.seq h
theorem sqL (h : H a = some (.lst xs)) : SqL K H a xs := Or.inl (Or.inl h)
theorem sqT (h : H a = some (.tup xs)) : SqT K H a xs := Or.inl (Or.inl h)
/-- the objects of the drawing state at p: the state itself and its lists -/
def Own (H : Hp) (p b : Addr) : Prop := b = p ∨ ∃ x y n, H p = some (.lst [x, y, n]) ∧ (x = .ref b ∨ y = .ref b)
structure Kp (p : Addr) (H H' : Hp) : Prop where
  keep : ∀ b o, H b = some o → ¬ Own H p b → H' b = some o
  own : ∀ b, Own H' p b → Own H p b ∨ H b = none
theorem Kp.refl (p : Addr) (H : Hp) : Kp p H H := ⟨fun _ _ h _ => h, fun _ h => .inl h⟩
theorem Kp.trans (x : Kp p H H') (y : Kp p H' H2) : Kp p H H2 := by
  refine ⟨fun b o h n => y.keep b o (x.keep b o h n) fun z => ?_, fun b z => ?_⟩
  · rcases x.own b z with w | w
    · exact n w
    · rw [h] at w; cases w
  · rcases y.own b z with w | w
    · exact x.own b w
    · cases q : H b with
      | none => exact .inr rfl
      | some u =>
        by_cases c : Own H p b
        · exact .inl c
        · rw [x.keep b u q c] at w; cases w
/-- an object that is none of the state's -/
def At (p : Addr) (H : Hp) (b : Addr) (o : HO) : Prop := H b = some o ∧ ¬ Own H p b
theorem At.kp (h : At p H b o) (k : Kp p H H') : At p H' b o := by
  refine ⟨k.keep b o h.1 h.2, fun z => ?_⟩
  rcases k.own b z with w | w
  · exact h.2 w
  · rw [h.1] at w; cases w
theorem own_same (e : H' p = H p) : Own H' p b ↔ Own H p b := by
  unfold Own
  rw [e]
/-- what grows keeps all -/
theorem Kp.same (e : Same H H') (hp : H p = some o) : Kp p H H' :=
  ⟨fun b o h _ => e b o h, fun b z => .inl ((own_same ((e _ _ hp).trans hp.symm)).mp z)⟩
/-- an object that H does not know, and that isn't the state, may change -/
theorem Kp.mut (k : Kp p H H') (h : H b = none) (n : b ≠ p) : Kp p H (upd H' b o) := by
  refine ⟨fun a u q z => ?_, fun a z => ?_⟩
  · rw [upd_ne (ne_of_none q h)]; exact k.keep a u q z
  · exact k.own a ((own_same (upd_ne (Ne.symm n))).mp z)
/-- .. stays apart from the state -/
theorem own_mut (n : b ≠ p) : Own (upd H b o) p a ↔ Own H p a := own_same (upd_ne (Ne.symm n))
end
end B
namespace B
open PySem L2
open PySem.Spec PyProof.Rows
/-! B2: data (PyData) that values stand for; ==, !=, in over them -/
mutual
theorem dp_plain {K : PySem.W.Frag} {H : Hp} : ∀ (d : PyData) (v : V), Dp K H v d → d.plain = true
  | .none, _, h => rfl
  | .bool _, _, h => rfl
  | .int _, _, h => rfl
  | .str _, _, h => rfl
  | .list ds, v, h => by
    cases h with
    | lst h1 h2 => exact dp_plainAll ds _ h2
  | .tuple ds, v, h => by
    cases h with
    | tup h1 h2 => exact dp_plainAll ds _ h2
  | .dict _, _, h => by cases h
theorem dp_plainAll {K : PySem.W.Frag} {H : Hp} : ∀ (ds : List PyData) (vs : List V), DpAll K H vs ds → PyData.plainAll ds = true
  | [], _, h => rfl
  | d :: ds, vs, h => by
    cases h with
    | cons h1 h2 => simp only [PyData.plainAll, dp_plain d _ h1, dp_plainAll ds _ h2, Bool.and_self]
end
mutual
theorem dp_same {K : PySem.W.Frag} {H H' : Hp} (e : Same H H') : ∀ (d : PyData) (v : V), Dp K H v d → Dp K H' v d
  | .none, _, h => by cases h; exact .non
  | .bool _, _, h => by cases h; exact .bl _
  | .int _, _, h => by cases h; exact .int _
  | .str _, _, h => by cases h; exact .str _
  | .list ds, v, h => by
    cases h with
    | lst h1 h2 => exact .lst (sm_l e h1) (dp_sameAll e ds _ h2)
  | .tuple ds, v, h => by
    cases h with
    | tup h1 h2 => exact .tup (sm_t e h1) (dp_sameAll e ds _ h2)
  | .dict _, _, h => by cases h
theorem dp_sameAll {K : PySem.W.Frag} {H H' : Hp} (e : Same H H') : ∀ (ds : List PyData) (vs : List V), DpAll K H vs ds → DpAll K H' vs ds
  | [], _, h => by cases h; exact .nil
  | d :: ds, vs, h => by
    cases h with
    | cons h1 h2 => exact .cons (dp_same e d _ h1) (dp_sameAll e ds _ h2)
end
section
variable {X : Cx} {K : PySem.W.Frag} {H H' : Hp}
theorem Dp.same {v : V} {d : PyData} (h : Dp K H v d) (e : Same H H') : Dp K H' v d := dp_same e d v h
theorem dp_ints : ∀ ns : List Int, DpAll K H (ns.map V.int) (ns.map PyData.int)
  | [] => .nil
  | n :: ns => .cons (.int n) (dp_ints ns)
theorem dp_strs : ∀ ns : List Str, DpAll K H (ns.map V.str) (ns.map PyData.str)
  | [] => .nil
  | n :: ns => .cons (.str n) (dp_strs ns)
theorem dpL {a : Addr} {xs : List V} {ds : List PyData} (h : H a = some (.lst xs)) (k : DpAll K H xs ds) : Dp K H (.ref a) (.list ds) := .lst (sqL h) k
theorem dpT {a : Addr} {xs : List V} {ds : List PyData} (h : H a = some (.tup xs)) (k : DpAll K H xs ds) : Dp K H (.ref a) (.tuple ds) := .tup (sqT h) k
def rEqP (K : PySem.W.Frag) : R2 := fun x y H Q => ∃ d e, Dp K H x d ∧ Dp K H y e ∧ (d.depth ≤ 60 ∨ e.depth ≤ 60) ∧ Q (.bl (PyData.eqv d e)) H
def rNeP (K : PySem.W.Frag) : R2 := fun x y H Q => ∃ d e, Dp K H x d ∧ Dp K H y e ∧ (d.depth ≤ 60 ∨ e.depth ≤ 60) ∧ Q (.bl (!PyData.eqv d e)) H
theorem op_eqP (hu : X.A.units + 64 < cLine) : OpR X (compareOp .Eq) (rEqP X.K) := by
  intro pins s σ H x y v u Q I rx ry h
  obtain ⟨d, e, hd, he, hz, q⟩ := h
  obtain ⟨as, r1⟩ := Dp.reads I d x v hd rx
  obtain ⟨bs, r2⟩ := Dp.reads I e y u he ry
  exact SeqAt.eq_plain r1 r2 (dp_plain _ _ hd) (dp_plain _ _ he) (by omega) ⟨.bl _, H, I, rfl, q⟩
theorem op_neP (hu : X.A.units + 64 < cLine) : OpR X (compareOp .NotEq) (rNeP X.K) := by
  intro pins s σ H x y v u Q I rx ry h
  obtain ⟨d, e, hd, he, hz, q⟩ := h
  obtain ⟨as, r1⟩ := Dp.reads I d x v hd rx
  obtain ⟨bs, r2⟩ := Dp.reads I e y u he ry
  exact SeqAt.ne_plain r1 r2 (dp_plain _ _ hd) (dp_plain _ _ he) (by omega) ⟨.bl _, H, I, rfl, q⟩
/-- x in a list, a tuple of data -/
def rInP (K : PySem.W.Frag) (neg : Bool) : R2 := fun x y H Q => ∃ d ds, Dp K H x d ∧ (Dp K H y (.list ds) ∨ Dp K H y (.tuple ds)) ∧ (d.depth ≤ 60 ∨ PyData.depthAll ds ≤ 60) ∧ Q (.bl (if neg then !(ds.any fun z => PyData.eqv z d) else ds.any fun z => PyData.eqv z d)) H
theorem op_inP (hu : X.A.units + 64 < cLine) : OpR X (compareOp .In) (rInP X.K false) := by
  intro pins s σ H x y v u Q I rx ry h
  obtain ⟨d, ds, hd, he, hz, q⟩ := h
  obtain ⟨as, r1⟩ := Dp.reads I d x v hd rx
  rcases he with he | he
  · obtain ⟨bs, r2⟩ := Dp.reads I _ y u he ry
    exact SeqAt.in_list_data r2 r1 (dp_plain _ _ he) (dp_plain _ _ hd) (by omega) ⟨.bl _, H, I, rfl, q⟩
  · obtain ⟨bs, r2⟩ := Dp.reads I _ y u he ry
    exact SeqAt.in_tuple_data r2 r1 (dp_plain _ _ he) (dp_plain _ _ hd) (by omega) ⟨.bl _, H, I, rfl, q⟩
theorem op_notInP (hu : X.A.units + 64 < cLine) : OpR X (compareOp .NotIn) (rInP X.K true) := by
  intro pins s σ H x y v u Q I rx ry h
  obtain ⟨d, ds, hd, he, hz, q⟩ := h
  obtain ⟨as, r1⟩ := Dp.reads I d x v hd rx
  rcases he with he | he
  · obtain ⟨bs, r2⟩ := Dp.reads I _ y u he ry
    exact SeqAt.notIn_list_data r2 r1 (dp_plain _ _ he) (dp_plain _ _ hd) (by omega) ⟨.bl _, H, I, rfl, q⟩
  · obtain ⟨bs, r2⟩ := Dp.reads I _ y u he ry
    exact SeqAt.notIn_tuple_data r2 r1 (dp_plain _ _ he) (dp_plain _ _ hd) (by omega) ⟨.bl _, H, I, rfl, q⟩
/-! ### what == says of lists of texts, of ints -/
theorem eqv_strs : ∀ xs ys : List Str, PyData.eqvAll (xs.map PyData.str) (ys.map PyData.str) = decide (xs = ys)
  | [], [] => by simp [PyData.eqvAll]
  | [], _ :: _ => by simp [PyData.eqvAll]
  | _ :: _, [] => by simp [PyData.eqvAll]
  | x :: xs, y :: ys => by
    have ih := eqv_strs xs ys
    simp only [List.map_cons, PyData.eqvAll, PyData.eqv, ih, List.cons.injEq]
    by_cases h : x = y
    · subst h; simp
    · simp [h]
theorem eqv_ints : ∀ xs ys : List Int, PyData.eqvAll (xs.map PyData.int) (ys.map PyData.int) = decide (xs = ys)
  | [], [] => by simp [PyData.eqvAll]
  | [], _ :: _ => by simp [PyData.eqvAll]
  | _ :: _, [] => by simp [PyData.eqvAll]
  | x :: xs, y :: ys => by
    have ih := eqv_ints xs ys
    simp only [List.map_cons, PyData.eqvAll, PyData.eqv, ih, List.cons.injEq]
    by_cases h : x = y
    · subst h; simp
    · simp [h]
theorem eqv_nil (xs : List PyData) : PyData.eqvAll xs [] = xs.isEmpty := by cases xs <;> rfl
theorem eqv_nil' (xs : List PyData) : PyData.eqvAll [] xs = xs.isEmpty := by cases xs <;> rfl
theorem depth_strs : ∀ xs : List Str, PyData.depthAll (xs.map PyData.str) = 0
  | [] => rfl
  | x :: xs => by simp [PyData.depthAll, PyData.depth, depth_strs xs]
theorem depth_ints : ∀ xs : List Int, PyData.depthAll (xs.map PyData.int) = 0
  | [] => rfl
  | x :: xs => by simp [PyData.depthAll, PyData.depth, depth_ints xs]
end
end B
namespace B
open PySem L2
/-! SA: the drawing state of the first kind of laws: [great cells, script + [5], count] -/
theorem Kp.set {p c c' l : Addr} {H H' : Hp} {n0 n1 : V} (hp : H p = some (.lst [.ref c, .ref l, n0])) (hp' : H' p = some (.lst [.ref c', .ref l, n1])) (hc : c' = c ∨ H c' = none) (hk : ∀ b o, H b = some o → b ≠ p → b ≠ c → b ≠ l → H' b = some o) : Kp p H H' := by
  refine ⟨fun b o h n => hk b o h (fun z => n (.inl z)) (fun z => n (.inr ⟨_, _, _, hp, .inl (by rw [z])⟩)) (fun z => n (.inr ⟨_, _, _, hp, .inr (by rw [z])⟩)), fun b z => ?_⟩
  rcases z with z | ⟨d, l2, n2, h, z⟩
  · exact .inl (.inl z)
  · rw [hp'] at h
    cases h
    rcases z with z | z
    · cases z
      rcases hc with q | q
      · exact .inl (.inr ⟨_, _, _, hp, .inl (by rw [q])⟩)
      · exact .inr q
    · cases z
      exact .inl (.inr ⟨_, _, _, hp, .inr rfl⟩)
/-- the drawing state at p; m draws are left -/
structure StA (H : Hp) (p : Addr) (m : Nat) : Prop where
  ex : ∃ (c l : Addr) (cs sc : List Int) (n : Int), H p = some (.lst [.ref c, .ref l, .int n]) ∧ H c = some (.lst (cs.map V.int)) ∧ H l = some (.lst (sc.map V.int)) ∧ c ≠ l ∧ cs.length ≤ 64 ∧ 0 < sc.length ∧ sc.length ≤ 64 ∧ 0 ≤ n ∧ n + m ≤ 2 ^ 30
def spDraw : Sp := fun vs H Q _ => ∃ (p : Addr) (m : Nat) (z : Int), vs = [.ref p, .int z] ∧ StA H p (m + 1) ∧ 0 < z ∧ z < 2 ^ 40 ∧ ∀ (r : Int) (H' : Hp), 0 ≤ r → r < z → StA H' p m → Kp p H H' → Q (.int r) H'
structure Dz (p l : Addr) (sc : List Int) (n : Int) (H H' : Hp) (c : Addr) (cs : List Int) : Prop where
  hp : H' p = some (.lst [.ref c, .ref l, .int n])
  hc : H' c = some (.lst (cs.map V.int))
  hl : H' l = some (.lst (sc.map V.int))
  ncl : c ≠ l
  npc : c ≠ p
  npl : l ≠ p
  ln : cs.length ≤ 64
  kp : Kp p H H'
theorem ne_st {H : Hp} {p c : Addr} {a : Addr} {l n : V} {cs : List Int} (hp : H p = some (.lst [.ref a, l, n])) (hc : H c = some (.lst (cs.map V.int))) : c ≠ p := by
  intro e; subst e; rw [hp] at hc
  cases cs <;> cases hc
theorem Dz.same {p l : Addr} {sc cs : List Int} {n : Int} {H H1 H2 : Hp} {c : Addr} (d : Dz p l sc n H H1 c cs) (e : Same H1 H2) : Dz p l sc n H H2 c cs :=
  ⟨e _ _ d.hp, e _ _ d.hc, e _ _ d.hl, d.ncl, d.npc, d.npl, d.ln, d.kp.trans (Kp.same e d.hp)⟩
theorem Dz.st {p l : Addr} {sc cs : List Int} {n : Int} {H H1 : Hp} {c : Addr} {m : Nat} (d : Dz p l sc n H H1 c cs) (l0 : 0 < sc.length) (l1 : sc.length ≤ 64) (n0 : 0 ≤ n) (n1 : n + m ≤ 2 ^ 30) : StA H1 p m :=
  ⟨⟨c, l, cs, sc, n, d.hp, d.hc, d.hl, d.ncl, d.ln, l0, l1, n0, n1⟩⟩
section
variable {H H' : Hp} {p D : Addr} {m m' : Nat} {o : HO}
theorem StA.le (S : StA H p m) (h : m' ≤ m) : StA H p m' := by
  obtain ⟨c, l, cs, sc, n, h1, h2, h3, h4, h5, h6, h7, h8, h9⟩ := S.ex
  exact ⟨c, l, cs, sc, n, h1, h2, h3, h4, h5, h6, h7, h8, by omega⟩
theorem StA.same (S : StA H p m) (e : Same H H') : StA H' p m := by
  obtain ⟨c, l, cs, sc, n, h1, h2, h3, h4⟩ := S.ex
  exact ⟨c, l, cs, sc, n, e _ _ h1, e _ _ h2, e _ _ h3, h4⟩
theorem StA.kp (S : StA H p m) (e : Same H H') : Kp p H H' := by
  obtain ⟨c, l, cs, sc, n, h1, _⟩ := S.ex
  exact Kp.same e h1
theorem StA.fresh (S : StA H p m) (h : H D = none) : ¬ Own H p D := by
  obtain ⟨c, l, cs, sc, n, h1, h2, h3, _⟩ := S.ex
  rintro (z | ⟨x, y, k, z, q⟩)
  · rw [z, h1] at h; cases h
  · rw [h1] at z
    cases z
    rcases q with q | q
    · cases q; rw [h2] at h; cases h
    · cases q; rw [h3] at h; cases h
theorem StA.upd (S : StA H p m) (h : ¬ Own H p D) : StA (upd H D o) p m := by
  obtain ⟨c, l, cs, sc, n, h1, h2, h3, h4⟩ := S.ex
  have a1 : p ≠ D := fun z => h (.inl z.symm)
  have a2 : c ≠ D := fun z => h (.inr ⟨_, _, _, h1, .inl (by rw [z])⟩)
  have a3 : l ≠ D := fun z => h (.inr ⟨_, _, _, h1, .inr (by rw [z])⟩)
  exact ⟨c, l, cs, sc, n, by rw [upd_ne a1]; exact h1, by rw [upd_ne a2]; exact h2, by rw [upd_ne a3]; exact h3, h4⟩
/-- a new object -/
theorem StA.new (S : StA H p m) (h : H D = none) (e : Same H H') (h' : H' D = some o) : At p H' D o := by
  refine ⟨h', fun z => S.fresh h ?_⟩
  obtain ⟨c, l, cs, sc, n, h1, _⟩ := S.ex
  exact (own_same ((e _ _ h1).trans h1.symm)).mp z
theorem StA.at (S : StA H p m) {xs : List V} (h : H D = some (.tup xs)) : At p H D (.tup xs) := by
  obtain ⟨c, l, cs, sc, n, h1, h2, h3, _⟩ := S.ex
  refine ⟨h, ?_⟩
  rintro (z | ⟨x, y, k, z, q⟩)
  · rw [z, h1] at h; cases h
  · rw [h1] at z
    cases z
    rcases q with q | q
    · cases q; rw [h2] at h; cases h
    · cases q; rw [h3] at h; cases h
end
theorem at0 {x : V} {xs : List V} : atI (x :: xs) 0 = some x := atI_nat (j := 0) rfl
theorem ixN_nat {n j : Nat} (h : j < n) : ixN n (j : Int) = some j := by
  unfold ixN
  rw [if_pos (by omega), if_pos (by omega)]
  simp
theorem cut1 (cs : List Int) : cutV (cs.map V.int) (some 1) none = cs.tail.map V.int := by
  unfold cutV HT.sIx
  cases cs with
  | nil => rfl
  | cons a r =>
    simp
    exact List.take_of_length_le (by simp)
end B
namespace B
open PySem L2
/-! names; loops over texts -/
abbrev LET : Str := "abcdefghijklmnopqrstuvwxyz"
abbrev DIG : Str := "0123456789"
/-- a sign of a name -/
def alnum (c : Nat) : Bool := decide (c ∈ LET.cps.toList) || decide (c ∈ DIG.cps.toList)
/-- a name -/
def vn (w : Str) : Bool := decide (1 ≤ w.length ∧ w.length ≤ 6) && ((w.cps[0]?).any fun c => decide (c ∈ LET.cps.toList)) && w.cps.toList.all alnum
theorem str_len (w : Str) : w.length = w.cps.toList.length := by simp [Str.length]
theorem vn_short {w : Str} (h : ¬ (1 ≤ w.length ∧ w.length ≤ 6)) : vn w = false := by unfold vn; rw [decide_eq_false h]; rfl
theorem vn_first {w : Str} {c : Nat} (h : w.cps[0]? = some c) (hc : c ∉ LET.cps.toList) : vn w = false := by
  unfold vn
  rw [h]
  simp only [Option.any_some, decide_eq_false hc, Bool.and_false, Bool.false_and]
theorem vn_all {w : Str} {c : Nat} (h1 : 1 ≤ w.length ∧ w.length ≤ 6) (h : w.cps[0]? = some c) (hc : c ∈ LET.cps.toList) : vn w = w.cps.toList.all alnum := by
  unfold vn
  rw [h]
  simp only [Option.any_some, decide_eq_true hc, Bool.and_true, decide_eq_true h1, Bool.true_and]
theorem sz5 {n : Nat} (h : n ≤ 100000) : n ≤ sizeLine := Nat.le_trans h (by decide)
theorem at0s {w : Str} {c : Nat} (h : w.cps[0]? = some c) : atI w.cps.toList 0 = some c := atI_nat (j := 0) (by simpa using h)
theorem first_of {w : Str} (h : 1 ≤ w.length) : ∃ c, w.cps[0]? = some c := by
  have h' : 0 < w.cps.size := h
  exact ⟨w.cps[0], by simp [h']⟩
/-- a for over a text -/
theorem for_str {x : Str} {g : TG} {tb : TS} {D : Ends} {σ : L2.St} {H : Hp} (Pv : Nat → L2.St → Hp → Prop) (h0 : Pv 0 σ H)
    (hs : ∀ i c σ H, x.cps.toList[i]? = some c → Pv i σ H → g (.str ⟨#[c]⟩) σ H fun σ2 H2 => tb { D with nx := Pv (i + 1), ct := Pv (i + 1), bk := D.nx } σ2 H2) (hd : ∀ σ H, Pv x.cps.toList.length σ H → D.nx σ H) :
    ∃ W : Nat → Nat → L2.St → Hp → Prop, (∃ m, W 0 m σ H) ∧ ∀ i m σ H, W i m σ H →
      ((Its x).stop i H ∧ D.nx σ H) ∨ ((Its x).go i H ∧ ∃ N : L2.St → Hp → Prop, (∀ σ' H', N σ' H' → ∃ m', m' < m ∧ W (i + 1) m' σ' H') ∧ ∀ v H', (Its x).yld i H v H' → g v σ H' fun σ2 H2 => tb { D with nx := N, ct := N, bk := D.nx } σ2 H2) := by
  have el : x.cps.toList.length = x.cps.size := by simp
  refine ⟨fun i m σ H => m = x.cps.size - i ∧ i ≤ x.cps.size ∧ Pv i σ H, ⟨x.cps.size, by simp, Nat.zero_le _, h0⟩, ?_⟩
  rintro i m σ H ⟨rfl, hi, p⟩
  by_cases hlt : i < x.cps.size
  · refine .inr ⟨hlt, Pv (i + 1), fun σ' H' p' => ⟨x.cps.size - (i + 1), by omega, rfl, hlt, p'⟩, fun v H' y => ?_⟩
    obtain ⟨e, c, hc, y⟩ := y
    subst e y
    exact hs i c σ _ (by simpa using hc) p
  · have e : i = x.cps.size := by omega
    subst e
    rw [el] at hd
    exact .inl ⟨Nat.le_refl _, hd σ H p⟩
/-- a comprehension over a text -/
theorem lc_str {x : Str} {g : TG} {tt : TT} {te : TE} {vs : List Nat} {σ : L2.St} {H1 : Hp} {D : Addr} {Qd : Hp → Prop} (Pv : Nat → Hp → Prop) (h0 : Pv 0 (upd H1 D (.lst [])))
    (hs : ∀ i c H, x.cps.toList[i]? = some c → Pv i H → g (.str ⟨#[c]⟩) (wipe σ vs) H fun σ2 H2 => wipe σ2 vs = wipe σ vs ∧ tt σ2 H2 fun b H3 =>
      if b = true then te σ2 H3 fun y H4 => ∃ acc, H4 D = some (.lst acc) ∧ acc.length < sizeLine ∧ Pv (i + 1) (upd H4 D (.lst (acc ++ [y]))) else Pv (i + 1) H3) (hd : ∀ H, Pv x.cps.toList.length H → Qd H) :
    ∃ W : Nat → Nat → Hp → Prop, (∃ m, W 0 m (upd H1 D (.lst []))) ∧ ∀ i m H, W i m H →
      ((Its x).stop i H ∧ Qd H) ∨ ((Its x).go i H ∧ ∃ Nx : Hp → Prop, (∀ H', Nx H' → ∃ m', m' < m ∧ W (i + 1) m' H') ∧ ∀ v H', (Its x).yld i H v H' → g v (wipe σ vs) H' fun σ2 H2 => wipe σ2 vs = wipe σ vs ∧ tt σ2 H2 fun b H3 =>
        if b = true then te σ2 H3 fun y H4 => ∃ acc, H4 D = some (.lst acc) ∧ acc.length < sizeLine ∧ Nx (upd H4 D (.lst (acc ++ [y]))) else Nx H3) := by
  have el : x.cps.toList.length = x.cps.size := by simp
  refine ⟨fun i m H => m = x.cps.size - i ∧ i ≤ x.cps.size ∧ Pv i H, ⟨x.cps.size, by simp, Nat.zero_le _, h0⟩, ?_⟩
  rintro i m H ⟨rfl, hi, p⟩
  by_cases hlt : i < x.cps.size
  · refine .inr ⟨hlt, Pv (i + 1), fun H' p' => ⟨x.cps.size - (i + 1), by omega, rfl, hlt, p'⟩, fun v H' y => ?_⟩
    obtain ⟨e, c, hc, y⟩ := y
    subst e y
    exact hs i c _ (by simpa using hc) p
  · have e : i = x.cps.size := by omega
    subst e
    rw [el] at hd
    exact .inl ⟨Nat.le_refl _, hd H p⟩
theorem app_mem (c : Nat) (a b : Str) : c ∈ (a ++ b).cps.toList ↔ c ∈ a.cps.toList ∨ c ∈ b.cps.toList := by
  show c ∈ (a.cps ++ b.cps).toList ↔ _
  simp
theorem at_str {z : Str} {r : Int} (h0 : 0 ≤ r) (h1 : r < z.length) : ∃ c, atI z.cps.toList r = some c ∧ c ∈ z.cps.toList := by
  obtain ⟨j, rfl⟩ : ∃ j : Nat, r = (j : Int) := ⟨r.toNat, (Int.toNat_of_nonneg h0).symm⟩
  have hj : j < z.cps.toList.length := by have := str_len z; omega
  exact ⟨z.cps.toList[j], atI_nat (List.getElem?_eq_getElem hj), List.getElem_mem hj⟩
theorem at_lst {α : Type} {xs : List α} {r : Int} (h0 : 0 ≤ r) (h1 : r < xs.length) : ∃ c, atI xs r = some c ∧ c ∈ xs := by
  obtain ⟨j, rfl⟩ : ∃ j : Nat, r = (j : Int) := ⟨r.toNat, (Int.toNat_of_nonneg h0).symm⟩
  have hj : j < xs.length := by omega
  exact ⟨xs[j], atI_nat (List.getElem?_eq_getElem hj), List.getElem_mem hj⟩
theorem join0 : ∀ ws : List Str, (∀ c ∈ ws, c.length ≤ 1) → (Str.join "" ws).length ≤ ws.length
  | ws, h => by
    have h1 := StrLaws.join_length_le "" ws
    have h2 : (ws.map (·.length)).sum ≤ ws.length := by
      clear h1
      induction ws with
      | nil => simp
      | cons a r ih =>
        have := h a List.mem_cons_self
        have := ih fun c hc => h c (List.mem_cons_of_mem _ hc)
        simp only [List.map_cons, List.sum_cons, List.length_cons]; omega
    have h3 : (("" : Str)).length = 0 := by decide +kernel
    rw [h3] at h1
    omega
end B
namespace B
open PySem L2
def spLaw (K : PySem.W.Frag) : Sp := fun vs H Q _ => ∃ (a : Addr) (ns : List Int), vs = [.ref a] ∧ SqL K H a (ns.map V.int) ∧ ns.length ≤ 63 ∧ ∀ H', Q (.bl true) H'
/-- what the top has left of a def -/
structure Dt (K : PySem.W.Frag) (x : Str) (st : Stmt) (f : Addr) : Prop where
  a : PySem.W.nsIn K mainGlobals x = some (some (.ref f))
  l : ∃ (oc : Value) (od : Option Addr) (kV doc pm : Value) (an : Option Addr) (cdv ct : Value) (osl : Array (Option Value)), K.lookup f = some ⟨oc, od, .func (PySem.W.fnOf x x (defArgs st) (defBody st) (defScope st) .none kV doc pm an cdv ct), osl⟩ ∧ PySem.W.codeIn K cdv x = true
  k : PySem.W.keepIn K (.ref f) = true
theorem dt_mk {K : PySem.W.Frag} {x : Str} {st : Stmt} {f : Addr} {oc : Value} {od an : Option Addr} {osl : Array (Option Value)} {kV doc pm cdv ct : Value} (a : PySem.W.nsIn K mainGlobals x = some (some (.ref f))) (l : K.lookup f = some ⟨oc, od, .func (PySem.W.fnOf x x (defArgs st) (defBody st) (defScope st) .none kV doc pm an cdv ct), osl⟩)
    (c : PySem.W.codeIn K cdv x = true) (k : PySem.W.keepIn K (.ref f) = true) : Dt K x st f := ⟨a, ⟨oc, od, kV, doc, pm, an, cdv, ct, osl, l, c⟩, k⟩
theorem Dt.fun {K : PySem.W.Frag} {x : Str} {st : Stmt} {f : Addr} (d : Dt K x st f) : ∃ fd, Fun K x x st f fd ∧ ∃ (kV doc pm : Value) (an : Option Addr) (cdv ct : Value), fd = PySem.W.fnOf x x (defArgs st) (defBody st) (defScope st) .none kV doc pm an cdv ct := by
  obtain ⟨oc, od, kV, doc, pm, an, cdv, ct, osl, l, c⟩ := d.l
  exact ⟨_, fun_mk l c d.k, kV, doc, pm, an, cdv, ct, rfl⟩
section
variable {P : Program} {w : World} {K : PySem.W.Frag} {mg : Str → Option Value} {base : Heap} {CX : CXT} {k : Nat} {x : Str} {st : Stmt} {f : Addr} {ps : List Str} {sp : Sp}
/-- a def with its promise -/
theorem df_mk (d : Dt K x st f) (hm : mg x = some (.ref f)) (G : ∀ fd, Fun K x x st f fd → FnOk P w K mg base CX k f fd ps sp)
    (hb : ∀ (kV doc pm : Value) (an : Option Addr) (cdv ct : Value) (us : List Value), us.length = ps.length → bindArgs (PySem.W.fnOf x x (defArgs st) (defBody st) (defScope st) .none kV doc pm an cdv ct) ⟨us, []⟩ = pure (ps.zip us)) : Df P w K mg base CX k x ps sp := by
  obtain ⟨fd, F, kV, doc, pm, an, cdv, ct, e⟩ := d.fun
  exact ⟨f, fd, hm, d.k, F.binds hb, G fd F⟩
theorem dfk_mk {n : Nat} {ks : List Str} {g : List Value → List Value → List Value} {gV : List V → List V → List V} (d : Dt K x st f) (hm : mg x = some (.ref f)) (G : ∀ fd, Fun K x x st f fd → FnOk P w K mg base CX k f fd ps sp)
    (hb : ∀ (kV doc pm : Value) (an : Option Addr) (cdv ct : Value), KBn K (PySem.W.fnOf x x (defArgs st) (defBody st) (defScope st) .none kV doc pm an cdv ct) ps n ks g gV) : DfK P w K mg base CX k x ps n ks g gV sp := by
  obtain ⟨fd, F, kV, doc, pm, an, cdv, ct, e⟩ := d.fun
  subst e
  exact ⟨f, _, hm, d.k, hb kV doc pm an cdv ct, G _ F⟩
end
/-- the last end: a law whose promise is spLaw -/
theorem walk {l : PySem.W.OpenLaw} {k : Nat} {q : Program} {loose : List Str} {XP : (Str → Option Value) → Heap → Prop} {YP : World → Heap → Prop} {d : DefRec} {K : Params → PySem.W.Frag} (hr : Room k callerA) (hn : l.most = some 63) (hdf : d.params.defaults = [])
    (hY : ∀ (w : World) (h : Heap), YP w h → (K w.params).In h)
    (F : ∀ (w : World) (mg : Str → Option Value) (fa : Addr) (h : Heap), (K w.params).In h → h.Ns mainGlobals mg → mg d.name = some (.ref fa) →
      ∃ fd : FuncData, (∀ (s : Shared) (u : Value), BindsTo s fd ⟨[u], []⟩ [("_law_script", u)]) ∧ ∀ base : Heap, (K w.params).In base → base.Ns mainGlobals mg → FnOk l.prog w (K w.params) mg base CX0 k fa fd ["_law_script"] (spLaw (K w.params))) :
    PySem.W.WalkO q loose XP YP l.row.toRowW d [] (fun f vs => PySem.call f vs) :=
  L2.walk_of (n := 63) (k := k) (x := "_law_script") (CX := fun _ => CX0) (sp := fun w => spLaw (K w.params)) hn (by decide) hdf hr hY F (fun _ _ a ns hl _ hS => ⟨a, ns, rfl, hS, hl, fun _ => rfl⟩) fun _ _ _ _ _ z => z
/-- the built-ins -/
def blts : List Str := ["len", "abs", "int", "str", "bool", "list", "tuple", "dict", "range", "enumerate", "zip", "sorted", "sum", "max", "min", "all", "isinstance"]
theorem bt_mk {K : PySem.W.Frag} {h : Heap} {mg : Str → Option Value} (X : K.In h) (G : h.Ns mainGlobals mg) (z : blts.all (fun x => decide (PySem.W.nsIn K mainGlobals x = some none)) = true) : Bt mg := by
  have q : ∀ x ∈ blts, mg x = none := fun x hx => PySem.W.mg_none_of X G (of_decide_eq_true (List.all_eq_true.mp z x hx))
  constructor <;> exact q _ (by decide +kernel)
end B
namespace B
open PySem L2
def top (i : Nat) : Stmt := PySem.Challenge.pw_bundlekinds_k01_valid_names.main.body.getD i (.Pass ⟨0, 0, 0, 0⟩)
abbrev s_valid_name : Stmt := top 4
theorem sc_valid_name : FnScope ["text", "char"] ["text"] (defScope s_valid_name) := ⟨rfl, rfl, rfl, by decide +kernel, rfl, by decide +kernel, by decide +kernel⟩
abbrev s_l_start : Stmt := top 6
theorem sc_l_start : FnScope ["_law_script", "_law_cell"] ["_law_script"] (defScope s_l_start) := ⟨rfl, rfl, rfl, by decide +kernel, rfl, by decide +kernel, by decide +kernel⟩
abbrev s_l_draw : Stmt := top 7
theorem sc_l_draw : FnScope ["_law_state", "_law_size", "_law_digit", "_law_cell", "_law_one"] ["_law_state", "_law_size"] (defScope s_l_draw) := ⟨rfl, rfl, rfl, by decide +kernel, rfl, by decide +kernel, by decide +kernel⟩
abbrev s_l_signs : Stmt := top 8
theorem sc_l_signs : FnScope ["_law_signs_here"] [] (defScope s_l_signs) := ⟨rfl, rfl, rfl, by decide +kernel, rfl, by decide +kernel, by decide +kernel⟩
abbrev s_l_good : Stmt := top 9
theorem sc_l_good : FnScope ["_law_word", "_law_letters", "_law_sign"] ["_law_word"] (defScope s_l_good) := ⟨rfl, rfl, rfl, by decide +kernel, rfl, by decide +kernel, by decide +kernel⟩
abbrev s_law : Stmt := top 10
theorem sc_law : FnScope ["_law_script", "_law_state", "_law_plan", "_law_signs_here", "_law_chars", "_law_word", "_law_actual", "_law_k"] ["_law_script"] (defScope s_law) := ⟨rfl, rfl, rfl, by decide +kernel, rfl, by decide +kernel, by decide +kernel⟩
end B
namespace B
open PySem L2
section
variable {P : Program} {w : World} {K : PySem.W.Frag} {mg : Str → Option Value} {base : Heap}
theorem ok_draw {f : Addr} {fd : FuncData} (F : Fun K "_law_draw" "_law_draw" s_l_draw f fd) (T : Bt mg) : FnOk P w K mg base CX0 1 f fd ["_law_state", "_law_size"] spDraw := by
  refine F.ok sc_l_draw (fun vs H Q E h => ?_) (fun cdv A outer s H vs Q E hr h => ⟨_, wb, ?_⟩)
  · obtain ⟨p, m, z, rfl, _⟩ := h
    rfl
  · obtain ⟨p, m, z, rfl, S, z0, z1, k⟩ := h
    obtain ⟨c, l, cs, sc, n, hp, hc, hl, ncl, lc, l0, l1, n0, n1⟩ := S.ex
    have npc := ne_st hp hc
    have npl := ne_st hp hl
    refine nxt (ps_augS (pv 0) pe_int get_list pe_int ip_add set_list) ?_
    refine ⟨_, rfl, p, _, 2, _, rfl, rfl, sqL hp, rfl, _, _, rfl, rfl, p, _, 2, 2, rfl, rfl, hp, rfl, ?_⟩
    have D1 : Dz p l sc (n + 1) H (upd H p (.lst [.ref c, .ref l, .int (n + 1)])) c cs :=
      ⟨upd_same, by rw [upd_ne npc]; exact hc, by rw [upd_ne npl]; exact hl, ncl, npc, npl, lc, Kp.set hp upd_same (.inl rfl) fun b o h hb _ _ => by rw [upd_ne hb]; exact h⟩
    refine nxtN (ps_while PassesOwn.never (PW.pt (pw_and (pt_cmpR (op_neP hr.units) (pe_ix ix_list (pv 0) pe_int (fun _ _ => rfl)) (pe_lst pa_nil) (nomark _)) (pw_and1 (pt_cmpR op_eq (pe_ix ix_list (pe_ix ix_list (pv 0) pe_int (fun _ _ => rfl)) pe_int (fun _ _ => rfl)) pe_int (nomark _))))) wb) fun N hN => ?_
    refine ⟨fun m' σ H' => σ = [some (.ref p), some (.int z), none, none, none] ∧ ∃ c cs, cs.length = m' ∧ Dz p l sc (n + 1) H H' c cs, ⟨_, rfl, c, cs, rfl, D1⟩, ?_⟩
    rintro m' σ H1 ⟨rfl, c1, cs1, hlen, D⟩
    refine ⟨_, rfl, p, _, 0, _, rfl, rfl, sqL D.hp, rfl, by decide, fun q nq => ?_⟩
    refine upd_gen nq fun H2 e2 h2 => ?_
    have D2 := D.same e2
    refine ⟨_, _, dpL D2.hc (dp_ints _), dpL h2 .nil, .inr (by decide), _, rfl, ?_⟩
    have out : ∀ H3 c3 cs3, Dz p l sc (n + 1) H H3 c3 cs3 → N [some (.ref p), some (.int z), none, none, none] H3 := ?out
    case out =>
      intro H3 c3 cs3 D3
      refine hN _ _ ?_
      refine nxtN (ps_if (pt_cmpR (op_neP hr.units) (pe_ix ix_list (pv 0) pe_int (fun _ _ => rfl)) (pe_lst pa_nil) (nomark _)) wb pss_nil) fun N2 hN2 => ?_
      refine ⟨_, rfl, p, _, 0, _, rfl, rfl, sqL D3.hp, rfl, by decide, fun q nq => ?_⟩
      refine upd_gen nq fun H4 e4 h4 => ?_
      have D4 := D3.same e4
      refine ⟨_, _, dpL D4.hc (dp_ints _), dpL h4 .nil, .inr (by decide), _, rfl, ?_⟩
      rw [PyData.eqv, eqv_nil]
      cases cs3 with
      | cons a r =>
        refine iteT ?_
        refine nxt (ps_set (i := 2) sc_l_draw.nd rfl (Or.inl rfl) (pe_op op_mod (pe_callTy call_int1 (by rfl) T.int (by decide +kernel) (pa_cons (pe_ix ix_list (pe_ix ix_list (pv 0) pe_int (fun _ _ => rfl)) pe_int (fun _ _ => rfl)) pa_nil)) (pv 1))) ?_
        refine ⟨_, rfl, p, _, 0, _, rfl, rfl, sqL D4.hp, rfl, c3, _, 0, _, rfl, rfl, sqL D4.hc, at0, .inl ⟨_, rfl, _, rfl, _, _, rfl, rfl, z0, ?_⟩⟩
        refine nxt (ps_asg (pe_op op_fdivW (pe_ix ix_list (pe_ix ix_list (pv 0) pe_int (fun _ _ => rfl)) pe_int (fun _ _ => rfl)) (pv 1)) (pg_sub (pe_ix ix_list (pv 0) pe_int (fun _ _ => rfl)) pe_int set_list)) ?_
        refine ⟨_, rfl, p, _, 0, _, rfl, rfl, sqL D4.hp, rfl, c3, _, 0, _, rfl, rfl, sqL D4.hc, at0, _, rfl, _, _, rfl, rfl, wide_div z0 (b := 40) (by omega) (by decide) (by decide), _, rfl, p, _, 0, _, rfl, rfl, sqL D4.hp, rfl, c3, _, 0, 0, rfl, rfl, D4.hc, ?_, ?_⟩
        · show ixN ((a :: r).map V.int).length 0 = some 0
          exact ixN_nat (j := 0) (by simp)
        refine last (ps_ret (pv 2)) ?_
        refine ⟨_, rfl, ?_⟩
        refine k _ _ (Int.emod_nonneg _ (by omega)) (Int.emod_lt_of_pos _ z0) ?_ ?_
        · refine Dz.st (c := c3) (cs := a / z :: r) (n := n + 1) (l := l) (sc := sc) ⟨?_, upd_same, ?_, D4.ncl, D4.npc, D4.npl, D4.ln, Kp.refl _ _⟩ l0 l1 (by omega) (by omega)
          · rw [upd_ne D4.npc.symm]; exact D4.hp
          · rw [upd_ne D4.ncl.symm]; exact D4.hl
        · refine D4.kp.trans (Kp.set D4.hp (by rw [upd_ne D4.npc.symm]; exact D4.hp) (.inl rfl) fun b o h _ hb _ => by rw [upd_ne hb]; exact h)
      | nil =>
        refine iteF ?_
        refine hN2 _ _ ?_
        refine nxt (ps_set (i := 3) sc_l_draw.nd rfl (Or.inl rfl) (pe_op op_mod (pe_callTy call_int1 (by rfl) T.int (by decide +kernel) (pa_cons (pe_ix ix_list (pe_ix ix_list (pv 0) pe_int (fun _ _ => rfl)) (pe_op op_mod (pe_callTy call_int1 (by rfl) T.int (by decide +kernel) (pa_cons (pe_ix ix_list (pv 0) pe_int (fun _ _ => rfl)) pa_nil)) (pe_callB call_len_seq (by rfl) T.len PySem.boot_len (pa_cons (pe_ix ix_list (pv 0) pe_int (fun _ _ => rfl)) pa_nil))) (fun _ _ => rfl)) pa_nil)) pe_int)) ?_
        have hm0 : 0 ≤ (n + 1) % (sc.length : Int) := Int.emod_nonneg _ (by omega)
        have hm1 : (n + 1) % (sc.length : Int) < (sc.length : Int) := Int.emod_lt_of_pos _ (by omega)
        obtain ⟨j, hj⟩ : ∃ j : Nat, (n + 1) % (sc.length : Int) = (j : Int) := ⟨_, (Int.toNat_of_nonneg hm0).symm⟩
        have hj1 : j < sc.length := by omega
        refine ⟨_, rfl, p, _, 1, _, rfl, rfl, sqL D4.hp, rfl, _, rfl, p, _, 2, _, rfl, rfl, sqL D4.hp, rfl, .inl ⟨_, rfl, _, rfl, p, _, 1, _, rfl, rfl, sqL D4.hp, rfl, l, _, rfl, .inl (sqL D4.hl), _, _, rfl, rfl, ?_, ?_⟩⟩
        · show (0 : Int) < ((sc.map V.int).length : Int)
          rw [List.length_map]; omega
        refine ⟨l, _, _, V.int sc[j], rfl, rfl, sqL D4.hl, ?_, .inl ⟨_, rfl, _, _, rfl, rfl, (by show (0 : Int) < _; decide), ?_⟩⟩
        · rw [List.length_map, hj]
          exact atI_nat (by simp [hj1])
        have c0 : 0 ≤ sc[j] % 2147483647 := Int.emod_nonneg _ (by decide)
        have c1 : sc[j] % 2147483647 < 2147483647 := Int.emod_lt_of_pos _ (by decide)
        generalize sc[j] % 2147483647 = cell at c0 c1
        refine nxt (ps_set (i := 4) sc_l_draw.nd rfl (Or.inl rfl) (pe_op op_mod (pe_callTy call_int1 (by rfl) T.int (by decide +kernel) (pa_cons (pe_op op_pow (pe_op op_add (pe_op op_add (pe_op op_mul (pv 3) pe_int) (pe_op op_mul (pe_ix ix_list (pv 0) pe_int (fun _ _ => rfl)) pe_int)) pe_int) pe_int) pa_nil)) pe_int)) ?_
        refine ⟨_, rfl, _, _, rfl, rfl, .inl ⟨by omega, by omega⟩, _, rfl, p, _, 2, _, rfl, rfl, sqL D4.hp, rfl, _, _, rfl, rfl, .inl ⟨by omega, by omega⟩, _, _, rfl, rfl, _, _, rfl, rfl, _, _, rfl, rfl, ⟨by decide, by decide, by omega⟩, .inl ⟨_, rfl, _, _, rfl, rfl, (by show (0 : Int) < _; decide), ?_⟩⟩
        have o0 : 0 ≤ (cell * 48271 + (n + 1) * 69621 + 7) ^ 5 % 2147483647 := Int.emod_nonneg _ (by decide)
        have o1 : (cell * 48271 + (n + 1) * 69621 + 7) ^ 5 % 2147483647 < 2147483647 := Int.emod_lt_of_pos _ (by decide)
        have e5 : (5 : Int).toNat = 5 := rfl
        rw [e5]
        generalize (cell * 48271 + (n + 1) * 69621 + 7) ^ 5 % 2147483647 = one at o0 o1
        refine last (ps_ret (pe_op op_mod (pe_op op_mod (pe_callTy call_int1 (by rfl) T.int (by decide +kernel) (pa_cons (pe_op op_pow (pe_op op_add (pe_op op_add (pe_op op_mul (pv 4) pe_int) (pe_op op_mul (pe_ix ix_list (pv 0) pe_int (fun _ _ => rfl)) pe_int)) pe_int) pe_int) pa_nil)) pe_int) (pv 1))) ?_
        refine ⟨_, rfl, _, _, rfl, rfl, .inl ⟨by omega, by omega⟩, _, rfl, p, _, 2, _, rfl, rfl, sqL D4.hp, rfl, _, _, rfl, rfl, .inl ⟨by omega, by omega⟩, _, _, rfl, rfl, _, _, rfl, rfl, _, _, rfl, rfl, ⟨by decide, by decide, by omega⟩, .inl ⟨_, rfl, _, _, rfl, rfl, (by show (0 : Int) < _; decide), _, rfl, _, _, rfl, rfl, z0, ?_⟩⟩
        exact k _ _ (Int.emod_nonneg _ (by omega)) (Int.emod_lt_of_pos _ z0) (D4.st l0 l1 (by omega) (by omega)) D4.kp
    rw [PyData.eqv, eqv_nil]
    cases cs1 with
    | nil =>
      refine iteF ?_
      refine iteF ?_
      exact out _ _ _ D2
    | cons a r =>
      refine iteT ?_
      refine ⟨_, rfl, p, _, 0, _, rfl, rfl, sqL D2.hp, rfl, c1, _, 0, _, rfl, rfl, sqL D2.hc, at0, rfl, _, rfl, ?_⟩
      refine ite2 (fun _ => ?_) (fun _ => ?_)
      · refine ⟨_, fun _ _ h => h, ?_⟩
        refine last (ps_asg (pe_slice sl_list (pe_ix ix_list (pv 0) pe_int (fun _ _ => rfl)) (po_some pe_int) po_none) (pg_sub (pv 0) pe_int set_list)) ?_
        refine ⟨_, rfl, p, _, 0, _, rfl, rfl, sqL D2.hp, rfl, _, rfl, c1, _, rfl, sqL D2.hc, fun q3 nq3 => ?_⟩
        rw [cut1]
        refine upd_gen nq3 fun H5 e5 h5 => ?_
        have D5 := D2.same e5
        refine ⟨_, rfl, p, _, 0, 0, rfl, rfl, D5.hp, rfl, ?_⟩
        have np3 : q3 ≠ p := (ne_of_none D2.hp nq3).symm
        refine ⟨r.length, by rw [← hlen]; exact Nat.lt_succ_self _, rfl, q3, r, rfl, upd_same, ?_, ?_, (ne_of_none D2.hl nq3).symm, np3, D2.npl, by have := D2.ln; simp at this; omega, ?_⟩
        · rw [upd_ne np3]; exact h5
        · rw [upd_ne D2.npl]; exact D5.hl
        · refine D2.kp.trans (Kp.set D2.hp upd_same (.inr nq3) fun b o h hb _ _ => ?_)
          rw [upd_ne hb]; exact e5 _ _ h
      · exact out _ _ _ D2
end
end B
namespace B
open PySem L2
def spStart (K : PySem.W.Frag) : Sp := fun vs H Q _ => ∃ (a : Addr) (ns : List Int), vs = [.ref a] ∧ SqL K H a (ns.map V.int) ∧ ns.length ≤ 63 ∧ ∀ (p : Addr) (H' : Hp), Same H H' → StA H' p (2 ^ 30) → (∀ b, Own H' p b → H b = none) → Q (.ref p) H'
section
variable {P : Program} {w : World} {K : PySem.W.Frag} {mg : Str → Option Value} {base : Heap}
theorem ok_start {f : Addr} {fd : FuncData} (F : Fun K "_law_start" "_law_start" s_l_start f fd) (T : Bt mg) : FnOk P w K mg base CX0 1 f fd ["_law_script"] (spStart K) := by
  refine F.ok sc_l_start (fun vs H Q E h => ?_) (fun cdv A outer s H vs Q E hr h => ⟨_, wb, ?_⟩)
  · obtain ⟨p, ns, rfl, _⟩ := h
    rfl
  · obtain ⟨a, ns, rfl, hS, hlen, k⟩ := h
    refine last (ps_ret (pe_lst (pa_cons (pe_lc (own := [("_law_cell", 1)]) (g := gName 1) rfl sc_l_start.nd (pi_list (pv 0)) (blkOk_by (own := [("_law_cell", 1)]) (N := ["_law_script", "_law_cell"]) (sc := defScope s_l_start) (by decide +kernel)) (fun _ _ _ _ _ => (pg_name (i := 1) sc_l_start.nd rfl (Or.inl rfl))) (fun _ _ _ _ _ => (pts_one (pt_cmpR op_ge (pe_callB call_abs (by rfl) T.abs (by decide +kernel) (pa_cons (pv 1) pa_nil)) (pe_op op_pow pe_int pe_int) (nomark _)))) (fun _ _ _ _ _ => (pe_callB call_abs (by rfl) T.abs (by decide +kernel) (pa_cons (pv 1) pa_nil)))) (pa_cons (pe_op op_cat (pe_callTy call_list_of (by rfl) T.list (by decide +kernel) (pa_cons (pv 0) pa_nil)) (pe_lst (pa_cons pe_int pa_nil))) (pa_cons pe_int pa_nil))))) ?_
    refine ⟨_, rfl, a, rfl, ⟨_, hS⟩, fun D nD => lc_list (K := K) (a := a) (xs := ns.map V.int) (fun i H' => Same H H' ∧ ∃ cs : List Int, H' D = some (.lst (cs.map V.int)) ∧ cs.length ≤ i) ⟨sm_new nD, [], upd_same, Nat.le_refl _⟩ (fun i H' _ h => sm_l h.1 hS) ?_ ?_⟩
    · rintro i y H1 hi ⟨e1, cs, h1, hc⟩
      rw [List.getElem?_map] at hi
      cases e : ns[i]? with
      | none => rw [e] at hi; cases hi
      | some z =>
        rw [e] at hi
        cases hi
        have hin : i < ns.length := (List.getElem?_eq_some_iff.mp e).1
        refine ⟨rfl, _, rfl, _, rfl, _, _, rfl, rfl, ⟨by decide, by decide, by decide⟩, _, _, rfl, rfl, _, rfl, ?_⟩
        refine ite2 (fun _ => ?_) (fun _ => ?_)
        · refine ⟨_, rfl, _, rfl, _, h1, small1000 (by simp; omega), ?_⟩
          refine ⟨fun b o q => ?_, cs ++ [if z < 0 then -z else z], ?_, by simp; omega⟩
          · rw [upd_ne (ne_of_none q nD)]; exact e1 _ _ q
          · rw [List.map_append]; exact upd_same
        · exact ⟨e1, cs, h1, by omega⟩
    · rintro H1 ⟨e1, cs, h1, hc⟩
      rw [List.length_map] at hc
      refine ⟨_, rfl, a, _, rfl, .inl (sm_l e1 hS), fun q nq => ?_⟩
      refine upd_gen nq fun H2 e2 h2 => ?_
      refine ⟨by decide, fun q3 nq3 => ?_⟩
      refine upd_gen nq3 fun H3 e3 h3 => ?_
      refine ⟨_, _, _, _, rfl, rfl, e3 _ _ h2, h3, ?_, fun l nl => ?_⟩
      · simp; exact small1000 (by omega)
      refine upd_gen nl fun H4 e4 h4 => ?_
      refine ⟨(by show 3 ≤ sizeLine; decide), fun p np => ?_⟩
      refine upd_gen np fun H5 e5 h5 => ?_
      have eH1 : Same H1 H5 := ((e2.trans e3).trans e4).trans e5
      have hD5 := eH1 _ _ h1
      refine k p H5 (e1.trans eH1) ⟨⟨D, l, cs, ns ++ [5], 0, h5, hD5, ?_, ?_, by omega, by simp, by simp; omega, by decide, by decide⟩⟩ ?_
      · rw [List.map_append]; exact e5 _ _ h4
      · exact ne_of_none (((e2.trans e3)) _ _ h1) nl
      · rintro b (z | ⟨c, l0, n0, z1, z2⟩)
        · rw [z]; exact (((e1.trans e2).trans e3).trans e4).free np
        · rw [h5] at z1
          cases z1
          rcases z2 with z2 | z2
          · cases z2; exact nD
          · cases z2; exact ((e1.trans e2).trans e3).free nl
end
end B
namespace B
open PySem L2
def spVN : Sp := fun vs H Q _ => ∃ w : Str, vs = [.str w] ∧ w.length ≤ 100000 ∧ Q (.bl (vn w)) H
section
variable {P : Program} {w : World} {K : PySem.W.Frag} {mg : Str → Option Value} {base : Heap}
theorem ok_valid_name {f : Addr} {fd : FuncData} (F : Fun K "valid_name" "valid_name" s_valid_name f fd) (T : Bt mg) (C_LETTERS : ∃ t, mg "LETTERS" = some (.str LET t)) (C_DIGITS : ∃ t, mg "DIGITS" = some (.str DIG t)) (C_LONGEST : ∃ t, mg "LONGEST" = some (.int 6 t)) : FnOk P w K mg base CX0 1 f fd ["text"] spVN := by
  refine F.ok sc_valid_name (fun vs H Q E h => ?_) (fun cdv A outer s H vs Q E hr h => ⟨_, wb, ?_⟩)
  · obtain ⟨p, rfl, _⟩ := h
    rfl
  · obtain ⟨z, rfl, hz, k⟩ := h
    refine nxtN (ps_if (PW.pt (pw_or (pt_not (pt_chain op_le op_le pe_int (pe_callB call_len_str (by rfl) T.len PySem.boot_len (pa_cons (pv 0) pa_nil)) (pgI C_LONGEST))) (pw_or1 (pt_cmpR op_notIn_sign (pe_ix ix_str (pv 0) pe_int (fun _ _ => rfl)) (pgS C_LETTERS) rfl)))) (pss_one (ps_ret pe_bl)) pss_nil) fun N hN => ?_
    refine ⟨_, rfl, z, rfl, sz5 hz, _, _, rfl, rfl, _, rfl, ?_⟩
    refine ite2 (fun c1 => ?_) (fun c1 => ?_)
    · refine ⟨_, _, rfl, rfl, _, rfl, ?_⟩
      have d1 := of_decide_eq_true c1
      refine ite2 (fun c2 => ?_) (fun c2 => ?_)
      · refine iteT ?_
        show Q (.bl false) H
        have d2 : ¬ ((z.length : Int) ≤ 6) := by simpa using c2
        rw [vn_short (by omega)] at k
        exact k
      · have d2 : (z.length : Int) ≤ 6 := by simpa using c2
        obtain ⟨c, hc⟩ := first_of (w := z) (by omega)
        refine ⟨_, rfl, z, 0, c, rfl, rfl, sz5 hz, at0s hc, c, LET, rfl, rfl, _, rfl, ?_⟩
        refine ite2 (fun c3 => ?_) (fun c3 => ?_)
        · show Q (.bl false) H
          rw [vn_first hc (by simpa using c3)] at k
          exact k
        · refine hN _ _ ?_
          have c3' : c ∈ LET.cps.toList := by simpa using c3
          rw [vn_all (by omega) hc c3'] at k
          refine nxtN (ps_for PassesOwn.never rfl (pi_str (pv 0)) (pg_name (i := 1) sc_valid_name.nd rfl (Or.inl rfl)) wb) fun N2 hN2 => ?_
          refine ⟨_, rfl, z, rfl, for_str (fun i σ H' => H' = H ∧ (∃ v, σ = [some (.str z), v]) ∧ (z.cps.toList.take i).all alnum = true) ⟨rfl, ⟨_, rfl⟩, rfl⟩ ?_ ?_⟩
          · rintro i c σ H1 hi ⟨rfl, ⟨v, rfl⟩, ha⟩
            refine last (ps_if (PW.pt (pw_and (pt_cmpR op_notIn_sign (pv 1) (pgS C_LETTERS) rfl) (pw_and1 (pt_cmpR op_notIn_sign (pv 1) (pgS C_DIGITS) rfl)))) (pss_one (ps_ret pe_bl)) pss_nil) ?_
            refine ⟨_, rfl, c, LET, rfl, rfl, _, rfl, ?_⟩
            have next : alnum c = true → (z.cps.toList.take (i + 1)).all alnum = true := fun h => by
              rw [List.take_add_one, hi, List.all_append, ha]
              simp [h]
            refine ite2 (fun c4 => ?_) (fun c4 => ?_)
            · refine ⟨_, rfl, c, DIG, rfl, rfl, _, rfl, ?_⟩
              refine ite2 (fun c5 => ?_) (fun c5 => ?_)
              · show Q (.bl false) H1
                have e : z.cps.toList.all alnum = false := by
                  rw [List.all_eq_false]
                  refine ⟨c, List.mem_of_getElem? hi, ?_⟩
                  unfold alnum
                  rw [decide_eq_false (by simpa using c4), decide_eq_false (by simpa using c5)]
                  decide
                rw [e] at k
                exact k
              · refine ⟨rfl, ⟨_, rfl⟩, next ?_⟩
                unfold alnum
                rw [decide_eq_true (p := c ∈ DIG.cps.toList) (by simpa using c5), Bool.or_true]
            · refine iteF ?_
              refine ⟨rfl, ⟨_, rfl⟩, next ?_⟩
              unfold alnum
              rw [decide_eq_true (p := c ∈ LET.cps.toList) (by simpa using c4), Bool.true_or]
          · rintro σ H1 ⟨rfl, ⟨v, rfl⟩, ha⟩
            refine hN2 _ _ ?_
            refine last (ps_ret pe_bl) ?_
            rw [List.take_length] at ha
            rw [ha] at k
            exact k
    · refine ⟨_, rfl, ?_⟩
      show Q (.bl false) H
      have d1 : ¬ (1 ≤ (z.length : Int)) := by simpa using c1
      rw [vn_short (by omega)] at k
      exact k
end
end B
namespace B
open PySem L2
def spGood : Sp := fun vs H Q _ => ∃ w : Str, vs = [.str w] ∧ w.length ≤ 100000 ∧ ∀ H', Same H H' → Q (.bl (vn w)) H'
section
variable {P : Program} {w : World} {K : PySem.W.Frag} {mg : Str → Option Value} {base : Heap}
theorem ok_good {f : Addr} {fd : FuncData} (F : Fun K "_law_good" "_law_good" s_l_good f fd) (T : Bt mg) : FnOk P w K mg base CX0 1 f fd ["_law_word"] spGood := by
  refine F.ok sc_l_good (fun vs H Q E h => ?_) (fun cdv A outer s H vs Q E hr h => ⟨_, wb, ?_⟩)
  · obtain ⟨p, rfl, _⟩ := h
    rfl
  · obtain ⟨z, rfl, hz, k⟩ := h
    refine nxt (ps_set (i := 1) sc_l_good.nd rfl (Or.inr rfl) pe_str) ?_
    refine nxtN (ps_if (PW.pt (pw_or (pt_cmpR op_lt (pe_callB call_len_str (by rfl) T.len PySem.boot_len (pa_cons (pv 0) pa_nil)) pe_int (nomark _)) (pw_or (pt_cmpR op_gt (pe_callB call_len_str (by rfl) T.len PySem.boot_len (pa_cons (pv 0) pa_nil)) pe_int (nomark _)) (pw_or1 (pt_cmpR op_notIn_sign (pe_ix ix_str (pv 0) pe_int (fun _ _ => rfl)) (pv 1) rfl))))) (pss_one (ps_ret pe_bl)) pss_nil) fun N hN => ?_
    refine ⟨_, rfl, z, rfl, sz5 hz, _, _, rfl, rfl, _, rfl, ?_⟩
    have no : ∀ {p : Prop}, vn z = false → (Q (.bl false) H) := fun h => by have := k H (Same.refl H); rw [h] at this; exact this
    refine ite2 (fun c1 => ?_) (fun c1 => ?_)
    · have d1 := of_decide_eq_true c1
      exact no (p := True) (vn_short (by omega))
    · refine ⟨_, rfl, z, rfl, sz5 hz, _, _, rfl, rfl, _, rfl, ?_⟩
      refine ite2 (fun c2 => ?_) (fun c2 => ?_)
      · have d2 := of_decide_eq_true c2
        exact no (p := True) (vn_short (by omega))
      · have d1 : ¬ ((z.length : Int) < 1) := by simpa using c1
        have d2 : ¬ (6 < (z.length : Int)) := by simpa using c2
        obtain ⟨c, hc⟩ := first_of (w := z) (by omega)
        refine ⟨_, rfl, z, 0, c, rfl, rfl, sz5 hz, at0s hc, _, rfl, c, LET, rfl, rfl, _, rfl, ?_⟩
        refine ite2 (fun c3 => ?_) (fun c3 => ?_)
        · exact no (p := True) (vn_first hc (by simpa using c3))
        · refine hN _ _ ?_
          have c3' : c ∈ LET.cps.toList := by simpa using c3
          rw [vn_all (by omega) hc c3'] at k
          refine last (ps_ret (pe_cmpR (op_eqP hr.units) (pe_lc (own := [("_law_sign", 2)]) (g := gName 2) rfl sc_l_good.nd (pi_str (pv 0)) (blkOk_by (own := [("_law_sign", 2)]) (N := ["_law_word", "_law_letters", "_law_sign"]) (sc := defScope s_l_good) (by decide +kernel)) (fun _ _ _ _ _ => (pg_name (i := 2) sc_l_good.nd rfl (Or.inl rfl))) (fun _ _ _ _ _ => (pts_one (pt_cmpR op_notIn_sign (pv 2) (pe_op op_add_str (pv 1) pe_str) rfl))) (fun _ _ _ _ _ => (pv 2))) (pe_lst pa_nil) (nomark _))) ?_
          refine ⟨_, rfl, z, rfl, fun D nD => lc_str (fun i H' => Same H H' ∧ ∃ ws : List Str, H' D = some (.lst (ws.map V.str)) ∧ ws.length ≤ i ∧ ((z.cps.toList.take i).all alnum = ws.isEmpty)) ⟨sm_new nD, [], upd_same, Nat.le_refl _, rfl⟩ ?_ ?_⟩
          · rintro i c H1 hi ⟨e1, ws, h1, hl, ha⟩
            have hin : i < z.cps.toList.length := (List.getElem?_eq_some_iff.mp hi).1
            have hzl := str_len z
            refine ⟨rfl, _, rfl, _, rfl, _, _, rfl, rfl, by decide +kernel, c, _, rfl, rfl, _, rfl, ?_⟩
            refine ite2 (fun c4 => ?_) (fun c4 => ?_)
            · refine ⟨_, rfl, _, h1, small1000 (by simp; omega), ?_⟩
              refine ⟨fun b o q => ?_, ws ++ [⟨#[c]⟩], ?_, by simp; omega, ?_⟩
              · rw [upd_ne (ne_of_none q nD)]; exact e1 _ _ q
              · rw [List.map_append]; exact upd_same
              · have c4' : ¬ (c ∈ LET.cps.toList ∨ c ∈ DIG.cps.toList) := by
                  rw [← app_mem]; simpa using c4
                rw [List.take_add_one, hi, List.all_append]
                have : alnum c = false := by unfold alnum; rw [decide_eq_false (fun h => c4' (.inl h)), decide_eq_false (fun h => c4' (.inr h))]; rfl
                simp [this]
            · refine ⟨e1, ws, h1, by omega, ?_⟩
              have c4' : (c ∈ LET.cps.toList ∨ c ∈ DIG.cps.toList) := by
                rw [← app_mem]; simpa using c4
              rw [List.take_add_one, hi, List.all_append, ha]
              have : alnum c = true := by
                unfold alnum
                rcases c4' with h | h
                · rw [decide_eq_true h]; rfl
                · rw [decide_eq_true h, Bool.or_true]
              simp [this]
          · rintro H1 ⟨e1, ws, h1, hl, ha⟩
            rw [List.take_length] at ha
            refine ⟨by decide, fun q nq => ?_⟩
            refine upd_gen nq fun H2 e2 h2 => ?_
            refine ⟨_, _, dpL (e2 _ _ h1) (dp_strs _), dpL h2 .nil, .inr (by decide), ?_⟩
            rw [PyData.eqv, eqv_nil]
            have := k H2 (e1.trans e2)
            rw [ha] at this
            cases ws <;> exact this
end
end B
namespace B
open PySem L2
abbrev SG1 : Str := " !\"#$&'()*+,-./0123456789:;<=>?@ABCDEFGHIJKLMNOPQRSTUVWXYZ[\\]^_`"
abbrev SG2 : Str := "abcdefghijklmnopqrstuvwxyz{|}~\n"
def SG : Str := SG1 ++ SG2
theorem SG_len : 0 < SG.length ∧ SG.length ≤ 200 := by decide +kernel
def spSigns : Sp := fun vs H Q _ => vs = [] ∧ Q (.str SG) H
section
variable {P : Program} {w : World} {K : PySem.W.Frag} {mg : Str → Option Value} {base : Heap}
theorem ok_signs {f : Addr} {fd : FuncData} (F : Fun K "_law_signs" "_law_signs" s_l_signs f fd) : FnOk P w K mg base CX0 1 f fd [] spSigns := by
  refine F.ok sc_l_signs (fun vs H Q E h => ?_) (fun cdv A outer s H vs Q E hr h => ⟨_, wb, ?_⟩)
  · obtain ⟨rfl, _⟩ := h
    rfl
  · obtain ⟨rfl, k⟩ := h
    refine nxt (ps_set (i := 0) sc_l_signs.nd rfl (Or.inl rfl) pe_str) ?_
    refine last (ps_ret (pe_op op_add_str (pv 0) pe_str)) ?_
    exact ⟨_, rfl, _, _, rfl, rfl, by decide +kernel, k⟩
end
end B
namespace B
open PySem L2
section
variable {P : Program} {w : World} {K : PySem.W.Frag} {mg : Str → Option Value} {base : Heap}
theorem ok_law {f : Addr} {fd : FuncData} (F : Fun K "law" "law" s_law f fd) (T : Bt mg) (D_l_start : Df P w K mg base CX0 1 "_law_start" ["_law_script"] (spStart K)) (D_l_draw : Df P w K mg base CX0 1 "_law_draw" ["_law_state", "_law_size"] spDraw)
    (D_l_signs : Df P w K mg base CX0 1 "_law_signs" [] spSigns) (D_valid_name : Df P w K mg base CX0 1 "valid_name" ["text"] spVN) (D_l_good : Df P w K mg base CX0 1 "_law_good" ["_law_word"] spGood)
    (D_valid_name_k : DfK P w K mg base CX0 1 "valid_name" ["text"] 0 ["text"] (fun _ ws => ws) (fun _ zs => zs) spVN) : FnOk P w K mg base CX0 3 f fd ["_law_script"] (spLaw K) := by
  refine F.ok sc_law (fun vs H Q E h => ?_) (fun cdv A outer s H vs Q E hr h => ⟨_, wb, ?_⟩)
  · obtain ⟨a, ns, rfl, _⟩ := h
    rfl
  · obtain ⟨a, ns, rfl, hS, hlen, k⟩ := h
    refine nxt (ps_set (i := 1) sc_law.nd rfl (Or.inr rfl) (pc D_l_start (hr.mono (by decide)) (pa_cons (pv 0) pa_nil))) ?_
    refine ⟨_, rfl, a, ns, rfl, hS, hlen, fun p H1 e1 S1 o1 => ?_⟩
    refine nxt (ps_set (i := 2) sc_law.nd rfl (Or.inl rfl) (pc D_l_draw (hr.mono (by decide)) (pa_cons (pv 1) (pa_cons pe_int pa_nil)))) ?_
    refine ⟨_, rfl, p, 999, 3, rfl, S1.le (by decide), by decide, by decide, fun plan H2 pl0 pl1 S2 k2 => ?_⟩
    refine nxt (ps_set (i := 3) sc_law.nd rfl (Or.inr rfl) pe_str) ?_
    refine nxtC (ps_if (pt_cmpR op_eq (pv 2) pe_int (nomark _)) (pss_one (ps_set (i := 3) sc_law.nd rfl (Or.inr rfl) (pc0 D_l_signs (hr.mono (by decide))))) pss_nil) (fun σ' H' => H' = H2 ∧ ∃ sg : Str, 0 < sg.length ∧ sg.length ≤ 200 ∧ σ' = [some (.ref a), some (.ref p), some (.int plan), some (.str sg), none, none, none, none]) ?_ ?_
    · refine ⟨_, rfl, rfl, _, rfl, ?_⟩
      refine ite2 (fun _ => ?_) (fun _ => ?_)
      · exact ⟨rfl, rfl, SG, SG_len.1, SG_len.2, rfl⟩
      · exact ⟨rfl, _, by decide +kernel, by decide +kernel, rfl⟩
    rintro σ' H' ⟨rfl, sg, sg0, sg1, rfl⟩
    refine nxt (ps_setLc (i := 4) (own := [("_law_k", 7)]) (g := gName 7) rfl sc_law.nd rfl rfl (sw_true rfl rfl rfl (by decide +kernel)) (pi_range1 (by rfl) T.range (pa_cons (pc D_l_draw (hr.mono (by decide)) (pa_cons (pv 1) (pa_cons (pe_ix ix_list (pe_lst (pa_cons pe_int (pa_cons pe_int (pa_cons pe_int (pa_cons pe_int pa_nil))))) (pc D_l_draw (hr.mono (by decide)) (pa_cons (pv 1) (pa_cons pe_int pa_nil))) (fun _ _ => rfl)) pa_nil))) pa_nil)) (blkOk_by (own := [("_law_k", 7)]) (N := ["_law_script", "_law_state", "_law_plan", "_law_signs_here", "_law_chars", "_law_word", "_law_actual", "_law_k"]) (sc := defScope s_law) (by decide +kernel)) (fun _ _ _ _ _ => (pg_name (i := 7) sc_law.nd rfl (Or.inl rfl))) (fun _ _ _ _ _ => pts_nil) (fun _ _ _ _ _ => (pe_ix ix_str (pv 3) (pc D_l_draw (hr.mono (by decide)) (pa_cons (pv 1) (pa_cons (pe_callB call_len_str (by rfl) T.len PySem.boot_len (pa_cons (pv 3) pa_nil)) pa_nil))) (fun _ _ => rfl)))) ?_
    refine ⟨_, rfl, (by decide), fun q nq => ?_⟩
    refine upd_gen nq fun H3 e3 h3 => ?_
    have A3 := S2.new nq e3 h3
    refine ⟨_, rfl, p, 998, 4, rfl, (S2.same e3), by decide, by decide, fun r4 H4 r40 r41 S4 k4 => ?_⟩
    obtain ⟨v, hv, hvm⟩ := at_lst (xs := [V.int 9, .int 9, .int 9, .int 80]) r40 r41
    obtain ⟨n, rfl, n0, n1⟩ : ∃ n : Int, v = .int n ∧ 0 < n ∧ n ≤ 80 := by
      simp at hvm
      rcases hvm with rfl | rfl <;> exact ⟨_, rfl, by decide, by decide⟩
    refine ⟨q, _, r4, .int n, rfl, rfl, sqL (A3.kp k4).1, hv, ?_⟩
    refine ⟨p, 997, n, rfl, S4, n0, by omega, fun cnt H5 c0 c1 S5 k5 => ?_⟩
    refine ⟨cnt, rfl, by omega, by omega, fun D nD => lc_range (lo := 0) (n := cnt.toNat) (fun i H' => Kp p H5 H' ∧ StA H' p (900 - i) ∧ ∃ ws : List Str, At p H' D (.lst (ws.map V.str)) ∧ ws.length = i ∧ ∀ c ∈ ws, c.length ≤ 1) ?_ ?_ ?_⟩
    · have e := sm_new (o := .lst []) nD
      exact ⟨S5.kp e, (S5.same e).le (by omega), [], S5.new nD e upd_same, rfl, by simp⟩
    · rintro i H6 hi ⟨k6, S6, ws, A6, hl, hw⟩
      refine ⟨rfl, ?_⟩
      refine ⟨_, rfl, _, rfl, _, rfl, sg, rfl, sz5 (by omega), p, 900 - (i + 1), _, rfl, S6.le (by omega), by omega, by omega, fun r7 H7 r70 r71 S7 k7 => ?_⟩
      obtain ⟨c, hc, _⟩ := at_str r70 r71
      refine ⟨sg, r7, c, rfl, rfl, sz5 (by omega), hc, _, (A6.kp k7).1, small1000 (by simp; omega), ?_⟩
      have nDp : D ≠ p := fun z => (A6.kp k7).2 (.inl z)
      refine ⟨(k6.trans k7).mut nD nDp, S7.upd (A6.kp k7).2, ws ++ [⟨#[c]⟩], ⟨?_, fun z => (A6.kp k7).2 ((own_mut nDp).mp z)⟩, by simp; omega, ?_⟩
      · rw [List.map_append]; exact upd_same
      · intro x hx
        rcases List.mem_append.mp hx with hx | hx
        · exact hw x hx
        · simp at hx; subst hx; exact Nat.le_refl _
    rintro H6 ⟨k6, S6, ws, A6, hl, hw⟩
    have S6 : StA H6 p 500 := S6.le (by omega)
    have hl : ws.length ≤ 80 := by omega
    refine nxtC (ps_if (PW.pt (pw_and (pt_cmpR op_eq (pv 2) pe_int (nomark _)) (pw_and1 (pt_cmpR (op_neP hr.units) (pv 4) (pe_lst pa_nil) (nomark _))))) (pss_one (ps_asg (pe_ix ix_str (pc0 D_l_signs (hr.mono (by decide))) (pc D_l_draw (hr.mono (by decide)) (pa_cons (pv 1) (pa_cons (pe_callB call_len_str (by rfl) T.len PySem.boot_len (pa_cons (pc0 D_l_signs (hr.mono (by decide))) pa_nil)) pa_nil))) (fun _ _ => rfl)) (pg_sub (pv 4) (pc D_l_draw (hr.mono (by decide)) (pa_cons (pv 1) (pa_cons (pe_callB call_len_seq (by rfl) T.len PySem.boot_len (pa_cons (pv 4) pa_nil)) pa_nil))) set_list))) pss_nil)
      (fun σ' H' => σ' = [some (.ref a), some (.ref p), some (.int plan), some (.str sg), some (.ref D), none, none, none] ∧ StA H' p 490 ∧ ∃ ws : List Str, At p H' D (.lst (ws.map V.str)) ∧ ws.length ≤ 80 ∧ ∀ c ∈ ws, c.length ≤ 1) ?_ ?_
    · refine ⟨_, rfl, rfl, _, rfl, ?_⟩
      refine ite2 (fun _ => ?_) (fun _ => ?_)
      · refine ⟨_, rfl, by decide, fun q nq => ?_⟩
        refine upd_gen nq fun H7 e7 h7 => ?_
        have A7 := A6.kp (S6.kp e7)
        refine ⟨_, _, dpL A7.1 (dp_strs _), dpL h7 .nil, .inr (by decide), _, rfl, ?_⟩
        rw [PyData.eqv, eqv_nil]
        cases ws with
        | nil => exact ⟨rfl, (S6.same e7).le (by decide), [], A7, by simp, by simp⟩
        | cons w1 wr =>
          refine iteT ?_
          refine ⟨rfl, _, rfl, rfl, SG, rfl, sz5 (by have := SG_len; omega), p, 498, _, rfl, (S6.same e7).le (by decide), (by have := SG_len; omega), (by have := SG_len; omega), fun r8 H8 r80 r81 S8 k8 => ?_⟩
          obtain ⟨c, hc, _⟩ := at_str r80 r81
          refine ⟨SG, r8, c, rfl, rfl, sz5 (by have := SG_len; omega), hc, _, rfl, _, rfl, _, rfl, D, _, rfl, .inl (sqL (A7.kp k8).1), p, 497, _, rfl, S8, ?_, ?_, fun r9 H9 r90 r91 S9 k9 => ?_⟩
          · simp <;> omega
          · simp at hl ⊢; omega
          have A9 := (A7.kp k8).kp k9
          obtain ⟨j, hj⟩ : ∃ j : Nat, r9 = (j : Int) := ⟨r9.toNat, (Int.toNat_of_nonneg r90).symm⟩
          subst hj
          have hj1 : j < ((w1 :: wr).map V.str).length := by omega
          refine ⟨D, _, _, j, rfl, rfl, A9.1, ixN_nat hj1, rfl, (S9.upd A9.2).le (by decide), (w1 :: wr).set j ⟨#[c]⟩, ?_, by simp at hl ⊢; omega, ?_⟩
          · have nDp : D ≠ p := fun z => A9.2 (.inl z)
            refine ⟨?_, fun z => A9.2 ((own_mut nDp).mp z)⟩
            rw [List.map_set]; exact upd_same
          · intro x hx
            rcases List.mem_or_eq_of_mem_set hx with hx | hx
            · exact hw x hx
            · subst hx; exact Nat.le_refl _
      · refine iteF ?_
        exact ⟨rfl, S6.le (by decide), ws, A6, hl, hw⟩
    clear hl hw A6 S6 k6
    rintro σ' H7 ⟨rfl, S7, ws, A7, hl, hw⟩
    refine nxt (ps_set (i := 5) sc_law.nd rfl (Or.inl rfl) (pe_join pe_str (pv 4))) ?_
    have hj := join0 ws hw
    have hs1 : (ws.map (·.length)).sum ≤ 80 := by
      clear hj A7
      have : (ws.map (·.length)).sum ≤ ws.length := by
        clear hl
        induction ws with
        | nil => simp
        | cons a r ih =>
          have := hw a List.mem_cons_self
          have := ih fun c hc => hw c (List.mem_cons_of_mem _ hc)
          simp only [List.map_cons, List.sum_cons, List.length_cons]; omega
      omega
    have h0 : (("" : Str)).length = 0 := by decide +kernel
    refine ⟨⟨_, rfl⟩, _, rfl, _, D, ws, rfl, rfl, .inl (sqL A7.1), (by rw [h0]; omega), ?_⟩
    refine nxtC (ps_if (pt_cmpR op_eq (pc D_l_draw (hr.mono (by decide)) (pa_cons (pv 1) (pa_cons pe_int pa_nil))) pe_int (nomark _)) (pss_one (ps_set (i := 5) sc_law.nd rfl (Or.inl rfl) (pe_ix ix_list (pe_lst (pa_cons (pe_op op_add_str (pv 5) pe_str) (pa_cons (pe_op op_add_str (pv 5) pe_str) (pa_cons (pe_op op_add_str pe_str (pv 5)) (pa_cons (pe_op op_add_str pe_str (pv 5)) pa_nil))))) (pc D_l_draw (hr.mono (by decide)) (pa_cons (pv 1) (pa_cons pe_int pa_nil))) (fun _ _ => rfl)))) pss_nil)
      (fun σ' H' => ∃ z : Str, σ' = [some (.ref a), some (.ref p), some (.int plan), some (.str sg), some (.ref D), some (.str z), none, none] ∧ z.length ≤ 90) ?_ ?_
    · refine ⟨_, rfl, p, 488, 6, rfl, S7.le (by decide), by decide, by decide, fun r8 H8 r80 r81 S8 k8 => ?_⟩
      refine ⟨rfl, _, rfl, ?_⟩
      have hz : (Txt.join "" ws).length ≤ 80 := by rw [TL.join_eq]; exact Nat.le_trans hj hl
      have la : ∀ x y : Str, (x ++ y).length = x.length + y.length := fun x y => by show (x.cps ++ y.cps).size = _; simp [Str.length]
      refine ite2 (fun _ => ?_) (fun _ => ?_)
      · have l1 : (("\n" : Str)).length = 1 := by decide +kernel
        have l2 : ((" " : Str)).length = 1 := by decide +kernel
        refine ⟨_, rfl, _, _, rfl, rfl, sz5 (by rw [l1]; omega), _, rfl, _, _, rfl, rfl, sz5 (by rw [l2]; omega), _, rfl, _, _, rfl, rfl, sz5 (by rw [l2]; omega), _, rfl, _, _, rfl, rfl, sz5 (by rw [l1]; omega), (by show 4 ≤ sizeLine; decide), fun q nq => ?_⟩
        refine upd_gen nq fun H9 e9 h9 => ?_
        have A9 := S8.new nq e9 h9
        refine ⟨_, rfl, p, 487, 4, rfl, (S8.same e9).le (by decide), by decide, by decide, fun r10 H10 r100 r101 S10 k10 => ?_⟩
        obtain ⟨v, hv, hvm⟩ := at_lst (xs := [V.str (Txt.join "" ws ++ "\n"), .str (Txt.join "" ws ++ " "), .str (" " ++ Txt.join "" ws), .str ("\n" ++ Txt.join "" ws)]) r100 r101
        refine ⟨q, _, r10, v, rfl, rfl, sqL (A9.kp k10).1, hv, ?_⟩
        simp only [List.mem_cons, List.not_mem_nil, or_false] at hvm
        rcases hvm with rfl | rfl | rfl | rfl
        · exact ⟨_, rfl, by rw [la, l1]; omega⟩
        · exact ⟨_, rfl, by rw [la, l2]; omega⟩
        · exact ⟨_, rfl, by rw [la, l2]; omega⟩
        · exact ⟨_, rfl, by rw [la, l1]; omega⟩
      · exact ⟨_, rfl, by omega⟩
    rintro σ' H8 ⟨z, rfl, hz⟩
    refine nxt (ps_set (i := 6) sc_law.nd rfl (Or.inl rfl) (pc D_valid_name (hr.mono (by decide)) (pa_cons (pv 5) pa_nil))) ?_
    refine ⟨_, rfl, z, rfl, by omega, ?_⟩
    refine nxtN (ps_if (PW.pt (pw_or (pt_not (pt_val (pe_callB call_isi (by rfl) T.isinstance (by decide +kernel) (pa_cons (pv 6) (pa_cons (pe_bltn (v := .ty "bool") (by rfl) T.bool (by decide +kernel) rfl) pa_nil))))) (pw_or1 (pt_cmpR op_ne (pv 6) (pc D_l_good (hr.mono (by decide)) (pa_cons (pv 5) pa_nil)) (nomark _))))) (pss_one (ps_ret pe_bl)) pss_nil) fun N hN => ?_
    refine ⟨_, rfl, _, _, _, _, _, rfl, .ty "bool", .base (.bl _), kit_ty (r := true) (by decide +kernel), _, rfl, ?_⟩
    refine ⟨_, rfl, _, rfl, z, rfl, by omega, fun H9 e9 => ?_⟩
    refine ⟨rfl, _, rfl, ?_⟩
    refine iteNS rfl ?_
    refine hN _ _ ?_
    refine last (ps_ret (pe_cmpR op_eq (pcK0 D_valid_name_k (hr.mono (by decide)) (pk_cons (pe_revS (pv 5)) pk_nil)) (pc D_l_good (hr.mono (by decide)) (pa_cons (pe_revS (pv 5)) pa_nil)) (nomark _))) ?_
    have hzr : (revS z).length ≤ 90 := by
      have : (revS z).length = z.length := by simp [revS, Str.length]
      omega
    refine ⟨_, rfl, z, rfl, sz5 (by omega), rfl, rfl, revS z, rfl, by omega, _, rfl, z, rfl, sz5 (by omega), revS z, rfl, by omega, fun H10 e10 => ?_⟩
    refine ⟨rfl, ?_⟩
    have e : decide (V.bl (vn (revS z)) = V.bl (vn (revS z))) = true := decide_eq_true rfl
    rw [e]
    exact k H10
end
theorem all_mk {P : Program} {w : World} {K : PySem.W.Frag} {h : Heap} {mg : Str → Option Value} {fa f1 f2 f3 f4 f5 f6 : Addr} (X : K.In h) (G : h.Ns mainGlobals mg) (hfa : mg "law" = some (.ref fa))
    {t1 t2 t3 : Tok} (d1 : Dt K "valid_name" s_valid_name f1) (d2 : Dt K "_law_start" s_l_start f2) (d3 : Dt K "_law_draw" s_l_draw f3) (d4 : Dt K "_law_signs" s_l_signs f4) (d5 : Dt K "_law_good" s_l_good f5) (d6 : Dt K "law" s_law f6)
    (c1 : PySem.W.nsIn K mainGlobals "LETTERS" = some (some (.str LET t1))) (c2 : PySem.W.nsIn K mainGlobals "DIGITS" = some (some (.str DIG t2))) (c3 : PySem.W.nsIn K mainGlobals "LONGEST" = some (some (.int 6 t3))) (T : Bt mg) :
    ∃ fd : FuncData, (∀ (s : Shared) (v : Value), BindsTo s fd ⟨[v], []⟩ [("_law_script", v)]) ∧ ∀ base : Heap, K.In base → base.Ns mainGlobals mg → FnOk P w K mg base CX0 3 fa fd ["_law_script"] (spLaw K) := by
  have e := hfa.symm.trans (PySem.W.mg_of X G d6.a)
  cases e
  obtain ⟨fd, F, kV, doc, pm, an, cdv, ct, e⟩ := d6.fun
  subst e
  refine ⟨_, fun s v => .of_eq rfl, fun base _ _ => ok_law F T ?_ ?_ ?_ ?_ ?_ ?_⟩
  · exact df_mk d2 (PySem.W.mg_of X G d2.a) (fun fd F => ok_start F T) fun _ _ _ _ _ _ us hl => match us, hl with | [_], _ => rfl
  · exact df_mk d3 (PySem.W.mg_of X G d3.a) (fun fd F => ok_draw F T) fun _ _ _ _ _ _ us hl => match us, hl with | [_, _], _ => rfl
  · exact df_mk d4 (PySem.W.mg_of X G d4.a) (fun fd F => ok_signs F) fun _ _ _ _ _ _ us hl => match us, hl with | [], _ => rfl
  · exact df_mk d1 (PySem.W.mg_of X G d1.a) (fun fd F => ok_valid_name F T ⟨_, PySem.W.mg_of X G c1⟩ ⟨_, PySem.W.mg_of X G c2⟩ ⟨_, PySem.W.mg_of X G c3⟩) fun _ _ _ _ _ _ us hl => match us, hl with | [_], _ => rfl
  · exact df_mk d5 (PySem.W.mg_of X G d5.a) (fun fd F => ok_good F T) fun _ _ _ _ _ _ us hl => match us, hl with | [_], _ => rfl
  · refine dfk_mk d1 (PySem.W.mg_of X G d1.a) (fun fd F => ok_valid_name F T ⟨_, PySem.W.mg_of X G c1⟩ ⟨_, PySem.W.mg_of X G c2⟩ ⟨_, PySem.W.mg_of X G c3⟩) fun _ _ _ _ _ _ => ⟨fun s us ws _ h1 h2 => match us, h1, ws, h2 with | [], _, [_], _ => .of_eq rfl, fun _ r => r⟩
open PySem PySem.W PyProof.Rows
end B
open PySem PySem.W PyProof.Rows
theorem PySem.Challenge.cw_bundlekinds_k01_valid_names_holds : PySem.Challenge.rw_bundlekinds_k01_valid_names.Holds := by
  w_on; o_law; k_head; (case hw => w_witness2)
  k_fill
  refine B.walk (k := 3) (l := PySem.Challenge.rw_bundlekinds_k01_valid_names) ⟨rfl, by decide, by decide⟩ rfl rfl (fun w h Y => PySem.W.kIn_of Y) ?F
  case F =>
    intro w mg fa h KX G hmg
    have T : B.Bt mg := by
      constructor
      all_goals (refine mg_none_of KX G ?_; k_is)
    refine' B.all_mk KX G hmg (B.dt_mk ?a1 ?l1 ?b1 ?k1) (B.dt_mk ?a2 ?l2 ?b2 ?k2) (B.dt_mk ?a3 ?l3 ?b3 ?k3) (B.dt_mk ?a4 ?l4 ?b4 ?k4) (B.dt_mk ?a5 ?l5 ?b5 ?k5) (B.dt_mk ?a6 ?l6 ?b6 ?k6) ?c1 ?c2 ?c3 T
    (case a1 => k_is); (case l1 => k_is); (case b1 => k_is); (case k1 => k_is)
    (case a2 => k_is); (case l2 => k_is); (case b2 => k_is); (case k2 => k_is)
    (case a3 => k_is); (case l3 => k_is); (case b3 => k_is); (case k3 => k_is)
    (case a4 => k_is); (case l4 => k_is); (case b4 => k_is); (case k4 => k_is)
    (case a5 => k_is); (case l5 => k_is); (case b5 => k_is); (case k5 => k_is)
    (case a6 => k_is); (case l6 => k_is); (case b6 => k_is); (case k6 => k_is)
    (case c1 => k_is); (case c2 => k_is); (case c3 => k_is)
#print axioms PySem.Challenge.cw_bundlekinds_k01_valid_names_holds
