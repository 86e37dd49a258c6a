import PyProof.Rows.All
import Wide.All
import OpenK.AllK
import Wide.FinOn
import KE.KRevSl
import HandS.ForMost
import HandS.ForExc
import HandS.Walk
import HandS.Wide
import HandS.IsInst
import HandS.Style
import KE.KEqNest
import HandS.GenBody
import HandS.GenYield
import HandS.GenOver
import HandS.GenList
import HandS.GenCall
import HandS.StrSplit
import HandS.Star
import HandS.OwnEq
import HandS.HotCalls
import HandS.ClsMeth
import HandS.ExcInit
import HandS.ExcField
import HandS.Property
import HandS.Defaults
import HandS.MakeKwOnly
import HandS.FStr
import HandS.CallSlots
import KE.KOpsOwn
import KE.KCallOwn
import HandS.Codes
import HandS.ExcOwn
import KE.KExcIs
import KE.IntBitsLaws
import HandS.ExcIs
import HandS.TupAny
import HandS.Deep
import HandS.DictComp
import HandS.SetKeys
import HandS.SortRule
import HandS.SetBool
import HandS.More
import HandS.Strs
import KE.KSortTupAny
import HandS.DeepEq
import HandS.Set
import HandS.SetFor
import KE.GoesMore
import PySem.Challenge.RW_extralink_k92_book_refusals
set_option Elab.async false
set_option linter.all false
set_option maxRecDepth 100000
set_option maxHeartbeats 4000000

namespace Xl
open PySem PySem.Spec PyProof.Rows L2

/-! ### calls of the text's own defs, bundled -/
structure FnI (P : Program) (w : World) (K : PySem.W.Frag) (mg : Str → Option Value) (base : Heap) (x : Str) (k : Nat) (ps : List Str) (sp : Sp) : Prop where
  ex : ∃ f fd, FnOk P w K mg base (L2.CX P w) k f fd ps sp ∧ mg x = some (.ref f) ∧ PySem.W.keepIn K (.ref f) = true ∧ Binds K fd ps []
/-- .. called by keywords alone, one keyword -/
structure FnK (P : Program) (w : World) (K : PySem.W.Frag) (mg : Str → Option Value) (base : Heap) (x : Str) (k : Nat) (ps : List Str) (sp : Sp) : Prop where
  ex : ∃ f fd, FnOk P w K mg base (L2.CX P w) k f fd ps sp ∧ mg x = some (.ref f) ∧ PySem.W.keepIn K (.ref f) = true ∧ ∀ (s : Shared) (ws : List Value), ws.length = ps.length → BindsTo s fd ⟨[], ps.zip ws⟩ (ps.zip ws)

section
variable {X : Cx} {k : Nat} {ps : List Str} {sp : Sp} {E : XK} {x : Str} {p pos : Pos} {e : Expr} {es : List Expr} {t : TA} {te : TE}
theorem pe_f (F : FnI X.prog X.w X.K X.mg X.base x k ps sp) (hr : Room k X.A) (hx : Passes (L2.CX X.prog X.w) X E) (ha : PA X (e :: es) t) (hg : Gl X x := by rfl)
    (hdb : (x == ("__debug__" : Str)) = false := by decide) (he : starEach (e :: es) X.env = (false, eval e X.env) :: starEach es X.env := by rfl) (hpl : (backTo pos (starEach es X.env)).any (·.1) = false := by rfl) :
    PE X (.Call (.Name x p) (e :: es) [] pos) (tCall sp [] E t) := by
  obtain ⟨f, fd, h1, h2, h3, h4⟩ := F.ex
  exact pe_call h1 hr hg h2 h3 h4 .nil hx ha hdb he hpl
theorem pe_f0 (F : FnI X.prog X.w X.K X.mg X.base x k ps sp) (hr : Room k X.A) (hx : Passes (L2.CX X.prog X.w) X E) (hg : Gl X x := by rfl)
    (hdb : (x == ("__debug__" : Str)) = false := by decide) : PE X (.Call (.Name x p) [] [] pos) (tCall sp [] E tNil) := by
  obtain ⟨f, fd, h1, h2, h3, h4⟩ := F.ex
  exact pe_call0 h1 hr hg h2 h3 h4 .nil hx hdb
/-- f(k = v, ..), all parameters by keyword in their order -/
def tCallW (n : Nat) (sp : Sp) (E : XK) (tk : TA) : TE := fun σ H Q => tk σ H fun zs H2 => zs.length = n ∧ sp zs H2 Q E
theorem pe_fK {kws : List Keyword} {tk : TA} (F : FnK X.prog X.w X.K X.mg X.base x k ps sp) (hr : Room k X.A) (hx : Passes (L2.CX X.prog X.w) X E) (hkw : PK X kws tk) (hg : Gl X x := by rfl)
    (hall : (backToKw pos (keywordEach kws X.env)).all (·.1.isSome) = true := by rfl) (hks : (backToKw pos (keywordEach kws X.env)).filterMap (·.1) = ps := by rfl) (hdb : (x == ("__debug__" : Str)) = false := by decide)
    (hpl : ((backTo pos (starEach [] X.env)).any (·.1) || (backToKw pos (keywordEach kws X.env)).any (·.1.isNone)) = false := by rfl) :
    PE X (.Call (.Name x p) [] kws pos) (tCallW ps.length sp E tk) := by
  obtain ⟨f, fd, h1, h2, h3, h4⟩ := F.ex
  refine ⟨fun pins s σ H Q I h => ?_⟩
  refine wpAny_Call_Name_kw (ld_glob I hg h2 ?_ hdb)
  refine PySem.W.callWith_KW0 (h₀ := X.base) I.ok.mod.kin h3 hall ?_ hpl
  refine thn (hkw.run pos pins s σ H _ I h) fun ws s2 ⟨zs, H2, I2, rz, l1, q2⟩ => ⟨I2.kIn, ?_⟩
  rw [hks]
  refine wpAny_call (codeAny_mono (h1.run X.A X.stack s2 H2 ⟨[], ps.zip ws⟩ ws zs Q E hr I2.env0 (h4 s2 ws (by rw [← rz.length]; exact l1)) rz q2) fun r s' hq => ?_)
  cases r with
  | error e => exact hx pins σ H2 s2 e s' I2 hq
  | ok fl =>
    cases fl with
    | ret u => exact I2.after hq
    | next => exact False.elim hq
    | brk => exact False.elim hq
    | cont => exact False.elim hq
/-- a constant of the module -/
theorem pe_gl {v : V} (h : ∃ u, X.mg x = some u ∧ RelV v u) (hg : Gl X x := by rfl) (hd : (x == ("__debug__" : Str)) = false := by decide) : PE X (.Name x pos) (tC v) := by
  obtain ⟨u, h1, h2⟩ := h
  exact pe_glob hg h1 h2 hd
/-- a class of the module -/
theorem pe_cls {C : Addr} (h : X.mg x = some (.ref C)) (hg : Gl X x := by rfl) (hd : (x == ("__debug__" : Str)) = false := by decide) : PE X (.Name x pos) (tC (.ref C)) := pe_glob (v := .ref C) hg h rfl hd
/-- a list's item as the old value of an item assignment with an operator -/
theorem get_list : PGet X (rIxL X.K) := by
  intro pins s σ H o i ov iv Q I ro ri h
  obtain ⟨p, xs, k, v, rfl, rfl, hq, ha, q⟩ := h
  cases ro
  obtain ⟨t, rfl⟩ := ri
  obtain ⟨its, r, pl, hz⟩ := I.list hq
  obtain ⟨j, h1, h2, h3, h4, h5⟩ := atI_get ha
  obtain ⟨w, ew, rw'⟩ := r.get h2
  have hl := r.length
  have hn := line63
  have fin : EP X pins σ Q w s := ⟨v, H, I, rw', q⟩
  by_cases h0 : 0 ≤ k
  · have hj : k.toNat = j := by
      rw [seqIndex_of h0 h5] at h1
      exact Option.some.inj h1
    exact wpAny_getItem_list pl.isList h0 (by omega) (by rw [hj]; simpa using ew) fin
  · have hj : (k + (its.toArray.size : Int)).toNat = j := by
      rw [seqIndex_neg (by omega) h4] at h1
      rw [List.size_toArray, ← hl]
      exact Option.some.inj h1
    exact wpAny_getItem_list_neg pl.isList (by omega) (by rw [List.size_toArray] <;> omega) (by omega) (by rw [hj]; simpa using ew) fin
/-- text[::-1] -/
def revS (z : Str) : Str := Txt.sliceBy z none none (-1, 0)
theorem revS_len (z : Str) : (revS z).length ≤ z.length := Txt.sliceBy_le z none none (-1, 0) (show (-1 : Int) ≠ 0 by decide)
def tRevS (te : TE) : TE := fun σ H Q => te σ H fun x H1 => ∃ z, x = .str z ∧ z.length ≤ sizeLine ∧ Q (.str (revS z)) H1
theorem pe_revS {k : Nat} {p1 p2 p3 : Pos} (he : PE X e te) : PE X (.Subscript e (.Slice none none (some (.UnaryOp .USub (.Constant (.int 1) k p1) p2)) p3) pos) (tRevS te) := by
  refine ⟨fun pins s σ H Q I h => ?_⟩
  refine Subscript_ (thn (he.run pins s σ H _ I h) fun v s1 ⟨x, H1, I1, r1, q1⟩ => ?_)
  obtain ⟨z, rfl, hz, q⟩ := q1
  obtain ⟨tz, rfl⟩ := r1
  have hst : PO X (some (.UnaryOp .USub (.Constant (.int 1) k p1) p2)) (tPart (tUn (rU fun i => .int (-i)) (tC (.int 1)))) := po_some (pe_un un_neg pe_int)
  refine wpAny_Slice (thn (po_none.run pins s1 σ H1 (fun o H2 => o = none ∧ H2 = H1) I1 ⟨rfl, rfl⟩) fun vl s2 ⟨l, H2, I2, pl, el, e2⟩ => ?_)
  subst el e2
  refine thn (po_none.run pins s2 σ H2 (fun o H3 => o = none ∧ H3 = H2) I2 ⟨rfl, rfl⟩) fun vu s3 ⟨u, H3, I3, pu, eu, e3⟩ => ?_
  subst eu e3
  refine thn (hst.run pins s3 σ H3 (fun o H4 => o = some (-1) ∧ H4 = H3) I3 ⟨1, rfl, -1, rfl, rfl, rfl⟩) fun vs s4 ⟨o, H4, I4, ps, eo, e4⟩ => ?_
  subst eo e4
  have I5 : Inv X pins σ H4 { s4 with heap := s4.heap.push { cls := .type "slice", data := .fields #[vl, vu, vs] } } := I4.kept (t' := s4.toks) fun b ob q => Heap.get?_push_of_some _ q
  obtain ⟨l, rfl, e1⟩ := IsPart.raw pl
  obtain ⟨u, rfl, e2⟩ := IsPart.raw pu
  obtain ⟨st, rfl, e3⟩ := IsPart.raw ps
  cases l with
  | some _ => cases e1
  | none =>
  cases u with
  | some _ => cases e2
  | none =>
  cases st with
  | none => cases e3
  | some st =>
    obtain ⟨k0, uk⟩ := st
    have ek : k0 = -1 := Option.some.inj e3
    subst ek
    show wpAny (model X.prog X.w) X.A (subscriptTail e (.Slice none none (some (.UnaryOp .USub (.Constant (.int 1) k p1) p2)) p3) (.str z tz) (.ref s4.heap.objs.size)) (EP X pins σ Q) X.xe { s4 with heap := s4.heap.push { cls := .type "slice", data := .fields #[.none, .none, .int (-1) uk] } }
    refine tail_any (ops := [.ref s4.heap.objs.size, .str z tz]) (typeIs_str _ _ _) F.slot_str_getitem.lookup ?_ (by with_unfolding_all rfl)
    refine wpAny_getItem_str_slice (l := none) (u := none) (st := some (-1, uk)) ⟨_, Heap.get?_push_size _ rfl, rfl, rfl⟩ rfl ?_
    have hl : (Txt.sliceBy z none none (-1, uk)).length ≤ z.length := Txt.sliceBy_le z none none (-1, uk) (show (-1 : Int) ≠ 0 by decide)
    exact post_val_or_str ⟨Nat.le_trans hl hz, fun t' c => ⟨.str (Txt.sliceBy z none none (-1, uk)), H4, I5.tok c, ⟨_, rfl⟩, q⟩⟩
end
theorem passL' {X : Cx} : Passes (L2.CX X.prog X.w) X E0 := passL

section
variable {P : Program} {w : World} {K : PySem.W.Frag} {mg : Str → Option Value} {base : Heap}
/-- a def that lets nothing out, among defs that may -/
theorem okN {x qual : Str} {st : Stmt} {f : Addr} {fd : FuncData} {N ps : List Str} {k : Nat} {sp : Sp} (F : Fun K x qual st f fd) (S : FnScope N ps (defScope st)) (len : ∀ vs H Q E, sp vs H Q E → vs.length = ps.length)
    (hbody : ∀ (cdv : Value) (A : Around) (outer : List Env) (s : Shared) (H : Hp) (vs : List V) (Q : VK) (E : XK), Room k (A.deeper (envOfC qual (defScope st) s.heap.objs.size f cdv)) → sp vs H Q E →
      ∃ t, PSs (cxOf (L2.CX P w) P w K mg base N qual (defScope st) f cdv A outer s H E).nox (defBody st) t ∧ t { nx := fun _ H' => Q .non H', rt := Q } (start N vs) H) : FnOk P w K mg base (L2.CX P w) (k + 1) f fd ps sp := by
  refine F.okX S len fun cdv A outer s H vs Q E hr h => ?_
  obtain ⟨t, h1, h2⟩ := hbody cdv A outer s H vs Q E hr h
  exact ⟨t, h1.nox, h2⟩
end
/-! ### a statement and what follows, joined by a word of one's own -/
def tCut (t u : TS) : TS := fun D σ H => ∃ R : L2.St → Hp → Prop, t { D with nx := R } σ H ∧ ∀ σ' H', R σ' H' → u D σ' H'
theorem pss_cut {X : Cx} {st : Stmt} {rest : List Stmt} {t u : TS} (h1 : PS X st t) (h2 : PSs X rest u) : PSs X (st :: rest) (tCut t u) := by
  refine ⟨fun pins s σ H D I h => ?_⟩
  obtain ⟨R, h, k⟩ := h
  refine wpAny_execs_cons (thn (h1.run pins s σ H { D with nx := R } I h) fun f s1 q => ?_)
  cases f with
  | next =>
    obtain ⟨σ', H', I', q⟩ := q
    exact h2.run pins s1 σ' H' D I' (k σ' H' q)
  | ret v => exact q
  | brk => exact q
  | cont => exact q
theorem iteY {b : Bool} {A B : Prop} (h : b = true) (a : A) : if b = true then A else B := by
  rw [if_pos h]; exact a
theorem iteN {b : Bool} {A B : Prop} (h : b = false) (a : B) : if b = true then A else B := by
  rw [if_neg (by rw [h]; exact Bool.false_ne_true)]; exact a
theorem iteB {b : Bool} {A B : Prop} (h1 : b = true → A) (h2 : b = false → B) : if b = true then A else B := by
  cases b with
  | true => exact iteT (h1 rfl)
  | false => exact iteF (h2 rfl)
theorem bnt {b : Bool} (h : (!b) = true) : b = false := by cases b with | true => cases h | false => rfl
theorem bnf {b : Bool} (h : (!b) = false) : b = true := by cases b with | true => rfl | false => cases h
/-! ### readings made monotone -/
def taM (t : TA) : TA := fun σ H Q => ∃ R : List V → Hp → Prop, t σ H R ∧ ∀ vs H1, R vs H1 → Q vs H1
theorem pa_mono {X : Cx} {es : List Expr} {t : TA} (h : PA X es t) : PA X es (taM t) := ⟨fun pos pins s σ H Q I ⟨R, q, k⟩ => thn (h.run pos pins s σ H R I q) fun us s' ⟨vs, H', I', r, z⟩ => ⟨vs, H', I', r, k vs H' z⟩⟩
def teM (t : TE) : TE := fun σ H Q => ∃ R : VK, t σ H R ∧ ∀ v H1, R v H1 → Q v H1
theorem pe_mono {X : Cx} {e : Expr} {t : TE} (h : PE X e t) : PE X e (teM t) := ⟨fun pins s σ H Q I ⟨R, q, k⟩ => thn (h.run pins s σ H R I q) fun u s' ⟨v, H', I', r, z⟩ => ⟨v, H', I', r, k v H' z⟩⟩
/-! ### a new object: the heap behind it as a letter -/
def New (H : Hp) (p : Addr) (o : HO) (H' : Hp) : Prop := H p = none ∧ H' = upd H p o
theorem Same.at {H H' : Hp} {b : Addr} {o : HO} (s : Same H H') (h : H b = some o) : H' b = some o := s b o h
section
variable {H H' : Hp} {p b : Addr} {o u : HO}
theorem New.same (n : New H p o H') : Same H H' := fun b u e => by
  obtain ⟨h, rfl⟩ := n
  rw [upd_ne (ne_of_none e h)]
  exact e
theorem New.at (n : New H p o H') : H' p = some o := by
  obtain ⟨h, rfl⟩ := n
  exact upd_same
theorem New.ne (n : New H p o H') (h : H b = some u) : b ≠ p := ne_of_none h n.1
theorem New.none (n : New H p o H') (h : H' b = none) : H b = none := n.same.free h
theorem new_of (h : H p = none) : New H p o (upd H p o) := ⟨h, rfl⟩
end
section
variable {X : Cx} {a b e : Expr} {ta tb te : TE} {pos : Pos} {t : TA} {es : List Expr}
theorem PE.imp {t t' : TE} (h : PE X e t) (i : ∀ σ H Q, t' σ H Q → t σ H Q) : PE X e t' := ⟨fun pins s σ H Q I q => h.run pins s σ H Q I (i σ H Q q)⟩
theorem OpR.imp {f : Value → Value → Sem Value} {r r' : R2} (h : OpR X f r) (i : ∀ x y H Q, r' x y H Q → r x y H Q) : OpR X f r' := fun pins s σ H x y v u Q I rx ry q => h pins s σ H x y v u Q I rx ry (i _ _ _ _ q)
theorem CallR.imp {f : Value} {r r' : List V → Hp → VK → Prop} (h : CallR X f r) (i : ∀ xs H Q, r' xs H Q → r xs H Q) : CallR X f r' := fun pins s σ H xs us Q I rx q => h pins s σ H xs us Q I rx (i _ _ _ q)
theorem SlR.imp {r r' : V → Option Int → Option Int → Hp → VK → Prop} (h : SlR X r) (i : ∀ x l u H Q, r' x l u H Q → r x l u H Q) : SlR X r' := fun pins s σ H x v vl vu lo hi sl Q I rx hs pl pu q => h pins s σ H x v vl vu lo hi sl Q I rx hs pl pu (i _ _ _ _ _ q)
def tTupN (t : TA) : TE := fun σ H Q => t σ H fun xs H1 => xs.length ≤ sizeLine ∧ ∀ p H', New H1 p (.tup xs) H' → Q (.ref p) H'
def tLstN (t : TA) : TE := fun σ H Q => t σ H fun xs H1 => xs.length ≤ sizeLine ∧ ∀ p H', New H1 p (.lst xs) H' → Q (.ref p) H'
theorem pe_tupN {x1} (h : PA X es t) : PE X (.Tuple es x1 pos) (tTupN t) := by
  refine ⟨fun pins s σ H Q I hq => ?_⟩
  refine wpAny_Tuple_spliced (thn (h.run pos pins s σ H _ I hq) fun us s1 ⟨xs, H1, I1, r, z, q⟩ => ⟨by rw [← r.length]; exact z, ?_⟩)
  have hf : H1 s1.heap.objs.size = none := I1.hok.fresh (Nat.le_refl _)
  refine ⟨.ref s1.heap.objs.size, upd H1 s1.heap.objs.size (.tup xs), I1.laid (t' := s1.toks) (fun b u e => Heap.get?_push_of_some _ e) (Nat.le_refl _) ?_, rfl, q _ _ (new_of hf)⟩
  exact ⟨z, us, r, ⟨_, Heap.get?_push_size _ rfl, rfl, _, rfl⟩⟩
theorem pe_lstN (h : PA X es t) : PE X (.List es pos) (tLstN t) := by
  refine ⟨fun pins s σ H Q I hq => ?_⟩
  refine wpAny_List_spliced (thn (h.run pos pins s σ H _ I hq) fun us s1 ⟨xs, H1, I1, r, z, q⟩ => ⟨by rw [← r.length]; exact z, ?_⟩)
  have hf : H1 s1.heap.objs.size = none := I1.hok.fresh (Nat.le_refl _)
  refine ⟨.ref s1.heap.objs.size, upd H1 s1.heap.objs.size (.lst xs), I1.laid (t' := s1.toks) (fun b u e => Heap.get?_push_of_some _ e) (Nat.le_refl _) ?_, rfl, q _ _ (new_of hf)⟩
  exact ⟨z, us, 0, r, Heap.get?_push_size _ rfl⟩
def rCatN : R2 := fun x y H Q => ∃ l b xs zs, x = .ref l ∧ y = .ref b ∧ H l = some (.lst xs) ∧ H b = some (.lst zs) ∧ xs.length + zs.length ≤ sizeLine ∧ ∀ p H', New H p (.lst (xs ++ zs)) H' → Q (.ref p) H'
theorem op_catN : OpR X (binaryOp .Add) rCatN := OpR.imp op_cat fun x y H Q ⟨l, b, xs, zs, h1, h2, h3, h4, h5, q⟩ => ⟨l, b, xs, zs, h1, h2, h3, h4, h5, fun p hp => q p _ (new_of hp)⟩
theorem call_list_ofN : CallR X (.type "list") (fun xs H Q => ∃ p ys, xs = [.ref p] ∧ (SqL X.K H p ys ∨ SqT X.K H p ys) ∧ ∀ l H', New H l (.lst ys) H' → Q (.ref l) H') :=
  CallR.imp call_list_of fun xs H Q ⟨p, ys, h1, h2, q⟩ => ⟨p, ys, h1, h2, fun l hl => q l _ (new_of hl)⟩
def rSlLN (K : PySem.W.Frag) : V → Option Int → Option Int → Hp → VK → Prop := fun x lo hi H Q => ∃ a xs, x = .ref a ∧ SqL K H a xs ∧ ∀ p H', New H p (.lst (cutV xs lo hi)) H' → Q (.ref p) H'
theorem sl_listN : SlR X (rSlLN X.K) := SlR.imp sl_list fun x l u H Q ⟨a, xs, h1, h2, q⟩ => ⟨a, xs, h1, h2, fun p hp => q p _ (new_of hp)⟩
end

/-! ### data that == takes: its depth -/
def Lay (n : Nat) (d : PyData) : Prop := d.canLay0 = true ∧ d.depth ≤ n
theorem lay_all {n : Nat} : ∀ {ds : List PyData}, (∀ d ∈ ds, Lay n d) → PyData.canLayAll0 ds = true ∧ PyData.depthAll ds ≤ n
  | [], _ => by simp [PyData.canLayAll0, PyData.depthAll]
  | d :: ds, h => by
    have h1 := lay_all (ds := ds) fun x hx => h x (List.mem_cons_of_mem _ hx)
    have h2 := h d (List.mem_cons_self ..)
    simp only [PyData.canLayAll0, PyData.depthAll, h1.1, h2.1]
    refine ⟨rfl, ?_⟩
    have := h1.2
    have := h2.2
    omega
theorem lay_list {n : Nat} {ds : List PyData} (h : ∀ d ∈ ds, Lay n d) : Lay (n + 1) (.list ds) := by
  obtain ⟨h1, h2⟩ := lay_all h
  refine ⟨by simp only [PyData.canLay0]; exact h1, ?_⟩
  simp only [PyData.depth]
  omega
theorem lay_tuple {n : Nat} {ds : List PyData} (h : ∀ d ∈ ds, Lay n d) : Lay (n + 1) (.tuple ds) := by
  obtain ⟨h1, h2⟩ := lay_all h
  refine ⟨by simp only [PyData.canLay0]; exact h1, ?_⟩
  simp only [PyData.depth]
  omega
theorem lay_int (i : Int) : Lay 1 (.int i) := ⟨by simp [PyData.canLay0], by simp [PyData.depth]⟩
theorem lay_str {i : Str} (h : PyData.strOk i = true) : Lay 1 (.str i) := ⟨by simpa [PyData.canLay0] using h, by simp [PyData.depth]⟩
theorem lay_bool (i : Bool) : Lay 1 (.bool i) := ⟨by simp [PyData.canLay0], by simp [PyData.depth]⟩
theorem shaped_of {n : Nat} {d : PyData} (h : Lay n d) (hn : n ≤ 64) : SeqAt.shaped d = true := by
  unfold SeqAt.shaped
  rw [Bool.and_eq_true]
  exact ⟨h.1, decide_eq_true (Nat.le_trans h.2 hn)⟩
theorem dpAll_ints {K : PySem.W.Frag} {H : Hp} : ∀ ns : List Int, DpAll K H (ns.map V.int) (ns.map PyData.int)
  | [] => .nil
  | n :: ns => .cons (.int n) (dpAll_ints ns)
theorem shaped_ints (ns : List Int) : SeqAt.shaped (.list (ns.map PyData.int)) = true := shaped_of (lay_list (n := 1) fun d hd => by
  obtain ⟨i, _, rfl⟩ := List.mem_map.mp hd
  exact lay_int i) (by decide)
theorem shaped_nil : SeqAt.shaped (.list []) = true := shaped_ints []
theorem eqv_nil : ∀ ds : List PyData, PyData.eqv (.list ds) (.list []) = ds.isEmpty
  | [] => by simp [PyData.eqv, PyData.eqvAll]
  | d :: ds => by simp [PyData.eqv, PyData.eqvAll]
/-- xs == [], xs != [], whatever stands in xs -/
def rEqNil (neg : Bool) : R2 := fun x y H Q => ∃ l b, ∃ xs : List V, x = .ref l ∧ y = .ref b ∧ H l = some (.lst xs) ∧ H b = some (.lst []) ∧ Q (.bl (neg ^^ xs.isEmpty)) H
theorem nil_all {xs : List V} {its ity : List Value} (r : Vals xs its) (r2 : Vals [] ity) (h : xs = []) : its.toArray.size = ity.toArray.size ∧ (List.range its.toArray.size).all (fun _ => true) = true := by
  subst h
  cases r
  cases r2
  exact ⟨rfl, rfl⟩
theorem op_eqNil {X : Cx} (hu : X.A.units + 64 < cLine) : OpR X (compareOp .Eq) (rEqNil false) := by
  intro pins s σ H x y v u Q I rx ry h
  obtain ⟨l, b, xs, rfl, rfl, h1, h2, q⟩ := h
  cases rx
  cases ry
  obtain ⟨its, r, p, _⟩ := I.list (SqL.of h1)
  obtain ⟨ity, r2, p2, _⟩ := I.list (SqL.of h2)
  have hu' : X.A.units < cLine := by omega
  cases xs with
  | nil =>
    obtain ⟨e1, e2⟩ := nil_all r r2 rfl
    refine SeqAt.eq_listAt (e := fun _ => true) p.isList p2.isList e1 hu' (fun j j1 _ => ?_) (by rw [e2]; exact ⟨.bl true, H, I, rfl, q⟩)
    cases r
    exact absurd j1 (Nat.not_lt_zero _)
  | cons a t =>
    refine SeqAt.eq_list_lengthsAt p.isList p2.isList ?_ hu' ⟨.bl false, H, I, rfl, q⟩
    cases r
    cases r2
    rfl
theorem op_neNil {X : Cx} (hu : X.A.units + 64 < cLine) : OpR X (compareOp .NotEq) (rEqNil true) := by
  intro pins s σ H x y v u Q I rx ry h
  obtain ⟨l, b, xs, rfl, rfl, h1, h2, q⟩ := h
  cases rx
  cases ry
  obtain ⟨its, r, p, _⟩ := I.list (SqL.of h1)
  obtain ⟨ity, r2, p2, _⟩ := I.list (SqL.of h2)
  have hu' : X.A.units < cLine := by omega
  cases xs with
  | nil =>
    obtain ⟨e1, e2⟩ := nil_all r r2 rfl
    refine SeqAt.RcNeAt.lists (e := fun _ => true) p.isList p2.isList e1 hu' (fun j j1 _ => ?_) _ _ _ _ (by rw [e2]; exact ⟨.bl false, H, I, rfl, q⟩)
    cases r
    exact absurd j1 (Nat.not_lt_zero _)
  | cons a t =>
    refine SeqAt.RcNeAt.lists_lengths p.isList p2.isList ?_ hu' _ _ _ _ ⟨.bl true, H, I, rfl, q⟩
    cases r
    cases r2
    rfl

/-! ### the drawing state: its footprint F, and what is left alone -/
abbrev Fp := Addr → Prop
def Own (st l0 l1 : Addr) : Fp := fun b => b = st ∨ b = l0 ∨ b = l1
/-- from (F, H) to (F', H'): what was tracked outside of F stands; F' has grown by new objects alone -/
structure Fr (F : Fp) (H : Hp) (F' : Fp) (H' : Hp) : Prop where
  keep : ∀ b o, H b = some o → ¬ F b → H' b = some o
  grow : ∀ b, F' b → F b ∨ H b = none
  free : ∀ b, H' b = none → H b = none
theorem upd_free {H : Hp} {p b : Addr} {o : HO} (h : L2.upd H p o b = none) : H b = none := by
  by_cases e : b = p
  · subst e
    rw [upd_same] at h
    cases h
  · rw [upd_ne e] at h
    exact h
/-- o stands at b, outside of F -/
def Out (F : Fp) (H : Hp) (b : Addr) (o : HO) : Prop := H b = some o ∧ ¬ F b
structure StAt (H : Hp) (F : Fp) (st : Addr) (n : Nat) : Prop where
  ex : ∃ (l0 : Addr) (cs : List Int) (i c : Int), F = (fun b => b = st ∨ b = l0) ∧ st ≠ l0 ∧ H st = some (.lst [.ref l0, .int i, .int c]) ∧ H l0 = some (.lst (cs.map V.int)) ∧ cs.length ≤ 63 ∧
    0 ≤ i ∧ i ≤ n ∧ 0 ≤ c ∧ c ≤ n
theorem StAt.dom {H : Hp} {F : Fp} {st b : Addr} {n : Nat} (s : StAt H F st n) (h : F b) : ∃ o, H b = some o := by
  obtain ⟨l0, cs, i, c, rfl, _, h1, h2, _⟩ := s.ex
  rcases h with rfl | rfl
  · exact ⟨_, h1⟩
  · exact ⟨_, h2⟩
theorem StAt.to {H H' : Hp} {f : Fp} {s : Addr} {n : Nat} (h : StAt H f s n) (k : ∀ b u, f b → H b = some u → H' b = some u) : StAt H' f s n := by
  obtain ⟨l0, cs, i, c, rfl, a1, h1, h2, r⟩ := h.ex
  exact ⟨l0, cs, i, c, rfl, a1, k _ _ (.inl rfl) h1, k _ _ (.inr rfl) h2, r⟩
theorem StAt.mono {H : Hp} {F : Fp} {st : Addr} {n m : Nat} (s : StAt H F st n) (h : n ≤ m) : StAt H F st m := by
  obtain ⟨l0, cs, i, c, e, a1, h1, h2, h3, h4, h5, h6, h7⟩ := s.ex
  exact ⟨l0, cs, i, c, e, a1, h1, h2, h3, h4, by omega, h6, by omega⟩
section
variable {F F' F'' : Fp} {H H' H'' : Hp} {b p st : Addr} {o u : HO} {n m : Nat}
theorem Fr.refl (F : Fp) (H : Hp) : Fr F H F H := ⟨fun _ _ h _ => h, fun _ h => .inl h, fun _ h => h⟩
theorem Fr.out (f : Fr F H F' H') (h : Out F H b o) : Out F' H' b o :=
  ⟨f.keep b o h.1 h.2, fun z => (f.grow b z).elim h.2 fun e => by rw [h.1] at e; cases e⟩
theorem Fr.trans (f : Fr F H F' H') (g : Fr F' H' F'' H'') : Fr F H F'' H'' := by
  refine ⟨fun b o h n => ((g.out (f.out ⟨h, n⟩)).1), fun b z => ?_, fun b h => f.free b (g.free b h)⟩
  rcases g.grow b z with h | h
  · exact f.grow b h
  · by_cases hb : F b
    · exact .inl hb
    · cases e : H b with
      | none => exact .inr rfl
      | some o => rw [f.keep b o e hb] at h; cases h
theorem Fr.new (h : H p = none) : Fr F H F (upd H p o) := ⟨fun b u e _ => by rw [upd_ne (ne_of_none e h)]; exact e, fun _ z => .inl z, fun _ z => upd_free z⟩
/-- an object that was not there at the start may change -/
theorem Fr.mut (f : Fr F H F' H') (h : H p = none) : Fr F H F' (upd H' p o) := ⟨fun b u e nf => by rw [upd_ne (ne_of_none e h)]; exact f.keep b u e nf, f.grow, fun b z => f.free b (upd_free z)⟩
theorem Fr.none (f : Fr F H F' H') (hF : ¬ F p) (h : H' p = none) : H p = none := by
  cases e : H p with
  | none => rfl
  | some o => rw [f.keep p o e hF] at h; cases h
theorem StAt.nf (s : StAt H F st n) (h : H b = none) : ¬ F b := fun z => by
  obtain ⟨o, e⟩ := s.dom z
  rw [h] at e
  cases e
theorem StAt.upd (s : StAt H F st n) (h : ¬ F p) : StAt (L2.upd H p o) F st n := s.to fun b u hb e => by rw [upd_ne (show b ≠ p from fun z => h (z ▸ hb))]; exact e
theorem StAt.new (s : StAt H F st n) (h : H p = none) : StAt (L2.upd H p o) F st n := s.upd (s.nf h)
theorem Out.upd (h : Out F H b o) (ne : b ≠ p) : Out F (L2.upd H p u) b o := ⟨by rw [upd_ne ne]; exact h.1, h.2⟩
theorem Out.new (h : Out F H b o) (np : H p = none) : Out F (L2.upd H p u) b o := h.upd (ne_of_none h.1 np)
theorem StAt.made (s : StAt H F st n) (h : H p = none) : Out F (L2.upd H p o) p o := ⟨upd_same, s.nf h⟩
theorem Fr.same (s : Same H H') : Fr F H F H' := ⟨fun b o h _ => s b o h, fun _ h => .inl h, fun _ h => s.free h⟩
theorem StAt.same (s : StAt H F st n) (e : Same H H') : StAt H' F st n := s.to fun b u _ h => e b u h
theorem New.fr (e : New H p o H') : Fr F H F H' := Fr.same e.same
theorem New.sta (e : New H p o H') (s : StAt H F st n) : StAt H' F st n := s.same e.same
theorem New.out (e : New H p o H') (s : StAt H F st n) : Out F H' p o := ⟨e.at, s.nf e.1⟩
theorem Out.here (h : ¬ F p) : Out F (L2.upd H p o) p o := ⟨upd_same, h⟩
end

/-! ### _law_start, _law_draw: their promises -/
def spStart (K : PySem.W.Frag) : Sp := fun vs H Q _ => ∃ (a : Addr) (ns : List Int), vs = [.ref a] ∧ SqL K H a (ns.map V.int) ∧ ns.length ≤ 63 ∧
  ∀ (st : Addr) (F : Fp) (H' : Hp), StAt H' F st 0 → Same H H' → (∀ b, F b → H b = none) → Q (.ref st) H'
def spDraw : Sp := fun vs H Q _ => ∃ (F : Fp) (st : Addr) (n : Nat) (size : Int), vs = [.ref st, .int size] ∧ StAt H F st n ∧ n < 2 ^ 40 ∧ 0 < size ∧ size < 2 ^ 200 ∧
  ∀ (d : Int) (F' : Fp) (H' : Hp), 0 ≤ d → d < size → StAt H' F' st (n + 1) → Fr F H F' H' → Q (.int d) H'
theorem spDraw.call {F : Fp} {H : Hp} {st : Addr} {n : Nat} {size : Int} {Q : VK} {E : XK} (s : StAt H F st n) (hn : n < 2 ^ 40) (h0 : 0 < size) (h1 : size < 2 ^ 200)
    (k : ∀ (d : Int) (F' : Fp) (H' : Hp), 0 ≤ d → d < size → StAt H' F' st (n + 1) → Fr F H F' H' → Q (.int d) H') : spDraw [.ref st, .int size] H Q E := ⟨F, st, n, size, rfl, s, hn, h0, h1, k⟩
/-- a law's own promise -/
def spLaw (K : PySem.W.Frag) : Sp := fun vs H Q _ => ∃ (a : Addr) (ns : List Int), vs = [.ref a] ∧ SqL K H a (ns.map V.int) ∧ ns.length ≤ 63 ∧ ∀ H', Q (.bl true) H'
end Xl
namespace Xl
/-- the plain types that an instance is compared with -/
def tyNs : List String := ["int", "str", "NoneType", "tuple", "list"]
end Xl


local macro_rules | `(tactic| walk_at "out") => `(tactic| (first | assumption | (refine Xl.Fr.out (by assumption) ?_; walk_at "out")))
local macro_rules | `(tactic| walk_at "at") => `(tactic| (first | assumption | exact And.left (by assumption) | exact Xl.New.at (by assumption) | (refine Xl.Same.at (by first | assumption | exact Xl.New.same (by assumption)) ?_; walk_at "at") | exact And.left (show Xl.Out _ _ _ _ by walk_at "out")))
local macro_rules | `(tactic| walk_at "same") => `(tactic| (first | assumption | exact Xl.New.same (by assumption) | (refine L2.Same.trans ?_ (by first | assumption | exact Xl.New.same (by assumption)); walk_at "same") | exact L2.Same.refl _))
local macro_rules | `(tactic| walk_at "fr") => `(tactic| (first | assumption | exact Xl.Fr.refl _ _ | (refine Xl.Fr.trans ?_ (by assumption); walk_at "fr")))
local macro_rules | `(tactic| walk_at "rd") => `(tactic| (repeat (first
  | (refine ⟨_, rfl, ?_⟩) | (refine ⟨_, _, rfl, rfl, ?_⟩) | (refine ⟨_, _, _, _, rfl, rfl, L2.SqL.of (by walk_at "at"), rfl, ?_⟩) | (refine ⟨_, _, _, _, rfl, rfl, L2.SqT.of (by walk_at "at"), rfl, ?_⟩))))

namespace Xl
open PySem L2
def top (i : Nat) : Stmt := PySem.Challenge.pw_extralink_k92_book_refusals.main.body.getD i (.Pass ⟨0, 0, 0, 0⟩)
abbrev s_BadName___init__ : Stmt := inClass (top 3) 0
abbrev s_DuplicateName___init__ : Stmt := inClass (top 4) 0
abbrev s_UnknownName___init__ : Stmt := inClass (top 5) 0
abbrev s_BadCount___init__ : Stmt := inClass (top 6) 0
abbrev s_valid_name : Stmt := top 14
abbrev s_check_name : Stmt := top 23
abbrev s_Book___init__ : Stmt := inClass (top 24) 0
abbrev s_Book_order : Stmt := inClass (top 24) 1
abbrev s_Book___len__ : Stmt := inClass (top 24) 2
abbrev s_Book___contains__ : Stmt := inClass (top 24) 3
abbrev s_Book___getitem__ : Stmt := inClass (top 24) 5
abbrev s_Book___setitem__ : Stmt := inClass (top 24) 6
abbrev s_Book_drop : Stmt := inClass (top 24) 7
abbrev s_start : Stmt := top 26
abbrev s_take : Stmt := top 27
abbrev s_word : Stmt := top 28
abbrev s_good : Stmt := top 29
abbrev s_store : Stmt := top 30
abbrev s_drop : Stmt := top 31
abbrev s_due_store : Stmt := top 32
abbrev s_stored : Stmt := top 33
abbrev s_missing : Stmt := top 34
abbrev s_shows : Stmt := top 35
abbrev s_new : Stmt := top 36
abbrev s_new_right : Stmt := top 37
abbrev s_law : Stmt := top 38
/-- what the top has left -/
structure GG (K : PySem.W.Frag) (mg : Str → Option Value) where
  c_ExtralinkError : Addr
  g_ExtralinkError : mg "ExtralinkError" = some (.ref c_ExtralinkError)
  c_BadName : Addr
  g_BadName : mg "BadName" = some (.ref c_BadName)
  c_DuplicateName : Addr
  g_DuplicateName : mg "DuplicateName" = some (.ref c_DuplicateName)
  c_UnknownName : Addr
  g_UnknownName : mg "UnknownName" = some (.ref c_UnknownName)
  c_BadCount : Addr
  g_BadCount : mg "BadCount" = some (.ref c_BadCount)
  c_Network : Addr
  g_Network : mg "Network" = some (.ref c_Network)
  c_Book : Addr
  g_Book : mg "Book" = some (.ref c_Book)
  a_BadName___init__ : Addr
  fd_BadName___init__ : FuncData
  F_BadName___init__ : Fun K "__init__" "BadName.__init__" s_BadName___init__ a_BadName___init__ fd_BadName___init__
  a_DuplicateName___init__ : Addr
  fd_DuplicateName___init__ : FuncData
  F_DuplicateName___init__ : Fun K "__init__" "DuplicateName.__init__" s_DuplicateName___init__ a_DuplicateName___init__ fd_DuplicateName___init__
  a_UnknownName___init__ : Addr
  fd_UnknownName___init__ : FuncData
  F_UnknownName___init__ : Fun K "__init__" "UnknownName.__init__" s_UnknownName___init__ a_UnknownName___init__ fd_UnknownName___init__
  a_BadCount___init__ : Addr
  fd_BadCount___init__ : FuncData
  F_BadCount___init__ : Fun K "__init__" "BadCount.__init__" s_BadCount___init__ a_BadCount___init__ fd_BadCount___init__
  a_valid_name : Addr
  fd_valid_name : FuncData
  F_valid_name : Fun K "valid_name" "valid_name" s_valid_name a_valid_name fd_valid_name
  m_valid_name : mg "valid_name" = some (.ref a_valid_name)
  a_check_name : Addr
  fd_check_name : FuncData
  F_check_name : Fun K "check_name" "check_name" s_check_name a_check_name fd_check_name
  m_check_name : mg "check_name" = some (.ref a_check_name)
  a_Book___init__ : Addr
  fd_Book___init__ : FuncData
  F_Book___init__ : Fun K "__init__" "Book.__init__" s_Book___init__ a_Book___init__ fd_Book___init__
  a_Book_order : Addr
  fd_Book_order : FuncData
  F_Book_order : Fun K "order" "Book.order" s_Book_order a_Book_order fd_Book_order
  a_Book___len__ : Addr
  fd_Book___len__ : FuncData
  F_Book___len__ : Fun K "__len__" "Book.__len__" s_Book___len__ a_Book___len__ fd_Book___len__
  a_Book___contains__ : Addr
  fd_Book___contains__ : FuncData
  F_Book___contains__ : Fun K "__contains__" "Book.__contains__" s_Book___contains__ a_Book___contains__ fd_Book___contains__
  a_Book___getitem__ : Addr
  fd_Book___getitem__ : FuncData
  F_Book___getitem__ : Fun K "__getitem__" "Book.__getitem__" s_Book___getitem__ a_Book___getitem__ fd_Book___getitem__
  a_Book___setitem__ : Addr
  fd_Book___setitem__ : FuncData
  F_Book___setitem__ : Fun K "__setitem__" "Book.__setitem__" s_Book___setitem__ a_Book___setitem__ fd_Book___setitem__
  a_Book_drop : Addr
  fd_Book_drop : FuncData
  F_Book_drop : Fun K "drop" "Book.drop" s_Book_drop a_Book_drop fd_Book_drop
  a_start : Addr
  fd_start : FuncData
  F_start : Fun K "_law_start" "_law_start" s_start a_start fd_start
  m_start : mg "_law_start" = some (.ref a_start)
  a_take : Addr
  fd_take : FuncData
  F_take : Fun K "_law_take" "_law_take" s_take a_take fd_take
  m_take : mg "_law_take" = some (.ref a_take)
  a_word : Addr
  fd_word : FuncData
  F_word : Fun K "_law_word" "_law_word" s_word a_word fd_word
  m_word : mg "_law_word" = some (.ref a_word)
  a_good : Addr
  fd_good : FuncData
  F_good : Fun K "_law_good" "_law_good" s_good a_good fd_good
  m_good : mg "_law_good" = some (.ref a_good)
  a_store : Addr
  fd_store : FuncData
  F_store : Fun K "_law_store" "_law_store" s_store a_store fd_store
  m_store : mg "_law_store" = some (.ref a_store)
  a_drop : Addr
  fd_drop : FuncData
  F_drop : Fun K "_law_drop" "_law_drop" s_drop a_drop fd_drop
  m_drop : mg "_law_drop" = some (.ref a_drop)
  a_due_store : Addr
  fd_due_store : FuncData
  F_due_store : Fun K "_law_due_store" "_law_due_store" s_due_store a_due_store fd_due_store
  m_due_store : mg "_law_due_store" = some (.ref a_due_store)
  a_stored : Addr
  fd_stored : FuncData
  F_stored : Fun K "_law_stored" "_law_stored" s_stored a_stored fd_stored
  m_stored : mg "_law_stored" = some (.ref a_stored)
  a_missing : Addr
  fd_missing : FuncData
  F_missing : Fun K "_law_missing" "_law_missing" s_missing a_missing fd_missing
  m_missing : mg "_law_missing" = some (.ref a_missing)
  a_shows : Addr
  fd_shows : FuncData
  F_shows : Fun K "_law_shows" "_law_shows" s_shows a_shows fd_shows
  m_shows : mg "_law_shows" = some (.ref a_shows)
  a_new : Addr
  fd_new : FuncData
  F_new : Fun K "_law_new" "_law_new" s_new a_new fd_new
  m_new : mg "_law_new" = some (.ref a_new)
  a_new_right : Addr
  fd_new_right : FuncData
  F_new_right : Fun K "_law_new_right" "_law_new_right" s_new_right a_new_right fd_new_right
  m_new_right : mg "_law_new_right" = some (.ref a_new_right)
  a_law : Addr
  fd_law : FuncData
  F_law : Fun K "law" "law" s_law a_law fd_law
  m_law : mg "law" = some (.ref a_law)
  g_LETTERS : ∃ u, mg "LETTERS" = some u ∧ RelV (.str "abcdefghijklmnopqrstuvwxyz") u
  g_DIGITS : ∃ u, mg "DIGITS" = some u ∧ RelV (.str "0123456789") u
  g_LONGEST : ∃ u, mg "LONGEST" = some u ∧ RelV (.int 6) u
  z_TypeError : mg "TypeError" = none
  z_ValueError : mg "ValueError" = none
  z_abs : mg "abs" = none
  z_all : mg "all" = none
  z_classmethod : mg "classmethod" = none
  z_int : mg "int" = none
  z_isinstance : mg "isinstance" = none
  z_len : mg "len" = none
  z_list : mg "list" = none
  z_max : mg "max" = none
  z_property : mg "property" = none
  z_range : mg "range" = none
  z_set : mg "set" = none
  z_sorted : mg "sorted" = none
  z_tuple : mg "tuple" = none
  ei_ExtralinkError : ∃ mc, ClX.CRead K c_ExtralinkError mc ∧ PySem.W.findCls K (.ref c_ExtralinkError) mc "__init__" = some (.val (.builtin "ValueError.__init__"))
  ox_BadName : OexC K c_BadName
  in_BadName : PySem.W.findIn K (.ref c_BadName) "__init__" = some (some (.ref a_BadName___init__)) ∧ PySem.W.typeIn K (.ref a_BadName___init__) = some (.type "function")
  no_BadName_name : PySem.W.findIn K (.ref c_BadName) "name" = some none
  xf_BadName : XfC K c_BadName
  te_BadName : PySem.W.exmOne K (.ref c_BadName) (.ref c_BadName) = some true
  tn_BadName_BadCount : PySem.W.exmOne K (.ref c_BadName) (.ref c_BadCount) = some false
  tn_BadName_DuplicateName : PySem.W.exmOne K (.ref c_BadName) (.ref c_DuplicateName) = some false
  ty_BadName : PySem.W.findIn K (.ref c_BadName) "__class__" = some (some (.builtin "object.__class__")) ∧ PySem.W.specialIn K (.builtin "object.__class__") "__get__" = some (some (.builtin "getset_descriptor.__get__")) ∧ PySem.W.takesIn K (.builtin "object.__class__") = some true ∧ PySem.W.mroIn K c_BadName (.type "object") = some true
  ox_DuplicateName : OexC K c_DuplicateName
  in_DuplicateName : PySem.W.findIn K (.ref c_DuplicateName) "__init__" = some (some (.ref a_DuplicateName___init__)) ∧ PySem.W.typeIn K (.ref a_DuplicateName___init__) = some (.type "function")
  no_DuplicateName_name : PySem.W.findIn K (.ref c_DuplicateName) "name" = some none
  xf_DuplicateName : XfC K c_DuplicateName
  te_DuplicateName : PySem.W.exmOne K (.ref c_DuplicateName) (.ref c_DuplicateName) = some true
  tn_DuplicateName_BadName : PySem.W.exmOne K (.ref c_DuplicateName) (.ref c_BadName) = some false
  ty_DuplicateName : PySem.W.findIn K (.ref c_DuplicateName) "__class__" = some (some (.builtin "object.__class__")) ∧ PySem.W.specialIn K (.builtin "object.__class__") "__get__" = some (some (.builtin "getset_descriptor.__get__")) ∧ PySem.W.takesIn K (.builtin "object.__class__") = some true ∧ PySem.W.mroIn K c_DuplicateName (.type "object") = some true
  ox_UnknownName : OexC K c_UnknownName
  in_UnknownName : PySem.W.findIn K (.ref c_UnknownName) "__init__" = some (some (.ref a_UnknownName___init__)) ∧ PySem.W.typeIn K (.ref a_UnknownName___init__) = some (.type "function")
  no_UnknownName_name : PySem.W.findIn K (.ref c_UnknownName) "name" = some none
  xf_UnknownName : XfC K c_UnknownName
  te_UnknownName : PySem.W.exmOne K (.ref c_UnknownName) (.ref c_UnknownName) = some true
  ty_UnknownName : PySem.W.findIn K (.ref c_UnknownName) "__class__" = some (some (.builtin "object.__class__")) ∧ PySem.W.specialIn K (.builtin "object.__class__") "__get__" = some (some (.builtin "getset_descriptor.__get__")) ∧ PySem.W.takesIn K (.builtin "object.__class__") = some true ∧ PySem.W.mroIn K c_UnknownName (.type "object") = some true
  ox_BadCount : OexC K c_BadCount
  in_BadCount : PySem.W.findIn K (.ref c_BadCount) "__init__" = some (some (.ref a_BadCount___init__)) ∧ PySem.W.typeIn K (.ref a_BadCount___init__) = some (.type "function")
  no_BadCount_count : PySem.W.findIn K (.ref c_BadCount) "count" = some none
  xf_BadCount : XfC K c_BadCount
  te_BadCount : PySem.W.exmOne K (.ref c_BadCount) (.ref c_BadCount) = some true
  tn_BadCount_BadName : PySem.W.exmOne K (.ref c_BadCount) (.ref c_BadName) = some false
  ty_BadCount : PySem.W.findIn K (.ref c_BadCount) "__class__" = some (some (.builtin "object.__class__")) ∧ PySem.W.specialIn K (.builtin "object.__class__") "__get__" = some (some (.builtin "getset_descriptor.__get__")) ∧ PySem.W.takesIn K (.builtin "object.__class__") = some true ∧ PySem.W.mroIn K c_BadCount (.type "object") = some true
  cl_Network : Cls K c_Network
  cc_Network_MOST_LINKS : ∃ mc u, ClX.CRead K c_Network mc ∧ ClX.CVal K c_Network mc "MOST_LINKS" (.int 10) u
  cl_Book : Cls K c_Book
  mk_Book : Mk K c_Book a_Book___init__
  no_Book_ends : NoAttr K c_Book "ends"
  no_Book_entries : NoAttr K c_Book "entries"
  no_Book_past : NoAttr K c_Book "past"
  me_Book___len__ : Meth K c_Book "__len__" a_Book___len__
  me_Book___contains__ : Meth K c_Book "__contains__" a_Book___contains__
  me_Book___getitem__ : Meth K c_Book "__getitem__" a_Book___getitem__
  me_Book___setitem__ : Meth K c_Book "__setitem__" a_Book___setitem__
  me_Book_drop : Meth K c_Book "drop" a_Book_drop
  pr_Book_order : ∃ p, PropOf K c_Book "order" p a_Book_order
  ty_Book : PySem.W.findIn K (.ref c_Book) "__class__" = some (some (.builtin "object.__class__")) ∧ PySem.W.specialIn K (.builtin "object.__class__") "__get__" = some (some (.builtin "getset_descriptor.__get__")) ∧ PySem.W.takesIn K (.builtin "object.__class__") = some true ∧ PySem.W.mroIn K c_Book (.type "object") = some true
  isa_Book_Book : PySem.W.kitOne K (.ref c_Book) (.ref c_Book) = some true
  gi_Book : ∃ f, PySem.W.findIn K (.ref c_Book) "__getitem__" = some (some (.ref f)) ∧ PySem.W.fnIn K f = true
  ns_Book : PySem.W.noSeq K c_Book = true
end Xl


namespace Xl
open PySem L2
section
variable {P : Program} {w : World} {K : PySem.W.Frag} {mg : Str → Option Value} {base : Heap}
theorem int_at {ns : List Int} {i : Nat} {x : V} (h : (ns.map V.int)[i]? = some x) : ∃ z, ns[i]? = some z ∧ x = V.int z := by
  rw [List.getElem?_map] at h
  cases e : ns[i]? with
  | none => rw [e] at h; cases h
  | some z => rw [e] at h; exact ⟨z, rfl, (Option.some.inj h).symm⟩
theorem small_sz {n : Nat} (h : n ≤ 1000000) : n ≤ sizeLine := Nat.le_trans h (by decide)
theorem small_szlt {n : Nat} (h : n ≤ 1000000) : n < sizeLine := Nat.lt_of_le_of_lt h (by decide)
theorem ixN_at {n j : Nat} (h : j < n) : ixN n (j : Int) = some j := by
  unfold ixN
  rw [if_pos (by omega), if_pos (by omega), Int.toNat_natCast]
abbrev N_start : List Str := ["_law_script", "_law_cell"]
theorem sc_start : FnScope N_start ["_law_script"] (defScope s_start) := ⟨rfl, rfl, rfl, by decide +kernel, rfl, by decide +kernel, by decide +kernel⟩
theorem ok_start (T : GG K mg) : FnOk P w K mg base (L2.CX P w) 1 T.a_start T.fd_start ["_law_script"] (spStart K) := by
  refine okN T.F_start sc_start (fun vs H Q E h => ?_) (fun cdv A outer s H vs Q E hr h => ?_)
  · obtain ⟨a, ns, rfl, _⟩ := h
    rfl
  · obtain ⟨a, ns, rfl, hS, hl, k⟩ := h
    refine ⟨_, (pss_one (ps_ret (pe_lstN (pa_cons (pe_lc (own := [("_law_cell", 1)])  rfl sc_start.nd (pi_list (pv 0)) (blkOk_by (N := N_start) (sc := defScope s_start) (by decide +kernel)) (fun _ _ _ _ _ => (pg_name (i := 1) sc_start.nd rfl (Or.inl rfl))) (fun _ _ _ _ _ => pts_nil) (fun _ _ _ _ _ => (pe_callTy call_int1 rfl T.z_int (by decide +kernel) (pa_cons (pv 1) pa_nil)))) (pa_cons pe_int (pa_cons pe_int pa_nil)))))), ?_⟩
    refine ⟨_, rfl, a, rfl, ⟨_, hS⟩, fun D hD => lc_list (K := K) (a := a) (xs := ns.map V.int) (fun i H1 => ∃ cs : List Int, cs.length ≤ i ∧ H1 D = some (.lst (cs.map V.int)) ∧ Same H H1) ?_ ?_ ?_ ?_⟩
    · exact ⟨[], Nat.le_refl _, upd_same, (new_of hD).same⟩
    · rintro i H1 _ ⟨cs, _, _, hs⟩
      exact Same.seq hs hS
    · rintro i x H1 hx ⟨cs, hc, h1, hs⟩
      obtain ⟨z, hz, rfl⟩ := int_at hx
      have hil := (List.getElem?_eq_some_iff.mp hz).1
      refine ⟨rfl, _, rfl, .inl ⟨_, rfl, _, h1, ?_, cs ++ [z], ?_, ?_, fun b o e => ?_⟩⟩
      · rw [List.length_map]; exact small_szlt (by omega)
      · rw [List.length_append]; exact Nat.succ_le_succ hc
      · rw [upd_same, List.map_append]; rfl
      · rw [upd_ne (ne_of_none e hD)]; exact hs b o e
    · rintro H1 ⟨cs, hc, h1, hs⟩
      refine ⟨(by show 3 ≤ sizeLine; decide), fun st H5 n5 => ?_⟩
      have d5 : D ≠ st := n5.ne h1
      refine k st _ _ ⟨D, cs, 0, 0, rfl, d5.symm, n5.at, n5.same _ _ h1, (by rw [List.length_map] at hc; omega), by decide, by decide, by decide, by decide⟩ (hs.trans n5.same) fun b hb => ?_
      rcases hb with rfl | rfl
      · exact hs.free n5.1
      · exact hD
theorem F_start (T : GG K mg) : FnI P w K mg base "_law_start" 1 ["_law_script"] (spStart K) :=
  ⟨T.a_start, T.fd_start, ok_start T, T.m_start, T.F_start.kp, T.F_start.binds fun _ _ _ _ _ _ us hl => match us, hl with | [_], _ => rfl⟩

/-! ### _law_take -/
theorem draw_cell {x : Int} : 0 ≤ x % 2147483647 ∧ x % 2147483647 < 2147483647 := ⟨Int.emod_nonneg _ (by decide), Int.emod_lt_of_pos _ (by decide)⟩
theorem draw_pow {x c k m : Int} {n : Nat} (h0 : 0 ≤ x) (h1 : x < 2147483647) (h2 : 0 ≤ c) (h3 : c ≤ n) (h4 : n ≤ 2 ^ 40) (hk : 0 ≤ k) (hk2 : k < 100000) (hm : 0 ≤ m) (hm2 : m < 100000) (j : Int) (hj : 0 ≤ j) (hj2 : j < 100) : (x * k + c * m + j).natAbs < 2 ^ 64 := by
  have a1 : x * k ≤ 2147483647 * 100000 := Int.mul_le_mul (by omega) (by omega) hk (by decide)
  have a2 : 0 ≤ x * k := Int.mul_nonneg h0 hk
  have a3 : c * m ≤ 1099511627776 * 100000 := Int.mul_le_mul (by omega) (by omega) hm (by decide)
  have a4 : 0 ≤ c * m := Int.mul_nonneg h2 hm
  omega
abbrev N_take : List Str := ["_law_state", "_law_limit", "_law_cells", "_law_at", "_law_cell", "_law_number"]
theorem sc_take : FnScope N_take ["_law_state", "_law_limit"] (defScope s_take) := ⟨rfl, rfl, rfl, by decide +kernel, rfl, by decide +kernel, by decide +kernel⟩
theorem ok_take (T : GG K mg) : FnOk P w K mg base (L2.CX P w) 1 T.a_take T.fd_take ["_law_state", "_law_limit"] spDraw := by
  refine okN T.F_take sc_take (fun vs H Q E h => ?_) (fun cdv A outer s H vs Q E hr h => ?_)
  · obtain ⟨F, st, n, size, rfl, _⟩ := h
    rfl
  · obtain ⟨F, st, n, size, rfl, hst, hn, hs0, hs1, k⟩ := h
    obtain ⟨l0, cs, i, c, rfl, a1, h1, h2, hl, hi0, hi1, hc0, hc1⟩ := hst.ex
    refine ⟨_, (pss_cons (ps_set (i := 2) sc_take.nd rfl (Or.inl rfl) (pe_ix ix_list (pv 0) pe_int (fun _ _ => rfl)))
      (pss_cons (ps_asg (pe_op op_add (pe_ix ix_list (pv 0) pe_int (fun _ _ => rfl)) pe_int) (pg_sub (pv 0) pe_int set_list))
      (pss_cons (ps_set (i := 3) sc_take.nd rfl (Or.inl rfl) (pe_op op_mod (pe_callTy call_int1 rfl T.z_int (by decide +kernel) (pa_cons (pe_ix ix_list (pv 0) pe_int (fun _ _ => rfl)) pa_nil)) (pe_callB (call_max2 rfl) rfl T.z_max (by decide +kernel) (pa_cons pe_int (pa_cons (pe_callB call_len_seq rfl T.z_len PySem.boot_len (pa_cons (pv 2) pa_nil)) pa_nil)))))
      (pss_cons (ps_set (i := 4) sc_take.nd rfl (Or.inl rfl) pe_int)
      (pss_cut (ps_if (pt_truth (pv 2) (by intro _; rfl)) (pss_one (ps_set (i := 4) sc_take.nd rfl (Or.inl rfl) (pe_ix ix_list (pv 2) (pv 3) (fun _ _ => rfl)))) pss_nil)
      (pss_cons (ps_if (pt_cmpR op_ge (pe_callB call_abs rfl T.z_abs (by decide +kernel) (pa_cons (pv 4) pa_nil)) (pe_op op_pow pe_int pe_int) (nomark _)) (pss_cons (ps_asg (pe_op op_fdivW (pe_callB call_abs rfl T.z_abs (by decide +kernel) (pa_cons (pv 4) pa_nil)) (pv 1)) (pg_sub (pv 2) (pv 3) set_list))
        (pss_one (ps_ret (pe_op op_mod (pe_callB call_abs rfl T.z_abs (by decide +kernel) (pa_cons (pv 4) pa_nil)) (pv 1))))) pss_nil)
      (pss_cons (ps_asg (pe_op op_add (pe_ix ix_list (pv 0) pe_int (fun _ _ => rfl)) pe_int) (pg_sub (pv 0) pe_int set_list))
      (pss_cons (ps_set (i := 5) sc_take.nd rfl (Or.inl rfl) (pe_op op_mod (pe_op op_pow (pe_callTy call_int1 rfl T.z_int (by decide +kernel) (pa_cons (pe_op op_add (pe_op op_add (pe_op op_mul (pe_op op_mod (pe_callTy call_int1 rfl T.z_int (by decide +kernel) (pa_cons (pv 4) pa_nil)) pe_int) pe_int) (pe_op op_mul (pe_ix ix_list (pv 0) pe_int (fun _ _ => rfl)) pe_int)) pe_int) pa_nil)) pe_int) pe_int))
      (pss_cons (ps_set (i := 5) sc_take.nd rfl (Or.inl rfl) (pe_op op_mod (pe_op op_pow (pe_callTy call_int1 rfl T.z_int (by decide +kernel) (pa_cons (pe_op op_add (pe_op op_add (pe_op op_mul (pv 5) pe_int) (pe_op op_mul (pe_ix ix_list (pv 0) pe_int (fun _ _ => rfl)) pe_int)) pe_int) pa_nil)) pe_int) pe_int))
      (pss_one (ps_ret (pe_op op_mod (pe_op op_fdivW (pv 5) pe_int) (pv 1))))))))))))), ?_⟩
    have hc2 : c + 1 ≤ (n + 1 : Nat) := by omega
    have hi2 : i + 1 ≤ (n + 1 : Nat) := by omega
    -- cells = state[0]; state[2] = state[2] + 1
    refine ⟨_, rfl, st, _, _, _, rfl, rfl, SqL.of h1, rfl, ?_⟩
    refine ⟨_, rfl, st, _, _, _, rfl, rfl, SqL.of h1, rfl, _, _, rfl, rfl, _, rfl, st, _, 2, 2, rfl, rfl, h1, rfl, ?_⟩
    obtain ⟨H1, eH1⟩ : ∃ H1, H1 = L2.upd H st (.lst [.ref l0, .int i, .int (c + 1)]) := ⟨_, rfl⟩
    have g1 : H1 st = some (.lst [.ref l0, .int i, .int (c + 1)]) := by rw [eH1]; exact upd_same
    have g2 : H1 l0 = some (.lst (cs.map V.int)) := by rw [eH1, upd_ne a1.symm]; exact h2
    have fr1 : Fr (fun b => b = st ∨ b = l0) H (fun b => b = st ∨ b = l0) H1 := ⟨fun b o e nb => by rw [eH1, upd_ne fun z => nb (.inl z)]; exact e, fun b z => .inl z, fun b z => by rw [eH1] at z; exact upd_free z⟩
    change tSeq _ _ _ _ (L2.upd H st (.lst [.ref l0, .int i, .int (c + 1)]))
    rw [← eH1]
    have hm : (0 : Int) < (if (cs.length : Int) > 1 then (cs.length : Int) else 1) := by split <;> omega
    obtain ⟨m, em⟩ : ∃ m : Int, m = (if (cs.length : Int) > 1 then (cs.length : Int) else 1) := ⟨_, rfl⟩
    rw [← em] at hm
    have hj0 := Int.emod_nonneg i (show m ≠ 0 by omega)
    have hj1 := Int.emod_lt_of_pos i hm
    refine ⟨_, rfl, st, _, _, _, rfl, rfl, SqL.of g1, rfl, .inl ⟨_, rfl, _, rfl, l0, _, rfl, .inl (SqL.of g2), _, _, rfl, ?_⟩⟩
    rw [List.length_map, ← em]
    refine ⟨_, _, rfl, rfl, hm, ?_⟩
    obtain ⟨at_, eat⟩ : ∃ z : Int, z = i % m := ⟨_, rfl⟩
    rw [← eat] at hj0 hj1
    refine ⟨fun σ H2 => ∃ cell : Int, σ = [some (.ref st), some (.int size), some (.ref l0), some (.int (i % m)), some (.int cell), none] ∧ H2 = H1 ∧ (cell = 0 ∨ ∃ j : Nat, at_ = j ∧ cs[j]? = some cell), ?_, ?_⟩
    · refine ⟨_, rfl, _, .inl ⟨_, SqL.of g2, rfl⟩, ite2 (fun hk => ?_) (fun _ => ⟨0, rfl, rfl, .inl rfl⟩)⟩
      have hne : 0 < cs.length := by
        cases cs with
        | nil => cases hk
        | cons z r => exact Nat.succ_pos _
      have em2 : m = cs.length := by rw [em]; split <;> omega
      obtain ⟨j, ej⟩ : ∃ j : Nat, at_ = j := ⟨at_.toNat, by omega⟩
      have hj : j < cs.length := by omega
      exact ⟨_, rfl, _, rfl, l0, _, _, V.int cs[j], rfl, rfl, SqL.of g2, at_of (j := j) (eat.symm.trans ej) (by rw [List.getElem?_map, List.getElem?_eq_getElem hj]; rfl), cs[j], rfl, rfl, .inr ⟨j, ej, List.getElem?_eq_getElem hj⟩⟩
    rintro σ H2 ⟨cell, rfl, rfl, hcell⟩
    rw [← eat]
    refine ⟨_, rfl, _, rfl, _, _, rfl, rfl, ⟨by decide, by decide, by decide⟩, _, _, rfl, rfl, _, rfl, ite2 (fun hk => ?_) (fun hk => ?_)⟩
    · have hk' := of_decide_eq_true hk
      have hc : cell ≠ 0 := fun z => by rw [z] at hk'; exact absurd hk' (by decide)
      rcases hcell with z | ⟨j, ej, hj⟩
      · exact absurd z hc
      have hjl : j < cs.length := (List.getElem?_eq_some_iff.mp hj).1
      have hix : ixN (cs.map V.int).length at_ = some j := by rw [ej]; exact ixN_at (by rw [List.length_map]; exact hjl)
      refine ⟨_, rfl, _, rfl, _, rfl, _, _, rfl, rfl, wide_div hs0 (b := 200) (by omega) (by decide) (by decide), _, rfl, _, rfl, l0, _, at_, j, rfl, rfl, g2, hix, ?_⟩
      refine ⟨_, rfl, _, rfl, _, rfl, _, _, rfl, rfl, hs0, ?_⟩
      refine k _ (fun b => b = st ∨ b = l0) _ (Int.emod_nonneg _ (by omega)) (Int.emod_lt_of_pos _ hs0) ⟨l0, cs.set j ((if cell < 0 then -cell else cell) / size), i, c + 1, rfl, a1, ?_, ?_, ?_, hi0, by omega, by omega, hc2⟩ ⟨?_, fr1.grow, fun b z => fr1.free b (upd_free z)⟩
      · rw [upd_ne a1]; exact g1
      · rw [upd_same, List.map_set]
      · rw [List.length_set]; exact hl
      · intro b o e nb
        rw [upd_ne fun z => nb (.inr z)]
        exact fr1.keep b o e nb
    refine ⟨_, rfl, st, _, _, _, rfl, rfl, SqL.of g1, rfl, _, _, rfl, rfl, _, rfl, st, _, 1, 1, rfl, rfl, g1, rfl, ?_⟩
    change tSeq _ _ _ _ (L2.upd H2 st (.lst [.ref l0, .int (i + 1), .int (c + 1)]))
    obtain ⟨H3, eH3⟩ : ∃ H3, H3 = L2.upd H2 st (.lst [.ref l0, .int (i + 1), .int (c + 1)]) := ⟨_, rfl⟩
    have g3 : H3 st = some (.lst [.ref l0, .int (i + 1), .int (c + 1)]) := by rw [eH3]; exact upd_same
    have g4 : H3 l0 = some (.lst (cs.map V.int)) := by rw [eH3, upd_ne a1.symm]; exact g2
    have fr3 : Fr (fun b => b = st ∨ b = l0) H (fun b => b = st ∨ b = l0) H3 := ⟨fun b o e nb => by rw [eH3, upd_ne fun z => nb (.inl z)]; exact fr1.keep b o e nb, fun b z => .inl z, fun b z => by rw [eH3] at z; exact fr1.free b (upd_free z)⟩
    rw [← eH3]
    obtain ⟨q0, q1⟩ := draw_cell (x := cell)
    refine ⟨_, rfl, .inl ⟨_, rfl, _, _, rfl, rfl, (by show (0 : Int) < 2147483647; decide), _, _, rfl, rfl, .inr ⟨by decide, by decide⟩, _, rfl, st, _, _, _, rfl, rfl, SqL.of g3, rfl, _, _, rfl, rfl, .inr ⟨by decide, by decide⟩, _, _, rfl, rfl, _, _, rfl, rfl, .inl ⟨_, rfl, _, _, rfl, rfl, ⟨by decide, by decide, ?_⟩, _, _, rfl, rfl, (by show (0 : Int) < 2147483647; decide), ?_⟩⟩⟩
    · exact draw_pow q0 q1 (by omega) hc2 (by omega) (by decide) (by decide) (by decide) (by decide) 11 (by decide) (by decide)
    obtain ⟨q2, q3⟩ := draw_cell (x := (cell % 2147483647 * 48271 + (c + 1) * 69621 + 11) ^ Int.toNat 5)
    refine ⟨_, rfl, _, _, rfl, rfl, .inr ⟨by decide, by decide⟩, _, rfl, st, _, _, _, rfl, rfl, SqL.of g3, rfl, _, _, rfl, rfl, .inr ⟨by decide, by decide⟩, _, _, rfl, rfl, _, _, rfl, rfl, .inl ⟨_, rfl, _, _, rfl, rfl, ⟨by decide, by decide, ?_⟩, _, _, rfl, rfl, (by show (0 : Int) < 2147483629; decide), ?_⟩⟩
    · exact draw_pow q2 q3 (by omega) hc2 (by omega) (by decide) (by decide) (by decide) (by decide) 7 (by decide) (by decide)
    refine ⟨_, rfl, _, _, rfl, rfl, wide_div (by decide) (b := 200) (by decide) (by decide) (by decide), _, rfl, _, _, rfl, rfl, hs0, ?_⟩
    exact k _ (fun b => b = st ∨ b = l0) _ (Int.emod_nonneg _ (by omega)) (Int.emod_lt_of_pos _ hs0) ⟨l0, cs, i + 1, c + 1, rfl, a1, g3, g4, hl, by omega, hi2, by omega, hc2⟩ fr3
theorem F_draw (T : GG K mg) : FnI P w K mg base "_law_take" 1 ["_law_state", "_law_limit"] spDraw :=
  ⟨T.a_take, T.fd_take, ok_take T, T.m_take, T.F_take.kp, T.F_take.binds fun _ _ _ _ _ _ us hl => match us, hl with | [_, _], _ => rfl⟩
end
end Xl


namespace Xl
open PySem PySem.Spec PyProof.Rows L2
/-! ### sizes of numbers -/
def Bd (n : Nat) (i : Int) : Prop := i.natAbs < 2 ^ n
theorem Bd.mono {m n : Nat} {i : Int} (h : Bd m i) (l : m ≤ n) : Bd n i := Nat.lt_of_lt_of_le h (Nat.pow_le_pow_right (by decide) l)
theorem Bd.le {n : Nat} {i j : Int} (h : Bd n i) (l : j.natAbs ≤ i.natAbs) : Bd n j := Nat.lt_of_le_of_lt l h
theorem Bd.neg {n : Nat} {i : Int} (h : Bd n i) : Bd n (-i) := h.le (by omega)
theorem Bd.mul {m n : Nat} {i j : Int} (h : Bd m i) (k : Bd n j) : Bd (m + n) (i * j) := by
  unfold Bd at *
  rw [Int.natAbs_mul, Nat.pow_add]
  have h1 : i.natAbs * j.natAbs ≤ i.natAbs * 2 ^ n := Nat.mul_le_mul_left _ (Nat.le_of_lt k)
  have h2 : i.natAbs * 2 ^ n < 2 ^ m * 2 ^ n := Nat.mul_lt_mul_of_pos_right h (Nat.pow_pos (by decide))
  omega
theorem Bd.add {n : Nat} {i j : Int} (h : Bd n i) (k : Bd n j) : Bd (n + 1) (i + j) := by
  unfold Bd at *
  rw [Nat.pow_succ]
  omega
theorem Bd.sub {n : Nat} {i j : Int} (h : Bd n i) (k : Bd n j) : Bd (n + 1) (i - j) := by
  unfold Bd at *
  rw [Nat.pow_succ]
  omega
theorem Bd.log {n : Nat} {i : Int} (h : Bd n i) (l : n ≤ 1919) : i.natAbs.log2 < 1920 := by
  have h2 : i.natAbs < 2 ^ 1920 := Nat.lt_of_lt_of_le h (Nat.pow_le_pow_right (by decide) (by omega))
  exact PySem.Flt.log2_lt_of (by decide) h2
theorem Bd.ex {n : Nat} {i : Int} (h : Bd n i) (l : n ≤ 8000) : ∃ n, n ≤ 8000 ∧ i.natAbs < 2 ^ n := ⟨n, l, h⟩
/-- * of any numbers that are not huge -/
theorem op_mulX {X : Cx} : OpR X (binaryOp .Mult) (rI (fun i j => ∃ m n, Bd m i ∧ Bd n j ∧ m + n ≤ 100000000) fun i j => .int (i * j)) := opI fun _ _ _ _ _ _ _ hc q => by
  obtain ⟨m, n, h1, h2, h3⟩ := hc
  exact mul_int q (PySem.IntMulOk.of_le (intBits_le_iff.mpr h1) (intBits_le_iff.mpr h2) (by omega))
end Xl


namespace Xl
open PySem PySem.Spec PyProof.Rows L2
/-! ### ExtralinkError.__init__(self, ..) in an own __init__ -/
section
variable {X : Cx} {o e : Expr} {es : List Expr} {to te : TE} {ta : TA} {f x : Str} {p p' p1 p2 pos : Pos} {CE : Addr}
theorem pe_einit {pl : Sem Bool} (hg : Gl X x) (hm : X.mg x = some (.ref CE)) (hE : ∃ mc, ClX.CRead X.K CE mc ∧ PySem.W.findCls X.K (.ref CE) mc "__init__" = some (.val (.builtin "ValueError.__init__"))) (ha : PA X (e :: es) ta)
    (hc : eval (.Call (.Attribute (.Name x p1) "__init__" p2) (e :: es) [] pos) X.env = (do
      let ov ← eval (.Name x p1) X.env
      standAt p2.atName
      let (f, first) ← holding [ov] (getMethod ov "__init__" pl)
      callWith pos f first (backTo pos (starEach (e :: es) X.env)) (backToKw pos (keywordEach [] X.env))) := by rfl)
    (hdb : (x == ("__debug__" : Str)) = false := by decide)
    (he : starEach (e :: es) X.env = (false, eval e X.env) :: starEach es X.env := by rfl) (hpl : (backTo pos (starEach es X.env)).any (·.1) = false := by rfl) :
    PE X (.Call (.Attribute (.Name x p1) "__init__" p2) (e :: es) [] pos) (tVeI X.K ta) := by
  obtain ⟨mc, cr, fc⟩ := hE
  refine ⟨fun pins s σ H Q I h => ?_⟩
  refine PySem.W.methodCall_KW (ld_glob I hg hm ?_ hdb) hc
  refine PySem.W.method_cls I.kIn cr.ga (PySem.W.cls_value I.kIn cr.rd fc rfl ?_)
  show wpAny _ _ (callWith pos (Value.builtin "ValueError.__init__") [] (backTo pos (starEach (e :: es) X.env)) []) _ _ _
  refine PyProof.Rows.callWith_method1 (thn (ha.run pos pins _ σ H _ (I.tok _) h) fun us s1 ⟨vs, H1, I1, r1, a, C, ws, ev, hl, T, ea, q⟩ => ?_) he hpl
  subst ev
  cases r1 with
  | @cons _ u0 _ ur ra rw' =>
    obtain rfl : u0 = Value.ref a := ra
    have hlen : ur.length ≤ sizeLine := by
      rw [← Paired.length rw', sizeLine_eq]
      omega
    exact oinit_ok T I1 ea hlen fun s' J => ⟨.non, H1, J, rfl, q⟩
end
/-! ### an error's making: its own fields, in a dict that is new -/
/-- __init__(self, ..): the fields fs of the arguments vs -/
def spXi (C : Addr) (n : Nat) (g : List V → List (Str × V)) : Sp := fun vs H Q _ => ∃ (a : Addr) (ws : List V), vs = .ref a :: ws ∧ ws.length = n ∧ H a = some (exo a C none) ∧
  ∀ d H', H d = none → d ≠ a → H' a = some (exo a C (some d)) → H' d = some (exd d (g ws)) → (∀ b o, H b = some o → b ≠ a → H' b = some o) → Q .non H'
structure XcI (P : Program) (w : World) (K : PySem.W.Frag) (mg : Str → Option Value) (base : Heap) (x : Str) (C : Addr) (n : Nat) (g : List V → List (Str × V)) : Prop where
  ex : ∃ fI fd ps, OexC K C ∧ PySem.W.findIn K (.ref C) "__init__" = some (some (.ref fI)) ∧ PySem.W.typeIn K (.ref fI) = some (.type "function") ∧ FnOk P w K mg base (L2.CX P w) 1 fI fd ps (spXi C n g) ∧ Binds K fd ps [] ∧ mg x = some (.ref C)
/-- X(e, ..) raised: what is wanted of its class, its dict and the heap -/
def tXm (C : Addr) (n : Nat) (g : List V → List (Str × V)) (ta : TA) : L2.St → Hp → XK → Prop := fun σ H Q => ta σ H fun vs H1 => vs.length = n ∧ ∀ d H', Same H1 H' → H1 d = none → H' d = some (.xd (g vs)) → Q (.ref C) (some d) H'
section
variable {X : Cx} {e : Expr} {es : List Expr} {ta : TA} {p pos : Pos} {x : Str} {C : Addr} {n : Nat} {g : List V → List (Str × V)}
theorem pmk_x (B : XcI X.prog X.w X.K X.mg X.base x C n g) (hn : n ≤ 1000) (hr : Room 2 X.A) (ha : PA X (e :: es) ta) (hg : Gl X x := by rfl) (hdb : (x == ("__debug__" : Str)) = false := by decide)
    (he : starEach (e :: es) X.env = (false, eval e X.env) :: starEach es X.env := by rfl) (hpl : (backTo pos (starEach es X.env)).any (·.1) = false := by rfl) :
    PMk X (.Call (.Name x p) (e :: es) [] pos) (tXm C n g ta) := by
  obtain ⟨fI, fd, ps, h1, h2, h3, h4, h5, h6⟩ := B.ex
  have z := pmk_oex (X := X) (p := p) (pos := pos) (e := e) (es := es) (ta := taM ta) h1 h2 h3 h4 hr h5 (dvs := []) .nil (passL (X := X)) hg h6 (pa_mono ha) hdb he hpl
  intro pins s σ H Q I h
  refine z pins s σ H Q I ⟨_, h, fun vs H1 ⟨hl, k⟩ => ⟨by omega, fun a na => ?_⟩⟩
  refine ⟨a, vs, by rw [List.append_nil], hl, upd_same, fun d H2 hd hda ea ed kp => ⟨rfl, d, g vs, ea, ed, ?_, ?_⟩⟩
  · rw [upd_ne hda] at hd
    exact hd
  · rw [upd_ne hda] at hd
    refine k d _ (fun b o eb => ?_) hd upd_same
    have nb : b ≠ a := ne_of_none eb na
    rw [upd_ne (ne_of_none eb hd), del_ne nb]
    exact kp b o (by rw [upd_ne nb]; exact eb) nb
theorem ps_rx {W : WX} {pos' : Pos} (B : XcI X.prog X.w X.K X.mg X.base x C n g) (hn : n ≤ 1000) (hr : Room 2 X.A) (hc : X.calm = true) (tk : Takes X W) (ha : PA X (e :: es) ta) (hg : Gl X x := by rfl) (hdb : (x == ("__debug__" : Str)) = false := by decide)
    (he : starEach (e :: es) X.env = (false, eval e X.env) :: starEach es X.env := by rfl) (hpl : (backTo pos (starEach es X.env)).any (·.1) = false := by rfl) :
    PS X (.Raise (some (.Call (.Name x p) (e :: es) [] pos)) none pos') (fun _ σ H => tXm C n g ta σ H fun cls d H' => W cls d σ H') := ps_raise hc tk (pmk_x B hn hr ha hg hdb he hpl)
end
end Xl


namespace Xl
open PySem PySem.Spec PyProof.Rows L2
section
variable {P : Program} {w : World} {K : PySem.W.Frag} {mg : Str → Option Value} {base : Heap}
theorem sc_BadName___init__ : FnScope ["self", "name"] ["self", "name"] (defScope s_BadName___init__) := ⟨rfl, rfl, rfl, by decide +kernel, rfl, by decide +kernel, by decide +kernel⟩
theorem ok_BadName___init__ (T : GG K mg) : FnOk P w K mg base (L2.CX P w) 1 T.a_BadName___init__ T.fd_BadName___init__ ["self", "name"] (spXi T.c_BadName 1 (fun ws => ((["name"] : List Str).zip ws).reverse)) := by
  refine okN T.F_BadName___init__ sc_BadName___init__ (fun vs H Q E h => ?_) (fun cdv A outer s H vs Q E hr h => ?_)
  · obtain ⟨a, ws, rfl, hl, _⟩ := h
    show ws.length + 1 = 2
    omega
  · obtain ⟨a, ws, rfl, hl, ha, k⟩ := h
    obtain ⟨v, rfl⟩ : ∃ v, ws = [v] := List.length_eq_one_iff.mp hl
    refine ⟨_, pss_cons (ps_expr (pe_einit rfl T.g_ExtralinkError T.ei_ExtralinkError (pa_cons (pv 0) (pa_cons pe_str pa_nil)))) (pss_one (ps_ost (pv 0) (pv 1))), ?_⟩
    refine ⟨_, rfl, a, T.c_BadName, _, rfl, by decide, T.ox_BadName, ha, ?_⟩
    refine ⟨_, rfl, _, rfl, a, T.c_BadName, rfl, T.ox_BadName, T.no_BadName_name, .inl ⟨ha, fun dx hd hda => ?_⟩⟩
    exact k dx _ hd hda upd_same (by rw [upd_ne hda, upd_same]; rfl) fun b o eb hb => by rw [upd_ne hb, upd_ne (ne_of_none eb hd)]; exact eb
theorem X_BadName (T : GG K mg) : XcI P w K mg base "BadName" T.c_BadName 1 (fun ws => ((["name"] : List Str).zip ws).reverse) := ⟨_, _, _, T.ox_BadName, T.in_BadName.1, T.in_BadName.2, ok_BadName___init__ T, T.F_BadName___init__.binds fun _ _ _ _ _ _ us hl => match us, hl with | [_, _], _ => rfl, T.g_BadName⟩
theorem sc_DuplicateName___init__ : FnScope ["self", "name"] ["self", "name"] (defScope s_DuplicateName___init__) := ⟨rfl, rfl, rfl, by decide +kernel, rfl, by decide +kernel, by decide +kernel⟩
theorem ok_DuplicateName___init__ (T : GG K mg) : FnOk P w K mg base (L2.CX P w) 1 T.a_DuplicateName___init__ T.fd_DuplicateName___init__ ["self", "name"] (spXi T.c_DuplicateName 1 (fun ws => ((["name"] : List Str).zip ws).reverse)) := by
  refine okN T.F_DuplicateName___init__ sc_DuplicateName___init__ (fun vs H Q E h => ?_) (fun cdv A outer s H vs Q E hr h => ?_)
  · obtain ⟨a, ws, rfl, hl, _⟩ := h
    show ws.length + 1 = 2
    omega
  · obtain ⟨a, ws, rfl, hl, ha, k⟩ := h
    obtain ⟨v, rfl⟩ : ∃ v, ws = [v] := List.length_eq_one_iff.mp hl
    refine ⟨_, pss_cons (ps_expr (pe_einit rfl T.g_ExtralinkError T.ei_ExtralinkError (pa_cons (pv 0) (pa_cons pe_str pa_nil)))) (pss_one (ps_ost (pv 0) (pv 1))), ?_⟩
    refine ⟨_, rfl, a, T.c_DuplicateName, _, rfl, by decide, T.ox_DuplicateName, ha, ?_⟩
    refine ⟨_, rfl, _, rfl, a, T.c_DuplicateName, rfl, T.ox_DuplicateName, T.no_DuplicateName_name, .inl ⟨ha, fun dx hd hda => ?_⟩⟩
    exact k dx _ hd hda upd_same (by rw [upd_ne hda, upd_same]; rfl) fun b o eb hb => by rw [upd_ne hb, upd_ne (ne_of_none eb hd)]; exact eb
theorem X_DuplicateName (T : GG K mg) : XcI P w K mg base "DuplicateName" T.c_DuplicateName 1 (fun ws => ((["name"] : List Str).zip ws).reverse) := ⟨_, _, _, T.ox_DuplicateName, T.in_DuplicateName.1, T.in_DuplicateName.2, ok_DuplicateName___init__ T, T.F_DuplicateName___init__.binds fun _ _ _ _ _ _ us hl => match us, hl with | [_, _], _ => rfl, T.g_DuplicateName⟩
theorem sc_UnknownName___init__ : FnScope ["self", "name"] ["self", "name"] (defScope s_UnknownName___init__) := ⟨rfl, rfl, rfl, by decide +kernel, rfl, by decide +kernel, by decide +kernel⟩
theorem ok_UnknownName___init__ (T : GG K mg) : FnOk P w K mg base (L2.CX P w) 1 T.a_UnknownName___init__ T.fd_UnknownName___init__ ["self", "name"] (spXi T.c_UnknownName 1 (fun ws => ((["name"] : List Str).zip ws).reverse)) := by
  refine okN T.F_UnknownName___init__ sc_UnknownName___init__ (fun vs H Q E h => ?_) (fun cdv A outer s H vs Q E hr h => ?_)
  · obtain ⟨a, ws, rfl, hl, _⟩ := h
    show ws.length + 1 = 2
    omega
  · obtain ⟨a, ws, rfl, hl, ha, k⟩ := h
    obtain ⟨v, rfl⟩ : ∃ v, ws = [v] := List.length_eq_one_iff.mp hl
    refine ⟨_, pss_cons (ps_expr (pe_einit rfl T.g_ExtralinkError T.ei_ExtralinkError (pa_cons (pv 0) (pa_cons pe_str pa_nil)))) (pss_one (ps_ost (pv 0) (pv 1))), ?_⟩
    refine ⟨_, rfl, a, T.c_UnknownName, _, rfl, by decide, T.ox_UnknownName, ha, ?_⟩
    refine ⟨_, rfl, _, rfl, a, T.c_UnknownName, rfl, T.ox_UnknownName, T.no_UnknownName_name, .inl ⟨ha, fun dx hd hda => ?_⟩⟩
    exact k dx _ hd hda upd_same (by rw [upd_ne hda, upd_same]; rfl) fun b o eb hb => by rw [upd_ne hb, upd_ne (ne_of_none eb hd)]; exact eb
theorem X_UnknownName (T : GG K mg) : XcI P w K mg base "UnknownName" T.c_UnknownName 1 (fun ws => ((["name"] : List Str).zip ws).reverse) := ⟨_, _, _, T.ox_UnknownName, T.in_UnknownName.1, T.in_UnknownName.2, ok_UnknownName___init__ T, T.F_UnknownName___init__.binds fun _ _ _ _ _ _ us hl => match us, hl with | [_, _], _ => rfl, T.g_UnknownName⟩
theorem sc_BadCount___init__ : FnScope ["self", "count"] ["self", "count"] (defScope s_BadCount___init__) := ⟨rfl, rfl, rfl, by decide +kernel, rfl, by decide +kernel, by decide +kernel⟩
theorem ok_BadCount___init__ (T : GG K mg) : FnOk P w K mg base (L2.CX P w) 1 T.a_BadCount___init__ T.fd_BadCount___init__ ["self", "count"] (spXi T.c_BadCount 1 (fun ws => ((["count"] : List Str).zip ws).reverse)) := by
  refine okN T.F_BadCount___init__ sc_BadCount___init__ (fun vs H Q E h => ?_) (fun cdv A outer s H vs Q E hr h => ?_)
  · obtain ⟨a, ws, rfl, hl, _⟩ := h
    show ws.length + 1 = 2
    omega
  · obtain ⟨a, ws, rfl, hl, ha, k⟩ := h
    obtain ⟨v, rfl⟩ : ∃ v, ws = [v] := List.length_eq_one_iff.mp hl
    refine ⟨_, pss_cons (ps_expr (pe_einit rfl T.g_ExtralinkError T.ei_ExtralinkError (pa_cons (pv 0) (pa_cons pe_str pa_nil)))) (pss_one (ps_ost (pv 0) (pv 1))), ?_⟩
    refine ⟨_, rfl, a, T.c_BadCount, _, rfl, by decide, T.ox_BadCount, ha, ?_⟩
    refine ⟨_, rfl, _, rfl, a, T.c_BadCount, rfl, T.ox_BadCount, T.no_BadCount_count, .inl ⟨ha, fun dx hd hda => ?_⟩⟩
    exact k dx _ hd hda upd_same (by rw [upd_ne hda, upd_same]; rfl) fun b o eb hb => by rw [upd_ne hb, upd_ne (ne_of_none eb hd)]; exact eb
theorem X_BadCount (T : GG K mg) : XcI P w K mg base "BadCount" T.c_BadCount 1 (fun ws => ((["count"] : List Str).zip ws).reverse) := ⟨_, _, _, T.ox_BadCount, T.in_BadCount.1, T.in_BadCount.2, ok_BadCount___init__ T, T.F_BadCount___init__.binds fun _ _ _ _ _ _ us hl => match us, hl with | [_, _], _ => rfl, T.g_BadCount⟩
end
end Xl


namespace Xl
open PySem PySem.Spec PyProof.Rows L2
/-! ### making an instance, a method, a property, an own operator: each by a promise over values -/
/-- C(..): what the whole expression promises; dvs: the defaults that fill up -/
structure MkI (P : Program) (w : World) (K : PySem.W.Frag) (mg : Str → Option Value) (base : Heap) (C : Addr) (k : Nat) (sp : Sp) : Prop where
  ex : ∃ f fd ps dvs ds sp0, Mk K C f ∧ FnOk P w K mg base (L2.CX P w) k f fd ps sp0 ∧ Vals dvs ds ∧ Binds K fd ps ds ∧
    ∀ vs H Q E, sp vs H Q E → ∀ o dx, H o = none → H dx = none → dx ≠ o → sp0 (.ref o :: (vs ++ dvs)) (upd (upd H dx (.own o)) o (.ins C dx [])) (fun v H2 => v = .non ∧ Q (.ref o) H2) E
/-- C(k = v, ..) -/
structure MkK (P : Program) (w : World) (K : PySem.W.Frag) (mg : Str → Option Value) (base : Heap) (C : Addr) (k : Nat) (ks : List Str) (sp : Sp) : Prop where
  ex : ∃ f fd ps g gV sp0, Mk K C f ∧ FnOk P w K mg base (L2.CX P w) k f fd ps sp0 ∧ KBn K fd ps 1 ks g gV ∧
    ∀ zs H Q E, zs.length = ks.length → sp zs H Q E → ∀ o dx, H o = none → H dx = none → dx ≠ o → sp0 (gV [.ref o] zs) (upd (upd H dx (.own o)) o (.ins C dx [])) (fun v H2 => v = .non ∧ Q (.ref o) H2) E
theorem vals_rev : ∀ {vs : List V} {us : List Value}, Vals vs us → Vals vs.reverse us.reverse
  | _, _, .nil => .nil
  | _, _, .cons h t => by
    rw [List.reverse_cons, List.reverse_cons]
    exact (vals_rev t).append (.cons h .nil)
/-- keywords given to a def with defaults, none of which is left out or read -/
theorem FunD.kb1 {K : PySem.W.Frag} {x qual : Str} {params : Arguments} {body : List Stmt} {scope : Scope} {dvs : List V} {f : Addr} {fd : FuncData} {ps : List Str} (F : FunD K x qual params body scope dvs [] f fd) (n : Nat) (ks : List Str) (g : {α : Type} → List α → List α → List α → List α) (hd : dvs ≠ [])
    (hrel : ∀ {vs ds zs : List V} {us its ws : List Value}, Vals vs us → Vals ds its → Vals zs ws → Vals (g vs ds zs) (g us its ws))
    (h : ∀ (T : Addr) (kV doc pm : Value) (an : Option Addr) (cdv ct : Value) (us its ws : List Value), us.length = n → its.length = dvs.length → ws.length = ks.length →
      ∃ k, bindArgs (PySem.W.fnOf x qual params body scope (.ref T) kV doc pm an cdv ct) ⟨us, ks.zip ws⟩ = seqItems? (.ref T) >>= k ∧ k (some its.toArray) = pure (ps.zip (g us its ws))) :
    ∃ its : List Value, KBn K fd ps n ks (fun us ws => g us its ws) (fun vs zs => g vs dvs zs) := by
  obtain ⟨oc, od, dV, kV, doc, pm, an, cdv, ct, osl, rfl, lk, hcd, hD, hK⟩ := F.ex
  rcases hD with ⟨e, _⟩ | ⟨_, T, o, its, m, rfl, lT, oT, rT⟩
  · exact absurd e hd
  · refine ⟨its, ⟨fun s us ws X l1 l2 => ?_, fun r1 r2 => hrel r1 rT r2⟩⟩
    obtain ⟨k, e1, e2⟩ := h T kV doc pm an cdv ct us its ws l1 rT.length.symm l2
    refine BindsTo.of_looks fun M => ?_
    rw [e1]
    exact looks_items X lT oT (.of_pure e2)
section
variable {X : Cx} {k i : Nat} {C : Addr} {sp : Sp} {E : XK} {x : Str} {p pos : Pos} {e : Expr} {es : List Expr} {t : TA} {te : TE}
theorem pe_mkI (F : MkI X.prog X.w X.K X.mg X.base C k sp) (hr : Room (k + 1) X.A) (hm : X.mg x = some (.ref C)) (hx : Passes (L2.CX X.prog X.w) X E) (ha : PA X (e :: es) t) (hg : Gl X x := by rfl)
    (hdb : (x == ("__debug__" : Str)) = false := by decide) (he : starEach (e :: es) X.env = (false, eval e X.env) :: starEach es X.env := by rfl) (hpl : (backTo pos (starEach es X.env)).any (·.1) = false := by rfl) :
    PE X (.Call (.Name x p) (e :: es) [] pos) (tCall sp [] E t) := by
  obtain ⟨f, fd, ps, dvs, ds, sp0, M, G, hd, hb, conv⟩ := F.ex
  refine ⟨fun pins s σ H Q I h => ?_⟩
  refine wpAny_Call_Name_kw (ld_glob I hg hm ?_ hdb)
  refine PySem.W.callWith_K (h₀ := X.base) I.ok.mod.kin M.kp (thn (ha.run pos pins s σ H _ I h) fun us s1 ⟨vs, H1, I1, r, q⟩ => ⟨I1.kIn, ?_⟩) he hpl
  exact run_make M G hr hb hd hx I1 r (conv vs H1 Q E (by rw [← List.append_nil vs]; exact q))
/-- the class in a slot -/
def tCallLc (i : Nat) (C : Addr) (sp : Sp) (E : XK) (t : TA) : TE := fun σ H Q => σ[i]? = some (some (.ref C)) ∧ t σ H fun vs H1 => sp vs H1 Q E
theorem pe_mkL (F : MkI X.prog X.w X.K X.mg X.base C k sp) (hr : Room (k + 1) X.A) (hN : X.N[i]? = some x) (hv : Vis X.env.scope x) (hx : Passes (L2.CX X.prog X.w) X E) (ha : PA X (e :: es) t)
    (hdb : (x == ("__debug__" : Str)) = false := by decide) (hcd : (x == ("__classdict__" : Str)) = false := by decide) (he : starEach (e :: es) X.env = (false, eval e X.env) :: starEach es X.env := by rfl) (hpl : (backTo pos (starEach es X.env)).any (·.1) = false := by rfl) :
    PE X (.Call (.Name x p) (e :: es) [] pos) (tCallLc i C sp E t) := by
  obtain ⟨f, fd, ps, dvs, ds, sp0, M, G, hd, hb, conv⟩ := F.ex
  refine ⟨fun pins s σ H Q I h => ?_⟩
  obtain ⟨hs, ht⟩ := h
  refine wpAny_Call_Name_kw (thn ((pe_var (pos := p) hN hv hdb hcd).run pins s σ H (fun v H1 => v = .ref C ∧ H1 = H) I ⟨.ref C, hs, rfl, rfl⟩) fun u s1 ⟨v, H1, I1, r1, q1⟩ => ?_)
  obtain ⟨rfl, rfl⟩ := q1
  cases r1
  refine PySem.W.callWith_K (h₀ := X.base) I.ok.mod.kin M.kp (thn (ha.run pos pins s1 σ _ _ I1 ht) fun us s2 ⟨vs, H2, I2, r, q⟩ => ⟨I2.kIn, ?_⟩) he hpl
  exact run_make M G hr hb hd hx I2 r (conv vs H2 Q E q)
theorem pe_mkK {ks : List Str} {kws : List Keyword} {tk : TA} (F : MkK X.prog X.w X.K X.mg X.base C k ks sp) (hr : Room (k + 1) X.A) (hm : X.mg x = some (.ref C)) (hx : Passes (L2.CX X.prog X.w) X E) (hkw : PK X kws tk) (hg : Gl X x := by rfl)
    (hall : (backToKw pos (keywordEach kws X.env)).all (·.1.isSome) = true := by rfl) (hks : (backToKw pos (keywordEach kws X.env)).filterMap (·.1) = ks := by rfl) (hdb : (x == ("__debug__" : Str)) = false := by decide)
    (hpl : ((backTo pos (starEach [] X.env)).any (·.1) || (backToKw pos (keywordEach kws X.env)).any (·.1.isNone)) = false := by rfl) :
    PE X (.Call (.Name x p) [] kws pos) (tCallW ks.length sp E tk) := by
  obtain ⟨f, fd, ps, g, gV, sp0, M, G, hb, conv⟩ := F.ex
  refine ⟨fun pins s σ H Q I h => ?_⟩
  refine wpAny_Call_Name_kw (ld_glob I hg hm ?_ hdb)
  refine PySem.W.callWith_KW0 (h₀ := X.base) I.ok.mod.kin M.kp hall ?_ hpl
  refine thn (hkw.run pos pins s σ H _ I h) fun ws s2 ⟨zs, H2, I2, rz, l1, q2⟩ => ⟨I2.kIn, ?_⟩
  rw [hks]
  exact run_makeK (us := []) (vs := []) M G hr hb hx I2 .nil rz rfl l1 (conv zs H2 Q E l1 q2)
end
/-- a method of the class at C, or a property of it: the promise takes the object first -/
structure MeI (P : Program) (w : World) (K : PySem.W.Frag) (mg : Str → Option Value) (base : Heap) (C : Addr) (m : Str) (k : Nat) (sp : Sp) : Prop where
  ex : ∃ f fd ps, Cls K C ∧ Meth K C m f ∧ FnOk P w K mg base (L2.CX P w) k f fd ps sp ∧ Binds K fd ps []
structure PrI (P : Program) (w : World) (K : PySem.W.Frag) (mg : Str → Option Value) (base : Heap) (C : Addr) (m : Str) (k : Nat) (sp : Sp) : Prop where
  ex : ∃ p g fd ps, Cls K C ∧ PropOf K C m p g ∧ FnOk P w K mg base (L2.CX P w) k g fd ps sp ∧ Binds K fd ps []
section
variable {X : Cx} {k : Nat} {C : Addr} {sp : Sp} {E : XK} {m : Str} {apos pos : Pos} {e o : Expr} {es : List Expr} {t : TA} {te ta : TE}
theorem pe_mt {pl : Sem Bool} (F : MeI X.prog X.w X.K X.mg X.base C m k sp) (hr : Room k X.A) (hx : Passes (L2.CX X.prog X.w) X E) (he : PE X o ta) (ha : PA X (e :: es) t)
    (ht : eval (.Call (.Attribute o m apos) (e :: es) [] pos) X.env = (do
      let ov ← eval o X.env
      standAt apos.atName
      let (f, first) ← holding [ov] (getMethod ov m pl)
      callWith pos f first (backTo pos (starEach (e :: es) X.env)) (backToKw pos (keywordEach [] X.env))) := by rfl)
    (hs : starEach (e :: es) X.env = (false, eval e X.env) :: starEach es X.env := by rfl) (hpl : (backTo pos (starEach es X.env)).any (·.1) = false := by rfl) :
    PE X (.Call (.Attribute o m apos) (e :: es) [] pos) (tMeth C m sp [] E ta t) := by
  obtain ⟨f, fd, ps, c, M, G, hb⟩ := F.ex
  exact pe_meth he c M G hr hb .nil hx ha hs hpl ht
theorem pe_mt0 {pl : Sem Bool} (F : MeI X.prog X.w X.K X.mg X.base C m k sp) (hr : Room k X.A) (hx : Passes (L2.CX X.prog X.w) X E) (he : PE X o ta)
    (ht : eval (.Call (.Attribute o m apos) [] [] pos) X.env = (do
      let ov ← eval o X.env
      standAt apos.atName
      let (f, first) ← holding [ov] (getMethod ov m pl)
      callWith pos f first (backTo pos (starEach [] X.env)) (backToKw pos (keywordEach [] X.env))) := by rfl) :
    PE X (.Call (.Attribute o m apos) [] [] pos) (tMeth C m sp [] E ta tNil) := by
  obtain ⟨f, fd, ps, c, M, G, hb⟩ := F.ex
  exact pe_meth0 he c M G hr hb .nil hx ht
theorem pe_pr (F : PrI X.prog X.w X.K X.mg X.base C m k sp) (hr : Room (k + 1) X.A) (hx : Passes (L2.CX X.prog X.w) X.nox E) (he : PE X e ta) (hab : attributeBase e m X.env (eval e X.env) = eval e X.env := by rfl) :
    PE X (.Attribute e m pos) (tProp C sp [] E ta) := by
  obtain ⟨p, g, fd, ps, c, hp, G, hb⟩ := F.ex
  exact pe_prop he c hp G hr hb .nil hx hab
/-- an own special method called on values, its answer anything but NotImplemented -/
theorem own_back {Q : VK} {pins : List (Addr × Obj)} {σ : L2.St} {s' : Shared} {u : Value} (h : EP X pins σ Q u s') : PySem.W.CmpBack (EP X pins σ Q) u s' := by
  obtain ⟨v, H', I, r, q⟩ := id h
  cases v with
  | non => cases (show u = Value.none from r); exact h
  | bl b => cases (show u = Value.bool b from r); exact h
  | int b => obtain ⟨t, rfl⟩ := (show ∃ t, u = Value.int b t from r); exact h
  | str b => obtain ⟨t, rfl⟩ := (show ∃ t, u = Value.str b t from r); exact h
  | byt b => obtain ⟨t, rfl⟩ := (show ∃ t, u = Value.bytes b t from r); exact h
  | flt b => obtain ⟨t, rfl⟩ := (show ∃ t, u = Value.float b t from r); exact h
  | ref a => cases (show u = Value.ref a from r); exact h
  | ty n => cases (show u = Value.type n from r); exact h
theorem run_own {f : Addr} {fd : FuncData} {ps : List Str} {pins : List (Addr × Obj)} {σ : L2.St} {H : Hp} {s : Shared} {Q : VK} {us : List Value} {vs : List V} (F : FnOk X.prog X.w X.K X.mg X.base (L2.CX X.prog X.w) k f fd ps sp) (hr : Room k X.A) (hb : Binds X.K fd ps []) (hx : Passes (L2.CX X.prog X.w) X E)
    (I : Inv X pins σ H s) (r : Vals vs us) (h : sp vs H Q E) : wpAny (model X.prog X.w) X.A (call (.ref f) us) (PySem.W.CmpBack (EP X pins σ Q)) X.xe s :=
  thn (run_fn (dvs := []) F hr hb .nil hx I r (by rw [List.append_nil]; exact h)) fun _ _ q => own_back q
/-- a op b, a an instance of the class at C, b one of it, too -/
def rOwn (C : Addr) (sp : Sp) (E : XK) : R2 := fun x y H Q => ∃ a b dx dy fs gs, x = .ref a ∧ y = .ref b ∧ H a = some (.ins C dx fs) ∧ H b = some (.ins C dy gs) ∧ sp [.ref a, .ref b] H Q E
theorem op_own {op : Operator} (F : MeI X.prog X.w X.K X.mg X.base C (PySem.dunder op.info.2) k sp) (sf : PySem.W.selfFirst X.K C = true) (hr : Room k X.A) (hx : Passes (L2.CX X.prog X.w) X E) : OpR X (binaryOp op) (rOwn C sp E) := by
  obtain ⟨f, fd, ps, c, M, G, hb⟩ := F.ex
  intro pins s σ H x y v u Q I rx ry h
  obtain ⟨a, b, dx, dy, fs, gs, rfl, rfl, ha, hb', q⟩ := h
  cases rx
  cases ry
  obtain ⟨mA, J, _⟩ := ins_get I.hok ha
  obtain ⟨mB, J', _⟩ := ins_get I.hok hb'
  obtain ⟨od, J, _⟩ := J.look
  obtain ⟨od', J', _⟩ := J'.look
  obtain ⟨m, hF⟩ := I.fr
  exact PySem.W.binop_K hF I.ok.mod.kin J J'.type sf M.at_ M.fn (run_own (vs := [.ref a, .ref b]) G hr hb hx I (.cons rfl (.cons rfl .nil)) q)
/-- a op n, n an int -/
def rOwnI (C : Addr) (sp : Sp) (E : XK) : R2 := fun x y H Q => ∃ a n dx fs, x = .ref a ∧ y = .int n ∧ H a = some (.ins C dx fs) ∧ sp [.ref a, .int n] H Q E
theorem op_ownI {op : Operator} {rc : Option Value} (F : MeI X.prog X.w X.K X.mg X.base C (PySem.dunder op.info.2) k sp) (sf : PySem.W.selfFirst X.K C = true) (hrc : PySem.W.findIn X.K (.ref C) (dunderR op.info.2) = some rc) (hp : rc = none ∨ ∃ g : Addr, rc = some (.ref g))
    (hi : ∃ fo ro, PySem.W.findIn X.K (.type "int") (PySem.dunder op.info.2) = some fo ∧ PySem.W.findIn X.K (.type "int") (dunderR op.info.2) = some ro ∧ PySem.W.subIn X.K (.type "int") (.ref C) = some false)
    (hr : Room k X.A) (hx : Passes (L2.CX X.prog X.w) X E) : OpR X (binaryOp op) (rOwnI C sp E) := by
  obtain ⟨f, fd, ps, c, M, G, hb⟩ := F.ex
  obtain ⟨fo, ro, h1, h2, h3⟩ := hi
  intro pins s σ H x y v u Q I rx ry h
  obtain ⟨a, n, dx, fs, rfl, rfl, ha, q⟩ := h
  cases rx
  obtain ⟨t, rfl⟩ := ry
  obtain ⟨mA, J, _⟩ := ins_get I.hok ha
  obtain ⟨od, J, _⟩ := J.look
  obtain ⟨m, hF⟩ := I.fr
  exact PySem.W.ksp_binT hF I.ok.mod.kin J rfl sf M.at_ M.fn hrc hp h1 h2 h3 (run_own (vs := [.ref a, .int n]) G hr hb hx I (.cons rfl (.cons ⟨_, rfl⟩ .nil)) q)
/-- -a -/
theorem un_own (F : MeI X.prog X.w X.K X.mg X.base C "__neg__" k sp) (hr : Room k X.A) (hx : Passes (L2.CX X.prog X.w) X E) : UnR X (unaryOp .USub) (fun x H Q => ∃ a dx fs, x = .ref a ∧ H a = some (.ins C dx fs) ∧ sp [.ref a] H Q E) := by
  obtain ⟨f, fd, ps, c, M, G, hb⟩ := F.ex
  intro pins s σ H x v Q I rx h
  obtain ⟨a, dx, fs, rfl, ha, q⟩ := h
  cases rx
  obtain ⟨mA, J, _⟩ := ins_get I.hok ha
  obtain ⟨od, J, _⟩ := J.look
  obtain ⟨m, hF⟩ := I.fr
  exact PySem.W.ksp_neg hF I.ok.mod.kin J M.at_ M.fn (run_fn (dvs := []) (vs := [.ref a]) G hr hb .nil hx I (.cons rfl .nil) q)
/-- a == b by an own __eq__ -/
theorem op_ownEq (F : MeI X.prog X.w X.K X.mg X.base C "__eq__" k sp) (hr : Room k X.A) (hx : Passes (L2.CX X.prog X.w) X E) : OpR X (compareOp .Eq) (rOwn C sp E) := by
  obtain ⟨f, fd, ps, c, M, G, hb⟩ := F.ex
  intro pins s σ H x y v u Q I rx ry h
  obtain ⟨a, b, dx, dy, fs, gs, rfl, rfl, ha, hb', q⟩ := h
  cases rx
  cases ry
  obtain ⟨mA, J, _⟩ := ins_get I.hok ha
  obtain ⟨mB, J', _⟩ := ins_get I.hok hb'
  obtain ⟨od, J, _⟩ := J.look
  obtain ⟨od', J', _⟩ := J'.look
  obtain ⟨m, hF⟩ := I.fr
  exact PySem.W.cmp_K (op := .Eq) (tb := .ref C) hr.units0 hF I.ok.mod.kin J J'.type (by simp [PySem.W.notFirst]) M.at_ M.fn (run_own (vs := [.ref a, .ref b]) G hr hb hx I (.cons rfl (.cons rfl .nil)) q)
/-- a def run one or two levels within a builtin -/
theorem run_at {A' : Around} {f : Addr} {fd : FuncData} {ps : List Str} {pins : List (Addr × Obj)} {σ : L2.St} {H : Hp} {s : Shared} {Q : VK} {us : List Value} {vs : List V} (F : FnOk X.prog X.w X.K X.mg X.base (L2.CX X.prog X.w) k f fd ps sp) (hr : Room k A') (hA : A'.frames = X.A.frames) (hb : Binds X.K fd ps []) (hx : Passes (L2.CX X.prog X.w) X E)
    (I : Inv X pins σ H s) (r : Vals vs us) (h : sp vs H Q E) : wpAny (model X.prog X.w) A' (call (.ref f) us) (EP X pins σ Q) X.xe s := by
  have hl : (us ++ []).length = ps.length := by rw [List.append_nil, ← r.length]; exact F.len _ _ _ _ h
  have e0 : Env0 X.prog X.w X.K X.mg X.base A' X.stack s H := by
    have e := I.env0
    exact ⟨by rw [hA]; exact e.frames, e.mod, e.bs, e.bsz, e.funs, e.frf, e.hok, e.bare⟩
  have hb2 := hb s us I.kIn hl
  rw [List.append_nil] at hb2
  refine wpAny_call (codeAny_mono (F.run A' X.stack s H ⟨us, []⟩ us vs Q E hr e0 hb2 r h) fun r s' hq => ?_)
  cases r with
  | error e => exact hx pins σ H s e s' I hq
  | ok fl =>
    cases fl with
    | ret u => exact I.after hq
    | next => exact False.elim hq
    | brk => exact False.elim hq
    | cont => exact False.elim hq
/-- str(a) by an own __str__ -/
theorem call_strO (F : MeI X.prog X.w X.K X.mg X.base C "__str__" k sp) (hr : Room (k + 2) X.A) (hx : Passes (L2.CX X.prog X.w) X E) : CallR X (.type "str") (fun xs H Q => ∃ a dx fs, xs = [.ref a] ∧ H a = some (.ins C dx fs) ∧ sp [.ref a] H (fun v H' => (∃ z, v = .str z) ∧ Q v H') E) := by
  obtain ⟨f, fd, ps, c, M, G, hb⟩ := F.ex
  intro pins s σ H xs us Q I r h
  obtain ⟨a, dx, fs, rfl, ha, q⟩ := h
  obtain ⟨u, rfl, ru⟩ := vals1 r
  cases ru
  obtain ⟨mA, J, _⟩ := ins_get I.hok ha
  obtain ⟨od, J, _⟩ := J.look
  have hr1 : Room (k + 1) X.A.in1 := hr.in1
  have hr2 : Room k X.A.in1.in1 := hr1.in1
  refine PySem.W.kso_call hr2.units0 I.kIn J M.at_ M.fn (thn (run_at (A' := X.A.in1.in1) (vs := [.ref a]) G hr2 rfl hb hx I (.cons rfl .nil) q) fun u s' ⟨v, H', I', rv, ⟨z, ev⟩, q'⟩ => ?_)
  subst ev
  obtain ⟨t, rfl⟩ := rv
  exact ⟨.str z, H', I', ⟨t, rfl⟩, q'⟩
end
end Xl


namespace Xl
open PySem PySem.Spec PyProof.Rows L2
/-! ### calls in a try: what they let out depends on the slots -/
section
variable {X : Cx} {k : Nat} {C f : Addr} {fd : FuncData} {ps : List Str} {sp : Sp} {W : WX} {x m : Str} {p pos apos : Pos} {e o : Expr} {es : List Expr} {t : TA} {ta : TE}
/-- the callee ends -/
theorem end_fnS {E : XK} {pins : List (Addr × Obj)} {σ : L2.St} {H : Hp} {s : Shared} {Q : VK} {vs : List V} {us : List Value} {a : Args} (F : FnOk X.prog X.w X.K X.mg X.base (L2.CX X.prog X.w) k f fd ps sp) (hr : Room k X.A) (hx : PassesAt (L2.CX X.prog X.w) X σ E)
    (I : Inv X pins σ H s) (hb : BindsTo s fd a (ps.zip us)) (r : Vals vs us) (h : sp vs H Q E) : codeAny (model X.prog X.w) X.A (.call (.ref f) a) (fun r s' => match r with | .ok (.ret v) => EP X pins σ Q v s' | .ok _ => False | .error e => X.xe e s') s := by
  refine codeAny_mono (F.run X.A X.stack s H a us vs Q E hr I.env0 hb r h) fun r s' hq => ?_
  cases r with
  | error e => exact hx pins H s e s' I hq
  | ok fl =>
    cases fl with
    | ret u => exact I.after hq
    | next => exact False.elim hq
    | brk => exact False.elim hq
    | cont => exact False.elim hq
theorem pe_fS (F : FnI X.prog X.w X.K X.mg X.base x k ps sp) (hr : Room k X.A) (tk : Takes X W) (ha : PA X (e :: es) t) (hg : Gl X x := by rfl)
    (hdb : (x == ("__debug__" : Str)) = false := by decide) (he : starEach (e :: es) X.env = (false, eval e X.env) :: starEach es X.env := by rfl) (hpl : (backTo pos (starEach es X.env)).any (·.1) = false := by rfl) :
    PE X (.Call (.Name x p) (e :: es) [] pos) (tCallS sp (WE W) t) := by
  obtain ⟨f, fd, h1, h2, h3, h4⟩ := F.ex
  exact pe_callS h1 hr hg h2 h3 h4 (passAt tk) ha hdb he hpl
theorem run_makeS {E : XK} {ds : List Value} {dvs : List V} {pins : List (Addr × Obj)} {σ : L2.St} {H : Hp} {s : Shared} {Q : VK} {us : List Value} {vs : List V} (M : Mk X.K C f) (F : FnOk X.prog X.w X.K X.mg X.base (L2.CX X.prog X.w) k f fd ps sp) (hr : Room (k + 1) X.A) (hb : Binds X.K fd ps ds) (hd : Vals dvs ds)
    (hx : PassesAt (L2.CX X.prog X.w) X σ E) (I : Inv X pins σ H s) (r : Vals vs us)
    (h : ∀ x dx, H x = none → H dx = none → dx ≠ x → sp (.ref x :: (vs ++ dvs)) (upd (upd H dx (.own x)) x (.ins C dx [])) (fun v H2 => v = .non ∧ Q (.ref x) H2) E) :
    wpAny (model X.prog X.w) X.A (call (.ref C) us) (EP X pins σ Q) X.xe s := by
  have hq := h (s.heap.objs.size + 1) s.heap.objs.size (I.hok.fresh (Nat.le_succ _)) (I.hok.fresh (Nat.le_refl _)) (Nat.ne_of_lt (Nat.lt_succ_self _))
  have I2 := Inv.made (C := C) I
  have r2 : Vals (V.ref (s.heap.objs.size + 1) :: (vs ++ dvs)) (Value.ref (s.heap.objs.size + 1) :: (us ++ ds)) := .cons rfl (r.append hd)
  have hl : (Value.ref (s.heap.objs.size + 1) :: us ++ ds).length = ps.length := by
    have e := r2.length
    rw [F.len _ _ _ _ hq] at e
    exact e.symm
  refine wpAny_call (make_map (f := f) I.kIn M.makes M.init (beq_iff_eq.mp M.fn) (codeAny_mono (F.run _ X.stack _ _ ⟨Value.ref (s.heap.objs.size + 1) :: us, []⟩ (Value.ref (s.heap.objs.size + 1) :: (us ++ ds)) _ _ E (hr.make C us [])
    (I2.env0.make C us []) (hb _ (Value.ref (s.heap.objs.size + 1) :: us) I2.kIn hl) r2 hq) fun r s' hq' => ?_))
  cases r with
  | error e => exact hx pins _ _ e s' I2 hq'
  | ok fl =>
    cases fl with
    | ret u =>
      obtain ⟨v, H', I3, rv, ev, q3⟩ := I2.after hq'
      subst ev
      exact ⟨rv, ⟨V.ref (s.heap.objs.size + 1), H', I3, rfl, q3⟩⟩
    | next => exact False.elim hq'
    | brk => exact False.elim hq'
    | cont => exact False.elim hq'
theorem pe_mkS (F : MkI X.prog X.w X.K X.mg X.base C k sp) (hr : Room (k + 1) X.A) (hm : X.mg x = some (.ref C)) (tk : Takes X W) (ha : PA X (e :: es) t) (hg : Gl X x := by rfl)
    (hdb : (x == ("__debug__" : Str)) = false := by decide) (he : starEach (e :: es) X.env = (false, eval e X.env) :: starEach es X.env := by rfl) (hpl : (backTo pos (starEach es X.env)).any (·.1) = false := by rfl) :
    PE X (.Call (.Name x p) (e :: es) [] pos) (tCallS sp (WE W) t) := by
  obtain ⟨f, fd, ps, dvs, ds, sp0, M, G, hd, hb, conv⟩ := F.ex
  refine ⟨fun pins s σ H Q I h => ?_⟩
  refine wpAny_Call_Name_kw (ld_glob I hg hm ?_ hdb)
  refine PySem.W.callWith_K (h₀ := X.base) I.ok.mod.kin M.kp (thn (ha.run pos pins s σ H _ I h) fun us s1 ⟨vs, H1, I1, r, q⟩ => ⟨I1.kIn, ?_⟩) he hpl
  exact run_makeS M G hr hb hd (passAt tk σ) I1 r (conv vs H1 Q _ q)
end
section
variable {X : Cx} {k : Nat} {ps : List Str} {sp : Sp} {W : WX} {x : Str} {p pos : Pos}
def tCallWS (n : Nat) (sp : Sp) (E : L2.St → XK) (tk : TA) : TE := fun σ H Q => tk σ H fun zs H2 => zs.length = n ∧ sp zs H2 Q (E σ)
theorem pe_fKS {kws : List Keyword} {t : TA} (F : FnK X.prog X.w X.K X.mg X.base x k ps sp) (hr : Room k X.A) (tk : Takes X W) (hkw : PK X kws t) (hg : Gl X x := by rfl)
    (hall : (backToKw pos (keywordEach kws X.env)).all (·.1.isSome) = true := by rfl) (hks : (backToKw pos (keywordEach kws X.env)).filterMap (·.1) = ps := by rfl) (hdb : (x == ("__debug__" : Str)) = false := by decide)
    (hpl : ((backTo pos (starEach [] X.env)).any (·.1) || (backToKw pos (keywordEach kws X.env)).any (·.1.isNone)) = false := by rfl) :
    PE X (.Call (.Name x p) [] kws pos) (tCallWS ps.length sp (WE W) t) := by
  obtain ⟨f, fd, h1, h2, h3, h4⟩ := F.ex
  refine ⟨fun pins s σ H Q I h => ?_⟩
  refine wpAny_Call_Name_kw (ld_glob I hg h2 ?_ hdb)
  refine PySem.W.callWith_KW0 (h₀ := X.base) I.ok.mod.kin h3 hall ?_ hpl
  refine thn (hkw.run pos pins s σ H _ I h) fun ws s2 ⟨zs, H2, I2, rz, l1, q2⟩ => ⟨I2.kIn, ?_⟩
  rw [hks]
  exact wpAny_call (end_fnS h1 hr (passAt tk σ) I2 (h4 s2 ws (by rw [← rz.length]; exact l1)) rz q2)
end
/-! ### classmethods -/
structure CmI (P : Program) (w : World) (K : PySem.W.Frag) (mg : Str → Option Value) (base : Heap) (C : Addr) (m : Str) (k : Nat) (ks : List Str) (sp : Sp) : Prop where
  ex : ∃ mc p g fd c, ClX.CRead K C mc ∧ ClX.CMet K C mc m p g ∧ FnOk P w K mg base (L2.CX P w) k g fd (c :: ks) sp ∧ Binds K fd (c :: ks) [] ∧
    ∀ (s : Shared) (c0 : Value) (ws : List Value), ws.length = ks.length → BindsTo s fd ⟨[c0], ks.zip ws⟩ ((c :: ks).zip (c0 :: ws))
section
variable {X : Cx} {k : Nat} {C : Addr} {ks : List Str} {sp : Sp} {E : XK} {W : WX} {m : Str} {apos pos : Pos} {e o : Expr} {es : List Expr} {t tk : TA} {ta : TE}
theorem raw0 {P : Program} {w : World} {K : PySem.W.Frag} {mg : Str → Option Value} {base : Heap} {f : Addr} {fd : FuncData} {ps : List Str} (F : FnOk P w K mg base (L2.CX P w) k f fd ps sp) (hb : Binds K fd ps []) : FnR P w K mg base (L2.CX P w) k f sp :=
  FnR.imp (FnOk.raw (dvs := []) F hb .nil) fun vs H Q E h => by rw [List.append_nil]; exact h
theorem pe_cm {pl : Sem Bool} (F : CmI X.prog X.w X.K X.mg X.base C m k ks sp) (hr : Room k X.A) (hx : Passes (L2.CX X.prog X.w) X E) (he : PE X o ta) (ha : PA X (e :: es) t)
    (hst : starEach (e :: es) X.env = (false, eval e X.env) :: starEach es X.env := by rfl) (hpl : (backTo pos (starEach es X.env)).any (·.1) = false := by rfl)
    (ht : eval (.Call (.Attribute o m apos) (e :: es) [] pos) X.env = (do
      let ov ← eval o X.env
      standAt apos.atName
      let (f, first) ← holding [ov] (getMethod ov m pl)
      callWith pos f first (backTo pos (starEach (e :: es) X.env)) (backToKw pos (keywordEach [] X.env))) := by rfl) :
    PE X (.Call (.Attribute o m apos) (e :: es) [] pos) (ClX.tCMeth C sp E ta t) := by
  obtain ⟨mc, p, g, fd, c, h1, h2, h3, h4, _⟩ := F.ex
  exact ClX.pe_cmeth he h1 h2 (raw0 h3 h4) hr hx ha hst hpl ht
def tCMethS (C : Addr) (sp : Sp) (E : L2.St → XK) (ta : TE) (t : TA) : TE := fun σ H Q => ta σ H fun x H1 => x = .ref C ∧ t σ H1 fun vs H2 => sp (.ref C :: vs) H2 Q (E σ)
theorem pe_cmS {pl : Sem Bool} (F : CmI X.prog X.w X.K X.mg X.base C m k ks sp) (hr : Room k X.A) (tk : Takes X W) (he : PE X o ta) (ha : PA X (e :: es) t)
    (hst : starEach (e :: es) X.env = (false, eval e X.env) :: starEach es X.env := by rfl) (hpl : (backTo pos (starEach es X.env)).any (·.1) = false := by rfl)
    (ht : eval (.Call (.Attribute o m apos) (e :: es) [] pos) X.env = (do
      let ov ← eval o X.env
      standAt apos.atName
      let (f, first) ← holding [ov] (getMethod ov m pl)
      callWith pos f first (backTo pos (starEach (e :: es) X.env)) (backToKw pos (keywordEach [] X.env))) := by rfl) :
    PE X (.Call (.Attribute o m apos) (e :: es) [] pos) (tCMethS C sp (WE W) ta t) := by
  obtain ⟨mc, p, g, fd, c, r, c', G, hb, _⟩ := F.ex
  refine ⟨fun pins s σ H Q I h => ?_⟩
  refine PySem.W.methodCall_KW (pl := pl) (thn (he.run pins s σ H _ I h) fun u s1 ⟨x, H1, I1, rx, ex, q⟩ => ?_) ht
  subst ex
  obtain rfl : u = Value.ref C := rx
  refine ClX.getmethcm_ok I1 r c' fun s2 I2 => ?_
  refine ClX.callwith_cm I2 (ClX.base_none I1 (Nat.le_refl _)) c'.fi (thn (ha.run pos _ s2 σ H1 _ I2 q) fun us s3 ⟨vs, H2, I3, rv, q2⟩ => ⟨⟨ClX.pin_at I3, I3.kIn⟩, ?_⟩) hst hpl
  have hl : (Value.ref C :: us).length = (c :: ks).length := by
    have := G.len _ _ _ _ q2
    rw [List.length_cons, rv.length] at this
    rw [List.length_cons]
    exact this
  have hb2 := hb s3 (.ref C :: us) I3.kIn (by rw [List.append_nil]; exact hl)
  rw [List.append_nil] at hb2
  exact thn (wpAny_call (PySem.W.method_call (ClX.pin_at I3) (end_fnS (vs := .ref C :: vs) G hr (passAt tk σ) I3 hb2 (.cons rfl rv) q2))) fun _ _ y => ClX.unpinE (p := (s1.heap.objs.size, PySem.W.methodObj (.ref g) (.ref C))) y
/-- C.m(k = v, ..) -/
def tCMethK (C : Addr) (n : Nat) (sp : Sp) (E : XK) (ta : TE) (t : TA) : TE := fun σ H Q => ta σ H fun x H1 => x = .ref C ∧ t σ H1 fun vs H2 => vs.length = n ∧ sp (.ref C :: vs) H2 Q E
theorem pe_cmK {kws : List Keyword} {pl : Sem Bool} (F : CmI X.prog X.w X.K X.mg X.base C m k ks sp) (hr : Room k X.A) (hx : Passes (L2.CX X.prog X.w) X E) (he : PE X o ta) (hkw : PK X kws tk)
    (hall : (backToKw pos (keywordEach kws X.env)).all (·.1.isSome) = true := by rfl) (hks : (backToKw pos (keywordEach kws X.env)).filterMap (·.1) = ks := by rfl)
    (hpl : ((backTo pos (starEach [] X.env)).any (·.1) || (backToKw pos (keywordEach kws X.env)).any (·.1.isNone)) = false := by rfl)
    (ht : eval (.Call (.Attribute o m apos) [] kws pos) X.env = (do
      let ov ← eval o X.env
      standAt apos.atName
      let (f, first) ← holding [ov] (getMethod ov m pl)
      callWith pos f first (backTo pos (starEach [] X.env)) (backToKw pos (keywordEach kws X.env))) := by rfl) :
    PE X (.Call (.Attribute o m apos) [] kws pos) (tCMethK C ks.length sp E ta tk) := by
  obtain ⟨mc, p, g, fd, c, r, c', G, _, hb⟩ := F.ex
  refine ⟨fun pins s σ H Q I h => ?_⟩
  refine PySem.W.methodCall_KW (pl := pl) (thn (he.run pins s σ H _ I h) fun u s1 ⟨x, H1, I1, rx, ex, q⟩ => ?_) ht
  subst ex
  obtain rfl : u = Value.ref C := rx
  refine ClX.getmethcm_ok I1 r c' fun s2 I2 => ?_
  refine PySem.W.callWith_of (P := PySem.W.MethP X.K s1.heap.objs.size g (.ref C)) hpl (PySem.W.keeps_M c'.fi) (evalArgs_kw2_nil hall ?_)
  refine thn (hkw.run pos _ s2 σ H1 _ I2 q) fun ws s3 ⟨zs, H2, I3, rz, l1, q2⟩ => ⟨⟨ClX.pin_at I3, I3.kIn⟩, ?_⟩
  rw [hks]
  refine thn (wpAny_call (PySem.W.method_call (ClX.pin_at I3) ?_)) fun _ _ y => ClX.unpinE (p := (s1.heap.objs.size, PySem.W.methodObj (.ref g) (.ref C))) y
  refine codeAny_mono (G.run X.A X.stack s3 H2 ⟨[.ref C], ks.zip ws⟩ (.ref C :: ws) (.ref C :: zs) Q E hr I3.env0 (hb s3 (.ref C) ws (by rw [← rz.length]; exact l1)) (.cons rfl rz) q2) fun r s' hq => ?_
  cases r with
  | error e => exact hx _ σ H2 s3 e s' I3 hq
  | ok fl =>
    cases fl with
    | ret u => exact I3.after hq
    | next => exact False.elim hq
    | brk => exact False.elim hq
    | cont => exact False.elim hq
end
/-! ### isinstance(e, C), e the caught error, which has fields -/
structure XkC (K : PySem.W.Frag) (C : Addr) : Prop where
  ha : PySem.W.findIn K (.ref C) "__class__" = some (some (.builtin "object.__class__"))
  hn : PySem.W.specialIn K (.builtin "object.__class__") "__get__" = some (some (.builtin "getset_descriptor.__get__"))
  ht : PySem.W.takesIn K (.builtin "object.__class__") = some true
  hm : PySem.W.mroIn K C (.type "object") = some true
def rIsX (K : PySem.W.Frag) (D a : Addr) (cls : Value) (d : Option Addr) : List V → Hp → VK → Prop := fun xs H Q => ∃ (c : V) (cv : Value) (b : Bool) (dd : Addr) (fs : List (Str × V)),
  cls = .ref D ∧ d = some dd ∧ H dd = some (.xd fs) ∧ xs = [.ref a, c] ∧ (∀ u, RelV c u → u = cv) ∧ PySem.W.kitOne K (.ref D) cv = some b ∧ Q (.bl b) H
theorem call_isX {X : Cx} {a D : Addr} {oe : Obj} {cls : Value} {d : Option Addr} {pn : List (Addr × Obj)} (T : XfC X.K D) (C : XkC X.K D) (hz : Zc cls d oe) (hf : ∃ vs, oe.data = .fields vs) : CallR (X.suite a ((a, oe) :: pn)) (.builtin "isinstance") (rIsX X.K D a cls d) := by
  intro pins s σ H xs us Q I r h
  obtain ⟨c, cv, b, dd, fs, rfl, rfl, hdd, rfl, hcv, e, q⟩ := h
  cases r with
  | cons rx rr =>
    cases rr with
    | cons rt rr =>
      cases rr
      cases rx
      have ec := hcv _ rt
      subst ec
      obtain ⟨hget, _⟩ := I.pin (a, oe) (List.mem_append.mpr (.inl List.mem_cons_self))
      obtain ⟨vs, hv⟩ := hf
      have hx : ObjOk X.prog X.w H s.heap dd (.xd fs) := I.hok dd _ hdd
      obtain ⟨mA, hns, hr⟩ := hx
      obtain ⟨od, ho, hl⟩ := lookIn_ns hns
      have J : PySem.W.InstAt s.heap a oe D (some od) := ⟨hget, hz.1, by unfold PySem.W.notCls; rw [hv] <;> rfl, by rw [hz.2]; exact ho⟩
      have hcl : (PySem.W.clsIn X.K D).isSome = true := by
        obtain ⟨cd, hc, _⟩ := PySem.W.any_some T.hdC
        rw [hc]; rfl
      exact PySem.W.kia_one (PySem.W.kitx_exc hcl T.ga T.gg T.exC C.ha C.hn C.ht C.hm) I.kIn J e (fun z => nomatch z) fun tk => ⟨.bl b, H, I.kept (t' := tk) fun _ _ z => z, rfl, q⟩
end Xl


namespace Xl
open PySem PySem.Spec PyProof.Rows L2
/-! ### several except clauses, each with one and the same name -/
abbrev Cl := Value × (Addr → Value → Option Addr → TS)
/-- the ends behind a suite: the name is gone -/
def gonE (i : Nat) (N : Ends) : Ends := { nx := fun τ G => N.nx (τ.set i none) G, rt := N.rt, bk := fun τ G => N.bk (τ.set i none) G, ct := fun τ G => N.ct (τ.set i none) G }
def wAsM (K : PySem.W.Frag) (i : Nat) (Wo : WX) (N : Ends) : List Cl → WX
  | [] => Wo
  | (c, ts) :: r => fun cls d τ G => ∃ y, PySem.W.exmOne K cls c = some y ∧ (y = true → ∀ z, G z = none → ts z cls d (gonE i N) (τ.set i (some (.ref z))) G) ∧ (y = false → wAsM K i Wo N r cls d τ G)
inductive HdA (X : Cx) (n : Str) : List ExceptHandler → List Cl → Prop
  | nil : HdA X n [] []
  | cons {x : Str} {c : Value} {ts : Addr → Value → Option Addr → TS} {b0 : Stmt} {su : List Stmt} {np hp : Pos} {hds : List ExceptHandler} {l : List Cl} (hc : Names X x c)
      (hsu : ∀ (z : Addr) (oz : Obj) (cls : Value) (d : Option Addr) (pn : List (Addr × Obj)), Zc cls d oz → (∃ vs, oz.data = .fields vs) → PSs (X.suite z ((z, oz) :: pn)) (b0 :: su) (ts z cls d)) (r : HdA X n hds l) :
      HdA X n (.ExceptHandler (some (.Name x np)) (some n) (b0 :: su) hp :: hds) ((c, ts) :: l)
section
variable {X : Cx} {n : Str} {i : Nat} {bd : List Stmt} {hh0 : ExceptHandler} {hs' : List ExceptHandler} {l : List Cl} {pos : Pos} {tb : WX → TS} {Wo : WX}
theorem ps_try_asM (e1 : X.stack = X.env :: X.outer) (e2 : X.env.frame = some X.env.locals) (nd : X.N.Nodup) (ei : X.N[i]? = some n) (en : X.env.kindOf n = some .local) (tk : Takes X Wo)
    (hb : ∀ (W : WX) (pn : List (Addr × Obj)) (xe : Value → Shared → Prop), Takes (X.tr pn xe) W → PassesOwn (model X.prog X.w) X.A X.env xe → PSs (X.tr pn xe) bd (tb W))
    (hk : HdA X n (hh0 :: hs') l) : PS X (.Try bd (hh0 :: hs') [] [] pos) (fun N σ H => tb (wAsM X.K i Wo N l) N σ H) := by
  constructor
  intro pins s σ H N I hw
  have kx := I.ok
  have fr0 : X.A.frames = some (X.env :: X.outer) := kx.frames.trans (by rw [e1])
  have loc0 : Loc X.env.scope n := Or.inl en
  apply wpAny_Try_except
  have go0 := (hb (wAsM X.K i Wo N l) (X.pn ++ pins) (fun er q1 => wpAny (model X.prog X.w) X.A (noteFrame er X.env) (fun _ q2 => wpAny (model X.prog X.w) X.A (setFlight er none) (fun _ q3 => wpAny (model X.prog X.w) X.A (handleBy er X.env (hh0 :: hs')) (SP X pins N) X.xe q3) X.xe q2) X.xe q1) (fun u q xx => ?_) PassesOwn.looking).run [] s σ H N (I.toTry _) hw
  · refine wpAny_mono go0 (fun fl q1 z => ?_) fun _ _ z => z
    cases fl with
    | ret u =>
      obtain ⟨v, τ, G, J, rv, zz⟩ := z
      exact ⟨v, τ, G, J.ofTry kx, rv, zz⟩
    | next =>
      obtain ⟨τ, G, J, zz⟩ := z
      exact wpAny_execs_nil ⟨τ, G, J.ofTry kx, zz⟩
    | brk =>
      obtain ⟨τ, G, J, zz⟩ := z
      exact ⟨τ, G, J.ofTry kx, zz⟩
    | cont =>
      obtain ⟨τ, G, J, zz⟩ := z
      exact ⟨τ, G, J.ofTry kx, zz⟩
  · -- what the body lets out
    obtain ⟨z, Bs, sI, pins2, τ, G, cls, d, rfl, Jt, nb, up, sk, nz, os, ag, ww⟩ := xx
    have J0 : Inv X pins τ G sI := Jt.ofTry kx
    have sk2 : Sky Bs (X.env :: X.outer) z (Zc cls d) X.env.locals q.heap := e1 ▸ sk
    show wpAny (model X.prog X.w) X.A (noteFrame (.ref z) X.env) _ _ _
    apply Sky.land Zc.steady fr0 e2 sk2
    intro g3 fl3 up3
    have J3 : Inv X pins τ G { q with heap := g3 } := J0.landed nb fl3.1 (up.trans up3) os ag
    obtain ⟨o3, us3, ho3, hz3, hd3⟩ := fl3.there
    have off : z ∉ frs (X.env :: X.outer) := fun hm => by
      obtain ⟨_, o', eo, hno⟩ := fl3.2.2.1.mem hm
      rw [ho3] at eo
      cases eo
      exact hno _ hd3
    have zL : z ≠ X.env.locals := fun e => off (List.mem_filterMap.mpr ⟨X.env, List.mem_cons_self, e2.trans (by rw [e])⟩)
    have zF : z ∉ X.fs := fun hm => by
      obtain ⟨en', he', qq⟩ := List.mem_filterMap.mp hm
      exact off (List.mem_filterMap.mpr ⟨en', List.mem_cons_of_mem _ he', qq⟩)
    have S3 := J3.suite ho3 hd3 nz zL zF
    suffices all : ∀ {hd : List ExceptHandler} {lc : List Cl}, HdA X n hd lc → wAsM X.K i Wo N lc cls d τ G → wpAny (model X.prog X.w) X.A (handleBy (.ref z) X.env hd) (SP X pins N) X.xe { q with heap := g3 } from all hk ww
    intro hd lc hA
    induction hA with
    | nil =>
      intro wo
      apply wpAny_handleBy_nil
      obtain ⟨k1, k2, k3, ob, vs, Tb, oT, tt, hob, hzb, hdb, hb1, hrb⟩ := id fl3
      unfold PySem.passOn
      refine wpAny_bind (wpAny_field hob hdb hb1 ?_)
      have nn : ¬ ((Value.ref Tb == Value.none) = true) := by simp
      rw [if_neg nn]
      have out : wpAny (model X.prog X.w) X.A (setFlight (.ref z) X.env.frame) (fun _ q4 => wpAny (model X.prog X.w) X.A (throw (.ref z) : Sem Flow) (SP X pins N) X.xe q4) X.xe { q with heap := g3 } := by
        rw [e2]
        apply HandSPX.setFlight_upZ fl3
        intro g4 hg4 up4
        exact wpAny_throw (tk _ _ ⟨z, Bs, sI, pins, τ, G, cls, d, rfl, J0, nb, (up.trans up3).trans up4, .inr (.inr (e1 ▸ hg4)), nz, os, ag, wo⟩)
      first
        | exact wpAny_bind (wpAny_pure (wpAny_bind out))
        | exact wpAny_bind out
    | @cons x c ts b0 su np hp hds2 l2 hc hsu r ih =>
      rintro ⟨y, hy, yes, no⟩
      refine wpAny_handleBy_cons (codeAny_handlers_test ?_) (fun e => nomatch e)
      have LT : PySem.W.Looks (model X.prog X.w) g3 (typeOf (.ref z)) cls := fun _ _ _ _ kk zz => wpAny_typeOf_ref (kk _ _ ho3) (by rw [hz3.1]; exact zz)
      have LM := PySem.W.exm_one (M := model X.prog X.w) J3.kIn LT hy
      have tst : ∀ {Q : Value → Shared → Prop} {E : Value → Shared → Prop}, Q c { q with heap := g3 } → wpAny (model X.prog X.w) (X.A.mark (some (.ref z))) (eval (.Name x np) X.env) Q E { q with heap := g3 } := fun zz => by
        obtain ⟨hg, hdb, hm | ⟨hm, hv, hnn⟩⟩ := hc
        · exact ld_glob (X := X.suite z ((z, o3) :: (X.pn ++ pins))) S3 hg hm zz hdb
        · exact ld_blt (X := X.suite z ((z, o3) :: (X.pn ++ pins))) S3 hg hm hv zz hnn hdb
      refine tst (LM.here ?_)
      cases y with
      | false => exact ih (no rfl)
      | true =>
        apply codeAny_handlers_suite_as
        apply HandSPX.lands_againZ fl3
        intro g4 fl4 up4
        have J4 : Inv X pins τ G { q with heap := g4 } := J0.landed nb fl4.1 ((up.trans up3).trans up4) os ag
        obtain ⟨o4, us4, ho4, hz4, hd4⟩ := fl4.there
        refine store_ok (X := X.suite z ((z, o4) :: (X.pn ++ pins))) (v := .ref z) (J4.suite ho4 hd4 nz zL zF) nd ei loc0 rfl (fun q5 S5 => ?_) (.inr en)
        refine wpAny_mono ((hsu z o4 cls d (X.pn ++ pins) hz4 ⟨_, hd4⟩).run [] q5 _ G _ S5 (yes rfl z nz)) (fun fl q6 zz => ?_) (fun _ _ e => False.elim e)
        have gone : ∀ {τ6 : L2.St} {G6 : Hp} {Q : Shared → Prop}, Inv (X.suite z ((z, o4) :: (X.pn ++ pins))) [] τ6 G6 q6 → (∀ q7, Inv X pins (τ6.set i none) G6 q7 → Q q7) →
            wpAny (model X.prog X.w) X.A (do bindName X.env n .none; unbindBehindTheSuite X.env n hp) (fun _ q7 => Q q7) X.xe q6 := fun S6 hq => gone_ok (S6.unsuite kx) nd ei en hq
        cases fl with
        | ret u =>
          obtain ⟨v6, τ6, G6, S6, r6, z6⟩ := zz
          exact gone S6 fun q7 J7 => ⟨_, _, _, J7, r6, z6⟩
        | next =>
          obtain ⟨τ6, G6, S6, z6⟩ := zz
          exact gone S6 fun q7 J7 => ⟨_, _, J7, z6⟩
        | brk =>
          obtain ⟨τ6, G6, S6, z6⟩ := zz
          exact gone S6 fun q7 J7 => ⟨_, _, J7, z6⟩
        | cont =>
          obtain ⟨τ6, G6, S6, z6⟩ := zz
          exact gone S6 fun q7 J7 => ⟨_, _, J7, z6⟩
end
end Xl


namespace Xl
open PySem PySem.Spec PyProof.Rows L2
/-! ### clean data: trees without a heap -/
inductive D where
  | non
  | bl (b : Bool)
  | int (i : Int)
  | str (s : Str)
  | tup (ds : List D)
  | lst (ds : List D)
  | dic (kvs : List (Key × D))
  | ins (C : Addr) (fs : List (Str × D))
  | cls (a : Addr)
  | exn (a : Addr) (d : Option Addr) (C : Addr) (fs : List (Str × D))
def keyOk : Key → Bool
  | .inl _ => true
  | .inr s => PyData.strOk s
mutual
/-- v is d in H, by objects outside of A -/
inductive Is (A : Fp) (H : Hp) : V → D → Prop
  | non : Is A H .non .non
  | bl (b : Bool) : Is A H (.bl b) (.bl b)
  | int (i : Int) : Is A H (.int i) (.int i)
  | str (s : Str) : PyData.strOk s = true → Is A H (.str s) (.str s)
  | tup {a : Addr} {vs : List V} {ds : List D} : H a = some (.tup vs) → ¬ A a → IsL A H vs ds → Is A H (.ref a) (.tup ds)
  | lst {a : Addr} {vs : List V} {ds : List D} : H a = some (.lst vs) → ¬ A a → IsL A H vs ds → Is A H (.ref a) (.lst ds)
  | dic {a : Addr} {vs : List (Key × V)} {ds : List (Key × D)} : Rd H a (.dK vs) → ¬ A a → IsK A H vs ds → Is A H (.ref a) (.dic ds)
  | ins {a C dx : Addr} {vs : List (Str × V)} {ds : List (Str × D)} : H a = some (.ins C dx vs) → ¬ A a → IsF A H vs ds → Is A H (.ref a) (.ins C ds)
  | cls (a : Addr) : Is A H (.ref a) (.cls a)
  | exn0 (a C : Addr) : Is A H (.ref a) (.exn a none C [])
  | exn1 {a d C : Addr} {vs : List (Str × V)} {ds : List (Str × D)} : H d = some (.xd vs) → ¬ A d → IsF A H vs ds → Is A H (.ref a) (.exn a (some d) C ds)
inductive IsL (A : Fp) (H : Hp) : List V → List D → Prop
  | nil : IsL A H [] []
  | cons {v : V} {vs : List V} {d : D} {ds : List D} : Is A H v d → IsL A H vs ds → IsL A H (v :: vs) (d :: ds)
inductive IsK (A : Fp) (H : Hp) : List (Key × V) → List (Key × D) → Prop
  | nil : IsK A H [] []
  | cons {k : Key} {v : V} {vs : List (Key × V)} {d : D} {ds : List (Key × D)} : keyOk k = true → Is A H v d → IsK A H vs ds → IsK A H ((k, v) :: vs) ((k, d) :: ds)
inductive IsF (A : Fp) (H : Hp) : List (Str × V) → List (Str × D) → Prop
  | nil : IsF A H [] []
  | cons {k : Str} {v : V} {vs : List (Str × V)} {d : D} {ds : List (Str × D)} : Is A H v d → IsF A H vs ds → IsF A H ((k, v) :: vs) ((k, d) :: ds)
end
/-- o is the dict kvs, locked or not -/
def LK (o : HO) (kvs : List (Key × V)) : Prop := o = .dK kvs ∨ ∃ ob, o = .frz ob (.dK kvs)
/-- what stands outside of A stands on outside of A' -/
def Keep (A : Fp) (H : Hp) (A' : Fp) (H' : Hp) : Prop := ∀ b o, H b = some o → ¬ A b → ¬ A' b ∧ (H' b = some o ∨ ∃ kvs o', LK o kvs ∧ H' b = some o' ∧ LK o' kvs)
mutual
theorem Is.keep {A A' : Fp} {H H' : Hp} (k : Keep A H A' H') {v : V} {d : D} (h : Is A H v d) : Is A' H' v d := by
  cases h with
  | non => exact .non
  | bl b => exact .bl b
  | int i => exact .int i
  | str s h => exact .str s h
  | cls a => exact .cls a
  | exn0 a C => exact .exn0 a C
  | exn1 e n l =>
    obtain ⟨n', e' | ⟨kvs, o', q, _⟩⟩ := k _ _ e n
    · exact .exn1 e' n' (l.keep k)
    · rcases q with q | ⟨_, q⟩ <;> cases q
  | tup e n l =>
    obtain ⟨n', e' | ⟨kvs, o', q, _⟩⟩ := k _ _ e n
    · exact .tup e' n' (l.keep k)
    · rcases q with q | ⟨_, q⟩ <;> cases q
  | lst e n l =>
    obtain ⟨n', e' | ⟨kvs, o', q, _⟩⟩ := k _ _ e n
    · exact .lst e' n' (l.keep k)
    · rcases q with q | ⟨_, q⟩ <;> cases q
  | dic e n l =>
    rcases e with e | ⟨ob, e⟩
    · obtain ⟨n', e' | ⟨kvs, o', q, e', q'⟩⟩ := k _ _ e n
      · exact .dic (.inl e') n' (l.keep k)
      · rcases q with q | ⟨_, q⟩
        · cases q
          rcases q' with rfl | ⟨_, rfl⟩
          · exact .dic (.inl e') n' (l.keep k)
          · exact .dic (.inr ⟨_, e'⟩) n' (l.keep k)
        · cases q
    · obtain ⟨n', e' | ⟨kvs, o', q, e', q'⟩⟩ := k _ _ e n
      · exact .dic (.inr ⟨_, e'⟩) n' (l.keep k)
      · rcases q with q | ⟨_, q⟩
        · cases q
        · cases q
          rcases q' with rfl | ⟨_, rfl⟩
          · exact .dic (.inl e') n' (l.keep k)
          · exact .dic (.inr ⟨_, e'⟩) n' (l.keep k)
  | ins e n l =>
    obtain ⟨n', e' | ⟨kvs, o', q, _⟩⟩ := k _ _ e n
    · exact .ins e' n' (l.keep k)
    · rcases q with q | ⟨_, q⟩ <;> cases q
theorem IsL.keep {A A' : Fp} {H H' : Hp} (k : Keep A H A' H') {v : List V} {d : List D} (h : IsL A H v d) : IsL A' H' v d := by
  cases h with
  | nil => exact .nil
  | cons h t => exact .cons (h.keep k) (t.keep k)
theorem IsK.keep {A A' : Fp} {H H' : Hp} (k : Keep A H A' H') {v : List (Key × V)} {d : List (Key × D)} (h : IsK A H v d) : IsK A' H' v d := by
  cases h with
  | nil => exact .nil
  | cons hk h t => exact .cons hk (h.keep k) (t.keep k)
theorem IsF.keep {A A' : Fp} {H H' : Hp} (k : Keep A H A' H') {v : List (Str × V)} {d : List (Str × D)} (h : IsF A H v d) : IsF A' H' v d := by
  cases h with
  | nil => exact .nil
  | cons h t => exact .cons (h.keep k) (t.keep k)
end
def Ex (B M : Fp) : Fp := fun b => B b ∨ M b
/-- what was outside of M stands (a dict that is not foreign may be locked by now); M has grown by new objects alone -/
structure Fz (B M : Fp) (H : Hp) (M' : Fp) (H' : Hp) : Prop where
  keep : ∀ b o, H b = some o → ¬ M b → H' b = some o ∨ (¬ B b ∧ ∃ kvs ob, o = .dK kvs ∧ H' b = some (.frz ob (.dK kvs)))
  grow : ∀ b, M' b → M b ∨ H b = none
  free : ∀ b, H' b = none → H b = none
theorem Fr.fz {B M M' : Fp} {H H' : Hp} (f : Fr M H M' H') : Fz B M H M' H' := ⟨fun b o e n => .inl (f.keep b o e n), f.grow, f.free⟩
theorem Fz.refl {B : Fp} (M : Fp) (H : Hp) : Fz B M H M H := (Fr.refl M H).fz
theorem Fz.same {B M : Fp} {H H' : Hp} (s : Same H H') : Fz B M H M H' := (Fr.same s).fz
/-- one way: what stands may be locked, not opened -/
def Kz (A : Fp) (H : Hp) (A' : Fp) (H' : Hp) : Prop := ∀ b o, H b = some o → ¬ A b → ¬ A' b ∧ (H' b = some o ∨ ∃ kvs ob, o = .dK kvs ∧ H' b = some (.frz ob (.dK kvs)))
theorem Kz.keep {A A' : Fp} {H H' : Hp} (k : Kz A H A' H') : Keep A H A' H' := fun b o e n => by
  obtain ⟨h1, h2 | ⟨kvs, ob, rfl, h2⟩⟩ := k b o e n
  · exact ⟨h1, .inl h2⟩
  · exact ⟨h1, .inr ⟨kvs, _, .inl rfl, h2, .inr ⟨ob, rfl⟩⟩⟩
theorem Kz.fz {B M M' : Fp} {H H' : Hp} (f : Fz B M H M' H') : Kz (Ex B M) H (Ex B M') H' := fun b o e n =>
  ⟨fun z => z.elim (fun q => n (.inl q)) fun q => (f.grow b q).elim (fun r => n (.inr r)) fun r => (by rw [e] at r; cases r), (f.keep b o e fun q => n (.inr q)).imp id And.right⟩
theorem Keep.fr {B M M' : Fp} {H H' : Hp} (f : Fz B M H M' H') : Keep (Ex B M) H (Ex B M') H' := (Kz.fz f).keep
theorem Kz.trans {A A' A'' : Fp} {H H' H'' : Hp} (f : Kz A H A' H') (g : Kz A' H' A'' H'') : Kz A H A'' H'' := fun b o e n => by
  obtain ⟨n1, e1 | ⟨kvs, ob, rfl, e1⟩⟩ := f b o e n
  · exact g b o e1 n1
  · obtain ⟨n2, e2 | ⟨_, _, q, _⟩⟩ := g b _ e1 n1
    · exact ⟨n2, .inr ⟨kvs, ob, rfl, e2⟩⟩
    · cases q
theorem Fz.trans {B M M' M'' : Fp} {H H' H'' : Hp} (f : Fz B M H M' H') (g : Fz B M' H' M'' H'') : Fz B M H M'' H'' := by
  have out : ∀ b o, H b = some o → ¬ M b → ¬ M' b := fun b o e n z => (f.grow b z).elim n fun r => by rw [e] at r; cases r
  refine ⟨fun b o e n => ?_, fun b z => ?_, fun b e => f.free b (g.free b e)⟩
  · rcases f.keep b o e n with e1 | ⟨nb, kvs, ob, rfl, e1⟩
    · exact g.keep b o e1 (out b o e n)
    · rcases g.keep b _ e1 (out b _ e n) with e2 | ⟨_, _, _, q, _⟩
      · exact .inr ⟨nb, kvs, ob, rfl, e2⟩
      · cases q
  · rcases g.grow b z with h | h
    · exact f.grow b h
    · exact .inr (f.free b h)
/-- with a larger or smaller foreign part -/
theorem Fz.fgn {B B' M M' : Fp} {H H' : Hp} (f : Fz B M H M' H') (h : ∀ b, B' b → B b) : Fz B' M H M' H' := ⟨fun b o e n => (f.keep b o e n).imp id fun z => ⟨fun q => z.1 (h b q), z.2⟩, f.grow, f.free⟩
theorem Keep.same {A : Fp} {H H' : Hp} (s : Same H H') : Keep A H A H' := fun b o e n => ⟨n, .inl (s b o e)⟩
theorem Keep.less {A A' : Fp} {H : Hp} (s : ∀ b, A' b → A b) : Keep A H A' H := fun _ _ e n => ⟨fun z => n (s _ z), .inl e⟩
theorem IsL.length {A : Fp} {H : Hp} : ∀ {vs : List V} {ds : List D}, IsL A H vs ds → vs.length = ds.length
  | _, _, .nil => rfl
  | _, _, .cons _ t => by rw [List.length_cons, List.length_cons, t.length]
theorem IsL.get {A : Fp} {H : Hp} : ∀ {vs : List V} {ds : List D} {i : Nat} {d : D}, IsL A H vs ds → ds[i]? = some d → ∃ v, vs[i]? = some v ∧ Is A H v d
  | _, _, i, d, .nil, e => by simp at e
  | _, _, 0, _, .cons h _, e => by simp at e; subst e; exact ⟨_, rfl, h⟩
  | _, _, i + 1, d, .cons _ t, e => by
    obtain ⟨v, h1, h2⟩ := t.get (i := i) (d := d) (by simpa using e)
    exact ⟨v, by simpa using h1, h2⟩
theorem IsL.app {A : Fp} {H : Hp} : ∀ {vs us : List V} {ds es : List D}, IsL A H vs ds → IsL A H us es → IsL A H (vs ++ us) (ds ++ es)
  | _, _, _, _, .nil, s => s
  | _, _, _, _, .cons h t, s => .cons h (t.app s)
theorem IsL.take {A : Fp} {H : Hp} : ∀ {vs : List V} {ds : List D} (n : Nat), IsL A H vs ds → IsL A H (vs.take n) (ds.take n)
  | _, _, 0, _ => .nil
  | _, _, _ + 1, .nil => .nil
  | _, _, n + 1, .cons r t => .cons r (t.take n)
theorem IsL.drop {A : Fp} {H : Hp} : ∀ {vs : List V} {ds : List D} (n : Nat), IsL A H vs ds → IsL A H (vs.drop n) (ds.drop n)
  | _, _, 0, r => r
  | _, _, _ + 1, .nil => .nil
  | _, _, n + 1, .cons _ t => t.drop n
theorem IsL.set {A : Fp} {H : Hp} {v : V} {d : D} (r : Is A H v d) : ∀ {vs : List V} {ds : List D} (i : Nat), IsL A H vs ds → IsL A H (vs.set i v) (ds.set i d)
  | _, _, _, .nil => .nil
  | _, _, 0, .cons _ t => .cons r t
  | _, _, i + 1, .cons q t => .cons q (IsL.set r i t)
theorem IsL.rev {A : Fp} {H : Hp} : ∀ {vs : List V} {ds : List D}, IsL A H vs ds → IsL A H vs.reverse ds.reverse
  | _, _, .nil => .nil
  | _, _, .cons h t => by
    rw [List.reverse_cons, List.reverse_cons]
    exact t.rev.app (.cons h .nil)
theorem IsF.look {A : Fp} {H : Hp} {f : Str} : ∀ {vs : List (Str × V)} {ds : List (Str × D)} {d : D}, IsF A H vs ds → ds.lookup f = some d → ∃ v, vs.lookup f = some v ∧ Is A H v d
  | _, _, d, .nil, e => by cases e
  | _, _, d, .cons (k := k) h t, e => by
    rw [List.lookup_cons] at e
    rw [List.lookup_cons]
    cases q : f == k with
    | true => rw [q] at e; cases e; exact ⟨_, rfl, h⟩
    | false => rw [q] at e; exact t.look e
theorem IsF.none {A : Fp} {H : Hp} {f : Str} : ∀ {vs : List (Str × V)} {ds : List (Str × D)}, IsF A H vs ds → ds.lookup f = Option.none → vs.lookup f = Option.none
  | _, _, .nil, _ => rfl
  | _, _, .cons (k := k) h t, e => by
    rw [List.lookup_cons] at e
    rw [List.lookup_cons]
    cases q : f == k with
    | true => rw [q] at e; cases e
    | false => rw [q] at e; exact t.none e
/-! ### data that may change, at known addresses -/
inductive Mt where
  | d (x : D)
  | lst (p : Addr) (ms : List Mt)
  | ins (a C : Addr) (fs : List (Str × Mt))
mutual
/-- v is m in H, its changing parts at f; its other parts outside of A -/
inductive MR (A : Fp) (H : Hp) : V → Mt → Fp → Prop
  | d {v : V} {x : D} {f : Fp} : Is A H v x → (∀ b, ¬ f b) → MR A H v (.d x) f
  | lst {p : Addr} {vs : List V} {ms : List Mt} {f g : Fp} : H p = some (.lst vs) → MRL A H vs ms g → ¬ g p → (∀ b, f b ↔ b = p ∨ g b) → MR A H (.ref p) (.lst p ms) f
  | ins {a C dx : Addr} {vs : List (Str × V)} {fs : List (Str × Mt)} {f g : Fp} : H a = some (.ins C dx vs) → H dx = some (.own a) → MRF A H vs fs g → ¬ g a → ¬ g dx → (∀ b, f b ↔ b = a ∨ b = dx ∨ g b) → MR A H (.ref a) (.ins a C fs) f
inductive MRL (A : Fp) (H : Hp) : List V → List Mt → Fp → Prop
  | nil {f : Fp} : (∀ b, ¬ f b) → MRL A H [] [] f
  | cons {v : V} {vs : List V} {m : Mt} {ms : List Mt} {f g h : Fp} : MR A H v m f → MRL A H vs ms g → (∀ b, f b → ¬ g b) → (∀ b, h b ↔ f b ∨ g b) → MRL A H (v :: vs) (m :: ms) h
inductive MRF (A : Fp) (H : Hp) : List (Str × V) → List (Str × Mt) → Fp → Prop
  | nil {f : Fp} : (∀ b, ¬ f b) → MRF A H [] [] f
  | cons {k : Str} {v : V} {vs : List (Str × V)} {m : Mt} {ms : List (Str × Mt)} {f g h : Fp} : MR A H v m f → MRF A H vs ms g → (∀ b, f b → ¬ g b) → (∀ b, h b ↔ f b ∨ g b) → MRF A H ((k, v) :: vs) ((k, m) :: ms) h
end
section
variable {A A' : Fp} {H H' : Hp}
mutual
theorem MR.dom {v : V} {m : Mt} {f : Fp} (h : MR A H v m f) {b : Addr} (hb : f b) : ∃ u, H b = some u := by
  cases h with
  | d _ n => exact absurd hb (n b)
  | lst e l _ hf =>
    rcases (hf b).mp hb with rfl | hb
    · exact ⟨_, e⟩
    · exact l.dom hb
  | ins e e2 l _ _ hf =>
    rcases (hf b).mp hb with rfl | rfl | hb
    · exact ⟨_, e⟩
    · exact ⟨_, e2⟩
    · exact l.dom hb
theorem MRL.dom {vs : List V} {ms : List Mt} {f : Fp} (h : MRL A H vs ms f) {b : Addr} (hb : f b) : ∃ u, H b = some u := by
  cases h with
  | nil n => exact absurd hb (n b)
  | cons h t _ hf =>
    rcases (hf b).mp hb with hb | hb
    · exact h.dom hb
    · exact t.dom hb
theorem MRF.dom {vs : List (Str × V)} {ms : List (Str × Mt)} {f : Fp} (h : MRF A H vs ms f) {b : Addr} (hb : f b) : ∃ u, H b = some u := by
  cases h with
  | nil n => exact absurd hb (n b)
  | cons h t _ hf =>
    rcases (hf b).mp hb with hb | hb
    · exact h.dom hb
    · exact t.dom hb
end
mutual
theorem MR.move (k : Keep A H A' H') {v : V} {m : Mt} {f : Fp} (h : MR A H v m f) (kf : ∀ b u, f b → H b = some u → H' b = some u) : MR A' H' v m f := by
  cases h with
  | d i n => exact .d (i.keep k) n
  | lst e l n hf => exact .lst (kf _ _ ((hf _).mpr (.inl rfl)) e) (l.move k fun b u hb => kf b u ((hf b).mpr (.inr hb))) n hf
  | ins e e2 l n1 n2 hf => exact .ins (kf _ _ ((hf _).mpr (.inl rfl)) e) (kf _ _ ((hf _).mpr (.inr (.inl rfl))) e2) (l.move k fun b u hb => kf b u ((hf b).mpr (.inr (.inr hb)))) n1 n2 hf
theorem MRL.move (k : Keep A H A' H') {vs : List V} {ms : List Mt} {f : Fp} (h : MRL A H vs ms f) (kf : ∀ b u, f b → H b = some u → H' b = some u) : MRL A' H' vs ms f := by
  cases h with
  | nil n => exact .nil n
  | cons h t n hf => exact .cons (h.move k fun b u hb => kf b u ((hf b).mpr (.inl hb))) (t.move k fun b u hb => kf b u ((hf b).mpr (.inr hb))) n hf
theorem MRF.move (k : Keep A H A' H') {vs : List (Str × V)} {ms : List (Str × Mt)} {f : Fp} (h : MRF A H vs ms f) (kf : ∀ b u, f b → H b = some u → H' b = some u) : MRF A' H' vs ms f := by
  cases h with
  | nil n => exact .nil n
  | cons h t n hf => exact .cons (h.move k fun b u hb => kf b u ((hf b).mpr (.inl hb))) (t.move k fun b u hb => kf b u ((hf b).mpr (.inr hb))) n hf
end
end
/-! ### slots -/
inductive Sl where
  | emp
  | sh (d : D)
  | own (ds : List D)
  | st (s : Addr) (n : Nat)
  | obj (a C : Addr) (fs : List (Str × D))
  | obz (a : Addr) (d : D)
  | sx (o : List Str → Addr → HO) (ks : List Str)
  | mt (m : Mt)
abbrev DEnv := List Sl
def SlR (B M : Fp) (H : Hp) (f : Fp) (o : Option V) : Sl → Prop
  | .emp => ∀ b, ¬ f b
  | .sh d => (∀ b, ¬ f b) ∧ ∃ v, o = some v ∧ Is (Ex B M) H v d
  | .own ds => ∃ p vs, o = some (.ref p) ∧ H p = some (.lst vs) ∧ IsL (Ex B M) H vs ds ∧ ∀ b, f b ↔ b = p
  | .st s n => o = some (.ref s) ∧ StAt H f s n
  | .obj a C ds => o = some (.ref a) ∧ ∃ dx vs, H a = some (.ins C dx vs) ∧ H dx = some (.own a) ∧ IsF (Ex B M) H vs ds ∧ ∀ b, f b ↔ b = a ∨ b = dx
  | .obz a d => (∀ b, ¬ f b) ∧ o = some (.ref a) ∧ Is (Ex B M) H (.ref a) d
  | .sx u ks => ∃ p, o = some (.ref p) ∧ H p = some (u ks p) ∧ (∀ kvs, u ks p ≠ .dK kvs) ∧ ∀ b, f b ↔ b = p
  | .mt m => ∃ v, o = some v ∧ MR (Ex B M) H v m f
theorem SlR.dom {B M : Fp} {H : Hp} {f : Fp} {o : Option V} {s : Sl} (h : SlR B M H f o s) {b : Addr} (hb : f b) : ∃ u, H b = some u := by
  cases s with
  | emp => exact absurd hb (h b)
  | sh d => exact absurd hb (h.1 b)
  | own ds =>
    obtain ⟨p, vs, _, e, _, hf⟩ := h
    rw [(hf b).mp hb]
    exact ⟨_, e⟩
  | st s n => exact h.2.dom hb
  | obj a C ds =>
    obtain ⟨_, dx, vs, e, e2, _, hf⟩ := h
    rcases (hf b).mp hb with rfl | rfl
    · exact ⟨_, e⟩
    · exact ⟨_, e2⟩
  | obz a d => exact absurd hb (h.1 b)
  | sx u ks =>
    obtain ⟨p, _, e, _, hf⟩ := h
    rw [(hf b).mp hb]
    exact ⟨_, e⟩
  | mt m =>
    obtain ⟨v, _, h⟩ := h
    exact h.dom hb
theorem SlR.keep {B M M' : Fp} {H H' : Hp} {f : Fp} {o : Option V} {s : Sl} (h : SlR B M H f o s) (k : Keep (Ex B M) H (Ex B M') H') (kf : ∀ b u, f b → H b = some u → H' b = some u) : SlR B M' H' f o s := by
  cases s with
  | emp => exact h
  | sh d =>
    obtain ⟨h1, v, e, i⟩ := h
    exact ⟨h1, v, e, i.keep k⟩
  | own ds =>
    obtain ⟨p, vs, e, hp, l, hf⟩ := h
    exact ⟨p, vs, e, kf p _ ((hf p).mpr rfl) hp, l.keep k, hf⟩
  | st s n => exact ⟨h.1, h.2.to kf⟩
  | obj a C ds =>
    obtain ⟨eo, dx, vs, e, e2, l, hf⟩ := h
    exact ⟨eo, dx, vs, kf a _ ((hf a).mpr (.inl rfl)) e, kf dx _ ((hf dx).mpr (.inr rfl)) e2, l.keep k, hf⟩
  | obz a d => exact ⟨h.1, h.2.1, h.2.2.keep k⟩
  | sx u ks =>
    obtain ⟨p, e, hp, nk, hf⟩ := h
    exact ⟨p, e, kf p _ ((hf p).mpr rfl) hp, nk, hf⟩
  | mt m =>
    obtain ⟨v, e, h⟩ := h
    exact ⟨v, e, h.move k kf⟩
theorem SlR.move {B M B' M' : Fp} {H H' : Hp} {f : Fp} {o : Option V} {s : Sl} (h : SlR B M H f o s) (k : Keep (Ex B M) H (Ex B' M') H') (kf : ∀ b u, f b → H b = some u → H' b = some u) : SlR B' M' H' f o s := by
  cases s with
  | emp => exact h
  | sh d =>
    obtain ⟨h1, v, e, i⟩ := h
    exact ⟨h1, v, e, i.keep k⟩
  | own ds =>
    obtain ⟨p, vs, e, hp, l, hf⟩ := h
    exact ⟨p, vs, e, kf p _ ((hf p).mpr rfl) hp, l.keep k, hf⟩
  | st s n => exact ⟨h.1, h.2.to kf⟩
  | obj a C ds =>
    obtain ⟨eo, dx, vs, e, e2, l, hf⟩ := h
    exact ⟨eo, dx, vs, kf a _ ((hf a).mpr (.inl rfl)) e, kf dx _ ((hf dx).mpr (.inr rfl)) e2, l.keep k, hf⟩
  | obz a d => exact ⟨h.1, h.2.1, h.2.2.keep k⟩
  | sx u ks =>
    obtain ⟨p, e, hp, nk, hf⟩ := h
    exact ⟨p, e, kf p _ ((hf p).mpr rfl) hp, nk, hf⟩
  | mt m =>
    obtain ⟨v, e, h⟩ := h
    exact ⟨v, e, h.move k kf⟩
/-- the slots σ are δ in H: what is owned is M; B is foreign -/
structure ERf (fs : Nat → Fp) (B M : Fp) (H : Hp) (σ : L2.St) (δ : DEnv) : Prop where
  len : σ.length = δ.length
  own : ∀ b, M b ↔ ∃ i, fs i b
  one : ∀ i j b, fs i b → fs j b → i = j
  at_ : ∀ i, SlR B M H (fs i) ((σ[i]?).getD none) ((δ[i]?).getD .emp)
  dom : ∀ b, B b → ∃ o, H b = some o
  dis : ∀ b, B b → ¬ M b
def ER (B M : Fp) (H : Hp) (σ : L2.St) (δ : DEnv) : Prop := ∃ fs, ERf fs B M H σ δ
section
variable {fs : Nat → Fp} {B M M' : Fp} {H H' : Hp} {σ : L2.St} {δ : DEnv} {i : Nat} {p : Addr}
theorem ERf.mdom (h : ERf fs B M H σ δ) {b : Addr} (hb : M b) : ∃ u, H b = some u := by
  obtain ⟨i, hi⟩ := (h.own b).mp hb
  exact (h.at_ i).dom hi
theorem ER.edom (h : ER B M H σ δ) {b : Addr} (hb : Ex B M b) : ∃ u, H b = some u := by
  obtain ⟨fs, h⟩ := h
  exact hb.elim (h.dom b) h.mdom
theorem ER.nex (h : ER B M H σ δ) {b : Addr} (hb : H b = none) : ¬ Ex B M b := fun z => by
  obtain ⟨u, e⟩ := h.edom z
  rw [hb] at e
  cases e
theorem ER.len (h : ER B M H σ δ) : σ.length = δ.length := h.choose_spec.len
theorem ER.same (h : ER B M H σ δ) (s : Same H H') : ER B M H' σ δ := by
  obtain ⟨fs, h⟩ := h
  exact ⟨fs, h.len, h.own, h.one, fun i => (h.at_ i).keep (Keep.same s) fun b u _ e => s b u e, fun b hb => (h.dom b hb).imp fun o e => s b o e, h.dis⟩
/-- slot i gets s' with the footprint f' -/
theorem ERf.put (h : ERf fs B M H σ δ) {f' : Fp} {o' : Option V} {s' : Sl} (hi : i < δ.length) (hs : SlR B (fun b => f' b ∨ ∃ j, j ≠ i ∧ fs j b) H' f' o' s') (ko : ∀ j b u, j ≠ i → fs j b → H b = some u → H' b = some u)
    (k : Keep (Ex B M) H (Ex B fun b => f' b ∨ ∃ j, j ≠ i ∧ fs j b) H') (hd : ∀ j b, j ≠ i → f' b → ¬ fs j b) (hB : ∀ b, f' b → ¬ B b) (kB : ∀ b o, H b = some o → ∃ o', H' b = some o') :
    ER B (fun b => f' b ∨ ∃ j, j ≠ i ∧ fs j b) H' (σ.set i o') (δ.set i s') := by
  refine ⟨fun j => if j = i then f' else fs j, by rw [List.length_set, List.length_set]; exact h.len, fun b => ⟨fun z => ?_, fun ⟨j, z⟩ => ?_⟩, fun a c b z1 z2 => ?_, fun j => ?_, fun b hb => ?_, fun b hb z => ?_⟩
  · rcases z with z | ⟨j, hj, z⟩
    · exact ⟨i, by simp only [if_pos]; exact z⟩
    · exact ⟨j, by simp only [if_neg hj]; exact z⟩
  · by_cases hj : j = i
    · simp only [if_pos hj] at z; exact .inl z
    · simp only [if_neg hj] at z; exact .inr ⟨j, hj, z⟩
  · by_cases ha : a = i
    · by_cases hc : c = i
      · rw [ha, hc]
      · simp only [if_pos ha] at z1
        simp only [if_neg hc] at z2
        exact absurd z2 (hd c b hc z1)
    · by_cases hc : c = i
      · simp only [if_neg ha] at z1
        simp only [if_pos hc] at z2
        exact absurd z1 (hd a b ha z2)
      · simp only [if_neg ha] at z1
        simp only [if_neg hc] at z2
        exact h.one a c b z1 z2
  · by_cases hj : j = i
    · subst hj
      have h1 : j < σ.length := by rw [h.len]; exact hi
      simp only [if_pos]
      rw [List.getElem?_set, if_pos rfl, if_pos h1, List.getElem?_set, if_pos rfl, if_pos hi]
      exact hs
    · simp only [if_neg hj]
      rw [List.getElem?_set, if_neg (Ne.symm hj), List.getElem?_set, if_neg (Ne.symm hj)]
      exact (h.at_ j).keep k fun b u hb e => ko j b u hj hb e
  · obtain ⟨o, e⟩ := h.dom b hb
    exact kB b o e
  · rcases z with z | ⟨j, _, z⟩
    · exact hB b z hb
    · exact h.dis b hb ((h.own b).mpr ⟨j, z⟩)
theorem ERf.sub (h : ERf fs B M H σ δ) {b : Addr} (z : ∃ j, j ≠ i ∧ fs j b) : M b := (h.own b).mpr ⟨z.choose, z.choose_spec.2⟩
theorem ER.sh (h : ER B M H σ δ) {d : D} (e : δ[i]? = some (.sh d)) : ∃ v, σ[i]? = some (some v) ∧ Is (Ex B M) H v d := by
  obtain ⟨fs, h⟩ := h
  have a := h.at_ i
  rw [e] at a
  obtain ⟨_, v, ev, hv⟩ := a
  refine ⟨v, ?_, hv⟩
  cases q : σ[i]? with
  | none => rw [q] at ev; cases ev
  | some o => rw [q] at ev; rw [show o = some v from ev]
theorem ER.ow (h : ER B M H σ δ) {ds : List D} (e : δ[i]? = some (.own ds)) : ∃ p vs, σ[i]? = some (some (.ref p)) ∧ H p = some (.lst vs) ∧ IsL (Ex B M) H vs ds := by
  obtain ⟨fs, h⟩ := h
  have a := h.at_ i
  rw [e] at a
  obtain ⟨p, vs, ev, hp, hl, _⟩ := a
  refine ⟨p, vs, ?_, hp, hl⟩
  cases q : σ[i]? with
  | none => rw [q] at ev; cases ev
  | some o => rw [q] at ev; rw [show o = some (.ref p) from ev]
/-- a shared value is stored -/
theorem ER.set (h : ER B M H σ δ) {v : V} {d : D} (hi : i < δ.length) (hv : Is (Ex B M) H v d) : ∃ M', ER B M' H (σ.set i (some v)) (δ.set i (.sh d)) ∧ Fr M H M' H := by
  obtain ⟨fs, h⟩ := h
  have sub : ∀ b, (False ∨ ∃ j, j ≠ i ∧ fs j b) → M b := fun b z => z.elim False.elim h.sub
  have k : Keep (Ex B M) H (Ex B fun b => False ∨ ∃ j, j ≠ i ∧ fs j b) H := Keep.less fun b z => z.imp id (sub b)
  refine ⟨_, h.put (f' := fun _ => False) hi ⟨fun _ z => z, v, rfl, hv.keep k⟩ (fun _ _ _ _ _ e => e) k (fun _ _ _ z => z.elim) (fun _ z => z.elim) (fun b o e => ⟨o, e⟩), fun _ _ e _ => e, fun b z => .inl (sub b z), fun _ e => e⟩
/-- forgetting a slot -/
theorem ER.drop (h : ER B M H σ δ) {o : Option V} (hi : i < δ.length) : ∃ M', ER B M' H (σ.set i o) (δ.set i .emp) ∧ Fr M H M' H := by
  obtain ⟨fs, h⟩ := h
  have sub : ∀ b, (False ∨ ∃ j, j ≠ i ∧ fs j b) → M b := fun b z => z.elim False.elim h.sub
  have k : Keep (Ex B M) H (Ex B fun b => False ∨ ∃ j, j ≠ i ∧ fs j b) H := Keep.less fun b z => z.imp id (sub b)
  refine ⟨_, h.put (f' := fun _ => False) (o' := o) (s' := .emp) hi (fun _ z => z) (fun _ _ _ _ _ e => e) k (fun _ _ _ z => z.elim) (fun _ z => z.elim) (fun b o e => ⟨o, e⟩), fun _ _ e _ => e, fun b z => .inl (sub b z), fun _ e => e⟩
def Bp (B : Fp) (p : Addr) : Fp := fun b => B b ∨ b = p
theorem ER.less {B' : Fp} (h : ER B M H σ δ) (hB : ∀ b, B' b → B b) : ER B' M H σ δ := by
  obtain ⟨fs, h⟩ := h
  have k : Keep (Ex B M) H (Ex B' M) H := Keep.less fun b z => z.imp (hB b) id
  exact ⟨fs, h.len, h.own, h.one, fun i => (h.at_ i).move k fun _ _ _ e => e, fun b hb => h.dom b (hB b hb), fun b hb => h.dis b (hB b hb)⟩
theorem ER.nB (h : ER (Bp B p) M H σ δ) : ¬ M p := fun z => by
  obtain ⟨fs, h⟩ := h
  exact h.dis p (.inr rfl) z
/-- a new list (foreign so far) is stored and owned -/
theorem ER.setOwn (h : ER (Bp B p) M H σ δ) {vs : List V} {ds : List D} (hi : i < δ.length) (hB : ¬ B p) (hp : H p = some (.lst vs)) (hv : IsL (Ex (Bp B p) M) H vs ds) : ∃ M', ER B M' H (σ.set i (some (.ref p))) (δ.set i (.own ds)) ∧ ∀ b, M' b → M b ∨ b = p := by
  have nM := h.nB
  have h0 := h.less (B' := B) fun b z => .inl z
  obtain ⟨fs, h0⟩ := h0
  have sub : ∀ b, (b = p ∨ ∃ j, j ≠ i ∧ fs j b) → M b ∨ b = p := fun b z => z.elim .inr fun q => .inl (h0.sub q)
  have k : Keep (Ex (Bp B p) M) H (Ex B fun b => b = p ∨ ∃ j, j ≠ i ∧ fs j b) H := Keep.less fun b z => z.elim (fun q => .inl (.inl q)) fun q => (sub b q).elim .inr fun r => .inl (.inr r)
  obtain ⟨gs, h1⟩ := h
  -- the others, by the larger foreign part
  refine ⟨_, ⟨fun j => if j = i then (fun b => b = p) else gs j, by rw [List.length_set, List.length_set]; exact h1.len, fun b => Iff.rfl, ?_, ?_, fun b hb => h1.dom b (.inl hb), ?_⟩, ?_⟩
  · intro a c b z1 z2
    have np : ∀ j b, gs j b → b ≠ p := fun j b hj e => nM (e ▸ (h1.own b).mpr ⟨j, hj⟩)
    by_cases ha : a = i
    · by_cases hc : c = i
      · rw [ha, hc]
      · simp only [if_pos ha] at z1
        simp only [if_neg hc] at z2
        exact absurd z1 (np c b z2)
    · by_cases hc : c = i
      · simp only [if_neg ha] at z1
        simp only [if_pos hc] at z2
        exact absurd z2 (np a b z1)
      · simp only [if_neg ha] at z1
        simp only [if_neg hc] at z2
        exact h1.one a c b z1 z2
  · intro j
    have kk : Keep (Ex (Bp B p) M) H (Ex B fun b => ∃ j, (if j = i then (fun b => b = p) else gs j) b) H := Keep.less fun b z => z.elim (fun q => .inl (.inl q)) fun ⟨j, q⟩ => by
      by_cases hj : j = i
      · simp only [if_pos hj] at q; exact .inl (.inr q)
      · simp only [if_neg hj] at q; exact .inr ((h1.own b).mpr ⟨j, q⟩)
    by_cases hj : j = i
    · subst hj
      have h2 : j < σ.length := by rw [h1.len]; exact hi
      simp only [if_pos]
      rw [List.getElem?_set, if_pos rfl, if_pos h2, List.getElem?_set, if_pos rfl, if_pos hi]
      exact ⟨p, vs, rfl, hp, hv.keep kk, fun _ => Iff.rfl⟩
    · simp only [if_neg hj]
      rw [List.getElem?_set, if_neg (Ne.symm hj), List.getElem?_set, if_neg (Ne.symm hj)]
      exact (h1.at_ j).move kk fun _ _ _ e => e
  · rintro b hb ⟨j, q⟩
    by_cases hj : j = i
    · simp only [if_pos hj] at q; exact hB (q ▸ hb)
    · simp only [if_neg hj] at q; exact h1.dis b (.inl hb) ((h1.own b).mpr ⟨j, q⟩)
  · rintro b ⟨j, q⟩
    by_cases hj : j = i
    · simp only [if_pos hj] at q; exact .inr q
    · simp only [if_neg hj] at q; exact .inl ((h1.own b).mpr ⟨j, q⟩)
/-- a new object may be held foreign -/
theorem ER.foreign (h : ER B M H σ δ) {o : HO} (n : New H p o H') : ER (Bp B p) M H' σ δ := by
  have np := h.nex n.1
  obtain ⟨fs, h⟩ := h
  have k : Keep (Ex B M) H (Ex (Bp B p) M) H' := fun b o e nb => ⟨fun z => z.elim (fun q => q.elim (fun r => nb (.inl r)) fun r => n.ne e r) fun q => nb (.inr q), .inl (n.same b o e)⟩
  exact ⟨fs, h.len, h.own, h.one, fun i => (h.at_ i).move k fun b u _ e => n.same b u e, fun b hb => hb.elim (fun q => (h.dom b q).imp fun o e => n.same b o e) fun q => ⟨_, q ▸ n.at⟩, fun b hb z => hb.elim (fun q => h.dis b q z) fun q => np (.inr (q ▸ z))⟩
/-- an owned list is shared from now on -/
theorem ER.freeze (h : ER B M H σ δ) {ds : List D} (e : δ[i]? = some (.own ds)) : ∃ p M', σ[i]? = some (some (.ref p)) ∧ ER B M' H σ (δ.set i (.sh (.lst ds))) ∧ Is (Ex B M') H (.ref p) (.lst ds) ∧ Fr M H M' H := by
  obtain ⟨p, vs, ev, hp, hl⟩ := h.ow e
  have hi : i < δ.length := (List.getElem?_eq_some_iff.mp e).1
  obtain ⟨fs, h⟩ := h
  have a := h.at_ i
  rw [e, ev] at a
  obtain ⟨p', vs', ep, hp', hl', hf⟩ := a
  cases ep
  have sub : ∀ b, (False ∨ ∃ j, j ≠ i ∧ fs j b) → M b := fun b z => z.elim False.elim h.sub
  have k : Keep (Ex B M) H (Ex B fun b => False ∨ ∃ j, j ≠ i ∧ fs j b) H := Keep.less fun b z => z.imp id (sub b)
  have np : ¬ Ex B (fun b => False ∨ ∃ j, j ≠ i ∧ fs j b) p := fun z => by
    rcases z with z | z | ⟨j, hj, z⟩
    · exact h.dis p z ((h.own p).mpr ⟨i, (hf p).mpr rfl⟩)
    · exact z
    · exact hj (h.one j i p z ((hf p).mpr rfl))
  have hI : Is (Ex B fun b => False ∨ ∃ j, j ≠ i ∧ fs j b) H (.ref p) (.lst ds) := .lst hp np (hl.keep k)
  refine ⟨p, _, ev, ?_, hI, fun _ _ e _ => e, fun b z => .inl (sub b z), fun _ e => e⟩
  have q := h.put (f' := fun _ => False) (o' := some (.ref p)) (s' := .sh (.lst ds)) hi ⟨fun _ z => z, .ref p, rfl, hI⟩ (fun _ _ _ _ _ e => e) k (fun _ _ _ z => z.elim) (fun _ z => z.elim) (fun b o e => ⟨o, e⟩)
  have es : σ.set i (some (.ref p)) = σ := by
    apply List.ext_getElem?
    intro j
    rw [List.getElem?_set]
    by_cases hj : i = j
    · subst hj; rw [if_pos rfl, if_pos (List.getElem?_eq_some_iff.mp ev).1, ev]
    · rw [if_neg hj]
  rw [es] at q
  exact q
/-- an owned list is changed -/
theorem ER.mut (h : ER B M H σ δ) {ds ds' : List D} {vs' : List V} (e : δ[i]? = some (.own ds)) (ev : σ[i]? = some (some (.ref p))) (hv : IsL (Ex B M) H vs' ds') :
    ER B M (upd H p (.lst vs')) σ (δ.set i (.own ds')) ∧ Fr M H M (upd H p (.lst vs')) := by
  have hi : i < δ.length := (List.getElem?_eq_some_iff.mp e).1
  obtain ⟨fs, h⟩ := h
  have a := h.at_ i
  rw [e, ev] at a
  obtain ⟨p', vs, ep, hp, hl, hf⟩ := a
  cases ep
  have hM : M p := (h.own p).mpr ⟨i, (hf p).mpr rfl⟩
  have eM : (fun b => b = p ∨ ∃ j, j ≠ i ∧ fs j b) = M := by
    funext b
    refine propext ⟨fun z => z.elim (fun q => q ▸ hM) h.sub, fun z => ?_⟩
    obtain ⟨j, hj⟩ := (h.own b).mp z
    by_cases q : j = i
    · subst q; exact .inl ((hf b).mp hj)
    · exact .inr ⟨j, q, hj⟩
  have k : Keep (Ex B M) H (Ex B M) (upd H p (.lst vs')) := fun b o eb nb => ⟨nb, .inl (by rw [upd_ne fun (z : b = p) => nb (.inr (z ▸ hM))]; exact eb)⟩
  have q := h.put (f' := fun b => b = p) (o' := some (.ref p)) (s' := .own ds') (H' := upd H p (.lst vs')) hi (by rw [eM]; exact ⟨p, vs', rfl, upd_same, hv.keep k, fun _ => Iff.rfl⟩)
    (fun j b u hj hb eb => by rw [upd_ne fun (z : b = p) => hj (h.one j i b hb ((hf b).mpr z))]; exact eb) (by rw [eM]; exact k) (fun j b hj z q => hj (h.one j i b q ((hf b).mpr z))) (fun b z q => h.dis b q (z ▸ hM))
    (fun b o eb => by
      by_cases hb : b = p
      · subst hb; exact ⟨_, upd_same⟩
      · exact ⟨o, by rw [upd_ne hb]; exact eb⟩)
  rw [eM] at q
  have es : σ.set i (some (.ref p)) = σ := by
    apply List.ext_getElem?
    intro j
    rw [List.getElem?_set]
    by_cases hj : i = j
    · subst hj; rw [if_pos rfl, if_pos (List.getElem?_eq_some_iff.mp ev).1, ev]
    · rw [if_neg hj]
  rw [es] at q
  exact ⟨q, fun b o eb nb => by rw [upd_ne fun (z : b = p) => nb (z ▸ hM)]; exact eb, fun b z => .inl z, fun b z => upd_free z⟩
theorem ER.obz (h : ER B M H σ δ) {a : Addr} {d : D} (e : δ[i]? = some (.obz a d)) : σ[i]? = some (some (.ref a)) ∧ Is (Ex B M) H (.ref a) d := by
  obtain ⟨fs, h⟩ := h
  have q := h.at_ i
  rw [e] at q
  obtain ⟨_, ev, hv⟩ := q
  refine ⟨?_, hv⟩
  cases z : σ[i]? with
  | none => rw [z] at ev; cases ev
  | some o => rw [z] at ev; rw [show o = some (.ref a) from ev]
theorem ER.st (h : ER B M H σ δ) {s : Addr} {n : Nat} (e : δ[i]? = some (.st s n)) : σ[i]? = some (some (.ref s)) := by
  obtain ⟨fs, h⟩ := h
  have q := h.at_ i
  rw [e] at q
  obtain ⟨ev, _⟩ := q
  cases z : σ[i]? with
  | none => rw [z] at ev; cases ev
  | some o => rw [z] at ev; rw [show o = some (.ref s) from ev]
theorem ER.obj (h : ER B M H σ δ) {a C : Addr} {ds : List (Str × D)} (e : δ[i]? = some (.obj a C ds)) : σ[i]? = some (some (.ref a)) ∧ ∃ dx vs, H a = some (.ins C dx vs) ∧ H dx = some (.own a) ∧ IsF (Ex B M) H vs ds := by
  obtain ⟨fs, h⟩ := h
  have q := h.at_ i
  rw [e] at q
  obtain ⟨ev, dx, vs, h1, h2, h3, _⟩ := q
  refine ⟨?_, dx, vs, h1, h2, h3⟩
  cases z : σ[i]? with
  | none => rw [z] at ev; cases ev
  | some o => rw [z] at ev; rw [show o = some (.ref a) from ev]
theorem set_self {α : Type} {l : List α} {i : Nat} {x : α} (h : l[i]? = some x) : l.set i x = l := by
  apply List.ext_getElem?
  intro j
  rw [List.getElem?_set]
  by_cases hj : i = j
  · subst hj; rw [if_pos rfl, if_pos (List.getElem?_eq_some_iff.mp h).1, h]
  · rw [if_neg hj]
/-- an object that was being made is shared from now on -/
theorem ER.freezeO (h : ER B M H σ δ) {a C : Addr} {ds : List (Str × D)} (e : δ[i]? = some (.obj a C ds)) : ∃ M', ER B M' H σ (δ.set i (.obz a (.ins C ds))) ∧ Is (Ex B M') H (.ref a) (.ins C ds) ∧ Fr M H M' H := by
  obtain ⟨ev, dx, vs, h1, h2, h3⟩ := h.obj e
  have hi : i < δ.length := (List.getElem?_eq_some_iff.mp e).1
  obtain ⟨fs, h⟩ := h
  have q := h.at_ i
  rw [e] at q
  obtain ⟨_, dx', vs', h1', h2', h3', hf⟩ := q
  have sub : ∀ b, (False ∨ ∃ j, j ≠ i ∧ fs j b) → M b := fun b z => z.elim False.elim h.sub
  have k : Keep (Ex B M) H (Ex B fun b => False ∨ ∃ j, j ≠ i ∧ fs j b) H := Keep.less fun b z => z.imp id (sub b)
  have na : ¬ Ex B (fun b => False ∨ ∃ j, j ≠ i ∧ fs j b) a := fun z => by
    rcases z with z | z | ⟨j, hj, z⟩
    · exact h.dis a z ((h.own a).mpr ⟨i, (hf a).mpr (.inl rfl)⟩)
    · exact z
    · exact hj (h.one j i a z ((hf a).mpr (.inl rfl)))
  have hI : Is (Ex B fun b => False ∨ ∃ j, j ≠ i ∧ fs j b) H (.ref a) (.ins C ds) := .ins h1 na (h3.keep k)
  refine ⟨_, ?_, hI, ⟨fun _ _ e _ => e, fun b z => .inl (sub b z), fun _ e => e⟩⟩
  have q := h.put (f' := fun _ => False) (o' := some (.ref a)) (s' := .obz a (.ins C ds)) hi ⟨fun _ z => z, rfl, hI⟩ (fun _ _ _ _ _ e => e) k (fun _ _ _ z => z.elim) (fun _ z => z.elim) (fun b o e => ⟨o, e⟩)
  rw [set_self ev] at q
  exact q
end
end Xl


namespace Xl
open PySem PySem.Spec PyProof.Rows L2
/-! ### clean readings -/
abbrev KV := D → DEnv → Prop
abbrev KX := Addr → List (Str × D) → DEnv → Prop
abbrev CE := DEnv → KV → KX → Prop
abbrev CT := DEnv → (Bool → DEnv → Prop) → KX → Prop
abbrev CA := DEnv → (List D → DEnv → Prop) → KX → Prop
structure CEnds where
  nx : DEnv → Prop
  rt : KV
  bk : DEnv → Prop
  ct : DEnv → Prop
  ex : KX
abbrev CS := DEnv → CEnds → Prop
def ErR (A : Fp) (H : Hp) (o : Option Addr) (fs : List (Str × D)) : Prop := (o = none ∧ fs = []) ∨ ∃ d xs, o = some d ∧ H d = some (.xd xs) ∧ ¬ A d ∧ IsF A H xs fs
/-- what leaves by an error is wished for -/
def XOk (W : WX) (B M : Fp) (H : Hp) (σ : L2.St) (RX : KX) : Prop := ∀ C fs δ' o H' M', RX C fs δ' → ErR (Ex B M') H' o fs → ER B M' H' σ δ' → Fz B M H M' H' → W (.ref C) o σ H'
theorem XOk.fr {W : WX} {B M M' : Fp} {H H' : Hp} {σ : L2.St} {RX : KX} (x : XOk W B M H σ RX) (f : Fz B M H M' H') : XOk W B M' H' σ RX := fun C fs δ' o H2 M2 h1 h2 h3 h4 => x C fs δ' o H2 M2 h1 h2 h3 (f.trans h4)
def liftE (W : WX) (t : CE) : TE := fun σ H Q => ∃ B M δ R RX, ER B M H σ δ ∧ t δ R RX ∧ (∀ d δ' v H' M', R d δ' → Is (Ex B M') H' v d → ER B M' H' σ δ' → Fz B M H M' H' → Q v H') ∧ XOk W B M H σ RX
def liftT (W : WX) (t : CT) : TT := fun σ H Q => ∃ B M δ R RX, ER B M H σ δ ∧ t δ R RX ∧ (∀ b δ' H' M', R b δ' → ER B M' H' σ δ' → Fz B M H M' H' → Q b H') ∧ XOk W B M H σ RX
def liftA (W : WX) (t : CA) : TA := fun σ H Q => ∃ B M δ R RX, ER B M H σ δ ∧ t δ R RX ∧ (∀ ds δ' vs H' M', R ds δ' → IsL (Ex B M') H' vs ds → ER B M' H' σ δ' → Fz B M H M' H' → Q vs H') ∧ XOk W B M H σ RX
/-- a new list -/
def liftF (W : WX) (t : CA) : TE := fun σ H Q => ∃ B M δ R RX, ER B M H σ δ ∧ t δ R RX ∧ (∀ ds δ' p vs H' M', R ds δ' → ER (Bp B p) M' H' σ δ' → Fz B M H M' H' → H p = none → H' p = some (.lst vs) → IsL (Ex (Bp B p) M') H' vs ds → Q (.ref p) H') ∧ XOk W B M H σ RX
structure EOk (W : WX) (B M : Fp) (H : Hp) (N : Ends) (C : CEnds) : Prop where
  nx : ∀ δ' σ' H' M', C.nx δ' → ER B M' H' σ' δ' → Fz B M H M' H' → N.nx σ' H'
  rt : ∀ d δ' v σ' H' M', C.rt d δ' → Is (Ex B M') H' v d → ER B M' H' σ' δ' → Fz B M H M' H' → N.rt v H'
  bk : ∀ δ' σ' H' M', C.bk δ' → ER B M' H' σ' δ' → Fz B M H M' H' → N.bk σ' H'
  ct : ∀ δ' σ' H' M', C.ct δ' → ER B M' H' σ' δ' → Fz B M H M' H' → N.ct σ' H'
  ex : ∀ Cc fs δ' σ' o H' M', C.ex Cc fs δ' → ErR (Ex B M') H' o fs → ER B M' H' σ' δ' → Fz B M H M' H' → W (.ref Cc) o σ' H'
theorem EOk.fr {W : WX} {B M M' : Fp} {H H' : Hp} {N : Ends} {C : CEnds} (x : EOk W B M H N C) (f : Fz B M H M' H') : EOk W B M' H' N C :=
  ⟨fun δ' σ' H2 M2 h1 h2 h3 => x.nx δ' σ' H2 M2 h1 h2 (f.trans h3), fun d δ' v σ' H2 M2 h1 h2 h3 h4 => x.rt d δ' v σ' H2 M2 h1 h2 h3 (f.trans h4), fun δ' σ' H2 M2 h1 h2 h3 => x.bk δ' σ' H2 M2 h1 h2 (f.trans h3),
    fun δ' σ' H2 M2 h1 h2 h3 => x.ct δ' σ' H2 M2 h1 h2 (f.trans h3), fun c fs δ' σ' o H2 M2 h1 h2 h3 h4 => x.ex c fs δ' σ' o H2 M2 h1 h2 h3 (f.trans h4)⟩
theorem EOk.xok {W : WX} {B M : Fp} {H : Hp} {N : Ends} {C : CEnds} (x : EOk W B M H N C) (σ : L2.St) : XOk W B M H σ C.ex := fun c fs δ' o H' M' h1 h2 h3 h4 => x.ex c fs δ' σ o H' M' h1 h2 h3 h4
def liftS (W : WX) (t : CS) : TS := fun N σ H => ∃ B M δ C, ER B M H σ δ ∧ t δ C ∧ EOk W B M H N C
abbrev PD (X : Cx) (W : WX) (e : Expr) (t : CE) : Prop := PE X e (liftE W t)
abbrev PTD (X : Cx) (W : WX) (e : Expr) (t : CT) : Prop := PT X e (liftT W t)
abbrev PWD (X : Cx) (W : WX) (e : Expr) (t : CT) : Prop := PW X e (liftT W t)
abbrev PAD (X : Cx) (W : WX) (es : List Expr) (t : CA) : Prop := PA X es (liftA W t)
abbrev PFD (X : Cx) (W : WX) (e : Expr) (t : CA) : Prop := PE X e (liftF W t)
abbrev PSD (X : Cx) (W : WX) (st : Stmt) (t : CS) : Prop := PS X st (liftS W t)
abbrev PSsD (X : Cx) (W : WX) (sts : List Stmt) (t : CS) : Prop := PSs X sts (liftS W t)
theorem PT.imp {X : Cx} {e : Expr} {t t' : TT} (h : PT X e t) (i : ∀ σ H Q, t' σ H Q → t σ H Q) : PT X e t' := ⟨fun pins s σ H Q I q => h.run pins s σ H Q I (i σ H Q q)⟩
theorem PW.imp {X : Cx} {e : Expr} {t t' : TT} (h : PW X e t) (i : ∀ σ H Q, t' σ H Q → t σ H Q) : PW X e t' := ⟨fun wh pins s σ H Q I q => h.run wh pins s σ H Q I (i σ H Q q)⟩
theorem PA.imp {X : Cx} {e : List Expr} {t t' : TA} (h : PA X e t) (i : ∀ σ H Q, t' σ H Q → t σ H Q) : PA X e t' := ⟨fun pos pins s σ H Q I q => h.run pos pins s σ H Q I (i σ H Q q)⟩
theorem PS.imp {X : Cx} {e : Stmt} {t t' : TS} (h : PS X e t) (i : ∀ N σ H, t' N σ H → t N σ H) : PS X e t' := ⟨fun pins s σ H N I q => h.run pins s σ H N I (i N σ H q)⟩
theorem PSs.imp {X : Cx} {e : List Stmt} {t t' : TS} (h : PSs X e t) (i : ∀ N σ H, t' N σ H → t N σ H) : PSs X e t' := ⟨fun pins s σ H N I q => h.run pins s σ H N I (i N σ H q)⟩
theorem New.fr' {B M : Fp} {H H' : Hp} {p : Addr} {o : HO} (n : New H p o H') : Fz B M H M H' := Fz.same n.same
/-! ### names, constants -/
def cVar (i : Nat) : CE := fun δ R _ => match δ[i]? with
  | some (.sh d) => R d δ
  | some (.own ds) => R (.lst ds) (δ.set i (.sh (.lst ds)))
  | some (.obz _ d) => R d δ
  | some (.obj a C fs) => R (.ins C fs) (δ.set i (.obz a (.ins C fs)))
  | _ => False
def cC (d : D) : CE := fun δ R _ => R d δ
section
variable {X : Cx} {W : WX} {e a b : Expr} {es : List Expr} {pos : Pos} {i : Nat} {ta tb : CE} {t : CA}
theorem pd_v (h : PE X e (tVar i)) : PD X W e (cVar i) := PE.imp h fun σ H Q ⟨B, M, δ, R, RX, er, ht, k, _⟩ => by
  unfold cVar at ht
  split at ht
  · next d q =>
    obtain ⟨v, ev, hv⟩ := er.sh q
    exact ⟨v, ev, k d δ v H M ht hv er (Fz.refl _ _)⟩
  · next ds q =>
    obtain ⟨p, M', ev, er', hv, f⟩ := er.freeze q
    exact ⟨_, ev, k _ _ _ H M' ht hv er' f.fz⟩
  · next a d q =>
    obtain ⟨ev, hv⟩ := er.obz q
    exact ⟨_, ev, k _ _ _ H M ht hv er (Fz.refl _ _)⟩
  · next a C fs q =>
    obtain ⟨M', er', hv, f⟩ := er.freezeO q
    exact ⟨_, (er.obj q).1, k _ _ _ H M' ht hv er' f.fz⟩
  · exact ht.elim
theorem pd_c {v : V} {d : D} (h : PE X e (tC v)) (hi : ∀ A H, Is A H v d) : PD X W e (cC d) := PE.imp h fun σ H Q ⟨B, M, δ, R, RX, er, ht, k, _⟩ => k d δ v H M ht (hi _ _) er (Fz.refl _ _)
theorem pd_int {z j p} : PD X W (.Constant (.int z) j p) (cC (.int z)) := pd_c pe_int fun _ _ => .int _
theorem pd_bl {z j p} : PD X W (.Constant (.bool z) j p) (cC (.bl z)) := pd_c pe_bl fun _ _ => .bl _
theorem pd_non {j p} : PD X W (.Constant .none j p) (cC .non) := pd_c pe_non fun _ _ => .non
theorem pd_str {z j p} (h : PyData.strOk z = true := by decide +kernel) : PD X W (.Constant (.str z) j p) (cC (.str z)) := pd_c pe_str fun _ _ => .str _ h
/-! ### operators by values: nothing is changed, things may be new -/
abbrev CR2 := D → D → (D → Prop) → Prop
abbrev CR1 := D → (D → Prop) → Prop
def liftR (r : CR2) : R2 := fun x y H Q => ∃ A d1 d2 R, (∀ b, A b → ∃ o, H b = some o) ∧ Is A H x d1 ∧ Is A H y d2 ∧ r d1 d2 R ∧ ∀ d v H', R d → Same H H' → Is A H' v d → Q v H'
def liftU (r : CR1) : V → Hp → VK → Prop := fun x H Q => ∃ A d1 R, (∀ b, A b → ∃ o, H b = some o) ∧ Is A H x d1 ∧ r d1 R ∧ ∀ d v H', R d → Same H H' → Is A H' v d → Q v H'
def liftC (r : List D → (D → Prop) → Prop) : List V → Hp → VK → Prop := fun xs H Q => ∃ A ds R, (∀ b, A b → ∃ o, H b = some o) ∧ IsL A H xs ds ∧ r ds R ∧ ∀ d v H', R d → Same H H' → Is A H' v d → Q v H'
def cOp (r : CR2) (ta tb : CE) : CE := fun δ R RX => ta δ (fun d1 δ1 => tb δ1 (fun d2 δ2 => r d1 d2 fun d => R d δ2) RX) RX
def cUn (r : CR1) (ta : CE) : CE := fun δ R RX => ta δ (fun d1 δ1 => r d1 fun d => R d δ1) RX
def cCB (r : List D → (D → Prop) → Prop) (t : CA) : CE := fun δ R RX => t δ (fun ds δ1 => r ds fun d => R d δ1) RX
theorem lift_op {r : CR2} {σ : L2.St} {H : Hp} {Q : VK} (h : liftE W (cOp r ta tb) σ H Q) : tOp (liftR r) (liftE W ta) (liftE W tb) σ H Q := by
  obtain ⟨B, M, δ, R, RX, er, ht, k, x⟩ := h
  refine ⟨B, M, δ, _, RX, er, ht, fun d1 δ1 v1 H1 M1 h1 i1 er1 f1 => ?_, x⟩
  refine ⟨B, M1, δ1, _, RX, er1, h1, fun d2 δ2 v2 H2 M2 h2 i2 er2 f2 => ?_, x.fr f1⟩
  exact ⟨Ex B M2, d1, d2, _, fun b hb => er2.edom hb, i1.keep (Keep.fr f2), i2, h2, fun d v H3 hd s3 hv => k d δ2 v H3 M2 hd hv (er2.same s3) ((f1.trans f2).trans (Fz.same s3))⟩
theorem pd_op {op : Operator} {r : CR2} (ho : OpR X (binaryOp op) (liftR r)) (ha : PD X W a ta) (hb : PD X W b tb) : PD X W (.BinOp a op b pos) (cOp r ta tb) := PE.imp (pe_op ho ha hb) fun _ _ _ h => lift_op h
theorem pd_cmp {op : CmpOp} {r : CR2} (ho : OpR X (compareOp op) (liftR r)) (ha : PD X W a ta) (hb : PD X W b tb) (hm : behindInMarks op b = false) : PD X W (.Compare a [op] [b] pos) (cOp r ta tb) := PE.imp (pe_cmpR ho ha hb hm) fun _ _ _ h => lift_op h
theorem pd_ix {r : CR2} (ho : IxR X (liftR r)) (ha : PD X W a ta) (hb : PD X W b tb) (hs : PlainIx b) : PD X W (.Subscript a b pos) (cOp r ta tb) := PE.imp (pe_ix ho ha hb hs) fun _ _ _ h => lift_op h
theorem pd_un {op : UnaryOp} {r : CR1} (ho : UnR X (unaryOp op) (liftU r)) (ha : PD X W a ta) : PD X W (.UnaryOp op a pos) (cUn r ta) := PE.imp (pe_un ho ha) fun σ H Q ⟨B, M, δ, R, RX, er, ht, k, x⟩ =>
  ⟨B, M, δ, _, RX, er, ht, fun d1 δ1 v1 H1 M1 h1 i1 er1 f1 => ⟨Ex B M1, d1, _, fun b hb => er1.edom hb, i1, h1, fun d v H3 hd s3 hv => k d δ1 v H3 M1 hd hv (er1.same s3) (f1.trans (Fz.same s3))⟩, x⟩
theorem lift_cb {r : List D → (D → Prop) → Prop} {σ : L2.St} {H : Hp} {Q : VK} (h : liftE W (cCB r t) σ H Q) : tCB (liftC r) (liftA W t) σ H Q := by
  obtain ⟨B, M, δ, R, RX, er, ht, k, x⟩ := h
  exact ⟨B, M, δ, _, RX, er, ht, fun d1 δ1 v1 H1 M1 h1 i1 er1 f1 => ⟨Ex B M1, d1, _, fun b hb => er1.edom hb, i1, h1, fun d v H3 hd s3 hv => k d δ1 v H3 M1 hd hv (er1.same s3) (f1.trans (Fz.same s3))⟩, x⟩
/-! ### arguments, tuples, lists -/
def caNil : CA := fun δ R _ => R [] δ
def caCons (ta : CE) (t : CA) : CA := fun δ R RX => ta δ (fun d δ1 => t δ1 (fun ds δ2 => R (d :: ds) δ2) RX) RX
theorem pad_nil : PAD X W [] caNil := PA.imp pa_nil fun σ H Q ⟨B, M, δ, R, RX, er, ht, k, _⟩ => k [] δ [] H M ht .nil er (Fz.refl _ _)
theorem pad_cons (ha : PD X W e ta) (hr : PAD X W es t) (he : starEach (e :: es) X.env = (false, eval e X.env) :: starEach es X.env := by rfl) : PAD X W (e :: es) (caCons ta t) := PA.imp (pa_cons ha hr he) fun σ H Q ⟨B, M, δ, R, RX, er, ht, k, x⟩ => by
  refine ⟨B, M, δ, _, RX, er, ht, fun d1 δ1 v1 H1 M1 h1 i1 er1 f1 => ?_, x⟩
  refine ⟨B, M1, δ1, _, RX, er1, h1, fun ds δ2 vs H2 M2 h2 i2 er2 f2 => ?_, x.fr f1⟩
  exact k _ δ2 _ H2 M2 h2 (.cons (i1.keep (Keep.fr f2)) i2) er2 (f1.trans f2)
def cTup (t : CA) : CE := fun δ R RX => t δ (fun ds δ1 => ds.length ≤ sizeLine ∧ R (.tup ds) δ1) RX
theorem pd_tup {x1} (h : PAD X W es t) : PD X W (.Tuple es x1 pos) (cTup t) := PE.imp (pe_tupN h) fun σ H Q ⟨B, M, δ, R, RX, er, ht, k, x⟩ =>
  ⟨B, M, δ, _, RX, er, ht, fun ds δ1 vs H1 M1 h1 i1 er1 f1 => ⟨by rw [i1.length]; exact h1.1, fun p H' n => k _ δ1 _ H' M1 h1.2 (.tup n.at (er1.nex n.1) (i1.keep (Keep.same n.same))) (er1.same n.same) (f1.trans n.fr')⟩, x⟩
def cLim (t : CA) : CA := fun δ R RX => t δ (fun ds δ1 => ds.length ≤ sizeLine ∧ R ds δ1) RX
theorem IsL.fgn {B M : Fp} {H H' : Hp} {p : Addr} {o : HO} {vs : List V} {ds : List D} (n : New H p o H') (h : IsL (Ex B M) H vs ds) : IsL (Ex (Bp B p) M) H' vs ds := h.keep fun b u e nb => ⟨fun z => z.elim (fun q => q.elim (fun r => nb (.inl r)) fun r => n.ne e r) fun q => nb (.inr q), .inl (n.same b u e)⟩
theorem pf_lst (h : PAD X W es t) : PFD X W (.List es pos) (cLim t) := PE.imp (pe_lstN h) fun σ H Q ⟨B, M, δ, R, RX, er, ht, k, x⟩ =>
  ⟨B, M, δ, _, RX, er, ht, fun ds δ1 vs H1 M1 h1 i1 er1 f1 => ⟨by rw [i1.length]; exact h1.1, fun p H' n => k _ δ1 p vs H' M1 h1.2 (er1.foreign n) (f1.trans n.fr') (f1.free p n.1) n.at (i1.fgn n)⟩, x⟩
def cFr (t : CA) : CE := fun δ R RX => t δ (fun ds δ1 => R (.lst ds) δ1) RX
theorem ER.nfree {B M : Fp} {H : Hp} {σ : L2.St} {δ : DEnv} {p : Addr} (h : ER B M H σ δ) (e : H p = none) : ¬ B p := fun z => h.nex e (.inl z)
theorem pd_fr (h : PFD X W e t) : PD X W e (cFr t) := PE.imp h fun σ H Q ⟨B, M, δ, R, RX, er, ht, k, x⟩ =>
  ⟨B, M, δ, _, RX, er, ht, fun ds δ1 p vs H1 M1 h1 er1 f1 hn hp i1 => k _ δ1 _ H1 M1 h1 (.lst hp (fun z => z.elim (er.nfree hn) er1.nB) (i1.keep (Keep.less fun b z => z.imp .inl id))) (er1.less fun b z => .inl z) f1, x⟩
/-! ### tests -/
def cTst (ta : CE) : CT := fun δ R RX => ta δ (fun d δ1 => match d with
  | .bl b => R b δ1
  | _ => False) RX
theorem lift_tst {σ : L2.St} {H : Hp} {Q : Bool → Hp → Prop} (h : liftT W (cTst ta) σ H Q) : liftE W ta σ H fun x H' => ∃ k, x = .bl k ∧ Q k H' := by
  obtain ⟨B, M, δ, R, RX, er, ht, k, x⟩ := h
  refine ⟨B, M, δ, _, RX, er, ht, fun d δ1 v H1 M1 h1 i1 er1 f1 => ?_, x⟩
  split at h1
  · cases i1
    exact ⟨_, rfl, k _ δ1 H1 M1 h1 er1 f1⟩
  · exact h1.elim
theorem ptd_cmp {op : CmpOp} {r : CR2} (ho : OpR X (compareOp op) (liftR r)) (ha : PD X W a ta) (hb : PD X W b tb) (hm : behindInMarks op b = false) : PTD X W (.Compare a [op] [b] pos) (cTst (cOp r ta tb)) := PT.imp (pt_cmpR ho ha hb hm) fun σ H Q h => by
  exact lift_op (lift_tst h)
end
end Xl


namespace Xl
open PySem PySem.Spec PyProof.Rows L2
theorem ER.to {B M : Fp} {H H' : Hp} {σ : L2.St} {δ : DEnv} (h : ER B M H σ δ) (k : Keep (Ex B M) H (Ex B M) H') (kf : ∀ b u, M b → H b = some u → H' b = some u) (kd : ∀ b o, H b = some o → ∃ o', H' b = some o') : ER B M H' σ δ := by
  obtain ⟨fs, h⟩ := h
  exact ⟨fs, h.len, h.own, h.one, fun i => (h.at_ i).keep k fun b u hb e => kf b u ((h.own b).mpr ⟨i, hb⟩) e, fun b hb => (h.dom b hb).elim fun o e => kd b o e, h.dis⟩
/-- the tree that a slot holds, whether owned or not -/
def pk (δ : DEnv) (i : Nat) : Option D := match δ[i]? with
  | some (.sh d) => some d
  | some (.own ds) => some (.lst ds)
  | _ => none
/-- a name's value read without sharing it: its items are outside of the owned; the list itself may be owned -/
inductive Pk (A : Fp) (H : Hp) : V → D → Prop
  | sh {v : V} {d : D} : Is A H v d → Pk A H v d
  | own {p : Addr} {vs : List V} {ds : List D} : H p = some (.lst vs) → IsL A H vs ds → Pk A H (.ref p) (.lst ds)
theorem ER.pk {B M : Fp} {H : Hp} {σ : L2.St} {δ : DEnv} {i : Nat} {d : D} (h : ER B M H σ δ) (e : pk δ i = some d) : ∃ v, σ[i]? = some (some v) ∧ Pk (Ex B M) H v d := by
  unfold Xl.pk at e
  split at e
  · next d' q =>
    cases e
    obtain ⟨v, ev, hv⟩ := h.sh q
    exact ⟨v, ev, .sh hv⟩
  · next ds q =>
    cases e
    obtain ⟨p, vs, ev, hp, hl⟩ := h.ow q
    exact ⟨_, ev, .own hp hl⟩
  · cases e
section
variable {X : Cx} {W : WX} {e a b : Expr} {es rest : List Expr} {pos : Pos} {i : Nat} {ta tb : CE} {t : CA} {tA tB : CT}
/-! ### tests -/
def cAnd (t u : CT) : CT := fun δ R RX => t δ (fun c δ1 => if c = true then u δ1 R RX else R false δ1) RX
def cOr (t u : CT) : CT := fun δ R RX => t δ (fun c δ1 => if c = true then R true δ1 else u δ1 R RX) RX
def cNot (t : CT) : CT := fun δ R RX => t δ (fun c δ1 => R (!c) δ1) RX
theorem pwd_and1 (ha : PTD X W a tA) : PWD X W (.BoolOp .And [a] pos) tA := pw_and1 ha
theorem pwd_or1 (ha : PTD X W a tA) : PWD X W (.BoolOp .Or [a] pos) tA := pw_or1 ha
theorem pwd_and (ha : PTD X W a tA) (hb : PWD X W (.BoolOp .And (b :: rest) pos) tB) : PWD X W (.BoolOp .And (a :: b :: rest) pos) (cAnd tA tB) := PW.imp (pw_and ha hb) fun σ H Q ⟨B, M, δ, R, RX, er, ht, k, x⟩ => by
  refine ⟨B, M, δ, _, RX, er, ht, fun c δ1 H1 M1 h1 er1 f1 => ?_, x⟩
  cases c with
  | true => exact ⟨B, M1, δ1, R, RX, er1, h1, fun b δ2 H2 M2 h2 er2 f2 => k b δ2 H2 M2 h2 er2 (f1.trans f2), x.fr f1⟩
  | false => exact k false δ1 H1 M1 h1 er1 f1
theorem pwd_or (ha : PTD X W a tA) (hb : PWD X W (.BoolOp .Or (b :: rest) pos) tB) : PWD X W (.BoolOp .Or (a :: b :: rest) pos) (cOr tA tB) := PW.imp (pw_or ha hb) fun σ H Q ⟨B, M, δ, R, RX, er, ht, k, x⟩ => by
  refine ⟨B, M, δ, _, RX, er, ht, fun c δ1 H1 M1 h1 er1 f1 => ?_, x⟩
  cases c with
  | false => exact ⟨B, M1, δ1, R, RX, er1, h1, fun b δ2 H2 M2 h2 er2 f2 => k b δ2 H2 M2 h2 er2 (f1.trans f2), x.fr f1⟩
  | true => exact k true δ1 H1 M1 h1 er1 f1
theorem ptd_not (ha : PTD X W a tA) : PTD X W (.UnaryOp .Not a pos) (cNot tA) := PT.imp (pt_not ha) fun σ H Q ⟨B, M, δ, R, RX, er, ht, k, x⟩ =>
  ⟨B, M, δ, _, RX, er, ht, fun c δ1 H1 M1 h1 er1 f1 => k (!c) δ1 H1 M1 h1 er1 f1, x⟩
/-- truth -/
def tru : D → (Bool → Prop) → Prop
  | .non, R => R false
  | .bl b, R => R b
  | .int i, R => R (i != 0)
  | .str s, R => s.length ≤ sizeLine ∧ R (s.length != 0)
  | .tup ds, R => R (!ds.isEmpty)
  | .lst ds, R => R (!ds.isEmpty)
  | _, _ => False
theorem IsL.emp {A : Fp} {H : Hp} {vs : List V} {ds : List D} (h : IsL A H vs ds) : vs.isEmpty = ds.isEmpty := by cases h <;> rfl
theorem tru_ok {K : PySem.W.Frag} {A : Fp} {H : Hp} {v : V} {d : D} {R : Bool → Prop} (h : Is A H v d) (q : tru d R) : ∃ k, TruV K v H k ∧ R k := by
  cases h with
  | non => exact ⟨false, rfl, q⟩
  | bl b => exact ⟨b, rfl, q⟩
  | int i => exact ⟨_, rfl, q⟩
  | str s hs => exact ⟨_, ⟨q.1, rfl⟩, by
      have e : ((s.length : Int) != 0) = (s.length != 0) := by
        cases h : s.length <;> simp <;> omega
      rw [e]; exact q.2⟩
  | tup e n l => exact ⟨_, .inr (.inl ⟨_, SqT.of e, rfl⟩), by rw [l.emp]; exact q⟩
  | lst e n l => exact ⟨_, .inl ⟨_, SqL.of e, rfl⟩, by rw [l.emp]; exact q⟩
  | dic e n l => exact q.elim
  | ins e n l => exact q.elim
  | cls a => exact q.elim
  | exn0 a C => exact q.elim
  | exn1 e n l => exact q.elim
def cTru (ta : CE) : CT := fun δ R RX => ta δ (fun d δ1 => tru d fun b => R b δ1) RX
theorem ptd_tru (ha : PD X W a ta) (he : ∀ whole, isTrue a X.env whole = (do let v ← whole; standAt a.pos; holding [v] (truthy v)) := by intro _; rfl) : PTD X W a (cTru ta) := PT.imp (pt_truth ha he) fun σ H Q ⟨B, M, δ, R, RX, er, ht, k, x⟩ => by
  refine ⟨B, M, δ, _, RX, er, ht, fun d δ1 v H1 M1 h1 i1 er1 f1 => ?_, x⟩
  obtain ⟨c, hc, q⟩ := Xl.tru_ok i1 h1
  exact ⟨c, hc, k c δ1 H1 M1 q er1 f1⟩
/-- the truth of a name's list -/
def cTruN (i : Nat) : CT := fun δ R _ => match pk δ i with
  | some d => tru d fun b => R b δ
  | none => False
theorem ptd_truN (ha : PE X a (tVar i)) (he : ∀ whole, isTrue a X.env whole = (do let v ← whole; standAt a.pos; holding [v] (truthy v)) := by intro _; rfl) : PTD X W a (cTruN i) := PT.imp (pt_truth ha he) fun σ H Q ⟨B, M, δ, R, RX, er, ht, k, x⟩ => by
  unfold cTruN at ht
  cases e : Xl.pk δ i with
  | none => rw [e] at ht; exact ht.elim
  | some d =>
    rw [e] at ht
    obtain ⟨v, ev, hv⟩ := er.pk e
    refine ⟨v, ev, ?_⟩
    cases hv with
    | sh hv =>
      obtain ⟨c, hc, q⟩ := Xl.tru_ok (K := X.K) hv ht
      exact ⟨c, hc, k c δ H M q er (Fz.refl _ _)⟩
    | own hp hl => exact ⟨_, .inl ⟨_, SqL.of hp, rfl⟩, k _ δ H M (by rw [hl.emp]; exact ht) er (Fz.refl _ _)⟩
/-! ### expressions -/
def cIfE (t : CT) (ta tb : CE) : CE := fun δ R RX => t δ (fun c δ1 => if c = true then ta δ1 R RX else tb δ1 R RX) RX
theorem pd_if {c : Expr} (hc : PTD X W c tA) (ha : PD X W a ta) (hb : PD X W b tb) : PD X W (.IfExp c a b pos) (cIfE tA ta tb) := PE.imp (pe_ifExp hc ha hb) fun σ H Q ⟨B, M, δ, R, RX, er, ht, k, x⟩ => by
  refine ⟨B, M, δ, _, RX, er, ht, fun c δ1 H1 M1 h1 er1 f1 => ?_, x⟩
  cases c with
  | true => exact ⟨B, M1, δ1, R, RX, er1, h1, fun d δ2 v H2 M2 h2 i2 er2 f2 => k d δ2 v H2 M2 h2 i2 er2 (f1.trans f2), x.fr f1⟩
  | false => exact ⟨B, M1, δ1, R, RX, er1, h1, fun d δ2 v H2 M2 h2 i2 er2 f2 => k d δ2 v H2 M2 h2 i2 er2 (f1.trans f2), x.fr f1⟩
def cAndV (ta tb : CE) : CE := fun δ R RX => ta δ (fun d δ1 => match d with
  | .bl c => if c = true then tb δ1 R RX else R (.bl false) δ1
  | _ => False) RX
def cOrV (ta tb : CE) : CE := fun δ R RX => ta δ (fun d δ1 => match d with
  | .bl c => if c = true then R (.bl true) δ1 else tb δ1 R RX
  | _ => False) RX
def cNotV (ta : CT) : CE := fun δ R RX => ta δ (fun c δ1 => R (.bl (!c)) δ1) RX
theorem pd_one {op} (h : PD X W a ta) : PD X W (.BoolOp op [a] pos) ta := pe_one h
theorem pd_and (ha : PD X W a ta) (hb : PD X W (.BoolOp .And (b :: rest) pos) tb) : PD X W (.BoolOp .And (a :: b :: rest) pos) (cAndV ta tb) := PE.imp (pe_and ha hb) fun σ H Q ⟨B, M, δ, R, RX, er, ht, k, x⟩ => by
  refine ⟨B, M, δ, _, RX, er, ht, fun d δ1 v H1 M1 h1 i1 er1 f1 => ?_, x⟩
  split at h1
  · next c =>
    cases i1
    cases c with
    | true => exact ⟨true, rfl, iteT ⟨B, M1, δ1, R, RX, er1, h1, fun d δ2 v H2 M2 h2 i2 er2 f2 => k d δ2 v H2 M2 h2 i2 er2 (f1.trans f2), x.fr f1⟩⟩
    | false => exact ⟨false, rfl, iteF (k _ δ1 _ H1 M1 h1 (.bl _) er1 f1)⟩
  · exact h1.elim
theorem pd_or (ha : PD X W a ta) (hb : PD X W (.BoolOp .Or (b :: rest) pos) tb) : PD X W (.BoolOp .Or (a :: b :: rest) pos) (cOrV ta tb) := PE.imp (pe_or ha hb) fun σ H Q ⟨B, M, δ, R, RX, er, ht, k, x⟩ => by
  refine ⟨B, M, δ, _, RX, er, ht, fun d δ1 v H1 M1 h1 i1 er1 f1 => ?_, x⟩
  split at h1
  · next c =>
    cases i1
    cases c with
    | false => exact ⟨false, rfl, iteF ⟨B, M1, δ1, R, RX, er1, h1, fun d δ2 v H2 M2 h2 i2 er2 f2 => k d δ2 v H2 M2 h2 i2 er2 (f1.trans f2), x.fr f1⟩⟩
    | true => exact ⟨true, rfl, iteT (k _ δ1 _ H1 M1 h1 (.bl _) er1 f1)⟩
  · exact h1.elim
def cNotE (ta : CE) : CE := fun δ R RX => ta δ (fun d δ1 => match d with
  | .bl c => R (.bl (!c)) δ1
  | _ => False) RX
theorem pd_not (ha : PD X W a ta) : PD X W (.UnaryOp .Not a pos) (cNotE ta) := PE.imp (pe_not ha) fun σ H Q ⟨B, M, δ, R, RX, er, ht, k, x⟩ => by
  refine ⟨B, M, δ, _, RX, er, ht, fun d δ1 v H1 M1 h1 i1 er1 f1 => ?_, x⟩
  split at h1
  · cases i1
    exact ⟨_, rfl, k _ δ1 _ H1 M1 h1 (.bl _) er1 f1⟩
  · exact h1.elim
/-! ### statements -/
variable {st : Stmt} {sts : List Stmt} {u v : CS}
def cSeq (t u : CS) : CS := fun δ C => t δ { C with nx := fun δ1 => u δ1 C }
def cNext : CS := fun δ C => C.nx δ
theorem psd_nil : PSsD X W [] cNext := PSs.imp pss_nil fun N σ H ⟨B, M, δ, C, er, ht, k⟩ => k.nx δ σ H M ht er (Fz.refl _ _)
theorem psd_cons (h1 : PSD X W st u) (h2 : PSsD X W sts v) : PSsD X W (st :: sts) (cSeq u v) := PSs.imp (pss_cons h1 h2) fun N σ H ⟨B, M, δ, C, er, ht, k⟩ =>
  ⟨B, M, δ, _, er, ht, ⟨fun δ' σ' H' M' h1 er1 f1 => ⟨B, M', δ', C, er1, h1, k.fr f1⟩, k.rt, k.bk, k.ct, k.ex⟩⟩
theorem psd_one (h1 : PSD X W st u) : PSsD X W [st] u := pss_one h1
theorem psd_pass : PSD X W (.Pass pos) cNext := PS.imp ps_pass fun N σ H ⟨B, M, δ, C, er, ht, k⟩ => k.nx δ σ H M ht er (Fz.refl _ _)
def cDrop (t : CE) : CS := fun δ C => t δ (fun _ δ1 => C.nx δ1) C.ex
theorem psd_expr (he : PD X W e ta) (hs : swapsWith e none pos.line X.env = pure false := by rfl) : PSD X W (.Expr e pos) (cDrop ta) := PS.imp (ps_expr he hs) fun N σ H ⟨B, M, δ, C, er, ht, k⟩ =>
  ⟨B, M, δ, _, C.ex, er, ht, fun d δ1 v H1 M1 h1 i1 er1 f1 => k.nx δ1 σ H1 M1 h1 er1 f1, k.xok σ⟩
def cRet (t : CE) : CS := fun δ C => t δ C.rt C.ex
theorem psd_ret (he : PD X W e ta) : PSD X W (.Return (some e) pos) (cRet ta) := PS.imp (ps_ret he) fun N σ H ⟨B, M, δ, C, er, ht, k⟩ =>
  ⟨B, M, δ, _, C.ex, er, ht, fun d δ1 v H1 M1 h1 i1 er1 f1 => k.rt d δ1 v σ H1 M1 h1 i1 er1 f1, k.xok σ⟩
def cRetN : CS := fun δ C => C.rt .non δ
theorem psd_retN : PSD X W (.Return none pos) cRetN := PS.imp ps_retN fun N σ H ⟨B, M, δ, C, er, ht, k⟩ => k.rt _ δ _ σ H M ht .non er (Fz.refl _ _)
def cIf (c : CT) (u v : CS) : CS := fun δ C => c δ (fun b δ1 => if b = true then u δ1 C else v δ1 C) C.ex
theorem psd_if {c : Expr} {p q : List Stmt} {tc : CT} (hc : PTD X W c tc) (ha : PSsD X W p u) (hb : PSsD X W q v) : PSD X W (.If c p q pos) (cIf tc u v) := PS.imp (ps_if hc ha hb) fun N σ H ⟨B, M, δ, C, er, ht, k⟩ => by
  refine ⟨B, M, δ, _, C.ex, er, ht, fun b δ1 H1 M1 h1 er1 f1 => ?_, k.xok σ⟩
  cases b with
  | true => exact iteT ⟨B, M1, δ1, C, er1, h1, k.fr f1⟩
  | false => exact iteF ⟨B, M1, δ1, C, er1, h1, k.fr f1⟩
def cBrk : CS := fun δ C => C.bk δ
def cCnt : CS := fun δ C => C.ct δ
theorem psd_brk : PSD X W (.Break pos) cBrk := PS.imp ps_break fun N σ H ⟨B, M, δ, C, er, ht, k⟩ => k.bk δ σ H M ht er (Fz.refl _ _)
theorem psd_cnt : PSD X W (.Continue pos) cCnt := PS.imp ps_continue fun N σ H ⟨B, M, δ, C, er, ht, k⟩ => k.ct δ σ H M ht er (Fz.refl _ _)
/-! ### stores -/
def cSet (i : Nat) (t : CE) : CS := fun δ C => t δ (fun d δ1 => i < δ1.length ∧ C.nx (δ1.set i (.sh d))) C.ex
theorem psd_set (h : ∀ te, PE X e te → PS X st (tAsg te (gName i))) (he : PD X W e ta) : PSD X W st (cSet i ta) := PS.imp (h _ he) fun N σ H ⟨B, M, δ, C, er, ht, k⟩ => by
  refine ⟨B, M, δ, _, C.ex, er, ht, fun d δ1 v H1 M1 h1 i1 er1 f1 => ?_, k.xok σ⟩
  obtain ⟨M2, er2, f2⟩ := er1.set h1.1 i1
  exact k.nx _ _ H1 M2 h1.2 er2 (f1.trans f2.fz)
/-- a new list is stored: it is owned -/
def cSetO (i : Nat) (t : CA) : CS := fun δ C => t δ (fun ds δ1 => i < δ1.length ∧ C.nx (δ1.set i (.own ds))) C.ex
theorem Fz.own {B M M1 M2 : Fp} {H H1 : Hp} {p : Addr} (f : Fz B M H M1 H1) (hp : H p = none) (h : ∀ b, M2 b → M1 b ∨ b = p) : Fz B M H M2 H1 :=
  ⟨f.keep, fun b z => (h b z).elim (f.grow b) fun (e : b = p) => .inr (by rw [e]; exact hp), f.free⟩
theorem psd_own (h : ∀ te, PE X e te → PS X st (tAsg te (gName i))) (he : PFD X W e t) : PSD X W st (cSetO i t) := PS.imp (h _ he) fun N σ H ⟨B, M, δ, C, er, ht, k⟩ => by
  refine ⟨B, M, δ, _, C.ex, er, ht, fun ds δ1 p vs H1 M1 h1 er1 f1 hn hp i1 => ?_, k.xok σ⟩
  obtain ⟨M2, er2, f2⟩ := er1.setOwn h1.1 (er.nfree hn) hp i1
  exact k.nx _ _ H1 M2 h1.2 er2 (f1.own hn f2)
end
end Xl


namespace Xl
open PySem PySem.Spec PyProof.Rows L2
abbrev W0 : WX := fun _ _ _ _ => False
/-! ### targets -/
abbrev CG := D → DEnv → (DEnv → Prop) → Prop
abbrev CGs := List D → DEnv → (DEnv → Prop) → Prop
def liftG (g : CG) : TG := fun v σ H Q => ∃ B M δ d R, ER B M H σ δ ∧ Is (Ex B M) H v d ∧ g d δ R ∧ ∀ δ' σ' H' M', R δ' → ER B M' H' σ' δ' → Fz B M H M' H' → Q σ' H'
def liftGs (g : CGs) : TGs := fun vs σ H Q => ∃ B M δ ds R, ER B M H σ δ ∧ IsL (Ex B M) H vs ds ∧ g ds δ R ∧ ∀ δ' σ' H' M', R δ' → ER B M' H' σ' δ' → Fz B M H M' H' → Q σ' H'
abbrev PGD (X : Cx) (e : Expr) (g : CG) : Prop := PG X e (liftG g)
abbrev PGsD (X : Cx) (es : List Expr) (g : CGs) : Prop := PGs X es (liftGs g)
theorem PG.imp {X : Cx} {e : Expr} {t t' : TG} (h : PG X e t) (i : ∀ v σ H Q, t' v σ H Q → t v σ H Q) : PG X e t' := ⟨fun pins s σ H v u Q I r q => h.run pins s σ H v u Q I r (i v σ H Q q)⟩
theorem PGs.imp {X : Cx} {e : List Expr} {t t' : TGs} (h : PGs X e t) (i : ∀ v σ H Q, t' v σ H Q → t v σ H Q) : PGs X e t' := ⟨fun pins s σ H v u Q I r q => h.run pins s σ H v u Q I r (i v σ H Q q)⟩
def cgN (i : Nat) : CG := fun d δ R => i < δ.length ∧ R (δ.set i (.sh d))
def cgNil : CGs := fun ds δ R => match ds with
  | [] => R δ
  | _ => False
def cgCons (g : CG) (u : CGs) : CGs := fun ds δ R => match ds with
  | d :: r => g d δ fun δ1 => u r δ1 R
  | [] => False
def cgT (n : Nat) (g : CGs) : CG := fun d δ R => match d with
  | .tup ds => ds.length = n ∧ g ds δ R
  | _ => False
section
variable {X : Cx} {W : WX} {e tg iter : Expr} {es : List Expr} {sts : List Stmt} {pos : Pos} {i : Nat} {g : CG} {gs : CGs} {ta : CE} {t : CA}
theorem pgd_n (h : PG X e (gName i)) : PGD X e (cgN i) := PG.imp h fun v σ H Q ⟨B, M, δ, d, R, er, hv, ht, k⟩ => by
  obtain ⟨M', er', f⟩ := er.set ht.1 hv
  exact k _ _ H M' ht.2 er' f.fz
theorem pgd_nil : PGsD X [] cgNil := PGs.imp pgs_nil fun vs σ H Q ⟨B, M, δ, ds, R, er, hv, ht, k⟩ => by
  cases hv with
  | nil => exact ⟨rfl, k δ σ H M ht er (Fz.refl _ _)⟩
  | cons _ _ => exact ht.elim
theorem pgd_cons (h1 : PGD X e g) (h2 : PGsD X es gs) (hs : (assignEach (e :: es) X.env).map (·.2) = assign e X.env :: (assignEach es X.env).map (·.2) := by rfl) : PGsD X (e :: es) (cgCons g gs) := PGs.imp (pgs_cons h1 h2 hs) fun vs σ H Q ⟨B, M, δ, ds, R, er, hv, ht, k⟩ => by
  cases hv with
  | nil => exact ht.elim
  | cons h t =>
    refine ⟨_, _, rfl, B, M, δ, _, _, er, h, ht, fun δ1 σ1 H1 M1 h1 er1 f1 => ?_⟩
    exact ⟨B, M1, δ1, _, R, er1, t.keep (Keep.fr f1), h1, fun δ2 σ2 H2 M2 h2 er2 f2 => k δ2 σ2 H2 M2 h2 er2 (f1.trans f2)⟩
theorem pgd_t {n : Nat} {kk : Nat} (hc : X.calm = true) (h : PGsD X es gs) (hn : (assignEach es X.env).length = n := by rfl) (hst : (assignEach es X.env).findIdx? (·.1) = none := by rfl) : PGD X (.Tuple es kk pos) (cgT n gs) := PG.imp (pg_tup hc h hn hst) fun v σ H Q ⟨B, M, δ, d, R, er, hv, ht, k⟩ => by
  unfold cgT at ht
  split at ht
  · cases hv with
    | tup e n' l => exact ⟨_, _, rfl, SqT.of e, by rw [l.length]; exact ht.1, B, M, δ, _, R, er, l, ht.2, k⟩
  · exact ht.elim
def cAsg (t : CE) (g : CG) : CS := fun δ C => t δ (fun d δ1 => g d δ1 C.nx) C.ex
theorem psd_asg {st : Stmt} (h : ∀ te tg', PE X e te → PG X tg tg' → PS X st (tAsg te tg')) (he : PD X W e ta) (hg : PGD X tg g) : PSD X W st (cAsg ta g) := PS.imp (h _ _ he hg) fun N σ H ⟨B, M, δ, C, er, ht, k⟩ =>
  ⟨B, M, δ, _, C.ex, er, ht, fun d δ1 v H1 M1 h1 i1 er1 f1 => ⟨B, M1, δ1, d, C.nx, er1, i1, h1, fun δ2 σ2 H2 M2 h2 er2 f2 => k.nx δ2 σ2 H2 M2 h2 er2 (f1.trans f2)⟩, k.xok σ⟩
/-! ### what is walked -/
structure DWalk (B M : Fp) (H : Hp) (J : It) (ds : List D) : Prop where
  ex : ∃ G : Hp → Prop, (∀ H2 A2, Kz (Ex B M) H A2 H2 → G H2) ∧ (∀ i H2, i < ds.length → G H2 → J.go i H2) ∧ (∀ H2, G H2 → J.stop ds.length H2) ∧
    ∀ i H2 A2 x H3, i < ds.length → Kz (Ex B M) H A2 H2 → (∀ b, A2 b → ∃ o, H2 b = some o) → J.yld i H2 x H3 → Same H2 H3 ∧ ∃ d, ds[i]? = some d ∧ Is A2 H3 x d
def liftI (W : WX) (t : CA) : TI := fun σ H R => ∃ B M δ K RX, ER B M H σ δ ∧ t δ K RX ∧ (∀ ds δ' J H' M', K ds δ' → ER B M' H' σ δ' → Fz B M H M' H' → DWalk B M' H' J ds → R J H') ∧ XOk W B M H σ RX
abbrev PID (X : Cx) (W : WX) (tg e : Expr) (t : CA) : Prop := PI X tg e (liftI W t)
theorem PI.imp {t t' : TI} (h : PI X tg iter t) (i : ∀ σ H R, t' σ H R → t σ H R) : PI X tg iter t' := ⟨fun pins s σ H R I q => h.run pins s σ H R I (i σ H R q)⟩
theorem Is.nA {A : Fp} {H : Hp} {a : Addr} {ds : List D} (h : Is A H (.ref a) (.tup ds)) : ¬ A a := by cases h; assumption
/-- the items of a list or a tuple -/
def seqD : D → Option (List D)
  | .lst ds => some ds
  | .tup ds => some ds
  | _ => none
theorem kz_tup {A A' : Fp} {H H' : Hp} {a : Addr} {vs : List V} (f : Kz A H A' H') (e : H a = some (.tup vs)) (n : ¬ A a) : H' a = some (.tup vs) := by
  obtain ⟨_, h | ⟨_, _, q, _⟩⟩ := f a _ e n
  · exact h
  · cases q
theorem kz_lst {A A' : Fp} {H H' : Hp} {a : Addr} {vs : List V} (f : Kz A H A' H') (e : H a = some (.lst vs)) (n : ¬ A a) : H' a = some (.lst vs) := by
  obtain ⟨_, h | ⟨_, _, q, _⟩⟩ := f a _ e n
  · exact h
  · cases q
theorem dwalk_list {K : PySem.W.Frag} {B M : Fp} {H : Hp} {a : Addr} {vs : List V} {ds : List D} (e : H a = some (.lst vs)) (n : ¬ Ex B M a) (l : IsL (Ex B M) H vs ds) : DWalk B M H (Itl K a) ds := by
  have w := walk_list (K := K) (a := a) (xs := vs)
  refine ⟨fun H2 => SqL K H2 a vs, fun H2 A2 f => SqL.of (kz_lst f e n), fun i H2 hi g => w.goes i H2 (by rw [l.length]; exact hi) g, fun H2 g => by rw [← l.length]; exact w.stops H2 g, fun i H2 M2 x H3 hi f _ y => ?_⟩
  obtain ⟨rfl, hx⟩ := w.yields i H2 x H3 (by rw [l.length]; exact hi) (SqL.of (kz_lst f e n)) y
  refine ⟨Same.refl _, ds[i], List.getElem?_eq_getElem hi, ?_⟩
  obtain ⟨v, ev, hv⟩ := (l.keep f.keep).get (List.getElem?_eq_getElem hi)
  rw [hx] at ev
  cases ev
  exact hv
theorem dwalk_tup {K : PySem.W.Frag} {B M : Fp} {H : Hp} {a : Addr} {vs : List V} {ds : List D} (e : H a = some (.tup vs)) (n : ¬ Ex B M a) (l : IsL (Ex B M) H vs ds) : DWalk B M H (Itt K a) ds := by
  have w := walk_tup (K := K) (a := a) (xs := vs)
  refine ⟨fun H2 => SqT K H2 a vs, fun H2 A2 f => SqT.of (kz_tup f e n), fun i H2 hi g => w.goes i H2 (by rw [l.length]; exact hi) g, fun H2 g => by rw [← l.length]; exact w.stops H2 g, fun i H2 M2 x H3 hi f _ y => ?_⟩
  obtain ⟨rfl, hx⟩ := w.yields i H2 x H3 (by rw [l.length]; exact hi) (SqT.of (kz_tup f e n)) y
  refine ⟨Same.refl _, ds[i], List.getElem?_eq_getElem hi, ?_⟩
  obtain ⟨v, ev, hv⟩ := (l.keep f.keep).get (List.getElem?_eq_getElem hi)
  rw [hx] at ev
  cases ev
  exact hv
/-- over a list, a tuple, a text -/
def itD : D → Option (List D)
  | .lst ds => some ds
  | .tup ds => some ds
  | .str s => some (s.cps.toList.map fun c => .str ⟨#[c]⟩)
  | _ => none
def ciSeq (ta : CE) : CA := fun δ R RX => ta δ (fun d δ1 => match itD d with
  | some ds => R ds δ1
  | none => False) RX
theorem strOk_one {z : Str} (h : PyData.strOk z = true) {c : Nat} (hc : c ∈ z.cps.toList) : PyData.strOk ⟨#[c]⟩ = true := by
  unfold PyData.strOk at *
  rw [Array.all_eq_true_iff_forall_mem] at h ⊢
  intro x hx
  simp at hx
  subst hx
  exact h x (by simpa using hc)
theorem dwalk_str {B M : Fp} {H : Hp} {z : Str} (hz : PyData.strOk z = true) : DWalk B M H (Its z) (z.cps.toList.map fun c => .str ⟨#[c]⟩) := by
  have e : (z.cps.toList.map fun c => (D.str ⟨#[c]⟩)).length = z.cps.size := by rw [List.length_map, Array.length_toList]
  refine ⟨fun _ => True, fun _ _ _ => trivial, fun i H2 hi _ => by rw [e] at hi; exact hi, fun H2 _ => by rw [e]; exact Nat.le_refl _, fun i H2 M2 x H3 hi f _ y => ?_⟩
  obtain ⟨rfl, c, ec, rfl⟩ := y
  refine ⟨Same.refl _, .str ⟨#[c]⟩, ?_, .str _ (strOk_one hz ?_)⟩
  · rw [List.getElem?_map, Array.getElem?_toList, ec]
    rfl
  · rw [← Array.getElem?_toList] at ec
    exact List.mem_of_getElem? ec
theorem pid_seq (he : PD X W iter ta) : PID X W tg iter (ciSeq ta) := by
  refine ⟨fun pins s σ H R I ⟨B, M, δ, K, RX, er, ht, k, x⟩ => ?_⟩
  -- the value first, then by its kind
  refine thn (he.run pins s σ H (fun v H1 => ∃ M1 δ1 d, ER B M1 H1 σ δ1 ∧ Fz B M H M1 H1 ∧ Is (Ex B M1) H1 v d ∧ (match itD d with | some ds => K ds δ1 | none => False)) I ⟨B, M, δ, _, RX, er, ht, fun d δ1 v H1 M1 h1 i1 er1 f1 => ⟨M1, δ1, d, er1, f1, i1, h1⟩, x⟩) fun v s1 ⟨y, H1, I1, r1, M1, δ1, d, er1, f1, i1, h1⟩ => ?_
  cases i1 with
  | tup e n l =>
    cases r1
    obtain ⟨its, rv, p, hz⟩ := I1.tuple (SqT.of (K := X.K) e)
    refine wpAny_pyIter_tuple (show s1.heap.IsTuple _ its.toArray from p) ?_
    refine ⟨s1.heap.objs.size, [s1.heap.objs.size], _, _, H1, rfl, I1.kept (t' := s1.toks) fun b o e => Heap.get?_push_of_some _ e, turn_tuple _ _, ⟨_, Heap.get?_push_size _ rfl, rfl, rfl⟩, fun b hb => ?_, k _ _ _ H1 M1 h1 er1 f1 (dwalk_tup e n l)⟩
    have e : b = s1.heap.objs.size := by simpa using hb
    subst e
    exact I1.fpOk (Nat.le_refl _) (I1.hok.fresh (Nat.le_refl _))
  | lst e n l =>
    cases r1
    obtain ⟨its, rv, p, hz⟩ := I1.list (SqL.of (K := X.K) e)
    refine wpAny_pyIter_list p.isList ?_
    refine ⟨s1.heap.objs.size, [s1.heap.objs.size], _, _, H1, rfl, I1.kept (t' := s1.toks) fun b o e => Heap.get?_push_of_some _ e, turn_list _ _, ⟨_, Heap.get?_push_size _ rfl, rfl, rfl⟩, fun b hb => ?_, k _ _ _ H1 M1 h1 er1 f1 (dwalk_list e n l)⟩
    have e : b = s1.heap.objs.size := by simpa using hb
    subst e
    exact I1.fpOk (Nat.le_refl _) (I1.hok.fresh (Nat.le_refl _))
  | str z hz =>
    obtain ⟨t, rfl⟩ := r1
    have q := k _ _ (Its z) H1 M1 h1 er1 f1 (dwalk_str hz)
    cases ha : z.cps.all (· < 128)
    · exact wpAny_pyIter_wide ha (pi_one (tk := s1.toks) I1 _ (turn_str _ z t "str_iterator" (.inr rfl)) ⟨_, Heap.get?_push_size _ rfl, rfl, rfl⟩ q)
    · exact wpAny_pyIter_ascii ha (pi_one (tk := s1.toks) I1 _ (turn_str _ z t "str_ascii_iterator" (.inl rfl)) ⟨_, Heap.get?_push_size _ rfl, rfl, rfl⟩ q)
  | non => exact h1.elim
  | bl b => exact h1.elim
  | int j => exact h1.elim
  | dic e n l => exact h1.elim
  | ins e n l => exact h1.elim
  | cls a => exact h1.elim
  | exn0 a C => exact h1.elim
  | exn1 e n l => exact h1.elim
/-- range -/
def rngD (lo : Int) (n : Nat) : List D := (List.range n).map fun i => .int (lo + (i : Nat))
theorem rngD_len (lo : Int) (n : Nat) : (rngD lo n).length = n := by unfold rngD; rw [List.length_map, List.length_range]
theorem dwalk_rng {B M : Fp} {H : Hp} {lo : Int} {n : Nat} : DWalk B M H (Itr lo n) (rngD lo n) := by
  refine ⟨fun _ => True, fun _ _ _ => trivial, fun i H2 hi _ => by rw [rngD_len] at hi; exact hi, fun H2 _ => by rw [rngD_len]; exact Nat.le_refl _, fun i H2 M2 x H3 hi f _ y => ?_⟩
  obtain ⟨rfl, rfl⟩ := y
  rw [rngD_len] at hi
  refine ⟨Same.refl _, .int (lo + (i : Nat)), ?_, .int _⟩
  unfold rngD
  rw [List.getElem?_map, List.getElem?_range hi]
  rfl
def ciRng1 (t : CA) : CA := fun δ R RX => t δ (fun ds δ1 => match ds with
  | [.int j] => -(2 ^ 62) ≤ j ∧ j < 2 ^ 62 ∧ R (rngD 0 j.toNat) δ1
  | _ => False) RX
def ciRng2 (t : CA) : CA := fun δ R RX => t δ (fun ds δ1 => match ds with
  | [.int i, .int j] => (-(2 ^ 62) ≤ i ∧ i < 2 ^ 62 ∧ -(2 ^ 62) ≤ j ∧ j < 2 ^ 62) ∧ R (rngD i (j - i).toNat) δ1
  | _ => False) RX
theorem pid_rng1 {a : Expr} {p : Pos} (hg : Gl X "range") (hm : X.mg "range" = none) (ha : PAD X W [a] t) (hs : starEach [a] X.env = [(false, eval a X.env)] := by rfl) : PID X W tg (.Call (.Name "range" p) [a] [] pos) (ciRng1 t) := PI.imp (pi_range1 hg hm ha hs) fun σ H R ⟨B, M, δ, K, RX, er, ht, k, x⟩ => by
  refine ⟨B, M, δ, _, RX, er, ht, fun ds δ1 vs H1 M1 h1 i1 er1 f1 => ?_, x⟩
  split at h1
  · cases i1 with
    | cons ia ir =>
      cases ia
      cases ir
      exact ⟨_, rfl, h1.1, h1.2.1, k _ _ _ H1 M1 h1.2.2 er1 f1 dwalk_rng⟩
  · exact h1.elim
theorem pid_rng2 {a b : Expr} {p : Pos} (hg : Gl X "range") (hm : X.mg "range" = none) (ha : PAD X W [a, b] t) (hs : starEach [a, b] X.env = [(false, eval a X.env), (false, eval b X.env)] := by rfl) (hs2 : starEach [b] X.env = [(false, eval b X.env)] := by rfl) : PID X W tg (.Call (.Name "range" p) [a, b] [] pos) (ciRng2 t) := PI.imp (pi_range2 hg hm ha hs hs2) fun σ H R ⟨B, M, δ, K, RX, er, ht, k, x⟩ => by
  refine ⟨B, M, δ, _, RX, er, ht, fun ds δ1 vs H1 M1 h1 i1 er1 f1 => ?_, x⟩
  split at h1
  · cases i1 with
    | cons ia ir =>
      cases ia
      cases ir with
      | cons ib ir =>
        cases ib
        cases ir
        exact ⟨_, _, rfl, h1.1, k _ _ _ H1 M1 h1.2 er1 f1 dwalk_rng⟩
  · exact h1.elim
/-! ### for -/
def cForL (g : CG) (tb : CS) (C : CEnds) : List D → DEnv → Prop
  | [], δ => C.nx δ
  | d :: ds, δ => g d δ fun δ1 => tb δ1 ⟨cForL g tb C ds, C.rt, C.nx, cForL g tb C ds, C.ex⟩
def cFor (ti : CA) (g : CG) (tb : CS) : CS := fun δ C => ti δ (fun ds δ1 => cForL g tb C ds δ1) C.ex
theorem lift_for {ti : CA} {tb : CS} {N : Ends} {σ : L2.St} {H : Hp} (h : liftS W (cFor ti g tb) N σ H) : tFor (liftI W ti) (liftG g) (liftS W tb) N σ H := by
  obtain ⟨B, M, δ, C, er, ht, k⟩ := h
  refine ⟨B, M, δ, _, C.ex, er, ht, fun ds δ1 J H1 M1 h1 er1 f1 w => ?_, k.xok σ⟩
  obtain ⟨G, g0, g1, g2, g3⟩ := w.ex
  refine ⟨fun i m σ2 H2 => m = ds.length - i ∧ i ≤ ds.length ∧ ∃ M2 δ2, ER B M2 H2 σ2 δ2 ∧ Fz B M1 H1 M2 H2 ∧ cForL g tb C (ds.drop i) δ2, ⟨_, rfl, Nat.zero_le _, M1, δ1, er1, Fz.refl _ _, h1⟩, ?_⟩
  rintro i m σ2 H2 ⟨rfl, hi, M2, δ2, er2, f2, h2⟩
  by_cases hlt : i < ds.length
  · refine .inr ⟨g1 i H2 hlt (g0 H2 _ (Kz.fz f2)), _, fun σ' H' z => ⟨ds.length - (i + 1), by omega, z⟩, fun x H3 y => ?_⟩
    obtain ⟨s3, d, ed, hd⟩ := g3 i H2 _ x H3 hlt (Kz.fz f2) (fun b hb => er2.edom hb) y
    have e : ds.drop i = d :: ds.drop (i + 1) := by
      rw [List.drop_eq_getElem_cons hlt]
      rw [List.getElem?_eq_getElem hlt] at ed
      cases ed
      rfl
    rw [e] at h2
    have f3 : Fz B M1 H1 M2 H3 := f2.trans (Fz.same s3)
    refine ⟨B, M2, δ2, d, _, er2.same s3, hd, h2, fun δ4 σ4 H4 M4 h4 er4 f4 => ?_⟩
    have f14 := f3.trans f4
    refine ⟨B, M4, δ4, _, er4, h4, ⟨fun δ5 σ5 H5 M5 h5 er5 f5 => ?_, fun d5 δ5 v5 σ5 H5 M5 h5 i5 er5 f5 => k.rt d5 δ5 v5 σ5 H5 M5 h5 i5 er5 (f1.trans (f14.trans f5)), fun δ5 σ5 H5 M5 h5 er5 f5 => k.nx δ5 σ5 H5 M5 h5 er5 (f1.trans (f14.trans f5)), fun δ5 σ5 H5 M5 h5 er5 f5 => ?_,
      fun c fs δ5 σ5 o H5 M5 h5 i5 er5 f5 => k.ex c fs δ5 σ5 o H5 M5 h5 i5 er5 (f1.trans (f14.trans f5))⟩⟩
    · exact ⟨rfl, hlt, M5, δ5, er5, f14.trans f5, h5⟩
    · exact ⟨rfl, hlt, M5, δ5, er5, f14.trans f5, h5⟩
  · have e : i = ds.length := by omega
    subst e
    rw [List.drop_length] at h2
    exact .inl ⟨g2 H2 (g0 H2 _ (Kz.fz f2)), k.nx δ2 σ2 H2 M2 h2 er2 (f1.trans f2)⟩
theorem psd_for {ti : CA} {tb : CS} {st : Stmt} (h : ∀ wi g' t', PI X tg iter wi → PG X tg g' → PSs X sts t' → PS X st (tFor wi g' t')) (hi : PID X W tg iter ti) (hg : PGD X tg g) (hb : PSsD X W sts tb) : PSD X W st (cFor ti g tb) := PS.imp (h _ _ _ hi hg hb) fun _ _ _ h => lift_for h
/-! ### while -/
def cWhile (c : CT) (tb : CS) : CS := fun δ C => ∃ I : Nat → DEnv → Prop, (∃ m, I m δ) ∧ ∀ m δ, I m δ → c δ (fun b δ1 => if b = true then tb δ1 ⟨fun δ2 => ∃ m', m' < m ∧ I m' δ2, C.rt, C.nx, fun δ2 => ∃ m', m' < m ∧ I m' δ2, C.ex⟩ else C.nx δ1) C.ex
theorem psd_while {c : Expr} {tc : CT} {tb : CS} (hp : PassesOwn (model X.prog X.w) X.A X.env X.xe) (hc : PTD X W c tc) (hb : PSsD X W sts tb) : PSD X W (.While c sts [] pos) (cWhile tc tb) := PS.imp (ps_while hp hc hb) fun N σ H ⟨B, M, δ, C, er, ht, k⟩ => by
  obtain ⟨I, ⟨m0, i0⟩, ht⟩ := ht
  refine ⟨fun m σ2 H2 => ∃ M2 δ2, ER B M2 H2 σ2 δ2 ∧ Fz B M H M2 H2 ∧ I m δ2, ⟨m0, M, δ, er, Fz.refl _ _, i0⟩, ?_⟩
  rintro m σ2 H2 ⟨M2, δ2, er2, f2, h2⟩
  refine ⟨B, M2, δ2, _, C.ex, er2, ht m δ2 h2, fun b δ3 H3 M3 h3 er3 f3 => ?_, (k.fr f2).xok σ2⟩
  have f13 := f2.trans f3
  cases b with
  | false => exact iteF (k.nx δ3 σ2 H3 M3 h3 er3 f13)
  | true =>
    refine iteT ⟨fun σ' H' => ∃ m', m' < m ∧ ∃ M2 δ2, ER B M2 H' σ' δ2 ∧ Fz B M H M2 H' ∧ I m' δ2, fun _ _ z => z, ?_⟩
    refine ⟨B, M3, δ3, _, er3, h3, ⟨fun δ5 σ5 H5 M5 ⟨m', hm, h5⟩ er5 f5 => ⟨m', hm, M5, δ5, er5, f13.trans f5, h5⟩, fun d5 δ5 v5 σ5 H5 M5 h5 i5 er5 f5 => k.rt d5 δ5 v5 σ5 H5 M5 h5 i5 er5 (f13.trans f5), fun δ5 σ5 H5 M5 h5 er5 f5 => k.nx δ5 σ5 H5 M5 h5 er5 (f13.trans f5),
      fun δ5 σ5 H5 M5 ⟨m', hm, h5⟩ er5 f5 => ⟨m', hm, M5, δ5, er5, f13.trans f5, h5⟩, fun c fs δ5 σ5 o H5 M5 h5 i5 er5 f5 => k.ex c fs δ5 σ5 o H5 M5 h5 i5 er5 (f13.trans f5)⟩⟩
end
end Xl


namespace Xl
open PySem PySem.Spec PyProof.Rows L2
def wipeD (δ : DEnv) : List Nat → DEnv
  | [] => δ
  | v :: vs => (wipeD δ vs).set v .emp
def shOnly : Option Sl → Sl
  | some (.sh d) => .sh d
  | _ => .emp
def rstD (δ1 δ2 : DEnv) : List Nat → DEnv
  | [] => δ2
  | v :: vs => (rstD δ1 δ2 vs).set v (shOnly δ1[v]?)
theorem wipeD_len (δ : DEnv) : ∀ vs, (wipeD δ vs).length = δ.length
  | [] => rfl
  | v :: vs => by unfold wipeD; rw [List.length_set, wipeD_len δ vs]
section
variable {B M : Fp} {H : Hp} {σ : L2.St} {δ : DEnv} {i : Nat} {p : Addr}
theorem Fr.less {M M' : Fp} {H : Hp} (h : ∀ b, M' b → M b) : Fr M H M' H := ⟨fun _ _ e _ => e, fun b z => .inl (h b z), fun _ e => e⟩
theorem ER.drop' (h : ER B M H σ δ) {o : Option V} (i : Nat) : ∃ M', ER B M' H (σ.set i o) (δ.set i .emp) ∧ Fr M H M' H := by
  by_cases hi : i < δ.length
  · exact h.drop hi
  · rw [List.set_eq_of_length_le (by rw [h.len]; omega), List.set_eq_of_length_le (by omega)]
    exact ⟨M, h, Fr.refl _ _⟩
theorem ER.wip (h : ER B M H σ δ) : ∀ vs : List Nat, ∃ M', ER B M' H (wipe σ vs) (wipeD δ vs) ∧ Fr M H M' H
  | [] => ⟨M, h, Fr.refl _ _⟩
  | v :: vs => by
    obtain ⟨M1, h1, f1⟩ := h.wip vs
    obtain ⟨M2, h2, f2⟩ := h1.drop' (o := none) v
    exact ⟨M2, h2, f1.trans f2⟩
theorem wipe_at (σ : L2.St) {j : Nat} : ∀ {vs : List Nat}, j ∉ vs → (wipe σ vs)[j]? = σ[j]?
  | [], _ => rfl
  | v :: vs, h => by
    unfold wipe
    rw [List.getElem?_set, if_neg (fun (e : v = j) => h (e ▸ List.mem_cons_self ..)), wipe_at σ fun z => h (List.mem_cons_of_mem _ z)]
theorem wipe_set (σ : L2.St) {j : Nat} {o : Option V} : ∀ {vs : List Nat}, j ∈ vs → wipe (σ.set j o) vs = wipe σ vs
  | v :: vs, h => by
    unfold wipe
    by_cases hj : j ∈ vs
    · rw [wipe_set σ hj]
    · have e : v = j := by
        rcases List.mem_cons.mp h with q | q
        · exact q.symm
        · exact absurd q hj
      subst e
      apply List.ext_getElem?
      intro k
      rw [List.getElem?_set, List.getElem?_set, wipe_length, wipe_length, List.length_set]
      by_cases hk : v = k
      · rw [if_pos hk, if_pos hk]
      · rw [if_neg hk, if_neg hk]
        have same : ∀ vs : List Nat, (wipe (σ.set v o) vs)[k]? = (wipe σ vs)[k]? := by
          intro vs
          induction vs with
          | nil =>
            show (σ.set v o)[k]? = σ[k]?
            rw [List.getElem?_set, if_neg hk]
          | cons w ws ih =>
            unfold wipe
            rw [List.getElem?_set, List.getElem?_set, ih, wipe_length, wipe_length, List.length_set]
        exact same vs
theorem wipe_in (σ : L2.St) {j : Nat} : ∀ {vs : List Nat}, j ∈ vs → (wipe σ vs)[j]? = if j < σ.length then some none else none
  | v :: vs, h => by
    unfold wipe
    rw [List.getElem?_set, wipe_length]
    by_cases hj : v = j
    · subst hj; rw [if_pos rfl]
    · rw [if_neg hj]
      exact wipe_in σ ((List.mem_cons.mp h).resolve_left fun e => hj e.symm)
theorem wipe_wipe (σ : L2.St) (vs : List Nat) : wipe (wipe σ vs) vs = wipe σ vs := by
  apply List.ext_getElem?
  intro j
  by_cases hj : j ∈ vs
  · rw [wipe_in _ hj, wipe_in _ hj, wipe_length]
  · rw [wipe_at _ hj]
/-- the slots of a comprehension are as they were -/
theorem ER.back {δ1 : DEnv} : ∀ {vs : List Nat} {M : Fp} {δ2 : DEnv}, (∀ (v : Nat) (d : D), δ1[v]? = some (Sl.sh d) → ∃ u, σ[v]? = some (some u) ∧ Is (Ex B M) H u d) → vs.Nodup → ER B M H (wipe σ vs) δ2 → ∃ M', ER B M' H σ (rstD δ1 δ2 vs) ∧ Fr M H M' H
  | [], M, δ2, _, _, h => ⟨M, h, Fr.refl _ _⟩
  | v :: vs, M, δ2, h1, hn, h => by
    have hv : v ∉ vs := (List.nodup_cons.mp hn).1
    -- by the head
    have hset : ∀ (τ : L2.St), ((τ.set v none).set v ((τ[v]?).getD none)) = τ := fun τ => by
      apply List.ext_getElem?
      intro k
      rw [List.getElem?_set, List.getElem?_set, List.length_set]
      by_cases hk : v = k
      · subst hk
        rw [if_pos rfl]
        by_cases hl : v < τ.length
        · rw [if_pos hl, List.getElem?_eq_getElem hl]; rfl
        · rw [if_neg hl, List.getElem?_eq_none (by omega)]
      · rw [if_neg hk, if_neg hk]
    have go : ∃ M1, ER B M1 H (wipe σ vs) (δ2.set v (shOnly δ1[v]?)) ∧ Fr M H M1 H := by
      unfold shOnly
      split
      · next d e =>
        obtain ⟨u, eu, hu⟩ := h1 v d e
        have eq : (wipe σ vs)[v]? = some (some u) := by rw [wipe_at σ hv]; exact eu
        by_cases hl : v < δ2.length
        · obtain ⟨M1, er, f⟩ := h.set (i := v) hl hu
          have e2 := hset (wipe σ vs)
          rw [eq] at e2
          rw [show ((some (some u) : Option (Option V)).getD none) = some u from rfl] at e2
          refine ⟨M1, ?_, f⟩
          have : (wipe σ (v :: vs)).set v (some u) = wipe σ vs := e2
          rw [← this]
          exact er
        · exfalso
          have := h.len
          rw [wipe_length] at this
          have hs : v < σ.length := (List.getElem?_eq_some_iff.mp eu).1
          omega
      · obtain ⟨M1, er, f⟩ := h.drop' (o := ((wipe σ vs)[v]?).getD none) v
        have e2 : (wipe σ (v :: vs)).set v (((wipe σ vs)[v]?).getD none) = wipe σ vs := hset (wipe σ vs)
        rw [e2] at er
        exact ⟨M1, er, f⟩
    obtain ⟨M1, er, f⟩ := go
    have h1' : ∀ (v : Nat) (d : D), δ1[v]? = some (Sl.sh d) → ∃ u, σ[v]? = some (some u) ∧ Is (Ex B M1) H u d := fun v d e => by
      obtain ⟨u, eu, hu⟩ := h1 v d e
      exact ⟨u, eu, hu.keep (Keep.fr f.fz)⟩
    obtain ⟨M2, er2, f2⟩ := ER.back h1' (List.nodup_cons.mp hn).2 er
    refine ⟨M2, ?_, f.trans f2⟩
    have comm : ∀ ws : List Nat, v ∉ ws → rstD δ1 (δ2.set v (shOnly δ1[v]?)) ws = (rstD δ1 δ2 ws).set v (shOnly δ1[v]?) := by
      intro ws
      induction ws with
      | nil => intro _; rfl
      | cons x xs ih =>
        intro hx
        unfold rstD
        rw [ih fun z => hx (List.mem_cons_of_mem _ z), List.set_comm _ _ fun e => hx (by rw [e]; exact List.mem_cons_self ..)]
    unfold rstD
    rw [← comm vs hv]
    exact er2
end
/-! ### targets within -/
def liftGV (vs : List Nat) (g : CG) : TG := fun v σ H Q => ∃ B M δ d R, ER B M H σ δ ∧ Is (Ex B M) H v d ∧ g d δ R ∧ ∀ δ' σ' H' M', R δ' → ER B M' H' σ' δ' → Fz B M H M' H' → wipe σ' vs = wipe σ vs → Q σ' H'
def liftGVs (vs : List Nat) (g : CGs) : TGs := fun us σ H Q => ∃ B M δ ds R, ER B M H σ δ ∧ IsL (Ex B M) H us ds ∧ g ds δ R ∧ ∀ δ' σ' H' M', R δ' → ER B M' H' σ' δ' → Fz B M H M' H' → wipe σ' vs = wipe σ vs → Q σ' H'
abbrev PGV (X : Cx) (vs : List Nat) (e : Expr) (g : CG) : Prop := PG X e (liftGV vs g)
abbrev PGVs (X : Cx) (vs : List Nat) (e : List Expr) (g : CGs) : Prop := PGs X e (liftGVs vs g)
section
variable {X : Cx} {W : WX} {e tg iter : Expr} {es : List Expr} {pos : Pos} {i : Nat} {g : CG} {gs : CGs} {ta : CE} {t : CA} {vs : List Nat}
theorem pgv_n (h : PG X e (gName i)) (hi : i ∈ vs := by decide) : PGV X vs e (cgN i) := PG.imp h fun v σ H Q ⟨B, M, δ, d, R, er, hv, ht, k⟩ => by
  obtain ⟨M', er', f⟩ := er.set ht.1 hv
  exact k _ _ H M' ht.2 er' f.fz (wipe_set σ hi)
theorem pgv_nil : PGVs X vs [] cgNil := PGs.imp pgs_nil fun us σ H Q ⟨B, M, δ, ds, R, er, hv, ht, k⟩ => by
  cases hv with
  | nil => exact ⟨rfl, k δ σ H M ht er (Fz.refl _ _) rfl⟩
  | cons _ _ => exact ht.elim
theorem pgv_cons (h1 : PGV X vs e g) (h2 : PGVs X vs es gs) (hs : (assignEach (e :: es) X.env).map (·.2) = assign e X.env :: (assignEach es X.env).map (·.2) := by rfl) : PGVs X vs (e :: es) (cgCons g gs) := PGs.imp (pgs_cons h1 h2 hs) fun us σ H Q ⟨B, M, δ, ds, R, er, hv, ht, k⟩ => by
  cases hv with
  | nil => exact ht.elim
  | cons h t =>
    refine ⟨_, _, rfl, B, M, δ, _, _, er, h, ht, fun δ1 σ1 H1 M1 h1 er1 f1 w1 => ?_⟩
    exact ⟨B, M1, δ1, _, R, er1, t.keep (Keep.fr f1), h1, fun δ2 σ2 H2 M2 h2 er2 f2 w2 => k δ2 σ2 H2 M2 h2 er2 (f1.trans f2) (w2.trans w1)⟩
theorem pgv_t {n : Nat} {kk : Nat} (hc : X.calm = true) (h : PGVs X vs es gs) (hn : (assignEach es X.env).length = n := by rfl) (hst : (assignEach es X.env).findIdx? (·.1) = none := by rfl) : PGV X vs (.Tuple es kk pos) (cgT n gs) := PG.imp (pg_tup hc h hn hst) fun v σ H Q ⟨B, M, δ, d, R, er, hv, ht, k⟩ => by
  unfold cgT at ht
  split at ht
  · cases hv with
    | tup e n' l => exact ⟨_, _, rfl, SqT.of e, by rw [l.length]; exact ht.1, B, M, δ, _, R, er, l, ht.2, k⟩
  · exact ht.elim
/-! ### comprehensions -/
abbrev FX : KX := fun _ _ _ => False
def cYes : CT := fun δ R _ => R true δ
def cLcL (g : CG) (tt : CT) (te : CE) (vs : List Nat) (k : List D → DEnv → Prop) : List D → DEnv → List D → Prop
  | [], δ, acc => k acc δ
  | d :: ds, δ, acc => g d δ fun δ1 => tt δ1 (fun b δ2 => if b = true then te δ2 (fun y δ3 => acc.length < sizeLine ∧ cLcL g tt te vs k ds (wipeD δ3 vs) (acc ++ [y])) FX else cLcL g tt te vs k ds (wipeD δ2 vs) acc) FX
def cLc (ti : CA) (g : CG) (tt : CT) (te : CE) (vs : List Nat) : CA := fun δ R RX => ti δ (fun ds δ1 => cLcL g tt te vs (fun acc δ2 => R acc (rstD δ1 δ2 vs)) ds (wipeD δ1 vs) []) RX
theorem PTs.imp {ifs : List Expr} {t t' : TT} (h : PTs X ifs t) (i : ∀ σ H Q, t' σ H Q → t σ H Q) : PTs X ifs t' := ⟨fun pins s σ H Q I q => h.run pins s σ H Q I (i σ H Q q)⟩
theorem ptsd_nil : PTs X [] (liftT W cYes) := PTs.imp pts_nil fun σ H Q ⟨B, M, δ, R, RX, er, ht, k, x⟩ => k true δ H M ht er (Fz.refl _ _)
theorem ptsd_one {c : Expr} {tc : CT} (h : PTD X W c tc) : PTs X [c] (liftT W tc) := pts_one h
theorem xok0 {B M : Fp} {H : Hp} {σ : L2.St} {W : WX} : XOk W B M H σ FX := fun _ _ _ _ _ _ h => h.elim
theorem kz_new {B M M2 : Fp} {H H2 : Hp} {p : Addr} (hp : H p = none) (f : Fz B M H M2 H2) : Kz (Ex B M) H (Ex (Bp B p) M2) H2 := fun b o e n => by
  obtain ⟨h1, h2⟩ := Kz.fz (B := B) f b o e n
  exact ⟨fun z => z.elim (fun q => q.elim (fun r => h1 (.inl r)) fun r => ne_of_none e hp r) fun q => h1 (.inr q), h2⟩
/-- a comprehension's turns, whatever is walked -/
theorem lc_in {B M1 : Fp} {H1 : Hp} {σ : L2.St} {δ1 : DEnv} {J : It} {ds : List D} {tt : CT} {te : CE} {R : List D → DEnv → Prop} {Q : VK} (hn : vs.Nodup) (er1 : ER B M1 H1 σ δ1) (w : DWalk B M1 H1 J ds) (h1 : cLcL g tt te vs (fun acc δ2 => R acc (rstD δ1 δ2 vs)) ds (wipeD δ1 vs) [])
    (k : ∀ acc δ' p us H' M', R acc δ' → ER (Bp B p) M' H' σ δ' → Fz B M1 H1 M' H' → H1 p = none → H' p = some (.lst us) → IsL (Ex (Bp B p) M') H' us acc → Q (.ref p) H') :
    ∀ L, H1 L = none → ∃ Wd : Nat → Nat → Hp → Prop, (∃ m, Wd 0 m (upd H1 L (.lst []))) ∧ ∀ i m H, Wd i m H →
      (J.stop i H ∧ Q (.ref L) H) ∨ (J.go i H ∧ ∃ Nx : Hp → Prop, (∀ H', Nx H' → ∃ m', m' < m ∧ Wd (i + 1) m' H') ∧ ∀ x H', J.yld i H x H' → liftGV vs g x (wipe σ vs) H' fun σ2 H2 => wipe σ2 vs = wipe σ vs ∧ liftT W0 tt σ2 H2 fun b H3 =>
        if b = true then liftE W0 te σ2 H3 fun y H4 => ∃ acc, H4 L = some (.lst acc) ∧ acc.length < sizeLine ∧ Nx (upd H4 L (.lst (acc ++ [y]))) else Nx H3) := by
  intro L hL
  obtain ⟨G, g0, g1, g2, g3⟩ := w.ex
  have nw : New H1 L (.lst []) (upd H1 L (.lst [])) := new_of hL
  obtain ⟨M1', er1', f1'⟩ := (er1.foreign nw).wip vs
  have keepB : ∀ {M2 : Fp} {H2 : Hp}, Fz B M1 H1 M2 H2 → Fz B M1 H1 M2 H2 := fun f => f
  have f10 : Fz B M1 H1 M1' (upd H1 L (.lst [])) := (Fz.same nw.same).trans f1'.fz
  refine ⟨fun i m H2 => m = ds.length - i ∧ i ≤ ds.length ∧ ∃ M2 δ2 acc accd, ER (Bp B L) M2 H2 (wipe σ vs) δ2 ∧ Fz B M1 H1 M2 H2 ∧ H2 L = some (.lst acc) ∧ IsL (Ex (Bp B L) M2) H2 acc accd ∧ cLcL g tt te vs (fun acc δ2 => R acc (rstD δ1 δ2 vs)) (ds.drop i) δ2 accd,
    ⟨_, rfl, Nat.zero_le _, M1', _, [], [], er1', f10, nw.at, .nil, h1⟩, ?_⟩
  rintro i m H2 ⟨rfl, hi, M2, δ2, acc, accd, er2, f2, hL2, hacc, h2⟩
  by_cases hlt : i < ds.length
  · refine .inr ⟨g1 i H2 hlt (g0 H2 _ (Kz.fz f2)), _, fun H' z => ⟨ds.length - (i + 1), by omega, z⟩, fun x3 H3 y => ?_⟩
    obtain ⟨s3, d, ed, hd⟩ := g3 i H2 (Ex (Bp B L) M2) x3 H3 hlt (kz_new hL f2) (fun b hb => er2.edom hb) y
    have e : ds.drop i = d :: ds.drop (i + 1) := by
      rw [List.drop_eq_getElem_cons hlt]
      rw [List.getElem?_eq_getElem hlt] at ed
      cases ed
      rfl
    rw [e] at h2
    have hL3 : H3 L = some (.lst acc) := s3 _ _ hL2
    have er3 := er2.same s3
    have acc3 := hacc.keep (Keep.same s3)
    have nM : ∀ {M' : Fp} {H' : Hp} {σ' : L2.St} {δ' : DEnv}, ER (Bp B L) M' H' σ' δ' → ¬ M' L := fun z => z.nB
    -- from H3 on the list stands
    have stay : ∀ {M4 : Fp} {H4 : Hp}, Fz (Bp B L) M2 H3 M4 H4 → H4 L = some (.lst acc) := fun f => by
      rcases f.keep L _ hL3 (nM er3) with z | ⟨z, _⟩
      · exact z
      · exact absurd (.inr rfl) z
    have low : ∀ {Ma Mb : Fp} {Ha Hb : Hp}, Fz (Bp B L) Ma Ha Mb Hb → Fz B Ma Ha Mb Hb := fun f => f.fgn fun b z => .inl z
    refine ⟨Bp B L, M2, δ2, d, _, er3, hd, h2, fun δ4 σ4 H4 M4 h4 er4 f4 w4 => ⟨by rw [w4]; exact wipe_wipe σ vs, ?_⟩⟩
    refine ⟨Bp B L, M4, δ4, _, FX, er4, h4, fun b δ5 H5 M5 h5 er5 f5 => ?_, xok0⟩
    have f45 := f4.trans f5
    have f15 : Fz B M1 H1 M5 H5 := (f2.trans (Fz.same s3)).trans (low f45)
    have w4' : wipe σ4 vs = wipe σ vs := by rw [w4]; exact wipe_wipe σ vs
    cases b with
    | false =>
      obtain ⟨M6, er6, f6⟩ := er5.wip vs
      rw [w4'] at er6
      have acc6 := acc3.keep (Keep.fr (B := Bp B L) (f45.trans f6.fz))
      exact iteF ⟨rfl, hlt, M6, _, acc, accd, er6, f15.trans f6.fz, stay f45, acc6, h5⟩
    | true =>
      refine iteT ⟨Bp B L, M5, δ5, _, FX, er5, h5, fun y' δ6 v6 H6 M6 h6 i6 er6 f6 => ?_, xok0⟩
      have f46 := f45.trans f6
      have f16 := f15.trans (low f6)
      have hL6 := stay f46
      have acc6 := acc3.keep (Keep.fr (B := Bp B L) f46)
      refine ⟨acc, hL6, by rw [hacc.length]; exact h6.1, ?_⟩
      have kk : Keep (Ex (Bp B L) M6) H6 (Ex (Bp B L) M6) (upd H6 L (.lst (acc ++ [v6]))) := fun b o eb nb => ⟨nb, .inl (by rw [upd_ne fun (z : b = L) => nb (.inl (.inr z))]; exact eb)⟩
      have er7 : ER (Bp B L) M6 (upd H6 L (.lst (acc ++ [v6]))) σ4 δ6 := er6.to kk (fun b u hb eb => by rw [upd_ne fun (z : b = L) => nM er6 (z ▸ hb)]; exact eb) (fun b o eb => by
        by_cases hb : b = L
        · exact ⟨_, by rw [hb]; exact upd_same⟩
        · exact ⟨o, by rw [upd_ne hb]; exact eb⟩)
      obtain ⟨M7, er8, f7⟩ := er7.wip vs
      rw [w4'] at er8
      have f17 : Fz B M1 H1 M6 (upd H6 L (.lst (acc ++ [v6]))) := ⟨fun b o eb nb => by rw [upd_ne (ne_of_none eb hL)]; exact f16.keep b o eb nb, f16.grow, fun b z => f16.free b (upd_free z)⟩
      exact ⟨rfl, hlt, M7, _, _, _, er8, f17.trans f7.fz, upd_same, ((acc6.app (.cons i6 .nil)).keep kk).keep (Keep.fr f7.fz), h6.2⟩
  · have e : i = ds.length := by omega
    subst e
    rw [List.drop_length] at h2
    refine .inl ⟨g2 H2 (g0 H2 _ (Kz.fz f2)), ?_⟩
    have old : ∀ (v : Nat) (d : D), δ1[v]? = some (Sl.sh d) → ∃ u, σ[v]? = some (some u) ∧ Is (Ex (Bp B L) M2) H2 u d := fun v d ev => by
      obtain ⟨u, eu, hu⟩ := er1.sh ev
      exact ⟨u, eu, hu.keep (kz_new hL f2).keep⟩
    obtain ⟨M3, er3, f3⟩ := ER.back (δ1 := δ1) old hn er2
    exact k accd _ L acc H2 M3 h2 er3 (f2.trans f3.fz) hL hL2 (hacc.keep (Keep.fr f3.fz))
theorem lift_lc {ti : CA} {tt : CT} {te : CE} {σ : L2.St} {H : Hp} {Q : VK} (hn : vs.Nodup) (h : liftF W (cLc ti g tt te vs) σ H Q) : tLc (liftI W ti) (liftGV vs g) (liftT W0 tt) (liftE W0 te) vs σ H Q := by
  obtain ⟨B, M, δ, R, RX, er, ht, k, x⟩ := h
  refine ⟨B, M, δ, _, RX, er, ht, fun ds δ1 J H1 M1 h1 er1 f1 w => ?_, x⟩
  exact lc_in hn er1 w h1 fun acc δ' p us H' M' r1 r2 r3 r4 r5 r6 => k acc δ' p us H' M' r1 r2 (f1.trans r3) (f1.free p r4) r5 r6
end
end Xl


namespace Xl
open PySem PySem.Spec PyProof.Rows L2
/-! ### plain data and its equality, to a depth -/
def lowD : Nat → D → Bool
  | 0, _ => false
  | _ + 1, .non => true
  | _ + 1, .bl _ => true
  | _ + 1, .int _ => true
  | _ + 1, .str _ => true
  | n + 1, .tup ds => ds.all (lowD n)
  | n + 1, .lst ds => ds.all (lowD n)
  | _ + 1, _ => false
def eqL (f : D → D → Bool) : List D → List D → Bool
  | [], [] => true
  | x :: xs, y :: ys => f x y && eqL f xs ys
  | _, _ => false
def eqN : Nat → D → D → Bool
  | 0, _, _ => false
  | _ + 1, .non, .non => true
  | _ + 1, .bl a, .bl b => a == b
  | _ + 1, .bl a, .int b => (if a then 1 else 0) == b
  | _ + 1, .int a, .bl b => a == (if b then 1 else 0)
  | _ + 1, .int a, .int b => a == b
  | _ + 1, .str a, .str b => a == b
  | n + 1, .tup a, .tup b => eqL (eqN n) a b
  | n + 1, .lst a, .lst b => eqL (eqN n) a b
  | _ + 1, _, _ => false
def toPy : Nat → D → PyData
  | 0, _ => .none
  | _ + 1, .bl b => .bool b
  | _ + 1, .int i => .int i
  | _ + 1, .str s => .str s
  | n + 1, .tup ds => .tuple (ds.map (toPy n))
  | n + 1, .lst ds => .list (ds.map (toPy n))
  | _ + 1, _ => .none
theorem eqv_L {n : Nat} (ih : ∀ d e, lowD n d = true → lowD n e = true → PyData.eqv (toPy n d) (toPy n e) = eqN n d e) : ∀ xs ys : List D, xs.all (lowD n) = true → ys.all (lowD n) = true → PyData.eqvAll (xs.map (toPy n)) (ys.map (toPy n)) = eqL (eqN n) xs ys
  | [], [], _, _ => by simp [PyData.eqvAll, eqL]
  | [], y :: ys, _, _ => by simp [PyData.eqvAll, eqL]
  | x :: xs, [], _, _ => by simp [PyData.eqvAll, eqL]
  | x :: xs, y :: ys, h1, h2 => by
    rw [List.all_cons, Bool.and_eq_true] at h1 h2
    simp only [List.map_cons, PyData.eqvAll, eqL]
    rw [ih x y h1.1 h2.1, eqv_L ih xs ys h1.2 h2.2]
theorem eqv_N : ∀ (n : Nat) (d e : D), lowD n d = true → lowD n e = true → PyData.eqv (toPy n d) (toPy n e) = eqN n d e
  | 0, d, e, h, _ => by cases h
  | n + 1, d, e, h1, h2 => by
    cases d <;> cases e <;> first | (simp only [lowD, Bool.false_eq_true] at h1; done) | (simp only [lowD, Bool.false_eq_true] at h2; done) | skip
    all_goals simp only [toPy, PyData.eqv, eqN]
    all_goals exact eqv_L (eqv_N n) _ _ h1 h2
theorem lay_N : ∀ (n : Nat) (A : Fp) (H : Hp) (v : V) (d : D), lowD n d = true → Is A H v d → Lay n (toPy n d)
  | 0, _, _, _, _, h, _ => by cases h
  | n + 1, A, H, v, d, h, i => by
    cases i with
    | non => exact ⟨by simp [toPy, PyData.canLay0], by simp [toPy, PyData.depth]⟩
    | bl b => exact ⟨by simp [toPy, PyData.canLay0], by simp [toPy, PyData.depth]⟩
    | int j => exact ⟨by simp [toPy, PyData.canLay0], by simp [toPy, PyData.depth]⟩
    | str s hs => exact ⟨by simpa [toPy, PyData.canLay0] using hs, by simp [toPy, PyData.depth]⟩
    | tup e nn l =>
      refine lay_tuple fun x hx => ?_
      obtain ⟨y, hy, rfl⟩ := List.mem_map.mp hx
      obtain ⟨k, hk, ek⟩ := List.mem_iff_getElem.mp hy
      obtain ⟨u, _, hu⟩ := l.get (d := y) (i := k) (by rw [← ek]; exact List.getElem?_eq_getElem hk)
      exact lay_N n A H u y (List.all_eq_true.mp h y hy) hu
    | lst e nn l =>
      refine lay_list fun x hx => ?_
      obtain ⟨y, hy, rfl⟩ := List.mem_map.mp hx
      obtain ⟨k, hk, ek⟩ := List.mem_iff_getElem.mp hy
      obtain ⟨u, _, hu⟩ := l.get (d := y) (i := k) (by rw [← ek]; exact List.getElem?_eq_getElem hk)
      exact lay_N n A H u y (List.all_eq_true.mp h y hy) hu
    | dic e nn l => cases h
    | ins e nn l => cases h
    | cls a => cases h
    | exn0 a C => cases h
    | exn1 e nn l => cases h
theorem dp_L {K : PySem.W.Frag} {A : Fp} {H : Hp} {n : Nat} (ih : ∀ v d, lowD n d = true → Is A H v d → Dp K H v (toPy n d)) : ∀ {vs : List V} {ds : List D}, ds.all (lowD n) = true → IsL A H vs ds → DpAll K H vs (ds.map (toPy n))
  | _, _, _, .nil => .nil
  | _, _, h, .cons i t => by
    rw [List.all_cons, Bool.and_eq_true] at h
    exact .cons (ih _ _ h.1 i) (dp_L ih h.2 t)
theorem dp_N {K : PySem.W.Frag} {A : Fp} {H : Hp} : ∀ (n : Nat) (v : V) (d : D), lowD n d = true → Is A H v d → Dp K H v (toPy n d)
  | 0, _, _, h, _ => by cases h
  | n + 1, v, d, h, i => by
    cases i with
    | non => exact .non
    | bl b => exact .bl b
    | int j => exact .int j
    | str s hs => exact .str s
    | tup e nn l => exact .tup (SqT.of e) (dp_L (dp_N n) h l)
    | lst e nn l => exact .lst (SqL.of e) (dp_L (dp_N n) h l)
    | dic e nn l => cases h
    | ins e nn l => cases h
    | cls a => cases h
    | exn0 a C => cases h
    | exn1 e nn l => cases h
/-! ### what the operators do -/
def rAdd : CR2 := fun a b R => match a, b with
  | .int i, .int j => R (.int (i + j))
  | .str x, .str y => x.length + y.length ≤ sizeLine ∧ R (.str (x ++ y))
  | .tup x, .tup y => x.length + y.length ≤ sizeLine ∧ R (.tup (x ++ y))
  | .lst x, .lst y => x.length + y.length ≤ sizeLine ∧ R (.lst (x ++ y))
  | _, _ => False
def rIII (P : Int → Int → Prop) (f : Int → Int → Int) : CR2 := fun a b R => match a, b with
  | .int i, .int j => P i j ∧ R (.int (f i j))
  | _, _ => False
abbrev rSub : CR2 := rIII (fun _ _ => True) (· - ·)
abbrev rMul : CR2 := rIII (fun i j => ∃ m n, i.natAbs < 2 ^ m ∧ j.natAbs < 2 ^ n ∧ m + n ≤ 100000000) (· * ·)
abbrev rMod : CR2 := rIII (fun _ j => 0 < j) (· % ·)
abbrev rFdv : CR2 := rIII CDivW (· / ·)
abbrev rPow : CR2 := rIII CPow fun i j => i ^ j.toNat
def rOrd (f : Int → Int → Bool) (g : List Nat → List Nat → Bool) : CR2 := fun a b R => match a, b with
  | .int i, .int j => R (.bl (f i j))
  | .str x, .str y => R (.bl (g x.cps.toList y.cps.toList))
  | _, _ => False
abbrev rLt : CR2 := rOrd (fun i j => decide (i < j)) fun x y => decide (x < y)
abbrev rLe : CR2 := rOrd (fun i j => decide (i ≤ j)) fun x y => !decide (y < x)
abbrev rGt : CR2 := rOrd (fun i j => decide (j < i)) fun x y => decide (y < x)
abbrev rGe : CR2 := rOrd (fun i j => decide (j ≤ i)) fun x y => !decide (x < y)
def rEqD' (neg : Bool) : CR2 := fun a b R => lowD 64 a = true ∧ lowD 64 b = true ∧ R (.bl (neg ^^ eqN 64 a b))
def rIsN (neg : Bool) : CR2 := fun a b R => match a, b with
  | .non, .non => R (.bl !neg)
  | _, .non => R (.bl neg)
  | _, _ => False
/-! ### dicts -/
def valD (kvs : List (Key × D)) (k : Key) : Option D := (kvs.find? fun kv => decide (kv.1 = k)).map (·.2)
def putD (kvs : List (Key × D)) (k : Key) (d : D) : List (Key × D) :=
  if (kvs.any fun kv => decide (kv.1 = k)) = true then kvs.map (fun kv => if kv.1 = k then (kv.1, d) else kv) else kvs ++ [(k, d)]
def keyD : D → Option Key
  | .int i => some (.inl i)
  | .str s => some (.inr s)
  | _ => none
theorem keyD_is {A : Fp} {H : Hp} {v : V} {d : D} {k : Key} (h : Is A H v d) (e : keyD d = some k) : v = kV k := by
  cases h <;> cases e <;> rfl
theorem IsK.val {A : Fp} {H : Hp} {k : Key} : ∀ {vs : List (Key × V)} {ds : List (Key × D)}, IsK A H vs ds → (∃ v d, valV vs k = some v ∧ valD ds k = some d ∧ Is A H v d) ∨ (valV vs k = none ∧ valD ds k = none)
  | _, _, .nil => .inr ⟨rfl, rfl⟩
  | _, _, .cons (k := k') _ h t => by
    unfold valV valD
    rw [List.find?_cons, List.find?_cons]
    by_cases e : k' = k
    · simp only [decide_eq_true e]
      exact .inl ⟨_, _, rfl, rfl, h⟩
    · simp only [decide_eq_false e]
      exact t.val
theorem IsK.length {A : Fp} {H : Hp} : ∀ {vs : List (Key × V)} {ds : List (Key × D)}, IsK A H vs ds → vs.length = ds.length
  | _, _, .nil => rfl
  | _, _, .cons _ _ t => by rw [List.length_cons, List.length_cons, t.length]
def flatD : D → Bool
  | .non => true
  | .bl _ => true
  | .int _ => true
  | .str _ => true
  | _ => false
def rInD' (neg : Bool) : CR2 := fun a b R => match b with
  | .lst ds => lowD 63 a = true ∧ ds.all (lowD 63) = true ∧ R (.bl (neg ^^ ds.any fun z => eqN 63 z a))
  | .tup ds => flatD a = true ∧ ds.all flatD = true ∧ R (.bl (neg ^^ ds.any fun z => eqN 63 z a))
  | .str y => match a with
    | .str x => ∃ c, x = ⟨#[c]⟩ ∧ R (.bl (neg ^^ decide (c ∈ y.cps.toList)))
    | _ => False
  | .dic kvs => ∃ k, keyD a = some k ∧ R (.bl (neg ^^ (valD kvs k).isSome))
  | _ => False
theorem strOk_app {x y : Str} (h1 : PyData.strOk x = true) (h2 : PyData.strOk y = true) : PyData.strOk (x ++ y) = true := by
  unfold PyData.strOk at *
  rw [Array.all_eq_true_iff_forall_mem] at h1 h2 ⊢
  intro c hc
  have : c ∈ x.cps ++ y.cps := hc
  rcases Array.mem_append.mp this with h | h
  · exact h1 c h
  · exact h2 c h
section
variable {X : Cx}
theorem od_add : OpR X (binaryOp .Add) (liftR rAdd) := by
  rintro pins s σ H x y v u Q I rx ry ⟨A, d1, d2, R, dom, i1, i2, h, k⟩
  unfold rAdd at h
  split at h
  · cases i1
    cases i2
    exact op_add pins s σ H _ _ v u Q I rx ry ⟨_, _, rfl, rfl, k _ _ H h (Same.refl _) (.int _)⟩
  · cases i1 with
    | str _ h1 =>
      cases i2 with
      | str _ h2 => exact op_add_str pins s σ H _ _ v u Q I rx ry ⟨_, _, rfl, rfl, h.1, k _ _ H h.2 (Same.refl _) (.str _ (strOk_app h1 h2))⟩
  · cases i1 with
    | tup e1 n1 l1 =>
      cases i2 with
      | tup e2 n2 l2 =>
        refine op_catA pins s σ H _ _ v u Q I rx ry ⟨_, _, _, _, rfl, rfl, SqT.of e1, SqT.of e2, by rw [l1.length, l2.length]; exact h.1, fun z => ?_, fun _ z => ?_, fun _ _ p hp => ?_⟩
        · subst z
          cases l1
          exact k _ _ H h.2 (Same.refl _) (.tup e2 n2 l2)
        · subst z
          cases l2
          rw [List.append_nil] at h
          exact k _ _ H h.2 (Same.refl _) (.tup e1 n1 l1)
        · exact k _ _ _ h.2 (new_of hp).same (.tup (new_of hp).at (fun z => by obtain ⟨o, e⟩ := dom p z; rw [hp] at e; cases e) ((l1.app l2).keep (Keep.same (new_of hp).same)))
  · cases i1 with
    | lst e1 n1 l1 =>
      cases i2 with
      | lst e2 n2 l2 =>
        refine op_catN pins s σ H _ _ v u Q I rx ry ⟨_, _, _, _, rfl, rfl, e1, e2, by rw [l1.length, l2.length]; exact h.1, fun p H' n => ?_⟩
        exact k _ _ _ h.2 n.same (.lst n.at (fun z => by obtain ⟨o, e⟩ := dom p z; rw [n.1] at e; cases e) ((l1.app l2).keep (Keep.same n.same)))
  · exact h.elim
theorem od_III {op : Operator} {P : Int → Int → Prop} {f : Int → Int → Int} (ho : OpR X (binaryOp op) (rI P fun i j => .int (f i j))) : OpR X (binaryOp op) (liftR (rIII P f)) := by
  rintro pins s σ H x y v u Q I rx ry ⟨A, d1, d2, R, dom, i1, i2, h, k⟩
  unfold rIII at h
  split at h
  · cases i1
    cases i2
    exact ho pins s σ H _ _ v u Q I rx ry ⟨_, _, rfl, rfl, h.1, k _ _ H h.2 (Same.refl _) (.int _)⟩
  · exact h.elim
theorem od_sub : OpR X (binaryOp .Sub) (liftR rSub) := od_III (OpR.imp op_sub fun _ _ _ _ ⟨i, j, h1, h2, _, q⟩ => ⟨i, j, h1, h2, q⟩)
theorem od_mul : OpR X (binaryOp .Mult) (liftR rMul) := od_III (OpR.imp op_mulX fun _ _ _ _ h => h)
theorem od_mod : OpR X (binaryOp .Mod) (liftR rMod) := od_III op_mod
theorem od_fdv : OpR X (binaryOp .FloorDiv) (liftR rFdv) := od_III op_fdivW
theorem od_pow : OpR X (binaryOp .Pow) (liftR rPow) := od_III op_pow
theorem od_ord {op : CmpOp} {f : Int → Int → Bool} {g : List Nat → List Nat → Bool} (ho : OpR X (compareOp op) (rI0 fun i j => .bl (f i j))) (hs : OpR X (compareOp op) (fun x y H Q => ∃ i j, x = .str i ∧ y = .str j ∧ Q (.bl (g i.cps.toList j.cps.toList)) H)) : OpR X (compareOp op) (liftR (rOrd f g)) := by
  rintro pins s σ H x y v u Q I rx ry ⟨A, d1, d2, R, dom, i1, i2, h, k⟩
  unfold rOrd at h
  split at h
  · cases i1
    cases i2
    exact ho pins s σ H _ _ v u Q I rx ry ⟨_, _, rfl, rfl, k _ _ H h (Same.refl _) (.bl _)⟩
  · cases i1
    cases i2
    exact hs pins s σ H _ _ v u Q I rx ry ⟨_, _, rfl, rfl, k _ _ H h (Same.refl _) (.bl _)⟩
  · exact h.elim
theorem od_lt : OpR X (compareOp .Lt) (liftR rLt) := od_ord op_lt op_lt_str
theorem od_le : OpR X (compareOp .LtE) (liftR rLe) := od_ord op_le op_le_str
theorem od_gt : OpR X (compareOp .Gt) (liftR rGt) := od_ord op_gt op_gt_str
theorem od_ge : OpR X (compareOp .GtE) (liftR rGe) := od_ord op_ge op_ge_str
theorem od_eq (hu : X.A.units + 64 < cLine) : OpR X (compareOp .Eq) (liftR (rEqD' false)) := by
  rintro pins s σ H x y v u Q I rx ry ⟨A, d1, d2, R, dom, i1, i2, h, k⟩
  refine op_eqD hu pins s σ H _ _ v u Q I rx ry ⟨_, _, dp_N 64 _ _ h.1 i1, dp_N 64 _ _ h.2.1 i2, shaped_of (lay_N 64 _ _ _ _ h.1 i1) (Nat.le_refl _), shaped_of (lay_N 64 _ _ _ _ h.2.1 i2) (Nat.le_refl _), ?_⟩
  rw [eqv_N 64 _ _ h.1 h.2.1]
  have := h.2.2
  rw [Bool.false_xor] at this
  exact k _ _ H this (Same.refl _) (.bl _)
theorem od_ne (hu : X.A.units + 64 < cLine) : OpR X (compareOp .NotEq) (liftR (rEqD' true)) := by
  rintro pins s σ H x y v u Q I rx ry ⟨A, d1, d2, R, dom, i1, i2, h, k⟩
  refine op_neD hu pins s σ H _ _ v u Q I rx ry ⟨_, _, dp_N 64 _ _ h.1 i1, dp_N 64 _ _ h.2.1 i2, shaped_of (lay_N 64 _ _ _ _ h.1 i1) (Nat.le_refl _), shaped_of (lay_N 64 _ _ _ _ h.2.1 i2) (Nat.le_refl _), ?_⟩
  rw [eqv_N 64 _ _ h.1 h.2.1]
  have := h.2.2
  rw [Bool.true_xor] at this
  exact k _ _ H this (Same.refl _) (.bl _)
theorem is_nonV {A : Fp} {H : Hp} {v : V} {d : D} (h : Is A H v d) : decide (v = .non) = (match d with | .non => true | _ => false) := by
  cases h <;> simp
theorem od_is : OpR X (compareOp .Is) (liftR (rIsN false)) := by
  rintro pins s σ H x y v u Q I rx ry ⟨A, d1, d2, R, dom, i1, i2, h, k⟩
  unfold rIsN at h
  split at h
  · cases i1
    cases i2
    exact op_isN pins s σ H _ _ v u Q I rx ry ⟨rfl, k _ _ H h (Same.refl _) (.bl _)⟩
  · next hn =>
    cases i2
    refine op_isN pins s σ H _ _ v u Q I rx ry ⟨rfl, ?_⟩
    rw [is_nonV i1]
    split
    · exact (hn rfl).elim
    · exact k _ _ H h (Same.refl _) (.bl _)
  · exact h.elim
theorem od_isn : OpR X (compareOp .IsNot) (liftR (rIsN true)) := by
  rintro pins s σ H x y v u Q I rx ry ⟨A, d1, d2, R, dom, i1, i2, h, k⟩
  unfold rIsN at h
  split at h
  · cases i1
    cases i2
    exact op_notN pins s σ H _ _ v u Q I rx ry ⟨rfl, k _ _ H h (Same.refl _) (.bl _)⟩
  · next hn =>
    cases i2
    refine op_notN pins s σ H _ _ v u Q I rx ry ⟨rfl, ?_⟩
    rw [is_nonV i1]
    split
    · exact (hn rfl).elim
    · exact k _ _ H h (Same.refl _) (.bl _)
  · exact h.elim
theorem any_toPy {n : Nat} {ds : List D} {d : D} (h : ds.all (lowD n) = true) (h' : lowD n d = true) : ((ds.map (toPy n)).any fun z => PyData.eqv z (toPy n d)) = ds.any fun z => eqN n z d := by
  rw [List.any_map]
  induction ds with
  | nil => rfl
  | cons x xs ih =>
    rw [List.all_cons, Bool.and_eq_true] at h
    rw [List.any_cons, List.any_cons, ih h.2]
    simp only [Function.comp]
    rw [eqv_N n x d h.1 h']
theorem Lay.mono {m n : Nat} {d : PyData} (h : Lay m d) (l : m ≤ n) : Lay n d := ⟨h.1, Nat.le_trans h.2 l⟩
theorem flat_V {A : Fp} {H : Hp} {v : V} {d : D} (h : Is A H v d) (l : flatD d = true) : flatV v = true := by
  cases h <;> first | rfl | cases l
theorem flat_L {A : Fp} {H : Hp} : ∀ {vs : List V} {ds : List D}, IsL A H vs ds → ds.all flatD = true → vs.all flatV = true
  | _, _, .nil, _ => rfl
  | _, _, .cons h t, l => by
    rw [List.all_cons, Bool.and_eq_true] at l ⊢
    exact ⟨flat_V h l.1, flat_L t l.2⟩
theorem eqV_N {A : Fp} {H : Hp} {v u : V} {d e : D} (h1 : Is A H v d) (h2 : Is A H u e) (l1 : flatD d = true) (l2 : flatD e = true) : eqV v u = eqN 63 d e := by
  cases h1 <;> cases h2 <;> first | rfl | (cases l1; done) | (cases l2; done)
theorem inV_N {A : Fp} {H : Hp} {v : V} {d : D} (h : Is A H v d) (l : flatD d = true) : ∀ {vs : List V} {ds : List D}, IsL A H vs ds → ds.all flatD = true → inV v vs = ds.any fun z => eqN 63 z d
  | _, _, .nil, _ => rfl
  | _, _, .cons h' t, l' => by
    rw [List.all_cons, Bool.and_eq_true] at l'
    unfold inV
    rw [List.any_cons, List.any_cons, eqV_N h' h l'.1 l]
    have := inV_N h l t l'.2
    unfold inV at this
    rw [this]
theorem od_inn {op : CmpOp} {neg : Bool} (hu : X.A.units + 65 < cLine) (hop : op = if neg then .NotIn else .In) : OpR X (compareOp op) (liftR (rInD' neg)) := by
  rintro pins s σ H x y v u Q I rx ry ⟨A, d1, d2, R, dom, i1, i2, h, k⟩
  unfold rInD' at h
  split at h
  · next ds =>
    cases i2 with
    | lst e2 n2 l2 =>
      have lx := lay_N 63 _ _ _ _ h.1 i1
      have ll : lowD 64 (.lst ds) = true := h.2.1
      have i2' : Is A H _ (.lst ds) := .lst e2 n2 l2
      have ly := lay_N 64 _ _ _ _ ll i2'
      have e := any_toPy h.2.1 h.1
      have q := k _ _ H h.2.2 (Same.refl _) (.bl _)
      subst hop
      cases neg with
      | false =>
        refine op_inD hu pins s σ H _ _ v u Q I rx ry ⟨toPy 63 d1, ds.map (toPy 63), dp_N 63 _ _ h.1 i1, dp_N 64 _ _ ll i2', shaped_of lx (by decide), shaped_of ly (by decide), ?_⟩
        rw [e]; rw [Bool.false_xor] at q; exact q
      | true =>
        refine op_notInD hu pins s σ H _ _ v u Q I rx ry ⟨toPy 63 d1, ds.map (toPy 63), dp_N 63 _ _ h.1 i1, dp_N 64 _ _ ll i2', shaped_of lx (by decide), shaped_of ly (by decide), ?_⟩
        rw [e]; rw [Bool.true_xor] at q; exact q
  · next ds =>
    cases i2 with
    | tup e2 n2 l2 =>
      have q := k _ _ H h.2.2 (Same.refl _) (.bl _)
      subst hop
      cases neg with
      | false =>
        refine op_in_seq pins s σ H _ _ v u Q I rx ry ⟨_, _, rfl, .inr (SqT.of e2), flat_V i1 h.1, flat_L l2 h.2.1, ?_⟩
        rw [Bool.false_xor] at q
        simp only [Bool.false_eq_true, if_false]
        rw [inV_N i1 h.1 l2 h.2.1]; exact q
      | true =>
        refine op_notIn_seq pins s σ H _ _ v u Q I rx ry ⟨_, _, rfl, .inr (SqT.of e2), flat_V i1 h.1, flat_L l2 h.2.1, ?_⟩
        rw [Bool.true_xor] at q
        simp only [if_true]
        rw [inV_N i1 h.1 l2 h.2.1]; exact q
  · next ys =>
    split at h
    · obtain ⟨c, rfl, h⟩ := h
      cases i1
      cases i2
      have q := k _ _ H h (Same.refl _) (.bl _)
      subst hop
      cases neg with
      | false => exact op_in_sign pins s σ H _ _ v u Q I rx ry ⟨c, _, rfl, rfl, by rw [Bool.false_xor] at q; exact q⟩
      | true => exact op_notIn_sign pins s σ H _ _ v u Q I rx ry ⟨c, _, rfl, rfl, by rw [Bool.true_xor] at q; exact q⟩
    · exact h.elim
  · next kvs =>
    obtain ⟨kk, ek, h⟩ := h
    have ex := keyD_is i1 ek
    subst ex
    cases i2 with
    | @dic a2 vs2 _ e2 n2 l2 =>
      cases ry
      have g : DGet H a2 (kV kk) (valV vs2 kk) := .inl ⟨vs2, kk, e2, rfl, rfl⟩
      have hs : (valV vs2 kk).isSome = (valD kvs kk).isSome := by
        rcases l2.val (k := kk) with ⟨v', d', e3, e4, _⟩ | ⟨e3, e4⟩
        · rw [e3, e4]; rfl
        · rw [e3, e4]; rfl
      have q := k _ _ H h (Same.refl _) (.bl _)
      subst hop
      cases neg with
      | false =>
        refine d_in (by omega) I g rx fun s' I' => ⟨.bl _, H, I', rfl, ?_⟩
        rw [hs]; rw [Bool.false_xor] at q; exact q
      | true =>
        refine d_notIn (by omega) I g rx fun s' I' => ⟨.bl _, H, I', rfl, ?_⟩
        rw [hs]; rw [Bool.true_xor] at q; exact q
  · exact h.elim
theorem od_in (hu : X.A.units + 65 < cLine) : OpR X (compareOp .In) (liftR (rInD' false)) := od_inn hu rfl
theorem od_nin (hu : X.A.units + 65 < cLine) : OpR X (compareOp .NotIn) (liftR (rInD' true)) := od_inn hu rfl
def rNeg : CR1 := fun a R => match a with
  | .int i => R (.int (-i))
  | _ => False
theorem ud_neg : UnR X (unaryOp .USub) (liftU rNeg) := by
  rintro pins s σ H x v Q I rx ⟨A, d1, R, dom, i1, h, k⟩
  unfold rNeg at h
  split at h
  · cases i1
    exact un_neg pins s σ H _ v Q I rx ⟨_, rfl, k _ _ H h (Same.refl _) (.int _)⟩
  · exact h.elim
/-! ### subscripts -/
def rIx : CR2 := fun a b R => match a, b with
  | .lst ds, .int i => ∃ d, atI ds i = some d ∧ R d
  | .tup ds, .int i => ∃ d, atI ds i = some d ∧ R d
  | .str z, .int i => ∃ c, z.length ≤ sizeLine ∧ atI z.cps.toList i = some c ∧ R (.str ⟨#[c]⟩)
  | .dic kvs, b => ∃ k d, keyD b = some k ∧ valD kvs k = some d ∧ R d
  | _, _ => False
theorem atI_is {A : Fp} {H : Hp} {vs : List V} {ds : List D} {i : Int} {d : D} (l : IsL A H vs ds) (e : atI ds i = some d) : ∃ v, atI vs i = some v ∧ Is A H v d := by
  unfold atI at *
  rw [l.length]
  cases q : ixN ds.length i with
  | none => rw [q] at e; cases e
  | some j =>
    rw [q] at e
    obtain ⟨v, h1, h2⟩ := l.get (i := j) (d := d) e
    exact ⟨v, h1, h2⟩
theorem atI_mem {α : Type} {xs : List α} {i : Int} {x : α} (h : atI xs i = some x) : x ∈ xs := by
  unfold atI at h
  cases q : ixN xs.length i with
  | none => rw [q] at h; cases h
  | some j =>
    rw [q] at h
    exact List.mem_of_getElem? h
theorem xd_ix (hu : X.A.units + 1 < cLine) : IxR X (liftR rIx) := by
  rintro value slice pins s σ H x y v u Q I rx ry ⟨A, d1, d2, R, dom, i1, i2, h, k⟩ hs
  unfold rIx at h
  split at h
  · obtain ⟨d, e, h⟩ := h
    cases i2
    cases i1 with
    | lst e1 n1 l1 =>
      obtain ⟨w, ew, hw⟩ := atI_is l1 e
      exact ix_list value slice pins s σ H _ _ v u Q I rx ry ⟨_, _, _, w, rfl, rfl, SqL.of e1, ew, k _ _ H h (Same.refl _) hw⟩ hs
  · obtain ⟨d, e, h⟩ := h
    cases i2
    cases i1 with
    | tup e1 n1 l1 =>
      obtain ⟨w, ew, hw⟩ := atI_is l1 e
      exact ix_tup value slice pins s σ H _ _ v u Q I rx ry ⟨_, _, _, w, rfl, rfl, SqT.of e1, ew, k _ _ H h (Same.refl _) hw⟩ hs
  · obtain ⟨c, hz, e, h⟩ := h
    cases i2
    cases i1 with
    | str z h1 => exact ix_str value slice pins s σ H _ _ v u Q I rx ry ⟨_, _, c, rfl, rfl, hz, e, k _ _ H h (Same.refl _) (.str _ (strOk_one h1 (atI_mem e)))⟩ hs
  · next kvs b =>
    obtain ⟨kk, d, ek, ed, h⟩ := h
    have ex := keyD_is i2 ek
    subst ex
    cases i1 with
    | dic e1 n1 l1 =>
      cases rx
      rcases l1.val (k := kk) with ⟨v', d', e3, e4, hv⟩ | ⟨e3, e4⟩
      · rw [ed] at e4
        cases e4
        have g : DGet H _ (kV kk) (some v') := .inl ⟨_, kk, e1, rfl, e3.symm⟩
        exact tail_any (dict_typeIs I g) PySem.F.slot_dict_getitem.lookup (d_getItem hu I g ry fun w' s' I' rw' => ⟨v', H, I', rw', k _ _ H h (Same.refl _) hv⟩) hs
      · rw [ed] at e4; cases e4
  · exact h.elim
/-! ### built-in calls by values -/
def rLen : List D → (D → Prop) → Prop := fun ds R => match ds with
  | [.lst xs] => R (.int xs.length)
  | [.tup xs] => R (.int xs.length)
  | [.str z] => z.length ≤ sizeLine ∧ R (.int z.length)
  | [.dic kvs] => R (.int kvs.length)
  | _ => False
theorem kd_len : CallR X (.builtin "len") (liftC rLen) := by
  rintro pins s σ H xs us Q I r ⟨A, ds, R, dom, i1, h, k⟩
  unfold rLen at h
  split at h
  · cases i1 with
    | cons a t =>
      cases t
      cases a with
      | lst e n l => exact call_len_seq pins s σ H _ us Q I r ⟨_, _, rfl, .inl (SqL.of e), by rw [l.length]; exact k _ _ H h (Same.refl _) (.int _)⟩
  · cases i1 with
    | cons a t =>
      cases t
      cases a with
      | tup e n l => exact call_len_seq pins s σ H _ us Q I r ⟨_, _, rfl, .inr (SqT.of e), by rw [l.length]; exact k _ _ H h (Same.refl _) (.int _)⟩
  · cases i1 with
    | cons a t =>
      cases t
      cases a with
      | str z hz => exact call_len_str pins s σ H _ us Q I r ⟨_, rfl, h.1, k _ _ H h.2 (Same.refl _) (.int _)⟩
  · cases i1 with
    | cons a t =>
      cases t
      cases a with
      | dic e n l =>
        rw [Vals.ref1 r]
        exact d_len I e fun t s' I' => ⟨.int _, H, I', ⟨t, rfl⟩, by rw [l.length]; exact k _ _ H h (Same.refl _) (.int _)⟩
  · exact h.elim
def rAbs : List D → (D → Prop) → Prop := fun ds R => match ds with
  | [.int i] => R (.int (if i < 0 then -i else i))
  | _ => False
theorem kd_abs : CallR X (.builtin "abs") (liftC rAbs) := by
  rintro pins s σ H xs us Q I r ⟨A, ds, R, dom, i1, h, k⟩
  unfold rAbs at h
  split at h
  · cases i1 with
    | cons a t =>
      cases t
      cases a
      exact call_abs pins s σ H _ us Q I r ⟨_, rfl, k _ _ H h (Same.refl _) (.int _)⟩
  · exact h.elim
def rInt : List D → (D → Prop) → Prop := fun ds R => match ds with
  | [.int i] => R (.int i)
  | [.bl b] => R (.int (if b then 1 else 0))
  | _ => False
theorem kd_int : CallR X (.type "int") (liftC rInt) := by
  rintro pins s σ H xs us Q I r ⟨A, ds, R, dom, i1, h, k⟩
  unfold rInt at h
  split at h
  · cases i1 with
    | cons a t =>
      cases t
      cases a
      exact call_int1 pins s σ H _ us Q I r (.inl ⟨_, rfl, k _ _ H h (Same.refl _) (.int _)⟩)
  · cases i1 with
    | cons a t =>
      cases t
      cases a
      exact call_int1 pins s σ H _ us Q I r (.inr ⟨_, rfl, k _ _ H h (Same.refl _) (.int _)⟩)
  · exact h.elim
def rTupOf : List D → (D → Prop) → Prop := fun ds R => match ds with
  | [.lst xs] => R (.tup xs)
  | [.tup xs] => R (.tup xs)
  | _ => False
theorem dom_new {A : Fp} {H : Hp} {p : Addr} (dom : ∀ b, A b → ∃ o, H b = some o) (hp : H p = none) : ¬ A p := fun z => by
  obtain ⟨o, e⟩ := dom p z
  rw [hp] at e
  cases e
theorem kd_tup : CallR X (.type "tuple") (liftC rTupOf) := by
  rintro pins s σ H xs us Q I r ⟨A, ds, R, dom, i1, h, k⟩
  unfold rTupOf at h
  split at h
  · cases i1 with
    | cons a t =>
      cases t
      cases a with
      | lst e n l => exact call_tuple_of pins s σ H _ us Q I r ⟨_, _, rfl, .inl ⟨SqL.of e, fun p hp => k _ _ _ h (new_of hp).same (.tup (new_of hp).at (dom_new dom hp) (l.keep (Keep.same (new_of hp).same)))⟩⟩
  · cases i1 with
    | cons a t =>
      cases t
      cases a with
      | tup e n l => exact call_tuple_of pins s σ H _ us Q I r ⟨_, _, rfl, .inr ⟨SqT.of e, k _ _ H h (Same.refl _) (.tup e n l)⟩⟩
  · exact h.elim
/-- list(x), as a shared list -/
def rLstOf : List D → (D → Prop) → Prop := fun ds R => match ds with
  | [.lst xs] => R (.lst xs)
  | [.tup xs] => R (.lst xs)
  | _ => False
theorem kd_lst : CallR X (.type "list") (liftC rLstOf) := by
  rintro pins s σ H xs us Q I r ⟨A, ds, R, dom, i1, h, k⟩
  unfold rLstOf at h
  split at h
  · cases i1 with
    | cons a t =>
      cases t
      cases a with
      | lst e n l => exact call_list_ofN pins s σ H _ us Q I r ⟨_, _, rfl, .inl (SqL.of e), fun p H' nw => k _ _ _ h nw.same (.lst nw.at (dom_new dom nw.1) (l.keep (Keep.same nw.same)))⟩
  · cases i1 with
    | cons a t =>
      cases t
      cases a with
      | tup e n l => exact call_list_ofN pins s σ H _ us Q I r ⟨_, _, rfl, .inr (SqT.of e), fun p H' nw => k _ _ _ h nw.same (.lst nw.at (dom_new dom nw.1) (l.keep (Keep.same nw.same)))⟩
  · exact h.elim
end
end Xl


namespace Xl
open PySem PySem.Spec PyProof.Rows L2
section
variable {B M M' : Fp} {H H' : Hp} {σ : L2.St} {δ : DEnv} {i : Nat} {p : Addr}
theorem ER.pad (h : ER B M H σ δ) (n : Nat) : ER B M H (σ ++ List.replicate n none) (δ ++ List.replicate n .emp) := by
  obtain ⟨fs, h⟩ := h
  have nof : ∀ i, δ.length ≤ i → ∀ b, ¬ fs i b := fun i hi b hb => by
    have a := h.at_ i
    rw [List.getElem?_eq_none (l := δ) hi] at a
    exact a b hb
  refine ⟨fs, by rw [List.length_append, List.length_append, h.len, List.length_replicate, List.length_replicate], h.own, h.one, fun i => ?_, h.dom, h.dis⟩
  by_cases hi : i < δ.length
  · rw [List.getElem?_append_left (by rw [h.len]; exact hi), List.getElem?_append_left hi]
    exact h.at_ i
  · rw [List.getElem?_append_right (l₁ := δ) (by omega)]
    have e : ((List.replicate n Sl.emp)[i - δ.length]?).getD .emp = .emp := by
      rw [List.getElem?_replicate]
      split <;> rfl
    rw [e]
    exact nof i (by omega)
theorem ER.take (h : ER B M H σ δ) (n : Nat) : ∃ M', ER B M' H (σ.take n) (δ.take n) ∧ Fr M H M' H := by
  obtain ⟨fs, h⟩ := h
  have sub : ∀ b, (∃ i, i < n ∧ fs i b) → M b := fun b z => (h.own b).mpr ⟨z.choose, z.choose_spec.2⟩
  have k : Keep (Ex B M) H (Ex B fun b => ∃ i, i < n ∧ fs i b) H := Keep.less fun b z => z.imp id (sub b)
  refine ⟨fun b => ∃ i, i < n ∧ fs i b, ⟨fun i b => i < n ∧ fs i b, by rw [List.length_take, List.length_take, h.len], fun b => Iff.rfl, fun i j b z1 z2 => h.one i j b z1.2 z2.2, fun i => ?_, h.dom, fun b hb z => h.dis b hb (sub b z)⟩, Fr.less sub⟩
  by_cases hi : i < n
  · rw [List.getElem?_take_of_lt hi, List.getElem?_take_of_lt hi]
    have e : (fun b => i < n ∧ fs i b) = fs i := by
      funext b
      exact propext ⟨fun z => z.2, fun z => ⟨hi, z⟩⟩
    rw [e]
    exact (h.at_ i).move k fun _ _ _ e => e
  · rw [List.getElem?_eq_none (l := δ.take n) (by rw [List.length_take]; omega)]
    exact fun b z => hi z.1
end
/-! ### defs -/
def spD (c : CE) : Sp := fun vs H Q E => ∃ B M αs R RX, ER B M H (vs.map some) αs ∧ c αs R RX ∧
  (∀ d αs' v σ' H' M', R d αs' → Is (Ex B M') H' v d → ER B M' H' σ' αs' → Fz B M H M' H' → Q v H') ∧
  (∀ C fs αs' σ' o H' M', RX C fs αs' → ErR (Ex B M') H' o fs → ER B M' H' σ' αs' → Fz B M H M' H' → E (.ref C) o H')
def cBody (n m : Nat) (t : CS) : CE := fun αs R RX => αs.length = n ∧ t (αs ++ List.replicate m .emp) ⟨fun δ => R .non (δ.take n), fun d δ => R d (δ.take n), fun _ => False, fun _ => False, fun C fs δ => RX C fs (δ.take n)⟩
theorem ErR.less {A A' : Fp} {H : Hp} {o : Option Addr} {fs : List (Str × D)} (h : ErR A H o fs) (s : ∀ b, A' b → A b) : ErR A' H o fs := by
  rcases h with h | ⟨d, xs, h1, h2, h3, h4⟩
  · exact .inl h
  · exact .inr ⟨d, xs, h1, h2, fun z => h3 (s _ z), h4.keep (Keep.less s)⟩
section
variable {P : Program} {w : World} {K : PySem.W.Frag} {mg : Str → Option Value} {base : Heap}
theorem okD {x qual : Str} {st : Stmt} {f : Addr} {fd : FuncData} {N ps : List Str} {k m : Nat} {t : CS} (F : Fun K x qual st f fd) (S : FnScope N ps (defScope st)) (hm : N.length = ps.length + m)
    (hbody : ∀ (cdv : Value) (A : Around) (outer : List Env) (s : Shared) (H : Hp) (E : XK), Room k (A.deeper (envOfC qual (defScope st) s.heap.objs.size f cdv)) → Takes (cxOf (L2.CX P w) P w K mg base N qual (defScope st) f cdv A outer s H E) (fun cls d _ H => E cls d H) →
      PSsD (cxOf (L2.CX P w) P w K mg base N qual (defScope st) f cdv A outer s H E) (fun cls d _ H => E cls d H) (defBody st) t) : FnOk P w K mg base (L2.CX P w) (k + 1) f fd ps (spD (cBody ps.length m t)) := by
  refine F.okX S (fun vs H Q E ⟨B, M, αs, R, RX, er, hc, _⟩ => ?_) fun cdv A outer s H vs Q E hr ⟨B, M, αs, R, RX, er, hc, k1, k2⟩ => ?_
  · have := er.len
    rw [List.length_map] at this
    rw [this]
    exact hc.1
  · refine ⟨_, hbody cdv A outer s H E hr (takes_of rfl rfl rfl rfl), ?_⟩
    have hl : vs.length = ps.length := by
      have := er.len
      rw [List.length_map] at this
      rw [this]
      exact hc.1
    have hs : L2.start N vs = vs.map some ++ List.replicate m none := by
      unfold L2.start
      rw [show N.length - vs.length = m by omega]
    rw [hs]
    refine ⟨B, M, _, _, er.pad m, hc.2, ⟨fun δ' σ' H' M' h1 er1 f1 => ?_, fun d δ' v σ' H' M' h1 i1 er1 f1 => ?_, fun _ _ _ _ h => h.elim, fun _ _ _ _ h => h.elim, fun C fs δ' σ' o H' M' h1 i1 er1 f1 => ?_⟩⟩
    · obtain ⟨M2, er2, f2⟩ := er1.take ps.length
      exact k1 .non _ .non _ H' M2 h1 .non er2 (f1.trans f2.fz)
    · obtain ⟨M2, er2, f2⟩ := er1.take ps.length
      exact k1 d _ v _ H' M2 h1 (i1.keep (Keep.fr f2.fz)) er2 (f1.trans f2.fz)
    · obtain ⟨M2, er2, f2⟩ := er1.take ps.length
      refine k2 C fs _ _ o H' M2 h1 (i1.less fun b z => z.imp id fun q => ?_) er2 (f1.trans f2.fz)
      rcases f2.grow b q with r | r
      · exact r
      · obtain ⟨u, e⟩ := er2.edom (.inr q)
        rw [r] at e
        cases e
end
/-! ### calls -/
def cCall (c : CE) (t : CA) : CE := fun δ R RX => t δ (fun ds δ1 => c (ds.map .sh) (fun d _ => R d δ1) fun C fs _ => RX C fs δ1) RX
theorem er_args {A : Fp} {H : Hp} {vs : List V} {ds : List D} (l : IsL A H vs ds) (dom : ∀ b, A b → ∃ o, H b = some o) : ER A (fun _ => False) H (vs.map some) (ds.map .sh) := by
  have k : Keep A H (Ex A fun _ => False) H := Keep.less fun b z => z.elim id False.elim
  refine ⟨fun _ _ => False, by rw [List.length_map, List.length_map, l.length], fun b => ⟨False.elim, fun ⟨_, z⟩ => z⟩, fun _ _ _ z => z.elim, fun i => ?_, dom, fun _ _ z => z⟩
  rw [List.getElem?_map, List.getElem?_map]
  cases e : ds[i]? with
  | none => exact fun _ z => z
  | some d =>
    obtain ⟨v, ev, hv⟩ := l.get e
    rw [ev]
    exact ⟨fun _ z => z, v, rfl, hv.keep k⟩
theorem Fz.exact {B M M' : Fp} {H H' : Hp} (f : Fz B M H M' H') {b : Addr} {u : HO} (hB : B b) (nb : ¬ M b) (e : H b = some u) : H' b = some u := by
  rcases f.keep b u e nb with z | ⟨z, _⟩
  · exact z
  · exact absurd hB z
/-- behind a call that owned nothing of ours -/
theorem ER.called {B M M' : Fp} {H H' : Hp} {σ : L2.St} {δ : DEnv} (h : ER B M H σ δ) (f : Fz (Ex B M) (fun _ => False) H M' H') : ER B M H' σ δ ∧ Fz B M H M H' := by
  have k : Keep (Ex B M) H (Ex B M) H' := fun b o e n => ⟨n, (f.keep b o e id).imp id fun ⟨_, kvs, ob, e1, e2⟩ => ⟨kvs, _, .inl e1, e2, .inr ⟨ob, rfl⟩⟩⟩
  refine ⟨h.to k (fun b u hb e => f.exact (.inr hb) id e) (fun b o e => ?_), ⟨fun b o e n => (f.keep b o e id).imp id fun z => ⟨fun q => z.1 (.inl q), z.2⟩, fun b z => .inl z, f.free⟩⟩
  cases q : H' b with
  | none => rw [f.free b q] at e; cases e
  | some u => exact ⟨u, rfl⟩
section
variable {X : Cx} {W : WX} {k : Nat} {ps : List Str} {x : Str} {p pos : Pos} {e : Expr} {es : List Expr} {t : CA} {c : CE}
theorem lift_sp {σ : L2.St} {B M : Fp} {H : Hp} {δ : DEnv} {R : KV} {RX : KX} {vs : List V} {ds : List D} {Q : VK} (er : ER B M H σ δ) (l : IsL (Ex B M) H vs ds) (hc : c (ds.map .sh) (fun d _ => R d δ) fun C fs _ => RX C fs δ)
    (kk : ∀ d δ' v H' M', R d δ' → Is (Ex B M') H' v d → ER B M' H' σ δ' → Fz B M H M' H' → Q v H') (x : XOk W B M H σ RX) : spD c vs H Q (WE W σ) := by
  refine ⟨Ex B M, fun _ => False, _, _, _, er_args l (fun b hb => er.edom hb), hc, fun d αs' v σ' H' M' h1 i1 er1 f1 => ?_, fun C fs αs' σ' o H' M' h1 i1 er1 f1 => ?_⟩
  · obtain ⟨er2, f2⟩ := er.called f1
    exact kk d δ v H' M h1 (i1.keep (Keep.less fun b z => .inl z)) er2 f2
  · obtain ⟨er2, f2⟩ := er.called f1
    exact x C fs δ o H' M h1 (i1.less fun b z => .inl z) er2 f2
theorem pd_f (F : FnI X.prog X.w X.K X.mg X.base x k ps (spD c)) (hr : Room k X.A) (tk : Takes X W) (ha : PAD X W (e :: es) t) (hg : Gl X x := by rfl)
    (hdb : (x == ("__debug__" : Str)) = false := by decide) (he : starEach (e :: es) X.env = (false, eval e X.env) :: starEach es X.env := by rfl) (hpl : (backTo pos (starEach es X.env)).any (·.1) = false := by rfl) :
    PD X W (.Call (.Name x p) (e :: es) [] pos) (cCall c t) := by
  obtain ⟨f, fd, h1, h2, h3, h4⟩ := F.ex
  refine PE.imp (pe_callS h1 hr hg h2 h3 h4 (E := WE W) (fun σ => passAt tk σ) ha hdb he hpl) fun σ H Q ⟨B, M, δ, R, RX, er, ht, kk, x⟩ => ?_
  exact ⟨B, M, δ, _, RX, er, ht, fun ds δ1 vs H1 M1 h1 i1 er1 f1 => lift_sp er1 i1 h1 (fun d δ' v H' M' r1 r2 r3 r4 => kk d δ' v H' M' r1 r2 r3 (f1.trans r4)) (x.fr f1), x⟩
/-- f(): no arguments -/
def cCall0 (c : CE) : CE := fun δ R RX => c [] (fun d _ => R d δ) fun C fs _ => RX C fs δ
theorem pd_f0 (F : FnI X.prog X.w X.K X.mg X.base x k ps (spD c)) (hr : Room k X.A) (hx : Passes (L2.CX X.prog X.w) X E0) (hg : Gl X x := by rfl)
    (hdb : (x == ("__debug__" : Str)) = false := by decide) : PD X W0 (.Call (.Name x p) [] [] pos) (cCall0 c) := by
  obtain ⟨f, fd, h1, h2, h3, h4⟩ := F.ex
  refine PE.imp (pe_call0 h1 hr hg h2 h3 h4 .nil hx hdb) fun σ H Q ⟨B, M, δ, R, RX, er, ht, kk, x⟩ => ?_
  exact lift_sp (W := W0) (ds := []) er .nil ht kk x
end
end Xl


namespace Xl
open PySem PySem.Spec PyProof.Rows L2
/-! ### the drawing state handed on -/
def stAt (αs : List Sl) (s : Addr) (k : Nat → Prop) : Prop := match (αs[0]? : Option Sl) with
  | some (Sl.st s' n) => s' = s ∧ k n
  | _ => False
def cCallS (i : Nat) (c : CE) (t : CA) : CE := fun δ R RX => (match δ[i]? with | some (.st _ _) => True | _ => False) ∧ t δ (fun ds δ1 => match δ1[i]? with
  | some (.st s n) => c (.st s n :: ds.map .sh) (fun d αs => stAt αs s fun n' => R d (δ1.set i (.st s n'))) fun C fs αs => stAt αs s fun n' => RX C fs (δ1.set i (.st s n'))
  | _ => False) RX
section
variable {B M M' : Fp} {H H' : Hp} {σ : L2.St} {δ : DEnv} {i : Nat} {s : Addr} {n : Nat}
theorem stAt.get {αs : List Sl} {k : Nat → Prop} (h : stAt αs s k) : ∃ n, αs[0]? = some (.st s n) ∧ k n := by
  unfold stAt at h
  split at h
  · next s' n e =>
    obtain ⟨rfl, h⟩ := h
    exact ⟨n, e, h⟩
  · exact h.elim
/-- what a callee is handed: the state at slot i, and values -/
theorem ER.handS (h : ER B M H σ δ) (e : δ[i]? = some (.st s n)) {vs : List V} {ds : List D} (l : IsL (Ex B M) H vs ds) : ∃ Bc Mc, ER Bc Mc H (some (.ref s) :: vs.map some) (.st s n :: ds.map .sh) ∧ (∀ b, Ex B M b ↔ Ex Bc Mc b) ∧
    ∀ {σ' : L2.St} {αs : List Sl} {Mc' : Fp} {H' : Hp} {n' : Nat}, ER Bc Mc' H' σ' αs → αs[0]? = some (.st s n') → Fz Bc Mc H Mc' H' → ∃ M', ER B M' H' σ (δ.set i (.st s n')) ∧ Fz B M H M' H' ∧ ∀ b, Ex B M' b → Ex Bc Mc' b := by
  have hi : i < δ.length := (List.getElem?_eq_some_iff.mp e).1
  have ev := h.st e
  have h0 := h
  obtain ⟨fs, h⟩ := h
  have q := h.at_ i
  rw [e, ev] at q
  obtain ⟨_, sa⟩ := q
  have eq : ∀ b, Ex B M b ↔ Ex (fun b => B b ∨ (M b ∧ ¬ fs i b)) (fs i) b := fun b => ⟨fun z => z.elim (fun q => .inl (.inl q)) fun q => (Classical.em (fs i b)).elim .inr fun r => .inl (.inr ⟨q, r⟩), fun z => z.elim (fun q => q.elim .inl fun r => .inr r.1) fun q => .inr ((h.own b).mpr ⟨i, q⟩)⟩
  have kA : Keep (Ex B M) H (Ex (fun b => B b ∨ (M b ∧ ¬ fs i b)) (fs i)) H := Keep.less fun b z => (eq b).mpr z
  refine ⟨fun b => B b ∨ (M b ∧ ¬ fs i b), fs i, ⟨fun j => if j = 0 then fs i else fun _ => False, by simp [l.length], fun b => ⟨fun z => ⟨0, by simpa using z⟩, fun ⟨j, z⟩ => ?_⟩, fun a c b z1 z2 => ?_, fun j => ?_, fun b hb => h0.edom (hb.imp id fun q => q.1), fun b hb z => ?_⟩, eq, ?_⟩
  · by_cases hj : j = 0
    · subst hj; simpa using z
    · simp only [if_neg hj] at z
  · by_cases ha : a = 0
    · by_cases hc : c = 0
      · rw [ha, hc]
      · simp only [if_neg hc] at z2
    · simp only [if_neg ha] at z1
  · cases j with
    | zero => exact ⟨rfl, sa⟩
    | succ j =>
      rw [List.getElem?_cons_succ, List.getElem?_cons_succ, List.getElem?_map, List.getElem?_map]
      simp only [Nat.succ_ne_zero, if_false]
      cases ed : ds[j]? with
      | none => exact fun _ z => z
      | some d =>
        obtain ⟨v, ev2, hv⟩ := l.get ed
        rw [ev2]
        exact ⟨fun _ z => z, v, rfl, hv.keep kA⟩
  · rcases hb with hb | hb
    · exact h.dis b hb ((h.own b).mpr ⟨i, z⟩)
    · exact hb.2 z
  · intro σ' αs Mc' H' n' er ea f
    obtain ⟨gs, er⟩ := er
    have q := er.at_ 0
    rw [ea] at q
    obtain ⟨_, sa'⟩ := q
    have hc : ∀ b, gs 0 b → fs i b ∨ H b = none := fun b z => f.grow b ((er.own b).mpr ⟨0, z⟩)
    have trk : ∀ b, M b → ∃ u, H b = some u := fun b z => h.mdom z
    have k : Keep (Ex B M) H (Ex B fun b => gs 0 b ∨ ∃ j, j ≠ i ∧ fs j b) H' := fun b o eb nb => by
      refine ⟨fun z => ?_, (f.keep b o eb fun z => nb (.inr ((h.own b).mpr ⟨i, z⟩))).imp id fun ⟨_, kvs, ob, e1, e2⟩ => ⟨kvs, _, .inl e1, e2, .inr ⟨ob, rfl⟩⟩⟩
      rcases z with z | z | z
      · exact nb (.inl z)
      · rcases hc b z with r | r
        · exact nb (.inr ((h.own b).mpr ⟨i, r⟩))
        · rw [eb] at r; cases r
      · exact nb (.inr (h.sub z))
    have er2 := h.put (f' := gs 0) (o' := some (.ref s)) (s' := .st s n') (H' := H') hi ⟨rfl, sa'⟩ (fun j b u hj hb eb => f.exact (.inr ⟨(h.own b).mpr ⟨j, hb⟩, fun z => hj (h.one j i b hb z)⟩) (fun z => hj (h.one j i b hb z)) eb) k
      (fun j b hj z q => by
        rcases hc b z with r | r
        · exact hj (h.one j i b q r)
        · obtain ⟨u, eu⟩ := trk b ((h.own b).mpr ⟨j, q⟩)
          rw [r] at eu; cases eu)
      (fun b z q => by
        rcases hc b z with r | r
        · exact h.dis b q ((h.own b).mpr ⟨i, r⟩)
        · obtain ⟨u, eu⟩ := h.dom b q
          rw [r] at eu; cases eu)
      (fun b o eb => by
        cases q : H' b with
        | none => rw [f.free b q] at eb; cases eb
        | some u => exact ⟨u, rfl⟩)
    rw [set_self ev] at er2
    refine ⟨_, er2, ⟨fun b o eb nb => (f.keep b o eb fun z => nb ((h.own b).mpr ⟨i, z⟩)).imp id fun z => ⟨fun q => z.1 (.inl q), z.2⟩, fun b z => ?_, f.free⟩, fun b z => ?_⟩
    · rcases z with z | z
      · exact (hc b z).imp (fun r => (h.own b).mpr ⟨i, r⟩) id
      · exact .inl (h.sub z)
    · rcases z with z | z | z
      · exact .inl (.inl z)
      · exact .inr ((er.own b).mpr ⟨0, z⟩)
      · by_cases hb : fs i b
        · obtain ⟨j, hj, z⟩ := z
          exact absurd (h.one j i b z hb) hj
        · exact .inl (.inr ⟨h.sub z, hb⟩)
end
section
variable {X : Cx} {W : WX} {k i : Nat} {ps : List Str} {x : Str} {p pos : Pos} {e e' : Expr} {es : List Expr} {t : CA} {c : CE}
theorem pd_fS (F : FnI X.prog X.w X.K X.mg X.base x k ps (spD c)) (hr : Room k X.A) (tk : Takes X W) (hv : PE X e (tVar i)) (ha : PAD X W es t) (hg : Gl X x := by rfl)
    (hdb : (x == ("__debug__" : Str)) = false := by decide) (he : starEach (e :: es) X.env = (false, eval e X.env) :: starEach es X.env := by rfl) (hpl : (backTo pos (starEach es X.env)).any (·.1) = false := by rfl) :
    PD X W (.Call (.Name x p) (e :: es) [] pos) (cCallS i c t) := by
  obtain ⟨f, fd, h1, h2, h3, h4⟩ := F.ex
  refine PE.imp (pe_callS h1 hr hg h2 h3 h4 (E := WE W) (fun σ => passAt tk σ) (pa_cons hv ha he) hdb he hpl) fun σ H Q ⟨B, M, δ, R, RX, er, ht, kk, x⟩ => ?_
  obtain ⟨h0, ht⟩ := ht
  cases e0 : δ[i]? with
  | none => rw [e0] at h0; exact h0.elim
  | some sl =>
    rw [e0] at h0
    cases sl with
    | st s n =>
      refine ⟨.ref s, er.st e0, B, M, δ, _, RX, er, ht, fun ds δ1 vs H1 M1 h1 i1 er1 f1 => ?_, x⟩
      cases e1 : δ1[i]? with
      | none => rw [e1] at h1; exact h1.elim
      | some sl1 =>
        rw [e1] at h1
        cases sl1 with
        | st s1 n1 =>
          have es : s1 = s := by
            have a := er.st e0
            have b := er1.st e1
            rw [a] at b
            cases b
            rfl
          subst es
          obtain ⟨Bc, Mc, erc, eq, back⟩ := er1.handS e1 i1
          refine ⟨Bc, Mc, _, _, _, erc, h1, fun d αs' v σ' H' M' r1 j1 er2 f2 => ?_, fun C fs αs' σ' o H' M' r1 j1 er2 f2 => ?_⟩
          · obtain ⟨n', ea, r1⟩ := r1.get
            obtain ⟨M2, er3, f3, sub⟩ := back er2 ea f2
            exact kk d _ v H' M2 r1 (j1.keep (Keep.less sub)) er3 (f1.trans f3)
          · obtain ⟨n', ea, r1⟩ := r1.get
            obtain ⟨M2, er3, f3, sub⟩ := back er2 ea f2
            exact x C fs _ o H' M2 r1 (j1.less sub) er3 (f1.trans f3)
        | emp => exact h1.elim
        | sh d => exact h1.elim
        | own ds => exact h1.elim
        | obj a C fs => exact h1.elim
        | obz a d => exact h1.elim
        | sx u ks => exact h1.elim
        | mt m => exact h1.elim
    | emp => exact h0.elim
    | sh d => exact h0.elim
    | own ds => exact h0.elim
    | obj a C fs => exact h0.elim
    | obz a d => exact h0.elim
    | sx u ks => exact h0.elim
    | mt m => exact h0.elim
/-! ### owned lists changed -/
def ownAt (δ : DEnv) (i : Nat) (k : List D → Prop) : Prop := match δ[i]? with
  | some (.own ds) => k ds
  | _ => False
theorem ownAt.get {δ : DEnv} {k : List D → Prop} (h : ownAt δ i k) : ∃ ds, δ[i]? = some (.own ds) ∧ k ds := by
  unfold ownAt at h
  split at h
  · next ds e => exact ⟨ds, e, h⟩
  · exact h.elim
def cAppend (i : Nat) (ta : CE) : CS := fun δ C => ownAt δ i (fun _ => True) ∧ ta δ (fun d δ1 => ownAt δ1 i fun ds => ds.length < sizeLine ∧ C.nx (δ1.set i (.own (ds ++ [d])))) C.ex
theorem psd_append {ta : CE} {st : Stmt} {r : TE → TA → TE} (h : ∀ to' t', PE X e to' → PA X [e'] t' → PS X st (tDrop (tBM X.K "list" rAppend to' t'))) (hv : PE X e (tVar i)) (ha : PD X W e' ta) (he : starEach [e'] X.env = (false, eval e' X.env) :: starEach [] X.env := by rfl) : PSD X W st (cAppend i ta) := by
  refine PS.imp (h _ _ hv (pa_cons ha pa_nil he)) fun N σ H ⟨B, M, δ, C, er, ⟨h0, ht⟩, k⟩ => ?_
  obtain ⟨ds0, e0, _⟩ := h0.get
  obtain ⟨p, vs0, ev, hp, _⟩ := er.ow e0
  refine ⟨_, ev, .inl ⟨rfl, _, SqL.of hp⟩, B, M, δ, _, C.ex, er, ht, fun d δ1 v H1 M1 h1 i1 er1 f1 => ?_, k.xok σ⟩
  obtain ⟨ds, e1, hz, h1⟩ := h1.get
  obtain ⟨p1, vs, ev1, hp1, hl⟩ := er1.ow e1
  rw [ev] at ev1
  cases ev1
  obtain ⟨er2, f2⟩ := er1.mut e1 ev (hl.app (.cons i1 .nil))
  exact ⟨p, vs, v, rfl, rfl, hp1, by rw [hl.length]; exact hz, k.nx _ σ _ M1 h1 er2 (f1.trans f2.fz)⟩
def cPop (i : Nat) : CE := fun δ R _ => ownAt δ i fun ds => ∃ d, ds[ds.length - 1]? = some d ∧ R d (δ.set i (.own ds.dropLast))
theorem IsL.dropLast {A : Fp} {H : Hp} {vs : List V} {ds : List D} (h : IsL A H vs ds) : IsL A H vs.dropLast ds.dropLast := by
  rw [List.dropLast_eq_take, List.dropLast_eq_take, h.length]
  exact h.take _
theorem pd_pop {e0 : Expr} (h : ∀ to', PE X e to' → PE X e0 (tBM0 X.K "list" rPop to')) (hv : PE X e (tVar i)) : PD X W e0 (cPop i) := by
  refine PE.imp (h _ hv) fun σ H Q ⟨B, M, δ, R, RX, er, ht, k, x⟩ => ?_
  obtain ⟨ds, e0, d, ed, h1⟩ := ht.get
  obtain ⟨p, vs, ev, hp, hl⟩ := er.ow e0
  obtain ⟨v, ew, hw⟩ := hl.get ed
  obtain ⟨er2, f2⟩ := er.mut e0 ev hl.dropLast
  refine ⟨_, ev, .inl ⟨rfl, _, SqL.of hp⟩, p, vs, v, rfl, rfl, hp, by rw [hl.length]; exact ew, k d _ v _ M h1 (hw.keep (Keep.fr f2.fz)) er2 f2.fz⟩
def cPopAt (i : Nat) (ta : CE) : CE := fun δ R RX => ownAt δ i (fun _ => True) ∧ ta δ (fun a δ1 => match a with
  | .int j => ownAt δ1 i fun ds => ∃ k d, -(2 ^ 63) ≤ j ∧ j < 2 ^ 63 ∧ seqIndex? j ds.length = some k ∧ ds[k]? = some d ∧ R d (δ1.set i (.own (ds.eraseIdx k)))
  | _ => False) RX
theorem IsL.erase {A : Fp} {H : Hp} : ∀ {vs : List V} {ds : List D} (k : Nat), IsL A H vs ds → IsL A H (vs.eraseIdx k) (ds.eraseIdx k)
  | _, _, _, .nil => .nil
  | _, _, 0, .cons _ t => t
  | _, _, k + 1, .cons h t => .cons h (t.erase k)
theorem pd_popAt {e0 : Expr} {ta : CE} (h : ∀ to' t', PE X e to' → PA X [e'] t' → PE X e0 (tBM X.K "list" rPopAt to' t')) (hv : PE X e (tVar i)) (ha : PD X W e' ta) (he : starEach [e'] X.env = (false, eval e' X.env) :: starEach [] X.env := by rfl) : PD X W e0 (cPopAt i ta) := by
  refine PE.imp (h _ _ hv (pa_cons ha pa_nil he)) fun σ H Q ⟨B, M, δ, R, RX, er, ⟨h0, ht⟩, k, x⟩ => ?_
  obtain ⟨ds0, e0, _⟩ := h0.get
  obtain ⟨p, vs0, ev, hp, _⟩ := er.ow e0
  refine ⟨_, ev, .inl ⟨rfl, _, SqL.of hp⟩, B, M, δ, _, RX, er, ht, fun a δ1 v H1 M1 h1 i1 er1 f1 => ?_, x⟩
  split at h1
  · cases i1
    obtain ⟨ds, e1, kk, d, b1, b2, hk, hd, h1⟩ := h1.get
    obtain ⟨p1, vs, ev1, hp1, hl⟩ := er1.ow e1
    rw [ev] at ev1
    cases ev1
    obtain ⟨w, ew, hw⟩ := hl.get hd
    obtain ⟨er2, f2⟩ := er1.mut e1 ev (hl.erase kk)
    exact ⟨p, vs, _, kk, w, rfl, rfl, hp1, b1, b2, by rw [hl.length]; exact hk, ew, k d _ w _ M1 h1 (hw.keep (Keep.fr f2.fz)) er2 (f1.trans f2.fz)⟩
  · exact h1.elim
/-- xs.insert(j, y) -/
def cInsert (i : Nat) (t : CA) : CS := fun δ C => ownAt δ i (fun _ => True) ∧ t δ (fun as δ1 => match as with
  | [.int j, d] => ownAt δ1 i fun ds => ds.length < sizeLine ∧ 0 ≤ j ∧ j < 2 ^ 63 ∧ C.nx (δ1.set i (.own (ds.take j.toNat ++ [d] ++ ds.drop j.toNat)))
  | _ => False) C.ex
theorem psd_insert {es : List Expr} {st : Stmt} {t : CA} (h : ∀ to' t', PE X e to' → PA X es t' → PS X st (tDrop (tBM X.K "list" (fun x vs H Q => ∃ (l : Addr) (xs : List V) (i : Int) (y : V), x = .ref l ∧ vs = [.int i, y] ∧ H l = some (.lst xs) ∧ xs.length < sizeLine ∧ 0 ≤ i ∧ i < 2 ^ 63 ∧
    Q .non (upd H l (.lst (xs.take i.toNat ++ [y] ++ xs.drop i.toNat)))) to' t'))) (hv : PE X e (tVar i)) (ha : PAD X W es t) : PSD X W st (cInsert i t) := by
  refine PS.imp (h _ _ hv ha) fun N σ H ⟨B, M, δ, C, er, ⟨h0, ht⟩, k⟩ => ?_
  obtain ⟨ds0, e0, _⟩ := h0.get
  obtain ⟨p, vs0, ev, hp, _⟩ := er.ow e0
  refine ⟨_, ev, .inl ⟨rfl, _, SqL.of hp⟩, B, M, δ, _, C.ex, er, ht, fun as δ1 us H1 M1 h1 i1 er1 f1 => ?_, k.xok σ⟩
  split at h1
  · cases i1 with
    | cons a t =>
      cases a
      cases t with
      | cons b t =>
        cases t
        obtain ⟨ds, e1, hz, b1, b2, h1⟩ := h1.get
        obtain ⟨p1, vs, ev1, hp1, hl⟩ := er1.ow e1
        rw [ev] at ev1
        cases ev1
        obtain ⟨er2, f2⟩ := er1.mut e1 ev (((hl.take _).app (.cons b .nil)).app (hl.drop _))
        exact ⟨p, vs, _, _, rfl, rfl, hp1, by rw [hl.length]; exact hz, b1, b2, k.nx _ σ _ M1 h1 er2 (f1.trans f2.fz)⟩
  · exact h1.elim
/-- xs[j] = y, xs a name -/
def cPutIx (i : Nat) (tv tj : CE) : CS := fun δ C => tv δ (fun d δ0 => ownAt δ0 i (fun _ => True) ∧ tj δ0 (fun a δ1 => match a with
  | .int j => ownAt δ1 i fun ds => ∃ k, ixN ds.length j = some k ∧ C.nx (δ1.set i (.own (ds.set k d)))
  | _ => False) C.ex) C.ex
theorem psd_putIx {e2 : Expr} {tv tj : CE} {st : Stmt} (h : ∀ te to' ti, PE X e' te → PE X e to' → PE X e2 ti → PS X st (tAsg te (gSub to' ti fun o i v H Q => ∃ l xs j k, o = .ref l ∧ i = .int j ∧ H l = some (.lst xs) ∧ ixN xs.length j = some k ∧ Q (upd H l (.lst (xs.set k v))))))
    (hv : PE X e (tVar i)) (ha : PD X W e' tv) (hb : PD X W e2 tj) : PSD X W st (cPutIx i tv tj) := by
  refine PS.imp (h _ _ _ ha hv hb) fun N σ H ⟨B, M, δ, C, er, ht, k⟩ => ?_
  refine ⟨B, M, δ, _, C.ex, er, ht, fun d δ0 v H0 M0 ⟨h0, h1⟩ i0 er0 f0 => ?_, k.xok σ⟩
  obtain ⟨ds0, e0, _⟩ := h0.get
  obtain ⟨p, vs0, ev, hp, _⟩ := er0.ow e0
  refine ⟨_, ev, B, M0, δ0, _, C.ex, er0, h1, fun a δ1 u H1 M1 h1 i1 er1 f1 => ?_, (k.fr f0).xok σ⟩
  split at h1
  · cases i1
    obtain ⟨ds, e1, kk, hk, h1⟩ := h1.get
    obtain ⟨p1, vs, ev1, hp1, hl⟩ := er1.ow e1
    rw [ev] at ev1
    cases ev1
    obtain ⟨er2, f2⟩ := er1.mut e1 ev (IsL.set (i0.keep (Keep.fr f1)) kk hl)
    exact ⟨p, vs, _, kk, rfl, rfl, hp1, by rw [hl.length]; exact hk, k.nx _ σ _ M1 h1 er2 ((f0.trans f1).trans f2.fz)⟩
  · exact h1.elim
/-! ### a name's value looked at -/
def less1 (A : Fp) (p : Addr) : Fp := fun b => A b ∧ b ≠ p
theorem Pk.is {A : Fp} {H : Hp} {v : V} {d : D} (h : Pk A H v d) : ∃ p, Is (less1 A p) H v d := by
  cases h with
  | sh h => exact ⟨0, h.keep (Keep.less fun b z => z.1)⟩
  | own hp hl => exact ⟨_, .lst hp (fun z => z.2 rfl) (hl.keep (Keep.less fun b z => z.1))⟩
theorem Is.flat {A A' : Fp} {H : Hp} {v : V} {d : D} (h : Is A H v d) (f : flatD d = true) : Is A' H v d := by
  cases h with
  | non => exact .non
  | bl b => exact .bl b
  | int i => exact .int i
  | str s hs => exact .str s hs
  | tup _ _ _ => cases f
  | lst _ _ _ => cases f
  | dic _ _ _ => cases f
  | ins _ _ _ => cases f
  | cls a => cases f
  | exn0 _ _ => cases f
  | exn1 _ _ _ => cases f
def pkAt (δ : DEnv) (i : Nat) (k : D → Prop) : Prop := match pk δ i with
  | some d => k d
  | none => False
theorem pkAt.get {δ : DEnv} {k : D → Prop} (h : pkAt δ i k) : ∃ d, Xl.pk δ i = some d ∧ k d := by
  unfold pkAt at h
  split at h
  · next d e => exact ⟨d, e, h⟩
  · exact h.elim
/-- f(x, b), x a name; the answer is flat -/
def cOp1 (r : CR2) (i : Nat) (tb : CE) : CE := fun δ R RX => pkAt δ i (fun _ => True) ∧ tb δ (fun d2 δ1 => pkAt δ1 i fun d1 => r d1 d2 fun d => flatD d = true ∧ R d δ1) RX
def cOp2 (r : CR2) (ta : CE) (j : Nat) : CE := fun δ R RX => ta δ (fun d1 δ1 => pkAt δ1 j fun d2 => r d1 d2 fun d => flatD d = true ∧ R d δ1) RX
variable {a b : Expr} {ta tb : CE} {r : CR2}
theorem lift_op1 {σ : L2.St} {H : Hp} {Q : VK} (h : liftE W (cOp1 r i tb) σ H Q) : tOp (liftR r) (tVar i) (liftE W tb) σ H Q := by
  obtain ⟨B, M, δ, R, RX, er, ⟨h0, ht⟩, k, x⟩ := h
  obtain ⟨d0, e0, _⟩ := h0.get
  obtain ⟨v, ev, _⟩ := er.pk e0
  refine ⟨v, ev, B, M, δ, _, RX, er, ht, fun d2 δ1 v2 H1 M1 h1 i1 er1 f1 => ?_, x⟩
  obtain ⟨d1, e1, h1⟩ := h1.get
  obtain ⟨v1, ev1, hv1⟩ := er1.pk e1
  rw [ev] at ev1
  cases ev1
  obtain ⟨p, hI⟩ := hv1.is
  exact ⟨less1 (Ex B M1) p, d1, d2, _, fun b hb => er1.edom hb.1, hI, i1.keep (Keep.less fun b z => z.1), h1, fun d w H3 hd s3 hw => k d δ1 w H3 M1 hd.2 (hw.flat hd.1) (er1.same s3) (f1.trans (Fz.same s3))⟩
theorem lift_op2 {σ : L2.St} {H : Hp} {Q : VK} {j : Nat} (h : liftE W (cOp2 r ta j) σ H Q) : tOp (liftR r) (liftE W ta) (tVar j) σ H Q := by
  obtain ⟨B, M, δ, R, RX, er, ht, k, x⟩ := h
  refine ⟨B, M, δ, _, RX, er, ht, fun d1 δ1 v1 H1 M1 h1 i1 er1 f1 => ?_, x⟩
  obtain ⟨d2, e1, h1⟩ := h1.get
  obtain ⟨v2, ev, hv⟩ := er1.pk e1
  obtain ⟨p, hI⟩ := hv.is
  exact ⟨v2, ev, less1 (Ex B M1) p, d1, d2, _, fun b hb => er1.edom hb.1, i1.keep (Keep.less fun b z => z.1), hI, h1, fun d w H3 hd s3 hw => k d δ1 w H3 M1 hd.2 (hw.flat hd.1) (er1.same s3) (f1.trans (Fz.same s3))⟩
theorem pd_cmp1 {op : CmpOp} (ho : OpR X (compareOp op) (liftR r)) (ha : PE X a (tVar i)) (hb : PD X W b tb) (hm : behindInMarks op b = false) : PD X W (.Compare a [op] [b] pos) (cOp1 r i tb) := PE.imp (pe_cmpR ho ha hb hm) fun _ _ _ h => lift_op1 h
theorem pd_cmp2 {op : CmpOp} {j : Nat} (ho : OpR X (compareOp op) (liftR r)) (ha : PD X W a ta) (hb : PE X b (tVar j)) (hm : behindInMarks op b = false) : PD X W (.Compare a [op] [b] pos) (cOp2 r ta j) := PE.imp (pe_cmpR ho ha hb hm) fun _ _ _ h => lift_op2 h
theorem ptd_cmp1 {op : CmpOp} (ho : OpR X (compareOp op) (liftR r)) (ha : PE X a (tVar i)) (hb : PD X W b tb) (hm : behindInMarks op b = false) : PTD X W (.Compare a [op] [b] pos) (cTst (cOp1 r i tb)) := PT.imp (pt_cmpR ho ha hb hm) fun _ _ _ h => lift_op1 (lift_tst h)
theorem ptd_cmp2 {op : CmpOp} {j : Nat} (ho : OpR X (compareOp op) (liftR r)) (ha : PD X W a ta) (hb : PE X b (tVar j)) (hm : behindInMarks op b = false) : PTD X W (.Compare a [op] [b] pos) (cTst (cOp2 r ta j)) := PT.imp (pt_cmpR ho ha hb hm) fun _ _ _ h => lift_op2 (lift_tst h)
/-- xs[j], xs a name -/
def cIxN (i : Nat) (tb : CE) : CE := fun δ R RX => pkAt δ i (fun _ => True) ∧ tb δ (fun d2 δ1 => pkAt δ1 i fun d1 => rIx d1 d2 fun d => R d δ1) RX
theorem pd_ixN (hu : X.A.units + 1 < cLine) (ha : PE X a (tVar i)) (hb : PD X W b tb) (hs : PlainIx b) : PD X W (.Subscript a b pos) (cIxN i tb) := by
  refine PE.imp (pe_ix (r := fun x y H Q => liftR rIx x y H Q ∨ ∃ p vs j v, x = .ref p ∧ y = .int j ∧ H p = some (.lst vs) ∧ atI vs j = some v ∧ Q v H) ?_ ha hb hs) fun σ H Q ⟨B, M, δ, R, RX, er, ⟨h0, ht⟩, k, x⟩ => ?_
  · intro value slice pins s σ H x y v u Q I rx ry h hs'
    rcases h with h | ⟨p, vs, j, w, h1, h2, h3, h4, q⟩
    · exact xd_ix hu value slice pins s σ H x y v u Q I rx ry h hs'
    · exact ix_list value slice pins s σ H x y v u Q I rx ry ⟨p, vs, j, w, h1, h2, SqL.of h3, h4, q⟩ hs'
  · obtain ⟨d0, e0, _⟩ := h0.get
    obtain ⟨v, ev, _⟩ := er.pk e0
    refine ⟨v, ev, B, M, δ, _, RX, er, ht, fun d2 δ1 v2 H1 M1 h1 i1 er1 f1 => ?_, x⟩
    obtain ⟨d1, e1, h1⟩ := h1.get
    obtain ⟨v1, ev1, hv1⟩ := er1.pk e1
    rw [ev] at ev1
    cases ev1
    cases hv1 with
    | sh hv1 => exact .inl ⟨Ex B M1, d1, d2, _, fun b hb => er1.edom hb, hv1, i1, h1, fun d w H3 hd s3 hw => k d δ1 w H3 M1 hd hw (er1.same s3) (f1.trans (Fz.same s3))⟩
    | own hp hl =>
      cases i1 with
      | int j =>
        obtain ⟨d, ed, h1⟩ := h1
        obtain ⟨w, ew, hw⟩ := atI_is hl ed
        exact .inr ⟨_, _, _, w, rfl, rfl, hp, ew, k d δ1 w H1 M1 h1 hw er1 f1⟩
      | non => exact h1.elim
      | bl b => exact h1.elim
      | str s hs => exact h1.elim
      | tup _ _ _ => exact h1.elim
      | lst _ _ _ => exact h1.elim
      | dic _ _ _ => exact h1.elim
      | ins _ _ _ => exact h1.elim
      | cls a => exact h1.elim
      | exn0 _ _ => exact h1.elim
      | exn1 _ _ _ => exact h1.elim
/-- len(xs), xs a name -/
def cLenN (i : Nat) : CE := fun δ R _ => pkAt δ i fun d => rLen [d] fun z => flatD z = true ∧ R z δ
theorem pd_lenN {e0 : Expr} (h : ∀ t', PA X [e] t' → PE X e0 (tCB (liftC rLen) t')) (hv : PE X e (tVar i)) (he : starEach [e] X.env = (false, eval e X.env) :: starEach [] X.env := by rfl) : PD X W e0 (cLenN i) := by
  refine PE.imp (h _ (pa_cons hv pa_nil he)) fun σ H Q ⟨B, M, δ, R, RX, er, ht, k, x⟩ => ?_
  obtain ⟨d, e0, h1⟩ := ht.get
  obtain ⟨v, ev, hv⟩ := er.pk e0
  obtain ⟨p, hI⟩ := hv.is
  exact ⟨v, ev, less1 (Ex B M) p, [d], _, fun b hb => er.edom hb.1, .cons hI .nil, h1, fun z w H3 hd s3 hw => k z δ w H3 M hd.2 (hw.flat hd.1) (er.same s3) (Fz.same s3)⟩
end
end Xl


namespace Xl
open PySem PySem.Spec PyProof.Rows L2
def putFD (f : Str) (d : D) : List (Str × D) → List (Str × D)
  | [] => [(f, d)]
  | (g, x) :: r => if g = f then (g, d) :: r else (g, x) :: putFD f d r
theorem IsF.put {A : Fp} {H : Hp} {f : Str} {v : V} {d : D} (h : Is A H v d) : ∀ {vs : List (Str × V)} {ds : List (Str × D)}, IsF A H vs ds → IsF A H (putF f v vs) (putFD f d ds)
  | _, _, .nil => .cons h .nil
  | _, _, .cons (k := k) h' t => by
    unfold putF putFD
    split
    · exact .cons h t
    · exact .cons h' (IsF.put h t)
theorem IsF.length {A : Fp} {H : Hp} : ∀ {vs : List (Str × V)} {ds : List (Str × D)}, IsF A H vs ds → vs.length = ds.length
  | _, _, .nil => rfl
  | _, _, .cons _ t => by rw [List.length_cons, List.length_cons, t.length]
theorem ER.mutO {B M : Fp} {H : Hp} {σ : L2.St} {δ : DEnv} {i : Nat} {a C : Addr} {ds ds' : List (Str × D)} (h : ER B M H σ δ) (e : δ[i]? = some (.obj a C ds)) {dx : Addr} {vs vs' : List (Str × V)} (ha : H a = some (.ins C dx vs)) (hv : IsF (Ex B M) H vs' ds') :
    ER B M (upd H a (.ins C dx vs')) σ (δ.set i (.obj a C ds')) ∧ Fr M H M (upd H a (.ins C dx vs')) := by
  have hi : i < δ.length := (List.getElem?_eq_some_iff.mp e).1
  have ev := (h.obj e).1
  obtain ⟨fs, h⟩ := h
  have q := h.at_ i
  rw [e, ev] at q
  obtain ⟨_, dx', vs0, h1, h2, h3, hf⟩ := q
  rw [ha] at h1
  cases h1
  have hM : M a := (h.own a).mpr ⟨i, (hf a).mpr (.inl rfl)⟩
  have nda : dx ≠ a := fun z => by rw [z, ha] at h2; cases h2
  have eM : (fun b => (b = a ∨ b = dx) ∨ ∃ j, j ≠ i ∧ fs j b) = M := by
    funext b
    refine propext ⟨fun z => z.elim (fun q => (h.own b).mpr ⟨i, (hf b).mpr q⟩) h.sub, fun z => ?_⟩
    obtain ⟨j, hj⟩ := (h.own b).mp z
    by_cases q : j = i
    · subst q; exact .inl ((hf b).mp hj)
    · exact .inr ⟨j, q, hj⟩
  have k : Keep (Ex B M) H (Ex B M) (upd H a (.ins C dx vs')) := fun b o eb nb => ⟨nb, .inl (by rw [upd_ne fun (z : b = a) => nb (.inr (z ▸ hM))]; exact eb)⟩
  have q := h.put (f' := fun b => b = a ∨ b = dx) (o' := some (.ref a)) (s' := .obj a C ds') (H' := upd H a (.ins C dx vs')) hi (by rw [eM]; exact ⟨rfl, dx, vs', upd_same, by rw [upd_ne nda]; exact h2, hv.keep k, fun _ => Iff.rfl⟩)
    (fun j b u hj hb eb => by rw [upd_ne fun (z : b = a) => hj (h.one j i b hb ((hf b).mpr (.inl z)))]; exact eb) (by rw [eM]; exact k) (fun j b hj z q => hj (h.one j i b q ((hf b).mpr z))) (fun b z q => h.dis b q ((h.own b).mpr ⟨i, (hf b).mpr z⟩))
    (fun b o eb => by
      by_cases hb : b = a
      · subst hb; exact ⟨_, upd_same⟩
      · exact ⟨o, by rw [upd_ne hb]; exact eb⟩)
  rw [eM, set_self ev] at q
  exact ⟨q, fun b o eb nb => by rw [upd_ne fun (z : b = a) => nb (z ▸ hM)]; exact eb, fun b z => .inl z, fun b z => upd_free z⟩
/-- the fields of the thing at slot i -/
def fldsAt (δ : DEnv) (i : Nat) : Option (Addr × List (Str × D)) := match δ[i]? with
  | some (.obj _ C fs) => some (C, fs)
  | some (.obz _ (.ins C fs)) => some (C, fs)
  | some (.sh (.ins C fs)) => some (C, fs)
  | _ => none
theorem ER.flds {B M : Fp} {H : Hp} {σ : L2.St} {δ : DEnv} {i : Nat} {C : Addr} {fs : List (Str × D)} (h : ER B M H σ δ) (e : fldsAt δ i = some (C, fs)) : ∃ a dx vs, σ[i]? = some (some (.ref a)) ∧ H a = some (.ins C dx vs) ∧ IsF (Ex B M) H vs fs := by
  unfold fldsAt at e
  split at e
  · next a C' fs' q =>
    cases e
    obtain ⟨ev, dx, vs, h1, h2, h3⟩ := h.obj q
    exact ⟨a, dx, vs, ev, h1, h3⟩
  · next a C' fs' q =>
    cases e
    obtain ⟨ev, hv⟩ := h.obz q
    cases hv with
    | ins h1 n l => exact ⟨a, _, _, ev, h1, l⟩
  · next C' fs' q =>
    cases e
    obtain ⟨v, ev, hv⟩ := h.sh q
    cases hv with
    | ins h1 n l => exact ⟨_, _, _, ev, h1, l⟩
  · cases e
def optAt {α : Type} (o : Option α) (k : α → Prop) : Prop := match o with
  | some x => k x
  | none => False
theorem optAt.get {α : Type} {o : Option α} {k : α → Prop} (h : optAt o k) : ∃ x, o = some x ∧ k x := by
  cases o with
  | none => exact h.elim
  | some x => exact ⟨x, rfl, h⟩
def cFld (C : Addr) (f : Str) (ta : CE) : CE := fun δ R RX => ta δ (fun d δ1 => match d with
  | .ins C' fs => C' = C ∧ optAt (fs.lookup f) fun x => R x δ1
  | _ => False) RX
def cFldN (C : Addr) (f : Str) (i : Nat) : CE := fun δ R _ => optAt (fldsAt δ i) fun p => p.1 = C ∧ optAt (p.2.lookup f) fun x => R x δ
def cStF (C : Addr) (i : Nat) (f : Str) (tv : CE) : CS := fun δ K => tv δ (fun d δ1 => match δ1[i]? with
  | some (.obj a C' fs) => C' = C ∧ fs.length < 1000 ∧ K.nx (δ1.set i (.obj a C (putFD f d fs)))
  | _ => False) K.ex
section
variable {X : Cx} {W : WX} {k i : Nat} {C : Addr} {f x m : Str} {p pos apos : Pos} {e o : Expr} {es : List Expr} {ta : CE} {t : CA} {c : CE}
theorem pd_fld (hcl : Cls X.K C) (hno : NoAttr X.K C f) (he : PD X W e ta) (hb : attributeBase e f X.env (eval e X.env) = eval e X.env := by rfl) : PD X W (.Attribute e f pos) (cFld C f ta) := PE.imp (pe_fld he hb) fun σ H Q ⟨B, M, δ, R, RX, er, ht, k, x⟩ => by
  refine ⟨B, M, δ, _, RX, er, ht, fun d δ1 v H1 M1 h1 i1 er1 f1 => ?_, x⟩
  split at h1
  · obtain ⟨rfl, h1⟩ := h1
    obtain ⟨y, ey, h1⟩ := h1.get
    cases i1 with
    | ins e1 n l =>
      obtain ⟨u, eu, hu⟩ := l.look ey
      exact ⟨_, _, _, _, u, rfl, e1, hcl, hno, eu, k y δ1 u H1 M1 h1 hu er1 f1⟩
  · exact h1.elim
theorem pd_fldN (hcl : Cls X.K C) (hno : NoAttr X.K C f) (he : PE X e (tVar i)) (hb : attributeBase e f X.env (eval e X.env) = eval e X.env := by rfl) : PD X W (.Attribute e f pos) (cFldN C f i) := PE.imp (pe_fld he hb) fun σ H Q ⟨B, M, δ, R, RX, er, ht, k, x⟩ => by
  obtain ⟨⟨C', fs⟩, e1, ec, ht2⟩ := ht.get
  cases ec
  obtain ⟨y, ey, ht⟩ := ht2.get
  obtain ⟨a, dx, vs, ev, h1, l⟩ := er.flds e1
  obtain ⟨u, eu, hu⟩ := l.look ey
  exact ⟨_, ev, a, C', dx, vs, u, rfl, h1, hcl, hno, eu, k y δ u H M ht hu er (Fz.refl _ _)⟩
theorem psd_fld {value : Expr} {tv : CE} {pos' : Pos} (hcl : Cls X.K C) (hno : NoAttr X.K C f) (he : PE X o (tVar i)) (hv : PD X W value tv) (hs : swapsWith value (some (.Attribute o f pos')) pos.line X.env = pure false := by rfl) : PSD X W (.Assign [.Attribute o f pos'] value pos) (cStF C i f tv) := PS.imp (ps_fld he hv hs) fun N σ H ⟨B, M, δ, K, er, ht, k⟩ => by
  refine ⟨B, M, δ, _, K.ex, er, ht, fun d δ1 v H1 M1 h1 i1 er1 f1 => ?_, k.xok σ⟩
  split at h1
  · next a C' fs e1 =>
    obtain ⟨rfl, hz, h1⟩ := h1
    obtain ⟨ev, dx, vs, h2, h3, l⟩ := er1.obj e1
    obtain ⟨er2, f2⟩ := er1.mutO e1 h2 (IsF.put i1 l)
    exact ⟨_, ev, a, C', dx, vs, rfl, h2, hcl, hno, by rw [l.length]; exact hz, k.nx _ σ _ M1 h1 er2 (f1.trans f2.fz)⟩
  · exact h1.elim
/-! ### methods -/
def tMethS (C : Addr) (m : Str) (sp : Sp) (E : L2.St → XK) (ta : TE) (t : TA) : TE := fun σ H Q => ta σ H fun x H1 => ∃ a dx fs, x = .ref a ∧ H1 a = some (.ins C dx fs) ∧ fs.lookup m = none ∧ t σ H1 fun vs H2 => sp (x :: vs) H2 Q (E σ)
theorem pe_mtS {pl : Sem Bool} {sp : Sp} {ta : TE} {t : TA} (F : MeI X.prog X.w X.K X.mg X.base C m k sp) (hr : Room k X.A) (tk : Takes X W) (he : PE X o ta) (ha : PA X (e :: es) t)
    (ht : eval (.Call (.Attribute o m apos) (e :: es) [] pos) X.env = (do
      let ov ← eval o X.env
      standAt apos.atName
      let (f, first) ← holding [ov] (getMethod ov m pl)
      callWith pos f first (backTo pos (starEach (e :: es) X.env)) (backToKw pos (keywordEach [] X.env))) := by rfl)
    (hst : starEach (e :: es) X.env = (false, eval e X.env) :: starEach es X.env := by rfl) (hpl : (backTo pos (starEach es X.env)).any (·.1) = false := by rfl) :
    PE X (.Call (.Attribute o m apos) (e :: es) [] pos) (tMethS C m sp (WE W) ta t) := by
  obtain ⟨f, fd, ps, c, M, G, hb⟩ := F.ex
  refine ⟨fun pins s σ H Q I h => ?_⟩
  refine PySem.W.methodCall_KW (pl := pl) (thn (he.run pins s σ H _ I h) fun u s1 ⟨x, H1, I1, rx, a, dx, fs, ex, ea, l, q⟩ => ?_) ht
  subst ex
  obtain rfl : u = Value.ref a := rx
  refine getmeth_ok I1 ea c M l ?_
  refine PySem.W.callWith_K (first := [.ref a]) (h₀ := X.base) I.ok.mod.kin M.kp (thn (ha.run pos pins s1 σ H1 _ I1 q) fun us s2 ⟨vs, H2, I2, r, q2⟩ => ⟨I2.kIn, ?_⟩) hst hpl
  have hl : (Value.ref a :: us ++ []).length = ps.length := by
    have := G.len _ _ _ _ q2
    rw [List.append_nil, List.length_cons, ← r.length]
    simpa using this
  have hb2 := hb s2 (.ref a :: us) I2.kIn hl
  rw [List.append_nil] at hb2
  exact wpAny_call (end_fnS (vs := .ref a :: vs) (us := .ref a :: us) G hr (passAt tk σ) I2 hb2 (.cons rfl r) q2)
theorem pe_mtS0 {pl : Sem Bool} {sp : Sp} {ta : TE} (F : MeI X.prog X.w X.K X.mg X.base C m k sp) (hr : Room k X.A) (tk : Takes X W) (he : PE X o ta)
    (ht : eval (.Call (.Attribute o m apos) [] [] pos) X.env = (do
      let ov ← eval o X.env
      standAt apos.atName
      let (f, first) ← holding [ov] (getMethod ov m pl)
      callWith pos f first (backTo pos (starEach [] X.env)) (backToKw pos (keywordEach [] X.env))) := by rfl) :
    PE X (.Call (.Attribute o m apos) [] [] pos) (tMethS C m sp (WE W) ta tNil) := by
  obtain ⟨f, fd, ps, c, M, G, hb⟩ := F.ex
  refine ⟨fun pins s σ H Q I h => ?_⟩
  refine PySem.W.methodCall_KW (pl := pl) (thn (he.run pins s σ H _ I h) fun u s1 ⟨x, H1, I1, rx, a, dx, fs, ex, ea, l, q2⟩ => ?_) ht
  subst ex
  obtain rfl : u = Value.ref a := rx
  refine getmeth_ok I1 ea c M l ?_
  refine PySem.W.callWith_K0 (first := [.ref a]) I1.kIn M.kp ?_
  have hl : ([Value.ref a] ++ []).length = ps.length := G.len _ _ _ _ q2
  have hb2 := hb s1 [.ref a] I1.kIn hl
  rw [List.append_nil] at hb2
  exact wpAny_call (end_fnS (vs := [.ref a]) (us := [.ref a]) G hr (passAt tk σ) I1 hb2 (.cons rfl .nil) q2)
def cMeth (C : Addr) (m : Str) (c : CE) (ta : CE) (t : CA) : CE := fun δ R RX => ta δ (fun d δ1 => match d with
  | .ins C' fs => C' = C ∧ fs.lookup m = none ∧ t δ1 (fun ds δ2 => c (.sh d :: ds.map .sh) (fun d' _ => R d' δ2) fun Cx fs _ => RX Cx fs δ2) RX
  | _ => False) RX
theorem lift_meth {σ : L2.St} {H : Hp} {Q : VK} (h : liftE W (cMeth C m c ta t) σ H Q) : tMethS C m (spD c) (WE W) (liftE W ta) (liftA W t) σ H Q := by
  obtain ⟨B, M, δ, R, RX, er, ht, kk, x⟩ := h
  refine ⟨B, M, δ, _, RX, er, ht, fun d δ1 v H1 M1 h1 i1 er1 f1 => ?_, x⟩
  split at h1
  · next C' fs =>
    obtain ⟨rfl, hl, h1⟩ := h1
    have i1' := i1
    cases i1 with
    | ins e1 n l =>
      refine ⟨_, _, _, rfl, e1, l.none hl, B, M1, δ1, _, RX, er1, h1, fun ds δ2 vs H2 M2 h2 i2 er2 f2 => ?_, x.fr f1⟩
      exact lift_sp (ds := _ :: ds) er2 (.cons (i1'.keep (Keep.fr f2)) i2) h2 (fun d δ' v H' M' r1 r2 r3 r4 => kk d δ' v H' M' r1 r2 r3 (f1.trans (f2.trans r4))) (x.fr (f1.trans f2))
  · exact h1.elim
theorem pd_mt {pl : Sem Bool} (F : MeI X.prog X.w X.K X.mg X.base C m k (spD c)) (hr : Room k X.A) (tk : Takes X W) (he : PD X W o ta) (ha : PAD X W (e :: es) t)
    (ht : eval (.Call (.Attribute o m apos) (e :: es) [] pos) X.env = (do
      let ov ← eval o X.env
      standAt apos.atName
      let (f, first) ← holding [ov] (getMethod ov m pl)
      callWith pos f first (backTo pos (starEach (e :: es) X.env)) (backToKw pos (keywordEach [] X.env))) := by rfl)
    (hst : starEach (e :: es) X.env = (false, eval e X.env) :: starEach es X.env := by rfl) (hpl : (backTo pos (starEach es X.env)).any (·.1) = false := by rfl) :
    PD X W (.Call (.Attribute o m apos) (e :: es) [] pos) (cMeth C m c ta t) := PE.imp (pe_mtS F hr tk he ha ht hst hpl) fun _ _ _ h => lift_meth h
theorem pd_mt0 {pl : Sem Bool} (F : MeI X.prog X.w X.K X.mg X.base C m k (spD c)) (hr : Room k X.A) (tk : Takes X W) (he : PD X W o ta)
    (ht : eval (.Call (.Attribute o m apos) [] [] pos) X.env = (do
      let ov ← eval o X.env
      standAt apos.atName
      let (f, first) ← holding [ov] (getMethod ov m pl)
      callWith pos f first (backTo pos (starEach [] X.env)) (backToKw pos (keywordEach [] X.env))) := by rfl) :
    PD X W (.Call (.Attribute o m apos) [] [] pos) (cMeth C m c ta caNil) := PE.imp (pe_mtS0 F hr tk he ht) fun σ H Q ⟨B, M, δ, R, RX, er, ht, kk, x⟩ => by
  refine ⟨B, M, δ, _, RX, er, ht, fun d δ1 v H1 M1 h1 i1 er1 f1 => ?_, x⟩
  split at h1
  · next C' fs =>
    obtain ⟨rfl, hl, h1⟩ := h1
    have i1' := i1
    cases i1 with
    | ins e1 n l =>
      refine ⟨_, _, _, rfl, e1, l.none hl, ?_⟩
      exact lift_sp (ds := [_]) er1 (.cons i1' .nil) h1 (fun d δ' v H' M' r1 r2 r3 r4 => kk d δ' v H' M' r1 r2 r3 (f1.trans r4)) (x.fr f1)
  · exact h1.elim
/-- a property: nothing may be raised -/
def cProp (C : Addr) (c : CE) (ta : CE) : CE := fun δ R RX => ta δ (fun d δ1 => match d with
  | .ins C' _ => C' = C ∧ c [.sh d] (fun d' _ => R d' δ1) FX
  | _ => False) RX
theorem pd_pr (F : PrI X.prog X.w X.K X.mg X.base C m k (spD c)) (hr : Room (k + 1) X.A) (he : PD X W e ta) (hab : attributeBase e m X.env (eval e X.env) = eval e X.env := by rfl) : PD X W (.Attribute e m pos) (cProp C c ta) := PE.imp (pe_pr F hr (E := E0) passL he hab) fun σ H Q ⟨B, M, δ, R, RX, er, ht, kk, x⟩ => by
  refine ⟨B, M, δ, _, RX, er, ht, fun d δ1 v H1 M1 h1 i1 er1 f1 => ?_, x⟩
  split at h1
  · obtain ⟨rfl, h1⟩ := h1
    have i1' := i1
    cases i1 with
    | ins e1 n l => exact ⟨_, _, _, rfl, e1, lift_sp (W := W0) (RX := FX) (ds := [_]) er1 (.cons i1' .nil) h1 (fun d δ' v H' M' r1 r2 r3 r4 => kk d δ' v H' M' r1 r2 r3 (f1.trans r4)) xok0⟩
  · exact h1.elim
/-! ### making -/
def objAt (αs : List Sl) (a C : Addr) (k : List (Str × D) → Prop) : Prop := match (αs[0]? : Option Sl) with
  | some (Sl.obj a' C' fs) => a' = a ∧ C' = C ∧ k fs
  | some (Sl.obz a' (.ins C' fs)) => a' = a ∧ C' = C ∧ k fs
  | _ => False
def spMk (C : Addr) (c : CE) : Sp := fun vs H Q E => ∃ (A : Fp) (ds : List D) (R : D → Prop) (RX : Addr → List (Str × D) → Prop), (∀ b, A b → ∃ o, H b = some o) ∧ IsL A H vs ds ∧ (∀ a, c (.obj a C [] :: ds.map .sh) (fun d αs => d = .non ∧ objAt αs a C fun fs => R (.ins C fs)) fun Cx fs _ => RX Cx fs) ∧
  (∀ d v H', R d → Is A H' v d → Fz A (fun _ => False) H (fun _ => False) H' → Q v H') ∧ (∀ Cx fs o H', RX Cx fs → ErR A H' o fs → Fz A (fun _ => False) H (fun _ => False) H' → E (.ref Cx) o H')
theorem objAt.is {B M : Fp} {H : Hp} {σ : L2.St} {αs : List Sl} {a C : Addr} {k : List (Str × D) → Prop} (h : objAt αs a C k) (er : ER B M H σ αs) : ∃ fs, k fs ∧ Is B H (.ref a) (.ins C fs) := by
  unfold objAt at h
  split at h
  · next a' C' fs e =>
    obtain ⟨rfl, rfl, h⟩ := h
    obtain ⟨M', _, hI, _⟩ := er.freezeO e
    exact ⟨fs, h, hI.keep (Keep.less fun b z => .inl z)⟩
  · next a' C' fs e =>
    obtain ⟨rfl, rfl, h⟩ := h
    exact ⟨fs, h, (er.obz e).2.keep (Keep.less fun b z => .inl z)⟩
  · exact h.elim
theorem mk_conv {C : Addr} {c : CE} {dvs : List V} {dds : List D} (hdd : ∀ A H, IsL A H dvs dds) {vs : List V} {H : Hp} {Q : VK} {E : XK} (h : spMk C (fun αs R RX => c (αs ++ dds.map .sh) R RX) vs H Q E) (o dx : Addr) (ho : H o = none) (hdx : H dx = none) (ne : dx ≠ o) :
    spD c (.ref o :: (vs ++ dvs)) (upd (upd H dx (.own o)) o (.ins C dx [])) (fun v H2 => v = .non ∧ Q (.ref o) H2) E := by
  obtain ⟨A, ds, R, RX, dom, l, hc, k1, k2⟩ := h
  have n1 : New H dx (.own o) (upd H dx (.own o)) := new_of hdx
  have ho1 : upd H dx (.own o) o = none := by rw [upd_ne ne.symm]; exact ho
  have n2 : New (upd H dx (.own o)) o (.ins C dx []) (upd (upd H dx (.own o)) o (.ins C dx [])) := new_of ho1
  have s2 := n1.same.trans n2.same
  have nA : ¬ A o := dom_new dom ho
  have nA' : ¬ A dx := dom_new dom hdx
  have l2 : IsL (Ex A fun b => b = o ∨ b = dx) (upd (upd H dx (.own o)) o (.ins C dx [])) (vs ++ dvs) (ds ++ dds) := (l.app (hdd _ _)).keep fun b u eb nb => ⟨fun z => z.elim nb fun q => q.elim (fun r => ne_of_none eb ho r) fun r => ne_of_none eb hdx r, .inl (s2 b u eb)⟩
  have ea := er_args l2 (fun b hb => hb.elim (fun q => (dom b q).imp fun u e => s2 b u e) fun q => q.elim (fun r => ⟨.ins C dx [], by rw [r]; exact n2.at⟩) fun r => ⟨.own o, by rw [r]; exact n2.same _ _ n1.at⟩)
  have er : ER A (fun b => b = o ∨ b = dx) (upd (upd H dx (.own o)) o (.ins C dx [])) ((V.ref o :: (vs ++ dvs)).map some) (.obj o C [] :: (ds ++ dds).map .sh) := by
    obtain ⟨gs, ea⟩ := ea
    have g0 : ∀ j b, ¬ gs j b := fun j b z => (ea.own b).mpr ⟨j, z⟩
    have kE : Keep (Ex (Ex A fun b => b = o ∨ b = dx) fun _ => False) (upd (upd H dx (.own o)) o (.ins C dx [])) (Ex A fun b => b = o ∨ b = dx) (upd (upd H dx (.own o)) o (.ins C dx [])) := Keep.less fun b z => .inl z
    refine ⟨fun j => if j = 0 then (fun b => b = o ∨ b = dx) else fun _ => False, by simp [l.length, (hdd A H).length], fun b => ⟨fun z => ⟨0, by simpa using z⟩, fun ⟨j, z⟩ => ?_⟩, fun a c b z1 z2 => ?_, fun j => ?_, fun b hb => (dom b hb).imp fun u e => s2 b u e, fun b hb z => z.elim (fun r => nA (r ▸ hb)) fun r => nA' (r ▸ hb)⟩
    · by_cases hj : j = 0
      · subst hj; simpa using z
      · simp only [if_neg hj] at z
    · by_cases ha : a = 0
      · by_cases hc : c = 0
        · rw [ha, hc]
        · simp only [if_neg hc] at z2
      · simp only [if_neg ha] at z1
    · cases j with
      | zero => exact ⟨rfl, dx, [], n2.at, n2.same _ _ n1.at, .nil, fun _ => Iff.rfl⟩
      | succ j =>
        have a := (ea.at_ j)
        simp only [Nat.succ_ne_zero, if_false, List.map_cons]
        rw [List.getElem?_cons_succ, List.getElem?_cons_succ]
        have a2 := a.move (B' := A) (M' := fun b => b = o ∨ b = dx) kE (fun _ _ _ e => e)
        have e0 : gs j = fun _ => False := by
          funext b
          exact propext ⟨fun z => g0 j b z, False.elim⟩
        rw [e0] at a2
        exact a2
  have fin : ∀ {M' : Fp} {H' : Hp}, Fz A (fun b => b = o ∨ b = dx) (upd (upd H dx (.own o)) o (.ins C dx [])) M' H' → Fz A (fun _ => False) H (fun _ => False) H' := fun f => ⟨fun b u eb _ => f.keep b u (s2 b u eb) fun z => z.elim (fun r => ne_of_none eb ho r) fun r => ne_of_none eb hdx r, fun b z => z.elim, fun b e => s2.free (f.free b e)⟩
  have hc' := hc o
  refine ⟨A, _, _, fun d αs => d = .non ∧ objAt αs o C fun fs => R (.ins C fs), fun Cx fs _ => RX Cx fs, er, ?_, fun d αs v σ' H' M' h1 i1 er1 f1 => ?_, fun Cx fs αs σ' oo H' M' h1 i1 er1 f1 => k2 Cx fs oo H' h1 (i1.less fun b z => .inl z) (fin f1)⟩
  · rw [List.map_append]
    exact hc'
  · obtain ⟨rfl, h1⟩ := h1
    cases i1
    obtain ⟨fs, h1, hI⟩ := h1.is er1
    exact ⟨rfl, k1 _ _ H' h1 hI (fin f1)⟩
theorem mk_D {P : Program} {w : World} {K : PySem.W.Frag} {mg : Str → Option Value} {base : Heap} {C f : Addr} {fd : FuncData} {ps : List Str} {k : Nat} {c : CE} {dvs : List V} {ds0 : List Value} {dds : List D} (M : Mk K C f) (G : FnOk P w K mg base (L2.CX P w) k f fd ps (spD c)) (hd : Vals dvs ds0) (hb : Binds K fd ps ds0) (hdd : ∀ A H, IsL A H dvs dds) :
    MkI P w K mg base C k (spMk C fun αs R RX => c (αs ++ dds.map .sh) R RX) := ⟨f, fd, ps, dvs, ds0, _, M, G, hd, hb, fun _ _ _ _ h o dx ho hdx ne => mk_conv hdd h o dx ho hdx ne⟩
def cMk (C : Addr) (c : CE) (t : CA) : CE := fun δ R RX => t δ (fun ds δ1 => ∀ a, c (.obj a C [] :: ds.map .sh) (fun d αs => d = .non ∧ objAt αs a C fun fs => R (.ins C fs) δ1) fun Cx fs _ => RX Cx fs δ1) RX
theorem lift_mk {σ : L2.St} {H : Hp} {Q : VK} (h : liftE W (cMk C c t) σ H Q) : tCallS (spMk C c) (WE W) (liftA W t) σ H Q := by
  obtain ⟨B, M, δ, R, RX, er, ht, kk, x⟩ := h
  refine ⟨B, M, δ, _, RX, er, ht, fun ds δ1 vs H1 M1 h1 i1 er1 f1 => ?_, x⟩
  refine ⟨Ex B M1, ds, fun d => R d δ1, fun Cx fs => RX Cx fs δ1, fun b hb => er1.edom hb, i1, h1, fun d v H' h2 i2 f2 => ?_, fun Cx fs o H' h2 i2 f2 => ?_⟩
  · obtain ⟨er2, f3⟩ := er1.called f2
    exact kk d δ1 v H' M1 h2 i2 er2 (f1.trans f3)
  · obtain ⟨er2, f3⟩ := er1.called f2
    exact (x.fr f1) Cx fs δ1 o H' M1 h2 i2 er2 f3
theorem pd_mk (F : MkI X.prog X.w X.K X.mg X.base C k (spMk C c)) (hr : Room (k + 1) X.A) (hm : X.mg x = some (.ref C)) (tk : Takes X W) (ha : PAD X W (e :: es) t) (hg : Gl X x := by rfl)
    (hdb : (x == ("__debug__" : Str)) = false := by decide) (he : starEach (e :: es) X.env = (false, eval e X.env) :: starEach es X.env := by rfl) (hpl : (backTo pos (starEach es X.env)).any (·.1) = false := by rfl) :
    PD X W (.Call (.Name x p) (e :: es) [] pos) (cMk C c t) := PE.imp (pe_mkS F hr hm tk ha hg hdb he hpl) fun _ _ _ h => lift_mk h
/-! ### raise -/
def cRaise (C : Addr) (ns : List Str) (t : CA) : CS := fun δ K => t δ (fun ds δ1 => ds.length = ns.length ∧ K.ex C (ns.zip ds).reverse δ1) K.ex
theorem isF_zip {A : Fp} {H : Hp} : ∀ {ns : List Str} {vs : List V} {ds : List D}, IsL A H vs ds → IsF A H (ns.zip vs) (ns.zip ds)
  | [], _, _, _ => by simp; exact .nil
  | _ :: _, _, _, .nil => by simp; exact .nil
  | n :: ns, _, _, .cons h t => .cons h (isF_zip t)
theorem IsF.app {A : Fp} {H : Hp} : ∀ {vs us : List (Str × V)} {ds es : List (Str × D)}, IsF A H vs ds → IsF A H us es → IsF A H (vs ++ us) (ds ++ es)
  | _, _, _, _, .nil, s => s
  | _, _, _, _, .cons h t, s => .cons h (t.app s)
theorem IsF.rev {A : Fp} {H : Hp} : ∀ {vs : List (Str × V)} {ds : List (Str × D)}, IsF A H vs ds → IsF A H vs.reverse ds.reverse
  | _, _, .nil => .nil
  | _, _, .cons h t => by
    rw [List.reverse_cons, List.reverse_cons]
    exact t.rev.app (.cons h .nil)
theorem psd_rx {ns : List Str} {n : Nat} {pos' : Pos} (F : XcI X.prog X.w X.K X.mg X.base x C n (fun ws => (ns.zip ws).reverse)) (hn : n = ns.length) (hn2 : n ≤ 1000) (hr : Room 2 X.A) (hc : X.calm = true) (tk : Takes X W) (ha : PAD X W (e :: es) t) (hg : Gl X x := by rfl) (hdb : (x == ("__debug__" : Str)) = false := by decide)
    (he : starEach (e :: es) X.env = (false, eval e X.env) :: starEach es X.env := by rfl) (hpl : (backTo pos (starEach es X.env)).any (·.1) = false := by rfl) :
    PSD X W (.Raise (some (.Call (.Name x p) (e :: es) [] pos)) none pos') (cRaise C ns t) := PS.imp (ps_rx F hn2 hr hc tk ha hg hdb he hpl) fun N σ H ⟨B, M, δ, K, er, ht, k⟩ => by
  refine ⟨B, M, δ, _, K.ex, er, ht, fun ds δ1 vs H1 M1 h1 i1 er1 f1 => ?_, k.xok σ⟩
  refine ⟨by rw [i1.length, hn]; exact h1.1, fun d H' s2 hd hd' => ?_⟩
  refine k.ex C _ δ1 σ (some d) H' M1 h1.2 (.inr ⟨d, _, rfl, hd', fun z => er1.nex hd z, ?_⟩) (er1.same s2) (f1.trans (Fz.same s2))
  exact ((isF_zip i1).rev).keep (Keep.same s2)
end
end Xl


namespace Xl
open PySem PySem.Spec PyProof.Rows L2
theorem u65 {k : Nat} {A : Around} (r : Room k A) : A.units + 65 < cLine := by have := r.un; omega
section
variable {X : Cx} {W : WX} {k i : Nat} {C : Addr} {f x m : Str} {p pos apos : Pos} {e o a b c : Expr} {es : List Expr} {ta tb tc : CE} {t : CA} {vs : List Nat}
/-! ### a < b < c -/
def cChain (r r' : CR2) (ta tb tc : CE) : CE := fun δ R RX => ta δ (fun d1 δ1 => tb δ1 (fun d2 δ2 => r d1 d2 fun z => match z with
  | .bl true => tc δ2 (fun d3 δ3 => r' d2 d3 fun d => R d δ3) RX
  | .bl false => R (.bl false) δ2
  | _ => False) RX) RX
theorem lift_chain {r r' : CR2} {σ : L2.St} {H : Hp} {Q : VK} (h : liftE W (cChain r r' ta tb tc) σ H Q) : tChain (liftR r) (liftR r') (liftE W ta) (liftE W tb) (liftE W tc) σ H Q := by
  obtain ⟨B, M, δ, R, RX, er, ht, k, x⟩ := h
  refine ⟨B, M, δ, _, RX, er, ht, fun d1 δ1 v1 H1 M1 h1 i1 er1 f1 => ?_, x⟩
  refine ⟨B, M1, δ1, _, RX, er1, h1, fun d2 δ2 v2 H2 M2 h2 i2 er2 f2 => ?_, x.fr f1⟩
  have f12 := f1.trans f2
  refine ⟨Ex B M2, d1, d2, _, fun b hb => er2.edom hb, i1.keep (Keep.fr f2), i2, h2, fun z v H3 hz s3 hv => ?_⟩
  have er3 := er2.same s3
  have f13 := f12.trans (Fz.same (M := M2) s3)
  split at hz
  · cases hv
    refine ⟨true, rfl, iteT ⟨B, M2, δ2, _, RX, er3, hz, fun d3 δ3 v3 H4 M4 h4 i4 er4 f4 => ?_, x.fr f13⟩⟩
    exact ⟨Ex B M4, d2, d3, _, fun b hb => er4.edom hb, (i2.keep (Keep.same s3)).keep (Keep.fr f4), i4, h4, fun d v' H5 hd s5 hv' => k d δ3 v' H5 M4 hd hv' (er4.same s5) ((f13.trans f4).trans (Fz.same s5))⟩
  · cases hv
    exact ⟨false, rfl, iteF (k _ δ2 _ H3 M2 hz (.bl _) er3 f13)⟩
  · exact hz.elim
theorem pd_chain {op op' : CmpOp} {r r' : CR2} (ho : OpR X (compareOp op) (liftR r)) (ho' : OpR X (compareOp op') (liftR r')) (ha : PD X W a ta) (hb : PD X W b tb) (hc : PD X W c tc)
    (hm : lastMarks [op, op'] [b, c] = false := by with_unfolding_all rfl) : PD X W (.Compare a [op, op'] [b, c] pos) (cChain r r' ta tb tc) := PE.imp (pe_chain ho ho' ha hb hc hm) fun _ _ _ h => lift_chain h
theorem ptd_chain {op op' : CmpOp} {r r' : CR2} (ho : OpR X (compareOp op) (liftR r)) (ho' : OpR X (compareOp op') (liftR r')) (ha : PD X W a ta) (hb : PD X W b tb) (hc : PD X W c tc)
    (hm : lastMarks [op, op'] [b, c] = false := by with_unfolding_all rfl) : PTD X W (.Compare a [op, op'] [b, c] pos) (cTst (cChain r r' ta tb tc)) := PT.imp (pt_chain ho ho' ha hb hc hm) fun _ _ _ h => lift_chain (lift_tst h)
/-! ### comprehensions as expressions, as what is stored -/
theorem pf_lc {elt tg iter : Expr} {ifs : List Expr} {scope : Scope} {own : List (Str × Nat)} {ti : CA} {g : CG} {tt : CT} {te : CE} (hc : X.calm = true) (hN : X.N.Nodup) (hi : PID X W tg iter ti) (ok : BlkOk X.N X.env.scope scope own) (hn : (own.map (·.2)).Nodup)
    (hg : ∀ (s : Shared) (H : Hp) (C : Addr) (cl : List (Str × Addr)) (fp : List Addr), PGV (X.blk s H scope (compEnvC scope cl C X.env) fp) (own.map (·.2)) tg g) (ht : ∀ (s : Shared) (H : Hp) (C : Addr) (cl : List (Str × Addr)) (fp : List Addr), PTs (X.blk s H scope (compEnvC scope cl C X.env) fp) ifs (liftT W0 tt))
    (he : ∀ (s : Shared) (H : Hp) (C : Addr) (cl : List (Str × Addr)) (fp : List Addr), PD (X.blk s H scope (compEnvC scope cl C X.env) fp) W0 elt te) (hs : ∀ x, foldedSetIterable iter X.env x = pure x := by intro _; rfl) :
    PFD X W (.ListComp elt [⟨tg, iter, ifs, 0⟩] scope pos) (cLc ti g tt te (own.map (·.2))) := PE.imp (pe_lc hc hN hi ok hg ht he hs) fun _ _ _ h => lift_lc hn h
theorem psd_lcO {st : Stmt} {elt tg iter : Expr} {own : List (Str × Nat)} {ti : CA} {g : CG} {tt : CT} {te : CE} (hn : (own.map (·.2)).Nodup) (h : PS X st (tAsg (tLc (liftI W ti) (liftGV (own.map (·.2)) g) (liftT W0 tt) (liftE W0 te) (own.map (·.2))) (gName i))) : PSD X W st (cSetO i (cLc ti g tt te (own.map (·.2)))) := PS.imp h fun N σ H ⟨B, M, δ, C, er, ht, k⟩ => by
  refine lift_lc hn ⟨B, M, δ, _, C.ex, er, ht, fun ds δ1 p vs H1 M1 h1 er1 f1 hn hp i1 => ?_, k.xok σ⟩
  obtain ⟨M2, er2, f2⟩ := er1.setOwn h1.1 (er.nfree hn) hp i1
  exact k.nx _ _ H1 M2 h1.2 er2 (f1.own hn f2)
/-- .. shared at once -/
theorem psd_lcS {st : Stmt} {elt tg iter : Expr} {own : List (Str × Nat)} {ti : CA} {g : CG} {tt : CT} {te : CE} (hn : (own.map (·.2)).Nodup) (h : PS X st (tAsg (tLc (liftI W ti) (liftGV (own.map (·.2)) g) (liftT W0 tt) (liftE W0 te) (own.map (·.2))) (gName i))) : PSD X W st (cSet i (cFr (cLc ti g tt te (own.map (·.2))))) := PS.imp h fun N σ H ⟨B, M, δ, C, er, ht, k⟩ => by
  refine lift_lc hn ⟨B, M, δ, _, C.ex, er, ht, fun ds δ1 p vs H1 M1 h1 er1 f1 hn hp i1 => ?_, k.xok σ⟩
  have er2 := er1.less (B' := B) fun b z => .inl z
  have hI : Is (Ex B M1) H1 (.ref p) (.lst ds) := .lst hp (fun z => z.elim (er.nfree hn) er1.nB) (i1.keep (Keep.less fun b z => z.imp .inl id))
  obtain ⟨M2, er3, f2⟩ := er2.set h1.1 hI
  exact k.nx _ _ H1 M2 h1.2 er3 (f1.trans f2.fz)
/-! ### slices -/
abbrev CO := DEnv → (Option Int → DEnv → Prop) → KX → Prop
def liftO (W : WX) (t : CO) : TO := fun σ H Q => ∃ B M δ R RX, ER B M H σ δ ∧ t δ R RX ∧ (∀ o δ' H' M', R o δ' → ER B M' H' σ δ' → Fz B M H M' H' → Q o H') ∧ XOk W B M H σ RX
abbrev POD (X : Cx) (W : WX) (e : Option Expr) (t : CO) : Prop := PO X e (liftO W t)
def coNone : CO := fun δ R _ => R none δ
def coSome (ta : CE) : CO := fun δ R RX => ta δ (fun d δ1 => match d with
  | .int j => R (some j) δ1
  | _ => False) RX
theorem PO.imp {oe : Option Expr} {t t' : TO} (h : PO X oe t) (i : ∀ σ H Q, t' σ H Q → t σ H Q) : PO X oe t' := ⟨fun pins s σ H Q I q => h.run pins s σ H Q I (i σ H Q q)⟩
theorem pod_none : POD X W none coNone := PO.imp po_none fun σ H Q ⟨B, M, δ, R, RX, er, ht, k, x⟩ => k none δ H M ht er (Fz.refl _ _)
theorem pod_some (h : PD X W e ta) : POD X W (some e) (coSome ta) := PO.imp (po_some h) fun σ H Q ⟨B, M, δ, R, RX, er, ht, k, x⟩ => by
  refine ⟨B, M, δ, _, RX, er, ht, fun d δ1 v H1 M1 h1 i1 er1 f1 => ?_, x⟩
  split at h1
  · cases i1
    exact ⟨_, rfl, k _ δ1 H1 M1 h1 er1 f1⟩
  · exact h1.elim
def cutD (xs : List D) (lo hi : Option Int) : List D := (xs.drop (HT.sIx xs.length 0 lo)).take (HT.sIx xs.length xs.length hi - HT.sIx xs.length 0 lo)
theorem IsL.cut {A : Fp} {H : Hp} {us : List V} {ds : List D} (h : IsL A H us ds) (lo hi : Option Int) : IsL A H (cutV us lo hi) (cutD ds lo hi) := by
  unfold cutV cutD
  rw [h.length]
  exact (h.drop _).take _
def rSl : D → Option Int → Option Int → (D → Prop) → Prop := fun a lo hi R => match a with
  | .lst ds => R (.lst (cutD ds lo hi))
  | .tup ds => R (.tup (cutD ds lo hi))
  | .str z => z.length ≤ sizeLine ∧ R (.str (cutS z lo hi))
  | _ => False
def cSl (te : CE) (tl th : CO) : CE := fun δ R RX => te δ (fun d δ1 => tl δ1 (fun l δ2 => th δ2 (fun u δ3 => rSl d l u fun z => R z δ3) RX) RX) RX
theorem strOk_sub {z z' : Str} (h : PyData.strOk z = true) (hs : ∀ c, c ∈ z'.cps.toList → c ∈ z.cps.toList) : PyData.strOk z' = true := by
  unfold PyData.strOk at *
  rw [Array.all_eq_true_iff_forall_mem] at h ⊢
  intro c hc
  exact h c (by simpa using hs c (by simpa using hc))
def rSlAll (K : PySem.W.Frag) : V → Option Int → Option Int → Hp → VK → Prop := fun x lo hi H Q => (rSlLN K x lo hi H Q ∨ rSlA K x lo hi H Q) ∨ rSlS x lo hi H Q
theorem sl_all' : L2.SlR X (rSlAll X.K) := L2.SlR.or (L2.SlR.or sl_listN sl_tupA) sl_str
theorem cut_all (xs : List D) {lo hi : Option Int} (h : HT.sIx xs.length 0 lo = 0 ∧ HT.sIx xs.length xs.length hi = xs.length) : cutD xs lo hi = xs := by
  unfold cutD
  rw [h.1, h.2]
  simp
theorem pd_sl {lo hi : Option Expr} {tl th : CO} {p2 : Pos} (he : PD X W e ta) (hl : POD X W lo tl) (hh : POD X W hi th) : PD X W (.Subscript e (.Slice lo hi none p2) pos) (cSl ta tl th) := PE.imp (pe_slice sl_all' he hl hh) fun σ H Q ⟨B, M, δ, R, RX, er, ht, k, x⟩ => by
  refine ⟨B, M, δ, _, RX, er, ht, fun d δ1 v H1 M1 h1 i1 er1 f1 => ?_, x⟩
  refine ⟨B, M1, δ1, _, RX, er1, h1, fun l δ2 H2 M2 h2 er2 f2 => ?_, x.fr f1⟩
  refine ⟨B, M2, δ2, _, RX, er2, h2, fun u δ3 H3 M3 h3 er3 f3 => ?_, (x.fr f1).fr f2⟩
  have f13 := f1.trans (f2.trans f3)
  have i3 := i1.keep (Keep.fr (B := B) (f2.trans f3))
  have dom : ∀ b, Ex B M3 b → ∃ o, H3 b = some o := fun b hb => er3.edom hb
  cases i3 with
  | lst e1 n1 l1 => exact .inl (.inl ⟨_, _, rfl, SqL.of e1, fun p H' n => k _ δ3 _ H' M3 h3 (.lst n.at (dom_new dom n.1) ((l1.cut l u).keep (Keep.same n.same))) (er3.same n.same) (f13.trans (Fz.same n.same))⟩)
  | tup e1 n1 l1 =>
    refine .inl (.inr ⟨_, _, rfl, SqT.of e1, fun hall => ?_, fun _ p hp => ?_⟩)
    · rw [l1.length] at hall
      have : rSl (.tup _) l u _ := h3
      simp only [rSl] at this
      rw [cut_all _ hall] at this
      exact k _ δ3 _ H3 M3 this (.tup e1 n1 l1) er3 f13
    · exact k _ δ3 _ _ M3 h3 (.tup (new_of hp).at (dom_new dom hp) ((l1.cut l u).keep (Keep.same (new_of hp).same))) (er3.same (new_of hp).same) (f13.trans (Fz.same (new_of hp).same))
  | str z hz =>
    refine .inr ⟨z, rfl, h3.1, k _ δ3 _ H3 M3 h3.2 (.str _ (strOk_sub hz fun c hc => ?_)) er3 f13⟩
    unfold cutS at hc
    simp only [List.toList_toArray] at hc
    exact List.mem_of_mem_drop (List.mem_of_mem_take hc)
  | non => exact h3.elim
  | bl b => exact h3.elim
  | int j => exact h3.elim
  | dic _ _ _ => exact h3.elim
  | ins _ _ _ => exact h3.elim
  | cls a => exact h3.elim
  | exn0 _ _ => exact h3.elim
  | exn1 _ _ _ => exact h3.elim
end
end Xl


namespace Xl
open PySem PySem.Spec PyProof.Rows L2
theorem is_strs {A : Fp} {H : Hp} : ∀ {vs : List V} {ss : List Str}, IsL A H vs (ss.map .str) → vs = ss.map V.str ∧ ∀ s ∈ ss, PyData.strOk s = true
  | _, [], h => by cases h; exact ⟨rfl, fun _ z => nomatch z⟩
  | _, s :: ss, h => by
    cases h with
    | cons a t =>
      cases a with
      | str _ hs =>
        obtain ⟨e, k⟩ := is_strs t
        rw [e]
        exact ⟨rfl, fun x hx => (List.mem_cons.mp hx).elim (fun q => q ▸ hs) (k x)⟩
theorem strs_is {A : Fp} {H : Hp} : ∀ {ss : List Str}, (∀ s ∈ ss, PyData.strOk s = true) → IsL A H (ss.map V.str) (ss.map .str)
  | [], _ => .nil
  | s :: ss, h => .cons (.str _ (h s (List.mem_cons_self ..))) (strs_is fun x hx => h x (List.mem_cons_of_mem _ hx))
section
variable {X : Cx} {W : WX} {k i j : Nat} {C : Addr} {f x m : Str} {p pos apos : Pos} {e o a b c : Expr} {es : List Expr} {ta tb tc : CE} {t : CA} {st : Stmt}
theorem psd_doc {z jj p'} : PSD X W (.Expr (.Constant (.str z) jj pos) p') cNext := PS.imp ps_doc fun N σ H ⟨B, M, δ, C, er, ht, k⟩ => k.nx δ σ H M ht er (Fz.refl _ _)
/-! ### new lists: list(x), xs + ys -/
def cLstF (t : CA) : CA := fun δ R RX => t δ (fun ds δ1 => match ds with
  | [.lst xs] => R xs δ1
  | [.tup xs] => R xs δ1
  | _ => False) RX
theorem pf_list (hg : Gl X "list") (hm : X.mg "list" = none) (ha : PAD X W [e] t) (he : starEach [e] X.env = (false, eval e X.env) :: starEach [] X.env := by rfl) (hpl : (backTo pos (starEach [] X.env)).any (·.1) = false := by rfl) : PFD X W (.Call (.Name "list" p) [e] [] pos) (cLstF t) := PE.imp (pe_callTy call_list_ofN hg hm (by decide +kernel) ha (by decide) (by decide) he hpl) fun σ H Q ⟨B, M, δ, R, RX, er, ht, k, x⟩ => by
  refine ⟨B, M, δ, _, RX, er, ht, fun ds δ1 vs H1 M1 h1 i1 er1 f1 => ?_, x⟩
  split at h1
  · cases i1 with
    | cons a t =>
      cases t
      cases a with
      | lst e1 n1 l1 => exact ⟨_, _, rfl, .inl (SqL.of e1), fun p H' n => k _ δ1 p _ H' M1 h1 (er1.foreign n) (f1.trans n.fr') (f1.free p n.1) n.at (l1.fgn n)⟩
  · cases i1 with
    | cons a t =>
      cases t
      cases a with
      | tup e1 n1 l1 => exact ⟨_, _, rfl, .inr (SqT.of e1), fun p H' n => k _ δ1 p _ H' M1 h1 (er1.foreign n) (f1.trans n.fr') (f1.free p n.1) n.at (l1.fgn n)⟩
  · exact h1.elim
def cCatF (ta tb : CE) : CA := fun δ R RX => ta δ (fun d1 δ1 => tb δ1 (fun d2 δ2 => match d1, d2 with
  | .lst xs, .lst ys => xs.length + ys.length ≤ sizeLine ∧ R (xs ++ ys) δ2
  | _, _ => False) RX) RX
theorem pf_cat (ha : PD X W a ta) (hb : PD X W b tb) : PFD X W (.BinOp a .Add b pos) (cCatF ta tb) := PE.imp (pe_op op_catN ha hb) fun σ H Q ⟨B, M, δ, R, RX, er, ht, k, x⟩ => by
  refine ⟨B, M, δ, _, RX, er, ht, fun d1 δ1 v1 H1 M1 h1 i1 er1 f1 => ?_, x⟩
  refine ⟨B, M1, δ1, _, RX, er1, h1, fun d2 δ2 v2 H2 M2 h2 i2 er2 f2 => ?_, x.fr f1⟩
  split at h2
  · have i1' := i1.keep (Keep.fr (B := B) f2)
    cases i1' with
    | lst e1 n1 l1 =>
      cases i2 with
      | lst e2 n2 l2 => exact ⟨_, _, _, _, rfl, rfl, e1, e2, by rw [l1.length, l2.length]; exact h2.1, fun p H' n => k _ δ2 p _ H' M2 h2.2 (er2.foreign n) ((f1.trans f2).trans n.fr') (f1.free p (f2.free p n.1)) n.at ((l1.app l2).fgn n)⟩
  · exact h2.elim
/-! ### xs.index(y), xs a name -/
def cIndexN (i : Nat) (ta : CE) : CE := fun δ R RX => pkAt δ i (fun d => match d with | .lst _ => True | _ => False) ∧ ta δ (fun d δ1 => pkAt δ1 i fun l => match l with
  | .lst ds => lowD 63 d = true ∧ ds.all (lowD 63) = true ∧ ∃ j z, ds[j]? = some z ∧ eqN 63 z d = true ∧ (∀ m z', m < j → ds[m]? = some z' → eqN 63 z' d = false) ∧ R (.int (j : Nat)) δ1
  | _ => False) RX
theorem Pk.lst {A : Fp} {H : Hp} {v : V} {ds : List D} (h : Pk A H v (.lst ds)) : ∃ p vs, v = .ref p ∧ H p = some (.lst vs) ∧ IsL A H vs ds := by
  cases h with
  | sh h =>
    cases h with
    | lst e n l => exact ⟨_, _, rfl, e, l⟩
  | own e l => exact ⟨_, _, rfl, e, l⟩
theorem pd_indexN (hu : X.A.units + 65 < cLine) (hv : PE X o (tVar i)) (ha : PD X W e ta) (hs : starEach [e] X.env = [(false, eval e X.env)] := by rfl)
    (hbase : attributeBase o "index" X.env (eval o X.env) = eval o X.env := by rfl)
    (hfew : ((backTo pos (starEach [e] X.env)).all (fun x => !x.1) && (backToKw pos (keywordEach [] X.env)).all (fun x => x.1.isSome) && decide (([e] : List Expr).length + ([] : List Keyword).length + (if ([] : List Keyword).isEmpty then 0 else 1) < 30)) = true := by rfl)
    (hline : (apos.endLine == pos.line) = true := by rfl) (hpl : (backTo pos (starEach [] X.env)).any (·.1) = false := by rfl) : PD X W (.Call (.Attribute o "index" apos) [e] [] pos) (cIndexN i ta) := by
  refine PE.imp (pe_bm PySem.F.plainAttrs_list PySem.F.slot_list_index PySem.F.type_list_index (mt_indexD hu) hv (pa_cons ha pa_nil hs) hbase hfew hline hs hpl) fun σ H Q ⟨B, M, δ, R, RX, er, ⟨h0, ht⟩, k, x⟩ => ?_
  obtain ⟨d0, e0, h0⟩ := h0.get
  split at h0
  · obtain ⟨v, ev, hv⟩ := er.pk e0
    obtain ⟨p, vs, rfl, hp, hl⟩ := hv.lst
    refine ⟨_, ev, .inl ⟨rfl, _, SqL.of hp⟩, B, M, δ, _, RX, er, ht, fun d δ1 u H1 M1 h1 i1 er1 f1 => ?_, x⟩
    obtain ⟨l, e1, h1⟩ := h1.get
    split at h1
    · next ds =>
      obtain ⟨v1, ev1, hv1⟩ := er1.pk e1
      rw [ev] at ev1
      cases ev1
      obtain ⟨p1, vs1, ep, hp1, hl1⟩ := hv1.lst
      cases ep
      obtain ⟨c1, c2, jj, z, hz, ez, hno, h1⟩ := h1
      have low : lowD 64 (.lst ds) = true := c2
      have iL : Is (less1 (Ex B M1) p) H1 (.ref p) (.lst ds) := .lst hp1 (fun z => z.2 rfl) (hl1.keep (Keep.less fun b z => z.1))
      refine ⟨p, u, toPy 63 d, ds.map (toPy 63), jj, toPy 63 z, rfl, rfl, dp_N 64 _ _ low iL, dp_N 63 _ _ c1 i1, shaped_of (lay_N 64 _ _ _ _ low iL) (by decide), shaped_of (lay_N 63 _ _ _ _ c1 i1) (by decide), by rw [List.getElem?_map, hz]; rfl, ?_, fun mm z' hm hz' => ?_, k _ δ1 _ H1 M1 h1 (.int _) er1 f1⟩
      · rw [eqv_N 63 _ _ (List.all_eq_true.mp c2 z (List.mem_of_getElem? hz)) c1]; exact ez
      · rw [List.getElem?_map] at hz'
        cases q : ds[mm]? with
        | none => rw [q] at hz'; cases hz'
        | some y =>
          rw [q] at hz'
          cases hz'
          rw [eqv_N 63 _ _ (List.all_eq_true.mp c2 y (List.mem_of_getElem? q)) c1]
          exact hno mm y hm q
    · exact h1.elim
  · exact h0.elim
/-! ### texts -/
def cJoin (ta tb : CE) : CE := fun δ R RX => ta δ (fun d1 δ1 => match d1 with
  | .str a => tb δ1 (fun d2 δ2 => ∃ ss : List Str, (d2 = .lst (ss.map .str) ∨ d2 = .tup (ss.map .str)) ∧ (ss.map (·.length)).sum + ss.length * a.length ≤ 16777216 ∧ R (.str (Txt.join a ss)) δ2) RX
  | _ => False) RX
theorem strOk_join {y : Str} (hy : PyData.strOk y = true) : ∀ {ps : List Str}, (∀ s ∈ ps, PyData.strOk s = true) → PyData.strOk (Str.join y ps) = true
  | [], _ => by unfold Str.join; decide +kernel
  | [q], h => by
    unfold Str.join
    exact h q (List.mem_cons_self ..)
  | q :: r :: rs, h => by
    unfold Str.join
    exact strOk_app (strOk_app (h q (List.mem_cons_self ..)) hy) (strOk_join hy fun x hx => h x (List.mem_cons_of_mem _ hx))
theorem pd_join (ha : PD X W a ta) (hb : PD X W b tb) (hs : starEach [b] X.env = [(false, eval b X.env)] := by rfl) (hbase : attributeBase a "join" X.env (eval a X.env) = eval a X.env := by rfl) (hline : (apos.endLine == pos.line) = true := by rfl) : PD X W (.Call (.Attribute a "join" apos) [b] [] pos) (cJoin ta tb) := PE.imp (pe_join ha hb hs hbase hline) fun σ H Q ⟨B, M, δ, R, RX, er, ht, k, x⟩ => by
  refine ⟨B, M, δ, _, RX, er, ht, fun d1 δ1 v1 H1 M1 h1 i1 er1 f1 => ?_, x⟩
  split at h1
  · next z =>
    cases i1 with
    | str _ hz =>
      refine ⟨⟨_, rfl⟩, B, M1, δ1, _, RX, er1, h1, fun d2 δ2 v2 H2 M2 h2 i2 er2 f2 => ?_, x.fr f1⟩
      obtain ⟨ss, hd, hl, h2⟩ := h2
      have fin : ∀ (ok : ∀ s ∈ ss, PyData.strOk s = true), Q (.str (Txt.join z ss)) H2 := fun ok => k _ δ2 _ H2 M2 h2 (.str _ (by rw [TL.join_eq]; exact strOk_join hz ok)) er2 (f1.trans f2)
      rcases hd with rfl | rfl
      · cases i2 with
        | lst e n l =>
          obtain ⟨ev, ok⟩ := is_strs l
          exact ⟨z, _, ss, rfl, rfl, .inl (SqL.of (by rw [← ev]; exact e)), hl, fin ok⟩
      · cases i2 with
        | tup e n l =>
          obtain ⟨ev, ok⟩ := is_strs l
          exact ⟨z, _, ss, rfl, rfl, .inr (SqT.of (by rw [← ev]; exact e)), hl, fin ok⟩
  · exact h1.elim
def rStr : List D → (D → Prop) → Prop := fun ds R => match ds with
  | [.int i] => i.natAbs.log2 < 1920 ∧ R (.str (toString i))
  | [.str s] => R (.str s)
  | _ => False
/-- sorted of texts -/
def rSrt : List D → (D → Prop) → Prop := fun ds R => match ds with
  | [.lst xs] => ∃ ss : List Str, xs = ss.map .str ∧ ss.length < 64 ∧ ∀ ys : List Str, ys.Perm ss → sortedS ys = true → R (.lst (ys.map .str))
  | _ => False
theorem kd_srt : CallR X (.builtin "sorted") (liftC rSrt) := by
  rintro pins s σ H xs us Q I r ⟨A, ds, R, dom, i1, h, k⟩
  unfold rSrt at h
  split at h
  · obtain ⟨ss, rfl, hz, h⟩ := h
    cases i1 with
    | cons a t =>
      cases t
      cases a with
      | lst e n l =>
        obtain ⟨ev, ok⟩ := is_strs l
        refine cr_sortedS pins s σ H _ us Q I r ⟨_, ss, rfl, SqL.of (by rw [← ev]; exact e), hz, fun ys p hp hs hn => ?_⟩
        exact k _ _ _ (h ys hp hs) (new_of hn).same (.lst (new_of hn).at (dom_new dom hn) (strs_is fun s hs' => ok s (hp.mem_iff.mp hs')))
  · exact h.elim
/-! ### a, b = x, y; x += y -/
def cPar (i j : Nat) (t : CA) : CS := fun δ C => t δ (fun ds δ1 => match ds with
  | [d1, d2] => i < δ1.length ∧ j < δ1.length ∧ C.nx ((δ1.set i (.sh d1)).set j (.sh d2))
  | _ => False) C.ex
theorem psd_par (h : ∀ t', PA X [a, b] t' → PS X st (tPar i j t')) (ha : PAD X W [a, b] t) : PSD X W st (cPar i j t) := PS.imp (h _ ha) fun N σ H ⟨B, M, δ, C, er, ht, k⟩ => by
  refine ⟨B, M, δ, _, C.ex, er, ht, fun ds δ1 vs H1 M1 h1 i1 er1 f1 => ?_, k.xok σ⟩
  split at h1
  · cases i1 with
    | cons ia t =>
      cases t with
      | cons ib t =>
        cases t
        obtain ⟨M2, er2, f2⟩ := er1.set h1.1 ia
        obtain ⟨M3, er3, f3⟩ := er2.set (i := j) (by rw [List.length_set]; exact h1.2.1) (ib.keep (Keep.fr f2.fz))
        exact ⟨_, _, rfl, k.nx _ _ H1 M3 h1.2.2 er3 ((f1.trans f2.fz).trans f3.fz)⟩
  · exact h1.elim
def cAug (i : Nat) (r : CR2) (ta : CE) : CS := fun δ C => (match δ[i]? with | some (.sh _) => True | _ => False) ∧ ta δ (fun d2 δ1 => match δ1[i]? with
  | some (.sh d1) => r d1 d2 fun d => C.nx (δ1.set i (.sh d))
  | _ => False) C.ex
theorem psd_aug {op : Operator} {r : CR2} (h : ∀ te ti, PE X e te → PIp X op ti → PS X st (tAug i te ti)) (ho : PIp X op (liftR r)) (he : PD X W e ta) : PSD X W st (cAug i r ta) := PS.imp (h _ _ he ho) fun N σ H ⟨B, M, δ, C, er, ⟨h0, ht⟩, k⟩ => by
  split at h0
  · next d0 e0 =>
    obtain ⟨v, ev, hv⟩ := er.sh e0
    refine ⟨v, ev, B, M, δ, _, C.ex, er, ht, fun d2 δ1 v2 H1 M1 h1 i1 er1 f1 => ?_, k.xok σ⟩
    split at h1
    · next d1 e1 =>
      obtain ⟨v1, ev1, hv1⟩ := er1.sh e1
      rw [ev] at ev1
      cases ev1
      refine ⟨Ex B M1, d1, d2, _, fun b hb => er1.edom hb, hv1, i1, h1, fun d v' H3 hd s3 hv' => ?_⟩
      obtain ⟨M2, er2, f2⟩ := (er1.same s3).set (i := i) (List.getElem?_eq_some_iff.mp e1).1 hv'
      exact k.nx _ _ H3 M2 hd er2 ((f1.trans (Fz.same s3)).trans f2.fz)
    · exact h1.elim
  · exact h0.elim
def rAddI : CR2 := rIII (fun _ _ => True) (· + ·)
theorem id_addI : PIp X .Add (liftR rAddI) := by
  rintro pins s σ H x y v u Q I rx ry ⟨A, d1, d2, R, dom, i1, i2, h, k⟩
  unfold rAddI rIII at h
  split at h
  · cases i1
    cases i2
    exact ip_add pins s σ H _ _ v u Q I rx ry ⟨_, _, rfl, rfl, k _ _ H h.2 (Same.refl _) (.int _)⟩
  · exact h.elim
theorem id_subI : PIp X .Sub (liftR rSub) := by
  rintro pins s σ H x y v u Q I rx ry ⟨A, d1, d2, R, dom, i1, i2, h, k⟩
  unfold rSub rIII at h
  split at h
  · cases i1
    cases i2
    exact ip_sub pins s σ H _ _ v u Q I rx ry ⟨_, _, rfl, rfl, k _ _ H h.2 (Same.refl _) (.int _)⟩
  · exact h.elim
end
/-! ### the law's draws -/
def cDraw : CE := fun αs R _ => match αs with
  | [.st s n, .sh (.int size)] => n < 2 ^ 40 ∧ 0 < size ∧ size < 2 ^ 200 ∧ ∀ d : Int, 0 ≤ d → d < size → R (.int d) [.st s (n + 1), .sh (.int size)]
  | _ => False
theorem ER.two {B M : Fp} {H : Hp} {s : Addr} {n : Nat} {d : D} {vs : List V} (h : ER B M H (vs.map some) [.st s n, .sh d]) : ∃ v, vs = [.ref s, v] ∧ Is (Ex B M) H v d ∧ StAt H M s n := by
  have hl := h.len
  rw [List.length_map] at hl
  match vs, hl with
  | [u, v], _ =>
    have e0 := h.st (i := 0) rfl
    obtain ⟨w, ew, hw⟩ := h.sh (i := 1) rfl
    cases e0
    cases ew
    refine ⟨v, rfl, hw, ?_⟩
    obtain ⟨fs, h⟩ := h
    have a := (h.at_ 0).2
    have b := h.at_ 1
    have em : M = fs 0 := by
      funext b'
      refine propext ⟨fun z => ?_, fun z => (h.own b').mpr ⟨0, z⟩⟩
      obtain ⟨j, hj⟩ := (h.own b').mp z
      match j, hj with
      | 0, hj => exact hj
      | 1, hj => exact absurd hj (b.1 b')
      | j + 2, hj => exact absurd hj ((h.at_ (j + 2)) b')
    rw [em]
    exact a
theorem er_two {B M : Fp} {H : Hp} {s : Addr} {n : Nat} {d : D} {v : V} (hs : StAt H M s n) (hv : Is (Ex B M) H v d) (dom : ∀ b, B b → ∃ o, H b = some o) (dis : ∀ b, B b → ¬ M b) : ER B M H [some (.ref s), some v] [.st s n, .sh d] := by
  refine ⟨fun j => if j = 0 then M else fun _ => False, rfl, fun b => ⟨fun z => ⟨0, by simpa using z⟩, fun ⟨j, z⟩ => ?_⟩, fun a c b z1 z2 => ?_, fun j => ?_, dom, dis⟩
  · by_cases hj : j = 0
    · subst hj; simpa using z
    · simp only [if_neg hj] at z
  · by_cases ha : a = 0
    · by_cases hc : c = 0
      · rw [ha, hc]
      · simp only [if_neg hc] at z2
    · simp only [if_neg ha] at z1
  · match j with
    | 0 => exact ⟨rfl, hs⟩
    | 1 => exact ⟨fun _ z => z, v, rfl, hv⟩
    | j + 2 => exact fun _ z => z
theorem spD_draw {vs : List V} {H : Hp} {Q : VK} {E : XK} (h : spD cDraw vs H Q E) : spDraw vs H Q E := by
  obtain ⟨B, M, αs, R, RX, er, hc, k, _⟩ := h
  unfold cDraw at hc
  split at hc
  · next s n size =>
    obtain ⟨h1, h2, h3, hc⟩ := hc
    obtain ⟨v, rfl, hv, sa⟩ := er.two
    cases hv
    refine ⟨M, s, n, size, rfl, sa, h1, h2, h3, fun d F' H' d0 d1 sa' f => ?_⟩
    have f' : Fz B M H F' H' := f.fz
    obtain ⟨fs, er'⟩ := er
    refine k _ _ _ [some (.ref s), some (.int size)] H' F' (hc d d0 d1) (.int _) (er_two sa' (.int _) (fun b hb => ?_) (fun b hb z => ?_)) f'
    · cases q : H' b with
      | none => obtain ⟨o, e⟩ := er'.dom b hb; rw [f.free b q] at e; cases e
      | some u => exact ⟨u, rfl⟩
    · rcases f.grow b z with r | r
      · exact er'.dis b hb r
      · obtain ⟨o, e⟩ := er'.dom b hb; rw [r] at e; cases e
  · exact hc.elim
theorem FnI.imp {P : Program} {w : World} {K : PySem.W.Frag} {mg : Str → Option Value} {base : Heap} {x : Str} {k : Nat} {ps : List Str} {sp sp' : Sp} (F : FnI P w K mg base x k ps sp) (h : ∀ vs H Q E, sp' vs H Q E → sp vs H Q E) : FnI P w K mg base x k ps sp' := by
  obtain ⟨f, fd, h1, h2, h3, h4⟩ := F.ex
  exact ⟨f, fd, h1.imp h, h2, h3, h4⟩
end Xl


namespace Xl
open PySem PySem.Spec PyProof.Rows L2
/-! ### try .. except C as e: .. -/
abbrev DCl := Addr × (Addr → Value → Option Addr → CS)
def gonC (i : Nat) (C : CEnds) : CEnds := ⟨fun δ => C.nx (δ.set i .emp), C.rt, fun δ => C.bk (δ.set i .emp), fun δ => C.ct (δ.set i .emp), FX⟩
def hndD (K : PySem.W.Frag) (i : Nat) (C : CEnds) : List DCl → KX
  | [] => C.ex
  | (Ch, ts) :: r => fun Ce fs δ => ∃ y, PySem.W.exmOne K (.ref Ce) (.ref Ch) = some y ∧ (y = true → ∀ z d, (fs ≠ [] → d.isSome = true) → i < δ.length ∧ ts z (.ref Ce) d (δ.set i (.sh (.exn z d Ce fs))) (gonC i C)) ∧ (y = false → hndD K i C r Ce fs δ)
def cTry (K : PySem.W.Frag) (i : Nat) (tb : CS) (hs : List DCl) : CS := fun δ C => tb δ { C with ex := hndD K i C hs }
/-- the clauses as the rule of readings wants them -/
def toCl (h : DCl) : Cl := (.ref h.1, fun z cls d => liftS W0 (h.2 z cls d))
theorem ErR.is {A : Fp} {H : Hp} {o : Option Addr} {fs : List (Str × D)} (h : ErR A H o fs) (z C : Addr) : Is A H (.ref z) (.exn z o C fs) := by
  rcases h with ⟨rfl, rfl⟩ | ⟨d, xs, rfl, h1, h2, h3⟩
  · exact .exn0 z C
  · exact .exn1 h1 h2 h3
theorem hnd_lift {K : PySem.W.Frag} {i : Nat} {W : WX} {B M : Fp} {H : Hp} {N : Ends} {C : CEnds} (k : EOk W B M H N C) : ∀ (hs : List DCl) {Ce : Addr} {fs : List (Str × D)} {δ : DEnv} {σ : L2.St} {o : Option Addr} {H' : Hp} {M' : Fp},
    hndD K i C hs Ce fs δ → ErR (Ex B M') H' o fs → ER B M' H' σ δ → Fz B M H M' H' → wAsM K i W N (hs.map toCl) (.ref Ce) o σ H'
  | [], _, _, _, _, _, _, _, h, e, er, f => k.ex _ _ _ _ _ _ _ h e er f
  | (Ch, ts) :: r, Ce, fs, δ, σ, o, H', M', ⟨y, hy, yes, no⟩, e, er, f => by
    refine ⟨y, hy, fun ey z hz => ?_, fun ey => hnd_lift k r (no ey) e er f⟩
    obtain ⟨hi, h⟩ := yes ey z o fun ne => by
      rcases e with ⟨_, q⟩ | ⟨d, _, q, _⟩
      · exact absurd q ne
      · rw [q]; rfl
    obtain ⟨M2, er2, f2⟩ := er.set (i := i) hi (e.is z Ce)
    have f02 := f.trans f2.fz
    refine ⟨B, M2, _, _, er2, h, ⟨fun δ' σ' H2 M3 h1 er3 f3 => ?_, fun d δ' v σ' H2 M3 h1 i1 er3 f3 => k.rt d δ' v σ' H2 M3 h1 i1 er3 (f02.trans f3), fun δ' σ' H2 M3 h1 er3 f3 => ?_, fun δ' σ' H2 M3 h1 er3 f3 => ?_, fun _ _ _ _ _ _ _ h1 => h1.elim⟩⟩
    · obtain ⟨M4, er4, f4⟩ := er3.drop' (o := none) i
      exact k.nx _ _ H2 M4 h1 er4 ((f02.trans f3).trans f4.fz)
    · obtain ⟨M4, er4, f4⟩ := er3.drop' (o := none) i
      exact k.bk _ _ H2 M4 h1 er4 ((f02.trans f3).trans f4.fz)
    · obtain ⟨M4, er4, f4⟩ := er3.drop' (o := none) i
      exact k.ct _ _ H2 M4 h1 er4 ((f02.trans f3).trans f4.fz)
inductive HdD (X : Cx) (n : Str) : List ExceptHandler → List DCl → Prop
  | nil : HdD X n [] []
  | cons {x : Str} {Ch : Addr} {ts : Addr → Value → Option Addr → CS} {b0 : Stmt} {su : List Stmt} {np hp : Pos} {hds : List ExceptHandler} {l : List DCl} (hc : Names X x (.ref Ch))
      (hsu : ∀ (z : Addr) (oz : Obj) (cls : Value) (d : Option Addr) (pn : List (Addr × Obj)), Zc cls d oz → (∃ vs, oz.data = .fields vs) → PSsD (X.suite z ((z, oz) :: pn)) W0 (b0 :: su) (ts z cls d)) (r : HdD X n hds l) :
      HdD X n (.ExceptHandler (some (.Name x np)) (some n) (b0 :: su) hp :: hds) ((Ch, ts) :: l)
theorem HdD.hdA {X : Cx} {n : Str} : ∀ {hds : List ExceptHandler} {l : List DCl}, HdD X n hds l → HdA X n hds (l.map toCl)
  | _, _, .nil => .nil
  | _, _, .cons hc hsu r => .cons hc hsu r.hdA
section
variable {X : Cx} {n : Str} {i : Nat} {bd : List Stmt} {hh0 : ExceptHandler} {hs' : List ExceptHandler} {l : List DCl} {pos : Pos} {tb : CS} {W : WX}
theorem psd_try (e1 : X.stack = X.env :: X.outer) (e2 : X.env.frame = some X.env.locals) (nd : X.N.Nodup) (ei : X.N[i]? = some n) (en : X.env.kindOf n = some .local) (tk : Takes X W)
    (hb : ∀ (W : WX) (pn : List (Addr × Obj)) (xe : Value → Shared → Prop), Takes (X.tr pn xe) W → PassesOwn (model X.prog X.w) X.A X.env xe → PSsD (X.tr pn xe) W bd tb)
    (hk : HdD X n (hh0 :: hs') l) : PSD X W (.Try bd (hh0 :: hs') [] [] pos) (cTry X.K i tb l) := PS.imp (ps_try_asM (tb := fun W => liftS W tb) e1 e2 nd ei en tk hb hk.hdA) fun N σ H ⟨B, M, δ, C, er, ht, k⟩ =>
  ⟨B, M, δ, _, er, ht, ⟨k.nx, k.rt, k.bk, k.ct, fun Ce fs δ' σ' o H' M' h1 h2 h3 h4 => hnd_lift k l h1 h2 h3 h4⟩⟩
/-- e.f in a suite -/
def cXf (z : Addr) (cls : Value) (d : Option Addr) (f : Str) (ta : CE) : CE := fun δ R RX => ta δ (fun v δ1 => match v with
  | .exn a d' C fs => a = z ∧ d' = d ∧ cls = .ref C ∧ optAt (fs.lookup f) fun x => R x δ1
  | _ => False) RX
/-- .. of an error of the class at C -/
def cXfC (C : Addr) (z : Addr) (cls : Value) (d : Option Addr) (f : Str) (ta : CE) : CE := fun δ R RX => cls = .ref C ∧ cXf z cls d f ta δ R RX
theorem pd_xf {z C : Addr} {oz : Obj} {cls : Value} {d : Option Addr} {pn : List (Addr × Obj)} {e : Expr} {ta : CE} {f : Str} {p' : Pos} (T : XfC X.K C) (hno : PySem.W.findIn X.K (.ref C) f = some none) (hz : Zc cls d oz) (hf : ∃ vs, oz.data = .fields vs) (he : PD (X.suite z ((z, oz) :: pn)) W0 e ta)
    (hab : attributeBase e f (X.suite z ((z, oz) :: pn)).env (eval e (X.suite z ((z, oz) :: pn)).env) = eval e (X.suite z ((z, oz) :: pn)).env := by rfl) : PD (X.suite z ((z, oz) :: pn)) W0 (.Attribute e f p') (cXfC C z cls d f ta) := PE.imp (pe_xf T hno hz hf he hab) fun σ H Q ⟨B, M, δ, R, RX, er, ⟨hcl, ht⟩, k, x⟩ => by
  refine ⟨B, M, δ, _, RX, er, ht, fun v δ1 u H1 M1 h1 i1 er1 f1 => ?_, x⟩
  split at h1
  · obtain ⟨rfl, rfl, hc, h1⟩ := h1
    obtain ⟨y, ey, h1⟩ := h1.get
    cases i1 with
    | exn0 _ _ => cases ey
    | exn1 e1 n1 l1 =>
      obtain ⟨w, ew, hw⟩ := l1.look ey
      exact ⟨rfl, hcl, _, _, w, rfl, e1, ew, k y δ1 w H1 M1 h1 hw er1 f1⟩
  · exact h1.elim
/-- isinstance(e, D2) in a suite -/
def cIsX (K : PySem.W.Frag) (C z : Addr) (cls : Value) (d : Option Addr) (c2 : Value) (ta : CE) : CE := fun δ R RX => cls = .ref C ∧ ta δ (fun v δ1 => match v with
  | .exn a d' C' _ => a = z ∧ d' = d ∧ C' = C ∧ d.isSome = true ∧ ∃ b, PySem.W.kitOne K (.ref C) c2 = some b ∧ R (.bl b) δ1
  | _ => False) RX
theorem pd_isX {z C : Addr} {oz : Obj} {cls : Value} {d : Option Addr} {pn : List (Addr × Obj)} {e e2 e0 : Expr} {ta : CE} {c2 : V} {cv : Value} (T : XfC X.K C) (Tk : XkC X.K C) (hz : Zc cls d oz) (hf : ∃ vs, oz.data = .fields vs)
    (h : ∀ t', PA (X.suite z ((z, oz) :: pn)) [e, e2] t' → PE (X.suite z ((z, oz) :: pn)) e0 (tCB (rIsX X.K C z cls d) t')) (he : PD (X.suite z ((z, oz) :: pn)) W0 e ta) (h2 : PE (X.suite z ((z, oz) :: pn)) e2 (tC c2)) (hc2 : ∀ u, RelV c2 u → u = cv)
    (hs : starEach [e, e2] (X.suite z ((z, oz) :: pn)).env = (false, eval e (X.suite z ((z, oz) :: pn)).env) :: starEach [e2] (X.suite z ((z, oz) :: pn)).env := by rfl) (hs2 : starEach [e2] (X.suite z ((z, oz) :: pn)).env = (false, eval e2 (X.suite z ((z, oz) :: pn)).env) :: starEach [] (X.suite z ((z, oz) :: pn)).env := by rfl) :
    PD (X.suite z ((z, oz) :: pn)) W0 e0 (cIsX X.K C z cls d cv ta) := PE.imp (h _ (pa_cons he (pa_cons h2 pa_nil hs2) hs)) fun σ H Q ⟨B, M, δ, R, RX, er, ⟨hcl, ht⟩, k, x⟩ => by
  refine ⟨B, M, δ, _, RX, er, ht, fun v δ1 u H1 M1 h1 i1 er1 f1 => ?_, x⟩
  split at h1
  · obtain ⟨rfl, rfl, rfl, hsm, b, hb, h1⟩ := h1
    cases i1 with
    | exn0 _ _ => cases hsm
    | exn1 e1 n1 l1 => exact ⟨c2, cv, b, _, _, hcl, rfl, e1, rfl, hc2, hb, k _ δ1 _ H1 M1 h1 (.bl _) er1 f1⟩
  · exact h1.elim
end
end Xl


namespace Xl
open PySem PySem.Spec PyProof.Rows L2
def kD : Key → D
  | .inl i => .int i
  | .inr s => .str s
theorem kD_is {A : Fp} {H : Hp} {k : Key} (h : keyOk k = true) : Is A H (kV k) (kD k) := by
  cases k with
  | inl i => exact .int i
  | inr s => exact .str s h
theorem keyD_ok {A : Fp} {H : Hp} {v : V} {d : D} {k : Key} (h : Is A H v d) (e : keyD d = some k) : keyOk k = true := by
  cases h <;> cases e <;> first | rfl | assumption
theorem IsK.get {A : Fp} {H : Hp} : ∀ {vs : List (Key × V)} {ds : List (Key × D)} {i : Nat} {k : Key} {v : V}, IsK A H vs ds → vs[i]? = some (k, v) → ∃ d, ds[i]? = some (k, d) ∧ Is A H v d ∧ keyOk k = true
  | _, _, i, _, _, .nil, e => by simp at e
  | _, _, 0, _, _, .cons hk h _, e => by simp at e; obtain ⟨rfl, rfl⟩ := e; exact ⟨_, rfl, h, hk⟩
  | _, _, i + 1, k, v, .cons _ _ t, e => by
    obtain ⟨d, h1, h2⟩ := t.get (i := i) (k := k) (v := v) (by simpa using e)
    exact ⟨d, by simpa using h1, h2⟩
theorem IsK.any {A : Fp} {H : Hp} {k : Key} : ∀ {vs : List (Key × V)} {ds : List (Key × D)}, IsK A H vs ds → (vs.any fun kv => decide (kv.1 = k)) = ds.any fun kv => decide (kv.1 = k)
  | _, _, .nil => rfl
  | _, _, .cons _ _ t => by rw [List.any_cons, List.any_cons, t.any]
theorem IsK.mapPut {A : Fp} {H : Hp} {k : Key} {v : V} {d : D} (h : Is A H v d) : ∀ {vs : List (Key × V)} {ds : List (Key × D)}, IsK A H vs ds → IsK A H (vs.map fun kv => if kv.1 = k then (kv.1, v) else kv) (ds.map fun kv => if kv.1 = k then (kv.1, d) else kv)
  | _, _, .nil => .nil
  | _, _, .cons (k := k') hk' h' t => by
    rw [List.map_cons, List.map_cons]
    by_cases e : k' = k
    · simp only [if_pos e]
      exact .cons hk' h (IsK.mapPut h t)
    · simp only [if_neg e]
      exact .cons hk' h' (IsK.mapPut h t)
theorem IsK.snoc {A : Fp} {H : Hp} {k : Key} {v : V} {d : D} (hk : keyOk k = true) (h : Is A H v d) : ∀ {vs : List (Key × V)} {ds : List (Key × D)}, IsK A H vs ds → IsK A H (vs ++ [(k, v)]) (ds ++ [(k, d)])
  | _, _, .nil => .cons hk h .nil
  | _, _, .cons hk' h' t => .cons hk' h' (IsK.snoc hk h t)
theorem IsK.put {A : Fp} {H : Hp} {k : Key} {v : V} {d : D} (hk : keyOk k = true) (h : Is A H v d) {vs : List (Key × V)} {ds : List (Key × D)} (l : IsK A H vs ds) : IsK A H (putK vs k v) (putD ds k d) := by
  unfold putK putD
  rw [l.any]
  split
  · exact IsK.mapPut h l
  · exact IsK.snoc hk h l
/-! ### where a dict stands -/
structure Pth (X : Cx) (e : Expr) (pth : DEnv → Option (List (Key × D))) : Prop where
  ex : ∃ te, PE X e te ∧ ∀ {σ : L2.St} {H : Hp} {B M : Fp} {δ : DEnv} {kvs : List (Key × D)}, ER B M H σ δ → pth δ = some kvs → ∃ a vs, Rd H a (.dK vs) ∧ ¬ Ex B M a ∧ IsK (Ex B M) H vs kvs ∧ ∀ H1 : Hp, (∀ b o, b ≠ a → H b = some o → H1 b = some o) → ∀ Q : VK, Q (.ref a) H1 → te σ H1 Q
def pthV (i : Nat) : DEnv → Option (List (Key × D)) := fun δ => match δ[i]? with
  | some (.sh (.dic kvs)) => some kvs
  | _ => none
def pthF (C : Addr) (f : Str) (i : Nat) : DEnv → Option (List (Key × D)) := fun δ => match fldsAt δ i with
  | some (C', fs) => if C' = C then (match fs.lookup f with
    | some (.dic kvs) => some kvs
    | _ => none) else none
  | none => none
section
variable {X : Cx} {W : WX} {e tg : Expr} {i : Nat} {C : Addr} {f : Str} {pos apos cpos : Pos} {sts : List Stmt} {st : Stmt} {pth : DEnv → Option (List (Key × D))} {g : CG} {tb : CS}
theorem pth_v (h : PE X e (tVar i)) : Pth X e (pthV i) := ⟨_, h, fun er ep => by
  unfold pthV at ep
  split at ep
  · next kvs q =>
    cases ep
    obtain ⟨v, ev, hv⟩ := er.sh q
    cases hv with
    | dic e n l => exact ⟨_, _, e, n, l, fun H1 _ Q q => ⟨_, ev, q⟩⟩
  · cases ep⟩
theorem pth_f (hcl : Cls X.K C) (hno : NoAttr X.K C f) (he : PE X e (tVar i)) (hb : attributeBase e f X.env (eval e X.env) = eval e X.env := by rfl) : Pth X (.Attribute e f pos) (pthF C f i) := ⟨_, pe_fld he hb, fun er ep => by
  unfold pthF at ep
  split at ep
  · next C' fs q =>
    split at ep
    · next hc =>
      subst hc
      split at ep
      · next kvs q2 =>
        cases ep
        obtain ⟨a, dx, vs, ev, h1, l⟩ := er.flds q
        obtain ⟨u, eu, hu⟩ := l.look q2
        cases hu with
        | dic e2 n2 l2 =>
          refine ⟨_, _, e2, n2, l2, fun H1 hk Q qq => ⟨_, ev, a, C', dx, vs, _, rfl, hk a _ (fun z => ?_) h1, hcl, hno, eu, qq⟩⟩
          subst z
          rcases e2 with e2 | ⟨_, e2⟩ <;> rw [h1] at e2 <;> cases e2
      · cases ep
    · cases ep
  · cases ep⟩
/-! ### what is walked -/
theorem kz_frz {A A' : Fp} {H H' : Hp} {a : Addr} {ob : Obj} {u : HO} (k : Kz A H A' H') (e : H a = some (.frz ob u)) (n : ¬ A a) : H' a = some (.frz ob u) := by
  obtain ⟨_, h | ⟨_, _, q, _⟩⟩ := k a _ e n
  · exact h
  · cases q
def dKeys (kvs : List (Key × D)) : List D := kvs.map fun kv => kD kv.1
def dVals (kvs : List (Key × D)) : List D := kvs.map (·.2)
def dItms (kvs : List (Key × D)) : List D := kvs.map fun kv => .tup [kD kv.1, kv.2]
variable {B M : Fp} {H : Hp} {a : Addr} {ob : Obj} {vs : List (Key × V)} {ds : List (Key × D)}
theorem dwalk_keys (e : H a = some (.frz ob (.dK vs))) (n : ¬ Ex B M a) (l : IsK (Ex B M) H vs ds) : DWalk B M H (Itk a ob vs) (dKeys ds) := by
  have hl : (dKeys ds).length = vs.length := by unfold dKeys; rw [List.length_map, l.length]
  refine ⟨fun H2 => H2 a = some (.frz ob (.dK vs)), fun H2 A2 k => kz_frz k e n, fun j H2 hj hg => ⟨hg, by rw [hl] at hj; exact hj⟩, fun H2 hg => ⟨hg, by rw [hl]; exact Nat.le_refl _⟩, fun j H2 A2 x H3 hj k _ y => ?_⟩
  obtain ⟨rfl, kk, v, ev, rfl⟩ := y
  obtain ⟨d, ed, hd, hk⟩ := l.get ev
  refine ⟨Same.refl _, kD kk, ?_, kD_is hk⟩
  unfold dKeys
  rw [List.getElem?_map, ed]
  rfl
theorem dwalk_vals (e : H a = some (.frz ob (.dK vs))) (n : ¬ Ex B M a) (l : IsK (Ex B M) H vs ds) : DWalk B M H (Itd a ob vs) (dVals ds) := by
  have hl : (dVals ds).length = vs.length := by unfold dVals; rw [List.length_map, l.length]
  refine ⟨fun H2 => H2 a = some (.frz ob (.dK vs)), fun H2 A2 k => kz_frz k e n, fun j H2 hj hg => ⟨hg, by rw [hl] at hj; exact hj⟩, fun H2 hg => ⟨hg, by rw [hl]; exact Nat.le_refl _⟩, fun j H2 A2 x H3 hj k _ y => ?_⟩
  obtain ⟨rfl, kk, ev⟩ := y
  obtain ⟨d, ed, hd, hk⟩ := (l.keep k.keep).get ev
  refine ⟨Same.refl _, d, ?_, hd⟩
  unfold dVals
  rw [List.getElem?_map, ed]
  rfl
theorem dwalk_itms (e : H a = some (.frz ob (.dK vs))) (n : ¬ Ex B M a) (l : IsK (Ex B M) H vs ds) : DWalk B M H (Iti a ob vs) (dItms ds) := by
  have hl : (dItms ds).length = vs.length := by unfold dItms; rw [List.length_map, l.length]
  refine ⟨fun H2 => H2 a = some (.frz ob (.dK vs)), fun H2 A2 k => kz_frz k e n, fun j H2 hj hg => ⟨hg, by rw [hl] at hj; exact hj⟩, fun H2 hg => ⟨hg, by rw [hl]; exact Nat.le_refl _⟩, fun j H2 A2 x H3 hj k dom y => ?_⟩
  obtain ⟨T, kk, v, ev, rfl, hT, rfl⟩ := y
  obtain ⟨d, ed, hd, hk⟩ := (l.keep k.keep).get ev
  have nw : New H2 T (.tup [kV kk, v]) (upd H2 T (.tup [kV kk, v])) := new_of hT
  refine ⟨nw.same, .tup [kD kk, d], ?_, .tup nw.at (dom_new dom hT) (.cons (kD_is hk) (.cons (hd.keep (Keep.same nw.same)) .nil))⟩
  unfold dItms
  rw [List.getElem?_map, ed]
  rfl
/-! ### for over a dict -/
theorem for_core {σ : L2.St} {δ : DEnv} {J : It} {xs : List D} {K : CEnds} {N : Ends} (er1 : ER B M H σ δ) (w : DWalk B M H J xs) (h1 : cForL g tb K xs δ) (k : EOk W B M H N K) :
    ∃ Wd : Nat → Nat → L2.St → Hp → Prop, (∃ m, Wd 0 m σ H) ∧ ∀ i m σ H, Wd i m σ H → (J.stop i H ∧ N.nx σ H) ∨ (J.go i H ∧ ∃ Nn : L2.St → Hp → Prop, (∀ σ' H', Nn σ' H' → ∃ m', m' < m ∧ Wd (i + 1) m' σ' H') ∧ ∀ x H', J.yld i H x H' → liftG g x σ H' fun σ2 H2 => liftS W tb { N with nx := Nn, ct := Nn, bk := N.nx } σ2 H2) := by
  obtain ⟨G, g0, g1, g2, g3⟩ := w.ex
  refine ⟨fun i m σ2 H2 => m = xs.length - i ∧ i ≤ xs.length ∧ ∃ M2 δ2, ER B M2 H2 σ2 δ2 ∧ Fz B M H M2 H2 ∧ cForL g tb K (xs.drop i) δ2, ⟨_, rfl, Nat.zero_le _, M, δ, er1, Fz.refl _ _, h1⟩, ?_⟩
  rintro i m σ2 H2 ⟨rfl, hi, M2, δ2, er2, f2, h2⟩
  by_cases hlt : i < xs.length
  · refine .inr ⟨g1 i H2 hlt (g0 H2 _ (Kz.fz f2)), _, fun σ' H' z => ⟨xs.length - (i + 1), by omega, z⟩, fun x H3 y => ?_⟩
    obtain ⟨s3, d, ed, hd⟩ := g3 i H2 _ x H3 hlt (Kz.fz f2) (fun b hb => er2.edom hb) y
    have e : xs.drop i = d :: xs.drop (i + 1) := by
      rw [List.drop_eq_getElem_cons hlt]
      rw [List.getElem?_eq_getElem hlt] at ed
      cases ed
      rfl
    rw [e] at h2
    have f3 : Fz B M H M2 H3 := f2.trans (Fz.same s3)
    refine ⟨B, M2, δ2, d, _, er2.same s3, hd, h2, fun δ4 σ4 H4 M4 h4 er4 f4 => ?_⟩
    have f14 := f3.trans f4
    refine ⟨B, M4, δ4, _, er4, h4, ⟨fun δ5 σ5 H5 M5 h5 er5 f5 => ⟨rfl, hlt, M5, δ5, er5, f14.trans f5, h5⟩, fun d5 δ5 v5 σ5 H5 M5 h5 i5 er5 f5 => k.rt d5 δ5 v5 σ5 H5 M5 h5 i5 er5 (f14.trans f5), fun δ5 σ5 H5 M5 h5 er5 f5 => k.nx δ5 σ5 H5 M5 h5 er5 (f14.trans f5), fun δ5 σ5 H5 M5 h5 er5 f5 => ⟨rfl, hlt, M5, δ5, er5, f14.trans f5, h5⟩,
      fun c fs δ5 σ5 o H5 M5 h5 i5 er5 f5 => k.ex c fs δ5 σ5 o H5 M5 h5 i5 er5 (f14.trans f5)⟩⟩
  · have e : i = xs.length := by omega
    subst e
    rw [List.drop_length] at h2
    exact .inl ⟨g2 H2 (g0 H2 _ (Kz.fz f2)), k.nx δ2 σ2 H2 M2 h2 er2 f2⟩
/-- a dict locked -/
theorem ER.lock {σ : L2.St} {δ : DEnv} (h : ER B M H σ δ) (e : H a = some (.dK vs)) (n : ¬ Ex B M a) : ER B M (upd H a (.frz ob (.dK vs))) σ δ ∧ Fz B M H M (upd H a (.frz ob (.dK vs))) := by
  refine ⟨h.to (fun b o eb nb => ⟨nb, ?_⟩) (fun b u hb eb => by rw [upd_ne fun (z : b = a) => n (.inr (z ▸ hb))]; exact eb) (fun b o eb => ?_), ⟨fun b o eb nb => ?_, fun b z => .inl z, fun b z => upd_free z⟩⟩
  · by_cases hb : b = a
    · subst hb
      rw [e] at eb
      cases eb
      exact .inr ⟨vs, _, .inl rfl, upd_same, .inr ⟨ob, rfl⟩⟩
    · exact .inl (by rw [upd_ne hb]; exact eb)
  · by_cases hb : b = a
    · subst hb; exact ⟨_, upd_same⟩
    · exact ⟨o, by rw [upd_ne hb]; exact eb⟩
  · by_cases hb : b = a
    · subst hb
      rw [e] at eb
      cases eb
      exact .inr ⟨fun z => n (.inl z), vs, ob, rfl, upd_same⟩
    · exact .inl (by rw [upd_ne hb]; exact eb)
/-- .. and opened again -/
theorem ER.open_ {σ : L2.St} {δ : DEnv} {M' : Fp} {H' : Hp} (h : ER B M' H' σ δ) (e : H a = some (.dK vs)) (n : ¬ Ex B M a) (f : Fz B M (upd H a (.frz ob (.dK vs))) M' H') :
    H' a = some (.frz ob (.dK vs)) ∧ ER B M' (upd H' a (.dK vs)) σ δ ∧ Fz B M H M' (upd H' a (.dK vs)) ∧ ¬ Ex B M' a := by
  have ha : H' a = some (.frz ob (.dK vs)) := by
    rcases f.keep a _ upd_same fun z => n (.inr z) with z | ⟨_, _, _, q, _⟩
    · exact z
    · cases q
  have nM' : ¬ M' a := fun z => (f.grow a z).elim (fun q => n (.inr q)) fun q => by rw [upd_same] at q; cases q
  refine ⟨ha, h.to (fun b o eb nb => ⟨nb, ?_⟩) (fun b u hb eb => by rw [upd_ne fun (z : b = a) => nM' (z ▸ hb)]; exact eb) (fun b o eb => ?_), ⟨fun b o eb nb => ?_, fun b z => ?_, fun b z => ?_⟩, fun z => z.elim (fun q => n (.inl q)) nM'⟩
  · by_cases hb : b = a
    · subst hb
      rw [ha] at eb
      cases eb
      exact .inr ⟨vs, _, .inr ⟨ob, rfl⟩, upd_same, .inl rfl⟩
    · exact .inl (by rw [upd_ne hb]; exact eb)
  · by_cases hb : b = a
    · subst hb; exact ⟨_, upd_same⟩
    · exact ⟨o, by rw [upd_ne hb]; exact eb⟩
  · by_cases hb : b = a
    · subst hb
      rw [e] at eb
      cases eb
      exact .inl upd_same
    · rw [upd_ne hb]
      exact f.keep b o (by rw [upd_ne hb]; exact eb) nb
  · refine (f.grow b z).imp id fun q => ?_
    exact upd_free q
  · have z' := f.free b (upd_free z)
    exact upd_free z'
def cForD (pth : DEnv → Option (List (Key × D))) (kd : List (Key × D) → List D) (g : CG) (tb : CS) : CS := fun δ C => optAt (pth δ) fun kvs => cForL g tb C (kd kvs) δ
/-- the walks of a dict: keys, values, pairs -/
structure WkD (wi : TE → TI) (kd : List (Key × D) → List D) : Prop where
  go : ∀ {te : TE} {σ : L2.St} {H : Hp} {B M : Fp} {R : It → Hp → Prop} {a : Addr} {ob : Obj} {vs : List (Key × V)} {ds : List (Key × D)}, H a = some (.frz ob (.dK vs)) → ¬ Ex B M a → IsK (Ex B M) H vs ds → (∀ Q : VK, Q (.ref a) H → te σ H Q) → (∀ J, DWalk B M H J (kd ds) → R J H) → wi te σ H R
theorem wk_keys : WkD iKeys dKeys := ⟨fun e n l hq k => hq _ ⟨_, _, rfl, .inl ⟨_, e, k _ (dwalk_keys e n l)⟩⟩⟩
theorem wk_vals : WkD iVals dVals := ⟨fun e n l hq k => hq _ ⟨_, _, _, rfl, e, k _ (dwalk_vals e n l)⟩⟩
theorem wk_itms : WkD iItems dItms := ⟨fun e n l hq k => hq _ ⟨_, _, _, rfl, e, k _ (dwalk_itms e n l)⟩⟩
theorem psd_forD {wi : TE → TI} {kd : List (Key × D) → List D} (wk : WkD wi kd) (h : ∀ te g' t', PE X e te → PG X tg g' → PSs X sts t' → PS X st (tFor (wi te) g' t')) (P : Pth X e pth) (hg : PGD X tg g) (hb : PSsD X W sts tb) : PSD X W st (cForD pth kd g tb) := by
  refine ⟨fun pins s σ H N I ⟨B, M, δ, C, er, ht, k⟩ => ?_⟩
  obtain ⟨kvs, ep, ht⟩ := ht.get
  obtain ⟨te, hte, hp⟩ := P.ex
  obtain ⟨a, vs, rd, na, lk, ev⟩ := hp er ep
  rcases rd with e0 | ⟨ob, e0⟩
  · refine (ps_lock (h te _ _ hte hg hb)).run pins s σ H N I ⟨a, .dK vs, e0, trivial, fun od => ?_⟩
    obtain ⟨er1, f1⟩ := er.lock (ob := od) e0 na
    refine wk.go upd_same na (lk.keep (Keep.fr (B := B) f1)) (fun Q q => ev _ (fun b o hb eb => by rw [upd_ne hb]; exact eb) Q q) fun J w => ?_
    refine for_core er1 w ht ⟨fun δ' σ' H' M' h1 er2 f2 => ?_, fun d δ' v σ' H' M' h1 i1 er2 f2 => ?_, fun δ' σ' H' M' h1 er2 f2 => ?_, fun δ' σ' H' M' h1 er2 f2 => ?_, fun c fs δ' σ' o H' M' h1 i1 er2 f2 => k.ex c fs δ' σ' o H' M' h1 i1 er2 (f1.trans f2)⟩
    · obtain ⟨h2, er3, f3, _⟩ := er2.open_ e0 na f2
      exact ⟨h2, k.nx δ' σ' _ M' h1 er3 f3⟩
    · obtain ⟨h2, er3, f3, n3⟩ := er2.open_ e0 na f2
      refine ⟨h2, k.rt d δ' v σ' _ M' h1 (i1.keep fun b o eb nb => ⟨nb, ?_⟩) er3 f3⟩
      by_cases hb : b = a
      · subst hb
        rw [h2] at eb
        cases eb
        exact .inr ⟨vs, _, .inr ⟨_, rfl⟩, upd_same, .inl rfl⟩
      · exact .inl (by rw [upd_ne hb]; exact eb)
    · obtain ⟨h2, er3, f3, _⟩ := er2.open_ e0 na f2
      exact ⟨h2, k.bk δ' σ' _ M' h1 er3 f3⟩
    · obtain ⟨h2, er3, f3, _⟩ := er2.open_ e0 na f2
      exact ⟨h2, k.ct δ' σ' _ M' h1 er3 f3⟩
  · refine (h te _ _ hte hg hb).run pins s σ H N I ?_
    exact wk.go e0 na lk (fun Q q => ev H (fun _ _ _ eb => eb) Q q) fun J w => for_core er w ht k
end
end Xl


namespace Xl
open PySem PySem.Spec PyProof.Rows L2
def cDcL (g : CG) (tt : CT) (tk tv : CE) (vs : List Nat) (k : List (Key × D) → DEnv → Prop) : List D → DEnv → List (Key × D) → Prop
  | [], δ, acc => k acc δ
  | d :: ds, δ, acc => g d δ fun δ1 => tt δ1 (fun b δ2 => if b = true then tk δ2 (fun y δ3 => tv δ3 (fun z δ4 => ∃ kk, keyD y = some kk ∧ acc.length < sizeLine ∧ cDcL g tt tk tv vs k ds (wipeD δ4 vs) (putD acc kk z)) FX) FX else cDcL g tt tk tv vs k ds (wipeD δ2 vs) acc) FX
section
variable {X : Cx} {W : WX} {e tg iter : Expr} {es : List Expr} {pos apos cpos : Pos} {i : Nat} {g : CG} {ta : CE} {t : CA} {vs : List Nat} {pth : DEnv → Option (List (Key × D))}
theorem dc_in {B M1 : Fp} {H1 : Hp} {σ : L2.St} {δ1 : DEnv} {J : It} {ds : List D} {tt : CT} {tk tv : CE} {R : List (Key × D) → DEnv → Prop} {Q : VK} (hn : vs.Nodup) (er1 : ER B M1 H1 σ δ1) (w : DWalk B M1 H1 J ds) (h1 : cDcL g tt tk tv vs (fun acc δ2 => R acc (rstD δ1 δ2 vs)) ds (wipeD δ1 vs) [])
    (k : ∀ acc δ' p us H' M', R acc δ' → ER (Bp B p) M' H' σ δ' → Fz B M1 H1 M' H' → H1 p = none → H' p = some (.dK us) → IsK (Ex (Bp B p) M') H' us acc → Q (.ref p) H') :
    ∀ L, H1 L = none → ∃ Wd : Nat → Nat → Hp → Prop, (∃ m, Wd 0 m (upd H1 L (.dK []))) ∧ ∀ i m H, Wd i m H →
      (J.stop i H ∧ Q (.ref L) H) ∨ (J.go i H ∧ ∃ Nx : Hp → Prop, (∀ H', Nx H' → ∃ m', m' < m ∧ Wd (i + 1) m' H') ∧ ∀ x H', J.yld i H x H' → liftGV vs g x (wipe σ vs) H' fun σ2 H2 => wipe σ2 vs = wipe σ vs ∧ liftT W0 tt σ2 H2 fun b H3 =>
        if b = true then liftE W0 tk σ2 H3 fun y H4 => liftE W0 tv σ2 H4 fun z H5 => ∃ kvs kk, y = kV kk ∧ H5 L = some (.dK kvs) ∧ kvs.length < sizeLine ∧ Nx (upd H5 L (.dK (putK kvs kk z))) else Nx H3) := by
  intro L hL
  obtain ⟨G, g0, g1, g2, g3⟩ := w.ex
  have nw : New H1 L (.dK []) (upd H1 L (.dK [])) := new_of hL
  obtain ⟨M1', er1', f1'⟩ := (er1.foreign nw).wip vs
  have f10 : Fz B M1 H1 M1' (upd H1 L (.dK [])) := (Fz.same nw.same).trans f1'.fz
  refine ⟨fun i m H2 => m = ds.length - i ∧ i ≤ ds.length ∧ ∃ M2 δ2 acc accd, ER (Bp B L) M2 H2 (wipe σ vs) δ2 ∧ Fz B M1 H1 M2 H2 ∧ H2 L = some (.dK acc) ∧ IsK (Ex (Bp B L) M2) H2 acc accd ∧ cDcL g tt tk tv vs (fun acc δ2 => R acc (rstD δ1 δ2 vs)) (ds.drop i) δ2 accd,
    ⟨_, rfl, Nat.zero_le _, M1', _, [], [], er1', f10, nw.at, .nil, h1⟩, ?_⟩
  rintro i m H2 ⟨rfl, hi, M2, δ2, acc, accd, er2, f2, hL2, hacc, h2⟩
  by_cases hlt : i < ds.length
  · refine .inr ⟨g1 i H2 hlt (g0 H2 _ (Kz.fz f2)), _, fun H' z => ⟨ds.length - (i + 1), by omega, z⟩, fun x3 H3 y => ?_⟩
    obtain ⟨s3, d, ed, hd⟩ := g3 i H2 (Ex (Bp B L) M2) x3 H3 hlt (kz_new hL f2) (fun b hb => er2.edom hb) y
    have e : ds.drop i = d :: ds.drop (i + 1) := by
      rw [List.drop_eq_getElem_cons hlt]
      rw [List.getElem?_eq_getElem hlt] at ed
      cases ed
      rfl
    rw [e] at h2
    have hL3 : H3 L = some (.dK acc) := s3 _ _ hL2
    have er3 := er2.same s3
    have acc3 := hacc.keep (Keep.same s3)
    have stay : ∀ {M4 : Fp} {H4 : Hp}, Fz (Bp B L) M2 H3 M4 H4 → H4 L = some (.dK acc) := fun f => f.exact (.inr rfl) er3.nB hL3
    have low : ∀ {Ma Mb : Fp} {Ha Hb : Hp}, Fz (Bp B L) Ma Ha Mb Hb → Fz B Ma Ha Mb Hb := fun f => f.fgn fun b z => .inl z
    refine ⟨Bp B L, M2, δ2, d, _, er3, hd, h2, fun δ4 σ4 H4 M4 h4 er4 f4 w4 => ⟨by rw [w4]; exact wipe_wipe σ vs, ?_⟩⟩
    refine ⟨Bp B L, M4, δ4, _, FX, er4, h4, fun b δ5 H5 M5 h5 er5 f5 => ?_, xok0⟩
    have f45 := f4.trans f5
    have f15 : Fz B M1 H1 M5 H5 := (f2.trans (Fz.same s3)).trans (low f45)
    have w4' : wipe σ4 vs = wipe σ vs := by rw [w4]; exact wipe_wipe σ vs
    cases b with
    | false =>
      obtain ⟨M6, er6, f6⟩ := er5.wip vs
      rw [w4'] at er6
      exact iteF ⟨rfl, hlt, M6, _, acc, accd, er6, f15.trans f6.fz, stay f45, acc3.keep (Keep.fr (B := Bp B L) (f45.trans f6.fz)), h5⟩
    | true =>
      refine iteT ⟨Bp B L, M5, δ5, _, FX, er5, h5, fun y' δ6 v6 H6 M6 h6 i6 er6 f6 => ?_, xok0⟩
      refine ⟨Bp B L, M6, δ6, _, FX, er6, h6, fun z' δ7 v7 H7 M7 h7 i7 er7 f7 => ?_, xok0⟩
      obtain ⟨kk, ek, hz, h7⟩ := h7
      have f47 := (f45.trans f6).trans f7
      have f17 := (f15.trans (low f6)).trans (low f7)
      have i6' := i6.keep (Keep.fr f7)
      refine ⟨acc, kk, keyD_is i6 ek, stay f47, by rw [hacc.length]; exact hz, ?_⟩
      have acc7 := acc3.keep (Keep.fr (B := Bp B L) f47)
      have kp : Keep (Ex (Bp B L) M7) H7 (Ex (Bp B L) M7) (upd H7 L (.dK (putK acc kk v7))) := fun b o eb nb => ⟨nb, .inl (by rw [upd_ne fun (z : b = L) => nb (.inl (.inr z))]; exact eb)⟩
      have er8 : ER (Bp B L) M7 (upd H7 L (.dK (putK acc kk v7))) σ4 δ7 := er7.to kp (fun b u hb eb => by rw [upd_ne fun (z : b = L) => er7.nB (z ▸ hb)]; exact eb) (fun b o eb => by
        by_cases hb : b = L
        · exact ⟨_, by rw [hb]; exact upd_same⟩
        · exact ⟨o, by rw [upd_ne hb]; exact eb⟩)
      obtain ⟨M9, er9, f9⟩ := er8.wip vs
      rw [w4'] at er9
      have f18 : Fz B M1 H1 M7 (upd H7 L (.dK (putK acc kk v7))) := ⟨fun b o eb nb => by rw [upd_ne (ne_of_none eb hL)]; exact f17.keep b o eb nb, f17.grow, fun b z => f17.free b (upd_free z)⟩
      exact ⟨rfl, hlt, M9, _, _, _, er9, f18.trans f9.fz, upd_same, ((IsK.put (keyD_ok i6 ek) i7 acc7).keep kp).keep (Keep.fr f9.fz), h7⟩
  · have e : i = ds.length := by omega
    subst e
    rw [List.drop_length] at h2
    refine .inl ⟨g2 H2 (g0 H2 _ (Kz.fz f2)), ?_⟩
    have old : ∀ (v : Nat) (d : D), δ1[v]? = some (Sl.sh d) → ∃ u, σ[v]? = some (some u) ∧ Is (Ex (Bp B L) M2) H2 u d := fun v d ev => by
      obtain ⟨u, eu, hu⟩ := er1.sh ev
      exact ⟨u, eu, hu.keep (kz_new hL f2).keep⟩
    obtain ⟨M3, er3, f3⟩ := ER.back (δ1 := δ1) old hn er2
    exact k accd _ L acc H2 M3 h2 er3 (f2.trans f3.fz) hL hL2 (hacc.keep (Keep.fr f3.fz))
def cDc (ti : CA) (g : CG) (tt : CT) (tk tv : CE) (vs : List Nat) : CE := fun δ R RX => ti δ (fun ds δ1 => cDcL g tt tk tv vs (fun acc δ2 => R (.dic acc) (rstD δ1 δ2 vs)) ds (wipeD δ1 vs) []) RX
def cDcD (pth : DEnv → Option (List (Key × D))) (kd : List (Key × D) → List D) (g : CG) (tt : CT) (tk tv : CE) (vs : List Nat) : CE := fun δ R _ => optAt (pth δ) fun kvs => cDcL g tt tk tv vs (fun acc δ2 => R (.dic acc) (rstD δ δ2 vs)) (kd kvs) (wipeD δ vs) []
def cLcD (pth : DEnv → Option (List (Key × D))) (kd : List (Key × D) → List D) (g : CG) (tt : CT) (te : CE) (vs : List Nat) : CA := fun δ R _ => optAt (pth δ) fun kvs => cLcL g tt te vs (fun acc δ2 => R acc (rstD δ δ2 vs)) (kd kvs) (wipeD δ vs) []
theorem is_newdic {B M : Fp} {H : Hp} {σ : L2.St} {δ : DEnv} {p : Addr} {us : List (Key × V)} {acc : List (Key × D)} {H0 : Hp} {M0 : Fp} {δ0 : DEnv} {σ0 : L2.St} (er0 : ER B M0 H0 σ0 δ0) (hn : H0 p = none) (er : ER (Bp B p) M H σ δ) (hp : H p = some (.dK us)) (l : IsK (Ex (Bp B p) M) H us acc) : Is (Ex B M) H (.ref p) (.dic acc) :=
  .dic (.inl hp) (fun z => z.elim (er0.nfree hn) er.nB) (l.keep (Keep.less fun b z => z.imp .inl id))
theorem pd_dc {kx vx tg iter : Expr} {ifs : List Expr} {scope : Scope} {own : List (Str × Nat)} {ti : CA} {tt : CT} {tk tv : CE} (hc : X.calm = true) (hN : X.N.Nodup) (hi : PID X W tg iter ti) (ok : BlkOk X.N X.env.scope scope own) (hn : (own.map (·.2)).Nodup)
    (hg : ∀ (s : Shared) (H : Hp) (C : Addr) (cl : List (Str × Addr)) (fp : List Addr), PGV (X.blk s H scope (compEnvC scope cl C X.env) fp) (own.map (·.2)) tg g) (ht : ∀ (s : Shared) (H : Hp) (C : Addr) (cl : List (Str × Addr)) (fp : List Addr), PTs (X.blk s H scope (compEnvC scope cl C X.env) fp) ifs (liftT W0 tt))
    (hk : ∀ (s : Shared) (H : Hp) (C : Addr) (cl : List (Str × Addr)) (fp : List Addr), PD (X.blk s H scope (compEnvC scope cl C X.env) fp) W0 kx tk)
    (he : ∀ (s : Shared) (H : Hp) (C : Addr) (cl : List (Str × Addr)) (fp : List Addr), PD (X.blk s H scope (compEnvC scope cl C X.env) fp) W0 vx tv) (hs : ∀ x, foldedSetIterable iter X.env x = pure x := by intro _; rfl) :
    PD X W (.DictComp kx vx [⟨tg, iter, ifs, 0⟩] scope pos) (cDc ti g tt tk tv (own.map (·.2))) := PE.imp (pe_dc hc hN hi ok hg ht hk he hs) fun σ H Q ⟨B, M, δ, R, RX, er, ht, k, x⟩ => by
  refine ⟨B, M, δ, _, RX, er, ht, fun ds δ1 J H1 M1 h1 er1 f1 w => ?_, x⟩
  exact dc_in (R := fun acc δ2 => R (.dic acc) δ2) hn er1 w h1 fun acc δ' p us H' M' r1 r2 r3 r4 r5 r6 => k (.dic acc) δ' _ H' M' r1 (is_newdic er1 r4 r2 r5 r6) (r2.less fun b z => .inl z) (f1.trans r3)
/-- behind the walk of a dict that was open: what was made stands when it is open again -/
theorem is_open {B M M' : Fp} {H H' : Hp} {a : Addr} {ob : Obj} {us : List (Key × V)} {v : V} {d : D} (ha : H' a = some (.frz ob (.dK us))) (h : Is (Ex B M') H' v d) : Is (Ex B M') (upd H' a (.dK us)) v d := h.keep fun b o eb nb => ⟨nb, by
  by_cases hb : b = a
  · subst hb
    rw [ha] at eb
    cases eb
    exact .inr ⟨us, _, .inr ⟨_, rfl⟩, upd_same, .inl rfl⟩
  · exact .inl (by rw [upd_ne hb]; exact eb)⟩
theorem pd_dcD {kx vx tg : Expr} {e0 : Expr} {own : List (Str × Nat)} {tt : CT} {tk tv : CE} {wi : TE → TI} {kd : List (Key × D) → List D} (wk : WkD wi kd) (hn : (own.map (·.2)).Nodup)
    (h : ∀ te, PE X e te → PE X e0 (tDc (wi te) (liftGV (own.map (·.2)) g) (liftT W0 tt) (liftE W0 tk) (liftE W0 tv) (own.map (·.2)))) (P : Pth X e pth) : PD X W e0 (cDcD pth kd g tt tk tv (own.map (·.2))) := by
  refine ⟨fun pins s σ H Q I ⟨B, M, δ, R, RX, er, ht, k, x⟩ => ?_⟩
  obtain ⟨kvs, ep, ht⟩ := ht.get
  obtain ⟨te, hte, hp⟩ := P.ex
  obtain ⟨a, us, rd, na, lk, ev⟩ := hp er ep
  rcases rd with e0' | ⟨ob, e0'⟩
  · refine (pe_lock (h te hte)).run pins s σ H Q I ⟨a, .dK us, e0', trivial, fun od => ?_⟩
    obtain ⟨er1, f1⟩ := er.lock (ob := od) e0' na
    refine wk.go upd_same na (lk.keep (Keep.fr (B := B) f1)) (fun Q q => ev _ (fun b o hb eb => by rw [upd_ne hb]; exact eb) Q q) fun J w => ?_
    refine dc_in (R := fun acc δ2 => R (.dic acc) δ2) (Q := fun v H' => H' a = some (.frz od (.dK us)) ∧ Q v (upd H' a (.dK us))) hn er1 w ht fun acc δ' p us' H' M' r1 r2 r3 r4 r5 r6 => ?_
    have r2' := r2.less (B' := B) fun b z => .inl z
    obtain ⟨h2, er3, f3, _⟩ := r2'.open_ e0' na r3
    exact ⟨h2, k (.dic acc) δ' _ _ M' r1 (is_open (M := M) (H := H) h2 (is_newdic er1 r4 r2 r5 r6)) er3 f3⟩
  · refine (h te hte).run pins s σ H Q I ?_
    refine wk.go e0' na lk (fun Q q => ev H (fun _ _ _ eb => eb) Q q) fun J w => ?_
    exact dc_in (R := fun acc δ2 => R (.dic acc) δ2) hn er w ht fun acc δ' p us' H' M' r1 r2 r3 r4 r5 r6 => k (.dic acc) δ' _ H' M' r1 (is_newdic er r4 r2 r5 r6) (r2.less fun b z => .inl z) r3
theorem is_newlst {B M : Fp} {H : Hp} {σ : L2.St} {δ : DEnv} {p : Addr} {us : List V} {acc : List D} {H0 : Hp} {M0 : Fp} {δ0 : DEnv} {σ0 : L2.St} (er0 : ER B M0 H0 σ0 δ0) (hn : H0 p = none) (er : ER (Bp B p) M H σ δ) (hp : H p = some (.lst us)) (l : IsL (Ex (Bp B p) M) H us acc) : Is (Ex B M) H (.ref p) (.lst acc) :=
  .lst hp (fun z => z.elim (er0.nfree hn) er.nB) (l.keep (Keep.less fun b z => z.imp .inl id))
/-- a list made of a dict's entries, shared -/
theorem pd_lcD {e0 : Expr} {own : List (Str × Nat)} {tt : CT} {te0 : CE} {wi : TE → TI} {kd : List (Key × D) → List D} (wk : WkD wi kd) (hn : (own.map (·.2)).Nodup)
    (h : ∀ te, PE X e te → PE X e0 (tLc (wi te) (liftGV (own.map (·.2)) g) (liftT W0 tt) (liftE W0 te0) (own.map (·.2)))) (P : Pth X e pth) : PD X W e0 (cFr (cLcD pth kd g tt te0 (own.map (·.2)))) := by
  refine ⟨fun pins s σ H Q I ⟨B, M, δ, R, RX, er, ht, k, x⟩ => ?_⟩
  obtain ⟨kvs, ep, ht⟩ := ht.get
  obtain ⟨te, hte, hp⟩ := P.ex
  obtain ⟨a, us, rd, na, lk, ev⟩ := hp er ep
  rcases rd with e0' | ⟨ob, e0'⟩
  · refine (pe_lock (h te hte)).run pins s σ H Q I ⟨a, .dK us, e0', trivial, fun od => ?_⟩
    obtain ⟨er1, f1⟩ := er.lock (ob := od) e0' na
    refine wk.go upd_same na (lk.keep (Keep.fr (B := B) f1)) (fun Q q => ev _ (fun b o hb eb => by rw [upd_ne hb]; exact eb) Q q) fun J w => ?_
    refine lc_in (R := fun acc δ2 => R (.lst acc) δ2) (Q := fun v H' => H' a = some (.frz od (.dK us)) ∧ Q v (upd H' a (.dK us))) hn er1 w ht fun acc δ' p us' H' M' r1 r2 r3 r4 r5 r6 => ?_
    have r2' := r2.less (B' := B) fun b z => .inl z
    obtain ⟨h2, er3, f3, _⟩ := r2'.open_ e0' na r3
    exact ⟨h2, k (.lst acc) δ' _ _ M' r1 (is_open (M := M) (H := H) h2 (is_newlst er1 r4 r2 r5 r6)) er3 f3⟩
  · refine (h te hte).run pins s σ H Q I ?_
    refine wk.go e0' na lk (fun Q q => ev H (fun _ _ _ eb => eb) Q q) fun J w => ?_
    exact lc_in (R := fun acc δ2 => R (.lst acc) δ2) hn er w ht fun acc δ' p us' H' M' r1 r2 r3 r4 r5 r6 => k (.lst acc) δ' _ H' M' r1 (is_newlst er r4 r2 r5 r6) (r2.less fun b z => .inl z) r3
end
end Xl


namespace Xl
open PySem PySem.Spec PyProof.Rows L2
/-! ### sorted of tuples of texts -/
/-- one text before another -/
def ltX (x y : Str) : Bool := decide (x.cps.toList < y.cps.toList)
def ltT : List Str → List Str → Bool
  | [], [] => false
  | [], _ :: _ => true
  | _ :: _, [] => false
  | x :: xs, y :: ys => if x = y then ltT xs ys else ltX x y
theorem str_ofc {x y : Str} (h : x.cps.toList = y.cps.toList) : x = y := by
  obtain ⟨⟨a⟩⟩ := x
  obtain ⟨⟨b⟩⟩ := y
  cases (show a = b from h)
  rfl
theorem ltX_eq {x y : Str} (h1 : ltX x y = false) (h2 : ltX y x = false) : x = y :=
  str_ofc (List.le_antisymm (List.not_lt.mp (of_decide_eq_false h2)) (List.not_lt.mp (of_decide_eq_false h1)))
theorem ltX_asym {x y : Str} (h : ltX x y = true) : ltX y x = false := decide_eq_false (List.lt_asymm (of_decide_eq_true h))
theorem ltX_irr (x : Str) : ltX x x = false := decide_eq_false (List.lt_irrefl _)
theorem ltX_trans {x y z : Str} (h1 : ltX x y = true) (h2 : ltX y z = true) : ltX x z = true := decide_eq_true (List.lt_trans (of_decide_eq_true h1) (of_decide_eq_true h2))
theorem ltX_tot {x y : Str} (h : x ≠ y) (h1 : ltX x y = false) : ltX y x = true := by
  cases e : ltX y x
  · exact absurd (ltX_eq h1 e) h
  · rfl
theorem ltT_asym : ∀ xs ys : List Str, ltT xs ys = true → ltT ys xs = false
  | [], [], h => by cases h
  | [], _ :: _, _ => rfl
  | _ :: _, [], h => by cases h
  | x :: xs, y :: ys, h => by
    unfold ltT at h ⊢
    by_cases e : x = y
    · rw [if_pos e] at h; rw [if_pos e.symm]; exact ltT_asym xs ys h
    · rw [if_neg e] at h; rw [if_neg (Ne.symm e)]; exact ltX_asym h
theorem ltT_tot : ∀ xs ys : List Str, ltT xs ys = false → ltT ys xs = false → xs = ys
  | [], [], _, _ => rfl
  | [], _ :: _, h, _ => by cases h
  | _ :: _, [], _, h => by cases h
  | x :: xs, y :: ys, h1, h2 => by
    unfold ltT at h1 h2
    by_cases e : x = y
    · rw [if_pos e] at h1; rw [if_pos e.symm] at h2
      rw [e, ltT_tot xs ys h1 h2]
    · rw [if_neg e] at h1; rw [if_neg (Ne.symm e)] at h2
      exact absurd (ltX_eq h1 h2) e
theorem ltT_trans : ∀ xs ys zs : List Str, ltT xs ys = true → ltT ys zs = true → ltT xs zs = true
  | [], [], _, h, _ => by cases h
  | [], _ :: _, [], _, h => by cases h
  | [], _ :: _, _ :: _, _, _ => rfl
  | _ :: _, [], _, h, _ => by cases h
  | _ :: _, _ :: _, [], _, h => by cases h
  | x :: xs, y :: ys, z :: zs, h1, h2 => by
    unfold ltT at h1 h2 ⊢
    by_cases e : x = y
    · subst e
      rw [if_pos rfl] at h1
      by_cases e2 : x = z
      · rw [if_pos e2] at h2 ⊢; exact ltT_trans xs ys zs h1 h2
      · rw [if_neg e2] at h2 ⊢; exact h2
    · rw [if_neg e] at h1
      by_cases e2 : y = z
      · subst e2
        rw [if_neg e]; exact h1
      · rw [if_neg e2] at h2
        have q := ltX_trans h1 h2
        by_cases e3 : x = z
        · subst e3; rw [ltX_irr] at q; cases q
        · rw [if_neg e3]; exact q
theorem ltT_tr (xs ys zs : List Str) (h1 : ltT ys xs = false) (h2 : ltT zs ys = false) : ltT zs xs = false := by
  cases e : ltT zs xs
  · rfl
  · cases e1 : ltT xs ys
    · have q := ltT_tot ys xs h1 e1
      subst q
      rw [e] at h2; cases h2
    · have q := ltT_trans zs xs ys e e1
      rw [q] at h2; cases h2
theorem ltT_swo {α : Type} (k : α → List Str) : SrtO.Swo (fun v u : α => ltT (k v) (k u)) := ⟨fun _ _ h => ltT_asym _ _ h, fun _ _ _ h1 h2 => ltT_tr _ _ _ h1 h2⟩
/-- v is a tuple of the texts xs -/
def IsTx (h : Heap) (v : Value) (xs : List Str) : Prop := ∃ a o its n, v = .ref a ∧ h.get? a = some o ∧ o.cls = .type "tuple" ∧ o.data = .seq its n ∧ StrsAre its.toList xs ∧ xs ≠ []
theorem StrsAre.len' : ∀ {vs : List Value} {xs : List Str}, StrsAre vs xs → vs.length = xs.length
  | _, _, .nil => rfl
  | _, _, .cons _ _ t => congrArg (· + 1) (StrsAre.len' t)
section
variable {prog : Program} {w : World} {A : Around} {E : Value → Shared → Prop} {s : Shared}
theorem lex_texts {b fin : Bool} {Q : Bool → Shared → Prop} : ∀ {ps qs : List Value} {xs ys : List Str} {i : Nat}, StrsAre ps xs → StrsAre qs ys → fin = decide (xs.length < ys.length) → Q (ltT xs ys) s →
    PySem.W.KatLex prog w A b fin Q (ps.zip qs) i s
  | _, _, _, _, _, .nil, .nil, e, h => PySem.W.kat_nil (by rw [e]; exact h)
  | _, _, _, _, _, .nil, .cons _ _ _, e, h => PySem.W.kat_nil (by rw [e]; exact h)
  | _, _, _, _, _, .cons _ _ _, .nil, e, h => PySem.W.kat_nil (by rw [e]; exact h)
  | _, _, _, _, i, .cons x t (vs := ps) (ys := xs) r, .cons y u (vs := qs) (ys := ys) r2, e, h => by
    refine PySem.W.kat_cons (SeqAt.EqAt.str_str x t y u prog w _ _ (PySem.W.kat_go (fun q => PySem.W.kat_yes ?_) fun q => PySem.W.kat_no ?_))
    · have e1 : x = y := eq_of_beq q
      refine lex_texts r r2 (by rw [e]; simp) ?_
      unfold ltT at h
      rw [if_pos e1] at h; exact h
    · have e1 : x ≠ y := ne_of_beq_false q
      unfold ltT at h
      rw [if_neg e1] at h
      exact oneLt_any_str h
theorem IsTx.keep {h h' : Heap} {v : Value} {xs : List Str} (x : IsTx h v xs) (k : ∀ b o, h.get? b = some o → o.cls = .type "tuple" → h'.get? b = some o) : IsTx h' v xs := by
  obtain ⟨a, o, its, n, e, ho, hc, r⟩ := x
  exact ⟨a, o, its, n, e, k a o ho hc, hc, r⟩
theorem txs_firsts {h : Heap} {k : Value → List Str} : ∀ {vs : List Value}, (∀ v ∈ vs, IsTx h v (k v)) → ∃ fs : List Value, PySem.W.KatTups h vs fs ∧ fs.length = vs.length ∧ ∀ f ∈ fs, ∃ x t, f = Value.str x t
  | [], _ => ⟨[], PySem.W.KatTups.nil, rfl, fun _ z => nomatch z⟩
  | v :: vs, hv => by
    obtain ⟨fs, h1, h2, h3⟩ := txs_firsts fun u hu => hv u (List.mem_cons_of_mem _ hu)
    obtain ⟨a, o, its, n, e, ho, hc, hd, r, ne⟩ := hv v List.mem_cons_self
    subst e
    generalize hk : k (Value.ref a) = xs at r ne
    obtain ⟨its⟩ := its
    cases r with
    | nil => exact absurd rfl ne
    | cons x t r' =>
      refine ⟨.str x t :: fs, PySem.W.KatTups.cons ho hc hd rfl h1, by rw [List.length_cons, List.length_cons, h2], fun f hf => ?_⟩
      rcases List.mem_cons.mp hf with q | q
      · exact ⟨x, t, q⟩
      · exact h3 f q
theorem txs_sortable {a : Addr} {vs : List Value} {k : Value → List Str} (h0 : 0 < vs.length) (hv : ∀ v ∈ vs, IsTx s.heap v (k v)) (ha : ∀ o, s.heap.get? a = some o → o.cls ≠ .type "tuple") :
    SrtO.SortableO prog w A s a vs fun v u => ltT (k v) (k u) := by
  intro h' kp
  have hv' : ∀ v ∈ vs, IsTx h' v (k v) := fun v m => (hv v m).keep fun b o e c => kp b o (fun z => ha o (z ▸ e) c) e
  obtain ⟨fs, h1, h2, h3⟩ := txs_firsts hv'
  refine ⟨tuples' true, fun Q E hq => ?_, fun p q m m' => ?_⟩
  · refine PySem.W.kat_kind (T := .type "str") h1 (by omega) (fun f m => ?_) (by rfl) (by rw [show (Value.type "str" != Value.type "tuple") = true by decide]; exact hq)
    obtain ⟨x, t, rfl⟩ := h3 f m
    exact PySem.W.Looks.now
  · obtain ⟨a1, o1, i1, n1, e1, ho1, hc1, hd1, r1, _⟩ := hv' _ m
    obtain ⟨a2, o2, i2, n2, e2, ho2, hc2, hd2, r2, _⟩ := hv' _ m'
    show wpAny (model prog w) A (keyLt' (tuples' true) p.1 q.1) (fun r s' => s' = _ ∧ r = ltT (k p.1) (k q.1)) (fun _ _ => False) _
    generalize k p.1 = xs at r1 ⊢
    generalize k q.1 = ys at r2 ⊢
    rw [e1, e2]
    exact PySem.W.kat_lt ho1 hd1 ho2 hd2 (lex_texts r1 r2 (by rw [← StrsAre.len' r1, ← StrsAre.len' r2, Array.length_toList, Array.length_toList]) ⟨rfl, rfl⟩)
theorem sorted_txs {l : Addr} {vs : List Value} {k : Value → List Str} {Q : Value → Shared → Prop} (hl : s.heap.IsList l vs.toArray) (hz : vs.length ≤ sizeLine) (hv : ∀ v ∈ vs, IsTx s.heap v (k v))
    (h : ∀ (h' : Heap) (d : Addr) (out : List Value), SrtO.Srtd (fun v u => ltT (k v) (k u)) out → out.Perm vs → (∀ b o, s.heap.get? b = some o → h'.get? b = some o) → s.heap.objs.size ≤ d → (∃ n, h'.get? d = some (seqObj "list" out.toArray n)) → Q (.ref d) { s with heap := h' }) :
    wpAny (model prog w) A (call (.builtin "sorted") [.ref l]) Q E s := by
  refine SrtO.sorted_ord (ltT_swo k) hl hz (fun h2 h₁ a ha kk => ?_) fun out hs hb => h _ _ out hs hb.perm (fun b o e => sortedAll_old e) (Nat.le_succ _) (sortedAll_at s.heap vs out.toArray)
  refine txs_sortable (s := { s with heap := h₁ }) (by omega) (fun v m => (hv v m).keep fun b o e _ => (kk b o e).2) fun o e c => ?_
  rw [show o = seqObj "list" vs.toArray 0 from Option.some.inj (e.symm.trans ha)] at c
  exact absurd (Value.type.inj c) (by decide)
end
end Xl


namespace Xl
open PySem PySem.Spec PyProof.Rows L2
section
variable {prog : Program} {w : World} {A : Around} {E : Value → Shared → Prop} {s : Shared}
/-- the items of a tuple, gathered -/
theorem collect_tup {l : Addr} {vs : List Value} {Q : List Value → Shared → Prop} (hl : s.heap.IsTuple l vs.toArray) (hz : vs.length ≤ sizeLine)
    (h : ∀ h', (∀ b o, s.heap.get? b = some o → h'.get? b = some o) → s.heap.objs.size ≤ h'.objs.size → Q vs { s with heap := h' }) : wpAny (model prog w) A (collect (.ref l)) Q E s := by
  obtain ⟨o, ho, hc, n, hd⟩ := hl
  have lt := Heap.lt_size ho
  have at0 : (s.heap.push (seqObj "list" #[] 0)).get? s.heap.objs.size = some (seqObj "list" #[] 0) := Heap.get?_push_size _ rfl
  have ho' : (s.heap.push (seqObj "list" #[] 0)).get? l = some o := Heap.get?_push_of_some _ ho
  unfold collect
  refine wpAny_bind (wpAny_runValue (codeAny_builtin entry_proto_collect' (show wpAny _ _ (do again (.builtin "list.__iadd__" ⟨[← newList [], .ref l], []⟩)) _ _ s from ?_)))
  refine wpAny_bind (wpAny_newList (wpAny_pure ⟨Code.quiet_builtin _ (by decide +kernel), codeAny_builtin entry_list_iadd' ?_⟩))
  show wpAny _ _ (Builtin.List.listExtendWith (.ref s.heap.objs.size) (.ref l) (.ref s.heap.objs.size)) _ _ { s with heap := s.heap.push (seqObj "list" #[] 0) }
  unfold Builtin.List.listExtendWith
  refine wpAny_bind (wpAny_typeOf (T := "tuple") ⟨o, ho', hc⟩ ?_)
  have t1 : (Value.type "tuple" == Value.type "tuple") = true := by rfl
  rw [if_pos (by rw [t1]; simp)]
  refine wpAny_bind (listItems_at ho' hd (wpAny_bind (listItems_at (xs := #[]) (n := 0) at0 rfl ?_)))
  rw [if_neg (by simp [Nat.ne_of_gt lt])]
  refine wpAny_bind (listUpdate_at (xs := #[]) (n := 0) at0 rfl (wpAny_pure ?_) (Nat.zero_le _) (by show (#[] ++ vs.toArray).size ≤ sizeLine + 1; rw [Array.size_append, List.size_toArray]; show 0 + vs.length ≤ _; omega))
  refine wpAny_bind (m := load s.heap.objs.size) (wpAny_load (get?_update_seq at0 _) ?_)
  refine (show wpAny _ _ (pure ((#[] : Array Value) ++ vs.toArray).toList) Q E _ from ?_)
  rw [show ((#[] : Array Value) ++ vs.toArray).toList = vs by simp]
  refine wpAny_pure (h _ (fun b u e => ?_) (by rw [Heap.size_update, size_push']; exact Nat.le_succ _))
  rw [Heap.get?_update_ne _ _ _ _ (Nat.ne_of_lt (Heap.lt_size e))]
  exact Heap.get?_push_of_some _ e
theorem sorted_txsT {l : Addr} {vs : List Value} {k : Value → List Str} {Q : Value → Shared → Prop} (hl : s.heap.IsTuple l vs.toArray) (hz : vs.length ≤ sizeLine) (hv : ∀ v ∈ vs, IsTx s.heap v (k v))
    (h : ∀ (h' : Heap) (d : Addr) (out : List Value), SrtO.Srtd (fun v u => ltT (k v) (k u)) out → out.Perm vs → (∀ b o, s.heap.get? b = some o → h'.get? b = some o) → s.heap.objs.size ≤ d → (∃ n, h'.get? d = some (seqObj "list" out.toArray n)) → Q (.ref d) { s with heap := h' }) :
    wpAny (model prog w) A (call (.builtin "sorted") [.ref l]) Q E s := by
  refine Calls.call_function_entry kind_sorted plain_sorted entry_sorted (args_sorted1 _) ?_
  unfold Builtin.«sorted»
  refine wpAny_bind (m := checkCount "sorted" 1 1 _) (wpAny_pure (wpAny_bind (collect_tup hl hz fun h1 k1 s1 => wpAny_bind (wpAny_newList ?_ hz))))
  have at1 : (h1.push (seqObj "list" vs.toArray 0)).get? h1.objs.size = some (seqObj "list" vs.toArray 0) := Heap.get?_push_size _ rfl
  have kp : ∀ b o, s.heap.get? b = some o → b < h1.objs.size ∧ (h1.push (seqObj "list" vs.toArray 0)).get? b = some o := fun b o e => ⟨Heap.lt_size (k1 b o e), Heap.get?_push_of_some _ (k1 b o e)⟩
  refine wpAny_bind (wpAny_holding (wpAny_call_entry slot_list_sort ⟨_, at1, rfl⟩ entry_list_sort (SrtO.list_sort_ord (ltT_swo k) at1 hz (fun h2 => ?_) fun out hs hb => ⟨_, rfl, ?_⟩) (args_list_sort _)))
  · refine txs_sortable (s := { s with heap := h1.push (seqObj "list" vs.toArray 0) }) (by omega) (fun v m => (hv v m).keep fun b o e _ => (kp b o e).2) fun o e c => ?_
    rw [show o = seqObj "list" vs.toArray 0 from Option.some.inj (e.symm.trans at1)] at c
    exact absurd (Value.type.inj c) (by decide)
  · obtain ⟨c, hc⟩ := sortedHeap_at (vs := vs) (out := out.toArray) at1
    refine wpAny_pure ⟨_, rfl, h _ h1.objs.size out hs hb.perm (fun b u e => ?_) s1 ⟨c, hc⟩⟩
    exact (sortedHeap_old (Nat.ne_of_lt (kp b u e).1) (by rw [size_push']; exact Nat.lt_succ_of_lt (kp b u e).1)).trans (kp b u e).2
end
/-- the texts of a tuple in H -/
def txH (H : Hp) : V → List Str
  | .ref t => match H t with
    | some (.tup vs) => vs.map fun v => match v with
      | .str z => z
      | _ => ⟨#[]⟩
    | _ => []
  | _ => []
def txD (ts : List Str) : D := .tup (ts.map .str)
theorem is_txs {A : Fp} {H : Hp} : ∀ {vs : List V} {tss : List (List Str)}, IsL A H vs (tss.map txD) → tss = vs.map (txH H) ∧ ∀ v ∈ vs, (∃ t, v = .ref t ∧ H t = some (.tup ((txH H v).map V.str))) ∧ Is A H v (txD (txH H v))
  | _, [], h => by cases h; exact ⟨rfl, fun _ z => nomatch z⟩
  | _, ts :: tss, h => by
    cases h with
    | cons a t =>
      obtain ⟨e1, e2⟩ := is_txs t
      have a' := a
      unfold txD at a'
      cases a' with
      | tup e n l =>
        obtain ⟨ev, ok⟩ := is_strs l
        subst ev
        rename_i p
        have q : txH H (.ref p) = ts := by
          unfold txH
          simp only [e, List.map_map]
          exact List.map_id' _
        refine ⟨by rw [List.map_cons, q, ← e1], fun v hv => ?_⟩
        rcases List.mem_cons.mp hv with rfl | hv
        · rw [q]; exact ⟨⟨p, rfl, e⟩, a⟩
        · exact e2 v hv
theorem isL_of {A : Fp} {H : Hp} {f : V → D} : ∀ {vs : List V}, (∀ v ∈ vs, Is A H v (f v)) → IsL A H vs (vs.map f)
  | [], _ => .nil
  | v :: _, h => .cons (h v List.mem_cons_self) (isL_of fun u hu => h u (List.mem_cons_of_mem _ hu))
section
variable {X : Cx}
def rSrtT : List D → (D → Prop) → Prop := fun ds R => match ds with
  | [.lst xs] => ∃ tss : List (List Str), xs = tss.map txD ∧ (∀ ts ∈ tss, ts ≠ []) ∧ ∀ us : List (List Str), us.Perm tss → us.Pairwise (fun a b => ltT b a = false) → R (.lst (us.map txD))
  | [.tup xs] => ∃ tss : List (List Str), xs = tss.map txD ∧ (∀ ts ∈ tss, ts ≠ []) ∧ ∀ us : List (List Str), us.Perm tss → us.Pairwise (fun a b => ltT b a = false) → R (.lst (us.map txD))
  | _ => False
theorem kd_srtT : CallR X (.builtin "sorted") (liftC rSrtT) := by
  rintro pins s σ H xs us Q I r ⟨A, ds, R, dom, i1, h, k⟩
  have core : ∀ {l : Addr} {vs : List V} {its : List Value} {tss : List (List Str)}, Vals vs its → vs.length ≤ sizeLine → (s.heap.IsList l its.toArray ∨ s.heap.IsTuple l its.toArray) → IsL A H vs (tss.map txD) → (∀ ts ∈ tss, ts ≠ []) →
      (∀ us : List (List Str), us.Perm tss → us.Pairwise (fun a b => ltT b a = false) → R (.lst (us.map txD))) → wpAny (model X.prog X.w) X.A (call (.builtin "sorted") [.ref l]) (EP X pins σ Q) X.xe s := by
    intro l vs its tss rv hz hl i2 ne hR
    obtain ⟨e1, e2⟩ := is_txs i2
    obtain ⟨b1, b2⟩ := refs_back rv fun x m => let ⟨⟨t, e, _⟩, _⟩ := e2 x m; ⟨t, e⟩
    have lv : its.length ≤ sizeLine := by rw [← rv.length]; exact hz
    have hv : ∀ v ∈ its, IsTx s.heap v (txH H (backV v)) := fun v m => by
      obtain ⟨t, rfl⟩ := b2 v m
      have m' : V.ref t ∈ vs := by rw [b1]; exact List.mem_map.mpr ⟨_, m, rfl⟩
      obtain ⟨⟨t', q, ht⟩, _⟩ := e2 _ m'
      cases q
      obtain ⟨_, i3, r3, o, ho, hc, n, hd⟩ := I.hok _ _ ht
      refine ⟨t, o, _, n, rfl, ho, hc, hd, ?_, ne _ (by rw [e1]; exact List.mem_map.mpr ⟨_, m', rfl⟩)⟩
      exact r3.strs
    have fin : ∀ (h' : Heap) (d : Addr) (out : List Value), SrtO.Srtd (fun v u => ltT (txH H (backV v)) (txH H (backV u))) out → out.Perm its → (∀ b o, s.heap.get? b = some o → h'.get? b = some o) → s.heap.objs.size ≤ d → (∃ n, h'.get? d = some (seqObj "list" out.toArray n)) → EP X pins σ Q (.ref d) { s with heap := h' } := fun h' d out so pm kp hd ⟨n, hn⟩ => by
      have o3 : ∀ u ∈ out, ∃ a, u = Value.ref a := fun u hu => b2 u (pm.mem_iff.mp hu)
      have pv : (out.map backV).Perm vs := by rw [b1]; exact pm.map backV
      have hp : H d = none := I.hok.fresh hd
      have ii : IsL A (upd H d (.lst (out.map backV))) (out.map backV) ((out.map backV).map fun v => txD (txH H v)) := (isL_of fun v m => (e2 v (pv.mem_iff.mp m)).2).keep (Keep.same (new_of hp).same)
      have ll : (out.map backV).length ≤ sizeLine := by rw [List.length_map, pm.length_eq]; exact lv
      have en : ((out.map backV).map fun v => txD (txH H v)) = ((out.map backV).map (txH H)).map txD := (List.map_map (f := txH H) (g := txD) (l := out.map backV)).symm
      rw [en] at ii
      refine ⟨.ref d, upd H d (.lst (out.map backV)), I.laid (t' := s.toks) kp hd ⟨ll, out, n, vals_back o3, hn⟩, rfl, k _ _ _ (hR ((out.map backV).map (txH H)) (by rw [e1]; exact pv.map _) ?_) (new_of hp).same (.lst (new_of hp).at (dom_new dom hp) ii)⟩
      rw [List.map_map]
      exact List.pairwise_map.mpr (so.imp fun {x y} z => z)
    rcases hl with hl | hl
    · exact sorted_txs (k := fun v => txH H (backV v)) hl lv hv fin
    · exact sorted_txsT (k := fun v => txH H (backV v)) hl lv hv fin
  unfold rSrtT at h
  split at h
  · obtain ⟨tss, rfl, ne, hR⟩ := h
    cases i1 with
    | cons a t =>
      cases t
      cases a with
      | lst e n l =>
        rw [Vals.ref1 r]
        obtain ⟨its, rv, pl, hz⟩ := I.list (SqL.of e)
        exact core rv hz (.inl pl.isList) l ne hR
  · obtain ⟨tss, rfl, ne, hR⟩ := h
    cases i1 with
    | cons a t =>
      cases t
      cases a with
      | tup e n l =>
        rw [Vals.ref1 r]
        obtain ⟨its, rv, pl, hz⟩ := I.tuple (SqT.of e)
        exact core rv hz (.inr pl) l ne hR
  · exact h.elim
end
end Xl


namespace Xl
open PySem PySem.Spec PyProof.Rows L2
/-! ### sets of texts -/
/-- the text of an entry -/
def kX (e : Int × Value) : Str := match e.2 with
  | .str z _ => z
  | _ => ⟨#[]⟩
def EntX (P : Program) (w : World) (e : Int × Value) : Prop := ∃ z t, e.2 = Value.str z t ∧ e.1 = (PySem.strKind P w).hash z
/-- the texts ks, in any order, are the set at a; it can be walked -/
structure SetA (P : Program) (w : World) (ks : List Str) (o : Obj) (es : Array (Int × Value)) (ep : Nat) (t : SetTable) : Prop where
  ex : o.ExactSet
  dt : o.data = .set es ep t
  en : ∀ e ∈ es.toList, EntX P w e
  pm : (es.toList.map kX).Perm ks
  nd : ks.Nodup
  bd : es.size < scanBound
  ft : t.fits es.size = true
  rs : Ris t.place.toList
  ld : w.params.followText "set-order" = true ∨ t.led = true
def SetX (P : Program) (w : World) (h : Heap) (a : Addr) (ks : List Str) : Prop := ∃ o es ep t, h.get? a = some o ∧ SetA P w ks o es ep t
section
variable {P : Program} {w : World} {A : Around} {E : Value → Shared → Prop} {s : Shared} {a : Addr} {ks : List Str}
theorem SetA.size {o : Obj} {es : Array (Int × Value)} {ep : Nat} {t : SetTable} (R : SetA P w ks o es ep t) : es.size = ks.length := by
  rw [← R.pm.length_eq, List.length_map, Array.length_toList]
theorem entX_is {e : Int × Value} (g : EntX P w e) (z : Str) : (PySem.strKind P w).is z e.2 = true ↔ kX e = z := by
  obtain ⟨z0, t, h1, _⟩ := g
  unfold kX
  rw [h1]
  constructor
  · intro q; exact (PySem.strKind P w).inj _ _ _ (strKind_is P w z0 t) q
  · intro q; rw [← q]; exact strKind_is P w z0 t
theorem entX_mem {l : List (Int × Value)} (g : ∀ e ∈ l, EntX P w e) (z : Str) : z ∈ l.map kX ↔ ∃ e ∈ l, (PySem.strKind P w).is z e.2 = true := by
  rw [List.mem_map]
  exact ⟨fun ⟨e, he, q⟩ => ⟨e, he, (entX_is (g e he) z).mpr q⟩, fun ⟨e, he, q⟩ => ⟨e, he, (entX_is (g e he) z).mp q⟩⟩
theorem entX_elems {l : List (Int × Value)} (g : ∀ e ∈ l, EntX P w e) : ElemsOf (PySem.strKind P w) l := fun e he => by
  obtain ⟨z, t, h1, h2⟩ := g e he
  exact ⟨⟨z, by rw [h1]; exact strKind_is P w z t, h2⟩, by rw [h1]; rfl⟩
theorem SetX.setOf {h : Heap} (R : SetX P w h a ks) : h.SetOf (PySem.strKind P w) a (fun z => decide (z ∈ ks)) ks.length := by
  obtain ⟨o, es, ep, t, ho, r⟩ := R
  exact ⟨o, es, ep, t, ho, r.ex, r.dt, entX_elems r.en, fun z => by rw [decide_eq_true_eq, ← r.pm.mem_iff]; exact entX_mem r.en z, r.bd, r.ft, r.size⟩
theorem SetX.keep {h h' : Heap} (R : SetX P w h a ks) (k : ∀ o, h.get? a = some o → h'.get? a = some o) : SetX P w h' a ks :=
  let ⟨o, es, ep, t, ho, r⟩ := R; ⟨o, es, ep, t, k o ho, r⟩
theorem SetX.swap {h : Heap} {ls : List Str} (R : SetX P w h a ks) (p : ks.Perm ls) : SetX P w h a ls := by
  obtain ⟨o, es, ep, t, ho, r⟩ := R
  exact ⟨o, es, ep, t, ho, r.ex, r.dt, r.en, r.pm.trans p, p.nodup_iff.mp r.nd, r.bd, r.ft, r.rs, r.ld⟩
/-- the set after storing es1, t2 -/
theorem put_at {h : Heap} {o : Obj} {es es' : Array (Int × Value)} {ep : Nat} {t t' : SetTable} (ho : h.get? a = some o) (hd : o.data = .set es ep t) : (h.update a (Obj.putSet es' t')).get? a = some { o with data := .set es' (ep + 1) t' } := by
  rw [← putSet_of es' t' hd]
  exact Heap.get?_update_self (Obj.putSet es' t') ho (by rw [putSet_of es' t' hd]; rfl)
theorem addX_tail {g : Bool → Sem Unit} (hg : ∀ (b : Bool) (s₁ : Shared) (Q' : Unit → Shared → Prop), Q' () s₁ → wpAny (model P w) A (g b) Q' E s₁) {o : Obj} {es : Array (Int × Value)} {ep : Nat} {t : SetTable} (ho : s.heap.get? a = some o) (hx : o.ExactSet) (hd : o.data = .set es ep t)
    {ls : List Str} {es1 : Array (Int × Value)} {t2 : SetTable} (R1 : ∀ ep', SetA P w ls { o with data := .set es1 ep' t2 } es1 ep' t2) {wasDummy : Bool} {R : Option Bool → Shared → Prop} (hR : ∀ h', Heap.SameBut a s.heap h' → SetX P w h' a ls → R (some true) { s with heap := h' }) :
    wpAny (model P w) A (do
        storeSet a es1 t2
        if (!wasDummy && t2.tooFull) = true then do
            g (relayAll t2 es1 (SetTable.grown es1.size)).2.2
            storeSet a (relayAll t2 es1 (SetTable.grown es1.size)).1 (relayAll t2 es1 (SetTable.grown es1.size)).2.1
            pure (some true)
          else pure (some true)) R E s := by
  have R0 := R1 0
  refine wpAny_bind (wpAny_storeSet_of ho hd ?_ (fits_of_scanBound R0.bd))
  have at1 := put_at (es' := es1) (t' := t2) ho hd
  have sb := Heap.SameBut.update s.heap a (Obj.putSet es1 t2)
  split
  · have q1 := relayAll_perm t2 es1 (SetTable.grown es1.size)
    have q2 := relayAll_fits t2 es1 (SetTable.grown es1.size)
    have q3 := relayAll_ris t2 es1 (SetTable.grown es1.size)
    have q4 := relayAll_led t2 es1 (SetTable.grown es1.size)
    generalize relayAll t2 es1 (SetTable.grown es1.size) = Z at q1 q2 q3 q4 ⊢
    obtain ⟨es2, t3, gv⟩ := Z
    dsimp only at q1 q2 q3 q4 ⊢
    have sz : es2.size = es1.size := by rw [← Array.length_toList, q1.length_eq, Array.length_toList]
    have bd2 : es2.size < scanBound := by rw [sz]; exact R0.bd
    refine wpAny_bind (hg _ _ _ (wpAny_bind (wpAny_storeSet_of at1 rfl (wpAny_pure (hR _ (sb.trans (Heap.SameBut.update _ a _)) ?_)) (fits_of_scanBound bd2))))
    exact ⟨_, es2, _, t3, put_at (es' := es2) (t' := t3) at1 rfl, R0.ex, rfl, fun e he => R0.en e (q1.mem_iff.mp he), (q1.map kX).trans R0.pm, R0.nd, bd2, q2, q3, R0.ld.imp id fun z => by rw [q4]; exact z⟩
  · exact wpAny_pure (hR _ sb ⟨_, es1, _, t2, at1, R1 _⟩)
theorem addX_hashed {z : Str} {u : Tok} {Q : Bool → Shared → Prop} (R : SetX P w s.heap a ks) (room : ks.length + 1 < scanBound) (hQ : ∀ h', Heap.SameBut a s.heap h' → SetX P w h' a (if z ∈ ks then ks else z :: ks) → Q (!decide (z ∈ ks)) { s with heap := h' }) :
    wpAny (model P w) A (setAddHashed a (.str z u) ((PySem.strKind P w).hash z)) Q E s := by
  obtain ⟨o, es, ep, t, ho, r⟩ := R
  have hk := strKind_is P w z u
  have sc : (Value.str z u).scannable = true := rfl
  have el := entX_elems r.en
  have ft := r.ft
  have hd := r.dt
  unfold setAddHashed setAddHashedIn
  refine wpAny_holding (wpAny_bind (wpAny_setState_of ho hd ft ?_))
  dsimp only
  rw [byScan_of sc r.bd el]
  simp only [↓reduceIte]
  unfold setAddByScan
  refine wpAny_bind (wpAny_bind (wpAny_rule (wpAny_bind (wpAny_setScan_of hk ho hd ft el ?_))))
  cases hf : List.findIdx? (fun e => (PySem.strKind P w).is z e.2) es.toList with
  | some j =>
    dsimp only
    obtain ⟨hj, pj, _⟩ := List.findIdx?_eq_some_iff_getElem.mp hf
    have m : z ∈ ks := r.pm.mem_iff.mp ((entX_mem r.en z).mpr ⟨_, List.getElem_mem hj, pj⟩)
    have q := hQ s.heap (Heap.SameBut.refl a s.heap)
    rw [if_pos m, decide_eq_true m] at q
    exact wpAny_pure (wpAny_pure (q ⟨o, es, ep, t, ho, r⟩))
  | none =>
    dsimp only
    have nm : z ∉ es.toList.map kX := fun q => by
      obtain ⟨e, he, q⟩ := (entX_mem r.en z).mp q
      have c := List.findIdx?_eq_none_iff.mp hf e he
      rw [q] at c; cases c
    have nk : z ∉ ks := fun q => nm (r.pm.mem_iff.mpr q)
    have p0 := layNew_perm t es ((PySem.strKind P w).hash z) (.str z u)
    have p1 := layNew_fits t es ((PySem.strKind P w).hash z) (.str z u)
    have p2 := layNew_ris t es ((PySem.strKind P w).hash z) (.str z u) r.rs
    have p3 := layNew_led t es ((PySem.strKind P w).hash z) (.str z u)
    generalize layNew t es ((PySem.strKind P w).hash z) (.str z u) = Z at p0 p1 p2 p3 ⊢
    obtain ⟨es1, t1, wd, gv⟩ := Z
    dsimp only at p0 p1 p2 p3 ⊢
    rw [Array.toList_push] at p0
    have pc := p0.trans (List.perm_append_singleton _ _)
    have pk : (es1.toList.map kX).Perm (z :: ks) := (pc.map kX).trans (r.pm.cons z)
    have sz : es1.size = ks.length + 1 := by rw [← Array.length_toList, pc.length_eq, List.length_cons, Array.length_toList, r.size]
    have R1 : ∀ (t2 : SetTable), t2.fits es1.size = true → Ris t2.place.toList → (w.params.followText "set-order" = true ∨ t2.led = true) → ∀ ep', SetA P w (z :: ks) { o with data := .set es1 ep' t2 } es1 ep' t2 := fun t2 a1 a2 a3 ep' =>
      ⟨r.ex, rfl, fun e he => (List.mem_cons.mp (pc.mem_iff.mp he)).elim (fun q => by rw [q]; exact ⟨z, u, rfl, rfl⟩) (r.en e), pk, List.nodup_cons.mpr ⟨nk, r.nd⟩, by rw [sz]; exact room, a1, a2, a3⟩
    have led : w.params.followText "set-order" = true ∨ t1.led = true := r.ld.imp id fun q => by rw [p3]; exact q
    have fin : ∀ h', Heap.SameBut a s.heap h' → SetX P w h' a (z :: ks) → Q true { s with heap := h' } := fun h' sb x => by
      have q := hQ h' sb
      rw [if_neg nk, decide_eq_false nk] at q
      exact q x
    have go : ∀ (b : Bool) (s₁ : Shared) (Q' : Unit → Shared → Prop), Q' () s₁ → wpAny (model P w) A (match b with | true => rule "set.scan.the-table-gave-way" | false => pure ()) Q' E s₁ := fun b s₁ Q' q => by
      cases b <;> first | exact wpAny_pure q | exact wpAny_rule q
    refine wpAny_bind (go _ _ _ ?_)
    split
    · refine wpAny_bind ?_
      rw [hashByValue_scannable 8 sc]
      refine wpAny_pure (addX_tail (ls := z :: ks) go ho r.ex hd (R1 _ ?_ ?_ ?_) fun h' sb x => ?_)
      · first | exact p1 | (split <;> first | exact p1 | exact SetTable.fits_plain_off p1)
      · first | exact p2 | (split <;> exact p2)
      · first | exact led | (split <;> exact led)
      · dsimp only; exact wpAny_pure (fin h' sb x)
    · refine wpAny_bind (wpAny_pure ?_)
      simp only [↓reduceIte]
      refine addX_tail (ls := z :: ks) go ho r.ex hd (R1 _ p1 p2 led) fun h' sb x => ?_
      dsimp only; exact wpAny_pure (fin h' sb x)
end
end Xl


namespace Xl
open PySem PySem.Spec PyProof.Rows L2
/-- a set as set() makes it -/
abbrev nset (w : World) : Obj := { cls := .type "set", dict := none, data := .set #[] 0 (.fresh 0 0 (!w.params.followText "set-order")) }
theorem setX_new {P : Program} {w : World} {h : Heap} {a : Addr} (ho : h.get? a = some (nset w)) : SetX P w h a [] := by
  refine ⟨_, #[], 0, _, ho, ⟨rfl, rfl, rfl⟩, rfl, fun e he => by simp at he, .nil, .nil, by decide, by rfl, .nil, ?_⟩
  show _ ∨ (!w.params.followText "set-order") = true
  cases w.params.followText "set-order"
  · exact .inr rfl
  · exact .inl rfl
/-- one text put in -/
def ins1 (z : Str) (ks : List Str) : List Str := if z ∈ ks then ks else z :: ks
/-- all of them -/
def insAll (xs ks : List Str) : List Str := xs.foldl (fun ks z => ins1 z ks) ks
theorem ins1_len (z : Str) (ks : List Str) : (ins1 z ks).length ≤ ks.length + 1 := by
  unfold ins1
  split
  · exact Nat.le_succ _
  · exact Nat.le_refl _
theorem mem_ins1 {z y : Str} {ks : List Str} : y ∈ ins1 z ks ↔ y = z ∨ y ∈ ks := by
  unfold ins1
  split
  · rename_i h; exact ⟨.inr, fun q => q.elim (fun e => e ▸ h) id⟩
  · exact List.mem_cons
theorem mem_insAll {y : Str} : ∀ {xs ks : List Str}, y ∈ insAll xs ks ↔ y ∈ xs ∨ y ∈ ks
  | [], ks => by simp [insAll]
  | x :: xs, ks => by
    show y ∈ insAll xs (ins1 x ks) ↔ _
    rw [mem_insAll, mem_ins1, List.mem_cons]
    exact ⟨fun h => h.elim (fun q => .inl (.inr q)) fun q => q.elim (fun r => .inl (.inl r)) .inr, fun h => h.elim (fun q => q.elim (fun r => .inr (.inl r)) .inl) fun q => .inr (.inr q)⟩
theorem insAll_len : ∀ (xs ks : List Str), (insAll xs ks).length ≤ xs.length + ks.length
  | [], ks => by simp [insAll]
  | x :: xs, ks => by
    show (insAll xs (ins1 x ks)).length ≤ _
    have h1 := insAll_len xs (ins1 x ks)
    have h2 := ins1_len x ks
    rw [List.length_cons]; omega
section
variable {P : Program} {w : World} {A : Around} {E : Value → Shared → Prop} {s : Shared} {a : Addr} {ks : List Str}
theorem setX_add {z : Str} {u : Tok} {Q : Value → Shared → Prop} (R : SetX P w s.heap a ks) (room : ks.length + 1 < scanBound) (hQ : ∀ h', Heap.SameBut a s.heap h' → SetX P w h' a (ins1 z ks) → Q .none { s with heap := h', toks := s.toks + 1 }) :
    wpAny (model P w) A (call (.builtin "set.add") [.ref a, .str z u]) Q E s := by
  refine wpAny_call_entry PySem.F.slot_set_add R.setOf.typeIs PySem.F.entry_set_add ?_ (PySem.F.args_set_add_2 _ _)
  unfold Builtin.«set.add» Builtin.Frozenset.oneOther
  simp only [List.isEmpty_nil, bind_assoc]
  unfold Builtin.Frozenset.addrOf setAdd
  refine wpAny_bind (wpAny_pure ?_)
  try dsimp only
  refine wpAny_bind (wpAny_pure ?_)
  try dsimp only
  refine wpAny_bind (wpAny_holding (wpAny_bind ((PySem.strKind P w).pyHash (strKind_is P w z u) (addX_hashed (s := { s with toks := s.toks + 1 }) R room fun h' sb r => ?_))))
  exact (show wpAny _ _ (ret Value.none) _ _ _ from wpAny_pure ⟨_, rfl, hQ h' sb r⟩)
theorem fill_texts {I : Addr} {fp wr : List Addr} {G : Array GenState → Array GenState → Prop} {n : Nat} {Pv : Nat → Value → Prop} {St : Nat → Shared → Prop} {R : Result → Shared → Prop} (W : WalksS P w A.in1 I fp wr G n Pv St) (hf : a ∉ fp)
    (xs : List Str) (hn : n = xs.length) (hb : xs.length + 1 < scanBound) (hv : ∀ i v, Pv i v → ∃ z t, xs[i]? = some z ∧ v = .str z t) :
    ∀ (k i : Nat) (s : Shared), n - i = k → i ≤ n → St i s → SetX P w s.heap a (insAll (xs.take i) []) → (∀ s', Moved (a :: wr) G s s' → SetX P w s'.heap a (insAll xs []) → R (.ok (.ret .none)) s') →
      codeAny (model P w) A (.builtin "set.update.loop" ⟨[.ref a, .ref I], []⟩) R s := by
  have nw : a ∉ wr := fun h => hf (W.sub _ h)
  have up : ∀ b ∈ wr, b ∈ a :: wr := fun b hb => List.mem_cons_of_mem _ hb
  intro k
  induction k with
  | zero =>
    intro i s e1 e2 st x hR
    obtain rfl : i = n := by omega
    refine codeAny_builtin PyProof.Rows.F.entry_set_update_loop ?_
    rw [Around.under_plainId PyProof.Rows.F.plain_set_update_loop _]
    show wpAny _ A.in1 (pyNext (.ref I) >>= _) _ _ s
    refine wpAny_bind (W.done s _ _ st fun s' hm => ?_)
    rw [List.take_of_length_le (by omega)] at x
    exact (show wpAny _ A.in1 (ret Value.none) _ _ s' from wpAny_pure (hR s' (hm.mono up) (x.keep fun o e => hm.heap a o nw e)))
  | succ k ih =>
    intro i s e1 e2 st x hR
    have lt : i < n := by omega
    refine codeAny_builtin PyProof.Rows.F.entry_set_update_loop ?_
    rw [Around.under_plainId PyProof.Rows.F.plain_set_update_loop _]
    show wpAny _ A.in1 (pyNext (.ref I) >>= _) _ _ s
    refine wpAny_bind (W.item i s _ _ lt st fun v s' hP st' hm => ?_)
    obtain ⟨z, t, hz, rfl⟩ := hv i v hP
    show wpAny _ A.in1 (holding [Value.str z t] (setAdd a (.str z t)) >>= _) _ _ s'
    unfold setAdd
    have l1 := insAll_len (xs.take i) []
    rw [List.length_take, List.length_nil] at l1
    refine wpAny_bind (wpAny_holding (wpAny_holding (wpAny_bind ((PySem.strKind P w).pyHash (k := z) (strKind_is P w z t) (addX_hashed (s := { s' with toks := s'.toks + 1 }) (x.keep fun o e => hm.heap a o nw e) (by omega) fun h' sb y => ?_)))))
    have y' : SetX P w h' a (insAll (xs.take (i + 1)) []) := by
      have e : insAll (xs.take (i + 1)) [] = ins1 z (insAll (xs.take i) []) := by
        rw [List.take_add_one, hz]
        show List.foldl _ [] (xs.take i ++ [z]) = _
        rw [List.foldl_append]; rfl
      rw [e]; exact y
    refine wpAny_pure ⟨plainId_quiet PyProof.Rows.F.plain_set_update_loop _, ih (i + 1) _ (by omega) lt (W.frame _ s' _ _ st' (Nat.le_succ _) fun b hb o e => ?_) y' fun s'' hm'' y'' => ?_⟩
    · exact (sb.2 b fun q => hf (q ▸ hb)).trans e
    · exact hR s'' (Moved.trans W.gtrans ((hm.mono up).then_heap (Nat.le_succ _) fun b o hb e => (sb.2 b fun q => hb (q ▸ List.mem_cons_self)).trans e) hm'') y''
set_option maxHeartbeats 3200000 in
theorem call_setL {l : Addr} {items : Array Value} (xs : List Str) {Q : Value → Shared → Prop} (hh : A.handled = none) (hl : s.heap.IsList l items) (hi : StrsAre items.toList xs) (hb : xs.length + 1 < scanBound)
    (h : ∀ (h' : Heap) (tk : Nat), SetX P w h' s.heap.objs.size (insAll xs []) → (∀ b o, s.heap.get? b = some o → h'.get? b = some o) → Q (.ref s.heap.objs.size) { s with heap := h', toks := tk }) :
    wpAny (model P w) A (call (.type "set") [.ref l]) Q E s := by
  have sz : items.size = xs.length := by rw [← StrsAre.len' hi, Array.length_toList]
  obtain ⟨c, tl, hmro⟩ := PySem.F.called_set.mro
  have hmade := PySem.F.called_set.made; have hsub := PySem.F.called_set.sub
  refine wpAny_call (codeAny_of_tree (show wpAny _ _ (callAny (.type "set") _) _ _ _ from wpAny_pure ⟨Code.quiet_builtin _ (by decide +kernel), codeAny_builtin PySem.F.entry_type_call ?_⟩))
  rw [Around.under_plain (weight_type_call_type "set" [.ref l] []) rfl]
  have h1 := PySem.F.called_set.notType; have h2 := PySem.F.called_set.canCreate; have hct := PySem.F.typeCall_set_1 (.ref l)
  repeat (any_goals (first | assumption | wp_step))
  refine codeAny_mono (code_set_led1 (.ref l) (E := E) (Q₁ := fun obj s₁ => obj = .ref s.heap.objs.size ∧ s₁ = { s with heap := s.heap.push (nset w) }) ⟨rfl, rfl⟩) fun r s₁ hr => ?_
  match r, hr with
  | .error e, hr => exact hr
  | .ok (.ret obj), hr =>
    obtain ⟨rfl, rfl⟩ := hr
    have hS : (s.heap.push (nset w)).get? s.heap.objs.size = some (nset w) := Heap.get?_push_size _ rfl
    have hT : Shared.TypeIs { s with heap := s.heap.push (nset w) } (.ref s.heap.objs.size) "set" := ⟨_, hS, rfl⟩
    have hli := PySem.F.called_set.init.lookup; have hbi := PySem.F.called_set.init.bind (.ref s.heap.objs.size)
    repeat (any_goals (first | assumption | wp_step))
    refine codeAny_mono (codeAny_call_builtin (R := wants (fun r s₂ => r = .none ∧ ∃ h' tk, s₂ = { s with heap := h', toks := tk } ∧ SetX P w h' s.heap.objs.size (insAll xs []) ∧ (∀ b o, s.heap.get? b = some o → h'.get? b = some o)) E) PySem.F.called_set.init.plain PySem.F.entry_set_init (check_set_init_1 hT ?_)) fun r₂ s₂ hr₂ => ?_
    · obtain ⟨⟨ocls, odict, odata, oslots⟩, hol, hcl, nl, hdl⟩ := hl
      simp only at hcl hdl
      subst hcl; subst hdl
      have hol' : (s.heap.push (nset w)).get? l = some { cls := .type "list", dict := odict, data := .seq items nl, slots := oslots } := Heap.get?_push_of_some _ hol
      have hsls := PySem.F.sub_list_set; have hslf := PySem.F.sub_list_frozenset
      have hne : (Value.type "list" == Value.type "dict") = false := by decide
      have hl1 : (s.heap.push (nset w)).IsList l items := ⟨_, hol', rfl, nl, rfl⟩
      unfold Builtin.«set.__init__» noKeywords Builtin.Frozenset.updateFrom
      generalize hPI : pyIter = PI
      wp_walk
      subst hPI
      refine wpAny_pyIter_list hl1 (wpAny_bind (wpAny_runValue ?_))
      have lS : l < s.heap.objs.size := Heap.lt_size hol
      have z1 : (s.heap.push (nset w)).objs.size = s.heap.objs.size + 1 := Heap.size_push ..
      refine fill_texts (a := s.heap.objs.size) ((Walks.list (by simp [hh]) _ l (by rw [z1]; exact Nat.ne_of_lt (Nat.lt_succ_of_lt lS)) items).toS) (by rw [z1]; simp only [List.mem_cons, List.not_mem_nil, or_false, not_or]; exact ⟨Nat.ne_of_lt (Nat.lt_succ_self _), Nat.ne_of_gt lS⟩) xs sz hb (fun i v q => ?_) (items.size - 0) 0 _ (by omega) (Nat.zero_le _)
        ⟨⟨_, Heap.get?_push_size _ rfl, rfl, rfl⟩, (hl1.push _)⟩ (setX_new (Heap.get?_push_of_some _ hS)) ?_
      · obtain ⟨y, t, e1, e2⟩ := StrsAre.item hi i v (by rw [Array.getElem?_toList]; exact q)
        exact ⟨y, t, e2, e1⟩
      · rintro ⟨h', g2, d', tk', os'⟩ hm y
        obtain rfl : g2 = s.gens := hm.gens
        obtain rfl : d' = s.drawn := hm.drawn
        obtain rfl : os' = s.os := hm.os
        show wpAny _ _ _ _ _ _
        refine wpAny_pure (show wpAny _ _ (ret Value.none) _ _ _ from wpAny_pure ⟨rfl, h', tk', rfl, y, fun b o e => ?_⟩)
        have lt : b < s.heap.objs.size := Heap.lt_size e
        exact hm.heap b o (by rw [z1]; simp only [List.mem_cons, List.not_mem_nil, or_false, not_or]; exact ⟨Nat.ne_of_lt lt, Nat.ne_of_lt (Nat.lt_succ_of_lt lt)⟩) (Heap.get?_push_of_some _ (Heap.get?_push_of_some _ e))
    · match r₂, hr₂ with
      | .error e, hr₂ => exact hr₂
      | .ok (.ret r), hr₂ =>
        obtain ⟨rfl, h', tk, rfl, y, kk⟩ := hr₂
        repeat (any_goals (first | assumption | wp_step))
        exact h _ _ y kk
      | .ok .next, hr₂ => exact hr₂.elim
      | .ok .brk, hr₂ => exact hr₂.elim
      | .ok .cont, hr₂ => exact hr₂.elim
  | .ok .next, hr => exact hr.elim
  | .ok .brk, hr => exact hr.elim
  | .ok .cont, hr => exact hr.elim
end
end Xl


namespace Xl
open PySem PySem.Spec PyProof.Rows L2
def SetXO (P : Program) (w : World) (ks : List Str) (a : Addr) : HO := .ext fun h => SetX P w h a ks
theorem setXO_ok {P : Program} {w : World} {H : Hp} {h : Heap} {a : Addr} {ks : List Str} (R : SetX P w h a ks) : ObjOk P w H h a (SetXO P w ks a) := by
  have ⟨o, _, _, _, ho, _⟩ := R
  exact ⟨R, ⟨o, ho⟩, fun _ _ p k => SetX.keep p k⟩
section
variable {X : Cx} {pins : List (Addr × Obj)} {σ : L2.St} {H : Hp} {s : Shared} {a : Addr} {ks : List Str}
theorem setXO_get (I : Inv X pins σ H s) (ha : H a = some (SetXO X.prog X.w ks a)) : SetX X.prog X.w s.heap a ks := (I.hok a _ ha).1
def rSet0X (P : Program) (w : World) : List V → Hp → VK → Prop := fun xs H Q => xs = [] ∧ ∀ p, H p = none → Q (.ref p) (upd H p (SetXO P w [] p))
theorem cr_set0X : CallR X (.type "set") (rSet0X X.prog X.w) := by
  rintro pins s σ H xs us Q I r ⟨rfl, q⟩
  cases r
  exact setR_new fun _ => ⟨.ref _, upd H s.heap.objs.size (SetXO X.prog X.w [] _), I.laid (t' := s.toks) (fun b u e => Heap.get?_push_of_some _ e) (Nat.le_refl _) (setXO_ok (setX_new (Heap.get?_push_size _ rfl))), rfl, q _ (I.hok.fresh (Nat.le_refl _))⟩
def rSetLX (K : PySem.W.Frag) (P : Program) (w : World) : List V → Hp → VK → Prop := fun vs H Q => ∃ (l : Addr) (xs : List Str), vs = [.ref l] ∧ SqL K H l (xs.map V.str) ∧ xs.length + 1 < scanBound ∧ ∀ p, H p = none → Q (.ref p) (upd H p (SetXO P w (insAll xs []) p))
theorem cr_setLX (hc : X.calm = true) : CallR X (.type "set") (rSetLX X.K X.prog X.w) := by
  rintro pins s σ H vs us Q I r ⟨l, xs, rfl, hl, hb, q⟩
  obtain ⟨its, rv, pl, _⟩ := I.list hl
  rw [Vals.ref1 r]
  refine call_setL xs (I.ok.hd hc) pl.isList (by simpa using rv.strs) hb fun h' tk x kk => ?_
  exact ⟨.ref _, _, I.laid (t' := tk) kk (Nat.le_refl _) (setXO_ok x), rfl, q _ (I.hok.fresh (Nat.le_refl _))⟩
def rSAddX (P : Program) (w : World) : V → List V → Hp → VK → Prop := fun x xs H Q => ∃ (a : Addr) (z : Str) (ks : List Str), x = .ref a ∧ xs = [.str z] ∧ H a = some (SetXO P w ks a) ∧ ks.length + 1 < scanBound ∧ Q .non (upd H a (SetXO P w (ins1 z ks) a))
theorem mt_saddX : MtR X "set.add" (rSAddX X.prog X.w) := by
  rintro pins s σ H x xs v us Q I rx rxs ⟨a, z, ks, rfl, rfl, ha, room, q⟩
  cases rx
  cases rxs with
  | cons ry rt =>
    cases rt
    obtain ⟨t, rfl⟩ := ry
    refine setX_add (setXO_get I ha) room fun h' sb x => ?_
    have he : ∃ u, h'.get? a = some u := let ⟨o, _, _, _, ho, _⟩ := x; ⟨o, ho⟩
    exact ⟨.non, _, I.write (e := a) (t' := s.toks + 1) (by rw [ha]; trivial) (.inl rfl) (fun b u hb hu => (sb.2 b hb).trans hu) he (setXO_ok x), rfl, q⟩
def rSInX (P : Program) (w : World) (neg : Bool) : V → V → Hp → VK → Prop := fun x y H Q => ∃ (z : Str) (a : Addr) (ks : List Str), x = .str z ∧ y = .ref a ∧ H a = some (SetXO P w ks a) ∧ Q (.bl (if neg then !decide (z ∈ ks) else decide (z ∈ ks))) H
theorem or_sinX : OpR X (compareOp .In) (rSInX X.prog X.w false) := by
  rintro pins s σ H x y v u Q I rx ry ⟨z, a, ks, rfl, rfl, ha, q⟩
  obtain ⟨t, rfl⟩ := rx
  cases ry
  exact wpAny_inSet_of (strKind_is _ _ _ _) rfl (setXO_get I ha).setOf ⟨.bl _, H, I.tok _, rfl, q⟩
theorem or_sninX : OpR X (compareOp .NotIn) (rSInX X.prog X.w true) := by
  rintro pins s σ H x y v u Q I rx ry ⟨z, a, ks, rfl, rfl, ha, q⟩
  obtain ⟨t, rfl⟩ := rx
  cases ry
  exact wpAny_notInSet_of (strKind_is _ _ _ _) rfl (setXO_get I ha).setOf ⟨.bl _, H, I.tok _, rfl, q⟩
def rSLenX (P : Program) (w : World) : List V → Hp → VK → Prop := fun vs H Q => ∃ (a : Addr) (ks : List Str), vs = [.ref a] ∧ H a = some (SetXO P w ks a) ∧ Q (.int ks.length) H
theorem cr_slenX : CallR X (.builtin "len") (rSLenX X.prog X.w) := by
  rintro pins s σ H vs us Q I r ⟨a, ks, rfl, ha, q⟩
  obtain ⟨o, es, ep, t, ho, x⟩ := setXO_get I ha
  rw [Vals.ref1 r]
  have bd := x.bd
  unfold scanBound at bd
  refine call_len_set ho x.ex x.dt x.ft (by omega) ⟨.int _, H, I.tok _, ⟨_, rfl⟩, ?_⟩
  rw [x.size]; exact q
theorem strs_str : ∀ (l : List Value), (∀ v ∈ l, ∃ z t, v = Value.str z t) → StrsAre l (l.map fun v => kX (0, v))
  | [], _ => .nil
  | v :: l, h => by
    obtain ⟨z, t, rfl⟩ := h v List.mem_cons_self
    exact .cons z t (strs_str l fun u hu => h u (List.mem_cons_of_mem _ hu))
theorem vals_strs : ∀ {us : List Value} {xs : List Str}, StrsAre us xs → Vals (xs.map V.str) us
  | _, _, .nil => .nil
  | _, _, .cons z t r => .cons ⟨t, rfl⟩ (vals_strs r)
theorem sorted_setX {P : Program} {w : World} {A : Around} {E : Value → Shared → Prop} {Q : Value → Shared → Prop} (R : SetX P w s.heap a ks) (hh : A.handled = none) (h64 : ks.length < 64)
    (hQ : ∀ s' p (out : List Value) (c : Nat) (ys : List Str), (∀ b o, s.heap.get? b = some o → s'.heap.get? b = some o) → s'.gens = s.gens → s'.os = s.os → s.heap.objs.size ≤ p → s'.heap.get? p = some (seqObj "list" out.toArray c) → StrsAre out ys → ys.Perm ks → sortedS ys = true → Q (.ref p) s') :
    wpAny (model P w) A (call (.builtin "sorted") [.ref a]) Q E s := by
  obtain ⟨o, es, ep, t, ho, x⟩ := R
  refine Calls.call_function_entry kind_sorted plain_sorted entry_sorted (args_sorted1 _) ?_
  unfold Builtin.«sorted»
  refine wpAny_bind (m := checkCount "sorted" 1 1 _) (wpAny_pure (wpAny_bind (collect_set (A := A.in1) hh ⟨o, ho, x.ex.1, x.dt⟩ x.ft x.bd x.rs x.ld fun s1 vs k1 hz g1 o1 pm => ?_)))
  have lv : vs.length = ks.length := by rw [pm.length_eq, List.length_map, Array.length_toList, x.size]
  have hS := strs_str vs fun v hv => by
    obtain ⟨e, he, q⟩ := List.mem_map.mp (pm.mem_iff.mp hv)
    obtain ⟨z, t, h1, _⟩ := x.en e he
    exact ⟨z, t, by rw [← q]; exact h1⟩
  have pk : (vs.map fun v => kX (0, v)).Perm ks := by
    have q := pm.map fun v => kX (0, v)
    rw [List.map_map] at q
    exact q.trans x.pm
  refine wpAny_bind (wpAny_newList ?_ (by rw [lv, sizeLine_eq]; omega))
  have at1 : (s1.heap.push (seqObj "list" vs.toArray 0)).get? s1.heap.objs.size = some (seqObj "list" vs.toArray 0) := Heap.get?_push_size _ rfl
  refine wpAny_bind (wpAny_holding (wpAny_call_entry slot_list_sort ⟨_, at1, rfl⟩ entry_list_sort (list_sort_treeK strKind_oneLt at1 hS.keysOf (fun v₁ v₂ rest e => keyKind_strs (by rw [← e]; exact hS)) (by rw [lv]; exact h64) fun st' a1 a2 => ⟨_, rfl, ?_⟩) (args_list_sort _)))
  obtain ⟨ys, b1, b2, b3⟩ := sorted_out_str hS a1 a2
  obtain ⟨c, hc⟩ := sortedHeap_at (vs := vs) (out := (arrOf st').map (·.2)) at1
  refine wpAny_pure ⟨_, rfl, hQ _ s1.heap.objs.size _ c ys (fun b u e => ?_) g1 o1 hz (by rw [Array.toArray_toList]; exact hc) b1 (b2.trans pk) b3⟩
  have q := k1 b u e
  have lt := Heap.lt_size q
  exact (sortedHeap_old (Nat.ne_of_lt lt) (by rw [size_push']; exact Nat.lt_succ_of_lt lt)).trans (Heap.get?_push_of_some _ q)
def rSrtX (P : Program) (w : World) : List V → Hp → VK → Prop := fun vs H Q => ∃ (a : Addr) (ks : List Str), vs = [.ref a] ∧ H a = some (SetXO P w ks a) ∧ ks.length < 64 ∧ ∀ (ys : List Str) (p : Addr), ys.Perm ks → sortedS ys = true → H p = none → Q (.ref p) (upd H p (.lst (ys.map V.str)))
theorem cr_srtX (hc : X.calm = true) : CallR X (.builtin "sorted") (rSrtX X.prog X.w) := by
  rintro pins s σ H vs us Q I r ⟨a, ks, rfl, ha, h64, q⟩
  rw [Vals.ref1 r]
  refine sorted_setX (setXO_get I ha) (I.ok.hd hc) h64 fun s' p out c ys k g o hp hg hi pm so => ?_
  have hl : (ys.map V.str).length ≤ sizeLine := by rw [List.length_map, pm.length_eq, sizeLine_eq]; omega
  have hn : H p = none := I.hok.fresh hp
  exact ⟨.ref p, upd H p (.lst (ys.map V.str)), I.call' (ch := []) o (Un.laid k hp hn) (I.hok.laid k hp ⟨hl, out, c, vals_strs hi, hg⟩) (by rw [g]; exact I.bare) (fun _ z => nomatch z), rfl, q ys p pm so hn⟩
end
end Xl


namespace Xl
open PySem PySem.Spec PyProof.Rows L2
/-! ### {elt for t0 in i0 for t1 in i1}, texts -/
section
variable {prog : Program} {w : World} {A : Around} {R : Result → Shared → Prop} {s : Shared} {elt t0 i0 t1 i1 : Expr} {scope : Scope} {pos : Pos} {it acc : Value} {env : Env}
abbrev sc2 (elt t0 i0 t1 i1 : Expr) (scope : Scope) (pos : Pos) : Expr := .SetComp elt [⟨t0, i0, [], 0⟩, ⟨t1, i1, [], 0⟩] scope pos
theorem turn2_out (it acc : Value) (env : Env) : compTurn (sc2 elt t0 i0 t1 i1 scope pos) 0 it acc env = (do
    standAt i0.pos
    match ← pyNext it with
    | none => pure (.done .next)
    | some v =>
      letOwnedTupleGo t0 it v
      assign t0 env v
      let mut ok := true
      for c in ([] : List Expr) do
        if ok then ok ← isTrue c env (eval c env)
      if ok then
        let x ← eval i1 env
        standAt i1.pos
        let x ← foldedSetIterable i1 env x
        let _ ← runOwn (.compStart (sc2 elt t0 i0 t1 i1 scope pos) 1 (← holding [x] (pyIter x)) acc env) env
      again (.compLoop (sc2 elt t0 i0 t1 i1 scope pos) 0 it acc env)) := by rfl
theorem turn2_in (it acc : Value) (env : Env) : compTurn (sc2 elt t0 i0 t1 i1 scope pos) 1 it acc env = (do
    standAt i1.pos
    match ← pyNext it with
    | none => pure (.done .next)
    | some v =>
      letOwnedTupleGo t1 it v
      assign t1 env v
      let mut ok := true
      for c in ([] : List Expr) do
        if ok then ok ← isTrue c env (eval c env)
      if ok then
        (do let v ← eval elt env; standAt elt.pos; let _ ← call (.builtin "set.add") [acc, v])
      again (.compLoop (sc2 elt t0 i0 t1 i1 scope pos) 1 it acc env)) := by rfl
abbrev Nt (prog : Program) (w : World) (A : Around) (env : Env) (R : Result → Shared → Prop) : Value → Shared → Prop := notedBy (model prog w) A env fun e s' => R (.error e) s'
theorem loop2_out (hs : ∀ x, foldedSetIterable i1 env x = pure x) (J : Nat → Shared → Prop)
    (turn : ∀ n s, J n s → wpAny (model prog w) A (pyNext it) (fun r s₁ => match r with
      | none => R (.ok .next) s₁
      | some v => wpAny (model prog w) A (letOwnedTupleGo t0 it v) (fun _ s₂ => wpAny (model prog w) A (assign t0 env v) (fun _ s₃ => wpAny (model prog w) A (eval i1 env) (fun x s₄ => wpAny (model prog w) A (pyIter x) (fun it1 s₅ =>
          codeAny (model prog w) A (.compStart (sc2 elt t0 i0 t1 i1 scope pos) 1 it1 acc env) (fun r s' => match r with
            | .ok _ => ∃ m, m < n ∧ J m s'
            | .error _ => False) s₅) (Nt prog w A env R) s₄) (Nt prog w A env R) s₃) (Nt prog w A env R) s₂) (Nt prog w A env R) s₁) (Nt prog w A env R) s)
    (n : Nat) (h : J n s) : codeAny (model prog w) A (.compLoop (sc2 elt t0 i0 t1 i1 scope pos) 0 it acc env) R s := by
  refine codeAny_loop rfl J (fun n s hJ => ?_) n h
  show wpAny _ A ((compTurn (sc2 elt t0 i0 t1 i1 scope pos) 0 it acc env).onRaise (fun x => do noteFrame x env; theTreesLotGoes x)) _ _ s
  refine wpAny_noted ?_
  rw [turn2_out]
  refine wpAny_bind (wpAny_standAt (wpAny_bind (wpAny_mono (turn n s hJ) (fun r s₁ k1 => ?_) fun _ _ z => z)))
  match r, k1 with
  | none, k1 => exact wpAny_pure k1
  | some v, k1 =>
    refine wpAny_bind (wpAny_mono k1 (fun _ s₂ k2 => wpAny_bind (wpAny_mono k2 (fun _ s₃ k3 => wpAny_bind (wpAny_pure ?_)) fun _ _ z => z)) fun _ _ z => z)
    refine wpAny_bind (wpAny_mono k3 (fun x s₄ k4 => wpAny_bind (wpAny_standAt (wpAny_bind (wpAny_of_eq (hs x) (wpAny_bind (wpAny_holding (wpAny_mono k4 (fun it1 s₅ k5 => wpAny_bind (wpAny_runOwn ?_)) fun _ _ z => z))))))) fun _ _ z => z)
    rw [Around.mark_none]
    refine codeAny_mono k5 fun r s' hr => ?_
    match r, hr with
    | .ok f, hr => first | exact wpAny_pure ⟨rfl, hr⟩ | exact wpAny_bind (wpAny_pure (wpAny_pure ⟨rfl, hr⟩))
    | .error e, hr => exact hr.elim
theorem loop2_in (J : Nat → Shared → Prop)
    (turn : ∀ n s, J n s → wpAny (model prog w) A (pyNext it) (fun r s₁ => match r with
      | none => R (.ok .next) s₁
      | some v => wpAny (model prog w) A (letOwnedTupleGo t1 it v) (fun _ s₂ => wpAny (model prog w) A (assign t1 env v) (fun _ s₃ => wpAny (model prog w) A (eval elt env) (fun x s₄ =>
          wpAny (model prog w) A (call (.builtin "set.add") [acc, x]) (fun _ s₅ => ∃ m, m < n ∧ J m s₅) (Nt prog w A env R) s₄) (Nt prog w A env R) s₃) (Nt prog w A env R) s₂) (Nt prog w A env R) s₁) (Nt prog w A env R) s)
    (n : Nat) (h : J n s) : codeAny (model prog w) A (.compLoop (sc2 elt t0 i0 t1 i1 scope pos) 1 it acc env) R s := by
  refine codeAny_loop rfl J (fun n s hJ => ?_) n h
  show wpAny _ A ((compTurn (sc2 elt t0 i0 t1 i1 scope pos) 1 it acc env).onRaise (fun x => do noteFrame x env; theTreesLotGoes x)) _ _ s
  refine wpAny_noted ?_
  rw [turn2_in]
  refine wpAny_bind (wpAny_standAt (wpAny_bind (wpAny_mono (turn n s hJ) (fun r s₁ k1 => ?_) fun _ _ z => z)))
  match r, k1 with
  | none, k1 => exact wpAny_pure k1
  | some v, k1 =>
    refine wpAny_bind (wpAny_mono k1 (fun _ s₂ k2 => wpAny_bind (wpAny_mono k2 (fun _ s₃ k3 => wpAny_bind (wpAny_pure ?_)) fun _ _ z => z)) fun _ _ z => z)
    exact wpAny_bind (wpAny_bind (wpAny_mono k3 (fun x s₄ k4 => wpAny_bind (wpAny_standAt (wpAny_bind (wpAny_mono k4 (fun _ s₅ k5 => wpAny_pure (wpAny_pure ⟨rfl, k5⟩)) fun _ _ z => z)))) fun _ _ z => z))
theorem start2 {k : Nat} (hk : k < 2) (h0 : codeAny (model prog w) A (.compLoop (sc2 elt t0 i0 t1 i1 scope pos) k it acc env) R s)
    (h : wpAny (model prog w) A (pyIter it) (fun it' s' => codeAny (model prog w) A (.compLoop (sc2 elt t0 i0 t1 i1 scope pos) k it' acc env) R s') (Nt prog w A env R) s) : codeAny (model prog w) A (.compStart (sc2 elt t0 i0 t1 i1 scope pos) k it acc env) R s := by
  refine codeAny_of_tree ?_
  show wpAny _ _ ((compStart (sc2 elt t0 i0 t1 i1 scope pos) k it acc env).onRaise (fun x => do noteFrame x env; standAt theWindowsPlace)) _ _ s
  refine wpAny_notedAt ?_
  unfold compStart
  match k, hk with
  | 0, _ | 1, _ =>
    refine (show wpAny _ _ (ask >>= _) _ _ s from wpAny_bind (wpAny_askSetting (wpAny_ite ?_)))
    split
    · first | exact wpAny_bind (wpAny_pure (wpAny_pure ⟨rfl, h0⟩)) | exact wpAny_pure ⟨rfl, h0⟩
    · refine wpAny_bind (wpAny_rule ?_)
      exact (show wpAny _ _ (standAt _ >>= _) _ _ s from wpAny_bind (wpAny_standAt (wpAny_bind (wpAny_mono h (fun it' s' h' => wpAny_pure ⟨rfl, h'⟩) fun _ _ x => x))))
end
end Xl


namespace Xl
open PySem PySem.Spec PyProof.Rows L2
section
variable {X : Cx}
/-- what a block's judgement is: for every state at its start -/
abbrev Blk (X : Cx) (scope : Scope) (J : Cx → Prop) : Prop := ∀ (s : Shared) (H : Hp) (C : Addr) (cl : List (Str × Addr)) (fp : List Addr), J (X.blk s H scope (compEnvC scope cl C X.env) fp)
def tSc2 (P : Program) (w : World) (wi : TI) (g : TG) (wi1 : TI) (g1 : TG) (te : TE) (vs vs1 : List Nat) : TE := fun σ H Q => wi σ H fun J H1 => ∀ D, H1 D = none → ∃ W : Nat → Nat → Hp → Prop, (∃ m, W 0 m (upd H1 D (SetXO P w [] D))) ∧ ∀ i m H, W i m H →
  (J.stop i H ∧ Q (.ref D) H) ∨ (J.go i H ∧ ∃ Nx : Hp → Prop, (∀ H', Nx H' → ∃ m', m' < m ∧ W (i + 1) m' H') ∧ ∀ x H', J.yld i H x H' → g x (wipe σ vs) H' fun σ2 H2 => wipe σ2 vs = wipe σ vs ∧ wi1 σ2 H2 fun J1 H4 => ∃ W1 : Nat → Nat → Hp → Prop, (∃ m, W1 0 m H4) ∧ ∀ j k H, W1 j k H →
    (J1.stop j H ∧ Nx H) ∨ (J1.go j H ∧ ∃ Nx1 : Hp → Prop, (∀ H', Nx1 H' → ∃ k', k' < k ∧ W1 (j + 1) k' H') ∧ ∀ x H', J1.yld j H x H' → g1 x (wipe σ2 vs1) H' fun σ3 H5 => wipe σ3 vs1 = wipe σ2 vs1 ∧ te σ3 H5 fun y H7 =>
      ∃ (z : Str) (ks : List Str), y = .str z ∧ H7 D = some (SetXO P w ks D) ∧ ks.length + 1 < scanBound ∧ Nx1 (upd H7 D (SetXO P w (ins1 z ks) D))))
theorem pe_sc2 {elt t0 i0 t1 i1 : Expr} {scope : Scope} {own : List (Str × Nat)} {vs1 : List Nat} {pos : Pos} {wi wi1 : TI} {g g1 : TG} {te : TE} (hc : X.calm = true) (hN : X.N.Nodup) (hi : PI X t0 i0 wi) (ok : BlkOk X.N X.env.scope scope own) (hv : ∀ i ∈ vs1, i ∈ own.map (·.2))
    (hg : Blk X scope fun Y => PG Y t0 g) (hi1 : Blk X scope fun Y => PI Y t1 i1 wi1) (hg1 : Blk X scope fun Y => PG Y t1 g1) (he : Blk X scope fun Y => PE Y elt te)
    (hs : ∀ x, foldedSetIterable i0 X.env x = pure x := by intro _; rfl) (hs1 : ∀ env x, foldedSetIterable i1 env x = pure x := by intro _ _; rfl) :
    PE X (sc2 elt t0 i0 t1 i1 scope pos) (tSc2 X.prog X.w wi g wi1 g1 te (own.map (·.2)) vs1) := by
  refine ⟨fun pins s σ H Q I h => ?_⟩
  rw [PpSet.eval_SetComp]
  have hfree : ∀ y ∈ scope.names, y.2 = .free → ∃ c, X.env.cells.lookup y.1 = some c := fun y hy e => (ok.free y hy e).elim (fun k => I.ok.has _ (.inl k)) fun k => I.ok.has _ (.inr k)
  refine wpAny_comprehension_free rfl hs (closure_ok hfree) ok.kind (fun y hy e => by rw [ok.uniq y hy, e]) (thn (hi.run pins s σ H _ I h) fun xv sa hx => thn hx fun itv s2 h2 => ?_)
  obtain ⟨it, fp, tn, J, H2, rfl, I2, T, st2, f2, q⟩ := h2
  refine PpSet.newSet_ok (newEnv_comp ?_)
  generalize hD : s2.heap.objs.size = D
  obtain ⟨W, ⟨m0, w0⟩, turn⟩ := q D (I2.hok.fresh (Nat.le_of_eq hD))
  generalize es3 : ({ s2 with heap := s2.heap.push (nset X.w) } : Shared) = s3
  have h3 : s3.heap = s2.heap.push (nset X.w) := by rw [← es3]
  have I3 : Inv X pins σ (upd H2 D (SetXO X.prog X.w [] D)) s3 := by
    rw [← es3]
    exact I2.laid (t' := s2.toks) (fun b o e => Heap.get?_push_of_some _ e) (Nat.le_of_eq hD) (setXO_ok (setX_new (by rw [← hD]; exact Heap.get?_push_size _ rfl)))
  have f3 : ∀ b ∈ fp, FpOk X pins (upd H2 D (SetXO X.prog X.w [] D)) b ∧ b < s3.heap.objs.size := fun b hb => by
    obtain ⟨o, e, _⟩ := T.obj _ _ st2 b hb
    have lt := Heap.lt_size e
    exact ⟨⟨by rw [upd_ne (by rw [← hD]; exact Nat.ne_of_lt lt)]; exact (f2 b hb).1, (f2 b hb).2⟩, by rw [h3, Heap.size_push]; exact Nat.lt_succ_of_lt lt⟩
  have st3 : tn 0 s3.heap := T.keep _ _ _ st2 fun b _ o e => by rw [h3]; exact Heap.get?_push_of_some _ e
  have I4 := block_start I3 ok hN f3
  have nfp : ∀ b ∈ fp, (upd H2 D (SetXO X.prog X.w [] D)) b = none := fun b hb => (f3 b hb).1.1
  generalize hH3 : upd H2 D (SetXO X.prog X.w [] D) = H3 at I3 I4 w0 nfp f3
  have pg := hg s3 H3 s3.heap.objs.size (cellsFrom (s3.heap.objs.size + 1) scope.names (cloFrom X.env.cells scope.names [])) fp
  have pe := he s3 H3 s3.heap.objs.size (cellsFrom (s3.heap.objs.size + 1) scope.names (cloFrom X.env.cells scope.names [])) fp
  have pi1 := hi1 s3 H3 s3.heap.objs.size (cellsFrom (s3.heap.objs.size + 1) scope.names (cloFrom X.env.cells scope.names [])) fp
  have pg1 := hg1 s3 H3 s3.heap.objs.size (cellsFrom (s3.heap.objs.size + 1) scope.names (cloFrom X.env.cells scope.names [])) fp
  show codeAny _ _ (.compStart (sc2 elt t0 i0 t1 i1 scope pos) 0 (.ref it) (.ref D) (compEnvC scope (cellsFrom (s3.heap.objs.size + 1) scope.names (cloFrom X.env.cells scope.names [])) s3.heap.objs.size X.env)) _ { s3 with heap := pushCells (s3.heap.push { cls := .type "dict", data := .dict #[] }) scope.names }
  generalize hce : compEnvC scope (cellsFrom (s3.heap.objs.size + 1) scope.names (cloFrom X.env.cells scope.names [])) s3.heap.objs.size X.env = ce at I4 pg pe pi1 pg1 ⊢
  have cL : ce.locals = s3.heap.objs.size := by rw [← hce]; rfl
  generalize es4 : ({ s3 with heap := pushCells (s3.heap.push { cls := .type "dict", data := .dict #[] }) scope.names } : Shared) = s4 at I4 ⊢
  have st4 : tn 0 s4.heap := T.keep _ _ _ st3 fun b _ o e => by rw [← es4]; exact pushCells_keeps _ _ _ _ (Heap.get?_push_of_some _ e)
  let Y := X.blk s3 H3 scope ce fp
  have stat : ∀ {σ' : L2.St} {H' : Hp} {s' : Shared}, Inv Y [] σ' H' s' → (∀ b ∈ fp, H' b = none) → ∀ b ∈ fp, FpOk Y [] H' b := fun {σ' H' s'} I' hn b hb =>
    ⟨hn b hb, (I'.ok.exf b hb).1, I'.ok.exfs b hb, .inl hb, fun x c e => (I'.ok.exf b hb).2 x c e, fun p hp => absurd (show p ∈ ([] : List (Addr × Obj)) ++ [] from hp) (by simp)⟩
  let J0 : Nat → Shared → Prop := fun n s' => ∃ i H', Inv Y [] (wipe σ (own.map (·.2))) H' s' ∧ tn i s'.heap ∧ (∀ b ∈ fp, H' b = none) ∧ W i n H'
  have loop : codeAny (model X.prog X.w) X.A (.compLoop (sc2 elt t0 i0 t1 i1 scope pos) 0 (.ref it) (.ref D) ce) (compPost (model X.prog X.w) X.A X.xe none (EP X pins σ Q) (.ref D) s3.heap.objs.size) s4 := by
    refine loop2_out (hs1 ce) J0 ?_ m0 ⟨0, H3, I4, st4, nfp, w0⟩
    rintro n s5 ⟨i, H5, I5, st5, n5, w5⟩
    rcases turn i n H5 w5 with ⟨stop, qq⟩ | ⟨go, Nx, hNx, step⟩
    · refine thnF (T.done Y rfl rfl rfl hc i [] s5 _ H5 (fun _ _ => False) I5 (stat I5 n5) st5 stop) fun r s6 ⟨hr, I6⟩ => ?_
      subst hr
      have I7 : Inv X pins σ H5 s6 := I3.call' (ch := fp) I6.os I6.base I6.hok I6.bare fun b hb => let z := (f3 b hb).1.2; ⟨z.2.2.1, z.1, z.2.2.2.1, z.2.2.2.2⟩
      have nC : H5 s3.heap.objs.size = none := cL ▸ (show H5 ce.locals = none from I6.free)
      obtain ⟨m, hn, _⟩ := I6.loc
      obtain ⟨f0, f1, f2, f3, f4, f5⟩ := I3.fpOk (Nat.le_refl _) nC
      exact ⟨m, cL ▸ (show s6.heap.Ns ce.locals m from hn), fun h'' sb => ⟨.ref D, H5, I7.turned (t' := s6.toks) (fun b o hb e => (sb.2 b hb).trans e) f0 f1 f3 f4 f5, rfl, qq⟩⟩
    · refine thnF (T.item Y rfl rfl rfl hc i [] s5 _ H5 (fun _ _ => False) I5 (stat I5 n5) st5 go) fun r s6 ⟨u, hr, h6⟩ => ?_
      subst hr
      refine thnF h6 fun _ s7 ⟨x, H7, I7, r7, y7, st7, n7⟩ => ?_
      refine thnF (pg.run _ s7 _ H7 x u _ (I7.pinned (stat I7 n7) (T.obj _ _ st7)) r7 (step x H7 y7)) fun _ s8 ⟨σ8, H8, I8, hw8, q8⟩ => ?_
      have back : ∀ {s' : Shared} {H' : Hp}, Inv Y ([] ++ pinsAt fp s7.heap) (wipe σ8 vs1) H' s' → Nx H' → ∃ m, m < n ∧ J0 m s' := fun {s' H'} I' nx => by
        obtain ⟨m', hm, w'⟩ := hNx H' nx
        have pin : ∀ b ∈ fp, ∀ o, s7.heap.get? b = some o → s'.heap.get? b = some o ∧ H' b = none := fun b hb o e => let z := I'.pin (b, o) (List.mem_append_right _ (List.mem_append_right _ (mem_pinsAt hb e))); ⟨z.1, z.2.1⟩
        refine ⟨m', hm, i + 1, H', (I'.unpinned (pins := [])).weak (by rw [← hw8, wipe_length, wipe_length]) (fun j v e => ?_), T.keep _ _ _ st7 fun b hb o e => (pin b hb o e).1, fun b hb => ?_, w'⟩
        · rw [← hw8] at e
          obtain ⟨e1, e2⟩ := wipe_some e
          rw [wipe_out fun z => e2 (hv j z)]; exact e1
        · obtain ⟨o, e, _⟩ := T.obj _ _ st7 b hb
          exact (pin b hb o e).2
      refine thnF (pi1.run _ s8 σ8 H8 _ I8 q8) fun xv s10 hx => thnF hx fun itv s11 h11 => ?_
      obtain ⟨it1, fp1, tn1, J1, H11, rfl, I11, T1, st11, f11, W1, ⟨m1, w1⟩, turn1⟩ := h11
      have stat1 : ∀ {H' : Hp}, (∀ b ∈ fp1, H' b = none) → ∀ b ∈ fp1, FpOk Y ([] ++ pinsAt fp s7.heap) H' b := fun hn b hb => ⟨hn b hb, (f11 b hb).2⟩
      let JJ : Nat → Shared → Prop := fun k s' => ∃ j H', Inv Y ([] ++ pinsAt fp s7.heap) (wipe σ8 vs1) H' s' ∧ tn1 j s'.heap ∧ (∀ b ∈ fp1, H' b = none) ∧ W1 j k H'
      have loop1 : codeAny (model X.prog X.w) X.A (.compLoop (sc2 elt t0 i0 t1 i1 scope pos) 1 (.ref it1) (.ref D) ce) (fun r s' => match r with
          | .ok _ => ∃ m, m < n ∧ J0 m s'
          | .error _ => False) s11 := by
        refine loop2_in JJ ?_ m1 ⟨0, H11, I11.weak (wipe_length _ _) (fun j v e => (wipe_some e).1), st11, fun b hb => (f11 b hb).1, w1⟩
        rintro k s12 ⟨j, H12, I12, st12, n12, w12⟩
        rcases turn1 j k H12 w12 with ⟨stop1, nx1⟩ | ⟨go1, Nx1, hNx1, step1⟩
        · refine thnF (T1.done Y rfl rfl rfl hc j _ s12 _ H12 (fun _ _ => False) I12 (stat1 n12) st12 stop1) fun r s13 ⟨hr, I13⟩ => ?_
          subst hr
          exact back I13 nx1
        · refine thnF (T1.item Y rfl rfl rfl hc j _ s12 _ H12 (fun _ _ => False) I12 (stat1 n12) st12 go1) fun r s13 ⟨u1, hr, h13⟩ => ?_
          subst hr
          refine thnF h13 fun _ s14 ⟨x1, H14, I14, r14, y14, st14, n14⟩ => ?_
          refine thnF (pg1.run _ s14 _ H14 x1 u1 _ (I14.pinned (stat1 n14) (T1.obj _ _ st14)) r14 (step1 x1 H14 y14)) fun _ s15 ⟨σ15, H15, I15, hw15, q15⟩ => ?_
          refine thnF (pe.run _ s15 σ15 H15 _ I15 q15) fun zv s17 ⟨yv, H17, I17, r17, z, ks, ey, hD17, room, nx⟩ => ?_
          subst ey
          refine thnF (mt_saddX (X := Y) _ s17 σ15 H17 (.ref D) [.str z] (.ref D) [zv] (fun _ H' => H' = upd H17 D (SetXO X.prog X.w (ins1 z ks) D)) I17 rfl (.cons r17 .nil) ⟨D, z, ks, rfl, rfl, hD17, room, rfl⟩) fun _ s18 ⟨_, H18, I18, _, e18⟩ => ?_
          subst e18
          obtain ⟨m', hm, w'⟩ := hNx1 _ nx
          have pin : ∀ b ∈ fp1, ∀ o, s14.heap.get? b = some o → s18.heap.get? b = some o ∧ upd H17 D (SetXO X.prog X.w (ins1 z ks) D) b = none := fun b hb o e => let z := I18.pin (b, o) (List.mem_append_right _ (List.mem_append_right _ (mem_pinsAt hb e))); ⟨z.1, z.2.1⟩
          refine ⟨m', hm, j + 1, _, I18.unpinned.weak (by rw [← hw15, wipe_length]) (fun j v e => by rw [← hw15] at e; exact (wipe_some e).1), T1.keep _ _ _ st14 fun b hb o e => (pin b hb o e).1, fun b hb => ?_, w'⟩
          obtain ⟨o, e, _⟩ := T1.obj _ _ st14 b hb
          exact (pin b hb o e).2
      exact start2 (by decide) loop1 (T1.self X.A 0 _ _ _ st11 loop1)
  exact start2 (by decide) loop (T.self X.A 0 _ _ _ st4 loop)
end
end Xl


namespace Xl
open PySem PySem.Spec PyProof.Rows L2
/-! ### expressions that make a set of texts -/
abbrev CX := DEnv → (List Str → DEnv → Prop) → KX → Prop
def liftX (P : Program) (w : World) (W : WX) (t : CX) : TE := fun σ H Q => ∃ B M δ R RX, ER B M H σ δ ∧ t δ R RX ∧ (∀ ks δ' p H' M', R ks δ' → ER (Bp B p) M' H' σ δ' → Fz B M H M' H' → H p = none → H' p = some (SetXO P w ks p) → (∀ z ∈ ks, PyData.strOk z = true) → Q (.ref p) H') ∧ XOk W B M H σ RX
abbrev PXD (X : Cx) (W : WX) (e : Expr) (t : CX) : Prop := PE X e (liftX X.prog X.w W t)
def cSetOf (t : CA) : CX := fun δ R RX => t δ (fun ds δ1 => match ds with
  | [.lst xs] => ∃ ss : List Str, xs = ss.map .str ∧ ss.length + 1 < scanBound ∧ R (insAll ss []) δ1
  | _ => False) RX
def cSet0 : CX := fun δ R _ => R [] δ
def cSrtX (t : CX) : CE := fun δ R RX => t δ (fun ks δ1 => ks.length < 64 ∧ ∀ ys : List Str, ys.Perm ks → sortedS ys = true → R (.lst (ys.map .str)) δ1) RX
def cLenX (t : CX) : CE := fun δ R RX => t δ (fun ks δ1 => R (.int ks.length) δ1) RX
section
variable {X : Cx} {W : WX} {e : Expr} {es : List Expr} {p q pos : Pos} {i i0 i1 : Nat} {t : CA} {tx : CX} {pth : DEnv → Option (List (Key × D))}
theorem pxd_set (hc : X.calm = true) (hg : Gl X "set") (hm : X.mg "set" = none) (ha : PAD X W [e] t) (he : starEach [e] X.env = (false, eval e X.env) :: starEach [] X.env := by rfl) : PXD X W (.Call (.Name "set" p) [e] [] pos) (cSetOf t) :=
  PE.imp (pe_callTy (cr_setLX hc) hg hm boot_set ha (he := he)) fun σ H Q ⟨B, M, δ, R, RX, er, ht, k, x⟩ => by
    refine ⟨B, M, δ, _, RX, er, ht, fun ds δ1 vs H1 M1 h1 i1 er1 f1 => ?_, x⟩
    split at h1
    · obtain ⟨ss, rfl, hb, h1⟩ := h1
      cases i1 with
      | cons a t =>
        cases t
        cases a with
        | lst e n l =>
          obtain ⟨ev, ok⟩ := is_strs l
          refine ⟨_, ss, rfl, SqL.of (by rw [← ev]; exact e), hb, fun p hp => ?_⟩
          have nw : New H1 p (SetXO X.prog X.w (insAll ss []) p) (upd H1 p (SetXO X.prog X.w (insAll ss []) p)) := new_of hp
          exact k _ δ1 p _ M1 h1 (er1.foreign nw) (f1.trans nw.fr') (f1.free p hp) nw.at fun z hz => ok z ((mem_insAll.mp hz).resolve_right fun r => nomatch r)
    · exact h1.elim
theorem pxd_set0 (hg : Gl X "set") (hm : X.mg "set" = none) : PXD X W (.Call (.Name "set" p) [] [] pos) cSet0 :=
  PE.imp (pe_callTy0 cr_set0X hg hm boot_set) fun σ H Q ⟨B, M, δ, R, RX, er, ht, k, x⟩ => ⟨rfl, fun p hp => by
    have nw : New H p (SetXO X.prog X.w [] p) (upd H p (SetXO X.prog X.w [] p)) := new_of hp
    exact k _ δ p _ M ht (er.foreign nw) nw.fr' hp nw.at fun z hz => nomatch hz⟩
theorem pd_srtX (hc : X.calm = true) (hg : Gl X "sorted") (hm : X.mg "sorted" = none) (ha : PXD X W e tx) (he : starEach [e] X.env = (false, eval e X.env) :: starEach [] X.env := by rfl) : PD X W (.Call (.Name "sorted" p) [e] [] pos) (cSrtX tx) :=
  PE.imp (pe_callB (cr_srtX hc) hg hm boot_sorted (pa_cons ha pa_nil he) (he := he)) fun σ H Q ⟨B, M, δ, R, RX, er, ht, k, x⟩ =>
    ⟨B, M, δ, _, RX, er, ht, fun ks δ1 a H1 M1 h1 er1 f1 hn ha ok => ⟨a, ks, rfl, ha, h1.1, fun ys p pm so hp => by
      have nw : New H1 p (.lst (ys.map V.str)) (upd H1 p (.lst (ys.map V.str))) := new_of hp
      exact k _ δ1 _ _ M1 (h1.2 ys pm so) (.lst nw.at (fun z => z.elim (fun r => er1.nex hp (.inl (.inl r))) fun r => er1.nex hp (.inr r)) (strs_is fun z hz => ok z (pm.mem_iff.mp hz))) ((er1.less fun b z => .inl z).same nw.same) (f1.trans nw.fr')⟩, x⟩
theorem pd_lenX (hg : Gl X "len") (hm : X.mg "len" = none) (ha : PXD X W e tx) (he : starEach [e] X.env = (false, eval e X.env) :: starEach [] X.env := by rfl) : PD X W (.Call (.Name "len" p) [e] [] pos) (cLenX tx) :=
  PE.imp (pe_callB cr_slenX hg hm PySem.boot_len (pa_cons ha pa_nil he) (he := he)) fun σ H Q ⟨B, M, δ, R, RX, er, ht, k, x⟩ =>
    ⟨B, M, δ, _, RX, er, ht, fun ks δ1 a H1 M1 h1 er1 f1 hn ha ok => ⟨a, ks, rfl, ha, k _ δ1 _ H1 M1 h1 (.int _) (er1.less fun b z => .inl z) f1⟩, x⟩
/-- {b for a in d.values() for b in a}: all texts in the tuples of a dict -/
def cVals2 (pth : DEnv → Option (List (Key × D))) (i0 i1 : Nat) : CX := fun δ R _ => optAt (pth δ) fun kvs => ∃ tss : List (List Str), dVals kvs = tss.map txD ∧ tss.flatten.length + 1 < scanBound ∧ i0 < δ.length ∧ i1 < δ.length ∧ R (insAll tss.flatten []) δ
theorem insAll_app (xs ys ks : List Str) : insAll (xs ++ ys) ks = insAll ys (insAll xs ks) := List.foldl_append
theorem insAll_snoc {xs : List Str} {z : Str} {j : Nat} {ks : List Str} (h : xs[j]? = some z) : insAll (xs.take (j + 1)) ks = ins1 z (insAll (xs.take j) ks) := by
  rw [List.take_add_one, h]
  exact insAll_app (xs.take j) [z] ks
theorem vals2_run {K : PySem.W.Frag} {P : Program} {w : World} {σ : L2.St} {H : Hp} {a : Addr} {ob : Obj} {vs : List (Key × V)} {A : Fp} {kvs : List (Key × D)} {tss : List (List Str)} {te : TE} {Q : VK} (ha : H a = some (.frz ob (.dK vs))) (l : IsK A H vs kvs) (et : dVals kvs = tss.map txD) (hb : tss.flatten.length + 1 < scanBound) (ne : i0 ≠ i1) (h0 : i0 < σ.length) (h1 : i1 < σ.length)
    (ev : ∀ Q : VK, Q (.ref a) H → te σ H Q) (k : ∀ D, H D = none → Q (.ref D) (upd H D (SetXO P w (insAll tss.flatten []) D))) : tSc2 P w (iVals te) (gName i0) (iTup K (tVar i0)) (gName i1) (tVar i1) [i0, i1] [i1] σ H Q := by
  refine ev _ ⟨a, ob, vs, rfl, ha, fun D hD => ?_⟩
  have lv : vs.length = tss.length := by rw [l.length, ← List.length_map (f := (·.2)) (as := kvs), show kvs.map (·.2) = dVals kvs from rfl, et, List.length_map]
  have at_ : ∀ {b : Addr} {o u : HO}, H b = some o → upd H D u b = some o := fun e => by rw [upd_ne (ne_of_none e hD)]; exact e
  refine ⟨fun i m H2 => m = tss.length - i ∧ i ≤ tss.length ∧ H2 = upd H D (SetXO P w (insAll (tss.take i).flatten []) D), ⟨_, rfl, Nat.zero_le _, rfl⟩, ?_⟩
  rintro i m H2 ⟨rfl, hi, rfl⟩
  by_cases hlt : i < tss.length
  · refine .inr ⟨⟨at_ ha, by rw [lv]; exact hlt⟩, _, fun H' z => ⟨tss.length - (i + 1), by omega, z⟩, fun x H' ⟨e1, kk, e2⟩ => ?_⟩
    subst e1
    obtain ⟨d, ed, hd, _⟩ := l.get e2
    have ed2 : (dVals kvs)[i]? = some d := by show (kvs.map (·.2))[i]? = _; rw [List.getElem?_map, ed]; rfl
    rw [et, List.getElem?_map, List.getElem?_eq_getElem hlt] at ed2
    generalize hts : tss[i] = ts at ed2
    cases ed2
    have etk : (tss.take (i + 1)).flatten = (tss.take i).flatten ++ ts := by rw [List.take_add_one, List.getElem?_eq_getElem hlt, hts, List.flatten_append]; simp
    unfold txD at hd
    cases hd with
    | @tup q _ _ e n l2 =>
      obtain ⟨ev2, ok⟩ := is_strs l2
      subst ev2
      have len1 : ((wipe σ [i0, i1]).set i0 (some (V.ref q))).length = σ.length := by rw [List.length_set, wipe_length]
      refine ⟨by rw [wipe_set _ (by simp)]; exact wipe_wipe σ _, ⟨_, by rw [List.getElem?_set, if_pos rfl, if_pos (by rw [wipe_length]; exact h0)], q, rfl, ⟨_, SqT.of (at_ e)⟩, ?_⟩⟩
      have sq : ∀ {u : HO} {ys : List V}, SqT K (upd H D u) q ys → True := fun _ => trivial
      refine ⟨fun j k H3 => k = ts.length - j ∧ j ≤ ts.length ∧ H3 = upd H D (SetXO P w (insAll (ts.take j) (insAll (tss.take i).flatten [])) D), ⟨_, rfl, Nat.zero_le _, rfl⟩, ?_⟩
      rintro j k3 H3 ⟨rfl, hj, rfl⟩
      by_cases hl2 : j < ts.length
      · refine .inr ⟨⟨_, .str ts[j], SqT.of (at_ e), by rw [List.getElem?_map, List.getElem?_eq_getElem hl2]; rfl⟩, _, fun H' z => ⟨ts.length - (j + 1), by omega, z⟩, fun y H4 ⟨e3, e4⟩ => ?_⟩
        subst e3
        have e5 := e4 _ (SqT.of (at_ e))
        rw [List.getElem?_map, List.getElem?_eq_getElem hl2] at e5
        cases e5
        refine ⟨wipe_set _ (by simp) |>.trans (wipe_wipe _ _), ⟨_, by rw [List.getElem?_set, if_pos rfl, if_pos (by rw [wipe_length, len1]; exact h1)], ts[j], _, rfl, upd_same, ?_, rfl, hl2, ?_⟩⟩
        · have q1 := insAll_len (ts.take j) (insAll (tss.take i).flatten [])
          have q2 := insAll_len (tss.take i).flatten []
          have q3 : tss.flatten.length = (tss.take (i + 1)).flatten.length + (tss.drop (i + 1)).flatten.length := by rw [← List.length_append, ← List.flatten_append, List.take_append_drop]
          rw [etk, List.length_append] at q3
          rw [List.length_take] at q1
          rw [List.length_nil] at q2
          omega
        · rw [insAll_snoc (List.getElem?_eq_getElem hl2)]
          funext b
          by_cases hb : b = D
          · subst hb; rw [upd_same, upd_same]
          · rw [upd_ne hb, upd_ne hb, upd_ne hb]
      · have ej : j = ts.length := by omega
        subst ej
        refine .inl ⟨⟨_, SqT.of (at_ e), by rw [List.length_map]; exact Nat.le_refl _⟩, rfl, hlt, ?_⟩
        rw [List.take_length, etk, insAll_app]
  · have ei : i = tss.length := by omega
    subst ei
    rw [List.take_length]
    exact .inl ⟨⟨at_ ha, by rw [lv]; exact Nat.le_refl _⟩, k D hD⟩
theorem pxd_vals2 {e0 : Expr} (ne : i0 ≠ i1) (h : ∀ te, PE X e te → PE X e0 (tSc2 X.prog X.w (iVals te) (gName i0) (iTup X.K (tVar i0)) (gName i1) (tVar i1) [i0, i1] [i1])) (P : Pth X e pth) : PXD X W e0 (cVals2 pth i0 i1) := by
  refine ⟨fun pins s σ H Q I ⟨B, M, δ, R, RX, er, ht, k, x⟩ => ?_⟩
  obtain ⟨kvs, ep, tss, et, hb, h0, h1, ht⟩ := ht.get
  obtain ⟨te, hte, hp⟩ := P.ex
  obtain ⟨a, us, rd, na, lk, ev⟩ := hp er ep
  have ok : ∀ z ∈ insAll tss.flatten [], PyData.strOk z = true := fun z hz => by
    obtain ⟨ts, m1, m2⟩ := List.mem_flatten.mp ((mem_insAll.mp hz).resolve_right fun r => nomatch r)
    obtain ⟨j, hj, ej⟩ := List.getElem_of_mem m1
    have e1 : (dVals kvs)[j]? = some (txD ts) := by rw [et, List.getElem?_map, List.getElem?_eq_getElem hj, ej]; rfl
    have e2 : ∃ kk, kvs[j]? = some (kk, txD ts) := by
      have q : (kvs.map (·.2))[j]? = some (txD ts) := e1
      rw [List.getElem?_map] at q
      cases z : kvs[j]? with
      | none => rw [z] at q; cases q
      | some kv => rw [z] at q; cases kv; cases q; exact ⟨_, rfl⟩
    obtain ⟨kk, e2⟩ := e2
    have hlt : j < us.length := by rw [lk.length]; exact (List.getElem?_eq_some_iff.mp e2).1
    obtain ⟨d, e3, hd, _⟩ := lk.get (i := j) (k := us[j].1) (v := us[j].2) (by rw [List.getElem?_eq_getElem hlt])
    rw [e2] at e3
    cases e3
    unfold txD at hd
    generalize us[j].2 = v at hd
    cases hd with
    | tup e n l2 => exact (is_strs l2).2 z m2
  have ls := er.len
  rcases rd with e1 | ⟨ob, e1⟩
  · refine (pe_lock (h te hte)).run pins s σ H Q I ⟨a, .dK us, e1, trivial, fun od => ?_⟩
    obtain ⟨er1, f1⟩ := er.lock (ob := od) e1 na
    refine vals2_run upd_same (lk.keep (Keep.fr (B := B) f1)) et hb ne (by omega) (by omega) (fun Q q => ev _ (fun b o hb eb => by rw [upd_ne hb]; exact eb) Q q) fun D hD => ?_
    have nd : D ≠ a := fun z => by rw [z, upd_same] at hD; cases hD
    have hD0 : H D = none := by rw [upd_ne nd] at hD; exact hD
    have eq : upd (upd (upd H a (.frz od (.dK us))) D (SetXO X.prog X.w (insAll tss.flatten []) D)) a (.dK us) = upd H D (SetXO X.prog X.w (insAll tss.flatten []) D) := by
      funext b
      by_cases h2 : b = a
      · subst h2; rw [upd_same, upd_ne (Ne.symm nd)]; exact e1.symm
      · rw [upd_ne h2]
        by_cases h3 : b = D
        · subst h3; rw [upd_same, upd_same]
        · rw [upd_ne h3, upd_ne h3, upd_ne h2]
    refine ⟨by rw [upd_ne (Ne.symm nd), upd_same], ?_⟩
    rw [eq]
    have nw : New H D (SetXO X.prog X.w (insAll tss.flatten []) D) (upd H D (SetXO X.prog X.w (insAll tss.flatten []) D)) := new_of hD0
    exact k _ δ D _ M ht (er.foreign nw) nw.fr' hD0 nw.at ok
  · refine (h te hte).run pins s σ H Q I ?_
    refine vals2_run e1 lk et hb ne (by omega) (by omega) (fun Q q => ev H (fun _ _ _ eb => eb) Q q) fun D hD => ?_
    have nw : New H D (SetXO X.prog X.w (insAll tss.flatten []) D) (upd H D (SetXO X.prog X.w (insAll tss.flatten []) D)) := new_of hD
    exact k _ δ D _ M ht (er.foreign nw) nw.fr' hD nw.at ok
end
end Xl


namespace Xl
open PySem PySem.Spec PyProof.Rows L2
section
variable {B M : Fp} {H : Hp} {σ : L2.St} {δ : DEnv} {i : Nat} {p : Addr} {u : List Str → Addr → HO} {ks ks' : List Str}
/-- a new object (foreign so far) is stored and owned, as s' says -/
theorem ER.setNew (h : ER (Bp B p) M H σ δ) {s' : Sl} (hi : i < δ.length) (hB : ¬ B p) (hs : ∀ M', Keep (Ex (Bp B p) M) H (Ex B M') H → SlR B M' H (fun b => b = p) (some (.ref p)) s') : ∃ M', ER B M' H (σ.set i (some (.ref p))) (δ.set i s') ∧ ∀ b, M' b → M b ∨ b = p := by
  have nM := h.nB
  obtain ⟨gs, h1⟩ := h
  have kk : Keep (Ex (Bp B p) M) H (Ex B fun b => ∃ j, (if j = i then (fun b => b = p) else gs j) b) H := Keep.less fun b z => z.elim (fun q => .inl (.inl q)) fun ⟨j, q⟩ => by
    by_cases hj : j = i
    · simp only [if_pos hj] at q; exact .inl (.inr q)
    · simp only [if_neg hj] at q; exact .inr ((h1.own b).mpr ⟨j, q⟩)
  have np : ∀ j b, gs j b → b ≠ p := fun j b hj e => nM (e ▸ (h1.own b).mpr ⟨j, hj⟩)
  refine ⟨_, ⟨fun j => if j = i then (fun b => b = p) else gs j, by rw [List.length_set, List.length_set]; exact h1.len, fun b => Iff.rfl, fun a c b z1 z2 => ?_, fun j => ?_, fun b hb => h1.dom b (.inl hb), ?_⟩, ?_⟩
  · by_cases ha : a = i
    · by_cases hc : c = i
      · rw [ha, hc]
      · simp only [if_pos ha] at z1
        simp only [if_neg hc] at z2
        exact absurd z1 (np c b z2)
    · by_cases hc : c = i
      · simp only [if_neg ha] at z1
        simp only [if_pos hc] at z2
        exact absurd z2 (np a b z1)
      · simp only [if_neg ha] at z1
        simp only [if_neg hc] at z2
        exact h1.one a c b z1 z2
  · by_cases hj : j = i
    · subst hj
      simp only [if_pos]
      rw [List.getElem?_set, if_pos rfl, if_pos (by rw [h1.len]; exact hi), List.getElem?_set, if_pos rfl, if_pos hi]
      exact hs _ kk
    · simp only [if_neg hj]
      rw [List.getElem?_set, if_neg (Ne.symm hj), List.getElem?_set, if_neg (Ne.symm hj)]
      exact (h1.at_ j).move kk fun _ _ _ e => e
  · rintro b hb ⟨j, q⟩
    by_cases hj : j = i
    · simp only [if_pos hj] at q; exact hB (q ▸ hb)
    · simp only [if_neg hj] at q; exact h1.dis b (.inl hb) ((h1.own b).mpr ⟨j, q⟩)
  · rintro b ⟨j, q⟩
    by_cases hj : j = i
    · simp only [if_pos hj] at q; exact .inr q
    · simp only [if_neg hj] at q; exact .inl ((h1.own b).mpr ⟨j, q⟩)
theorem ER.sxAt (h : ER B M H σ δ) (e : δ[i]? = some (.sx u ks)) : ∃ p, σ[i]? = some (some (.ref p)) ∧ H p = some (u ks p) := by
  obtain ⟨fs, h⟩ := h
  have q := h.at_ i
  rw [e] at q
  obtain ⟨p, ev, hp, _⟩ := q
  refine ⟨p, ?_, hp⟩
  cases z : σ[i]? with
  | none => rw [z] at ev; cases ev
  | some o => rw [z] at ev; rw [show o = some (.ref p) from ev]
theorem ER.mutSx (h : ER B M H σ δ) (e : δ[i]? = some (.sx u ks)) (ev : σ[i]? = some (some (.ref p))) (nk : ∀ kvs, u ks' p ≠ .dK kvs) : ER B M (upd H p (u ks' p)) σ (δ.set i (.sx u ks')) ∧ Fr M H M (upd H p (u ks' p)) := by
  have hi : i < δ.length := (List.getElem?_eq_some_iff.mp e).1
  obtain ⟨fs, h⟩ := h
  have a := h.at_ i
  rw [e, ev] at a
  obtain ⟨p', ep, hp, _, hf⟩ := a
  cases ep
  have hM : M p := (h.own p).mpr ⟨i, (hf p).mpr rfl⟩
  have eM : (fun b => b = p ∨ ∃ j, j ≠ i ∧ fs j b) = M := by
    funext b
    refine propext ⟨fun z => z.elim (fun q => q ▸ hM) h.sub, fun z => ?_⟩
    obtain ⟨j, hj⟩ := (h.own b).mp z
    by_cases q : j = i
    · subst q; exact .inl ((hf b).mp hj)
    · exact .inr ⟨j, q, hj⟩
  have k : Keep (Ex B M) H (Ex B M) (upd H p (u ks' p)) := fun b o eb nb => ⟨nb, .inl (by rw [upd_ne fun (z : b = p) => nb (.inr (z ▸ hM))]; exact eb)⟩
  have q := h.put (f' := fun b => b = p) (o' := some (.ref p)) (s' := .sx u ks') (H' := upd H p (u ks' p)) hi (by rw [eM]; exact ⟨p, rfl, upd_same, nk, fun _ => Iff.rfl⟩)
    (fun j b o hj hb eb => by rw [upd_ne fun (z : b = p) => hj (h.one j i b hb ((hf b).mpr z))]; exact eb) (by rw [eM]; exact k) (fun j b hj z q => hj (h.one j i b q ((hf b).mpr z))) (fun b z q => h.dis b q (z ▸ hM))
    (fun b o eb => by
      by_cases hb : b = p
      · subst hb; exact ⟨_, upd_same⟩
      · exact ⟨o, by rw [upd_ne hb]; exact eb⟩)
  rw [eM, set_self ev] at q
  exact ⟨q, fun b o eb nb => by rw [upd_ne fun (z : b = p) => nb (z ▸ hM)]; exact eb, fun b z => .inl z, fun b z => upd_free z⟩
end
def cSetX (u : List Str → Addr → HO) (i : Nat) (t : CX) : CS := fun δ C => t δ (fun ks δ1 => i < δ1.length ∧ C.nx (δ1.set i (.sx u ks))) C.ex
def sxAt (u : List Str → Addr → HO) (δ : DEnv) (i : Nat) (k : List Str → Prop) : Prop := ∃ ks, δ[i]? = some (.sx u ks) ∧ k ks
def cSAdd (u : List Str → Addr → HO) (i : Nat) (ta : CE) : CS := fun δ C => sxAt u δ i (fun _ => True) ∧ ta δ (fun d δ1 => match d with
  | .str z => sxAt u δ1 i fun ks => ks.length + 1 < scanBound ∧ C.nx (δ1.set i (.sx u (ins1 z ks)))
  | _ => False) C.ex
def cInX (u : List Str → Addr → HO) (neg : Bool) (ta : CE) (i : Nat) : CE := fun δ R RX => ta δ (fun d δ1 => match d with
  | .str z => sxAt u δ1 i fun ks => R (.bl (if neg then !decide (z ∈ ks) else decide (z ∈ ks))) δ1
  | _ => False) RX
section
variable {X : Cx} {W : WX} {e o a b : Expr} {p q pos apos cpos : Pos} {i : Nat} {ta : CE} {tx : CX} {st : Stmt}
theorem psd_setX (h : ∀ te, PE X e te → PS X st (tAsg te (gName i))) (he : PXD X W e tx) : PSD X W st (cSetX (SetXO X.prog X.w) i tx) := PS.imp (h _ he) fun N σ H ⟨B, M, δ, C, er, ht, k⟩ => by
  refine ⟨B, M, δ, _, C.ex, er, ht, fun ks δ1 p H1 M1 h1 er1 f1 hn hp ok => ?_, k.xok σ⟩
  obtain ⟨M2, er2, f2⟩ := er1.setNew (s' := .sx (SetXO X.prog X.w) ks) h1.1 (er.nfree hn) fun M' kk => ⟨p, rfl, hp, fun kvs z => (by unfold SetXO at z; cases z), fun _ => Iff.rfl⟩
  exact k.nx _ _ H1 M2 h1.2 er2 (f1.own hn f2)
def tSAddX (P : Program) (w : World) (to : TE) (t : TA) : TE := fun σ H Q => to σ H fun x H1 => (∃ a ks, x = V.ref a ∧ H1 a = some (SetXO P w ks a)) ∧ t σ H1 fun xs H2 => rSAddX P w x xs H2 Q
theorem pe_saddX {to : TE} {t : TA} (ho : PE X o to) (ha : PA X [e] t) (hbase : attributeBase o "add" X.env (eval o X.env) = eval o X.env := by rfl) (hline : (apos.endLine == cpos.line) = true := by rfl) (hs : starEach [e] X.env = (false, eval e X.env) :: starEach [] X.env := by rfl)
    (hfew : ((backTo cpos (starEach [e] X.env)).all (fun x => !x.1) && (backToKw cpos (keywordEach [] X.env)).all (fun x => x.1.isSome) && decide ([e].length + ([] : List Keyword).length + (if ([] : List Keyword).isEmpty then 0 else 1) < 30)) = true := by rfl) :
    PE X (.Call (.Attribute o "add" apos) [e] [] cpos) (tSAddX X.prog X.w to t) := by
  refine ⟨fun pins s σ H Q I h => wpAny_Call_method_late hbase hfew hline rfl (thn (ho.run pins s σ H _ I h) fun v s1 ⟨x, H1, I1, r1, ty, q1⟩ => ?_)⟩
  obtain ⟨a, ks, rfl, hka⟩ := ty
  have hS := (setXO_get I1 hka).setOf
  cases r1
  refine ⟨"set", "set.add", PySem.F.plainAttrs_set, PySem.F.slot_set_add, PySem.F.type_set_add, hS.typeIs, hS.noDict, ?_⟩
  have hA := ha.run cpos pins s1 σ H1 _ I1 q1
  rw [hs] at hA ⊢
  exact Calls.callWith_builtin rfl (Calls.evalArgs_plain (thn hA fun us s2 ⟨vs, H2, I2, r2, q2⟩ => mt_saddX pins s2 σ H2 (.ref a) vs (.ref a) us Q I2 rfl r2 q2))
theorem psd_sadd (h : ∀ to t, PE X o to → PA X [e] t → PS X st (tDrop (tSAddX X.prog X.w to t))) (hv : PE X o (tVar i)) (ha : PD X W e ta) (he : starEach [e] X.env = (false, eval e X.env) :: starEach [] X.env := by rfl) : PSD X W st (cSAdd (SetXO X.prog X.w) i ta) := by
  refine PS.imp (h _ _ hv (pa_cons ha pa_nil he)) fun N σ H ⟨B, M, δ, C, er, ⟨⟨ks0, e0, _⟩, ht⟩, k⟩ => ?_
  obtain ⟨p, ev, hp⟩ := er.sxAt e0
  refine ⟨_, ev, ⟨p, ks0, rfl, hp⟩, B, M, δ, _, C.ex, er, ht, fun d δ1 v H1 M1 h1 i1 er1 f1 => ?_, k.xok σ⟩
  split at h1
  · obtain ⟨ks, e1, room, h1⟩ := h1
    obtain ⟨p1, ev1, hp1⟩ := er1.sxAt e1
    rw [ev] at ev1
    cases ev1
    cases i1
    obtain ⟨er2, f2⟩ := er1.mutSx (ks' := ins1 _ ks) e1 ev fun kvs z => (by unfold SetXO at z; cases z)
    exact ⟨p, _, ks, rfl, rfl, hp1, room, k.nx _ σ _ M1 h1 er2 (f1.trans f2.fz)⟩
  · exact h1.elim
theorem lift_inX {neg : Bool} {σ : L2.St} {H : Hp} {Q : VK} (h : liftE W (cInX (SetXO X.prog X.w) neg ta i) σ H Q) : tOp (rSInX X.prog X.w neg) (liftE W ta) (tVar i) σ H Q := by
  obtain ⟨B, M, δ, R, RX, er, ht, k, x⟩ := h
  refine ⟨B, M, δ, _, RX, er, ht, fun d δ1 v H1 M1 h1 i1 er1 f1 => ?_, x⟩
  split at h1
  · obtain ⟨ks, e1, h1⟩ := h1
    obtain ⟨p, ev, hp⟩ := er1.sxAt e1
    cases i1
    exact ⟨_, ev, _, p, ks, rfl, rfl, hp, k _ δ1 _ H1 M1 h1 (.bl _) er1 f1⟩
  · exact h1.elim
theorem ptd_inX (ha : PD X W a ta) (hb : PE X b (tVar i)) (hm : behindInMarks .In b = false) : PTD X W (.Compare a [.In] [b] pos) (cTst (cInX (SetXO X.prog X.w) false ta i)) := PT.imp (pt_cmpR or_sinX ha hb hm) fun _ _ _ h => lift_inX (lift_tst h)
theorem ptd_ninX (ha : PD X W a ta) (hb : PE X b (tVar i)) (hm : behindInMarks .NotIn b = false) : PTD X W (.Compare a [.NotIn] [b] pos) (cTst (cInX (SetXO X.prog X.w) true ta i)) := PT.imp (pt_cmpR or_sninX ha hb hm) fun _ _ _ h => lift_inX (lift_tst h)
end
end Xl


namespace Xl
open PySem PySem.Spec PyProof.Rows L2
theorem sw_dc {kx vx : Expr} {gs : List Comprehension} {scope : Scope} {pos py : Pos} {y : Str} {l : Nat} {env : Env} (h1 : env.scope.kind = .function) (h2 : env.scope.names.lookup y = some .local) (h3 : (py.line == pos.line) = true)
    (h4 : (scope.names.any fun (n, k) => n == y && (k == .local || k == .cell)) = false) : swapsWith (.DictComp kx vx gs scope pos) (some (.Name y py)) l env = pure true := by
  have k1 : env.kindOf y = some .local := h2
  have k2 : env.blockKind = .function := by unfold Env.blockKind; rw [h1]; rfl
  unfold swapsWith
  simp only [k2, k1, h4, Expr.pos, h3]; rfl
section
variable {X : Cx} {W : WX} {e tg iter : Expr} {i : Nat} {g : CG} {pth : DEnv → Option (List (Key × D))} {x c f : Str} {C : Addr} {p pos : Pos}
theorem ps_setDc {y : Str} {py : Pos} {kx vx : Expr} {ifs : List Expr} {scope : Scope} {own : List (Str × Nat)} {pos spos : Pos} {wi : TI} {g : TG} {tt : TT} {tk tv : TE} (hc : X.calm = true) (hN : X.N.Nodup) (hy : X.N[i]? = some y) (hl : X.env.scope.names.lookup y = some .local)
    (hsw : swapsWith (.DictComp kx vx [⟨tg, iter, ifs, 0⟩] scope pos) (some (.Name y py)) spos.line X.env = pure true) (hi : PI X tg iter wi) (ok : BlkOk X.N X.env.scope scope own) (hg : Blk X scope fun Y => PG Y tg g) (ht : Blk X scope fun Y => PTs Y ifs tt) (hk : Blk X scope fun Y => PE Y kx tk) (he : Blk X scope fun Y => PE Y vx tv)
    (hs : ∀ x, foldedSetIterable iter X.env x = pure x := by intro _; rfl) : PS X (.Assign [.Name y py] (.DictComp kx vx [⟨tg, iter, ifs, 0⟩] scope pos) spos) (tAsg (tDc wi g tt tk tv (own.map (·.2))) (gName i)) := by
  refine ⟨fun pins s σ H N I h => ?_⟩
  rw [exec_Assign_Name_used _ _ _ _ hsw]
  refine wpAny_bind (wpAny_standAt (wpAny_bind (show wpAny _ X.A (do let _ ← comprehension (.DictComp kx vx [⟨tg, iter, ifs, 0⟩] scope pos) scope X.env (firstIterPos [⟨tg, iter, ifs, 0⟩] pos) newDict false (eval iter X.env) (some (assign (.Name y py) X.env))) _ _ s from ?_)))
  refine wpAny_bind (thn (dc_core (Q := fun x H1 => gName i x σ H1 N.nx) (Qf := fun _ s' => SP X pins N .next s') hc hN I hi ok hg ht hk he hs h fun L C s' m H' I' q hn f => ?_) fun _ s' hq => wpAny_pure (wpAny_pure hq))
  obtain ⟨f0, f1, f2, f3, f4, f5⟩ := f
  refine (show wpAny _ _ (assign (.Name y py) X.env (.ref L)) _ _ _ from wpAny_assign_Name (store_ok2 (v := V.ref L) I' hN hy (.inl hl) rfl (fun s2 I2 ⟨a, sb, ha⟩ => ?_) (.inr hl)))
  exact ⟨m, hn.sameBut sb (ha.elim (fun z => by rw [z]; exact f1) fun z e => f4 y a z e.symm), fun h3 sb3 => ⟨_, H', I2.turned (t' := s2.toks) (fun b o hb e => (sb3.2 b hb).trans e) f0 f1 f3 f4 f5, q⟩⟩
/-- y = {..} over a dict -/
theorem psd_dcD {st : Stmt} {own : List (Str × Nat)} {tt : CT} {tk tv : CE} {wi : TE → TI} {kd : List (Key × D) → List D} (wk : WkD wi kd) (hn : (own.map (·.2)).Nodup)
    (h : ∀ te, PE X e te → PS X st (tAsg (tDc (wi te) (liftGV (own.map (·.2)) g) (liftT W0 tt) (liftE W0 tk) (liftE W0 tv) (own.map (·.2))) (gName i))) (P : Pth X e pth) : PSD X W st (cSet i (cDcD pth kd g tt tk tv (own.map (·.2)))) := by
  refine ⟨fun pins s σ H N I ⟨B, M, δ, C, er, ht, k⟩ => ?_⟩
  obtain ⟨kvs, ep, ht⟩ := optAt.get ht
  obtain ⟨te, hte, hp⟩ := P.ex
  obtain ⟨a, us, rd, na, lk, ev⟩ := hp er ep
  rcases rd with e0' | ⟨ob, e0'⟩
  · refine (ps_lock (h te hte)).run pins s σ H N I ⟨a, .dK us, e0', trivial, fun od => ?_⟩
    obtain ⟨er1, f1⟩ := er.lock (ob := od) e0' na
    refine wk.go upd_same na (lk.keep (Keep.fr (B := B) f1)) (fun Q q => ev _ (fun b o hb eb => by rw [upd_ne hb]; exact eb) Q q) fun J w => ?_
    refine dc_in (R := fun acc δ2 => i < δ2.length ∧ C.nx (δ2.set i (.sh (.dic acc)))) (Q := fun v H' => H' a = some (.frz od (.dK us)) ∧ N.nx (σ.set i (some v)) (upd H' a (.dK us))) hn er1 w ht fun acc δ' p us' H' M' r1 r2 r3 r4 r5 r6 => ?_
    have r2' := r2.less (B' := B) fun b z => .inl z
    obtain ⟨h2, er3, f3, _⟩ := r2'.open_ e0' na r3
    obtain ⟨M4, er4, f4⟩ := er3.set r1.1 (is_open (M := M) (H := H) h2 (is_newdic er1 r4 r2 r5 r6))
    exact ⟨h2, k.nx _ _ _ M4 r1.2 er4 (f3.trans f4.fz)⟩
  · refine (h te hte).run pins s σ H N I ?_
    refine wk.go e0' na lk (fun Q q => ev H (fun _ _ _ eb => eb) Q q) fun J w => ?_
    refine dc_in (R := fun acc δ2 => i < δ2.length ∧ C.nx (δ2.set i (.sh (.dic acc)))) (Q := fun v H' => N.nx (σ.set i (some v)) H') hn er w ht fun acc δ' p us' H' M' r1 r2 r3 r4 r5 r6 => ?_
    obtain ⟨M4, er4, f4⟩ := (r2.less (B' := B) fun b z => .inl z).set r1.1 (is_newdic er r4 r2 r5 r6)
    exact k.nx _ _ _ M4 r1.2 er4 (r3.trans f4.fz)
/-- a constant of a class -/
theorem pd_cval {v : Int} (h : X.mg c = some (.ref C)) (hk : ∃ mc u, ClX.CRead X.K C mc ∧ ClX.CVal X.K C mc f (.int v) u) (hg : Gl X c := by rfl) (hd : (c == ("__debug__" : Str)) = false := by decide) (hb : attributeBase (.Name c p) f X.env (eval (.Name c p) X.env) = eval (.Name c p) X.env := by rfl) :
    PD X W (.Attribute (.Name c p) f pos) (cC (.int v)) := PE.imp (ClX.pe_cval (pe_cls h hg hd) hb) fun σ H Q ⟨B, M, δ, R, RX, er, ht, k, _⟩ => by
  obtain ⟨mc, u, h1, h2⟩ := hk
  exact ⟨C, mc, _, u, rfl, h1, h2, k _ δ _ H M ht (.int _) er (Fz.refl _ _)⟩
end
end Xl


namespace Xl
open PySem PySem.Spec PyProof.Rows L2
section
variable {X : Cx} {W : WX} {o : Expr} {ta : CE} {apos pos : Pos}
/-- str(i): the outcome's being a text of signs is asked of the reading -/
def rStr' : List D → (D → Prop) → Prop := fun ds R => match ds with
  | [.int i] => i.natAbs.log2 < 1920 ∧ PyData.strOk (toString i : String) = true ∧ R (.str (toString i : String))
  | _ => False
theorem kd_str : CallR X (.type "str") (liftC rStr') := by
  rintro pins s σ H xs us Q I r ⟨A, ds, R, dom, i1, h, k⟩
  unfold rStr' at h
  split at h
  · obtain ⟨h1, h2, h3⟩ := h
    cases i1 with
    | cons a t =>
      cases t
      cases a
      exact call_str_int pins s σ H _ us Q I r ⟨_, rfl, h1, k _ _ H h3 (Same.refl _) (.str _ h2)⟩
  · exact h.elim
/-- list(d): the keys of a dict -/
def rLstD : List D → (D → Prop) → Prop := fun ds R => match ds with
  | [.dic kvs] => R (.lst (dKeys kvs))
  | _ => False
theorem IsK.keys {A : Fp} {H : Hp} : ∀ {vs : List (Key × V)} {ds : List (Key × D)}, IsK A H vs ds → IsL A H (vs.map fun kv => kV kv.1) (dKeys ds)
  | _, _, .nil => .nil
  | _, _, .cons hk _ t => .cons (kD_is hk) t.keys
theorem kd_lstD (hc : X.calm = true) : CallR X (.type "list") (liftC rLstD) := by
  rintro pins s σ H xs us Q I r ⟨A, ds, R, dom, i1, h, k⟩
  unfold rLstD at h
  split at h
  · cases i1 with
    | cons a t =>
      cases t
      cases a with
      | dic e n l => exact call_listD hc pins s σ H _ us Q I r ⟨_, _, rfl, e, fun p hp => k _ _ _ h (new_of hp).same (.lst (new_of hp).at (dom_new dom hp) (l.keys.keep (Keep.same (new_of hp).same)))⟩
  · exact h.elim
def cUpper (ta : CE) : CE := fun δ R RX => ta δ (fun d δ1 => match d with
  | .str a => a.length ≤ 5592405 ∧ PyData.strOk (Txt.upper a) = true ∧ R (.str (Txt.upper a)) δ1
  | _ => False) RX
theorem pd_upper (h : PD X W o ta) (hbase : attributeBase o "upper" X.env (eval o X.env) = eval o X.env := by rfl) (hline : (apos.endLine == pos.line) = true := by rfl) : PD X W (.Call (.Attribute o "upper" apos) [] [] pos) (cUpper ta) :=
  PE.imp (pe_upper h hbase hline) fun σ H Q ⟨B, M, δ, R, RX, er, ht, k, x⟩ => by
    refine ⟨B, M, δ, _, RX, er, ht, fun d δ1 v H1 M1 h1 i1 er1 f1 => ?_, x⟩
    split at h1
    · cases i1
      exact ⟨⟨_, rfl⟩, _, rfl, rfl, h1.1, k _ δ1 _ H1 M1 h1.2.2 (.str _ h1.2.1) er1 f1⟩
    · exact h1.elim
end
end Xl


namespace Xl
open PySem PySem.Spec PyProof.Rows L2
/-! ### keywords, in any order; isinstance -/
def pick {α : Type} (z : α) (ix : List Nat) (xs : List α) : List α := ix.map fun i => xs.getD i z
theorem IsL.getD {A : Fp} {H : Hp} {vs : List V} {ds : List D} (l : IsL A H vs ds) (i : Nat) : Is A H (vs.getD i .non) (ds.getD i .non) := by
  cases e : ds[i]? with
  | none =>
    have h1 : vs[i]? = none := by rw [List.getElem?_eq_none_iff, l.length]; exact List.getElem?_eq_none_iff.mp e
    rw [List.getD_eq_getElem?_getD, List.getD_eq_getElem?_getD, e, h1]
    exact .non
  | some d =>
    obtain ⟨v, ev, hv⟩ := l.get e
    rw [List.getD_eq_getElem?_getD, List.getD_eq_getElem?_getD, e, ev]
    exact hv
theorem IsL.pick {A : Fp} {H : Hp} {vs : List V} {ds : List D} (l : IsL A H vs ds) : ∀ ix : List Nat, IsL A H (Xl.pick .non ix vs) (Xl.pick .non ix ds)
  | [] => .nil
  | i :: ix => .cons (l.getD i) (IsL.pick l ix)
theorem vals_getD : ∀ {vs : List V} {us : List Value}, Vals vs us → ∀ i, RelV (vs.getD i .non) (us.getD i .none)
  | _, _, .nil, _ => rfl
  | _, _, .cons h _, 0 => h
  | _, _, .cons _ t, i + 1 => by
    rw [List.getD_cons_succ, List.getD_cons_succ]
    exact vals_getD t i
theorem vals_pick {vs : List V} {us : List Value} (l : Vals vs us) : ∀ ix : List Nat, Vals (Xl.pick .non ix vs) (Xl.pick .none ix us)
  | [] => .nil
  | i :: ix => .cons (vals_getD l i) (vals_pick l ix)
abbrev PKD (X : Cx) (W : WX) (kws : List Keyword) (t : CA) : Prop := PK X kws (liftA W t)
/-- f(k = v, ..) -/
structure FnKw (P : Program) (w : World) (K : PySem.W.Frag) (mg : Str → Option Value) (base : Heap) (x : Str) (k : Nat) (ks : List Str) (ix : List Nat) (sp : Sp) : Prop where
  ex : ∃ f fd ps, FnOk P w K mg base (L2.CX P w) k f fd ps sp ∧ mg x = some (.ref f) ∧ PySem.W.keepIn K (.ref f) = true ∧ ∀ (s : Shared) (ws : List Value), ws.length = ks.length → BindsTo s fd ⟨[], ks.zip ws⟩ (ps.zip (Xl.pick .none ix ws))
/-- o.m(k = v, ..) -/
structure MeKw (P : Program) (w : World) (K : PySem.W.Frag) (mg : Str → Option Value) (base : Heap) (C : Addr) (m : Str) (k : Nat) (ks : List Str) (ix : List Nat) (sp : Sp) : Prop where
  ex : ∃ f fd ps, Cls K C ∧ Meth K C m f ∧ FnOk P w K mg base (L2.CX P w) k f fd ps sp ∧ ∀ (s : Shared) (u : Value) (ws : List Value), ws.length = ks.length → BindsTo s fd ⟨[u], ks.zip ws⟩ (ps.zip (u :: Xl.pick .none ix ws))
/-- C(k = v, ..) -/
structure MkKw (P : Program) (w : World) (K : PySem.W.Frag) (mg : Str → Option Value) (base : Heap) (C : Addr) (k : Nat) (ks : List Str) (ix : List Nat) (c : CE) : Prop where
  ex : ∃ f fd ps, Mk K C f ∧ FnOk P w K mg base (L2.CX P w) k f fd ps (spD c) ∧ ∀ (s : Shared) (u : Value) (ws : List Value), ws.length = ks.length → BindsTo s fd ⟨[u], ks.zip ws⟩ (ps.zip (u :: Xl.pick .none ix ws))
section
variable {X : Cx} {W : WX} {k : Nat} {ks : List Str} {ix : List Nat} {x m : Str} {C : Addr} {p pos apos kpos : Pos} {e o : Expr} {kws : List Keyword} {ta : CE} {t : CA} {c : CE} {nm : Option Str}
theorem pkd_nil : PKD X W [] caNil := ⟨fun pos pins s σ H Q I ⟨B, M, δ, R, RX, er, ht, k, _⟩ => pk_nil.run pos pins s σ H Q I (k [] δ [] H M ht .nil er (Fz.refl _ _))⟩
theorem pkd_cons (ha : PD X W e ta) (hr : PKD X W kws t) : PKD X W (⟨nm, e, kpos⟩ :: kws) (caCons ta t) := ⟨fun pos pins s σ H Q I ⟨B, M, δ, R, RX, er, ht, k, x⟩ => (pk_cons ha hr).run pos pins s σ H Q I (by
  refine ⟨B, M, δ, _, RX, er, ht, fun d1 δ1 v1 H1 M1 h1 i1 er1 f1 => ?_, x⟩
  refine ⟨B, M1, δ1, _, RX, er1, h1, fun ds δ2 vs H2 M2 h2 i2 er2 f2 => ?_, x.fr f1⟩
  exact k _ δ2 _ H2 M2 h2 (.cons (i1.keep (Keep.fr f2)) i2) er2 (f1.trans f2))⟩
def cCallK (n : Nat) (ix : List Nat) (c : CE) (t : CA) : CE := fun δ R RX => t δ (fun ds δ1 => ds.length = n ∧ c ((Xl.pick .non ix ds).map .sh) (fun d _ => R d δ1) fun C fs _ => RX C fs δ1) RX
theorem pd_fK (F : FnKw X.prog X.w X.K X.mg X.base x k ks ix (spD c)) (hr : Room k X.A) (tk : Takes X W) (hkw : PKD X W kws t) (hg : Gl X x := by rfl)
    (hall : (backToKw pos (keywordEach kws X.env)).all (·.1.isSome) = true := by rfl) (hks : (backToKw pos (keywordEach kws X.env)).filterMap (·.1) = ks := by rfl) (hdb : (x == ("__debug__" : Str)) = false := by decide)
    (hpl : ((backTo pos (starEach [] X.env)).any (·.1) || (backToKw pos (keywordEach kws X.env)).any (·.1.isNone)) = false := by rfl) :
    PD X W (.Call (.Name x p) [] kws pos) (cCallK ks.length ix c t) := by
  obtain ⟨f, fd, ps, h1, h2, h3, h4⟩ := F.ex
  refine ⟨fun pins s σ H Q I ⟨B, M, δ, R, RX, er, ht, kk, xk⟩ => ?_⟩
  refine wpAny_Call_Name_kw (ld_glob I hg h2 ?_ hdb)
  refine PySem.W.callWith_KW0 (h₀ := X.base) I.ok.mod.kin h3 hall ?_ hpl
  refine thn (hkw.run pos pins s σ H (fun zs H2 => zs.length = ks.length ∧ spD c (Xl.pick .non ix zs) H2 Q (WE W σ)) I ⟨B, M, δ, _, RX, er, ht, fun ds δ1 vs H1 M1 h1 i1 er1 f1 => ⟨by rw [i1.length]; exact h1.1, lift_sp er1 (i1.pick ix) h1.2 (fun d δ' v H' M' r1 r2 r3 r4 => kk d δ' v H' M' r1 r2 r3 (f1.trans r4)) (xk.fr f1)⟩, xk⟩) fun ws s2 ⟨zs, H2, I2, rz, l1, q2⟩ => ⟨I2.kIn, ?_⟩
  rw [hks]
  exact wpAny_call (end_fnS h1 hr (passAt tk σ) I2 (h4 s2 ws (by rw [← rz.length]; exact l1)) (vals_pick rz ix) q2)
def cMethK (C : Addr) (m : Str) (n : Nat) (ix : List Nat) (c : CE) (ta : CE) (t : CA) : CE := fun δ R RX => ta δ (fun d δ1 => match d with
  | .ins C' fs => C' = C ∧ fs.lookup m = none ∧ t δ1 (fun ds δ2 => ds.length = n ∧ c (.sh d :: (Xl.pick .non ix ds).map .sh) (fun d' _ => R d' δ2) fun Cx fs _ => RX Cx fs δ2) RX
  | _ => False) RX
theorem pd_mtK {pl : Sem Bool} (F : MeKw X.prog X.w X.K X.mg X.base C m k ks ix (spD c)) (hr : Room k X.A) (tk : Takes X W) (he : PD X W o ta) (hkw : PKD X W kws t)
    (hall : (backToKw pos (keywordEach kws X.env)).all (·.1.isSome) = true := by rfl) (hks : (backToKw pos (keywordEach kws X.env)).filterMap (·.1) = ks := by rfl)
    (hpl : ((backTo pos (starEach [] X.env)).any (·.1) || (backToKw pos (keywordEach kws X.env)).any (·.1.isNone)) = false := by rfl)
    (ht : eval (.Call (.Attribute o m apos) [] kws pos) X.env = (do
      let ov ← eval o X.env
      standAt apos.atName
      let (f, first) ← holding [ov] (getMethod ov m pl)
      callWith pos f first (backTo pos (starEach [] X.env)) (backToKw pos (keywordEach kws X.env))) := by rfl) :
    PD X W (.Call (.Attribute o m apos) [] kws pos) (cMethK C m ks.length ix c ta t) := by
  obtain ⟨f, fd, ps, cl, M0, G, hb⟩ := F.ex
  refine ⟨fun pins s σ H Q I ⟨B, M, δ, R, RX, er, ht', kk, xk⟩ => ?_⟩
  refine PySem.W.methodCall_KW (pl := pl) (thn (he.run pins s σ H (fun x H1 => ∃ a dx fs, x = .ref a ∧ H1 a = some (.ins C dx fs) ∧ fs.lookup m = none ∧ liftA W t σ H1 fun zs H2 => zs.length = ks.length ∧ spD c (.ref a :: Xl.pick .non ix zs) H2 Q (WE W σ)) I ⟨B, M, δ, _, RX, er, ht', fun d δ1 v H1 M1 h1 i1 er1 f1 => ?_, xk⟩) fun u s1 ⟨x, H1, I1, rx, a, dx, fs, ex, ea, l, q⟩ => ?_) ht
  · split at h1
    · next C' fs =>
      obtain ⟨rfl, hl, h1⟩ := h1
      have i1' := i1
      cases i1 with
      | ins e1 n l =>
        refine ⟨_, _, _, rfl, e1, l.none hl, B, M1, δ1, _, RX, er1, h1, fun ds δ2 vs H2 M2 h2 i2 er2 f2 => ⟨by rw [i2.length]; exact h2.1, ?_⟩, xk.fr f1⟩
        exact lift_sp (ds := _ :: Xl.pick .non ix ds) er2 (.cons (i1'.keep (Keep.fr f2)) (i2.pick ix)) h2.2 (fun d δ' v H' M' r1 r2 r3 r4 => kk d δ' v H' M' r1 r2 r3 (f1.trans (f2.trans r4))) (xk.fr (f1.trans f2))
    · exact h1.elim
  · subst ex
    obtain rfl : u = Value.ref a := rx
    refine getmeth_ok I1 ea cl M0 l ?_
    refine PySem.W.callWith_KW0 (first := [.ref a]) (h₀ := X.base) I.ok.mod.kin M0.kp hall ?_ hpl
    refine thn (hkw.run pos pins s1 σ H1 _ I1 q) fun ws s2 ⟨zs, H2, I2, rz, l1, q2⟩ => ⟨I2.kIn, ?_⟩
    rw [hks]
    exact wpAny_call (end_fnS (vs := .ref a :: Xl.pick .non ix zs) (us := .ref a :: Xl.pick .none ix ws) G hr (passAt tk σ) I2 (hb s2 (.ref a) ws (by rw [← rz.length]; exact l1)) (.cons rfl (vals_pick rz ix)) q2)
theorem run_makeKS {E : XK} {f : Addr} {fd : FuncData} {ps : List Str} {sp : Sp} {pins : List (Addr × Obj)} {σ : L2.St} {H : Hp} {s : Shared} {Q : VK} {ws : List Value} {zs : List V} (M : Mk X.K C f) (F : FnOk X.prog X.w X.K X.mg X.base (L2.CX X.prog X.w) k f fd ps sp) (hr : Room (k + 1) X.A)
    (hb : ∀ (s : Shared) (u : Value) (ws : List Value), ws.length = ks.length → BindsTo s fd ⟨[u], ks.zip ws⟩ (ps.zip (u :: Xl.pick .none ix ws)))
    (hx : PassesAt (L2.CX X.prog X.w) X σ E) (I : Inv X pins σ H s) (rz : Vals zs ws) (l2 : zs.length = ks.length)
    (h : ∀ x dx, H x = none → H dx = none → dx ≠ x → sp (.ref x :: Xl.pick .non ix zs) (upd (upd H dx (.own x)) x (.ins C dx [])) (fun v H2 => v = .non ∧ Q (.ref x) H2) E) :
    wpAny (model X.prog X.w) X.A (call (.ref C) [] (ks.zip ws)) (EP X pins σ Q) X.xe s := by
  have hq := h (s.heap.objs.size + 1) s.heap.objs.size (I.hok.fresh (Nat.le_succ _)) (I.hok.fresh (Nat.le_refl _)) (Nat.ne_of_lt (Nat.lt_succ_self _))
  have I2 := Inv.made (C := C) I
  have r2 : Vals (V.ref (s.heap.objs.size + 1) :: Xl.pick .non ix zs) (Value.ref (s.heap.objs.size + 1) :: Xl.pick .none ix ws) := .cons rfl (vals_pick rz ix)
  refine wpAny_call (make_map (f := f) I.kIn M.makes M.init (beq_iff_eq.mp M.fn) (codeAny_mono (F.run _ X.stack _ _ ⟨[Value.ref (s.heap.objs.size + 1)], ks.zip ws⟩ (Value.ref (s.heap.objs.size + 1) :: Xl.pick .none ix ws) _ _ E (hr.make C [] (ks.zip ws))
    (I2.env0.make C [] (ks.zip ws)) (hb _ (Value.ref (s.heap.objs.size + 1)) ws (rz.length.symm.trans l2)) r2 hq) fun r s' hq' => ?_))
  cases r with
  | error e => exact hx pins _ _ e s' I2 hq'
  | ok fl =>
    cases fl with
    | ret u =>
      obtain ⟨v, H', I3, rv, ev, q3⟩ := I2.after hq'
      subst ev
      exact ⟨rv, ⟨V.ref (s.heap.objs.size + 1), H', I3, rfl, q3⟩⟩
    | next => exact False.elim hq'
    | brk => exact False.elim hq'
    | cont => exact False.elim hq'
def cMkK (C : Addr) (n : Nat) (ix : List Nat) (c : CE) (t : CA) : CE := fun δ R RX => t δ (fun ds δ1 => ds.length = n ∧ ∀ a, c (.obj a C [] :: (Xl.pick .non ix ds).map .sh) (fun d αs => d = .non ∧ objAt αs a C fun fs => R (.ins C fs) δ1) fun Cx fs _ => RX Cx fs δ1) RX
theorem pd_mkK (F : MkKw X.prog X.w X.K X.mg X.base C k ks ix c) (hr : Room (k + 1) X.A) (hm : X.mg x = some (.ref C)) (tk : Takes X W) (hkw : PKD X W kws t) (hg : Gl X x := by rfl)
    (hall : (backToKw pos (keywordEach kws X.env)).all (·.1.isSome) = true := by rfl) (hks : (backToKw pos (keywordEach kws X.env)).filterMap (·.1) = ks := by rfl) (hdb : (x == ("__debug__" : Str)) = false := by decide)
    (hpl : ((backTo pos (starEach [] X.env)).any (·.1) || (backToKw pos (keywordEach kws X.env)).any (·.1.isNone)) = false := by rfl) :
    PD X W (.Call (.Name x p) [] kws pos) (cMkK C ks.length ix c t) := by
  obtain ⟨f, fd, ps, M0, G, hb⟩ := F.ex
  refine ⟨fun pins s σ H Q I ⟨B, M, δ, R, RX, er, ht, kk, xk⟩ => ?_⟩
  refine wpAny_Call_Name_kw (ld_glob I hg hm ?_ hdb)
  refine PySem.W.callWith_KW0 (h₀ := X.base) I.ok.mod.kin M0.kp hall ?_ hpl
  refine thn (hkw.run pos pins s σ H (fun zs H2 => zs.length = ks.length ∧ spMk C c (Xl.pick .non ix zs) H2 Q (WE W σ)) I ⟨B, M, δ, _, RX, er, ht, fun ds δ1 vs H1 M1 h1 i1 er1 f1 => ⟨by rw [i1.length]; exact h1.1, ?_⟩, xk⟩) fun ws s2 ⟨zs, H2, I2, rz, l1, q2⟩ => ⟨I2.kIn, ?_⟩
  · refine ⟨Ex B M1, Xl.pick .non ix ds, fun d => R d δ1, fun Cx fs => RX Cx fs δ1, fun b hb => er1.edom hb, i1.pick ix, h1.2, fun d v H' h2 i2 f2 => ?_, fun Cx fs o H' h2 i2 f2 => ?_⟩
    · obtain ⟨er2, f3⟩ := er1.called f2
      exact kk d δ1 v H' M1 h2 i2 er2 (f1.trans f3)
    · obtain ⟨er2, f3⟩ := er1.called f2
      exact (xk.fr f1) Cx fs δ1 o H' M1 h2 i2 er2 f3
  · rw [hks]
    refine run_makeKS M0 G hr hb (passAt tk σ) I2 rz l1 fun o dx ho hdx ne => ?_
    have ec : (fun (αs : DEnv) R RX => c (αs ++ ([] : List D).map .sh) R RX) = c := by
      funext αs R RX
      rw [List.map_nil, List.append_nil]
    rw [← ec] at q2
    have q := mk_conv (dvs := []) (dds := []) (fun _ _ => .nil) q2 o dx ho hdx ne
    rw [List.append_nil] at q
    exact q
/-! ### isinstance -/
/-- what isinstance reads of a class of our own -/
structure TyC (K : PySem.W.Frag) (C : Addr) : Prop where
  cl : Cls K C
  ha : PySem.W.findIn K (.ref C) "__class__" = some (some (.builtin "object.__class__"))
  hn : PySem.W.specialIn K (.builtin "object.__class__") "__get__" = some (some (.builtin "getset_descriptor.__get__"))
  htk : PySem.W.takesIn K (.builtin "object.__class__") = some true
  hm : PySem.W.mroIn K C (.type "object") = some true
def tyD (K : PySem.W.Frag) : D → (Value → Prop) → Prop
  | .non, k => k (.type "NoneType")
  | .bl _, k => k (.type "bool")
  | .int _, k => k (.type "int")
  | .str _, k => k (.type "str")
  | .tup _, k => k (.type "tuple")
  | .lst _, k => k (.type "list")
  | .dic _, k => k (.type "dict")
  | .ins C _, k => TyC K C ∧ k (.ref C)
  | _, _ => False
theorem tyD_is {K : PySem.W.Frag} {A : Fp} {H : Hp} {v : V} {d : D} (i : Is A H v d) {k : Value → Prop} (h : tyD K d k) : ∃ t, TyX K H v t ∧ k t := by
  cases i with
  | non => exact ⟨_, .base .non, h⟩
  | bl b => exact ⟨_, .base (.bl b), h⟩
  | int b => exact ⟨_, .base (.int b), h⟩
  | str b _ => exact ⟨_, .base (.str b), h⟩
  | tup e _ _ => exact ⟨_, .base (.tup e), h⟩
  | lst e _ _ => exact ⟨_, .base (.lst e), h⟩
  | dic e _ _ =>
    rcases e with e | ⟨ob, e⟩
    · exact ⟨_, .base (.dK e), h⟩
    · exact ⟨_, .fDict e, h⟩
  | ins e _ _ => exact ⟨_, .base (.ins e h.1.cl h.1.ha h.1.hn h.1.htk h.1.hm), h.2⟩
  | cls _ => exact h.elim
  | exn0 _ _ => exact h.elim
  | exn1 _ _ _ => exact h.elim
def cIsI (K : PySem.W.Frag) (cv : Value) (ta : CE) : CE := fun δ R RX => ta δ (fun d δ1 => tyD K d fun t => ∃ b, PySem.W.kitOne K t cv = some b ∧ R (.bl b) δ1) RX
theorem pd_isI {e2 e0 : Expr} {c2 : V} {cv : Value} (h : ∀ t', PA X [e, e2] t' → PE X e0 (tCB (rIsi X.K) t')) (he : PD X W e ta) (h2 : PE X e2 (tC c2)) (hc : ClsV c2 cv)
    (hs : starEach [e, e2] X.env = (false, eval e X.env) :: starEach [e2] X.env := by rfl) (hs2 : starEach [e2] X.env = (false, eval e2 X.env) :: starEach [] X.env := by rfl) :
    PD X W e0 (cIsI X.K cv ta) := PE.imp (h _ (pa_cons he (pa_cons h2 pa_nil hs2) hs)) fun σ H Q ⟨B, M, δ, R, RX, er, ht, k, x⟩ => by
  refine ⟨B, M, δ, _, RX, er, ht, fun d δ1 u H1 M1 h1 i1 er1 f1 => ?_, x⟩
  obtain ⟨t, ty, b, hb, h1⟩ := tyD_is i1 h1
  exact ⟨_, c2, t, cv, b, rfl, hc, ty, hb, k _ δ1 _ H1 M1 h1 (.bl _) er1 f1⟩
end
end Xl


namespace Xl
open PySem PySem.Spec PyProof.Rows L2
/-! ### own special methods: len, in, ==, !=, str, [] -/
section
variable {prog : Program} {w : World} {A : Around} {E : Value → Shared → Prop} {s : Shared} {K : PySem.W.Frag} {x C f : Addr} {ox : Obj} {od : Option Obj}
/-- x != b by the class's own __eq__ (object.__ne__ asks it) -/
theorem ne_K {b tb : Value} {Q : Value → Shared → Prop} (hu : A.units + 1 < cLine) (X : K.In s.heap) (I : PySem.W.InstAt s.heap x ox C od) (hb : PySem.W.Looks (model prog w) s.heap (typeOf b) tb) (hn : PySem.W.notFirst K C tb = true)
    (hne : PySem.W.findIn K (.ref C) "__ne__" = some (some (.builtin "object.__ne__"))) (heq : PySem.W.findIn K (.ref C) "__eq__" = some (some (.ref f))) (hf : PySem.W.isFn K (.ref f) = true) (hm : PySem.W.mroIn K C (.type "object") = some true)
    (h : wpAny (model prog w) A.in1 (call (.ref f) [.ref x, b]) (fun v s' => ∃ c, v = .bool c ∧ Q (.bool (!c)) s') E s) : wpAny (model prog w) A (richCompare .NotEq (.ref x) b) Q E s := by
  have one : wpAny (model prog w) A (tryCompare (.ref x) "__ne__" b) (fun r s' => ∃ v, r = some v ∧ Q v s') E s := by
    unfold tryCompare
    refine wpAny_bind ?_
    simp only [callSpecialIfBound?, bindSpecialIfBound?]
    refine wpAny_holding (wpAny_bind (wpAny_bind (wpAny_bind (I.type.here ((PySem.W.looks_findIn X hne).here ?_)))))
    refine wpAny_bind (wpAny_askSetting (wpAny_ite ?_))
    have fin : wpAny (model prog w) A (call (.builtin "object.__ne__") ([.ref x] ++ [b]) >>= fun v => pure (some v)) (fun o s' => wpAny (model prog w) A (match o with | some .notImplemented | none => pure none | some v => pure (some v)) (fun r s' => ∃ v, r = some v ∧ Q v s') E s') E s := by
      refine wpAny_bind (wpAny_call (codeAny_call_builtin F.cmp_object.ne.plain F.cmpEntry_ne (PySem.W.check_slot F.cmpKind_ne F.cmpSplit_ne (I.type.andThen (PySem.W.looks_mroIn X hm)) (F.cmpArgs_ne _ _) ?_)))
      show wpAny (model prog w) A.in1 (Builtin.«object.__ne__» ⟨[.ref x, b], []⟩) _ _ s
      unfold Builtin.«object.__ne__»
      have e1 : slotArgs "__ne__" 1 ⟨[.ref x, b], []⟩ = pure (.ref x, [b]) := rfl
      refine wpAny_bind (wpAny_of_eq e1 ?_)
      refine wpAny_bind (wpAny_cRoomFor hu ?_)
      refine wpAny_bind (PySem.W.ifBound_K X I heq hf (wpAny_mono h (fun r s' hr => ?_) fun _ _ e => e))
      obtain ⟨c, rfl, hq⟩ := hr
      refine wpAny_bind (wpAny_truthy_bool ?_)
      exact wpAny_pure (wpAny_pure (wpAny_pure ⟨_, rfl, hq⟩))
    split
    · exact wpAny_bind (wpAny_of_eq (F.cmp_object.ne.bind _) (wpAny_pure (by exact fin)))
    · exact wpAny_tryCatch (wpAny_bind (wpAny_of_eq (F.cmp_object.ne.bind _) (wpAny_pure (by exact fin))))
  unfold richCompare
  simp only [oneThing_ref]
  refine wpAny_holding (wpAny_bind (wpAny_cRoomFor (Nat.lt_of_succ_lt hu) ?_))
  refine wpAny_bind (I.type.here (wpAny_bind (hb.here ?_)))
  split
  · rename_i q
    have e : PySem.W.subIn K tb (.ref C) = some false := by
      rcases Bool.or_eq_true_iff.mp hn with e | e
      · rw [beq_iff_eq.mp e] at q; simp at q
      · exact beq_iff_eq.mp e
    refine wpAny_bind ((PySem.W.looks_subIn X e).here ?_)
    simp only [Bool.false_eq_true, if_false]
    refine wpAny_bind (wpAny_mono one (fun r s' z => ?_) fun _ _ e => e)
    obtain ⟨v, rfl, hq⟩ := z
    exact wpAny_pure hq
  · refine wpAny_bind (wpAny_pure ?_)
    simp only [Bool.false_eq_true, if_false]
    refine wpAny_bind (wpAny_mono one (fun r s' z => ?_) fun _ _ e => e)
    obtain ⟨v, rfl, hq⟩ := z
    exact wpAny_pure hq
end
section
variable {X : Cx} {W : WX} {k : Nat} {C : Addr} {m : Str} {pos : Pos} {a b e : Expr} {ta tb : CE} {t : CA} {c : CE} {sp : Sp} {E : XK}
/-- what a def gives back stands outside of what was there -/
abbrev Fw (A : Fp) (H H' : Hp) : Prop := Fz A (fun _ => False) H (fun _ => False) H'
theorem spD_of {A : Fp} {H : Hp} {vs : List V} {ds : List D} {R : D → Prop} {Q : VK} (dom : ∀ b, A b → ∃ o, H b = some o) (l : IsL A H vs ds) (hc : c (ds.map .sh) (fun d _ => R d) FX) (k : ∀ d v H', R d → Fw A H H' → Is A H' v d → Q v H') : spD c vs H Q E :=
  ⟨A, fun _ => False, _, _, _, er_args l dom, hc, fun d _ v _ H' _ h1 i1 _ f1 => k d v H' h1 ⟨f1.keep, fun _ z => z.elim, f1.free⟩ (i1.keep (Keep.less fun _ z => .inl z)), fun _ _ _ _ _ _ _ h => h.elim⟩
def liftRo (r : CR2) : R2 := fun x y H Q => ∃ A d1 d2 R, (∀ b, A b → ∃ o, H b = some o) ∧ Is A H x d1 ∧ Is A H y d2 ∧ r d1 d2 R ∧ ∀ d v H', R d → Fw A H H' → Is A H' v d → Q v H'
def liftUo (r : CR1) : V → Hp → VK → Prop := fun x H Q => ∃ A d1 R, (∀ b, A b → ∃ o, H b = some o) ∧ Is A H x d1 ∧ r d1 R ∧ ∀ d v H', R d → Fw A H H' → Is A H' v d → Q v H'
def liftCo (r : List D → (D → Prop) → Prop) : List V → Hp → VK → Prop := fun xs H Q => ∃ A ds R, (∀ b, A b → ∃ o, H b = some o) ∧ IsL A H xs ds ∧ r ds R ∧ ∀ d v H', R d → Fw A H H' → Is A H' v d → Q v H'
theorem lift_opo {r : CR2} {σ : L2.St} {H : Hp} {Q : VK} (h : liftE W (cOp r ta tb) σ H Q) : tOp (liftRo r) (liftE W ta) (liftE W tb) σ H Q := by
  obtain ⟨B, M, δ, R, RX, er, ht, k, x⟩ := h
  refine ⟨B, M, δ, _, RX, er, ht, fun d1 δ1 v1 H1 M1 h1 i1 er1 f1 => ?_, x⟩
  refine ⟨B, M1, δ1, _, RX, er1, h1, fun d2 δ2 v2 H2 M2 h2 i2 er2 f2 => ?_, x.fr f1⟩
  refine ⟨Ex B M2, d1, d2, _, fun b hb => er2.edom hb, i1.keep (Keep.fr f2), i2, h2, fun d v H3 hd s3 hv => ?_⟩
  obtain ⟨er3, f3⟩ := er2.called s3
  exact k d δ2 v H3 M2 hd hv er3 ((f1.trans f2).trans f3)
theorem lift_uno {r : CR1} {σ : L2.St} {H : Hp} {Q : VK} (h : liftE W (cUn r ta) σ H Q) : liftE W ta σ H fun x H1 => liftUo r x H1 Q := by
  obtain ⟨B, M, δ, R, RX, er, ht, k, x⟩ := h
  refine ⟨B, M, δ, _, RX, er, ht, fun d1 δ1 v1 H1 M1 h1 i1 er1 f1 => ⟨Ex B M1, d1, _, fun b hb => er1.edom hb, i1, h1, fun d v H3 hd s3 hv => ?_⟩, x⟩
  obtain ⟨er3, f3⟩ := er1.called s3
  exact k d δ1 v H3 M1 hd hv er3 (f1.trans f3)
theorem lift_cbo {r : List D → (D → Prop) → Prop} {σ : L2.St} {H : Hp} {Q : VK} (h : liftE W (cCB r t) σ H Q) : tCB (liftCo r) (liftA W t) σ H Q := by
  obtain ⟨B, M, δ, R, RX, er, ht, k, x⟩ := h
  refine ⟨B, M, δ, _, RX, er, ht, fun d1 δ1 v1 H1 M1 h1 i1 er1 f1 => ⟨Ex B M1, d1, _, fun b hb => er1.edom hb, i1, h1, fun d v H3 hd s3 hv => ?_⟩, x⟩
  obtain ⟨er3, f3⟩ := er1.called s3
  exact k d δ1 v H3 M1 hd hv er3 (f1.trans f3)
theorem pd_opo {op : Operator} {r : CR2} (ho : OpR X (binaryOp op) (liftRo r)) (ha : PD X W a ta) (hb : PD X W b tb) : PD X W (.BinOp a op b pos) (cOp r ta tb) := PE.imp (pe_op ho ha hb) fun _ _ _ h => lift_opo h
theorem pd_cmpo {op : CmpOp} {r : CR2} (ho : OpR X (compareOp op) (liftRo r)) (ha : PD X W a ta) (hb : PD X W b tb) (hm : behindInMarks op b = false) : PD X W (.Compare a [op] [b] pos) (cOp r ta tb) := PE.imp (pe_cmpR ho ha hb hm) fun _ _ _ h => lift_opo h
theorem ptd_cmpo {op : CmpOp} {r : CR2} (ho : OpR X (compareOp op) (liftRo r)) (ha : PD X W a ta) (hb : PD X W b tb) (hm : behindInMarks op b = false) : PTD X W (.Compare a [op] [b] pos) (cTst (cOp r ta tb)) := PT.imp (pt_cmpR ho ha hb hm) fun σ H Q h => lift_opo (lift_tst h)
theorem pd_uno {op : UnaryOp} {r : CR1} (ho : UnR X (unaryOp op) (liftUo r)) (ha : PD X W a ta) : PD X W (.UnaryOp op a pos) (cUn r ta) := PE.imp (pe_un ho ha) fun _ _ _ h => lift_uno h
/-! #### in -/
def rInO (C : Addr) (neg : Bool) (c : CE) : CR2 := fun d1 d2 R => match d2 with
  | .ins C' fs => C' = C ∧ c [.sh (.ins C' fs), .sh d1] (fun d _ => match d with | .bl b => R (.bl (neg ^^ b)) | _ => False) FX
  | _ => False
theorem rInO_c {neg : Bool} {C' : Addr} {fs : List (Str × D)} {d1 : D} {R : D → Prop} : rInO C neg c d1 (.ins C' fs) R = (C' = C ∧ c [.sh (.ins C' fs), .sh d1] (fun d _ => match d with | .bl b => R (.bl (neg ^^ b)) | _ => False) FX) := propext Iff.rfl
theorem run_inO {neg : Bool} {pins : List (Addr × Obj)} {s : Shared} {σ : L2.St} {H : Hp} {x : V} {a : Addr} {v : Value} {Q : VK} {f : Addr} {fd : FuncData} {ps : List Str} {A : Fp} {d1 : D} {R : D → Prop} {fs : List (Str × D)} (G : FnOk X.prog X.w X.K X.mg X.base (L2.CX X.prog X.w) k f fd ps (spD c)) (hb : Binds X.K fd ps []) (hr : Room k X.A) (I : Inv X pins σ H s) (rx : RelV x v)
    (dom : ∀ b, A b → ∃ o, H b = some o) (i1 : Is A H x d1) (i2 : Is A H (.ref a) (.ins C fs)) (h : c [.sh (.ins C fs), .sh d1] (fun d _ => match d with | .bl b => R (.bl (neg ^^ b)) | _ => False) FX) (kk : ∀ d v H', R d → Fw A H H' → Is A H' v d → Q v H') :
    wpAny (model X.prog X.w) X.A (call (.ref f) [.ref a, v]) (fun r s' => ∃ b, r = .bool b ∧ EP X pins σ Q (.bool (neg ^^ b)) s') X.xe s := by
  have q : spD c [.ref a, x] H (fun v' H' => ∃ b, v' = .bl b ∧ Q (.bl (neg ^^ b)) H') E0 := by
    refine spD_of dom (.cons i2 (.cons i1 .nil)) h fun d v' H' hd f1 hv => ?_
    split at hd
    · cases hv
      exact ⟨_, rfl, kk _ _ _ hd f1 (.bl _)⟩
    · exact hd.elim
  refine thn (run_fn (dvs := []) (vs := [.ref a, x]) G hr hb .nil passL I (.cons rfl (.cons rx .nil)) q) fun r s' ⟨v', H', I', rv, b, ev, q'⟩ => ?_
  subst ev
  cases (show r = Value.bool b from rv)
  exact ⟨b, rfl, .bl _, H', I', rfl, q'⟩
theorem od_inO (F : MeI X.prog X.w X.K X.mg X.base C "__contains__" k (spD c)) (hr : Room k X.A) : OpR X (compareOp .In) (liftRo (rInO C false c)) := by
  obtain ⟨f, fd, ps, cl, M, G, hb⟩ := F.ex
  rintro pins s σ H x y v u Q I rx ry ⟨A, d1, d2, R, dom, i1, i2, h, kk⟩
  unfold rInO at h
  split at h
  · next C' fs =>
    obtain ⟨rfl, h⟩ := h
    have i2' := i2
    cases i2 with
    | ins e n l =>
      cases ry
      obtain ⟨mA, J, _⟩ := ins_get I.hok e
      obtain ⟨od, J, _⟩ := J.look
      obtain ⟨m, hF⟩ := I.fr
      refine PySem.W.in_K hF I.ok.mod.kin J M.at_ M.fn (thn (run_inO G hb hr I rx dom i1 i2' h kk) fun r s' ⟨b, er, q⟩ => ?_)
      subst er
      exact wpAny_truthy_bool (by simpa using q)
  · exact h.elim
theorem od_ninO (F : MeI X.prog X.w X.K X.mg X.base C "__contains__" k (spD c)) (hr : Room k X.A) : OpR X (compareOp .NotIn) (liftRo (rInO C true c)) := by
  obtain ⟨f, fd, ps, cl, M, G, hb⟩ := F.ex
  rintro pins s σ H x y v u Q I rx ry ⟨A, d1, d2, R, dom, i1, i2, h, kk⟩
  unfold rInO at h
  split at h
  · next C' fs =>
    obtain ⟨rfl, h⟩ := h
    have i2' := i2
    cases i2 with
    | ins e n l =>
      cases ry
      obtain ⟨mA, J, _⟩ := ins_get I.hok e
      obtain ⟨od, J, _⟩ := J.look
      obtain ⟨m, hF⟩ := I.fr
      refine PySem.W.notIn_K hF I.ok.mod.kin J M.at_ M.fn (thn (run_inO G hb hr I rx dom i1 i2' h kk) fun r s' ⟨b, er, q⟩ => ?_)
      subst er
      exact wpAny_truthy_bool (by simpa using q)
  · exact h.elim
/-! #### ==, != -/
def eqOk (K : PySem.W.Frag) (C : Addr) : D → Prop
  | .ins C' _ => C' = C ∨ PySem.W.notFirst K C (.ref C') = true
  | .str _ => PySem.W.notFirst K C (.type "str") = true
  | .int _ => PySem.W.notFirst K C (.type "int") = true
  | .bl _ => PySem.W.notFirst K C (.type "bool") = true
  | .non => PySem.W.notFirst K C (.type "NoneType") = true
  | _ => False
def rEqO (K : PySem.W.Frag) (C : Addr) (neg : Bool) (c : CE) : CR2 := fun d1 d2 R => match d1 with
  | .ins C' fs => C' = C ∧ eqOk K C d2 ∧ c [.sh (.ins C' fs), .sh d2] (fun d _ => match d with | .bl b => R (.bl (neg ^^ b)) | _ => False) FX
  | _ => False
theorem rEqO_c {K : PySem.W.Frag} {neg : Bool} {C' : Addr} {fs : List (Str × D)} {d2 : D} {R : D → Prop} : rEqO K C neg c (.ins C' fs) d2 R = (C' = C ∧ eqOk K C d2 ∧ c [.sh (.ins C' fs), .sh d2] (fun d _ => match d with | .bl b => R (.bl (neg ^^ b)) | _ => False) FX) := propext Iff.rfl
theorem eqOk_same {K : PySem.W.Frag} {fs : List (Str × D)} : eqOk K C (.ins C fs) = True := propext ⟨fun _ => trivial, fun _ => .inl rfl⟩
theorem eqOk_look {pins : List (Addr × Obj)} {s : Shared} {σ : L2.St} {H : Hp} {A : Fp} {y : V} {u : Value} {d : D} (I : Inv X pins σ H s) (ry : RelV y u) (i : Is A H y d) (h : eqOk X.K C d) : ∃ t, PySem.W.Looks (model X.prog X.w) s.heap (typeOf u) t ∧ PySem.W.notFirst X.K C t = true := by
  cases i with
  | non => cases (show u = Value.none from ry); exact ⟨_, PySem.W.Looks.of_pure rfl, h⟩
  | bl b => cases (show u = Value.bool b from ry); exact ⟨_, PySem.W.Looks.of_pure rfl, h⟩
  | int b => obtain ⟨t, q⟩ := (show ∃ t, u = Value.int b t from ry); cases q; exact ⟨_, PySem.W.Looks.of_pure rfl, h⟩
  | str b _ => obtain ⟨t, q⟩ := (show ∃ t, u = Value.str b t from ry); cases q; exact ⟨_, PySem.W.Looks.of_pure rfl, h⟩
  | ins e n l =>
    cases ry
    obtain ⟨mA, J, _⟩ := ins_get I.hok e
    obtain ⟨od, J, _⟩ := J.look
    refine ⟨_, J.type, ?_⟩
    rcases h with rfl | h
    · simp [PySem.W.notFirst]
    · exact h
  | tup _ _ _ => exact h.elim
  | lst _ _ _ => exact h.elim
  | dic _ _ _ => exact h.elim
  | cls _ => exact h.elim
  | exn0 _ _ => exact h.elim
  | exn1 _ _ _ => exact h.elim
theorem od_eqO (F : MeI X.prog X.w X.K X.mg X.base C "__eq__" k (spD c)) (hr : Room k X.A) : OpR X (compareOp .Eq) (liftRo (rEqO X.K C false c)) := by
  obtain ⟨f, fd, ps, cl, M, G, hb⟩ := F.ex
  rintro pins s σ H x y v u Q I rx ry ⟨A, d1, d2, R, dom, i1, i2, h, kk⟩
  unfold rEqO at h
  split at h
  · next C' fs =>
    obtain ⟨rfl, ho, h⟩ := h
    obtain ⟨tb, lk, nf⟩ := eqOk_look I ry i2 ho
    have i1' := i1
    cases i1 with
    | ins e n l =>
      cases rx
      obtain ⟨mA, J, _⟩ := ins_get I.hok e
      obtain ⟨od, J, _⟩ := J.look
      obtain ⟨m, hF⟩ := I.fr
      refine PySem.W.cmp_K (op := .Eq) hr.units0 hF I.ok.mod.kin J lk nf M.at_ M.fn (thn (run_inO G hb hr I ry dom i2 i1' h kk) fun r s' ⟨b, er, q⟩ => ?_)
      subst er
      exact (show EP X pins σ Q (.bool b) s' by simpa using q)
  · exact h.elim
theorem od_neO (F : MeI X.prog X.w X.K X.mg X.base C "__eq__" k (spD c)) (hne : PySem.W.findIn X.K (.ref C) "__ne__" = some (some (.builtin "object.__ne__"))) (hm : PySem.W.mroIn X.K C (.type "object") = some true) (hr : Room (k + 1) X.A) : OpR X (compareOp .NotEq) (liftRo (rEqO X.K C true c)) := by
  obtain ⟨f, fd, ps, cl, M, G, hb⟩ := F.ex
  rintro pins s σ H x y v u Q I rx ry ⟨A, d1, d2, R, dom, i1, i2, h, kk⟩
  unfold rEqO at h
  split at h
  · next C' fs =>
    obtain ⟨rfl, ho, h⟩ := h
    obtain ⟨tb, lk, nf⟩ := eqOk_look I ry i2 ho
    have i1' := i1
    cases i1 with
    | @ins a _ _ _ _ e n l =>
      cases rx
      obtain ⟨mA, J, _⟩ := ins_get I.hok e
      obtain ⟨od, J, _⟩ := J.look
      have hu : X.A.units + 1 < cLine := by have := hr.units; omega
      have q : spD c [.ref a, y] H (fun v' H' => ∃ b, v' = .bl b ∧ Q (.bl (!b)) H') E0 := by
        refine spD_of dom (.cons i1' (.cons i2 .nil)) h fun d v' H' hd f1 hv => ?_
        split at hd
        · cases hv
          exact ⟨_, rfl, kk _ _ _ (by simpa using hd) f1 (.bl _)⟩
        · exact hd.elim
      refine ne_K hu I.kIn J lk nf hne M.at_ M.fn hm (thn (run_at (A' := X.A.in1) (vs := [.ref a, y]) G hr.in1 rfl hb passL I (.cons rfl (.cons ry .nil)) q) fun r s' ⟨v', H', I', rv, b, ev, q'⟩ => ?_)
      subst ev
      cases (show r = Value.bool b from rv)
      exact ⟨b, rfl, .bl _, H', I', rfl, q'⟩
  · exact h.elim
/-! #### len, str -/
def rLenO (C : Addr) (c : CE) : List D → (D → Prop) → Prop := fun ds R => match ds with
  | [.ins C' fs] => C' = C ∧ c [.sh (.ins C' fs)] (fun d _ => match d with | .int n => (0 ≤ n ∧ n < 2 ^ 63) ∧ R (.int n) | _ => False) FX
  | _ => False
theorem rLenO_c {C' : Addr} {fs : List (Str × D)} {R : D → Prop} : rLenO C c [.ins C' fs] R = (C' = C ∧ c [.sh (.ins C' fs)] (fun d _ => match d with | .int n => (0 ≤ n ∧ n < 2 ^ 63) ∧ R (.int n) | _ => False) FX) := propext Iff.rfl
theorem kd_lenO (F : MeI X.prog X.w X.K X.mg X.base C "__len__" k (spD c)) (hr : Room (k + 1) X.A) : CallR X (.builtin "len") (liftCo (rLenO C c)) := by
  obtain ⟨f, fd, ps, cl, M, G, hb⟩ := F.ex
  rintro pins s σ H xs us Q I r ⟨A, ds, R, dom, il, h, kk⟩
  unfold rLenO at h
  split at h
  · next C' fs =>
    obtain ⟨rfl, h⟩ := h
    cases il with
    | cons i1 t =>
      cases t
      have i1' := i1
      cases i1 with
      | @ins a _ _ _ _ e n l =>
        obtain ⟨u, rfl, ru⟩ := vals1 r
        cases ru
        obtain ⟨mA, J, _⟩ := ins_get I.hok e
        obtain ⟨od, J, _⟩ := J.look
        obtain ⟨m, hF⟩ := I.fr
        have q : spD c [.ref a] H (fun v' H' => ∃ n, v' = .int n ∧ (0 ≤ n ∧ n < 2 ^ 63) ∧ Q (.int n) H') E0 := by
          refine spD_of dom (.cons i1' .nil) h fun d v' H' hd f1 hv => ?_
          split at hd
          · cases hv
            exact ⟨_, rfl, hd.1, kk _ _ _ hd.2 f1 (.int _)⟩
          · exact hd.elim
        refine PySem.W.len_K hF I.ok.mod.kin J M.at_ M.fn (thn (run_at (A' := X.A.in1) (vs := [.ref a]) G hr.in1 rfl hb passL I (.cons rfl .nil) q) fun r s' ⟨v', H', I', rv, n, ev, hn, q'⟩ => ?_)
        subst ev
        obtain ⟨tk, rfl⟩ := (show ∃ tk, r = Value.int n tk from rv)
        exact ⟨hn, .int n, H', I'.tok _, ⟨_, rfl⟩, q'⟩
  · exact h.elim
def rStrO (C : Addr) (c : CE) : List D → (D → Prop) → Prop := fun ds R => match ds with
  | [.ins C' fs] => C' = C ∧ c [.sh (.ins C' fs)] (fun d _ => match d with | .str z => R (.str z) | _ => False) FX
  | _ => False
theorem rStrO_c {C' : Addr} {fs : List (Str × D)} {R : D → Prop} : rStrO C c [.ins C' fs] R = (C' = C ∧ c [.sh (.ins C' fs)] (fun d _ => match d with | .str z => R (.str z) | _ => False) FX) := propext Iff.rfl
theorem kd_strO (F : MeI X.prog X.w X.K X.mg X.base C "__str__" k (spD c)) (hr : Room (k + 2) X.A) : CallR X (.type "str") (liftCo (rStrO C c)) := by
  rintro pins s σ H xs us Q I r ⟨A, ds, R, dom, il, h, kk⟩
  unfold rStrO at h
  split at h
  · next C' fs =>
    obtain ⟨rfl, h⟩ := h
    cases il with
    | cons i1 t =>
      cases t
      have i1' := i1
      cases i1 with
      | @ins a _ _ _ _ e n l =>
        refine call_strO F hr (E := E0) passL pins s σ H _ us Q I r ⟨a, _, _, rfl, e, ?_⟩
        refine spD_of dom (.cons i1' .nil) h fun d v' H' hd f1 hv => ?_
        split at hd
        · have hv' := hv
          cases hv
          exact ⟨⟨_, rfl⟩, kk _ _ _ hd f1 hv'⟩
        · exact hd.elim
  · exact h.elim
/-! #### o[k] -/
theorem run_atS {A' : Around} {E : XK} {f : Addr} {fd : FuncData} {ps : List Str} {pins : List (Addr × Obj)} {σ : L2.St} {H : Hp} {s : Shared} {Q : VK} {us : List Value} {vs : List V} (F : FnOk X.prog X.w X.K X.mg X.base (L2.CX X.prog X.w) k f fd ps sp) (hr : Room k A') (hA : A'.frames = X.A.frames) (hb : Binds X.K fd ps []) (hx : PassesAt (L2.CX X.prog X.w) X σ E)
    (I : Inv X pins σ H s) (r : Vals vs us) (h : sp vs H Q E) : wpAny (model X.prog X.w) A' (call (.ref f) us) (EP X pins σ Q) X.xe s := by
  have hl : (us ++ []).length = ps.length := by rw [List.append_nil, ← r.length]; exact F.len _ _ _ _ h
  have e0 : Env0 X.prog X.w X.K X.mg X.base A' X.stack s H := by
    have e := I.env0
    exact ⟨by rw [hA]; exact e.frames, e.mod, e.bs, e.bsz, e.funs, e.frf, e.hok, e.bare⟩
  have hb2 := hb s us I.kIn hl
  rw [List.append_nil] at hb2
  refine wpAny_call (codeAny_mono (F.run A' X.stack s H ⟨us, []⟩ us vs Q E hr e0 hb2 r h) fun r s' hq => ?_)
  cases r with
  | error e => exact hx pins H s e s' I hq
  | ok fl =>
    cases fl with
    | ret u => exact I.after hq
    | next => exact False.elim hq
    | brk => exact False.elim hq
    | cont => exact False.elim hq
def cGetO (C : Addr) (c : CE) (ta tb : CE) : CE := fun δ R RX => ta δ (fun d1 δ1 => tb δ1 (fun d2 δ2 => match d1 with
  | .ins C' fs => C' = C ∧ c [.sh (.ins C' fs), .sh d2] (fun d _ => R d δ2) fun Cx fs _ => RX Cx fs δ2
  | _ => False) RX) RX
theorem pd_getO (F : MeI X.prog X.w X.K X.mg X.base C "__getitem__" k (spD c)) (hfn : ∃ f, PySem.W.findIn X.K (.ref C) "__getitem__" = some (some (.ref f)) ∧ PySem.W.fnIn X.K f = true) (hr : Room (k + 1) X.A) (tk : Takes X W) (ha : PD X W a ta) (hb : PD X W b tb)
    (hsl : ∀ x i, subscripted b true (.ref x) i = runValue (.builtin "lifetime.subscript" ⟨[.ref x, i], []⟩) := by intro _ _; with_unfolding_all rfl) : PD X W (.Subscript a b pos) (cGetO C c ta tb) := by
  obtain ⟨f, fd, ps, cl, M0, G, hbn⟩ := F.ex
  obtain ⟨f', hf1, hf2⟩ := hfn
  have ef : f' = f := by
    have := hf1.symm.trans M0.at_
    exact Value.ref.inj (Option.some.inj (Option.some.inj this))
  subst ef
  refine ⟨fun pins s σ H Q I ⟨B, M, δ, R, RX, er, ht, kk, xk⟩ => ?_⟩
  refine Subscript_ (binT (R := fun x y H2 => ∃ p dx fs, x = .ref p ∧ H2 p = some (.ins C dx fs) ∧ spD c [x, y] H2 Q (WE W σ)) ha hb I ?_ fun v u s2 x y H2 I2 rx ry q => ?_)
  · refine ⟨B, M, δ, _, RX, er, ht, fun d1 δ1 v1 H1 M1 h1 i1 er1 f1 => ?_, xk⟩
    refine ⟨B, M1, δ1, _, RX, er1, h1, fun d2 δ2 v2 H2 M2 h2 i2 er2 f2 => ?_, xk.fr f1⟩
    split at h2
    · next C' fs =>
      obtain ⟨rfl, h2⟩ := h2
      have i1' := i1.keep (Keep.fr f2)
      have i1'' := i1'
      cases i1' with
      | ins e n l =>
        refine ⟨_, _, _, rfl, e, ?_⟩
        exact lift_sp (ds := [_, _]) er2 (.cons i1'' (.cons i2 .nil)) h2 (fun d δ' v H' M' r1 r2 r3 r4 => kk d δ' v H' M' r1 r2 r3 (f1.trans (f2.trans r4))) (xk.fr (f1.trans f2))
    · exact h2.elim
  · obtain ⟨p, dx, fs, rfl, ep, q⟩ := q
    cases rx
    obtain ⟨mA, J, _⟩ := ins_get I2.hok ep
    obtain ⟨od, J, _⟩ := J.look
    obtain ⟨m, hF⟩ := I2.fr
    exact PySem.W.sub_K hF I2.ok.mod.kin J M0.at_ hf2 M0.fn (run_atS (A' := X.A.in1) (vs := [.ref p, y]) G hr.in1 rfl hbn (passAt tk σ) I2 (.cons rfl (.cons ry .nil)) q) (hsl _ _)
end
end Xl


namespace Xl
open PySem PySem.Spec PyProof.Rows L2
/-! ### == of tuples, lists and dicts, deep -/
inductive EqE : Nat → D → D → Bool → Prop
  | low {n : Nat} {d e : D} : lowD n d = true → lowD n e = true → EqE n d e (eqN n d e)
  | tup {n : Nat} {ds es : List D} {f : Nat → Bool} : (∀ j d e, ds[j]? = some d → es[j]? = some e → EqE n d e (f j)) → EqE (n + 1) (.tup ds) (.tup es) ((List.range (min ds.length es.length)).all f && ds.length == es.length)
  | dic {n : Nat} {ks ls : List (Key × D)} {f : Key → Bool} : (ks.map (·.1)).Nodup → (∀ k d e, (k, d) ∈ ks → valD ls k = some e → EqE n d e (f k)) → EqE (n + 1) (.dic ks) (.dic ls) (ks.length == ls.length && ks.all fun p => (valD ls p.1).isSome && f p.1)
theorem eqL_refl0 {f : D → D → Bool} : ∀ xs : List D, (∀ x ∈ xs, f x x = true) → eqL f xs xs = true
  | [], _ => rfl
  | x :: xs, h => by
    show (f x x && eqL f xs xs) = true
    rw [h x List.mem_cons_self, eqL_refl0 xs fun y hy => h y (List.mem_cons_of_mem _ hy)]
    rfl
theorem eqN_refl0 : ∀ (n : Nat) (d : D), lowD n d = true → eqN n d d = true
  | 0, _, h => by cases h
  | n + 1, d, h => by
    cases d with
    | non => rfl
    | bl b => show (b == b) = true; simp
    | int i => show (i == i) = true; simp
    | str s => show (s == s) = true; simp
    | tup ds => exact eqL_refl0 ds fun x hx => eqN_refl0 n x (List.all_eq_true.mp h x hx)
    | lst ds => exact eqL_refl0 ds fun x hx => eqN_refl0 n x (List.all_eq_true.mp h x hx)
    | dic _ => cases h
    | ins _ _ => cases h
    | cls _ => cases h
    | exn _ _ _ _ => cases h
theorem low_uniqL {A : Fp} {H : Hp} {n : Nat} (ih : ∀ v d e, lowD n d = true → lowD n e = true → Is A H v d → Is A H v e → d = e) : ∀ (vs : List V) (ds es : List D), ds.all (lowD n) = true → es.all (lowD n) = true → IsL A H vs ds → IsL A H vs es → ds = es
  | _, _, _, _, _, .nil, .nil => rfl
  | _, _, _, h1, h2, .cons a t, .cons b u => by
    rw [List.all_cons, Bool.and_eq_true] at h1 h2
    rw [ih _ _ _ h1.1 h2.1 a b, low_uniqL ih _ _ _ h1.2 h2.2 t u]
theorem low_uniqD {A : Fp} {H : Hp} : ∀ (n : Nat) (v : V) (d e : D), lowD n d = true → lowD n e = true → Is A H v d → Is A H v e → d = e
  | 0, _, _, _, h, _, _, _ => by cases h
  | n + 1, v, d, e, h1, h2, i1, i2 => by
    cases i1 with
    | non => cases i2; rfl
    | bl b => cases i2; rfl
    | int b => cases i2; rfl
    | str b _ => cases i2; rfl
    | tup e1 _ l1 =>
      cases i2 with
      | tup e2 _ l2 =>
        rw [e1] at e2
        cases e2
        rw [low_uniqL (low_uniqD n) _ _ _ h1 h2 l1 l2]
      | lst e2 _ _ => rw [e1] at e2; cases e2
      | dic _ _ _ => cases h2
      | ins _ _ _ => cases h2
      | cls _ => cases h2
      | exn0 _ _ => cases h2
      | exn1 _ _ _ => cases h2
    | lst e1 _ l1 =>
      cases i2 with
      | lst e2 _ l2 =>
        rw [e1] at e2
        cases e2
        rw [low_uniqL (low_uniqD n) _ _ _ h1 h2 l1 l2]
      | tup e2 _ _ => rw [e1] at e2; cases e2
      | dic _ _ _ => cases h2
      | ins _ _ _ => cases h2
      | cls _ => cases h2
      | exn0 _ _ => cases h2
      | exn1 _ _ _ => cases h2
    | dic _ _ _ => cases h1
    | ins _ _ _ => cases h1
    | cls _ => cases h1
    | exn0 _ _ => cases h1
    | exn1 _ _ _ => cases h1
theorem IsL.get2 {A : Fp} {H : Hp} {vs : List V} {ds : List D} {i : Nat} {v : V} (l : IsL A H vs ds) (e : vs[i]? = some v) : ∃ d, ds[i]? = some d ∧ Is A H v d := by
  have hi : i < ds.length := by rw [← l.length]; exact (List.getElem?_eq_some_iff.mp e).1
  obtain ⟨w, ew, hw⟩ := l.get (List.getElem?_eq_getElem hi)
  rw [e] at ew
  cases ew
  exact ⟨_, List.getElem?_eq_getElem hi, hw⟩
theorem Rd.uniq {H : Hp} {a : Addr} {ks ls : List (Key × V)} (h : Rd H a (.dK ks)) (k : Rd H a (.dK ls)) : ks = ls := by
  rcases h with h | ⟨o, h⟩ <;> rcases k with k | ⟨o', k⟩ <;> rw [h] at k <;> cases k <;> rfl
theorem IsK.both {A : Fp} {H : Hp} : ∀ {vs : List (Key × V)} {ks ls : List (Key × D)}, IsK A H vs ks → IsK A H vs ls → ks.length = ls.length ∧ ∀ k d, (k, d) ∈ ks → (ks.map (·.1)).Nodup → ∃ e v, valD ls k = some e ∧ Is A H v d ∧ Is A H v e
  | _, _, _, .nil, .nil => ⟨rfl, fun _ _ h => by cases h⟩
  | _, _, _, .cons (k := k0) _ a t, .cons _ b u => by
    obtain ⟨h1, h2⟩ := IsK.both t u
    refine ⟨by rw [List.length_cons, List.length_cons, h1], fun k d m nd => ?_⟩
    rw [List.map_cons, List.nodup_cons] at nd
    rcases List.mem_cons.mp m with e | m
    · cases e
      exact ⟨_, _, by unfold valD; rw [List.find?_cons_of_pos (by simp)]; rfl, a, b⟩
    · obtain ⟨e, v, h3, h4, h5⟩ := h2 k d m nd.2
      refine ⟨e, v, ?_, h4, h5⟩
      have ne : ¬ k0 = k := fun q => nd.1 (q ▸ List.mem_map.mpr ⟨(k, d), m, rfl⟩)
      unfold valD at h3 ⊢
      rw [List.find?_cons_of_neg (by simpa using ne)]
      exact h3
theorem eqE_same {A : Fp} {H : Hp} {n : Nat} {d e : D} {b : Bool} (h : EqE n d e b) : ∀ v, Is A H v d → Is A H v e → b = true := by
  induction h with
  | low h1 h2 =>
    intro v i1 i2
    rw [low_uniqD _ _ _ _ h1 h2 i1 i2]
    exact eqN_refl0 _ _ h2
  | @tup n ds es f _ ih =>
    intro v i1 i2
    cases i1 with
    | tup e1 _ l1 =>
      cases i2 with
      | tup e2 _ l2 =>
        rw [e1] at e2
        cases e2
        have hl : ds.length = es.length := by rw [← l1.length, ← l2.length]
        rw [hl, Nat.min_self, Bool.and_eq_true]
        refine ⟨List.all_eq_true.mpr fun j hj => ?_, by simp⟩
        have hj := List.mem_range.mp hj
        obtain ⟨w, ew, iw⟩ := l2.get (List.getElem?_eq_getElem hj)
        obtain ⟨d, ed, id⟩ := l1.get2 ew
        exact ih j d _ ed (List.getElem?_eq_getElem hj) w id iw
  | @dic n ks ls f nd _ ih =>
    intro v i1 i2
    cases i1 with
    | dic e1 _ l1 =>
      cases i2 with
      | dic e2 _ l2 =>
        have eq := Rd.uniq e1 e2
        subst eq
        obtain ⟨h1, h2⟩ := IsK.both l1 l2
        rw [h1, Bool.and_eq_true]
        refine ⟨by simp, List.all_eq_true.mpr fun p hp => ?_⟩
        obtain ⟨k, d⟩ := p
        obtain ⟨e, w, h3, h4, h5⟩ := h2 k d hp nd
        rw [h3, ih k d e hp h3 w h4 h5]
        rfl
section
variable {X : Cx} {pins : List (Addr × Obj)} {σ : L2.St} {H : Hp} {s : Shared} {A : Fp}
theorem kv_mem : ∀ {ks : List (Key × V)} {va : List (Key × Value)} {ds : List (Key × D)} {k : Key} {v : Value}, L2.KV ks va → IsK A H ks ds → (k, v) ∈ va → ∃ x d, (k, d) ∈ ds ∧ RelV x v ∧ Is A H x d
  | _, _, _, _, _, .nil, .nil, h => by cases h
  | _, _, _, k, v, .cons (b := q) hq t, .cons _ i u, h => by
    obtain ⟨q1, q2⟩ := q
    rcases List.mem_cons.mp h with e | h
    · cases e
      have e1 := hq.1
      simp only at e1
      subst e1
      exact ⟨_, _, List.mem_cons_self, hq.2, i⟩
    · obtain ⟨x, d, m, r, j⟩ := kv_mem t u h
      exact ⟨x, d, List.mem_cons_of_mem _ m, r, j⟩
theorem kv_val {ls : List (Key × V)} {vb : List (Key × Value)} {es : List (Key × D)} (r : L2.KV ls vb) (i : IsK A H ls es) (k : Key) : (valueAt vb k).isSome = (valD es k).isSome ∧ ∀ y, valueAt vb k = some y → ∃ u e, valD es k = some e ∧ RelV u y ∧ Is A H u e := by
  have rr := r.val k
  rcases i.val (k := k) with ⟨u, e, h1, h2, h3⟩ | ⟨h1, h2⟩
  · rw [h1] at rr
    obtain ⟨y, hy, ry⟩ := rr.some_of
    rw [hy, h2]
    exact ⟨rfl, fun y' ey => by cases ey; exact ⟨u, e, rfl, ry, h3⟩⟩
  · rw [h1] at rr
    cases q : valueAt vb k with
    | none => rw [h2]; exact ⟨rfl, fun _ z => by cases z⟩
    | some y => rw [q] at rr; exact rr.elim
theorem kv_len {ks : List (Key × V)} {va : List (Key × Value)} (h : L2.KV ks va) : ks.length = va.length := Paired.length h
theorem kv_all {ks : List (Key × V)} {va : List (Key × Value)} {ds : List (Key × D)} (p : Key → Bool) (h : L2.KV ks va) (i : IsK A H ks ds) : (va.all fun q => p q.1) = ds.all fun q => p q.1 := by
  induction h generalizing ds with
  | nil => cases i; rfl
  | @cons a b as bs hab t ih =>
    cases i with
    | cons hk i u =>
      rw [List.all_cons, List.all_cons, ih u]
      have e1 := hab.1
      simp only at e1
      rw [← e1]
theorem eqE_tree (I : Inv X pins σ H s) {n : Nat} {d e : D} {b : Bool} (h : EqE n d e b) : ∀ (x y : V) (v u : Value), Is A H x d → Is A H y e → RelV x v → RelV y u → PySem.W.EqTree X.prog X.w s n v u b := by
  induction h with
  | @low n d e h1 h2 =>
    intro x y v u i1 i2 rx ry
    obtain ⟨as, r1⟩ := Dp.reads I _ x v (dp_N (K := X.K) n x d h1 i1) rx
    obtain ⟨bs, r2⟩ := Dp.reads I _ y u (dp_N (K := X.K) n y e h2 i2) ry
    have l1 := lay_N n A H x d h1 i1
    have l2 := lay_N n A H y e h2 i2
    refine .leaf fun A hu => ?_
    rw [← eqv_N n d e h1 h2]
    exact SeqAt.eqAt_reads _ _ A s v u as bs r1 r2 l1.1 l2.1 (by have := l1.2; omega)
  | @tup n ds es f hh ih =>
    intro x y v u i1 i2 rx ry
    have sm := eqE_same (A := A) (H := H) (EqE.tup hh)
    have i1' := i1
    have i2' := i2
    cases i1 with
    | @tup a vs _ e1 _ l1 =>
      cases i2 with
      | @tup a' vs' _ e2 _ l2 =>
        cases rx
        cases ry
        by_cases ea : a = a'
        · subst ea
          rw [sm _ i1' i2']
          exact .same
        · obtain ⟨its, r1, p1, _⟩ := I.tuple (SqT.of e1)
          obtain ⟨its', r2, p2, _⟩ := I.tuple (SqT.of e2)
          have z1 : its.toArray.size = ds.length := by rw [List.size_toArray, ← r1.length, l1.length]
          have z2 : its'.toArray.size = es.length := by rw [List.size_toArray, ← r2.length, l2.length]
          rw [← z1, ← z2]
          refine .tuples (e := f) ea p1 p2 fun j h1 h2 => ?_
          have hj1 : j < vs.length := by rw [l1.length, ← z1]; exact h1
          have hj2 : j < vs'.length := by rw [l2.length, ← z2]; exact h2
          obtain ⟨dj, ed, id⟩ := l1.get2 (List.getElem?_eq_getElem hj1)
          obtain ⟨ej, ee, ie⟩ := l2.get2 (List.getElem?_eq_getElem hj2)
          obtain ⟨w1, ew1, rw1⟩ := r1.get (List.getElem?_eq_getElem hj1)
          obtain ⟨w2, ew2, rw2⟩ := r2.get (List.getElem?_eq_getElem hj2)
          have q1 : its.toArray[j] = w1 := by
            have := ew1
            rw [List.getElem?_eq_getElem (by simpa using h1)] at this
            simpa using this
          have q2 : its'.toArray[j] = w2 := by
            have := ew2
            rw [List.getElem?_eq_getElem (by simpa using h2)] at this
            simpa using this
          rw [q1, q2]
          exact ih j dj ej ed ee _ _ _ _ id ie rw1 rw2
  | @dic n ks ls f nd hh ih =>
    intro x y v u i1 i2 rx ry
    have sm := eqE_same (A := A) (H := H) (EqE.dic nd hh)
    have i1' := i1
    have i2' := i2
    cases i1 with
    | @dic a vs _ e1 _ l1 =>
      cases i2 with
      | @dic a' vs' _ e2 _ l2 =>
        cases rx
        cases ry
        by_cases ea : a = a'
        · subst ea
          rw [sm _ i1' i2']
          exact .same
        · obtain ⟨_, ya, va, ra, da⟩ := (show ObjOk X.prog X.w H s.heap a (.dK vs) from e1.ok I.hok)
          obtain ⟨_, yb, vb, rb, db⟩ := (show ObjOk X.prog X.w H s.heap a' (.dK vs') from e2.ok I.hok)
          have z1 : ks.length = va.length := by rw [← kv_len ra, l1.length]
          have z2 : ls.length = vb.length := by rw [← kv_len rb, l2.length]
          have q : (ks.all fun p => (valD ls p.1).isSome && f p.1) = va.all fun p => (valueAt vb p.1).isSome && f p.1 := by
            rw [kv_all (fun k => (valueAt vb k).isSome && f k) ra l1]
            congr 1
            funext p
            rw [(kv_val rb l2 p.1).1]
          rw [z1, z2, q]
          refine .dicts (knd := mixKind X.prog X.w) (e := f) ea ya yb da db fun k v y hm hv => ?_
          obtain ⟨x, d, m, rx, ix⟩ := kv_mem ra l1 hm
          obtain ⟨u, e, h1, h2, h3⟩ := (kv_val rb l2 k).2 y hv
          exact ih k d e m h1 _ _ _ _ ix h3 rx h2
end
def rEqE (neg : Bool) : CR2 := fun a b R => match a, b with
  | .tup ds, .tup es => ∃ (f : Nat → Bool), (∀ j d e, ds[j]? = some d → es[j]? = some e → EqE 62 d e (f j)) ∧ R (.bl (neg ^^ ((List.range (min ds.length es.length)).all f && ds.length == es.length)))
  | .dic ks, .dic ls => ∃ (f : Key → Bool), (ks.map (·.1)).Nodup ∧ (∀ k d e, (k, d) ∈ ks → valD ls k = some e → EqE 62 d e (f k)) ∧ R (.bl (neg ^^ (ks.length == ls.length && ks.all fun p => (valD ls p.1).isSome && f p.1)))
  | _, _ => False
section
variable {X : Cx}
theorem od_eqE (hu : X.A.units + 64 < cLine) : OpR X (compareOp .Eq) (liftR (rEqE false)) := by
  rintro pins s σ H x y v u Q I rx ry ⟨A, d1, d2, R, dom, i1, i2, h, k⟩
  have hu' : X.A.units + (62 + 1) < cLine := by omega
  unfold rEqE at h
  split at h
  · next ds es =>
    obtain ⟨f, hf, hR⟩ := h
    cases i1 with
    | @tup a vs _ e1 _ l1 =>
      cases i2 with
      | @tup a' vs' _ e2 _ l2 =>
        cases rx
        cases ry
        obtain ⟨its, r1, p1, _⟩ := I.tuple (SqT.of e1)
        obtain ⟨its', r2, p2, _⟩ := I.tuple (SqT.of e2)
        have z1 : its.toArray.size = ds.length := by rw [List.size_toArray, ← r1.length, l1.length]
        have z2 : its'.toArray.size = es.length := by rw [List.size_toArray, ← r2.length, l2.length]
        refine PySem.W.eq_tuplesT (n := 62) (e := f) p1 p2 (fun j h1 h2 => ?_) hu' ?_
        · have hj1 : j < vs.length := by rw [l1.length, ← z1]; exact h1
          have hj2 : j < vs'.length := by rw [l2.length, ← z2]; exact h2
          obtain ⟨dj, ed, id⟩ := l1.get2 (List.getElem?_eq_getElem hj1)
          obtain ⟨ej, ee, ie⟩ := l2.get2 (List.getElem?_eq_getElem hj2)
          obtain ⟨w1, ew1, rw1⟩ := r1.get (List.getElem?_eq_getElem hj1)
          obtain ⟨w2, ew2, rw2⟩ := r2.get (List.getElem?_eq_getElem hj2)
          have q1 : its.toArray[j] = w1 := by
            have := ew1
            rw [List.getElem?_eq_getElem (by simpa using h1)] at this
            simpa using this
          have q2 : its'.toArray[j] = w2 := by
            have := ew2
            rw [List.getElem?_eq_getElem (by simpa using h2)] at this
            simpa using this
          rw [q1, q2]
          exact eqE_tree I (hf j dj ej ed ee) _ _ _ _ id ie rw1 rw2
        · rw [z1, z2]
          exact ⟨.bl _, H, I, rfl, k _ _ H (by simpa using hR) (Same.refl _) (.bl _)⟩
  · next ks ls =>
    obtain ⟨f, nd, hf, hR⟩ := h
    cases i1 with
    | @dic a vs _ e1 _ l1 =>
      cases i2 with
      | @dic a' vs' _ e2 _ l2 =>
        cases rx
        cases ry
        obtain ⟨_, ya, va, ra, da⟩ := (show ObjOk X.prog X.w H s.heap a (.dK vs) from e1.ok I.hok)
        obtain ⟨_, yb, vb, rb, db⟩ := (show ObjOk X.prog X.w H s.heap a' (.dK vs') from e2.ok I.hok)
        have z1 : ks.length = va.length := by rw [← kv_len ra, l1.length]
        have z2 : ls.length = vb.length := by rw [← kv_len rb, l2.length]
        have q : (ks.all fun p => (valD ls p.1).isSome && f p.1) = va.all fun p => (valueAt vb p.1).isSome && f p.1 := by
          rw [kv_all (fun k => (valueAt vb k).isSome && f k) ra l1]
          congr 1
          funext p
          rw [(kv_val rb l2 p.1).1]
        refine PySem.W.eq_dictsT (knd := mixKind X.prog X.w) (n := 62) (e := f) ya yb da db (fun k v y hm hv => ?_) hu' ?_
        · obtain ⟨x, d, m, rx, ix⟩ := kv_mem ra l1 hm
          obtain ⟨u, e, h1, h2, h3⟩ := (kv_val rb l2 k).2 y hv
          exact eqE_tree I (hf k d e m h1) _ _ _ _ ix h3 rx h2
        · rw [← z1, ← z2, ← q]
          exact ⟨.bl _, H, I, rfl, k _ _ H (by simpa using hR) (Same.refl _) (.bl _)⟩
  · exact h.elim
end
end Xl


namespace Xl
open PySem PySem.Spec PyProof.Rows L2
/-! ### f-strings -/
section
variable {X : Cx} {W : WX} {pos : Pos}
def cFmt (ta : CE) : CE := fun δ R RX => ta δ (fun d δ1 => match d with
  | .str y => y.length ≤ sizeLine ∧ R (.str y) δ1
  | .int i => i.natAbs.log2 < 1920 ∧ PyData.strOk (toString i : String) = true ∧ R (.str (toString i : String)) δ1
  | _ => False) RX
theorem pd_fmt {e : Expr} {ta : CE} (he : PD X W e ta) : PD X W (.FormattedValue e (-1) none pos) (cFmt ta) := PE.imp (pe_fmt he) fun σ H Q ⟨B, M, δ, R, RX, er, ht, k, x⟩ => by
  refine ⟨B, M, δ, _, RX, er, ht, fun d δ1 v H1 M1 h1 i1 er1 f1 => ?_, x⟩
  split at h1
  · have i1' := i1
    cases i1
    exact .inl ⟨_, rfl, h1.1, k _ δ1 _ H1 M1 h1.2 i1' er1 f1⟩
  · cases i1
    exact .inr ⟨_, rfl, h1.1, k _ δ1 _ H1 M1 h1.2.2 (.str _ h1.2.1) er1 f1⟩
  · exact h1.elim
inductive PJD (X : Cx) (W : WX) : List Expr → List CE → Prop where
  | nil : PJD X W [] []
  | cons {e : Expr} {t : CE} {es : List Expr} {ts : List CE} (h : PD X W e t) (r : PJD X W es ts) : PJD X W (e :: es) (t :: ts)
theorem PJD.pj {es : List Expr} {ts : List CE} (h : PJD X W es ts) : PJ X es (ts.map (liftE W)) := by
  induction h with
  | nil => exact .nil
  | cons h _ ih => exact .cons h ih
def cJs : List CE → Str → CE
  | [], acc => fun δ R _ => R (.str acc) δ
  | t :: ts, acc => fun δ R RX => t δ (fun d δ1 => match d with
    | .str y => acc.length + y.length ≤ sizeLine ∧ cJs ts (acc ++ y) δ1 R RX
    | _ => False) RX
theorem cJs_nil {acc : Str} {x0 : Sl} {δ : DEnv} {R : KV} {RX : KX} : cJs [] acc (x0 :: δ) R RX = R (.str acc) (x0 :: δ) := propext Iff.rfl
theorem cJs_cons {t : CE} {ts : List CE} {acc : Str} {x0 : Sl} {δ : DEnv} {R : KV} {RX : KX} : cJs (t :: ts) acc (x0 :: δ) R RX = t (x0 :: δ) (fun d δ1 => match d with
    | .str y => acc.length + y.length ≤ sizeLine ∧ cJs ts (acc ++ y) δ1 R RX
    | _ => False) RX := propext Iff.rfl
theorem lift_js : ∀ (ts : List CE) (acc : Str) (σ : L2.St) (H : Hp) (Q : VK), PyData.strOk acc = true → liftE W (cJs ts acc) σ H Q → tJs (ts.map (liftE W)) acc σ H fun out H1 => Q (.str out) H1
  | [], acc, σ, H, Q, ha, ⟨B, M, δ, R, RX, er, ht, k, x⟩ => k _ δ _ H M ht (.str _ ha) er (Fz.refl _ _)
  | t :: ts, acc, σ, H, Q, ha, ⟨B, M, δ, R, RX, er, ht, k, x⟩ => by
    refine ⟨B, M, δ, _, RX, er, ht, fun d δ1 v H1 M1 h1 i1 er1 f1 => ?_, x⟩
    split at h1
    · next y =>
      cases i1 with
      | str _ hy =>
        refine ⟨y, rfl, by show (acc.cps ++ y.cps).size ≤ _; rw [Array.size_append]; exact h1.1, lift_js ts (acc ++ y) σ H1 Q (strOk_app ha hy) ⟨B, M1, δ1, _, RX, er1, h1.2, fun d δ2 v H2 M2 h2 i2 er2 f2 => k d δ2 v H2 M2 h2 i2 er2 (f1.trans f2), x.fr f1⟩⟩
    · exact h1.elim
theorem pd_joined {v1 v2 : Expr} {rest : List Expr} {ts : List CE} (h : PJD X W (v1 :: v2 :: rest) ts) : PD X W (.JoinedStr (v1 :: v2 :: rest) pos) (cJs ts Str.empty) := PE.imp (pe_joined h.pj) fun σ H Q hh => lift_js ts Str.empty σ H Q (by decide +kernel) hh
/-! ### split, partition -/
def okCut (ys : List Str) : Prop := ∀ y ∈ ys, PyData.strOk y = true
theorem isL_strs {A : Fp} {H : Hp} : ∀ ys : List Str, okCut ys → IsL A H (ys.map V.str) (ys.map D.str)
  | [], _ => .nil
  | y :: ys, h => .cons (.str y (h y List.mem_cons_self)) (isL_strs ys fun z hz => h z (List.mem_cons_of_mem _ hz))
variable {a b : Expr} {ta tb : CE} {apos : Pos}
def cSplit (ta tb : CE) : CE := fun δ R RX => ta δ (fun d1 δ1 => match d1 with
  | .str x => tb δ1 (fun d2 δ2 => match d2 with
    | .str y => (y.length == 0) = false ∧ x.length + 2 ≤ sizeLine ∧ okCut (Txt.split x y) ∧ R (.lst ((Txt.split x y).map .str)) δ2
    | _ => False) RX
  | _ => False) RX
theorem pd_split (ha : PD X W a ta) (hb : PD X W b tb) (hs : starEach [b] X.env = [(false, eval b X.env)] := by rfl) (hbase : attributeBase a "split" X.env (eval a X.env) = eval a X.env := by rfl) (hline : (apos.endLine == pos.line) = true := by rfl) : PD X W (.Call (.Attribute a "split" apos) [b] [] pos) (cSplit ta tb) := PE.imp (pe_split ha hb hs hbase hline) fun σ H Q ⟨B, M, δ, R, RX, er, ht, k, x⟩ => by
  refine ⟨B, M, δ, _, RX, er, ht, fun d1 δ1 v1 H1 M1 h1 i1 er1 f1 => ?_, x⟩
  split at h1
  · next z =>
    cases i1
    refine ⟨⟨_, rfl⟩, B, M1, δ1, _, RX, er1, h1, fun d2 δ2 v2 H2 M2 h2 i2 er2 f2 => ?_, x.fr f1⟩
    split at h2
    · next y =>
      obtain ⟨h3, h4, h5, h6⟩ := h2
      cases i2
      refine ⟨z, y, rfl, rfl, h3, h4, fun p hp => ?_⟩
      exact k _ δ2 _ _ M2 h6 (.lst (new_of hp).at (er2.nex hp) (isL_strs _ h5)) (er2.same (new_of hp).same) ((f1.trans f2).trans (Fz.same (new_of hp).same))
    · exact h2.elim
  · exact h1.elim
def cPartition (ta tb : CE) : CE := fun δ R RX => ta δ (fun d1 δ1 => match d1 with
  | .str x => tb δ1 (fun d2 δ2 => match d2 with
    | .str y => (y.length == 0) = false ∧ x.length ≤ sizeLine ∧ okCut [(Txt.partition x y).1, (Txt.partition x y).2.1, (Txt.partition x y).2.2] ∧ R (.tup [.str (Txt.partition x y).1, .str (Txt.partition x y).2.1, .str (Txt.partition x y).2.2]) δ2
    | _ => False) RX
  | _ => False) RX
theorem pd_partition (ha : PD X W a ta) (hb : PD X W b tb) (hs : starEach [b] X.env = [(false, eval b X.env)] := by rfl) (hbase : attributeBase a "partition" X.env (eval a X.env) = eval a X.env := by rfl) (hline : (apos.endLine == pos.line) = true := by rfl) : PD X W (.Call (.Attribute a "partition" apos) [b] [] pos) (cPartition ta tb) := PE.imp (pe_partition ha hb hs hbase hline) fun σ H Q ⟨B, M, δ, R, RX, er, ht, k, x⟩ => by
  refine ⟨B, M, δ, _, RX, er, ht, fun d1 δ1 v1 H1 M1 h1 i1 er1 f1 => ?_, x⟩
  split at h1
  · next z =>
    cases i1
    refine ⟨⟨_, rfl⟩, B, M1, δ1, _, RX, er1, h1, fun d2 δ2 v2 H2 M2 h2 i2 er2 f2 => ?_, x.fr f1⟩
    split at h2
    · next y =>
      obtain ⟨h3, h4, h5, h6⟩ := h2
      cases i2
      refine ⟨z, y, rfl, rfl, h3, h4, fun p hp => ?_⟩
      exact k _ δ2 _ _ M2 h6 (.tup (new_of hp).at (er2.nex hp) (isL_strs _ h5)) (er2.same (new_of hp).same) ((f1.trans f2).trans (Fz.same (new_of hp).same))
    · exact h2.elim
  · exact h1.elim
end
end Xl


namespace Xl
open PySem PySem.Spec PyProof.Rows L2
/-! ### classmethods, cls(..), xs[::-1], `is` of truth values -/
section
variable {X : Cx} {W : WX} {k : Nat} {C : Addr} {ks : List Str} {m x : Str} {p apos pos : Pos} {e o a b : Expr} {es : List Expr} {t : CA} {ta tb : CE} {c : CE}
/-- C.m(..): the class itself is the first argument -/
def cCMeth (C : Addr) (c : CE) (t : CA) : CE := fun δ R RX => t δ (fun ds δ1 => c (.sh (.cls C) :: ds.map .sh) (fun d _ => R d δ1) fun Cx fs _ => RX Cx fs δ1) RX
theorem pd_cm {pl : Sem Bool} (F : CmI X.prog X.w X.K X.mg X.base C m k ks (spD c)) (hr : Room k X.A) (tk : Takes X W) (he : PE X o (tC (.ref C))) (ha : PAD X W (e :: es) t)
    (hst : starEach (e :: es) X.env = (false, eval e X.env) :: starEach es X.env := by rfl) (hpl : (backTo pos (starEach es X.env)).any (·.1) = false := by rfl)
    (ht : eval (.Call (.Attribute o m apos) (e :: es) [] pos) X.env = (do
      let ov ← eval o X.env
      standAt apos.atName
      let (f, first) ← holding [ov] (getMethod ov m pl)
      callWith pos f first (backTo pos (starEach (e :: es) X.env)) (backToKw pos (keywordEach [] X.env))) := by rfl) :
    PD X W (.Call (.Attribute o m apos) (e :: es) [] pos) (cCMeth C c t) := PE.imp (pe_cmS F hr tk he ha hst hpl ht) fun σ H Q ⟨B, M, δ, R, RX, er, ht, kk, xk⟩ => by
  refine ⟨rfl, B, M, δ, _, RX, er, ht, fun ds δ1 vs H1 M1 h1 i1 er1 f1 => ?_, xk⟩
  exact lift_sp (ds := .cls C :: ds) er1 (.cons (.cls C) i1) h1 (fun d δ' v H' M' r1 r2 r3 r4 => kk d δ' v H' M' r1 r2 r3 (f1.trans r4)) (xk.fr f1)
/-- C.m(k = v, ..), keywords in any order -/
structure CmKw (P : Program) (w : World) (K : PySem.W.Frag) (mg : Str → Option Value) (base : Heap) (C : Addr) (m : Str) (k : Nat) (ks : List Str) (ix : List Nat) (sp : Sp) : Prop where
  ex : ∃ mc p g fd ps, ClX.CRead K C mc ∧ ClX.CMet K C mc m p g ∧ FnOk P w K mg base (L2.CX P w) k g fd ps sp ∧ ∀ (s : Shared) (u : Value) (ws : List Value), K.In s.heap → ws.length = ks.length → BindsTo s fd ⟨[u], ks.zip ws⟩ (ps.zip (u :: Xl.pick .none ix ws))
def cCMethK (C : Addr) (n : Nat) (ix : List Nat) (c : CE) (t : CA) : CE := fun δ R RX => t δ (fun ds δ1 => ds.length = n ∧ c (.sh (.cls C) :: (Xl.pick .non ix ds).map .sh) (fun d _ => R d δ1) fun Cx fs _ => RX Cx fs δ1) RX
theorem pd_cmK {kws : List Keyword} {ix : List Nat} {pl : Sem Bool} (F : CmKw X.prog X.w X.K X.mg X.base C m k ks ix (spD c)) (hr : Room k X.A) (tk : Takes X W) (he : PE X o (tC (.ref C))) (hkw : PKD X W kws t)
    (hall : (backToKw pos (keywordEach kws X.env)).all (·.1.isSome) = true := by rfl) (hks : (backToKw pos (keywordEach kws X.env)).filterMap (·.1) = ks := by rfl)
    (hpl : ((backTo pos (starEach [] X.env)).any (·.1) || (backToKw pos (keywordEach kws X.env)).any (·.1.isNone)) = false := by rfl)
    (ht : eval (.Call (.Attribute o m apos) [] kws pos) X.env = (do
      let ov ← eval o X.env
      standAt apos.atName
      let (f, first) ← holding [ov] (getMethod ov m pl)
      callWith pos f first (backTo pos (starEach [] X.env)) (backToKw pos (keywordEach kws X.env))) := by rfl) :
    PD X W (.Call (.Attribute o m apos) [] kws pos) (cCMethK C ks.length ix c t) := by
  obtain ⟨mc, p, g, fd, ps, r, c', G, hb⟩ := F.ex
  refine ⟨fun pins s σ H Q I ⟨B, M, δ, R, RX, er, ht', kk, xk⟩ => ?_⟩
  refine PySem.W.methodCall_KW (pl := pl) (thn (he.run pins s σ H (fun x H1 => x = .ref C ∧ H1 = H) I ⟨rfl, rfl⟩) fun u s1 ⟨x, H1, I1, rx, ex, eh⟩ => ?_) ht
  subst ex eh
  obtain rfl : u = Value.ref C := rx
  refine ClX.getmethcm_ok I1 r c' fun s2 I2 => ?_
  refine PySem.W.callWith_of (P := PySem.W.MethP X.K s1.heap.objs.size g (.ref C)) hpl (PySem.W.keeps_M c'.fi) (evalArgs_kw2_nil hall ?_)
  refine thn (hkw.run pos _ s2 σ H1 (fun zs H2 => zs.length = ks.length ∧ spD c (.ref C :: Xl.pick .non ix zs) H2 Q (WE W σ)) I2 ⟨B, M, δ, _, RX, er, ht', fun ds δ1 vs H1 M1 h1 i1 er1 f1 => ⟨by rw [i1.length]; exact h1.1, lift_sp (ds := .cls C :: Xl.pick .non ix ds) er1 (.cons (.cls C) (i1.pick ix)) h1.2 (fun d δ' v H' M' r1 r2 r3 r4 => kk d δ' v H' M' r1 r2 r3 (f1.trans r4)) (xk.fr f1)⟩, xk⟩) fun ws s3 ⟨zs, H2, I3, rz, l1, q2⟩ => ⟨⟨ClX.pin_at I3, I3.kIn⟩, ?_⟩
  rw [hks]
  refine thn (wpAny_call (PySem.W.method_call (ClX.pin_at I3) ?_)) fun _ _ y => ClX.unpinE (p := (s1.heap.objs.size, PySem.W.methodObj (.ref g) (.ref C))) y
  exact end_fnS (vs := .ref C :: Xl.pick .non ix zs) (us := .ref C :: Xl.pick .none ix ws) G hr (passAt tk σ) I3 (hb s3 (.ref C) ws I3.kIn (by rw [← rz.length]; exact l1)) (.cons rfl (vals_pick rz ix)) q2
/-- cls(..): the class stands in a slot -/
def cMkL (C : Addr) (i : Nat) (c : CE) (t : CA) : CE := fun δ R RX => (match δ[i]? with | some (.sh (.cls C')) => C' = C | _ => False) ∧ cMk C c t δ R RX
theorem pd_mkL {i : Nat} (F : MkI X.prog X.w X.K X.mg X.base C k (spMk C c)) (hr : Room (k + 1) X.A) (hN : X.N[i]? = some x) (hv : Vis X.env.scope x) (tk : Takes X W) (ha : PAD X W (e :: es) t)
    (hdb : (x == ("__debug__" : Str)) = false := by decide) (hcd : (x == ("__classdict__" : Str)) = false := by decide) (he : starEach (e :: es) X.env = (false, eval e X.env) :: starEach es X.env := by rfl) (hpl : (backTo pos (starEach es X.env)).any (·.1) = false := by rfl) :
    PD X W (.Call (.Name x p) (e :: es) [] pos) (cMkL C i c t) := by
  obtain ⟨f, fd, ps, dvs, ds, sp0, M0, G, hd, hb, conv⟩ := F.ex
  refine ⟨fun pins s σ H Q I ⟨B, M, δ, R, RX, er, ⟨h0, ht⟩, kk, xk⟩ => ?_⟩
  have hs : σ[i]? = some (some (.ref C)) := by
    split at h0
    · next C' q =>
      subst h0
      obtain ⟨v, ev, hv⟩ := er.sh q
      cases hv
      exact ev
    · exact h0.elim
  have ht2 : tCallS (spMk C c) (WE W) (liftA W t) σ H Q := lift_mk ⟨B, M, δ, R, RX, er, ht, kk, xk⟩
  refine wpAny_Call_Name_kw (thn ((pe_var (pos := p) hN hv hdb hcd).run pins s σ H (fun v H1 => v = .ref C ∧ H1 = H) I ⟨.ref C, hs, rfl, rfl⟩) fun u s1 ⟨v, H1, I1, r1, q1⟩ => ?_)
  obtain ⟨rfl, rfl⟩ := q1
  cases r1
  refine PySem.W.callWith_K (h₀ := X.base) I.ok.mod.kin M0.kp (thn (ha.run pos pins s1 σ _ _ I1 ht2) fun us s2 ⟨vs, H2, I2, r, q⟩ => ⟨I2.kIn, ?_⟩) he hpl
  exact run_makeS M0 G hr hb hd (passAt tk σ) I2 r (conv vs H2 Q _ q)
/-! #### xs[::-1] -/
def cRevL (ta : CE) : CE := fun δ R RX => ta δ (fun d δ1 => match d with
  | .lst ds => R (.lst ds.reverse) δ1
  | _ => False) RX
theorem pd_revL {kk : Nat} {p1 p2 p3 : Pos} (he : PD X W e ta) : PD X W (.Subscript e (.Slice none none (some (.UnaryOp .USub (.Constant (.int 1) kk p1) p2)) p3) pos) (cRevL ta) := PE.imp (pe_revL he) fun σ H Q ⟨B, M, δ, R, RX, er, ht, k, x⟩ => by
  refine ⟨B, M, δ, _, RX, er, ht, fun d δ1 v H1 M1 h1 i1 er1 f1 => ?_, x⟩
  split at h1
  · cases i1 with
    | lst e n l => exact ⟨_, _, rfl, SqL.of e, fun p hp => k _ δ1 _ _ M1 h1 (.lst (new_of hp).at (er1.nex hp) (l.rev.keep (Keep.same (new_of hp).same))) (er1.same (new_of hp).same) (f1.trans (Fz.same (new_of hp).same))⟩
  · exact h1.elim
/-! #### is True -/
def rIsB (neg : Bool) : CR2 := fun d1 d2 R => match d1, d2 with
  | .bl x, .bl y => R (.bl (neg ^^ (x == y)))
  | _, _ => False
theorem od_isB : OpR X (compareOp .Is) (liftR (rIsB false)) := by
  rintro pins s σ H x y v u Q I rx ry ⟨A, d1, d2, R, dom, i1, i2, h, k⟩
  unfold rIsB at h
  split at h
  · next x y =>
    cases i1
    cases i2
    cases (show v = Value.bool x from rx)
    cases (show u = Value.bool y from ry)
    have q := k _ _ H h (Same.refl _) (.bl _)
    rw [Bool.false_xor] at q
    have e : (Value.bool x == Value.bool y) = (x == y) := by cases x <;> cases y <;> rfl
    rw [← e] at q
    exact wpAny_pure ⟨.bl _, H, I, rfl, q⟩
  · exact h.elim
theorem od_isnB : OpR X (compareOp .IsNot) (liftR (rIsB true)) := by
  rintro pins s σ H x y v u Q I rx ry ⟨A, d1, d2, R, dom, i1, i2, h, k⟩
  unfold rIsB at h
  split at h
  · next x y =>
    cases i1
    cases i2
    cases (show v = Value.bool x from rx)
    cases (show u = Value.bool y from ry)
    have q := k _ _ H h (Same.refl _) (.bl _)
    rw [Bool.true_xor] at q
    have e : (Value.bool x == Value.bool y) = (x == y) := by cases x <;> cases y <;> rfl
    rw [← e] at q
    exact wpAny_pure ⟨.bl _, H, I, rfl, q⟩
  · exact h.elim
end
end Xl


namespace Xl
open PySem PySem.Spec PyProof.Rows L2
/-! ### operators and calls by own methods -/
section
variable {X : Cx} {W : WX} {k : Nat} {C : Addr} {m : Str} {p pos apos : Pos} {a b e o : Expr} {es : List Expr} {ta tb : CE} {t : CA} {c : CE}
def rBinO (C : Addr) (c : CE) : CR2 := fun d1 d2 R => match d1 with
  | .ins C1 fs => match d2 with
    | .ins C2 gs => C1 = C ∧ C2 = C ∧ c [.sh (.ins C1 fs), .sh (.ins C2 gs)] (fun d _ => R d) FX
    | _ => False
  | _ => False
theorem rBinO_c {C1 C2 : Addr} {fs gs : List (Str × D)} {R : D → Prop} : rBinO C c (.ins C1 fs) (.ins C2 gs) R = (C1 = C ∧ C2 = C ∧ c [.sh (.ins C1 fs), .sh (.ins C2 gs)] (fun d _ => R d) FX) := propext Iff.rfl
theorem od_binO {op : Operator} (F : MeI X.prog X.w X.K X.mg X.base C (PySem.dunder op.info.2) k (spD c)) (sf : PySem.W.selfFirst X.K C = true) (hr : Room k X.A) : OpR X (binaryOp op) (liftRo (rBinO C c)) := by
  rintro pins s σ H x y v u Q I rx ry ⟨A, d1, d2, R, dom, i1, i2, h, kk⟩
  unfold rBinO at h
  split at h
  · next C1 fs =>
    split at h
    · next C2 gs =>
      obtain ⟨rfl, rfl, h⟩ := h
      have i1' := i1
      have i2' := i2
      cases i1 with
      | @ins a _ dx _ _ e n l =>
        cases i2 with
        | @ins b _ dy _ _ e' n' l' =>
          exact op_own F sf hr (E := E0) passL pins s σ H _ _ v u Q I rx ry ⟨a, b, dx, dy, _, _, rfl, rfl, e, e', spD_of dom (.cons i1' (.cons i2' .nil)) h fun d v' H' hd f1 hv => kk d v' H' hd f1 hv⟩
    · exact h.elim
  · exact h.elim
def rNegO (C : Addr) (c : CE) : CR1 := fun d1 R => match d1 with
  | .ins C1 fs => C1 = C ∧ c [.sh (.ins C1 fs)] (fun d _ => R d) FX
  | _ => False
theorem rNegO_c {C1 : Addr} {fs : List (Str × D)} {R : D → Prop} : rNegO C c (.ins C1 fs) R = (C1 = C ∧ c [.sh (.ins C1 fs)] (fun d _ => R d) FX) := propext Iff.rfl
theorem ud_negO (F : MeI X.prog X.w X.K X.mg X.base C "__neg__" k (spD c)) (hr : Room k X.A) : UnR X (unaryOp .USub) (liftUo (rNegO C c)) := by
  rintro pins s σ H x v Q I rx ⟨A, d1, R, dom, i1, h, kk⟩
  unfold rNegO at h
  split at h
  · next C1 fs =>
    obtain ⟨rfl, h⟩ := h
    have i1' := i1
    cases i1 with
    | @ins a _ dx _ _ e n l => exact un_own F hr (E := E0) passL pins s σ H _ v Q I rx ⟨a, dx, _, rfl, e, spD_of dom (.cons i1' .nil) h fun d v' H' hd f1 hv => kk d v' H' hd f1 hv⟩
  · exact h.elim
/-! #### o(..) by __call__ -/
def cCallO (C : Addr) (c : CE) (ta : CE) (t : CA) : CE := fun δ R RX => ta δ (fun d δ1 => match d with
  | .ins C' fs => C' = C ∧ t δ1 (fun ds δ2 => c (.sh (.ins C' fs) :: ds.map .sh) (fun d' _ => R d' δ2) fun Cx fs _ => RX Cx fs δ2) RX
  | _ => False) RX
theorem pd_callO (F : MeI X.prog X.w X.K X.mg X.base C "__call__" k (spD c)) (hc : ∃ g, StX.CallO X.K C g) (hr : Room k X.A) (tk : Takes X W) (hf : PD X W o ta) (ha : PAD X W (e :: es) t)
    (ht : eval (.Call o (e :: es) [] pos) X.env = (do callWith pos (← eval o X.env) [] (backTo pos (starEach (e :: es) X.env)) (backToKw pos (keywordEach [] X.env))) := by rfl)
    (he : starEach (e :: es) X.env = (false, eval e X.env) :: starEach es X.env := by rfl) (hpl : (backTo pos (starEach es X.env)).any (·.1) = false := by rfl) : PD X W (.Call o (e :: es) [] pos) (cCallO C c ta t) := by
  obtain ⟨f, fd, ps, cl, M0, G, hb⟩ := F.ex
  obtain ⟨g, hg⟩ := hc
  have ef : g = f := by
    have := hg.at_.symm.trans M0.at_
    exact Value.ref.inj (Option.some.inj (Option.some.inj this))
  subst ef
  refine ⟨fun pins s σ H Q I ⟨B, M, δ, R, RX, er, ht', kk, xk⟩ => ?_⟩
  refine Call_ (thn (hf.run pins s σ H (fun x H1 => ∃ a, x = .ref a ∧ liftA W t σ H1 fun vs H2 => StX.InsC X H2 a C ∧ spD c (.ref a :: vs) H2 Q (WE W σ)) I ⟨B, M, δ, _, RX, er, ht', fun d δ1 v H1 M1 h1 i1 er1 f1 => ?_, xk⟩) fun u s1 ⟨y, H1, I1, ry, a, ey, q⟩ => ?_) ht
  · split at h1
    · next C' fs =>
      obtain ⟨rfl, h1⟩ := h1
      have i1' := i1
      cases i1 with
      | ins e1 n l =>
        refine ⟨_, rfl, B, M1, δ1, _, RX, er1, h1, fun ds δ2 vs H2 M2 h2 i2 er2 f2 => ?_, xk.fr f1⟩
        have i3 := i1'.keep (Keep.fr f2)
        refine ⟨?_, lift_sp (ds := _ :: ds) er2 (.cons i3 i2) h2 (fun d δ' v H' M' r1 r2 r3 r4 => kk d δ' v H' M' r1 r2 r3 (f1.trans (f2.trans r4))) (xk.fr (f1.trans f2))⟩
        cases i3 with
        | ins e3 _ _ => exact .inr ⟨_, _, e3⟩
    · exact h1.elim
  · subst ey
    obtain rfl : u = Value.ref a := ry
    refine StX.callO_with (thn (ha.run pos pins s1 σ H1 _ I1 q) fun us s2 ⟨vs, H2, I2, r, hi, q2⟩ => ?_) he hpl
    obtain ⟨ox, od, J, hd⟩ := StX.insC_at I2 hi
    refine ⟨⟨C, ox, od, J, hd⟩, ?_⟩
    have hl : (Value.ref a :: us ++ []).length = ps.length := by
      have := G.len _ _ _ _ q2
      rw [List.append_nil, List.length_cons, ← r.length]
      simpa using this
    have hb2 := hb s2 (.ref a :: us) I2.kIn hl
    rw [List.append_nil] at hb2
    exact wpAny_call (PySem.W.kco_code I2.kIn J hd hg.at_ hg.fn hg.fi (end_fnS (vs := .ref a :: vs) (us := .ref a :: us) G hr (passAt tk σ) I2 hb2 (.cons rfl r) q2))
/-! #### // by any divisor -/
abbrev rFdx : CR2 := rIII (fun _ j => j ≠ 0 ∧ j.natAbs.log2 < 9000) Int.fdiv
theorem od_fdx : OpR X (binaryOp .FloorDiv) (liftR rFdx) := od_III (opI fun _ _ _ _ _ _ _ hc q => floordiv_int hc.1 q (.inl (PyProof.noPylong_of_log2 hc.2)))
end
section
variable {P : Program} {w : World} {K : PySem.W.Frag} {mg : Str → Option Value} {base : Heap}
/-- a def with defaults -/
theorem okDD {x qual : Str} {st : Stmt} {f : Addr} {fd : FuncData} {N ps : List Str} {k m : Nat} {t : CS} {dvs : List V} (F : FunD K x qual (defArgs st) (defBody st) (defScope st) dvs [] f fd) (S : FnScope N ps (defScope st)) (hm : N.length = ps.length + m)
    (hbody : ∀ (cdv : Value) (A : Around) (outer : List Env) (s : Shared) (H : Hp) (E : XK), Room k (A.deeper (envOfC qual (defScope st) s.heap.objs.size f cdv)) → Takes (cxOf (L2.CX P w) P w K mg base N qual (defScope st) f cdv A outer s H E) (fun cls d _ H => E cls d H) →
      PSsD (cxOf (L2.CX P w) P w K mg base N qual (defScope st) f cdv A outer s H E) (fun cls d _ H => E cls d H) (defBody st) t) : FnOk P w K mg base (L2.CX P w) (k + 1) f fd ps (spD (cBody ps.length m t)) := by
  refine FunD.ok F S (fun vs H Q E ⟨B, M, αs, R, RX, er, hc, _⟩ => ?_) fun cdv A outer s H vs Q E hr ⟨B, M, αs, R, RX, er, hc, k1, k2⟩ => ?_
  · have := er.len
    rw [List.length_map] at this
    rw [this]
    exact hc.1
  · refine ⟨_, hbody cdv A outer s H E hr (takes_of rfl rfl rfl rfl), ?_⟩
    have hl : vs.length = ps.length := by
      have := er.len
      rw [List.length_map] at this
      rw [this]
      exact hc.1
    have hs : L2.start N vs = vs.map some ++ List.replicate m none := by
      unfold L2.start
      rw [show N.length - vs.length = m by omega]
    rw [hs]
    refine ⟨B, M, _, _, er.pad m, hc.2, ⟨fun δ' σ' H' M' h1 er1 f1 => ?_, fun d δ' v σ' H' M' h1 i1 er1 f1 => ?_, fun _ _ _ _ h => h.elim, fun _ _ _ _ h => h.elim, fun C fs δ' σ' o H' M' h1 i1 er1 f1 => ?_⟩⟩
    · obtain ⟨M2, er2, f2⟩ := er1.take ps.length
      exact k1 .non _ .non _ H' M2 h1 .non er2 (f1.trans f2.fz)
    · obtain ⟨M2, er2, f2⟩ := er1.take ps.length
      exact k1 d _ v _ H' M2 h1 (i1.keep (Keep.fr f2.fz)) er2 (f1.trans f2.fz)
    · obtain ⟨M2, er2, f2⟩ := er1.take ps.length
      refine k2 C fs _ _ o H' M2 h1 (i1.less fun b z => z.imp id fun q => ?_) er2 (f1.trans f2.fz)
      rcases f2.grow b q with r | r
      · exact r
      · obtain ⟨u, e⟩ := er2.edom (.inr q)
        rw [r] at e
        cases e
end
end Xl


namespace Xl
open PySem PySem.Spec PyProof.Rows L2
/-! ### classmethods whose defaults are left out -/
section
variable {X : Cx} {W : WX} {k : Nat} {C : Addr} {ks : List Str} {m x : Str} {p apos pos : Pos} {e o a b : Expr} {es : List Expr} {t : CA} {ta tb : CE} {c : CE}
structure CmDf (P : Program) (w : World) (K : PySem.W.Frag) (mg : Str → Option Value) (base : Heap) (C : Addr) (m : Str) (k : Nat) (dd : List D) (sp : Sp) : Prop where
  ex : ∃ mc p g fd ps dvs ds, ClX.CRead K C mc ∧ ClX.CMet K C mc m p g ∧ FnOk P w K mg base (L2.CX P w) k g fd ps sp ∧ Vals dvs ds ∧ Binds K fd ps ds ∧ ∀ A H, IsL A H dvs dd
def cCMethD (C : Addr) (dd : List D) (c : CE) (t : CA) : CE := fun δ R RX => t δ (fun ds δ1 => c (.sh (.cls C) :: (ds ++ dd).map .sh) (fun d _ => R d δ1) fun Cx fs _ => RX Cx fs δ1) RX
theorem vals_app : ∀ {vs ws : List V} {us xs : List Value}, Vals vs us → Vals ws xs → Vals (vs ++ ws) (us ++ xs)
  | _, _, _, _, .nil, h => h
  | _, _, _, _, .cons a b, h => .cons a (vals_app b h)
theorem pd_cmD {pl : Sem Bool} {dd : List D} (F : CmDf X.prog X.w X.K X.mg X.base C m k dd (spD c)) (hr : Room k X.A) (tk : Takes X W) (he : PE X o (tC (.ref C))) (ha : PAD X W (e :: es) t)
    (hst : starEach (e :: es) X.env = (false, eval e X.env) :: starEach es X.env := by rfl) (hpl : (backTo pos (starEach es X.env)).any (·.1) = false := by rfl)
    (ht : eval (.Call (.Attribute o m apos) (e :: es) [] pos) X.env = (do
      let ov ← eval o X.env
      standAt apos.atName
      let (f, first) ← holding [ov] (getMethod ov m pl)
      callWith pos f first (backTo pos (starEach (e :: es) X.env)) (backToKw pos (keywordEach [] X.env))) := by rfl) :
    PD X W (.Call (.Attribute o m apos) (e :: es) [] pos) (cCMethD C dd c t) := by
  obtain ⟨mc, p, g, fd, ps, dvs, ds, r, c', G, hd, hb, hi⟩ := F.ex
  refine ⟨fun pins s σ H Q I ⟨B, M, δ, R, RX, er, ht', kk, xk⟩ => ?_⟩
  refine PySem.W.methodCall_KW (pl := pl) (thn (he.run pins s σ H (fun x H1 => x = .ref C ∧ H1 = H) I ⟨rfl, rfl⟩) fun u s1 ⟨x, H1, I1, rx, ex, eh⟩ => ?_) ht
  subst ex eh
  obtain rfl : u = Value.ref C := rx
  refine ClX.getmethcm_ok I1 r c' fun s2 I2 => ?_
  refine ClX.callwith_cm I2 (ClX.base_none I1 (Nat.le_refl _)) c'.fi (thn (ha.run pos _ s2 σ H1 (fun zs H2 => spD c (.ref C :: (zs ++ dvs)) H2 Q (WE W σ)) I2 ⟨B, M, δ, _, RX, er, ht', fun ds δ1 vs H1 M1 h1 i1 er1 f1 => lift_sp (ds := .cls C :: (ds ++ dd)) er1 (.cons (.cls C) (i1.app (hi _ _))) h1 (fun d δ' v H' M' r1 r2 r3 r4 => kk d δ' v H' M' r1 r2 r3 (f1.trans r4)) (xk.fr f1), xk⟩) fun us s3 ⟨vs, H2, I3, rv, q2⟩ => ⟨⟨ClX.pin_at I3, I3.kIn⟩, ?_⟩) hst hpl
  have rv2 := vals_app rv hd
  have hl : (Value.ref C :: us ++ ds).length = ps.length := by
    have := G.len _ _ _ _ q2
    rw [List.length_cons, rv2.length] at this
    rw [List.cons_append, List.length_cons]
    exact this
  have hb2 := hb s3 (.ref C :: us) I3.kIn hl
  exact thn (wpAny_call (PySem.W.method_call (ClX.pin_at I3) (end_fnS (vs := .ref C :: (vs ++ dvs)) (us := .ref C :: (us ++ ds)) G hr (passAt tk σ) I3 hb2 (.cons rfl rv2) q2))) fun _ _ y => ClX.unpinE (p := (s1.heap.objs.size, PySem.W.methodObj (.ref g) (.ref C))) y
/-! #### o(k = v, ..): an instance called by keywords -/
theorem callO_ofK {M : Model} {A : Around} {E : Value → Shared → Prop} {s : Shared} {a : Addr} {pos : Pos} {Q : Value → Shared → Prop} {args : List (Bool × Sem Value)} {kw : List (Option Str × Sem Value)} (hplain : (args.any (·.1) || kw.any (·.1.isNone)) = false)
    (h : wpAny M A (evalArgs (.ref a) true args kw) (fun z s₁ => (∃ C ox od, PySem.W.InstAt s₁.heap a ox C od ∧ ox.data = .plain) ∧ wpAny M A (call (.ref a) ([] ++ z.pos) z.kw) Q E s₁) E s) : wpAny M A (callWith pos (.ref a) [] args kw) Q E s := by
  unfold callWith
  refine wpAny_bind (wpAny_holding (wpAny_mono h (fun z s₁ h₁ => wpAny_bind (wpAny_standAt ?_)) fun _ _ y => y))
  obtain ⟨⟨C, ox, od, J, hd⟩, h₁⟩ := h₁
  have L := PySem.W.kco_keeper (M := M) J hd
  simp only [hplain]
  refine wpAny_bind (L.here ?_)
  have tail : ∀ {t : Sem Value}, wpAny M A t Q E s₁ → wpAny M A (t >>= fun r => holding [r] point >>= fun _ => pure r) Q E s₁ :=
    fun ht => wpAny_bind (wpAny_mono ht (fun r s₂ hr => wpAny_bind (wpAny_holding (wpAny_point (wpAny_pure hr)))) fun _ _ y => y)
  exact tail (wpAny_operateT h₁)
def cCallOK (C : Addr) (n : Nat) (ix : List Nat) (c : CE) (ta : CE) (t : CA) : CE := fun δ R RX => ta δ (fun d δ1 => match d with
  | .ins C' fs => C' = C ∧ t δ1 (fun ds δ2 => ds.length = n ∧ c (.sh (.ins C' fs) :: (Xl.pick .non ix ds).map .sh) (fun d' _ => R d' δ2) fun Cx fs _ => RX Cx fs δ2) RX
  | _ => False) RX
theorem pd_callOK {kws : List Keyword} {ix : List Nat} (F : MeKw X.prog X.w X.K X.mg X.base C "__call__" k ks ix (spD c)) (hc : ∃ g, StX.CallO X.K C g) (hr : Room k X.A) (tk : Takes X W) (hf : PD X W o ta) (hkw : PKD X W kws t)
    (ht : eval (.Call o [] kws pos) X.env = (do callWith pos (← eval o X.env) [] (backTo pos (starEach [] X.env)) (backToKw pos (keywordEach kws X.env))) := by rfl)
    (hall : (backToKw pos (keywordEach kws X.env)).all (·.1.isSome) = true := by rfl) (hks : (backToKw pos (keywordEach kws X.env)).filterMap (·.1) = ks := by rfl)
    (hpl : ((backTo pos (starEach [] X.env)).any (·.1) || (backToKw pos (keywordEach kws X.env)).any (·.1.isNone)) = false := by rfl) : PD X W (.Call o [] kws pos) (cCallOK C ks.length ix c ta t) := by
  obtain ⟨f, fd, ps, cl, M0, G, hb⟩ := F.ex
  obtain ⟨g, hg⟩ := hc
  have ef : g = f := by
    have := hg.at_.symm.trans M0.at_
    exact Value.ref.inj (Option.some.inj (Option.some.inj this))
  subst ef
  refine ⟨fun pins s σ H Q I ⟨B, M, δ, R, RX, er, ht', kk, xk⟩ => ?_⟩
  rw [ht]
  refine wpAny_bind (thn (hf.run pins s σ H (fun x H1 => ∃ a, x = .ref a ∧ liftA W t σ H1 fun vs H2 => vs.length = ks.length ∧ StX.InsC X H2 a C ∧ spD c (.ref a :: Xl.pick .non ix vs) H2 Q (WE W σ)) I ⟨B, M, δ, _, RX, er, ht', fun d δ1 v H1 M1 h1 i1 er1 f1 => ?_, xk⟩) fun u s1 ⟨y, H1, I1, ry, a, ey, q⟩ => ?_)
  · split at h1
    · next C' fs =>
      obtain ⟨rfl, h1⟩ := h1
      have i1' := i1
      cases i1 with
      | ins e1 n l =>
        refine ⟨_, rfl, B, M1, δ1, _, RX, er1, h1, fun ds δ2 vs H2 M2 h2 i2 er2 f2 => ?_, xk.fr f1⟩
        have i3 := i1'.keep (Keep.fr f2)
        refine ⟨by rw [i2.length]; exact h2.1, ?_, lift_sp (ds := _ :: Xl.pick .non ix ds) er2 (.cons i3 (i2.pick ix)) h2.2 (fun d δ' v H' M' r1 r2 r3 r4 => kk d δ' v H' M' r1 r2 r3 (f1.trans (f2.trans r4))) (xk.fr (f1.trans f2))⟩
        cases i3 with
        | ins e3 _ _ => exact .inr ⟨_, _, e3⟩
    · exact h1.elim
  · subst ey
    obtain rfl : u = Value.ref a := ry
    refine callO_ofK hpl (evalArgs_kw2_nil hall ?_)
    refine thn (hkw.run pos pins s1 σ H1 _ I1 q) fun ws s2 ⟨zs, H2, I2, rz, l1, hi, q2⟩ => ?_
    obtain ⟨ox, od, J, hd⟩ := StX.insC_at I2 hi
    refine ⟨⟨C, ox, od, J, hd⟩, ?_⟩
    rw [hks]
    exact wpAny_call (PySem.W.kco_code I2.kIn J hd hg.at_ hg.fn hg.fi (end_fnS (vs := .ref a :: Xl.pick .non ix zs) (us := .ref a :: Xl.pick .none ix ws) G hr (passAt tk σ) I2 (hb s2 (.ref a) ws (by rw [← rz.length]; exact l1)) (.cons rfl (vals_pick rz ix)) q2))
end
section
variable {K : PySem.W.Frag} {x qual : Str} {params : Arguments} {body : List Stmt} {scope : Scope} {dvs : List V} {kws : List (Str × V)} {f : Addr} {fd : FuncData} {ps : List Str}
/-- C.m(k = v, ..), every parameter given, of a def with defaults -/
theorem cmKw_of {ks : List Str} {ix : List Nat} (F : FunD K x qual params body scope dvs kws f fd) (hd : dvs ≠ [])
    (h : ∀ (T : Addr) (kV doc pm : Value) (an : Option Addr) (cdv ct u : Value) (its ws : List Value), its.length = dvs.length → ws.length = ks.length →
      ∃ k, bindArgs (PySem.W.fnOf x qual params body scope (.ref T) kV doc pm an cdv ct) ⟨[u], ks.zip ws⟩ = seqItems? (.ref T) >>= k ∧ k (some its.toArray) = pure (ps.zip (u :: Xl.pick .none ix ws))) (s : Shared) (u : Value) (ws : List Value) (X : K.In s.heap) (hl : ws.length = ks.length) : BindsTo s fd ⟨[u], ks.zip ws⟩ (ps.zip (u :: Xl.pick .none ix ws)) := by
  obtain ⟨oc, od, dV, kV, doc, pm, an, cdv, ct, osl, rfl, lk, hcd, hD, hK⟩ := F.ex
  rcases hD with ⟨e, _⟩ | ⟨_, T, o, its, m, rfl, lT, oT, rT⟩
  · exact absurd e hd
  · obtain ⟨k, e1, e2⟩ := h T kV doc pm an cdv ct u its ws rT.length.symm hl
    refine BindsTo.of_looks fun M => ?_
    rw [e1]
    exact looks_items X lT oT (.of_pure e2)
end
end Xl
namespace Xl
open PySem PySem.Spec PyProof.Rows L2
/-! ### a list times an int -/
theorem IsL.rep {A : Fp} {H : Hp} {vs : List V} {ds : List D} (h : IsL A H vs ds) : ∀ n : Nat, IsL A H (List.replicate n vs).flatten (List.replicate n ds).flatten
  | 0 => .nil
  | n + 1 => by
    rw [List.replicate_succ, List.replicate_succ, List.flatten_cons, List.flatten_cons]
    exact h.app (h.rep n)
def rRepL : CR2 := fun d1 d2 R => match d1, d2 with
  | .lst ds, .int k => (-(2 ^ 63) ≤ k ∧ k < 2 ^ 63) ∧ ds.length * k.toNat ≤ sizeLine ∧ R (.lst (List.replicate k.toNat ds).flatten)
  | _, _ => False
theorem rRepL_l {ds : List D} {k : Int} {R : D → Prop} : rRepL (.lst ds) (.int k) R = ((-(2 ^ 63) ≤ k ∧ k < 2 ^ 63) ∧ ds.length * k.toNat ≤ sizeLine ∧ R (.lst (List.replicate k.toNat ds).flatten)) := propext Iff.rfl
theorem od_repL {X : Cx} : OpR X (binaryOp .Mult) (liftR rRepL) := by
  rintro pins s σ H x y v u Q I rx ry ⟨A, d1, d2, R, dom, i1, i2, h, k⟩
  unfold rRepL at h
  split at h
  · obtain ⟨h1, h2, h3⟩ := h
    cases i1 with
    | lst e n l =>
      cases i2
      exact op_rep pins s σ H _ _ v u Q I rx ry ⟨_, _, _, rfl, rfl, e, h1.1, h1.2, by rw [l.length]; exact h2, fun p hp => k _ _ _ h3 (new_of hp).same (.lst (new_of hp).at (fun z => by obtain ⟨o, q⟩ := dom _ z; rw [hp] at q; cases q) ((l.rep _).keep (Keep.same (new_of hp).same)))⟩
  · exact h.elim
end Xl
namespace Xl
open PySem PySem.Spec PyProof.Rows L2
/-- isinstance(e, T), K named (within a comprehension the context is not known at once) -/
theorem pd_isIK {X : Cx} {W : WX} {K' : PySem.W.Frag} {p pos : Pos} {e e2 : Expr} {ta : CE} {c2 : V} {cv : Value} (hK : X.K = K') (hm : X.mg "isinstance" = none) (he : PD X W e ta) (h2 : PE X e2 (tC c2)) (hc : ClsV c2 cv) (hg : Gl X "isinstance" := by rfl)
    (hs : starEach [e, e2] X.env = (false, eval e X.env) :: starEach [e2] X.env := by rfl) (hs2 : starEach [e2] X.env = (false, eval e2 X.env) :: starEach [] X.env := by rfl) (hpl : (backTo pos (starEach [e2] X.env)).any (·.1) = false := by rfl) : PD X W (.Call (.Name "isinstance" p) [e, e2] [] pos) (cIsI K' cv ta) := by
  subst hK
  exact pd_isI (fun _ h => pe_callB call_isi hg hm (by decide +kernel) h (he := hs) (hpl := hpl)) he h2 hc hs hs2
end Xl


namespace Xl
open PySem PySem.Spec PyProof.Rows L2
/-! ### == of tuples and lists with instances in them, both answers -/
section
open PySem.SeqAt PySem.AutoSeq1 PySem.MeetsSeq PySem.MeetsSeq2 PySem.MeetsSeq3 PySem.SeqRoads2
variable {prog : Program} {w : World} {A : Around} {R : Result → Shared → Prop} {E : Value → Shared → Prop} {s : Shared} {l b : Addr} {xs ys : Array Value} {N : Nat} {e : Nat → Bool} {I : Shared → Prop}
theorem rng_end : ((List.range N).drop N).all e = true := by rw [List.drop_eq_nil_of_le (by simp)]; rfl
theorem rng_step {i : Nat} (h : i < N) : ((List.range N).drop i).all e = (e i && ((List.range N).drop (i + 1)).all e) := by
  rw [List.drop_eq_getElem_cons (by simpa using h)]
  simp
/-- the tuples' loop -/
theorem tupB {n1 n2 : Nat} {d1 d2 : Option Addr} {o1 o2 : Array (Option Value)} (turn : ∀ i (h1 : i < xs.size) (h2 : i < ys.size) s, I s → wpAny (model prog w) A.in1 (eqBool xs[i] ys[i]) (fun r t => r = e i ∧ I t) (fun x t => R (.error x) t) s)
    (fin : ∀ s, I s → R (.ok (.ret (.bool ((List.range (min xs.size ys.size)).all e && xs.size == ys.size)))) s) (gl : s.heap.get? l = some { cls := .type "tuple", dict := d1, data := .seq xs n1, slots := o1 }) (gb : s.heap.get? b = some { cls := .type "tuple", dict := d2, data := .seq ys n2, slots := o2 }) (h : I s) :
    wpAny (model prog w) A.in1 (Builtin.«tuple.__eq__» ⟨[.ref l, .ref b], []⟩) (GQ.FinOf prog w A R) (fun x t => R (.error x) t) s := by
  have hsub := AutoSeq1.sub_tuple_tuple
  have hN : (xs.toList.zip ys.toList).length = min xs.size ys.size := by simp
  have start : ((List.range (min xs.size ys.size)).drop 0).all e = (List.range (min xs.size ys.size)).all e := rfl
  have here := h
  obtain ⟨hp, g, d, tk, os⟩ := s
  wp_walk using wpAny_loadPart' gl, wpAny_loadPart' gb, wpAny_forIn_list _ (fun rest c t => c.1 = none ∧ I t ∧ ∃ i, rest = (xs.toList.zip ys.toList).drop i ∧ ((List.range (min xs.size ys.size)).drop i).all e = (List.range (min xs.size ys.size)).all e) _
  case turn =>
    rintro ⟨y, x⟩ rest c t ⟨hc, hI, i, hz, hv⟩
    have lt : i < (xs.toList.zip ys.toList).length := Nat.lt_of_not_le fun q => by rw [List.drop_of_length_le q] at hz; cases hz
    have lm : i < min xs.size ys.size := hN ▸ lt
    have l1 : i < xs.size := by omega
    have l2 : i < ys.size := by omega
    rw [List.drop_eq_getElem_cons lt] at hz
    obtain ⟨q1, q2⟩ := List.cons.inj hz
    obtain ⟨rfl, rfl⟩ : y = xs[i] ∧ x = ys[i] := by have := Prod.mk.inj q1; simpa using this
    rw [rng_step lm] at hv
    refine wpAny_bind (wpAny_mono (turn i l1 l2 t hI) (fun r u z => ?_) fun _ _ x => x)
    obtain ⟨hr, hu⟩ := z
    subst hr
    cases ev : e i with
    | true =>
      rw [ev] at hv
      wp_walk
      exact ⟨rfl, hu, i + 1, q2, by simpa using hv⟩
    | false =>
      rw [ev] at hv
      have hf := fin u hu
      rw [← hv] at hf
      wp_walk
      simpa using hf
  case fin =>
    rintro ⟨c1, c2⟩ t ⟨hc, hI, i, hz, hv⟩
    simp only at hc
    subst hc
    have ge : min xs.size ys.size ≤ i := Nat.le_of_not_lt fun q => by rw [List.drop_eq_getElem_cons (hN ▸ q)] at hz; cases hz
    have hf := fin t hI
    rw [← hv, List.drop_eq_nil_of_le (by simpa using ge)] at hf
    wp_walk
    simpa [Builtin.Tuple.tupleCompareSizes] using hf
  case h => exact ⟨rfl, here, 0, rfl, rfl⟩
/-- the tuples' loop of != -/
theorem tupN {n1 n2 : Nat} {d1 d2 : Option Addr} {o1 o2 : Array (Option Value)} (turn : ∀ i (h1 : i < xs.size) (h2 : i < ys.size) s, I s → wpAny (model prog w) A.in1 (eqBool xs[i] ys[i]) (fun r t => r = e i ∧ I t) (fun x t => R (.error x) t) s)
    (fin : ∀ s, I s → R (.ok (.ret (.bool (!((List.range (min xs.size ys.size)).all e && xs.size == ys.size))))) s) (gl : s.heap.get? l = some { cls := .type "tuple", dict := d1, data := .seq xs n1, slots := o1 }) (gb : s.heap.get? b = some { cls := .type "tuple", dict := d2, data := .seq ys n2, slots := o2 }) (h : I s) :
    wpAny (model prog w) A.in1 (Builtin.«tuple.__ne__» ⟨[.ref l, .ref b], []⟩) (GQ.FinOf prog w A R) (fun x t => R (.error x) t) s := by
  have hsub := AutoSeq1.sub_tuple_tuple
  have hN : (xs.toList.zip ys.toList).length = min xs.size ys.size := by simp
  have start : ((List.range (min xs.size ys.size)).drop 0).all e = (List.range (min xs.size ys.size)).all e := rfl
  have here := h
  obtain ⟨hp, g, d, tk, os⟩ := s
  wp_walk using wpAny_loadPart' gl, wpAny_loadPart' gb, wpAny_forIn_list _ (fun rest c t => c.1 = none ∧ I t ∧ ∃ i, rest = (xs.toList.zip ys.toList).drop i ∧ ((List.range (min xs.size ys.size)).drop i).all e = (List.range (min xs.size ys.size)).all e) _
  case turn =>
    rintro ⟨y, x⟩ rest c t ⟨hc, hI, i, hz, hv⟩
    have lt : i < (xs.toList.zip ys.toList).length := Nat.lt_of_not_le fun q => by rw [List.drop_of_length_le q] at hz; cases hz
    have lm : i < min xs.size ys.size := hN ▸ lt
    have l1 : i < xs.size := by omega
    have l2 : i < ys.size := by omega
    rw [List.drop_eq_getElem_cons lt] at hz
    obtain ⟨q1, q2⟩ := List.cons.inj hz
    obtain ⟨rfl, rfl⟩ : y = xs[i] ∧ x = ys[i] := by have := Prod.mk.inj q1; simpa using this
    rw [rng_step lm] at hv
    refine wpAny_bind (wpAny_mono (turn i l1 l2 t hI) (fun r u z => ?_) fun _ _ x => x)
    obtain ⟨hr, hu⟩ := z
    subst hr
    cases ev : e i with
    | true =>
      rw [ev] at hv
      wp_walk
      exact ⟨rfl, hu, i + 1, q2, by simpa using hv⟩
    | false =>
      rw [ev] at hv
      have hf := fin u hu
      rw [← hv] at hf
      wp_walk
      simpa using hf
  case fin =>
    rintro ⟨c1, c2⟩ t ⟨hc, hI, i, hz, hv⟩
    simp only at hc
    subst hc
    have ge : min xs.size ys.size ≤ i := Nat.le_of_not_lt fun q => by rw [List.drop_eq_getElem_cons (hN ▸ q)] at hz; cases hz
    have hf := fin t hI
    rw [← hv, List.drop_eq_nil_of_le (by simpa using ge)] at hf
    wp_walk
    show R (.ok (.ret (.bool (xs.size != ys.size)))) t
    simpa [bne] using hf
  case h => exact ⟨rfl, here, 0, rfl, rfl⟩
/-- what the lists' loop reads at each turn -/
def LstI (prog : Program) (w : World) (A : Around) (E : Value → Shared → Prop) (l b : Addr) (N M : Nat) (e : Nat → Bool) (I : Shared → Prop) : Prop := ∀ s, I s → ∃ (xs ys : Array Value) (n1 n2 : Nat), s.heap.get? l = some { cls := .type "list", data := .seq xs n1 } ∧ s.heap.get? b = some { cls := .type "list", data := .seq ys n2 } ∧ xs.size = N ∧ ys.size = M ∧
    ∀ i (h1 : i < xs.size) (h2 : i < ys.size), wpAny (model prog w) A.in1 (eqBool xs[i] ys[i]) (fun r t => r = e i ∧ I t) E s
/-- the lists' loop -/
theorem lstLoop (hI : LstI prog w A (fun x t => R (.error x) t) l b N N e I) (fin : ∀ s, I s → R (.ok (.ret (.bool ((List.range N).all e)))) s) (k : Nat) :
    ∀ i : Nat, N - i = k → i ≤ N → ((List.range N).drop i).all e = (List.range N).all e → ∀ s, I s →
      wpAny (model prog w) A.in1 (Builtin.«list.__eq__.loop» ⟨[.ref l, .ref b, rawInt i, rawInt 2], []⟩) (GQ.FinOf prog w A R) (fun x t => R (.error x) t) s := by
  induction k with
  | zero =>
    intro i hk hi hv s h
    obtain ⟨xs, ys, n1, n2, g1, g2, z1, z2, _⟩ := hI _ h
    have hf := fin s h
    rw [← hv, List.drop_eq_nil_of_le (by simp; omega)] at hf
    obtain ⟨hp, g, d, tk, os⟩ := s
    wp_walk using wpAny_loadPart' g1, wpAny_loadPart' g2
    have no1 : xs[((i : Nat) : Int).toNat]? = none := by simp; omega
    have no2 : ys[((i : Nat) : Int).toNat]? = none := by simp; omega
    rw [no1, no2]
    wp_walk using wpAny_loadPart' g1, wpAny_loadPart' g2
    show R (.ok (.ret (.bool (xs.size == ys.size)))) _
    rw [z1, z2]
    simpa using hf
  | succ k ih =>
    intro i hk hi hv s h
    obtain ⟨xs, ys, n1, n2, g1, g2, z1, z2, turn⟩ := hI _ h
    have l0 : i < N := by omega
    have l1 : i < xs.size := by omega
    have l2 : i < ys.size := by omega
    have go := turn i l1 l2
    rw [rng_step l0] at hv
    obtain ⟨hp, g, d, tk, os⟩ := s
    wp_walk using wpAny_loadPart' g1, wpAny_loadPart' g2
    have yes1 : xs[((i : Nat) : Int).toNat]? = some xs[i] := by simp [l1]
    have yes2 : ys[((i : Nat) : Int).toNat]? = some ys[i] := by simp [l2]
    have up : ((i : Int) + 1) = ((i + 1 : Nat) : Int) := by omega
    rw [yes1, yes2]
    refine wpAny_bind (wpAny_mono go (fun r u z => ?_) fun _ _ x => x)
    obtain ⟨hr, hu⟩ := z
    subst hr
    have hf := fin u hu
    have next := ih (i + 1) (by omega) (by omega)
    obtain ⟨xs', ys', m1, m2, k1, k2, y1, y2, _⟩ := hI _ hu
    cases ev : e i with
    | true =>
      rw [ev] at hv
      have next := next (by simpa using hv) u hu
      obtain ⟨hp2, g2, d2, tk2, os2⟩ := u
      wp_walk
      rw [up]
      refine ⟨plainId_quiet plain_eq_loop _, codeAny_builtin entry_eq_loop ?_⟩
      rw [Around.under_plainId plain_eq_loop _]
      exact next
    | false =>
      rw [ev] at hv
      rw [← hv] at hf
      have l3 : i < xs'.size := by omega
      have l4 : i < ys'.size := by omega
      have yes3 : xs'[((i : Nat) : Int).toNat]? = some xs'[i] := by simp [l3]
      have yes4 : ys'[((i : Nat) : Int).toNat]? = some ys'[i] := by simp [l4]
      obtain ⟨hp2, g2, d2, tk2, os2⟩ := u
      wp_walk using wpAny_loadPart' k1, wpAny_loadPart' k2
      rw [yes3, yes4]
      wp_walk
      simpa using hf
theorem lstB {M : Nat} (hI : LstI prog w A (fun x t => R (.error x) t) l b N M e I) (fin : ∀ s, I s → R (.ok (.ret (.bool (N == M && (List.range N).all e)))) s) (h : I s) :
    wpAny (model prog w) A.in1 (Builtin.«list.__eq__» ⟨[.ref l, .ref b], []⟩) (GQ.FinOf prog w A R) (fun x t => R (.error x) t) s := by
  obtain ⟨xs, ys, n1, n2, g1, g2, z1, z2, _⟩ := hI _ h
  have hsub := AutoSeq1.sub_list_list
  by_cases hs : N = M
  · subst hs
    have fin2 : ∀ s, I s → R (.ok (.ret (.bool ((List.range N).all e)))) s := fun s h => by
      have := fin s h
      simpa using this
    have go := lstLoop (l := l) (b := b) (A := A) (R := R) hI fin2 _ 0 rfl (Nat.zero_le _) rfl s h
    obtain ⟨hp, g, d, tk, os⟩ := s
    have no : ¬ (xs.size != ys.size) = true := by simp [z1, z2]
    wp_walk using wpAny_loadPart' g1, wpAny_loadPart' g2
    refine ⟨plainId_quiet plain_eq_loop _, codeAny_builtin entry_eq_loop ?_⟩
    rw [Around.under_plainId plain_eq_loop _]
    exact go
  · have hf := fin s h
    have eq : (N == M && (List.range N).all e) = false := by
      have : (N == M) = false := by simpa using hs
      rw [this]; rfl
    rw [eq] at hf
    obtain ⟨hp, g, d, tk, os⟩ := s
    have yes : (xs.size != ys.size) = true := by simp [z1, z2, hs]
    wp_walk using wpAny_loadPart' g1, wpAny_loadPart' g2
    exact hf
theorem rcTupB {Q : Value → Shared → Prop} (hu : A.units < cLine) (gl : s.heap.IsTuple l xs) (gb : s.heap.IsTuple b ys)
    (turn : ∀ i (h1 : i < xs.size) (h2 : i < ys.size) s, I s → wpAny (model prog w) A.in1 (eqBool xs[i] ys[i]) (fun r t => r = e i ∧ I t) E s)
    (fin : ∀ s, I s → Q (.bool ((List.range (min xs.size ys.size)).all e && xs.size == ys.size)) s) (h : I s) : wpAny (model prog w) A (richCompare .Eq (.ref l) (.ref b)) Q E s := by
  obtain ⟨⟨c1, d1, da1, o1⟩, a1, e1, n1, f1⟩ := id gl
  obtain ⟨⟨c2, d2, da2, o2⟩, a2, e2, n2, f2⟩ := id gb
  simp only at e1 f1 e2 f2
  subst e1 f1 e2 f2
  refine wpAny_richCompare_same_room (op := .Eq) ⟨_, a1, rfl⟩ ⟨_, a2, rfl⟩ F.slot_tuple_eq (GQ.call_here F.slot_tuple_eq ⟨_, a1, rfl⟩ F.entry_tuple_eq (F.args_tuple_eq_2 _ _) ?_) hu
  exact tupB (R := wants (fun v t => v ≠ .notImplemented ∧ Q v t) E) turn (fun t q => ⟨(fun x => nomatch x), fin t q⟩) a1 a2 h
theorem rcTupN {Q : Value → Shared → Prop} (hu : A.units < cLine) (gl : s.heap.IsTuple l xs) (gb : s.heap.IsTuple b ys)
    (turn : ∀ i (h1 : i < xs.size) (h2 : i < ys.size) s, I s → wpAny (model prog w) A.in1 (eqBool xs[i] ys[i]) (fun r t => r = e i ∧ I t) E s)
    (fin : ∀ s, I s → Q (.bool (!((List.range (min xs.size ys.size)).all e && xs.size == ys.size))) s) (h : I s) : wpAny (model prog w) A (richCompare .NotEq (.ref l) (.ref b)) Q E s := by
  obtain ⟨⟨c1, d1, da1, o1⟩, a1, e1, n1, f1⟩ := id gl
  obtain ⟨⟨c2, d2, da2, o2⟩, a2, e2, n2, f2⟩ := id gb
  simp only at e1 f1 e2 f2
  subst e1 f1 e2 f2
  refine wpAny_richCompare_same_room (op := .NotEq) ⟨_, a1, rfl⟩ ⟨_, a2, rfl⟩ F.slot_tuple_ne (GQ.call_here F.slot_tuple_ne ⟨_, a1, rfl⟩ F.entry_tuple_ne (F.args_tuple_ne_2 _ _) ?_) hu
  exact tupN (R := wants (fun v t => v ≠ .notImplemented ∧ Q v t) E) turn (fun t q => ⟨(fun x => nomatch x), fin t q⟩) a1 a2 h
theorem rcLstB {M : Nat} {Q : Value → Shared → Prop} (hu : A.units < cLine) (hI : LstI prog w A E l b N M e I) (fin : ∀ s, I s → Q (.bool (N == M && (List.range N).all e)) s) (h : I s) : wpAny (model prog w) A (richCompare .Eq (.ref l) (.ref b)) Q E s := by
  obtain ⟨xs, ys, n1, n2, g1, g2, z1, z2, _⟩ := hI _ h
  refine wpAny_richCompare_same_room (op := .Eq) ⟨_, g1, rfl⟩ ⟨_, g2, rfl⟩ F.slot_list_eq (GQ.call_here F.slot_list_eq ⟨_, g1, rfl⟩ F.entry_list_eq (F.args_list_eq_2 _ _) ?_) hu
  exact lstB (R := wants (fun v t => v ≠ .notImplemented ∧ Q v t) E) hI (fun t q => ⟨(fun x => nomatch x), fin t q⟩) h
/-- n == x: the int declines, the instance's class answers -/
theorem int_no0 {g : Int → Int → Sem Fin} (entry : entryFor table "int.__eq__" = some (Builtin.Int.intBinary "__eq__" g)) {n : Int} {t : Tok} {x : Addr} {ox : Obj} {Q : Value → Shared → Prop} (ho : s.heap.get? x = some ox) (hd : ∀ i t, ox.data ≠ .prim (.int i t)) (h : Q .notImplemented s) : wpAny (model prog w) A (call (.builtin "int.__eq__") [.int n t, .ref x]) Q E s := by
  refine wpAny_call_entry F.slot_int_eq (typeIs_int s n t) entry ?_ (F.args_int_eq_2 _ _)
  have e1 : slotArgs "__eq__" 1 ⟨[.int n t, .ref x], []⟩ = pure (.int n t, [.ref x]) := rfl
  have e2 : Builtin.Int.intOfSelf (.int n t) = pure n := rfl
  unfold Builtin.Int.intBinary
  refine wpAny_bind (wpAny_of_eq e1 (wpAny_bind (wpAny_of_eq e2 (wpAny_bind ?_))))
  show wpAny _ _ (load x >>= fun o => match o.data with | .prim (.int i _) => pure (some i) | _ => pure none) _ _ _
  refine wpAny_bind (wpAny_load ho ?_)
  have e : (match ox.data with | .prim (.int i _) => (pure (some i) : Sem (Option Int)) | _ => pure none) = pure none := by
    split
    · next i t' e => exact absurd e (hd i t')
    · rfl
  rw [e]
  exact wpAny_pure (wpAny_bind (wpAny_rule (wpAny_pure ⟨_, rfl, h⟩)))
theorem int_no {n : Int} {t : Tok} {x : Addr} {ox : Obj} {Q : Value → Shared → Prop} (ho : s.heap.get? x = some ox) (hd : ∀ i t, ox.data ≠ .prim (.int i t)) (h : Q .notImplemented s) : wpAny (model prog w) A (call (.builtin "int.__eq__") [.int n t, .ref x]) Q E s := int_no0 F.entry_int_eq ho hd h
/-- v == x where v's own type declines: the instance's class answers -/
theorem eq_back {K : PySem.W.Frag} {v : Value} {ty id : String} {x C f : Addr} {ox : Obj} {od : Option Obj} {Q : Value → Shared → Prop} (hu : A.units < cLine) (X : K.In s.heap) (J : PySem.W.InstAt s.heap x ox C od) (hT : s.TypeIs v ty) (slot : Slot ty "__eq__" id) (one : oneThing? .Eq v (.ref x) = none)
    (dec : ∀ Q : Value → Shared → Prop, Q .notImplemented s → wpAny (model prog w) A (call (.builtin id) [v, .ref x]) Q E s)
    (hs : PySem.W.findIn K (.ref C) "__eq__" = some (some (.ref f))) (hf : PySem.W.isFn K (.ref f) = true) (hsub : PySem.W.subIn K (.ref C) (.type ty) = some false)
    (h : wpAny (model prog w) A (call (.ref f) [.ref x, v]) (PySem.W.CmpBack Q) E s) : wpAny (model prog w) A (richCompare .Eq v (.ref x)) Q E s := by
  have back : wpAny (model prog w) A (tryCompare (.ref x) "__eq__" v) (fun r u => ∃ v, r = some v ∧ Q v u) E s := by
    unfold tryCompare
    refine wpAny_bind (PySem.W.ifBound_K X J hs hf (wpAny_mono h (fun v u z => ?_) fun _ _ e => e))
    cases v <;> first | exact z.elim | exact wpAny_pure ⟨_, rfl, z⟩
  have ne : (Value.type ty != Value.ref C) = true := by simp
  unfold richCompare
  simp only [one]
  refine wpAny_holding (wpAny_bind (wpAny_cRoomFor hu ?_))
  refine wpAny_bind (wpAny_typeOf hT (wpAny_bind (J.type.here ?_)))
  rw [if_pos ne]
  refine wpAny_bind ((PySem.W.looks_subIn X hsub).here ?_)
  simp only [Bool.false_eq_true, if_false]
  refine wpAny_bind (wpAny_tryCompare_declines hT slot (dec _ ⟨rfl, ?_⟩))
  refine wpAny_bind (wpAny_mono back (fun r u z => ?_) fun _ _ e => e)
  obtain ⟨v, rfl, hq⟩ := z
  exact wpAny_pure hq
theorem none_no {x : Addr} {Q : Value → Shared → Prop} (h : Q .notImplemented s) : wpAny (model prog w) A (call (.builtin "NoneType.__eq__") [.none, .ref x]) Q E s :=
  call_gives F.slot_NoneType_eq rfl F.entry_NoneType_eq (F.args_NoneType_eq_2 _ _) (SeqAt.NoneType___eq___none_ref_0 x) h
theorem str_no {z : Str} {t : Tok} {x : Addr} {ox : Obj} {Q : Value → Shared → Prop} (ho : s.heap.get? x = some ox) (hd : ox.data = .plain) (h : Q .notImplemented s) : wpAny (model prog w) A (call (.builtin "str.__eq__") [.str z t, .ref x]) Q E s := by
  refine wpAny_call_entry F.slot_str_eq (typeIs_str s z t) F.entry_str_eq ?_ (F.args_str_eq_2 _ _)
  obtain ⟨hp, g, d, tk, os⟩ := s
  wp_walk using wpAny_load ho
  simp only [hd]
  wp_walk
  exact ⟨_, rfl, h⟩
theorem tup_at (a b : Value) : ∃ rest : Bool → Sem Fin, Builtin.«tuple.__eq__» ⟨[a, b], []⟩ = ((typeOf b >>= fun c => isSubtype c (.type "tuple")) >>= fun r => if (!r) = true then (ret .notImplemented >>= fun x => pure x) else rest r) := ⟨_, rfl⟩
theorem tup_no {K : PySem.W.Frag} {l x C : Addr} {xs : Array Value} {ox : Obj} {od : Option Obj} {Q : Value → Shared → Prop} (X : K.In s.heap) (J : PySem.W.InstAt s.heap x ox C od) (gl : s.heap.IsTuple l xs) (hsub : PySem.W.subIn K (.ref C) (.type "tuple") = some false) (h : Q .notImplemented s) :
    wpAny (model prog w) A (call (.builtin "tuple.__eq__") [.ref l, .ref x]) Q E s := by
  obtain ⟨⟨c1, d1, da1, o1⟩, a1, e1, n1, f1⟩ := id gl
  simp only at e1 f1
  subst e1 f1
  refine GQ.call_here F.slot_tuple_eq ⟨_, a1, rfl⟩ F.entry_tuple_eq (F.args_tuple_eq_2 _ _) ?_
  obtain ⟨rest, e⟩ := tup_at (.ref l) (.ref x)
  rw [e]
  refine wpAny_bind (wpAny_bind (J.type.here ((PySem.W.looks_subIn X hsub).here ?_)))
  simp only [Bool.not_false, if_true]
  exact wpAny_bind (wpAny_pure (wpAny_pure h))
theorem lst_at (a b : Value) : ∃ rest : Bool → Sem Fin, Builtin.«list.__eq__» ⟨[a, b], []⟩ = ((typeOf b >>= fun c => isSubtype c (.type "list")) >>= fun r => if (!r) = true then (ret .notImplemented >>= fun x => pure x) else rest r) := ⟨_, rfl⟩
theorem lst_no {K : PySem.W.Frag} {l x C : Addr} {xs : Array Value} {n : Nat} {ox : Obj} {od : Option Obj} {Q : Value → Shared → Prop} (X : K.In s.heap) (J : PySem.W.InstAt s.heap x ox C od) (gl : s.heap.get? l = some { cls := .type "list", data := .seq xs n }) (hsub : PySem.W.subIn K (.ref C) (.type "list") = some false) (h : Q .notImplemented s) :
    wpAny (model prog w) A (call (.builtin "list.__eq__") [.ref l, .ref x]) Q E s := by
  refine GQ.call_here F.slot_list_eq ⟨_, gl, rfl⟩ F.entry_list_eq (F.args_list_eq_2 _ _) ?_
  obtain ⟨rest, e⟩ := lst_at (.ref l) (.ref x)
  rw [e]
  refine wpAny_bind (wpAny_bind (J.type.here ((PySem.W.looks_subIn X hsub).here ?_)))
  simp only [Bool.not_false, if_true]
  exact wpAny_bind (wpAny_pure (wpAny_pure h))
end
end Xl


namespace Xl
open PySem PySem.Spec PyProof.Rows L2
/-! ### == of trees with instances in them -/
mutual
/-- neither errors nor classes -/
def plD : D → Bool
  | .non => true
  | .bl _ => true
  | .int _ => true
  | .str _ => true
  | .tup ds => plL ds
  | .lst ds => plL ds
  | .dic ks => plK ks
  | .ins _ fs => plF fs
  | .cls _ => false
  | .exn _ _ _ _ => false
def plL : List D → Bool
  | [] => true
  | d :: ds => plD d && plL ds
def plK : List (Key × D) → Bool
  | [] => true
  | (_, d) :: ds => plD d && plK ds
def plF : List (Str × D) → Bool
  | [] => true
  | (_, d) :: ds => plD d && plF ds
end
mutual
theorem is_uniq {A : Fp} {H : Hp} {v : V} {d e : D} (p : plD d = true) (q : plD e = true) (i : Is A H v d) (j : Is A H v e) : d = e := by
  cases i with
  | non => cases j; rfl
  | bl b => cases j; rfl
  | int b => cases j; rfl
  | str b _ => cases j; rfl
  | tup e1 n1 l1 =>
    cases j with
    | tup e2 _ l2 => rw [e1] at e2; cases e2; rw [isL_uniq (by simpa [plD] using p) (by simpa [plD] using q) l1 l2]
    | lst e2 _ _ => rw [e1] at e2; cases e2
    | dic e2 _ _ => rcases e2 with e2 | ⟨_, e2⟩ <;> (rw [e1] at e2; cases e2)
    | ins e2 _ _ => rw [e1] at e2; cases e2
    | cls _ => simp [plD] at q
    | exn0 _ _ => simp [plD] at q
    | exn1 _ _ _ => simp [plD] at q
  | lst e1 n1 l1 =>
    cases j with
    | lst e2 _ l2 => rw [e1] at e2; cases e2; rw [isL_uniq (by simpa [plD] using p) (by simpa [plD] using q) l1 l2]
    | tup e2 _ _ => rw [e1] at e2; cases e2
    | dic e2 _ _ => rcases e2 with e2 | ⟨_, e2⟩ <;> (rw [e1] at e2; cases e2)
    | ins e2 _ _ => rw [e1] at e2; cases e2
    | cls _ => simp [plD] at q
    | exn0 _ _ => simp [plD] at q
    | exn1 _ _ _ => simp [plD] at q
  | dic e1 n1 l1 =>
    cases j with
    | dic e2 _ l2 => have eq := Rd.uniq e1 e2; subst eq; rw [isK_uniq (by simpa [plD] using p) (by simpa [plD] using q) l1 l2]
    | tup e2 _ _ => rcases e1 with e1 | ⟨_, e1⟩ <;> (rw [e1] at e2; cases e2)
    | lst e2 _ _ => rcases e1 with e1 | ⟨_, e1⟩ <;> (rw [e1] at e2; cases e2)
    | ins e2 _ _ => rcases e1 with e1 | ⟨_, e1⟩ <;> (rw [e1] at e2; cases e2)
    | cls _ => simp [plD] at q
    | exn0 _ _ => simp [plD] at q
    | exn1 _ _ _ => simp [plD] at q
  | ins e1 n1 l1 =>
    cases j with
    | ins e2 _ l2 => rw [e1] at e2; cases e2; rw [isF_uniq (by simpa [plD] using p) (by simpa [plD] using q) l1 l2]
    | tup e2 _ _ => rw [e1] at e2; cases e2
    | lst e2 _ _ => rw [e1] at e2; cases e2
    | dic e2 _ _ => rcases e2 with e2 | ⟨_, e2⟩ <;> (rw [e1] at e2; cases e2)
    | cls _ => simp [plD] at q
    | exn0 _ _ => simp [plD] at q
    | exn1 _ _ _ => simp [plD] at q
  | cls _ => simp [plD] at p
  | exn0 _ _ => simp [plD] at p
  | exn1 _ _ _ => simp [plD] at p
theorem isL_uniq {A : Fp} {H : Hp} {vs : List V} {ds es : List D} (p : plL ds = true) (q : plL es = true) (i : IsL A H vs ds) (j : IsL A H vs es) : ds = es := by
  cases i with
  | nil => cases j; rfl
  | cons a t =>
    cases j with
    | cons b u =>
      simp only [plL, Bool.and_eq_true] at p q
      rw [is_uniq p.1 q.1 a b, isL_uniq p.2 q.2 t u]
theorem isK_uniq {A : Fp} {H : Hp} {vs : List (Key × V)} {ds es : List (Key × D)} (p : plK ds = true) (q : plK es = true) (i : IsK A H vs ds) (j : IsK A H vs es) : ds = es := by
  cases i with
  | nil => cases j; rfl
  | cons _ a t =>
    cases j with
    | cons _ b u =>
      simp only [plK, Bool.and_eq_true] at p q
      rw [is_uniq p.1 q.1 a b, isK_uniq p.2 q.2 t u]
theorem isF_uniq {A : Fp} {H : Hp} {vs : List (Str × V)} {ds es : List (Str × D)} (p : plF ds = true) (q : plF es = true) (i : IsF A H vs ds) (j : IsF A H vs es) : ds = es := by
  cases i with
  | nil => cases j; rfl
  | cons a t =>
    cases j with
    | cons b u =>
      simp only [plF, Bool.and_eq_true] at p q
      rw [is_uniq p.1 q.1 a b, isF_uniq p.2 q.2 t u]
end
/-- own ==s: the class, what its __eq__ does -/
abbrev Os := List (Addr × CE)
/-- a value that an instance is compared with: the name of its type -/
def tyN : D → Option String
  | .int _ => some "int"
  | .str _ => some "str"
  | .non => some "NoneType"
  | .tup _ => some "tuple"
  | .lst _ => some "list"
  | _ => none
theorem tyN_mem {e : D} {t : String} (h : tyN e = some t) : t ∈ tyNs := by
  cases e <;> simp [tyN] at h <;> subst h <;> decide
inductive EqT (os : Os) : Nat → D → D → Bool → Prop
  | low {n : Nat} {d e : D} : lowD n d = true → lowD n e = true → EqT os n d e (eqN n d e)
  | tup {n : Nat} {ds es : List D} {f : Nat → Bool} : (∀ j d e, ds[j]? = some d → es[j]? = some e → EqT os n d e (f j)) → EqT os (n + 1) (.tup ds) (.tup es) ((List.range (min ds.length es.length)).all f && ds.length == es.length)
  | lst {n : Nat} {ds es : List D} {f : Nat → Bool} : (∀ j d e, ds[j]? = some d → es[j]? = some e → EqT os n d e (f j)) → EqT os (n + 1) (.lst ds) (.lst es) (ds.length == es.length && (List.range ds.length).all f)
  | ins {n : Nat} {C : Addr} {c : CE} {fs gs : List (Str × D)} {b : Bool} : (C, c) ∈ os → c [.sh (.ins C fs), .sh (.ins C gs)] (fun r _ => r = .bl b) FX → plF fs = true → plF gs = true → (fs = gs → b = true) → EqT os n (.ins C fs) (.ins C gs) b
  | insv {n : Nat} {C : Addr} {c : CE} {fs : List (Str × D)} {e : D} {b : Bool} : (C, c) ∈ os → (tyN e).isSome = true → c [.sh (.ins C fs), .sh e] (fun r _ => r = .bl b) FX → EqT os n (.ins C fs) e b
  | vins {n : Nat} {C : Addr} {c : CE} {fs : List (Str × D)} {e : D} {b : Bool} : (C, c) ∈ os → (tyN e).isSome = true → c [.sh (.ins C fs), .sh e] (fun r _ => r = .bl b) FX → EqT os n e (.ins C fs) b
theorem eqT_same {A : Fp} {H : Hp} {os : Os} {n : Nat} {d e : D} {b : Bool} (h : EqT os n d e b) : ∀ v, Is A H v d → Is A H v e → b = true := by
  induction h with
  | low h1 h2 =>
    intro v i1 i2
    rw [low_uniqD _ _ _ _ h1 h2 i1 i2]
    exact eqN_refl0 _ _ h2
  | @tup n ds es f _ ih =>
    intro v i1 i2
    cases i1 with
    | tup e1 _ l1 =>
      cases i2 with
      | tup e2 _ l2 =>
        rw [e1] at e2
        cases e2
        have hl : ds.length = es.length := by rw [← l1.length, ← l2.length]
        rw [hl, Nat.min_self, Bool.and_eq_true]
        refine ⟨List.all_eq_true.mpr fun j hj => ?_, by simp⟩
        have hj := List.mem_range.mp hj
        obtain ⟨w, ew, iw⟩ := l2.get (List.getElem?_eq_getElem hj)
        obtain ⟨d, ed, id⟩ := l1.get2 ew
        exact ih j d _ ed (List.getElem?_eq_getElem hj) w id iw
  | @lst n ds es f _ ih =>
    intro v i1 i2
    cases i1 with
    | lst e1 _ l1 =>
      cases i2 with
      | lst e2 _ l2 =>
        rw [e1] at e2
        cases e2
        have hl : ds.length = es.length := by rw [← l1.length, ← l2.length]
        rw [hl, Bool.and_eq_true]
        refine ⟨by simp, List.all_eq_true.mpr fun j hj => ?_⟩
        have hj := List.mem_range.mp hj
        obtain ⟨w, ew, iw⟩ := l2.get (List.getElem?_eq_getElem hj)
        obtain ⟨d, ed, id⟩ := l1.get2 ew
        exact ih j d _ ed (List.getElem?_eq_getElem hj) w id iw
  | ins _ _ p q k =>
    intro v i1 i2
    cases i1 with
    | ins e1 _ l1 =>
      cases i2 with
      | ins e2 _ l2 =>
        rw [e1] at e2
        cases e2
        exact k (isF_uniq p q l1 l2)
  | insv _ hs _ =>
    intro v i1 i2
    cases i1 with
    | ins e1 _ l1 => cases i2 with
      | tup e2 _ _ => rw [e1] at e2; cases e2
      | lst e2 _ _ => rw [e1] at e2; cases e2
      | _ => simp [tyN] at hs
  | vins _ hs _ =>
    intro v i1 i2
    cases i2 with
    | ins e1 _ l1 => cases i1 with
      | tup e2 _ _ => rw [e1] at e2; cases e2
      | lst e2 _ _ => rw [e1] at e2; cases e2
      | _ => simp [tyN] at hs
/-- a measure of room: in a def's body, in an except suite -/
structure RmOk (Rm : Nat → Around → Prop) : Prop where
  mono : ∀ {j k : Nat} {A : Around}, Rm k A → j ≤ k → Rm j A
  in1 : ∀ {k : Nat} {A : Around}, Rm (k + 1) A → Rm k A.in1
  units : ∀ {k : Nat} {A : Around}, Rm k A → A.units + 64 < cLine
theorem rm_room : RmOk Room := ⟨fun r h => r.mono h, fun r => r.in1, fun r => r.units⟩
theorem rm_hot : RmOk L2H.RoomH := ⟨fun r h => r.mono h, fun {k A} r => ⟨by have := r.dp; show A.depth + 3 * k + 5 < _; omega, by have := r.un; show A.units + 1 + 16 * k + 200 < _; omega⟩, fun r => by have := r.un; omega⟩
structure SubR (Rm : Nat → Around → Prop) (X : Cx) (n : Nat) (A : Around) : Prop where
  room : Rm n A
  fr : A.frames = X.A.frames
section
variable {Rm : Nat → Around → Prop} {X : Cx} {n m : Nat} {A : Around}
theorem SubR.mono (z : RmOk Rm) (s : SubR Rm X n A) (h : m ≤ n) : SubR Rm X m A := ⟨z.mono s.room h, s.fr⟩
theorem SubR.in1 (z : RmOk Rm) (s : SubR Rm X (n + 1) A) : SubR Rm X n A.in1 := ⟨z.in1 s.room, s.fr⟩
theorem SubR.u0 (z : RmOk Rm) (s : SubR Rm X n A) : A.units < cLine := by have := z.units s.room; omega
end
/-- an own == that can be asked anywhere below -/
def OwnR (Rm : Nat → Around → Prop) (X : Cx) (k : Nat) (C : Addr) (c : CE) : Prop := ∃ f : Addr, PySem.W.findIn X.K (.ref C) "__eq__" = some (some (.ref f)) ∧ PySem.W.isFn X.K (.ref f) = true ∧
  ∀ {A' : Around} {pins : List (Addr × Obj)} {σ : L2.St} {H : Hp} {s : Shared} {A0 : Fp} {a : Addr} {fs : List (Str × D)} {y : V} {u : Value} {e : D} {b : Bool}, SubR Rm X k A' → Inv X pins σ H s → (∀ b, A0 b → ∃ o, H b = some o) → Is A0 H (.ref a) (.ins C fs) → Is A0 H y e → RelV y u →
    c [.sh (.ins C fs), .sh e] (fun r _ => r = .bl b) FX → wpAny (model X.prog X.w) A' (call (.ref f) [.ref a, u]) (fun r s' => r = .bool b ∧ ∃ H', Inv X pins σ H' s' ∧ Fw A0 H H') X.xe s
/-- what the rules need of the own ==s -/
structure OsOk (Rm : Nat → Around → Prop) (X : Cx) (k : Nat) (os : Os) : Prop where
  rm : RmOk Rm
  ok : ∀ C c, (C, c) ∈ os → OwnR Rm X k C c ∧ (∀ t ∈ tyNs, PySem.W.notFirst X.K C (.type t) = true) ∧ ∀ t ∈ tyNs, PySem.W.subIn X.K (.ref C) (.type t) = some false
abbrev EqW (X : Cx) (A : Around) (pins : List (Addr × Obj)) (σ : L2.St) (A0 : Fp) (H : Hp) (b : Bool) (s' : Shared) : Prop := ∃ H', Inv X pins σ H' s' ∧ Fw A0 H H'
theorem keep_fw {A : Fp} {H H' : Hp} (f : Fw A H H') : Keep A H A H' := fun b o e n => ⟨n, (Fz.keep f b o e id).imp id fun ⟨_, kvs, ob, e1, e2⟩ => ⟨kvs, _, .inl e1, e2, .inr ⟨ob, rfl⟩⟩⟩
section
variable {Rm : Nat → Around → Prop} {X : Cx} {k : Nat} {C : Addr} {c : CE} {os : Os}
/-- an own == asked anywhere below -/
theorem own_run (F : MeI X.prog X.w X.K X.mg X.base C "__eq__" k (spD c)) : OwnR Room X k C c := by
  obtain ⟨f, fd, ps, cl, M, G, hb⟩ := F.ex
  refine ⟨f, M.at_, M.fn, fun {A' pins σ H s A0 a fs y u e b} sb I dom i1 i2 ry h => ?_⟩
  have q : spD c [.ref a, y] H (fun v' H' => v' = .bl b ∧ Fw A0 H H') E0 := by
    refine spD_of dom (.cons i1 (.cons i2 .nil)) h fun d v' H' hd f1 hv => ?_
    subst hd
    cases hv
    exact ⟨rfl, f1⟩
  refine thn (run_at (A' := A') (vs := [.ref a, y]) G sb.room sb.fr hb passL I (.cons rfl (.cons ry .nil)) q) fun r s' ⟨v', H', I', rv, ev, f⟩ => ?_
  subst ev
  exact ⟨rv, H', I', f⟩
theorem OwnR.mono {Rm : Nat → Around → Prop} {j : Nat} (z : RmOk Rm) (h : OwnR Rm X j C c) (hj : j ≤ k) : OwnR Rm X k C c := by
  obtain ⟨f, h1, h2, h3⟩ := h
  exact ⟨f, h1, h2, fun sb => h3 (sb.mono z hj)⟩
theorem prim_not {pins : List (Addr × Obj)} {σ : L2.St} {H : Hp} {s : Shared} {a : Addr} {dx : Addr} {fs : List (Str × V)} {ox : Obj} {od : Option Obj} (J : PySem.W.InstAt s.heap a ox C od) (hd : ox.data = .plain) : ∀ i t, ox.data ≠ .prim (.int i t) := fun i t q => by rw [hd] at q; cases q
theorem tyN_look {pins : List (Addr × Obj)} {s : Shared} {σ : L2.St} {H : Hp} {A : Fp} {y : V} {u : Value} {e : D} {t : String} (I : Inv X pins σ H s) (ry : RelV y u) (i : Is A H y e) (h : tyN e = some t) : s.TypeIs u t := by
  cases i with
  | non => cases h; cases (show u = Value.none from ry); rfl
  | int b => cases h; obtain ⟨t, q⟩ := (show ∃ t, u = Value.int b t from ry); cases q; exact typeIs_int _ _ _
  | str b _ => cases h; obtain ⟨t, q⟩ := (show ∃ t, u = Value.str b t from ry); cases q; exact typeIs_str _ _ _
  | tup e1 n l =>
    cases h
    cases ry
    obtain ⟨its, r1, p1, _⟩ := I.tuple (SqT.of e1)
    obtain ⟨ob, a1, c1, _⟩ := p1
    exact ⟨ob, a1, c1⟩
  | lst e1 n l =>
    cases h
    cases ry
    obtain ⟨_, its, k1, r1, g1⟩ := I.hok _ _ e1
    exact ⟨_, g1, rfl⟩
  | _ => cases h
/-- the type of what an instance is compared with, not asked first -/
theorem cmp_look (O : OsOk Rm X k os) (ho : (C, c) ∈ os) {pins : List (Addr × Obj)} {s : Shared} {σ : L2.St} {H : Hp} {A : Fp} {y : V} {u : Value} {e : D} (I : Inv X pins σ H s) (ry : RelV y u) (i : Is A H y e) (h : (∃ gs, e = .ins C gs) ∨ (tyN e).isSome = true) : ∃ t, PySem.W.Looks (model X.prog X.w) s.heap (typeOf u) t ∧ PySem.W.notFirst X.K C t = true := by
  rcases h with ⟨gs, rfl⟩ | h
  · exact eqOk_look I ry i (.inl rfl)
  · obtain ⟨t, ht⟩ := Option.isSome_iff_exists.mp h
    refine ⟨.type t, ?_, (O.ok C c ho).2.1 t (tyN_mem ht)⟩
    cases i with
    | non => cases ht; cases (show u = Value.none from ry); exact PySem.W.Looks.of_pure rfl
    | int b => cases ht; obtain ⟨t, q⟩ := (show ∃ t, u = Value.int b t from ry); cases q; exact PySem.W.Looks.of_pure rfl
    | str b _ => cases ht; obtain ⟨t, q⟩ := (show ∃ t, u = Value.str b t from ry); cases q; exact PySem.W.Looks.of_pure rfl
    | tup e1 n l =>
      cases ht
      cases ry
      obtain ⟨its, r1, p1, _⟩ := I.tuple (SqT.of e1)
      obtain ⟨ob, a1, c1, _⟩ := p1
      exact c1 ▸ (PySem.W.Looks.ld a1).andThen .now
    | lst e1 n l =>
      cases ht
      cases ry
      obtain ⟨_, its, k1, r1, g1⟩ := I.hok _ _ e1
      exact (PySem.W.Looks.ld g1).andThen .now
    | _ => cases ht
theorem ins_eq (O : OsOk Rm X k os) (ho : (C, c) ∈ os) {A' : Around} {pins : List (Addr × Obj)} {σ : L2.St} {H : Hp} {s : Shared} {A0 : Fp} {x y : V} {v u : Value} {fs : List (Str × D)} {e : D} {b : Bool} (sb : SubR Rm X k A') (I : Inv X pins σ H s) (dom : ∀ b, A0 b → ∃ o, H b = some o)
    (rx : RelV x v) (ry : RelV y u) (i1 : Is A0 H x (.ins C fs)) (i2 : Is A0 H y e) (hk : (∃ gs, e = .ins C gs) ∨ (tyN e).isSome = true) (h : c [.sh (.ins C fs), .sh e] (fun r _ => r = .bl b) FX) :
    wpAny (model X.prog X.w) A' (richCompare .Eq v u) (fun r s' => r = .bool b ∧ ∃ H', Inv X pins σ H' s' ∧ Fw A0 H H') X.xe s := by
  obtain ⟨f, at_, fn, run⟩ := (O.ok C c ho).1
  obtain ⟨tb, lk, nf⟩ := cmp_look O ho I ry i2 hk
  have i1' := i1
  cases i1 with
  | ins e1 n l =>
    cases rx
    obtain ⟨mA, J, _⟩ := ins_get I.hok e1
    obtain ⟨od, J, _⟩ := J.look
    obtain ⟨m, hF⟩ := I.fr
    refine PySem.W.cmp_K (op := .Eq) (sb.u0 O.rm) hF I.ok.mod.kin J lk nf at_ fn (thn (run sb I dom i1' i2 ry h) fun r s' q => ?_)
    obtain ⟨rfl, q⟩ := q
    exact ⟨rfl, q⟩
theorem ref_same {prog : Program} {w : World} {A : Around} {E : Value → Shared → Prop} {s : Shared} {a : Addr} {Q : Bool → Shared → Prop} (h : Q true s) : wpAny (model prog w) A (eqBool (.ref a) (.ref a)) Q E s := SeqAt.EqAt.same (A := A) (s := s) (.ref a) prog w E Q h
theorem eqBool_of {prog : Program} {w : World} {A : Around} {E : Value → Shared → Prop} {s : Shared} {v u : Value} {Q : Bool → Shared → Prop} (hne : (v == u) = false) (nf : ∀ i t j t', ¬ (v = .float i t ∧ u = .float j t')) (h : wpAny (model prog w) A (richCompare .Eq v u) (fun r s' => ∃ b, r = .bool b ∧ Q b s') E s) : wpAny (model prog w) A (eqBool v u) Q E s := by
  unfold eqBool
  refine wpAny_holding ?_
  refine wpAny_ite_split (fun q => absurd (q.symm.trans hne) (by simp)) (fun _ => ?_)
  have tail : wpAny (model prog w) A (richCompare .Eq v u >>= fun r => truthOfDropped r) Q E s := wpAny_bind (wpAny_mono h (fun r s' z => by
    obtain ⟨b, rfl, q⟩ := z
    exact wpAny_truthy_bool q) fun _ _ x => x)
  cases v with
  | float i t => cases u with
    | float j t' => exact absurd ⟨rfl, rfl⟩ (nf i t j t')
    | _ => exact tail
  | _ => exact tail
theorem fw_dom {A0 : Fp} {H H' : Hp} (f : Fw A0 H H') (dom : ∀ b, A0 b → ∃ o, H b = some o) : ∀ b, A0 b → ∃ o, H' b = some o := fun b hb => by
  obtain ⟨o, e⟩ := dom b hb
  rcases Fz.keep f b o e id with q | ⟨_, _, _, _, q⟩
  · exact ⟨_, q⟩
  · exact ⟨_, q⟩
abbrev EqG (Rm : Nat → Around → Prop) (X : Cx) (k n : Nat) (d e : D) (b : Bool) : Prop := ∀ (A : Around) (pins : List (Addr × Obj)) (s : Shared) (σ : L2.St) (H : Hp) (A0 : Fp) (x y : V) (v u : Value), SubR Rm X (n + k) A → Inv X pins σ H s → (∀ b, A0 b → ∃ o, H b = some o) → RelV x v → RelV y u → Is A0 H x d → Is A0 H y e →
    wpAny (model X.prog X.w) A (eqBool v u) (fun r s' => r = b ∧ ∃ H', Inv X pins σ H' s' ∧ Fw A0 H H') X.xe s
abbrev RcG' (Rm : Nat → Around → Prop) (X : Cx) (k n : Nat) (op : CmpOp) (d e : D) (b : Bool) : Prop := ∀ (A : Around) (pins : List (Addr × Obj)) (s : Shared) (σ : L2.St) (H : Hp) (A0 : Fp) (x y : V) (v u : Value), SubR Rm X (n + k) A → Inv X pins σ H s → (∀ b, A0 b → ∃ o, H b = some o) → RelV x v → RelV y u → Is A0 H x d → Is A0 H y e →
    wpAny (model X.prog X.w) A (richCompare op v u) (fun r s' => r = .bool b ∧ ∃ H', Inv X pins σ H' s' ∧ Fw A0 H H') X.xe s
/-- one turn of the items' loop -/
theorem item_run {n : Nat} {ds es : List D} {f : Nat → Bool} (ih : ∀ j d e, ds[j]? = some d → es[j]? = some e → EqG Rm X k n d e (f j)) {A : Around} {pins : List (Addr × Obj)} {s : Shared} {σ : L2.St} {H : Hp} {A0 : Fp} {vs vs' : List V} {its its' : List Value} (z : RmOk Rm) (sb : SubR Rm X (n + 1 + k) A) (dom : ∀ b, A0 b → ∃ o, H b = some o)
    (l1 : IsL A0 H vs ds) (l2 : IsL A0 H vs' es) (r1 : Vals vs its) (r2 : Vals vs' its') (i : Nat) (h1 : i < its.toArray.size) (h2 : i < its'.toArray.size) (h : ∃ H', Inv X pins σ H' s ∧ Fw A0 H H') :
    wpAny (model X.prog X.w) A.in1 (eqBool its.toArray[i] its'.toArray[i]) (fun r t => r = f i ∧ ∃ H', Inv X pins σ H' t ∧ Fw A0 H H') X.xe s := by
  obtain ⟨H1, I1, f1⟩ := h
  have hj1 : i < vs.length := by rw [r1.length]; simpa using h1
  have hj2 : i < vs'.length := by rw [r2.length]; simpa using h2
  obtain ⟨dj, ed, id1⟩ := l1.get2 (List.getElem?_eq_getElem hj1)
  obtain ⟨ej, ee, ie⟩ := l2.get2 (List.getElem?_eq_getElem hj2)
  obtain ⟨w1, ew1, rw1⟩ := r1.get (List.getElem?_eq_getElem hj1)
  obtain ⟨w2, ew2, rw2⟩ := r2.get (List.getElem?_eq_getElem hj2)
  have q1 : its.toArray[i] = w1 := by
    have := ew1
    rw [List.getElem?_eq_getElem (by simpa using h1)] at this
    simpa using this
  have q2 : its'.toArray[i] = w2 := by
    have := ew2
    rw [List.getElem?_eq_getElem (by simpa using h2)] at this
    simpa using this
  rw [q1, q2]
  refine thn (ih i dj ej ed ee A.in1 pins s σ H1 A0 _ _ w1 w2 (SubR.in1 z (sb.mono z (by omega))) I1 (fw_dom f1 dom) rw1 rw2 (id1.keep (keep_fw f1)) (ie.keep (keep_fw f1))) fun r t z => ?_
  obtain ⟨hr, H2, I2, f2⟩ := z
  exact ⟨hr, H2, I2, f1.trans f2⟩
theorem tup_run (z : RmOk Rm) {n : Nat} {ds es : List D} {f : Nat → Bool} (ih : ∀ j d e, ds[j]? = some d → es[j]? = some e → EqG Rm X k n d e (f j)) : RcG' Rm X k (n + 1) .Eq (.tup ds) (.tup es) ((List.range (min ds.length es.length)).all f && ds.length == es.length) := by
  intro A pins s σ H A0 x y v u sb I dom rx ry i1 i2
  cases i1 with
  | @tup a vs _ e1 _ l1 =>
    cases i2 with
    | @tup a' vs' _ e2 _ l2 =>
      cases rx
      cases ry
      obtain ⟨its, r1, p1, _⟩ := I.tuple (SqT.of e1)
      obtain ⟨its', r2, p2, _⟩ := I.tuple (SqT.of e2)
      have z1 : its.toArray.size = ds.length := by rw [List.size_toArray, ← r1.length, l1.length]
      have z2 : its'.toArray.size = es.length := by rw [List.size_toArray, ← r2.length, l2.length]
      rw [← z1, ← z2]
      exact rcTupB (sb.u0 z) p1 p2 (fun i h1 h2 t ht => item_run ih z sb dom l1 l2 r1 r2 i h1 h2 ht) (fun t ht => ⟨rfl, ht⟩) ⟨H, I, Fz.refl _ _⟩
theorem tupN_run (z : RmOk Rm) {n : Nat} {ds es : List D} {f : Nat → Bool} (ih : ∀ j d e, ds[j]? = some d → es[j]? = some e → EqG Rm X k n d e (f j)) : RcG' Rm X k (n + 1) .NotEq (.tup ds) (.tup es) (!((List.range (min ds.length es.length)).all f && ds.length == es.length)) := by
  intro A pins s σ H A0 x y v u sb I dom rx ry i1 i2
  cases i1 with
  | @tup a vs _ e1 _ l1 =>
    cases i2 with
    | @tup a' vs' _ e2 _ l2 =>
      cases rx
      cases ry
      obtain ⟨its, r1, p1, _⟩ := I.tuple (SqT.of e1)
      obtain ⟨its', r2, p2, _⟩ := I.tuple (SqT.of e2)
      have z1 : its.toArray.size = ds.length := by rw [List.size_toArray, ← r1.length, l1.length]
      have z2 : its'.toArray.size = es.length := by rw [List.size_toArray, ← r2.length, l2.length]
      rw [← z1, ← z2]
      exact rcTupN (sb.u0 z) p1 p2 (fun i h1 h2 t ht => item_run ih z sb dom l1 l2 r1 r2 i h1 h2 ht) (fun t ht => ⟨rfl, ht⟩) ⟨H, I, Fz.refl _ _⟩
theorem fw_at {A0 : Fp} {H H1 : Hp} (f1 : Fw A0 H H1) {a : Addr} {o : HO} (h : H a = some o) (nd : ∀ kvs, o ≠ .dK kvs) : H1 a = some o := by
  rcases Fz.keep f1 a o h id with q | ⟨_, kvs, _, q, _⟩
  · exact q
  · exact absurd q (nd kvs)
theorem lst_run (z : RmOk Rm) {n : Nat} {ds es : List D} {f : Nat → Bool} (ih : ∀ j d e, ds[j]? = some d → es[j]? = some e → EqG Rm X k n d e (f j)) : RcG' Rm X k (n + 1) .Eq (.lst ds) (.lst es) (ds.length == es.length && (List.range ds.length).all f) := by
  intro A pins s σ H A0 x y v u sb I dom rx ry i1 i2
  cases i1 with
  | @lst a vs _ e1 _ l1 =>
    cases i2 with
    | @lst a' vs' _ e2 _ l2 =>
      cases rx
      cases ry
      refine rcLstB (I := fun t => ∃ H', Inv X pins σ H' t ∧ Fw A0 H H') (sb.u0 z) (fun t ht => ?_) (fun t ht => ⟨rfl, ht⟩) ⟨H, I, Fz.refl _ _⟩
      obtain ⟨H1, I1, f1⟩ := id ht
      obtain ⟨_, its, k1, r1, g1⟩ := I1.hok a _ (fw_at f1 e1 (fun _ q => by cases q))
      obtain ⟨_, its', k2, r2, g2⟩ := I1.hok a' _ (fw_at f1 e2 (fun _ q => by cases q))
      exact ⟨its.toArray, its'.toArray, k1, k2, g1, g2, by rw [List.size_toArray, ← r1.length, l1.length], by rw [List.size_toArray, ← r2.length, l2.length], fun i h1 h2 => item_run ih z sb dom l1 l2 r1 r2 i h1 h2 ht⟩
theorem vins_run (O : OsOk Rm X k os) (ho : (C, c) ∈ os) {fs : List (Str × D)} {e : D} {b : Bool} (hs : (tyN e).isSome = true) (h : c [.sh (.ins C fs), .sh e] (fun r _ => r = .bl b) FX) (n : Nat) : RcG' Rm X k n .Eq e (.ins C fs) b := by
  intro A pins s σ H A0 x y v u sb I dom rx ry i1 i2
  obtain ⟨f, at_, fn, run⟩ := (O.ok C c ho).1
  obtain ⟨t, ht⟩ := Option.isSome_iff_exists.mp hs
  have sf := (O.ok C c ho).2.2 t (tyN_mem ht)
  have hT := tyN_look I rx i1 ht
  have i2' := i2
  cases i2 with
  | ins e1 nn l =>
    cases ry
    obtain ⟨mA, J, hd⟩ := ins_get I.hok e1
    obtain ⟨od, J, _⟩ := J.look
    have go := thn (run (sb.mono O.rm (by omega)) I dom i2' i1 rx h) fun r s' (q : r = .bool b ∧ ∃ H', Inv X pins σ H' s' ∧ Fw A0 H H') => show PySem.W.CmpBack (fun r s' => r = .bool b ∧ ∃ H', Inv X pins σ H' s' ∧ Fw A0 H H') r s' by
      obtain ⟨rfl, q⟩ := q
      exact ⟨rfl, q⟩
    cases i1 with
    | non => cases ht; cases (show v = Value.none from rx); exact eq_back (sb.u0 O.rm) I.kIn J hT F.slot_NoneType_eq rfl (fun _ q => none_no q) at_ fn sf go
    | int b => cases ht; obtain ⟨t, q⟩ := (show ∃ t, v = Value.int b t from rx); cases q; exact eq_back (sb.u0 O.rm) I.kIn J hT F.slot_int_eq rfl (fun _ q => int_no J.at_ (fun i t q => by simp at q) q) at_ fn sf go
    | str b _ => cases ht; obtain ⟨t, q⟩ := (show ∃ t, v = Value.str b t from rx); cases q; exact eq_back (sb.u0 O.rm) I.kIn J hT F.slot_str_eq rfl (fun _ q => str_no J.at_ rfl q) at_ fn sf go
    | tup e2 n2 l2 =>
      cases ht
      cases rx
      obtain ⟨its, r1, p1, _⟩ := I.tuple (SqT.of e2)
      exact eq_back (sb.u0 O.rm) I.kIn J hT F.slot_tuple_eq rfl (fun _ q => tup_no I.kIn J p1 sf q) at_ fn sf go
    | lst e2 n2 l2 =>
      cases ht
      cases rx
      obtain ⟨_, its, k1, r1, g1⟩ := I.hok _ _ e2
      exact eq_back (sb.u0 O.rm) I.kIn J hT F.slot_list_eq rfl (fun _ q => lst_no I.kIn J g1 sf q) at_ fn sf go
    | _ => cases ht
/-- == inside a list or tuple, from the rich comparison -/
theorem eqG_of {n : Nat} {d e : D} {b : Bool} (h : RcG' Rm X k n .Eq d e b) (sm : ∀ A0 H v, Is A0 H v d → Is A0 H v e → b = true) (ty : (tyN d).isSome = true ∨ ∃ C fs, d = .ins C fs) (te : (tyN e).isSome = true ∨ ∃ C fs, e = .ins C fs) (one : ∀ A0 H x y, Is A0 H x d → Is A0 H y e → (∃ a, x = .ref a) ∨ ∃ a, y = .ref a) : EqG Rm X k n d e b := by
  intro A pins s σ H A0 x y v u sb I dom rx ry i1 i2
  have go := h A pins s σ H A0 x y v u sb I dom rx ry i1 i2
  have nofl : ∀ {A0 : Fp} {H : Hp} {x : V} {v : Value} {d : D}, ((tyN d).isSome = true ∨ ∃ C fs, d = .ins C fs) → Is A0 H x d → RelV x v → ∀ i t, v ≠ .float i t := fun {A0 H x v d} ty i r j t e => by
    subst e
    cases i with
    | non => cases (show Value.float j t = Value.none from r)
    | bl b => cases (show Value.float j t = Value.bool b from r)
    | int b => obtain ⟨t, z⟩ := (show ∃ t, _ = Value.int b t from r); cases z
    | str b _ => obtain ⟨t, z⟩ := (show ∃ t, _ = Value.str b t from r); cases z
    | tup _ _ _ => cases r
    | lst _ _ _ => cases r
    | dic _ _ _ => cases r
    | ins _ _ _ => cases r
    | cls _ => cases r
    | exn0 _ _ => cases r
    | exn1 _ _ _ => cases r
  have isref : ∀ {A0 : Fp} {H : Hp} {x : V} {d : D} {a : Addr}, Is A0 H x d → RelV x (.ref a) → x = .ref a := fun {A0 H x d a} i r => by
    cases i with
    | non => cases (show Value.ref a = Value.none from r)
    | bl b => cases (show Value.ref a = Value.bool b from r)
    | int b => obtain ⟨t, z⟩ := (show ∃ t, Value.ref a = Value.int b t from r); cases z
    | str b _ => obtain ⟨t, z⟩ := (show ∃ t, Value.ref a = Value.str b t from r); cases z
    | tup _ _ _ => cases r; rfl
    | lst _ _ _ => cases r; rfl
    | dic _ _ _ => cases r; rfl
    | ins _ _ _ => cases r; rfl
    | cls _ => cases r; rfl
    | exn0 _ _ => cases r; rfl
    | exn1 _ _ _ => cases r; rfl
  by_cases ev : v = u
  · subst ev
    obtain ⟨a, rfl⟩ : ∃ a, v = .ref a := by
      rcases one _ _ _ _ i1 i2 with ⟨a, rfl⟩ | ⟨a, rfl⟩
      · cases rx; exact ⟨a, rfl⟩
      · cases ry; exact ⟨a, rfl⟩
    obtain rfl := isref i1 rx
    obtain rfl := isref i2 ry
    exact ref_same ⟨(sm _ _ _ i1 i2).symm, H, I, Fz.refl _ _⟩
  · exact eqBool_of (by simpa using ev) (fun i t _ _ q => nofl ty i1 rx i t q.1) (thn go fun r s' z => ⟨_, z.1, rfl, z.2⟩)
theorem is_ref_ins {A : Fp} {H : Hp} {x : V} {C : Addr} {fs : List (Str × D)} (h : Is A H x (.ins C fs)) : ∃ a, x = .ref a := by
  cases h
  exact ⟨_, rfl⟩
theorem is_ref_tup {A : Fp} {H : Hp} {x : V} {ds : List D} (h : Is A H x (.tup ds)) : ∃ a, x = .ref a := by
  cases h
  exact ⟨_, rfl⟩
theorem is_ref_lst {A : Fp} {H : Hp} {x : V} {ds : List D} (h : Is A H x (.lst ds)) : ∃ a, x = .ref a := by
  cases h
  exact ⟨_, rfl⟩
theorem eqT_run (O : OsOk Rm X k os) {n : Nat} {d e : D} {b : Bool} (h : EqT os n d e b) : n ≤ 64 → EqG Rm X k n d e b := by
  induction h with
  | @low n d e h1 h2 =>
    intro hn A pins s σ H A0 x y v u sb I dom rx ry i1 i2
    obtain ⟨as, r1⟩ := Dp.reads I _ x v (dp_N (K := X.K) n x d h1 i1) rx
    obtain ⟨bs, r2⟩ := Dp.reads I _ y u (dp_N (K := X.K) n y e h2 i2) ry
    have l1 := lay_N n A0 H x d h1 i1
    have l2 := lay_N n A0 H y e h2 i2
    rw [← eqv_N n d e h1 h2]
    exact SeqAt.eqAt_reads _ _ A s v u as bs r1 r2 l1.1 l2.1 (by have := l1.2; have := O.rm.units sb.room; omega) X.prog X.w X.xe _ ⟨rfl, H, I, Fz.refl _ _⟩
  | @tup n ds es f hh ih =>
    exact fun hn => eqG_of (tup_run O.rm fun j d e h1 h2 => ih j d e h1 h2 (by omega)) (fun A0 H v => eqT_same (EqT.tup hh) v) (.inl rfl) (.inl rfl) fun _ _ _ _ q _ => .inl (is_ref_tup q)
  | @lst n ds es f hh ih =>
    exact fun hn => eqG_of (lst_run O.rm fun j d e h1 h2 => ih j d e h1 h2 (by omega)) (fun A0 H v => eqT_same (EqT.lst hh) v) (.inl rfl) (.inl rfl) fun _ _ _ _ q _ => .inl (is_ref_lst q)
  | @ins n C c fs gs b ho h p q kk =>
    exact fun hn => eqG_of (fun A pins s σ H A0 x y v u sb I dom rx ry i1 i2 => ins_eq O ho (sb.mono O.rm (by omega)) I dom rx ry i1 i2 (.inl ⟨_, rfl⟩) h) (fun A0 H v => eqT_same (n := n) (EqT.ins ho h p q kk) v) (.inr ⟨_, _, rfl⟩) (.inr ⟨_, _, rfl⟩) fun _ _ _ _ q _ => .inl (is_ref_ins q)
  | @insv n C c fs e b ho hs h =>
    exact fun hn => eqG_of (fun A pins s σ H A0 x y v u sb I dom rx ry i1 i2 => ins_eq O ho (sb.mono O.rm (by omega)) I dom rx ry i1 i2 (.inr hs) h) (fun A0 H v => eqT_same (n := n) (EqT.insv ho hs h) v) (.inr ⟨_, _, rfl⟩) (.inl hs) fun _ _ _ _ q _ => .inl (is_ref_ins q)
  | @vins n C c fs e b ho hs h =>
    exact fun hn => eqG_of (vins_run O ho hs h _) (fun A0 H v => eqT_same (n := n) (EqT.vins ho hs h) v) (.inl hs) (.inr ⟨_, _, rfl⟩) fun _ _ _ _ _ q => .inr (is_ref_ins q)
end
end Xl


namespace Xl
open PySem PySem.Spec PyProof.Rows L2
/-! ### in, not in with instances; the rules for ==, !=, in, not in -/
section
open PySem.SeqAt PySem.AutoSeq1 PySem.MeetsSeq PySem.MeetsSeq2 PySem.MeetsSeq3 PySem.SeqRoads2
variable {prog : Program} {w : World} {A : Around} {R : Result → Shared → Prop} {E : Value → Shared → Prop} {s : Shared} {l : Addr} {x : Value} {xs : Array Value} {N : Nat} {e : Nat → Bool} {I : Shared → Prop}
theorem any_end : ((List.range N).drop N).any e = false := by rw [List.drop_eq_nil_of_le (by simp)]; rfl
theorem any_step {i : Nat} (h : i < N) : ((List.range N).drop i).any e = (e i || ((List.range N).drop (i + 1)).any e) := by
  rw [List.drop_eq_getElem_cons (by simpa using h)]
  simp
def InI (prog : Program) (w : World) (A : Around) (E : Value → Shared → Prop) (l : Addr) (x : Value) (N : Nat) (e : Nat → Bool) (I : Shared → Prop) : Prop := ∀ s, I s → ∃ (xs : Array Value) (n : Nat), s.heap.get? l = some { cls := .type "list", data := .seq xs n } ∧ xs.size = N ∧
    ∀ i (h1 : i < xs.size), wpAny (model prog w) A.in1 (eqBool xs[i] x) (fun r t => r = e i ∧ I t) E s
theorem inLoop (hI : InI prog w A (fun x t => R (.error x) t) l x N e I) (fin : ∀ s, I s → R (.ok (.ret (.bool ((List.range N).any e)))) s) (k : Nat) :
    ∀ i : Nat, N - i = k → i ≤ N → ((List.range N).drop i).any e = (List.range N).any e → ∀ s, I s →
      wpAny (model prog w) A.in1 (Builtin.«list.__contains__.loop» ⟨[.ref l, x, rawInt i], []⟩) (GQ.FinOf prog w A R) (fun x t => R (.error x) t) s := by
  induction k with
  | zero =>
    intro i hk hi hv s h
    obtain ⟨xs, n, g1, z1, _⟩ := hI _ h
    have hf := fin s h
    rw [← hv, List.drop_eq_nil_of_le (by simp; omega)] at hf
    obtain ⟨hp, g, d, tk, os⟩ := s
    wp_walk using wpAny_loadPart' g1
    have no1 : xs[((i : Nat) : Int).toNat]? = none := by simp; omega
    rw [no1]
    wp_walk
    simpa using hf
  | succ k ih =>
    intro i hk hi hv s h
    obtain ⟨xs, n, g1, z1, turn⟩ := hI _ h
    have l0 : i < N := by omega
    have l1 : i < xs.size := by omega
    have go := turn i l1
    rw [any_step l0] at hv
    obtain ⟨hp, g, d, tk, os⟩ := s
    wp_walk using wpAny_loadPart' g1
    have yes1 : xs[((i : Nat) : Int).toNat]? = some xs[i] := by simp [l1]
    have up : ((i : Int) + 1) = ((i + 1 : Nat) : Int) := by omega
    rw [yes1]
    refine wpAny_bind (wpAny_mono go (fun r u z => ?_) fun _ _ x => x)
    obtain ⟨hr, hu⟩ := z
    subst hr
    have hf := fin u hu
    have next := ih (i + 1) (by omega) (by omega)
    cases ev : e i with
    | false =>
      rw [ev] at hv
      have next := next (by simpa using hv) u hu
      obtain ⟨hp2, g2, d2, tk2, os2⟩ := u
      wp_walk
      rw [up]
      refine ⟨plainId_quiet plain_contains_loop _, codeAny_builtin entry_contains_loop ?_⟩
      rw [Around.under_plainId plain_contains_loop _]
      exact next
    | true =>
      rw [ev] at hv
      rw [← hv] at hf
      obtain ⟨hp2, g2, d2, tk2, os2⟩ := u
      wp_walk
      simpa using hf
theorem lstIn (hI : InI prog w A (fun x t => R (.error x) t) l x N e I) (fin : ∀ s, I s → R (.ok (.ret (.bool ((List.range N).any e)))) s) (h : I s) :
    wpAny (model prog w) A.in1 (Builtin.«list.__contains__» ⟨[.ref l, x], []⟩) (GQ.FinOf prog w A R) (fun x t => R (.error x) t) s := by
  obtain ⟨xs, n, g1, z1, _⟩ := hI _ h
  have go := inLoop (A := A) (R := R) hI fin _ 0 rfl (Nat.zero_le _) rfl s h
  obtain ⟨hp, g, d, tk, os⟩ := s
  wp_walk using wpAny_loadPart' g1
  refine ⟨plainId_quiet plain_contains_loop _, codeAny_builtin entry_contains_loop ?_⟩
  rw [Around.under_plainId plain_contains_loop _]
  exact go
theorem tupIn {n1 : Nat} {d1 : Option Addr} {o1 : Array (Option Value)} (turn : ∀ i (h1 : i < xs.size) s, I s → wpAny (model prog w) A.in1 (eqBool xs[i] x) (fun r t => r = e i ∧ I t) (fun x t => R (.error x) t) s)
    (fin : ∀ s, I s → R (.ok (.ret (.bool ((List.range xs.size).any e)))) s) (gl : s.heap.get? l = some { cls := .type "tuple", dict := d1, data := .seq xs n1, slots := o1 }) (h : I s) :
    wpAny (model prog w) A.in1 (Builtin.«tuple.__contains__» ⟨[.ref l, x], []⟩) (GQ.FinOf prog w A R) (fun x t => R (.error x) t) s := by
  have here := h
  obtain ⟨hp, g, d, tk, os⟩ := s
  wp_walk using wpAny_loadPart' gl, wpAny_forIn_array _ (fun rest c t => c.1 = none ∧ I t ∧ ∃ i, rest = xs.toList.drop i ∧ ((List.range xs.size).drop i).any e = (List.range xs.size).any e) _
  case turn =>
    rintro y rest c t ⟨hc, hI, i, hz, hv⟩
    have lt : i < xs.toList.length := Nat.lt_of_not_le fun q => by rw [List.drop_of_length_le q] at hz; cases hz
    have l1 : i < xs.size := by simpa using lt
    rw [List.drop_eq_getElem_cons lt] at hz
    obtain ⟨q1, q2⟩ := List.cons.inj hz
    obtain rfl : y = xs[i] := by simpa using q1
    rw [any_step l1] at hv
    refine wpAny_bind (wpAny_mono (turn i l1 t hI) (fun r u z => ?_) fun _ _ x => x)
    obtain ⟨hr, hu⟩ := z
    subst hr
    cases ev : e i with
    | false =>
      rw [ev] at hv
      wp_walk
      exact ⟨rfl, hu, i + 1, q2, by simpa using hv⟩
    | true =>
      rw [ev] at hv
      have hf := fin u hu
      rw [← hv] at hf
      wp_walk
      simpa using hf
  case fin =>
    rintro ⟨c1, c2⟩ t ⟨hc, hI, i, hz, hv⟩
    simp only at hc
    subst hc
    have ge : xs.size ≤ i := Nat.le_of_not_lt fun q => by rw [List.drop_eq_getElem_cons (by simpa using q)] at hz; cases hz
    have hf := fin t hI
    rw [← hv, List.drop_eq_nil_of_le (by simpa using ge)] at hf
    wp_walk
    simpa using hf
  case h => exact ⟨rfl, here, 0, by simp, rfl⟩
theorem contains_lst {Q : Bool → Shared → Prop} (hI : InI prog w A E l x N e I) (fin : ∀ s, I s → Q ((List.range N).any e) s) (h : I s) : wpAny (model prog w) A (contains (.ref l) x) Q E s := by
  obtain ⟨xs, n, g1, z1, _⟩ := hI _ h
  refine wpAny_contains_slot ⟨_, g1, rfl⟩ F.slot_list_contains (GQ.call_here F.slot_list_contains ⟨_, g1, rfl⟩ F.entry_list_contains (F.args_list_contains_2 _ _) ?_)
  exact lstIn (R := wants (fun v t => wpAny (model prog w) A (truthy v) Q E t) E) hI (fun t q => wpAny_truthy_bool (fin t q)) h
theorem contains_tup {Q : Bool → Shared → Prop} (gl : s.heap.IsTuple l xs) (turn : ∀ i (h1 : i < xs.size) s, I s → wpAny (model prog w) A.in1 (eqBool xs[i] x) (fun r t => r = e i ∧ I t) E s)
    (fin : ∀ s, I s → Q ((List.range xs.size).any e) s) (h : I s) : wpAny (model prog w) A (contains (.ref l) x) Q E s := by
  obtain ⟨⟨c1, d1, da1, o1⟩, a1, e1, n1, f1⟩ := id gl
  simp only at e1 f1
  subst e1 f1
  refine wpAny_contains_slot ⟨_, a1, rfl⟩ F.slot_tuple_contains (GQ.call_here F.slot_tuple_contains ⟨_, a1, rfl⟩ F.entry_tuple_contains (F.args_tuple_contains_2 _ _) ?_)
  exact tupIn (R := wants (fun v t => wpAny (model prog w) A (truthy v) Q E t) E) turn (fun t q => wpAny_truthy_bool (fin t q)) a1 h
end
section
variable {Rm : Nat → Around → Prop} {X : Cx} {k : Nat} {C : Addr} {c : CE} {os : Os}
/-- the items of a list or tuple -/
def seqOf : D → Option (List D)
  | .lst ds => some ds
  | .tup ds => some ds
  | _ => none
theorem in_item {n : Nat} {ds : List D} {e : D} {f : Nat → Bool} (ih : ∀ j d, ds[j]? = some d → EqG Rm X k n d e (f j)) {A : Around} {pins : List (Addr × Obj)} {s : Shared} {σ : L2.St} {H : Hp} {A0 : Fp} {vs : List V} {y : V} {u : Value} {its : List Value} (z : RmOk Rm) (sb : SubR Rm X (n + 1 + k) A) (dom : ∀ b, A0 b → ∃ o, H b = some o)
    (l1 : IsL A0 H vs ds) (iy : Is A0 H y e) (r1 : Vals vs its) (ry : RelV y u) (i : Nat) (h1 : i < its.toArray.size) (h : ∃ H', Inv X pins σ H' s ∧ Fw A0 H H') :
    wpAny (model X.prog X.w) A.in1 (eqBool its.toArray[i] u) (fun r t => r = f i ∧ ∃ H', Inv X pins σ H' t ∧ Fw A0 H H') X.xe s := by
  obtain ⟨H1, I1, f1⟩ := h
  have hj1 : i < vs.length := by rw [r1.length]; simpa using h1
  obtain ⟨dj, ed, id1⟩ := l1.get2 (List.getElem?_eq_getElem hj1)
  obtain ⟨w1, ew1, rw1⟩ := r1.get (List.getElem?_eq_getElem hj1)
  have q1 : its.toArray[i] = w1 := by
    have := ew1
    rw [List.getElem?_eq_getElem (by simpa using h1)] at this
    simpa using this
  rw [q1]
  refine thn (ih i dj ed A.in1 pins s σ H1 A0 _ _ w1 u (SubR.in1 z (sb.mono z (by omega))) I1 (fw_dom f1 dom) rw1 ry (id1.keep (keep_fw f1)) (iy.keep (keep_fw f1))) fun r t z => ?_
  obtain ⟨hr, H2, I2, f2⟩ := z
  exact ⟨hr, H2, I2, f1.trans f2⟩
theorem in_run {n : Nat} {t e : D} {ds : List D} {f : Nat → Bool} (ht : seqOf t = some ds) (ih : ∀ j d, ds[j]? = some d → EqG Rm X k n d e (f j)) (A : Around) (pins : List (Addr × Obj)) (s : Shared) (σ : L2.St) (H : Hp) (A0 : Fp) (x y : V) (v u : Value) (z : RmOk Rm) (sb : SubR Rm X (n + 1 + k) A) (I : Inv X pins σ H s) (dom : ∀ b, A0 b → ∃ o, H b = some o)
    (rx : RelV x v) (ry : RelV y u) (i1 : Is A0 H x t) (i2 : Is A0 H y e) : wpAny (model X.prog X.w) A (contains v u) (fun r s' => r = (List.range ds.length).any f ∧ ∃ H', Inv X pins σ H' s' ∧ Fw A0 H H') X.xe s := by
  cases i1 with
  | @tup a vs _ e1 _ l1 =>
    cases ht
    cases rx
    obtain ⟨its, r1, p1, _⟩ := I.tuple (SqT.of e1)
    have z1 : its.toArray.size = ds.length := by rw [List.size_toArray, ← r1.length, l1.length]
    rw [← z1]
    exact contains_tup p1 (fun i h1 t ht => in_item ih z sb dom l1 i2 r1 ry i h1 ht) (fun t ht => ⟨rfl, ht⟩) ⟨H, I, Fz.refl _ _⟩
  | @lst a vs _ e1 _ l1 =>
    cases ht
    cases rx
    refine contains_lst (I := fun t => ∃ H', Inv X pins σ H' t ∧ Fw A0 H H') (fun t ht => ?_) (fun t ht => ⟨rfl, ht⟩) ⟨H, I, Fz.refl _ _⟩
    obtain ⟨H1, I1, f1⟩ := id ht
    obtain ⟨_, its, k1, r1, g1⟩ := I1.hok a _ (fw_at f1 e1 (fun _ q => by cases q))
    exact ⟨its.toArray, k1, g1, by rw [List.size_toArray, ← r1.length, l1.length], fun i h1 => in_item ih z sb dom l1 i2 r1 ry i h1 ht⟩
  | _ => cases ht
/-- x in xs, x not in xs -/
def rInT (os : Os) (neg : Bool) : CR2 := fun e t R => match seqOf t with
  | some ds => ∃ f, (∀ j d, ds[j]? = some d → EqT os 4 d e (f j)) ∧ R (.bl (neg ^^ (List.range ds.length).any f))
  | none => False
theorem od_inT (O : OsOk Rm X k os) (hr : Rm (5 + k) X.A) : OpR X (compareOp .In) (liftRo (rInT os false)) := by
  rintro pins s σ H x y v u Q I rx ry ⟨A, d1, d2, R, dom, i1, i2, h, kk⟩
  unfold rInT at h
  split at h
  · next ds q =>
    obtain ⟨f, hf, hR⟩ := h
    show wpAny (model X.prog X.w) X.A (do return Value.bool (← contains u v)) _ _ s
    refine wpAny_bind (thn (in_run q (fun j d hj => eqT_run O (hf j d hj) (by omega)) X.A pins s σ H A y x u v O.rm ⟨hr, rfl⟩ I dom ry rx i2 i1) fun r s' z => ?_)
    obtain ⟨rfl, H', I', f1⟩ := z
    exact wpAny_pure ⟨.bl _, H', I', rfl, kk _ _ _ (by simpa using hR) f1 (.bl _)⟩
  · exact h.elim
theorem od_ninT (O : OsOk Rm X k os) (hr : Rm (5 + k) X.A) : OpR X (compareOp .NotIn) (liftRo (rInT os true)) := by
  rintro pins s σ H x y v u Q I rx ry ⟨A, d1, d2, R, dom, i1, i2, h, kk⟩
  unfold rInT at h
  split at h
  · next ds q =>
    obtain ⟨f, hf, hR⟩ := h
    show wpAny (model X.prog X.w) X.A (do return Value.bool (!(← contains u v))) _ _ s
    refine wpAny_bind (thn (in_run q (fun j d hj => eqT_run O (hf j d hj) (by omega)) X.A pins s σ H A y x u v O.rm ⟨hr, rfl⟩ I dom ry rx i2 i1) fun r s' z => ?_)
    obtain ⟨rfl, H', I', f1⟩ := z
    exact wpAny_pure ⟨.bl _, H', I', rfl, kk _ _ _ (by simpa using hR) f1 (.bl _)⟩
  · exact h.elim
/-- ==: lists, tuples, instances, an int before an instance -/
def rEqT (os : Os) : CR2 := fun d e R => match d, e with
  | .tup ds, .tup es => ∃ f, (∀ j d e, ds[j]? = some d → es[j]? = some e → EqT os 4 d e (f j)) ∧ R (.bl ((List.range (min ds.length es.length)).all f && ds.length == es.length))
  | .lst ds, .lst es => ∃ f, (∀ j d e, ds[j]? = some d → es[j]? = some e → EqT os 4 d e (f j)) ∧ R (.bl (ds.length == es.length && (List.range ds.length).all f))
  | .ins C fs, .ins C' gs => ∃ c b, (C, c) ∈ os ∧ C' = C ∧ c [.sh (.ins C fs), .sh (.ins C' gs)] (fun r _ => r = .bl b) FX ∧ R (.bl b)
  | .ins C fs, e => ∃ c b, (C, c) ∈ os ∧ (tyN e).isSome = true ∧ c [.sh (.ins C fs), .sh e] (fun r _ => r = .bl b) FX ∧ R (.bl b)
  | e, .ins C fs => ∃ c b, (C, c) ∈ os ∧ (tyN e).isSome = true ∧ c [.sh (.ins C fs), .sh e] (fun r _ => r = .bl b) FX ∧ R (.bl b)
  | .int i, .int j => R (.bl (i == j))
  | _, _ => False
theorem rc_end {op : CmpOp} {b : Bool} {pins : List (Addr × Obj)} {s : Shared} {σ : L2.St} {H : Hp} {A0 : Fp} {v u : Value} {Q : VK} {R : D → Prop} (hcmp : compareOp op v u = richCompare op v u) (h : wpAny (model X.prog X.w) X.A (richCompare op v u) (fun r s' => r = .bool b ∧ ∃ H', Inv X pins σ H' s' ∧ Fw A0 H H') X.xe s) (hR : R (.bl b)) (kk : ∀ d v H', R d → Fw A0 H H' → Is A0 H' v d → Q v H') : wpAny (model X.prog X.w) X.A (compareOp op v u) (EP X pins σ Q) X.xe s := by
  rw [hcmp]
  refine thn h fun r s' z => ?_
  obtain ⟨rfl, H', I', f1⟩ := z
  exact ⟨.bl _, H', I', rfl, kk _ _ _ hR f1 (.bl _)⟩
theorem od_eqT (O : OsOk Rm X k os) (hr : Rm (5 + k) X.A) : OpR X (compareOp .Eq) (liftRo (rEqT os)) := by
  rintro pins s σ H x y v u Q I rx ry ⟨A, d1, d2, R, dom, i1, i2, h, kk⟩
  unfold rEqT at h
  split at h
  · next ds es =>
    obtain ⟨f, hf, hR⟩ := h
    exact rc_end rfl (tup_run O.rm (n := 4) (fun j d e h1 h2 => eqT_run O (hf j d e h1 h2) (by omega)) X.A pins s σ H A x y v u ⟨hr, rfl⟩ I dom rx ry i1 i2) hR kk
  · next ds es =>
    obtain ⟨f, hf, hR⟩ := h
    exact rc_end rfl (lst_run O.rm (n := 4) (fun j d e h1 h2 => eqT_run O (hf j d e h1 h2) (by omega)) X.A pins s σ H A x y v u ⟨hr, rfl⟩ I dom rx ry i1 i2) hR kk
  · next C fs C' gs =>
    obtain ⟨c, b, ho, rfl, hc, hR⟩ := h
    exact rc_end rfl (ins_eq O ho ⟨O.rm.mono hr (by omega), rfl⟩ I dom rx ry i1 i2 (.inl ⟨_, rfl⟩) hc) hR kk
  · next C fs =>
    obtain ⟨c, b, ho, hs, hc, hR⟩ := h
    exact rc_end rfl (ins_eq O ho ⟨O.rm.mono hr (by omega), rfl⟩ I dom rx ry i1 i2 (.inr hs) hc) hR kk
  · next C fs _ _ =>
    obtain ⟨c, b, ho, hs, hc, hR⟩ := h
    exact rc_end rfl (vins_run O ho hs hc 4 X.A pins s σ H A x y v u ⟨O.rm.mono hr (by omega), rfl⟩ I dom rx ry i1 i2) hR kk
  · next i j =>
    cases i1
    cases i2
    obtain ⟨t, rfl⟩ := (show ∃ t, v = Value.int i t from rx)
    obtain ⟨t', rfl⟩ := (show ∃ t, u = Value.int j t from ry)
    exact PyProof.Rows.eq_int ⟨.bl _, H, I, rfl, kk _ _ _ h (Fz.refl _ _) (.bl _)⟩
  · exact h.elim
structure NeOk (X : Cx) (os : Os) : Prop where
  ok : ∀ C c, (C, c) ∈ os → PySem.W.findIn X.K (.ref C) "__ne__" = some (some (.builtin "object.__ne__")) ∧ PySem.W.mroIn X.K C (.type "object") = some true
theorem ins_ne (O : OsOk Rm X k os) (Z : NeOk X os) (ho : (C, c) ∈ os) {A' : Around} {pins : List (Addr × Obj)} {σ : L2.St} {H : Hp} {s : Shared} {A0 : Fp} {x y : V} {v u : Value} {fs : List (Str × D)} {e : D} {b : Bool} (sb : SubR Rm X (k + 1) A') (I : Inv X pins σ H s) (dom : ∀ b, A0 b → ∃ o, H b = some o)
    (rx : RelV x v) (ry : RelV y u) (i1 : Is A0 H x (.ins C fs)) (i2 : Is A0 H y e) (hk : (∃ gs, e = .ins C gs) ∨ (tyN e).isSome = true) (h : c [.sh (.ins C fs), .sh e] (fun r _ => r = .bl b) FX) :
    wpAny (model X.prog X.w) A' (richCompare .NotEq v u) (fun r s' => r = .bool (!b) ∧ ∃ H', Inv X pins σ H' s' ∧ Fw A0 H H') X.xe s := by
  obtain ⟨f, at_, fn, run⟩ := (O.ok C c ho).1
  obtain ⟨tb, lk, nf⟩ := cmp_look O ho I ry i2 hk
  have i1' := i1
  cases i1 with
  | ins e1 n l =>
    cases rx
    obtain ⟨mA, J, _⟩ := ins_get I.hok e1
    obtain ⟨od, J, _⟩ := J.look
    have hu : A'.units + 1 < cLine := by have := O.rm.units sb.room; omega
    refine ne_K hu I.kIn J lk nf (Z.ok C c ho).1 at_ fn (Z.ok C c ho).2 (thn (run (sb.in1 O.rm) I dom i1' i2 ry h) fun r s' q => ?_)
    obtain ⟨rfl, q⟩ := q
    exact ⟨b, rfl, rfl, q⟩
def rNeT (os : Os) : CR2 := fun d e R => match d, e with
  | .tup ds, .tup es => ∃ f, (∀ j d e, ds[j]? = some d → es[j]? = some e → EqT os 4 d e (f j)) ∧ R (.bl (!((List.range (min ds.length es.length)).all f && ds.length == es.length)))
  | .ins C fs, .ins C' gs => ∃ c b, (C, c) ∈ os ∧ C' = C ∧ c [.sh (.ins C fs), .sh (.ins C' gs)] (fun r _ => r = .bl b) FX ∧ R (.bl (!b))
  | .ins C fs, e => ∃ c b, (C, c) ∈ os ∧ (tyN e).isSome = true ∧ c [.sh (.ins C fs), .sh e] (fun r _ => r = .bl b) FX ∧ R (.bl (!b))
  | .int i, .int j => R (.bl (i != j))
  | _, _ => False
theorem od_neT (O : OsOk Rm X k os) (Z : NeOk X os) (hr : Rm (5 + k) X.A) : OpR X (compareOp .NotEq) (liftRo (rNeT os)) := by
  rintro pins s σ H x y v u Q I rx ry ⟨A, d1, d2, R, dom, i1, i2, h, kk⟩
  unfold rNeT at h
  split at h
  · next ds es =>
    obtain ⟨f, hf, hR⟩ := h
    exact rc_end rfl (tupN_run O.rm (n := 4) (fun j d e h1 h2 => eqT_run O (hf j d e h1 h2) (by omega)) X.A pins s σ H A x y v u ⟨hr, rfl⟩ I dom rx ry i1 i2) hR kk
  · next C fs C' gs =>
    obtain ⟨c, b, ho, rfl, hc, hR⟩ := h
    exact rc_end rfl (ins_ne O Z ho ⟨O.rm.mono hr (by omega), rfl⟩ I dom rx ry i1 i2 (.inl ⟨_, rfl⟩) hc) hR kk
  · next C fs =>
    obtain ⟨c, b, ho, hs, hc, hR⟩ := h
    exact rc_end rfl (ins_ne O Z ho ⟨O.rm.mono hr (by omega), rfl⟩ I dom rx ry i1 i2 (.inr hs) hc) hR kk
  · next i j =>
    cases i1
    cases i2
    obtain ⟨t, rfl⟩ := (show ∃ t, v = Value.int i t from rx)
    obtain ⟨t', rfl⟩ := (show ∃ t, u = Value.int j t from ry)
    exact PyProof.Rows.ne_int ⟨.bl _, H, I, rfl, kk _ _ _ h (Fz.refl _ _) (.bl _)⟩
  · exact h.elim
theorem MeI.mono {P : Program} {w : World} {K : PySem.W.Frag} {mg : Str → Option Value} {base : Heap} {C : Addr} {m : Str} {j k : Nat} {sp : Sp} (F : MeI P w K mg base C m j sp) (h : j ≤ k) : MeI P w K mg base C m k sp := by
  obtain ⟨f, fd, ps, cl, M, G, hb⟩ := F.ex
  exact ⟨f, fd, ps, cl, M, G.mono h, hb⟩
theorem OsOk.nil (z : RmOk Rm) : OsOk Rm X k [] := ⟨z, fun _ _ h => by cases h⟩
theorem OsOk.cons {j : Nat} (F : OwnR Rm X j C c) (hj : j ≤ k) (hn : ∀ t ∈ tyNs, PySem.W.notFirst X.K C (.type t) = true) (hs : ∀ t ∈ tyNs, PySem.W.subIn X.K (.ref C) (.type t) = some false) (O : OsOk Rm X k os) : OsOk Rm X k ((C, c) :: os) := ⟨O.rm, fun C' c' h => by
  rcases List.mem_cons.mp h with e | h
  · cases e
    exact ⟨F.mono O.rm hj, hn, hs⟩
  · exact O.ok C' c' h⟩
theorem NeOk.nil : NeOk X [] := ⟨fun _ _ h => by cases h⟩
theorem NeOk.cons (h1 : PySem.W.findIn X.K (.ref C) "__ne__" = some (some (.builtin "object.__ne__"))) (h2 : PySem.W.mroIn X.K C (.type "object") = some true) (O : NeOk X os) : NeOk X ((C, c) :: os) := ⟨fun C' c' h => by
  rcases List.mem_cons.mp h with e | h
  · cases e
    exact ⟨h1, h2⟩
  · exact O.ok C' c' h⟩
end
end Xl


namespace Xl
open PySem PySem.Spec PyProof.Rows L2
/-! ### own methods asked in an except suite (defs that neither raise nor walk) -/
structure FnQ (P : Program) (w : World) (K : PySem.W.Frag) (mg : Str → Option Value) (base : Heap) (CX : CXT) (k : Nat) (f : Addr) (fd : FuncData) (ps : List Str) (sp : Sp) : Prop where
  len : ∀ vs H Q E, sp vs H Q E → vs.length = ps.length
  run : ∀ (A : Around) (outer : List Env) (s : Shared) (H : Hp) (args : Args) (us : List Value) (vs : List V) (Q : VK) (E : XK) (p : Addr × Obj), L2H.RoomH k A → L2H.PinOk outer H s p → Env0 P w K mg base A outer s H → BindsTo s fd args (ps.zip us) → Vals vs us → sp vs H Q E → codeAny (model P w) A (.call (.ref f) args) (CR CX outer P w H s Q E) s
section
variable {P : Program} {w : World} {K : PySem.W.Frag} {mg : Str → Option Value} {base : Heap}
/-- such a def, by its body's reading -/
theorem fnQ_of {CX : CXT} {k : Nat} {f : Addr} {name qual : Str} {params : Arguments} {body : List Stmt} {scope : Scope} {dV kV doc pm cdv ct oc : Value} {an od : Option Addr} {osl : Array (Option Value)} {N ps : List Str} {sp : Sp}
    (lk : K.lookup f = some ⟨oc, od, .func (PySem.W.fnOf name qual params body scope dV kV doc pm an cdv ct), osl⟩) (cdIn : PySem.W.codeIn K cdv qual = true) (S : FnScope N ps scope) (len : ∀ vs H Q E, sp vs H Q E → vs.length = ps.length)
    (hb : ∀ (A : Around) (outer : List Env) (s : Shared) (H : Hp) (vs : List V) (Q : VK) (E : XK) (p : Addr × Obj), L2H.RoomH k (A.deeper (envOfC qual scope s.heap.objs.size f cdv)) → sp vs H Q E →
      ∃ t, PSs (L2H.cxH CX P w K mg base N qual scope f cdv A outer s H E p) body t ∧ t { nx := fun _ H' => Q .non H', rt := Q } (L2.start N vs) H) : FnQ P w K mg base CX (k + 1) f (PySem.W.fnOf name qual params body scope dV kV doc pm an cdv ct) ps sp := by
  refine ⟨len, fun A outer s H args us vs Q E p hr pin env0 bnd rv hsp => ?_⟩
  have lenv := len _ _ _ _ hsp
  have inK : K.In s.heap := env0.mod.kin.keeps fun b o e => (env0.bs b o e).1
  have nolim : s.heap.NoLimit := env0.mod.nolimit.keeps fun b o e => (env0.bs b o e).1
  have kinds : ∀ y ∈ ps.zip us, scope.names.lookup y.1 = some .local ∨ (scope.names.lookup y.1 = some .cell ∧ ((cellsFrom (s.heap.objs.size + 1) scope.names []).lookup y.1).isSome = true) := by
    rintro ⟨n, v⟩ hy
    exact (S.par n (List.of_mem_zip hy).1).imp id fun q => ⟨q, PySem.W.cellsFrom_some _ _ _ (.inl q)⟩
  refine codeAny_call_function hr.depth (inK _ _ lk) rfl S.co S.gen rfl (PySem.W.codeRec_of inK cdIn) (bnd _ _ _ _ ?_)
  refine wpAny_newFunctionEnv_cells S.kind kinds fun env he s1 x => ?_
  subst he
  refine ⟨nolim.keeps x.toInCall.keep, codeAny_func ?_⟩
  obtain ⟨t, ht, hq⟩ := hb A outer s H vs Q E p (hr.deeper _) hsp
  have I : Inv (L2H.cxH CX P w K mg base N qual scope f cdv A outer s H E p) [] (L2.start N vs) H s1 := L2H.inv_startH S pin env0 lenv rv x
  refine wpAny_mono (ht.run [] s1 (L2.start N vs) H _ I hq) (fun fl u z => ?_) fun _ _ z => z
  cases fl with
  | ret r =>
    obtain ⟨v, σ', H', J, rv', q⟩ := z
    exact ⟨v, H', J.os, J.bare, J.base, J.hok, rv', q⟩
  | next =>
    obtain ⟨σ', H', J, q⟩ := z
    exact ⟨V.non, H', J.os, J.bare, J.base, J.hok, rfl, q⟩
  | brk =>
    obtain ⟨_, _, _, q⟩ := z
    exact q.elim
  | cont =>
    obtain ⟨_, _, _, q⟩ := z
    exact q.elim
theorem okDQ {x qual : Str} {st : Stmt} {f : Addr} {fd : FuncData} {N ps : List Str} {k m : Nat} {t : CS} (F : Fun K x qual st f fd) (S : FnScope N ps (defScope st)) (hm : N.length = ps.length + m)
    (hbody : ∀ (cdv : Value) (A : Around) (outer : List Env) (s : Shared) (H : Hp) (E : XK) (p : Addr × Obj), L2H.RoomH k (A.deeper (envOfC qual (defScope st) s.heap.objs.size f cdv)) → Takes (L2H.cxH (L2.CX P w) P w K mg base N qual (defScope st) f cdv A outer s H E p) (fun cls d _ H => E cls d H) →
      PSsD (L2H.cxH (L2.CX P w) P w K mg base N qual (defScope st) f cdv A outer s H E p) (fun cls d _ H => E cls d H) (defBody st) t) : FnQ P w K mg base (L2.CX P w) (k + 1) f fd ps (spD (cBody ps.length m t)) := by
  obtain ⟨oc, od, kV, doc, pm, an, cdv, ct, osl, rfl, lk, cdIn⟩ := F.ex
  refine fnQ_of lk cdIn S (fun vs H Q E ⟨B, M, αs, R, RX, er, hc, _⟩ => ?_) fun A outer s H vs Q E p hr ⟨B, M, αs, R, RX, er, hc, k1, k2⟩ => ?_
  · have := er.len
    rw [List.length_map] at this
    rw [this]
    exact hc.1
  · refine ⟨_, hbody cdv A outer s H E p hr (takes_of rfl rfl rfl rfl), ?_⟩
    have hl : vs.length = ps.length := by
      have := er.len
      rw [List.length_map] at this
      rw [this]
      exact hc.1
    have hs : L2.start N vs = vs.map some ++ List.replicate m none := by
      unfold L2.start
      rw [show N.length - vs.length = m by omega]
    rw [hs]
    refine ⟨B, M, _, _, er.pad m, hc.2, ⟨fun δ' σ' H' M' h1 er1 f1 => ?_, fun d δ' v σ' H' M' h1 i1 er1 f1 => ?_, fun _ _ _ _ h => h.elim, fun _ _ _ _ h => h.elim, fun C fs δ' σ' o H' M' h1 i1 er1 f1 => ?_⟩⟩
    · obtain ⟨M2, er2, f2⟩ := er1.take ps.length
      exact k1 .non _ .non _ H' M2 h1 .non er2 (f1.trans f2.fz)
    · obtain ⟨M2, er2, f2⟩ := er1.take ps.length
      exact k1 d _ v _ H' M2 h1 (i1.keep (Keep.fr f2.fz)) er2 (f1.trans f2.fz)
    · obtain ⟨M2, er2, f2⟩ := er1.take ps.length
      refine k2 C fs _ _ o H' M2 h1 (i1.less fun b z => z.imp id fun q => ?_) er2 (f1.trans f2.fz)
      rcases f2.grow b q with r | r
      · exact r
      · obtain ⟨u, e⟩ := er2.edom (.inr q)
        rw [r] at e
        cases e
structure MeQ (P : Program) (w : World) (K : PySem.W.Frag) (mg : Str → Option Value) (base : Heap) (C : Addr) (m : Str) (k : Nat) (sp : Sp) : Prop where
  ex : ∃ f fd ps, Cls K C ∧ Meth K C m f ∧ FnQ P w K mg base (L2.CX P w) k f fd ps sp ∧ Binds K fd ps []
end
section
variable {X : Cx} {k : Nat} {C : Addr} {c : CE} {z : Addr} {oz : Obj} {pn : List (Addr × Obj)}
theorem _root_.L2H.RoomH.units {k : Nat} {A : Around} (r : L2H.RoomH k A) : A.units + 64 < cLine := rm_hot.units r
theorem huS {k : Nat} (hr : Room k X.A) : (X.suite z pn).A.units + 1 < cLine := by have := hr.un; show X.A.units + 1 < cLine; omega
theorem u65S {k : Nat} (hr : Room k X.A) : (X.suite z pn).A.units + 65 < cLine := by have := hr.un; show X.A.units + 65 < cLine; omega
theorem room_suite {k : Nat} (hr : Room k X.A) : L2H.RoomH k (X.suite z pn).A := ⟨hr.dp, hr.un⟩
theorem own_hot (F : MeQ X.prog X.w X.K X.mg X.base C "__eq__" k (spD c)) : OwnR L2H.RoomH (X.suite z ((z, oz) :: pn)) k C c := by
  obtain ⟨f, fd, ps, cl, M, G, hb⟩ := F.ex
  refine ⟨f, M.at_, M.fn, fun {A' pins σ H s A0 a fs y u e b} sb I dom i1 i2 ry h => ?_⟩
  have q : spD c [.ref a, y] H (fun v' H' => v' = .bl b ∧ Fw A0 H H') E0 := by
    refine spD_of dom (.cons i1 (.cons i2 .nil)) h fun d v' H' hd f1 hv => ?_
    subst hd
    cases hv
    exact ⟨rfl, f1⟩
  have P1 := I.pin (z, oz) (List.mem_append_left _ List.mem_cons_self)
  have pin : L2H.PinOk X.stack H s (z, oz) := ⟨P1.1, P1.2.1, fun hm => (List.mem_cons.mp (I.stkSub z hm)).elim P1.2.2.1 P1.2.2.2.1, P1.2.2.2.2⟩
  have hl : [Value.ref a, u].length = ps.length := by
    have := G.len _ _ _ _ q
    simpa using this
  have b2 := hb s [.ref a, u] I.kIn (by rw [List.append_nil]; exact hl)
  rw [List.append_nil] at b2
  have e0 : Env0 X.prog X.w X.K X.mg X.base A' X.stack s H := by
    have e := I.env0
    exact ⟨by rw [sb.fr]; exact e.frames, e.mod, e.bs, e.bsz, e.funs, e.frf, e.hok, e.bare⟩
  refine wpAny_call (codeAny_mono (G.run A' X.stack s H ⟨[.ref a, u], []⟩ [.ref a, u] [.ref a, y] _ E0 (z, oz) sb.room pin e0 b2 (.cons rfl (.cons ry .nil)) q) fun r s' hq => ?_)
  cases r with
  | error e => exact (passL (X := X.suite z ((z, oz) :: pn))) pins σ H s e s' I hq
  | ok fl =>
    cases fl with
    | ret r =>
      obtain ⟨v', H', I', rv, ev, f⟩ := I.after hq
      subst ev
      exact ⟨rv, H', I', f⟩
    | next => exact False.elim hq
    | brk => exact False.elim hq
    | cont => exact False.elim hq
end
end Xl


namespace Xl
open PySem PySem.Spec PyProof.Rows L2
theorem lowD_str {n : Nat} {s : Str} : lowD (n + 1) (.str s) = true := rfl
theorem lowD_int {n : Nat} {i : Int} : lowD (n + 1) (.int i) = true := rfl
theorem lowD_bl {n : Nat} {b : Bool} : lowD (n + 1) (.bl b) = true := rfl
theorem lowD_non {n : Nat} : lowD (n + 1) .non = true := rfl
theorem eqN_str {n : Nat} {a b : Str} : eqN (n + 1) (.str a) (.str b) = decide (a = b) := by
  show (a == b) = _
  by_cases e : a = b
  · simp [e]
  · simp [e]
theorem eqN_int {n : Nat} {a b : Int} : eqN (n + 1) (.int a) (.int b) = decide (a = b) := by
  show (a == b) = _
  by_cases e : a = b
  · simp [e]
  · simp [e]
theorem eqN_bl {n : Nat} {a b : Bool} : eqN (n + 1) (.bl a) (.bl b) = decide (a = b) := by
  show (a == b) = _
  by_cases e : a = b
  · simp [e]
  · simp [e]
theorem eqN_non {n : Nat} : eqN (n + 1) .non .non = true := rfl
/-- what a place of a list holds -/
theorem atI_nat {α : Type} {xs : List α} {j : Nat} {x : α} (h : xs[j]? = some x) : atI xs (j : Int) = some x := by
  have hj := (List.getElem?_eq_some_iff.mp h).1
  unfold atI ixN
  rw [if_pos (Int.natCast_nonneg j), if_pos (by omega)]
  exact h
theorem atI_in {α : Type} {xs : List α} {i : Int} (h0 : 0 ≤ i) (h1 : i < xs.length) : ∃ x, atI xs i = some x ∧ xs[i.toNat]? = some x := by
  have hj : i.toNat < xs.length := by omega
  refine ⟨xs[i.toNat], ?_, List.getElem?_eq_getElem hj⟩
  have q := atI_nat (List.getElem?_eq_getElem hj)
  rwa [Int.toNat_of_nonneg h0] at q
theorem atI_neg1 {α : Type} {xs : List α} {x : α} (h : xs.getLast? = some x) : atI xs (-1) = some x := by
  rw [List.getLast?_eq_getElem?] at h
  have hj := (List.getElem?_eq_some_iff.mp h).1
  unfold atI ixN
  rw [if_neg (by decide), if_pos (by omega)]
  have e : ((-1 : Int) + xs.length).toNat = xs.length - 1 := by omega
  show xs[((-1 : Int) + xs.length).toNat]? = _
  rw [e]; exact h
section
variable {R : D → Prop} {i j : Int} {x y : Str} {xs ys : List D} {b : Bool} {kvs : List (Key × D)} {d : D}
theorem rAdd_ii : rAdd (.int i) (.int j) R = R (.int (i + j)) := propext Iff.rfl
theorem rAdd_ss : rAdd (.str x) (.str y) R = (x.length + y.length ≤ sizeLine ∧ R (.str (x ++ y))) := propext Iff.rfl
theorem rAdd_tt : rAdd (.tup xs) (.tup ys) R = (xs.length + ys.length ≤ sizeLine ∧ R (.tup (xs ++ ys))) := propext Iff.rfl
theorem rAdd_ll : rAdd (.lst xs) (.lst ys) R = (xs.length + ys.length ≤ sizeLine ∧ R (.lst (xs ++ ys))) := propext Iff.rfl
theorem rIII_ii {P : Int → Int → Prop} {f : Int → Int → Int} : rIII P f (.int i) (.int j) R = (P i j ∧ R (.int (f i j))) := propext Iff.rfl
theorem rOrd_ii {f : Int → Int → Bool} {g : List Nat → List Nat → Bool} : rOrd f g (.int i) (.int j) R = R (.bl (f i j)) := propext Iff.rfl
theorem rOrd_ss {f : Int → Int → Bool} {g : List Nat → List Nat → Bool} : rOrd f g (.str x) (.str y) R = R (.bl (g x.cps.toList y.cps.toList)) := propext Iff.rfl
theorem rIx_l : rIx (.lst xs) (.int i) R = ∃ d, atI xs i = some d ∧ R d := propext Iff.rfl
theorem rIx_t : rIx (.tup xs) (.int i) R = ∃ d, atI xs i = some d ∧ R d := propext Iff.rfl
theorem rIx_s : rIx (.str x) (.int i) R = ∃ c, x.length ≤ sizeLine ∧ atI x.cps.toList i = some c ∧ R (.str ⟨#[c]⟩) := propext Iff.rfl
theorem rIx_d : rIx (.dic kvs) d R = ∃ k d', keyD d = some k ∧ valD kvs k = some d' ∧ R d' := by cases d <;> rfl
theorem rInD_l {neg : Bool} : rInD' neg d (.lst xs) R = (lowD 63 d = true ∧ xs.all (lowD 63) = true ∧ R (.bl (neg ^^ xs.any fun z => eqN 63 z d))) := propext Iff.rfl
theorem rInD_t {neg : Bool} : rInD' neg d (.tup xs) R = (flatD d = true ∧ xs.all flatD = true ∧ R (.bl (neg ^^ xs.any fun z => eqN 63 z d))) := propext Iff.rfl
theorem rInD_s {neg : Bool} : rInD' neg (.str x) (.str y) R = ∃ c, x = ⟨#[c]⟩ ∧ R (.bl (neg ^^ decide (c ∈ y.cps.toList))) := propext Iff.rfl
theorem rInD_d {neg : Bool} : rInD' neg d (.dic kvs) R = ∃ k, keyD d = some k ∧ R (.bl (neg ^^ (valD kvs k).isSome)) := propext Iff.rfl
theorem rLen_l : rLen [.lst xs] R = R (.int xs.length) := propext Iff.rfl
theorem rLen_t : rLen [.tup xs] R = R (.int xs.length) := propext Iff.rfl
theorem rLen_s : rLen [.str x] R = (x.length ≤ sizeLine ∧ R (.int x.length)) := propext Iff.rfl
theorem rLen_d : rLen [.dic kvs] R = R (.int kvs.length) := propext Iff.rfl
theorem rInt_i : rInt [.int i] R = R (.int i) := propext Iff.rfl
theorem rInt_b : rInt [.bl b] R = R (.int (if b then 1 else 0)) := propext Iff.rfl
theorem rTup_l : rTupOf [.lst xs] R = R (.tup xs) := propext Iff.rfl
theorem rTup_t : rTupOf [.tup xs] R = R (.tup xs) := propext Iff.rfl
theorem rLst_l : rLstOf [.lst xs] R = R (.lst xs) := propext Iff.rfl
theorem rLst_t : rLstOf [.tup xs] R = R (.lst xs) := propext Iff.rfl
end
theorem atI_0 {α : Type} {a : α} {xs : List α} : atI (a :: xs) 0 = some a := by
  unfold atI ixN
  rw [if_pos (by decide), if_pos (by rw [List.length_cons]; omega)]
  rfl
theorem atI_1 {α : Type} {a b : α} {xs : List α} : atI (a :: b :: xs) 1 = some b := by
  unfold atI ixN
  rw [if_pos (by decide), if_pos (by rw [List.length_cons, List.length_cons]; omega)]
  rfl
theorem atI_2 {α : Type} {a b c : α} {xs : List α} : atI (a :: b :: c :: xs) 2 = some c := by
  unfold atI ixN
  rw [if_pos (by decide), if_pos (by rw [List.length_cons, List.length_cons, List.length_cons]; omega)]
  rfl
theorem rLst_d {kvs : List (Key × D)} {R : D → Prop} : rLstD [.dic kvs] R = R (.lst (dKeys kvs)) := propext Iff.rfl
theorem cForL_nil {g : CG} {tb : CS} {C : CEnds} {δ : DEnv} : cForL g tb C [] δ = C.nx δ := propext Iff.rfl
theorem cForL_cons {g : CG} {tb : CS} {C : CEnds} {d : D} {ds : List D} {δ : DEnv} : cForL g tb C (d :: ds) δ = g d δ fun δ1 => tb δ1 ⟨cForL g tb C ds, C.rt, C.nx, cForL g tb C ds, C.ex⟩ := propext Iff.rfl
theorem itD_l {xs : List D} : itD (.lst xs) = some xs := rfl
theorem itD_t {xs : List D} : itD (.tup xs) = some xs := rfl
theorem itD_s {x : Str} : itD (.str x) = some (x.cps.toList.map fun c => .str ⟨#[c]⟩) := rfl
theorem len1 {a : Nat} : (⟨#[a]⟩ : Str).length = 1 := rfl
theorem len_app (x y : Str) : (x ++ y).length = x.length + y.length := by
  show (x.cps ++ y.cps).size = _
  rw [Array.size_append]; rfl
theorem len_nil : (Str.ofString "").length = 0 := rfl
theorem ex_some {α : Type} {a : α} {Q : α → Prop} : (∃ d, some a = some d ∧ Q d) = Q a := propext ⟨fun ⟨_, e, h⟩ => (Option.some.inj e) ▸ h, fun h => ⟨a, rfl, h⟩⟩
theorem any_strs (z : Str) : ∀ f : List Str, (f.map D.str).any (fun y => eqN 63 y (.str z)) = decide (z ∈ f)
  | [] => rfl
  | y :: f => by
    rw [List.map_cons, List.any_cons, any_strs z f]
    show ((y == z) || decide (z ∈ f)) = _
    by_cases e : y = z
    · subst e; simp
    · have e2 : ¬ z = y := fun q => e q.symm
      simp [e, e2]
theorem low_strs (n : Nat) : ∀ f : List Str, (f.map D.str).all (lowD (n + 1)) = true
  | [] => rfl
  | _ :: f => by rw [List.map_cons, List.all_cons, low_strs n f]; rfl
/-- a for by an invariant -/
theorem for_inv {g : CG} {tb : CS} {C : CEnds} (I : Nat → DEnv → Prop) : ∀ (ds : List D) (δ : DEnv), I 0 δ →
    (∀ i d δ, ds[i]? = some d → I i δ → ∀ N : CEnds, N.rt = C.rt → N.ex = C.ex → N.bk = C.nx → (∀ δ, I (i + 1) δ → N.nx δ) → (∀ δ, I (i + 1) δ → N.ct δ) → g d δ fun δ1 => tb δ1 N) → (∀ δ, I ds.length δ → C.nx δ) → cForL g tb C ds δ
  | [], δ, h0, _, he => he δ h0
  | d :: ds, δ, h0, hs, he => by
    have ih : ∀ δ, I 1 δ → cForL g tb C ds δ := fun δ h => for_inv (fun i => I (i + 1)) ds δ h (fun i x δ e hi N n1 n2 n3 n4 n5 => hs (i + 1) x δ e hi N n1 n2 n3 n4 n5) he
    exact hs 0 d δ rfl h0 ⟨cForL g tb C ds, C.rt, C.nx, cForL g tb C ds, C.ex⟩ rfl rfl rfl ih ih
/-- a list comprehension by an invariant -/
theorem lc_inv {g : CG} {tt : CT} {te : CE} {vs : List Nat} {k : List D → DEnv → Prop} (I : Nat → DEnv → List D → Prop) : ∀ (ds : List D) (δ : DEnv) (acc : List D), I 0 δ acc →
    (∀ i d δ acc, ds[i]? = some d → I i δ acc → ∀ N : DEnv → List D → Prop, (∀ δ acc, I (i + 1) δ acc → N δ acc) → g d δ fun δ1 => tt δ1 (fun b δ2 => if b = true then te δ2 (fun y δ3 => acc.length < sizeLine ∧ N (wipeD δ3 vs) (acc ++ [y])) FX else N (wipeD δ2 vs) acc) FX) →
    (∀ δ acc, I ds.length δ acc → k acc δ) → cLcL g tt te vs k ds δ acc
  | [], δ, acc, h0, _, he => he δ acc h0
  | d :: ds, δ, acc, h0, hs, he => by
    have ih : ∀ δ acc, I 1 δ acc → cLcL g tt te vs k ds δ acc := fun δ acc h => lc_inv (fun i => I (i + 1)) ds δ acc h (fun i x δ acc e hi N n => hs (i + 1) x δ acc e hi N n) he
    exact hs 0 d δ acc rfl h0 (fun δ acc => cLcL g tt te vs k ds δ acc) ih
theorem rngD_get {lo : Int} {n i : Nat} {d : D} (h : (rngD lo n)[i]? = some d) : i < n ∧ d = .int (lo + i) := by
  have hi := (List.getElem?_eq_some_iff.mp h).1
  rw [rngD_len] at hi
  unfold rngD at h
  rw [List.getElem?_map, List.getElem?_range hi] at h
  cases h
  exact ⟨hi, rfl⟩
theorem rngD_get0 {n i : Nat} {d : D} (h : (rngD 0 n)[i]? = some d) : i < n ∧ d = .int (i : Int) := by
  obtain ⟨h1, h2⟩ := rngD_get h
  exact ⟨h1, by rw [h2, Int.zero_add]⟩
end Xl


namespace Xl
open PySem PySem.Spec PyProof.Rows L2
theorem cVar_c {i : Nat} {x0 : Sl} {δ : DEnv} {R : KV} {RX : KX} : cVar i (x0 :: δ) R RX = (match (x0 :: δ)[i]? with
  | some (.sh d) => R d (x0 :: δ)
  | some (.own ds) => R (.lst ds) ((x0 :: δ).set i (.sh (.lst ds)))
  | some (.obz _ d) => R d (x0 :: δ)
  | some (.obj a C fs) => R (.ins C fs) ((x0 :: δ).set i (.obz a (.ins C fs)))
  | _ => False) := propext Iff.rfl
theorem cC_c {d : D} {x0 : Sl} {δ : DEnv} {R : KV} {RX : KX} : cC d (x0 :: δ) R RX = (R d (x0 :: δ)) := propext Iff.rfl
theorem cOp_c {r : CR2} {ta tb : CE} {x0 : Sl} {δ : DEnv} {R : KV} {RX : KX} : cOp r ta tb (x0 :: δ) R RX = (ta (x0 :: δ) (fun d1 δ1 => tb δ1 (fun d2 δ2 => r d1 d2 fun d => R d δ2) RX) RX) := propext Iff.rfl
theorem cUn_c {r : CR1} {ta : CE} {x0 : Sl} {δ : DEnv} {R : KV} {RX : KX} : cUn r ta (x0 :: δ) R RX = (ta (x0 :: δ) (fun d1 δ1 => r d1 fun d => R d δ1) RX) := propext Iff.rfl
theorem cCB_c {r : List D → (D → Prop) → Prop} {t : CA} {x0 : Sl} {δ : DEnv} {R : KV} {RX : KX} : cCB r t (x0 :: δ) R RX = (t (x0 :: δ) (fun ds δ1 => r ds fun d => R d δ1) RX) := propext Iff.rfl
theorem caNil_c  {x0 : Sl} {δ : DEnv} {R : List D → DEnv → Prop} {RX : KX} : caNil  (x0 :: δ) R RX = (R [] (x0 :: δ)) := propext Iff.rfl
theorem caCons_c {ta : CE} {t : CA} {x0 : Sl} {δ : DEnv} {R : List D → DEnv → Prop} {RX : KX} : caCons ta t (x0 :: δ) R RX = (ta (x0 :: δ) (fun d δ1 => t δ1 (fun ds δ2 => R (d :: ds) δ2) RX) RX) := propext Iff.rfl
theorem cTup_c {t : CA} {x0 : Sl} {δ : DEnv} {R : KV} {RX : KX} : cTup t (x0 :: δ) R RX = (t (x0 :: δ) (fun ds δ1 => ds.length ≤ sizeLine ∧ R (.tup ds) δ1) RX) := propext Iff.rfl
theorem cLim_c {t : CA} {x0 : Sl} {δ : DEnv} {R : List D → DEnv → Prop} {RX : KX} : cLim t (x0 :: δ) R RX = (t (x0 :: δ) (fun ds δ1 => ds.length ≤ sizeLine ∧ R ds δ1) RX) := propext Iff.rfl
theorem cFr_c {t : CA} {x0 : Sl} {δ : DEnv} {R : KV} {RX : KX} : cFr t (x0 :: δ) R RX = (t (x0 :: δ) (fun ds δ1 => R (.lst ds) δ1) RX) := propext Iff.rfl
theorem cTst_c {ta : CE} {x0 : Sl} {δ : DEnv} {R : Bool → DEnv → Prop} {RX : KX} : cTst ta (x0 :: δ) R RX = (ta (x0 :: δ) (fun d δ1 => match d with
  | .bl b => R b δ1
  | _ => False) RX) := propext Iff.rfl
theorem cAnd_c {t u : CT} {x0 : Sl} {δ : DEnv} {R : Bool → DEnv → Prop} {RX : KX} : cAnd t u (x0 :: δ) R RX = (t (x0 :: δ) (fun c δ1 => if c = true then u δ1 R RX else R false δ1) RX) := propext Iff.rfl
theorem cOr_c {t u : CT} {x0 : Sl} {δ : DEnv} {R : Bool → DEnv → Prop} {RX : KX} : cOr t u (x0 :: δ) R RX = (t (x0 :: δ) (fun c δ1 => if c = true then R true δ1 else u δ1 R RX) RX) := propext Iff.rfl
theorem cNot_c {t : CT} {x0 : Sl} {δ : DEnv} {R : Bool → DEnv → Prop} {RX : KX} : cNot t (x0 :: δ) R RX = (t (x0 :: δ) (fun c δ1 => R (!c) δ1) RX) := propext Iff.rfl
theorem cTru_c {ta : CE} {x0 : Sl} {δ : DEnv} {R : Bool → DEnv → Prop} {RX : KX} : cTru ta (x0 :: δ) R RX = (ta (x0 :: δ) (fun d δ1 => tru d fun b => R b δ1) RX) := propext Iff.rfl
theorem cTruN_c {i : Nat} {x0 : Sl} {δ : DEnv} {R : Bool → DEnv → Prop} {RX : KX} : cTruN i (x0 :: δ) R RX = (match pk (x0 :: δ) i with
  | some d => tru d fun b => R b (x0 :: δ)
  | none => False) := propext Iff.rfl
theorem cIfE_c {t : CT} {ta tb : CE} {x0 : Sl} {δ : DEnv} {R : KV} {RX : KX} : cIfE t ta tb (x0 :: δ) R RX = (t (x0 :: δ) (fun c δ1 => if c = true then ta δ1 R RX else tb δ1 R RX) RX) := propext Iff.rfl
theorem cAndV_c {ta tb : CE} {x0 : Sl} {δ : DEnv} {R : KV} {RX : KX} : cAndV ta tb (x0 :: δ) R RX = (ta (x0 :: δ) (fun d δ1 => match d with
  | .bl c => if c = true then tb δ1 R RX else R (.bl false) δ1
  | _ => False) RX) := propext Iff.rfl
theorem cOrV_c {ta tb : CE} {x0 : Sl} {δ : DEnv} {R : KV} {RX : KX} : cOrV ta tb (x0 :: δ) R RX = (ta (x0 :: δ) (fun d δ1 => match d with
  | .bl c => if c = true then R (.bl true) δ1 else tb δ1 R RX
  | _ => False) RX) := propext Iff.rfl
theorem cNotV_c {ta : CT} {x0 : Sl} {δ : DEnv} {R : KV} {RX : KX} : cNotV ta (x0 :: δ) R RX = (ta (x0 :: δ) (fun c δ1 => R (.bl (!c)) δ1) RX) := propext Iff.rfl
theorem cNotE_c {ta : CE} {x0 : Sl} {δ : DEnv} {R : KV} {RX : KX} : cNotE ta (x0 :: δ) R RX = (ta (x0 :: δ) (fun d δ1 => match d with
  | .bl c => R (.bl (!c)) δ1
  | _ => False) RX) := propext Iff.rfl
theorem cSeq_c {t u : CS} {x0 : Sl} {δ : DEnv} {C : CEnds} : cSeq t u (x0 :: δ) C = (t (x0 :: δ) { C with nx := fun δ1 => u δ1 C }) := propext Iff.rfl
theorem cNext_c  {x0 : Sl} {δ : DEnv} {C : CEnds} : cNext  (x0 :: δ) C = (C.nx (x0 :: δ)) := propext Iff.rfl
theorem cDrop_c {t : CE} {x0 : Sl} {δ : DEnv} {C : CEnds} : cDrop t (x0 :: δ) C = (t (x0 :: δ) (fun _ δ1 => C.nx δ1) C.ex) := propext Iff.rfl
theorem cRet_c {t : CE} {x0 : Sl} {δ : DEnv} {C : CEnds} : cRet t (x0 :: δ) C = (t (x0 :: δ) C.rt C.ex) := propext Iff.rfl
theorem cRetN_c  {x0 : Sl} {δ : DEnv} {C : CEnds} : cRetN  (x0 :: δ) C = (C.rt .non (x0 :: δ)) := propext Iff.rfl
theorem cIf_c {c : CT} {u v : CS} {x0 : Sl} {δ : DEnv} {C : CEnds} : cIf c u v (x0 :: δ) C = (c (x0 :: δ) (fun b δ1 => if b = true then u δ1 C else v δ1 C) C.ex) := propext Iff.rfl
theorem cBrk_c  {x0 : Sl} {δ : DEnv} {C : CEnds} : cBrk  (x0 :: δ) C = (C.bk (x0 :: δ)) := propext Iff.rfl
theorem cCnt_c  {x0 : Sl} {δ : DEnv} {C : CEnds} : cCnt  (x0 :: δ) C = (C.ct (x0 :: δ)) := propext Iff.rfl
theorem cSet_c {i : Nat} {t : CE} {x0 : Sl} {δ : DEnv} {C : CEnds} : cSet i t (x0 :: δ) C = (t (x0 :: δ) (fun d δ1 => i < δ1.length ∧ C.nx (δ1.set i (.sh d))) C.ex) := propext Iff.rfl
theorem cSetO_c {i : Nat} {t : CA} {x0 : Sl} {δ : DEnv} {C : CEnds} : cSetO i t (x0 :: δ) C = (t (x0 :: δ) (fun ds δ1 => i < δ1.length ∧ C.nx (δ1.set i (.own ds))) C.ex) := propext Iff.rfl
theorem cgN_c {i : Nat} {d : D} {x0 : Sl} {δ : DEnv} {R : DEnv → Prop} : cgN i d (x0 :: δ) R = (i < (x0 :: δ).length ∧ R ((x0 :: δ).set i (.sh d))) := propext Iff.rfl
theorem cgNil_c  {ds : List D} {x0 : Sl} {δ : DEnv} {R : DEnv → Prop} : cgNil  ds (x0 :: δ) R = (match ds with
  | [] => R (x0 :: δ)
  | _ => False) := propext Iff.rfl
theorem cgCons_c {g : CG} {u : CGs} {ds : List D} {x0 : Sl} {δ : DEnv} {R : DEnv → Prop} : cgCons g u ds (x0 :: δ) R = (match ds with
  | d :: r => g d (x0 :: δ) fun δ1 => u r δ1 R
  | [] => False) := propext Iff.rfl
theorem cgT_c {n : Nat} {g : CGs} {d : D} {x0 : Sl} {δ : DEnv} {R : DEnv → Prop} : cgT n g d (x0 :: δ) R = (match d with
  | .tup ds => ds.length = n ∧ g ds (x0 :: δ) R
  | _ => False) := propext Iff.rfl
theorem cAsg_c {t : CE} {g : CG} {x0 : Sl} {δ : DEnv} {C : CEnds} : cAsg t g (x0 :: δ) C = (t (x0 :: δ) (fun d δ1 => g d δ1 C.nx) C.ex) := propext Iff.rfl
theorem ciSeq_c {ta : CE} {x0 : Sl} {δ : DEnv} {R : List D → DEnv → Prop} {RX : KX} : ciSeq ta (x0 :: δ) R RX = (ta (x0 :: δ) (fun d δ1 => match itD d with
  | some ds => R ds δ1
  | none => False) RX) := propext Iff.rfl
theorem ciRng1_c {t : CA} {x0 : Sl} {δ : DEnv} {R : List D → DEnv → Prop} {RX : KX} : ciRng1 t (x0 :: δ) R RX = (t (x0 :: δ) (fun ds δ1 => match ds with
  | [.int j] => -(2 ^ 62) ≤ j ∧ j < 2 ^ 62 ∧ R (rngD 0 j.toNat) δ1
  | _ => False) RX) := propext Iff.rfl
theorem ciRng2_c {t : CA} {x0 : Sl} {δ : DEnv} {R : List D → DEnv → Prop} {RX : KX} : ciRng2 t (x0 :: δ) R RX = (t (x0 :: δ) (fun ds δ1 => match ds with
  | [.int i, .int j] => (-(2 ^ 62) ≤ i ∧ i < 2 ^ 62 ∧ -(2 ^ 62) ≤ j ∧ j < 2 ^ 62) ∧ R (rngD i (j - i).toNat) δ1
  | _ => False) RX) := propext Iff.rfl
theorem cFor_c {ti : CA} {g : CG} {tb : CS} {x0 : Sl} {δ : DEnv} {C : CEnds} : cFor ti g tb (x0 :: δ) C = (ti (x0 :: δ) (fun ds δ1 => cForL g tb C ds δ1) C.ex) := propext Iff.rfl
theorem cYes_c  {x0 : Sl} {δ : DEnv} {R : Bool → DEnv → Prop} {RX : KX} : cYes  (x0 :: δ) R RX = (R true (x0 :: δ)) := propext Iff.rfl
theorem cLc_c {ti : CA} {g : CG} {tt : CT} {te : CE} {vs : List Nat} {x0 : Sl} {δ : DEnv} {R : List D → DEnv → Prop} {RX : KX} : cLc ti g tt te vs (x0 :: δ) R RX = (ti (x0 :: δ) (fun ds δ1 => cLcL g tt te vs (fun acc δ2 => R acc (rstD δ1 δ2 vs)) ds (wipeD δ1 vs) []) RX) := propext Iff.rfl
theorem cCall_c {c : CE} {t : CA} {x0 : Sl} {δ : DEnv} {R : KV} {RX : KX} : cCall c t (x0 :: δ) R RX = (t (x0 :: δ) (fun ds δ1 => c (ds.map .sh) (fun d _ => R d δ1) fun C fs _ => RX C fs δ1) RX) := propext Iff.rfl
theorem cCallS_c {i : Nat} {c : CE} {t : CA} {x0 : Sl} {δ : DEnv} {R : KV} {RX : KX} : cCallS i c t (x0 :: δ) R RX = ((match (x0 :: δ)[i]? with | some (.st _ _) => True | _ => False) ∧ t (x0 :: δ) (fun ds δ1 => match δ1[i]? with
  | some (.st s n) => c (.st s n :: ds.map .sh) (fun d αs => stAt αs s fun n' => R d (δ1.set i (.st s n'))) fun C fs αs => stAt αs s fun n' => RX C fs (δ1.set i (.st s n'))
  | _ => False) RX) := propext Iff.rfl
theorem cAppend_c {i : Nat} {ta : CE} {x0 : Sl} {δ : DEnv} {C : CEnds} : cAppend i ta (x0 :: δ) C = (ownAt (x0 :: δ) i (fun _ => True) ∧ ta (x0 :: δ) (fun d δ1 => ownAt δ1 i fun ds => ds.length < sizeLine ∧ C.nx (δ1.set i (.own (ds ++ [d])))) C.ex) := propext Iff.rfl
theorem cPop_c {i : Nat} {x0 : Sl} {δ : DEnv} {R : KV} {RX : KX} : cPop i (x0 :: δ) R RX = (ownAt (x0 :: δ) i fun ds => ∃ d, ds[ds.length - 1]? = some d ∧ R d ((x0 :: δ).set i (.own ds.dropLast))) := propext Iff.rfl
theorem cPopAt_c {i : Nat} {ta : CE} {x0 : Sl} {δ : DEnv} {R : KV} {RX : KX} : cPopAt i ta (x0 :: δ) R RX = (ownAt (x0 :: δ) i (fun _ => True) ∧ ta (x0 :: δ) (fun a δ1 => match a with
  | .int j => ownAt δ1 i fun ds => ∃ k d, -(2 ^ 63) ≤ j ∧ j < 2 ^ 63 ∧ seqIndex? j ds.length = some k ∧ ds[k]? = some d ∧ R d (δ1.set i (.own (ds.eraseIdx k)))
  | _ => False) RX) := propext Iff.rfl
theorem cInsert_c {i : Nat} {t : CA} {x0 : Sl} {δ : DEnv} {C : CEnds} : cInsert i t (x0 :: δ) C = (ownAt (x0 :: δ) i (fun _ => True) ∧ t (x0 :: δ) (fun as δ1 => match as with
  | [.int j, d] => ownAt δ1 i fun ds => ds.length < sizeLine ∧ 0 ≤ j ∧ j < 2 ^ 63 ∧ C.nx (δ1.set i (.own (ds.take j.toNat ++ [d] ++ ds.drop j.toNat)))
  | _ => False) C.ex) := propext Iff.rfl
theorem cPutIx_c {i : Nat} {tv tj : CE} {x0 : Sl} {δ : DEnv} {C : CEnds} : cPutIx i tv tj (x0 :: δ) C = (tv (x0 :: δ) (fun d δ0 => ownAt δ0 i (fun _ => True) ∧ tj δ0 (fun a δ1 => match a with
  | .int j => ownAt δ1 i fun ds => ∃ k, ixN ds.length j = some k ∧ C.nx (δ1.set i (.own (ds.set k d)))
  | _ => False) C.ex) C.ex) := propext Iff.rfl
theorem cOp1_c {r : CR2} {i : Nat} {tb : CE} {x0 : Sl} {δ : DEnv} {R : KV} {RX : KX} : cOp1 r i tb (x0 :: δ) R RX = (pkAt (x0 :: δ) i (fun _ => True) ∧ tb (x0 :: δ) (fun d2 δ1 => pkAt δ1 i fun d1 => r d1 d2 fun d => flatD d = true ∧ R d δ1) RX) := propext Iff.rfl
theorem cOp2_c {r : CR2} {ta : CE} {j : Nat} {x0 : Sl} {δ : DEnv} {R : KV} {RX : KX} : cOp2 r ta j (x0 :: δ) R RX = (ta (x0 :: δ) (fun d1 δ1 => pkAt δ1 j fun d2 => r d1 d2 fun d => flatD d = true ∧ R d δ1) RX) := propext Iff.rfl
theorem cIxN_c {i : Nat} {tb : CE} {x0 : Sl} {δ : DEnv} {R : KV} {RX : KX} : cIxN i tb (x0 :: δ) R RX = (pkAt (x0 :: δ) i (fun _ => True) ∧ tb (x0 :: δ) (fun d2 δ1 => pkAt δ1 i fun d1 => rIx d1 d2 fun d => R d δ1) RX) := propext Iff.rfl
theorem cLenN_c {i : Nat} {x0 : Sl} {δ : DEnv} {R : KV} {RX : KX} : cLenN i (x0 :: δ) R RX = (pkAt (x0 :: δ) i fun d => rLen [d] fun z => flatD z = true ∧ R z (x0 :: δ)) := propext Iff.rfl
theorem cFld_c {C : Addr} {f : Str} {ta : CE} {x0 : Sl} {δ : DEnv} {R : KV} {RX : KX} : cFld C f ta (x0 :: δ) R RX = (ta (x0 :: δ) (fun d δ1 => match d with
  | .ins C' fs => C' = C ∧ optAt (fs.lookup f) fun x => R x δ1
  | _ => False) RX) := propext Iff.rfl
theorem cFldN_c {C : Addr} {f : Str} {i : Nat} {x0 : Sl} {δ : DEnv} {R : KV} {RX : KX} : cFldN C f i (x0 :: δ) R RX = (optAt (fldsAt (x0 :: δ) i) fun p => p.1 = C ∧ optAt (p.2.lookup f) fun x => R x (x0 :: δ)) := propext Iff.rfl
theorem cStF_c {C : Addr} {i : Nat} {f : Str} {tv : CE} {x0 : Sl} {δ : DEnv} {K : CEnds} : cStF C i f tv (x0 :: δ) K = (tv (x0 :: δ) (fun d δ1 => match δ1[i]? with
  | some (.obj a C' fs) => C' = C ∧ fs.length < 1000 ∧ K.nx (δ1.set i (.obj a C (putFD f d fs)))
  | _ => False) K.ex) := propext Iff.rfl
theorem cMeth_c {C : Addr} {m : Str} {c : CE} {ta : CE} {t : CA} {x0 : Sl} {δ : DEnv} {R : KV} {RX : KX} : cMeth C m c ta t (x0 :: δ) R RX = (ta (x0 :: δ) (fun d δ1 => match d with
  | .ins C' fs => C' = C ∧ fs.lookup m = none ∧ t δ1 (fun ds δ2 => c (.sh d :: ds.map .sh) (fun d' _ => R d' δ2) fun Cx fs _ => RX Cx fs δ2) RX
  | _ => False) RX) := propext Iff.rfl
theorem cProp_c {C : Addr} {c : CE} {ta : CE} {x0 : Sl} {δ : DEnv} {R : KV} {RX : KX} : cProp C c ta (x0 :: δ) R RX = (ta (x0 :: δ) (fun d δ1 => match d with
  | .ins C' _ => C' = C ∧ c [.sh d] (fun d' _ => R d' δ1) FX
  | _ => False) RX) := propext Iff.rfl
theorem cMk_c {C : Addr} {c : CE} {t : CA} {x0 : Sl} {δ : DEnv} {R : KV} {RX : KX} : cMk C c t (x0 :: δ) R RX = (t (x0 :: δ) (fun ds δ1 => ∀ a, c (.obj a C [] :: ds.map .sh) (fun d αs => d = .non ∧ objAt αs a C fun fs => R (.ins C fs) δ1) fun Cx fs _ => RX Cx fs δ1) RX) := propext Iff.rfl
theorem cRaise_c {C : Addr} {ns : List Str} {t : CA} {x0 : Sl} {δ : DEnv} {K : CEnds} : cRaise C ns t (x0 :: δ) K = (t (x0 :: δ) (fun ds δ1 => ds.length = ns.length ∧ K.ex C (ns.zip ds).reverse δ1) K.ex) := propext Iff.rfl
theorem cChain_c {r r' : CR2} {ta tb tc : CE} {x0 : Sl} {δ : DEnv} {R : KV} {RX : KX} : cChain r r' ta tb tc (x0 :: δ) R RX = (ta (x0 :: δ) (fun d1 δ1 => tb δ1 (fun d2 δ2 => r d1 d2 fun z => match z with
  | .bl true => tc δ2 (fun d3 δ3 => r' d2 d3 fun d => R d δ3) RX
  | .bl false => R (.bl false) δ2
  | _ => False) RX) RX) := propext Iff.rfl
theorem coNone_c  {x0 : Sl} {δ : DEnv} {R : Option Int → DEnv → Prop} {RX : KX} : coNone  (x0 :: δ) R RX = (R none (x0 :: δ)) := propext Iff.rfl
theorem coSome_c {ta : CE} {x0 : Sl} {δ : DEnv} {R : Option Int → DEnv → Prop} {RX : KX} : coSome ta (x0 :: δ) R RX = (ta (x0 :: δ) (fun d δ1 => match d with
  | .int j => R (some j) δ1
  | _ => False) RX) := propext Iff.rfl
theorem cSl_c {te : CE} {tl th : CO} {x0 : Sl} {δ : DEnv} {R : KV} {RX : KX} : cSl te tl th (x0 :: δ) R RX = (te (x0 :: δ) (fun d δ1 => tl δ1 (fun l δ2 => th δ2 (fun u δ3 => rSl d l u fun z => R z δ3) RX) RX) RX) := propext Iff.rfl
theorem cLstF_c {t : CA} {x0 : Sl} {δ : DEnv} {R : List D → DEnv → Prop} {RX : KX} : cLstF t (x0 :: δ) R RX = (t (x0 :: δ) (fun ds δ1 => match ds with
  | [.lst xs] => R xs δ1
  | [.tup xs] => R xs δ1
  | _ => False) RX) := propext Iff.rfl
theorem cCatF_c {ta tb : CE} {x0 : Sl} {δ : DEnv} {R : List D → DEnv → Prop} {RX : KX} : cCatF ta tb (x0 :: δ) R RX = (ta (x0 :: δ) (fun d1 δ1 => tb δ1 (fun d2 δ2 => match d1, d2 with
  | .lst xs, .lst ys => xs.length + ys.length ≤ sizeLine ∧ R (xs ++ ys) δ2
  | _, _ => False) RX) RX) := propext Iff.rfl
theorem cIndexN_c {i : Nat} {ta : CE} {x0 : Sl} {δ : DEnv} {R : KV} {RX : KX} : cIndexN i ta (x0 :: δ) R RX = (pkAt (x0 :: δ) i (fun d => match d with | .lst _ => True | _ => False) ∧ ta (x0 :: δ) (fun d δ1 => pkAt δ1 i fun l => match l with
  | .lst ds => lowD 63 d = true ∧ ds.all (lowD 63) = true ∧ ∃ j z, ds[j]? = some z ∧ eqN 63 z d = true ∧ (∀ m z', m < j → ds[m]? = some z' → eqN 63 z' d = false) ∧ R (.int (j : Nat)) δ1
  | _ => False) RX) := propext Iff.rfl
theorem cJoin_c {ta tb : CE} {x0 : Sl} {δ : DEnv} {R : KV} {RX : KX} : cJoin ta tb (x0 :: δ) R RX = (ta (x0 :: δ) (fun d1 δ1 => match d1 with
  | .str a => tb δ1 (fun d2 δ2 => ∃ ss : List Str, (d2 = .lst (ss.map .str) ∨ d2 = .tup (ss.map .str)) ∧ (ss.map (·.length)).sum + ss.length * a.length ≤ 16777216 ∧ R (.str (Txt.join a ss)) δ2) RX
  | _ => False) RX) := propext Iff.rfl
theorem cPar_c {i j : Nat} {t : CA} {x0 : Sl} {δ : DEnv} {C : CEnds} : cPar i j t (x0 :: δ) C = (t (x0 :: δ) (fun ds δ1 => match ds with
  | [d1, d2] => i < δ1.length ∧ j < δ1.length ∧ C.nx ((δ1.set i (.sh d1)).set j (.sh d2))
  | _ => False) C.ex) := propext Iff.rfl
theorem cAug_c {i : Nat} {r : CR2} {ta : CE} {x0 : Sl} {δ : DEnv} {C : CEnds} : cAug i r ta (x0 :: δ) C = ((match (x0 :: δ)[i]? with | some (.sh _) => True | _ => False) ∧ ta (x0 :: δ) (fun d2 δ1 => match δ1[i]? with
  | some (.sh d1) => r d1 d2 fun d => C.nx (δ1.set i (.sh d))
  | _ => False) C.ex) := propext Iff.rfl
theorem cXf_c {z : Addr} {cls : Value} {d : Option Addr} {f : Str} {ta : CE} {x0 : Sl} {δ : DEnv} {R : KV} {RX : KX} : cXf z cls d f ta (x0 :: δ) R RX = (ta (x0 :: δ) (fun v δ1 => match v with
  | .exn a d' C fs => a = z ∧ d' = d ∧ cls = .ref C ∧ optAt (fs.lookup f) fun x => R x δ1
  | _ => False) RX) := propext Iff.rfl
theorem cXfC_c {C : Addr} {z : Addr} {cls : Value} {d : Option Addr} {f : Str} {ta : CE} {x0 : Sl} {δ : DEnv} {R : KV} {RX : KX} : cXfC C z cls d f ta (x0 :: δ) R RX = (cls = .ref C ∧ cXf z cls d f ta (x0 :: δ) R RX) := propext Iff.rfl
theorem cIsX_c {K : PySem.W.Frag} {C z : Addr} {cls : Value} {d : Option Addr} {c2 : Value} {ta : CE} {x0 : Sl} {δ : DEnv} {R : KV} {RX : KX} : cIsX K C z cls d c2 ta (x0 :: δ) R RX = (cls = .ref C ∧ ta (x0 :: δ) (fun v δ1 => match v with
  | .exn a d' C' _ => a = z ∧ d' = d ∧ C' = C ∧ d.isSome = true ∧ ∃ b, PySem.W.kitOne K (.ref C) c2 = some b ∧ R (.bl b) δ1
  | _ => False) RX) := propext Iff.rfl
theorem cForD_c {pth : DEnv → Option (List (Key × D))} {kd : List (Key × D) → List D} {g : CG} {tb : CS} {x0 : Sl} {δ : DEnv} {C : CEnds} : cForD pth kd g tb (x0 :: δ) C = (optAt (pth (x0 :: δ)) fun kvs => cForL g tb C (kd kvs) (x0 :: δ)) := propext Iff.rfl
theorem cDc_c {ti : CA} {g : CG} {tt : CT} {tk tv : CE} {vs : List Nat} {x0 : Sl} {δ : DEnv} {R : KV} {RX : KX} : cDc ti g tt tk tv vs (x0 :: δ) R RX = (ti (x0 :: δ) (fun ds δ1 => cDcL g tt tk tv vs (fun acc δ2 => R (.dic acc) (rstD δ1 δ2 vs)) ds (wipeD δ1 vs) []) RX) := propext Iff.rfl
theorem cDcD_c {pth : DEnv → Option (List (Key × D))} {kd : List (Key × D) → List D} {g : CG} {tt : CT} {tk tv : CE} {vs : List Nat} {x0 : Sl} {δ : DEnv} {R : KV} {RX : KX} : cDcD pth kd g tt tk tv vs (x0 :: δ) R RX = (optAt (pth (x0 :: δ)) fun kvs => cDcL g tt tk tv vs (fun acc δ2 => R (.dic acc) (rstD (x0 :: δ) δ2 vs)) (kd kvs) (wipeD (x0 :: δ) vs) []) := propext Iff.rfl
theorem cLcD_c {pth : DEnv → Option (List (Key × D))} {kd : List (Key × D) → List D} {g : CG} {tt : CT} {te : CE} {vs : List Nat} {x0 : Sl} {δ : DEnv} {R : List D → DEnv → Prop} {RX : KX} : cLcD pth kd g tt te vs (x0 :: δ) R RX = (optAt (pth (x0 :: δ)) fun kvs => cLcL g tt te vs (fun acc δ2 => R acc (rstD (x0 :: δ) δ2 vs)) (kd kvs) (wipeD (x0 :: δ) vs) []) := propext Iff.rfl
theorem cSetOf_c {t : CA} {x0 : Sl} {δ : DEnv} {R : List Str → DEnv → Prop} {RX : KX} : cSetOf t (x0 :: δ) R RX = (t (x0 :: δ) (fun ds δ1 => match ds with
  | [.lst xs] => ∃ ss : List Str, xs = ss.map .str ∧ ss.length + 1 < scanBound ∧ R (insAll ss []) δ1
  | _ => False) RX) := propext Iff.rfl
theorem cSet0_c  {x0 : Sl} {δ : DEnv} {R : List Str → DEnv → Prop} {RX : KX} : cSet0  (x0 :: δ) R RX = (R [] (x0 :: δ)) := propext Iff.rfl
theorem cSrtX_c {t : CX} {x0 : Sl} {δ : DEnv} {R : KV} {RX : KX} : cSrtX t (x0 :: δ) R RX = (t (x0 :: δ) (fun ks δ1 => ks.length < 64 ∧ ∀ ys : List Str, ys.Perm ks → sortedS ys = true → R (.lst (ys.map .str)) δ1) RX) := propext Iff.rfl
theorem cLenX_c {t : CX} {x0 : Sl} {δ : DEnv} {R : KV} {RX : KX} : cLenX t (x0 :: δ) R RX = (t (x0 :: δ) (fun ks δ1 => R (.int ks.length) δ1) RX) := propext Iff.rfl
theorem cVals2_c {pth : DEnv → Option (List (Key × D))} {i0 i1 : Nat} {x0 : Sl} {δ : DEnv} {R : List Str → DEnv → Prop} {RX : KX} : cVals2 pth i0 i1 (x0 :: δ) R RX = (optAt (pth (x0 :: δ)) fun kvs => ∃ tss : List (List Str), dVals kvs = tss.map txD ∧ tss.flatten.length + 1 < scanBound ∧ i0 < (x0 :: δ).length ∧ i1 < (x0 :: δ).length ∧ R (insAll tss.flatten []) (x0 :: δ)) := propext Iff.rfl
theorem cSetX_c {u : List Str → Addr → HO} {i : Nat} {t : CX} {x0 : Sl} {δ : DEnv} {C : CEnds} : cSetX u i t (x0 :: δ) C = (t (x0 :: δ) (fun ks δ1 => i < δ1.length ∧ C.nx (δ1.set i (.sx u ks))) C.ex) := propext Iff.rfl
theorem cSAdd_c {u : List Str → Addr → HO} {i : Nat} {ta : CE} {x0 : Sl} {δ : DEnv} {C : CEnds} : cSAdd u i ta (x0 :: δ) C = (sxAt u (x0 :: δ) i (fun _ => True) ∧ ta (x0 :: δ) (fun d δ1 => match d with
  | .str z => sxAt u δ1 i fun ks => ks.length + 1 < scanBound ∧ C.nx (δ1.set i (.sx u (ins1 z ks)))
  | _ => False) C.ex) := propext Iff.rfl
theorem cInX_c {u : List Str → Addr → HO} {neg : Bool} {ta : CE} {i : Nat} {x0 : Sl} {δ : DEnv} {R : KV} {RX : KX} : cInX u neg ta i (x0 :: δ) R RX = (ta (x0 :: δ) (fun d δ1 => match d with
  | .str z => sxAt u δ1 i fun ks => R (.bl (if neg then !decide (z ∈ ks) else decide (z ∈ ks))) δ1
  | _ => False) RX) := propext Iff.rfl
theorem cUpper_c {ta : CE} {x0 : Sl} {δ : DEnv} {R : KV} {RX : KX} : cUpper ta (x0 :: δ) R RX = (ta (x0 :: δ) (fun d δ1 => match d with
  | .str a => a.length ≤ 5592405 ∧ PyData.strOk (Txt.upper a) = true ∧ R (.str (Txt.upper a)) δ1
  | _ => False) RX) := propext Iff.rfl
theorem cCallK_c {n : Nat} {ix : List Nat} {c : CE} {t : CA} {x0 : Sl} {δ : DEnv} {R : KV} {RX : KX} : cCallK n ix c t (x0 :: δ) R RX = (t (x0 :: δ) (fun ds δ1 => ds.length = n ∧ c ((Xl.pick .non ix ds).map .sh) (fun d _ => R d δ1) fun C fs _ => RX C fs δ1) RX) := propext Iff.rfl
theorem cMethK_c {C : Addr} {m : Str} {n : Nat} {ix : List Nat} {c : CE} {ta : CE} {t : CA} {x0 : Sl} {δ : DEnv} {R : KV} {RX : KX} : cMethK C m n ix c ta t (x0 :: δ) R RX = (ta (x0 :: δ) (fun d δ1 => match d with
  | .ins C' fs => C' = C ∧ fs.lookup m = none ∧ t δ1 (fun ds δ2 => ds.length = n ∧ c (.sh d :: (Xl.pick .non ix ds).map .sh) (fun d' _ => R d' δ2) fun Cx fs _ => RX Cx fs δ2) RX
  | _ => False) RX) := propext Iff.rfl
theorem cMkK_c {C : Addr} {n : Nat} {ix : List Nat} {c : CE} {t : CA} {x0 : Sl} {δ : DEnv} {R : KV} {RX : KX} : cMkK C n ix c t (x0 :: δ) R RX = (t (x0 :: δ) (fun ds δ1 => ds.length = n ∧ ∀ a, c (.obj a C [] :: (Xl.pick .non ix ds).map .sh) (fun d αs => d = .non ∧ objAt αs a C fun fs => R (.ins C fs) δ1) fun Cx fs _ => RX Cx fs δ1) RX) := propext Iff.rfl
theorem cIsI_c {K : PySem.W.Frag} {cv : Value} {ta : CE} {x0 : Sl} {δ : DEnv} {R : KV} {RX : KX} : cIsI K cv ta (x0 :: δ) R RX = (ta (x0 :: δ) (fun d δ1 => tyD K d fun t => ∃ b, PySem.W.kitOne K t cv = some b ∧ R (.bl b) δ1) RX) := propext Iff.rfl
theorem cGetO_c {C : Addr} {c : CE} {ta tb : CE} {x0 : Sl} {δ : DEnv} {R : KV} {RX : KX} : cGetO C c ta tb (x0 :: δ) R RX = (ta (x0 :: δ) (fun d1 δ1 => tb δ1 (fun d2 δ2 => match d1 with
  | .ins C' fs => C' = C ∧ c [.sh (.ins C' fs), .sh d2] (fun d _ => R d δ2) fun Cx fs _ => RX Cx fs δ2
  | _ => False) RX) RX) := propext Iff.rfl
theorem cFmt_c {ta : CE} {x0 : Sl} {δ : DEnv} {R : KV} {RX : KX} : cFmt ta (x0 :: δ) R RX = (ta (x0 :: δ) (fun d δ1 => match d with
  | .str y => y.length ≤ sizeLine ∧ R (.str y) δ1
  | .int i => i.natAbs.log2 < 1920 ∧ PyData.strOk (toString i : String) = true ∧ R (.str (toString i : String)) δ1
  | _ => False) RX) := propext Iff.rfl
theorem cSplit_c {ta tb : CE} {x0 : Sl} {δ : DEnv} {R : KV} {RX : KX} : cSplit ta tb (x0 :: δ) R RX = (ta (x0 :: δ) (fun d1 δ1 => match d1 with
  | .str x => tb δ1 (fun d2 δ2 => match d2 with
    | .str y => (y.length == 0) = false ∧ x.length + 2 ≤ sizeLine ∧ okCut (Txt.split x y) ∧ R (.lst ((Txt.split x y).map .str)) δ2
    | _ => False) RX
  | _ => False) RX) := propext Iff.rfl
theorem cPartition_c {ta tb : CE} {x0 : Sl} {δ : DEnv} {R : KV} {RX : KX} : cPartition ta tb (x0 :: δ) R RX = (ta (x0 :: δ) (fun d1 δ1 => match d1 with
  | .str x => tb δ1 (fun d2 δ2 => match d2 with
    | .str y => (y.length == 0) = false ∧ x.length ≤ sizeLine ∧ okCut [(Txt.partition x y).1, (Txt.partition x y).2.1, (Txt.partition x y).2.2] ∧ R (.tup [.str (Txt.partition x y).1, .str (Txt.partition x y).2.1, .str (Txt.partition x y).2.2]) δ2
    | _ => False) RX
  | _ => False) RX) := propext Iff.rfl
theorem cCMeth_c {C : Addr} {c : CE} {t : CA} {x0 : Sl} {δ : DEnv} {R : KV} {RX : KX} : cCMeth C c t (x0 :: δ) R RX = (t (x0 :: δ) (fun ds δ1 => c (.sh (.cls C) :: ds.map .sh) (fun d _ => R d δ1) fun Cx fs _ => RX Cx fs δ1) RX) := propext Iff.rfl
theorem cCMethK_c {C : Addr} {n : Nat} {ix : List Nat} {c : CE} {t : CA} {x0 : Sl} {δ : DEnv} {R : KV} {RX : KX} : cCMethK C n ix c t (x0 :: δ) R RX = (t (x0 :: δ) (fun ds δ1 => ds.length = n ∧ c (.sh (.cls C) :: (Xl.pick .non ix ds).map .sh) (fun d _ => R d δ1) fun Cx fs _ => RX Cx fs δ1) RX) := propext Iff.rfl
theorem cMkL_c {C : Addr} {i : Nat} {c : CE} {t : CA} {x0 : Sl} {δ : DEnv} {R : KV} {RX : KX} : cMkL C i c t (x0 :: δ) R RX = ((match (x0 :: δ)[i]? with | some (.sh (.cls C')) => C' = C | _ => False) ∧ cMk C c t (x0 :: δ) R RX) := propext Iff.rfl
theorem cRevL_c {ta : CE} {x0 : Sl} {δ : DEnv} {R : KV} {RX : KX} : cRevL ta (x0 :: δ) R RX = (ta (x0 :: δ) (fun d δ1 => match d with
  | .lst ds => R (.lst ds.reverse) δ1
  | _ => False) RX) := propext Iff.rfl
theorem cCallO_c {C : Addr} {c : CE} {ta : CE} {t : CA} {x0 : Sl} {δ : DEnv} {R : KV} {RX : KX} : cCallO C c ta t (x0 :: δ) R RX = (ta (x0 :: δ) (fun d δ1 => match d with
  | .ins C' fs => C' = C ∧ t δ1 (fun ds δ2 => c (.sh (.ins C' fs) :: ds.map .sh) (fun d' _ => R d' δ2) fun Cx fs _ => RX Cx fs δ2) RX
  | _ => False) RX) := propext Iff.rfl
theorem cCMethD_c {C : Addr} {dd : List D} {c : CE} {t : CA} {x0 : Sl} {δ : DEnv} {R : KV} {RX : KX} : cCMethD C dd c t (x0 :: δ) R RX = (t (x0 :: δ) (fun ds δ1 => c (.sh (.cls C) :: (ds ++ dd).map .sh) (fun d _ => R d δ1) fun Cx fs _ => RX Cx fs δ1) RX) := propext Iff.rfl
theorem cCallOK_c {C : Addr} {n : Nat} {ix : List Nat} {c : CE} {ta : CE} {t : CA} {x0 : Sl} {δ : DEnv} {R : KV} {RX : KX} : cCallOK C n ix c ta t (x0 :: δ) R RX = (ta (x0 :: δ) (fun d δ1 => match d with
  | .ins C' fs => C' = C ∧ t δ1 (fun ds δ2 => ds.length = n ∧ c (.sh (.ins C' fs) :: (Xl.pick .non ix ds).map .sh) (fun d' _ => R d' δ2) fun Cx fs _ => RX Cx fs δ2) RX
  | _ => False) RX) := propext Iff.rfl
end Xl


namespace Xl
open PySem PySem.Spec PyProof.Rows L2
/-- [f(x) for x in xs] -/
theorem lc_map {g : CG} {te : CE} {vs : List Nat} {k : List D → DEnv → Prop} {ds : List D} {δ : DEnv} (f : D → D) (hl : ds.length ≤ 16777216) (step : ∀ d ∈ ds, ∀ Q : KV, (∀ δ', wipeD δ' vs = δ → Q (f d) δ') → g d δ fun δ1 => te δ1 Q FX) (fin : k (ds.map f) δ) : cLcL g cYes te vs k ds δ [] := by
  refine lc_inv (fun i δ' acc => δ' = δ ∧ acc = (ds.take i).map f) _ _ _ ⟨rfl, rfl⟩ ?_ ?_
  · rintro i d δ' acc ed ⟨rfl, rfl⟩ N hN
    have hi := (List.getElem?_eq_some_iff.mp ed).1
    have tk : ds.take (i + 1) = ds.take i ++ [d] := by rw [List.take_add_one, ed]; rfl
    refine step d (List.mem_of_getElem? ed) _ fun δ2 e2 => ⟨?_, hN _ _ ⟨e2, by rw [tk, List.map_append]; rfl⟩⟩
    rw [List.length_map, List.length_take, sizeLine_eq]
    omega
  · rintro δ' acc ⟨rfl, rfl⟩
    rw [List.take_length]
    exact fin
/-- [x for x in xs if p(x)] -/
theorem lc_filter {g : CG} {tt : CT} {te : CE} {vs : List Nat} {k : List D → DEnv → Prop} {ds : List D} {δ : DEnv} (p : D → Bool) (f : D → D) (hl : ds.length ≤ 16777216)
    (step : ∀ d ∈ ds, ∀ (Q : KV) (Q0 : DEnv → Prop), (p d = true → ∀ δ', wipeD δ' vs = δ → Q (f d) δ') → (p d = false → ∀ δ', wipeD δ' vs = δ → Q0 δ') → g d δ fun δ1 => tt δ1 (fun b δ2 => if b = true then te δ2 Q FX else Q0 δ2) FX) (fin : k ((ds.filter p).map f) δ) : cLcL g tt te vs k ds δ [] := by
  refine lc_inv (fun i δ' acc => δ' = δ ∧ acc = ((ds.take i).filter p).map f) _ _ _ ⟨rfl, rfl⟩ ?_ ?_
  · rintro i d δ' acc ed ⟨rfl, rfl⟩ N hN
    have hi := (List.getElem?_eq_some_iff.mp ed).1
    have tk : ds.take (i + 1) = ds.take i ++ [d] := by rw [List.take_add_one, ed]; rfl
    refine step d (List.mem_of_getElem? ed) _ _ (fun hp δ2 e2 => ⟨?_, hN _ _ ⟨e2, ?_⟩⟩) fun hp δ2 e2 => hN _ _ ⟨e2, ?_⟩
    · have := List.length_filter_le p (ds.take i)
      rw [List.length_take] at this
      rw [List.length_map, sizeLine_eq]
      omega
    · rw [tk, List.filter_append, List.filter_cons_of_pos hp, List.map_append]; rfl
    · rw [tk, List.filter_append, List.filter_cons_of_neg (by rw [hp]; decide), List.map_append]; simp
  · rintro δ' acc ⟨rfl, rfl⟩
    rw [List.take_length]
    exact fin
/-- for x in xs: if p(x): leave -/
theorem for_find {g : CG} {tb : CS} {C : CEnds} (E : DEnv → Prop) (p : D → Bool) (ds : List D) (δ : DEnv) (h0 : E δ)
    (step : ∀ d δ, d ∈ ds → E δ → ∀ N : CEnds, N.rt = C.rt → N.ex = C.ex → (p d = true → ds.find? p = some d) → (p d = false → ∀ δ, E δ → N.nx δ) → g d δ fun δ1 => tb δ1 N) (fin : ds.find? p = none → ∀ δ, E δ → C.nx δ) : cForL g tb C ds δ := by
  refine for_inv (fun i δ => E δ ∧ ∀ d ∈ ds.take i, p d = false) _ _ ⟨h0, by simp⟩ ?_ ?_
  · rintro i d δ ed ⟨he, hp⟩ N n1 n2 n3 n4 n5
    have tk : ds.take (i + 1) = ds.take i ++ [d] := by rw [List.take_add_one, ed]; rfl
    refine step d δ (List.mem_of_getElem? ed) he N n1 n2 (fun q => ?_) fun q δ' e' => n4 δ' ⟨e', fun x hx => ?_⟩
    · have e : ds = ds.take i ++ (d :: ds.drop (i + 1)) := by
        have hi := (List.getElem?_eq_some_iff.mp ed)
        rw [← hi.2, ← List.drop_eq_getElem_cons hi.1, List.take_append_drop]
      rw [e, List.find?_append, List.find?_eq_none.mpr (fun x hx => by rw [hp x hx]; decide), List.find?_cons_of_pos q]
      rfl
    · rw [tk, List.mem_append, List.mem_singleton] at hx
      rcases hx with hx | rfl
      · exact hp x hx
      · exact q
  · rintro δ ⟨he, hp⟩
    rw [List.take_length] at hp
    exact fin (List.find?_eq_none.mpr fun x hx => by rw [hp x hx]; decide) δ he
theorem for_findR {α : Type} {g : CG} {tb : CS} {C : CEnds} (E : DEnv → Prop) (p : α → Bool) (f : α → D) (xs : List α) (δ : DEnv) (h0 : E δ)
    (step : ∀ x δ, x ∈ xs → E δ → ∀ N : CEnds, N.rt = C.rt → N.ex = C.ex → (p x = true → xs.find? p = some x) → (p x = false → ∀ δ, E δ → N.nx δ) → g (f x) δ fun δ1 => tb δ1 N) (fin : xs.find? p = none → ∀ δ, E δ → C.nx δ) : cForL g tb C (xs.map f) δ := by
  refine for_inv (fun i δ => E δ ∧ ∀ d ∈ xs.take i, p d = false) _ _ ⟨h0, by simp⟩ ?_ ?_
  · rintro i d δ ed ⟨he, hp⟩ N n1 n2 n3 n4 n5
    rw [List.getElem?_map] at ed
    obtain ⟨x, ex, rfl⟩ := Option.map_eq_some_iff.mp ed
    have tk : xs.take (i + 1) = xs.take i ++ [x] := by rw [List.take_add_one, ex]; rfl
    refine step x δ (List.mem_of_getElem? ex) he N n1 n2 (fun q => ?_) fun q δ' e' => n4 δ' ⟨e', fun y hy => ?_⟩
    · have e : xs = xs.take i ++ (x :: xs.drop (i + 1)) := by
        have hi := (List.getElem?_eq_some_iff.mp ex)
        rw [← hi.2, ← List.drop_eq_getElem_cons hi.1, List.take_append_drop]
      rw [e, List.find?_append, List.find?_eq_none.mpr (fun x hx => by rw [hp x hx]; decide), List.find?_cons_of_pos q]
      rfl
    · rw [tk, List.mem_append, List.mem_singleton] at hy
      rcases hy with hy | rfl
      · exact hp y hy
      · exact q
  · rintro δ ⟨he, hp⟩
    rw [List.length_map, List.take_length] at hp
    exact fin (List.find?_eq_none.mpr fun x hx => by rw [hp x hx]; decide) δ he
theorem lc_mapR {α : Type} {g : CG} {te : CE} {vs : List Nat} {k : List D → DEnv → Prop} {δ : DEnv} (f h : α → D) (xs : List α) (hl : xs.length ≤ 16777216) (step : ∀ x ∈ xs, ∀ Q : KV, (∀ δ', wipeD δ' vs = δ → Q (h x) δ') → g (f x) δ fun δ1 => te δ1 Q FX) (fin : k (xs.map h) δ) : cLcL g cYes te vs k (xs.map f) δ [] := by
  refine lc_inv (fun i δ' acc => δ' = δ ∧ acc = (xs.take i).map h) _ _ _ ⟨rfl, rfl⟩ ?_ ?_
  · rintro i d δ' acc ed ⟨rfl, rfl⟩ N hN
    rw [List.getElem?_map] at ed
    obtain ⟨x, ex, rfl⟩ := Option.map_eq_some_iff.mp ed
    have hi := (List.getElem?_eq_some_iff.mp ex).1
    have tk : xs.take (i + 1) = xs.take i ++ [x] := by rw [List.take_add_one, ex]; rfl
    refine step x (List.mem_of_getElem? ex) _ fun δ2 e2 => ⟨?_, hN _ _ ⟨e2, by rw [tk, List.map_append]; rfl⟩⟩
    rw [List.length_map, List.length_take, sizeLine_eq]
    omega
  · rintro δ' acc ⟨rfl, rfl⟩
    rw [List.length_map, List.take_length]
    exact fin
theorem lc_filterR {α : Type} {g : CG} {tt : CT} {te : CE} {vs : List Nat} {k : List D → DEnv → Prop} {δ : DEnv} (p : α → Bool) (f h : α → D) (xs : List α) (hl : xs.length ≤ 16777216)
    (step : ∀ x ∈ xs, ∀ (Q : KV) (Q0 : DEnv → Prop), (p x = true → ∀ δ', wipeD δ' vs = δ → Q (h x) δ') → (p x = false → ∀ δ', wipeD δ' vs = δ → Q0 δ') → g (f x) δ fun δ1 => tt δ1 (fun b δ2 => if b = true then te δ2 Q FX else Q0 δ2) FX) (fin : k ((xs.filter p).map h) δ) : cLcL g tt te vs k (xs.map f) δ [] := by
  refine lc_inv (fun i δ' acc => δ' = δ ∧ acc = ((xs.take i).filter p).map h) _ _ _ ⟨rfl, rfl⟩ ?_ ?_
  · rintro i d δ' acc ed ⟨rfl, rfl⟩ N hN
    rw [List.getElem?_map] at ed
    obtain ⟨x, ex, rfl⟩ := Option.map_eq_some_iff.mp ed
    have hi := (List.getElem?_eq_some_iff.mp ex).1
    have tk : xs.take (i + 1) = xs.take i ++ [x] := by rw [List.take_add_one, ex]; rfl
    refine step x (List.mem_of_getElem? ex) _ _ (fun hp δ2 e2 => ⟨?_, hN _ _ ⟨e2, ?_⟩⟩) fun hp δ2 e2 => hN _ _ ⟨e2, ?_⟩
    · have := List.length_filter_le p (xs.take i)
      rw [List.length_take] at this
      rw [List.length_map, sizeLine_eq]
      omega
    · rw [tk, List.filter_append, List.filter_cons_of_pos hp, List.map_append]; rfl
    · rw [tk, List.filter_append, List.filter_cons_of_neg (by rw [hp]; decide), List.map_append]; simp
  · rintro δ' acc ⟨rfl, rfl⟩
    rw [List.length_map, List.take_length]
    exact fin
theorem dc_inv {g : CG} {tt : CT} {tk tv : CE} {vs : List Nat} {k : List (Key × D) → DEnv → Prop} (I : Nat → DEnv → List (Key × D) → Prop) : ∀ (ds : List D) (δ : DEnv) (acc : List (Key × D)), I 0 δ acc →
    (∀ i d δ acc, ds[i]? = some d → I i δ acc → ∀ N : DEnv → List (Key × D) → Prop, (∀ δ acc, I (i + 1) δ acc → N δ acc) → g d δ fun δ1 => tt δ1 (fun b δ2 => if b = true then tk δ2 (fun y δ3 => tv δ3 (fun z δ4 => ∃ kk, keyD y = some kk ∧ acc.length < sizeLine ∧ N (wipeD δ4 vs) (putD acc kk z)) FX) FX else N (wipeD δ2 vs) acc) FX) →
    (∀ δ acc, I ds.length δ acc → k acc δ) → cDcL g tt tk tv vs k ds δ acc
  | [], δ, acc, h0, _, he => he δ acc h0
  | d :: ds, δ, acc, h0, hs, he => by
    have ih : ∀ δ acc, I 1 δ acc → cDcL g tt tk tv vs k ds δ acc := fun δ acc h => dc_inv (fun i => I (i + 1)) ds δ acc h (fun i x δ acc e hi N n => hs (i + 1) x δ acc e hi N n) he
    exact hs 0 d δ acc rfl h0 (fun δ acc => cDcL g tt tk tv vs k ds δ acc) ih
theorem putD_new {acc : List (Key × D)} {k : Key} {d : D} (h : ∀ kv ∈ acc, kv.1 ≠ k) : putD acc k d = acc ++ [(k, d)] := by
  unfold putD
  rw [if_neg]
  rw [List.any_eq_true]
  rintro ⟨kv, hk, e⟩
  exact h kv hk (of_decide_eq_true e)
/-- a dict comprehension whose keys are new, each -/
theorem dc_mapR {α : Type} {g : CG} {tt : CT} {tk tv : CE} {vs : List Nat} {k : List (Key × D) → DEnv → Prop} {δ : DEnv} (p : α → Bool) (f : α → D) (ky : α → Str) (h : α → D) (xs : List α) (hl : xs.length ≤ 16777216) (nd : (xs.map ky).Nodup)
    (step : ∀ x ∈ xs, ∀ (Q : Key → D → DEnv → Prop) (Q0 : DEnv → Prop), (p x = true → ∀ δ', wipeD δ' vs = δ → Q (.inr (ky x)) (h x) δ') → (p x = false → ∀ δ', wipeD δ' vs = δ → Q0 δ') → g (f x) δ fun δ1 => tt δ1 (fun b δ2 => if b = true then tk δ2 (fun y δ3 => tv δ3 (fun z δ4 => ∃ kk, keyD y = some kk ∧ Q kk z δ4) FX) FX else Q0 δ2) FX)
    (fin : k ((xs.filter p).map fun x => (.inr (ky x), h x)) δ) : cDcL g tt tk tv vs k (xs.map f) δ [] := by
  refine dc_inv (fun i δ' acc => δ' = δ ∧ acc = ((xs.take i).filter p).map fun x => (.inr (ky x), h x)) _ _ _ ⟨rfl, rfl⟩ ?_ ?_
  · rintro i d δ' acc ed ⟨rfl, rfl⟩ N hN
    rw [List.getElem?_map] at ed
    obtain ⟨x, ex, rfl⟩ := Option.map_eq_some_iff.mp ed
    have hi := (List.getElem?_eq_some_iff.mp ex).1
    have tk' : xs.take (i + 1) = xs.take i ++ [x] := by rw [List.take_add_one, ex]; rfl
    refine step x (List.mem_of_getElem? ex) _ _ (fun hp δ2 e2 => ⟨?_, hN _ _ ⟨e2, ?_⟩⟩) fun hp δ2 e2 => hN _ _ ⟨e2, ?_⟩
    · have := List.length_filter_le p (xs.take i)
      rw [List.length_take] at this
      rw [List.length_map, sizeLine_eq]
      omega
    · rw [putD_new, tk', List.filter_append, List.filter_cons_of_pos hp, List.map_append]
      · rfl
      · intro kv hk e
        obtain ⟨y, hy, rfl⟩ := List.mem_map.mp hk
        have e' : ky y = ky x := Sum.inr.inj e
        have hy' := (List.mem_filter.mp hy).1
        obtain ⟨j, hj, ej⟩ := List.mem_take_iff_getElem.mp hy'
        have q := (List.getElem?_inj (i := j) (j := i) (by rw [List.length_map]; omega) nd).mp (by
          rw [List.getElem?_map, List.getElem?_map, ex, List.getElem?_eq_getElem (by omega), ej]
          exact congrArg some e')
        omega
    · rw [tk', List.filter_append, List.filter_cons_of_neg (by rw [hp]; decide), List.map_append]; simp
  · rintro δ' acc ⟨rfl, rfl⟩
    rw [List.length_map, List.take_length]
    exact fin
theorem cutD_to {xs : List D} {i : Nat} : cutD xs none (some (i : Int)) = xs.take i := by
  unfold cutD
  rw [HT.sIx_none, HT.sIx_nat, List.drop_zero, Nat.sub_zero, List.take_eq_take_iff, Nat.min_assoc, Nat.min_self]
theorem cutD_from {xs : List D} {i : Nat} : cutD xs (some (i : Int)) none = xs.drop i := by
  unfold cutD
  rw [HT.sIx_none, HT.sIx_nat]
  by_cases h : i ≤ xs.length
  · rw [Nat.min_eq_left h]
    exact List.take_of_length_le (by rw [List.length_drop]; omega)
  · rw [Nat.min_eq_right (by omega), List.drop_length, List.take_nil, List.drop_eq_nil_of_le (by omega)]
end Xl


namespace Xl
open PySem PySem.Spec PyProof.Rows L2
set_option pp.maxSteps 600
section
variable {P : Program} {w : World} {K : PySem.W.Frag} {mg : Str → Option Value} {base : Heap}
def c_draw (_ : GG K mg) : CE := cDraw
theorem F_drawD (T : GG K mg) : FnI P w K mg base "_law_take" 1 ["_law_state", "_law_limit"] (spD (c_draw T)) := FnI.imp (F_draw T) fun _ _ _ _ h => spD_draw h
end
end Xl


local macro_rules | `(tactic| walk_at "d1") => `(tactic| simp only [Xl.cBody, Xl.tru, Xl.itD_l, Xl.cForL_nil, Xl.cForL_cons, Xl.itD_t, Xl.itD_s, Xl.ownAt, Xl.pkAt, Xl.pk, Xl.stAt, Xl.objAt, Xl.fldsAt, Xl.sxAt, Xl.pthV, Xl.pthF, Xl.rAdd_ii, Xl.rAdd_ss, Xl.rAdd_tt, Xl.rAdd_ll, Xl.rIII_ii, Xl.rOrd_ii, Xl.rOrd_ss, Xl.rIx_l, Xl.rIx_t, Xl.rIx_s, Xl.rIx_d, Xl.rInD_l, Xl.rInD_t, Xl.rInD_s, Xl.rInD_d, Xl.rLen_l, Xl.rLen_t, Xl.rLen_s, Xl.rLen_d, Xl.rInt_i, Xl.rInt_b, Xl.rTup_l, Xl.rTup_t, Xl.rLst_l, Xl.rLst_d, Xl.rLst_t, Xl.atI_0, Xl.atI_1, Xl.atI_2, Xl.ex_some, Xl.any_strs, Xl.low_strs, Xl.len1, Xl.len_app, Xl.len_nil, SX.S_len, Xl.rEqD', Xl.rIsN, Xl.rNeg, Xl.rAbs, Xl.rAddI, Xl.rStr', Xl.rSl, Xl.c_draw, Xl.cDraw, Xl.optAt, Xl.wipeD, Xl.rstD, Xl.shOnly, Xl.flatD, Xl.cVar_c, Xl.cC_c, Xl.cOp_c, Xl.cUn_c, Xl.cCB_c, Xl.caNil_c, Xl.caCons_c, Xl.cTup_c, Xl.cLim_c, Xl.cFr_c, Xl.cTst_c, Xl.cAnd_c, Xl.cOr_c, Xl.cNot_c, Xl.cTru_c, Xl.cTruN_c, Xl.cIfE_c, Xl.cAndV_c, Xl.cOrV_c, Xl.cNotV_c, Xl.cNotE_c, Xl.cSeq_c, Xl.cNext_c, Xl.cDrop_c, Xl.cRet_c, Xl.cRetN_c, Xl.cIf_c, Xl.cBrk_c, Xl.cCnt_c, Xl.cSet_c, Xl.cSetO_c, Xl.cgN_c, Xl.cgNil_c, Xl.cgCons_c, Xl.cgT_c, Xl.cAsg_c, Xl.ciSeq_c, Xl.ciRng1_c, Xl.ciRng2_c, Xl.cFor_c, Xl.cYes_c, Xl.cLc_c, Xl.cCall_c, Xl.cCallS_c, Xl.cAppend_c, Xl.cPop_c, Xl.cPopAt_c, Xl.cInsert_c, Xl.cPutIx_c, Xl.cOp1_c, Xl.cOp2_c, Xl.cIxN_c, Xl.cLenN_c, Xl.cFld_c, Xl.cFldN_c, Xl.cStF_c, Xl.cMeth_c, Xl.cProp_c, Xl.cMk_c, Xl.cRaise_c, Xl.cChain_c, Xl.coNone_c, Xl.coSome_c, Xl.cSl_c, Xl.cLstF_c, Xl.cCatF_c, Xl.cIndexN_c, Xl.cJoin_c, Xl.cPar_c, Xl.cAug_c, Xl.cXf_c, Xl.cXfC_c, Xl.cIsX_c, Xl.cCallK_c, Xl.cMethK_c, Xl.cMkK_c, Xl.cIsI_c, Xl.cGetO_c, Xl.cFmt_c, Xl.cJs_nil, Xl.cJs_cons, Xl.cSplit_c, Xl.cPartition_c, Xl.cCMeth_c, Xl.cCMethK_c, Xl.cMkL_c, Xl.cRevL_c, Xl.rInO_c, Xl.rEqO_c, Xl.eqOk_same, Xl.rLenO_c, Xl.rStrO_c, Xl.rIsB, Xl.cCallO_c, Xl.rBinO_c, Xl.rNegO_c, Xl.tyD, Xl.pick, List.getD_cons_zero, List.getD_cons_succ, Xl.cForD_c, Xl.cDc_c, Xl.cDcD_c, Xl.cLcD_c, Xl.cSetOf_c, Xl.cSet0_c, Xl.cSrtX_c, Xl.cLenX_c, Xl.cVals2_c, Xl.cSetX_c, Xl.cSAdd_c, Xl.cInX_c, Xl.cUpper_c, Xl.cCMethD_c, Xl.cCallOK_c, Xl.rRepL_l, List.replicate_succ, List.replicate_zero, List.flatten_cons, List.flatten_nil,
  List.getElem?_cons_zero, List.getElem?_cons_succ, List.getElem?_nil, List.set_cons_zero, List.set_cons_succ, List.length_cons, List.length_nil, List.cons_append, List.nil_append, List.append_nil, List.replicate, List.map_cons, List.map_nil, List.take_succ_cons, List.take_zero, List.zip_cons_cons, List.zip_nil_right, List.reverse_cons, List.reverse_nil,
  Nat.reduceLT, Nat.reduceLeDiff, Nat.reduceAdd, Nat.reduceSub, Nat.reducePow, Int.reducePow, Int.reduceNeg, Int.reduceLT, Int.reduceLE, Int.reduceToNat, Int.reduceMod, Int.reduceAdd, Int.reduceSub, Int.reduceMul, Int.reduceEq, Nat.reduceMod, Nat.reduceMul, Nat.reduceEqDiff, PySem.sizeLine_eq, Xl.lowD_str, Xl.lowD_int, Xl.lowD_bl, Xl.lowD_non, Xl.eqN_str, Xl.eqN_int,
  Bool.false_eq_true, Bool.not_true, Bool.not_false, Bool.true_bne, Bool.false_bne, Bool.true_or, Bool.or_true, Bool.false_or, Bool.or_false, Bool.true_and, Bool.and_true, Bool.false_and, Bool.and_false, Bool.false_xor, Bool.true_xor, Bool.xor_false, Bool.xor_true, if_true, if_false, ite_true, ite_false, true_and, and_true, false_and, and_false, and_self, decide_true, decide_false, decide_eq_true_eq, not_true_eq_false, not_false_eq_true, true_implies])
local macro_rules | `(tactic| walk_at "go") => `(tactic| repeat (first | walk_at "d1" | walk_at "u" | (with_reducible refine And.intro (by omega) ?_)))
local macro_rules | `(tactic| walk_at "d") => `(tactic| try walk_at "d1")


namespace Xl
open PySem PySem.Spec PyProof.Rows L2
/-! ### a list of one's own is lent to a call and stays one's own -/
def kindD : D → Nat
  | .non => 0
  | .bl _ => 1
  | .int _ => 2
  | .str _ => 3
  | .tup _ => 4
  | .lst _ => 5
  | .dic _ => 6
  | .ins _ _ => 7
  | .cls _ => 8
  | .exn _ _ _ _ => 8
def vkind (H : Hp) : V → Nat
  | .non => 0
  | .bl _ => 1
  | .int _ => 2
  | .str _ => 3
  | .ref a => match H a with
    | some (.tup _) => 4
    | some (.lst _) => 5
    | some (.dK _) => 6
    | some (.frz _ (.dK _)) => 6
    | some (.ins _ _ _) => 7
    | _ => 8
  | _ => 9
theorem Is.kd {A : Fp} {H : Hp} {v : V} {d : D} (h : Is A H v d) (hk : kindD d < 8) : vkind H v = kindD d := by
  cases h with
  | non => rfl
  | bl b => rfl
  | int i => rfl
  | str s h => rfl
  | tup e n l => simp only [vkind, e, kindD]
  | lst e n l => simp only [vkind, e, kindD]
  | dic e n l =>
    rcases e with e | ⟨_, e⟩
    · simp only [vkind, e, kindD]
    · simp only [vkind, e, kindD]
  | ins e n l => simp only [vkind, e, kindD]
  | cls a => exact absurd hk (Nat.lt_irrefl 8)
  | exn0 a C => exact absurd hk (Nat.lt_irrefl 8)
  | exn1 e n l => exact absurd hk (Nat.lt_irrefl 8)
/-- no value is both -/
inductive Clash : D → D → Prop
  | kind {d e : D} : kindD d ≠ kindD e → kindD d < 8 → kindD e < 8 → Clash d e
  | tupL {ds es : List D} : ds.length ≠ es.length → Clash (.tup ds) (.tup es)
  | tup {ds es : List D} {i : Nat} {d e : D} : ds[i]? = some d → es[i]? = some e → Clash d e → Clash (.tup ds) (.tup es)
  | lstL {ds es : List D} : ds.length ≠ es.length → Clash (.lst ds) (.lst es)
  | lst {ds es : List D} {i : Nat} {d e : D} : ds[i]? = some d → es[i]? = some e → Clash d e → Clash (.lst ds) (.lst es)
  | ins {C C' : Addr} {fs gs : List (Str × D)} : fs.map (·.1) ≠ gs.map (·.1) → Clash (.ins C fs) (.ins C' gs)
theorem IsF.keys {A : Fp} {H : Hp} : ∀ {vs : List (Str × V)} {ds : List (Str × D)}, IsF A H vs ds → vs.map (·.1) = ds.map (·.1)
  | _, _, .nil => rfl
  | _, _, .cons _ t => by rw [List.map_cons, List.map_cons, t.keys]
theorem clash_no {A A' : Fp} {H : Hp} {d e : D} (c : Clash d e) : ∀ {v : V}, Is A H v d → Is A' H v e → False := by
  induction c with
  | kind h1 h2 h3 =>
    intro v i1 i2
    exact h1 ((i1.kd h2).symm.trans (i2.kd h3))
  | tupL h =>
    intro v i1 i2
    cases i1 with
    | tup e1 _ l1 => cases i2 with
      | tup e2 _ l2 =>
        rw [e1] at e2
        cases e2
        exact h (by rw [← l1.length, ← l2.length])
  | tup h1 h2 _ ih =>
    intro v i1 i2
    cases i1 with
    | tup e1 _ l1 => cases i2 with
      | tup e2 _ l2 =>
        rw [e1] at e2
        cases e2
        obtain ⟨v1, w1, x1⟩ := l1.get h1
        obtain ⟨v2, w2, x2⟩ := l2.get h2
        rw [w1] at w2
        cases w2
        exact ih x1 x2
  | lstL h =>
    intro v i1 i2
    cases i1 with
    | lst e1 _ l1 => cases i2 with
      | lst e2 _ l2 =>
        rw [e1] at e2
        cases e2
        exact h (by rw [← l1.length, ← l2.length])
  | lst h1 h2 _ ih =>
    intro v i1 i2
    cases i1 with
    | lst e1 _ l1 => cases i2 with
      | lst e2 _ l2 =>
        rw [e1] at e2
        cases e2
        obtain ⟨v1, w1, x1⟩ := l1.get h1
        obtain ⟨v2, w2, x2⟩ := l2.get h2
        rw [w1] at w2
        cases w2
        exact ih x1 x2
  | ins h =>
    intro v i1 i2
    cases i1 with
    | ins e1 _ l1 => cases i2 with
      | ins e2 _ l2 =>
        rw [e1] at e2
        cases e2
        exact h (by rw [← l1.keys, ← l2.keys])
/-- nowhere in d stands the list ds itself -/
inductive Fre (ds : List D) : D → Prop
  | non : Fre ds .non
  | bl (b : Bool) : Fre ds (.bl b)
  | int (i : Int) : Fre ds (.int i)
  | str (s : Str) : Fre ds (.str s)
  | cls (a : Addr) : Fre ds (.cls a)
  | tup {xs : List D} : (∀ d ∈ xs, Fre ds d) → Fre ds (.tup xs)
  | lst {xs : List D} : Clash (.lst xs) (.lst ds) → (∀ d ∈ xs, Fre ds d) → Fre ds (.lst xs)
  | dic {xs : List (Key × D)} : (∀ d ∈ xs, Fre ds d.2) → Fre ds (.dic xs)
  | ins {C : Addr} {xs : List (Str × D)} : (∀ d ∈ xs, Fre ds d.2) → Fre ds (.ins C xs)
  | exn {a : Addr} {o : Option Addr} {C : Addr} {xs : List (Str × D)} : (∀ d ∈ xs, Fre ds d.2) → Fre ds (.exn a o C xs)
def Ap (A : Fp) (p : Addr) : Fp := fun b => A b ∨ b = p
section
variable {A A0 : Fp} {H : Hp} {p : Addr} {ps : List V} {ds : List D}
mutual
theorem Is.fre (hp : H p = some (.lst ps)) (hl : Is A0 H (.ref p) (.lst ds)) {v : V} {d : D} (h : Is A H v d) (f : Fre ds d) : Is (Ap A p) H v d := by
  cases h with
  | non => exact .non
  | bl b => exact .bl b
  | int i => exact .int i
  | str s h => exact .str s h
  | cls a => exact .cls a
  | exn0 a C => exact .exn0 a C
  | exn1 e n l =>
    cases f with
    | exn f => exact .exn1 e (fun z => z.elim n fun q => by rw [q, hp] at e; cases e) (l.fre hp hl f)
  | tup e n l =>
    cases f with
    | tup f => exact .tup e (fun z => z.elim n fun q => by rw [q, hp] at e; cases e) (l.fre hp hl f)
  | lst e n l =>
    cases f with
    | lst c f => exact .lst e (fun z => z.elim n fun q => clash_no c (Is.lst e n l) (q ▸ hl)) (l.fre hp hl f)
  | dic e n l =>
    cases f with
    | dic f => exact .dic e (fun z => z.elim n fun q => by
        rcases e with e | ⟨_, e⟩ <;> rw [q, hp] at e <;> cases e) (l.fre hp hl f)
  | ins e n l =>
    cases f with
    | ins f => exact .ins e (fun z => z.elim n fun q => by rw [q, hp] at e; cases e) (l.fre hp hl f)
theorem IsL.fre (hp : H p = some (.lst ps)) (hl : Is A0 H (.ref p) (.lst ds)) {v : List V} {d : List D} (h : IsL A H v d) (f : ∀ x ∈ d, Fre ds x) : IsL (Ap A p) H v d := by
  cases h with
  | nil => exact .nil
  | cons h t => exact .cons (Is.fre hp hl h (f _ List.mem_cons_self)) (t.fre hp hl fun x hx => f x (List.mem_cons_of_mem _ hx))
theorem IsK.fre (hp : H p = some (.lst ps)) (hl : Is A0 H (.ref p) (.lst ds)) {v : List (Key × V)} {d : List (Key × D)} (h : IsK A H v d) (f : ∀ x ∈ d, Fre ds x.2) : IsK (Ap A p) H v d := by
  cases h with
  | nil => exact .nil
  | cons hk h t => exact .cons hk (Is.fre hp hl h (f _ List.mem_cons_self)) (t.fre hp hl fun x hx => f x (List.mem_cons_of_mem _ hx))
theorem IsF.fre (hp : H p = some (.lst ps)) (hl : Is A0 H (.ref p) (.lst ds)) {v : List (Str × V)} {d : List (Str × D)} (h : IsF A H v d) (f : ∀ x ∈ d, Fre ds x.2) : IsF (Ap A p) H v d := by
  cases h with
  | nil => exact .nil
  | cons h t => exact .cons (Is.fre hp hl h (f _ List.mem_cons_self)) (t.fre hp hl fun x hx => f x (List.mem_cons_of_mem _ hx))
end
end
def lendSl : Sl → Bool
  | .emp => true
  | .sh _ => true
  | .st _ _ => true
  | _ => false
/-- beside the list that is lent nothing is owned but a drawing state -/
def lendOk (δ : DEnv) (j : Nat) : Prop := ∀ i s, i ≠ j → δ[i]? = some s → lendSl s = true
theorem lendOk_of {δ : DEnv} {j : Nat} (h : (δ.set j .emp).all lendSl = true) : lendOk δ j := fun i s hi e => by
  refine List.all_eq_true.mp h s (List.mem_of_getElem? (i := i) ?_)
  rw [List.getElem?_set, if_neg (Ne.symm hi)]
  exact e
def cLend (j : Nat) (t : CE) : CE := fun δ R RX => ∃ ds, δ[j]? = some (.own ds) ∧ (δ.set j .emp).all lendSl = true ∧
  t (δ.set j (.sh (.lst ds))) (fun d δ' => δ' = δ.set j (.sh (.lst ds)) ∧ Fre ds d ∧ R d δ) (fun C fs δ' => δ' = δ.set j (.sh (.lst ds)) ∧ (∀ f ∈ fs, Fre ds f.2) ∧ RX C fs δ)
section
variable {B M M' : Fp} {H H' : Hp} {σ : L2.St} {δ : DEnv} {j : Nat} {ds : List D}
/-- an owned list is lent: what comes back -/
theorem ER.lend (h : ER B M H σ δ) (e : δ[j]? = some (.own ds)) (ok : lendOk δ j) : ∃ p vs M1, H p = some (.lst vs) ∧ σ[j]? = some (some (.ref p)) ∧ ER B M1 H σ (δ.set j (.sh (.lst ds))) ∧ Is (Ex B M1) H (.ref p) (.lst ds) ∧
    ∀ M' H', ER B M' H' σ (δ.set j (.sh (.lst ds))) → Fz B M1 H M' H' → H' p = some (.lst vs) ∧ Is (Ex B M') H' (.ref p) (.lst ds) ∧ ER B (Ap M' p) H' σ δ ∧ Fz B M H (Ap M' p) H' := by
  have hj : j < δ.length := (List.getElem?_eq_some_iff.mp e).1
  obtain ⟨p, vs, ev, hp, hl⟩ := h.ow e
  obtain ⟨fs, h0⟩ := h
  have a := h0.at_ j
  rw [e, ev] at a
  obtain ⟨p', vs', ep, hp', hl', hf⟩ := a
  cases ep
  have hM : M p := (h0.own p).mpr ⟨j, (hf p).mpr rfl⟩
  have sub : ∀ b, (False ∨ ∃ i, i ≠ j ∧ fs i b) → M b := fun b z => z.elim False.elim h0.sub
  have np0 : ¬ (False ∨ ∃ i, i ≠ j ∧ fs i p) := fun z => z.elim id fun ⟨i, hi, z⟩ => hi (h0.one i j p z ((hf p).mpr rfl))
  have k : Keep (Ex B M) H (Ex B fun b => False ∨ ∃ i, i ≠ j ∧ fs i b) H := Keep.less fun b z => z.imp id (sub b)
  have nBp : ¬ B p := fun z => h0.dis p z hM
  have hI : Is (Ex B fun b => False ∨ ∃ i, i ≠ j ∧ fs i b) H (.ref p) (.lst ds) := .lst hp (fun z => z.elim nBp np0) (hl.keep k)
  have q := h0.put (f' := fun _ => False) (o' := some (.ref p)) (s' := .sh (.lst ds)) hj ⟨fun _ z => z, .ref p, rfl, hI⟩ (fun _ _ _ _ _ e => e) k (fun _ _ _ z => z.elim) (fun _ z => z.elim) (fun b o e => ⟨o, e⟩)
  rw [set_self ev] at q
  obtain ⟨M1, sub, np0, hI, q⟩ : ∃ M1 : Fp, (∀ b, M1 b → M b) ∧ ¬ M1 p ∧ Is (Ex B M1) H (.ref p) (.lst ds) ∧ ER B M1 H σ (δ.set j (.sh (.lst ds))) := ⟨_, sub, np0, hI, q⟩
  refine ⟨p, vs, M1, hp, ev, q, hI, fun M' H' er' f => ?_⟩
  have e' : H' p = some (.lst vs) := by
    rcases f.keep p _ hp np0 with z | ⟨_, _, _, z, _⟩
    · exact z
    · cases z
  have nM' : ¬ M' p := fun z => (f.grow p z).elim np0 fun z => by rw [hp] at z; cases z
  have kk : Keep (Ex B M) H (Ex B (Ap M' p)) H' := fun b o eb nb => by
    have n1 : ¬ M1 b := fun z => nb (.inr (sub b z))
    refine ⟨fun z => z.elim (fun z => nb (.inl z)) fun z => z.elim (fun z => (f.grow b z).elim n1 fun z => by rw [eb] at z; cases z) fun z => nb (.inr (z ▸ hM)), ?_⟩
    rcases f.keep b o eb n1 with z | ⟨_, kvs, ob, rfl, z⟩
    · exact .inl z
    · exact .inr ⟨kvs, _, .inl rfl, z, .inr ⟨_, rfl⟩⟩
  obtain ⟨gs, g⟩ := er'
  have gj : ∀ b, ¬ gs j b := by
    have a := g.at_ j
    rw [List.getElem?_set, if_pos rfl, if_pos hj] at a
    exact a.1
  refine ⟨e', ?_, ⟨fun i => if i = j then (fun b => b = p) else gs i, by rw [g.len, List.length_set], fun b => ⟨fun z => ?_, fun ⟨i, z⟩ => ?_⟩, fun a c b z1 z2 => ?_, fun i => ?_, g.dom, fun b hb z => ?_⟩, fun b o eb nb => ?_, fun b z => ?_, f.free⟩
  · exact hI.keep (Keep.fr f)
  · rcases z with z | z
    · obtain ⟨i, hi⟩ := (g.own b).mp z
      have : i ≠ j := fun q => gj b (q ▸ hi)
      exact ⟨i, by simp only [if_neg this]; exact hi⟩
    · exact ⟨j, by simp only [if_pos]; exact z⟩
  · by_cases hi : i = j
    · simp only [if_pos hi] at z; exact .inr z
    · simp only [if_neg hi] at z; exact .inl ((g.own b).mpr ⟨i, z⟩)
  · have np : ∀ i b, gs i b → b ≠ p := fun i b hb e => nM' (e ▸ (g.own b).mpr ⟨i, hb⟩)
    by_cases ha : a = j
    · by_cases hc : c = j
      · rw [ha, hc]
      · simp only [if_pos ha] at z1
        simp only [if_neg hc] at z2
        exact absurd z1 (np c b z2)
    · by_cases hc : c = j
      · simp only [if_neg ha] at z1
        simp only [if_pos hc] at z2
        exact absurd z2 (np a b z1)
      · simp only [if_neg ha] at z1
        simp only [if_neg hc] at z2
        exact g.one a c b z1 z2
  · by_cases hi : i = j
    · subst hi
      simp only [if_pos]
      rw [ev, e]
      exact ⟨p, vs, rfl, e', hl.keep kk, fun _ => Iff.rfl⟩
    · simp only [if_neg hi]
      have a := g.at_ i
      have a0 := h0.at_ i
      rw [List.getElem?_set, if_neg (Ne.symm hi)] at a
      cases es : δ[i]? with
      | none =>
        rw [es] at a
        exact a
      | some s =>
        have o := ok i s hi es
        rw [es] at a a0
        cases s with
        | emp => exact a
        | sh d =>
          obtain ⟨_, v, w, x⟩ := a0
          exact ⟨a.1, v, w, x.keep kk⟩
        | st s n => exact a
        | own _ => cases o
        | obj _ _ _ => cases o
        | obz _ _ => cases o
        | sx _ _ => cases o
        | mt _ => cases o
  · exact z.elim (g.dis b hb) fun z => nBp (z ▸ hb)
  · exact f.keep b o eb fun z => nb (sub b z)
  · exact z.elim (fun z => (f.grow b z).imp (sub b) id) fun z => .inl (z ▸ hM)
end
section
variable {X : Cx} {W : WX} {e : Expr} {t : CE} {j : Nat}
theorem Ex_ap {B M : Fp} {p : Addr} : Ap (Ex B M) p = Ex B (Ap M p) := by
  funext b
  exact propext ⟨fun z => z.elim (fun z => z.elim .inl fun z => .inr (.inl z)) fun z => .inr (.inr z), fun z => z.elim (fun z => .inl (.inl z)) fun z => z.elim (fun z => .inl (.inr z)) .inr⟩
theorem pd_lend (h : PD X W e t) : PD X W e (cLend j t) := PE.imp h fun σ H Q ⟨B, M, δ, R, RX, er, ⟨ds, ej, ok, ht⟩, k, x⟩ => by
  obtain ⟨p, vs, M1, hp, ev, er1, hI, back⟩ := er.lend ej (lendOk_of ok)
  refine ⟨B, M1, _, _, _, er1, ht, fun d δ' v H' M' hq i1 er' f1 => ?_, fun C fs δ' o H' M' hq hx er' f1 => ?_⟩
  · obtain ⟨rfl, fr, hR⟩ := hq
    obtain ⟨e', hI', er2, f2⟩ := back M' H' er' f1
    have := Is.fre e' hI' i1 fr
    rw [Ex_ap] at this
    exact k d δ v H' _ hR this er2 f2
  · obtain ⟨rfl, fr, hR⟩ := hq
    obtain ⟨e', hI', er2, f2⟩ := back M' H' er' f1
    refine x C fs δ o H' _ hR ?_ er2 f2
    rcases hx with hx | ⟨d, xs, ho, hd, nd, l⟩
    · exact .inl hx
    · have := l.fre e' hI' fr
      rw [Ex_ap] at this
      refine .inr ⟨d, xs, ho, hd, fun z => ?_, this⟩
      rw [← Ex_ap] at z
      exact z.elim nd fun z => by rw [z, e'] at hd; cases hd
end
end Xl
namespace Xl
open PySem PySem.Spec PyProof.Rows L2
def cLendT (j : Nat) (t : CT) : CT := fun δ R RX => ∃ ds, δ[j]? = some (.own ds) ∧ (δ.set j .emp).all lendSl = true ∧
  t (δ.set j (.sh (.lst ds))) (fun b δ' => δ' = δ.set j (.sh (.lst ds)) ∧ R b δ) (fun C fs δ' => δ' = δ.set j (.sh (.lst ds)) ∧ (∀ f ∈ fs, Fre ds f.2) ∧ RX C fs δ)
section
variable {X : Cx} {W : WX} {e : Expr} {t : CT} {j : Nat}
theorem ptd_lend (h : PTD X W e t) : PTD X W e (cLendT j t) := PT.imp h fun σ H Q ⟨B, M, δ, R, RX, er, ⟨ds, ej, ok, ht⟩, k, x⟩ => by
  obtain ⟨p, vs, M1, hp, ev, er1, hI, back⟩ := er.lend ej (lendOk_of ok)
  refine ⟨B, M1, _, _, _, er1, ht, fun b δ' H' M' hq er' f1 => ?_, fun C fs δ' o H' M' hq hx er' f1 => ?_⟩
  · obtain ⟨rfl, hR⟩ := hq
    obtain ⟨e', hI', er2, f2⟩ := back M' H' er' f1
    exact k b δ H' _ hR er2 f2
  · obtain ⟨rfl, fr, hR⟩ := hq
    obtain ⟨e', hI', er2, f2⟩ := back M' H' er' f1
    refine x C fs δ o H' _ hR ?_ er2 f2
    rcases hx with hx | ⟨d, xs, ho, hd, nd, l⟩
    · exact .inl hx
    · have := l.fre e' hI' fr
      rw [Ex_ap] at this
      refine .inr ⟨d, xs, ho, hd, fun z => ?_, this⟩
      rw [← Ex_ap] at z
      exact z.elim nd fun z => by rw [z, e'] at hd; cases hd
end
end Xl


namespace Xl
open PySem PySem.Spec PyProof.Rows L2
/-! ### data that changes, handed on to calls -/
def Mt.adr : Mt → Option Addr
  | .d _ => none
  | .lst p _ => some p
  | .ins a _ _ => some a
theorem MR.adr {A : Fp} {H : Hp} {v : V} {m : Mt} {f : Fp} (h : MR A H v m f) {p : Addr} (e : m.adr = some p) : v = .ref p := by
  cases h with
  | d _ _ => cases e
  | lst _ _ _ _ => cases e; rfl
  | ins _ _ _ _ _ _ => cases e; rfl
/-- a list of shared things -/
abbrev mL (p : Addr) (ds : List D) : Mt := .lst p (ds.map .d)
theorem MRL.leaves {A : Fp} {H : Hp} : ∀ {ds : List D} {vs : List V} {f : Fp}, MRL A H vs (ds.map .d) f → IsL A H vs ds ∧ ∀ b, ¬ f b
  | [], _, _, h => by
    cases h with
    | nil n => exact ⟨.nil, n⟩
  | d :: ds, _, _, h => by
    cases h with
    | cons h t _ hf =>
      cases h with
      | d i n =>
        obtain ⟨l, n2⟩ := MRL.leaves t
        exact ⟨.cons i l, fun b z => ((hf b).mp z).elim (n b) (n2 b)⟩
theorem MRL.ofL {A : Fp} {H : Hp} : ∀ {ds : List D} {vs : List V}, IsL A H vs ds → MRL A H vs (ds.map .d) (fun _ => False)
  | _, _, .nil => .nil fun _ z => z
  | _, _, .cons h t => .cons (.d h fun _ z => z) (MRL.ofL t) (fun _ z => z.elim) fun b => ⟨False.elim, fun z => z.elim id id⟩
section
variable {B M M' : Fp} {H H' : Hp} {σ : L2.St} {δ : DEnv} {i : Nat} {p : Addr} {ds : List D}
theorem slr_own {f : Fp} {o : Option V} (h : SlR B M H f o (.mt (mL p ds))) : o = some (.ref p) ∧ SlR B M H f o (.own ds) := by
  obtain ⟨v, rfl, h⟩ := h
  cases h with
  | lst e l n hf =>
    obtain ⟨l', n2⟩ := l.leaves
    exact ⟨rfl, p, _, rfl, e, l', fun b => (hf b).trans ⟨fun z => z.elim id fun z => absurd z (n2 b), .inl⟩⟩
theorem slr_mt {f : Fp} {o : Option V} (h : SlR B M H f o (.own ds)) (e : o = some (.ref p)) : SlR B M H f o (.mt (mL p ds)) := by
  obtain ⟨q, vs, rfl, hp, l, hf⟩ := h
  cases e
  exact ⟨_, rfl, .lst hp (MRL.ofL l) (fun z => z) fun b => (hf b).trans ⟨.inl, fun z => z.elim id False.elim⟩⟩
theorem ERf.slot {fs : Nat → Fp} (h : ERf fs B M H σ δ) {s s' : Sl} (e : δ[i]? = some s) (k : SlR B M H (fs i) ((σ[i]?).getD none) s → SlR B M H (fs i) ((σ[i]?).getD none) s') : ERf fs B M H σ (δ.set i s') := by
  have hi : i < δ.length := (List.getElem?_eq_some_iff.mp e).1
  refine ⟨by rw [List.length_set]; exact h.len, h.own, h.one, fun j => ?_, h.dom, h.dis⟩
  have a := h.at_ j
  by_cases c : i = j
  · subst c
    rw [e] at a
    rw [List.getElem?_set, if_pos rfl, if_pos hi]
    exact k a
  · rw [List.getElem?_set, if_neg c]
    exact a
theorem ER.toOwn (h : ER B M H σ δ) (e : δ[i]? = some (.mt (mL p ds))) : σ[i]? = some (some (.ref p)) ∧ ER B M H σ (δ.set i (.own ds)) := by
  obtain ⟨fs, h⟩ := h
  have a := h.at_ i
  rw [e] at a
  refine ⟨?_, fs, h.slot e fun a => (slr_own a).2⟩
  have q := (slr_own a).1
  cases c : σ[i]? with
  | none => rw [c] at q; cases q
  | some o => rw [c] at q; rw [show o = some (.ref p) from q]
theorem ER.toMt (h : ER B M H σ δ) (e : δ[i]? = some (.own ds)) (ev : σ[i]? = some (some (.ref p))) : ER B M H σ (δ.set i (.mt (mL p ds))) := by
  obtain ⟨fs, h⟩ := h
  exact ⟨fs, h.slot e fun a => slr_mt a (by rw [ev]; rfl)⟩
end
/-- the list at i, looked at as one's own -/
def cOwnV (i : Nat) (t : CE) : CE := fun δ R RX => ∃ p ds, δ[i]? = some (.mt (mL p ds)) ∧ t (δ.set i (.own ds)) (fun d δ' => ∃ ds', δ'[i]? = some (.own ds') ∧ R d (δ'.set i (.mt (mL p ds')))) (fun C fs δ' => ∃ ds', δ'[i]? = some (.own ds') ∧ RX C fs (δ'.set i (.mt (mL p ds'))))
def cOwnT (i : Nat) (t : CT) : CT := fun δ R RX => ∃ p ds, δ[i]? = some (.mt (mL p ds)) ∧ t (δ.set i (.own ds)) (fun b δ' => ∃ ds', δ'[i]? = some (.own ds') ∧ R b (δ'.set i (.mt (mL p ds')))) (fun C fs δ' => ∃ ds', δ'[i]? = some (.own ds') ∧ RX C fs (δ'.set i (.mt (mL p ds'))))
/-- a list of one's own is known by its address from now on -/
def cToM (i : Nat) (c : CS) : CS := fun δ C => c δ { C with nx := fun δ' => ∃ ds, δ'[i]? = some (.own ds) ∧ ∀ p, C.nx (δ'.set i (.mt (mL p ds))) }
/-- shared for good -/
def cVarM (i : Nat) : CE := fun δ R RX => match δ[i]? with
  | some (.mt _) => ∃ p ds, δ[i]? = some (.mt (mL p ds)) ∧ R (.lst ds) (δ.set i (.sh (.lst ds)))
  | _ => cVar i δ R RX
def cPutM (i : Nat) (tv tj : CE) : CS := fun δ C => tv δ (fun d δ0 => (∃ p ds, δ0[i]? = some (.mt (mL p ds))) ∧ tj δ0 (fun a δ1 => match a with
  | .int j => ∃ p ds, δ1[i]? = some (.mt (mL p ds)) ∧ ∃ k, ixN ds.length j = some k ∧ C.nx (δ1.set i (.mt (mL p (ds.set k d))))
  | _ => False) C.ex) C.ex
def cAppM (i : Nat) (ta : CE) : CS := fun δ C => (∃ p ds, δ[i]? = some (.mt (mL p ds))) ∧ ta δ (fun d δ1 => ∃ p ds, δ1[i]? = some (.mt (mL p ds)) ∧ ds.length < sizeLine ∧ C.nx (δ1.set i (.mt (mL p (ds ++ [d]))))) C.ex
theorem set_set (δ : DEnv) (i : Nat) (s t : Sl) : (δ.set i s).set i t = δ.set i t := List.set_set ..
section
variable {X : Cx} {W : WX} {e e' : Expr} {t : CE} {i : Nat}
theorem pd_ownV (h : PD X W e t) : PD X W e (cOwnV i t) := PE.imp h fun σ H Q ⟨B, M, δ, R, RX, er, ⟨p, ds, ei, ht⟩, k, x⟩ => by
  obtain ⟨ev, er1⟩ := er.toOwn ei
  exact ⟨B, M, _, _, _, er1, ht, fun d δ' v H' M' ⟨ds', e', hR⟩ i1 er' f1 => k d _ v H' M' hR i1 (er'.toMt e' ev) f1, fun C fs δ' o H' M' ⟨ds', e', hR⟩ hx er' f1 => x C fs _ o H' M' hR hx (er'.toMt e' ev) f1⟩
theorem ptd_ownV {t : CT} (h : PTD X W e t) : PTD X W e (cOwnT i t) := PT.imp h fun σ H Q ⟨B, M, δ, R, RX, er, ⟨p, ds, ei, ht⟩, k, x⟩ => by
  obtain ⟨ev, er1⟩ := er.toOwn ei
  exact ⟨B, M, _, _, _, er1, ht, fun b δ' H' M' ⟨ds', e', hR⟩ er' f1 => k b _ H' M' hR (er'.toMt e' ev) f1, fun C fs δ' o H' M' ⟨ds', e', hR⟩ hx er' f1 => x C fs _ o H' M' hR hx (er'.toMt e' ev) f1⟩
theorem psd_toM {st : Stmt} {c : CS} (h : PSD X W st c) : PSD X W st (cToM i c) := PS.imp h fun N σ H ⟨B, M, δ, C, er, ht, k⟩ =>
  ⟨B, M, δ, _, er, ht, ⟨fun δ' σ' H' M' ⟨ds, e, hn⟩ er' f => by
    obtain ⟨p, vs, ev, hp, hl⟩ := er'.ow e
    exact k.nx _ σ' H' M' (hn p) (er'.toMt e ev) f, k.rt, k.bk, k.ct, k.ex⟩⟩
theorem pd_varM (hv : PE X e (tVar i)) (h : PD X W e (cVar i)) : PD X W e (cVarM i) := by
  refine ⟨fun pins s σ H Q I ⟨B, M, δ, R, RX, er, ht, k, x⟩ => ?_⟩
  have go : ∀ (c : CE), PD X W e c → c δ R RX → _ := fun c hc hh => hc.run pins s σ H Q I ⟨B, M, δ, R, RX, er, hh, k, x⟩
  unfold cVarM at ht
  split at ht
  · obtain ⟨p, ds, ei, hR⟩ := ht
    obtain ⟨ev, er1⟩ := er.toOwn ei
    have hi : i < δ.length := (List.getElem?_eq_some_iff.mp ei).1
    obtain ⟨q, M', eq, er2, hI, f⟩ := er1.freeze (i := i) (ds := ds) (by rw [List.getElem?_set, if_pos rfl, if_pos hi])
    rw [set_set] at er2
    refine hv.run pins s σ H Q I ⟨_, eq, k (.lst ds) _ (.ref q) H M' hR hI er2 f.fz⟩
  · exact go _ h ht
theorem psd_putM {e2 : Expr} {tv tj : CE} {st : Stmt} (h : ∀ te to' ti, PE X e' te → PE X e to' → PE X e2 ti → PS X st (tAsg te (gSub to' ti fun o i v H Q => ∃ l xs j k, o = .ref l ∧ i = .int j ∧ H l = some (.lst xs) ∧ ixN xs.length j = some k ∧ Q (upd H l (.lst (xs.set k v))))))
    (hv : PE X e (tVar i)) (ha : PD X W e' tv) (hb : PD X W e2 tj) : PSD X W st (cPutM i tv tj) := by
  refine PS.imp (h _ _ _ ha hv hb) fun N σ H ⟨B, M, δ, C, er, ht, k⟩ => ?_
  refine ⟨B, M, δ, _, C.ex, er, ht, fun d δ0 v H0 M0 ⟨⟨p0, ds0, e0⟩, h1⟩ i0 er0 f0 => ?_, k.xok σ⟩
  obtain ⟨ev, _⟩ := er0.toOwn e0
  refine ⟨_, ev, B, M0, δ0, _, C.ex, er0, h1, fun a δ1 u H1 M1 h1 i1 er1 f1 => ?_, (k.fr f0).xok σ⟩
  split at h1
  · cases i1
    obtain ⟨p, ds, e1, kk, hk, h1⟩ := h1
    obtain ⟨ev1, er1'⟩ := er1.toOwn e1
    rw [ev] at ev1
    cases ev1
    have hi : i < δ1.length := (List.getElem?_eq_some_iff.mp e1).1
    have eo : (δ1.set i (.own ds))[i]? = some (.own ds) := by rw [List.getElem?_set, if_pos rfl, if_pos hi]
    obtain ⟨p1, vs, ev1, hp1, hl⟩ := er1'.ow eo
    rw [ev] at ev1
    cases ev1
    obtain ⟨er2, f2⟩ := er1'.mut eo ev (IsL.set (i0.keep (Keep.fr f1)) kk hl)
    rw [set_set] at er2
    have er3 := er2.toMt (i := i) (p := p0) (ds := ds.set kk d) (by rw [List.getElem?_set, if_pos rfl, if_pos hi]) ev
    rw [set_set] at er3
    exact ⟨p0, vs, _, kk, rfl, rfl, hp1, by rw [hl.length]; exact hk, k.nx _ σ _ M1 h1 er3 ((f0.trans f1).trans f2.fz)⟩
  · exact h1.elim
theorem psd_appM {ta : CE} {st : Stmt} (h : ∀ to' t', PE X e to' → PA X [e'] t' → PS X st (tDrop (tBM X.K "list" rAppend to' t'))) (hv : PE X e (tVar i)) (ha : PD X W e' ta) (he : starEach [e'] X.env = (false, eval e' X.env) :: starEach [] X.env := by rfl) : PSD X W st (cAppM i ta) := by
  refine PS.imp (h _ _ hv (pa_cons ha pa_nil he)) fun N σ H ⟨B, M, δ, C, er, ⟨⟨p0, ds0, e0⟩, ht⟩, k⟩ => ?_
  obtain ⟨ev, er0⟩ := er.toOwn e0
  have hi0 : i < δ.length := (List.getElem?_eq_some_iff.mp e0).1
  obtain ⟨q, vs0, ev0, hp0, _⟩ := er0.ow (i := i) (ds := ds0) (by rw [List.getElem?_set, if_pos rfl, if_pos hi0])
  rw [ev] at ev0
  cases ev0
  refine ⟨_, ev, .inl ⟨rfl, _, SqL.of hp0⟩, B, M, δ, _, C.ex, er, ht, fun d δ1 v H1 M1 h1 i1 er1 f1 => ?_, k.xok σ⟩
  obtain ⟨p, ds, e1, hz, h1⟩ := h1
  obtain ⟨ev1, er1'⟩ := er1.toOwn e1
  rw [ev] at ev1
  cases ev1
  have hi : i < δ1.length := (List.getElem?_eq_some_iff.mp e1).1
  have eo : (δ1.set i (.own ds))[i]? = some (.own ds) := by rw [List.getElem?_set, if_pos rfl, if_pos hi]
  obtain ⟨p1, vs, ev1, hp1, hl⟩ := er1'.ow eo
  rw [ev] at ev1
  cases ev1
  obtain ⟨er2, f2⟩ := er1'.mut eo ev (hl.app (.cons i1 .nil))
  rw [set_set] at er2
  have er3 := er2.toMt (i := i) (p := p0) (ds := ds ++ [d]) (by rw [List.getElem?_set, if_pos rfl, if_pos hi]) ev
  rw [set_set] at er3
  exact ⟨p0, vs, v, rfl, rfl, hp1, by rw [hl.length]; exact hz, k.nx _ σ _ M1 h1 er3 (f1.trans f2.fz)⟩
end
end Xl


namespace Xl
open PySem PySem.Spec PyProof.Rows L2
/-! ### calls that change what they are handed -/
/-- an argument: what stands in a slot, by its address, or a value -/
inductive Ag where
  | r (i : Nat)
  | s (d : D)
abbrev CAM := DEnv → (List Ag → DEnv → Prop) → KX → Prop
inductive AgL (A : Fp) (H : Hp) (σ : L2.St) : List V → List Ag → Prop
  | nil : AgL A H σ [] []
  | ref {i : Nat} {v : V} {vs : List V} {as : List Ag} : σ[i]? = some (some v) → AgL A H σ vs as → AgL A H σ (v :: vs) (.r i :: as)
  | sh {d : D} {v : V} {vs : List V} {as : List Ag} : Is A H v d → AgL A H σ vs as → AgL A H σ (v :: vs) (.s d :: as)
def refOk : Option Sl → Prop
  | some (.st _ _) => True
  | some (.mt m) => m.adr ≠ none
  | _ => False
def camNil : CAM := fun δ R _ => R [] δ
def camR (i : Nat) (t : CAM) : CAM := fun δ R RX => refOk δ[i]? ∧ t δ (fun as δ1 => R (.r i :: as) δ1) RX
def camS (te : CE) (t : CAM) : CAM := fun δ R RX => te δ (fun d δ1 => t δ1 (fun as δ2 => R (.s d :: as) δ2) RX) RX
def agSl (δ : DEnv) : List Ag → List Sl
  | [] => []
  | .r i :: as => (δ[i]?).getD .emp :: agSl δ as
  | .s d :: as => .sh d :: agSl δ as
def notR (i : Nat) : List Ag → Prop
  | [] => True
  | .r j :: as => i ≠ j ∧ notR i as
  | .s _ :: as => notR i as
theorem notR.no {i : Nat} : ∀ {as : List Ag}, notR i as → ∀ k : Nat, as[k]? ≠ some (Ag.r i)
  | [], _, k, e => by simp at e
  | .r j :: as, h, 0, e => by cases e; exact h.1 rfl
  | .s d :: as, h, 0, e => by cases e
  | .r j :: as, h, k + 1, e => h.2.no k e
  | .s d :: as, h, k + 1, e => notR.no (as := as) h k e
def agOk (δ : DEnv) : List Ag → Prop
  | [] => True
  | .r i :: as => (refOk δ[i]? ∧ notR i as) ∧ agOk δ as
  | .s _ :: as => agOk δ as
/-- what came back fits -/
def fitP : Option Sl → Sl → Prop
  | some (.st s _), .st s' _ => s' = s
  | some (.mt m), .mt m' => m'.adr = m.adr
  | _, _ => False
def backP : List Ag → List Sl → DEnv → (DEnv → Prop) → Prop
  | [], _, δ, k => k δ
  | .s _ :: as, _ :: ss, δ, k => backP as ss δ k
  | .r i :: as, s :: ss, δ, k => fitP δ[i]? s ∧ backP as ss (δ.set i s) k
  | _ :: _, [], _, _ => False
def cCallM (c : CE) (t : CAM) : CE := fun δ R RX => t δ (fun as δ1 => agOk δ1 as ∧ c (agSl δ1 as) (fun d αs => backP as αs δ1 fun δ2 => R d δ2) fun C fs αs => backP as αs δ1 fun δ2 => RX C fs δ2) RX
theorem AgL.get {A : Fp} {H : Hp} {σ : L2.St} : ∀ {vs : List V} {as : List Ag}, AgL A H σ vs as → ∀ (k : Nat), (∀ i, as[k]? = some (Ag.r i) → ∃ v, vs[k]? = some v ∧ σ[i]? = some (some v)) ∧ (∀ d, as[k]? = some (Ag.s d) → ∃ v, vs[k]? = some v ∧ Is A H v d)
  | _, _, .nil, k => by
    constructor
    · intro i e; simp at e
    · intro i e; simp at e
  | _, _, .ref ev t, 0 => by
    constructor
    · intro i e; cases e; exact ⟨_, rfl, ev⟩
    · intro i e; cases e
  | _, _, .sh h t, 0 => by
    constructor
    · intro i e; cases e
    · intro i e; cases e; exact ⟨_, rfl, h⟩
  | _, _, .ref ev t, k + 1 => t.get k
  | _, _, .sh h t, k + 1 => t.get k
theorem AgL.len {A : Fp} {H : Hp} {σ : L2.St} : ∀ {vs : List V} {as : List Ag}, AgL A H σ vs as → vs.length = as.length
  | _, _, .nil => rfl
  | _, _, .ref _ t => by rw [List.length_cons, List.length_cons, t.len]
  | _, _, .sh _ t => by rw [List.length_cons, List.length_cons, t.len]
theorem agSl_get {δ : DEnv} : ∀ (as : List Ag) (k : Nat), (agSl δ as)[k]? = (as[k]?).map fun a => match a with
    | .r i => (δ[i]?).getD .emp
    | .s d => .sh d
  | [], k => by rw [show agSl δ [] = [] from rfl]; simp
  | .r i :: as, 0 => rfl
  | .s d :: as, 0 => rfl
  | .r i :: as, k + 1 => by
    show (agSl δ as)[k]? = _
    rw [agSl_get as k]; rfl
  | .s d :: as, k + 1 => by
    show (agSl δ as)[k]? = _
    rw [agSl_get as k]; rfl
theorem agSl_len {δ : DEnv} : ∀ as : List Ag, (agSl δ as).length = as.length
  | [] => rfl
  | .r i :: as => by show (agSl δ as).length + 1 = _; rw [agSl_len as]; rfl
  | .s d :: as => by show (agSl δ as).length + 1 = _; rw [agSl_len as]; rfl
theorem agOk.at_ {δ : DEnv} : ∀ {as : List Ag}, agOk δ as → ∀ (k i : Nat), as[k]? = some (Ag.r i) → refOk δ[i]?
  | [], _, k, i, e => by simp at e
  | .r j :: as, h, 0, i, e => by cases e; exact h.1.1
  | .s _ :: as, h, 0, i, e => by cases e
  | .r j :: as, h, k + 1, i, e => h.2.at_ k i e
  | .s _ :: as, h, k + 1, i, e => agOk.at_ (as := as) h k i e
theorem agOk.inj {δ : DEnv} : ∀ {as : List Ag}, agOk δ as → ∀ (k l i : Nat), as[k]? = some (Ag.r i) → as[l]? = some (Ag.r i) → k = l
  | [], _, k, l, i, e, _ => by simp at e
  | .r j :: as, h, 0, 0, i, _, _ => rfl
  | .r j :: as, h, 0, l + 1, i, e, e2 => by cases e; exact absurd e2 (h.1.2.no l)
  | .r j :: as, h, k + 1, 0, i, e, e2 => by cases e2; exact absurd e (h.1.2.no k)
  | .r j :: as, h, k + 1, l + 1, i, e, e2 => by rw [h.2.inj k l i e e2]
  | .s _ :: as, h, 0, l, i, e, _ => by cases e
  | .s _ :: as, h, k + 1, 0, i, _, e2 => by cases e2
  | .s _ :: as, h, k + 1, l + 1, i, e, e2 => by rw [agOk.inj (as := as) h k l i e e2]
theorem backP.spec : ∀ {as : List Ag} {αs : List Sl} {δ : DEnv} {k : DEnv → Prop}, (∀ (a b i : Nat), as[a]? = some (Ag.r i) → as[b]? = some (Ag.r i) → a = b) → backP as αs δ k → ∃ δ', k δ' ∧ δ'.length = δ.length ∧ (∀ (a i : Nat), as[a]? = some (Ag.r i) → ∃ s, αs[a]? = some s ∧ (i < δ.length → δ'[i]? = some s) ∧ fitP δ[i]? s) ∧ ∀ i : Nat, (∀ a : Nat, as[a]? ≠ some (Ag.r i)) → δ'[i]? = δ[i]?
  | [], αs, δ, k, _, h => ⟨δ, h, rfl, fun a i e => by simp at e, fun i _ => rfl⟩
  | .s d :: as, s :: αs, δ, k, inj, h => by
    obtain ⟨δ', h1, h2, h3, h4⟩ := backP.spec (as := as) (fun a b i e1 e2 => Nat.succ.inj (inj (a + 1) (b + 1) i e1 e2)) h
    refine ⟨δ', h1, h2, fun a i e => ?_, fun i n => h4 i fun a => n (a + 1)⟩
    cases a with
    | zero => cases e
    | succ a => exact h3 a i e
  | .r j :: as, s :: αs, δ, k, inj, ⟨hf, h⟩ => by
    obtain ⟨δ', h1, h2, h3, h4⟩ := backP.spec (as := as) (fun a b i e1 e2 => Nat.succ.inj (inj (a + 1) (b + 1) i e1 e2)) h
    rw [List.length_set] at h2
    have nj : ∀ a : Nat, as[a]? ≠ some (Ag.r j) := fun a e => by cases inj 0 (a + 1) j rfl e
    refine ⟨δ', h1, h2, fun a i e => ?_, fun i n => ?_⟩
    · cases a with
      | zero =>
        cases e
        refine ⟨s, rfl, fun hi => ?_, hf⟩
        rw [h4 j nj, List.getElem?_set, if_pos rfl, if_pos hi]
      | succ a =>
        obtain ⟨s', e1, e2, e3⟩ := h3 a i e
        have ne : j ≠ i := fun q => nj a (q ▸ e)
        rw [List.length_set] at e2
        rw [List.getElem?_set, if_neg ne] at e3
        exact ⟨s', e1, e2, e3⟩
    · have ne : j ≠ i := fun q => n 0 (by rw [q]; rfl)
      rw [h4 i fun a => n (a + 1), List.getElem?_set, if_neg ne]
  | .s d :: as, [], δ, k, inj, h => h.elim
  | .r j :: as, [], δ, k, inj, h => h.elim
section
variable {B M M' : Fp} {H H' : Hp} {σ : L2.St} {δ : DEnv} {i : Nat}
theorem refOk.get {o : Option Sl} (h : refOk o) : ∃ s, o = some s := by
  cases o with
  | none => exact h.elim
  | some s => exact ⟨s, rfl⟩
theorem fit_val {A1 A2 B1 B2 : Fp} {H1 H2 : Hp} {f1 f2 : Fp} {o1 o2 : Option V} {s s' : Sl} (r : refOk (some s)) (ft : fitP (some s) s') (h1 : SlR A1 B1 H1 f1 o1 s) (h2 : SlR A2 B2 H2 f2 o2 s') : o2 = o1 := by
  cases s with
  | st a n =>
    cases s' with
    | st a' n' =>
      have e : a' = a := ft
      subst e
      rw [h1.1, h2.1]
    | emp => exact ft.elim
    | sh _ => exact ft.elim
    | own _ => exact ft.elim
    | obj _ _ _ => exact ft.elim
    | obz _ _ => exact ft.elim
    | sx _ _ => exact ft.elim
    | mt _ => exact ft.elim
  | mt m =>
    cases s' with
    | mt m' =>
      have e : m'.adr = m.adr := ft
      have r : m.adr ≠ none := r
      obtain ⟨v1, rfl, k1⟩ := h1
      obtain ⟨v2, rfl, k2⟩ := h2
      cases q : m.adr with
      | none => exact absurd q r
      | some p => rw [k1.adr q, k2.adr (e.trans q)]
    | emp => exact ft.elim
    | sh _ => exact ft.elim
    | own _ => exact ft.elim
    | obj _ _ _ => exact ft.elim
    | obz _ _ => exact ft.elim
    | sx _ _ => exact ft.elim
    | st _ _ => exact ft.elim
  | emp => exact r.elim
  | sh _ => exact r.elim
  | own _ => exact r.elim
  | obj _ _ _ => exact r.elim
  | obz _ _ => exact r.elim
  | sx _ _ => exact r.elim
theorem ER.handM (h : ER B M H σ δ) {vs : List V} {as : List Ag} (ok : agOk δ as) (l : AgL (Ex B M) H σ vs as) : ∃ Bc Mc, ER Bc Mc H (vs.map some) (agSl δ as) ∧ (∀ b, Ex B M b ↔ Ex Bc Mc b) ∧
    ∀ {σ' : L2.St} {αs : List Sl} {Mc' : Fp} {H' : Hp} {k : DEnv → Prop}, ER Bc Mc' H' σ' αs → Fz Bc Mc H Mc' H' → backP as αs δ k → ∃ δ' M', k δ' ∧ ER B M' H' σ δ' ∧ Fz B M H M' H' ∧ ∀ b, Ex B M' b → Ex Bc Mc' b := by
  have h0 := h
  obtain ⟨fs, h⟩ := h
  have sub : ∀ (k i : Nat) (b : Addr), as[k]? = some (Ag.r i) → fs i b → M b := fun k i b _ z => (h.own b).mpr ⟨i, z⟩
  obtain ⟨Mc, hMc⟩ : ∃ Mc : Fp, ∀ b, Mc b ↔ ∃ k i : Nat, as[k]? = some (Ag.r i) ∧ fs i b := ⟨_, fun _ => Iff.rfl⟩
  have McM : ∀ b, Mc b → M b := fun b z => by
    obtain ⟨k, i, e, z⟩ := (hMc b).mp z
    exact sub k i b e z
  have eq : ∀ b, Ex B M b ↔ Ex (fun b => B b ∨ (M b ∧ ¬ Mc b)) Mc b := fun b => ⟨fun z => z.elim (fun q => .inl (.inl q)) fun q => (Classical.em (Mc b)).elim .inr fun r => .inl (.inr ⟨q, r⟩), fun z => z.elim (fun q => q.elim .inl fun r => .inr r.1) fun q => .inr (McM b q)⟩
  have kA : Keep (Ex B M) H (Ex (fun b => B b ∨ (M b ∧ ¬ Mc b)) Mc) H := Keep.less fun b z => (eq b).mpr z
  refine ⟨fun b => B b ∨ (M b ∧ ¬ Mc b), Mc, ⟨fun k b => ∃ i : Nat, as[k]? = some (Ag.r i) ∧ fs i b, by rw [List.length_map, agSl_len, l.len], fun b => hMc b, fun a c b ⟨i, e1, z1⟩ ⟨j, e2, z2⟩ => ?_, fun k => ?_, fun b hb => h0.edom (hb.imp id fun q => q.1), fun b hb z => ?_⟩, eq, ?_⟩
  · have := h.one i j b z1 z2
    subst this
    exact ok.inj a c i e1 e2
  · rw [agSl_get, List.getElem?_map]
    cases ea : as[k]? with
    | none =>
      have ev : vs[k]? = none := by
        rw [List.getElem?_eq_none_iff] at ea ⊢
        rw [l.len]
        exact ea
      rw [ev]
      exact fun b ⟨i, e, _⟩ => by cases e
    | some a =>
      cases a with
      | s d =>
        obtain ⟨v, ev, hv⟩ := (l.get k).2 d ea
        rw [ev]
        refine ⟨fun b z => ?_, v, rfl, hv.keep kA⟩
        obtain ⟨i, e, _⟩ := z
        cases e
      | r i =>
        obtain ⟨v, ev, es⟩ := (l.get k).1 i ea
        obtain ⟨s, hs⟩ := (ok.at_ k i ea).get
        have q := h.at_ i
        rw [es, hs] at q
        rw [ev]
        show SlR _ _ _ _ _ ((δ[i]?).getD .emp)
        rw [hs]
        have e : (fun b => ∃ j, some (Ag.r i) = some (Ag.r j) ∧ fs j b) = fs i := by
          funext b
          exact propext ⟨fun ⟨j, e, z⟩ => by cases e; exact z, fun z => ⟨i, rfl, z⟩⟩
        rw [e]
        exact q.move kA fun _ _ _ e => e
  · rcases hb with hb | hb
    · exact h.dis b hb (McM b z)
    · exact hb.2 z
  · intro σ' αs Mc' H' k er f hb
    obtain ⟨δ', hk, hlen, href, hno⟩ := backP.spec ok.inj hb
    obtain ⟨gs, er⟩ := er
    have hc : ∀ j b, gs j b → Mc b ∨ H b = none := fun j b z => f.grow b ((er.own b).mpr ⟨j, z⟩)
    have mN : ∀ b, M b → H b ≠ none := fun b z e => by
      obtain ⟨u, q⟩ := h.mdom z
      rw [e] at q; cases q
    obtain ⟨fs', hfs⟩ : ∃ fs' : Nat → Fp, ∀ i b, fs' i b ↔ ((∃ a : Nat, as[a]? = some (Ag.r i) ∧ gs a b) ∨ ((∀ a : Nat, as[a]? ≠ some (Ag.r i)) ∧ fs i b)) := ⟨_, fun _ _ => Iff.rfl⟩
    have gm : ∀ j b, gs j b → M b ∨ H b = none := fun j b z => (hc j b z).imp (McM b) id
    have m' : ∀ i b, fs' i b → M b ∨ H b = none := fun i b z => by
      rcases (hfs i b).mp z with ⟨a, _, z⟩ | ⟨_, z⟩
      · exact gm a b z
      · exact .inl ((h.own b).mpr ⟨i, z⟩)
    have nref : ∀ (i : Nat) (b : Addr), (∀ a : Nat, as[a]? ≠ some (Ag.r i)) → fs i b → ¬ Mc b := fun i b n z q => by
      obtain ⟨k, j, e, y⟩ := (hMc b).mp q
      have := h.one i j b z y
      subst this
      exact n k e
    have low : ∀ b, Ex B (fun b => ∃ i, fs' i b) b → Ex (fun b => B b ∨ (M b ∧ ¬ Mc b)) Mc' b := fun b z => by
      rcases z with z | ⟨i, z⟩
      · exact .inl (.inl z)
      · rcases (hfs i b).mp z with ⟨a, _, z⟩ | ⟨n, z⟩
        · exact .inr ((er.own b).mpr ⟨a, z⟩)
        · exact .inl (.inr ⟨(h.own b).mpr ⟨i, z⟩, nref i b n z⟩)
    have kk : Keep (Ex B M) H (Ex B fun b => ∃ i, fs' i b) H' := fun b o eb nb => by
      refine ⟨fun z => ?_, (f.keep b o eb fun z => nb (.inr (McM b z))).imp id fun ⟨_, kvs, ob, e1, e2⟩ => ⟨kvs, _, .inl e1, e2, .inr ⟨ob, rfl⟩⟩⟩
      rcases z with z | ⟨i, z⟩
      · exact nb (.inl z)
      · rcases m' i b z with r | r
        · exact nb (.inr r)
        · rw [eb] at r; cases r
    have kl : Keep (Ex (fun b => B b ∨ (M b ∧ ¬ Mc b)) Mc') H' (Ex B fun b => ∃ i, fs' i b) H' := Keep.less low
    refine ⟨δ', fun b => ∃ i, fs' i b, hk, ⟨fs', by rw [hlen]; exact h.len, fun b => Iff.rfl, fun i j b z1 z2 => ?_, fun i => ?_, fun b hb => ?_, fun b hb ⟨i, z⟩ => ?_⟩, ⟨fun b o eb nb => ?_, fun b ⟨i, z⟩ => m' i b z, f.free⟩, low⟩
    · rcases (hfs i b).mp z1 with ⟨a, e1, y1⟩ | ⟨n1, y1⟩
      · rcases (hfs j b).mp z2 with ⟨c, e2, y2⟩ | ⟨n2, y2⟩
        · have := er.one a c b y1 y2
          subst this
          rw [e1] at e2
          cases e2
          rfl
        · rcases hc a b y1 with r | r
          · exact absurd r (nref j b n2 y2)
          · exact absurd r (mN b ((h.own b).mpr ⟨j, y2⟩))
      · rcases (hfs j b).mp z2 with ⟨c, e2, y2⟩ | ⟨n2, y2⟩
        · rcases hc c b y2 with r | r
          · exact absurd r (nref i b n1 y1)
          · exact absurd r (mN b ((h.own b).mpr ⟨i, y1⟩))
        · exact h.one i j b y1 y2
    · by_cases c : ∃ a : Nat, as[a]? = some (Ag.r i)
      · obtain ⟨a, ea⟩ := c
        obtain ⟨s', e1, e2, e3⟩ := href a i ea
        have ro := ok.at_ a i ea
        obtain ⟨s, hs⟩ := ro.get
        have hi : i < δ.length := (List.getElem?_eq_some_iff.mp hs).1
        rw [hs] at ro e3
        have q := h.at_ i
        rw [hs] at q
        have q2 := er.at_ a
        rw [e1] at q2
        have ev := fit_val ro e3 q q2
        rw [ev] at q2
        rw [e2 hi]
        have e : fs' i = gs a := by
          funext b
          refine propext ⟨fun z => ?_, fun z => (hfs i b).mpr (.inl ⟨a, ea, z⟩)⟩
          rcases (hfs i b).mp z with ⟨a', ea', z⟩ | ⟨n, _⟩
          · rw [← ok.inj a' a i ea' ea]; exact z
          · exact absurd ea (n a)
        rw [e]
        exact q2.move kl fun _ _ _ e => e
      · have n : ∀ a : Nat, as[a]? ≠ some (Ag.r i) := fun a e => c ⟨a, e⟩
        rw [hno i n]
        have e : fs' i = fs i := by
          funext b
          refine propext ⟨fun z => ?_, fun z => (hfs i b).mpr (.inr ⟨n, z⟩)⟩
          rcases (hfs i b).mp z with ⟨a', ea', z⟩ | ⟨_, z⟩
          · exact absurd ea' (n a')
          · exact z
        rw [e]
        exact (h.at_ i).move kk fun b u hb eb => f.exact (.inr ⟨(h.own b).mpr ⟨i, hb⟩, nref i b n hb⟩) (nref i b n hb) eb
    · obtain ⟨o, eb⟩ := h.dom b hb
      cases q : H' b with
      | none => rw [f.free b q] at eb; cases eb
      | some u => exact ⟨u, rfl⟩
    · rcases m' i b z with r | r
      · exact h.dis b hb r
      · obtain ⟨u, eu⟩ := h.dom b hb
        rw [r] at eu; cases eu
    · exact (f.keep b o eb fun z => nb (McM b z)).imp id fun z => ⟨fun q => z.1 (.inl q), z.2⟩
end
/-! ### the rules -/
def liftAM (W : WX) (t : CAM) : TA := fun σ H Q => ∃ B M δ R RX, ER B M H σ δ ∧ t δ R RX ∧ (∀ as δ' vs H' M', R as δ' → AgL (Ex B M') H' σ vs as → ER B M' H' σ δ' → Fz B M H M' H' → Q vs H') ∧ XOk W B M H σ RX
abbrev PAM (X : Cx) (W : WX) (es : List Expr) (t : CAM) : Prop := PA X es (liftAM W t)
section
variable {X : Cx} {W : WX} {k i : Nat} {ps : List Str} {x : Str} {p pos : Pos} {e e' : Expr} {es : List Expr} {t : CAM} {c : CE} {ta : CE}
theorem pam_nil : PAM X W [] camNil := PA.imp pa_nil fun σ H Q ⟨B, M, δ, R, RX, er, ht, k, _⟩ => k [] δ [] H M ht .nil er (Fz.refl _ _)
theorem ER.ref (h : ER B M H σ δ) (r : refOk δ[i]?) : ∃ v, σ[i]? = some (some v) := by
  obtain ⟨s, hs⟩ := r.get
  rw [hs] at r
  obtain ⟨fs, h⟩ := h
  have q := h.at_ i
  rw [hs] at q
  have : ∃ v, (σ[i]?).getD none = some v := by
    cases s with
    | st a n => exact ⟨_, q.1⟩
    | mt m =>
      obtain ⟨v, e, _⟩ := q
      exact ⟨v, e⟩
    | emp => exact r.elim
    | sh _ => exact r.elim
    | own _ => exact r.elim
    | obj _ _ _ => exact r.elim
    | obz _ _ => exact r.elim
    | sx _ _ => exact r.elim
  obtain ⟨v, ev⟩ := this
  cases c : σ[i]? with
  | none => rw [c] at ev; cases ev
  | some o => rw [c] at ev; exact ⟨v, by rw [show o = some v from ev]⟩
theorem pam_r (hv : PE X e (tVar i)) (hr : PAM X W es t) (he : starEach (e :: es) X.env = (false, eval e X.env) :: starEach es X.env := by rfl) : PAM X W (e :: es) (camR i t) := PA.imp (pa_cons hv hr he) fun σ H Q ⟨B, M, δ, R, RX, er, ⟨h0, ht⟩, k, x⟩ => by
  obtain ⟨v, ev⟩ := er.ref h0
  exact ⟨v, ev, B, M, δ, _, RX, er, ht, fun as δ1 vs H1 M1 h1 l1 er1 f1 => k _ δ1 _ H1 M1 h1 (.ref ev l1) er1 f1, x⟩
theorem pam_s (ha : PD X W e ta) (hr : PAM X W es t) (he : starEach (e :: es) X.env = (false, eval e X.env) :: starEach es X.env := by rfl) : PAM X W (e :: es) (camS ta t) := PA.imp (pa_cons ha hr he) fun σ H Q ⟨B, M, δ, R, RX, er, ht, k, x⟩ =>
  ⟨B, M, δ, _, RX, er, ht, fun d δ1 v H1 M1 h1 i1 er1 f1 => ⟨B, M1, δ1, _, RX, er1, h1, fun as δ2 vs H2 M2 h2 l2 er2 f2 => k _ δ2 _ H2 M2 h2 (.sh (i1.keep (Keep.fr f2)) l2) er2 (f1.trans f2), x.fr f1⟩, x⟩
theorem pd_fM (F : FnI X.prog X.w X.K X.mg X.base x k ps (spD c)) (hr : Room k X.A) (tk : Takes X W) (ha : PAM X W (e :: es) t) (hg : Gl X x := by rfl)
    (hdb : (x == ("__debug__" : Str)) = false := by decide) (he : starEach (e :: es) X.env = (false, eval e X.env) :: starEach es X.env := by rfl) (hpl : (backTo pos (starEach es X.env)).any (·.1) = false := by rfl) :
    PD X W (.Call (.Name x p) (e :: es) [] pos) (cCallM c t) := by
  obtain ⟨f, fd, h1, h2, h3, h4⟩ := F.ex
  refine PE.imp (pe_callS h1 hr hg h2 h3 h4 (E := WE W) (fun σ => passAt tk σ) ha hdb he hpl) fun σ H Q ⟨B, M, δ, R, RX, er, ht, kk, x⟩ => ?_
  refine ⟨B, M, δ, _, RX, er, ht, fun as δ1 vs H1 M1 ⟨ok, h1⟩ l1 er1 f1 => ?_, x⟩
  obtain ⟨Bc, Mc, erc, eq, back⟩ := er1.handM ok l1
  refine ⟨Bc, Mc, _, _, _, erc, h1, fun d αs v σ' H' M' hb i2 er2 f2 => ?_, fun C fs αs σ' o H' M' hb hx er2 f2 => ?_⟩
  · obtain ⟨δ2, M2, hR, er3, f3, low⟩ := back er2 f2 hb
    exact kk d δ2 v H' M2 hR (i2.keep (Keep.less low)) er3 (f1.trans f3)
  · obtain ⟨δ2, M2, hR, er3, f3, low⟩ := back er2 f2 hb
    exact x C fs δ2 o H' M2 hR (hx.less low) er3 (f1.trans f3)
end
/-! ### lent, while the drawing state goes on -/
def lendB (δ δ' : DEnv) (j : Nat) : Prop := δ'.length = δ.length ∧ ∀ i, i ≠ j → δ'[i]? = δ[i]? ∨ ∃ s n, δ'[i]? = some (.st s n)
def cLendS (j : Nat) (t : CE) : CE := fun δ R RX => ∃ ds, δ[j]? = some (.own ds) ∧ (δ.set j .emp).all lendSl = true ∧
  t (δ.set j (.sh (.lst ds))) (fun d δ' => (lendB δ δ' j ∧ δ'[j]? = some (.sh (.lst ds))) ∧ Fre ds d ∧ R d (δ'.set j (.own ds))) (fun C fs δ' => (lendB δ δ' j ∧ δ'[j]? = some (.sh (.lst ds))) ∧ (∀ f ∈ fs, Fre ds f.2) ∧ RX C fs (δ'.set j (.own ds)))
section
variable {B M M' : Fp} {H H' : Hp} {σ : L2.St} {δ : DEnv} {j : Nat} {ds : List D}
/-- an owned list is lent: what comes back -/
theorem ER.lendS (h : ER B M H σ δ) (e : δ[j]? = some (.own ds)) (ok : lendOk δ j) : ∃ p vs M1, H p = some (.lst vs) ∧ σ[j]? = some (some (.ref p)) ∧ ER B M1 H σ (δ.set j (.sh (.lst ds))) ∧ Is (Ex B M1) H (.ref p) (.lst ds) ∧
    ∀ δ' M' H', ER B M' H' σ δ' → δ'[j]? = some (.sh (.lst ds)) → lendB δ δ' j → Fz B M1 H M' H' → H' p = some (.lst vs) ∧ Is (Ex B M') H' (.ref p) (.lst ds) ∧ ER B (Ap M' p) H' σ (δ'.set j (.own ds)) ∧ Fz B M H (Ap M' p) H' := by
  have hj : j < δ.length := (List.getElem?_eq_some_iff.mp e).1
  obtain ⟨p, vs, ev, hp, hl⟩ := h.ow e
  obtain ⟨fs, h0⟩ := h
  have a := h0.at_ j
  rw [e, ev] at a
  obtain ⟨p', vs', ep, hp', hl', hf⟩ := a
  cases ep
  have hM : M p := (h0.own p).mpr ⟨j, (hf p).mpr rfl⟩
  have sub : ∀ b, (False ∨ ∃ i, i ≠ j ∧ fs i b) → M b := fun b z => z.elim False.elim h0.sub
  have np0 : ¬ (False ∨ ∃ i, i ≠ j ∧ fs i p) := fun z => z.elim id fun ⟨i, hi, z⟩ => hi (h0.one i j p z ((hf p).mpr rfl))
  have k : Keep (Ex B M) H (Ex B fun b => False ∨ ∃ i, i ≠ j ∧ fs i b) H := Keep.less fun b z => z.imp id (sub b)
  have nBp : ¬ B p := fun z => h0.dis p z hM
  have hI : Is (Ex B fun b => False ∨ ∃ i, i ≠ j ∧ fs i b) H (.ref p) (.lst ds) := .lst hp (fun z => z.elim nBp np0) (hl.keep k)
  have q := h0.put (f' := fun _ => False) (o' := some (.ref p)) (s' := .sh (.lst ds)) hj ⟨fun _ z => z, .ref p, rfl, hI⟩ (fun _ _ _ _ _ e => e) k (fun _ _ _ z => z.elim) (fun _ z => z.elim) (fun b o e => ⟨o, e⟩)
  rw [set_self ev] at q
  obtain ⟨M1, sub, np0, hI, q⟩ : ∃ M1 : Fp, (∀ b, M1 b → M b) ∧ ¬ M1 p ∧ Is (Ex B M1) H (.ref p) (.lst ds) ∧ ER B M1 H σ (δ.set j (.sh (.lst ds))) := ⟨_, sub, np0, hI, q⟩
  refine ⟨p, vs, M1, hp, ev, q, hI, fun δ' M' H' er' ej lb f => ?_⟩
  have e' : H' p = some (.lst vs) := by
    rcases f.keep p _ hp np0 with z | ⟨_, _, _, z, _⟩
    · exact z
    · cases z
  have nM' : ¬ M' p := fun z => (f.grow p z).elim np0 fun z => by rw [hp] at z; cases z
  have kk : Keep (Ex B M) H (Ex B (Ap M' p)) H' := fun b o eb nb => by
    have n1 : ¬ M1 b := fun z => nb (.inr (sub b z))
    refine ⟨fun z => z.elim (fun z => nb (.inl z)) fun z => z.elim (fun z => (f.grow b z).elim n1 fun z => by rw [eb] at z; cases z) fun z => nb (.inr (z ▸ hM)), ?_⟩
    rcases f.keep b o eb n1 with z | ⟨_, kvs, ob, rfl, z⟩
    · exact .inl z
    · exact .inr ⟨kvs, _, .inl rfl, z, .inr ⟨_, rfl⟩⟩
  obtain ⟨gs, g⟩ := er'
  have gj : ∀ b, ¬ gs j b := by
    have a := g.at_ j
    rw [ej] at a
    exact a.1
  have hj' : j < δ'.length := (List.getElem?_eq_some_iff.mp ej).1
  refine ⟨e', ?_, ⟨fun i => if i = j then (fun b => b = p) else gs i, by rw [g.len, List.length_set], fun b => ⟨fun z => ?_, fun ⟨i, z⟩ => ?_⟩, fun a c b z1 z2 => ?_, fun i => ?_, g.dom, fun b hb z => ?_⟩, fun b o eb nb => ?_, fun b z => ?_, f.free⟩
  · exact hI.keep (Keep.fr f)
  · rcases z with z | z
    · obtain ⟨i, hi⟩ := (g.own b).mp z
      have : i ≠ j := fun q => gj b (q ▸ hi)
      exact ⟨i, by simp only [if_neg this]; exact hi⟩
    · exact ⟨j, by simp only [if_pos]; exact z⟩
  · by_cases hi : i = j
    · simp only [if_pos hi] at z; exact .inr z
    · simp only [if_neg hi] at z; exact .inl ((g.own b).mpr ⟨i, z⟩)
  · have np : ∀ i b, gs i b → b ≠ p := fun i b hb e => nM' (e ▸ (g.own b).mpr ⟨i, hb⟩)
    by_cases ha : a = j
    · by_cases hc : c = j
      · rw [ha, hc]
      · simp only [if_pos ha] at z1
        simp only [if_neg hc] at z2
        exact absurd z1 (np c b z2)
    · by_cases hc : c = j
      · simp only [if_neg ha] at z1
        simp only [if_pos hc] at z2
        exact absurd z2 (np a b z1)
      · simp only [if_neg ha] at z1
        simp only [if_neg hc] at z2
        exact g.one a c b z1 z2
  · by_cases hi : i = j
    · subst hi
      simp only [if_pos]
      rw [ev, List.getElem?_set, if_pos rfl, if_pos hj']
      exact ⟨p, vs, rfl, e', hl.keep kk, fun _ => Iff.rfl⟩
    · simp only [if_neg hi]
      have a := g.at_ i
      have a0 := h0.at_ i
      rw [List.getElem?_set, if_neg (Ne.symm hi)]
      rcases lb.2 i hi with q | ⟨s, n, q⟩
      case inr =>
        rw [q] at a ⊢
        exact a
      rw [q] at a ⊢
      cases es : δ[i]? with
      | none =>
        rw [es] at a
        exact a
      | some s =>
        have o := ok i s hi es
        rw [es] at a a0
        cases s with
        | emp => exact a
        | sh d =>
          obtain ⟨_, v, w, x⟩ := a0
          exact ⟨a.1, v, w, x.keep kk⟩
        | st s n => exact a
        | own _ => cases o
        | obj _ _ _ => cases o
        | obz _ _ => cases o
        | sx _ _ => cases o
        | mt _ => cases o
  · exact z.elim (g.dis b hb) fun z => nBp (z ▸ hb)
  · exact f.keep b o eb fun z => nb (sub b z)
  · exact z.elim (fun z => (f.grow b z).imp (sub b) id) fun z => .inl (z ▸ hM)
end
section
variable {X : Cx} {W : WX} {e : Expr} {t : CE} {j : Nat}
theorem pd_lendS (h : PD X W e t) : PD X W e (cLendS j t) := PE.imp h fun σ H Q ⟨B, M, δ, R, RX, er, ⟨ds, ej, ok, ht⟩, k, x⟩ => by
  obtain ⟨p, vs, M1, hp, ev, er1, hI, back⟩ := er.lendS ej (lendOk_of ok)
  refine ⟨B, M1, _, _, _, er1, ht, fun d δ' v H' M' hq i1 er' f1 => ?_, fun C fs δ' o H' M' hq hx er' f1 => ?_⟩
  · obtain ⟨⟨lb, e1⟩, fr, hR⟩ := hq
    obtain ⟨e', hI', er2, f2⟩ := back δ' M' H' er' e1 lb f1
    have := Is.fre e' hI' i1 fr
    rw [Ex_ap] at this
    exact k d _ v H' _ hR this er2 f2
  · obtain ⟨⟨lb, e1⟩, fr, hR⟩ := hq
    obtain ⟨e', hI', er2, f2⟩ := back δ' M' H' er' e1 lb f1
    refine x C fs _ o H' _ hR ?_ er2 f2
    rcases hx with hx | ⟨d, xs, ho, hd, nd, l⟩
    · exact .inl hx
    · have := l.fre e' hI' fr
      rw [Ex_ap] at this
      refine .inr ⟨d, xs, ho, hd, fun z => ?_, this⟩
      rw [← Ex_ap] at z
      exact z.elim nd fun z => by rw [z, e'] at hd; cases hd
end
end Xl


namespace Xl
open PySem PySem.Spec PyProof.Rows L2
/-! ### a statement while a list is lent -/
def okS (ds : List D) : Sl → Prop
  | .emp => True
  | .st _ _ => True
  | .sh d => Fre ds d
  | .own es => ∀ d ∈ es, Fre ds d
  | _ => False
def backC (δ' : DEnv) (j : Nat) (p : Addr) (ds : List D) : Prop := δ'[j]? = some (.obz p (.lst ds)) ∧ ∀ s ∈ δ'.set j .emp, okS ds s
def cLendC (j : Nat) (c : CS) : CS := fun δ C => ∃ p ds, δ[j]? = some (.mt (mL p ds)) ∧ c (δ.set j (.obz p (.lst ds)))
  ⟨fun δ' => backC δ' j p ds ∧ C.nx (δ'.set j (.mt (mL p ds))), fun d δ' => backC δ' j p ds ∧ Fre ds d ∧ C.rt d (δ'.set j (.mt (mL p ds))), fun δ' => backC δ' j p ds ∧ C.bk (δ'.set j (.mt (mL p ds))), fun δ' => backC δ' j p ds ∧ C.ct (δ'.set j (.mt (mL p ds))), fun C' fs δ' => backC δ' j p ds ∧ (∀ f ∈ fs, Fre ds f.2) ∧ C.ex C' fs (δ'.set j (.mt (mL p ds)))⟩
section
variable {B M M' : Fp} {H H' : Hp} {σ : L2.St} {δ : DEnv} {j : Nat} {p : Addr} {ds : List D}
theorem ER.lendC (h : ER B M H σ δ) (e : δ[j]? = some (.mt (mL p ds))) : ∃ vs M1, H p = some (.lst vs) ∧ ER B M1 H σ (δ.set j (.obz p (.lst ds))) ∧
    ∀ σ' δ' M' H', ER B M' H' σ' δ' → backC δ' j p ds → Fz B M1 H M' H' → H' p = some (.lst vs) ∧ Is (Ex B M') H' (.ref p) (.lst ds) ∧ ER B (Ap M' p) H' σ' (δ'.set j (.mt (mL p ds))) ∧ Fz B M H (Ap M' p) H' := by
  have hj : j < δ.length := (List.getElem?_eq_some_iff.mp e).1
  obtain ⟨ev, hO⟩ := h.toOwn e
  obtain ⟨fs, h0⟩ := h
  have a := h0.at_ j
  rw [e, ev] at a
  obtain ⟨p', vs, ep, hp, hl, hf⟩ := (slr_own a).2
  cases ep
  have hM : M p := (h0.own p).mpr ⟨j, (hf p).mpr rfl⟩
  have sub : ∀ b, (False ∨ ∃ i, i ≠ j ∧ fs i b) → M b := fun b z => z.elim False.elim h0.sub
  have np0 : ¬ (False ∨ ∃ i, i ≠ j ∧ fs i p) := fun z => z.elim id fun ⟨i, hi, z⟩ => hi (h0.one i j p z ((hf p).mpr rfl))
  have k : Keep (Ex B M) H (Ex B fun b => False ∨ ∃ i, i ≠ j ∧ fs i b) H := Keep.less fun b z => z.imp id (sub b)
  have nBp : ¬ B p := fun z => h0.dis p z hM
  have hI : Is (Ex B fun b => False ∨ ∃ i, i ≠ j ∧ fs i b) H (.ref p) (.lst ds) := .lst hp (fun z => z.elim nBp np0) (hl.keep k)
  have q := h0.put (f' := fun _ => False) (o' := some (.ref p)) (s' := .obz p (.lst ds)) hj ⟨fun _ z => z, rfl, hI⟩ (fun _ _ _ _ _ e => e) k (fun _ _ _ z => z.elim) (fun _ z => z.elim) (fun b o e => ⟨o, e⟩)
  rw [set_self ev] at q
  obtain ⟨M1, sub1, np1, q⟩ : ∃ M1 : Fp, (∀ b, M1 b → M b) ∧ ¬ M1 p ∧ ER B M1 H σ (δ.set j (.obz p (.lst ds))) := ⟨_, sub, np0, q⟩
  refine ⟨vs, M1, hp, q, fun σ' δ' M' H' er' ⟨ej, hs⟩ f => ?_⟩
  have e' : H' p = some (.lst vs) := by
    rcases f.keep p _ hp np1 with z | ⟨_, _, _, z, _⟩
    · exact z
    · cases z
  have nM' : ¬ M' p := fun z => (f.grow p z).elim np1 fun z => by rw [hp] at z; cases z
  have hj' : j < δ'.length := (List.getElem?_eq_some_iff.mp ej).1
  obtain ⟨gs, g⟩ := er'
  have aj := g.at_ j
  rw [ej] at aj
  obtain ⟨gj, evj, hIj⟩ := aj
  refine ⟨e', hIj, ⟨fun i => if i = j then (fun b => b = p) else gs i, by rw [g.len, List.length_set], fun b => ⟨fun z => ?_, fun ⟨i, z⟩ => ?_⟩, fun a c b z1 z2 => ?_, fun i => ?_, g.dom, fun b hb z => ?_⟩, fun b o eb nb => ?_, fun b z => ?_, f.free⟩
  · rcases z with z | z
    · obtain ⟨i, hi⟩ := (g.own b).mp z
      have : i ≠ j := fun q => gj b (q ▸ hi)
      exact ⟨i, by simp only [if_neg this]; exact hi⟩
    · exact ⟨j, by simp only [if_pos]; exact z⟩
  · by_cases hi : i = j
    · simp only [if_pos hi] at z; exact .inr z
    · simp only [if_neg hi] at z; exact .inl ((g.own b).mpr ⟨i, z⟩)
  · have np : ∀ i b, gs i b → b ≠ p := fun i b hb e => nM' (e ▸ (g.own b).mpr ⟨i, hb⟩)
    by_cases ha : a = j
    · by_cases hc : c = j
      · rw [ha, hc]
      · simp only [if_pos ha] at z1
        simp only [if_neg hc] at z2
        exact absurd z1 (np c b z2)
    · by_cases hc : c = j
      · simp only [if_neg ha] at z1
        simp only [if_pos hc] at z2
        exact absurd z2 (np a b z1)
      · simp only [if_neg ha] at z1
        simp only [if_neg hc] at z2
        exact g.one a c b z1 z2
  · have ap : Ap (Ex B M') p = Ex B (Ap M' p) := by
      funext b
      exact propext ⟨fun z => z.elim (fun z => z.elim .inl fun z => .inr (.inl z)) fun z => .inr (.inr z), fun z => z.elim (fun z => .inl (.inl z)) fun z => z.elim (fun z => .inl (.inr z)) .inr⟩
    by_cases hi : i = j
    · subst hi
      simp only [if_pos]
      rw [List.getElem?_set, if_pos rfl, if_pos hj']
      cases hIj with
      | lst e2 n2 l2 =>
        rw [e'] at e2
        cases e2
        -- the items stand outside of p, as they did
        have kk : Keep (Ex B M) H (Ex B (Ap M' p)) H' := fun b o eb nb => by
          have n1 : ¬ M1 b := fun z => nb (.inr (sub1 b z))
          refine ⟨fun z => z.elim (fun z => nb (.inl z)) fun z => z.elim (fun z => (f.grow b z).elim n1 fun z => by rw [eb] at z; cases z) fun z => nb (.inr (z ▸ hM)), ?_⟩
          rcases f.keep b o eb n1 with z | ⟨_, kvs, ob, rfl, z⟩
          · exact .inl z
          · exact .inr ⟨kvs, _, .inl rfl, z, .inr ⟨_, rfl⟩⟩
        exact slr_mt ⟨p, vs, evj, e', hl.keep kk, fun _ => Iff.rfl⟩ evj
    · simp only [if_neg hi]
      rw [List.getElem?_set, if_neg (Ne.symm hi)]
      have a := g.at_ i
      cases es : δ'[i]? with
      | none =>
        rw [es] at a
        exact a
      | some s =>
        have o := hs s (List.mem_of_getElem? (i := i) (by rw [List.getElem?_set, if_neg (Ne.symm hi)]; exact es))
        rw [es] at a
        cases s with
        | emp => exact a
        | st s n => exact a
        | sh d =>
          obtain ⟨n1, v, w, x⟩ := a
          have := Is.fre e' hIj x o
          rw [ap] at this
          exact ⟨n1, v, w, this⟩
        | own xs =>
          obtain ⟨q, ws, w, hq, l, hf⟩ := a
          have := l.fre e' hIj o
          rw [ap] at this
          exact ⟨q, ws, w, hq, this, hf⟩
        | obj _ _ _ => exact o.elim
        | obz _ _ => exact o.elim
        | sx _ _ => exact o.elim
        | mt _ => exact o.elim
  · exact z.elim (g.dis b hb) fun z => nBp (z ▸ hb)
  · exact f.keep b o eb fun z => nb (sub1 b z)
  · exact z.elim (fun z => (f.grow b z).imp (sub1 b) id) fun z => .inl (z ▸ hM)
end
section
variable {X : Cx} {W : WX} {st : Stmt} {c : CS} {j : Nat}
theorem psd_lendC (h : PSD X W st c) : PSD X W st (cLendC j c) := PS.imp h fun N σ H ⟨B, M, δ, C, er, ⟨p, ds, ej, hc⟩, k⟩ => by
  obtain ⟨vs, M1, hp, er1, back⟩ := er.lendC ej
  refine ⟨B, M1, _, _, er1, hc, ⟨fun δ' σ' H' M' ⟨hb, hn⟩ er' f => ?_, fun d δ' v σ' H' M' ⟨hb, fr, hn⟩ i1 er' f => ?_, fun δ' σ' H' M' ⟨hb, hn⟩ er' f => ?_, fun δ' σ' H' M' ⟨hb, hn⟩ er' f => ?_, fun C' fs δ' σ' o H' M' ⟨hb, fr, hn⟩ hx er' f => ?_⟩⟩
  · obtain ⟨_, _, er2, f2⟩ := back σ' δ' M' H' er' hb f
    exact k.nx _ σ' H' _ hn er2 f2
  · obtain ⟨e', hI, er2, f2⟩ := back σ' δ' M' H' er' hb f
    have := Is.fre e' hI i1 fr
    rw [Ex_ap] at this
    exact k.rt d _ v σ' H' _ hn this er2 f2
  · obtain ⟨_, _, er2, f2⟩ := back σ' δ' M' H' er' hb f
    exact k.bk _ σ' H' _ hn er2 f2
  · obtain ⟨_, _, er2, f2⟩ := back σ' δ' M' H' er' hb f
    exact k.ct _ σ' H' _ hn er2 f2
  · obtain ⟨e', hI, er2, f2⟩ := back σ' δ' M' H' er' hb f
    refine k.ex C' fs _ σ' o H' _ hn ?_ er2 f2
    rcases hx with hx | ⟨d, xs, ho, hd, nd, l⟩
    · exact .inl hx
    · have := l.fre e' hI fr
      rw [Ex_ap] at this
      refine .inr ⟨d, xs, ho, hd, fun z => ?_, this⟩
      rw [← Ex_ap] at z
      exact z.elim nd fun z => by rw [z, e'] at hd; cases hd
end
end Xl


namespace Xl
open PySem PySem.Spec PyProof.Rows L2
open Sem (wp)
/-! ### for i, x in enumerate(xs): a list or a tuple -/
set_option maxHeartbeats 1000000 in
theorem meets_enum1 {v : Value} {o : Obj} {H : Heap → Prop} (B : Begins v o H) :
    Meets (Builtin.«enumerate.__new__» ⟨[.type "enumerate", v], []⟩) (fun _ R s => H s.heap ∧
      R (.ok (.ret (.ref (s.heap.push o).objs.size))) { s with heap := (s.heap.push o).push { cls := .type "enumerate", data := .fields #[.none, .bool false, .ref s.heap.objs.size, rawInt 0, .none, .none] } }) :=
  .of_wp fun prog w A R s h => by
    obtain ⟨hp, g, d, tk, os⟩ := s; obtain ⟨h1, h⟩ := h
    have hsub := sub_enumerate
    have q1 : ∀ {A' : Around} {E : Value → Shared → Prop} {Q : Value → Shared → Prop}, Q (.ref hp.objs.size) ⟨hp.push o, g, d, tk, os⟩ → wpAny (model prog w) A' (pyIter v) Q E ⟨hp, g, d, tk, os⟩ :=
      fun q => B.iter prog w _ _ ⟨hp, g, d, tk, os⟩ _ h1 q
    wp_walk using q1
    refine wpAny_stack_any fun st => wpAny_pure ?_
    split
    · rename_i c _ _ _ _ _
      cases (c == Value.type "enumerate")
      · wp_walk using q1
        exact ⟨_, rfl, h⟩
      · wp_walk using q1
        exact ⟨_, rfl, h⟩
    · wp_walk using q1
      exact ⟨_, rfl, h⟩
theorem enum_begins1 {prog : Program} {w : World} {A : Around} {E : Value → Shared → Prop} {s : Shared} {v : Value} {o : Obj} {H : Heap → Prop} {Q : Value → Shared → Prop} (B : Begins v o H) (h1 : H s.heap)
    (h : ∀ h', IsEnum h' (s.heap.objs.size + 1) s.heap.objs.size 0 .none → h'.get? s.heap.objs.size = some o → h'.objs.size = s.heap.objs.size + 2 →
      (∀ b o, s.heap.get? b = some o → h'.get? b = some o) → Q (.ref (s.heap.objs.size + 1)) { s with heap := h' }) :
    wpAny (model prog w) A (call (.type "enumerate") [v]) Q E s := by
  refine callType_new F.called_enumerate (by decide) (F.typeCall_enumerate_1 _) (F.newCall_enumerate_1 _) (fun obj => F.args_object_init_2 obj _) F.entry_enumerate_new
    (meets_enum1 B) ⟨h1, ?_⟩
  have hz : (s.heap.push o).objs.size = s.heap.objs.size + 1 := Heap.size_push ..
  show _ ∧ _
  rw [hz]
  have he : IsEnum ((s.heap.push o).push { cls := .type "enumerate", data := .fields #[.none, .bool false, .ref s.heap.objs.size, rawInt 0, .none, .none] }) (s.heap.objs.size + 1) s.heap.objs.size 0 .none := by
    have := Heap.get?_push_size (s.heap.push o) (o := { cls := .type "enumerate", data := .fields #[.none, .bool false, .ref s.heap.objs.size, rawInt 0, .none, .none] }) rfl
    rw [hz] at this; exact this
  refine ⟨⟨_, he, rfl⟩, h _ he (Heap.get?_push_of_some _ (Heap.get?_push_size _ B.free)) (by rw [Heap.size_push, hz]) fun b o x => Heap.get?_push_of_some _ (Heap.get?_push_of_some _ x)⟩
/-- the tuple at a, each item in a new pair -/
def IteT (K : PySem.W.Frag) (a : Addr) : It :=
  ⟨fun i H => ∃ (xs : List V) (x : V), SqT K H a xs ∧ xs[i]? = some x, fun i H v H' => ∃ T x, v = .ref T ∧ H T = none ∧ H' = upd H T (.tup [.int (i : Nat), x]) ∧ ∀ xs, SqT K H a xs → xs[i]? = some x, fun i H => ∃ xs : List V, SqT K H a xs ∧ xs.length ≤ i⟩
theorem turn_enumT {P : Program} {w : World} {K : PySem.W.Frag} {elts : List Expr} {kk : Nat} {tpos : Pos} (a e it : Addr) :
    Turn P w K (.Tuple elts kk tpos) (IteT K a) [e, it] e (fun i h => (∃ old, IsEnum h e it ((i : Nat) : Int) old) ∧ h.IsTupleIter it a i ∧ e ≠ it) where
  mem := by simp
  obj := fun i h st b hb => by
    obtain ⟨⟨old, he⟩, ⟨o, ho, hc, hd⟩, _⟩ := st
    have e' : b = e ∨ b = it := by simpa using hb
    rcases e' with z | z
    · rw [z]; exact ⟨_, he, fun v q => nomatch q⟩
    · rw [z]; exact ⟨o, ho, fun v q => by rw [hd] at q; cases q⟩
  keep := fun i h h' st k => let ⟨⟨old, he⟩, hi, hne⟩ := st; ⟨⟨old, k e (by simp) _ he⟩, hi.at fun o q => k it (by simp) o q, hne⟩
  item := by
    intro X hP hw hK hc i pins s σ H E I hf st hg
    subst hP hw hK
    obtain ⟨⟨old, he⟩, hit, hne⟩ := st
    obtain ⟨xs, x, hq, hx⟩ := hg
    obtain ⟨its, rv, p, hz⟩ := I.tuple hq
    obtain ⟨u, hu, ru⟩ := rv.get hx
    have hel : e < s.heap.objs.size := Heap.lt_size he
    have hil : it < s.heap.objs.size := by obtain ⟨_, q, _⟩ := hit; exact Heap.lt_size q
    have hT0 : s.heap.IsTuple a its.toArray := p
    have hai : a ≠ it := fun q => by
      obtain ⟨o1, e1, c1, _⟩ := hT0
      obtain ⟨o2, e2, c2, _⟩ := hit
      rw [q] at e1
      rw [e1] at e2
      cases e2
      rw [c1] at c2
      simp at c2
    have hae : a ≠ e := fun q => by
      obtain ⟨o1, e1, c1, _⟩ := hT0
      rw [q] at e1
      have he' : s.heap.get? e = some _ := he
      rw [he'] at e1
      cases e1
      simp at c1
    have hlt : i < its.toArray.size := by
      have := (List.getElem?_eq_some_iff.mp hu).1
      simpa using this
    have D := Draws.tuple (prog := X.prog) (w := X.w) (A := X.A.in1) (I.ok.hd hc) it a hai its.toArray
    refine wpAny_pyNext_enum_itemD D he ⟨hit, hT0⟩ hlt hne (by
      intro q
      rcases List.mem_cons.mp q with q | q
      · exact hne q
      · rw [List.mem_singleton] at q
        exact hae q.symm) fun y h' tk hy ho hst hT hsz hk => ?_
    have ey : y = u := by
      have hy' : its.toArray[i]? = some y := hy
      rw [List.getElem?_toArray, hu] at hy'
      cases hy'
      rfl
    subst ey
    obtain ⟨hit', _⟩ := hst
    refine ⟨_, rfl, wpAny_letOwnedTupleGo_enum (s := { s with heap := h', toks := tk + 1 }) ho fun h'' he' sb => ?_⟩
    have hT2 : h''.get? s.heap.objs.size = some { cls := .type "tuple", data := .seq #[.int i tk, y] } := (sb.2 _ (Nat.ne_of_gt hel)).trans hT
    have new : ObjOk X.prog X.w (upd H s.heap.objs.size (.tup [.int (i : Nat), x])) h'' s.heap.objs.size (.tup [.int (i : Nat), x]) :=
      ⟨by show 2 ≤ sizeLine; decide, [.int i tk, y], .cons ⟨_, rfl⟩ (.cons ru .nil), ⟨_, hT2, rfl, _, rfl⟩⟩
    have I1 : Inv X pins σ (upd H s.heap.objs.size (.tup [.int (i : Nat), x])) { s with heap := h'', toks := tk + 1 } :=
      I.turnedNew (ch := [e, it]) (fun b ob hb q => (sb.2 b (fun z => hb (by simp [z]))).trans (hk b ob (fun z => hb (by simp [z])) (fun z => hb (by simp [z])) q)) hf (Nat.le_refl _) new
    refine ⟨.ref s.heap.objs.size, _, I1, rfl, ⟨_, x, rfl, I.hok.fresh (Nat.le_refl _), rfl, fun ys hy => by rw [I.tuple_inj hy hq]; exact hx⟩, ⟨⟨y, ?_⟩, hit'.at fun o q => (sb.2 it (Ne.symm hne)).trans q, hne⟩, fun b hb => ?_⟩
    · have e1 : ((i + 1 : Nat) : Int) = (i : Int) + 1 := by omega
      rw [e1]; exact he'
    · have hb' : b < s.heap.objs.size := by
        have e' : b = e ∨ b = it := by simpa using hb
        rcases e' with z | z
        · rw [z]; exact hel
        · rw [z]; exact hil
      rw [upd_ne (Nat.ne_of_lt hb')]
      exact (hf b hb).1
  done := by
    intro X hP hw hK hc i pins s σ H E I hf st hg
    subst hP hw hK
    obtain ⟨⟨old, he⟩, hit, hne⟩ := st
    obtain ⟨xs, hq, hx⟩ := hg
    obtain ⟨its, rv, p, hz⟩ := I.tuple hq
    obtain ⟨f0, f1, f2, f3, f4, f5⟩ := hf it (by simp)
    have hl := rv.length
    have hh : X.A.in1.handled = none := I.ok.hd hc
    have hT : s.TypeIs (.ref e) "enumerate" := ⟨_, he, rfl⟩
    unfold pyNext
    refine wpAny_bind (wpAny_attempt (wpAny_callSpecial?_slot (name := Str.ofString "__next__") hT F.slot_enumerate_next
      (wpAny_call_entry F.slot_enumerate_next hT F.entry_enumerate_next ?_ (F.args_enumerate_next_1 _))))
    show wpAny _ _ (field (.ref e) 2 >>= _) _ _ _
    refine wpAny_bind (wpAny_field he rfl (x := .ref it) rfl ?_)
    refine wpAny_bind (wpAny_nextOf_tuple_end hh hit (show s.heap.IsTuple a its.toArray from p) (by simp; omega) fun h' x he' hx' => ?_)
    obtain ⟨o, ho, hc⟩ := hx'
    refine wpAny_bind (wpAny_isInstance (T := "StopIteration") (b := true) ⟨o, ho, hc⟩ isSubtype_stop ?_)
    exact wpAny_pure ⟨rfl, I.turned (t' := s.toks) (fun b o hb q => he' b o hb q) f0 f1 f3 f4 f5⟩
  self := fun A i s Q E st h => let ⟨⟨_, he⟩, _⟩ := st; wpAny_pyIter_enum he h
def iEnum2 (K : PySem.W.Frag) (ta : TA) : TI := fun σ H R => ta σ H fun vs H1 => ∃ a xs, vs = [.ref a] ∧ ((SqL K H1 a xs ∧ R (Ite K a) H1) ∨ (SqT K H1 a xs ∧ R (IteT K a) H1))
theorem pi_enum2 {X : Cx} {e : Expr} {ta : TA} {p pos tpos : Pos} {elts : List Expr} {kk : Nat} (hg : Gl X "enumerate") (hm : X.mg "enumerate" = none) (ha : PA X [e] ta) (hs : starEach [e] X.env = [(false, eval e X.env)] := by rfl) :
    PI X (.Tuple elts kk tpos) (.Call (.Name "enumerate" p) [e] [] pos) (iEnum2 X.K ta) := by
  refine ⟨fun pins s σ H R I h => ?_⟩
  refine Call_ (ld_blt I hg hm boot_enumerate (PyProof.Rows.callWith_type1 (thn (ha.run pos pins s σ H _ I h) fun us s1 ⟨vs, H1, I1, r1, q1⟩ => ?_) hs rfl))
  obtain ⟨a, xs, ex, q⟩ := q1
  subst ex
  cases r1 with
  | cons r rr =>
    cases rr
    cases r
    rcases q with ⟨hq, q⟩ | ⟨hq, q⟩
    · obtain ⟨its, rv, p', hz⟩ := I1.list hq
      refine call_enumerate_list p'.isList fun h' he hit hsz hk => wpAny_pyIter_enum he ?_
      have I2 : Inv X pins σ H1 { s1 with heap := h' } := I1.kept (t' := s1.toks) hk
      refine ⟨s1.heap.objs.size + 1, [s1.heap.objs.size + 1, s1.heap.objs.size], _, _, H1, rfl, I2, turn_enum a (s1.heap.objs.size + 1) s1.heap.objs.size, ⟨⟨.none, he⟩, hit, Nat.succ_ne_self _⟩, fun b hb => ?_, q⟩
      have e' : b = s1.heap.objs.size + 1 ∨ b = s1.heap.objs.size := by simpa using hb
      have hle : s1.heap.objs.size ≤ b := by
        rcases e' with z | z
        · rw [z]; exact Nat.le_add_right _ _
        · rw [z]; exact Nat.le_refl _
      exact I1.fpOk hle (I1.hok.fresh hle)
    · obtain ⟨its, rv, p', hz⟩ := I1.tuple hq
      refine enum_begins1 (begins_tuple a its.toArray) (show s1.heap.IsTuple a its.toArray from p') fun h' he hit hsz hk => wpAny_pyIter_enum he ?_
      have I2 : Inv X pins σ H1 { s1 with heap := h' } := I1.kept (t' := s1.toks) hk
      refine ⟨s1.heap.objs.size + 1, [s1.heap.objs.size + 1, s1.heap.objs.size], _, _, H1, rfl, I2, turn_enumT a (s1.heap.objs.size + 1) s1.heap.objs.size, ⟨⟨.none, he⟩, ⟨_, hit, rfl, rfl⟩, Nat.succ_ne_self _⟩, fun b hb => ?_, q⟩
      have e' : b = s1.heap.objs.size + 1 ∨ b = s1.heap.objs.size := by simpa using hb
      have hle : s1.heap.objs.size ≤ b := by
        rcases e' with z | z
        · rw [z]; exact Nat.le_add_right _ _
        · rw [z]; exact Nat.le_refl _
      exact I1.fpOk hle (I1.hok.fresh hle)
/-- the pairs of an index and an item -/
def enD : Nat → List D → List D
  | _, [] => []
  | n, d :: ds => .tup [.int (n : Int), d] :: enD (n + 1) ds
theorem enD_get : ∀ (ds : List D) (n i : Nat), (enD n ds)[i]? = (ds[i]?).map fun d => .tup [.int ((n + i : Nat) : Int), d]
  | [], n, i => by simp [enD]
  | d :: ds, n, 0 => rfl
  | d :: ds, n, i + 1 => by
    show (enD (n + 1) ds)[i]? = _
    rw [enD_get ds (n + 1) i, show n + 1 + i = n + (i + 1) by omega]
    rfl
theorem enD_len : ∀ (ds : List D) (n : Nat), (enD n ds).length = ds.length
  | [], _ => rfl
  | d :: ds, n => by show (enD (n + 1) ds).length + 1 = _; rw [enD_len ds]; rfl
def ciEnum (ta : CA) : CA := fun δ R RX => ta δ (fun ds δ1 => match ds with
  | [.lst xs] => R (enD 0 xs) δ1
  | [.tup xs] => R (enD 0 xs) δ1
  | _ => False) RX
section
variable {X : Cx} {W : WX} {e : Expr} {ta : CA} {p pos tpos : Pos} {elts : List Expr} {kk : Nat}
theorem dwalk_enL {K : PySem.W.Frag} {B M : Fp} {H : Hp} {a : Addr} {vs : List V} {ds : List D} (e : H a = some (.lst vs)) (n : ¬ Ex B M a) (l : IsL (Ex B M) H vs ds) : DWalk B M H (Ite K a) (enD 0 ds) := by
  refine ⟨fun H2 => SqL K H2 a vs, fun H2 A2 f => SqL.of (kz_lst f e n), fun i H2 hi g => ?_, fun H2 g => ⟨vs, g, by rw [enD_len, l.length]; exact Nat.le_refl _⟩, fun i H2 A2 x H3 hi f hA y => ?_⟩
  · rw [enD_len, ← l.length] at hi
    exact ⟨vs, vs[i], g, List.getElem?_eq_getElem hi⟩
  · obtain ⟨T, z, rfl, hT, rfl, hx⟩ := y
    have same : Same H2 (upd H2 T (.tup [.int (i : Nat), z])) := fun b o eb => by rw [upd_ne (fun q => by rw [q, hT] at eb; cases eb)]; exact eb
    have hz := hx vs (SqL.of (kz_lst f e n))
    rw [enD_len] at hi
    obtain ⟨v, ev, hv⟩ := (l.keep f.keep).get (List.getElem?_eq_getElem hi)
    rw [hz] at ev
    cases ev
    refine ⟨same, .tup [.int (i : Int), ds[i]], by rw [enD_get, List.getElem?_eq_getElem hi, Nat.zero_add]; rfl, .tup upd_same (fun q => ?_) (.cons (.int _) (.cons (hv.keep (Keep.same same)) .nil))⟩
    obtain ⟨o, eo⟩ := hA T q
    rw [hT] at eo; cases eo
theorem dwalk_enT {K : PySem.W.Frag} {B M : Fp} {H : Hp} {a : Addr} {vs : List V} {ds : List D} (e : H a = some (.tup vs)) (n : ¬ Ex B M a) (l : IsL (Ex B M) H vs ds) : DWalk B M H (IteT K a) (enD 0 ds) := by
  refine ⟨fun H2 => SqT K H2 a vs, fun H2 A2 f => SqT.of (kz_tup f e n), fun i H2 hi g => ?_, fun H2 g => ⟨vs, g, by rw [enD_len, l.length]; exact Nat.le_refl _⟩, fun i H2 A2 x H3 hi f hA y => ?_⟩
  · rw [enD_len, ← l.length] at hi
    exact ⟨vs, vs[i], g, List.getElem?_eq_getElem hi⟩
  · obtain ⟨T, z, rfl, hT, rfl, hx⟩ := y
    have same : Same H2 (upd H2 T (.tup [.int (i : Nat), z])) := fun b o eb => by rw [upd_ne (fun q => by rw [q, hT] at eb; cases eb)]; exact eb
    have hz := hx vs (SqT.of (kz_tup f e n))
    rw [enD_len] at hi
    obtain ⟨v, ev, hv⟩ := (l.keep f.keep).get (List.getElem?_eq_getElem hi)
    rw [hz] at ev
    cases ev
    refine ⟨same, .tup [.int (i : Int), ds[i]], by rw [enD_get, List.getElem?_eq_getElem hi, Nat.zero_add]; rfl, .tup upd_same (fun q => ?_) (.cons (.int _) (.cons (hv.keep (Keep.same same)) .nil))⟩
    obtain ⟨o, eo⟩ := hA T q
    rw [hT] at eo; cases eo
theorem pid_enum (hg : Gl X "enumerate") (hm : X.mg "enumerate" = none) (ha : PAD X W [e] ta) (hs : starEach [e] X.env = [(false, eval e X.env)] := by rfl) : PID X W (.Tuple elts kk tpos) (.Call (.Name "enumerate" p) [e] [] pos) (ciEnum ta) :=
  PI.imp (pi_enum2 hg hm ha hs) fun σ H R ⟨B, M, δ, KK, RX, er, ht, k, x⟩ => by
    refine ⟨B, M, δ, _, RX, er, ht, fun ds δ1 vs H1 M1 h1 i1 er1 f1 => ?_, x⟩
    split at h1
    · cases i1 with
      | cons a t =>
        cases t
        cases a with
        | lst e n l => exact ⟨_, _, rfl, .inl ⟨SqL.of e, k _ _ _ H1 M1 h1 er1 f1 (dwalk_enL e n l)⟩⟩
    · cases i1 with
      | cons a t =>
        cases t
        cases a with
        | tup e n l => exact ⟨_, _, rfl, .inr ⟨SqT.of e, k _ _ _ H1 M1 h1 er1 f1 (dwalk_enT e n l)⟩⟩
    · exact h1.elim
end
end Xl


namespace Xl
open PySem PySem.Spec PyProof.Rows L2
/-! ### the equations of the words for data that changes (for simp) -/
theorem map_d_inj {xs ds : List D} (h : xs.map Mt.d = ds.map Mt.d) : xs = ds := by
  induction xs generalizing ds with
  | nil =>
    cases ds with
    | nil => rfl
    | cons d ds => cases h
  | cons x xs ih =>
    cases ds with
    | nil => cases h
    | cons d ds =>
      rw [List.map_cons, List.map_cons, List.cons.injEq] at h
      cases h.1
      rw [ih h.2]
theorem ex_mt {p0 : Addr} {xs : List D} {k : Addr → List D → Prop} : (∃ (p : Addr) (ds : List D), some (Sl.mt (Mt.lst p0 (xs.map Mt.d))) = some (Sl.mt (Mt.lst p (ds.map Mt.d))) ∧ k p ds) = k p0 xs := propext ⟨fun ⟨p, ds, e, h⟩ => by
  have e1 := Sl.mt.inj (Option.some.inj e)
  have e2 := Mt.lst.inj e1
  cases e2.1
  cases map_d_inj e2.2
  exact h, fun h => ⟨_, _, rfl, h⟩⟩
theorem ex_mt0 {p0 : Addr} {xs : List D} : (∃ (p : Addr) (ds : List D), some (Sl.mt (Mt.lst p0 (xs.map Mt.d))) = some (Sl.mt (Mt.lst p (ds.map Mt.d)))) = True := propext ⟨fun _ => trivial, fun _ => ⟨_, _, rfl⟩⟩
theorem ex_own {xs : List D} {k : List D → Prop} : (∃ ds, some (Sl.own xs) = some (Sl.own ds) ∧ k ds) = k xs := propext ⟨fun ⟨ds, e, h⟩ => by cases e; exact h, fun h => ⟨_, rfl, h⟩⟩
section
variable {i j : Nat} {t : CE} {tt : CT} {c : CS} {tv tj : CE} {x0 : Sl} {δ : DEnv} {R : KV} {RX : KX} {RT : Bool → DEnv → Prop} {C : CEnds} {cam : CAM} {RA : List Ag → DEnv → Prop} {as : List Ag} {s : Sl} {ss : List Sl} {k : DEnv → Prop} {d : D}
theorem cOwnV_c : cOwnV i t (x0 :: δ) R RX = ∃ p ds, (x0 :: δ)[i]? = some (.mt (mL p ds)) ∧ t ((x0 :: δ).set i (.own ds)) (fun d δ' => ∃ ds', δ'[i]? = some (.own ds') ∧ R d (δ'.set i (.mt (mL p ds')))) (fun C fs δ' => ∃ ds', δ'[i]? = some (.own ds') ∧ RX C fs (δ'.set i (.mt (mL p ds')))) := propext Iff.rfl
theorem cOwnT_c : cOwnT i tt (x0 :: δ) RT RX = ∃ p ds, (x0 :: δ)[i]? = some (.mt (mL p ds)) ∧ tt ((x0 :: δ).set i (.own ds)) (fun b δ' => ∃ ds', δ'[i]? = some (.own ds') ∧ RT b (δ'.set i (.mt (mL p ds')))) (fun C fs δ' => ∃ ds', δ'[i]? = some (.own ds') ∧ RX C fs (δ'.set i (.mt (mL p ds')))) := propext Iff.rfl
theorem cToM_c : cToM i c (x0 :: δ) C = c (x0 :: δ) ⟨fun δ' => ∃ ds, δ'[i]? = some (.own ds) ∧ ∀ p, C.nx (δ'.set i (.mt (mL p ds))), C.rt, C.bk, C.ct, C.ex⟩ := propext Iff.rfl
theorem cPutM_c : cPutM i tv tj (x0 :: δ) C = tv (x0 :: δ) (fun d δ0 => (∃ p ds, δ0[i]? = some (.mt (mL p ds))) ∧ tj δ0 (fun a δ1 => match a with
  | .int j => ∃ p ds, δ1[i]? = some (.mt (mL p ds)) ∧ ∃ k, ixN ds.length j = some k ∧ C.nx (δ1.set i (.mt (mL p (ds.set k d))))
  | _ => False) C.ex) C.ex := propext Iff.rfl
theorem cAppM_c : cAppM i t (x0 :: δ) C = ((∃ p ds, (x0 :: δ)[i]? = some (.mt (mL p ds))) ∧ t (x0 :: δ) (fun d δ1 => ∃ p ds, δ1[i]? = some (.mt (mL p ds)) ∧ ds.length < sizeLine ∧ C.nx (δ1.set i (.mt (mL p (ds ++ [d]))))) C.ex) := propext Iff.rfl
theorem cLendS_c : cLendS j t (x0 :: δ) R RX = ∃ ds, (x0 :: δ)[j]? = some (.own ds) ∧ ((x0 :: δ).set j .emp).all lendSl = true ∧
  t ((x0 :: δ).set j (.sh (.lst ds))) (fun d δ' => (lendB (x0 :: δ) δ' j ∧ δ'[j]? = some (.sh (.lst ds))) ∧ Fre ds d ∧ R d (δ'.set j (.own ds))) (fun C fs δ' => (lendB (x0 :: δ) δ' j ∧ δ'[j]? = some (.sh (.lst ds))) ∧ (∀ f ∈ fs, Fre ds f.2) ∧ RX C fs (δ'.set j (.own ds))) := propext Iff.rfl
theorem cLendT_c : cLendT j tt (x0 :: δ) RT RX = ∃ ds, (x0 :: δ)[j]? = some (.own ds) ∧ ((x0 :: δ).set j .emp).all lendSl = true ∧
  tt ((x0 :: δ).set j (.sh (.lst ds))) (fun b δ' => δ' = (x0 :: δ).set j (.sh (.lst ds)) ∧ RT b (x0 :: δ)) (fun C fs δ' => δ' = (x0 :: δ).set j (.sh (.lst ds)) ∧ (∀ f ∈ fs, Fre ds f.2) ∧ RX C fs (x0 :: δ)) := propext Iff.rfl
theorem cLendC_c : cLendC j c (x0 :: δ) C = ∃ p ds, (x0 :: δ)[j]? = some (.mt (mL p ds)) ∧ c ((x0 :: δ).set j (.obz p (.lst ds)))
  ⟨fun δ' => backC δ' j p ds ∧ C.nx (δ'.set j (.mt (mL p ds))), fun d δ' => backC δ' j p ds ∧ Fre ds d ∧ C.rt d (δ'.set j (.mt (mL p ds))), fun δ' => backC δ' j p ds ∧ C.bk (δ'.set j (.mt (mL p ds))), fun δ' => backC δ' j p ds ∧ C.ct (δ'.set j (.mt (mL p ds))), fun C' fs δ' => backC δ' j p ds ∧ (∀ f ∈ fs, Fre ds f.2) ∧ C.ex C' fs (δ'.set j (.mt (mL p ds)))⟩ := propext Iff.rfl
theorem camNil_c : camNil (x0 :: δ) RA RX = RA [] (x0 :: δ) := propext Iff.rfl
theorem camR_c : camR i cam (x0 :: δ) RA RX = (refOk (x0 :: δ)[i]? ∧ cam (x0 :: δ) (fun as δ1 => RA (.r i :: as) δ1) RX) := propext Iff.rfl
theorem camS_c : camS t cam (x0 :: δ) RA RX = t (x0 :: δ) (fun d δ1 => cam δ1 (fun as δ2 => RA (.s d :: as) δ2) RX) RX := propext Iff.rfl
theorem cCallM_c : cCallM t cam (x0 :: δ) R RX = cam (x0 :: δ) (fun as δ1 => agOk δ1 as ∧ t (agSl δ1 as) (fun d αs => backP as αs δ1 fun δ2 => R d δ2) fun C fs αs => backP as αs δ1 fun δ2 => RX C fs δ2) RX := propext Iff.rfl
theorem refOk_st {a : Addr} {n : Nat} : refOk (some (.st a n)) = True := propext ⟨fun _ => trivial, fun _ => trivial⟩
theorem refOk_mt {p : Addr} {ms : List Mt} : refOk (some (.mt (.lst p ms))) = True := propext ⟨fun _ => trivial, fun _ z => by cases z⟩
theorem notR_n : notR i [] = True := propext Iff.rfl
theorem notR_r : notR i (.r j :: as) = (i ≠ j ∧ notR i as) := propext Iff.rfl
theorem notR_s : notR i (.s d :: as) = notR i as := propext Iff.rfl
theorem agOk_n {δ : DEnv} : agOk δ [] = True := propext Iff.rfl
theorem agOk_r {δ : DEnv} : agOk δ (.r i :: as) = ((refOk δ[i]? ∧ notR i as) ∧ agOk δ as) := propext Iff.rfl
theorem agOk_s {δ : DEnv} : agOk δ (.s d :: as) = agOk δ as := propext Iff.rfl
theorem agSl_n {δ : DEnv} : agSl δ [] = [] := rfl
theorem agSl_r {δ : DEnv} : agSl δ (.r i :: as) = (δ[i]?).getD .emp :: agSl δ as := rfl
theorem agSl_s {δ : DEnv} : agSl δ (.s d :: as) = .sh d :: agSl δ as := rfl
theorem backP_n {δ : DEnv} : backP [] ss δ k = k δ := propext Iff.rfl
theorem backP_r {δ : DEnv} : backP (.r i :: as) (s :: ss) δ k = (fitP δ[i]? s ∧ backP as ss (δ.set i s) k) := propext Iff.rfl
theorem backP_s {δ : DEnv} : backP (.s d :: as) (s :: ss) δ k = backP as ss δ k := propext Iff.rfl
theorem fitP_st {a b : Addr} {n m : Nat} : fitP (some (.st a n)) (.st b m) = (b = a) := propext Iff.rfl
theorem fitP_mt {p q : Addr} {ms ns : List Mt} : fitP (some (.mt (.lst p ms))) (.mt (.lst q ns)) = (q = p) := propext ⟨fun h => Option.some.inj h, fun h => congrArg some h⟩
theorem lendSl_e : lendSl .emp = true := rfl
theorem lendSl_h {d : D} : lendSl (.sh d) = true := rfl
theorem lendSl_t {a : Addr} {n : Nat} : lendSl (.st a n) = true := rfl
theorem cVarM_m {p : Addr} {ds : List D} (e : (x0 :: δ)[i]? = some (.mt (mL p ds))) : cVarM i (x0 :: δ) R RX = R (.lst ds) ((x0 :: δ).set i (.sh (.lst ds))) := by
  unfold cVarM
  rw [e]
  exact propext ⟨fun ⟨q, xs, e2, h⟩ => by
    have e3 := Mt.lst.inj (Sl.mt.inj (Option.some.inj e2))
    cases map_d_inj e3.2
    exact h, fun h => ⟨p, ds, rfl, h⟩⟩
theorem cVarM_h {d : D} (e : (x0 :: δ)[i]? = some (.sh d)) : cVarM i (x0 :: δ) R RX = R d (x0 :: δ) := by
  unfold cVarM
  rw [e]
  unfold cVar
  rw [e]
/-- lending keeps the others -/
theorem lendB_0 {δ : DEnv} (x : Sl) : lendB δ (δ.set j x) j := ⟨List.length_set .., fun i hi => .inl (by rw [List.getElem?_set, if_neg (Ne.symm hi)])⟩
theorem lendB_1 {δ : DEnv} (x : Sl) (i : Nat) (s : Addr) (n : Nat) (hi : i < δ.length) : lendB δ ((δ.set j x).set i (.st s n)) j := by
  refine ⟨by rw [List.length_set, List.length_set], fun l hl => ?_⟩
  by_cases c : i = l
  · right
    rw [List.getElem?_set, if_pos c, List.length_set, if_pos (by omega)]
    exact ⟨s, n, rfl⟩
  · left
    rw [List.getElem?_set, if_neg c, List.getElem?_set, if_neg (Ne.symm hl)]
theorem ciEnum_c {ta : CA} {RL : List D → DEnv → Prop} : ciEnum ta (x0 :: δ) RL RX = ta (x0 :: δ) (fun ds δ1 => match ds with
  | [.lst xs] => RL (enD 0 xs) δ1
  | [.tup xs] => RL (enD 0 xs) δ1
  | _ => False) RX := propext Iff.rfl
end
end Xl


local macro_rules | `(tactic| walk_at "m1") => `(tactic| simp only [Xl.ex_mt, Xl.ex_mt0, Xl.ex_own, Xl.cOwnV_c, Xl.cOwnT_c, Xl.cToM_c, Xl.cPutM_c, Xl.cAppM_c, Xl.cLendS_c, Xl.cLendT_c, Xl.cLendC_c, Xl.camNil_c, Xl.camR_c, Xl.camS_c, Xl.cCallM_c, Xl.refOk_st, Xl.refOk_mt, Xl.notR_n, Xl.notR_r, Xl.notR_s, Xl.agOk_n, Xl.agOk_r, Xl.agOk_s, Xl.agSl_n, Xl.agSl_r, Xl.agSl_s, Xl.backP_n, Xl.backP_r, Xl.backP_s, Xl.fitP_st, Xl.fitP_mt, Xl.lendSl_e, Xl.lendSl_h, Xl.lendSl_t, Xl.ciEnum_c, List.all_cons, List.all_nil, Option.getD_some, ne_eq, Bool.and_true, Bool.and_self])
local macro_rules | `(tactic| walk_at "dm") => `(tactic| repeat (first | walk_at "d1" | walk_at "m1"))


namespace Xl
open PySem PySem.Spec PyProof.Rows L2
/-! ### things that change (lists within instances), looked at as plain data -/
mutual
def Mt.toD : Mt → D
  | .d x => x
  | .lst _ ms => .lst (Mt.toDL ms)
  | .ins _ C fs => .ins C (Mt.toDF fs)
def Mt.toDL : List Mt → List D
  | [] => []
  | m :: ms => m.toD :: Mt.toDL ms
def Mt.toDF : List (Str × Mt) → List (Str × D)
  | [] => []
  | (k, m) :: ms => (k, m.toD) :: Mt.toDF ms
end
theorem toDL_d : ∀ ds : List D, Mt.toDL (ds.map .d) = ds
  | [] => rfl
  | d :: ds => by
    show Mt.toD (.d d) :: Mt.toDL (ds.map .d) = _
    rw [toDL_d ds]
    rfl
/-- what may hold other things and change -/
def kindO : HO → Prop
  | .lst _ => True
  | .ins _ _ _ => True
  | .own _ => True
  | _ => False
section
variable {A A' : Fp} {H : Hp}
mutual
theorem MR.is (k : ∀ b, A' b → A b) {v : V} {m : Mt} {f : Fp} (h : MR A H v m f) (n : ∀ b, f b → ¬ A' b) : Is A' H v m.toD := by
  cases h with
  | d i _ => exact i.keep (Keep.less k)
  | lst e l _ hf => exact .lst e (n _ ((hf _).mpr (.inl rfl))) (l.is k fun b z => n b ((hf b).mpr (.inr z)))
  | ins e e2 l _ _ hf => exact .ins e (n _ ((hf _).mpr (.inl rfl))) (l.is k fun b z => n b ((hf b).mpr (.inr (.inr z))))
theorem MRL.is (k : ∀ b, A' b → A b) {vs : List V} {ms : List Mt} {f : Fp} (h : MRL A H vs ms f) (n : ∀ b, f b → ¬ A' b) : IsL A' H vs (Mt.toDL ms) := by
  cases h with
  | nil _ => exact .nil
  | cons h t _ hf => exact .cons (h.is k fun b z => n b ((hf b).mpr (.inl z))) (t.is k fun b z => n b ((hf b).mpr (.inr z)))
theorem MRF.is (k : ∀ b, A' b → A b) {vs : List (Str × V)} {ms : List (Str × Mt)} {f : Fp} (h : MRF A H vs ms f) (n : ∀ b, f b → ¬ A' b) : IsF A' H vs (Mt.toDF ms) := by
  cases h with
  | nil _ => exact .nil
  | cons h t _ hf => exact .cons (h.is k fun b z => n b ((hf b).mpr (.inl z))) (t.is k fun b z => n b ((hf b).mpr (.inr z)))
end
mutual
theorem MR.kind {v : V} {m : Mt} {f : Fp} (h : MR A H v m f) {b : Addr} (z : f b) : ∃ o, H b = some o ∧ kindO o := by
  cases h with
  | d _ n => exact absurd z (n b)
  | lst e l _ hf =>
    rcases (hf b).mp z with rfl | z
    · exact ⟨_, e, trivial⟩
    · exact l.kind z
  | ins e e2 l _ _ hf =>
    rcases (hf b).mp z with rfl | rfl | z
    · exact ⟨_, e, trivial⟩
    · exact ⟨_, e2, trivial⟩
    · exact l.kind z
theorem MRL.kind {vs : List V} {ms : List Mt} {f : Fp} (h : MRL A H vs ms f) {b : Addr} (z : f b) : ∃ o, H b = some o ∧ kindO o := by
  cases h with
  | nil n => exact absurd z (n b)
  | cons h t _ hf => exact ((hf b).mp z).elim h.kind t.kind
theorem MRF.kind {vs : List (Str × V)} {ms : List (Str × Mt)} {f : Fp} (h : MRF A H vs ms f) {b : Addr} (z : f b) : ∃ o, H b = some o ∧ kindO o := by
  cases h with
  | nil n => exact absurd z (n b)
  | cons h t _ hf => exact ((hf b).mp z).elim h.kind t.kind
end
/-- tuples of tuples of numbers, texts: nothing in it can change -/
inductive PlT : D → Prop
  | non : PlT .non
  | bl (b : Bool) : PlT (.bl b)
  | int (i : Int) : PlT (.int i)
  | str (s : Str) : PlT (.str s)
  | tup {xs : List D} : (∀ d ∈ xs, PlT d) → PlT (.tup xs)
mutual
theorem Is.plT {f : Fp} (hf : ∀ b, f b → ∃ o, H b = some o ∧ kindO o) {v : V} {d : D} (h : Is A H v d) (p : PlT d) : Is (fun b => A b ∨ f b) H v d := by
  cases h with
  | non => exact .non
  | bl b => exact .bl b
  | int i => exact .int i
  | str s h => exact .str s h
  | tup e n l =>
    cases p with
    | tup p => exact .tup e (fun z => z.elim n fun q => by
        obtain ⟨o, q, k⟩ := hf _ q
        rw [e] at q
        cases q
        exact k) (l.plT hf p)
  | cls a => cases p
  | exn0 a C => cases p
  | exn1 _ _ _ => cases p
  | lst _ _ _ => cases p
  | dic _ _ _ => cases p
  | ins _ _ _ => cases p
theorem IsL.plT {f : Fp} (hf : ∀ b, f b → ∃ o, H b = some o ∧ kindO o) {v : List V} {d : List D} (h : IsL A H v d) (p : ∀ x ∈ d, PlT x) : IsL (fun b => A b ∨ f b) H v d := by
  cases h with
  | nil => exact .nil
  | cons h t => exact .cons (Is.plT hf h (p _ List.mem_cons_self)) (t.plT hf fun x hx => p x (List.mem_cons_of_mem _ hx))
end
theorem IsF.plT {f : Fp} (hf : ∀ b, f b → ∃ o, H b = some o ∧ kindO o) : ∀ {v : List (Str × V)} {d : List (Str × D)}, IsF A H v d → (∀ x ∈ d, PlT x.2) → IsF (fun b => A b ∨ f b) H v d
  | _, _, .nil, _ => .nil
  | _, _, .cons h t, p => .cons (Is.plT hf h (p _ List.mem_cons_self)) (t.plT hf fun x hx => p x (List.mem_cons_of_mem _ hx))
end
def Au (A f : Fp) : Fp := fun b => A b ∨ f b
theorem Ex_au {B M f : Fp} : (fun b => Ex B M b ∨ f b) = Ex B (Au M f) := funext fun b => propext ⟨fun z => z.elim (fun z => z.elim .inl fun z => .inr (.inl z)) fun z => .inr (.inr z), fun z => z.elim (fun z => .inl (.inl z)) fun z => z.elim (fun z => .inl (.inr z)) .inr⟩
def cLendG (j : Nat) (t : CE) : CE := fun δ R RX => ∃ m, δ[j]? = some (.mt m) ∧ (δ.set j .emp).all lendSl = true ∧
  t (δ.set j (.sh m.toD)) (fun d δ' => (lendB δ δ' j ∧ δ'[j]? = some (.sh m.toD)) ∧ PlT d ∧ R d (δ'.set j (.mt m))) (fun C fs δ' => (lendB δ δ' j ∧ δ'[j]? = some (.sh m.toD)) ∧ (∀ f ∈ fs, PlT f.2) ∧ RX C fs (δ'.set j (.mt m)))
def cLendGT (j : Nat) (t : CT) : CT := fun δ R RX => ∃ m, δ[j]? = some (.mt m) ∧ (δ.set j .emp).all lendSl = true ∧
  t (δ.set j (.sh m.toD)) (fun b δ' => (lendB δ δ' j ∧ δ'[j]? = some (.sh m.toD)) ∧ R b (δ'.set j (.mt m))) (fun C fs δ' => (lendB δ δ' j ∧ δ'[j]? = some (.sh m.toD)) ∧ (∀ f ∈ fs, PlT f.2) ∧ RX C fs (δ'.set j (.mt m)))
section
variable {B M M' : Fp} {H H' : Hp} {σ : L2.St} {δ : DEnv} {j : Nat} {m : Mt}
/-- a thing that changes is lent: what comes back -/
theorem ER.lendG (h : ER B M H σ δ) (e : δ[j]? = some (.mt m)) (ok : lendOk δ j) : ∃ (f M1 : Fp), ER B M1 H σ (δ.set j (.sh m.toD)) ∧
    ∀ δ' M' H', ER B M' H' σ δ' → δ'[j]? = some (.sh m.toD) → lendB δ δ' j → Fz B M1 H M' H' → (∀ b, f b → ∃ o, H' b = some o ∧ kindO o) ∧ ER B (Au M' f) H' σ (δ'.set j (.mt m)) ∧ Fz B M H (Au M' f) H' := by
  have hj : j < δ.length := (List.getElem?_eq_some_iff.mp e).1
  obtain ⟨fs, h0⟩ := h
  have a := h0.at_ j
  rw [e] at a
  obtain ⟨v, ev0, mr⟩ := a
  have ev : σ[j]? = some (some v) := by
    cases c : σ[j]? with
    | none => rw [c] at ev0; cases ev0
    | some o => rw [c] at ev0; rw [show o = some v from ev0]
  have kd := fun b (z : fs j b) => mr.kind z
  have fM : ∀ b, fs j b → M b := fun b z => (h0.own b).mpr ⟨j, z⟩
  have sub : ∀ b, (False ∨ ∃ i, i ≠ j ∧ fs i b) → M b := fun b z => z.elim False.elim h0.sub
  have np0 : ∀ b, fs j b → ¬ (False ∨ ∃ i, i ≠ j ∧ fs i b) := fun b hb z => z.elim id fun ⟨i, hi, z⟩ => hi (h0.one i j b z hb)
  have k : Keep (Ex B M) H (Ex B fun b => False ∨ ∃ i, i ≠ j ∧ fs i b) H := Keep.less fun b z => z.imp id (sub b)
  have nBp : ∀ b, fs j b → ¬ B b := fun b hb z => h0.dis b z (fM b hb)
  have hI : Is (Ex B fun b => False ∨ ∃ i, i ≠ j ∧ fs i b) H v m.toD := mr.is (fun b z => z.imp id (sub b)) fun b hb z => z.elim (nBp b hb) (np0 b hb)
  have q := h0.put (f' := fun _ => False) (o' := some v) (s' := .sh m.toD) hj ⟨fun _ z => z, v, rfl, hI⟩ (fun _ _ _ _ _ e => e) k (fun _ _ _ z => z.elim) (fun _ z => z.elim) (fun b o e => ⟨o, e⟩)
  rw [set_self ev] at q
  obtain ⟨M1, sub, np0, hI, q⟩ : ∃ M1 : Fp, (∀ b, M1 b → M b) ∧ (∀ b, fs j b → ¬ M1 b) ∧ Is (Ex B M1) H v m.toD ∧ ER B M1 H σ (δ.set j (.sh m.toD)) := ⟨_, sub, np0, hI, q⟩
  refine ⟨fs j, M1, q, fun δ' M' H' er' ej lb f => ?_⟩
  have kp : ∀ b u, fs j b → H b = some u → H' b = some u := fun b u hb eb => by
    obtain ⟨o, eo, ko⟩ := kd b hb
    rw [eb] at eo
    cases eo
    rcases f.keep b _ eb (np0 b hb) with z | ⟨_, _, _, z, _⟩
    · exact z
    · subst z
      exact ko.elim
  have kd' : ∀ b, fs j b → ∃ o, H' b = some o ∧ kindO o := fun b hb => by
    obtain ⟨o, eo, ko⟩ := kd b hb
    exact ⟨o, kp b o hb eo, ko⟩
  have nM' : ∀ b, fs j b → ¬ M' b := fun b hb z => (f.grow b z).elim (np0 b hb) fun z => by
    obtain ⟨o, eo, _⟩ := kd b hb
    rw [eo] at z
    cases z
  have kk : Keep (Ex B M) H (Ex B (Au M' (fs j))) H' := fun b o eb nb => by
    have n1 : ¬ M1 b := fun z => nb (.inr (sub b z))
    refine ⟨fun z => z.elim (fun z => nb (.inl z)) fun z => z.elim (fun z => (f.grow b z).elim n1 fun z => by rw [eb] at z; cases z) fun z => nb (.inr (fM b z)), ?_⟩
    rcases f.keep b o eb n1 with z | ⟨_, kvs, ob, rfl, z⟩
    · exact .inl z
    · exact .inr ⟨kvs, _, .inl rfl, z, .inr ⟨_, rfl⟩⟩
  have mr' := mr.move kk kp
  obtain ⟨gs, g⟩ := er'
  have gj : ∀ b, ¬ gs j b := by
    have a := g.at_ j
    rw [ej] at a
    exact a.1
  have hj' : j < δ'.length := (List.getElem?_eq_some_iff.mp ej).1
  refine ⟨kd', ⟨fun i => if i = j then fs j else gs i, by rw [g.len, List.length_set], fun b => ⟨fun z => ?_, fun ⟨i, z⟩ => ?_⟩, fun a c b z1 z2 => ?_, fun i => ?_, g.dom, fun b hb z => ?_⟩, fun b o eb nb => ?_, fun b z => ?_, f.free⟩
  · rcases z with z | z
    · obtain ⟨i, hi⟩ := (g.own b).mp z
      have : i ≠ j := fun q => gj b (q ▸ hi)
      exact ⟨i, by simp only [if_neg this]; exact hi⟩
    · exact ⟨j, by simp only [if_pos]; exact z⟩
  · by_cases hi : i = j
    · simp only [if_pos hi] at z; exact .inr z
    · simp only [if_neg hi] at z; exact .inl ((g.own b).mpr ⟨i, z⟩)
  · have np : ∀ i b, gs i b → ¬ fs j b := fun i b hb e => nM' b e ((g.own b).mpr ⟨i, hb⟩)
    by_cases ha : a = j
    · by_cases hc : c = j
      · rw [ha, hc]
      · simp only [if_pos ha] at z1
        simp only [if_neg hc] at z2
        exact absurd z1 (np c b z2)
    · by_cases hc : c = j
      · simp only [if_neg ha] at z1
        simp only [if_pos hc] at z2
        exact absurd z2 (np a b z1)
      · simp only [if_neg ha] at z1
        simp only [if_neg hc] at z2
        exact g.one a c b z1 z2
  · by_cases hi : i = j
    · subst hi
      simp only [if_pos]
      rw [ev, List.getElem?_set, if_pos rfl, if_pos hj']
      exact ⟨v, rfl, mr'⟩
    · simp only [if_neg hi]
      have a := g.at_ i
      have a0 := h0.at_ i
      rw [List.getElem?_set, if_neg (Ne.symm hi)]
      rcases lb.2 i hi with q | ⟨s, n, q⟩
      case inr =>
        rw [q] at a ⊢
        exact a
      rw [q] at a ⊢
      cases es : δ[i]? with
      | none =>
        rw [es] at a
        exact a
      | some s =>
        have o := ok i s hi es
        rw [es] at a a0
        cases s with
        | emp => exact a
        | sh d =>
          obtain ⟨_, v, w, x⟩ := a0
          exact ⟨a.1, v, w, x.keep kk⟩
        | st s n => exact a
        | own _ => cases o
        | obj _ _ _ => cases o
        | obz _ _ => cases o
        | sx _ _ => cases o
        | mt _ => cases o
  · exact z.elim (g.dis b hb) fun z => nBp b z hb
  · exact f.keep b o eb fun z => nb (sub b z)
  · exact z.elim (fun z => (f.grow b z).imp (sub b) id) fun z => .inl (fM b z)
end
section
variable {X : Cx} {W : WX} {e : Expr} {j : Nat}
theorem pd_lendG {t : CE} (h : PD X W e t) : PD X W e (cLendG j t) := PE.imp h fun σ H Q ⟨B, M, δ, R, RX, er, ⟨m, ej, ok, ht⟩, k, x⟩ => by
  obtain ⟨f, M1, er1, back⟩ := er.lendG ej (lendOk_of ok)
  refine ⟨B, M1, _, _, _, er1, ht, fun d δ' v H' M' hq i1 er' f1 => ?_, fun C fs δ' o H' M' hq hx er' f1 => ?_⟩
  · obtain ⟨⟨lb, e1⟩, fr, hR⟩ := hq
    obtain ⟨kd, er2, f2⟩ := back δ' M' H' er' e1 lb f1
    have := Is.plT kd i1 fr
    rw [Ex_au] at this
    exact k d _ v H' _ hR this er2 f2
  · obtain ⟨⟨lb, e1⟩, fr, hR⟩ := hq
    obtain ⟨kd, er2, f2⟩ := back δ' M' H' er' e1 lb f1
    refine x C fs _ o H' _ hR ?_ er2 f2
    rcases hx with hx | ⟨d, xs, ho, hd, nd, l⟩
    · exact .inl hx
    · have := l.plT kd fr
      rw [Ex_au] at this
      refine .inr ⟨d, xs, ho, hd, fun z => ?_, this⟩
      rw [← Ex_au] at z
      refine z.elim nd fun z => ?_
      obtain ⟨o, eo, ko⟩ := kd _ z
      rw [hd] at eo
      cases eo
      exact ko
theorem ptd_lendG {t : CT} (h : PTD X W e t) : PTD X W e (cLendGT j t) := PT.imp h fun σ H Q ⟨B, M, δ, R, RX, er, ⟨m, ej, ok, ht⟩, k, x⟩ => by
  obtain ⟨f, M1, er1, back⟩ := er.lendG ej (lendOk_of ok)
  refine ⟨B, M1, _, _, _, er1, ht, fun d δ' H' M' hq er' f1 => ?_, fun C fs δ' o H' M' hq hx er' f1 => ?_⟩
  · obtain ⟨⟨lb, e1⟩, hR⟩ := hq
    obtain ⟨kd, er2, f2⟩ := back δ' M' H' er' e1 lb f1
    exact k d _ H' _ hR er2 f2
  · obtain ⟨⟨lb, e1⟩, fr, hR⟩ := hq
    obtain ⟨kd, er2, f2⟩ := back δ' M' H' er' e1 lb f1
    refine x C fs _ o H' _ hR ?_ er2 f2
    rcases hx with hx | ⟨d, xs, ho, hd, nd, l⟩
    · exact .inl hx
    · have := l.plT kd fr
      rw [Ex_au] at this
      refine .inr ⟨d, xs, ho, hd, fun z => ?_, this⟩
      rw [← Ex_au] at z
      refine z.elim nd fun z => ?_
      obtain ⟨o, eo, ko⟩ := kd _ z
      rw [hd] at eo
      cases eo
      exact ko
end
end Xl


namespace Xl
open PySem PySem.Spec PyProof.Rows L2
/-! ### instances that change: fields, lists within -/
def putFM (f : Str) (m : Mt) : List (Str × Mt) → List (Str × Mt)
  | [] => [(f, m)]
  | (g, x) :: r => if g = f then (g, m) :: r else (g, x) :: putFM f m r
section
variable {A : Fp} {H : Hp}
theorem MRF.length : ∀ {ms : List (Str × Mt)} {vs : List (Str × V)} {f : Fp}, MRF A H vs ms f → vs.length = ms.length
  | [], _, _, h => by cases h; rfl
  | _ :: ms, _, _, h => by
    cases h with
    | cons h t _ _ => rw [List.length_cons, List.length_cons, MRF.length t]
theorem MRF.none {k : Str} : ∀ {ms : List (Str × Mt)} {vs : List (Str × V)} {f : Fp}, MRF A H vs ms f → ms.lookup k = Option.none → vs.lookup k = Option.none
  | [], _, _, h, _ => by cases h; rfl
  | (j, m0) :: ms, _, _, h, e => by
    cases h with
    | cons h t _ _ =>
      rw [List.lookup_cons] at e
      rw [List.lookup_cons]
      cases q : k == j with
      | true => rw [q] at e; cases e
      | false => rw [q] at e; exact MRF.none t e
/-- field k: what it is, and what becomes of it -/
theorem MRF.look {k : Str} : ∀ {ms : List (Str × Mt)} {vs : List (Str × V)} {f : Fp} {m : Mt}, MRF A H vs ms f → ms.lookup k = some m → ∃ v g, vs.lookup k = some v ∧ MR A H v m g ∧ (∀ b, g b → f b) ∧
    ∀ A' H' m' g', Keep A H A' H' → (∀ b u, f b → ¬ g b → H b = some u → H' b = some u) → MR A' H' v m' g' → (∀ b, g' b → g b ∨ H b = Option.none) → ∃ f', MRF A' H' vs (putFM k m' ms) f' ∧ ∀ b, f' b → f b ∨ H b = Option.none
  | [], _, _, _, _, e => by cases e
  | (j, m0) :: ms, _, f, m, h, e => by
    cases h with
    | @cons _ v0 vs0 _ _ f0 g0 _ h t nd hf =>
      rw [List.lookup_cons] at e
      cases q : k == j with
      | true =>
        rw [q] at e
        cases e
        have ej : k = j := beq_iff_eq.mp q
        subst ej
        refine ⟨v0, f0, by rw [List.lookup_cons, q], h, fun b z => (hf b).mpr (.inl z), fun A' H' m' g' kk ko hm hg => ?_⟩
        have t' := t.move kk fun b u z e => ko b u ((hf b).mpr (.inr z)) (fun y => nd b y z) e
        refine ⟨fun b => g' b ∨ g0 b, ?_, fun b z => z.elim (fun z => (hg b z).imp (fun z => (hf b).mpr (.inl z)) id) fun z => .inl ((hf b).mpr (.inr z))⟩
        unfold putFM
        rw [if_pos rfl]
        exact .cons hm t' (fun b z y => (hg b z).elim (fun z => nd b z y) fun z => by obtain ⟨u, eu⟩ := t.dom y; rw [z] at eu; cases eu) fun _ => Iff.rfl
      | false =>
        rw [q] at e
        have ne : ¬ j = k := fun z => by rw [z, beq_self_eq_true] at q; cases q
        obtain ⟨v, g, e1, h1, h2, h3⟩ := MRF.look t e
        refine ⟨v, g, by rw [List.lookup_cons, q]; exact e1, h1, fun b z => (hf b).mpr (.inr (h2 b z)), fun A' H' m' g' kk ko hm hg => ?_⟩
        have hd' := h.move kk fun b u z e => ko b u ((hf b).mpr (.inl z)) (fun y => nd b z (h2 b y)) e
        obtain ⟨f', q1, q2⟩ := h3 A' H' m' g' kk (fun b u z n e => ko b u ((hf b).mpr (.inr z)) n e) hm hg
        refine ⟨fun b => f0 b ∨ f' b, ?_, fun b z => z.elim (fun z => .inl ((hf b).mpr (.inl z))) fun z => (q2 b z).imp (fun z => (hf b).mpr (.inr z)) id⟩
        unfold putFM
        rw [if_neg ne]
        exact .cons hd' q1 (fun b z y => (q2 b y).elim (fun y => nd b z y) fun y => by obtain ⟨u, eu⟩ := h.dom z; rw [y] at eu; cases eu) fun _ => Iff.rfl
/-- field k is set -/
theorem MRF.put {k : Str} {v : V} {m : Mt} {g : Fp} (hm : MR A H v m g) : ∀ {ms : List (Str × Mt)} {vs : List (Str × V)} {f : Fp}, MRF A H vs ms f → (∀ b, g b → ¬ f b) → ∃ f', MRF A H (putF k v vs) (putFM k m ms) f' ∧ ∀ b, f' b → f b ∨ g b
  | [], _, f, h, _ => by
    cases h with
    | nil n => exact ⟨g, .cons hm (.nil (f := fun _ => False) fun _ z => z) (fun _ _ z => z) fun b => ⟨.inl, fun z => z.elim id False.elim⟩, fun b z => .inr z⟩
  | (j, m0) :: ms, _, f, h, nf => by
    cases h with
    | @cons _ v0 vs0 _ _ f0 g0 _ h t nd hf =>
      unfold putF putFM
      split
      · exact ⟨fun b => g b ∨ g0 b, .cons hm t (fun b z y => nf b z ((hf b).mpr (.inr y))) fun _ => Iff.rfl, fun b z => z.elim .inr fun z => .inl ((hf b).mpr (.inr z))⟩
      · obtain ⟨f', q1, q2⟩ := MRF.put hm t fun b z y => nf b z ((hf b).mpr (.inr y))
        exact ⟨fun b => f0 b ∨ f' b, .cons h q1 (fun b z y => (q2 b y).elim (nd b z) fun y => nf b y ((hf b).mpr (.inl z))) fun _ => Iff.rfl, fun b z => z.elim (fun z => .inl ((hf b).mpr (.inl z))) fun z => (q2 b z).imp (fun z => (hf b).mpr (.inr z)) id⟩
end
def Nw (M : Fp) (H : Hp) : Fp := fun b => M b ∨ H b = none
section
variable {B M M' : Fp} {H H' : Hp} {σ : L2.St} {δ : DEnv} {i : Nat} {p : Addr}
theorem keep0 (h : ∀ b o, H b = some o → ¬ M b → H' b = some o) : Keep (Ex B M) H (Ex B (Nw M H)) H' := fun b o eb nb => ⟨fun z => z.elim (fun z => nb (.inl z)) fun z => z.elim (fun z => nb (.inr z)) fun z => (by rw [eb] at z; cases z), .inl (h b o eb fun z => nb (.inr z))⟩
/-- the thing at i, and what becomes of it when it is changed in its own parts -/
theorem ER.mutM (h : ER B M H σ δ) {m : Mt} (e : δ[i]? = some (.mt m)) : ∃ v f, σ[i]? = some (some v) ∧ MR (Ex B M) H v m f ∧ (∀ b, f b → M b) ∧
    ∀ m' f' H', MR (Ex B (Nw M H)) H' v m' f' → (∀ b o, H b = some o → ¬ f b → H' b = some o) → (∀ b, H' b = none → H b = none) → (∀ b, f' b → f b ∨ H b = none) → ∃ M', ER B M' H' σ (δ.set i (.mt m')) ∧ Fr M H M' H' := by
  have hi : i < δ.length := (List.getElem?_eq_some_iff.mp e).1
  obtain ⟨fs, h⟩ := h
  have a := h.at_ i
  rw [e] at a
  obtain ⟨v, ev0, mr⟩ := a
  have ev : σ[i]? = some (some v) := by
    cases c : σ[i]? with
    | none => rw [c] at ev0; cases ev0
    | some o => rw [c] at ev0; rw [show o = some v from ev0]
  have fM : ∀ b, fs i b → M b := fun b z => (h.own b).mpr ⟨i, z⟩
  refine ⟨v, fs i, ev, mr, fM, fun m' f' H' hm ko free hf => ?_⟩
  have sub : ∀ b, (f' b ∨ ∃ j, j ≠ i ∧ fs j b) → M b ∨ H b = none := fun b z => z.elim (fun z => (hf b z).imp (fM b) id) fun z => .inl (h.sub z)
  have k : Keep (Ex B M) H (Ex B fun b => f' b ∨ ∃ j, j ≠ i ∧ fs j b) H' := fun b o eb nb => ⟨fun z => z.elim (fun z => nb (.inl z)) fun z => (sub b z).elim (fun z => nb (.inr z)) fun z => (by rw [eb] at z; cases z), .inl (ko b o eb fun z => nb (.inr (fM b z)))⟩
  refine ⟨_, ?_, fun b o eb nb => ko b o eb fun z => nb (fM b z), sub, free⟩
  have q := h.put (f' := f') (o' := some v) (s' := .mt m') (H' := H') hi ⟨v, rfl, hm.move (Keep.less fun b z => z.imp id (sub b)) fun _ _ _ e => e⟩ (fun j b u hj hb eb => ko b u eb fun z => hj (h.one j i b hb z)) k
    (fun j b hj z y => (hf b z).elim (fun z => hj (h.one j i b y z)) fun z => by obtain ⟨u, eu⟩ := (h.at_ j).dom y; rw [z] at eu; cases eu)
    (fun b z y => (hf b z).elim (fun z => h.dis b y (fM b z)) fun z => by obtain ⟨u, eu⟩ := h.dom b y; rw [z] at eu; cases eu)
    (fun b o eb => by
      cases q : H' b with
      | none => rw [free b q] at eb; cases eb
      | some u => exact ⟨u, rfl⟩)
  rw [set_self ev] at q
  exact q
end
def cFldI (C : Addr) (f : Str) (i : Nat) : CE := fun δ R _ => ∃ a fs x, δ[i]? = some (.mt (.ins a C fs)) ∧ fs.lookup f = some (.d x) ∧ R x δ
def cStFI (C : Addr) (i : Nat) (f : Str) (tv : CE) : CS := fun δ K => tv δ (fun d δ1 => ∃ a fs, δ1[i]? = some (.mt (.ins a C fs)) ∧ fs.length < 1000 ∧ K.nx (δ1.set i (.mt (.ins a C (putFM f (.d d) fs))))) K.ex
def cAppFI (C : Addr) (i : Nat) (f : Str) (ta : CE) : CS := fun δ K => ∃ a p, (∃ fs ds, δ[i]? = some (.mt (.ins a C fs)) ∧ fs.lookup f = some (mL p ds)) ∧ ta δ (fun d δ1 => ∃ fs ds, δ1[i]? = some (.mt (.ins a C fs)) ∧ fs.lookup f = some (mL p ds) ∧ ds.length < sizeLine ∧ K.nx (δ1.set i (.mt (.ins a C (putFM f (mL p (ds ++ [d])) fs))))) K.ex
section
variable {X : Cx} {W : WX} {k i : Nat} {C : Addr} {f x m : Str} {p pos apos : Pos} {e e' o : Expr} {es : List Expr} {ta : CE} {t : CA} {c : CE}
theorem pd_fldI (hcl : Cls X.K C) (hno : NoAttr X.K C f) (he : PE X e (tVar i)) (hb : attributeBase e f X.env (eval e X.env) = eval e X.env := by rfl) : PD X W (.Attribute e f pos) (cFldI C f i) := PE.imp (pe_fld he hb) fun σ H Q ⟨B, M, δ, R, RX, er, ⟨a, fs, x, ei, ef, hR⟩, k, _⟩ => by
  obtain ⟨v, g, ev, mr, _, _⟩ := er.mutM ei
  cases mr with
  | ins e1 e2 l n1 n2 hf =>
    obtain ⟨u, g2, eu, mr2, _, _⟩ := l.look ef
    cases mr2 with
    | d i2 _ => exact ⟨_, ev, a, C, _, _, u, rfl, e1, hcl, hno, eu, k x δ u H M hR i2 er (Fz.refl _ _)⟩
theorem psd_fldI {value : Expr} {tv : CE} {pos' : Pos} (hcl : Cls X.K C) (hno : NoAttr X.K C f) (he : PE X o (tVar i)) (hv : PD X W value tv) (hs : swapsWith value (some (.Attribute o f pos')) pos.line X.env = pure false := by rfl) : PSD X W (.Assign [.Attribute o f pos'] value pos) (cStFI C i f tv) := PS.imp (ps_fld he hv hs) fun N σ H ⟨B, M, δ, K, er, ht, k⟩ => by
  refine ⟨B, M, δ, _, K.ex, er, ht, fun d δ1 v H1 M1 h1 i1 er1 f1 => ?_, k.xok σ⟩
  obtain ⟨a, fs, e1, hz, h1⟩ := h1
  obtain ⟨u, g, ev, mr, fM, back⟩ := er1.mutM e1
  cases mr with
  | @ins _ _ dx vs _ _ gl h2 h3 l n1 n2 hf =>
    have nda : dx ≠ a := fun z => by rw [z, h2] at h3; cases h3
    have aM : M1 a := fM a ((hf a).mpr (.inl rfl))
    obtain ⟨f', q1, q2⟩ := l.put (k := f) (MR.d (f := fun _ => False) i1 fun _ z => z) fun _ z => z.elim
    have na : ¬ f' a := fun z => (q2 a z).elim n1 id
    have ndx : ¬ f' dx := fun z => (q2 dx z).elim n2 id
    obtain ⟨M2, er2, f2⟩ := back (.ins a C (putFM f (.d d) fs)) (fun b => b = a ∨ b = dx ∨ f' b) (L2.upd H1 a (.ins C dx (putF f v vs)))
      (.ins upd_same (by rw [upd_ne nda]; exact h3) (q1.move (keep0 fun b o eb nb => by rw [upd_ne fun (z : b = a) => nb (z ▸ aM)]; exact eb) fun b u z e => by rw [upd_ne fun (y : b = a) => na (y ▸ z)]; exact e) na ndx fun _ => Iff.rfl)
      (fun b o eb nb => by rw [upd_ne fun (z : b = a) => nb ((hf b).mpr (.inl z))]; exact eb) (fun b z => upd_free z) fun b z => .inl ((hf b).mpr (z.imp id fun z => z.imp id fun z => (q2 b z).elim id False.elim))
    exact ⟨_, ev, a, C, dx, vs, rfl, h2, hcl, hno, by rw [l.length]; exact hz, k.nx _ σ _ M2 h1 er2 (f1.trans f2.fz)⟩
theorem psd_appFI {ta : CE} {st : Stmt} (hcl : Cls X.K C) (hno : NoAttr X.K C f) (h : ∀ to' t', PE X (.Attribute o f pos) to' → PA X [e'] t' → PS X st (tDrop (tBM X.K "list" rAppend to' t'))) (ho : PE X o (tVar i)) (ha : PD X W e' ta) (he : starEach [e'] X.env = (false, eval e' X.env) :: starEach [] X.env := by rfl)
    (hb : attributeBase o f X.env (eval o X.env) = eval o X.env := by rfl) : PSD X W st (cAppFI C i f ta) := by
  refine PS.imp (h _ _ (pe_fld ho hb) (pa_cons ha pa_nil he)) fun N σ H ⟨B, M, δ, K, er, ⟨a, p, ⟨fs0, ds0, e0, l0⟩, ht⟩, k⟩ => ?_
  obtain ⟨v0, g0, ev, mr, _, _⟩ := er.mutM e0
  cases mr with
  | ins h2 h3 l n1 n2 hf =>
    obtain ⟨u, g1, eu, mr1, _, _⟩ := l.look l0
    cases mr1 with
    | lst hp _ _ _ =>
      refine ⟨_, ev, a, C, _, _, _, rfl, h2, hcl, hno, eu, .inl ⟨rfl, _, SqL.of hp⟩, B, M, δ, _, K.ex, er, ht, fun d δ1 v H1 M1 h1 i1 er1 f1 => ?_, k.xok σ⟩
      obtain ⟨fs, ds, e1, l1, hz, h1⟩ := h1
      obtain ⟨v1, g, ev1, mr, fM, back⟩ := er1.mutM e1
      cases mr with
      | @ins _ _ dx vs _ _ gl q2 q3 l n1 n2 hf =>
        obtain ⟨u1, g1, eu1, mr1, g1f, put⟩ := l.look l1
        cases mr1 with
        | @lst _ ws _ _ gi hp1 ll nn hf1 =>
          obtain ⟨li, nb⟩ := ll.leaves
          have pg : gl p := g1f p ((hf1 p).mpr (.inl rfl))
          have pM : M1 p := fM p ((hf p).mpr (.inr (.inr pg)))
          have pa : a ≠ p := fun z => n1 (z ▸ pg)
          have px : dx ≠ p := fun z => n2 (z ▸ pg)
          have kk := keep0 (B := B) (M := M1) (H := H1) (H' := L2.upd H1 p (.lst (ws ++ [v]))) fun b o eb nb => by rw [upd_ne fun (z : b = p) => nb (z ▸ pM)]; exact eb
          obtain ⟨f', r1, r2⟩ := put _ _ (mL p (ds ++ [d])) (fun b => b = p) kk (fun b o z n e => by rw [upd_ne fun (q : b = p) => n ((hf1 b).mpr (.inl q))]; exact e) (.lst upd_same (MRL.ofL ((li.app (.cons i1 .nil)).keep kk)) (fun z => z) fun b => ⟨.inl, fun z => z.elim id False.elim⟩) fun b z => .inl ((hf1 b).mpr (.inl z))
          obtain ⟨M2, er2, f2⟩ := back (.ins a C (putFM f (mL p (ds ++ [d])) fs)) (fun b => b = a ∨ b = dx ∨ f' b) (L2.upd H1 p (.lst (ws ++ [v])))
            (.ins (by rw [upd_ne pa]; exact q2) (by rw [upd_ne px]; exact q3) r1 (fun z => (r2 a z).elim n1 fun z => by rw [q2] at z; cases z) (fun z => (r2 dx z).elim n2 fun z => by rw [q3] at z; cases z) fun _ => Iff.rfl)
            (fun b o eb nb => by rw [upd_ne fun (z : b = p) => nb ((hf b).mpr (.inr (.inr (z ▸ pg))))]; exact eb) (fun b z => upd_free z) fun b z => by
              rcases z with z | z | z
              · exact .inl ((hf b).mpr (.inl z))
              · exact .inl ((hf b).mpr (.inr (.inl z)))
              · exact (r2 b z).imp (fun z => (hf b).mpr (.inr (.inr z))) id
          exact ⟨p, ws, v, rfl, rfl, hp1, by rw [li.length]; exact hz, k.nx _ σ _ M2 h1 er2 (f1.trans f2.fz)⟩
end
end Xl


namespace Xl
open PySem PySem.Spec PyProof.Rows L2
/-! ### instances that change: making, calls -/
abbrev CM := DEnv → (Mt → DEnv → Prop) → KX → Prop
/-- a new thing that changes, in nobody's hands so far -/
def liftM (W : WX) (t : CM) : TE := fun σ H Q => ∃ B M δ R RX, ER B M H σ δ ∧ t δ R RX ∧ (∀ m δ' v f H' M', R m δ' → ER (Au B f) M' H' σ δ' → Fz B M H M' H' → (∀ b, f b → H b = none) → MR (Ex (Au B f) M') H' v m f → Q v H') ∧ XOk W B M H σ RX
abbrev PDM (X : Cx) (W : WX) (e : Expr) (t : CM) : Prop := PE X e (liftM W t)
section
variable {B M M' f : Fp} {H H' : Hp} {σ : L2.St} {δ : DEnv} {i : Nat}
theorem ER.setMt (h : ER (Au B f) M H σ δ) {v : V} {m : Mt} (hi : i < δ.length) (hB : ∀ b, f b → ¬ B b) (mr : MR (Ex (Au B f) M) H v m f) : ∃ M', ER B M' H (σ.set i (some v)) (δ.set i (.mt m)) ∧ ∀ b, M' b → M b ∨ f b := by
  obtain ⟨gs, h1⟩ := h
  have nM : ∀ b, f b → ¬ M b := fun b z => h1.dis b (.inr z)
  refine ⟨_, ⟨fun j => if j = i then f else gs j, by rw [List.length_set, List.length_set]; exact h1.len, fun b => Iff.rfl, ?_, ?_, fun b hb => h1.dom b (.inl hb), ?_⟩, ?_⟩
  · intro a c b z1 z2
    have np : ∀ j b, gs j b → ¬ f b := fun j b hj e => nM b e ((h1.own b).mpr ⟨j, hj⟩)
    by_cases ha : a = i
    · by_cases hc : c = i
      · rw [ha, hc]
      · simp only [if_pos ha] at z1
        simp only [if_neg hc] at z2
        exact absurd z1 (np c b z2)
    · by_cases hc : c = i
      · simp only [if_neg ha] at z1
        simp only [if_pos hc] at z2
        exact absurd z2 (np a b z1)
      · simp only [if_neg ha] at z1
        simp only [if_neg hc] at z2
        exact h1.one a c b z1 z2
  · intro j
    have kk : Keep (Ex (Au B f) M) H (Ex B fun b => ∃ j, (if j = i then f else gs j) b) H := Keep.less fun b z => z.elim (fun q => .inl (.inl q)) fun ⟨j, q⟩ => by
      by_cases hj : j = i
      · simp only [if_pos hj] at q; exact .inl (.inr q)
      · simp only [if_neg hj] at q; exact .inr ((h1.own b).mpr ⟨j, q⟩)
    by_cases hj : j = i
    · subst hj
      have h2 : j < σ.length := by rw [h1.len]; exact hi
      simp only [if_pos]
      rw [List.getElem?_set, if_pos rfl, if_pos h2, List.getElem?_set, if_pos rfl, if_pos hi]
      exact ⟨v, rfl, mr.move kk fun _ _ _ e => e⟩
    · simp only [if_neg hj]
      rw [List.getElem?_set, if_neg (Ne.symm hj), List.getElem?_set, if_neg (Ne.symm hj)]
      exact (h1.at_ j).move kk fun _ _ _ e => e
  · rintro b hb ⟨j, q⟩
    by_cases hj : j = i
    · simp only [if_pos hj] at q; exact hB b q hb
    · simp only [if_neg hj] at q; exact h1.dis b (.inl hb) ((h1.own b).mpr ⟨j, q⟩)
  · rintro b ⟨j, q⟩
    by_cases hj : j = i
    · simp only [if_pos hj] at q; exact .inr q
    · simp only [if_neg hj] at q; exact .inl ((h1.own b).mpr ⟨j, q⟩)
theorem ER.foreignF (h : ER B M H σ δ) (k : Fz (Ex B M) (fun _ => False) H M' H') (nf : ∀ b, f b → H b = none) (df : ∀ b, f b → ∃ o, H' b = some o) : ER (Au B f) M H' σ δ := by
  obtain ⟨fs, h⟩ := h
  have kk : Keep (Ex B M) H (Ex (Au B f) M) H' := fun b o e nb => ⟨fun z => z.elim (fun q => q.elim (fun r => nb (.inl r)) fun r => by rw [nf b r] at e; cases e) fun q => nb (.inr q), (k.keep b o e id).imp id fun ⟨_, kvs, ob, e1, e2⟩ => ⟨kvs, _, .inl e1, e2, .inr ⟨ob, rfl⟩⟩⟩
  refine ⟨fs, h.len, h.own, h.one, fun i => (h.at_ i).move kk fun b u hb e => k.exact (.inr ((h.own b).mpr ⟨i, hb⟩)) id e, fun b hb => hb.elim (fun q => ?_) (df b), fun b hb z => hb.elim (fun q => h.dis b q z) fun q => ?_⟩
  · obtain ⟨o, eo⟩ := h.dom b q
    cases e : H' b with
    | none => rw [k.free b e] at eo; cases eo
    | some u => exact ⟨u, rfl⟩
  · obtain ⟨u, eu⟩ := h.mdom z
    rw [nf b q] at eu
    cases eu
end
def cSetMt (i : Nat) (t : CM) : CS := fun δ K => t δ (fun m δ1 => i < δ1.length ∧ K.nx (δ1.set i (.mt m))) K.ex
def cFrM (t : CM) : CE := fun δ R RX => t δ (fun m δ1 => R m.toD δ1) RX
section
variable {X : Cx} {W : WX} {e : Expr} {st : Stmt} {i : Nat} {t : CM}
theorem psd_setMt (h : ∀ te, PE X e te → PS X st (tAsg te (gName i))) (he : PDM X W e t) : PSD X W st (cSetMt i t) := PS.imp (h _ he) fun N σ H ⟨B, M, δ, K, er, ht, k⟩ => by
  refine ⟨B, M, δ, _, K.ex, er, ht, fun m δ1 v f H1 M1 ⟨hi, h1⟩ er1 f1 nf mr => ?_, k.xok σ⟩
  obtain ⟨M2, er2, sub⟩ := er1.setMt hi (fun b z y => by obtain ⟨u, eu⟩ := er.edom (.inl y); rw [nf b z] at eu; cases eu) mr
  exact k.nx _ _ H1 M2 h1 er2 ⟨f1.keep, fun b z => (sub b z).elim (f1.grow b) fun z => .inr (nf b z), f1.free⟩
theorem pd_frM (h : PDM X W e t) : PD X W e (cFrM t) := PE.imp h fun σ H Q ⟨B, M, δ, R, RX, er, ht, k, x⟩ => by
  refine ⟨B, M, δ, _, RX, er, ht, fun m δ1 v f H1 M1 h1 er1 f1 nf mr => ?_, x⟩
  refine k _ δ1 v H1 M1 h1 (mr.is (A' := Ex B M1) (fun b z => z.imp .inl id) fun b z y => ?_) (er1.less fun b z => .inl z) f1
  rcases y with y | y
  · obtain ⟨u, eu⟩ := er.edom (.inl y)
    rw [nf b z] at eu
    cases eu
  · obtain ⟨gs, g⟩ := er1
    exact g.dis b (.inr z) y
end
/-! ### making -/
def spMkM (C : Addr) (c : CE) : Sp := fun vs H Q E => ∃ (A : Fp) (ds : List D) (R : Mt → Prop) (RX : Addr → List (Str × D) → Prop), (∀ b, A b → ∃ o, H b = some o) ∧ IsL A H vs ds ∧
  (∀ a, c (.mt (.ins a C []) :: ds.map .sh) (fun d αs => d = .non ∧ ∃ fs, (αs[0]? : Option Sl) = some (.mt (.ins a C fs)) ∧ R (.ins a C fs)) fun Cx fs _ => RX Cx fs) ∧
  (∀ m v f H', R m → MR (Ex A f) H' v m f → (∀ b, f b → H b = none) → Fz A (fun _ => False) H (fun _ => False) H' → Q v H') ∧ (∀ Cx fs o H', RX Cx fs → ErR A H' o fs → Fz A (fun _ => False) H (fun _ => False) H' → E (.ref Cx) o H')
theorem mk_convM {C : Addr} {c : CE} {dvs : List V} {dds : List D} (hdd : ∀ A H, IsL A H dvs dds) {vs : List V} {H : Hp} {Q : VK} {E : XK} (h : spMkM C (fun αs R RX => c (αs ++ dds.map .sh) R RX) vs H Q E) (o dx : Addr) (ho : H o = none) (hdx : H dx = none) (ne : dx ≠ o) :
    spD c (.ref o :: (vs ++ dvs)) (upd (upd H dx (.own o)) o (.ins C dx [])) (fun v H2 => v = .non ∧ Q (.ref o) H2) E := by
  obtain ⟨A, ds, R, RX, dom, l, hc, k1, k2⟩ := h
  have n1 : New H dx (.own o) (upd H dx (.own o)) := new_of hdx
  have ho1 : upd H dx (.own o) o = none := by rw [upd_ne ne.symm]; exact ho
  have n2 : New (upd H dx (.own o)) o (.ins C dx []) (upd (upd H dx (.own o)) o (.ins C dx [])) := new_of ho1
  have s2 := n1.same.trans n2.same
  have nA : ¬ A o := dom_new dom ho
  have nA' : ¬ A dx := dom_new dom hdx
  have l2 : IsL (Ex A fun b => b = o ∨ b = dx) (upd (upd H dx (.own o)) o (.ins C dx [])) (vs ++ dvs) (ds ++ dds) := (l.app (hdd _ _)).keep fun b u eb nb => ⟨fun z => z.elim nb fun q => q.elim (fun r => ne_of_none eb ho r) fun r => ne_of_none eb hdx r, .inl (s2 b u eb)⟩
  have ea := er_args l2 (fun b hb => hb.elim (fun q => (dom b q).imp fun u e => s2 b u e) fun q => q.elim (fun r => ⟨.ins C dx [], by rw [r]; exact n2.at⟩) fun r => ⟨.own o, by rw [r]; exact n2.same _ _ n1.at⟩)
  have er : ER A (fun b => b = o ∨ b = dx) (upd (upd H dx (.own o)) o (.ins C dx [])) ((V.ref o :: (vs ++ dvs)).map some) (.mt (.ins o C []) :: (ds ++ dds).map .sh) := by
    obtain ⟨gs, ea⟩ := ea
    have g0 : ∀ j b, ¬ gs j b := fun j b z => (ea.own b).mpr ⟨j, z⟩
    have kE : Keep (Ex (Ex A fun b => b = o ∨ b = dx) fun _ => False) (upd (upd H dx (.own o)) o (.ins C dx [])) (Ex A fun b => b = o ∨ b = dx) (upd (upd H dx (.own o)) o (.ins C dx [])) := Keep.less fun b z => .inl z
    refine ⟨fun j => if j = 0 then (fun b => b = o ∨ b = dx) else fun _ => False, by simp [l.length, (hdd A H).length], fun b => ⟨fun z => ⟨0, by simpa using z⟩, fun ⟨j, z⟩ => ?_⟩, fun a c b z1 z2 => ?_, fun j => ?_, fun b hb => (dom b hb).imp fun u e => s2 b u e, fun b hb z => z.elim (fun r => nA (r ▸ hb)) fun r => nA' (r ▸ hb)⟩
    · by_cases hj : j = 0
      · subst hj; simpa using z
      · simp only [if_neg hj] at z
    · by_cases ha : a = 0
      · by_cases hc : c = 0
        · rw [ha, hc]
        · simp only [if_neg hc] at z2
      · simp only [if_neg ha] at z1
    · cases j with
      | zero => exact ⟨_, rfl, .ins n2.at (n2.same _ _ n1.at) (.nil (f := fun _ => False) fun _ z => z) (fun z => z) (fun z => z) fun b => ⟨fun z => z.elim .inl fun z => .inr (.inl z), fun z => z.elim .inl fun z => z.elim .inr False.elim⟩⟩
      | succ j =>
        have a := (ea.at_ j)
        simp only [Nat.succ_ne_zero, if_false, List.map_cons]
        rw [List.getElem?_cons_succ, List.getElem?_cons_succ]
        have a2 := a.move (B' := A) (M' := fun b => b = o ∨ b = dx) kE (fun _ _ _ e => e)
        have e0 : gs j = fun _ => False := by
          funext b
          exact propext ⟨fun z => g0 j b z, False.elim⟩
        rw [e0] at a2
        exact a2
  have fin : ∀ {M' : Fp} {H' : Hp}, Fz A (fun b => b = o ∨ b = dx) (upd (upd H dx (.own o)) o (.ins C dx [])) M' H' → Fz A (fun _ => False) H (fun _ => False) H' := fun f => ⟨fun b u eb _ => f.keep b u (s2 b u eb) fun z => z.elim (fun r => ne_of_none eb ho r) fun r => ne_of_none eb hdx r, fun b z => z.elim, fun b e => s2.free (f.free b e)⟩
  have hc' := hc o
  refine ⟨A, _, _, fun d αs => d = .non ∧ ∃ fs, (αs[0]? : Option Sl) = some (.mt (.ins o C fs)) ∧ R (.ins o C fs), fun Cx fs _ => RX Cx fs, er, ?_, fun d αs v σ' H' M' h1 i1 er1 f1 => ?_, fun Cx fs αs σ' oo H' M' h1 i1 er1 f1 => k2 Cx fs oo H' h1 (i1.less fun b z => .inl z) (fin f1)⟩
  · rw [List.map_append]
    exact hc'
  · obtain ⟨rfl, fs, e0, h1⟩ := h1
    cases i1
    obtain ⟨v0, f0, ev, mr, fM, _⟩ := er1.mutM e0
    have e1 : v0 = .ref o := mr.adr rfl
    subst e1
    refine ⟨rfl, k1 _ _ f0 H' h1 (mr.move (Keep.less fun b z => z.imp id (fM b)) fun _ _ _ e => e) (fun b z => ?_) (fin f1)⟩
    rcases f1.grow b (fM b z) with (r | r) | r
    · rw [r]; exact ho
    · rw [r]; exact hdx
    · exact s2.free r
theorem mk_DM {P : Program} {w : World} {K : PySem.W.Frag} {mg : Str → Option Value} {base : Heap} {C f : Addr} {fd : FuncData} {ps : List Str} {k : Nat} {c : CE} {dvs : List V} {ds0 : List Value} {dds : List D} (M : Mk K C f) (G : FnOk P w K mg base (L2.CX P w) k f fd ps (spD c)) (hd : Vals dvs ds0) (hb : Binds K fd ps ds0) (hdd : ∀ A H, IsL A H dvs dds) :
    MkI P w K mg base C k (spMkM C fun αs R RX => c (αs ++ dds.map .sh) R RX) := ⟨f, fd, ps, dvs, ds0, _, M, G, hd, hb, fun _ _ _ _ h o dx ho hdx ne => mk_convM hdd h o dx ho hdx ne⟩
def cMkM (C : Addr) (c : CE) (t : CA) : CM := fun δ R RX => t δ (fun ds δ1 => ∀ a, c (.mt (.ins a C []) :: ds.map .sh) (fun d αs => d = .non ∧ ∃ fs, (αs[0]? : Option Sl) = some (.mt (.ins a C fs)) ∧ R (.ins a C fs) δ1) fun Cx fs _ => RX Cx fs δ1) RX
def cMkMK (C : Addr) (n : Nat) (ix : List Nat) (c : CE) (t : CA) : CM := fun δ R RX => t δ (fun ds δ1 => ds.length = n ∧ ∀ a, c (.mt (.ins a C []) :: (Xl.pick .non ix ds).map .sh) (fun d αs => d = .non ∧ ∃ fs, (αs[0]? : Option Sl) = some (.mt (.ins a C fs)) ∧ R (.ins a C fs) δ1) fun Cx fs _ => RX Cx fs δ1) RX
section
variable {X : Cx} {W : WX} {k j : Nat} {C : Addr} {x m : Str} {p pos apos : Pos} {e e' o : Expr} {es : List Expr} {t : CA} {c : CE} {ks : List Str} {ix : List Nat} {kws : List Keyword}
theorem made_M {σ : L2.St} {H H1 : Hp} {B M M1 : Fp} {δ1 : DEnv} {R : Mt → DEnv → Prop} {RX : KX} {Q : VK} {ws : List V} {ds : List D} (er1 : ER B M1 H1 σ δ1) (f1 : Fz B M H M1 H1) (i1 : IsL (Ex B M1) H1 ws ds)
    (h1 : ∀ a, c (.mt (.ins a C []) :: ds.map .sh) (fun d αs => d = .non ∧ ∃ fs, (αs[0]? : Option Sl) = some (.mt (.ins a C fs)) ∧ R (.ins a C fs) δ1) fun Cx fs _ => RX Cx fs δ1)
    (kk : ∀ m δ' v f H' M', R m δ' → ER (Au B f) M' H' σ δ' → Fz B M H M' H' → (∀ b, f b → H b = none) → MR (Ex (Au B f) M') H' v m f → Q v H') (x : XOk W B M H σ RX) : spMkM C c ws H1 Q (WE W σ) := by
  refine ⟨Ex B M1, ds, fun m => R m δ1, fun Cx fs => RX Cx fs δ1, fun b hb => er1.edom hb, i1, h1, fun m v f H' h2 mr nf f2 => ?_, fun Cx fs o H' h2 i2 f2 => ?_⟩
  · obtain ⟨_, f3⟩ := er1.called f2
    exact kk m δ1 v f H' M1 h2 (er1.foreignF f2 nf fun b z => mr.dom z) (f1.trans f3) (fun b z => f1.free b (nf b z)) (mr.move (Keep.less fun b z => z.elim (fun z => z.elim (fun z => .inl (.inl z)) .inr) fun z => .inl (.inr z)) fun _ _ _ e => e)
  · obtain ⟨er2, f3⟩ := er1.called f2
    exact (x.fr f1) Cx fs δ1 o H' M1 h2 i2 er2 f3
theorem pdm_mk (F : MkI X.prog X.w X.K X.mg X.base C k (spMkM C c)) (hr : Room (k + 1) X.A) (hm : X.mg x = some (.ref C)) (tk : Takes X W) (ha : PAD X W (e :: es) t) (hg : Gl X x := by rfl)
    (hdb : (x == ("__debug__" : Str)) = false := by decide) (he : starEach (e :: es) X.env = (false, eval e X.env) :: starEach es X.env := by rfl) (hpl : (backTo pos (starEach es X.env)).any (·.1) = false := by rfl) :
    PDM X W (.Call (.Name x p) (e :: es) [] pos) (cMkM C c t) := PE.imp (pe_mkS F hr hm tk ha hg hdb he hpl) fun σ H Q ⟨B, M, δ, R, RX, er, ht, kk, x⟩ =>
  ⟨B, M, δ, _, RX, er, ht, fun ds δ1 vs H1 M1 h1 i1 er1 f1 => made_M er1 f1 i1 h1 kk x, x⟩
theorem pdm_mkK (F : MkKw X.prog X.w X.K X.mg X.base C k ks ix c) (hr : Room (k + 1) X.A) (hm : X.mg x = some (.ref C)) (tk : Takes X W) (hkw : PKD X W kws t) (hg : Gl X x := by rfl)
    (hall : (backToKw pos (keywordEach kws X.env)).all (·.1.isSome) = true := by rfl) (hks : (backToKw pos (keywordEach kws X.env)).filterMap (·.1) = ks := by rfl) (hdb : (x == ("__debug__" : Str)) = false := by decide)
    (hpl : ((backTo pos (starEach [] X.env)).any (·.1) || (backToKw pos (keywordEach kws X.env)).any (·.1.isNone)) = false := by rfl) :
    PDM X W (.Call (.Name x p) [] kws pos) (cMkMK C ks.length ix c t) := by
  obtain ⟨f, fd, ps, M0, G, hb⟩ := F.ex
  refine ⟨fun pins s σ H Q I ⟨B, M, δ, R, RX, er, ht, kk, xk⟩ => ?_⟩
  refine wpAny_Call_Name_kw (ld_glob I hg hm ?_ hdb)
  refine PySem.W.callWith_KW0 (h₀ := X.base) I.ok.mod.kin M0.kp hall ?_ hpl
  refine thn (hkw.run pos pins s σ H (fun zs H2 => zs.length = ks.length ∧ spMkM C c (Xl.pick .non ix zs) H2 Q (WE W σ)) I ⟨B, M, δ, _, RX, er, ht, fun ds δ1 vs H1 M1 h1 i1 er1 f1 => ⟨by rw [i1.length]; exact h1.1, made_M er1 f1 (i1.pick ix) h1.2 kk xk⟩, xk⟩) fun ws s2 ⟨zs, H2, I2, rz, l1, q2⟩ => ⟨I2.kIn, ?_⟩
  rw [hks]
  refine run_makeKS M0 G hr hb (passAt tk σ) I2 rz l1 fun o dx ho hdx ne => ?_
  have ec : (fun (αs : DEnv) R RX => c (αs ++ ([] : List D).map .sh) R RX) = c := by
    funext αs R RX
    rw [List.map_nil, List.append_nil]
  rw [← ec] at q2
  have q := mk_convM (dvs := []) (dds := []) (fun _ _ => .nil) q2 o dx ho hdx ne
  rw [List.append_nil] at q
  exact q
end
/-! ### methods of what changes -/
theorem agl_sh {A : Fp} {H : Hp} {σ : L2.St} : ∀ {vs : List V} {ds : List D}, IsL A H vs ds → AgL A H σ vs (ds.map .s)
  | _, _, .nil => .nil
  | _, _, .cons h t => .sh h (agl_sh t)
theorem notR_sh {j : Nat} : ∀ {ds : List D}, notR j (ds.map .s)
  | [] => trivial
  | _ :: ds => notR_sh (ds := ds)
theorem agOk_sh {δ : DEnv} : ∀ {ds : List D}, agOk δ (ds.map .s)
  | [] => trivial
  | _ :: ds => agOk_sh (ds := ds)
theorem agSl_sh {δ : DEnv} : ∀ {ds : List D}, agSl δ (ds.map .s) = ds.map .sh
  | [] => rfl
  | d :: ds => by
    show Sl.sh d :: agSl δ (ds.map .s) = _
    rw [agSl_sh]
    rfl
def cMethM (C : Addr) (m : Str) (j : Nat) (c : CE) (t : CA) : CE := fun δ R RX => ∃ a, (∃ fs, δ[j]? = some (.mt (.ins a C fs)) ∧ fs.lookup m = none) ∧ t δ (fun ds δ1 => (∃ fs, δ1[j]? = some (.mt (.ins a C fs))) ∧ c ((δ1[j]?).getD .emp :: ds.map .sh) (fun d αs => backP (.r j :: ds.map .s) αs δ1 fun δ2 => R d δ2) fun C fs αs => backP (.r j :: ds.map .s) αs δ1 fun δ2 => RX C fs δ2) RX
def cMethMK (C : Addr) (m : Str) (j n : Nat) (ix : List Nat) (c : CE) (t : CA) : CE := fun δ R RX => ∃ a, (∃ fs, δ[j]? = some (.mt (.ins a C fs)) ∧ fs.lookup m = none) ∧ t δ (fun ds δ1 => ds.length = n ∧ (∃ fs, δ1[j]? = some (.mt (.ins a C fs))) ∧ c ((δ1[j]?).getD .emp :: (Xl.pick .non ix ds).map .sh) (fun d αs => backP (.r j :: (Xl.pick .non ix ds).map .s) αs δ1 fun δ2 => R d δ2) fun C fs αs => backP (.r j :: (Xl.pick .non ix ds).map .s) αs δ1 fun δ2 => RX C fs δ2) RX
def cSetIM (C : Addr) (j : Nat) (c : CE) (tv tk : CE) : CS := fun δ K => tv δ (fun dv δ0 => ∃ a, (∃ fs, δ0[j]? = some (.mt (.ins a C fs))) ∧ tk δ0 (fun dk δ1 => (∃ fs, δ1[j]? = some (.mt (.ins a C fs))) ∧ c ((δ1[j]?).getD .emp :: ([dk, dv].map .sh)) (fun _ αs => backP (.r j :: [dk, dv].map .s) αs δ1 fun δ2 => K.nx δ2) fun C fs αs => backP (.r j :: [dk, dv].map .s) αs δ1 fun δ2 => K.ex C fs δ2) K.ex) K.ex
theorem lift_ref {W : WX} {σ : L2.St} {B M : Fp} {H : Hp} {δ : DEnv} {R : KV} {RX : KX} {j : Nat} {a C : Addr} {fs : List (Str × Mt)} {ws : List V} {ds : List D} {Q : VK} {c : CE} (er : ER B M H σ δ) (e : δ[j]? = some (.mt (.ins a C fs))) (l : IsL (Ex B M) H ws ds)
    (hc : c ((δ[j]?).getD .emp :: ds.map .sh) (fun d αs => backP (.r j :: ds.map .s) αs δ fun δ2 => R d δ2) fun C fs αs => backP (.r j :: ds.map .s) αs δ fun δ2 => RX C fs δ2)
    (kk : ∀ d δ' v H' M', R d δ' → Is (Ex B M') H' v d → ER B M' H' σ δ' → Fz B M H M' H' → Q v H') (x : XOk W B M H σ RX) : spD c (.ref a :: ws) H Q (WE W σ) := by
  obtain ⟨v, f, ev, mr, _, _⟩ := er.mutM e
  have e0 : v = .ref a := mr.adr rfl
  subst e0
  have ok : agOk δ (.r j :: ds.map .s) := ⟨⟨by rw [e]; exact fun z => (by cases z), notR_sh⟩, agOk_sh⟩
  have l1 : AgL (Ex B M) H σ (.ref a :: ws) (.r j :: ds.map .s) := .ref ev (agl_sh l)
  obtain ⟨Bc, Mc, erc, eq, back⟩ := er.handM ok l1
  have ea : agSl δ (.r j :: ds.map .s) = (δ[j]?).getD .emp :: ds.map .sh := by
    show _ :: agSl δ (ds.map .s) = _
    rw [agSl_sh]
  rw [← ea] at hc
  refine ⟨Bc, Mc, _, _, _, erc, hc, fun d αs v σ' H' M' hb i2 er2 f2 => ?_, fun C fs αs σ' o H' M' hb hx er2 f2 => ?_⟩
  · obtain ⟨δ2, M2, hR, er3, f3, low⟩ := back er2 f2 hb
    exact kk d δ2 v H' M2 hR (i2.keep (Keep.less low)) er3 f3
  · obtain ⟨δ2, M2, hR, er3, f3, low⟩ := back er2 f2 hb
    exact x C fs δ2 o H' M2 hR (hx.less low) er3 f3
section
variable {X : Cx} {W : WX} {k j : Nat} {C : Addr} {x m : Str} {p pos apos : Pos} {e e' o ki : Expr} {es : List Expr} {t : CA} {c : CE} {ks : List Str} {ix : List Nat} {kws : List Keyword}
theorem pd_mtM {pl : Sem Bool} (F : MeI X.prog X.w X.K X.mg X.base C m k (spD c)) (hr : Room k X.A) (tk : Takes X W) (hv : PE X o (tVar j)) (ha : PAD X W (e :: es) t)
    (ht : eval (.Call (.Attribute o m apos) (e :: es) [] pos) X.env = (do
      let ov ← eval o X.env
      standAt apos.atName
      let (f, first) ← holding [ov] (getMethod ov m pl)
      callWith pos f first (backTo pos (starEach (e :: es) X.env)) (backToKw pos (keywordEach [] X.env))) := by rfl)
    (hst : starEach (e :: es) X.env = (false, eval e X.env) :: starEach es X.env := by rfl) (hpl : (backTo pos (starEach es X.env)).any (·.1) = false := by rfl) :
    PD X W (.Call (.Attribute o m apos) (e :: es) [] pos) (cMethM C m j c t) := PE.imp (pe_mtS F hr tk hv ha ht hst hpl) fun σ H Q ⟨B, M, δ, R, RX, er, ⟨a, ⟨fs, e0, hl⟩, h⟩, kk, x⟩ => by
  obtain ⟨v, f, ev, mr, _, _⟩ := er.mutM e0
  cases mr with
  | ins e1 e2 l _ _ _ =>
    exact ⟨_, ev, a, _, _, rfl, e1, l.none hl, B, M, δ, _, RX, er, h, fun ds δ1 ws H1 M1 ⟨⟨fs1, e3⟩, h1⟩ i1 er1 f1 => lift_ref er1 e3 i1 h1 (fun d δ' v H' M' r1 r2 r3 r4 => kk d δ' v H' M' r1 r2 r3 (f1.trans r4)) (x.fr f1), x⟩
theorem pd_mtM0 {pl : Sem Bool} (F : MeI X.prog X.w X.K X.mg X.base C m k (spD c)) (hr : Room k X.A) (tk : Takes X W) (hv : PE X o (tVar j))
    (ht : eval (.Call (.Attribute o m apos) [] [] pos) X.env = (do
      let ov ← eval o X.env
      standAt apos.atName
      let (f, first) ← holding [ov] (getMethod ov m pl)
      callWith pos f first (backTo pos (starEach [] X.env)) (backToKw pos (keywordEach [] X.env))) := by rfl) :
    PD X W (.Call (.Attribute o m apos) [] [] pos) (cMethM C m j c caNil) := PE.imp (pe_mtS0 F hr tk hv ht) fun σ H Q ⟨B, M, δ, R, RX, er, ⟨a, ⟨fs, e0, hl⟩, ⟨fs1, e3⟩, h1⟩, kk, x⟩ => by
  obtain ⟨v, f, ev, mr, _, _⟩ := er.mutM e0
  cases mr with
  | ins e1 e2 l _ _ _ => exact ⟨_, ev, a, _, _, rfl, e1, l.none hl, lift_ref (ds := []) er e3 .nil h1 kk x⟩
theorem pd_mtMK {pl : Sem Bool} (F : MeKw X.prog X.w X.K X.mg X.base C m k ks ix (spD c)) (hr : Room k X.A) (tk : Takes X W) (he : PE X o (tVar j)) (hkw : PKD X W kws t)
    (hall : (backToKw pos (keywordEach kws X.env)).all (·.1.isSome) = true := by rfl) (hks : (backToKw pos (keywordEach kws X.env)).filterMap (·.1) = ks := by rfl)
    (hpl : ((backTo pos (starEach [] X.env)).any (·.1) || (backToKw pos (keywordEach kws X.env)).any (·.1.isNone)) = false := by rfl)
    (ht : eval (.Call (.Attribute o m apos) [] kws pos) X.env = (do
      let ov ← eval o X.env
      standAt apos.atName
      let (f, first) ← holding [ov] (getMethod ov m pl)
      callWith pos f first (backTo pos (starEach [] X.env)) (backToKw pos (keywordEach kws X.env))) := by rfl) :
    PD X W (.Call (.Attribute o m apos) [] kws pos) (cMethMK C m j ks.length ix c t) := by
  obtain ⟨f, fd, ps, cl, M0, G, hb⟩ := F.ex
  refine ⟨fun pins s σ H Q I ⟨B, M, δ, R, RX, er, ⟨a0, ⟨fs, e0, hl⟩, ht'⟩, kk, xk⟩ => ?_⟩
  refine PySem.W.methodCall_KW (pl := pl) (thn (he.run pins s σ H (fun x H1 => ∃ a dx fs, x = .ref a ∧ H1 a = some (.ins C dx fs) ∧ fs.lookup m = none ∧ liftA W t σ H1 fun zs H2 => zs.length = ks.length ∧ spD c (.ref a :: Xl.pick .non ix zs) H2 Q (WE W σ)) I ?_) fun u s1 ⟨x, H1, I1, rx, a, dx, fs, ex, ea, l, q⟩ => ?_) ht
  · obtain ⟨v, f, ev, mr, _, _⟩ := er.mutM e0
    cases mr with
    | ins e1 e2 l _ _ _ =>
      refine ⟨_, ev, a0, _, _, rfl, e1, l.none hl, B, M, δ, _, RX, er, ht', fun ds δ1 ws H1 M1 ⟨hn, ⟨fs1, e3⟩, h1⟩ i1 er1 f1 => ⟨by rw [i1.length]; exact hn, ?_⟩, xk⟩
      exact lift_ref er1 e3 (i1.pick ix) h1 (fun d δ' v H' M' r1 r2 r3 r4 => kk d δ' v H' M' r1 r2 r3 (f1.trans r4)) (xk.fr f1)
  · subst ex
    obtain rfl : u = Value.ref a := rx
    refine getmeth_ok I1 ea cl M0 l ?_
    refine PySem.W.callWith_KW0 (first := [.ref a]) (h₀ := X.base) I.ok.mod.kin M0.kp hall ?_ hpl
    refine thn (hkw.run pos pins s1 σ H1 _ I1 q) fun ws s2 ⟨zs, H2, I2, rz, l1, q2⟩ => ⟨I2.kIn, ?_⟩
    rw [hks]
    exact wpAny_call (end_fnS (vs := .ref a :: Xl.pick .non ix zs) (us := .ref a :: Xl.pick .none ix ws) G hr (passAt tk σ) I2 (hb s2 (.ref a) ws (by rw [← rz.length]; exact l1)) (.cons rfl (vals_pick rz ix)) q2)
/-- o[k] = v by an own __setitem__ -/
theorem pg_setI {sp : Sp} {to ti : TE} (F : MeI X.prog X.w X.K X.mg X.base C "__setitem__" k sp) (hq : PySem.W.noSeq X.K C = true) (hr : Room k X.A) (tk : Takes X W) (ho : PE X o to) (hi : PE X ki ti)
    (ha : ∀ v, assign (.Subscript o ki pos) X.env v = (do
      let ov ← holding [v] (eval o X.env)
      let iv ← holding [v, ov] (eval ki X.env)
      standAt pos
      holding [v, ov, iv] (setItem ov iv v)
      release [v, ov, iv] []) := by intro _; rfl) :
    PG X (.Subscript o ki pos) (fun v σ H Q => to σ H fun x H1 => ∃ a, x = .ref a ∧ ti σ H1 fun kv H2 => ∃ dx fs, H2 a = some (.ins C dx fs) ∧ sp [.ref a, kv, v] H2 (fun _ H3 => Q σ H3) (WE W σ)) := by
  obtain ⟨f, fd, ps, c, M, G, hb⟩ := F.ex
  refine ⟨fun pins s σ H v u Q I r h => ?_⟩
  rw [ha]
  refine wpAny_bind (wpAny_holding (thn (ho.run pins s σ H _ I h) fun ov s1 ⟨x, H1, I1, r1, a, ex, q1⟩ => ?_))
  subst ex
  obtain rfl : ov = Value.ref a := r1
  refine wpAny_bind (wpAny_holding (thn (hi.run pins s1 σ H1 _ I1 q1) fun iv s2 ⟨y, H2, I2, r2, dx, fs, ea, q2⟩ => ?_))
  obtain ⟨mA, J, _⟩ := ins_get I2.hok ea
  obtain ⟨od, J, _⟩ := J.look
  obtain ⟨m, hF⟩ := I2.fr
  have hl : ([Value.ref a, iv, u] ++ []).length = ps.length := G.len _ _ _ _ q2
  have hb2 := hb s2 [.ref a, iv, u] I2.kIn hl
  rw [List.append_nil] at hb2
  refine wpAny_bind (wpAny_standAt (wpAny_bind (wpAny_holding (PySem.W.ksp_setItem hF I2.ok.mod.kin J hq M.at_ M.fn ?_))))
  exact thn (wpAny_call (end_fnS (vs := [.ref a, y, v]) (us := [.ref a, iv, u]) G hr (passAt tk σ) I2 hb2 (.cons rfl (.cons r2 (.cons r .nil))) q2)) fun _ s3 ⟨z, H3, I3, rz, q3⟩ => wpAny_release ⟨σ, H3, I3, q3⟩
theorem psd_setIM {st : Stmt} {tv tk' : CE} (hst : ∀ te tg, PE X e' te → PG X (.Subscript o ki pos) tg → PS X st (tAsg te tg)) (F : MeI X.prog X.w X.K X.mg X.base C "__setitem__" k (spD c)) (hq : PySem.W.noSeq X.K C = true) (hr : Room k X.A) (tk : Takes X W) (ho : PE X o (tVar j))
    (hv : PD X W e' tv) (hk : PD X W ki tk')
    (ha : ∀ v, assign (.Subscript o ki pos) X.env v = (do
      let ov ← holding [v] (eval o X.env)
      let iv ← holding [v, ov] (eval ki X.env)
      standAt pos
      holding [v, ov, iv] (setItem ov iv v)
      release [v, ov, iv] []) := by intro _; rfl) : PSD X W st (cSetIM C j c tv tk') := PS.imp (hst _ _ hv (pg_setI F hq hr tk ho hk ha)) fun N σ H ⟨B, M, δ, K, er, ht, k⟩ => by
  refine ⟨B, M, δ, _, K.ex, er, ht, fun dv δ0 v H0 M0 ⟨a, ⟨fs, e0⟩, h1⟩ i0 er0 f0 => ?_, k.xok σ⟩
  obtain ⟨v0, _, ev, mr, _, _⟩ := er0.mutM e0
  have ev0 : v0 = .ref a := mr.adr rfl
  subst ev0
  refine ⟨_, ev, a, rfl, B, M0, δ0, _, K.ex, er0, h1, fun dk δ1 kv H1 M1 ⟨⟨fs1, e1⟩, h2⟩ i1 er1 f1 => ?_, (k.fr f0).xok σ⟩
  obtain ⟨_, _, ev1, mr1, _, _⟩ := er1.mutM e1
  cases mr1 with
  | ins q2 q3 _ _ _ _ => exact ⟨_, _, q2, lift_ref (ds := [dk, dv]) (R := fun _ δ2 => K.nx δ2) (RX := K.ex) er1 e1 (.cons i1 (.cons (i0.keep (Keep.fr f1)) .nil)) h2 (fun d δ' v H' M' r1 r2 r3 r4 => k.nx _ σ H' M' r1 r3 ((f0.trans f1).trans r4)) (((k.fr f0).fr f1).xok σ)⟩
end
/-! ### a new list into a field -/
section
variable {B B1 M M' f g : Fp} {H H' : Hp} {σ : L2.St} {δ : DEnv} {i : Nat}
theorem ER.mutF (h : ER (Au B g) M H σ δ) (hg : ∀ b, g b → ¬ B b) {m : Mt} (e : δ[i]? = some (.mt m)) : ∃ v f, σ[i]? = some (some v) ∧ MR (Ex (Au B g) M) H v m f ∧ (∀ b, f b → M b) ∧
    ∀ m' f' H', MR (Ex (Au B g) (Nw M H)) H' v m' f' → (∀ b o, H b = some o → ¬ f b → H' b = some o) → (∀ b, H' b = none → H b = none) → (∀ b, f' b → f b ∨ g b ∨ H b = none) → ∃ M', ER B M' H' σ (δ.set i (.mt m')) ∧ Fr M H M H' ∧ ∀ b, M' b → M b ∨ g b ∨ H b = none := by
  have hi : i < δ.length := (List.getElem?_eq_some_iff.mp e).1
  obtain ⟨fs, h⟩ := h
  have a := h.at_ i
  rw [e] at a
  obtain ⟨v, ev0, mr⟩ := a
  have ev : σ[i]? = some (some v) := by
    cases c : σ[i]? with
    | none => rw [c] at ev0; cases ev0
    | some o => rw [c] at ev0; rw [show o = some v from ev0]
  have fM : ∀ b, fs i b → M b := fun b z => (h.own b).mpr ⟨i, z⟩
  refine ⟨v, fs i, ev, mr, fM, fun m' f' H' hm ko free hf => ?_⟩
  have sub : ∀ b, (∃ j, (if j = i then f' else fs j) b) → M b ∨ g b ∨ H b = none := fun b ⟨j, z⟩ => by
    by_cases hj : j = i
    · simp only [if_pos hj] at z; exact (hf b z).imp (fM b) id
    · simp only [if_neg hj] at z; exact .inl ((h.own b).mpr ⟨j, z⟩)
  have gd : ∀ b, g b → ∃ o, H b = some o := fun b z => h.dom b (.inr z)
  have gM : ∀ b, g b → ¬ M b := fun b z => h.dis b (.inr z)
  have k : Keep (Ex (Au B g) M) H (Ex B fun b => ∃ j, (if j = i then f' else fs j) b) H' := fun b o eb nb => ⟨fun z => z.elim (fun z => nb (.inl (.inl z))) fun z => (sub b z).elim (fun z => nb (.inr z)) fun z => z.elim (fun z => nb (.inl (.inr z))) fun z => (by rw [eb] at z; cases z), .inl (ko b o eb fun z => nb (.inr (fM b z)))⟩
  refine ⟨_, ⟨fun j => if j = i then f' else fs j, by rw [List.length_set]; exact h.len, fun b => Iff.rfl, fun a c b z1 z2 => ?_, fun j => ?_, fun b hb => ?_, fun b hb z => ?_⟩, ⟨fun b o eb nb => ko b o eb fun z => nb (fM b z), fun b z => .inl z, free⟩, sub⟩
  · have np : ∀ j b, j ≠ i → fs j b → ¬ f' b := fun j b hj y z => (hf b z).elim (fun z => hj (h.one j i b y z)) fun z => z.elim (fun z => gM b z ((h.own b).mpr ⟨j, y⟩)) fun z => by obtain ⟨u, eu⟩ := (h.at_ j).dom y; rw [z] at eu; cases eu
    by_cases ha : a = i
    · by_cases hc : c = i
      · rw [ha, hc]
      · simp only [if_pos ha] at z1
        simp only [if_neg hc] at z2
        exact absurd z1 (np c b hc z2)
    · by_cases hc : c = i
      · simp only [if_neg ha] at z1
        simp only [if_pos hc] at z2
        exact absurd z2 (np a b ha z1)
      · simp only [if_neg ha] at z1
        simp only [if_neg hc] at z2
        exact h.one a c b z1 z2
  · by_cases hj : j = i
    · subst hj
      simp only [if_pos]
      rw [ev, List.getElem?_set, if_pos rfl, if_pos hi]
      exact ⟨v, rfl, hm.move (Keep.less fun b z => z.elim (fun z => .inl (.inl z)) fun z => (sub b z).elim (fun z => .inr (.inl z)) fun z => z.elim (fun z => .inl (.inr z)) fun z => .inr (.inr z)) fun _ _ _ e => e⟩
    · simp only [if_neg hj]
      rw [List.getElem?_set, if_neg (Ne.symm hj)]
      exact (h.at_ j).move k fun b u hb eb => ko b u eb fun z => hj (h.one j i b hb z)
  · obtain ⟨o, eo⟩ := h.dom b (.inl hb)
    cases e : H' b with
    | none => rw [free b e] at eo; cases eo
    | some u => exact ⟨u, rfl⟩
  · rcases sub b z with z | z | z
    · exact h.dis b (.inl hb) z
    · exact hg b z hb
    · obtain ⟨u, eu⟩ := h.dom b (.inl hb)
      rw [z] at eu
      cases eu
end
def cStFL (C : Addr) (i : Nat) (f : Str) (t : CA) : CS := fun δ K => t δ (fun ds δ1 => ∃ a fs, δ1[i]? = some (.mt (.ins a C fs)) ∧ fs.length < 1000 ∧ ∀ p, K.nx (δ1.set i (.mt (.ins a C (putFM f (mL p ds) fs))))) K.ex
section
variable {X : Cx} {W : WX} {i : Nat} {C : Addr} {f : Str} {pos pos' : Pos} {o value : Expr} {t : CA}
theorem psd_fldL (hcl : Cls X.K C) (hno : NoAttr X.K C f) (he : PE X o (tVar i)) (hv : PFD X W value t) (hs : swapsWith value (some (.Attribute o f pos')) pos.line X.env = pure false := by rfl) : PSD X W (.Assign [.Attribute o f pos'] value pos) (cStFL C i f t) := PS.imp (ps_fld he hv hs) fun N σ H ⟨B, M, δ, K, er, ht, k⟩ => by
  refine ⟨B, M, δ, _, K.ex, er, ht, fun ds δ1 p ws H1 M1 h1 er1 f1 hpn hp il => ?_, k.xok σ⟩
  obtain ⟨a, fs, e1, hz, h1⟩ := h1
  have er1' : ER (Au B fun b => b = p) M1 H1 σ δ1 := er1
  have nB : ∀ b, b = p → ¬ B b := fun b z y => by
    subst z
    obtain ⟨u, eu⟩ := er.edom (.inl y)
    rw [hpn] at eu
    cases eu
  obtain ⟨u, gg, ev, mr, fM, back⟩ := er1'.mutF nB e1
  cases mr with
  | @ins _ _ dx vs _ _ gl h2 h3 l n1 n2 hf =>
    have nda : dx ≠ a := fun z => by rw [z, h2] at h3; cases h3
    have aM : M1 a := fM a ((hf a).mpr (.inl rfl))
    have xM : M1 dx := fM dx ((hf dx).mpr (.inr (.inl rfl)))
    have pM : ¬ M1 p := er1.nB
    obtain ⟨f', q1, q2⟩ := l.put (k := f) (MR.lst (f := fun b => b = p) (g := fun _ => False) hp (MRL.ofL il) (fun z => z) fun b => ⟨.inl, fun z => z.elim id False.elim⟩ : MR _ H1 (.ref p) (mL p ds) _) fun b z y => pM (z ▸ fM b ((hf b).mpr (.inr (.inr y))))
    have na : ¬ f' a := fun z => (q2 a z).elim n1 fun z => pM (z ▸ aM)
    have ndx : ¬ f' dx := fun z => (q2 dx z).elim n2 fun z => pM (z ▸ xM)
    obtain ⟨M2, er2, f2, s2⟩ := back (.ins a C (putFM f (mL p ds) fs)) (fun b => b = a ∨ b = dx ∨ f' b) (L2.upd H1 a (.ins C dx (putF f (.ref p) vs)))
      (.ins upd_same (by rw [upd_ne nda]; exact h3) (q1.move (keep0 fun b o eb nb => by rw [upd_ne fun (z : b = a) => nb (z ▸ aM)]; exact eb) fun b u z e => by rw [upd_ne fun (y : b = a) => na (y ▸ z)]; exact e) na ndx fun _ => Iff.rfl)
      (fun b o eb nb => by rw [upd_ne fun (z : b = a) => nb ((hf b).mpr (.inl z))]; exact eb) (fun b z => upd_free z) fun b z => by
        rcases z with z | z | z
        · exact .inl ((hf b).mpr (.inl z))
        · exact .inl ((hf b).mpr (.inr (.inl z)))
        · exact (q2 b z).imp (fun z => (hf b).mpr (.inr (.inr z))) .inl
    have f3 := f1.trans f2.fz
    exact ⟨_, ev, a, C, dx, vs, rfl, h2, hcl, hno, by rw [l.length]; exact hz, k.nx _ σ _ M2 (h1 p) er2 ⟨f3.keep, fun b z => (s2 b z).elim (f1.grow b) fun z => z.elim (fun z => .inr (by rw [z]; exact hpn)) fun z => .inr (f1.free b z), f3.free⟩⟩
end
end Xl


namespace Xl
open PySem PySem.Spec PyProof.Rows L2
/-! ### all(..) of a list of truths -/
def rAllD : List D → (D → Prop) → Prop := fun ds R => match ds with
  | [.lst xs] => ∃ bs : List Bool, xs = bs.map .bl ∧ R (.bl (bs.all id))
  | _ => False
theorem IsL.bls {A : Fp} {H : Hp} : ∀ {bs : List Bool} {vs : List V}, IsL A H vs (bs.map .bl) → vs = bs.map .bl
  | [], _, h => by cases h; rfl
  | b :: bs, _, h => by
    cases h with
    | cons h t =>
      cases h
      rw [IsL.bls t]
      rfl
variable {X : Cx} in
theorem kd_all (hc : X.calm = true) : CallR X (.builtin "all") (liftC rAllD) := by
  rintro pins s σ H xs us Q I r ⟨A, ds, R, dom, i1, h, k⟩
  unfold rAllD at h
  split at h
  · obtain ⟨bs, rfl, h⟩ := h
    cases i1 with
    | cons a t =>
      cases t
      cases a with
      | lst e n l =>
        have := l.bls
        subst this
        exact cr_all hc pins s σ H _ us Q I r ⟨_, bs, rfl, SqL.of e, k _ _ H h (Same.refl _) (.bl _)⟩
  · exact h.elim
section
variable {δ : DEnv} {x0 : Sl}
theorem rAllD_e {xs : List D} {R : D → Prop} : rAllD [.lst xs] R = ∃ bs : List Bool, xs = bs.map .bl ∧ R (.bl (bs.all id)) := propext Iff.rfl
end
end Xl


namespace Xl
open PySem PySem.Spec PyProof.Rows L2
/-! ### the equations of the words for instances that change (for simp) -/
def mtAt (o : Option Sl) (k : Mt → Prop) : Prop := match o with
  | some (.mt m) => k m
  | _ => False
def insAt (C : Addr) (o : Option Sl) (k : Addr → List (Str × Mt) → Prop) : Prop := ∃ a fs, o = some (.mt (.ins a C fs)) ∧ k a fs
def fldAt (o : Option Mt) (k : D → Prop) : Prop := match o with
  | some (.d x) => k x
  | _ => False
def lstAt (o : Option Mt) (k : Addr → List D → Prop) : Prop := ∃ p ds, o = some (mL p ds) ∧ k p ds
theorem mtAt_m {m : Mt} {k : Mt → Prop} : mtAt (some (.mt m)) k = k m := propext Iff.rfl
theorem insAt_m {C a : Addr} {fs : List (Str × Mt)} {k : Addr → List (Str × Mt) → Prop} : insAt C (some (.mt (.ins a C fs))) k = k a fs := propext ⟨fun ⟨_, _, e, h⟩ => by cases e; exact h, fun h => ⟨_, _, rfl, h⟩⟩
theorem fldAt_d {x : D} {k : D → Prop} : fldAt (some (.d x)) k = k x := propext Iff.rfl
theorem lstAt_l {p : Addr} {ds : List D} {k : Addr → List D → Prop} : lstAt (some (.lst p (ds.map .d))) k = k p ds := propext ⟨fun ⟨q, xs, e, h⟩ => by
  have e1 := Mt.lst.inj (Option.some.inj e)
  cases e1.1
  cases map_d_inj e1.2
  exact h, fun h => ⟨_, _, rfl, h⟩⟩
theorem fitP_ins {a C C' : Addr} {fs fs' : List (Str × Mt)} : fitP (some (.mt (.ins a C fs))) (.mt (.ins a C' fs')) = True := propext ⟨fun _ => trivial, fun _ => rfl⟩
theorem refOk_ins {a C : Addr} {fs : List (Str × Mt)} : refOk (some (.mt (.ins a C fs))) = True := propext ⟨fun _ => trivial, fun _ z => by cases z⟩
theorem lendB_z {x y : Sl} {δ : DEnv} : lendB (x :: δ) (y :: δ) 0 = True := propext ⟨fun _ => trivial, fun _ => ⟨rfl, fun i hi => .inl (by
  cases i with
  | zero => exact absurd rfl hi
  | succ i => rfl)⟩⟩
theorem lendB_s {x : Sl} {δ δ' : DEnv} {j : Nat} : lendB (x :: δ) (x :: δ') (j + 1) = lendB δ δ' j := propext ⟨fun ⟨h1, h2⟩ => ⟨Nat.succ.inj h1, fun i hi => h2 (i + 1) fun e => hi (Nat.succ.inj e)⟩, fun ⟨h1, h2⟩ => ⟨congrArg (· + 1) h1, fun i hi => match i with
  | 0 => .inl rfl
  | i + 1 => h2 i fun e => hi (congrArg (· + 1) e)⟩⟩
theorem PlT_e {d : D} (h : PlT d) : PlT d = True := propext ⟨fun _ => trivial, fun _ => h⟩
theorem PlT_non : PlT .non = True := PlT_e .non
theorem PlT_bl {b : Bool} : PlT (.bl b) = True := PlT_e (.bl b)
theorem PlT_int {i : Int} : PlT (.int i) = True := PlT_e (.int i)
theorem PlT_str {s : Str} : PlT (.str s) = True := PlT_e (.str s)
theorem PlT_strs {xs : List Str} : PlT (.tup (xs.map .str)) = True := PlT_e (.tup fun d hd => by
  obtain ⟨x, _, rfl⟩ := List.mem_map.mp hd
  exact .str x)
section
variable {i j n : Nat} {t : CE} {ta : CA} {cm : CM} {c : CE} {tv tk : CE} {x0 : Sl} {δ : DEnv} {R : KV} {RX : KX} {K : CEnds} {C : Addr} {f m : Str} {ix : List Nat} {tt : CT} {RT : Bool → DEnv → Prop}
theorem cLendG_c : cLendG j t (x0 :: δ) R RX = mtAt ((x0 :: δ)[j]?) fun m => ((x0 :: δ).set j .emp).all lendSl = true ∧
  t ((x0 :: δ).set j (.sh m.toD)) (fun d δ' => (lendB (x0 :: δ) δ' j ∧ δ'[j]? = some (.sh m.toD)) ∧ PlT d ∧ R d (δ'.set j (.mt m))) (fun C fs δ' => (lendB (x0 :: δ) δ' j ∧ δ'[j]? = some (.sh m.toD)) ∧ (∀ f ∈ fs, PlT f.2) ∧ RX C fs (δ'.set j (.mt m))) := propext ⟨fun ⟨m, e, h⟩ => by rw [e]; exact h, fun h => by
    unfold mtAt at h
    split at h
    · next m e => exact ⟨m, e, h⟩
    · exact h.elim⟩
theorem cFldI_c : cFldI C f i (x0 :: δ) R RX = insAt C ((x0 :: δ)[i]?) fun _ fs => fldAt (fs.lookup f) fun x => R x (x0 :: δ) := propext ⟨fun ⟨a, fs, x, e, l, h⟩ => ⟨a, fs, e, by show fldAt (fs.lookup f) _; rw [l]; exact h⟩, fun ⟨a, fs, e, h⟩ => by
    have h : fldAt (fs.lookup f) (fun x => R x (x0 :: δ)) := h
    unfold fldAt at h
    split at h
    · next x l => exact ⟨a, fs, x, e, l, h⟩
    · exact h.elim⟩
theorem cStFI_c : cStFI C i f tv (x0 :: δ) K = tv (x0 :: δ) (fun d δ1 => insAt C (δ1[i]?) fun a fs => fs.length < 1000 ∧ K.nx (δ1.set i (.mt (.ins a C (putFM f (.d d) fs))))) K.ex := propext Iff.rfl
theorem cStFL_c : cStFL C i f ta (x0 :: δ) K = ta (x0 :: δ) (fun ds δ1 => insAt C (δ1[i]?) fun a fs => fs.length < 1000 ∧ ∀ p, K.nx (δ1.set i (.mt (.ins a C (putFM f (mL p ds) fs))))) K.ex := propext Iff.rfl
theorem cAppFI_i (h : insAt C ((x0 :: δ)[i]?) fun a fs0 => lstAt (fs0.lookup f) fun p _ => t (x0 :: δ) (fun d δ1 => insAt C (δ1[i]?) fun a' fs => a' = a ∧ lstAt (fs.lookup f) fun p' ds => p' = p ∧ ds.length < sizeLine ∧ K.nx (δ1.set i (.mt (.ins a' C (putFM f (mL p' (ds ++ [d])) fs))))) K.ex)
    (mono : ∀ {R R' : KV} {RX : KX}, (∀ d δ', R d δ' → R' d δ') → t (x0 :: δ) R RX → t (x0 :: δ) R' RX) : cAppFI C i f t (x0 :: δ) K := by
  obtain ⟨a, fs0, e, p, ds0, l, h0⟩ := h
  refine ⟨a, p, ⟨fs0, ds0, e, l⟩, mono (fun d δ1 h1 => ?_) h0⟩
  obtain ⟨a', fs, e1, ea, p', ds, l1, ep, hz, h2⟩ := h1
  cases ea
  cases ep
  exact ⟨fs, ds, e1, l1, hz, h2⟩
theorem cSetMt_c : cSetMt i cm (x0 :: δ) K = cm (x0 :: δ) (fun m δ1 => i < δ1.length ∧ K.nx (δ1.set i (.mt m))) K.ex := propext Iff.rfl
theorem cFrM_c : cFrM cm (x0 :: δ) R RX = cm (x0 :: δ) (fun m δ1 => R m.toD δ1) RX := propext Iff.rfl
theorem cMkM_c {RM : Mt → DEnv → Prop} : cMkM C c ta (x0 :: δ) RM RX = ta (x0 :: δ) (fun ds δ1 => ∀ a, c (.mt (.ins a C []) :: ds.map .sh) (fun d αs => d = .non ∧ ∃ fs, (αs[0]? : Option Sl) = some (.mt (.ins a C fs)) ∧ RM (.ins a C fs) δ1) fun Cx fs _ => RX Cx fs δ1) RX := propext Iff.rfl
theorem cMkMK_c {RM : Mt → DEnv → Prop} : cMkMK C n ix c ta (x0 :: δ) RM RX = ta (x0 :: δ) (fun ds δ1 => ds.length = n ∧ ∀ a, c (.mt (.ins a C []) :: (Xl.pick .non ix ds).map .sh) (fun d αs => d = .non ∧ ∃ fs, (αs[0]? : Option Sl) = some (.mt (.ins a C fs)) ∧ RM (.ins a C fs) δ1) fun Cx fs _ => RX Cx fs δ1) RX := propext Iff.rfl
end
end Xl


local macro_rules | `(tactic| walk_at "i1") => `(tactic| simp only [Xl.mtAt_m, Xl.insAt_m, Xl.fldAt_d, Xl.lstAt_l, Xl.fitP_ins, Xl.refOk_ins, Xl.lendB_z, Xl.lendB_s, Xl.PlT_non, Xl.PlT_bl, Xl.PlT_int, Xl.PlT_str, Xl.PlT_strs, Xl.cLendG_c, Xl.cFldI_c, Xl.cStFI_c, Xl.cStFL_c, Xl.cSetMt_c, Xl.cFrM_c, Xl.cMkM_c, Xl.cMkMK_c, Xl.rAllD_e])
local macro_rules | `(tactic| walk_at "di") => `(tactic| repeat (first | walk_at "d1" | walk_at "m1" | walk_at "i1"))


namespace Xl
open PySem PySem.Spec PyProof.Rows L2
set_option pp.maxSteps 600
section
variable {P : Program} {w : World} {K : PySem.W.Frag} {mg : Str → Option Value} {base : Heap}
abbrev N_valid_name : List Str := ["text", "char"]
theorem sc_valid_name : FnScope N_valid_name ["text"] (defScope s_valid_name) := ⟨rfl, rfl, rfl, by decide +kernel, rfl, by decide +kernel, by decide +kernel⟩
def c_valid_name_1 (T : GG K mg) : CS := (cIf (cAnd (cTst (cOp (rInD' true) (cVar 1) (cC (.str "abcdefghijklmnopqrstuvwxyz")))) (cTst (cOp (rInD' true) (cVar 1) (cC (.str "0123456789")))))
    (cRet (cC (.bl false))) cNext)
def c_valid_name_2 (T : GG K mg) : CS := (cRet (cC (.bl true)))
def c_valid_name_3 (T : GG K mg) : CS := (cSeq (cFor (ciSeq (cVar 0)) (cgN 1)
    (c_valid_name_1 T))
    (c_valid_name_2 T))
def c_valid_name (T : GG K mg) : CE := cBody 1 1 (cSeq (cIf (cOr (cNot (cTst (cChain rLe rLe (cC (.int 1)) (cCB rLen (caCons (cVar 0) caNil)) (cC (.int 6))))) (cTst (cOp (rInD' true) (cOp rIx (cVar 0) (cC (.int 0))) (cC (.str "abcdefghijklmnopqrstuvwxyz")))))
    (cRet (cC (.bl false))) cNext)
    (c_valid_name_3 T))
theorem ok_valid_name (T : GG K mg) : FnOk P w K mg base (L2.CX P w) 1 T.a_valid_name T.fd_valid_name ["text"] (spD (c_valid_name T)) :=
  okD (k := 0) (m := 1) T.F_valid_name sc_valid_name rfl fun cdv A outer s H E hr tk => (psd_cons (psd_if (PW.pt (pwd_or (ptd_not (ptd_chain od_le od_le pd_int (PE.imp (pe_callB kd_len rfl T.z_len PySem.boot_len (pad_cons (pd_v (pv 0)) pad_nil)) fun _ _ _ h => lift_cb h) (pd_c (pe_gl T.g_LONGEST) fun _ _ => .int _))) (pwd_or1 (ptd_cmp (od_nin (u65 hr)) (pd_ix (xd_ix (hu_of hr)) (pd_v (pv 0)) pd_int (fun _ _ => rfl)) (pd_c (pe_gl T.g_LETTERS) fun _ _ => .str _ (by decide +kernel)) (by rfl)))))
    (psd_one (psd_ret pd_bl)) psd_nil)
    (psd_cons (psd_for (fun _ _ _ h1 h2 h3 => ps_for (passes_of rfl) rfl h1 h2 h3) (pid_seq (pd_v (pv 0))) (pgd_n (pg_name (i := 1) sc_valid_name.nd rfl (Or.inl rfl)))
    (psd_one (psd_if (PW.pt (pwd_and (ptd_cmp (od_nin (u65 hr)) (pd_v (pv 1)) (pd_c (pe_gl T.g_LETTERS) fun _ _ => .str _ (by decide +kernel)) (by rfl)) (pwd_and1 (ptd_cmp (od_nin (u65 hr)) (pd_v (pv 1)) (pd_c (pe_gl T.g_DIGITS) fun _ _ => .str _ (by decide +kernel)) (by rfl)))))
    (psd_one (psd_ret pd_bl)) psd_nil)))
    (psd_one (psd_ret pd_bl))))
theorem F_valid_name (T : GG K mg) : FnI P w K mg base "valid_name" 1 ["text"] (spD (c_valid_name T)) :=
  ⟨T.a_valid_name, T.fd_valid_name, ok_valid_name T, T.m_valid_name, T.F_valid_name.kp, T.F_valid_name.binds fun _ _ _ _ _ _ us hl => match us, hl with | [_], _ => rfl⟩
abbrev N_check_name : List Str := ["name"]
theorem sc_check_name : FnScope N_check_name ["name"] (defScope s_check_name) := ⟨rfl, rfl, rfl, by decide +kernel, rfl, by decide +kernel, by decide +kernel⟩
def c_check_name (T : GG K mg) : CE := cBody 1 0 (cIf (cNot (cTru (cCall (c_valid_name T) (caCons (cVar 0) caNil))))
    (cRaise T.c_BadName ["name"] (caCons (cVar 0) caNil)) cNext)
theorem ok_check_name (T : GG K mg) : FnOk P w K mg base (L2.CX P w) 3 T.a_check_name T.fd_check_name ["name"] (spD (c_check_name T)) :=
  okD (k := 2) (m := 0) T.F_check_name sc_check_name rfl fun cdv A outer s H E hr tk => (psd_one (psd_if (ptd_not (ptd_tru (pd_f (F_valid_name T) (hr.mono (by decide)) tk (pad_cons (pd_v (pv 0)) pad_nil))))
    (psd_one (psd_rx (X_BadName T) rfl (by decide) (hr.mono (by decide)) rfl tk (pad_cons (pd_v (pv 0)) pad_nil))) psd_nil))
theorem F_check_name (T : GG K mg) : FnI P w K mg base "check_name" 3 ["name"] (spD (c_check_name T)) :=
  ⟨T.a_check_name, T.fd_check_name, ok_check_name T, T.m_check_name, T.F_check_name.kp, T.F_check_name.binds fun _ _ _ _ _ _ us hl => match us, hl with | [_], _ => rfl⟩
end
end Xl

local macro_rules | `(tactic| walk_at "u") => `(tactic| first | unfold Xl.c_valid_name_2 | unfold Xl.c_valid_name_3)

namespace Xl
open PySem PySem.Spec PyProof.Rows L2
set_option pp.maxSteps 600
section
variable {P : Program} {w : World} {K : PySem.W.Frag} {mg : Str → Option Value} {base : Heap}
abbrev N_Book___init__ : List Str := ["self", "start", "end"]
theorem sc_Book___init__ : FnScope N_Book___init__ ["self", "start", "end"] (defScope s_Book___init__) := ⟨rfl, rfl, rfl, by decide +kernel, rfl, by decide +kernel, by decide +kernel⟩
def c_Book___init___1 (T : GG K mg) : CS := (cSeq (cStFI T.c_Book 0 "ends" (cTup (caCons (cVar 1) (caCons (cVar 2) caNil))))
    (cSeq (cStFI T.c_Book 0 "entries" (cTup caNil))
    (cStFL T.c_Book 0 "past" (cLim caNil))))
def c_Book___init__ (T : GG K mg) : CE := cBody 3 0 (cSeq (cDrop (cCall (c_check_name T) (caCons (cVar 1) caNil)))
    (cSeq (cDrop (cCall (c_check_name T) (caCons (cVar 2) caNil)))
    (cSeq (cIf (cTst (cOp (rEqD' false) (cVar 1) (cVar 2)))
    (cRaise T.c_DuplicateName ["name"] (caCons (cVar 2) caNil)) cNext)
    (c_Book___init___1 T))))
theorem ok_Book___init__ (T : GG K mg) : FnOk P w K mg base (L2.CX P w) 4 T.a_Book___init__ T.fd_Book___init__ ["self", "start", "end"] (spD (c_Book___init__ T)) :=
  okD (k := 3) (m := 0) T.F_Book___init__ sc_Book___init__ rfl fun cdv A outer s H E hr tk => (psd_cons (psd_expr (pd_f (F_check_name T) (hr.mono (by decide)) tk (pad_cons (pd_v (pv 1)) pad_nil)))
    (psd_cons (psd_expr (pd_f (F_check_name T) (hr.mono (by decide)) tk (pad_cons (pd_v (pv 2)) pad_nil)))
    (psd_cons (psd_if (ptd_cmp (od_eq hr.units) (pd_v (pv 1)) (pd_v (pv 2)) (nomark _))
    (psd_one (psd_rx (X_DuplicateName T) rfl (by decide) (hr.mono (by decide)) rfl tk (pad_cons (pd_v (pv 2)) pad_nil))) psd_nil)
    (psd_cons (psd_fldI T.cl_Book T.no_Book_ends (pv 0) (pd_tup (pad_cons (pd_v (pv 1)) (pad_cons (pd_v (pv 2)) pad_nil))))
    (psd_cons (psd_fldI T.cl_Book T.no_Book_entries (pv 0) (pd_tup pad_nil))
    (psd_one (psd_fldL T.cl_Book T.no_Book_past (pv 0) (pf_lst pad_nil))))))))
def c_Book_mk (T : GG K mg) : CE := fun αs R RX => c_Book___init__ T (αs ++ ([] : List D).map .sh) R RX
theorem M_Book (T : GG K mg) : MkI P w K mg base T.c_Book 4 (spMkM T.c_Book (c_Book_mk T)) := mk_DM T.mk_Book (ok_Book___init__ T) .nil (T.F_Book___init__.binds fun _ _ _ _ _ _ us hl => match us, hl with | [_, _, _], _ => rfl) fun _ _ => .nil
abbrev N_Book_order : List Str := ["self", "name", "pair"]
theorem sc_Book_order : FnScope N_Book_order ["self"] (defScope s_Book_order) := ⟨rfl, rfl, rfl, by decide +kernel, rfl, by decide +kernel, by decide +kernel⟩
def c_Book_order (T : GG K mg) : CE := cBody 1 2 (cRet (cCB rTupOf (caCons (cFr (cLc (ciSeq (cFldN T.c_Book "entries" 0)) (cgT 2 (cgCons (cgN 1) (cgCons (cgN 2) cgNil))) cYes (cVar 1) [1, 2])) caNil)))
theorem ok_Book_order (T : GG K mg) : FnOk P w K mg base (L2.CX P w) 1 T.a_Book_order T.fd_Book_order ["self"] (spD (c_Book_order T)) :=
  okD (k := 0) (m := 2) T.F_Book_order sc_Book_order rfl fun cdv A outer s H E hr tk => (psd_one (psd_ret (PE.imp (pe_callTy kd_tup rfl T.z_tuple (by decide +kernel) (pad_cons (pd_fr (pf_lc (own := [("name", 1), ("pair", 2)]) rfl sc_Book_order.nd (pid_seq (pd_fldN T.cl_Book T.no_Book_entries (pv 0))) (blkOk_by (N := N_Book_order) (sc := defScope s_Book_order) (by decide +kernel)) (by decide) (fun _ _ _ _ _ => (pgv_t (n := 2) rfl (pgv_cons (pgv_n (pg_name (i := 1) sc_Book_order.nd rfl (Or.inl rfl))) (pgv_cons (pgv_n (pg_name (i := 2) sc_Book_order.nd rfl (Or.inl rfl))) pgv_nil)))) (fun _ _ _ _ _ => ptsd_nil) (fun _ _ _ _ _ => (pd_v (pv 1))))) pad_nil)) fun _ _ _ h => lift_cb h)))
theorem P_Book_order (T : GG K mg) : PrI P w K mg base T.c_Book "order" 1 (spD (c_Book_order T)) := by
  obtain ⟨p, hp⟩ := T.pr_Book_order
  exact ⟨p, T.a_Book_order, T.fd_Book_order, _, T.cl_Book, hp, ok_Book_order T, T.F_Book_order.binds fun _ _ _ _ _ _ us hl => match us, hl with | [_], _ => rfl⟩
abbrev N_Book___len__ : List Str := ["self"]
theorem sc_Book___len__ : FnScope N_Book___len__ ["self"] (defScope s_Book___len__) := ⟨rfl, rfl, rfl, by decide +kernel, rfl, by decide +kernel, by decide +kernel⟩
def c_Book___len__ (T : GG K mg) : CE := cBody 1 0 (cRet (cCB rLen (caCons (cFldN T.c_Book "entries" 0) caNil)))
theorem ok_Book___len__ (T : GG K mg) : FnOk P w K mg base (L2.CX P w) 1 T.a_Book___len__ T.fd_Book___len__ ["self"] (spD (c_Book___len__ T)) :=
  okD (k := 0) (m := 0) T.F_Book___len__ sc_Book___len__ rfl fun cdv A outer s H E hr tk => (psd_one (psd_ret (PE.imp (pe_callB kd_len rfl T.z_len PySem.boot_len (pad_cons (pd_fldN T.cl_Book T.no_Book_entries (pv 0)) pad_nil)) fun _ _ _ h => lift_cb h)))
theorem M_Book___len__ (T : GG K mg) : MeI P w K mg base T.c_Book "__len__" 1 (spD (c_Book___len__ T)) :=
  ⟨T.a_Book___len__, T.fd_Book___len__, _, T.cl_Book, T.me_Book___len__, ok_Book___len__ T, T.F_Book___len__.binds fun _ _ _ _ _ _ us hl => match us, hl with | [_], _ => rfl⟩
abbrev N_Book___contains__ : List Str := ["self", "name"]
theorem sc_Book___contains__ : FnScope N_Book___contains__ ["self", "name"] (defScope s_Book___contains__) := ⟨rfl, rfl, rfl, by decide +kernel, rfl, by decide +kernel, by decide +kernel⟩
def c_Book___contains__ (T : GG K mg) : CE := cBody 2 0 (cRet (cOp (rInD' false) (cVar 1) (cProp T.c_Book (c_Book_order T) (cVar 0))))
theorem ok_Book___contains__ (T : GG K mg) : FnOk P w K mg base (L2.CX P w) 3 T.a_Book___contains__ T.fd_Book___contains__ ["self", "name"] (spD (c_Book___contains__ T)) :=
  okD (k := 2) (m := 0) T.F_Book___contains__ sc_Book___contains__ rfl fun cdv A outer s H E hr tk => (psd_one (psd_ret (pd_cmp (od_in (u65 hr)) (pd_v (pv 1)) (pd_pr (P_Book_order T) (hr.mono (by decide)) (pd_v (pv 0))) (by rfl))))
theorem M_Book___contains__ (T : GG K mg) : MeI P w K mg base T.c_Book "__contains__" 3 (spD (c_Book___contains__ T)) :=
  ⟨T.a_Book___contains__, T.fd_Book___contains__, _, T.cl_Book, T.me_Book___contains__, ok_Book___contains__ T, T.F_Book___contains__.binds fun _ _ _ _ _ _ us hl => match us, hl with | [_, _], _ => rfl⟩
abbrev N_Book___getitem__ : List Str := ["self", "name", "other", "pair"]
theorem sc_Book___getitem__ : FnScope N_Book___getitem__ ["self", "name"] (defScope s_Book___getitem__) := ⟨rfl, rfl, rfl, by decide +kernel, rfl, by decide +kernel, by decide +kernel⟩
def c_Book___getitem___1 (T : GG K mg) : CS := (cIf (cTst (cOp (rEqD' false) (cVar 2) (cVar 1)))
    (cRet (cVar 3)) cNext)
def c_Book___getitem___2 (T : GG K mg) : CS := (cRaise T.c_UnknownName ["name"] (caCons (cVar 1) caNil))
def c_Book___getitem__ (T : GG K mg) : CE := cBody 2 2 (cSeq (cFor (ciSeq (cFldN T.c_Book "entries" 0)) (cgT 2 (cgCons (cgN 2) (cgCons (cgN 3) cgNil)))
    (c_Book___getitem___1 T))
    (c_Book___getitem___2 T))
theorem ok_Book___getitem__ (T : GG K mg) : FnOk P w K mg base (L2.CX P w) 3 T.a_Book___getitem__ T.fd_Book___getitem__ ["self", "name"] (spD (c_Book___getitem__ T)) :=
  okD (k := 2) (m := 2) T.F_Book___getitem__ sc_Book___getitem__ rfl fun cdv A outer s H E hr tk => (psd_cons (psd_for (fun _ _ _ h1 h2 h3 => ps_for (passes_of rfl) rfl h1 h2 h3) (pid_seq (pd_fldN T.cl_Book T.no_Book_entries (pv 0))) (pgd_t rfl (pgd_cons (pgd_n (pg_name (i := 2) sc_Book___getitem__.nd rfl (Or.inl rfl))) (pgd_cons (pgd_n (pg_name (i := 3) sc_Book___getitem__.nd rfl (Or.inl rfl))) pgd_nil)))
    (psd_one (psd_if (ptd_cmp (od_eq hr.units) (pd_v (pv 2)) (pd_v (pv 1)) (nomark _))
    (psd_one (psd_ret (pd_v (pv 3)))) psd_nil)))
    (psd_one (psd_rx (X_UnknownName T) rfl (by decide) (hr.mono (by decide)) rfl tk (pad_cons (pd_v (pv 1)) pad_nil))))
theorem M_Book___getitem__ (T : GG K mg) : MeI P w K mg base T.c_Book "__getitem__" 3 (spD (c_Book___getitem__ T)) :=
  ⟨T.a_Book___getitem__, T.fd_Book___getitem__, _, T.cl_Book, T.me_Book___getitem__, ok_Book___getitem__ T, T.F_Book___getitem__.binds fun _ _ _ _ _ _ us hl => match us, hl with | [_, _], _ => rfl⟩
abbrev N_Book___setitem__ : List Str := ["self", "name", "pair", "text", "tail", "head", "other", "old"]
theorem sc_Book___setitem__ : FnScope N_Book___setitem__ ["self", "name", "pair"] (defScope s_Book___setitem__) := ⟨rfl, rfl, rfl, by decide +kernel, rfl, by decide +kernel, by decide +kernel⟩
def c_Book___setitem___1 (T : GG K mg) : CS := (cDrop (cCall (c_check_name T) (caCons (cVar 3) caNil)))
def c_Book___setitem___2 (T : GG K mg) : CS := (cSeq (cAppFI T.c_Book 0 "past" (cFldI T.c_Book "entries" 0))
    (cIf (cTst (cOp (rInD' false) (cVar 1) (cLendG 0 (cProp T.c_Book (c_Book_order T) (cVar 0)))))
    (cStFI T.c_Book 0 "entries" (cCB rTupOf (caCons (cFr (cLc (ciSeq (cFldI T.c_Book "entries" 0)) (cgT 2 (cgCons (cgN 6) (cgCons (cgN 7) cgNil))) cYes (cTup (caCons (cVar 6) (caCons (cIfE (cTst (cOp (rEqD' false) (cVar 6) (cVar 1))) (cTup (caCons (cVar 4) (caCons (cVar 5) caNil))) (cVar 7)) caNil))) [6, 7])) caNil))) (cStFI T.c_Book 0 "entries" (cOp rAdd (cFldI T.c_Book "entries" 0) (cTup (caCons (cTup (caCons (cVar 1) (caCons (cTup (caCons (cVar 4) (caCons (cVar 5) caNil))) caNil))) caNil))))))
def c_Book___setitem___3 (T : GG K mg) : CS := (cSeq (cIf (cAnd (cTst (cOp (rInD' true) (cVar 1) (cLendG 0 (cProp T.c_Book (c_Book_order T) (cVar 0))))) (cTst (cOp (rEqD' false) (cCB rLen (caCons (cFldI T.c_Book "entries" 0) caNil)) (cC (.int 10)))))
    (cRaise T.c_BadCount ["count"] (caCons (cOp rAdd (cCB rLen (caCons (cFldI T.c_Book "entries" 0) caNil)) (cC (.int 1))) caNil)) cNext)
    (c_Book___setitem___2 T))
def c_Book___setitem__ (T : GG K mg) : CE := cBody 3 5 (cSeq (cAsg (cVar 2) (cgT 2 (cgCons (cgN 4) (cgCons (cgN 5) cgNil))))
    (cSeq (cFor (ciSeq (cTup (caCons (cVar 1) (caCons (cVar 4) (caCons (cVar 5) caNil))))) (cgN 3)
    (c_Book___setitem___1 T))
    (c_Book___setitem___3 T)))
theorem ok_Book___setitem__ (T : GG K mg) : FnOk P w K mg base (L2.CX P w) 4 T.a_Book___setitem__ T.fd_Book___setitem__ ["self", "name", "pair"] (spD (c_Book___setitem__ T)) :=
  okD (k := 3) (m := 5) T.F_Book___setitem__ sc_Book___setitem__ rfl fun cdv A outer s H E hr tk => (psd_cons (psd_asg (fun _ _ h1 h2 => ps_asg h1 h2) (pd_v (pv 2)) (pgd_t rfl (pgd_cons (pgd_n (pg_name (i := 4) sc_Book___setitem__.nd rfl (Or.inr rfl))) (pgd_cons (pgd_n (pg_name (i := 5) sc_Book___setitem__.nd rfl (Or.inr rfl))) pgd_nil))))
    (psd_cons (psd_for (fun _ _ _ h1 h2 h3 => ps_for (passes_of rfl) rfl h1 h2 h3) (pid_seq (pd_tup (pad_cons (pd_v (pv 1)) (pad_cons (pd_v (pv 4)) (pad_cons (pd_v (pv 5)) pad_nil))))) (pgd_n (pg_name (i := 3) sc_Book___setitem__.nd rfl (Or.inl rfl)))
    (psd_one (psd_expr (pd_f (F_check_name T) (hr.mono (by decide)) tk (pad_cons (pd_v (pv 3)) pad_nil)))))
    (psd_cons (psd_if (PW.pt (pwd_and (ptd_cmp (od_nin (u65 hr)) (pd_v (pv 1)) (pd_lendG (j := 0) (pd_pr (P_Book_order T) (hr.mono (by decide)) (pd_v (pv 0)))) (by rfl)) (pwd_and1 (ptd_cmp (od_eq hr.units) (PE.imp (pe_callB kd_len rfl T.z_len PySem.boot_len (pad_cons (pd_fldI T.cl_Book T.no_Book_entries (pv 0)) pad_nil)) fun _ _ _ h => lift_cb h) (pd_cval T.g_Network T.cc_Network_MOST_LINKS) (nomark _)))))
    (psd_one (psd_rx (X_BadCount T) rfl (by decide) (hr.mono (by decide)) rfl tk (pad_cons (pd_op od_add (PE.imp (pe_callB kd_len rfl T.z_len PySem.boot_len (pad_cons (pd_fldI T.cl_Book T.no_Book_entries (pv 0)) pad_nil)) fun _ _ _ h => lift_cb h) pd_int) pad_nil))) psd_nil)
    (psd_cons (psd_appFI T.cl_Book T.no_Book_past (fun _ _ h h2 => ps_expr (pe_bm PySem.F.plainAttrs_list PySem.F.slot_list_append PySem.F.type_list_append mt_append h h2)) (pv 0) (pd_fldI T.cl_Book T.no_Book_entries (pv 0)))
    (psd_one (psd_if (ptd_cmp (od_in (u65 hr)) (pd_v (pv 1)) (pd_lendG (j := 0) (pd_pr (P_Book_order T) (hr.mono (by decide)) (pd_v (pv 0)))) (by rfl))
    (psd_one (psd_fldI T.cl_Book T.no_Book_entries (pv 0) (PE.imp (pe_callTy kd_tup rfl T.z_tuple (by decide +kernel) (pad_cons (pd_fr (pf_lc (own := [("other", 6), ("old", 7)]) rfl sc_Book___setitem__.nd (pid_seq (pd_fldI T.cl_Book T.no_Book_entries (pv 0))) (blkOk_by (N := N_Book___setitem__) (sc := defScope s_Book___setitem__) (by decide +kernel)) (by decide) (fun _ _ _ _ _ => (pgv_t (n := 2) rfl (pgv_cons (pgv_n (pg_name (i := 6) sc_Book___setitem__.nd rfl (Or.inl rfl))) (pgv_cons (pgv_n (pg_name (i := 7) sc_Book___setitem__.nd rfl (Or.inl rfl))) pgv_nil)))) (fun _ _ _ _ _ => ptsd_nil) (fun _ _ _ _ _ => (pd_tup (pad_cons (pd_v (pv 6)) (pad_cons (pd_if (ptd_cmp (od_eq hr.units) (pd_v (pv 6)) (pd_v (pv 1)) (nomark _)) (pd_tup (pad_cons (pd_v (pv 4)) (pad_cons (pd_v (pv 5)) pad_nil))) (pd_v (pv 7))) pad_nil)))))) pad_nil)) fun _ _ _ h => lift_cb h))) (psd_one (psd_fldI T.cl_Book T.no_Book_entries (pv 0) (pd_op od_add (pd_fldI T.cl_Book T.no_Book_entries (pv 0)) (pd_tup (pad_cons (pd_tup (pad_cons (pd_v (pv 1)) (pad_cons (pd_tup (pad_cons (pd_v (pv 4)) (pad_cons (pd_v (pv 5)) pad_nil))) pad_nil))) pad_nil)))))))))))
theorem M_Book___setitem__ (T : GG K mg) : MeI P w K mg base T.c_Book "__setitem__" 4 (spD (c_Book___setitem__ T)) :=
  ⟨T.a_Book___setitem__, T.fd_Book___setitem__, _, T.cl_Book, T.me_Book___setitem__, ok_Book___setitem__ T, T.F_Book___setitem__.binds fun _ _ _ _ _ _ us hl => match us, hl with | [_, _, _], _ => rfl⟩
abbrev N_Book_drop : List Str := ["self", "name", "entry"]
theorem sc_Book_drop : FnScope N_Book_drop ["self", "name"] (defScope s_Book_drop) := ⟨rfl, rfl, rfl, by decide +kernel, rfl, by decide +kernel, by decide +kernel⟩
def c_Book_drop_1 (T : GG K mg) : CS := (cSeq (cAppFI T.c_Book 0 "past" (cFldI T.c_Book "entries" 0))
    (cStFI T.c_Book 0 "entries" (cCB rTupOf (caCons (cFr (cLc (ciSeq (cFldI T.c_Book "entries" 0)) (cgN 2) (cTst (cOp (rEqD' true) (cOp rIx (cVar 2) (cC (.int 0))) (cVar 1))) (cVar 2) [2])) caNil))))
def c_Book_drop (T : GG K mg) : CE := cBody 2 1 (cSeq (cIf (cTst (cOp (rInD' true) (cVar 1) (cLendG 0 (cProp T.c_Book (c_Book_order T) (cVar 0)))))
    (cRaise T.c_UnknownName ["name"] (caCons (cVar 1) caNil)) cNext)
    (c_Book_drop_1 T))
theorem ok_Book_drop (T : GG K mg) : FnOk P w K mg base (L2.CX P w) 3 T.a_Book_drop T.fd_Book_drop ["self", "name"] (spD (c_Book_drop T)) :=
  okD (k := 2) (m := 1) T.F_Book_drop sc_Book_drop rfl fun cdv A outer s H E hr tk => (psd_cons (psd_if (ptd_cmp (od_nin (u65 hr)) (pd_v (pv 1)) (pd_lendG (j := 0) (pd_pr (P_Book_order T) (hr.mono (by decide)) (pd_v (pv 0)))) (by rfl))
    (psd_one (psd_rx (X_UnknownName T) rfl (by decide) (hr.mono (by decide)) rfl tk (pad_cons (pd_v (pv 1)) pad_nil))) psd_nil)
    (psd_cons (psd_appFI T.cl_Book T.no_Book_past (fun _ _ h h2 => ps_expr (pe_bm PySem.F.plainAttrs_list PySem.F.slot_list_append PySem.F.type_list_append mt_append h h2)) (pv 0) (pd_fldI T.cl_Book T.no_Book_entries (pv 0)))
    (psd_one (psd_fldI T.cl_Book T.no_Book_entries (pv 0) (PE.imp (pe_callTy kd_tup rfl T.z_tuple (by decide +kernel) (pad_cons (pd_fr (pf_lc (own := [("entry", 2)]) rfl sc_Book_drop.nd (pid_seq (pd_fldI T.cl_Book T.no_Book_entries (pv 0))) (blkOk_by (N := N_Book_drop) (sc := defScope s_Book_drop) (by decide +kernel)) (by decide) (fun _ _ _ _ _ => (pgv_n (pg_name (i := 2) sc_Book_drop.nd rfl (Or.inl rfl)))) (fun _ _ _ _ _ => (ptsd_one (ptd_cmp (od_ne hr.units) (pd_ix (xd_ix (hu_of hr)) (pd_v (pv 2)) pd_int (fun _ _ => rfl)) (pd_v (pv 1)) (nomark _)))) (fun _ _ _ _ _ => (pd_v (pv 2))))) pad_nil)) fun _ _ _ h => lift_cb h)))))
theorem M_Book_drop (T : GG K mg) : MeI P w K mg base T.c_Book "drop" 3 (spD (c_Book_drop T)) :=
  ⟨T.a_Book_drop, T.fd_Book_drop, _, T.cl_Book, T.me_Book_drop, ok_Book_drop T, T.F_Book_drop.binds fun _ _ _ _ _ _ us hl => match us, hl with | [_, _], _ => rfl⟩
end
end Xl

local macro_rules | `(tactic| walk_at "u") => `(tactic| first | unfold Xl.c_Book___init___1 | unfold Xl.c_Book___getitem___2 | unfold Xl.c_Book___setitem___2 | unfold Xl.c_Book___setitem___3 | unfold Xl.c_Book_drop_1)

namespace Xl
open PySem PySem.Spec PyProof.Rows L2
set_option pp.maxSteps 600
section
variable {P : Program} {w : World} {K : PySem.W.Frag} {mg : Str → Option Value} {base : Heap}
abbrev N_word : List Str := ["_law_state", "_law_words", "_law_key"]
theorem sc_word : FnScope N_word ["_law_state", "_law_words"] (defScope s_word) := ⟨rfl, rfl, rfl, by decide +kernel, rfl, by decide +kernel, by decide +kernel⟩
def c_word_1 (T : GG K mg) : CS := (cRet (cVar 2))
def c_word (T : GG K mg) : CE := cBody 2 1 (cSeq (cSet 2 (cOp rIx (cVar 1) (cCallS 0 (c_draw T) (caCons (cCB rLen (caCons (cVar 1) caNil)) caNil))))
    (cSeq (cIf (cTst (cOp (rEqD' false) (cCallS 0 (c_draw T) (caCons (cC (.int 9)) caNil)) (cC (.int 0))))
    (cSet 2 (cOp rIx (cFr (cLim (caCons (cC (.str "")) (caCons (cC (.str "1a")) (caCons (cC (.str "toolong")) (caCons (cC (.str "A")) (caCons (cC (.str "x y")) (caCons (cC (.str "b-")) (caCons (cC (.str "aB")) (caCons (cC (.str "sixsix")) caNil)))))))))) (cCallS 0 (c_draw T) (caCons (cC (.int 8)) caNil)))) cNext)
    (c_word_1 T)))
theorem ok_word (T : GG K mg) : FnOk P w K mg base (L2.CX P w) 2 T.a_word T.fd_word ["_law_state", "_law_words"] (spD (c_word T)) :=
  okD (k := 1) (m := 1) T.F_word sc_word rfl fun cdv A outer s H E hr tk => (psd_cons (psd_set (fun _ h => ps_set (i := 2) sc_word.nd rfl (Or.inl rfl) h) (pd_ix (xd_ix (hu_of hr)) (pd_v (pv 1)) (pd_fS (F_drawD T) (hr.mono (by decide)) tk (pv 0) (pad_cons (PE.imp (pe_callB kd_len rfl T.z_len PySem.boot_len (pad_cons (pd_v (pv 1)) pad_nil)) fun _ _ _ h => lift_cb h) pad_nil)) (fun _ _ => rfl)))
    (psd_cons (psd_if (ptd_cmp (od_eq hr.units) (pd_fS (F_drawD T) (hr.mono (by decide)) tk (pv 0) (pad_cons pd_int pad_nil)) pd_int (nomark _))
    (psd_one (psd_set (fun _ h => ps_set (i := 2) sc_word.nd rfl (Or.inl rfl) h) (pd_ix (xd_ix (hu_of hr)) (pd_fr (pf_lst (pad_cons pd_str (pad_cons pd_str (pad_cons pd_str (pad_cons pd_str (pad_cons pd_str (pad_cons pd_str (pad_cons pd_str (pad_cons pd_str pad_nil)))))))))) (pd_fS (F_drawD T) (hr.mono (by decide)) tk (pv 0) (pad_cons pd_int pad_nil)) (fun _ _ => rfl)))) psd_nil)
    (psd_one (psd_ret (pd_v (pv 2))))))
theorem F_word (T : GG K mg) : FnI P w K mg base "_law_word" 2 ["_law_state", "_law_words"] (spD (c_word T)) :=
  ⟨T.a_word, T.fd_word, ok_word T, T.m_word, T.F_word.kp, T.F_word.binds fun _ _ _ _ _ _ us hl => match us, hl with | [_, _], _ => rfl⟩
abbrev N_good : List Str := ["_law_text", "_law_letters", "_law_char"]
theorem sc_good : FnScope N_good ["_law_text"] (defScope s_good) := ⟨rfl, rfl, rfl, by decide +kernel, rfl, by decide +kernel, by decide +kernel⟩
def c_good_1 (T : GG K mg) : CS := (cRet (cCB rAllD (caCons (cFr (cLc (ciSeq (cVar 0)) (cgN 2) cYes (cOrV (cOp (rInD' false) (cVar 2) (cVar 1)) (cOp (rInD' false) (cVar 2) (cC (.str "0123456789")))) [2])) caNil)))
def c_good (T : GG K mg) : CE := cBody 1 2 (cSeq (cSet 1 (cC (.str "abcdefghijklmnopqrstuvwxyz")))
    (cSeq (cIf (cOr (cTst (cOp rLt (cCB rLen (caCons (cVar 0) caNil)) (cC (.int 1)))) (cOr (cTst (cOp rGt (cCB rLen (caCons (cVar 0) caNil)) (cC (.int 6)))) (cTst (cOp (rInD' true) (cOp rIx (cVar 0) (cC (.int 0))) (cVar 1)))))
    (cRet (cC (.bl false))) cNext)
    (c_good_1 T)))
theorem ok_good (T : GG K mg) : FnOk P w K mg base (L2.CX P w) 1 T.a_good T.fd_good ["_law_text"] (spD (c_good T)) :=
  okD (k := 0) (m := 2) T.F_good sc_good rfl fun cdv A outer s H E hr tk => (psd_cons (psd_set (fun _ h => ps_set (i := 1) sc_good.nd rfl (Or.inr rfl) h) pd_str)
    (psd_cons (psd_if (PW.pt (pwd_or (ptd_cmp od_lt (PE.imp (pe_callB kd_len rfl T.z_len PySem.boot_len (pad_cons (pd_v (pv 0)) pad_nil)) fun _ _ _ h => lift_cb h) pd_int (nomark _)) (pwd_or (ptd_cmp od_gt (PE.imp (pe_callB kd_len rfl T.z_len PySem.boot_len (pad_cons (pd_v (pv 0)) pad_nil)) fun _ _ _ h => lift_cb h) pd_int (nomark _)) (pwd_or1 (ptd_cmp (od_nin (u65 hr)) (pd_ix (xd_ix (hu_of hr)) (pd_v (pv 0)) pd_int (fun _ _ => rfl)) (pd_v (pv 1)) (by rfl))))))
    (psd_one (psd_ret pd_bl)) psd_nil)
    (psd_one (psd_ret (PE.imp (pe_callB (kd_all rfl) rfl T.z_all (by decide +kernel) (pad_cons (pd_fr (pf_lc (own := [("_law_char", 2)]) rfl sc_good.nd (pid_seq (pd_v (pv 0))) (blkOk_by (N := N_good) (sc := defScope s_good) (by decide +kernel)) (by decide) (fun _ _ _ _ _ => (pgv_n (pg_name (i := 2) sc_good.nd rfl (Or.inl rfl)))) (fun _ _ _ _ _ => ptsd_nil) (fun _ _ _ _ _ => (pd_or (pd_cmp (od_in (u65 hr)) (pd_v (pv 2)) (pd_v (pv 1)) (by rfl)) (pd_one (pd_cmp (od_in (u65 hr)) (pd_v (pv 2)) pd_str (by rfl))))))) pad_nil)) fun _ _ _ h => lift_cb h)))))
theorem F_good (T : GG K mg) : FnI P w K mg base "_law_good" 1 ["_law_text"] (spD (c_good T)) :=
  ⟨T.a_good, T.fd_good, ok_good T, T.m_good, T.F_good.kp, T.F_good.binds fun _ _ _ _ _ _ us hl => match us, hl with | [_], _ => rfl⟩
abbrev N_store : List Str := ["_law_book", "_law_key", "_law_ends", "e"]
theorem sc_store : FnScope N_store ["_law_book", "_law_key", "_law_ends"] (defScope s_store) := ⟨rfl, rfl, rfl, by decide +kernel, rfl, by decide +kernel, by decide +kernel⟩
def c_store_1 (T : GG K mg) : CS := (cSetIM T.c_Book 0 (c_Book___setitem__ T) (cVar 2) (cVar 1))
def c_store_2 (T : GG K mg) : CS := (cRet (cC .non))
def c_store (T : GG K mg) : CE := cBody 3 1 (cSeq (cTry K 3 (c_store_1 T)
    ((T.c_BadName, fun z cls d => (cRet (cTup (caCons (cC (.str "bad")) (caCons (cXfC T.c_BadName z cls d "name" (cVar 3)) caNil))))) :: (T.c_BadCount, fun z cls d => (cRet (cTup (caCons (cC (.str "count")) (caCons (cXfC T.c_BadCount z cls d "count" (cVar 3)) caNil))))) :: []))
    (c_store_2 T))
theorem ok_store (T : GG K mg) : FnOk P w K mg base (L2.CX P w) 5 T.a_store T.fd_store ["_law_book", "_law_key", "_law_ends"] (spD (c_store T)) :=
  okD (k := 4) (m := 1) T.F_store sc_store rfl fun cdv A outer s H E hr tk => (psd_cons (psd_try rfl rfl sc_store.nd rfl rfl tk (fun W pn xe tk po => (psd_one (psd_setIM (fun _ _ h1 h2 => ps_asg h1 h2) (M_Book___setitem__ T) T.ns_Book (hr.mono (by decide)) tk (pv 0) (pd_v (pv 2)) (pd_v (pv 1)))))
    (.cons ⟨rfl, by decide, .inl T.g_BadName⟩ (fun z oz cls d pn hz hf => (psd_one (psd_ret (pd_tup (pad_cons pd_str (pad_cons (pd_xf T.xf_BadName T.no_BadName_name hz hf (pd_v (pv 3))) pad_nil))))))
      (.cons ⟨rfl, by decide, .inl T.g_BadCount⟩ (fun z oz cls d pn hz hf => (psd_one (psd_ret (pd_tup (pad_cons pd_str (pad_cons (pd_xf T.xf_BadCount T.no_BadCount_count hz hf (pd_v (pv 3))) pad_nil))))))
      .nil)))
    (psd_one (psd_ret pd_non)))
theorem F_store (T : GG K mg) : FnI P w K mg base "_law_store" 5 ["_law_book", "_law_key", "_law_ends"] (spD (c_store T)) :=
  ⟨T.a_store, T.fd_store, ok_store T, T.m_store, T.F_store.kp, T.F_store.binds fun _ _ _ _ _ _ us hl => match us, hl with | [_, _, _], _ => rfl⟩
abbrev N_drop : List Str := ["_law_book", "_law_key", "e"]
theorem sc_drop : FnScope N_drop ["_law_book", "_law_key"] (defScope s_drop) := ⟨rfl, rfl, rfl, by decide +kernel, rfl, by decide +kernel, by decide +kernel⟩
def c_drop_1 (T : GG K mg) : CS := (cDrop (cMethMK T.c_Book "drop" 0 1 [0] (c_Book_drop T) (caCons (cVar 1) caNil)))
def c_drop_2 (T : GG K mg) : CS := (cRet (cC .non))
def c_drop (T : GG K mg) : CE := cBody 2 1 (cSeq (cTry K 2 (c_drop_1 T)
    ((T.c_UnknownName, fun z cls d => (cRet (cTup (caCons (cC (.str "unknown")) (caCons (cXfC T.c_UnknownName z cls d "name" (cVar 2)) caNil))))) :: []))
    (c_drop_2 T))
theorem ok_drop (T : GG K mg) : FnOk P w K mg base (L2.CX P w) 4 T.a_drop T.fd_drop ["_law_book", "_law_key"] (spD (c_drop T)) :=
  okD (k := 3) (m := 1) T.F_drop sc_drop rfl fun cdv A outer s H E hr tk => (psd_cons (psd_try rfl rfl sc_drop.nd rfl rfl tk (fun W pn xe tk po => (psd_one (psd_expr (pd_mtMK (ks := ["name"]) (ix := [0]) ⟨T.a_Book_drop, T.fd_Book_drop, _, T.cl_Book, T.me_Book_drop, ok_Book_drop T, (by obtain ⟨_, _, _, _, _, _, _, _, _, e, _, _⟩ := T.F_Book_drop.ex; rw [e]; exact fun s u ws hl => match ws, hl with | [_], _ => .of_eq rfl)⟩ (hr.mono (by decide)) tk (pv 0) (pkd_cons (pd_v (pv 1)) pkd_nil)))))
    (.cons ⟨rfl, by decide, .inl T.g_UnknownName⟩ (fun z oz cls d pn hz hf => (psd_one (psd_ret (pd_tup (pad_cons pd_str (pad_cons (pd_xf T.xf_UnknownName T.no_UnknownName_name hz hf (pd_v (pv 2))) pad_nil))))))
      .nil))
    (psd_one (psd_ret pd_non)))
theorem F_drop (T : GG K mg) : FnI P w K mg base "_law_drop" 4 ["_law_book", "_law_key"] (spD (c_drop T)) :=
  ⟨T.a_drop, T.fd_drop, ok_drop T, T.m_drop, T.F_drop.kp, T.F_drop.binds fun _ _ _ _ _ _ us hl => match us, hl with | [_, _], _ => rfl⟩
abbrev N_due_store : List Str := ["_law_entries", "_law_key", "_law_ends", "_law_text", "_law_item"]
theorem sc_due_store : FnScope N_due_store ["_law_entries", "_law_key", "_law_ends"] (defScope s_due_store) := ⟨rfl, rfl, rfl, by decide +kernel, rfl, by decide +kernel, by decide +kernel⟩
def c_due_store_1 (T : GG K mg) : CS := (cIf (cNot (cTru (cCall (c_good T) (caCons (cVar 3) caNil))))
    (cRet (cTup (caCons (cC (.str "bad")) (caCons (cVar 3) caNil)))) cNext)
def c_due_store_2 (T : GG K mg) : CS := (cRet (cC .non))
def c_due_store_3 (T : GG K mg) : CS := (cSeq (cIf (cAnd (cTst (cOp (rInD' true) (cVar 1) (cFr (cLc (ciSeq (cVar 0)) (cgN 4) cYes (cOp rIx (cVar 4) (cC (.int 0))) [4])))) (cTst (cOp (rEqD' false) (cCB rLen (caCons (cVar 0) caNil)) (cC (.int 10)))))
    (cRet (cTup (caCons (cC (.str "count")) (caCons (cC (.int 11)) caNil)))) cNext)
    (c_due_store_2 T))
def c_due_store (T : GG K mg) : CE := cBody 3 2 (cSeq (cFor (ciSeq (cFr (cLim (caCons (cVar 1) (caCons (cOp rIx (cVar 2) (cC (.int 0))) (caCons (cOp rIx (cVar 2) (cC (.int 1))) caNil)))))) (cgN 3)
    (c_due_store_1 T))
    (c_due_store_3 T))
theorem ok_due_store (T : GG K mg) : FnOk P w K mg base (L2.CX P w) 2 T.a_due_store T.fd_due_store ["_law_entries", "_law_key", "_law_ends"] (spD (c_due_store T)) :=
  okD (k := 1) (m := 2) T.F_due_store sc_due_store rfl fun cdv A outer s H E hr tk => (psd_cons (psd_for (fun _ _ _ h1 h2 h3 => ps_for (passes_of rfl) rfl h1 h2 h3) (pid_seq (pd_fr (pf_lst (pad_cons (pd_v (pv 1)) (pad_cons (pd_ix (xd_ix (hu_of hr)) (pd_v (pv 2)) pd_int (fun _ _ => rfl)) (pad_cons (pd_ix (xd_ix (hu_of hr)) (pd_v (pv 2)) pd_int (fun _ _ => rfl)) pad_nil)))))) (pgd_n (pg_name (i := 3) sc_due_store.nd rfl (Or.inl rfl)))
    (psd_one (psd_if (ptd_not (ptd_tru (pd_f (F_good T) (hr.mono (by decide)) tk (pad_cons (pd_v (pv 3)) pad_nil))))
    (psd_one (psd_ret (pd_tup (pad_cons pd_str (pad_cons (pd_v (pv 3)) pad_nil))))) psd_nil)))
    (psd_cons (psd_if (PW.pt (pwd_and (ptd_cmp (od_nin (u65 hr)) (pd_v (pv 1)) (pd_fr (pf_lc (own := [("_law_item", 4)]) rfl sc_due_store.nd (pid_seq (pd_v (pv 0))) (blkOk_by (N := N_due_store) (sc := defScope s_due_store) (by decide +kernel)) (by decide) (fun _ _ _ _ _ => (pgv_n (pg_name (i := 4) sc_due_store.nd rfl (Or.inl rfl)))) (fun _ _ _ _ _ => ptsd_nil) (fun _ _ _ _ _ => (pd_ix (xd_ix (hu_of hr)) (pd_v (pv 4)) pd_int (fun _ _ => rfl))))) (by rfl)) (pwd_and1 (ptd_cmp (od_eq hr.units) (PE.imp (pe_callB kd_len rfl T.z_len PySem.boot_len (pad_cons (pd_v (pv 0)) pad_nil)) fun _ _ _ h => lift_cb h) pd_int (nomark _)))))
    (psd_one (psd_ret (pd_tup (pad_cons pd_str (pad_cons pd_int pad_nil))))) psd_nil)
    (psd_one (psd_ret pd_non))))
theorem F_due_store (T : GG K mg) : FnI P w K mg base "_law_due_store" 2 ["_law_entries", "_law_key", "_law_ends"] (spD (c_due_store T)) :=
  ⟨T.a_due_store, T.fd_due_store, ok_due_store T, T.m_due_store, T.F_due_store.kp, T.F_due_store.binds fun _ _ _ _ _ _ us hl => match us, hl with | [_, _, _], _ => rfl⟩
abbrev N_stored : List Str := ["_law_entries", "_law_key", "_law_ends", "_law_item"]
theorem sc_stored : FnScope N_stored ["_law_entries", "_law_key", "_law_ends"] (defScope s_stored) := ⟨rfl, rfl, rfl, by decide +kernel, rfl, by decide +kernel, by decide +kernel⟩
def c_stored_1 (T : GG K mg) : CS := (cRet (cFr (cLc (ciSeq (cVar 0)) (cgN 3) cYes (cTup (caCons (cOp rIx (cVar 3) (cC (.int 0))) (caCons (cOp rIx (cFr (cLim (caCons (cOp rIx (cVar 3) (cC (.int 1))) (caCons (cVar 2) caNil)))) (cCB rInt (caCons (cOp (rEqD' false) (cOp rIx (cVar 3) (cC (.int 0))) (cVar 1)) caNil))) caNil))) [3])))
def c_stored (T : GG K mg) : CE := cBody 3 1 (cSeq (cIf (cTst (cOp (rInD' true) (cVar 1) (cFr (cLc (ciSeq (cVar 0)) (cgN 3) cYes (cOp rIx (cVar 3) (cC (.int 0))) [3]))))
    (cRet (cOp rAdd (cVar 0) (cFr (cLim (caCons (cTup (caCons (cVar 1) (caCons (cVar 2) caNil))) caNil))))) cNext)
    (c_stored_1 T))
theorem ok_stored (T : GG K mg) : FnOk P w K mg base (L2.CX P w) 1 T.a_stored T.fd_stored ["_law_entries", "_law_key", "_law_ends"] (spD (c_stored T)) :=
  okD (k := 0) (m := 1) T.F_stored sc_stored rfl fun cdv A outer s H E hr tk => (psd_cons (psd_if (ptd_cmp (od_nin (u65 hr)) (pd_v (pv 1)) (pd_fr (pf_lc (own := [("_law_item", 3)]) rfl sc_stored.nd (pid_seq (pd_v (pv 0))) (blkOk_by (N := N_stored) (sc := defScope s_stored) (by decide +kernel)) (by decide) (fun _ _ _ _ _ => (pgv_n (pg_name (i := 3) sc_stored.nd rfl (Or.inl rfl)))) (fun _ _ _ _ _ => ptsd_nil) (fun _ _ _ _ _ => (pd_ix (xd_ix (hu_of hr)) (pd_v (pv 3)) pd_int (fun _ _ => rfl))))) (by rfl))
    (psd_one (psd_ret (pd_op od_add (pd_v (pv 0)) (pd_fr (pf_lst (pad_cons (pd_tup (pad_cons (pd_v (pv 1)) (pad_cons (pd_v (pv 2)) pad_nil))) pad_nil)))))) psd_nil)
    (psd_one (psd_ret (pd_fr (pf_lc (own := [("_law_item", 3)]) rfl sc_stored.nd (pid_seq (pd_v (pv 0))) (blkOk_by (N := N_stored) (sc := defScope s_stored) (by decide +kernel)) (by decide) (fun _ _ _ _ _ => (pgv_n (pg_name (i := 3) sc_stored.nd rfl (Or.inl rfl)))) (fun _ _ _ _ _ => ptsd_nil) (fun _ _ _ _ _ => (pd_tup (pad_cons (pd_ix (xd_ix (hu_of hr)) (pd_v (pv 3)) pd_int (fun _ _ => rfl)) (pad_cons (pd_ix (xd_ix (hu_of hr)) (pd_fr (pf_lst (pad_cons (pd_ix (xd_ix (hu_of hr)) (pd_v (pv 3)) pd_int (fun _ _ => rfl)) (pad_cons (pd_v (pv 2)) pad_nil)))) (PE.imp (pe_callTy kd_int rfl T.z_int (by decide +kernel) (pad_cons (pd_cmp (od_eq hr.units) (pd_ix (xd_ix (hu_of hr)) (pd_v (pv 3)) pd_int (fun _ _ => rfl)) (pd_v (pv 1)) (nomark _)) pad_nil)) fun _ _ _ h => lift_cb h) (fun _ _ => rfl)) pad_nil)))))))))
theorem F_stored (T : GG K mg) : FnI P w K mg base "_law_stored" 1 ["_law_entries", "_law_key", "_law_ends"] (spD (c_stored T)) :=
  ⟨T.a_stored, T.fd_stored, ok_stored T, T.m_stored, T.F_stored.kp, T.F_stored.binds fun _ _ _ _ _ _ us hl => match us, hl with | [_, _, _], _ => rfl⟩
abbrev N_missing : List Str := ["_law_book", "_law_key", "e", "_law_answer"]
theorem sc_missing : FnScope N_missing ["_law_book", "_law_key"] (defScope s_missing) := ⟨rfl, rfl, rfl, by decide +kernel, rfl, by decide +kernel, by decide +kernel⟩
def c_missing_1 (T : GG K mg) : CS := (cSet 3 (cFr (cLim (caCons (cGetO T.c_Book (c_Book___getitem__ T) (cVar 0) (cVar 1)) caNil))))
def c_missing_2 (T : GG K mg) : CS := (cRet (cOp (rEqD' false) (cVar 3) (cFr (cLim caNil))))
def c_missing (T : GG K mg) : CE := cBody 2 2 (cSeq (cTry K 2 (c_missing_1 T)
    ((T.c_UnknownName, fun z cls d => (cRet (cOp (rEqD' false) (cXfC T.c_UnknownName z cls d "name" (cVar 2)) (cVar 1)))) :: []))
    (c_missing_2 T))
theorem ok_missing (T : GG K mg) : FnOk P w K mg base (L2.CX P w) 5 T.a_missing T.fd_missing ["_law_book", "_law_key"] (spD (c_missing T)) :=
  okD (k := 4) (m := 2) T.F_missing sc_missing rfl fun cdv A outer s H E hr tk => (psd_cons (psd_try rfl rfl sc_missing.nd rfl rfl tk (fun W pn xe tk po => (psd_one (psd_set (fun _ h => ps_set (i := 3) sc_missing.nd rfl (Or.inl rfl) h) (pd_fr (pf_lst (pad_cons (pd_getO (M_Book___getitem__ T) T.gi_Book (hr.mono (by decide)) tk (pd_v (pv 0)) (pd_v (pv 1))) pad_nil))))))
    (.cons ⟨rfl, by decide, .inl T.g_UnknownName⟩ (fun z oz cls d pn hz hf => (psd_one (psd_ret (pd_cmp (od_eq hr.units) (pd_xf T.xf_UnknownName T.no_UnknownName_name hz hf (pd_v (pv 2))) (pd_v (pv 1)) (nomark _)))))
      .nil))
    (psd_one (psd_ret (pd_cmp (od_eq hr.units) (pd_v (pv 3)) (pd_fr (pf_lst pad_nil)) (nomark _)))))
theorem F_missing (T : GG K mg) : FnI P w K mg base "_law_missing" 5 ["_law_book", "_law_key"] (spD (c_missing T)) :=
  ⟨T.a_missing, T.fd_missing, ok_missing T, T.m_missing, T.F_missing.kp, T.F_missing.binds fun _ _ _ _ _ _ us hl => match us, hl with | [_, _], _ => rfl⟩
abbrev N_shows : List Str := ["_law_book", "_law_entries", "_law_words", "_law_known", "_law_item", "_law_key"]
theorem sc_shows : FnScope N_shows ["_law_book", "_law_entries", "_law_words"] (defScope s_shows) := ⟨rfl, rfl, rfl, by decide +kernel, rfl, by decide +kernel, by decide +kernel⟩
def c_shows_1 (T : GG K mg) : CS := (cIf (cOr (cTst (cOp (rEqD' true) (cGetO T.c_Book (c_Book___getitem__ T) (cVar 0) (cOp rIx (cVar 4) (cC (.int 0)))) (cOp rIx (cVar 4) (cC (.int 1))))) (cTst (cOp (rInO T.c_Book true (c_Book___contains__ T)) (cOp rIx (cVar 4) (cC (.int 0))) (cVar 0))))
    (cRet (cC (.bl false))) cNext)
def c_shows_2 (T : GG K mg) : CS := (cIf (cAnd (cTst (cOp (rInD' true) (cVar 5) (cVar 3))) (cOr (cTst (cOp (rInO T.c_Book false (c_Book___contains__ T)) (cVar 5) (cVar 0))) (cNot (cTru (cCall (c_missing T) (caCons (cVar 0) (caCons (cVar 5) caNil)))))))
    (cRet (cC (.bl false))) cNext)
def c_shows_3 (T : GG K mg) : CS := (cRet (cC (.bl true)))
def c_shows_4 (T : GG K mg) : CS := (cSeq (cFor (ciSeq (cOp rAdd (cVar 2) (cFr (cLim (caCons (cC (.str "")) (caCons (cC (.str "zz9")) caNil)))))) (cgN 5)
    (c_shows_2 T))
    (c_shows_3 T))
def c_shows_5 (T : GG K mg) : CS := (cSeq (cFor (ciSeq (cVar 1)) (cgN 4)
    (c_shows_1 T))
    (c_shows_4 T))
def c_shows (T : GG K mg) : CE := cBody 3 3 (cSeq (cSet 3 (cFr (cLc (ciSeq (cVar 1)) (cgN 4) cYes (cOp rIx (cVar 4) (cC (.int 0))) [4])))
    (cSeq (cIf (cOr (cTst (cOp (rEqD' true) (cProp T.c_Book (c_Book_order T) (cVar 0)) (cCB rTupOf (caCons (cVar 3) caNil)))) (cTst (cOp (rEqD' true) (cCB (rLenO T.c_Book (c_Book___len__ T)) (caCons (cVar 0) caNil)) (cCB rLen (caCons (cVar 3) caNil)))))
    (cRet (cC (.bl false))) cNext)
    (c_shows_5 T)))
theorem ok_shows (T : GG K mg) : FnOk P w K mg base (L2.CX P w) 6 T.a_shows T.fd_shows ["_law_book", "_law_entries", "_law_words"] (spD (c_shows T)) :=
  okD (k := 5) (m := 3) T.F_shows sc_shows rfl fun cdv A outer s H E hr tk => (psd_cons (psd_lcS (own := [("_law_item", 4)]) (elt := .Constant .none 0 ⟨0, 0, 0, 0⟩) (tg := .Constant .none 0 ⟨0, 0, 0, 0⟩) (iter := .Constant .none 0 ⟨0, 0, 0, 0⟩) (by decide) (ps_setLc (i := 3) (own := [("_law_item", 4)]) rfl sc_shows.nd rfl rfl (sw_true rfl rfl rfl (by decide +kernel)) (pid_seq (pd_v (pv 1))) (blkOk_by (N := N_shows) (sc := defScope s_shows) (by decide +kernel)) (fun _ _ _ _ _ => (pgv_n (pg_name (i := 4) sc_shows.nd rfl (Or.inl rfl)))) (fun _ _ _ _ _ => ptsd_nil) (fun _ _ _ _ _ => (pd_ix (xd_ix (hu_of hr)) (pd_v (pv 4)) pd_int (fun _ _ => rfl)))))
    (psd_cons (psd_if (PW.pt (pwd_or (ptd_cmp (od_ne hr.units) (pd_pr (P_Book_order T) (hr.mono (by decide)) (pd_v (pv 0))) (PE.imp (pe_callTy kd_tup rfl T.z_tuple (by decide +kernel) (pad_cons (pd_v (pv 3)) pad_nil)) fun _ _ _ h => lift_cb h) (nomark _)) (pwd_or1 (ptd_cmp (od_ne hr.units) (PE.imp (pe_callB (kd_lenO (M_Book___len__ T) (hr.mono (by decide))) rfl T.z_len PySem.boot_len (pad_cons (pd_v (pv 0)) pad_nil)) fun _ _ _ h => lift_cbo h) (PE.imp (pe_callB kd_len rfl T.z_len PySem.boot_len (pad_cons (pd_v (pv 3)) pad_nil)) fun _ _ _ h => lift_cb h) (nomark _)))))
    (psd_one (psd_ret pd_bl)) psd_nil)
    (psd_cons (psd_for (fun _ _ _ h1 h2 h3 => ps_for (passes_of rfl) rfl h1 h2 h3) (pid_seq (pd_v (pv 1))) (pgd_n (pg_name (i := 4) sc_shows.nd rfl (Or.inl rfl)))
    (psd_one (psd_if (PW.pt (pwd_or (ptd_cmp (od_ne hr.units) (pd_getO (M_Book___getitem__ T) T.gi_Book (hr.mono (by decide)) tk (pd_v (pv 0)) (pd_ix (xd_ix (hu_of hr)) (pd_v (pv 4)) pd_int (fun _ _ => rfl))) (pd_ix (xd_ix (hu_of hr)) (pd_v (pv 4)) pd_int (fun _ _ => rfl)) (nomark _)) (pwd_or1 (ptd_cmpo (od_ninO (M_Book___contains__ T) (hr.mono (by decide))) (pd_ix (xd_ix (hu_of hr)) (pd_v (pv 4)) pd_int (fun _ _ => rfl)) (pd_v (pv 0)) (by rfl)))))
    (psd_one (psd_ret pd_bl)) psd_nil)))
    (psd_cons (psd_for (fun _ _ _ h1 h2 h3 => ps_for (passes_of rfl) rfl h1 h2 h3) (pid_seq (pd_op od_add (pd_v (pv 2)) (pd_fr (pf_lst (pad_cons pd_str (pad_cons pd_str pad_nil)))))) (pgd_n (pg_name (i := 5) sc_shows.nd rfl (Or.inl rfl)))
    (psd_one (psd_if (PW.pt (pwd_and (ptd_cmp (od_nin (u65 hr)) (pd_v (pv 5)) (pd_v (pv 3)) (by rfl)) (pwd_and1 (PW.pt (pwd_or (ptd_cmpo (od_inO (M_Book___contains__ T) (hr.mono (by decide))) (pd_v (pv 5)) (pd_v (pv 0)) (by rfl)) (pwd_or1 (ptd_not (ptd_tru (pd_f (F_missing T) (hr.mono (by decide)) tk (pad_cons (pd_v (pv 0)) (pad_cons (pd_v (pv 5)) pad_nil)))))))))))
    (psd_one (psd_ret pd_bl)) psd_nil)))
    (psd_one (psd_ret pd_bl))))))
theorem F_shows (T : GG K mg) : FnI P w K mg base "_law_shows" 6 ["_law_book", "_law_entries", "_law_words"] (spD (c_shows T)) :=
  ⟨T.a_shows, T.fd_shows, ok_shows T, T.m_shows, T.F_shows.kp, T.F_shows.binds fun _ _ _ _ _ _ us hl => match us, hl with | [_, _, _], _ => rfl⟩
abbrev N_new : List Str := ["_law_one", "_law_two", "e"]
theorem sc_new : FnScope N_new ["_law_one", "_law_two"] (defScope s_new) := ⟨rfl, rfl, rfl, by decide +kernel, rfl, by decide +kernel, by decide +kernel⟩
def c_new_1 (T : GG K mg) : CS := (cRet (cTup (caCons (cC (.str "book")) (caCons (cFrM (cMkM T.c_Book (c_Book_mk T) (caCons (cVar 0) (caCons (cVar 1) caNil)))) caNil))))
def c_new (T : GG K mg) : CE := cBody 2 1 (cTry K 2 (c_new_1 T)
    ((T.c_BadName, fun z cls d => (cRet (cTup (caCons (cC (.str "bad")) (caCons (cXfC T.c_BadName z cls d "name" (cVar 2)) caNil))))) :: (T.c_DuplicateName, fun z cls d => (cRet (cTup (caCons (cC (.str "twice")) (caCons (cXfC T.c_DuplicateName z cls d "name" (cVar 2)) caNil))))) :: []))
theorem ok_new (T : GG K mg) : FnOk P w K mg base (L2.CX P w) 6 T.a_new T.fd_new ["_law_one", "_law_two"] (spD (c_new T)) :=
  okD (k := 5) (m := 1) T.F_new sc_new rfl fun cdv A outer s H E hr tk => (psd_one (psd_try rfl rfl sc_new.nd rfl rfl tk (fun W pn xe tk po => (psd_one (psd_ret (pd_tup (pad_cons pd_str (pad_cons (pd_frM (pdm_mk (M_Book T) (hr.mono (by decide)) T.g_Book tk (pad_cons (pd_v (pv 0)) (pad_cons (pd_v (pv 1)) pad_nil)))) pad_nil))))))
    (.cons ⟨rfl, by decide, .inl T.g_BadName⟩ (fun z oz cls d pn hz hf => (psd_one (psd_ret (pd_tup (pad_cons pd_str (pad_cons (pd_xf T.xf_BadName T.no_BadName_name hz hf (pd_v (pv 2))) pad_nil))))))
      (.cons ⟨rfl, by decide, .inl T.g_DuplicateName⟩ (fun z oz cls d pn hz hf => (psd_one (psd_ret (pd_tup (pad_cons pd_str (pad_cons (pd_xf T.xf_DuplicateName T.no_DuplicateName_name hz hf (pd_v (pv 2))) pad_nil))))))
      .nil))))
theorem F_new (T : GG K mg) : FnI P w K mg base "_law_new" 6 ["_law_one", "_law_two"] (spD (c_new T)) :=
  ⟨T.a_new, T.fd_new, ok_new T, T.m_new, T.F_new.kp, T.F_new.binds fun _ _ _ _ _ _ us hl => match us, hl with | [_, _], _ => rfl⟩
abbrev N_new_right : List Str := ["_law_one", "_law_two", "_law_text", "_law_kind", "_law_told"]
theorem sc_new_right : FnScope N_new_right ["_law_one", "_law_two"] (defScope s_new_right) := ⟨rfl, rfl, rfl, by decide +kernel, rfl, by decide +kernel, by decide +kernel⟩
def c_new_right_1 (T : GG K mg) : CS := (cIf (cNot (cTru (cCall (c_good T) (caCons (cVar 2) caNil))))
    (cRet (cAndV (cOp (rEqD' false) (cVar 3) (cC (.str "bad"))) (cOp (rEqD' false) (cVar 4) (cVar 2)))) cNext)
def c_new_right_2 (T : GG K mg) : CS := (cRet (cAndV (cOp (rEqD' false) (cVar 3) (cC (.str "book"))) (cCall (c_shows T) (caCons (cVar 4) (caCons (cFr (cLim caNil)) (caCons (cFr (cLim (caCons (cC (.str "a")) (caCons (cVar 0) caNil)))) caNil))))))
def c_new_right_3 (T : GG K mg) : CS := (cSeq (cIf (cTst (cOp (rEqD' false) (cVar 0) (cVar 1)))
    (cRet (cAndV (cOp (rEqD' false) (cVar 3) (cC (.str "twice"))) (cOp (rEqD' false) (cVar 4) (cVar 1)))) cNext)
    (c_new_right_2 T))
def c_new_right (T : GG K mg) : CE := cBody 2 3 (cSeq (cAsg (cCall (c_new T) (caCons (cVar 0) (caCons (cVar 1) caNil))) (cgT 2 (cgCons (cgN 3) (cgCons (cgN 4) cgNil))))
    (cSeq (cFor (ciSeq (cFr (cLim (caCons (cVar 0) (caCons (cVar 1) caNil))))) (cgN 2)
    (c_new_right_1 T))
    (c_new_right_3 T)))
theorem ok_new_right (T : GG K mg) : FnOk P w K mg base (L2.CX P w) 7 T.a_new_right T.fd_new_right ["_law_one", "_law_two"] (spD (c_new_right T)) :=
  okD (k := 6) (m := 3) T.F_new_right sc_new_right rfl fun cdv A outer s H E hr tk => (psd_cons (psd_asg (fun _ _ h1 h2 => ps_asg h1 h2) (pd_f (F_new T) (hr.mono (by decide)) tk (pad_cons (pd_v (pv 0)) (pad_cons (pd_v (pv 1)) pad_nil))) (pgd_t rfl (pgd_cons (pgd_n (pg_name (i := 3) sc_new_right.nd rfl (Or.inl rfl))) (pgd_cons (pgd_n (pg_name (i := 4) sc_new_right.nd rfl (Or.inl rfl))) pgd_nil))))
    (psd_cons (psd_for (fun _ _ _ h1 h2 h3 => ps_for (passes_of rfl) rfl h1 h2 h3) (pid_seq (pd_fr (pf_lst (pad_cons (pd_v (pv 0)) (pad_cons (pd_v (pv 1)) pad_nil))))) (pgd_n (pg_name (i := 2) sc_new_right.nd rfl (Or.inl rfl)))
    (psd_one (psd_if (ptd_not (ptd_tru (pd_f (F_good T) (hr.mono (by decide)) tk (pad_cons (pd_v (pv 2)) pad_nil))))
    (psd_one (psd_ret (pd_and (pd_cmp (od_eq hr.units) (pd_v (pv 3)) pd_str (nomark _)) (pd_one (pd_cmp (od_eq hr.units) (pd_v (pv 4)) (pd_v (pv 2)) (nomark _)))))) psd_nil)))
    (psd_cons (psd_if (ptd_cmp (od_eq hr.units) (pd_v (pv 0)) (pd_v (pv 1)) (nomark _))
    (psd_one (psd_ret (pd_and (pd_cmp (od_eq hr.units) (pd_v (pv 3)) pd_str (nomark _)) (pd_one (pd_cmp (od_eq hr.units) (pd_v (pv 4)) (pd_v (pv 1)) (nomark _)))))) psd_nil)
    (psd_one (psd_ret (pd_and (pd_cmp (od_eq hr.units) (pd_v (pv 3)) pd_str (nomark _)) (pd_one (pd_f (F_shows T) (hr.mono (by decide)) tk (pad_cons (pd_v (pv 4)) (pad_cons (pd_fr (pf_lst pad_nil)) (pad_cons (pd_fr (pf_lst (pad_cons pd_str (pad_cons (pd_v (pv 0)) pad_nil)))) pad_nil)))))))))))
theorem F_new_right (T : GG K mg) : FnI P w K mg base "_law_new_right" 7 ["_law_one", "_law_two"] (spD (c_new_right T)) :=
  ⟨T.a_new_right, T.fd_new_right, ok_new_right T, T.m_new_right, T.F_new_right.kp, T.F_new_right.binds fun _ _ _ _ _ _ us hl => match us, hl with | [_, _], _ => rfl⟩
end
end Xl

local macro_rules | `(tactic| walk_at "u") => `(tactic| first | unfold Xl.c_word_1 | unfold Xl.c_good_1 | unfold Xl.c_store_2 | unfold Xl.c_drop_2 | unfold Xl.c_due_store_2 | unfold Xl.c_due_store_3 | unfold Xl.c_stored_1 | unfold Xl.c_missing_2 | unfold Xl.c_shows_3 | unfold Xl.c_shows_4 | unfold Xl.c_shows_5 | unfold Xl.c_new_right_2 | unfold Xl.c_new_right_3)

namespace Xl
open PySem PySem.Spec PyProof.Rows L2
/-- behind `_law_state = _law_start(_law_script)` -/
theorem law_er {F : Fp} {H : Hp} {st a : Addr} {m : Nat} (s : StAt H F st 0) : ER (fun _ => False) F H (some (V.ref a) :: some (V.ref st) :: List.replicate m none) (.emp :: .st st 0 :: List.replicate m .emp) := by
  refine ⟨fun i b => i = 1 ∧ F b, by simp, fun b => ⟨fun z => ⟨1, rfl, z⟩, fun ⟨_, _, z⟩ => z⟩, fun i j b z1 z2 => z1.1.trans z2.1.symm, fun i => ?_, fun b z => z.elim, fun b z => z.elim⟩
  match i with
  | 0 => exact fun b z => nomatch z.1
  | 1 =>
    refine ⟨rfl, ?_⟩
    have e : (fun b => (1 : Nat) = 1 ∧ F b) = F := funext fun b => propext ⟨fun z => z.2, fun z => ⟨rfl, z⟩⟩
    show StAt H (fun b => (1 : Nat) = 1 ∧ F b) st 0
    rw [e]; exact s
  | i + 2 =>
    have e : (Sl.emp :: Sl.st st 0 :: List.replicate m Sl.emp)[i + 2]?.getD Sl.emp = Sl.emp := by
      simp only [List.getElem?_cons_succ, List.getElem?_replicate]
      split <;> rfl
    rw [e]
    exact fun b z => (by have := z.1; omega)
/-- the ends of a law: it returns True, nothing else -/
def lawC : CEnds := ⟨fun _ => False, fun d _ => d = .bl true, fun _ => False, fun _ => False, FX⟩
theorem law_in {F : Fp} {H : Hp} {st a : Addr} {m : Nat} {t : CS} {N : Ends} (s : StAt H F st 0) (h : t (.emp :: .st st 0 :: List.replicate m .emp) lawC) (k : ∀ H', N.rt (.bl true) H') : liftS W0 t N (some (V.ref a) :: some (V.ref st) :: List.replicate m none) H :=
  ⟨_, F, _, lawC, law_er s, h, ⟨fun _ _ _ _ z => z.elim, fun d _ v _ H' _ z i1 _ _ => by cases (show d = .bl true from z); cases i1; exact k H', fun _ _ _ _ z => z.elim, fun _ _ _ _ z => z.elim, fun _ _ _ _ _ _ _ z => z.elim⟩⟩
end Xl


namespace Xl
open PySem PySem.Spec PyProof.Rows L2
set_option pp.maxSteps 600
section
variable {P : Program} {w : World} {K : PySem.W.Frag} {mg : Str → Option Value} {base : Heap}
abbrev lawK : Nat := 8
abbrev N_law : List Str := ["_law_script", "_law_state", "_law_words", "_law_one", "_law_two", "_law_book", "_law_entries", "_law_turn", "_law_key", "_law_ends", "_law_due", "_law_item"]
theorem sc_law : FnScope N_law ["_law_script"] (defScope s_law) := ⟨rfl, rfl, rfl, by decide +kernel, rfl, by decide +kernel, by decide +kernel⟩
def c_law_1 (T : GG K mg) : CS := (cSeq (cSet 6 (cFr (cLc (ciSeq (cVar 6)) (cgN 11) (cTst (cOp (rEqD' true) (cOp rIx (cVar 11) (cC (.int 0))) (cVar 8))) (cVar 11) [11])))
    (cIf (cAnd (cTru (cCall (c_good T) (caCons (cVar 8) caNil))) (cTst (cOp (rEqD' true) (cCallM (c_drop T) (camR 5 (camS (cVar 8) camNil))) (cTup (caCons (cC (.str "unknown")) (caCons (cVar 8) caNil))))))
    (cRet (cC (.bl false))) cNext))
def c_law_2 (T : GG K mg) : CS := (cSeq (cIf (cTst (cOp (rEqD' true) (cCallM (c_drop T) (camR 5 (camS (cVar 8) camNil))) (cVar 10)))
    (cRet (cC (.bl false))) cNext)
    (c_law_1 T))
def c_law_3 (T : GG K mg) : CS := (cIf (cTst (cOp (rIsN false) (cVar 10) (cC .non)))
    (cSet 6 (cCall (c_stored T) (caCons (cVar 6) (caCons (cVar 8) (caCons (cVar 9) caNil))))) cNext)
def c_law_4 (T : GG K mg) : CS := (cIf (cNot (cTru (cLendG 5 (cCall (c_shows T) (caCons (cVar 5) (caCons (cVar 6) (caCons (cVar 2) caNil)))))))
    (cRet (cC (.bl false))) cNext)
def c_law_5 (T : GG K mg) : CS := (cSeq (cSet 8 (cCallS 1 (c_word T) (caCons (cVar 2) caNil)))
    (cSeq (cSet 9 (cTup (caCons (cCallS 1 (c_word T) (caCons (cVar 2) caNil)) (caCons (cCallS 1 (c_word T) (caCons (cVar 2) caNil)) caNil))))
    (cSeq (cIf (cTst (cOp (rEqD' false) (cCallS 1 (c_draw T) (caCons (cC (.int 6)) caNil)) (cC (.int 0))))
    (cSeq (cSet 10 (cC .non))
    (cSeq (cIf (cTst (cOp (rInD' true) (cVar 8) (cFr (cLc (ciSeq (cVar 6)) (cgN 11) cYes (cOp rIx (cVar 11) (cC (.int 0))) [11]))))
    (cSet 10 (cTup (caCons (cC (.str "unknown")) (caCons (cVar 8) caNil)))) cNext)
    (c_law_2 T))) (cSeq (cSet 10 (cCall (c_due_store T) (caCons (cVar 6) (caCons (cVar 8) (caCons (cVar 9) caNil)))))
    (cSeq (cIf (cTst (cOp (rEqD' true) (cCallM (c_store T) (camR 5 (camS (cVar 8) (camS (cVar 9) camNil)))) (cVar 10)))
    (cRet (cC (.bl false))) cNext)
    (c_law_3 T))))
    (c_law_4 T))))
def c_law_6 (T : GG K mg) : CS := (cRet (cC (.bl true)))
def c_law_7 (T : GG K mg) : CS := (cSeq (cSetMt 5 (cMkMK T.c_Book 2 [1, 0] (c_Book___init__ T) (caCons (cC (.str "t")) (caCons (cC (.str "s")) caNil))))
    (cSeq (cSet 6 (cFr (cLim caNil)))
    (cSeq (cFor (ciRng1 (caCons (cOp rAdd (cC (.int 6)) (cCallS 1 (c_draw T) (caCons (cC (.int 20)) caNil))) caNil)) (cgN 7)
    (c_law_5 T))
    (c_law_6 T))))
def c_law (T : GG K mg) : CS := (cSeq (cSet 2 (cFr (cLim (caCons (cC (.str "a")) (caCons (cC (.str "b")) (caCons (cC (.str "c1")) (caCons (cC (.str "link")) (caCons (cC (.str "z9")) (caCons (cC (.str "m")) (caCons (cC (.str "ab")) (caCons (cC (.str "a2")) (caCons (cC (.str "long1")) (caCons (cC (.str "y")) (caCons (cC (.str "q")) (caCons (cC (.str "w")) caNil)))))))))))))))
    (cSeq (cSet 3 (cCallS 1 (c_word T) (caCons (cVar 2) caNil)))
    (cSeq (cSet 4 (cOp rIx (cFr (cLim (caCons (cCallS 1 (c_word T) (caCons (cVar 2) caNil)) (caCons (cVar 3) caNil)))) (cCB rInt (caCons (cOp (rEqD' false) (cCallS 1 (c_draw T) (caCons (cC (.int 5)) caNil)) (cC (.int 0))) caNil))))
    (cSeq (cIf (cNot (cTru (cCall (c_new_right T) (caCons (cVar 3) (caCons (cVar 4) caNil)))))
    (cRet (cC (.bl false))) cNext)
    (c_law_7 T)))))
theorem ok_law_c (T : GG K mg) (hd : ∀ st, c_law T (.emp :: .st st 0 :: List.replicate 10 .emp) lawC) {f : Addr} {fd : FuncData} (F : Fun K "law" "law" s_law f fd) : FnOk P w K mg base (L2.CX P w) 8 f fd ["_law_script"] (spLaw K) := by
  refine F.okX sc_law (fun vs H Q E h => ?_) (fun cdv A outer s H vs Q E hr h => ?_)
  · obtain ⟨a, ns, rfl, _⟩ := h
    rfl
  · obtain ⟨a, ns, rfl, hS, hl, k⟩ := h
    refine ⟨_, pss_cons (ps_set (i := 1) sc_law.nd rfl (Or.inl rfl) (pe_f (F_start T) (hr.mono (by decide)) passL (pa_cons (pv 0) pa_nil)))
      (psd_cons (psd_set (fun _ h => ps_set (i := 2) sc_law.nd rfl (Or.inl rfl) h) (pd_fr (pf_lst (pad_cons pd_str (pad_cons pd_str (pad_cons pd_str (pad_cons pd_str (pad_cons pd_str (pad_cons pd_str (pad_cons pd_str (pad_cons pd_str (pad_cons pd_str (pad_cons pd_str (pad_cons pd_str (pad_cons pd_str pad_nil)))))))))))))))
    (psd_cons (psd_set (fun _ h => ps_set (i := 3) sc_law.nd rfl (Or.inl rfl) h) (pd_fS (F_word T) (hr.mono (by decide)) takes0 (pv 1) (pad_cons (pd_v (pv 2)) pad_nil)))
    (psd_cons (psd_set (fun _ h => ps_set (i := 4) sc_law.nd rfl (Or.inl rfl) h) (pd_ix (xd_ix (hu_of hr)) (pd_fr (pf_lst (pad_cons (pd_fS (F_word T) (hr.mono (by decide)) takes0 (pv 1) (pad_cons (pd_v (pv 2)) pad_nil)) (pad_cons (pd_v (pv 3)) pad_nil)))) (PE.imp (pe_callTy kd_int rfl T.z_int (by decide +kernel) (pad_cons (pd_cmp (od_eq hr.units) (pd_fS (F_drawD T) (hr.mono (by decide)) takes0 (pv 1) (pad_cons pd_int pad_nil)) pd_int (nomark _)) pad_nil)) fun _ _ _ h => lift_cb h) (fun _ _ => rfl)))
    (psd_cons (psd_if (ptd_not (ptd_tru (pd_f (F_new_right T) (hr.mono (by decide)) takes0 (pad_cons (pd_v (pv 3)) (pad_cons (pd_v (pv 4)) pad_nil)))))
    (psd_one (psd_ret pd_bl)) psd_nil)
    (psd_cons (psd_setMt (fun _ h => ps_set (i := 5) sc_law.nd rfl (Or.inl rfl) h) (pdm_mkK (ks := ["end", "start"]) (ix := [1, 0]) ⟨T.a_Book___init__, T.fd_Book___init__, _, T.mk_Book, ok_Book___init__ T, (by obtain ⟨_, _, _, _, _, _, _, _, _, e, _, _⟩ := T.F_Book___init__.ex; rw [e]; exact fun s u ws hl => match ws, hl with | [_, _], _ => .of_eq rfl)⟩ (hr.mono (by decide)) T.g_Book takes0 (pkd_cons pd_str (pkd_cons pd_str pkd_nil))))
    (psd_cons (psd_set (fun _ h => ps_set (i := 6) sc_law.nd rfl (Or.inl rfl) h) (pd_fr (pf_lst pad_nil)))
    (psd_cons (psd_for (fun _ _ _ h1 h2 h3 => ps_for (passes_of rfl) rfl h1 h2 h3) (pid_rng1 rfl T.z_range (pad_cons (pd_op od_add pd_int (pd_fS (F_drawD T) (hr.mono (by decide)) takes0 (pv 1) (pad_cons pd_int pad_nil))) pad_nil)) (pgd_n (pg_name (i := 7) sc_law.nd rfl (Or.inl rfl)))
    (psd_cons (psd_set (fun _ h => ps_set (i := 8) sc_law.nd rfl (Or.inr rfl) h) (pd_fS (F_word T) (hr.mono (by decide)) takes0 (pv 1) (pad_cons (pd_v (pv 2)) pad_nil)))
    (psd_cons (psd_set (fun _ h => ps_set (i := 9) sc_law.nd rfl (Or.inl rfl) h) (pd_tup (pad_cons (pd_fS (F_word T) (hr.mono (by decide)) takes0 (pv 1) (pad_cons (pd_v (pv 2)) pad_nil)) (pad_cons (pd_fS (F_word T) (hr.mono (by decide)) takes0 (pv 1) (pad_cons (pd_v (pv 2)) pad_nil)) pad_nil))))
    (psd_cons (psd_if (ptd_cmp (od_eq hr.units) (pd_fS (F_drawD T) (hr.mono (by decide)) takes0 (pv 1) (pad_cons pd_int pad_nil)) pd_int (nomark _))
    (psd_cons (psd_set (fun _ h => ps_set (i := 10) sc_law.nd rfl (Or.inl rfl) h) pd_non)
    (psd_cons (psd_if (ptd_cmp (od_nin (u65 hr)) (pd_v (pv 8)) (pd_fr (pf_lc (own := [("_law_item", 11)]) rfl sc_law.nd (pid_seq (pd_v (pv 6))) (blkOk_by (N := N_law) (sc := defScope s_law) (by decide +kernel)) (by decide) (fun _ _ _ _ _ => (pgv_n (pg_name (i := 11) sc_law.nd rfl (Or.inl rfl)))) (fun _ _ _ _ _ => ptsd_nil) (fun _ _ _ _ _ => (pd_ix (xd_ix (hu_of hr)) (pd_v (pv 11)) pd_int (fun _ _ => rfl))))) (by rfl))
    (psd_one (psd_set (fun _ h => ps_set (i := 10) sc_law.nd rfl (Or.inl rfl) h) (pd_tup (pad_cons pd_str (pad_cons (pd_v (pv 8)) pad_nil))))) psd_nil)
    (psd_cons (psd_if (ptd_cmp (od_ne hr.units) (pd_fM (F_drop T) (hr.mono (by decide)) takes0 (pam_r (pv 5) (pam_s (pd_v (pv 8)) pam_nil))) (pd_v (pv 10)) (nomark _))
    (psd_one (psd_ret pd_bl)) psd_nil)
    (psd_cons (psd_lcS (own := [("_law_item", 11)]) (elt := .Constant .none 0 ⟨0, 0, 0, 0⟩) (tg := .Constant .none 0 ⟨0, 0, 0, 0⟩) (iter := .Constant .none 0 ⟨0, 0, 0, 0⟩) (by decide) (ps_setLc (i := 6) (own := [("_law_item", 11)]) rfl sc_law.nd rfl rfl (sw_true rfl rfl rfl (by decide +kernel)) (pid_seq (pd_v (pv 6))) (blkOk_by (N := N_law) (sc := defScope s_law) (by decide +kernel)) (fun _ _ _ _ _ => (pgv_n (pg_name (i := 11) sc_law.nd rfl (Or.inl rfl)))) (fun _ _ _ _ _ => (ptsd_one (ptd_cmp (od_ne hr.units) (pd_ix (xd_ix (hu_of hr)) (pd_v (pv 11)) pd_int (fun _ _ => rfl)) (pd_v (pv 8)) (nomark _)))) (fun _ _ _ _ _ => (pd_v (pv 11)))))
    (psd_one (psd_if (PW.pt (pwd_and (ptd_tru (pd_f (F_good T) (hr.mono (by decide)) takes0 (pad_cons (pd_v (pv 8)) pad_nil))) (pwd_and1 (ptd_cmp (od_ne hr.units) (pd_fM (F_drop T) (hr.mono (by decide)) takes0 (pam_r (pv 5) (pam_s (pd_v (pv 8)) pam_nil))) (pd_tup (pad_cons pd_str (pad_cons (pd_v (pv 8)) pad_nil))) (nomark _)))))
    (psd_one (psd_ret pd_bl)) psd_nil)))))) (psd_cons (psd_set (fun _ h => ps_set (i := 10) sc_law.nd rfl (Or.inl rfl) h) (pd_f (F_due_store T) (hr.mono (by decide)) takes0 (pad_cons (pd_v (pv 6)) (pad_cons (pd_v (pv 8)) (pad_cons (pd_v (pv 9)) pad_nil)))))
    (psd_cons (psd_if (ptd_cmp (od_ne hr.units) (pd_fM (F_store T) (hr.mono (by decide)) takes0 (pam_r (pv 5) (pam_s (pd_v (pv 8)) (pam_s (pd_v (pv 9)) pam_nil)))) (pd_v (pv 10)) (nomark _))
    (psd_one (psd_ret pd_bl)) psd_nil)
    (psd_one (psd_if (ptd_cmp od_is (pd_v (pv 10)) pd_non (nomark _))
    (psd_one (psd_set (fun _ h => ps_set (i := 6) sc_law.nd rfl (Or.inl rfl) h) (pd_f (F_stored T) (hr.mono (by decide)) takes0 (pad_cons (pd_v (pv 6)) (pad_cons (pd_v (pv 8)) (pad_cons (pd_v (pv 9)) pad_nil)))))) psd_nil)))))
    (psd_one (psd_if (ptd_not (ptd_tru (pd_lendG (j := 5) (pd_f (F_shows T) (hr.mono (by decide)) takes0 (pad_cons (pd_v (pv 5)) (pad_cons (pd_v (pv 6)) (pad_cons (pd_v (pv 2)) pad_nil)))))))
    (psd_one (psd_ret pd_bl)) psd_nil))))))
    (psd_one (psd_ret pd_bl))))))))), ?_⟩
    refine ⟨_, rfl, a, ns, rfl, hS, hl, fun st F0 H0 s0 _ _ => ?_⟩
    exact law_in (m := 10) s0 (hd st) fun H' => k H'
end
end Xl

local macro_rules | `(tactic| walk_at "u") => `(tactic| first | unfold Xl.c_law_1 | unfold Xl.c_law_2 | unfold Xl.c_law_3 | unfold Xl.c_law_4 | unfold Xl.c_law_6 | unfold Xl.c_law_7)

namespace Xl
open PySem PySem.Spec PyProof.Rows L2
/-- a sign of a name -/
def vlet (c : Nat) : Bool := decide (c ∈ (Str.ofString "abcdefghijklmnopqrstuvwxyz").cps.toList)
def vdig (c : Nat) : Bool := decide (c ∈ (Str.ofString "0123456789").cps.toList)
def vch (c : Nat) : Bool := vlet c || vdig c
def vname (z : Str) : Bool := match z.cps.toList with
  | [] => false
  | c :: cs => decide (cs.length < 6) && vlet c && (c :: cs).all vch
section
variable {K : PySem.W.Frag} {mg : Str → Option Value}
theorem d_valid_loop (T : GG K mg) {C : CEnds} {a : Sl} : ∀ (cs : List Nat) (b : Sl), (cs.all vch = true → ∀ b, C.nx [a, b]) → (cs.all vch = false → ∀ δ, C.rt (.bl false) δ) → cForL (cgN 1) (c_valid_name_1 T) C (cs.map fun c => .str ⟨#[c]⟩) [a, b]
  | [], b, h1, _ => h1 rfl b
  | c :: cs, b, h1, h2 => by
    refine ⟨Nat.one_lt_two, ?_⟩
    show c_valid_name_1 T [a, .sh (.str ⟨#[c]⟩)] _
    unfold c_valid_name_1
    simp only [cIf, cAnd, cTst, cOp, cVar, cC, cRet, cNext, rInD', List.getElem?_cons_zero, List.getElem?_cons_succ]
    refine ⟨c, rfl, ?_⟩
    rw [List.all_cons] at h1 h2
    have e1 : decide (c ∈ (Str.ofString "abcdefghijklmnopqrstuvwxyz").cps.toList) = vlet c := rfl
    have e2 : decide (c ∈ (Str.ofString "0123456789").cps.toList) = vdig c := rfl
    rw [e1]
    unfold vch at h1 h2
    cases q1 : vlet c with
    | true =>
      rw [q1] at h1 h2
      simp only [Bool.true_or, Bool.true_and] at h1 h2
      simp only [Bool.true_bne, Bool.not_true, Bool.false_eq_true, if_false]
      exact d_valid_loop T cs _ h1 h2
    | false =>
      rw [q1] at h1 h2
      simp only [Bool.true_bne, Bool.not_false, if_true]
      refine ⟨c, rfl, ?_⟩
      rw [e2]
      cases q2 : vdig c with
      | true =>
        rw [q2] at h1 h2
        simp only [Bool.or_true, Bool.true_and] at h1 h2
        simp only [Bool.true_bne, Bool.not_true, Bool.false_eq_true, if_false]
        exact d_valid_loop T cs _ h1 h2
      | false =>
        rw [q2] at h2
        simp only [Bool.true_bne, Bool.not_false, if_true]
        exact h2 rfl _
theorem d_valid_name (T : GG K mg) {z : Str} (hz : z.length ≤ sizeLine) {R : KV} {RX : KX} (h : ∀ δ, R (.bl (vname z)) δ) : c_valid_name T [.sh (.str z)] R RX := by
  unfold c_valid_name cBody
  simp only [cSeq, cIf, cOr, cTst, cNot, cChain, cOp, cC, cCB, cVar, caCons, caNil, rLen, rOrd, cRet, cNext, List.cons_append, List.nil_append, List.replicate, List.getElem?_cons_zero, List.getElem?_cons_succ]
  refine ⟨rfl, hz, ?_⟩
  have lz : z.length = z.cps.toList.length := (Array.length_toList (xs := z.cps)).symm
  unfold vname at h
  cases e : z.cps.toList with
  | nil =>
    rw [e] at h
    have k1 : decide ((1 : Int) ≤ ((([] : List Nat).length : Nat) : Int)) = false := rfl
    simp only [lz, e, k1, Bool.not_false, if_true]
    exact h _
  | cons c cs =>
    rw [e] at h
    replace h : ∀ δ, R (.bl (decide (cs.length < 6) && vlet c && (c :: cs).all vch)) δ := h
    have ll : (c :: cs).length = cs.length + 1 := rfl
    have k1 : decide ((1 : Int) ≤ (((c :: cs).length : Nat) : Int)) = true := decide_eq_true (by omega)
    by_cases hl : cs.length < 6
    · have k2 : decide ((((c :: cs).length : Nat) : Int) ≤ 6) = true := decide_eq_true (by omega)
      rw [decide_eq_true hl] at h
      simp only [lz, e, k1, k2, Bool.not_true, Bool.false_eq_true, if_false]
      refine ⟨c, hz, by rw [e]; simp [atI, ixN], c, rfl, ?_⟩
      have e1 : decide (c ∈ (Str.ofString "abcdefghijklmnopqrstuvwxyz").cps.toList) = vlet c := rfl
      rw [e1]
      cases q : vlet c with
      | false =>
        rw [q] at h
        exact h _
      | true =>
        rw [q] at h
        simp only [Bool.true_and] at h
        simp only [Bool.true_bne, Bool.not_true, Bool.false_eq_true, if_false]
        unfold c_valid_name_3 c_valid_name_2
        simp only [cSeq, cFor, ciSeq, cVar, List.getElem?_cons_zero, itD, e]
        refine d_valid_loop T (c :: cs) _ (fun q => fun b => ?_) fun q δ => ?_
        · rw [q] at h; exact h _
        · rw [q] at h; exact h _
    · have k2 : decide ((((c :: cs).length : Nat) : Int) ≤ 6) = false := decide_eq_false (by omega)
      rw [decide_eq_false hl] at h
      simp only [lz, e, k1, k2, Bool.not_false, if_true]
      exact h _
end
end Xl


namespace Xl
open PySem PySem.Spec PyProof.Rows L2
/-! ### books at the clean level -/
abbrev Ent := Str × Str × Str
def entD (r : Ent) : D := .tup [.str r.1, .tup [.str r.2.1, .str r.2.2]]
def entT (es : List Ent) : D := .tup (es.map entD)
def bkF (e es : D) (p : Addr) (ps : List D) : List (Str × Mt) := [("ends", .d e), ("entries", .d es), ("past", mL p ps)]
def bkG (e es : D) (ps : List D) : List (Str × D) := [("ends", e), ("entries", es), ("past", .lst ps)]
section
variable {e es x : D} {p q a C : Addr} {ps xs : List D}
theorem bkF_len : (bkF e es p ps).length = 3 := rfl
theorem bkF_es : (bkF e es p ps).lookup ("entries" : Str) = some (.d es) := by unfold bkF; rfl
theorem bkF_ps : (bkF e es p ps).lookup ("past" : Str) = some (.lst p (ps.map .d)) := by unfold bkF; rfl
theorem bkF_drop : (bkF e es p ps).lookup ("drop" : Str) = none := by unfold bkF; rfl
theorem bkF_put : putFM "entries" (.d x) (bkF e es p ps) = bkF e x p ps := by unfold bkF; rfl
theorem bkF_app : putFM "past" (.lst q (xs.map .d)) (bkF e es p ps) = bkF e es q xs := by unfold bkF; rfl
theorem toD_bk : (Mt.ins a C (bkF e es p ps)).toD = .ins C (bkG e es ps) := by
  unfold bkF bkG
  show D.ins C [_, _, ("past", .lst (Mt.toDL (ps.map .d)))] = _
  rw [toDL_d]
  rfl
theorem bkG_es : (bkG e es ps).lookup ("entries" : Str) = some es := by unfold bkG; rfl
end
theorem rLen_ent {es : List Ent} {R : D → Prop} : rLen [entT es] R = R (.int es.length) := by
  show R (.int (es.map entD).length) = _
  rw [List.length_map]
theorem itD_ent {es : List Ent} : itD (entT es) = some (es.map entD) := rfl
theorem rAdd_ent {es : List Ent} {r : Ent} {R : D → Prop} (h : es.length ≤ 1000) (k : R (entT (es ++ [r]))) : rAdd (entT es) (.tup [.tup [.str r.1, .tup [.str r.2.1, .str r.2.2]]]) R := by
  refine ⟨?_, ?_⟩
  · rw [List.length_map, sizeLine_eq]
    show es.length + 1 ≤ _
    omega
  · unfold entT at k
    rw [List.map_append] at k
    exact k
theorem cAppFI_f {C : Addr} {i : Nat} {f g : Str} {x0 : Sl} {δ : DEnv} {K : CEnds} (h : insAt C ((x0 :: δ)[i]?) fun a fs0 => lstAt (fs0.lookup f) fun p _ => cFldI C g i (x0 :: δ) (fun d δ1 => insAt C (δ1[i]?) fun a' fs => a' = a ∧ lstAt (fs.lookup f) fun p' ds => p' = p ∧ ds.length < sizeLine ∧ K.nx (δ1.set i (.mt (.ins a' C (putFM f (mL p' (ds ++ [d])) fs))))) K.ex) : cAppFI C i f (cFldI C g i) (x0 :: δ) K :=
  cAppFI_i h fun hm ⟨a, fs, x, e, l, h⟩ => ⟨a, fs, x, e, l, hm _ _ h⟩
theorem lc_filtR {α : Type} {g : CG} {tt : CT} {te : CE} {vs : List Nat} {k : List D → DEnv → Prop} {δ : DEnv} (f : α → D) (p : α → Bool) (xs : List α) (hl : xs.length ≤ 16777216)
    (step : ∀ x ∈ xs, ∀ (Q : KV) (N : DEnv → Prop), (p x = true → ∀ δ', wipeD δ' vs = δ → Q (f x) δ') → (p x = false → ∀ δ', wipeD δ' vs = δ → N δ') → g (f x) δ fun δ1 => tt δ1 (fun b δ2 => if b = true then te δ2 Q FX else N δ2) FX)
    (fin : k ((xs.filter p).map f) δ) : cLcL g tt te vs k (xs.map f) δ [] := by
  refine lc_inv (fun i δ' acc => δ' = δ ∧ acc = ((xs.take i).filter p).map f) _ _ _ ⟨rfl, rfl⟩ ?_ ?_
  · rintro i d δ' acc ed ⟨rfl, rfl⟩ N hN
    rw [List.getElem?_map] at ed
    obtain ⟨x, ex, rfl⟩ := Option.map_eq_some_iff.mp ed
    have hi := (List.getElem?_eq_some_iff.mp ex).1
    have tk : xs.take (i + 1) = xs.take i ++ [x] := by rw [List.take_add_one, ex]; rfl
    refine step x (List.mem_of_getElem? ex) (fun y δ3 => _ ∧ N (wipeD δ3 vs) _) (fun δ2 => N (wipeD δ2 vs) _) (fun q δ2 e2 => ⟨?_, hN _ _ ⟨e2, ?_⟩⟩) fun q δ2 e2 => hN _ _ ⟨e2, ?_⟩
    · rw [List.length_map, sizeLine_eq]
      have := List.length_filter_le p (xs.take i)
      rw [List.length_take] at this
      omega
    · rw [tk, List.filter_append, List.map_append, List.filter_cons_of_pos q]
      rfl
    · rw [tk, List.filter_append, List.filter_cons_of_neg (by rw [q]; exact Bool.false_ne_true)]
      simp
  · rintro δ' acc ⟨rfl, rfl⟩
    rw [List.length_map, List.take_length]
    exact fin
end Xl


local macro_rules | `(tactic| walk_at "b1") => `(tactic| simp only [Xl.bkF_len, Xl.bkF_es, Xl.bkF_ps, Xl.bkF_drop, Xl.bkF_put, Xl.bkF_app, Xl.toD_bk, Xl.bkG_es, Xl.rLen_ent, Xl.itD_ent])
local macro_rules | `(tactic| walk_at "dk") => `(tactic| repeat (first | walk_at "d1" | walk_at "m1" | walk_at "i1" | walk_at "b1"))


namespace Xl
open PySem PySem.Spec PyProof.Rows L2
section
variable {K : PySem.W.Frag} {mg : Str → Option Value}
theorem d_check (T : GG K mg) {z : Str} (hz : z.length ≤ sizeLine) {R : KV} {RX : KX} (hy : vname z = true → ∀ δ, R .non δ) (hn : vname z = false → ∀ δ, RX T.c_BadName [("name", .str z)] δ) : c_check_name T [.sh (.str z)] R RX := by
  unfold c_check_name
  walk_at "d"
  refine d_valid_name T hz fun _ => ?_
  walk_at "d"
  cases q : vname z with
  | true =>
    walk_at "d"
    exact hy q _
  | false =>
    walk_at "d"
    exact hn q _
theorem map_str (es : List Ent) : es.map (fun r => D.str r.1) = (es.map (·.1)).map .str := by rw [List.map_map]; rfl
theorem d_order (T : GG K mg) {e : D} {es : List Ent} {ps : List D} (hE : es.length ≤ 1000) {R : KV} {RX : KX} (h : ∀ δ, R (.tup ((es.map (·.1)).map .str)) δ) : c_Book_order T [.sh (.ins T.c_Book (bkG e (entT es) ps))] R RX := by
  unfold c_Book_order
  walk_at "d"
  rw [bkG_es]
  unfold entT
  walk_at "d"
  refine lc_mapR entD (fun r => .str r.1) es (by omega) (fun r _ Q hQ => ?_) ?_
  · obtain ⟨n, t, hd⟩ := r
    unfold entD
    walk_at "d"
    exact hQ _ rfl
  · walk_at "d"
    rw [map_str]
    exact h _
theorem d_len (T : GG K mg) {e : D} {es : List Ent} {ps : List D} (hE : es.length ≤ 1000) {R : KV} {RX : KX} (h : ∀ δ, R (.int es.length) δ) : c_Book___len__ T [.sh (.ins T.c_Book (bkG e (entT es) ps))] R RX := by
  unfold c_Book___len__
  walk_at "d"
  rw [bkG_es]
  unfold entT
  walk_at "d"
  rw [List.length_map]
  exact h _
theorem flat_strs (xs : List Str) : (xs.map D.str).all flatD = true := by
  rw [List.all_map]
  exact List.all_eq_true.mpr fun _ _ => rfl
theorem d_has (T : GG K mg) {e : D} {es : List Ent} {ps : List D} {k : Str} (hE : es.length ≤ 1000) {R : KV} {RX : KX} (h : ∀ δ, R (.bl (decide (k ∈ es.map (·.1)))) δ) : c_Book___contains__ T [.sh (.ins T.c_Book (bkG e (entT es) ps)), .sh (.str k)] R RX := by
  unfold c_Book___contains__
  walk_at "d"
  refine d_order T hE fun _ => ?_
  walk_at "d"
  exact ⟨flat_strs _, h _⟩
theorem get_body (T : GG K mg) {a : Sl} {k n : Str} {d : D} {N : CEnds} (h1 : n = k → ∀ δ, N.rt d δ) (h2 : n ≠ k → N.nx [a, .sh (.str k), .sh (.str n), .sh d]) : c_Book___getitem___1 T [a, .sh (.str k), .sh (.str n), .sh d] N := by
  unfold c_Book___getitem___1
  walk_at "d"
  exact ite2 (fun e => h1 e _) fun e => h2 e
theorem get_loop (T : GG K mg) {a : Sl} {k : Str} {N : CEnds} : ∀ (es : List Ent) (x2 x3 : Sl), (match es.find? (fun r => decide (r.1 = k)) with
  | some r => ∀ δ, N.rt (.tup [.str r.2.1, .str r.2.2]) δ
  | none => ∀ y2 y3, N.nx [a, .sh (.str k), y2, y3]) → cForL (cgT 2 (cgCons (cgN 2) (cgCons (cgN 3) cgNil))) (c_Book___getitem___1 T) N (es.map entD) [a, .sh (.str k), x2, x3]
  | [], x2, x3, h => h x2 x3
  | (n, t, hd) :: es, x2, x3, h => by
    obtain ⟨E, eE⟩ : ∃ E, E = es.map entD := ⟨_, rfl⟩
    rw [List.map_cons, ← eE]
    unfold entD
    walk_at "d"
    rw [List.find?_cons] at h
    refine get_body T (fun e => ?_) fun e => ?_
    · rw [show decide ((n, t, hd).1 = k) = true from decide_eq_true e] at h
      exact h
    · rw [show decide ((n, t, hd).1 = k) = false from decide_eq_false e] at h
      rw [eE]
      exact get_loop T es _ _ h
theorem d_get (T : GG K mg) {e : D} {es : List Ent} {ps : List D} {k : Str} (hE : es.length ≤ 1000) {R : KV} {RX : KX} (h : match es.find? (fun r => decide (r.1 = k)) with | some r => ∀ δ, R (.tup [.str r.2.1, .str r.2.2]) δ | none => ∀ δ, RX T.c_UnknownName [("name", .str k)] δ) : c_Book___getitem__ T [.sh (.ins T.c_Book (bkG e (entT es) ps)), .sh (.str k)] R RX := by
  unfold c_Book___getitem__
  walk_at "d"
  rw [bkG_es]
  unfold entT
  walk_at "d"
  refine get_loop T es _ _ ?_
  cases q : es.find? (fun r => decide (r.1 = k)) with
  | some r =>
    rw [q] at h
    exact fun δ => h _
  | none =>
    rw [q] at h
    intro y2 y3
    unfold c_Book___getitem___2
    walk_at "d"
    exact h _
/-- what the book's change answers -/
def putE (es : List Ent) (k t h : Str) : List Ent := if k ∈ es.map (·.1) then es.map (fun r => (r.1, if r.1 = k then (t, h) else r.2)) else es ++ [(k, t, h)]
def badOf (xs : List Str) : Option Str := xs.find? fun z => !vname z
theorem badOf_c {z : Str} {xs : List Str} : badOf (z :: xs) = if vname z = true then badOf xs else some z := by
  unfold badOf
  rw [List.find?_cons]
  cases vname z <;> rfl
theorem chk1 (T : GG K mg) {a x1 x2 x4 x5 x6 x7 : Sl} {z : Str} (hz : z.length ≤ sizeLine) {N : CEnds} (h1 : vname z = true → N.nx [a, x1, x2, .sh (.str z), x4, x5, x6, x7]) (h2 : vname z = false → N.ex T.c_BadName [("name", .str z)] [a, x1, x2, .sh (.str z), x4, x5, x6, x7]) : c_Book___setitem___1 T [a, x1, x2, .sh (.str z), x4, x5, x6, x7] N := by
  unfold c_Book___setitem___1
  walk_at "d"
  exact d_check T hz (fun q _ => h1 q) fun q _ => h2 q
theorem d_setitem (T : GG K mg) {a p : Addr} {e : D} {es : List Ent} {ps : List D} {k t hd : Str} (hE : es.length ≤ 1000) (hP : ps.length ≤ 1000) (hk : k.length ≤ sizeLine) (ht : t.length ≤ sizeLine) (hh : hd.length ≤ sizeLine) {R : KV} {RX : KX}
    (h : match badOf [k, t, hd] with
      | some z => ∀ x1 x2 r, RX T.c_BadName [("name", .str z)] (.mt (.ins a T.c_Book (bkF e (entT es) p ps)) :: x1 :: x2 :: r)
      | none => if k ∉ es.map (·.1) ∧ es.length = 10 then ∀ x1 x2 r, RX T.c_BadCount [("count", .int 11)] (.mt (.ins a T.c_Book (bkF e (entT es) p ps)) :: x1 :: x2 :: r) else ∀ x1 x2 r, R .non (.mt (.ins a T.c_Book (bkF e (entT (putE es k t hd)) p (ps ++ [entT es]))) :: x1 :: x2 :: r)) :
    c_Book___setitem__ T [.mt (.ins a T.c_Book (bkF e (entT es) p ps)), .sh (.str k), .sh (.tup [.str t, .str hd])] R RX := by
  unfold c_Book___setitem__
  walk_at "dk"
  refine chk1 T hk (fun q1 => ?_) fun q1 => ?_
  rotate_left
  · rw [badOf_c, q1, if_neg Bool.false_ne_true] at h
    exact h _ _ []
  walk_at "dk"
  refine chk1 T ht (fun q2 => ?_) fun q2 => ?_
  rotate_left
  · rw [badOf_c, if_pos q1, badOf_c, q2, if_neg Bool.false_ne_true] at h
    exact h _ _ []
  walk_at "dk"
  refine chk1 T hh (fun q3 => ?_) fun q3 => ?_
  rotate_left
  · rw [badOf_c, if_pos q1, badOf_c, if_pos q2, badOf_c, q3, if_neg Bool.false_ne_true] at h
    exact h _ _ []
  rw [badOf_c, if_pos q1, badOf_c, if_pos q2, badOf_c, if_pos q3] at h
  replace h : if k ∉ es.map (·.1) ∧ es.length = 10 then ∀ x1 x2 r, RX T.c_BadCount [("count", .int 11)] (.mt (.ins a T.c_Book (bkF e (entT es) p ps)) :: x1 :: x2 :: r) else ∀ x1 x2 r, R .non (.mt (.ins a T.c_Book (bkF e (entT (putE es k t hd)) p (ps ++ [entT es]))) :: x1 :: x2 :: r) := h
  walk_at "dk"
  unfold c_Book___setitem___3
  walk_at "dk"
  refine d_order T hE fun _ => ?_
  walk_at "dk"
  refine ⟨flat_strs _, ?_⟩
  by_cases ck : k ∈ es.map (·.1)
  · rw [decide_eq_true ck]
    rw [if_neg fun z => z.1 ck] at h
    walk_at "dk"
    unfold c_Book___setitem___2
    refine cAppFI_f ?_
    walk_at "dk"
    refine ⟨by omega, ?_⟩
    refine d_order T hE fun _ => ?_
    walk_at "dk"
    refine ⟨flat_strs _, ?_⟩
    rw [if_pos ck]
    walk_at "dk"
    refine lc_mapR entD (fun r => entD (r.1, if r.1 = k then (t, hd) else r.2)) es (by omega) (fun r _ Q hQ => ?_) ?_
    · obtain ⟨n, t', h'⟩ := r
      unfold entD
      walk_at "dk"
      refine ite2 (fun c => ?_) fun c => ?_
      · have := hQ
        rw [if_pos c] at this
        exact this _ rfl
      · have := hQ
        rw [if_neg c] at this
        exact this _ rfl
    · walk_at "dk"
      have e1 : entT (putE es k t hd) = .tup (es.map fun r => entD (r.1, if r.1 = k then (t, hd) else r.2)) := by
        unfold putE
        rw [if_pos ck]
        unfold entT
        rw [List.map_map]
        rfl
      rw [e1] at h
      exact h _ _ []
  · rw [decide_eq_false ck]
    walk_at "dk"
    by_cases l10 : es.length = 10
    · rw [if_pos (by omega)]
      rw [if_pos ⟨ck, l10⟩] at h
      rw [l10]
      exact h _ _ []
    rw [if_neg (by omega)]
    rw [if_neg fun z => l10 z.2] at h
    unfold c_Book___setitem___2
    refine cAppFI_f ?_
    walk_at "dk"
    refine ⟨by omega, ?_⟩
    refine d_order T hE fun _ => ?_
    walk_at "dk"
    refine ⟨flat_strs _, ?_⟩
    rw [if_neg ck]
    walk_at "dk"
    refine rAdd_ent (r := (k, t, hd)) hE ?_
    walk_at "dk"
    have e1 : putE es k t hd = es ++ [(k, t, hd)] := by unfold putE; rw [if_neg ck]
    rw [e1] at h
    exact h _ _ []
def cutE (es : List Ent) (k : Str) : List Ent := es.filter fun r => !decide (r.1 = k)
theorem d_bdrop (T : GG K mg) {a p : Addr} {e : D} {es : List Ent} {ps : List D} {k : Str} (hE : es.length ≤ 1000) (hP : ps.length ≤ 1000) {R : KV} {RX : KX}
    (h : if k ∈ es.map (·.1) then ∀ x1 r, R .non (.mt (.ins a T.c_Book (bkF e (entT (cutE es k)) p (ps ++ [entT es]))) :: x1 :: r) else ∀ x1 r, RX T.c_UnknownName [("name", .str k)] (.mt (.ins a T.c_Book (bkF e (entT es) p ps)) :: x1 :: r)) :
    c_Book_drop T [.mt (.ins a T.c_Book (bkF e (entT es) p ps)), .sh (.str k)] R RX := by
  unfold c_Book_drop
  walk_at "dk"
  refine d_order T hE fun _ => ?_
  walk_at "dk"
  refine ⟨flat_strs _, ?_⟩
  by_cases ck : k ∈ es.map (·.1)
  · rw [decide_eq_true ck]
    rw [if_pos ck] at h
    walk_at "dk"
    unfold c_Book_drop_1
    refine cAppFI_f ?_
    walk_at "dk"
    refine ⟨by omega, ?_⟩
    refine lc_filtR entD (fun r => !decide (r.1 = k)) es (by omega) (fun r _ Q N hQ hN => ?_) ?_
    · obtain ⟨n, t, hd⟩ := r
      unfold entD
      walk_at "dk"
      exact ite2 (fun c => hQ c _ rfl) fun c => hN (Bool.eq_false_iff.mpr c) _ rfl
    · walk_at "dk"
      exact h _ []
  · rw [decide_eq_false ck]
    rw [if_neg ck] at h
    walk_at "dk"
    exact h _ []
theorem d_binit (T : GG K mg) {a : Addr} {s t : Str} (hs : s.length ≤ sizeLine) (ht : t.length ≤ sizeLine) {R : KV} {RX : KX}
    (h : if vname s = false then ∀ δ, RX T.c_BadName [("name", .str s)] δ else if vname t = false then ∀ δ, RX T.c_BadName [("name", .str t)] δ else if s = t then ∀ δ, RX T.c_DuplicateName [("name", .str t)] δ else
      ∀ p δ, R .non (.mt (.ins a T.c_Book (bkF (.tup [.str s, .str t]) (entT []) p [])) :: δ)) :
    c_Book___init__ T [.mt (.ins a T.c_Book []), .sh (.str s), .sh (.str t)] R RX := by
  unfold c_Book___init__
  walk_at "dk"
  refine d_check T hs (fun q1 _ => ?_) fun q1 _ => ?_
  rotate_left
  · rw [if_pos q1] at h
    exact h _
  rw [if_neg (by rw [q1]; decide)] at h
  walk_at "dk"
  refine d_check T ht (fun q2 _ => ?_) fun q2 _ => ?_
  rotate_left
  · rw [if_pos q2] at h
    exact h _
  rw [if_neg (by rw [q2]; decide)] at h
  walk_at "dk"
  refine ite2 (fun c => ?_) fun c => ?_
  · rw [if_pos c] at h
    walk_at "dk"
    exact h _
  rw [if_neg c] at h
  unfold c_Book___init___1
  walk_at "dk"
  exact ⟨by show (1 : Nat) < 1000; decide, by show (2 : Nat) < 1000; decide, fun p => h p _⟩
end
end Xl


namespace Xl
open PySem PySem.Spec PyProof.Rows L2
theorem hnd_no {K : PySem.W.Frag} {i : Nat} {C : CEnds} {Ch Ce : Addr} {ts : Addr → Value → Option Addr → CS} {r : List DCl} {fs : List (Str × D)} {δ : DEnv} (e : PySem.W.exmOne K (.ref Ce) (.ref Ch) = some false) (h : hndD K i C r Ce fs δ) : hndD K i C ((Ch, ts) :: r) Ce fs δ :=
  ⟨false, e, fun q => (nomatch q), fun _ => h⟩
theorem hnd_yes {K : PySem.W.Frag} {i : Nat} {C : CEnds} {Ch Ce : Addr} {ts : Addr → Value → Option Addr → CS} {r : List DCl} {fs : List (Str × D)} {δ : DEnv} (e : PySem.W.exmOne K (.ref Ce) (.ref Ch) = some true)
    (h : ∀ z d, (fs ≠ [] → d.isSome = true) → i < δ.length ∧ ts z (.ref Ce) d (δ.set i (.sh (.exn z d Ce fs))) (gonC i C)) : hndD K i C ((Ch, ts) :: r) Ce fs δ :=
  ⟨true, e, fun _ => h, fun q => (nomatch q)⟩
theorem look1 {f : Str} {x : D} : List.lookup f [(f, x)] = some x := by
  rw [List.lookup_cons, beq_self_eq_true]
end Xl


namespace Xl
open PySem PySem.Spec PyProof.Rows L2
theorem eqL_refl {f : D → D → Bool} : ∀ xs : List D, (∀ x ∈ xs, f x x = true) → eqL f xs xs = true
  | [], _ => rfl
  | x :: xs, h => by
    show (f x x && eqL f xs xs) = true
    rw [h x List.mem_cons_self, eqL_refl xs fun y hy => h y (List.mem_cons_of_mem _ hy)]
    rfl
theorem eqN_refl : ∀ (n : Nat) (d : D), lowD n d = true → eqN n d d = true
  | 0, _, h => by cases h
  | n + 1, d, h => by
    cases d with
    | non => rfl
    | bl b => rw [eqN_bl]; simp
    | int i => rw [eqN_int]; simp
    | str s => rw [eqN_str]; simp
    | tup ds => exact eqL_refl ds fun x hx => eqN_refl n x (List.all_eq_true.mp h x hx)
    | lst ds => exact eqL_refl ds fun x hx => eqN_refl n x (List.all_eq_true.mp h x hx)
    | dic _ => cases h
    | ins _ _ => cases h
    | cls _ => cases h
    | exn _ _ _ _ => cases h
theorem low_lst {n : Nat} {ds : List D} : lowD (n + 1) (.lst ds) = ds.all (lowD n) := rfl
theorem low_tup {n : Nat} {ds : List D} : lowD (n + 1) (.tup ds) = ds.all (lowD n) := rfl
theorem eqN_nil {n : Nat} : ∀ ds : List D, eqN (n + 1) (.lst ds) (.lst []) = ds.isEmpty
  | [] => rfl
  | _ :: _ => rfl
theorem eqL_map {α : Type} [DecidableEq α] (f : α → D) {n : Nat} (h : ∀ x y, eqN n (f x) (f y) = decide (x = y)) : ∀ xs ys : List α, eqL (eqN n) (xs.map f) (ys.map f) = decide (xs = ys)
  | [], [] => rfl
  | [], _ :: _ => rfl
  | _ :: _, [] => rfl
  | x :: xs, y :: ys => by
    show (eqN n (f x) (f y) && eqL (eqN n) (xs.map f) (ys.map f)) = _
    rw [h, eqL_map f h xs ys, ← Bool.decide_and]
    congr 1
    rw [List.cons.injEq]
theorem eqN_lst {α : Type} [DecidableEq α] (f : α → D) {n : Nat} (h : ∀ x y, eqN n (f x) (f y) = decide (x = y)) (xs ys : List α) : eqN (n + 1) (.lst (xs.map f)) (.lst (ys.map f)) = decide (xs = ys) := eqL_map f h xs ys
theorem eqN_tup {α : Type} [DecidableEq α] (f : α → D) {n : Nat} (h : ∀ x y, eqN n (f x) (f y) = decide (x = y)) (xs ys : List α) : eqN (n + 1) (.tup (xs.map f)) (.tup (ys.map f)) = decide (xs = ys) := eqL_map f h xs ys
theorem eqN_strs {n : Nat} (xs ys : List Str) : eqN (n + 2) (.lst (xs.map .str)) (.lst (ys.map .str)) = decide (xs = ys) := eqN_lst D.str (fun _ _ => eqN_str) xs ys
theorem eqN_strsT {n : Nat} (xs ys : List Str) : eqN (n + 2) (.tup (xs.map .str)) (.tup (ys.map .str)) = decide (xs = ys) := eqN_tup D.str (fun _ _ => eqN_str) xs ys
end Xl


namespace Xl
open PySem PySem.Spec PyProof.Rows L2
section
variable {K : PySem.W.Frag} {mg : Str → Option Value}
/-! ### the law's own words about a book -/
theorem d_good (T : GG K mg) {z : Str} (hz : z.length ≤ sizeLine) {R : KV} {RX : KX} (h : ∀ δ, R (.bl (vname z)) δ) : c_good T [.sh (.str z)] R RX := by
  unfold c_good
  walk_at "d"
  rw [sizeLine_eq] at hz
  obtain ⟨cs, rfl⟩ : ∃ cs, z = SX.S cs := ⟨_, (SX.S_tl z).symm⟩
  rw [SX.S_len] at hz
  simp only [SX.S_len]
  refine ⟨hz, ?_⟩
  cases cs with
  | nil =>
    walk_at "d"
    exact h _
  | cons c cs =>
    walk_at "d"
    have hv : vname (SX.S (c :: cs)) = (decide (cs.length < 6) && vlet c && (c :: cs).all vch) := rfl
    rw [hv] at h
    rw [if_neg (by omega)]
    refine ⟨by simp only [List.length_cons] at hz; omega, ?_⟩
    by_cases l6 : cs.length < 6
    · rw [if_neg (by omega)]
      refine ⟨c, by omega, rfl, c, rfl, ?_⟩
      have ev : decide (c ∈ (Str.ofString "abcdefghijklmnopqrstuvwxyz").cps.toList) = vlet c := rfl
      rw [ev]
      cases q : vlet c with
      | false =>
        rw [q] at h
        simp only [Bool.and_false, Bool.false_and] at h
        exact h _
      | true =>
        rw [q, decide_eq_true l6] at h
        simp only [Bool.true_and] at h
        obtain ⟨L, eL⟩ : ∃ L, L = c :: cs := ⟨_, rfl⟩
        have hL : L.length ≤ 6 := by rw [eL, List.length_cons]; omega
        rw [← eL] at h ⊢
        unfold c_good_1
        walk_at "d"
        refine lc_mapR (fun c : Nat => D.str ⟨#[c]⟩) (fun c => .bl (vch c)) L (by omega) (fun x _ Q hQ => ?_) ?_
        · walk_at "d"
          refine ⟨x, rfl, ?_⟩
          have e2 : decide (x ∈ (Str.ofString "0123456789").cps.toList) = vdig x := rfl
          unfold vch at hQ
          refine ite2 (fun c => ?_) fun c => ?_
          · rw [show vlet x = true from decide_eq_true c] at hQ
            exact hQ _ rfl
          · rw [show vlet x = false from decide_eq_false c] at hQ
            refine ⟨x, rfl, ?_⟩
            rw [e2]
            exact hQ _ rfl
        · walk_at "d"
          refine ⟨L.map vch, by rw [List.map_map]; rfl, ?_⟩
          have e3 : (L.map vch).all id = L.all vch := by rw [List.all_map]; rfl
          rw [e3]
          exact h _
    · rw [if_pos (by omega)]
      rw [decide_eq_false l6] at h
      simp only [Bool.false_and] at h
      exact h _
def dueD (es : List Ent) (k t h : Str) : D := match badOf [k, t, h] with
  | some z => .tup [.str "bad", .str z]
  | none => if k ∉ es.map (·.1) ∧ es.length = 10 then .tup [.str "count", .int 11] else .non
theorem due1 (T : GG K mg) {x0 x1 x2 x4 : Sl} {z : Str} (hz : z.length ≤ sizeLine) {N : CEnds} (h1 : vname z = true → N.nx [x0, x1, x2, .sh (.str z), x4]) (h2 : vname z = false → N.rt (.tup [.str "bad", .str z]) [x0, x1, x2, .sh (.str z), x4]) : c_due_store_1 T [x0, x1, x2, .sh (.str z), x4] N := by
  unfold c_due_store_1
  walk_at "d"
  refine d_good T hz fun _ => ?_
  walk_at "d"
  cases q : vname z with
  | true => exact h1 q
  | false => exact h2 q
theorem d_due (T : GG K mg) {es : List Ent} {k t hd : Str} (hE : es.length ≤ 1000) (hk : k.length ≤ sizeLine) (ht : t.length ≤ sizeLine) (hh : hd.length ≤ sizeLine) {R : KV} {RX : KX} (h : ∀ δ, R (dueD es k t hd) δ) :
    c_due_store T [.sh (.lst (es.map entD)), .sh (.str k), .sh (.tup [.str t, .str hd])] R RX := by
  unfold dueD at h
  unfold c_due_store
  walk_at "d"
  refine due1 T hk (fun q1 => ?_) fun q1 => ?_
  rotate_left
  · rw [badOf_c, q1, if_neg Bool.false_ne_true] at h
    exact h _
  walk_at "d"
  refine due1 T ht (fun q2 => ?_) fun q2 => ?_
  rotate_left
  · rw [badOf_c, if_pos q1, badOf_c, q2, if_neg Bool.false_ne_true] at h
    exact h _
  walk_at "d"
  refine due1 T hh (fun q3 => ?_) fun q3 => ?_
  rotate_left
  · rw [badOf_c, if_pos q1, badOf_c, if_pos q2, badOf_c, q3, if_neg Bool.false_ne_true] at h
    exact h _
  rw [badOf_c, if_pos q1, badOf_c, if_pos q2, badOf_c, if_pos q3] at h
  replace h : ∀ δ, R (if k ∉ es.map (·.1) ∧ es.length = 10 then .tup [.str "count", .int 11] else .non) δ := h
  walk_at "d"
  unfold c_due_store_3
  walk_at "d"
  refine lc_mapR entD (fun r => .str r.1) es (by omega) (fun r _ Q hQ => ?_) ?_
  · obtain ⟨n, t', h'⟩ := r
    unfold entD
    walk_at "d"
    exact hQ _ rfl
  rw [map_str]
  walk_at "d"
  by_cases ck : k ∈ es.map (·.1)
  · rw [decide_eq_true ck]
    rw [if_neg fun z => z.1 ck] at h
    walk_at "d"
    unfold c_due_store_2
    walk_at "d"
    exact h _
  · rw [decide_eq_false ck]
    walk_at "d"
    rw [List.length_map]
    refine ite2 (fun c => ?_) fun c => ?_
    · rw [if_pos ⟨ck, by omega⟩] at h
      walk_at "d"
      exact h _
    · rw [if_neg fun z => c (by omega)] at h
      unfold c_due_store_2
      walk_at "d"
      exact h _
theorem d_stored (T : GG K mg) {es : List Ent} {k t hd : Str} (hE : es.length ≤ 1000) {R : KV} {RX : KX} (h : ∀ δ, R (.lst ((putE es k t hd).map entD)) δ) :
    c_stored T [.sh (.lst (es.map entD)), .sh (.str k), .sh (.tup [.str t, .str hd])] R RX := by
  unfold c_stored
  walk_at "d"
  refine lc_mapR entD (fun r => .str r.1) es (by omega) (fun r _ Q hQ => ?_) ?_
  · obtain ⟨n, t', h'⟩ := r
    unfold entD
    walk_at "d"
    exact hQ _ rfl
  rw [map_str]
  walk_at "d"
  unfold putE at h
  by_cases ck : k ∈ es.map (·.1)
  · rw [decide_eq_true ck]
    rw [if_pos ck] at h
    walk_at "d"
    unfold c_stored_1
    walk_at "d"
    refine lc_mapR entD (fun r => entD (r.1, if r.1 = k then (t, hd) else r.2)) es (by omega) (fun r _ Q hQ => ?_) ?_
    · obtain ⟨n, t', h'⟩ := r
      have hq2 := hQ
      unfold entD
      walk_at "d"
      by_cases c : n = k
      · rw [if_pos c] at hq2
        rw [if_pos c]
        exact ⟨_, rfl, hq2 _ rfl⟩
      · rw [if_neg c] at hq2
        rw [if_neg c]
        exact ⟨_, rfl, hq2 _ rfl⟩
    · walk_at "d"
      rw [List.map_map] at h
      exact h _
  · rw [decide_eq_false ck]
    rw [if_neg ck, List.map_append] at h
    walk_at "d"
    refine ⟨by rw [List.length_map]; omega, h _⟩
abbrev bkM (T : GG K mg) (a p : Addr) (e : D) (es : List Ent) (ps : List D) : Sl := .mt (.ins a T.c_Book (bkF e (entT es) p ps))
abbrev bkD (T : GG K mg) (e : D) (es : List Ent) (ps : List D) : D := .ins T.c_Book (bkG e (entT es) ps)
theorem d_store (T : GG K mg) {a p : Addr} {e : D} {es : List Ent} {ps : List D} {k t hd : Str} (hE : es.length ≤ 1000) (hP : ps.length ≤ 1000) (hk : k.length ≤ sizeLine) (ht : t.length ≤ sizeLine) (hh : hd.length ≤ sizeLine) {R : KV} {RX : KX}
    (h : match badOf [k, t, hd] with
      | some z => ∀ x1 x2 r, R (.tup [.str "bad", .str z]) (bkM T a p e es ps :: x1 :: x2 :: r)
      | none => if k ∉ es.map (·.1) ∧ es.length = 10 then ∀ x1 x2 r, R (.tup [.str "count", .int 11]) (bkM T a p e es ps :: x1 :: x2 :: r) else ∀ x1 x2 r, R .non (bkM T a p e (putE es k t hd) (ps ++ [entT es]) :: x1 :: x2 :: r)) :
    c_store T [bkM T a p e es ps, .sh (.str k), .sh (.tup [.str t, .str hd])] R RX := by
  unfold c_store
  walk_at "dk"
  unfold cTry c_store_1 cSetIM
  walk_at "dk"
  refine ⟨a, ⟨_, rfl⟩, ?_⟩
  walk_at "dk"
  refine ⟨⟨_, rfl⟩, ?_⟩
  refine d_setitem T hE hP hk ht hh ?_
  cases q : badOf [k, t, hd] with
  | some z =>
    rw [q] at h
    intro x1 x2 r
    walk_at "dk"
    refine hnd_yes T.te_BadName fun y d hd => ?_
    walk_at "dk"
    rw [look1]
    exact h _ _ []
  | none =>
    rw [q] at h
    replace h : if k ∉ es.map (·.1) ∧ es.length = 10 then ∀ x1 x2 r, R (.tup [.str "count", .int 11]) (bkM T a p e es ps :: x1 :: x2 :: r) else ∀ x1 x2 r, R .non (bkM T a p e (putE es k t hd) (ps ++ [entT es]) :: x1 :: x2 :: r) := h
    refine ite2 (fun c => ?_) fun c => ?_
    · rw [if_pos c] at h
      intro x1 x2 r
      walk_at "dk"
      refine hnd_no T.tn_BadCount_BadName ?_
      refine hnd_yes T.te_BadCount fun y d hd => ?_
      walk_at "dk"
      rw [look1]
      exact h _ _ []
    · rw [if_neg c] at h
      intro x1 x2 r
      walk_at "dk"
      unfold c_store_2
      walk_at "dk"
      exact h _ _ []
theorem d_ldrop (T : GG K mg) {a p : Addr} {e : D} {es : List Ent} {ps : List D} {k : Str} (hE : es.length ≤ 1000) (hP : ps.length ≤ 1000) {R : KV} {RX : KX}
    (h : if k ∈ es.map (·.1) then ∀ x1 r, R .non (bkM T a p e (cutE es k) (ps ++ [entT es]) :: x1 :: r) else ∀ x1 r, R (.tup [.str "unknown", .str k]) (bkM T a p e es ps :: x1 :: r)) :
    c_drop T [bkM T a p e es ps, .sh (.str k)] R RX := by
  unfold c_drop
  walk_at "dk"
  unfold cTry c_drop_1 cMethMK
  walk_at "dk"
  refine ⟨a, ⟨_, rfl, bkF_drop⟩, ?_⟩
  walk_at "dk"
  refine ⟨⟨_, rfl⟩, ?_⟩
  refine d_bdrop T hE hP ?_
  refine ite2 (fun c => ?_) fun c => ?_
  · rw [if_pos c] at h
    intro x1 r
    walk_at "dk"
    unfold c_drop_2
    walk_at "dk"
    exact h _ []
  · rw [if_neg c] at h
    intro x1 r
    walk_at "dk"
    refine hnd_yes T.te_UnknownName fun y d hd => ?_
    walk_at "dk"
    rw [look1]
    exact h _ []
theorem d_missing (T : GG K mg) {e : D} {es : List Ent} {ps : List D} {k : Str} (hE : es.length ≤ 1000) (nk : k ∉ es.map (·.1)) {R : KV} {RX : KX} (h : ∀ δ, R (.bl true) δ) : c_missing T [.sh (bkD T e es ps), .sh (.str k)] R RX := by
  unfold c_missing
  walk_at "dk"
  unfold cTry c_missing_1
  walk_at "dk"
  refine d_get T hE ?_
  have q : es.find? (fun r => decide (r.1 = k)) = none := by
    rw [List.find?_eq_none]
    intro r hr
    exact fun z => nk (List.mem_map.mpr ⟨r, hr, of_decide_eq_true z⟩)
  rw [q]
  intro δ
  refine hnd_yes T.te_UnknownName fun y d hd => ?_
  walk_at "dk"
  rw [look1]
  refine ⟨rfl, ?_⟩
  have e1 : eqN 64 (.str k) (.str k) = true := by rw [eqN_str]; exact decide_eq_true rfl
  show (gonC 2 _).rt (.bl (eqN 64 (.str k) (.str k))) _
  rw [e1]
  exact h _
theorem find_nd {es : List Ent} (nd : (es.map (·.1)).Nodup) {r : Ent} (hr : r ∈ es) : es.find? (fun x => decide (x.1 = r.1)) = some r := by
  induction es with
  | nil => cases hr
  | cons x es ih =>
    rw [List.map_cons, List.nodup_cons] at nd
    rw [List.find?_cons]
    rcases List.mem_cons.mp hr with rfl | hr
    · rw [decide_eq_true rfl]
    · have ne : x.1 ≠ r.1 := fun z => nd.1 (z ▸ List.mem_map.mpr ⟨r, hr, rfl⟩)
      rw [decide_eq_false ne]
      exact ih nd.2 hr
theorem shows1 (T : GG K mg) {e : D} {es : List Ent} {ps : List D} {x1 x2 x3 x5 : Sl} {r : Ent} (hE : es.length ≤ 1000) (nd : (es.map (·.1)).Nodup) (hr : r ∈ es) {N : CEnds} (h : N.nx [.sh (bkD T e es ps), x1, x2, x3, .sh (entD r), x5]) :
    c_shows_1 T [.sh (bkD T e es ps), x1, x2, x3, .sh (entD r), x5] N := by
  have fd := find_nd nd hr
  have hm : r.1 ∈ es.map (·.1) := List.mem_map.mpr ⟨r, hr, rfl⟩
  obtain ⟨n, t, hd⟩ := r
  unfold entD at h ⊢
  unfold c_shows_1
  walk_at "dk"
  refine d_get T hE ?_
  rw [show es.find? (fun x => decide (x.1 = n)) = some (n, t, hd) from fd]
  intro δ
  walk_at "dk"
  refine ⟨rfl, rfl, ?_⟩
  rw [eqN_refl 64 _ rfl]
  walk_at "dk"
  refine d_has T hE fun _ => ?_
  rw [decide_eq_true hm]
  walk_at "dk"
  exact h
theorem shows2 (T : GG K mg) {e : D} {es : List Ent} {ps : List D} {x1 x2 x4 : Sl} {k : Str} (hE : es.length ≤ 1000) {N : CEnds} (h : N.nx [.sh (bkD T e es ps), x1, x2, .sh (.lst ((es.map (·.1)).map .str)), x4, .sh (.str k)]) :
    c_shows_2 T [.sh (bkD T e es ps), x1, x2, .sh (.lst ((es.map (·.1)).map .str)), x4, .sh (.str k)] N := by
  unfold c_shows_2
  walk_at "dk"
  by_cases ck : k ∈ es.map (·.1)
  · rw [decide_eq_true ck]
    walk_at "dk"
    exact h
  · rw [decide_eq_false ck]
    walk_at "dk"
    refine d_has T hE fun _ => ?_
    rw [decide_eq_false ck]
    walk_at "dk"
    refine d_missing T hE ck fun _ => ?_
    walk_at "dk"
    exact h
theorem d_shows (T : GG K mg) {e : D} {es : List Ent} {ps : List D} {ws : List Str} (hE : es.length ≤ 1000) (hw : ws.length ≤ 1000) (nd : (es.map (·.1)).Nodup) {R : KV} {RX : KX} (h : ∀ δ, R (.bl true) δ) :
    c_shows T [.sh (bkD T e es ps), .sh (.lst (es.map entD)), .sh (.lst (ws.map .str))] R RX := by
  unfold c_shows
  walk_at "dk"
  refine lc_mapR entD (fun r => .str r.1) es (by omega) (fun r _ Q hQ => ?_) ?_
  · obtain ⟨n, t', h'⟩ := r
    have hq2 := hQ
    unfold entD
    walk_at "d"
    exact hq2 _ rfl
  rw [map_str]
  walk_at "dk"
  refine d_order T hE fun _ => ?_
  walk_at "dk"
  refine ⟨low_strs 62 _, low_strs 62 _, ?_⟩
  rw [eqN_strsT, decide_eq_true rfl]
  walk_at "dk"
  refine d_len T hE fun _ => ?_
  walk_at "dk"
  rw [List.length_map, List.length_map, decide_eq_true rfl]
  refine ⟨⟨by omega, by omega⟩, ?_⟩
  walk_at "dk"
  unfold c_shows_5
  walk_at "dk"
  refine for_inv (fun _ δ => ∃ x4, δ = [Sl.sh (bkD T e es ps), Sl.sh (D.lst (List.map entD es)), Sl.sh (D.lst (List.map D.str ws)), Sl.sh (D.lst (List.map D.str (List.map (fun x => x.fst) es))), x4, Sl.emp]) _ _ ⟨_, rfl⟩ ?_ ?_
  · rintro i d δ ed ⟨x4, rfl⟩ N n1 n2 n3 n4 n5
    rw [List.getElem?_map] at ed
    obtain ⟨r, er, rfl⟩ := Option.map_eq_some_iff.mp ed
    walk_at "dk"
    exact shows1 T hE nd (List.mem_of_getElem? er) (n4 _ ⟨_, rfl⟩)
  rintro δ ⟨x4, rfl⟩
  walk_at "dk"
  unfold c_shows_4
  walk_at "dk"
  refine ⟨by rw [List.length_map]; omega, ?_⟩
  have ew : List.map D.str ws ++ [D.str (Str.ofString ""), D.str (Str.ofString "zz9")] = (ws ++ [Str.ofString "", Str.ofString "zz9"]).map D.str := by rw [List.map_append]; rfl
  rw [ew]
  refine for_inv (fun _ δ => ∃ x5, δ = [Sl.sh (bkD T e es ps), Sl.sh (D.lst (List.map entD es)), Sl.sh (D.lst (List.map D.str ws)), Sl.sh (D.lst (List.map D.str (List.map (fun x => x.fst) es))), x4, x5]) _ _ ⟨_, rfl⟩ ?_ ?_
  · rintro i d δ ed ⟨x5, rfl⟩ N n1 n2 n3 n4 n5
    rw [List.getElem?_map] at ed
    obtain ⟨k, er, rfl⟩ := Option.map_eq_some_iff.mp ed
    walk_at "dk"
    exact shows2 T hE (n4 _ ⟨_, rfl⟩)
  rintro δ ⟨x5, rfl⟩
  unfold c_shows_3
  walk_at "dk"
  exact h _
end
end Xl


namespace Xl
open PySem PySem.Spec PyProof.Rows L2
section
variable {K : PySem.W.Frag} {mg : Str → Option Value}
def sidesD (s t : Str) : D := .tup [.str s, .str t]
def newD (T : GG K mg) (s t : Str) : D := match badOf [s, t] with
  | some z => .tup [.str "bad", .str z]
  | none => if s = t then .tup [.str "twice", .str t] else .tup [.str "book", bkD T (sidesD s t) [] []]
theorem d_new (T : GG K mg) {s t : Str} (hs : s.length ≤ sizeLine) (ht : t.length ≤ sizeLine) {R : KV} {RX : KX} (h : ∀ δ, R (newD T s t) δ) : c_new T [.sh (.str s), .sh (.str t)] R RX := by
  unfold newD at h
  rw [badOf_c, badOf_c] at h
  unfold c_new
  walk_at "dk"
  unfold cTry c_new_1
  walk_at "dk"
  intro a
  unfold c_Book_mk
  simp only [List.map_nil, List.append_nil]
  refine d_binit T hs ht ?_
  cases q1 : vname s with
  | false =>
    rw [q1, if_neg Bool.false_ne_true] at h
    rw [if_pos rfl]
    intro δ
    refine hnd_yes T.te_BadName fun y d hd => ?_
    walk_at "dk"
    rw [look1]
    exact h _
  | true =>
    rw [q1, if_pos rfl] at h
    rw [if_neg (by decide)]
    cases q2 : vname t with
    | false =>
      rw [q2, if_neg Bool.false_ne_true] at h
      rw [if_pos rfl]
      intro δ
      refine hnd_yes T.te_BadName fun y d hd => ?_
      walk_at "dk"
      rw [look1]
      exact h _
    | true =>
      rw [q2, if_pos rfl] at h
      rw [if_neg (by decide)]
      replace h : ∀ δ, R (if s = t then .tup [.str "twice", .str t] else .tup [.str "book", bkD T (sidesD s t) [] []]) δ := h
      by_cases c : s = t
      · rw [if_pos c] at h ⊢
        intro δ
        refine hnd_no T.tn_DuplicateName_BadName ?_
        refine hnd_yes T.te_DuplicateName fun y d hd => ?_
        walk_at "dk"
        rw [look1]
        exact h _
      · rw [if_neg c] at h ⊢
        intro p δ
        refine ⟨rfl, _, rfl, ?_⟩
        rw [toD_bk]
        exact h _
theorem nr1 (T : GG K mg) {x0 x1 x3 x4 : Sl} {z : Str} (hz : z.length ≤ sizeLine) (q : vname z = true) {N : CEnds} (h : N.nx [x0, x1, .sh (.str z), x3, x4]) : c_new_right_1 T [x0, x1, .sh (.str z), x3, x4] N := by
  unfold c_new_right_1
  walk_at "dk"
  refine d_good T hz fun _ => ?_
  rw [q]
  walk_at "dk"
  exact h
theorem d_new_right (T : GG K mg) {s t : Str} (hs : s.length ≤ sizeLine) (ht : t.length ≤ sizeLine) {R : KV} {RX : KX} (h : ∀ δ, R (.bl true) δ) : c_new_right T [.sh (.str s), .sh (.str t)] R RX := by
  unfold c_new_right
  walk_at "dk"
  refine d_new T hs ht fun _ => ?_
  have ref : ∀ z : Str, eqN 64 (.str z) (.str z) = true := fun z => eqN_refl 64 _ rfl
  cases q1 : vname s with
  | false =>
    have en : newD T s t = .tup [.str "bad", .str s] := by unfold newD; rw [badOf_c, q1]; rfl
    rw [en]
    walk_at "dk"
    unfold c_new_right_1
    walk_at "dk"
    refine d_good T hs fun _ => ?_
    rw [q1]
    walk_at "dk"
    exact h _
  | true =>
    cases q2 : vname t with
    | false =>
      have en : newD T s t = .tup [.str "bad", .str t] := by unfold newD; rw [badOf_c, if_pos q1, badOf_c, q2]; rfl
      rw [en]
      walk_at "dk"
      refine nr1 T hs q1 ?_
      walk_at "dk"
      unfold c_new_right_1
      walk_at "dk"
      refine d_good T ht fun _ => ?_
      rw [q2]
      walk_at "dk"
      exact h _
    | true =>
      have en : newD T s t = if s = t then D.tup [.str "twice", .str t] else .tup [.str "book", bkD T (sidesD s t) [] []] := by unfold newD; rw [badOf_c, if_pos q1, badOf_c, if_pos q2]; rfl
      rw [en]
      by_cases c : s = t
      · rw [if_pos c]
        walk_at "dk"
        refine nr1 T hs q1 ?_
        walk_at "dk"
        refine nr1 T ht q2 ?_
        walk_at "dk"
        unfold c_new_right_3
        walk_at "dk"
        rw [if_pos c]
        walk_at "dk"
        exact h _
      · rw [if_neg c]
        walk_at "dk"
        refine nr1 T hs q1 ?_
        walk_at "dk"
        refine nr1 T ht q2 ?_
        walk_at "dk"
        unfold c_new_right_3
        walk_at "dk"
        rw [if_neg c]
        unfold c_new_right_2
        walk_at "dk"
        refine d_shows T (es := []) (ws := [Str.ofString "a", s]) (by decide) (by show 2 ≤ 1000; decide) .nil fun _ => ?_
        exact h _
def oddW : List Str := [Str.ofString "", Str.ofString "1a", Str.ofString "toolong", Str.ofString "A", Str.ofString "x y", Str.ofString "b-", Str.ofString "aB", Str.ofString "sixsix"]
theorem oddW_len : ∀ z ∈ oddW, z.length ≤ 10 := by decide +kernel
theorem d_word (T : GG K mg) {st : Addr} {n : Nat} {ws : List Str} (hn : n + 10 ≤ 2 ^ 40) (h0 : ws ≠ []) (hl : ws.length ≤ 100) (hw : ∀ z ∈ ws, z.length ≤ 10) {R : KV} {RX : KX} (h : ∀ z n' δ, z.length ≤ 10 → n' ≤ n + 3 → R (.str z) (.st st n' :: δ)) : c_word T [.st st n, .sh (.lst (ws.map .str))] R RX := by
  unfold c_word
  walk_at "dk"
  have l0 : 0 < ws.length := List.length_pos_iff.mpr h0
  rw [List.length_map]
  refine ⟨by omega, by omega, by omega, fun d0 h1 h2 => ?_⟩
  obtain ⟨x, e1, e2⟩ := atI_in (xs := ws.map D.str) h1 (by rw [List.length_map]; exact h2)
  rw [List.getElem?_map] at e2
  obtain ⟨z, ez, rfl⟩ := Option.map_eq_some_iff.mp e2
  have hz := hw z (List.mem_of_getElem? ez)
  refine ⟨_, e1, by omega, fun d1 h3 h4 => ?_⟩
  refine ite2 (fun c => ?_) fun c => ?_
  · refine ⟨by omega, fun d2 h5 h6 => ?_⟩
    obtain ⟨y, f1, f2⟩ := atI_in (xs := oddW.map D.str) h5 (by show d2 < 8; omega)
    rw [List.getElem?_map] at f2
    obtain ⟨u, eu, rfl⟩ := Option.map_eq_some_iff.mp f2
    have hu := oddW_len u (List.mem_of_getElem? eu)
    refine ⟨_, f1, ?_⟩
    unfold c_word_1
    walk_at "dk"
    exact h _ _ _ hu (by omega)
  · unfold c_word_1
    walk_at "dk"
    exact h _ _ _ hz (by omega)
end
end Xl


namespace Xl
open PySem PySem.Spec PyProof.Rows L2
section
variable {K : PySem.W.Frag} {mg : Str → Option Value}
def W92 : List Str := [Str.ofString "a", Str.ofString "b", Str.ofString "c1", Str.ofString "link", Str.ofString "z9", Str.ofString "m", Str.ofString "ab", Str.ofString "a2", Str.ofString "long1", Str.ofString "y", Str.ofString "q", Str.ofString "w"]
theorem W92_len : ∀ z ∈ W92, z.length ≤ 10 := by decide +kernel
theorem ten_sz {z : Str} (h : z.length ≤ 10) : z.length ≤ sizeLine := by rw [sizeLine_eq]; omega
theorem cutE_nd {es : List Ent} {k : Str} (h : (es.map (·.1)).Nodup) : ((cutE es k).map (·.1)).Nodup := h.sublist (List.Sublist.map _ List.filter_sublist)
theorem cutE_no {es : List Ent} {k : Str} : k ∉ (cutE es k).map (·.1) := fun z => by
  obtain ⟨r, hr, e⟩ := List.mem_map.mp z
  have := (List.mem_filter.mp hr).2
  rw [decide_eq_true e] at this
  cases this
theorem cutE_len {es : List Ent} {k : Str} : (cutE es k).length ≤ es.length := List.length_filter_le _ _
theorem cutE_same {es : List Ent} {k : Str} (h : k ∉ es.map (·.1)) : cutE es k = es := List.filter_eq_self.mpr fun r hr => by
  rw [decide_eq_false fun e => h (List.mem_map.mpr ⟨r, hr, e⟩)]
  rfl
theorem putE_names {es : List Ent} {k t h : Str} : (putE es k t h).map (·.1) = if k ∈ es.map (·.1) then es.map (·.1) else es.map (·.1) ++ [k] := by
  unfold putE
  split
  · rw [List.map_map]; rfl
  · rw [List.map_append]; rfl
theorem putE_nd {es : List Ent} {k t h : Str} (nd : (es.map (·.1)).Nodup) : ((putE es k t h).map (·.1)).Nodup := by
  rw [putE_names]
  split
  · exact nd
  · next c =>
    rw [List.nodup_append]
    refine ⟨nd, by simp, fun a ha b hb e => c ?_⟩
    rw [List.mem_singleton.mp hb] at e
    exact e ▸ ha
theorem putE_len {es : List Ent} {k t h : Str} : (putE es k t h).length = if k ∈ es.map (·.1) then es.length else es.length + 1 := by
  unfold putE
  split
  · rw [List.length_map]
  · rw [List.length_append]; rfl
/-- before a turn -/
def In92 (T : GG K mg) (st a p : Addr) (e : D) (W : List Str) (d3 d4 : D) (i : Nat) (δ : DEnv) : Prop := ∃ n es ps x7 x8 x9 x10, n ≤ 100 + 20 * i ∧ es.length ≤ 10 ∧ ps.length ≤ i ∧ (es.map (·.1)).Nodup ∧
  δ = [.emp, .st st n, .sh (.lst (W.map .str)), .sh d3, .sh d4, bkM T a p e es ps, .sh (.lst (es.map entD)), x7, x8, x9, x10, .emp]
theorem law4_92 (T : GG K mg) {st a p : Addr} {n : Nat} {e d3 d4 d7 d8 d9 d10 : D} {W : List Str} {es : List Ent} {ps : List D} (hE : es.length ≤ 10) (wl : W.length ≤ 100) (nd : (es.map (·.1)).Nodup) {N : CEnds}
    (h : N.nx [.emp, .st st n, .sh (.lst (W.map .str)), .sh d3, .sh d4, bkM T a p e es ps, .sh (.lst (es.map entD)), .sh d7, .sh d8, .sh d9, .sh d10, .emp]) :
    c_law_4 T [.emp, .st st n, .sh (.lst (W.map .str)), .sh d3, .sh d4, bkM T a p e es ps, .sh (.lst (es.map entD)), .sh d7, .sh d8, .sh d9, .sh d10, .emp] N := by
  unfold c_law_4
  walk_at "dk"
  refine d_shows T (by omega) (by omega) nd fun _ => ?_
  walk_at "dk"
  exact h
theorem law1_92 (T : GG K mg) {st a p : Addr} {n : Nat} {e d3 d4 d7 d9 d10 : D} {W : List Str} {es : List Ent} {ps : List D} {k : Str} (hk : k.length ≤ 10) (hE : es.length ≤ 10) (hP : ps.length ≤ 200) {N : CEnds}
    (h : N.nx [.emp, .st st n, .sh (.lst (W.map .str)), .sh d3, .sh d4, bkM T a p e (cutE es k) ps, .sh (.lst ((cutE es k).map entD)), .sh d7, .sh (.str k), .sh d9, .sh d10, .emp]) :
    c_law_1 T [.emp, .st st n, .sh (.lst (W.map .str)), .sh d3, .sh d4, bkM T a p e (cutE es k) ps, .sh (.lst (es.map entD)), .sh d7, .sh (.str k), .sh d9, .sh d10, .emp] N := by
  unfold c_law_1
  walk_at "dk"
  refine lc_filtR entD (fun r => !decide (r.1 = k)) es (by omega) (fun r _ Q M hQ hM => ?_) ?_
  · obtain ⟨n, t, hd⟩ := r
    have hq2 := hQ
    have hm2 := hM
    unfold entD
    walk_at "dk"
    exact ite2 (fun c => hq2 c _ rfl) fun c => hm2 (Bool.eq_false_iff.mpr c) _ rfl
  walk_at "dk"
  have ec : (es.filter fun r => !decide (r.1 = k)) = cutE es k := rfl
  rw [ec]
  have hc : (cutE es k).length ≤ 10 := Nat.le_trans cutE_len hE
  refine d_good T (ten_sz hk) fun _ => ?_
  walk_at "dk"
  refine ite2 (fun c => ?_) fun c => ?_
  · refine d_ldrop T (by omega) (by omega) ?_
    rw [if_neg cutE_no]
    intro x1 r
    walk_at "dk"
    refine ⟨rfl, rfl, ?_⟩
    rw [eqN_refl 64 _ rfl]
    walk_at "dk"
    exact h
  · exact h
theorem turn92 (T : GG K mg) {st a p : Addr} {e d3 d4 : D} {W : List Str} {i : Nat} (hi : i < 100) (w0 : W ≠ []) (wl : W.length ≤ 100) (wz : ∀ z ∈ W, z.length ≤ 10) {d : D} {δ : DEnv} {N : CEnds} (hδ : In92 T st a p e W d3 d4 i δ) (hN : ∀ δ, In92 T st a p e W d3 d4 (i + 1) δ → N.nx δ) :
    cgN 7 d δ fun δ1 => c_law_5 T δ1 N := by
  obtain ⟨n, es, ps, x7, x8, x9, x10, hn, hE, hP, nd, rfl⟩ := hδ
  walk_at "dk"
  unfold c_law_5
  walk_at "dk"
  refine d_word T (by omega) w0 wl wz fun k n1 _ hk hn1 => ?_
  walk_at "dk"
  refine d_word T (by omega) w0 wl wz fun t n2 _ ht hn2 => ?_
  walk_at "dk"
  refine d_word T (by omega) w0 wl wz fun hd n3 _ hh hn3 => ?_
  walk_at "dk"
  refine ⟨by omega, fun d0 g0 g1 => ?_⟩
  refine ite2 (fun c => ?_) fun c => ?_
  · refine lc_mapR entD (fun r => .str r.1) es (by omega) (fun r _ Q hQ => ?_) ?_
    · obtain ⟨n, t', h'⟩ := r
      have hq2 := hQ
      unfold entD
      walk_at "d"
      exact hq2 _ rfl
    rw [map_str]
    walk_at "dk"
    have go : ∀ due : D, due = (if k ∈ es.map (·.1) then .non else .tup [.str "unknown", .str k]) → c_law_2 T [.emp, .st st (n3 + 1), .sh (.lst (W.map .str)), .sh d3, .sh d4, bkM T a p e es ps, .sh (.lst (es.map entD)), .sh d, .sh (.str k), .sh (.tup [.str t, .str hd]), .sh due, .emp] { nx := fun δ1 => c_law_4 T δ1 N, rt := N.rt, bk := N.bk, ct := N.ct, ex := N.ex } := fun due hdue => by
      unfold c_law_2
      walk_at "dk"
      refine d_ldrop T (by omega) (by omega) ?_
      refine ite2 (fun ck => ?_) fun ck => ?_
      · rw [if_pos ck] at hdue
        subst hdue
        intro x1 r
        walk_at "dk"
        refine law1_92 T hk (by omega) (by rw [List.length_append]; show ps.length + 1 ≤ 200; omega) ?_
        refine law4_92 T (Nat.le_trans cutE_len hE) wl (cutE_nd nd) ?_
        exact hN _ ⟨_, _, _, _, _, _, _, by omega, Nat.le_trans cutE_len hE, by rw [List.length_append]; show ps.length + 1 ≤ i + 1; omega, cutE_nd nd, rfl⟩
      · rw [if_neg ck] at hdue
        subst hdue
        intro x1 r
        walk_at "dk"
        refine ⟨rfl, rfl, ?_⟩
        rw [eqN_refl 64 _ rfl]
        walk_at "dk"
        have ec : bkM T a p e es ps = bkM T a p e (cutE es k) ps := by rw [cutE_same ck]
        rw [ec]
        refine law1_92 T hk (by omega) (by omega) ?_
        refine law4_92 T (Nat.le_trans cutE_len hE) wl (cutE_nd nd) ?_
        exact hN _ ⟨_, _, _, _, _, _, _, by omega, Nat.le_trans cutE_len hE, by omega, cutE_nd nd, rfl⟩
    by_cases ck : k ∈ es.map (·.1)
    · rw [decide_eq_true ck]
      walk_at "dk"
      exact go _ (by rw [if_pos ck])
    · rw [decide_eq_false ck]
      walk_at "dk"
      exact go _ (by rw [if_neg ck])
  · refine d_due T (by omega) (ten_sz hk) (ten_sz ht) (ten_sz hh) fun _ => ?_
    walk_at "dk"
    refine d_store T (by omega) (by omega) (ten_sz hk) (ten_sz ht) (ten_sz hh) ?_
    cases q : badOf [k, t, hd] with
    | some z =>
      have ed : dueD es k t hd = .tup [.str "bad", .str z] := by unfold dueD; rw [q]
      rw [ed]
      intro x1 x2 r
      walk_at "dk"
      refine ⟨rfl, rfl, ?_⟩
      rw [eqN_refl 64 _ rfl]
      walk_at "dk"
      unfold c_law_3
      walk_at "dk"
      refine law4_92 T hE wl nd ?_
      exact hN _ ⟨_, _, _, _, _, _, _, by omega, hE, by omega, nd, rfl⟩
    | none =>
      show if k ∉ es.map (·.1) ∧ es.length = 10 then _ else _
      refine ite2 (fun cc => ?_) fun cc => ?_
      · have ed : dueD es k t hd = .tup [.str "count", .int 11] := by unfold dueD; rw [q]; exact if_pos cc
        rw [ed]
        intro x1 x2 r
        walk_at "dk"
        unfold c_law_3
        walk_at "dk"
        refine ⟨rfl, rfl, ?_⟩
        rw [eqN_refl 64 _ rfl]
        walk_at "dk"
        refine law4_92 T hE wl nd ?_
        exact hN _ ⟨_, _, _, _, _, _, _, by omega, hE, by omega, nd, rfl⟩
      · have ed : dueD es k t hd = .non := by unfold dueD; rw [q]; exact if_neg cc
        rw [ed]
        intro x1 x2 r
        walk_at "dk"
        unfold c_law_3
        walk_at "dk"
        refine d_stored T (by omega) fun _ => ?_
        walk_at "dk"
        have pl : (putE es k t hd).length ≤ 10 := by
          rw [putE_len]
          split
          · exact hE
          · next c2 =>
            have : es.length ≠ 10 := fun z => cc ⟨c2, z⟩
            omega
        refine law4_92 T pl wl (putE_nd nd) ?_
        exact hN _ ⟨_, _, _, _, _, _, _, by omega, pl, by rw [List.length_append]; show ps.length + 1 ≤ i + 1; omega, putE_nd nd, rfl⟩
theorem d_law (T : GG K mg) (st : Addr) : c_law T (.emp :: .st st 0 :: List.replicate 10 .emp) lawC := by
  unfold c_law
  walk_at "dk"
  have ew : [D.str (Str.ofString "a"), D.str (Str.ofString "b"), D.str (Str.ofString "c1"), D.str (Str.ofString "link"), D.str (Str.ofString "z9"), D.str (Str.ofString "m"), D.str (Str.ofString "ab"), D.str (Str.ofString "a2"), D.str (Str.ofString "long1"), D.str (Str.ofString "y"), D.str (Str.ofString "q"), D.str (Str.ofString "w")] = W92.map D.str := rfl
  rw [ew]
  have w0 : W92 ≠ [] := by decide
  have wl : W92.length ≤ 100 := by decide
  have wz := W92_len
  obtain ⟨W, eW⟩ : ∃ W, W = W92 := ⟨_, rfl⟩
  rw [← eW] at w0 wl wz ⊢
  refine d_word T (by omega) w0 wl wz fun s n1 _ hs hn1 => ?_
  walk_at "dk"
  refine d_word T (by omega) w0 wl wz fun u n2 _ hu hn2 => ?_
  walk_at "dk"
  refine ⟨by omega, fun d0 g0 g1 => ?_⟩
  obtain ⟨t, et, ht⟩ : ∃ t : Str, atI [D.str u, D.str s] (if d0 = 0 then 1 else 0) = some (.str t) ∧ t.length ≤ 10 := by
    by_cases c : d0 = 0
    · rw [if_pos c]; exact ⟨s, rfl, hs⟩
    · rw [if_neg c]; exact ⟨u, rfl, hu⟩
  refine ⟨_, et, d_new_right T (ten_sz hs) (ten_sz ht) fun _ => ?_⟩
  walk_at "dk"
  unfold c_law_7
  walk_at "dk"
  intro a
  have vs : vname (Str.ofString "s") = true := by decide +kernel
  have vt : vname (Str.ofString "t") = true := by decide +kernel
  refine d_binit T (s := Str.ofString "s") (t := Str.ofString "t") (by decide) (by decide) ?_
  rw [if_neg (by rw [vs]; decide), if_neg (by rw [vt]; decide), if_neg (by decide +kernel)]
  intro p _
  refine ⟨rfl, _, rfl, by omega, fun k k0 k1 => ⟨by omega, by omega, ?_⟩⟩
  refine for_inv (fun i δ => In92 T st a p _ W _ _ i δ) _ _ ⟨_, [], [], .emp, .emp, .emp, .emp, by omega, by decide, by decide, .nil, rfl⟩ ?_ ?_
  · intro i d δ ed hI N n1 n2 n3 n4 n5
    obtain ⟨hi, _⟩ := rngD_get ed
    exact turn92 T (by omega) w0 wl wz hI n4
  · rintro δ ⟨n, es, ps, x7, x8, x9, x10, _, _, _, _, rfl⟩
    unfold c_law_6
    walk_at "dk"
    rfl
theorem ok_law_of {P : Program} {w : World} {base : Heap} {T : GG K mg} {f : Addr} {fd : FuncData} (F : Fun K "law" "law" s_law f fd) : FnOk P w K mg base (L2.CX P w) lawK f fd ["_law_script"] (spLaw K) := ok_law_c T (d_law T) F
end
end Xl


namespace Xl
open PySem L2
theorem all_mk {l : PySem.W.OpenLaw} {w : World} {K : PySem.W.Frag} {h : Heap} {mg : Str → Option Value} {fa f_BadName___init__ f_DuplicateName___init__ f_UnknownName___init__ f_BadCount___init__ f_valid_name f_check_name f_Book___init__ f_Book_order f_Book___len__ f_Book___contains__ f_Book___getitem__ f_Book___setitem__ f_Book_drop f_start f_take f_word f_good f_store f_drop f_due_store f_stored f_missing f_shows f_new f_new_right f_law c_ExtralinkError c_BadName c_DuplicateName c_UnknownName c_BadCount c_Network c_Book : Addr} (X : K.In h) (G : h.Ns mainGlobals mg) (hfa : mg "law" = some (.ref fa))
    {od_BadName___init__ an_BadName___init__ : Option Addr} {sl_BadName___init__ : Array (Option Value)} {oc_BadName___init__ kV_BadName___init__ dc_BadName___init__ pm_BadName___init__ cd_BadName___init__ ct_BadName___init__ : Value}
    {od_DuplicateName___init__ an_DuplicateName___init__ : Option Addr} {sl_DuplicateName___init__ : Array (Option Value)} {oc_DuplicateName___init__ kV_DuplicateName___init__ dc_DuplicateName___init__ pm_DuplicateName___init__ cd_DuplicateName___init__ ct_DuplicateName___init__ : Value}
    {od_UnknownName___init__ an_UnknownName___init__ : Option Addr} {sl_UnknownName___init__ : Array (Option Value)} {oc_UnknownName___init__ kV_UnknownName___init__ dc_UnknownName___init__ pm_UnknownName___init__ cd_UnknownName___init__ ct_UnknownName___init__ : Value}
    {od_BadCount___init__ an_BadCount___init__ : Option Addr} {sl_BadCount___init__ : Array (Option Value)} {oc_BadCount___init__ kV_BadCount___init__ dc_BadCount___init__ pm_BadCount___init__ cd_BadCount___init__ ct_BadCount___init__ : Value}
    {od_valid_name an_valid_name : Option Addr} {sl_valid_name : Array (Option Value)} {oc_valid_name kV_valid_name dc_valid_name pm_valid_name cd_valid_name ct_valid_name : Value}
    {od_check_name an_check_name : Option Addr} {sl_check_name : Array (Option Value)} {oc_check_name kV_check_name dc_check_name pm_check_name cd_check_name ct_check_name : Value}
    {od_Book___init__ an_Book___init__ : Option Addr} {sl_Book___init__ : Array (Option Value)} {oc_Book___init__ kV_Book___init__ dc_Book___init__ pm_Book___init__ cd_Book___init__ ct_Book___init__ : Value}
    {od_Book_order an_Book_order : Option Addr} {sl_Book_order : Array (Option Value)} {oc_Book_order kV_Book_order dc_Book_order pm_Book_order cd_Book_order ct_Book_order : Value}
    {p_Book_order : Addr} {rr_Book_order : List Value}
    {od_Book___len__ an_Book___len__ : Option Addr} {sl_Book___len__ : Array (Option Value)} {oc_Book___len__ kV_Book___len__ dc_Book___len__ pm_Book___len__ cd_Book___len__ ct_Book___len__ : Value}
    {od_Book___contains__ an_Book___contains__ : Option Addr} {sl_Book___contains__ : Array (Option Value)} {oc_Book___contains__ kV_Book___contains__ dc_Book___contains__ pm_Book___contains__ cd_Book___contains__ ct_Book___contains__ : Value}
    {od_Book___getitem__ an_Book___getitem__ : Option Addr} {sl_Book___getitem__ : Array (Option Value)} {oc_Book___getitem__ kV_Book___getitem__ dc_Book___getitem__ pm_Book___getitem__ cd_Book___getitem__ ct_Book___getitem__ : Value}
    {od_Book___setitem__ an_Book___setitem__ : Option Addr} {sl_Book___setitem__ : Array (Option Value)} {oc_Book___setitem__ kV_Book___setitem__ dc_Book___setitem__ pm_Book___setitem__ cd_Book___setitem__ ct_Book___setitem__ : Value}
    {od_Book_drop an_Book_drop : Option Addr} {sl_Book_drop : Array (Option Value)} {oc_Book_drop kV_Book_drop dc_Book_drop pm_Book_drop cd_Book_drop ct_Book_drop : Value}
    {od_start an_start : Option Addr} {sl_start : Array (Option Value)} {oc_start kV_start dc_start pm_start cd_start ct_start : Value}
    {od_take an_take : Option Addr} {sl_take : Array (Option Value)} {oc_take kV_take dc_take pm_take cd_take ct_take : Value}
    {od_word an_word : Option Addr} {sl_word : Array (Option Value)} {oc_word kV_word dc_word pm_word cd_word ct_word : Value}
    {od_good an_good : Option Addr} {sl_good : Array (Option Value)} {oc_good kV_good dc_good pm_good cd_good ct_good : Value}
    {od_store an_store : Option Addr} {sl_store : Array (Option Value)} {oc_store kV_store dc_store pm_store cd_store ct_store : Value}
    {od_drop an_drop : Option Addr} {sl_drop : Array (Option Value)} {oc_drop kV_drop dc_drop pm_drop cd_drop ct_drop : Value}
    {od_due_store an_due_store : Option Addr} {sl_due_store : Array (Option Value)} {oc_due_store kV_due_store dc_due_store pm_due_store cd_due_store ct_due_store : Value}
    {od_stored an_stored : Option Addr} {sl_stored : Array (Option Value)} {oc_stored kV_stored dc_stored pm_stored cd_stored ct_stored : Value}
    {od_missing an_missing : Option Addr} {sl_missing : Array (Option Value)} {oc_missing kV_missing dc_missing pm_missing cd_missing ct_missing : Value}
    {od_shows an_shows : Option Addr} {sl_shows : Array (Option Value)} {oc_shows kV_shows dc_shows pm_shows cd_shows ct_shows : Value}
    {od_new an_new : Option Addr} {sl_new : Array (Option Value)} {oc_new kV_new dc_new pm_new cd_new ct_new : Value}
    {od_new_right an_new_right : Option Addr} {sl_new_right : Array (Option Value)} {oc_new_right kV_new_right dc_new_right pm_new_right cd_new_right ct_new_right : Value}
    {od_law an_law : Option Addr} {sl_law : Array (Option Value)} {oc_law kV_law dc_law pm_law cd_law ct_law : Value}
    {t_LETTERS : Tok}
    {t_DIGITS : Tok}
    {t_LONGEST : Tok}
    {xn_BadName xq_BadName : Str} {xN_BadName : Addr} {xb_BadName xm_BadName xu_BadName : List Value} {xs_BadName : List Str} {xa_BadName : Bool} {xc_BadName : Option Bool} {xd_BadName : Option Addr} {x0_BadName xi_BadName x2_BadName x3_BadName x5_BadName : Option Value}
    {xn_DuplicateName xq_DuplicateName : Str} {xN_DuplicateName : Addr} {xb_DuplicateName xm_DuplicateName xu_DuplicateName : List Value} {xs_DuplicateName : List Str} {xa_DuplicateName : Bool} {xc_DuplicateName : Option Bool} {xd_DuplicateName : Option Addr} {x0_DuplicateName xi_DuplicateName x2_DuplicateName x3_DuplicateName x5_DuplicateName : Option Value}
    {xn_UnknownName xq_UnknownName : Str} {xN_UnknownName : Addr} {xb_UnknownName xm_UnknownName xu_UnknownName : List Value} {xs_UnknownName : List Str} {xa_UnknownName : Bool} {xc_UnknownName : Option Bool} {xd_UnknownName : Option Addr} {x0_UnknownName xi_UnknownName x2_UnknownName x3_UnknownName x5_UnknownName : Option Value}
    {xn_BadCount xq_BadCount : Str} {xN_BadCount : Addr} {xb_BadCount xm_BadCount xu_BadCount : List Value} {xs_BadCount : List Str} {xa_BadCount : Bool} {xc_BadCount : Option Bool} {xd_BadCount : Option Addr} {x0_BadCount xi_BadCount x2_BadCount x3_BadCount x5_BadCount : Option Value}
    {tk_Network_MOST_LINKS : Tok}
    (gc_ExtralinkError : PySem.W.nsIn K mainGlobals "ExtralinkError" = some (some (.ref c_ExtralinkError)))
    (gc_BadName : PySem.W.nsIn K mainGlobals "BadName" = some (some (.ref c_BadName)))
    (gc_DuplicateName : PySem.W.nsIn K mainGlobals "DuplicateName" = some (some (.ref c_DuplicateName)))
    (gc_UnknownName : PySem.W.nsIn K mainGlobals "UnknownName" = some (some (.ref c_UnknownName)))
    (gc_BadCount : PySem.W.nsIn K mainGlobals "BadCount" = some (some (.ref c_BadCount)))
    (gc_Network : PySem.W.nsIn K mainGlobals "Network" = some (some (.ref c_Network)))
    (gc_Book : PySem.W.nsIn K mainGlobals "Book" = some (some (.ref c_Book)))
    (at_BadName___init__ : PySem.W.findIn K (.ref c_BadName) "__init__" = some (some (.ref f_BadName___init__)))
    (l_BadName___init__ : K.lookup f_BadName___init__ = some ⟨oc_BadName___init__, od_BadName___init__, .func (PySem.W.fnOf "__init__" "BadName.__init__" (defArgs s_BadName___init__) (defBody s_BadName___init__) (defScope s_BadName___init__) .none kV_BadName___init__ dc_BadName___init__ pm_BadName___init__ an_BadName___init__ cd_BadName___init__ ct_BadName___init__), sl_BadName___init__⟩)
    (k1_BadName___init__ : PySem.W.codeIn K cd_BadName___init__ "BadName.__init__" = true)
    (k2_BadName___init__ : PySem.W.keepIn K (.ref f_BadName___init__) = true)
    (at_DuplicateName___init__ : PySem.W.findIn K (.ref c_DuplicateName) "__init__" = some (some (.ref f_DuplicateName___init__)))
    (l_DuplicateName___init__ : K.lookup f_DuplicateName___init__ = some ⟨oc_DuplicateName___init__, od_DuplicateName___init__, .func (PySem.W.fnOf "__init__" "DuplicateName.__init__" (defArgs s_DuplicateName___init__) (defBody s_DuplicateName___init__) (defScope s_DuplicateName___init__) .none kV_DuplicateName___init__ dc_DuplicateName___init__ pm_DuplicateName___init__ an_DuplicateName___init__ cd_DuplicateName___init__ ct_DuplicateName___init__), sl_DuplicateName___init__⟩)
    (k1_DuplicateName___init__ : PySem.W.codeIn K cd_DuplicateName___init__ "DuplicateName.__init__" = true)
    (k2_DuplicateName___init__ : PySem.W.keepIn K (.ref f_DuplicateName___init__) = true)
    (at_UnknownName___init__ : PySem.W.findIn K (.ref c_UnknownName) "__init__" = some (some (.ref f_UnknownName___init__)))
    (l_UnknownName___init__ : K.lookup f_UnknownName___init__ = some ⟨oc_UnknownName___init__, od_UnknownName___init__, .func (PySem.W.fnOf "__init__" "UnknownName.__init__" (defArgs s_UnknownName___init__) (defBody s_UnknownName___init__) (defScope s_UnknownName___init__) .none kV_UnknownName___init__ dc_UnknownName___init__ pm_UnknownName___init__ an_UnknownName___init__ cd_UnknownName___init__ ct_UnknownName___init__), sl_UnknownName___init__⟩)
    (k1_UnknownName___init__ : PySem.W.codeIn K cd_UnknownName___init__ "UnknownName.__init__" = true)
    (k2_UnknownName___init__ : PySem.W.keepIn K (.ref f_UnknownName___init__) = true)
    (at_BadCount___init__ : PySem.W.findIn K (.ref c_BadCount) "__init__" = some (some (.ref f_BadCount___init__)))
    (l_BadCount___init__ : K.lookup f_BadCount___init__ = some ⟨oc_BadCount___init__, od_BadCount___init__, .func (PySem.W.fnOf "__init__" "BadCount.__init__" (defArgs s_BadCount___init__) (defBody s_BadCount___init__) (defScope s_BadCount___init__) .none kV_BadCount___init__ dc_BadCount___init__ pm_BadCount___init__ an_BadCount___init__ cd_BadCount___init__ ct_BadCount___init__), sl_BadCount___init__⟩)
    (k1_BadCount___init__ : PySem.W.codeIn K cd_BadCount___init__ "BadCount.__init__" = true)
    (k2_BadCount___init__ : PySem.W.keepIn K (.ref f_BadCount___init__) = true)
    (a_valid_name : PySem.W.nsIn K mainGlobals "valid_name" = some (some (.ref f_valid_name)))
    (l_valid_name : K.lookup f_valid_name = some ⟨oc_valid_name, od_valid_name, .func (PySem.W.fnOf "valid_name" "valid_name" (defArgs s_valid_name) (defBody s_valid_name) (defScope s_valid_name) .none kV_valid_name dc_valid_name pm_valid_name an_valid_name cd_valid_name ct_valid_name), sl_valid_name⟩)
    (k1_valid_name : PySem.W.codeIn K cd_valid_name "valid_name" = true)
    (k2_valid_name : PySem.W.keepIn K (.ref f_valid_name) = true)
    (a_check_name : PySem.W.nsIn K mainGlobals "check_name" = some (some (.ref f_check_name)))
    (l_check_name : K.lookup f_check_name = some ⟨oc_check_name, od_check_name, .func (PySem.W.fnOf "check_name" "check_name" (defArgs s_check_name) (defBody s_check_name) (defScope s_check_name) .none kV_check_name dc_check_name pm_check_name an_check_name cd_check_name ct_check_name), sl_check_name⟩)
    (k1_check_name : PySem.W.codeIn K cd_check_name "check_name" = true)
    (k2_check_name : PySem.W.keepIn K (.ref f_check_name) = true)
    (at_Book___init__ : PySem.W.findIn K (.ref c_Book) "__init__" = some (some (.ref f_Book___init__)))
    (l_Book___init__ : K.lookup f_Book___init__ = some ⟨oc_Book___init__, od_Book___init__, .func (PySem.W.fnOf "__init__" "Book.__init__" (defArgs s_Book___init__) (defBody s_Book___init__) (defScope s_Book___init__) .none kV_Book___init__ dc_Book___init__ pm_Book___init__ an_Book___init__ cd_Book___init__ ct_Book___init__), sl_Book___init__⟩)
    (k1_Book___init__ : PySem.W.codeIn K cd_Book___init__ "Book.__init__" = true)
    (k2_Book___init__ : PySem.W.keepIn K (.ref f_Book___init__) = true)
    (at_Book_order : PySem.W.findIn K (.ref c_Book) "order" = some (some (.ref p_Book_order)))
    (rc_Book_order : PySem.W.recIn K p_Book_order "property" = some (.ref f_Book_order :: rr_Book_order))
    (l_Book_order : K.lookup f_Book_order = some ⟨oc_Book_order, od_Book_order, .func (PySem.W.fnOf "order" "Book.order" (defArgs s_Book_order) (defBody s_Book_order) (defScope s_Book_order) .none kV_Book_order dc_Book_order pm_Book_order an_Book_order cd_Book_order ct_Book_order), sl_Book_order⟩)
    (k1_Book_order : PySem.W.codeIn K cd_Book_order "Book.order" = true)
    (k2_Book_order : PySem.W.keepIn K (.ref f_Book_order) = true)
    (at_Book___len__ : PySem.W.findIn K (.ref c_Book) "__len__" = some (some (.ref f_Book___len__)))
    (l_Book___len__ : K.lookup f_Book___len__ = some ⟨oc_Book___len__, od_Book___len__, .func (PySem.W.fnOf "__len__" "Book.__len__" (defArgs s_Book___len__) (defBody s_Book___len__) (defScope s_Book___len__) .none kV_Book___len__ dc_Book___len__ pm_Book___len__ an_Book___len__ cd_Book___len__ ct_Book___len__), sl_Book___len__⟩)
    (k1_Book___len__ : PySem.W.codeIn K cd_Book___len__ "Book.__len__" = true)
    (k2_Book___len__ : PySem.W.keepIn K (.ref f_Book___len__) = true)
    (at_Book___contains__ : PySem.W.findIn K (.ref c_Book) "__contains__" = some (some (.ref f_Book___contains__)))
    (l_Book___contains__ : K.lookup f_Book___contains__ = some ⟨oc_Book___contains__, od_Book___contains__, .func (PySem.W.fnOf "__contains__" "Book.__contains__" (defArgs s_Book___contains__) (defBody s_Book___contains__) (defScope s_Book___contains__) .none kV_Book___contains__ dc_Book___contains__ pm_Book___contains__ an_Book___contains__ cd_Book___contains__ ct_Book___contains__), sl_Book___contains__⟩)
    (k1_Book___contains__ : PySem.W.codeIn K cd_Book___contains__ "Book.__contains__" = true)
    (k2_Book___contains__ : PySem.W.keepIn K (.ref f_Book___contains__) = true)
    (at_Book___getitem__ : PySem.W.findIn K (.ref c_Book) "__getitem__" = some (some (.ref f_Book___getitem__)))
    (l_Book___getitem__ : K.lookup f_Book___getitem__ = some ⟨oc_Book___getitem__, od_Book___getitem__, .func (PySem.W.fnOf "__getitem__" "Book.__getitem__" (defArgs s_Book___getitem__) (defBody s_Book___getitem__) (defScope s_Book___getitem__) .none kV_Book___getitem__ dc_Book___getitem__ pm_Book___getitem__ an_Book___getitem__ cd_Book___getitem__ ct_Book___getitem__), sl_Book___getitem__⟩)
    (k1_Book___getitem__ : PySem.W.codeIn K cd_Book___getitem__ "Book.__getitem__" = true)
    (k2_Book___getitem__ : PySem.W.keepIn K (.ref f_Book___getitem__) = true)
    (at_Book___setitem__ : PySem.W.findIn K (.ref c_Book) "__setitem__" = some (some (.ref f_Book___setitem__)))
    (l_Book___setitem__ : K.lookup f_Book___setitem__ = some ⟨oc_Book___setitem__, od_Book___setitem__, .func (PySem.W.fnOf "__setitem__" "Book.__setitem__" (defArgs s_Book___setitem__) (defBody s_Book___setitem__) (defScope s_Book___setitem__) .none kV_Book___setitem__ dc_Book___setitem__ pm_Book___setitem__ an_Book___setitem__ cd_Book___setitem__ ct_Book___setitem__), sl_Book___setitem__⟩)
    (k1_Book___setitem__ : PySem.W.codeIn K cd_Book___setitem__ "Book.__setitem__" = true)
    (k2_Book___setitem__ : PySem.W.keepIn K (.ref f_Book___setitem__) = true)
    (at_Book_drop : PySem.W.findIn K (.ref c_Book) "drop" = some (some (.ref f_Book_drop)))
    (l_Book_drop : K.lookup f_Book_drop = some ⟨oc_Book_drop, od_Book_drop, .func (PySem.W.fnOf "drop" "Book.drop" (defArgs s_Book_drop) (defBody s_Book_drop) (defScope s_Book_drop) .none kV_Book_drop dc_Book_drop pm_Book_drop an_Book_drop cd_Book_drop ct_Book_drop), sl_Book_drop⟩)
    (k1_Book_drop : PySem.W.codeIn K cd_Book_drop "Book.drop" = true)
    (k2_Book_drop : PySem.W.keepIn K (.ref f_Book_drop) = true)
    (a_start : PySem.W.nsIn K mainGlobals "_law_start" = some (some (.ref f_start)))
    (l_start : K.lookup f_start = some ⟨oc_start, od_start, .func (PySem.W.fnOf "_law_start" "_law_start" (defArgs s_start) (defBody s_start) (defScope s_start) .none kV_start dc_start pm_start an_start cd_start ct_start), sl_start⟩)
    (k1_start : PySem.W.codeIn K cd_start "_law_start" = true)
    (k2_start : PySem.W.keepIn K (.ref f_start) = true)
    (a_take : PySem.W.nsIn K mainGlobals "_law_take" = some (some (.ref f_take)))
    (l_take : K.lookup f_take = some ⟨oc_take, od_take, .func (PySem.W.fnOf "_law_take" "_law_take" (defArgs s_take) (defBody s_take) (defScope s_take) .none kV_take dc_take pm_take an_take cd_take ct_take), sl_take⟩)
    (k1_take : PySem.W.codeIn K cd_take "_law_take" = true)
    (k2_take : PySem.W.keepIn K (.ref f_take) = true)
    (a_word : PySem.W.nsIn K mainGlobals "_law_word" = some (some (.ref f_word)))
    (l_word : K.lookup f_word = some ⟨oc_word, od_word, .func (PySem.W.fnOf "_law_word" "_law_word" (defArgs s_word) (defBody s_word) (defScope s_word) .none kV_word dc_word pm_word an_word cd_word ct_word), sl_word⟩)
    (k1_word : PySem.W.codeIn K cd_word "_law_word" = true)
    (k2_word : PySem.W.keepIn K (.ref f_word) = true)
    (a_good : PySem.W.nsIn K mainGlobals "_law_good" = some (some (.ref f_good)))
    (l_good : K.lookup f_good = some ⟨oc_good, od_good, .func (PySem.W.fnOf "_law_good" "_law_good" (defArgs s_good) (defBody s_good) (defScope s_good) .none kV_good dc_good pm_good an_good cd_good ct_good), sl_good⟩)
    (k1_good : PySem.W.codeIn K cd_good "_law_good" = true)
    (k2_good : PySem.W.keepIn K (.ref f_good) = true)
    (a_store : PySem.W.nsIn K mainGlobals "_law_store" = some (some (.ref f_store)))
    (l_store : K.lookup f_store = some ⟨oc_store, od_store, .func (PySem.W.fnOf "_law_store" "_law_store" (defArgs s_store) (defBody s_store) (defScope s_store) .none kV_store dc_store pm_store an_store cd_store ct_store), sl_store⟩)
    (k1_store : PySem.W.codeIn K cd_store "_law_store" = true)
    (k2_store : PySem.W.keepIn K (.ref f_store) = true)
    (a_drop : PySem.W.nsIn K mainGlobals "_law_drop" = some (some (.ref f_drop)))
    (l_drop : K.lookup f_drop = some ⟨oc_drop, od_drop, .func (PySem.W.fnOf "_law_drop" "_law_drop" (defArgs s_drop) (defBody s_drop) (defScope s_drop) .none kV_drop dc_drop pm_drop an_drop cd_drop ct_drop), sl_drop⟩)
    (k1_drop : PySem.W.codeIn K cd_drop "_law_drop" = true)
    (k2_drop : PySem.W.keepIn K (.ref f_drop) = true)
    (a_due_store : PySem.W.nsIn K mainGlobals "_law_due_store" = some (some (.ref f_due_store)))
    (l_due_store : K.lookup f_due_store = some ⟨oc_due_store, od_due_store, .func (PySem.W.fnOf "_law_due_store" "_law_due_store" (defArgs s_due_store) (defBody s_due_store) (defScope s_due_store) .none kV_due_store dc_due_store pm_due_store an_due_store cd_due_store ct_due_store), sl_due_store⟩)
    (k1_due_store : PySem.W.codeIn K cd_due_store "_law_due_store" = true)
    (k2_due_store : PySem.W.keepIn K (.ref f_due_store) = true)
    (a_stored : PySem.W.nsIn K mainGlobals "_law_stored" = some (some (.ref f_stored)))
    (l_stored : K.lookup f_stored = some ⟨oc_stored, od_stored, .func (PySem.W.fnOf "_law_stored" "_law_stored" (defArgs s_stored) (defBody s_stored) (defScope s_stored) .none kV_stored dc_stored pm_stored an_stored cd_stored ct_stored), sl_stored⟩)
    (k1_stored : PySem.W.codeIn K cd_stored "_law_stored" = true)
    (k2_stored : PySem.W.keepIn K (.ref f_stored) = true)
    (a_missing : PySem.W.nsIn K mainGlobals "_law_missing" = some (some (.ref f_missing)))
    (l_missing : K.lookup f_missing = some ⟨oc_missing, od_missing, .func (PySem.W.fnOf "_law_missing" "_law_missing" (defArgs s_missing) (defBody s_missing) (defScope s_missing) .none kV_missing dc_missing pm_missing an_missing cd_missing ct_missing), sl_missing⟩)
    (k1_missing : PySem.W.codeIn K cd_missing "_law_missing" = true)
    (k2_missing : PySem.W.keepIn K (.ref f_missing) = true)
    (a_shows : PySem.W.nsIn K mainGlobals "_law_shows" = some (some (.ref f_shows)))
    (l_shows : K.lookup f_shows = some ⟨oc_shows, od_shows, .func (PySem.W.fnOf "_law_shows" "_law_shows" (defArgs s_shows) (defBody s_shows) (defScope s_shows) .none kV_shows dc_shows pm_shows an_shows cd_shows ct_shows), sl_shows⟩)
    (k1_shows : PySem.W.codeIn K cd_shows "_law_shows" = true)
    (k2_shows : PySem.W.keepIn K (.ref f_shows) = true)
    (a_new : PySem.W.nsIn K mainGlobals "_law_new" = some (some (.ref f_new)))
    (l_new : K.lookup f_new = some ⟨oc_new, od_new, .func (PySem.W.fnOf "_law_new" "_law_new" (defArgs s_new) (defBody s_new) (defScope s_new) .none kV_new dc_new pm_new an_new cd_new ct_new), sl_new⟩)
    (k1_new : PySem.W.codeIn K cd_new "_law_new" = true)
    (k2_new : PySem.W.keepIn K (.ref f_new) = true)
    (a_new_right : PySem.W.nsIn K mainGlobals "_law_new_right" = some (some (.ref f_new_right)))
    (l_new_right : K.lookup f_new_right = some ⟨oc_new_right, od_new_right, .func (PySem.W.fnOf "_law_new_right" "_law_new_right" (defArgs s_new_right) (defBody s_new_right) (defScope s_new_right) .none kV_new_right dc_new_right pm_new_right an_new_right cd_new_right ct_new_right), sl_new_right⟩)
    (k1_new_right : PySem.W.codeIn K cd_new_right "_law_new_right" = true)
    (k2_new_right : PySem.W.keepIn K (.ref f_new_right) = true)
    (a_law : PySem.W.nsIn K mainGlobals "law" = some (some (.ref f_law)))
    (l_law : K.lookup f_law = some ⟨oc_law, od_law, .func (PySem.W.fnOf "law" "law" (defArgs s_law) (defBody s_law) (defScope s_law) .none kV_law dc_law pm_law an_law cd_law ct_law), sl_law⟩)
    (k1_law : PySem.W.codeIn K cd_law "law" = true)
    (k2_law : PySem.W.keepIn K (.ref f_law) = true)
    (h_LETTERS : PySem.W.nsIn K mainGlobals "LETTERS" = some (some (.str "abcdefghijklmnopqrstuvwxyz" t_LETTERS)))
    (h_DIGITS : PySem.W.nsIn K mainGlobals "DIGITS" = some (some (.str "0123456789" t_DIGITS)))
    (h_LONGEST : PySem.W.nsIn K mainGlobals "LONGEST" = some (some (.int 6 t_LONGEST)))
    (z_TypeError : PySem.W.nsIn K mainGlobals "TypeError" = some none)
    (z_ValueError : PySem.W.nsIn K mainGlobals "ValueError" = some none)
    (z_abs : PySem.W.nsIn K mainGlobals "abs" = some none)
    (z_all : PySem.W.nsIn K mainGlobals "all" = some none)
    (z_classmethod : PySem.W.nsIn K mainGlobals "classmethod" = some none)
    (z_int : PySem.W.nsIn K mainGlobals "int" = some none)
    (z_isinstance : PySem.W.nsIn K mainGlobals "isinstance" = some none)
    (z_len : PySem.W.nsIn K mainGlobals "len" = some none)
    (z_list : PySem.W.nsIn K mainGlobals "list" = some none)
    (z_max : PySem.W.nsIn K mainGlobals "max" = some none)
    (z_property : PySem.W.nsIn K mainGlobals "property" = some none)
    (z_range : PySem.W.nsIn K mainGlobals "range" = some none)
    (z_set : PySem.W.nsIn K mainGlobals "set" = some none)
    (z_sorted : PySem.W.nsIn K mainGlobals "sorted" = some none)
    (z_tuple : PySem.W.nsIn K mainGlobals "tuple" = some none)
    (e1_ExtralinkError : PySem.W.readsIn K c_ExtralinkError (.type "type") = true)
    (e2_ExtralinkError : PySem.W.specialIn K (.ref c_ExtralinkError) "__getattribute__" = some (some (.builtin "type.__getattribute__")))
    (e3_ExtralinkError : PySem.W.findCls K (.ref c_ExtralinkError) (.type "type") "__init__" = some (.val (.builtin "ValueError.__init__")))
    (x1_BadName : K.lookup c_BadName = some (excClassObj xn_BadName xq_BadName c_BadName xN_BadName xb_BadName xm_BadName true xs_BadName xu_BadName xa_BadName xc_BadName xd_BadName x0_BadName xi_BadName x2_BadName x3_BadName x5_BadName "ValueError.__new__"))
    (x6_BadName : PySem.HandSPX.refsVE xm_BadName = true)
    (x7_BadName : PySem.W.findIn K (.ref c_BadName) "__setattr__" = some (some (.builtin "object.__setattr__")))
    (x8_BadName : PySem.W.subIn K (.ref c_BadName) (.type "BaseException") = some true)
    (x9_BadName : PySem.W.typeIn K (.ref c_BadName) = some (.type "type"))
    (xk_BadName : PySem.W.keepIn K (.ref c_BadName) = true)
    (xt_BadName : PySem.W.typeIn K (.ref f_BadName___init__) = some (.type "function"))
    (hn_BadName_name : PySem.W.findIn K (.ref c_BadName) "name" = some none)
    (y1_BadName : PySem.W.findIn K (.ref c_BadName) "__getattribute__" = some (some (.builtin "BaseException.__getattribute__")))
    (y2_BadName : PySem.W.findIn K (.ref c_BadName) "__getattr__" = some none)
    (y4_BadName : PySem.W.hasDictIn K c_BadName = true)
    (z1_BadName : PySem.W.isClsIn K c_BadName = true)
    (z2_BadName : PySem.W.subIn K (.ref c_BadName) (.ref c_BadName) = some true)
    (z3_BadName_BadCount : PySem.W.subIn K (.ref c_BadName) (.ref c_BadCount) = some false)
    (z3_BadName_DuplicateName : PySem.W.subIn K (.ref c_BadName) (.ref c_DuplicateName) = some false)
    (ht1_BadName : PySem.W.findIn K (.ref c_BadName) "__class__" = some (some (.builtin "object.__class__")))
    (ht2_BadName : PySem.W.specialIn K (.builtin "object.__class__") "__get__" = some (some (.builtin "getset_descriptor.__get__")))
    (ht3_BadName : PySem.W.takesIn K (.builtin "object.__class__") = some true)
    (ht4_BadName : PySem.W.mroIn K c_BadName (.type "object") = some true)
    (x1_DuplicateName : K.lookup c_DuplicateName = some (excClassObj xn_DuplicateName xq_DuplicateName c_DuplicateName xN_DuplicateName xb_DuplicateName xm_DuplicateName true xs_DuplicateName xu_DuplicateName xa_DuplicateName xc_DuplicateName xd_DuplicateName x0_DuplicateName xi_DuplicateName x2_DuplicateName x3_DuplicateName x5_DuplicateName "ValueError.__new__"))
    (x6_DuplicateName : PySem.HandSPX.refsVE xm_DuplicateName = true)
    (x7_DuplicateName : PySem.W.findIn K (.ref c_DuplicateName) "__setattr__" = some (some (.builtin "object.__setattr__")))
    (x8_DuplicateName : PySem.W.subIn K (.ref c_DuplicateName) (.type "BaseException") = some true)
    (x9_DuplicateName : PySem.W.typeIn K (.ref c_DuplicateName) = some (.type "type"))
    (xk_DuplicateName : PySem.W.keepIn K (.ref c_DuplicateName) = true)
    (xt_DuplicateName : PySem.W.typeIn K (.ref f_DuplicateName___init__) = some (.type "function"))
    (hn_DuplicateName_name : PySem.W.findIn K (.ref c_DuplicateName) "name" = some none)
    (y1_DuplicateName : PySem.W.findIn K (.ref c_DuplicateName) "__getattribute__" = some (some (.builtin "BaseException.__getattribute__")))
    (y2_DuplicateName : PySem.W.findIn K (.ref c_DuplicateName) "__getattr__" = some none)
    (y4_DuplicateName : PySem.W.hasDictIn K c_DuplicateName = true)
    (z1_DuplicateName : PySem.W.isClsIn K c_DuplicateName = true)
    (z2_DuplicateName : PySem.W.subIn K (.ref c_DuplicateName) (.ref c_DuplicateName) = some true)
    (z3_DuplicateName_BadName : PySem.W.subIn K (.ref c_DuplicateName) (.ref c_BadName) = some false)
    (ht1_DuplicateName : PySem.W.findIn K (.ref c_DuplicateName) "__class__" = some (some (.builtin "object.__class__")))
    (ht2_DuplicateName : PySem.W.specialIn K (.builtin "object.__class__") "__get__" = some (some (.builtin "getset_descriptor.__get__")))
    (ht3_DuplicateName : PySem.W.takesIn K (.builtin "object.__class__") = some true)
    (ht4_DuplicateName : PySem.W.mroIn K c_DuplicateName (.type "object") = some true)
    (x1_UnknownName : K.lookup c_UnknownName = some (excClassObj xn_UnknownName xq_UnknownName c_UnknownName xN_UnknownName xb_UnknownName xm_UnknownName true xs_UnknownName xu_UnknownName xa_UnknownName xc_UnknownName xd_UnknownName x0_UnknownName xi_UnknownName x2_UnknownName x3_UnknownName x5_UnknownName "ValueError.__new__"))
    (x6_UnknownName : PySem.HandSPX.refsVE xm_UnknownName = true)
    (x7_UnknownName : PySem.W.findIn K (.ref c_UnknownName) "__setattr__" = some (some (.builtin "object.__setattr__")))
    (x8_UnknownName : PySem.W.subIn K (.ref c_UnknownName) (.type "BaseException") = some true)
    (x9_UnknownName : PySem.W.typeIn K (.ref c_UnknownName) = some (.type "type"))
    (xk_UnknownName : PySem.W.keepIn K (.ref c_UnknownName) = true)
    (xt_UnknownName : PySem.W.typeIn K (.ref f_UnknownName___init__) = some (.type "function"))
    (hn_UnknownName_name : PySem.W.findIn K (.ref c_UnknownName) "name" = some none)
    (y1_UnknownName : PySem.W.findIn K (.ref c_UnknownName) "__getattribute__" = some (some (.builtin "BaseException.__getattribute__")))
    (y2_UnknownName : PySem.W.findIn K (.ref c_UnknownName) "__getattr__" = some none)
    (y4_UnknownName : PySem.W.hasDictIn K c_UnknownName = true)
    (z1_UnknownName : PySem.W.isClsIn K c_UnknownName = true)
    (z2_UnknownName : PySem.W.subIn K (.ref c_UnknownName) (.ref c_UnknownName) = some true)
    (ht1_UnknownName : PySem.W.findIn K (.ref c_UnknownName) "__class__" = some (some (.builtin "object.__class__")))
    (ht2_UnknownName : PySem.W.specialIn K (.builtin "object.__class__") "__get__" = some (some (.builtin "getset_descriptor.__get__")))
    (ht3_UnknownName : PySem.W.takesIn K (.builtin "object.__class__") = some true)
    (ht4_UnknownName : PySem.W.mroIn K c_UnknownName (.type "object") = some true)
    (x1_BadCount : K.lookup c_BadCount = some (excClassObj xn_BadCount xq_BadCount c_BadCount xN_BadCount xb_BadCount xm_BadCount true xs_BadCount xu_BadCount xa_BadCount xc_BadCount xd_BadCount x0_BadCount xi_BadCount x2_BadCount x3_BadCount x5_BadCount "ValueError.__new__"))
    (x6_BadCount : PySem.HandSPX.refsVE xm_BadCount = true)
    (x7_BadCount : PySem.W.findIn K (.ref c_BadCount) "__setattr__" = some (some (.builtin "object.__setattr__")))
    (x8_BadCount : PySem.W.subIn K (.ref c_BadCount) (.type "BaseException") = some true)
    (x9_BadCount : PySem.W.typeIn K (.ref c_BadCount) = some (.type "type"))
    (xk_BadCount : PySem.W.keepIn K (.ref c_BadCount) = true)
    (xt_BadCount : PySem.W.typeIn K (.ref f_BadCount___init__) = some (.type "function"))
    (hn_BadCount_count : PySem.W.findIn K (.ref c_BadCount) "count" = some none)
    (y1_BadCount : PySem.W.findIn K (.ref c_BadCount) "__getattribute__" = some (some (.builtin "BaseException.__getattribute__")))
    (y2_BadCount : PySem.W.findIn K (.ref c_BadCount) "__getattr__" = some none)
    (y4_BadCount : PySem.W.hasDictIn K c_BadCount = true)
    (z1_BadCount : PySem.W.isClsIn K c_BadCount = true)
    (z2_BadCount : PySem.W.subIn K (.ref c_BadCount) (.ref c_BadCount) = some true)
    (z3_BadCount_BadName : PySem.W.subIn K (.ref c_BadCount) (.ref c_BadName) = some false)
    (ht1_BadCount : PySem.W.findIn K (.ref c_BadCount) "__class__" = some (some (.builtin "object.__class__")))
    (ht2_BadCount : PySem.W.specialIn K (.builtin "object.__class__") "__get__" = some (some (.builtin "getset_descriptor.__get__")))
    (ht3_BadCount : PySem.W.takesIn K (.builtin "object.__class__") = some true)
    (ht4_BadCount : PySem.W.mroIn K c_BadCount (.type "object") = some true)
    (h1_Network : PySem.W.plainGet K c_Network Str.empty = true)
    (h2_Network : PySem.W.hasDictIn K c_Network = true)
    (h3_Network : PySem.W.plainOver K c_Network = true)
    (h4_Network : PySem.W.findIn K (.ref c_Network) "__setattr__" = some (some (.builtin "object.__setattr__")))
    (hk1_Network_MOST_LINKS : PySem.W.readsIn K c_Network (.type "type") = true)
    (hk2_Network_MOST_LINKS : PySem.W.specialIn K (.ref c_Network) "__getattribute__" = some (some (.builtin "type.__getattribute__")))
    (hk3_Network_MOST_LINKS : PySem.W.findCls K (.ref c_Network) (.type "type") "MOST_LINKS" = some (.val (.int 10 tk_Network_MOST_LINKS)))
    (h1_Book : PySem.W.plainGet K c_Book Str.empty = true)
    (h2_Book : PySem.W.hasDictIn K c_Book = true)
    (h3_Book : PySem.W.plainOver K c_Book = true)
    (h4_Book : PySem.W.findIn K (.ref c_Book) "__setattr__" = some (some (.builtin "object.__setattr__")))
    (h5_Book : PySem.W.makesIn K c_Book = true)
    (h6_Book : PySem.W.isFn K (.ref f_Book___init__) = true)
    (h7_Book : PySem.W.keepIn K (.ref c_Book) = true)
    (hn_Book_ends : PySem.W.findIn K (.ref c_Book) "ends" = some none)
    (hn_Book_entries : PySem.W.findIn K (.ref c_Book) "entries" = some none)
    (hn_Book_past : PySem.W.findIn K (.ref c_Book) "past" = some none)
    (hm_Book___len__ : PySem.W.isFn K (.ref f_Book___len__) = true)
    (hm_Book___contains__ : PySem.W.isFn K (.ref f_Book___contains__) = true)
    (hm_Book___getitem__ : PySem.W.isFn K (.ref f_Book___getitem__) = true)
    (hm_Book___setitem__ : PySem.W.isFn K (.ref f_Book___setitem__) = true)
    (hm_Book_drop : PySem.W.isFn K (.ref f_Book_drop) = true)
    (hp1_Book_order : PySem.W.specialIn K (.ref p_Book_order) "__get__" = some (some (.builtin "property.__get__")))
    (hp2_Book_order : PySem.W.takesIn K (.ref p_Book_order) = some true)
    (ht1_Book : PySem.W.findIn K (.ref c_Book) "__class__" = some (some (.builtin "object.__class__")))
    (ht2_Book : PySem.W.specialIn K (.builtin "object.__class__") "__get__" = some (some (.builtin "getset_descriptor.__get__")))
    (ht3_Book : PySem.W.takesIn K (.builtin "object.__class__") = some true)
    (ht4_Book : PySem.W.mroIn K c_Book (.type "object") = some true)
    (h_isa_Book_Book : PySem.W.kitOne K (.ref c_Book) (.ref c_Book) = some true)
    (hgi_Book : PySem.W.fnIn K f_Book___getitem__ = true)
    (h_ns_Book : PySem.W.noSeq K c_Book = true)
    : ∃ fd : FuncData, (∀ (s : Shared) (v : Value), BindsTo s fd ⟨[v], []⟩ [("_law_script", v)]) ∧ ∀ base : Heap, K.In base → base.Ns mainGlobals mg → FnOk l.prog w K mg base (L2.CX l.prog w) 8 fa fd ["_law_script"] (spLaw K) := by
  have e := hfa.symm.trans (PySem.W.mg_of X G a_law)
  have e2 : fa = f_law := Value.ref.inj (Option.some.inj e)
  rw [e2]
  have T : GG K mg := {
    c_ExtralinkError := c_ExtralinkError
    g_ExtralinkError := PySem.W.mg_of X G gc_ExtralinkError
    c_BadName := c_BadName
    g_BadName := PySem.W.mg_of X G gc_BadName
    c_DuplicateName := c_DuplicateName
    g_DuplicateName := PySem.W.mg_of X G gc_DuplicateName
    c_UnknownName := c_UnknownName
    g_UnknownName := PySem.W.mg_of X G gc_UnknownName
    c_BadCount := c_BadCount
    g_BadCount := PySem.W.mg_of X G gc_BadCount
    c_Network := c_Network
    g_Network := PySem.W.mg_of X G gc_Network
    c_Book := c_Book
    g_Book := PySem.W.mg_of X G gc_Book
    a_BadName___init__ := f_BadName___init__
    fd_BadName___init__ := PySem.W.fnOf "__init__" "BadName.__init__" (defArgs s_BadName___init__) (defBody s_BadName___init__) (defScope s_BadName___init__) .none kV_BadName___init__ dc_BadName___init__ pm_BadName___init__ an_BadName___init__ cd_BadName___init__ ct_BadName___init__
    F_BadName___init__ := fun_mk (st := s_BadName___init__) l_BadName___init__ k1_BadName___init__ k2_BadName___init__
    a_DuplicateName___init__ := f_DuplicateName___init__
    fd_DuplicateName___init__ := PySem.W.fnOf "__init__" "DuplicateName.__init__" (defArgs s_DuplicateName___init__) (defBody s_DuplicateName___init__) (defScope s_DuplicateName___init__) .none kV_DuplicateName___init__ dc_DuplicateName___init__ pm_DuplicateName___init__ an_DuplicateName___init__ cd_DuplicateName___init__ ct_DuplicateName___init__
    F_DuplicateName___init__ := fun_mk (st := s_DuplicateName___init__) l_DuplicateName___init__ k1_DuplicateName___init__ k2_DuplicateName___init__
    a_UnknownName___init__ := f_UnknownName___init__
    fd_UnknownName___init__ := PySem.W.fnOf "__init__" "UnknownName.__init__" (defArgs s_UnknownName___init__) (defBody s_UnknownName___init__) (defScope s_UnknownName___init__) .none kV_UnknownName___init__ dc_UnknownName___init__ pm_UnknownName___init__ an_UnknownName___init__ cd_UnknownName___init__ ct_UnknownName___init__
    F_UnknownName___init__ := fun_mk (st := s_UnknownName___init__) l_UnknownName___init__ k1_UnknownName___init__ k2_UnknownName___init__
    a_BadCount___init__ := f_BadCount___init__
    fd_BadCount___init__ := PySem.W.fnOf "__init__" "BadCount.__init__" (defArgs s_BadCount___init__) (defBody s_BadCount___init__) (defScope s_BadCount___init__) .none kV_BadCount___init__ dc_BadCount___init__ pm_BadCount___init__ an_BadCount___init__ cd_BadCount___init__ ct_BadCount___init__
    F_BadCount___init__ := fun_mk (st := s_BadCount___init__) l_BadCount___init__ k1_BadCount___init__ k2_BadCount___init__
    a_valid_name := f_valid_name
    fd_valid_name := PySem.W.fnOf "valid_name" "valid_name" (defArgs s_valid_name) (defBody s_valid_name) (defScope s_valid_name) .none kV_valid_name dc_valid_name pm_valid_name an_valid_name cd_valid_name ct_valid_name
    F_valid_name := fun_mk (st := s_valid_name) l_valid_name k1_valid_name k2_valid_name
    m_valid_name := PySem.W.mg_of X G a_valid_name
    a_check_name := f_check_name
    fd_check_name := PySem.W.fnOf "check_name" "check_name" (defArgs s_check_name) (defBody s_check_name) (defScope s_check_name) .none kV_check_name dc_check_name pm_check_name an_check_name cd_check_name ct_check_name
    F_check_name := fun_mk (st := s_check_name) l_check_name k1_check_name k2_check_name
    m_check_name := PySem.W.mg_of X G a_check_name
    a_Book___init__ := f_Book___init__
    fd_Book___init__ := PySem.W.fnOf "__init__" "Book.__init__" (defArgs s_Book___init__) (defBody s_Book___init__) (defScope s_Book___init__) .none kV_Book___init__ dc_Book___init__ pm_Book___init__ an_Book___init__ cd_Book___init__ ct_Book___init__
    F_Book___init__ := fun_mk (st := s_Book___init__) l_Book___init__ k1_Book___init__ k2_Book___init__
    a_Book_order := f_Book_order
    fd_Book_order := PySem.W.fnOf "order" "Book.order" (defArgs s_Book_order) (defBody s_Book_order) (defScope s_Book_order) .none kV_Book_order dc_Book_order pm_Book_order an_Book_order cd_Book_order ct_Book_order
    F_Book_order := fun_mk (st := s_Book_order) l_Book_order k1_Book_order k2_Book_order
    a_Book___len__ := f_Book___len__
    fd_Book___len__ := PySem.W.fnOf "__len__" "Book.__len__" (defArgs s_Book___len__) (defBody s_Book___len__) (defScope s_Book___len__) .none kV_Book___len__ dc_Book___len__ pm_Book___len__ an_Book___len__ cd_Book___len__ ct_Book___len__
    F_Book___len__ := fun_mk (st := s_Book___len__) l_Book___len__ k1_Book___len__ k2_Book___len__
    a_Book___contains__ := f_Book___contains__
    fd_Book___contains__ := PySem.W.fnOf "__contains__" "Book.__contains__" (defArgs s_Book___contains__) (defBody s_Book___contains__) (defScope s_Book___contains__) .none kV_Book___contains__ dc_Book___contains__ pm_Book___contains__ an_Book___contains__ cd_Book___contains__ ct_Book___contains__
    F_Book___contains__ := fun_mk (st := s_Book___contains__) l_Book___contains__ k1_Book___contains__ k2_Book___contains__
    a_Book___getitem__ := f_Book___getitem__
    fd_Book___getitem__ := PySem.W.fnOf "__getitem__" "Book.__getitem__" (defArgs s_Book___getitem__) (defBody s_Book___getitem__) (defScope s_Book___getitem__) .none kV_Book___getitem__ dc_Book___getitem__ pm_Book___getitem__ an_Book___getitem__ cd_Book___getitem__ ct_Book___getitem__
    F_Book___getitem__ := fun_mk (st := s_Book___getitem__) l_Book___getitem__ k1_Book___getitem__ k2_Book___getitem__
    a_Book___setitem__ := f_Book___setitem__
    fd_Book___setitem__ := PySem.W.fnOf "__setitem__" "Book.__setitem__" (defArgs s_Book___setitem__) (defBody s_Book___setitem__) (defScope s_Book___setitem__) .none kV_Book___setitem__ dc_Book___setitem__ pm_Book___setitem__ an_Book___setitem__ cd_Book___setitem__ ct_Book___setitem__
    F_Book___setitem__ := fun_mk (st := s_Book___setitem__) l_Book___setitem__ k1_Book___setitem__ k2_Book___setitem__
    a_Book_drop := f_Book_drop
    fd_Book_drop := PySem.W.fnOf "drop" "Book.drop" (defArgs s_Book_drop) (defBody s_Book_drop) (defScope s_Book_drop) .none kV_Book_drop dc_Book_drop pm_Book_drop an_Book_drop cd_Book_drop ct_Book_drop
    F_Book_drop := fun_mk (st := s_Book_drop) l_Book_drop k1_Book_drop k2_Book_drop
    a_start := f_start
    fd_start := PySem.W.fnOf "_law_start" "_law_start" (defArgs s_start) (defBody s_start) (defScope s_start) .none kV_start dc_start pm_start an_start cd_start ct_start
    F_start := fun_mk (st := s_start) l_start k1_start k2_start
    m_start := PySem.W.mg_of X G a_start
    a_take := f_take
    fd_take := PySem.W.fnOf "_law_take" "_law_take" (defArgs s_take) (defBody s_take) (defScope s_take) .none kV_take dc_take pm_take an_take cd_take ct_take
    F_take := fun_mk (st := s_take) l_take k1_take k2_take
    m_take := PySem.W.mg_of X G a_take
    a_word := f_word
    fd_word := PySem.W.fnOf "_law_word" "_law_word" (defArgs s_word) (defBody s_word) (defScope s_word) .none kV_word dc_word pm_word an_word cd_word ct_word
    F_word := fun_mk (st := s_word) l_word k1_word k2_word
    m_word := PySem.W.mg_of X G a_word
    a_good := f_good
    fd_good := PySem.W.fnOf "_law_good" "_law_good" (defArgs s_good) (defBody s_good) (defScope s_good) .none kV_good dc_good pm_good an_good cd_good ct_good
    F_good := fun_mk (st := s_good) l_good k1_good k2_good
    m_good := PySem.W.mg_of X G a_good
    a_store := f_store
    fd_store := PySem.W.fnOf "_law_store" "_law_store" (defArgs s_store) (defBody s_store) (defScope s_store) .none kV_store dc_store pm_store an_store cd_store ct_store
    F_store := fun_mk (st := s_store) l_store k1_store k2_store
    m_store := PySem.W.mg_of X G a_store
    a_drop := f_drop
    fd_drop := PySem.W.fnOf "_law_drop" "_law_drop" (defArgs s_drop) (defBody s_drop) (defScope s_drop) .none kV_drop dc_drop pm_drop an_drop cd_drop ct_drop
    F_drop := fun_mk (st := s_drop) l_drop k1_drop k2_drop
    m_drop := PySem.W.mg_of X G a_drop
    a_due_store := f_due_store
    fd_due_store := PySem.W.fnOf "_law_due_store" "_law_due_store" (defArgs s_due_store) (defBody s_due_store) (defScope s_due_store) .none kV_due_store dc_due_store pm_due_store an_due_store cd_due_store ct_due_store
    F_due_store := fun_mk (st := s_due_store) l_due_store k1_due_store k2_due_store
    m_due_store := PySem.W.mg_of X G a_due_store
    a_stored := f_stored
    fd_stored := PySem.W.fnOf "_law_stored" "_law_stored" (defArgs s_stored) (defBody s_stored) (defScope s_stored) .none kV_stored dc_stored pm_stored an_stored cd_stored ct_stored
    F_stored := fun_mk (st := s_stored) l_stored k1_stored k2_stored
    m_stored := PySem.W.mg_of X G a_stored
    a_missing := f_missing
    fd_missing := PySem.W.fnOf "_law_missing" "_law_missing" (defArgs s_missing) (defBody s_missing) (defScope s_missing) .none kV_missing dc_missing pm_missing an_missing cd_missing ct_missing
    F_missing := fun_mk (st := s_missing) l_missing k1_missing k2_missing
    m_missing := PySem.W.mg_of X G a_missing
    a_shows := f_shows
    fd_shows := PySem.W.fnOf "_law_shows" "_law_shows" (defArgs s_shows) (defBody s_shows) (defScope s_shows) .none kV_shows dc_shows pm_shows an_shows cd_shows ct_shows
    F_shows := fun_mk (st := s_shows) l_shows k1_shows k2_shows
    m_shows := PySem.W.mg_of X G a_shows
    a_new := f_new
    fd_new := PySem.W.fnOf "_law_new" "_law_new" (defArgs s_new) (defBody s_new) (defScope s_new) .none kV_new dc_new pm_new an_new cd_new ct_new
    F_new := fun_mk (st := s_new) l_new k1_new k2_new
    m_new := PySem.W.mg_of X G a_new
    a_new_right := f_new_right
    fd_new_right := PySem.W.fnOf "_law_new_right" "_law_new_right" (defArgs s_new_right) (defBody s_new_right) (defScope s_new_right) .none kV_new_right dc_new_right pm_new_right an_new_right cd_new_right ct_new_right
    F_new_right := fun_mk (st := s_new_right) l_new_right k1_new_right k2_new_right
    m_new_right := PySem.W.mg_of X G a_new_right
    a_law := f_law
    fd_law := PySem.W.fnOf "law" "law" (defArgs s_law) (defBody s_law) (defScope s_law) .none kV_law dc_law pm_law an_law cd_law ct_law
    F_law := fun_mk (st := s_law) l_law k1_law k2_law
    m_law := PySem.W.mg_of X G a_law
    g_LETTERS := ⟨_, PySem.W.mg_of X G h_LETTERS, ⟨_, rfl⟩⟩
    g_DIGITS := ⟨_, PySem.W.mg_of X G h_DIGITS, ⟨_, rfl⟩⟩
    g_LONGEST := ⟨_, PySem.W.mg_of X G h_LONGEST, ⟨_, rfl⟩⟩
    z_TypeError := PySem.W.mg_none_of X G z_TypeError
    z_ValueError := PySem.W.mg_none_of X G z_ValueError
    z_abs := PySem.W.mg_none_of X G z_abs
    z_all := PySem.W.mg_none_of X G z_all
    z_classmethod := PySem.W.mg_none_of X G z_classmethod
    z_int := PySem.W.mg_none_of X G z_int
    z_isinstance := PySem.W.mg_none_of X G z_isinstance
    z_len := PySem.W.mg_none_of X G z_len
    z_list := PySem.W.mg_none_of X G z_list
    z_max := PySem.W.mg_none_of X G z_max
    z_property := PySem.W.mg_none_of X G z_property
    z_range := PySem.W.mg_none_of X G z_range
    z_set := PySem.W.mg_none_of X G z_set
    z_sorted := PySem.W.mg_none_of X G z_sorted
    z_tuple := PySem.W.mg_none_of X G z_tuple
    ei_ExtralinkError := ⟨(.type "type"), ⟨e1_ExtralinkError, e2_ExtralinkError⟩, e3_ExtralinkError⟩
    ox_BadName := ⟨⟨_, _, _, _, _, _, _, _, _, _, _, _, _, _, _, x1_BadName, x6_BadName⟩, x7_BadName, x8_BadName, x9_BadName, xk_BadName⟩
    in_BadName := ⟨at_BadName___init__, xt_BadName⟩
    no_BadName_name := hn_BadName_name
    xf_BadName := ⟨y1_BadName, y2_BadName, x8_BadName, y4_BadName⟩
    te_BadName := PySem.W.exm_ref x8_BadName y4_BadName x9_BadName z2_BadName
    tn_BadName_BadCount := PySem.W.exm_ref x8_BadCount y4_BadCount x9_BadCount z3_BadName_BadCount
    tn_BadName_DuplicateName := PySem.W.exm_ref x8_DuplicateName y4_DuplicateName x9_DuplicateName z3_BadName_DuplicateName
    ty_BadName := ⟨ht1_BadName, ht2_BadName, ht3_BadName, ht4_BadName⟩
    ox_DuplicateName := ⟨⟨_, _, _, _, _, _, _, _, _, _, _, _, _, _, _, x1_DuplicateName, x6_DuplicateName⟩, x7_DuplicateName, x8_DuplicateName, x9_DuplicateName, xk_DuplicateName⟩
    in_DuplicateName := ⟨at_DuplicateName___init__, xt_DuplicateName⟩
    no_DuplicateName_name := hn_DuplicateName_name
    xf_DuplicateName := ⟨y1_DuplicateName, y2_DuplicateName, x8_DuplicateName, y4_DuplicateName⟩
    te_DuplicateName := PySem.W.exm_ref x8_DuplicateName y4_DuplicateName x9_DuplicateName z2_DuplicateName
    tn_DuplicateName_BadName := PySem.W.exm_ref x8_BadName y4_BadName x9_BadName z3_DuplicateName_BadName
    ty_DuplicateName := ⟨ht1_DuplicateName, ht2_DuplicateName, ht3_DuplicateName, ht4_DuplicateName⟩
    ox_UnknownName := ⟨⟨_, _, _, _, _, _, _, _, _, _, _, _, _, _, _, x1_UnknownName, x6_UnknownName⟩, x7_UnknownName, x8_UnknownName, x9_UnknownName, xk_UnknownName⟩
    in_UnknownName := ⟨at_UnknownName___init__, xt_UnknownName⟩
    no_UnknownName_name := hn_UnknownName_name
    xf_UnknownName := ⟨y1_UnknownName, y2_UnknownName, x8_UnknownName, y4_UnknownName⟩
    te_UnknownName := PySem.W.exm_ref x8_UnknownName y4_UnknownName x9_UnknownName z2_UnknownName
    ty_UnknownName := ⟨ht1_UnknownName, ht2_UnknownName, ht3_UnknownName, ht4_UnknownName⟩
    ox_BadCount := ⟨⟨_, _, _, _, _, _, _, _, _, _, _, _, _, _, _, x1_BadCount, x6_BadCount⟩, x7_BadCount, x8_BadCount, x9_BadCount, xk_BadCount⟩
    in_BadCount := ⟨at_BadCount___init__, xt_BadCount⟩
    no_BadCount_count := hn_BadCount_count
    xf_BadCount := ⟨y1_BadCount, y2_BadCount, x8_BadCount, y4_BadCount⟩
    te_BadCount := PySem.W.exm_ref x8_BadCount y4_BadCount x9_BadCount z2_BadCount
    tn_BadCount_BadName := PySem.W.exm_ref x8_BadName y4_BadName x9_BadName z3_BadCount_BadName
    ty_BadCount := ⟨ht1_BadCount, ht2_BadCount, ht3_BadCount, ht4_BadCount⟩
    cl_Network := ⟨h1_Network, h2_Network, h3_Network, h4_Network⟩
    cc_Network_MOST_LINKS := ⟨(.type "type"), _, ⟨hk1_Network_MOST_LINKS, hk2_Network_MOST_LINKS⟩, ⟨hk3_Network_MOST_LINKS, ⟨_, rfl⟩⟩⟩
    cl_Book := ⟨h1_Book, h2_Book, h3_Book, h4_Book⟩
    mk_Book := ⟨h5_Book, at_Book___init__, h6_Book, h7_Book⟩
    no_Book_ends := hn_Book_ends
    no_Book_entries := hn_Book_entries
    no_Book_past := hn_Book_past
    me_Book___len__ := ⟨at_Book___len__, hm_Book___len__, k2_Book___len__⟩
    me_Book___contains__ := ⟨at_Book___contains__, hm_Book___contains__, k2_Book___contains__⟩
    me_Book___getitem__ := ⟨at_Book___getitem__, hm_Book___getitem__, k2_Book___getitem__⟩
    me_Book___setitem__ := ⟨at_Book___setitem__, hm_Book___setitem__, k2_Book___setitem__⟩
    me_Book_drop := ⟨at_Book_drop, hm_Book_drop, k2_Book_drop⟩
    pr_Book_order := ⟨p_Book_order, at_Book_order, hp1_Book_order, hp2_Book_order, _, rc_Book_order⟩
    ty_Book := ⟨ht1_Book, ht2_Book, ht3_Book, ht4_Book⟩
    isa_Book_Book := h_isa_Book_Book
    gi_Book := ⟨_, at_Book___getitem__, hgi_Book⟩
    ns_Book := h_ns_Book }
  have hlaw : ∀ base : Heap, FnOk l.prog w K mg base (L2.CX l.prog w) 8 f_law (PySem.W.fnOf "law" "law" (defArgs s_law) (defBody s_law) (defScope s_law) .none kV_law dc_law pm_law an_law cd_law ct_law) ["_law_script"] (spLaw K) := fun base => ok_law_of (T := T) (fun_mk (st := s_law) l_law k1_law k2_law)
  exact ⟨_, fun s v => .of_eq rfl, fun base _ _ => hlaw base⟩
theorem walk {l : PySem.W.OpenLaw} {q : Program} {loose : List Str} {XP : (Str → Option Value) → Heap → Prop} {YP : World → Heap → Prop} {d : DefRec} {K : Params → PySem.W.Frag} (hn : l.most = some 63) (hdf : d.params.defaults = [])
    (hY : ∀ (w : World) (h : Heap), YP w h → (K w.params).In h)
    (F : ∀ (w : World) (mg : Str → Option Value) (fa : Addr) (h : Heap), (K w.params).In h → h.Ns mainGlobals mg → mg d.name = some (.ref fa) →
      ∃ fd : FuncData, (∀ (s : Shared) (u : Value), BindsTo s fd ⟨[u], []⟩ [("_law_script", u)]) ∧ ∀ base : Heap, (K w.params).In base → base.Ns mainGlobals mg → FnOk l.prog w (K w.params) mg base (L2.CX l.prog w) 8 fa fd ["_law_script"] (spLaw (K w.params))) :
    PySem.W.WalkO q loose XP YP l.row.toRowW d [] (fun f vs => PySem.call f vs) :=
  L2.walk_of (n := 63) (k := 8) (x := "_law_script") (CX := fun w => L2.CX l.prog w) (sp := fun w => spLaw (K w.params)) hn (by decide) hdf ⟨rfl, by decide, by decide⟩ hY F (fun _ _ a ns hl _ hS => ⟨a, ns, rfl, hS, hl, fun _ => rfl⟩) fun _ _ _ _ _ z => by
    obtain ⟨_, _, _, _, _, _, _, _, _, _, _, _, z⟩ := z
    exact z
end Xl
open PySem PySem.W PyProof.Rows
set_option maxRecDepth 100000 in
set_option maxHeartbeats 0 in
theorem PySem.Challenge.cw_extralink_k92_book_refusals_holds : PySem.Challenge.rw_extralink_k92_book_refusals.Holds := by
  w_on; o_law; k_head; (case hw => w_witness2)
  k_fill
  refine Xl.walk (l := PySem.Challenge.rw_extralink_k92_book_refusals) rfl rfl (fun w h Y => PySem.W.kIn_of Y) ?F
  case F =>
    intro w mg fa h KX G hmg
    refine' Xl.all_mk KX G hmg ?gc_ExtralinkError ?gc_BadName ?gc_DuplicateName ?gc_UnknownName ?gc_BadCount ?gc_Network ?gc_Book ?at_BadName___init__ ?l_BadName___init__ ?k1_BadName___init__ ?k2_BadName___init__ ?at_DuplicateName___init__ ?l_DuplicateName___init__ ?k1_DuplicateName___init__ ?k2_DuplicateName___init__ ?at_UnknownName___init__ ?l_UnknownName___init__ ?k1_UnknownName___init__ ?k2_UnknownName___init__ ?at_BadCount___init__ ?l_BadCount___init__ ?k1_BadCount___init__ ?k2_BadCount___init__ ?a_valid_name ?l_valid_name ?k1_valid_name ?k2_valid_name ?a_check_name ?l_check_name ?k1_check_name ?k2_check_name ?at_Book___init__ ?l_Book___init__ ?k1_Book___init__ ?k2_Book___init__ ?at_Book_order ?rc_Book_order ?l_Book_order ?k1_Book_order ?k2_Book_order ?at_Book___len__ ?l_Book___len__ ?k1_Book___len__ ?k2_Book___len__ ?at_Book___contains__ ?l_Book___contains__ ?k1_Book___contains__ ?k2_Book___contains__ ?at_Book___getitem__ ?l_Book___getitem__ ?k1_Book___getitem__ ?k2_Book___getitem__ ?at_Book___setitem__ ?l_Book___setitem__ ?k1_Book___setitem__ ?k2_Book___setitem__ ?at_Book_drop ?l_Book_drop ?k1_Book_drop ?k2_Book_drop ?a_start ?l_start ?k1_start ?k2_start ?a_take ?l_take ?k1_take ?k2_take ?a_word ?l_word ?k1_word ?k2_word ?a_good ?l_good ?k1_good ?k2_good ?a_store ?l_store ?k1_store ?k2_store ?a_drop ?l_drop ?k1_drop ?k2_drop ?a_due_store ?l_due_store ?k1_due_store ?k2_due_store ?a_stored ?l_stored ?k1_stored ?k2_stored ?a_missing ?l_missing ?k1_missing ?k2_missing ?a_shows ?l_shows ?k1_shows ?k2_shows ?a_new ?l_new ?k1_new ?k2_new ?a_new_right ?l_new_right ?k1_new_right ?k2_new_right ?a_law ?l_law ?k1_law ?k2_law ?h_LETTERS ?h_DIGITS ?h_LONGEST ?z_TypeError ?z_ValueError ?z_abs ?z_all ?z_classmethod ?z_int ?z_isinstance ?z_len ?z_list ?z_max ?z_property ?z_range ?z_set ?z_sorted ?z_tuple ?e1_ExtralinkError ?e2_ExtralinkError ?e3_ExtralinkError ?x1_BadName ?x6_BadName ?x7_BadName ?x8_BadName ?x9_BadName ?xk_BadName ?xt_BadName ?hn_BadName_name ?y1_BadName ?y2_BadName ?y4_BadName ?z1_BadName ?z2_BadName ?z3_BadName_BadCount ?z3_BadName_DuplicateName ?ht1_BadName ?ht2_BadName ?ht3_BadName ?ht4_BadName ?x1_DuplicateName ?x6_DuplicateName ?x7_DuplicateName ?x8_DuplicateName ?x9_DuplicateName ?xk_DuplicateName ?xt_DuplicateName ?hn_DuplicateName_name ?y1_DuplicateName ?y2_DuplicateName ?y4_DuplicateName ?z1_DuplicateName ?z2_DuplicateName ?z3_DuplicateName_BadName ?ht1_DuplicateName ?ht2_DuplicateName ?ht3_DuplicateName ?ht4_DuplicateName ?x1_UnknownName ?x6_UnknownName ?x7_UnknownName ?x8_UnknownName ?x9_UnknownName ?xk_UnknownName ?xt_UnknownName ?hn_UnknownName_name ?y1_UnknownName ?y2_UnknownName ?y4_UnknownName ?z1_UnknownName ?z2_UnknownName ?ht1_UnknownName ?ht2_UnknownName ?ht3_UnknownName ?ht4_UnknownName ?x1_BadCount ?x6_BadCount ?x7_BadCount ?x8_BadCount ?x9_BadCount ?xk_BadCount ?xt_BadCount ?hn_BadCount_count ?y1_BadCount ?y2_BadCount ?y4_BadCount ?z1_BadCount ?z2_BadCount ?z3_BadCount_BadName ?ht1_BadCount ?ht2_BadCount ?ht3_BadCount ?ht4_BadCount ?h1_Network ?h2_Network ?h3_Network ?h4_Network ?hk1_Network_MOST_LINKS ?hk2_Network_MOST_LINKS ?hk3_Network_MOST_LINKS ?h1_Book ?h2_Book ?h3_Book ?h4_Book ?h5_Book ?h6_Book ?h7_Book ?hn_Book_ends ?hn_Book_entries ?hn_Book_past ?hm_Book___len__ ?hm_Book___contains__ ?hm_Book___getitem__ ?hm_Book___setitem__ ?hm_Book_drop ?hp1_Book_order ?hp2_Book_order ?ht1_Book ?ht2_Book ?ht3_Book ?ht4_Book ?h_isa_Book_Book ?hgi_Book ?h_ns_Book
    (case gc_ExtralinkError => k_is)
    (case gc_BadName => k_is)
    (case gc_DuplicateName => k_is)
    (case gc_UnknownName => k_is)
    (case gc_BadCount => k_is)
    (case gc_Network => k_is)
    (case gc_Book => k_is)
    (case at_BadName___init__ => k_is)
    (case l_BadName___init__ => k_is)
    (case k1_BadName___init__ => k_is)
    (case k2_BadName___init__ => k_is)
    (case at_DuplicateName___init__ => k_is)
    (case l_DuplicateName___init__ => k_is)
    (case k1_DuplicateName___init__ => k_is)
    (case k2_DuplicateName___init__ => k_is)
    (case at_UnknownName___init__ => k_is)
    (case l_UnknownName___init__ => k_is)
    (case k1_UnknownName___init__ => k_is)
    (case k2_UnknownName___init__ => k_is)
    (case at_BadCount___init__ => k_is)
    (case l_BadCount___init__ => k_is)
    (case k1_BadCount___init__ => k_is)
    (case k2_BadCount___init__ => k_is)
    (case a_valid_name => k_is)
    (case l_valid_name => k_is)
    (case k1_valid_name => k_is)
    (case k2_valid_name => k_is)
    (case a_check_name => k_is)
    (case l_check_name => k_is)
    (case k1_check_name => k_is)
    (case k2_check_name => k_is)
    (case at_Book___init__ => k_is)
    (case l_Book___init__ => k_is)
    (case k1_Book___init__ => k_is)
    (case k2_Book___init__ => k_is)
    (case at_Book_order => k_is)
    (case rc_Book_order => k_is)
    (case l_Book_order => k_is)
    (case k1_Book_order => k_is)
    (case k2_Book_order => k_is)
    (case at_Book___len__ => k_is)
    (case l_Book___len__ => k_is)
    (case k1_Book___len__ => k_is)
    (case k2_Book___len__ => k_is)
    (case at_Book___contains__ => k_is)
    (case l_Book___contains__ => k_is)
    (case k1_Book___contains__ => k_is)
    (case k2_Book___contains__ => k_is)
    (case at_Book___getitem__ => k_is)
    (case l_Book___getitem__ => k_is)
    (case k1_Book___getitem__ => k_is)
    (case k2_Book___getitem__ => k_is)
    (case at_Book___setitem__ => k_is)
    (case l_Book___setitem__ => k_is)
    (case k1_Book___setitem__ => k_is)
    (case k2_Book___setitem__ => k_is)
    (case at_Book_drop => k_is)
    (case l_Book_drop => k_is)
    (case k1_Book_drop => k_is)
    (case k2_Book_drop => k_is)
    (case a_start => k_is)
    (case l_start => k_is)
    (case k1_start => k_is)
    (case k2_start => k_is)
    (case a_take => k_is)
    (case l_take => k_is)
    (case k1_take => k_is)
    (case k2_take => k_is)
    (case a_word => k_is)
    (case l_word => k_is)
    (case k1_word => k_is)
    (case k2_word => k_is)
    (case a_good => k_is)
    (case l_good => k_is)
    (case k1_good => k_is)
    (case k2_good => k_is)
    (case a_store => k_is)
    (case l_store => k_is)
    (case k1_store => k_is)
    (case k2_store => k_is)
    (case a_drop => k_is)
    (case l_drop => k_is)
    (case k1_drop => k_is)
    (case k2_drop => k_is)
    (case a_due_store => k_is)
    (case l_due_store => k_is)
    (case k1_due_store => k_is)
    (case k2_due_store => k_is)
    (case a_stored => k_is)
    (case l_stored => k_is)
    (case k1_stored => k_is)
    (case k2_stored => k_is)
    (case a_missing => k_is)
    (case l_missing => k_is)
    (case k1_missing => k_is)
    (case k2_missing => k_is)
    (case a_shows => k_is)
    (case l_shows => k_is)
    (case k1_shows => k_is)
    (case k2_shows => k_is)
    (case a_new => k_is)
    (case l_new => k_is)
    (case k1_new => k_is)
    (case k2_new => k_is)
    (case a_new_right => k_is)
    (case l_new_right => k_is)
    (case k1_new_right => k_is)
    (case k2_new_right => k_is)
    (case a_law => k_is)
    (case l_law => k_is)
    (case k1_law => k_is)
    (case k2_law => k_is)
    (case h_LETTERS => k_is)
    (case h_DIGITS => k_is)
    (case h_LONGEST => k_is)
    (case z_TypeError => k_is)
    (case z_ValueError => k_is)
    (case z_abs => k_is)
    (case z_all => k_is)
    (case z_classmethod => k_is)
    (case z_int => k_is)
    (case z_isinstance => k_is)
    (case z_len => k_is)
    (case z_list => k_is)
    (case z_max => k_is)
    (case z_property => k_is)
    (case z_range => k_is)
    (case z_set => k_is)
    (case z_sorted => k_is)
    (case z_tuple => k_is)
    (case e1_ExtralinkError => k_is)
    (case e2_ExtralinkError => k_is)
    (case e3_ExtralinkError => k_is)
    (case x1_BadName => k_is)
    (case x6_BadName => decide +kernel)
    (case x7_BadName => k_is)
    (case x8_BadName => k_is)
    (case x9_BadName => k_is)
    (case xk_BadName => k_is)
    (case xt_BadName => k_is)
    (case hn_BadName_name => k_is)
    (case y1_BadName => k_is)
    (case y2_BadName => k_is)
    (case y4_BadName => k_is)
    (case z1_BadName => k_is)
    (case z2_BadName => first | rfl | k_is)
    (case z3_BadName_BadCount => first | rfl | k_is)
    (case z3_BadName_DuplicateName => first | rfl | k_is)
    (case ht1_BadName => k_is)
    (case ht2_BadName => k_is)
    (case ht3_BadName => k_is)
    (case ht4_BadName => k_is)
    (case x1_DuplicateName => k_is)
    (case x6_DuplicateName => decide +kernel)
    (case x7_DuplicateName => k_is)
    (case x8_DuplicateName => k_is)
    (case x9_DuplicateName => k_is)
    (case xk_DuplicateName => k_is)
    (case xt_DuplicateName => k_is)
    (case hn_DuplicateName_name => k_is)
    (case y1_DuplicateName => k_is)
    (case y2_DuplicateName => k_is)
    (case y4_DuplicateName => k_is)
    (case z1_DuplicateName => k_is)
    (case z2_DuplicateName => first | rfl | k_is)
    (case z3_DuplicateName_BadName => first | rfl | k_is)
    (case ht1_DuplicateName => k_is)
    (case ht2_DuplicateName => k_is)
    (case ht3_DuplicateName => k_is)
    (case ht4_DuplicateName => k_is)
    (case x1_UnknownName => k_is)
    (case x6_UnknownName => decide +kernel)
    (case x7_UnknownName => k_is)
    (case x8_UnknownName => k_is)
    (case x9_UnknownName => k_is)
    (case xk_UnknownName => k_is)
    (case xt_UnknownName => k_is)
    (case hn_UnknownName_name => k_is)
    (case y1_UnknownName => k_is)
    (case y2_UnknownName => k_is)
    (case y4_UnknownName => k_is)
    (case z1_UnknownName => k_is)
    (case z2_UnknownName => first | rfl | k_is)
    (case ht1_UnknownName => k_is)
    (case ht2_UnknownName => k_is)
    (case ht3_UnknownName => k_is)
    (case ht4_UnknownName => k_is)
    (case x1_BadCount => k_is)
    (case x6_BadCount => decide +kernel)
    (case x7_BadCount => k_is)
    (case x8_BadCount => k_is)
    (case x9_BadCount => k_is)
    (case xk_BadCount => k_is)
    (case xt_BadCount => k_is)
    (case hn_BadCount_count => k_is)
    (case y1_BadCount => k_is)
    (case y2_BadCount => k_is)
    (case y4_BadCount => k_is)
    (case z1_BadCount => k_is)
    (case z2_BadCount => first | rfl | k_is)
    (case z3_BadCount_BadName => first | rfl | k_is)
    (case ht1_BadCount => k_is)
    (case ht2_BadCount => k_is)
    (case ht3_BadCount => k_is)
    (case ht4_BadCount => k_is)
    (case h1_Network => k_is)
    (case h2_Network => k_is)
    (case h3_Network => k_is)
    (case h4_Network => k_is)
    (case hk1_Network_MOST_LINKS => k_is)
    (case hk2_Network_MOST_LINKS => k_is)
    (case hk3_Network_MOST_LINKS => k_is)
    (case h1_Book => k_is)
    (case h2_Book => k_is)
    (case h3_Book => k_is)
    (case h4_Book => k_is)
    (case h5_Book => k_is)
    (case h6_Book => k_is)
    (case h7_Book => k_is)
    (case hn_Book_ends => k_is)
    (case hn_Book_entries => k_is)
    (case hn_Book_past => k_is)
    (case hm_Book___len__ => k_is)
    (case hm_Book___contains__ => k_is)
    (case hm_Book___getitem__ => k_is)
    (case hm_Book___setitem__ => k_is)
    (case hm_Book_drop => k_is)
    (case hp1_Book_order => k_is)
    (case hp2_Book_order => k_is)
    (case ht1_Book => k_is)
    (case ht2_Book => k_is)
    (case ht3_Book => k_is)
    (case ht4_Book => k_is)
    (case h_isa_Book_Book => kit_is)
    (case hgi_Book => k_is)
    (case h_ns_Book => k_is)
#print axioms PySem.Challenge.cw_extralink_k92_book_refusals_holds


