import PyProof.Rows.All
import Wide.All
import OpenK.AllK
import Wide.FinOn
import KE.KRevSl
import HandS.ForMost
import HandS.ForExc
import HandS.Walk
import HandS.Wide
import HandS.IsInst
import HandS.Style
import HandS.ClsMeth
import HandS.ExcInit
import HandS.ExcField
import HandS.Property
import HandS.Defaults
import HandS.MakeKwOnly
import HandS.FStr
import HandS.OwnEq
import HandS.CallSlots
import KE.KOpsOwn
import KE.KCallOwn
import HandS.Codes
import HandS.ExcOwn
import KE.KExcIs
import KE.IntBitsLaws
import HandS.ExcIs
import PySem.Challenge.RW_extralink_k05_least_and_greatest
set_option Elab.async false
set_option linter.all false
set_option maxRecDepth 100000
set_option maxHeartbeats 4000000

namespace Xl
open PySem PySem.Spec PyProof.Rows L2

/-! ### calls of the text's own defs, bundled -/
structure FnI (P : Program) (w : World) (K : PySem.W.Frag) (mg : Str → Option Value) (base : Heap) (x : Str) (k : Nat) (ps : List Str) (sp : Sp) : Prop where
  ex : ∃ f fd, FnOk P w K mg base (L2.CX P w) k f fd ps sp ∧ mg x = some (.ref f) ∧ PySem.W.keepIn K (.ref f) = true ∧ Binds K fd ps []
/-- .. called by keywords alone, one keyword -/
structure FnK (P : Program) (w : World) (K : PySem.W.Frag) (mg : Str → Option Value) (base : Heap) (x : Str) (k : Nat) (ps : List Str) (sp : Sp) : Prop where
  ex : ∃ f fd, FnOk P w K mg base (L2.CX P w) k f fd ps sp ∧ mg x = some (.ref f) ∧ PySem.W.keepIn K (.ref f) = true ∧ ∀ (s : Shared) (ws : List Value), ws.length = ps.length → BindsTo s fd ⟨[], ps.zip ws⟩ (ps.zip ws)

section
variable {X : Cx} {k : Nat} {ps : List Str} {sp : Sp} {E : XK} {x : Str} {p pos : Pos} {e : Expr} {es : List Expr} {t : TA} {te : TE}
theorem pe_f (F : FnI X.prog X.w X.K X.mg X.base x k ps sp) (hr : Room k X.A) (hx : Passes (L2.CX X.prog X.w) X E) (ha : PA X (e :: es) t) (hg : Gl X x := by rfl)
    (hdb : (x == ("__debug__" : Str)) = false := by decide) (he : starEach (e :: es) X.env = (false, eval e X.env) :: starEach es X.env := by rfl) (hpl : (backTo pos (starEach es X.env)).any (·.1) = false := by rfl) :
    PE X (.Call (.Name x p) (e :: es) [] pos) (tCall sp [] E t) := by
  obtain ⟨f, fd, h1, h2, h3, h4⟩ := F.ex
  exact pe_call h1 hr hg h2 h3 h4 .nil hx ha hdb he hpl
theorem pe_f0 (F : FnI X.prog X.w X.K X.mg X.base x k ps sp) (hr : Room k X.A) (hx : Passes (L2.CX X.prog X.w) X E) (hg : Gl X x := by rfl)
    (hdb : (x == ("__debug__" : Str)) = false := by decide) : PE X (.Call (.Name x p) [] [] pos) (tCall sp [] E tNil) := by
  obtain ⟨f, fd, h1, h2, h3, h4⟩ := F.ex
  exact pe_call0 h1 hr hg h2 h3 h4 .nil hx hdb
/-- f(k = v, ..), all parameters by keyword in their order -/
def tCallW (n : Nat) (sp : Sp) (E : XK) (tk : TA) : TE := fun σ H Q => tk σ H fun zs H2 => zs.length = n ∧ sp zs H2 Q E
theorem pe_fK {kws : List Keyword} {tk : TA} (F : FnK X.prog X.w X.K X.mg X.base x k ps sp) (hr : Room k X.A) (hx : Passes (L2.CX X.prog X.w) X E) (hkw : PK X kws tk) (hg : Gl X x := by rfl)
    (hall : (backToKw pos (keywordEach kws X.env)).all (·.1.isSome) = true := by rfl) (hks : (backToKw pos (keywordEach kws X.env)).filterMap (·.1) = ps := by rfl) (hdb : (x == ("__debug__" : Str)) = false := by decide)
    (hpl : ((backTo pos (starEach [] X.env)).any (·.1) || (backToKw pos (keywordEach kws X.env)).any (·.1.isNone)) = false := by rfl) :
    PE X (.Call (.Name x p) [] kws pos) (tCallW ps.length sp E tk) := by
  obtain ⟨f, fd, h1, h2, h3, h4⟩ := F.ex
  refine ⟨fun pins s σ H Q I h => ?_⟩
  refine wpAny_Call_Name_kw (ld_glob I hg h2 ?_ hdb)
  refine PySem.W.callWith_KW0 (h₀ := X.base) I.ok.mod.kin h3 hall ?_ hpl
  refine thn (hkw.run pos pins s σ H _ I h) fun ws s2 ⟨zs, H2, I2, rz, l1, q2⟩ => ⟨I2.kIn, ?_⟩
  rw [hks]
  refine wpAny_call (codeAny_mono (h1.run X.A X.stack s2 H2 ⟨[], ps.zip ws⟩ ws zs Q E hr I2.env0 (h4 s2 ws (by rw [← rz.length]; exact l1)) rz q2) fun r s' hq => ?_)
  cases r with
  | error e => exact hx pins σ H2 s2 e s' I2 hq
  | ok fl =>
    cases fl with
    | ret u => exact I2.after hq
    | next => exact False.elim hq
    | brk => exact False.elim hq
    | cont => exact False.elim hq
/-- a constant of the module -/
theorem pe_gl {v : V} (h : ∃ u, X.mg x = some u ∧ RelV v u) (hg : Gl X x := by rfl) (hd : (x == ("__debug__" : Str)) = false := by decide) : PE X (.Name x pos) (tC v) := by
  obtain ⟨u, h1, h2⟩ := h
  exact pe_glob hg h1 h2 hd
/-- a class of the module -/
theorem pe_cls {C : Addr} (h : X.mg x = some (.ref C)) (hg : Gl X x := by rfl) (hd : (x == ("__debug__" : Str)) = false := by decide) : PE X (.Name x pos) (tC (.ref C)) := pe_glob (v := .ref C) hg h rfl hd
/-- a list's item as the old value of an item assignment with an operator -/
theorem get_list : PGet X (rIxL X.K) := by
  intro pins s σ H o i ov iv Q I ro ri h
  obtain ⟨p, xs, k, v, rfl, rfl, hq, ha, q⟩ := h
  cases ro
  obtain ⟨t, rfl⟩ := ri
  obtain ⟨its, r, pl, hz⟩ := I.list hq
  obtain ⟨j, h1, h2, h3, h4, h5⟩ := atI_get ha
  obtain ⟨w, ew, rw'⟩ := r.get h2
  have hl := r.length
  have hn := line63
  have fin : EP X pins σ Q w s := ⟨v, H, I, rw', q⟩
  by_cases h0 : 0 ≤ k
  · have hj : k.toNat = j := by
      rw [seqIndex_of h0 h5] at h1
      exact Option.some.inj h1
    exact wpAny_getItem_list pl.isList h0 (by omega) (by rw [hj]; simpa using ew) fin
  · have hj : (k + (its.toArray.size : Int)).toNat = j := by
      rw [seqIndex_neg (by omega) h4] at h1
      rw [List.size_toArray, ← hl]
      exact Option.some.inj h1
    exact wpAny_getItem_list_neg pl.isList (by omega) (by rw [List.size_toArray] <;> omega) (by omega) (by rw [hj]; simpa using ew) fin
/-- text[::-1] -/
def revS (z : Str) : Str := Txt.sliceBy z none none (-1, 0)
theorem revS_len (z : Str) : (revS z).length ≤ z.length := Txt.sliceBy_le z none none (-1, 0) (show (-1 : Int) ≠ 0 by decide)
def tRevS (te : TE) : TE := fun σ H Q => te σ H fun x H1 => ∃ z, x = .str z ∧ z.length ≤ sizeLine ∧ Q (.str (revS z)) H1
theorem pe_revS {k : Nat} {p1 p2 p3 : Pos} (he : PE X e te) : PE X (.Subscript e (.Slice none none (some (.UnaryOp .USub (.Constant (.int 1) k p1) p2)) p3) pos) (tRevS te) := by
  refine ⟨fun pins s σ H Q I h => ?_⟩
  refine Subscript_ (thn (he.run pins s σ H _ I h) fun v s1 ⟨x, H1, I1, r1, q1⟩ => ?_)
  obtain ⟨z, rfl, hz, q⟩ := q1
  obtain ⟨tz, rfl⟩ := r1
  have hst : PO X (some (.UnaryOp .USub (.Constant (.int 1) k p1) p2)) (tPart (tUn (rU fun i => .int (-i)) (tC (.int 1)))) := po_some (pe_un un_neg pe_int)
  refine wpAny_Slice (thn (po_none.run pins s1 σ H1 (fun o H2 => o = none ∧ H2 = H1) I1 ⟨rfl, rfl⟩) fun vl s2 ⟨l, H2, I2, pl, el, e2⟩ => ?_)
  subst el e2
  refine thn (po_none.run pins s2 σ H2 (fun o H3 => o = none ∧ H3 = H2) I2 ⟨rfl, rfl⟩) fun vu s3 ⟨u, H3, I3, pu, eu, e3⟩ => ?_
  subst eu e3
  refine thn (hst.run pins s3 σ H3 (fun o H4 => o = some (-1) ∧ H4 = H3) I3 ⟨1, rfl, -1, rfl, rfl, rfl⟩) fun vs s4 ⟨o, H4, I4, ps, eo, e4⟩ => ?_
  subst eo e4
  have I5 : Inv X pins σ H4 { s4 with heap := s4.heap.push { cls := .type "slice", data := .fields #[vl, vu, vs] } } := I4.kept (t' := s4.toks) fun b ob q => Heap.get?_push_of_some _ q
  obtain ⟨l, rfl, e1⟩ := IsPart.raw pl
  obtain ⟨u, rfl, e2⟩ := IsPart.raw pu
  obtain ⟨st, rfl, e3⟩ := IsPart.raw ps
  cases l with
  | some _ => cases e1
  | none =>
  cases u with
  | some _ => cases e2
  | none =>
  cases st with
  | none => cases e3
  | some st =>
    obtain ⟨k0, uk⟩ := st
    have ek : k0 = -1 := Option.some.inj e3
    subst ek
    show wpAny (model X.prog X.w) X.A (subscriptTail e (.Slice none none (some (.UnaryOp .USub (.Constant (.int 1) k p1) p2)) p3) (.str z tz) (.ref s4.heap.objs.size)) (EP X pins σ Q) X.xe { s4 with heap := s4.heap.push { cls := .type "slice", data := .fields #[.none, .none, .int (-1) uk] } }
    refine tail_any (ops := [.ref s4.heap.objs.size, .str z tz]) (typeIs_str _ _ _) F.slot_str_getitem.lookup ?_ (by with_unfolding_all rfl)
    refine wpAny_getItem_str_slice (l := none) (u := none) (st := some (-1, uk)) ⟨_, Heap.get?_push_size _ rfl, rfl, rfl⟩ rfl ?_
    have hl : (Txt.sliceBy z none none (-1, uk)).length ≤ z.length := Txt.sliceBy_le z none none (-1, uk) (show (-1 : Int) ≠ 0 by decide)
    exact post_val_or_str ⟨Nat.le_trans hl hz, fun t' c => ⟨.str (Txt.sliceBy z none none (-1, uk)), H4, I5.tok c, ⟨_, rfl⟩, q⟩⟩
end
theorem passL' {X : Cx} : Passes (L2.CX X.prog X.w) X E0 := passL

section
variable {P : Program} {w : World} {K : PySem.W.Frag} {mg : Str → Option Value} {base : Heap}
/-- a def that lets nothing out, among defs that may -/
theorem okN {x qual : Str} {st : Stmt} {f : Addr} {fd : FuncData} {N ps : List Str} {k : Nat} {sp : Sp} (F : Fun K x qual st f fd) (S : FnScope N ps (defScope st)) (len : ∀ vs H Q E, sp vs H Q E → vs.length = ps.length)
    (hbody : ∀ (cdv : Value) (A : Around) (outer : List Env) (s : Shared) (H : Hp) (vs : List V) (Q : VK) (E : XK), Room k (A.deeper (envOfC qual (defScope st) s.heap.objs.size f cdv)) → sp vs H Q E →
      ∃ t, PSs (cxOf (L2.CX P w) P w K mg base N qual (defScope st) f cdv A outer s H E).nox (defBody st) t ∧ t { nx := fun _ H' => Q .non H', rt := Q } (start N vs) H) : FnOk P w K mg base (L2.CX P w) (k + 1) f fd ps sp := by
  refine F.okX S len fun cdv A outer s H vs Q E hr h => ?_
  obtain ⟨t, h1, h2⟩ := hbody cdv A outer s H vs Q E hr h
  exact ⟨t, h1.nox, h2⟩
end
/-! ### a statement and what follows, joined by a word of one's own -/
def tCut (t u : TS) : TS := fun D σ H => ∃ R : L2.St → Hp → Prop, t { D with nx := R } σ H ∧ ∀ σ' H', R σ' H' → u D σ' H'
theorem pss_cut {X : Cx} {st : Stmt} {rest : List Stmt} {t u : TS} (h1 : PS X st t) (h2 : PSs X rest u) : PSs X (st :: rest) (tCut t u) := by
  refine ⟨fun pins s σ H D I h => ?_⟩
  obtain ⟨R, h, k⟩ := h
  refine wpAny_execs_cons (thn (h1.run pins s σ H { D with nx := R } I h) fun f s1 q => ?_)
  cases f with
  | next =>
    obtain ⟨σ', H', I', q⟩ := q
    exact h2.run pins s1 σ' H' D I' (k σ' H' q)
  | ret v => exact q
  | brk => exact q
  | cont => exact q
theorem iteY {b : Bool} {A B : Prop} (h : b = true) (a : A) : if b = true then A else B := by
  rw [if_pos h]; exact a
theorem iteN {b : Bool} {A B : Prop} (h : b = false) (a : B) : if b = true then A else B := by
  rw [if_neg (by rw [h]; exact Bool.false_ne_true)]; exact a
theorem iteB {b : Bool} {A B : Prop} (h1 : b = true → A) (h2 : b = false → B) : if b = true then A else B := by
  cases b with
  | true => exact iteT (h1 rfl)
  | false => exact iteF (h2 rfl)
theorem bnt {b : Bool} (h : (!b) = true) : b = false := by cases b with | true => cases h | false => rfl
theorem bnf {b : Bool} (h : (!b) = false) : b = true := by cases b with | true => rfl | false => cases h
/-! ### readings made monotone -/
def taM (t : TA) : TA := fun σ H Q => ∃ R : List V → Hp → Prop, t σ H R ∧ ∀ vs H1, R vs H1 → Q vs H1
theorem pa_mono {X : Cx} {es : List Expr} {t : TA} (h : PA X es t) : PA X es (taM t) := ⟨fun pos pins s σ H Q I ⟨R, q, k⟩ => thn (h.run pos pins s σ H R I q) fun us s' ⟨vs, H', I', r, z⟩ => ⟨vs, H', I', r, k vs H' z⟩⟩
def teM (t : TE) : TE := fun σ H Q => ∃ R : VK, t σ H R ∧ ∀ v H1, R v H1 → Q v H1
theorem pe_mono {X : Cx} {e : Expr} {t : TE} (h : PE X e t) : PE X e (teM t) := ⟨fun pins s σ H Q I ⟨R, q, k⟩ => thn (h.run pins s σ H R I q) fun u s' ⟨v, H', I', r, z⟩ => ⟨v, H', I', r, k v H' z⟩⟩
/-! ### a new object: the heap behind it as a letter -/
def New (H : Hp) (p : Addr) (o : HO) (H' : Hp) : Prop := H p = none ∧ H' = upd H p o
theorem Same.at {H H' : Hp} {b : Addr} {o : HO} (s : Same H H') (h : H b = some o) : H' b = some o := s b o h
section
variable {H H' : Hp} {p b : Addr} {o u : HO}
theorem New.same (n : New H p o H') : Same H H' := fun b u e => by
  obtain ⟨h, rfl⟩ := n
  rw [upd_ne (ne_of_none e h)]
  exact e
theorem New.at (n : New H p o H') : H' p = some o := by
  obtain ⟨h, rfl⟩ := n
  exact upd_same
theorem New.ne (n : New H p o H') (h : H b = some u) : b ≠ p := ne_of_none h n.1
theorem New.none (n : New H p o H') (h : H' b = none) : H b = none := n.same.free h
theorem new_of (h : H p = none) : New H p o (upd H p o) := ⟨h, rfl⟩
end
section
variable {X : Cx} {a b e : Expr} {ta tb te : TE} {pos : Pos} {t : TA} {es : List Expr}
theorem PE.imp {t t' : TE} (h : PE X e t) (i : ∀ σ H Q, t' σ H Q → t σ H Q) : PE X e t' := ⟨fun pins s σ H Q I q => h.run pins s σ H Q I (i σ H Q q)⟩
theorem OpR.imp {f : Value → Value → Sem Value} {r r' : R2} (h : OpR X f r) (i : ∀ x y H Q, r' x y H Q → r x y H Q) : OpR X f r' := fun pins s σ H x y v u Q I rx ry q => h pins s σ H x y v u Q I rx ry (i _ _ _ _ q)
theorem CallR.imp {f : Value} {r r' : List V → Hp → VK → Prop} (h : CallR X f r) (i : ∀ xs H Q, r' xs H Q → r xs H Q) : CallR X f r' := fun pins s σ H xs us Q I rx q => h pins s σ H xs us Q I rx (i _ _ _ q)
theorem SlR.imp {r r' : V → Option Int → Option Int → Hp → VK → Prop} (h : SlR X r) (i : ∀ x l u H Q, r' x l u H Q → r x l u H Q) : SlR X r' := fun pins s σ H x v vl vu lo hi sl Q I rx hs pl pu q => h pins s σ H x v vl vu lo hi sl Q I rx hs pl pu (i _ _ _ _ _ q)
def tTupN (t : TA) : TE := fun σ H Q => t σ H fun xs H1 => xs.length ≤ sizeLine ∧ ∀ p H', New H1 p (.tup xs) H' → Q (.ref p) H'
def tLstN (t : TA) : TE := fun σ H Q => t σ H fun xs H1 => xs.length ≤ sizeLine ∧ ∀ p H', New H1 p (.lst xs) H' → Q (.ref p) H'
theorem pe_tupN {x1} (h : PA X es t) : PE X (.Tuple es x1 pos) (tTupN t) := by
  refine ⟨fun pins s σ H Q I hq => ?_⟩
  refine wpAny_Tuple_spliced (thn (h.run pos pins s σ H _ I hq) fun us s1 ⟨xs, H1, I1, r, z, q⟩ => ⟨by rw [← r.length]; exact z, ?_⟩)
  have hf : H1 s1.heap.objs.size = none := I1.hok.fresh (Nat.le_refl _)
  refine ⟨.ref s1.heap.objs.size, upd H1 s1.heap.objs.size (.tup xs), I1.laid (t' := s1.toks) (fun b u e => Heap.get?_push_of_some _ e) (Nat.le_refl _) ?_, rfl, q _ _ (new_of hf)⟩
  exact ⟨z, us, r, ⟨_, Heap.get?_push_size _ rfl, rfl, _, rfl⟩⟩
theorem pe_lstN (h : PA X es t) : PE X (.List es pos) (tLstN t) := by
  refine ⟨fun pins s σ H Q I hq => ?_⟩
  refine wpAny_List_spliced (thn (h.run pos pins s σ H _ I hq) fun us s1 ⟨xs, H1, I1, r, z, q⟩ => ⟨by rw [← r.length]; exact z, ?_⟩)
  have hf : H1 s1.heap.objs.size = none := I1.hok.fresh (Nat.le_refl _)
  refine ⟨.ref s1.heap.objs.size, upd H1 s1.heap.objs.size (.lst xs), I1.laid (t' := s1.toks) (fun b u e => Heap.get?_push_of_some _ e) (Nat.le_refl _) ?_, rfl, q _ _ (new_of hf)⟩
  exact ⟨z, us, 0, r, Heap.get?_push_size _ rfl⟩
def rCatN : R2 := fun x y H Q => ∃ l b xs zs, x = .ref l ∧ y = .ref b ∧ H l = some (.lst xs) ∧ H b = some (.lst zs) ∧ xs.length + zs.length ≤ sizeLine ∧ ∀ p H', New H p (.lst (xs ++ zs)) H' → Q (.ref p) H'
theorem op_catN : OpR X (binaryOp .Add) rCatN := OpR.imp op_cat fun x y H Q ⟨l, b, xs, zs, h1, h2, h3, h4, h5, q⟩ => ⟨l, b, xs, zs, h1, h2, h3, h4, h5, fun p hp => q p _ (new_of hp)⟩
theorem call_list_ofN : CallR X (.type "list") (fun xs H Q => ∃ p ys, xs = [.ref p] ∧ (SqL X.K H p ys ∨ SqT X.K H p ys) ∧ ∀ l H', New H l (.lst ys) H' → Q (.ref l) H') :=
  CallR.imp call_list_of fun xs H Q ⟨p, ys, h1, h2, q⟩ => ⟨p, ys, h1, h2, fun l hl => q l _ (new_of hl)⟩
def rSlLN (K : PySem.W.Frag) : V → Option Int → Option Int → Hp → VK → Prop := fun x lo hi H Q => ∃ a xs, x = .ref a ∧ SqL K H a xs ∧ ∀ p H', New H p (.lst (cutV xs lo hi)) H' → Q (.ref p) H'
theorem sl_listN : SlR X (rSlLN X.K) := SlR.imp sl_list fun x l u H Q ⟨a, xs, h1, h2, q⟩ => ⟨a, xs, h1, h2, fun p hp => q p _ (new_of hp)⟩
end

/-! ### data that == takes: its depth -/
def Lay (n : Nat) (d : PyData) : Prop := d.canLay0 = true ∧ d.depth ≤ n
theorem lay_all {n : Nat} : ∀ {ds : List PyData}, (∀ d ∈ ds, Lay n d) → PyData.canLayAll0 ds = true ∧ PyData.depthAll ds ≤ n
  | [], _ => by simp [PyData.canLayAll0, PyData.depthAll]
  | d :: ds, h => by
    have h1 := lay_all (ds := ds) fun x hx => h x (List.mem_cons_of_mem _ hx)
    have h2 := h d (List.mem_cons_self ..)
    simp only [PyData.canLayAll0, PyData.depthAll, h1.1, h2.1]
    refine ⟨rfl, ?_⟩
    have := h1.2
    have := h2.2
    omega
theorem lay_list {n : Nat} {ds : List PyData} (h : ∀ d ∈ ds, Lay n d) : Lay (n + 1) (.list ds) := by
  obtain ⟨h1, h2⟩ := lay_all h
  refine ⟨by simp only [PyData.canLay0]; exact h1, ?_⟩
  simp only [PyData.depth]
  omega
theorem lay_tuple {n : Nat} {ds : List PyData} (h : ∀ d ∈ ds, Lay n d) : Lay (n + 1) (.tuple ds) := by
  obtain ⟨h1, h2⟩ := lay_all h
  refine ⟨by simp only [PyData.canLay0]; exact h1, ?_⟩
  simp only [PyData.depth]
  omega
theorem lay_int (i : Int) : Lay 1 (.int i) := ⟨by simp [PyData.canLay0], by simp [PyData.depth]⟩
theorem lay_str {i : Str} (h : PyData.strOk i = true) : Lay 1 (.str i) := ⟨by simpa [PyData.canLay0] using h, by simp [PyData.depth]⟩
theorem lay_bool (i : Bool) : Lay 1 (.bool i) := ⟨by simp [PyData.canLay0], by simp [PyData.depth]⟩
theorem shaped_of {n : Nat} {d : PyData} (h : Lay n d) (hn : n ≤ 64) : SeqAt.shaped d = true := by
  unfold SeqAt.shaped
  rw [Bool.and_eq_true]
  exact ⟨h.1, decide_eq_true (Nat.le_trans h.2 hn)⟩
theorem dpAll_ints {K : PySem.W.Frag} {H : Hp} : ∀ ns : List Int, DpAll K H (ns.map V.int) (ns.map PyData.int)
  | [] => .nil
  | n :: ns => .cons (.int n) (dpAll_ints ns)
theorem shaped_ints (ns : List Int) : SeqAt.shaped (.list (ns.map PyData.int)) = true := shaped_of (lay_list (n := 1) fun d hd => by
  obtain ⟨i, _, rfl⟩ := List.mem_map.mp hd
  exact lay_int i) (by decide)
theorem shaped_nil : SeqAt.shaped (.list []) = true := shaped_ints []
theorem eqv_nil : ∀ ds : List PyData, PyData.eqv (.list ds) (.list []) = ds.isEmpty
  | [] => by simp [PyData.eqv, PyData.eqvAll]
  | d :: ds => by simp [PyData.eqv, PyData.eqvAll]
/-- xs == [], xs != [], whatever stands in xs -/
def rEqNil (neg : Bool) : R2 := fun x y H Q => ∃ l b, ∃ xs : List V, x = .ref l ∧ y = .ref b ∧ H l = some (.lst xs) ∧ H b = some (.lst []) ∧ Q (.bl (neg ^^ xs.isEmpty)) H
theorem nil_all {xs : List V} {its ity : List Value} (r : Vals xs its) (r2 : Vals [] ity) (h : xs = []) : its.toArray.size = ity.toArray.size ∧ (List.range its.toArray.size).all (fun _ => true) = true := by
  subst h
  cases r
  cases r2
  exact ⟨rfl, rfl⟩
theorem op_eqNil {X : Cx} (hu : X.A.units + 64 < cLine) : OpR X (compareOp .Eq) (rEqNil false) := by
  intro pins s σ H x y v u Q I rx ry h
  obtain ⟨l, b, xs, rfl, rfl, h1, h2, q⟩ := h
  cases rx
  cases ry
  obtain ⟨its, r, p, _⟩ := I.list (SqL.of h1)
  obtain ⟨ity, r2, p2, _⟩ := I.list (SqL.of h2)
  have hu' : X.A.units < cLine := by omega
  cases xs with
  | nil =>
    obtain ⟨e1, e2⟩ := nil_all r r2 rfl
    refine SeqAt.eq_listAt (e := fun _ => true) p.isList p2.isList e1 hu' (fun j j1 _ => ?_) (by rw [e2]; exact ⟨.bl true, H, I, rfl, q⟩)
    cases r
    exact absurd j1 (Nat.not_lt_zero _)
  | cons a t =>
    refine SeqAt.eq_list_lengthsAt p.isList p2.isList ?_ hu' ⟨.bl false, H, I, rfl, q⟩
    cases r
    cases r2
    rfl
theorem op_neNil {X : Cx} (hu : X.A.units + 64 < cLine) : OpR X (compareOp .NotEq) (rEqNil true) := by
  intro pins s σ H x y v u Q I rx ry h
  obtain ⟨l, b, xs, rfl, rfl, h1, h2, q⟩ := h
  cases rx
  cases ry
  obtain ⟨its, r, p, _⟩ := I.list (SqL.of h1)
  obtain ⟨ity, r2, p2, _⟩ := I.list (SqL.of h2)
  have hu' : X.A.units < cLine := by omega
  cases xs with
  | nil =>
    obtain ⟨e1, e2⟩ := nil_all r r2 rfl
    refine SeqAt.RcNeAt.lists (e := fun _ => true) p.isList p2.isList e1 hu' (fun j j1 _ => ?_) _ _ _ _ (by rw [e2]; exact ⟨.bl false, H, I, rfl, q⟩)
    cases r
    exact absurd j1 (Nat.not_lt_zero _)
  | cons a t =>
    refine SeqAt.RcNeAt.lists_lengths p.isList p2.isList ?_ hu' _ _ _ _ ⟨.bl true, H, I, rfl, q⟩
    cases r
    cases r2
    rfl

/-! ### the drawing state: its footprint F, and what is left alone -/
abbrev Fp := Addr → Prop
def Own (st l0 l1 : Addr) : Fp := fun b => b = st ∨ b = l0 ∨ b = l1
/-- from (F, H) to (F', H'): what was tracked outside of F stands; F' has grown by new objects alone -/
structure Fr (F : Fp) (H : Hp) (F' : Fp) (H' : Hp) : Prop where
  keep : ∀ b o, H b = some o → ¬ F b → H' b = some o
  grow : ∀ b, F' b → F b ∨ H b = none
  free : ∀ b, H' b = none → H b = none
theorem upd_free {H : Hp} {p b : Addr} {o : HO} (h : L2.upd H p o b = none) : H b = none := by
  by_cases e : b = p
  · subst e
    rw [upd_same] at h
    cases h
  · rw [upd_ne e] at h
    exact h
/-- o stands at b, outside of F -/
def Out (F : Fp) (H : Hp) (b : Addr) (o : HO) : Prop := H b = some o ∧ ¬ F b
structure StAt (H : Hp) (F : Fp) (st : Addr) (n : Nat) : Prop where
  ex : ∃ (l0 l1 : Addr) (cs ss : List Int) (c : Int), F = Own st l0 l1 ∧ st ≠ l0 ∧ st ≠ l1 ∧ l0 ≠ l1 ∧ H st = some (.lst [.ref l0, .ref l1, .int c]) ∧ H l0 = some (.lst (cs.map V.int)) ∧
    H l1 = some (.lst (ss.map V.int)) ∧ 0 < ss.length ∧ 0 ≤ c ∧ c ≤ n
section
variable {F F' F'' : Fp} {H H' H'' : Hp} {b p st : Addr} {o u : HO} {n m : Nat}
theorem Fr.refl (F : Fp) (H : Hp) : Fr F H F H := ⟨fun _ _ h _ => h, fun _ h => .inl h, fun _ h => h⟩
theorem Fr.out (f : Fr F H F' H') (h : Out F H b o) : Out F' H' b o :=
  ⟨f.keep b o h.1 h.2, fun z => (f.grow b z).elim h.2 fun e => by rw [h.1] at e; cases e⟩
theorem Fr.trans (f : Fr F H F' H') (g : Fr F' H' F'' H'') : Fr F H F'' H'' := by
  refine ⟨fun b o h n => ((g.out (f.out ⟨h, n⟩)).1), fun b z => ?_, fun b h => f.free b (g.free b h)⟩
  rcases g.grow b z with h | h
  · exact f.grow b h
  · by_cases hb : F b
    · exact .inl hb
    · cases e : H b with
      | none => exact .inr rfl
      | some o => rw [f.keep b o e hb] at h; cases h
theorem Fr.new (h : H p = none) : Fr F H F (upd H p o) := ⟨fun b u e _ => by rw [upd_ne (ne_of_none e h)]; exact e, fun _ z => .inl z, fun _ z => upd_free z⟩
/-- an object that was not there at the start may change -/
theorem Fr.mut (f : Fr F H F' H') (h : H p = none) : Fr F H F' (upd H' p o) := ⟨fun b u e nf => by rw [upd_ne (ne_of_none e h)]; exact f.keep b u e nf, f.grow, fun b z => f.free b (upd_free z)⟩
theorem Fr.none (f : Fr F H F' H') (hF : ¬ F p) (h : H' p = none) : H p = none := by
  cases e : H p with
  | none => rfl
  | some o => rw [f.keep p o e hF] at h; cases h
theorem StAt.dom (s : StAt H F st n) (h : F b) : ∃ o, H b = some o := by
  obtain ⟨l0, l1, cs, ss, c, rfl, _, _, _, h1, h2, h3, _⟩ := s.ex
  rcases h with rfl | rfl | rfl
  · exact ⟨_, h1⟩
  · exact ⟨_, h2⟩
  · exact ⟨_, h3⟩
theorem StAt.nf (s : StAt H F st n) (h : H b = none) : ¬ F b := fun z => by
  obtain ⟨o, e⟩ := s.dom z
  rw [h] at e
  cases e
theorem StAt.upd (s : StAt H F st n) (h : ¬ F p) : StAt (L2.upd H p o) F st n := by
  obtain ⟨l0, l1, cs, ss, c, rfl, a1, a2, a3, h1, h2, h3, r⟩ := s.ex
  exact ⟨l0, l1, cs, ss, c, rfl, a1, a2, a3, by rw [upd_ne fun e => h (.inl e.symm)]; exact h1, by rw [upd_ne fun e => h (.inr (.inl e.symm))]; exact h2, by rw [upd_ne fun e => h (.inr (.inr e.symm))]; exact h3, r⟩
theorem StAt.new (s : StAt H F st n) (h : H p = none) : StAt (L2.upd H p o) F st n := s.upd (s.nf h)
theorem StAt.mono (s : StAt H F st n) (h : n ≤ m) : StAt H F st m := by
  obtain ⟨l0, l1, cs, ss, c, e, a1, a2, a3, h1, h2, h3, h4, h5, h6⟩ := s.ex
  exact ⟨l0, l1, cs, ss, c, e, a1, a2, a3, h1, h2, h3, h4, h5, by omega⟩
theorem Out.upd (h : Out F H b o) (ne : b ≠ p) : Out F (L2.upd H p u) b o := ⟨by rw [upd_ne ne]; exact h.1, h.2⟩
theorem Out.new (h : Out F H b o) (np : H p = none) : Out F (L2.upd H p u) b o := h.upd (ne_of_none h.1 np)
theorem StAt.made (s : StAt H F st n) (h : H p = none) : Out F (L2.upd H p o) p o := ⟨upd_same, s.nf h⟩
theorem Fr.same (s : Same H H') : Fr F H F H' := ⟨fun b o h _ => s b o h, fun _ h => .inl h, fun _ h => s.free h⟩
theorem StAt.same (s : StAt H F st n) (e : Same H H') : StAt H' F st n := by
  obtain ⟨l0, l1, cs, ss, c, rfl, a1, a2, a3, h1, h2, h3, r⟩ := s.ex
  exact ⟨l0, l1, cs, ss, c, rfl, a1, a2, a3, e _ _ h1, e _ _ h2, e _ _ h3, r⟩
theorem New.fr (e : New H p o H') : Fr F H F H' := Fr.same e.same
theorem New.sta (e : New H p o H') (s : StAt H F st n) : StAt H' F st n := s.same e.same
theorem New.out (e : New H p o H') (s : StAt H F st n) : Out F H' p o := ⟨e.at, s.nf e.1⟩
theorem Out.here (h : ¬ F p) : Out F (L2.upd H p o) p o := ⟨upd_same, h⟩
end

/-! ### _law_start, _law_draw: their promises -/
def spStart (K : PySem.W.Frag) : Sp := fun vs H Q _ => ∃ (a : Addr) (ns : List Int), vs = [.ref a] ∧ SqL K H a (ns.map V.int) ∧ ns.length ≤ 63 ∧
  ∀ (st : Addr) (F : Fp) (H' : Hp), StAt H' F st 0 → Same H H' → (∀ b, F b → H b = none) → Q (.ref st) H'
def spDraw : Sp := fun vs H Q _ => ∃ (F : Fp) (st : Addr) (n : Nat) (size : Int), vs = [.ref st, .int size] ∧ StAt H F st n ∧ n < 2 ^ 40 ∧ 0 < size ∧ size < 2 ^ 200 ∧
  ∀ (d : Int) (F' : Fp) (H' : Hp), 0 ≤ d → d < size → StAt H' F' st (n + 1) → Fr F H F' H' → Q (.int d) H'
theorem spDraw.call {F : Fp} {H : Hp} {st : Addr} {n : Nat} {size : Int} {Q : VK} {E : XK} (s : StAt H F st n) (hn : n < 2 ^ 40) (h0 : 0 < size) (h1 : size < 2 ^ 200)
    (k : ∀ (d : Int) (F' : Fp) (H' : Hp), 0 ≤ d → d < size → StAt H' F' st (n + 1) → Fr F H F' H' → Q (.int d) H') : spDraw [.ref st, .int size] H Q E := ⟨F, st, n, size, rfl, s, hn, h0, h1, k⟩
/-- a law's own promise -/
def spLaw (K : PySem.W.Frag) : Sp := fun vs H Q _ => ∃ (a : Addr) (ns : List Int), vs = [.ref a] ∧ SqL K H a (ns.map V.int) ∧ ns.length ≤ 63 ∧ ∀ H', Q (.bl true) H'
end Xl

local macro_rules | `(tactic| walk_at "out") => `(tactic| (first | assumption | (refine Xl.Fr.out (by assumption) ?_; walk_at "out")))
local macro_rules | `(tactic| walk_at "at") => `(tactic| (first | assumption | exact And.left (by assumption) | exact Xl.New.at (by assumption) | (refine Xl.Same.at (by first | assumption | exact Xl.New.same (by assumption)) ?_; walk_at "at") | exact And.left (show Xl.Out _ _ _ _ by walk_at "out")))
local macro_rules | `(tactic| walk_at "same") => `(tactic| (first | assumption | exact Xl.New.same (by assumption) | (refine L2.Same.trans ?_ (by first | assumption | exact Xl.New.same (by assumption)); walk_at "same") | exact L2.Same.refl _))
local macro_rules | `(tactic| walk_at "fr") => `(tactic| (first | assumption | exact Xl.Fr.refl _ _ | (refine Xl.Fr.trans ?_ (by assumption); walk_at "fr")))
local macro_rules | `(tactic| walk_at "rd") => `(tactic| (repeat (first
  | (refine ⟨_, rfl, ?_⟩) | (refine ⟨_, _, rfl, rfl, ?_⟩) | (refine ⟨_, _, _, _, rfl, rfl, L2.SqL.of (by walk_at "at"), rfl, ?_⟩) | (refine ⟨_, _, _, _, rfl, rfl, L2.SqT.of (by walk_at "at"), rfl, ?_⟩))))

namespace Xl
open PySem L2
def top (i : Nat) : Stmt := PySem.Challenge.pw_extralink_k05_least_and_greatest.main.body.getD i (.Pass ⟨0, 0, 0, 0⟩)
abbrev s_BadCount___init__ : Stmt := inClass (top 3) 0
abbrev s_OutOfRange___init__ : Stmt := inClass (top 4) 0
abbrev s_common_divisor : Stmt := top 9
abbrev s_Ratio___init__ : Stmt := inClass (top 10) 0
abbrev s_Ratio_top : Stmt := inClass (top 10) 2
abbrev s_Ratio_bottom : Stmt := inClass (top 10) 3
abbrev s_Ratio_below : Stmt := inClass (top 10) 6
abbrev s_Ratio___neg__ : Stmt := inClass (top 10) 7
abbrev s_as_ratio : Stmt := top 12
abbrev s_least : Stmt := top 13
abbrev s_greatest : Stmt := top 14
abbrev s_start : Stmt := top 16
abbrev s_draw : Stmt := top 17
abbrev s_low : Stmt := top 18
abbrev s_less : Stmt := top 21
abbrev s_is : Stmt := top 22
abbrev s_value : Stmt := top 23
abbrev s_refused : Stmt := top 24
abbrev s_extreme : Stmt := top 25
abbrev s_right : Stmt := top 26
abbrev s_law : Stmt := top 27
/-- what the top has left -/
structure GG (K : PySem.W.Frag) (mg : Str → Option Value) where
  c_ExtralinkError : Addr
  g_ExtralinkError : mg "ExtralinkError" = some (.ref c_ExtralinkError)
  c_BadCount : Addr
  g_BadCount : mg "BadCount" = some (.ref c_BadCount)
  c_OutOfRange : Addr
  g_OutOfRange : mg "OutOfRange" = some (.ref c_OutOfRange)
  c_Ratio : Addr
  g_Ratio : mg "Ratio" = some (.ref c_Ratio)
  a_BadCount___init__ : Addr
  fd_BadCount___init__ : FuncData
  F_BadCount___init__ : Fun K "__init__" "BadCount.__init__" s_BadCount___init__ a_BadCount___init__ fd_BadCount___init__
  a_OutOfRange___init__ : Addr
  fd_OutOfRange___init__ : FuncData
  F_OutOfRange___init__ : Fun K "__init__" "OutOfRange.__init__" s_OutOfRange___init__ a_OutOfRange___init__ fd_OutOfRange___init__
  a_common_divisor : Addr
  fd_common_divisor : FuncData
  F_common_divisor : Fun K "common_divisor" "common_divisor" s_common_divisor a_common_divisor fd_common_divisor
  m_common_divisor : mg "common_divisor" = some (.ref a_common_divisor)
  a_Ratio___init__ : Addr
  fd_Ratio___init__ : FuncData
  F_Ratio___init__ : FunD K "__init__" "Ratio.__init__" (defArgs s_Ratio___init__) (defBody s_Ratio___init__) (defScope s_Ratio___init__) [.int 1] [] a_Ratio___init__ fd_Ratio___init__
  a_Ratio_top : Addr
  fd_Ratio_top : FuncData
  F_Ratio_top : Fun K "top" "Ratio.top" s_Ratio_top a_Ratio_top fd_Ratio_top
  a_Ratio_bottom : Addr
  fd_Ratio_bottom : FuncData
  F_Ratio_bottom : Fun K "bottom" "Ratio.bottom" s_Ratio_bottom a_Ratio_bottom fd_Ratio_bottom
  a_Ratio_below : Addr
  fd_Ratio_below : FuncData
  F_Ratio_below : Fun K "below" "Ratio.below" s_Ratio_below a_Ratio_below fd_Ratio_below
  a_Ratio___neg__ : Addr
  fd_Ratio___neg__ : FuncData
  F_Ratio___neg__ : Fun K "__neg__" "Ratio.__neg__" s_Ratio___neg__ a_Ratio___neg__ fd_Ratio___neg__
  a_as_ratio : Addr
  fd_as_ratio : FuncData
  F_as_ratio : Fun K "as_ratio" "as_ratio" s_as_ratio a_as_ratio fd_as_ratio
  m_as_ratio : mg "as_ratio" = some (.ref a_as_ratio)
  a_least : Addr
  fd_least : FuncData
  F_least : Fun K "least" "least" s_least a_least fd_least
  m_least : mg "least" = some (.ref a_least)
  a_greatest : Addr
  fd_greatest : FuncData
  F_greatest : Fun K "greatest" "greatest" s_greatest a_greatest fd_greatest
  m_greatest : mg "greatest" = some (.ref a_greatest)
  a_start : Addr
  fd_start : FuncData
  F_start : Fun K "_law_start" "_law_start" s_start a_start fd_start
  m_start : mg "_law_start" = some (.ref a_start)
  a_draw : Addr
  fd_draw : FuncData
  F_draw : Fun K "_law_draw" "_law_draw" s_draw a_draw fd_draw
  m_draw : mg "_law_draw" = some (.ref a_draw)
  a_low : Addr
  fd_low : FuncData
  F_low : Fun K "_law_low" "_law_low" s_low a_low fd_low
  m_low : mg "_law_low" = some (.ref a_low)
  a_less : Addr
  fd_less : FuncData
  F_less : Fun K "_law_less" "_law_less" s_less a_less fd_less
  m_less : mg "_law_less" = some (.ref a_less)
  a_is : Addr
  fd_is : FuncData
  F_is : Fun K "_law_is" "_law_is" s_is a_is fd_is
  m_is : mg "_law_is" = some (.ref a_is)
  a_value : Addr
  fd_value : FuncData
  F_value : Fun K "_law_value" "_law_value" s_value a_value fd_value
  m_value : mg "_law_value" = some (.ref a_value)
  a_refused : Addr
  fd_refused : FuncData
  F_refused : Fun K "_law_refused" "_law_refused" s_refused a_refused fd_refused
  m_refused : mg "_law_refused" = some (.ref a_refused)
  a_extreme : Addr
  fd_extreme : FuncData
  F_extreme : Fun K "_law_extreme" "_law_extreme" s_extreme a_extreme fd_extreme
  m_extreme : mg "_law_extreme" = some (.ref a_extreme)
  a_right : Addr
  fd_right : FuncData
  F_right : Fun K "_law_right" "_law_right" s_right a_right fd_right
  m_right : mg "_law_right" = some (.ref a_right)
  a_law : Addr
  fd_law : FuncData
  F_law : Fun K "law" "law" s_law a_law fd_law
  m_law : mg "law" = some (.ref a_law)
  g_DIGITS : ∃ u, mg "DIGITS" = some u ∧ RelV (.str "0123456789") u
  g_MOST_DIGITS : ∃ u, mg "MOST_DIGITS" = some u ∧ RelV (.int 9) u
  z_ValueError : mg "ValueError" = none
  z_abs : mg "abs" = none
  z_classmethod : mg "classmethod" = none
  z_int : mg "int" = none
  z_isinstance : mg "isinstance" = none
  z_len : mg "len" = none
  z_list : mg "list" = none
  z_property : mg "property" = none
  z_range : mg "range" = none
  z_str : mg "str" = none
  z_tuple : mg "tuple" = none
  ei_ExtralinkError : ∃ mc, ClX.CRead K c_ExtralinkError mc ∧ PySem.W.findCls K (.ref c_ExtralinkError) mc "__init__" = some (.val (.builtin "ValueError.__init__"))
  ox_BadCount : OexC K c_BadCount
  in_BadCount : PySem.W.findIn K (.ref c_BadCount) "__init__" = some (some (.ref a_BadCount___init__)) ∧ PySem.W.typeIn K (.ref a_BadCount___init__) = some (.type "function")
  no_BadCount_count : PySem.W.findIn K (.ref c_BadCount) "count" = some none
  xf_BadCount : XfC K c_BadCount
  te_BadCount : PySem.W.exmOne K (.ref c_BadCount) (.ref c_BadCount) = some true
  ty_BadCount : PySem.W.findIn K (.ref c_BadCount) "__class__" = some (some (.builtin "object.__class__")) ∧ PySem.W.specialIn K (.builtin "object.__class__") "__get__" = some (some (.builtin "getset_descriptor.__get__")) ∧ PySem.W.takesIn K (.builtin "object.__class__") = some true ∧ PySem.W.mroIn K c_BadCount (.type "object") = some true
  isa_BadCount_ExtralinkError : PySem.W.kitOne K (.ref c_BadCount) (.ref c_ExtralinkError) = some true
  ox_OutOfRange : OexC K c_OutOfRange
  in_OutOfRange : PySem.W.findIn K (.ref c_OutOfRange) "__init__" = some (some (.ref a_OutOfRange___init__)) ∧ PySem.W.typeIn K (.ref a_OutOfRange___init__) = some (.type "function")
  no_OutOfRange_value : PySem.W.findIn K (.ref c_OutOfRange) "value" = some none
  xf_OutOfRange : XfC K c_OutOfRange
  te_OutOfRange : PySem.W.exmOne K (.ref c_OutOfRange) (.ref c_OutOfRange) = some true
  cl_Ratio : Cls K c_Ratio
  mk_Ratio : Mk K c_Ratio a_Ratio___init__
  no_Ratio_upper : NoAttr K c_Ratio "upper"
  no_Ratio_lower : NoAttr K c_Ratio "lower"
  me_Ratio___init__ : Meth K c_Ratio "__init__" a_Ratio___init__
  me_Ratio_below : Meth K c_Ratio "below" a_Ratio_below
  me_Ratio___neg__ : Meth K c_Ratio "__neg__" a_Ratio___neg__
  pr_Ratio_top : ∃ p, PropOf K c_Ratio "top" p a_Ratio_top
  pr_Ratio_bottom : ∃ p, PropOf K c_Ratio "bottom" p a_Ratio_bottom
  ty_Ratio : PySem.W.findIn K (.ref c_Ratio) "__class__" = some (some (.builtin "object.__class__")) ∧ PySem.W.specialIn K (.builtin "object.__class__") "__get__" = some (some (.builtin "getset_descriptor.__get__")) ∧ PySem.W.takesIn K (.builtin "object.__class__") = some true ∧ PySem.W.mroIn K c_Ratio (.type "object") = some true
  isa_Ratio_Ratio : PySem.W.kitOne K (.ref c_Ratio) (.ref c_Ratio) = some true
  isa_int_Ratio : PySem.W.kitOne K (.type "int") (.ref c_Ratio) = some false
end Xl

namespace Xl
open PySem L2
section
variable {P : Program} {w : World} {K : PySem.W.Frag} {mg : Str → Option Value} {base : Heap}
theorem int_at {ns : List Int} {i : Nat} {x : V} (h : (ns.map V.int)[i]? = some x) : ∃ z, ns[i]? = some z ∧ x = V.int z := by
  rw [List.getElem?_map] at h
  cases e : ns[i]? with
  | none => rw [e] at h; cases h
  | some z => rw [e] at h; exact ⟨z, rfl, (Option.some.inj h).symm⟩
theorem small_sz {n : Nat} (h : n ≤ 1000000) : n ≤ sizeLine := Nat.le_trans h (by decide)
theorem small_szlt {n : Nat} (h : n ≤ 1000000) : n < sizeLine := Nat.lt_of_le_of_lt h (by decide)
theorem ixN_at {n j : Nat} (h : j < n) : ixN n (j : Int) = some j := by
  unfold ixN
  rw [if_pos (by omega), if_pos (by omega), Int.toNat_natCast]
abbrev N_start : List Str := ["_law_script", "_law_cell"]
theorem sc_start : FnScope N_start ["_law_script"] (defScope s_start) := ⟨rfl, rfl, rfl, by decide +kernel, rfl, by decide +kernel, by decide +kernel⟩
theorem ok_start (T : GG K mg) : FnOk P w K mg base (L2.CX P w) 1 T.a_start T.fd_start ["_law_script"] (spStart K) := by
  refine okN T.F_start sc_start (fun vs H Q E h => ?_) (fun cdv A outer s H vs Q E hr h => ?_)
  · obtain ⟨a, ns, rfl, _⟩ := h
    rfl
  · obtain ⟨a, ns, rfl, hS, hl, k⟩ := h
    refine ⟨_, (pss_one (ps_ret (pe_lstN (pa_cons (pe_lc (own := [("_law_cell", 1)])  rfl sc_start.nd (pi_list (pv 0)) (blkOk_by (N := N_start) (sc := defScope s_start) (by decide +kernel)) (fun _ _ _ _ _ => (pg_name (i := 1) sc_start.nd rfl (Or.inl rfl)))
      (fun _ _ _ _ _ => (pts_one (pt_cmpR op_ge (pe_callB call_abs rfl T.z_abs (by decide +kernel) (pa_cons (pv 1) pa_nil)) (pe_op op_pow pe_int pe_int) (nomark _)))) (fun _ _ _ _ _ => (pe_callB call_abs rfl T.z_abs (by decide +kernel) (pa_cons (pv 1) pa_nil))))
      (pa_cons (pe_op op_catN (pe_callTy call_list_ofN rfl T.z_list (by decide +kernel) (pa_cons (pv 0) pa_nil)) (pe_lstN (pa_cons pe_int pa_nil))) (pa_cons pe_int pa_nil)))))), ?_⟩
    refine ⟨_, rfl, a, rfl, ⟨_, hS⟩, fun D hD => lc_list (K := K) (a := a) (xs := ns.map V.int) (fun i H1 => ∃ cs : List Int, cs.length ≤ i ∧ H1 D = some (.lst (cs.map V.int)) ∧ Same H H1) ?_ ?_ ?_ ?_⟩
    · exact ⟨[], Nat.le_refl _, upd_same, (new_of hD).same⟩
    · rintro i H1 _ ⟨cs, _, _, hs⟩
      exact Same.seq hs hS
    · rintro i x H1 hx ⟨cs, hc, h1, hs⟩
      obtain ⟨z, hz, rfl⟩ := int_at hx
      have hil := (List.getElem?_eq_some_iff.mp hz).1
      refine ⟨rfl, _, rfl, _, rfl, _, _, rfl, rfl, ⟨by decide, by decide, by decide⟩, _, _, rfl, rfl, _, rfl, ite2 (fun _ => ?_) (fun _ => ?_)⟩
      · refine ⟨_, rfl, _, rfl, _, h1, ?_, cs ++ [(if z < 0 then -z else z)], ?_, ?_, fun b o e => ?_⟩
        · rw [List.length_map]; exact small_szlt (by omega)
        · rw [List.length_append]; exact Nat.succ_le_succ hc
        · rw [upd_same, List.map_append]; rfl
        · rw [upd_ne (ne_of_none e hD)]; exact hs b o e
      · exact ⟨cs, Nat.le_succ_of_le hc, h1, hs⟩
    · rintro H1 ⟨cs, hc, h1, hs⟩
      refine ⟨_, rfl, a, _, rfl, .inl (Same.seq hs hS), fun l H2 n2 => ⟨(by show 1 ≤ sizeLine; decide), fun l5 H3 n3 => ?_⟩⟩
      refine ⟨l, l5, _, _, rfl, rfl, by walk_at "at", n3.at, ?_, fun l1 H4 n4 => ?_⟩
      · rw [List.length_map]; exact small_sz (show ns.length + 1 ≤ 1000000 by omega)
      refine ⟨(by show 3 ≤ sizeLine; decide), fun st H5 n5 => ?_⟩
      have hD3 : H3 D = some (.lst (cs.map V.int)) := n3.same _ _ (n2.same _ _ h1)
      have hD4 := n4.same _ _ hD3
      have d3 : D ≠ l1 := n4.ne hD3
      have d5 : D ≠ st := n5.ne hD4
      have d4 : l1 ≠ st := n5.ne n4.at
      have s5 : Same H H5 := (((hs.trans n2.same).trans n3.same).trans n4.same).trans n5.same
      refine k st (Own st D l1) _ ⟨D, l1, cs, ns ++ [5], 0, rfl, d5.symm, d4.symm, d3, n5.at, n5.same _ _ hD4, ?_, ?_, by decide, by decide⟩ s5 fun b hb => ?_
      · rw [List.map_append]; exact n5.same _ _ n4.at
      · rw [List.length_append]; exact Nat.succ_pos _
      · rcases hb with rfl | rfl | rfl
        · exact (((hs.trans n2.same).trans n3.same).trans n4.same).free n5.1
        · exact hD
        · exact ((hs.trans n2.same).trans n3.same).free n4.1
theorem F_start (T : GG K mg) : FnI P w K mg base "_law_start" 1 ["_law_script"] (spStart K) :=
  ⟨T.a_start, T.fd_start, ok_start T, T.m_start, T.F_start.kp, T.F_start.binds fun _ _ _ _ _ _ us hl => match us, hl with | [_], _ => rfl⟩

/-! ### _law_draw -/
/-- the state with the cells cs at l0, the copy ss at l1, the count c -/
structure StIn (H : Hp) (st l0 l1 : Addr) (cs ss : List Int) (c : Int) : Prop where
  n0 : st ≠ l0
  n1 : st ≠ l1
  n2 : l0 ≠ l1
  h0 : H st = some (.lst [.ref l0, .ref l1, .int c])
  h1 : H l0 = some (.lst (cs.map V.int))
  h2 : H l1 = some (.lst (ss.map V.int))
theorem draw_cell {x : Int} : 0 ≤ x % 2147483647 ∧ x % 2147483647 < 2147483647 := ⟨Int.emod_nonneg _ (by decide), Int.emod_lt_of_pos _ (by decide)⟩
theorem draw_pow {x c k m : Int} {n : Nat} (h0 : 0 ≤ x) (h1 : x < 2147483647) (h2 : 0 ≤ c) (h3 : c ≤ n) (h4 : n ≤ 2 ^ 40) (hk : 0 ≤ k) (hk2 : k < 100000) (hm : 0 ≤ m) (hm2 : m < 100000) (j : Int) (hj : 0 ≤ j) (hj2 : j < 100) : (x * k + c * m + j).natAbs < 2 ^ 64 := by
  have a1 : x * k ≤ 2147483647 * 100000 := Int.mul_le_mul (by omega) (by omega) hk (by decide)
  have a2 : 0 ≤ x * k := Int.mul_nonneg h0 hk
  have a3 : c * m ≤ 1099511627776 * 100000 := Int.mul_le_mul (by omega) (by omega) hm (by decide)
  have a4 : 0 ≤ c * m := Int.mul_nonneg h2 hm
  omega
abbrev N_draw : List Str := ["_law_state", "_law_size", "_law_cell", "_law_one", "_law_digit"]
theorem sc_draw : FnScope N_draw ["_law_state", "_law_size"] (defScope s_draw) := ⟨rfl, rfl, rfl, by decide +kernel, rfl, by decide +kernel, by decide +kernel⟩
theorem ok_draw (T : GG K mg) : FnOk P w K mg base (L2.CX P w) 1 T.a_draw T.fd_draw ["_law_state", "_law_size"] spDraw := by
  refine okN T.F_draw sc_draw (fun vs H Q E h => ?_) (fun cdv A outer s H vs Q E hr h => ?_)
  · obtain ⟨F, st, n, size, rfl, _⟩ := h
    rfl
  · obtain ⟨F, st, n, size, rfl, hst, hn, hs0, hs1, k⟩ := h
    obtain ⟨l0, l1, cs, ss, c, rfl, a1, a2, a3, h1, h2, h3, hss, hc0, hc1⟩ := hst.ex
    refine ⟨_, (pss_cons (ps_augS (pv 0) pe_int get_list pe_int ip_add set_list)
      (pss_cut (ps_while PassesOwn.never (PW.pt (pw_and (pt_cmpR (op_neNil hr.units) (pe_ix ix_list (pv 0) pe_int (fun _ _ => rfl)) (pe_lstN pa_nil) (nomark _)) (pw_and1 (pt_cmpR op_eq (pe_ix ix_list (pe_ix ix_list (pv 0) pe_int (fun _ _ => rfl)) pe_int (fun _ _ => rfl)) pe_int (nomark _)))))
        (pss_one (ps_asg (pe_slice sl_listN (pe_ix ix_list (pv 0) pe_int (fun _ _ => rfl)) (po_some pe_int) po_none) (pg_sub (pv 0) pe_int set_list))))
      (pss_cons (ps_if (pt_cmpR (op_neNil hr.units) (pe_ix ix_list (pv 0) pe_int (fun _ _ => rfl)) (pe_lstN pa_nil) (nomark _)) (pss_cons (ps_set (i := 4) sc_draw.nd rfl (Or.inl rfl) (pe_op op_mod (pe_callTy call_int1 rfl T.z_int (by decide +kernel) (pa_cons (pe_ix ix_list (pe_ix ix_list (pv 0) pe_int (fun _ _ => rfl)) pe_int (fun _ _ => rfl)) pa_nil)) (pv 1)))
        (pss_cons (ps_asg (pe_op op_fdivW (pe_ix ix_list (pe_ix ix_list (pv 0) pe_int (fun _ _ => rfl)) pe_int (fun _ _ => rfl)) (pv 1)) (pg_sub (pe_ix ix_list (pv 0) pe_int (fun _ _ => rfl)) pe_int set_list))
        (pss_one (ps_ret (pv 4))))) pss_nil)
      (pss_cons (ps_set (i := 2) sc_draw.nd rfl (Or.inl rfl) (pe_op op_mod (pe_callTy call_int1 rfl T.z_int (by decide +kernel) (pa_cons (pe_ix ix_list (pe_ix ix_list (pv 0) pe_int (fun _ _ => rfl)) (pe_op op_mod (pe_callTy call_int1 rfl T.z_int (by decide +kernel) (pa_cons (pe_ix ix_list (pv 0) pe_int (fun _ _ => rfl)) pa_nil)) (pe_callB call_len_seq rfl T.z_len PySem.boot_len (pa_cons (pe_ix ix_list (pv 0) pe_int (fun _ _ => rfl)) pa_nil))) (fun _ _ => rfl)) pa_nil)) pe_int))
      (pss_cons (ps_set (i := 3) sc_draw.nd rfl (Or.inl rfl) (pe_op op_mod (pe_callTy call_int1 rfl T.z_int (by decide +kernel) (pa_cons (pe_op op_pow (pe_op op_add (pe_op op_add (pe_op op_mul (pv 2) pe_int) (pe_op op_mul (pe_ix ix_list (pv 0) pe_int (fun _ _ => rfl)) pe_int)) pe_int) pe_int) pa_nil)) pe_int))
      (pss_one (ps_ret (pe_op op_mod (pe_op op_mod (pe_callTy call_int1 rfl T.z_int (by decide +kernel) (pa_cons (pe_op op_pow (pe_op op_add (pe_op op_add (pe_op op_mul (pv 3) pe_int) (pe_op op_mul (pe_ix ix_list (pv 0) pe_int (fun _ _ => rfl)) pe_int)) pe_int) pe_int) pa_nil)) pe_int) (pv 1))))))))), ?_⟩
    -- state[2] += 1
    refine ⟨_, rfl, st, _, _, _, rfl, rfl, SqL.of h1, rfl, _, _, rfl, rfl, st, _, 2, 2, rfl, rfl, h1, rfl, ?_⟩
    -- the cells of nought are dropped
    refine ⟨fun σ H1 => ∃ (l : Addr) (cs1 : List Int), σ = [some (.ref st), some (.int size), none, none, none] ∧ StIn H1 st l l1 cs1 ss (c + 1) ∧ Fr (Own st l0 l1) H (Own st l l1) H1,
      ⟨fun m σ H1 => ∃ (l : Addr) (cs1 : List Int), m = cs1.length ∧ σ = [some (.ref st), some (.int size), none, none, none] ∧ StIn H1 st l l1 cs1 ss (c + 1) ∧ Fr (Own st l0 l1) H (Own st l l1) H1, ⟨_, l0, cs, rfl, rfl, ⟨a1, a2, a3, upd_same, ?_, ?_⟩, ?_, fun _ z => .inl z, fun _ z => upd_free z⟩, ?_⟩, ?_⟩
    · rw [upd_ne a1.symm]; exact h2
    · rw [upd_ne a2.symm]; exact h3
    · intro b o e nb
      rw [upd_ne fun z => nb (.inl z)]; exact e
    · rintro m σ H1 ⟨l, cs1, rfl, rfl, S, fr⟩
      refine ⟨_, rfl, st, _, _, _, rfl, rfl, SqL.of S.h0, rfl, (by show 0 ≤ sizeLine; decide), fun p H2 n2 => ⟨l, p, _, rfl, rfl, n2.same _ _ S.h1, n2.at, ?_⟩⟩
      have S2 : StIn H2 st l l1 cs1 ss (c + 1) := ⟨S.n0, S.n1, S.n2, n2.same _ _ S.h0, n2.same _ _ S.h1, n2.same _ _ S.h2⟩
      have fr2 : Fr (Own st l0 l1) H (Own st l l1) H2 := fr.trans (Fr.same n2.same)
      cases cs1 with
      | nil => exact ⟨_, rfl, iteF (iteF ⟨l, [], rfl, S2, fr2⟩)⟩
      | cons z r =>
        refine ⟨_, rfl, iteT ⟨_, rfl, st, _, _, _, rfl, rfl, SqL.of S2.h0, rfl, l, _, _, V.int z, rfl, rfl, SqL.of S2.h1, at_of (j := 0) rfl rfl, rfl, _, rfl, ?_⟩⟩
        refine ite2 (fun _ => ?_) (fun _ => ⟨l, _, rfl, S2, fr2⟩)
        refine ⟨_, fun _ _ h => h, ?_⟩
        refine ⟨_, rfl, st, _, _, _, rfl, rfl, SqL.of S2.h0, rfl, _, rfl, l, _, rfl, SqL.of S2.h1, fun p3 H3 n3 => ⟨_, rfl, st, _, 0, 0, rfl, rfl, n3.same _ _ S2.h0, rfl, ?_⟩⟩
        have e1 : cutV ((z :: r).map V.int) (some 1) none = r.map V.int := by
          simp [cutV, HT.sIx]
          rw [List.take_of_length_le (by rw [List.length_map]; exact Nat.le_refl _)]
        have m1 : st ≠ p3 := n3.ne S2.h0
        have m2 : l1 ≠ p3 := n3.ne S2.h2
        refine ⟨r.length, Nat.lt_succ_self _, p3, r, rfl, rfl, ⟨m1, S2.n1, m2.symm, upd_same, ?_, ?_⟩, ?_, ?_, fun b z => fr2.free b (n3.same.free (upd_free z))⟩
        · rw [upd_ne m1.symm, ← e1]; exact n3.at
        · rw [upd_ne S2.n1.symm]; exact n3.same _ _ S2.h2
        · intro b o e nb
          have q := fr2.out ⟨e, nb⟩
          rw [upd_ne fun z => q.2 (.inl z)]
          exact n3.same _ _ q.1
        · intro b hb
          rcases hb with rfl | rfl | rfl
          · exact .inl (.inl rfl)
          · by_cases hF : Own st l0 l1 b
            · exact .inl hF
            · exact .inr (fr2.none hF n3.1)
          · exact .inl (.inr (.inr rfl))
    · rintro σ H1 ⟨l, cs1, rfl, S, fr⟩
      refine ⟨_, rfl, st, _, _, _, rfl, rfl, SqL.of S.h0, rfl, (by show 0 ≤ sizeLine; decide), fun p H2 n2 => ⟨l, p, _, rfl, rfl, n2.same _ _ S.h1, n2.at, ?_⟩⟩
      have S2 : StIn H2 st l l1 cs1 ss (c + 1) := ⟨S.n0, S.n1, S.n2, n2.same _ _ S.h0, n2.same _ _ S.h1, n2.same _ _ S.h2⟩
      have fr2 : Fr (Own st l0 l1) H (Own st l l1) H2 := fr.trans (Fr.same n2.same)
      have hc2 : c + 1 ≤ (n + 1 : Nat) := by omega
      cases cs1 with
      | cons z r =>
        refine ⟨_, rfl, iteT ⟨_, rfl, st, _, _, _, rfl, rfl, SqL.of S2.h0, rfl, l, _, _, V.int z, rfl, rfl, SqL.of S2.h1, at_of (j := 0) rfl rfl, .inl ⟨_, rfl, _, rfl, _, _, rfl, rfl, hs0, ?_⟩⟩⟩
        refine ⟨_, rfl, st, _, _, _, rfl, rfl, SqL.of S2.h0, rfl, l, _, _, V.int z, rfl, rfl, SqL.of S2.h1, at_of (j := 0) rfl rfl, _, rfl, _, _, rfl, rfl, wide_div hs0 (b := 200) (by omega) (by decide) (by decide), ?_⟩
        refine ⟨_, rfl, st, _, _, _, rfl, rfl, SqL.of S2.h0, rfl, l, _, 0, 0, rfl, rfl, S2.h1, ixN_at (by simp), _, rfl, ?_⟩
        refine k _ (Own st l l1) _ (Int.emod_nonneg _ (by omega)) (Int.emod_lt_of_pos _ hs0) ⟨l, l1, (z / size) :: r, ss, c + 1, rfl, S2.n0, S2.n1, S2.n2, ?_, ?_, ?_, hss, by omega, hc2⟩ ⟨?_, fr2.grow, fun b z => fr2.free b (upd_free z)⟩
        · rw [upd_ne S2.n0]; exact S2.h0
        · rw [upd_same]; rfl
        · rw [upd_ne S2.n2.symm]; exact S2.h2
        · intro b o e nb
          have q := fr2.out ⟨e, nb⟩
          rw [upd_ne fun z => q.2 (.inr (.inl z))]
          exact q.1
      | nil =>
        refine ⟨_, rfl, iteF ?_⟩
        -- cell
        have hlen : (0 : Int) < (ss.length : Int) := by omega
        have hm0 := Int.emod_nonneg (c + 1) (show (ss.length : Int) ≠ 0 by omega)
        have hm1 := Int.emod_lt_of_pos (c + 1) hlen
        obtain ⟨j, ej⟩ : ∃ j : Nat, (c + 1) % (ss.length : Int) = (j : Int) := ⟨((c + 1) % (ss.length : Int)).toNat, by omega⟩
        have hj : j < ss.length := by omega
        refine ⟨_, rfl, st, _, _, _, rfl, rfl, SqL.of S2.h0, rfl, _, rfl, st, _, _, _, rfl, rfl, SqL.of S2.h0, rfl, .inl ⟨_, rfl, _, rfl, st, _, _, _, rfl, rfl, SqL.of S2.h0, rfl, l1, _, rfl, .inl (SqL.of S2.h2), _, _, rfl, rfl, (by rw [List.length_map]; exact hlen),
          l1, _, _, V.int ss[j], rfl, rfl, SqL.of S2.h2, at_of (j := j) (by rw [List.length_map]; exact ej) (by rw [List.getElem?_map, List.getElem?_eq_getElem hj]; rfl), .inl ⟨_, rfl, _, _, rfl, rfl, (by show (0 : Int) < 2147483647; decide), ?_⟩⟩⟩
        obtain ⟨g0, g1⟩ := draw_cell (x := ss[j])
        -- one
        refine ⟨_, rfl, _, _, rfl, rfl, .inr ⟨by decide, by decide⟩, _, rfl, st, _, _, _, rfl, rfl, SqL.of S2.h0, rfl, _, _, rfl, rfl, .inr ⟨by decide, by decide⟩, _, _, rfl, rfl, _, _, rfl, rfl, _, _, rfl, rfl, ⟨by decide, by decide, ?_⟩, .inl ⟨_, rfl, _, _, rfl, rfl, (by show (0 : Int) < 2147483647; decide), ?_⟩⟩
        · exact draw_pow g0 g1 (by omega) hc2 (by omega) (by decide) (by decide) (by decide) (by decide) 7 (by decide) (by decide)
        obtain ⟨g2, g3⟩ := draw_cell (x := (ss[j] % 2147483647 * 48271 + (c + 1) * 69621 + 7) ^ Int.toNat 5)
        refine ⟨_, rfl, _, _, rfl, rfl, .inr ⟨by decide, by decide⟩, _, rfl, st, _, _, _, rfl, rfl, SqL.of S2.h0, rfl, _, _, rfl, rfl, .inr ⟨by decide, by decide⟩, _, _, rfl, rfl, _, _, rfl, rfl, _, _, rfl, rfl, ⟨by decide, by decide, ?_⟩, .inl ⟨_, rfl, _, _, rfl, rfl, (by show (0 : Int) < 2147483629; decide), _, rfl, _, _, rfl, rfl, hs0, ?_⟩⟩
        · exact draw_pow g2 g3 (by omega) hc2 (by omega) (by decide) (by decide) (by decide) (by decide) 13 (by decide) (by decide)
        exact k _ (Own st l l1) _ (Int.emod_nonneg _ (by omega)) (Int.emod_lt_of_pos _ hs0) ⟨l, l1, [], ss, c + 1, rfl, S2.n0, S2.n1, S2.n2, S2.h0, S2.h1, S2.h2, hss, by omega, hc2⟩ fr2
theorem F_draw (T : GG K mg) : FnI P w K mg base "_law_draw" 1 ["_law_state", "_law_size"] spDraw :=
  ⟨T.a_draw, T.fd_draw, ok_draw T, T.m_draw, T.F_draw.kp, T.F_draw.binds fun _ _ _ _ _ _ us hl => match us, hl with | [_, _], _ => rfl⟩
end
end Xl

namespace Xl
open PySem L2
theorem at_ex {α : Type} {xs : List α} {d : Int} (h0 : 0 ≤ d) (h1 : d < xs.length) : ∃ (j : Nat) (v : α), d = j ∧ j < xs.length ∧ xs[j]? = some v ∧ atI xs d = some v := by
  obtain ⟨j, rfl⟩ := Int.eq_ofNat_of_zero_le h0
  have hj : j < xs.length := by omega
  exact ⟨j, xs[j], rfl, hj, List.getElem?_eq_getElem hj, atI_nat (List.getElem?_eq_getElem hj)⟩
theorem str_app_len (x y : Str) : (x ++ y).length = x.length + y.length := by
  show (x.cps ++ y.cps).size = x.cps.size + y.cps.size
  rw [Array.size_append]
theorem strjoin_len (y : Str) : ∀ ps : List Str, (Str.join y ps).length ≤ (ps.map (·.length)).sum + ps.length * y.length
  | [] => Nat.zero_le _
  | [p] => by
    show p.length ≤ _
    simp
  | p :: q :: r => by
    have ih := strjoin_len y (q :: r)
    show (p ++ y ++ Str.join y (q :: r)).length ≤ _
    rw [str_app_len, str_app_len]
    simp only [List.map_cons, List.sum_cons, List.length_cons, Nat.succ_mul] at ih ⊢
    omega
theorem join_len (y : Str) (ps : List Str) : (Txt.join y ps).length ≤ (ps.map (·.length)).sum + ps.length * y.length := by
  rw [TL.join_eq]
  exact strjoin_len y ps
theorem one_len (c : Nat) : (⟨#[c]⟩ : Str).length = 1 := rfl
theorem ones_sum : ∀ cs : List Nat, ((cs.map fun c => (⟨#[c]⟩ : Str)).map (·.length)).sum = cs.length
  | [] => rfl
  | c :: r => by
    simp only [List.map_cons, List.sum_cons, List.length_cons, ones_sum r, one_len]
    omega
theorem str_len (z : Str) : z.length = z.cps.toList.length := by
  show z.cps.size = z.cps.toList.length
  rw [Array.length_toList]
/-- texts of one sign -/
def onesV (cs : List Nat) : List V := cs.map fun c => .str ⟨#[c]⟩
theorem onesV_str (cs : List Nat) : onesV cs = (cs.map fun c => (⟨#[c]⟩ : Str)).map V.str := by
  unfold onesV
  rw [List.map_map]
  rfl
theorem at_strs {zs : List Str} {d : Int} (h0 : 0 ≤ d) (h1 : d < zs.length) : ∃ z, z ∈ zs ∧ atI (zs.map V.str) d = some (.str z) := by
  obtain ⟨j, v, e, hj, hv, hat⟩ := at_ex (xs := zs.map V.str) h0 (by rw [List.length_map]; exact h1)
  rw [List.getElem?_map] at hv
  cases ez : zs[j]? with
  | none => rw [ez] at hv; cases hv
  | some z =>
    rw [ez] at hv
    cases hv
    exact ⟨z, List.mem_of_getElem? ez, hat⟩
theorem sum_le {L : Nat} : ∀ {ys : List Str}, (∀ z ∈ ys, z.length ≤ L) → (ys.map fun z : Str => z.length).sum ≤ ys.length * L
  | [], _ => Nat.zero_le _
  | y :: ys, h => by
    have h1 := sum_le (ys := ys) fun z hz => h z (List.mem_cons_of_mem _ hz)
    have h2 := h y List.mem_cons_self
    simp only [List.map_cons, List.sum_cons, List.length_cons, Nat.succ_mul]
    omega
theorem cutV_strs (zs : List Str) (lo hi : Option Int) : ∃ zs' : List Str, cutV (zs.map V.str) lo hi = zs'.map V.str ∧ zs'.length ≤ zs.length ∧ ∀ z ∈ zs', z ∈ zs := by
  unfold cutV
  refine ⟨(zs.drop (HT.sIx (zs.map V.str).length 0 lo)).take (HT.sIx (zs.map V.str).length (zs.map V.str).length hi - HT.sIx (zs.map V.str).length 0 lo), ?_, ?_, fun z hz => ?_⟩
  · rw [List.map_take, List.map_drop]
  · rw [List.length_take, List.length_drop]
    omega
  · exact List.mem_of_mem_drop (List.mem_of_mem_take hz)
/-- a text of one sign, times an int -/
theorem op_mulS {X : Cx} : OpR X (binaryOp .Mult) (fun x y H Q => ∃ z n, x = .str z ∧ y = .int n ∧ z.length = 1 ∧ 1 ≤ n ∧ n ≤ 100000 ∧ ∀ r : Str, r.length ≤ 100000 → Q (.str r) H) := by
  intro pins s σ H x y v u Q I rx ry h
  obtain ⟨z, n, rfl, rfl, hz, h1, h2, q⟩ := h
  obtain ⟨t, rfl⟩ := rx
  obtain ⟨t', rfl⟩ := ry
  have hok : PySem.MulOk z n := by
    refine ⟨?_, fun _ _ => ?_, fun _ _ => ?_⟩
    · rw [decide_eq_false (by omega), decide_eq_false (by omega)]; rfl
    · rw [hz]
      have hd : (1 : Int) ≤ (2 ^ 63 - 1) / n := by
        rw [Int.le_ediv_iff_mul_le (by omega)]
        omega
      omega
    · rw [hz]
      unfold PySem.Builtin.Str.tooLong
      have : (sizeLine : Nat) ≥ 1000000 := by decide
      simp
      omega
  refine PySem.SB.mul hok fun t' k => ⟨.str (Txt.mul z n), H, I.tok _, ⟨_, rfl⟩, q _ ?_⟩
  have := PyProof.Rows.len_mul z n
  rw [hz, if_neg (by simp; omega)] at this
  omega
end Xl

namespace Xl
open PySem PySem.Spec PyProof.Rows L2
/-! ### a list or a tuple -/
def SeqV (K : PySem.W.Frag) (H : Hp) (a : Addr) (xs : List V) : Prop := SqL K H a xs ∨ SqT K H a xs
theorem sqL_same {K : PySem.W.Frag} {H H' : Hp} {a : Addr} {xs : List V} (h : SqL K H a xs) (e : Same H H') : SqL K H' a xs :=
  h.elim (fun h => .inl (h.elim (fun h => .inl (e _ _ h)) fun ⟨o, h⟩ => .inr ⟨o, e _ _ h⟩)) fun h => .inr h
theorem sqT_same {K : PySem.W.Frag} {H H' : Hp} {a : Addr} {xs : List V} (h : SqT K H a xs) (e : Same H H') : SqT K H' a xs :=
  h.elim (fun h => .inl (h.elim (fun h => .inl (e _ _ h)) fun ⟨o, h⟩ => .inr ⟨o, e _ _ h⟩)) fun h => .inr h
theorem SeqV.same {K : PySem.W.Frag} {H H' : Hp} {a : Addr} {xs : List V} (h : SeqV K H a xs) (e : Same H H') : SeqV K H' a xs := h.elim (fun h => .inl (sqL_same h e)) fun h => .inr (sqT_same h e)
section
variable {X : Cx} {tg : Expr}
def rIxS (K : PySem.W.Frag) : R2 := fun x y H Q => ∃ p xs k v, x = .ref p ∧ y = .int k ∧ SeqV K H p xs ∧ atI xs k = some v ∧ Q v H
theorem ix_seq : IxR X (rIxS X.K) := by
  intro value slice pins s σ H x y v u Q I rx ry h hs
  obtain ⟨p, xs, k, z, e1, e2, hq | hq, e3, q⟩ := h
  · exact ix_list value slice pins s σ H x y v u Q I rx ry ⟨p, xs, k, z, e1, e2, hq, e3, q⟩ hs
  · exact ix_tup value slice pins s σ H x y v u Q I rx ry ⟨p, xs, k, z, e1, e2, hq, e3, q⟩ hs
/-- for x in v, v in slot i: a list or a tuple -/
def iSeqV (K : PySem.W.Frag) (i : Nat) : TI := fun σ H R => ∃ a xs, σ[i]? = some (some (.ref a)) ∧ SeqV K H a xs ∧ ∀ (J : It) (S : Hp → Prop), (∀ H', Same H H' → S H') → Walk J xs.length S (YAt xs) → R J H
theorem pi_seqV {i : Nat} {x : Str} {p : Pos} (hv : PE X (.Name x p) (tVar i)) : PI X tg (.Name x p) (iSeqV X.K i) := by
  refine ⟨fun pins s σ H R I h => ?_⟩
  obtain ⟨a, xs, e, hq | hq, k⟩ := h
  · exact (pi_list hv).run pins s σ H R I ⟨.ref a, e, a, rfl, ⟨xs, hq⟩, k (Itl X.K a) (fun H' => SqL X.K H' a xs) (fun H' sm => sqL_same hq sm) walk_list⟩
  · exact (pi_tup hv).run pins s σ H R I ⟨.ref a, e, a, rfl, ⟨xs, hq⟩, k (Itt X.K a) (fun H' => SqT X.K H' a xs) (fun H' sm => sqT_same hq sm) walk_tup⟩
/-- values that == takes as equal if they are the same -/
def Flat : V → Prop
  | .int _ => True
  | .ref _ => True
  | _ => False
theorem eqAt_same {A : Around} {s : Shared} {x : V} {u v : Value} (hx : Flat x) (r : RelV x u) (r2 : RelV x v) : SeqAt.EqAt A s u v true := by
  cases x with
  | int i =>
    obtain ⟨t, rfl⟩ := r
    obtain ⟨t2, rfl⟩ := r2
    have := (MeetsSeq.EqGives.int i i t t2).at A s
    rw [beq_self_eq_true] at this
    exact this
  | ref a =>
    obtain rfl : u = Value.ref a := r
    obtain rfl : v = Value.ref a := r2
    exact SeqAt.EqAt.same _
  | _ => exact hx.elim
/-- xs != ys: two lists of the same values -/
theorem op_neSame (hu : X.A.units + 64 < cLine) : OpR X (compareOp .NotEq) (fun x y H Q => ∃ l b xs, x = .ref l ∧ y = .ref b ∧ SqL X.K H l xs ∧ SqL X.K H b xs ∧ (∀ v ∈ xs, Flat v) ∧ Q (.bl false) H) := by
  intro pins s σ H x y v u Q I rx ry h
  obtain ⟨l, b, xs, rfl, rfl, h1, h2, hf, q⟩ := h
  cases rx
  cases ry
  obtain ⟨its, r, p, _⟩ := I.list h1
  obtain ⟨ity, r2, p2, _⟩ := I.list h2
  have hu' : X.A.units < cLine := by omega
  have hl := r.length
  have hl2 := r2.length
  refine SeqAt.RcNeAt.lists (e := fun _ => true) p.isList p2.isList (by rw [List.size_toArray, List.size_toArray]; omega) hu' (fun j j1 j2 => ?_) _ _ _ _ ?_
  · rw [List.size_toArray] at j1 j2
    have hj : j < xs.length := by omega
    obtain ⟨w, ew, rw'⟩ := r.get (List.getElem?_eq_getElem hj)
    obtain ⟨w2, ew2, rw2⟩ := r2.get (List.getElem?_eq_getElem hj)
    have e1 : its.toArray[j]'(by rw [List.size_toArray]; exact j1) = w := by
      rw [List.getElem_toArray]
      exact (List.getElem?_eq_some_iff.mp ew).2
    have e2 : ity.toArray[j]'(by rw [List.size_toArray]; exact j2) = w2 := by
      rw [List.getElem_toArray]
      exact (List.getElem?_eq_some_iff.mp ew2).2
    rw [e1, e2]
    exact eqAt_same (hf _ (List.getElem_mem hj)) rw' rw2
  · have e : (List.range its.toArray.size).all (fun _ => true) = true := by simp
    rw [e]
    exact ⟨.bl false, H, I, rfl, q⟩
end
end Xl

namespace Xl
/-! ### fractions in lowest terms, in plain numbers -/
def sgcd (t b : Int) : Int := if b < 0 then -(Int.gcd t b : Int) else (Int.gcd t b : Int)
def nT (t b : Int) : Int := t.fdiv (sgcd t b)
def nB (t b : Int) : Int := b.fdiv (sgcd t b)
/-- in lowest terms -/
structure Low (p q : Int) : Prop where
  pos : 0 < q
  cop : Int.gcd p q = 1
theorem gcd_pos_of {t b : Int} (h : b ≠ 0) : 0 < Int.gcd t b := Int.gcd_pos_of_ne_zero_right t h
theorem sgcd_dvd_left (t b : Int) : sgcd t b ∣ t := by
  unfold sgcd
  split
  · exact Int.neg_dvd.mpr (Int.gcd_dvd_left ..)
  · exact Int.gcd_dvd_left ..
theorem sgcd_dvd_right (t b : Int) : sgcd t b ∣ b := by
  unfold sgcd
  split
  · exact Int.neg_dvd.mpr (Int.gcd_dvd_right ..)
  · exact Int.gcd_dvd_right ..
theorem sgcd_ne {t b : Int} (h : b ≠ 0) : sgcd t b ≠ 0 := by
  have := gcd_pos_of (t := t) h
  unfold sgcd
  split <;> omega
theorem nT_mul {t b : Int} : nT t b * sgcd t b = t := by
  unfold nT
  rw [Int.fdiv_eq_ediv_of_dvd (sgcd_dvd_left t b)]
  exact Int.ediv_mul_cancel (sgcd_dvd_left t b)
theorem nB_mul {t b : Int} : nB t b * sgcd t b = b := by
  unfold nB
  rw [Int.fdiv_eq_ediv_of_dvd (sgcd_dvd_right t b)]
  exact Int.ediv_mul_cancel (sgcd_dvd_right t b)
theorem nB_pos {t b : Int} (h : b ≠ 0) : 0 < nB t b := by
  have e := nB_mul (t := t) (b := b)
  have g := gcd_pos_of (t := t) h
  by_cases hb : b < 0
  · have es : sgcd t b = -(Int.gcd t b : Int) := by unfold sgcd; rw [if_pos hb]
    rw [es] at e
    refine Int.not_le.mp fun hn => ?_
    have : 0 ≤ nB t b * -(Int.gcd t b : Int) := Int.mul_nonneg_of_nonpos_of_nonpos hn (by omega)
    omega
  · have es : sgcd t b = (Int.gcd t b : Int) := by unfold sgcd; rw [if_neg hb]
    rw [es] at e
    refine Int.not_le.mp fun hn => ?_
    have : nB t b * (Int.gcd t b : Int) ≤ 0 := Int.mul_nonpos_of_nonpos_of_nonneg hn (by omega)
    omega
theorem natAbs_sgcd (t b : Int) : (sgcd t b).natAbs = Int.gcd t b := by
  unfold sgcd
  split <;> omega
theorem low_n {t b : Int} (h : b ≠ 0) : Low (nT t b) (nB t b) := by
  refine ⟨nB_pos h, ?_⟩
  have g := gcd_pos_of (t := t) h
  have e1 := nT_mul (t := t) (b := b)
  have e2 := nB_mul (t := t) (b := b)
  have e3 : Int.gcd (nT t b * sgcd t b) (nB t b * sgcd t b) = Int.gcd (nT t b) (nB t b) * (sgcd t b).natAbs := Int.gcd_mul_right ..
  rw [e1, e2, natAbs_sgcd] at e3
  exact Nat.eq_of_mul_eq_mul_right g (by rw [Nat.one_mul]; exact e3.symm)
theorem n_cross {t b : Int} (h : b ≠ 0) : nT t b * b = t * nB t b := by
  have e1 := nT_mul (t := t) (b := b)
  have e2 := nB_mul (t := t) (b := b)
  generalize nT t b = x at e1 ⊢
  generalize nB t b = y at e2 ⊢
  generalize sgcd t b = g at e1 e2
  subst e1
  rw [← e2, ← Int.mul_assoc, Int.mul_right_comm]
theorem low_uniq {p q p' q' : Int} (h : Low p q) (h' : Low p' q') (e : p * q' = p' * q) : p = p' ∧ q = q' := by
  have d1 : q ∣ q' := by
    have : q ∣ p * q' := ⟨p', by rw [e, Int.mul_comm]⟩
    have z := Int.dvd_gcd_mul_iff_dvd_mul.mpr this
    rwa [Int.gcd_comm, h.cop, Int.natCast_one, Int.one_mul] at z
  have d2 : q' ∣ q := by
    have : q' ∣ p' * q := ⟨p, by rw [← e, Int.mul_comm]⟩
    have z := Int.dvd_gcd_mul_iff_dvd_mul.mpr this
    rwa [Int.gcd_comm, h'.cop, Int.natCast_one, Int.one_mul] at z
  have eq : q = q' := Int.dvd_antisymm (Int.le_of_lt h.pos) (Int.le_of_lt h'.pos) d1 d2
  subst eq
  exact ⟨Int.eq_of_mul_eq_mul_right (Int.ne_of_gt h.pos) e, rfl⟩
theorem n_of_low {p q : Int} (h : Low p q) : nT p q = p ∧ nB p q = q := by
  have hq : q ≠ 0 := Int.ne_of_gt h.pos
  exact low_uniq (low_n hq) h (n_cross hq)
theorem low_one (v : Int) : Low v 1 := ⟨by decide, by rw [Int.gcd_one_right]⟩
theorem n_one (v : Int) : nT v 1 = v ∧ nB v 1 = 1 := n_of_low (low_one v)
/-- two ways to write one fraction -/
theorem n_congr {t b t' b' : Int} (h : b ≠ 0) (h' : b' ≠ 0) (e : t * b' = t' * b) : nT t b = nT t' b' ∧ nB t b = nB t' b' := by
  have hb := nB_pos (t := t) h
  refine low_uniq (low_n h) (low_n h') ?_
  have e1 := n_cross (t := t) h
  have e2 := n_cross (t := t') h'
  have k : nT t b * nB t' b' * (b * b') = nT t' b' * nB t b * (b * b') := by
    have a1 : nT t b * nB t' b' * (b * b') = (nT t b * b) * (nB t' b' * b') := by ac_rfl
    have a2 : nT t' b' * nB t b * (b * b') = (nT t' b' * b') * (nB t b * b) := by ac_rfl
    rw [a1, a2, e1, e2]
    have a3 : t * nB t b * (nB t' b' * b') = (t * b') * (nB t b * nB t' b') := by ac_rfl
    have a4 : t' * nB t' b' * (nB t b * b) = (t' * b) * (nB t b * nB t' b') := by ac_rfl
    rw [a3, a4, e]
  exact Int.eq_of_mul_eq_mul_right (Int.mul_ne_zero h h') k
theorem nT_le {t b : Int} (h : b ≠ 0) : (nT t b).natAbs ≤ t.natAbs := by
  have e := nT_mul (t := t) (b := b)
  have g := gcd_pos_of (t := t) h
  have e2 : (nT t b).natAbs * Int.gcd t b = t.natAbs := by rw [← natAbs_sgcd, ← Int.natAbs_mul, e]
  rw [← e2]
  exact Nat.le_mul_of_pos_right _ g
theorem nB_le {t b : Int} (h : b ≠ 0) : (nB t b).natAbs ≤ b.natAbs := by
  have e := nB_mul (t := t) (b := b)
  have g := gcd_pos_of (t := t) h
  have e2 : (nB t b).natAbs * Int.gcd t b = b.natAbs := by rw [← natAbs_sgcd, ← Int.natAbs_mul, e]
  rw [← e2]
  exact Nat.le_mul_of_pos_right _ g
/-- Euclid's step -/
theorem gcd_step {a b : Int} (ha : 0 ≤ a) (hb : 0 < b) : Int.gcd b (a % b) = Int.gcd a b := by
  obtain ⟨m, rfl⟩ := Int.eq_ofNat_of_zero_le ha
  obtain ⟨n, rfl⟩ := Int.eq_ofNat_of_zero_le (Int.le_of_lt hb)
  rw [← Int.natCast_emod, Int.gcd_natCast_natCast, Int.gcd_natCast_natCast, Nat.gcd_comm m n, Nat.gcd_rec n m, Nat.gcd_comm]
end Xl

namespace Xl
open PySem PySem.Spec PyProof.Rows L2
/-! ### sizes of numbers -/
def Bd (n : Nat) (i : Int) : Prop := i.natAbs < 2 ^ n
theorem Bd.mono {m n : Nat} {i : Int} (h : Bd m i) (l : m ≤ n) : Bd n i := Nat.lt_of_lt_of_le h (Nat.pow_le_pow_right (by decide) l)
theorem Bd.le {n : Nat} {i j : Int} (h : Bd n i) (l : j.natAbs ≤ i.natAbs) : Bd n j := Nat.lt_of_le_of_lt l h
theorem Bd.neg {n : Nat} {i : Int} (h : Bd n i) : Bd n (-i) := h.le (by omega)
theorem Bd.mul {m n : Nat} {i j : Int} (h : Bd m i) (k : Bd n j) : Bd (m + n) (i * j) := by
  unfold Bd at *
  rw [Int.natAbs_mul, Nat.pow_add]
  have h1 : i.natAbs * j.natAbs ≤ i.natAbs * 2 ^ n := Nat.mul_le_mul_left _ (Nat.le_of_lt k)
  have h2 : i.natAbs * 2 ^ n < 2 ^ m * 2 ^ n := Nat.mul_lt_mul_of_pos_right h (Nat.pow_pos (by decide))
  omega
theorem Bd.add {n : Nat} {i j : Int} (h : Bd n i) (k : Bd n j) : Bd (n + 1) (i + j) := by
  unfold Bd at *
  rw [Nat.pow_succ]
  omega
theorem Bd.sub {n : Nat} {i j : Int} (h : Bd n i) (k : Bd n j) : Bd (n + 1) (i - j) := by
  unfold Bd at *
  rw [Nat.pow_succ]
  omega
theorem Bd.log {n : Nat} {i : Int} (h : Bd n i) (l : n ≤ 1919) : i.natAbs.log2 < 1920 := by
  have h2 : i.natAbs < 2 ^ 1920 := Nat.lt_of_lt_of_le h (Nat.pow_le_pow_right (by decide) (by omega))
  exact PySem.Flt.log2_lt_of (by decide) h2
theorem Bd.ex {n : Nat} {i : Int} (h : Bd n i) (l : n ≤ 8000) : ∃ n, n ≤ 8000 ∧ i.natAbs < 2 ^ n := ⟨n, l, h⟩
/-- * of any numbers that are not huge -/
theorem op_mulX {X : Cx} : OpR X (binaryOp .Mult) (rI (fun i j => ∃ m n, Bd m i ∧ Bd n j ∧ m + n ≤ 100000000) fun i j => .int (i * j)) := opI fun _ _ _ _ _ _ _ hc q => by
  obtain ⟨m, n, h1, h2, h3⟩ := hc
  exact mul_int q (PySem.IntMulOk.of_le (intBits_le_iff.mpr h1) (intBits_le_iff.mpr h2) (by omega))
end Xl

namespace Xl
open PySem PySem.Spec PyProof.Rows L2
/-! ### ExtralinkError.__init__(self, ..) in an own __init__ -/
section
variable {X : Cx} {o e : Expr} {es : List Expr} {to te : TE} {ta : TA} {f x : Str} {p p' p1 p2 pos : Pos} {CE : Addr}
theorem pe_einit {pl : Sem Bool} (hg : Gl X x) (hm : X.mg x = some (.ref CE)) (hE : ∃ mc, ClX.CRead X.K CE mc ∧ PySem.W.findCls X.K (.ref CE) mc "__init__" = some (.val (.builtin "ValueError.__init__"))) (ha : PA X (e :: es) ta)
    (hc : eval (.Call (.Attribute (.Name x p1) "__init__" p2) (e :: es) [] pos) X.env = (do
      let ov ← eval (.Name x p1) X.env
      standAt p2.atName
      let (f, first) ← holding [ov] (getMethod ov "__init__" pl)
      callWith pos f first (backTo pos (starEach (e :: es) X.env)) (backToKw pos (keywordEach [] X.env))) := by rfl)
    (hdb : (x == ("__debug__" : Str)) = false := by decide)
    (he : starEach (e :: es) X.env = (false, eval e X.env) :: starEach es X.env := by rfl) (hpl : (backTo pos (starEach es X.env)).any (·.1) = false := by rfl) :
    PE X (.Call (.Attribute (.Name x p1) "__init__" p2) (e :: es) [] pos) (tVeI X.K ta) := by
  obtain ⟨mc, cr, fc⟩ := hE
  refine ⟨fun pins s σ H Q I h => ?_⟩
  refine PySem.W.methodCall_KW (ld_glob I hg hm ?_ hdb) hc
  refine PySem.W.method_cls I.kIn cr.ga (PySem.W.cls_value I.kIn cr.rd fc rfl ?_)
  show wpAny _ _ (callWith pos (Value.builtin "ValueError.__init__") [] (backTo pos (starEach (e :: es) X.env)) []) _ _ _
  refine PyProof.Rows.callWith_method1 (thn (ha.run pos pins _ σ H _ (I.tok _) h) fun us s1 ⟨vs, H1, I1, r1, a, C, ws, ev, hl, T, ea, q⟩ => ?_) he hpl
  subst ev
  cases r1 with
  | @cons _ u0 _ ur ra rw' =>
    obtain rfl : u0 = Value.ref a := ra
    have hlen : ur.length ≤ sizeLine := by
      rw [← Paired.length rw', sizeLine_eq]
      omega
    exact oinit_ok T I1 ea hlen fun s' J => ⟨.non, H1, J, rfl, q⟩
end
/-! ### an error's making: its own fields, in a dict that is new -/
/-- __init__(self, ..): the fields fs of the arguments vs -/
def spXi (C : Addr) (n : Nat) (g : List V → List (Str × V)) : Sp := fun vs H Q _ => ∃ (a : Addr) (ws : List V), vs = .ref a :: ws ∧ ws.length = n ∧ H a = some (exo a C none) ∧
  ∀ d H', H d = none → d ≠ a → H' a = some (exo a C (some d)) → H' d = some (exd d (g ws)) → (∀ b o, H b = some o → b ≠ a → H' b = some o) → Q .non H'
structure XcI (P : Program) (w : World) (K : PySem.W.Frag) (mg : Str → Option Value) (base : Heap) (x : Str) (C : Addr) (n : Nat) (g : List V → List (Str × V)) : Prop where
  ex : ∃ fI fd ps, OexC K C ∧ PySem.W.findIn K (.ref C) "__init__" = some (some (.ref fI)) ∧ PySem.W.typeIn K (.ref fI) = some (.type "function") ∧ FnOk P w K mg base (L2.CX P w) 1 fI fd ps (spXi C n g) ∧ Binds K fd ps [] ∧ mg x = some (.ref C)
/-- X(e, ..) raised: what is wanted of its class, its dict and the heap -/
def tXm (C : Addr) (n : Nat) (g : List V → List (Str × V)) (ta : TA) : L2.St → Hp → XK → Prop := fun σ H Q => ta σ H fun vs H1 => vs.length = n ∧ ∀ d H', Same H1 H' → H1 d = none → H' d = some (.xd (g vs)) → Q (.ref C) (some d) H'
section
variable {X : Cx} {e : Expr} {es : List Expr} {ta : TA} {p pos : Pos} {x : Str} {C : Addr} {n : Nat} {g : List V → List (Str × V)}
theorem pmk_x (B : XcI X.prog X.w X.K X.mg X.base x C n g) (hn : n ≤ 1000) (hr : Room 2 X.A) (ha : PA X (e :: es) ta) (hg : Gl X x := by rfl) (hdb : (x == ("__debug__" : Str)) = false := by decide)
    (he : starEach (e :: es) X.env = (false, eval e X.env) :: starEach es X.env := by rfl) (hpl : (backTo pos (starEach es X.env)).any (·.1) = false := by rfl) :
    PMk X (.Call (.Name x p) (e :: es) [] pos) (tXm C n g ta) := by
  obtain ⟨fI, fd, ps, h1, h2, h3, h4, h5, h6⟩ := B.ex
  have z := pmk_oex (X := X) (p := p) (pos := pos) (e := e) (es := es) (ta := taM ta) h1 h2 h3 h4 hr h5 (dvs := []) .nil (passL (X := X)) hg h6 (pa_mono ha) hdb he hpl
  intro pins s σ H Q I h
  refine z pins s σ H Q I ⟨_, h, fun vs H1 ⟨hl, k⟩ => ⟨by omega, fun a na => ?_⟩⟩
  refine ⟨a, vs, by rw [List.append_nil], hl, upd_same, fun d H2 hd hda ea ed kp => ⟨rfl, d, g vs, ea, ed, ?_, ?_⟩⟩
  · rw [upd_ne hda] at hd
    exact hd
  · rw [upd_ne hda] at hd
    refine k d _ (fun b o eb => ?_) hd upd_same
    have nb : b ≠ a := ne_of_none eb na
    rw [upd_ne (ne_of_none eb hd), del_ne nb]
    exact kp b o (by rw [upd_ne nb]; exact eb) nb
theorem ps_rx {W : WX} {pos' : Pos} (B : XcI X.prog X.w X.K X.mg X.base x C n g) (hn : n ≤ 1000) (hr : Room 2 X.A) (hc : X.calm = true) (tk : Takes X W) (ha : PA X (e :: es) ta) (hg : Gl X x := by rfl) (hdb : (x == ("__debug__" : Str)) = false := by decide)
    (he : starEach (e :: es) X.env = (false, eval e X.env) :: starEach es X.env := by rfl) (hpl : (backTo pos (starEach es X.env)).any (·.1) = false := by rfl) :
    PS X (.Raise (some (.Call (.Name x p) (e :: es) [] pos)) none pos') (fun _ σ H => tXm C n g ta σ H fun cls d H' => W cls d σ H') := ps_raise hc tk (pmk_x B hn hr ha hg hdb he hpl)
end
end Xl

namespace Xl
open PySem PySem.Spec PyProof.Rows L2
section
variable {P : Program} {w : World} {K : PySem.W.Frag} {mg : Str → Option Value} {base : Heap}
theorem sc_BadCount___init__ : FnScope ["self", "count"] ["self", "count"] (defScope s_BadCount___init__) := ⟨rfl, rfl, rfl, by decide +kernel, rfl, by decide +kernel, by decide +kernel⟩
theorem ok_BadCount___init__ (T : GG K mg) : FnOk P w K mg base (L2.CX P w) 1 T.a_BadCount___init__ T.fd_BadCount___init__ ["self", "count"] (spXi T.c_BadCount 1 (fun ws => ((["count"] : List Str).zip ws).reverse)) := by
  refine okN T.F_BadCount___init__ sc_BadCount___init__ (fun vs H Q E h => ?_) (fun cdv A outer s H vs Q E hr h => ?_)
  · obtain ⟨a, ws, rfl, hl, _⟩ := h
    show ws.length + 1 = 2
    omega
  · obtain ⟨a, ws, rfl, hl, ha, k⟩ := h
    obtain ⟨v, rfl⟩ : ∃ v, ws = [v] := List.length_eq_one_iff.mp hl
    refine ⟨_, pss_cons (ps_expr (pe_einit rfl T.g_ExtralinkError T.ei_ExtralinkError (pa_cons (pv 0) (pa_cons pe_str pa_nil)))) (pss_one (ps_ost (pv 0) (pv 1))), ?_⟩
    refine ⟨_, rfl, a, T.c_BadCount, _, rfl, by decide, T.ox_BadCount, ha, ?_⟩
    refine ⟨_, rfl, _, rfl, a, T.c_BadCount, rfl, T.ox_BadCount, T.no_BadCount_count, .inl ⟨ha, fun dx hd hda => ?_⟩⟩
    exact k dx _ hd hda upd_same (by rw [upd_ne hda, upd_same]; rfl) fun b o eb hb => by rw [upd_ne hb, upd_ne (ne_of_none eb hd)]; exact eb
theorem X_BadCount (T : GG K mg) : XcI P w K mg base "BadCount" T.c_BadCount 1 (fun ws => ((["count"] : List Str).zip ws).reverse) := ⟨_, _, _, T.ox_BadCount, T.in_BadCount.1, T.in_BadCount.2, ok_BadCount___init__ T, T.F_BadCount___init__.binds fun _ _ _ _ _ _ us hl => match us, hl with | [_, _], _ => rfl, T.g_BadCount⟩
theorem sc_OutOfRange___init__ : FnScope ["self", "value"] ["self", "value"] (defScope s_OutOfRange___init__) := ⟨rfl, rfl, rfl, by decide +kernel, rfl, by decide +kernel, by decide +kernel⟩
theorem ok_OutOfRange___init__ (T : GG K mg) : FnOk P w K mg base (L2.CX P w) 1 T.a_OutOfRange___init__ T.fd_OutOfRange___init__ ["self", "value"] (spXi T.c_OutOfRange 1 (fun ws => ((["value"] : List Str).zip ws).reverse)) := by
  refine okN T.F_OutOfRange___init__ sc_OutOfRange___init__ (fun vs H Q E h => ?_) (fun cdv A outer s H vs Q E hr h => ?_)
  · obtain ⟨a, ws, rfl, hl, _⟩ := h
    show ws.length + 1 = 2
    omega
  · obtain ⟨a, ws, rfl, hl, ha, k⟩ := h
    obtain ⟨v, rfl⟩ : ∃ v, ws = [v] := List.length_eq_one_iff.mp hl
    refine ⟨_, pss_cons (ps_expr (pe_einit rfl T.g_ExtralinkError T.ei_ExtralinkError (pa_cons (pv 0) (pa_cons pe_str pa_nil)))) (pss_one (ps_ost (pv 0) (pv 1))), ?_⟩
    refine ⟨_, rfl, a, T.c_OutOfRange, _, rfl, by decide, T.ox_OutOfRange, ha, ?_⟩
    refine ⟨_, rfl, _, rfl, a, T.c_OutOfRange, rfl, T.ox_OutOfRange, T.no_OutOfRange_value, .inl ⟨ha, fun dx hd hda => ?_⟩⟩
    exact k dx _ hd hda upd_same (by rw [upd_ne hda, upd_same]; rfl) fun b o eb hb => by rw [upd_ne hb, upd_ne (ne_of_none eb hd)]; exact eb
theorem X_OutOfRange (T : GG K mg) : XcI P w K mg base "OutOfRange" T.c_OutOfRange 1 (fun ws => ((["value"] : List Str).zip ws).reverse) := ⟨_, _, _, T.ox_OutOfRange, T.in_OutOfRange.1, T.in_OutOfRange.2, ok_OutOfRange___init__ T, T.F_OutOfRange___init__.binds fun _ _ _ _ _ _ us hl => match us, hl with | [_, _], _ => rfl, T.g_OutOfRange⟩
end
end Xl

namespace Xl
open PySem PySem.Spec PyProof.Rows L2
/-! ### making an instance, a method, a property, an own operator: each by a promise over values -/
/-- C(..): what the whole expression promises; dvs: the defaults that fill up -/
structure MkI (P : Program) (w : World) (K : PySem.W.Frag) (mg : Str → Option Value) (base : Heap) (C : Addr) (k : Nat) (sp : Sp) : Prop where
  ex : ∃ f fd ps dvs ds sp0, Mk K C f ∧ FnOk P w K mg base (L2.CX P w) k f fd ps sp0 ∧ Vals dvs ds ∧ Binds K fd ps ds ∧
    ∀ vs H Q E, sp vs H Q E → ∀ o dx, H o = none → H dx = none → dx ≠ o → sp0 (.ref o :: (vs ++ dvs)) (upd (upd H dx (.own o)) o (.ins C dx [])) (fun v H2 => v = .non ∧ Q (.ref o) H2) E
/-- C(k = v, ..) -/
structure MkK (P : Program) (w : World) (K : PySem.W.Frag) (mg : Str → Option Value) (base : Heap) (C : Addr) (k : Nat) (ks : List Str) (sp : Sp) : Prop where
  ex : ∃ f fd ps g gV sp0, Mk K C f ∧ FnOk P w K mg base (L2.CX P w) k f fd ps sp0 ∧ KBn K fd ps 1 ks g gV ∧
    ∀ zs H Q E, zs.length = ks.length → sp zs H Q E → ∀ o dx, H o = none → H dx = none → dx ≠ o → sp0 (gV [.ref o] zs) (upd (upd H dx (.own o)) o (.ins C dx [])) (fun v H2 => v = .non ∧ Q (.ref o) H2) E
theorem vals_rev : ∀ {vs : List V} {us : List Value}, Vals vs us → Vals vs.reverse us.reverse
  | _, _, .nil => .nil
  | _, _, .cons h t => by
    rw [List.reverse_cons, List.reverse_cons]
    exact (vals_rev t).append (.cons h .nil)
/-- keywords given to a def with defaults, none of which is left out or read -/
theorem FunD.kb1 {K : PySem.W.Frag} {x qual : Str} {params : Arguments} {body : List Stmt} {scope : Scope} {dvs : List V} {f : Addr} {fd : FuncData} {ps : List Str} (F : FunD K x qual params body scope dvs [] f fd) (n : Nat) (ks : List Str) (g : {α : Type} → List α → List α → List α → List α) (hd : dvs ≠ [])
    (hrel : ∀ {vs ds zs : List V} {us its ws : List Value}, Vals vs us → Vals ds its → Vals zs ws → Vals (g vs ds zs) (g us its ws))
    (h : ∀ (T : Addr) (kV doc pm : Value) (an : Option Addr) (cdv ct : Value) (us its ws : List Value), us.length = n → its.length = dvs.length → ws.length = ks.length →
      ∃ k, bindArgs (PySem.W.fnOf x qual params body scope (.ref T) kV doc pm an cdv ct) ⟨us, ks.zip ws⟩ = seqItems? (.ref T) >>= k ∧ k (some its.toArray) = pure (ps.zip (g us its ws))) :
    ∃ its : List Value, KBn K fd ps n ks (fun us ws => g us its ws) (fun vs zs => g vs dvs zs) := by
  obtain ⟨oc, od, dV, kV, doc, pm, an, cdv, ct, osl, rfl, lk, hcd, hD, hK⟩ := F.ex
  rcases hD with ⟨e, _⟩ | ⟨_, T, o, its, m, rfl, lT, oT, rT⟩
  · exact absurd e hd
  · refine ⟨its, ⟨fun s us ws X l1 l2 => ?_, fun r1 r2 => hrel r1 rT r2⟩⟩
    obtain ⟨k, e1, e2⟩ := h T kV doc pm an cdv ct us its ws l1 rT.length.symm l2
    refine BindsTo.of_looks fun M => ?_
    rw [e1]
    exact looks_items X lT oT (.of_pure e2)
section
variable {X : Cx} {k i : Nat} {C : Addr} {sp : Sp} {E : XK} {x : Str} {p pos : Pos} {e : Expr} {es : List Expr} {t : TA} {te : TE}
theorem pe_mkI (F : MkI X.prog X.w X.K X.mg X.base C k sp) (hr : Room (k + 1) X.A) (hm : X.mg x = some (.ref C)) (hx : Passes (L2.CX X.prog X.w) X E) (ha : PA X (e :: es) t) (hg : Gl X x := by rfl)
    (hdb : (x == ("__debug__" : Str)) = false := by decide) (he : starEach (e :: es) X.env = (false, eval e X.env) :: starEach es X.env := by rfl) (hpl : (backTo pos (starEach es X.env)).any (·.1) = false := by rfl) :
    PE X (.Call (.Name x p) (e :: es) [] pos) (tCall sp [] E t) := by
  obtain ⟨f, fd, ps, dvs, ds, sp0, M, G, hd, hb, conv⟩ := F.ex
  refine ⟨fun pins s σ H Q I h => ?_⟩
  refine wpAny_Call_Name_kw (ld_glob I hg hm ?_ hdb)
  refine PySem.W.callWith_K (h₀ := X.base) I.ok.mod.kin M.kp (thn (ha.run pos pins s σ H _ I h) fun us s1 ⟨vs, H1, I1, r, q⟩ => ⟨I1.kIn, ?_⟩) he hpl
  exact run_make M G hr hb hd hx I1 r (conv vs H1 Q E (by rw [← List.append_nil vs]; exact q))
/-- the class in a slot -/
def tCallLc (i : Nat) (C : Addr) (sp : Sp) (E : XK) (t : TA) : TE := fun σ H Q => σ[i]? = some (some (.ref C)) ∧ t σ H fun vs H1 => sp vs H1 Q E
theorem pe_mkL (F : MkI X.prog X.w X.K X.mg X.base C k sp) (hr : Room (k + 1) X.A) (hN : X.N[i]? = some x) (hv : Vis X.env.scope x) (hx : Passes (L2.CX X.prog X.w) X E) (ha : PA X (e :: es) t)
    (hdb : (x == ("__debug__" : Str)) = false := by decide) (hcd : (x == ("__classdict__" : Str)) = false := by decide) (he : starEach (e :: es) X.env = (false, eval e X.env) :: starEach es X.env := by rfl) (hpl : (backTo pos (starEach es X.env)).any (·.1) = false := by rfl) :
    PE X (.Call (.Name x p) (e :: es) [] pos) (tCallLc i C sp E t) := by
  obtain ⟨f, fd, ps, dvs, ds, sp0, M, G, hd, hb, conv⟩ := F.ex
  refine ⟨fun pins s σ H Q I h => ?_⟩
  obtain ⟨hs, ht⟩ := h
  refine wpAny_Call_Name_kw (thn ((pe_var (pos := p) hN hv hdb hcd).run pins s σ H (fun v H1 => v = .ref C ∧ H1 = H) I ⟨.ref C, hs, rfl, rfl⟩) fun u s1 ⟨v, H1, I1, r1, q1⟩ => ?_)
  obtain ⟨rfl, rfl⟩ := q1
  cases r1
  refine PySem.W.callWith_K (h₀ := X.base) I.ok.mod.kin M.kp (thn (ha.run pos pins s1 σ _ _ I1 ht) fun us s2 ⟨vs, H2, I2, r, q⟩ => ⟨I2.kIn, ?_⟩) he hpl
  exact run_make M G hr hb hd hx I2 r (conv vs H2 Q E q)
theorem pe_mkK {ks : List Str} {kws : List Keyword} {tk : TA} (F : MkK X.prog X.w X.K X.mg X.base C k ks sp) (hr : Room (k + 1) X.A) (hm : X.mg x = some (.ref C)) (hx : Passes (L2.CX X.prog X.w) X E) (hkw : PK X kws tk) (hg : Gl X x := by rfl)
    (hall : (backToKw pos (keywordEach kws X.env)).all (·.1.isSome) = true := by rfl) (hks : (backToKw pos (keywordEach kws X.env)).filterMap (·.1) = ks := by rfl) (hdb : (x == ("__debug__" : Str)) = false := by decide)
    (hpl : ((backTo pos (starEach [] X.env)).any (·.1) || (backToKw pos (keywordEach kws X.env)).any (·.1.isNone)) = false := by rfl) :
    PE X (.Call (.Name x p) [] kws pos) (tCallW ks.length sp E tk) := by
  obtain ⟨f, fd, ps, g, gV, sp0, M, G, hb, conv⟩ := F.ex
  refine ⟨fun pins s σ H Q I h => ?_⟩
  refine wpAny_Call_Name_kw (ld_glob I hg hm ?_ hdb)
  refine PySem.W.callWith_KW0 (h₀ := X.base) I.ok.mod.kin M.kp hall ?_ hpl
  refine thn (hkw.run pos pins s σ H _ I h) fun ws s2 ⟨zs, H2, I2, rz, l1, q2⟩ => ⟨I2.kIn, ?_⟩
  rw [hks]
  exact run_makeK (us := []) (vs := []) M G hr hb hx I2 .nil rz rfl l1 (conv zs H2 Q E l1 q2)
end
/-- a method of the class at C, or a property of it: the promise takes the object first -/
structure MeI (P : Program) (w : World) (K : PySem.W.Frag) (mg : Str → Option Value) (base : Heap) (C : Addr) (m : Str) (k : Nat) (sp : Sp) : Prop where
  ex : ∃ f fd ps, Cls K C ∧ Meth K C m f ∧ FnOk P w K mg base (L2.CX P w) k f fd ps sp ∧ Binds K fd ps []
structure PrI (P : Program) (w : World) (K : PySem.W.Frag) (mg : Str → Option Value) (base : Heap) (C : Addr) (m : Str) (k : Nat) (sp : Sp) : Prop where
  ex : ∃ p g fd ps, Cls K C ∧ PropOf K C m p g ∧ FnOk P w K mg base (L2.CX P w) k g fd ps sp ∧ Binds K fd ps []
section
variable {X : Cx} {k : Nat} {C : Addr} {sp : Sp} {E : XK} {m : Str} {apos pos : Pos} {e o : Expr} {es : List Expr} {t : TA} {te ta : TE}
theorem pe_mt {pl : Sem Bool} (F : MeI X.prog X.w X.K X.mg X.base C m k sp) (hr : Room k X.A) (hx : Passes (L2.CX X.prog X.w) X E) (he : PE X o ta) (ha : PA X (e :: es) t)
    (ht : eval (.Call (.Attribute o m apos) (e :: es) [] pos) X.env = (do
      let ov ← eval o X.env
      standAt apos.atName
      let (f, first) ← holding [ov] (getMethod ov m pl)
      callWith pos f first (backTo pos (starEach (e :: es) X.env)) (backToKw pos (keywordEach [] X.env))) := by rfl)
    (hs : starEach (e :: es) X.env = (false, eval e X.env) :: starEach es X.env := by rfl) (hpl : (backTo pos (starEach es X.env)).any (·.1) = false := by rfl) :
    PE X (.Call (.Attribute o m apos) (e :: es) [] pos) (tMeth C m sp [] E ta t) := by
  obtain ⟨f, fd, ps, c, M, G, hb⟩ := F.ex
  exact pe_meth he c M G hr hb .nil hx ha hs hpl ht
theorem pe_mt0 {pl : Sem Bool} (F : MeI X.prog X.w X.K X.mg X.base C m k sp) (hr : Room k X.A) (hx : Passes (L2.CX X.prog X.w) X E) (he : PE X o ta)
    (ht : eval (.Call (.Attribute o m apos) [] [] pos) X.env = (do
      let ov ← eval o X.env
      standAt apos.atName
      let (f, first) ← holding [ov] (getMethod ov m pl)
      callWith pos f first (backTo pos (starEach [] X.env)) (backToKw pos (keywordEach [] X.env))) := by rfl) :
    PE X (.Call (.Attribute o m apos) [] [] pos) (tMeth C m sp [] E ta tNil) := by
  obtain ⟨f, fd, ps, c, M, G, hb⟩ := F.ex
  exact pe_meth0 he c M G hr hb .nil hx ht
theorem pe_pr (F : PrI X.prog X.w X.K X.mg X.base C m k sp) (hr : Room (k + 1) X.A) (hx : Passes (L2.CX X.prog X.w) X.nox E) (he : PE X e ta) (hab : attributeBase e m X.env (eval e X.env) = eval e X.env := by rfl) :
    PE X (.Attribute e m pos) (tProp C sp [] E ta) := by
  obtain ⟨p, g, fd, ps, c, hp, G, hb⟩ := F.ex
  exact pe_prop he c hp G hr hb .nil hx hab
/-- an own special method called on values, its answer anything but NotImplemented -/
theorem own_back {Q : VK} {pins : List (Addr × Obj)} {σ : L2.St} {s' : Shared} {u : Value} (h : EP X pins σ Q u s') : PySem.W.CmpBack (EP X pins σ Q) u s' := by
  obtain ⟨v, H', I, r, q⟩ := id h
  cases v with
  | non => cases (show u = Value.none from r); exact h
  | bl b => cases (show u = Value.bool b from r); exact h
  | int b => obtain ⟨t, rfl⟩ := (show ∃ t, u = Value.int b t from r); exact h
  | str b => obtain ⟨t, rfl⟩ := (show ∃ t, u = Value.str b t from r); exact h
  | byt b => obtain ⟨t, rfl⟩ := (show ∃ t, u = Value.bytes b t from r); exact h
  | flt b => obtain ⟨t, rfl⟩ := (show ∃ t, u = Value.float b t from r); exact h
  | ref a => cases (show u = Value.ref a from r); exact h
  | ty n => cases (show u = Value.type n from r); exact h
theorem run_own {f : Addr} {fd : FuncData} {ps : List Str} {pins : List (Addr × Obj)} {σ : L2.St} {H : Hp} {s : Shared} {Q : VK} {us : List Value} {vs : List V} (F : FnOk X.prog X.w X.K X.mg X.base (L2.CX X.prog X.w) k f fd ps sp) (hr : Room k X.A) (hb : Binds X.K fd ps []) (hx : Passes (L2.CX X.prog X.w) X E)
    (I : Inv X pins σ H s) (r : Vals vs us) (h : sp vs H Q E) : wpAny (model X.prog X.w) X.A (call (.ref f) us) (PySem.W.CmpBack (EP X pins σ Q)) X.xe s :=
  thn (run_fn (dvs := []) F hr hb .nil hx I r (by rw [List.append_nil]; exact h)) fun _ _ q => own_back q
/-- a op b, a an instance of the class at C, b one of it, too -/
def rOwn (C : Addr) (sp : Sp) (E : XK) : R2 := fun x y H Q => ∃ a b dx dy fs gs, x = .ref a ∧ y = .ref b ∧ H a = some (.ins C dx fs) ∧ H b = some (.ins C dy gs) ∧ sp [.ref a, .ref b] H Q E
theorem op_own {op : Operator} (F : MeI X.prog X.w X.K X.mg X.base C (PySem.dunder op.info.2) k sp) (sf : PySem.W.selfFirst X.K C = true) (hr : Room k X.A) (hx : Passes (L2.CX X.prog X.w) X E) : OpR X (binaryOp op) (rOwn C sp E) := by
  obtain ⟨f, fd, ps, c, M, G, hb⟩ := F.ex
  intro pins s σ H x y v u Q I rx ry h
  obtain ⟨a, b, dx, dy, fs, gs, rfl, rfl, ha, hb', q⟩ := h
  cases rx
  cases ry
  obtain ⟨mA, J, _⟩ := ins_get I.hok ha
  obtain ⟨mB, J', _⟩ := ins_get I.hok hb'
  obtain ⟨od, J, _⟩ := J.look
  obtain ⟨od', J', _⟩ := J'.look
  obtain ⟨m, hF⟩ := I.fr
  exact PySem.W.binop_K hF I.ok.mod.kin J J'.type sf M.at_ M.fn (run_own (vs := [.ref a, .ref b]) G hr hb hx I (.cons rfl (.cons rfl .nil)) q)
/-- a op n, n an int -/
def rOwnI (C : Addr) (sp : Sp) (E : XK) : R2 := fun x y H Q => ∃ a n dx fs, x = .ref a ∧ y = .int n ∧ H a = some (.ins C dx fs) ∧ sp [.ref a, .int n] H Q E
theorem op_ownI {op : Operator} {rc : Option Value} (F : MeI X.prog X.w X.K X.mg X.base C (PySem.dunder op.info.2) k sp) (sf : PySem.W.selfFirst X.K C = true) (hrc : PySem.W.findIn X.K (.ref C) (dunderR op.info.2) = some rc) (hp : rc = none ∨ ∃ g : Addr, rc = some (.ref g))
    (hi : ∃ fo ro, PySem.W.findIn X.K (.type "int") (PySem.dunder op.info.2) = some fo ∧ PySem.W.findIn X.K (.type "int") (dunderR op.info.2) = some ro ∧ PySem.W.subIn X.K (.type "int") (.ref C) = some false)
    (hr : Room k X.A) (hx : Passes (L2.CX X.prog X.w) X E) : OpR X (binaryOp op) (rOwnI C sp E) := by
  obtain ⟨f, fd, ps, c, M, G, hb⟩ := F.ex
  obtain ⟨fo, ro, h1, h2, h3⟩ := hi
  intro pins s σ H x y v u Q I rx ry h
  obtain ⟨a, n, dx, fs, rfl, rfl, ha, q⟩ := h
  cases rx
  obtain ⟨t, rfl⟩ := ry
  obtain ⟨mA, J, _⟩ := ins_get I.hok ha
  obtain ⟨od, J, _⟩ := J.look
  obtain ⟨m, hF⟩ := I.fr
  exact PySem.W.ksp_binT hF I.ok.mod.kin J rfl sf M.at_ M.fn hrc hp h1 h2 h3 (run_own (vs := [.ref a, .int n]) G hr hb hx I (.cons rfl (.cons ⟨_, rfl⟩ .nil)) q)
/-- -a -/
theorem un_own (F : MeI X.prog X.w X.K X.mg X.base C "__neg__" k sp) (hr : Room k X.A) (hx : Passes (L2.CX X.prog X.w) X E) : UnR X (unaryOp .USub) (fun x H Q => ∃ a dx fs, x = .ref a ∧ H a = some (.ins C dx fs) ∧ sp [.ref a] H Q E) := by
  obtain ⟨f, fd, ps, c, M, G, hb⟩ := F.ex
  intro pins s σ H x v Q I rx h
  obtain ⟨a, dx, fs, rfl, ha, q⟩ := h
  cases rx
  obtain ⟨mA, J, _⟩ := ins_get I.hok ha
  obtain ⟨od, J, _⟩ := J.look
  obtain ⟨m, hF⟩ := I.fr
  exact PySem.W.ksp_neg hF I.ok.mod.kin J M.at_ M.fn (run_fn (dvs := []) (vs := [.ref a]) G hr hb .nil hx I (.cons rfl .nil) q)
/-- a == b by an own __eq__ -/
theorem op_ownEq (F : MeI X.prog X.w X.K X.mg X.base C "__eq__" k sp) (hr : Room k X.A) (hx : Passes (L2.CX X.prog X.w) X E) : OpR X (compareOp .Eq) (rOwn C sp E) := by
  obtain ⟨f, fd, ps, c, M, G, hb⟩ := F.ex
  intro pins s σ H x y v u Q I rx ry h
  obtain ⟨a, b, dx, dy, fs, gs, rfl, rfl, ha, hb', q⟩ := h
  cases rx
  cases ry
  obtain ⟨mA, J, _⟩ := ins_get I.hok ha
  obtain ⟨mB, J', _⟩ := ins_get I.hok hb'
  obtain ⟨od, J, _⟩ := J.look
  obtain ⟨od', J', _⟩ := J'.look
  obtain ⟨m, hF⟩ := I.fr
  exact PySem.W.cmp_K (op := .Eq) (tb := .ref C) hr.units0 hF I.ok.mod.kin J J'.type (by simp [PySem.W.notFirst]) M.at_ M.fn (run_own (vs := [.ref a, .ref b]) G hr hb hx I (.cons rfl (.cons rfl .nil)) q)
/-- a def run one or two levels within a builtin -/
theorem run_at {A' : Around} {f : Addr} {fd : FuncData} {ps : List Str} {pins : List (Addr × Obj)} {σ : L2.St} {H : Hp} {s : Shared} {Q : VK} {us : List Value} {vs : List V} (F : FnOk X.prog X.w X.K X.mg X.base (L2.CX X.prog X.w) k f fd ps sp) (hr : Room k A') (hA : A'.frames = X.A.frames) (hb : Binds X.K fd ps []) (hx : Passes (L2.CX X.prog X.w) X E)
    (I : Inv X pins σ H s) (r : Vals vs us) (h : sp vs H Q E) : wpAny (model X.prog X.w) A' (call (.ref f) us) (EP X pins σ Q) X.xe s := by
  have hl : (us ++ []).length = ps.length := by rw [List.append_nil, ← r.length]; exact F.len _ _ _ _ h
  have e0 : Env0 X.prog X.w X.K X.mg X.base A' X.stack s H := by
    have e := I.env0
    exact ⟨by rw [hA]; exact e.frames, e.mod, e.bs, e.bsz, e.funs, e.frf, e.hok, e.bare⟩
  have hb2 := hb s us I.kIn hl
  rw [List.append_nil] at hb2
  refine wpAny_call (codeAny_mono (F.run A' X.stack s H ⟨us, []⟩ us vs Q E hr e0 hb2 r h) fun r s' hq => ?_)
  cases r with
  | error e => exact hx pins σ H s e s' I hq
  | ok fl =>
    cases fl with
    | ret u => exact I.after hq
    | next => exact False.elim hq
    | brk => exact False.elim hq
    | cont => exact False.elim hq
/-- str(a) by an own __str__ -/
theorem call_strO (F : MeI X.prog X.w X.K X.mg X.base C "__str__" k sp) (hr : Room (k + 2) X.A) (hx : Passes (L2.CX X.prog X.w) X E) : CallR X (.type "str") (fun xs H Q => ∃ a dx fs, xs = [.ref a] ∧ H a = some (.ins C dx fs) ∧ sp [.ref a] H (fun v H' => (∃ z, v = .str z) ∧ Q v H') E) := by
  obtain ⟨f, fd, ps, c, M, G, hb⟩ := F.ex
  intro pins s σ H xs us Q I r h
  obtain ⟨a, dx, fs, rfl, ha, q⟩ := h
  obtain ⟨u, rfl, ru⟩ := vals1 r
  cases ru
  obtain ⟨mA, J, _⟩ := ins_get I.hok ha
  obtain ⟨od, J, _⟩ := J.look
  have hr1 : Room (k + 1) X.A.in1 := hr.in1
  have hr2 : Room k X.A.in1.in1 := hr1.in1
  refine PySem.W.kso_call hr2.units0 I.kIn J M.at_ M.fn (thn (run_at (A' := X.A.in1.in1) (vs := [.ref a]) G hr2 rfl hb hx I (.cons rfl .nil) q) fun u s' ⟨v, H', I', rv, ⟨z, ev⟩, q'⟩ => ?_)
  subst ev
  obtain ⟨t, rfl⟩ := rv
  exact ⟨.str z, H', I', ⟨t, rfl⟩, q'⟩
end
end Xl

namespace Xl
open PySem PySem.Spec PyProof.Rows L2
/-! ### calls in a try: what they let out depends on the slots -/
section
variable {X : Cx} {k : Nat} {C f : Addr} {fd : FuncData} {ps : List Str} {sp : Sp} {W : WX} {x m : Str} {p pos apos : Pos} {e o : Expr} {es : List Expr} {t : TA} {ta : TE}
/-- the callee ends -/
theorem end_fnS {E : XK} {pins : List (Addr × Obj)} {σ : L2.St} {H : Hp} {s : Shared} {Q : VK} {vs : List V} {us : List Value} {a : Args} (F : FnOk X.prog X.w X.K X.mg X.base (L2.CX X.prog X.w) k f fd ps sp) (hr : Room k X.A) (hx : PassesAt (L2.CX X.prog X.w) X σ E)
    (I : Inv X pins σ H s) (hb : BindsTo s fd a (ps.zip us)) (r : Vals vs us) (h : sp vs H Q E) : codeAny (model X.prog X.w) X.A (.call (.ref f) a) (fun r s' => match r with | .ok (.ret v) => EP X pins σ Q v s' | .ok _ => False | .error e => X.xe e s') s := by
  refine codeAny_mono (F.run X.A X.stack s H a us vs Q E hr I.env0 hb r h) fun r s' hq => ?_
  cases r with
  | error e => exact hx pins H s e s' I hq
  | ok fl =>
    cases fl with
    | ret u => exact I.after hq
    | next => exact False.elim hq
    | brk => exact False.elim hq
    | cont => exact False.elim hq
theorem pe_fS (F : FnI X.prog X.w X.K X.mg X.base x k ps sp) (hr : Room k X.A) (tk : Takes X W) (ha : PA X (e :: es) t) (hg : Gl X x := by rfl)
    (hdb : (x == ("__debug__" : Str)) = false := by decide) (he : starEach (e :: es) X.env = (false, eval e X.env) :: starEach es X.env := by rfl) (hpl : (backTo pos (starEach es X.env)).any (·.1) = false := by rfl) :
    PE X (.Call (.Name x p) (e :: es) [] pos) (tCallS sp (WE W) t) := by
  obtain ⟨f, fd, h1, h2, h3, h4⟩ := F.ex
  exact pe_callS h1 hr hg h2 h3 h4 (passAt tk) ha hdb he hpl
theorem run_makeS {E : XK} {ds : List Value} {dvs : List V} {pins : List (Addr × Obj)} {σ : L2.St} {H : Hp} {s : Shared} {Q : VK} {us : List Value} {vs : List V} (M : Mk X.K C f) (F : FnOk X.prog X.w X.K X.mg X.base (L2.CX X.prog X.w) k f fd ps sp) (hr : Room (k + 1) X.A) (hb : Binds X.K fd ps ds) (hd : Vals dvs ds)
    (hx : PassesAt (L2.CX X.prog X.w) X σ E) (I : Inv X pins σ H s) (r : Vals vs us)
    (h : ∀ x dx, H x = none → H dx = none → dx ≠ x → sp (.ref x :: (vs ++ dvs)) (upd (upd H dx (.own x)) x (.ins C dx [])) (fun v H2 => v = .non ∧ Q (.ref x) H2) E) :
    wpAny (model X.prog X.w) X.A (call (.ref C) us) (EP X pins σ Q) X.xe s := by
  have hq := h (s.heap.objs.size + 1) s.heap.objs.size (I.hok.fresh (Nat.le_succ _)) (I.hok.fresh (Nat.le_refl _)) (Nat.ne_of_lt (Nat.lt_succ_self _))
  have I2 := Inv.made (C := C) I
  have r2 : Vals (V.ref (s.heap.objs.size + 1) :: (vs ++ dvs)) (Value.ref (s.heap.objs.size + 1) :: (us ++ ds)) := .cons rfl (r.append hd)
  have hl : (Value.ref (s.heap.objs.size + 1) :: us ++ ds).length = ps.length := by
    have e := r2.length
    rw [F.len _ _ _ _ hq] at e
    exact e.symm
  refine wpAny_call (make_map (f := f) I.kIn M.makes M.init (beq_iff_eq.mp M.fn) (codeAny_mono (F.run _ X.stack _ _ ⟨Value.ref (s.heap.objs.size + 1) :: us, []⟩ (Value.ref (s.heap.objs.size + 1) :: (us ++ ds)) _ _ E (hr.make C us [])
    (I2.env0.make C us []) (hb _ (Value.ref (s.heap.objs.size + 1) :: us) I2.kIn hl) r2 hq) fun r s' hq' => ?_))
  cases r with
  | error e => exact hx pins _ _ e s' I2 hq'
  | ok fl =>
    cases fl with
    | ret u =>
      obtain ⟨v, H', I3, rv, ev, q3⟩ := I2.after hq'
      subst ev
      exact ⟨rv, ⟨V.ref (s.heap.objs.size + 1), H', I3, rfl, q3⟩⟩
    | next => exact False.elim hq'
    | brk => exact False.elim hq'
    | cont => exact False.elim hq'
theorem pe_mkS (F : MkI X.prog X.w X.K X.mg X.base C k sp) (hr : Room (k + 1) X.A) (hm : X.mg x = some (.ref C)) (tk : Takes X W) (ha : PA X (e :: es) t) (hg : Gl X x := by rfl)
    (hdb : (x == ("__debug__" : Str)) = false := by decide) (he : starEach (e :: es) X.env = (false, eval e X.env) :: starEach es X.env := by rfl) (hpl : (backTo pos (starEach es X.env)).any (·.1) = false := by rfl) :
    PE X (.Call (.Name x p) (e :: es) [] pos) (tCallS sp (WE W) t) := by
  obtain ⟨f, fd, ps, dvs, ds, sp0, M, G, hd, hb, conv⟩ := F.ex
  refine ⟨fun pins s σ H Q I h => ?_⟩
  refine wpAny_Call_Name_kw (ld_glob I hg hm ?_ hdb)
  refine PySem.W.callWith_K (h₀ := X.base) I.ok.mod.kin M.kp (thn (ha.run pos pins s σ H _ I h) fun us s1 ⟨vs, H1, I1, r, q⟩ => ⟨I1.kIn, ?_⟩) he hpl
  exact run_makeS M G hr hb hd (passAt tk σ) I1 r (conv vs H1 Q _ q)
end
section
variable {X : Cx} {k : Nat} {ps : List Str} {sp : Sp} {W : WX} {x : Str} {p pos : Pos}
def tCallWS (n : Nat) (sp : Sp) (E : L2.St → XK) (tk : TA) : TE := fun σ H Q => tk σ H fun zs H2 => zs.length = n ∧ sp zs H2 Q (E σ)
theorem pe_fKS {kws : List Keyword} {t : TA} (F : FnK X.prog X.w X.K X.mg X.base x k ps sp) (hr : Room k X.A) (tk : Takes X W) (hkw : PK X kws t) (hg : Gl X x := by rfl)
    (hall : (backToKw pos (keywordEach kws X.env)).all (·.1.isSome) = true := by rfl) (hks : (backToKw pos (keywordEach kws X.env)).filterMap (·.1) = ps := by rfl) (hdb : (x == ("__debug__" : Str)) = false := by decide)
    (hpl : ((backTo pos (starEach [] X.env)).any (·.1) || (backToKw pos (keywordEach kws X.env)).any (·.1.isNone)) = false := by rfl) :
    PE X (.Call (.Name x p) [] kws pos) (tCallWS ps.length sp (WE W) t) := by
  obtain ⟨f, fd, h1, h2, h3, h4⟩ := F.ex
  refine ⟨fun pins s σ H Q I h => ?_⟩
  refine wpAny_Call_Name_kw (ld_glob I hg h2 ?_ hdb)
  refine PySem.W.callWith_KW0 (h₀ := X.base) I.ok.mod.kin h3 hall ?_ hpl
  refine thn (hkw.run pos pins s σ H _ I h) fun ws s2 ⟨zs, H2, I2, rz, l1, q2⟩ => ⟨I2.kIn, ?_⟩
  rw [hks]
  exact wpAny_call (end_fnS h1 hr (passAt tk σ) I2 (h4 s2 ws (by rw [← rz.length]; exact l1)) rz q2)
end
/-! ### classmethods -/
structure CmI (P : Program) (w : World) (K : PySem.W.Frag) (mg : Str → Option Value) (base : Heap) (C : Addr) (m : Str) (k : Nat) (ks : List Str) (sp : Sp) : Prop where
  ex : ∃ mc p g fd c, ClX.CRead K C mc ∧ ClX.CMet K C mc m p g ∧ FnOk P w K mg base (L2.CX P w) k g fd (c :: ks) sp ∧ Binds K fd (c :: ks) [] ∧
    ∀ (s : Shared) (c0 : Value) (ws : List Value), ws.length = ks.length → BindsTo s fd ⟨[c0], ks.zip ws⟩ ((c :: ks).zip (c0 :: ws))
section
variable {X : Cx} {k : Nat} {C : Addr} {ks : List Str} {sp : Sp} {E : XK} {W : WX} {m : Str} {apos pos : Pos} {e o : Expr} {es : List Expr} {t tk : TA} {ta : TE}
theorem raw0 {P : Program} {w : World} {K : PySem.W.Frag} {mg : Str → Option Value} {base : Heap} {f : Addr} {fd : FuncData} {ps : List Str} (F : FnOk P w K mg base (L2.CX P w) k f fd ps sp) (hb : Binds K fd ps []) : FnR P w K mg base (L2.CX P w) k f sp :=
  FnR.imp (FnOk.raw (dvs := []) F hb .nil) fun vs H Q E h => by rw [List.append_nil]; exact h
theorem pe_cm {pl : Sem Bool} (F : CmI X.prog X.w X.K X.mg X.base C m k ks sp) (hr : Room k X.A) (hx : Passes (L2.CX X.prog X.w) X E) (he : PE X o ta) (ha : PA X (e :: es) t)
    (hst : starEach (e :: es) X.env = (false, eval e X.env) :: starEach es X.env := by rfl) (hpl : (backTo pos (starEach es X.env)).any (·.1) = false := by rfl)
    (ht : eval (.Call (.Attribute o m apos) (e :: es) [] pos) X.env = (do
      let ov ← eval o X.env
      standAt apos.atName
      let (f, first) ← holding [ov] (getMethod ov m pl)
      callWith pos f first (backTo pos (starEach (e :: es) X.env)) (backToKw pos (keywordEach [] X.env))) := by rfl) :
    PE X (.Call (.Attribute o m apos) (e :: es) [] pos) (ClX.tCMeth C sp E ta t) := by
  obtain ⟨mc, p, g, fd, c, h1, h2, h3, h4, _⟩ := F.ex
  exact ClX.pe_cmeth he h1 h2 (raw0 h3 h4) hr hx ha hst hpl ht
def tCMethS (C : Addr) (sp : Sp) (E : L2.St → XK) (ta : TE) (t : TA) : TE := fun σ H Q => ta σ H fun x H1 => x = .ref C ∧ t σ H1 fun vs H2 => sp (.ref C :: vs) H2 Q (E σ)
theorem pe_cmS {pl : Sem Bool} (F : CmI X.prog X.w X.K X.mg X.base C m k ks sp) (hr : Room k X.A) (tk : Takes X W) (he : PE X o ta) (ha : PA X (e :: es) t)
    (hst : starEach (e :: es) X.env = (false, eval e X.env) :: starEach es X.env := by rfl) (hpl : (backTo pos (starEach es X.env)).any (·.1) = false := by rfl)
    (ht : eval (.Call (.Attribute o m apos) (e :: es) [] pos) X.env = (do
      let ov ← eval o X.env
      standAt apos.atName
      let (f, first) ← holding [ov] (getMethod ov m pl)
      callWith pos f first (backTo pos (starEach (e :: es) X.env)) (backToKw pos (keywordEach [] X.env))) := by rfl) :
    PE X (.Call (.Attribute o m apos) (e :: es) [] pos) (tCMethS C sp (WE W) ta t) := by
  obtain ⟨mc, p, g, fd, c, r, c', G, hb, _⟩ := F.ex
  refine ⟨fun pins s σ H Q I h => ?_⟩
  refine PySem.W.methodCall_KW (pl := pl) (thn (he.run pins s σ H _ I h) fun u s1 ⟨x, H1, I1, rx, ex, q⟩ => ?_) ht
  subst ex
  obtain rfl : u = Value.ref C := rx
  refine ClX.getmethcm_ok I1 r c' fun s2 I2 => ?_
  refine ClX.callwith_cm I2 (ClX.base_none I1 (Nat.le_refl _)) c'.fi (thn (ha.run pos _ s2 σ H1 _ I2 q) fun us s3 ⟨vs, H2, I3, rv, q2⟩ => ⟨⟨ClX.pin_at I3, I3.kIn⟩, ?_⟩) hst hpl
  have hl : (Value.ref C :: us).length = (c :: ks).length := by
    have := G.len _ _ _ _ q2
    rw [List.length_cons, rv.length] at this
    rw [List.length_cons]
    exact this
  have hb2 := hb s3 (.ref C :: us) I3.kIn (by rw [List.append_nil]; exact hl)
  rw [List.append_nil] at hb2
  exact thn (wpAny_call (PySem.W.method_call (ClX.pin_at I3) (end_fnS (vs := .ref C :: vs) G hr (passAt tk σ) I3 hb2 (.cons rfl rv) q2))) fun _ _ y => ClX.unpinE (p := (s1.heap.objs.size, PySem.W.methodObj (.ref g) (.ref C))) y
/-- C.m(k = v, ..) -/
def tCMethK (C : Addr) (n : Nat) (sp : Sp) (E : XK) (ta : TE) (t : TA) : TE := fun σ H Q => ta σ H fun x H1 => x = .ref C ∧ t σ H1 fun vs H2 => vs.length = n ∧ sp (.ref C :: vs) H2 Q E
theorem pe_cmK {kws : List Keyword} {pl : Sem Bool} (F : CmI X.prog X.w X.K X.mg X.base C m k ks sp) (hr : Room k X.A) (hx : Passes (L2.CX X.prog X.w) X E) (he : PE X o ta) (hkw : PK X kws tk)
    (hall : (backToKw pos (keywordEach kws X.env)).all (·.1.isSome) = true := by rfl) (hks : (backToKw pos (keywordEach kws X.env)).filterMap (·.1) = ks := by rfl)
    (hpl : ((backTo pos (starEach [] X.env)).any (·.1) || (backToKw pos (keywordEach kws X.env)).any (·.1.isNone)) = false := by rfl)
    (ht : eval (.Call (.Attribute o m apos) [] kws pos) X.env = (do
      let ov ← eval o X.env
      standAt apos.atName
      let (f, first) ← holding [ov] (getMethod ov m pl)
      callWith pos f first (backTo pos (starEach [] X.env)) (backToKw pos (keywordEach kws X.env))) := by rfl) :
    PE X (.Call (.Attribute o m apos) [] kws pos) (tCMethK C ks.length sp E ta tk) := by
  obtain ⟨mc, p, g, fd, c, r, c', G, _, hb⟩ := F.ex
  refine ⟨fun pins s σ H Q I h => ?_⟩
  refine PySem.W.methodCall_KW (pl := pl) (thn (he.run pins s σ H _ I h) fun u s1 ⟨x, H1, I1, rx, ex, q⟩ => ?_) ht
  subst ex
  obtain rfl : u = Value.ref C := rx
  refine ClX.getmethcm_ok I1 r c' fun s2 I2 => ?_
  refine PySem.W.callWith_of (P := PySem.W.MethP X.K s1.heap.objs.size g (.ref C)) hpl (PySem.W.keeps_M c'.fi) (evalArgs_kw2_nil hall ?_)
  refine thn (hkw.run pos _ s2 σ H1 _ I2 q) fun ws s3 ⟨zs, H2, I3, rz, l1, q2⟩ => ⟨⟨ClX.pin_at I3, I3.kIn⟩, ?_⟩
  rw [hks]
  refine thn (wpAny_call (PySem.W.method_call (ClX.pin_at I3) ?_)) fun _ _ y => ClX.unpinE (p := (s1.heap.objs.size, PySem.W.methodObj (.ref g) (.ref C))) y
  refine codeAny_mono (G.run X.A X.stack s3 H2 ⟨[.ref C], ks.zip ws⟩ (.ref C :: ws) (.ref C :: zs) Q E hr I3.env0 (hb s3 (.ref C) ws (by rw [← rz.length]; exact l1)) (.cons rfl rz) q2) fun r s' hq => ?_
  cases r with
  | error e => exact hx _ σ H2 s3 e s' I3 hq
  | ok fl =>
    cases fl with
    | ret u => exact I3.after hq
    | next => exact False.elim hq
    | brk => exact False.elim hq
    | cont => exact False.elim hq
end
/-! ### isinstance(e, C), e the caught error, which has fields -/
structure XkC (K : PySem.W.Frag) (C : Addr) : Prop where
  ha : PySem.W.findIn K (.ref C) "__class__" = some (some (.builtin "object.__class__"))
  hn : PySem.W.specialIn K (.builtin "object.__class__") "__get__" = some (some (.builtin "getset_descriptor.__get__"))
  ht : PySem.W.takesIn K (.builtin "object.__class__") = some true
  hm : PySem.W.mroIn K C (.type "object") = some true
def rIsX (K : PySem.W.Frag) (D a : Addr) (cls : Value) (d : Option Addr) : List V → Hp → VK → Prop := fun xs H Q => ∃ (c : V) (cv : Value) (b : Bool) (dd : Addr) (fs : List (Str × V)),
  cls = .ref D ∧ d = some dd ∧ H dd = some (.xd fs) ∧ xs = [.ref a, c] ∧ (∀ u, RelV c u → u = cv) ∧ PySem.W.kitOne K (.ref D) cv = some b ∧ Q (.bl b) H
theorem call_isX {X : Cx} {a D : Addr} {oe : Obj} {cls : Value} {d : Option Addr} {pn : List (Addr × Obj)} (T : XfC X.K D) (C : XkC X.K D) (hz : Zc cls d oe) (hf : ∃ vs, oe.data = .fields vs) : CallR (X.suite a ((a, oe) :: pn)) (.builtin "isinstance") (rIsX X.K D a cls d) := by
  intro pins s σ H xs us Q I r h
  obtain ⟨c, cv, b, dd, fs, rfl, rfl, hdd, rfl, hcv, e, q⟩ := h
  cases r with
  | cons rx rr =>
    cases rr with
    | cons rt rr =>
      cases rr
      cases rx
      have ec := hcv _ rt
      subst ec
      obtain ⟨hget, _⟩ := I.pin (a, oe) (List.mem_append.mpr (.inl List.mem_cons_self))
      obtain ⟨vs, hv⟩ := hf
      have hx : ObjOk X.prog X.w H s.heap dd (.xd fs) := I.hok dd _ hdd
      obtain ⟨mA, hns, hr⟩ := hx
      obtain ⟨od, ho, hl⟩ := lookIn_ns hns
      have J : PySem.W.InstAt s.heap a oe D (some od) := ⟨hget, hz.1, by unfold PySem.W.notCls; rw [hv] <;> rfl, by rw [hz.2]; exact ho⟩
      have hcl : (PySem.W.clsIn X.K D).isSome = true := by
        obtain ⟨cd, hc, _⟩ := PySem.W.any_some T.hdC
        rw [hc]; rfl
      exact PySem.W.kia_one (PySem.W.kitx_exc hcl T.ga T.gg T.exC C.ha C.hn C.ht C.hm) I.kIn J e (fun z => nomatch z) fun tk => ⟨.bl b, H, I.kept (t' := tk) fun _ _ z => z, rfl, q⟩
end Xl

namespace Xl
open PySem PySem.Spec PyProof.Rows L2
/-! ### the class Ratio -/
/-- // by any divisor but 0, below 2 ^ 9000 in size -/
theorem op_fdivX {X : Cx} : OpR X (binaryOp .FloorDiv) (rI (fun _ j => j ≠ 0 ∧ j.natAbs.log2 < 9000) fun i j => .int (i.fdiv j)) := opI fun _ _ _ _ _ _ _ hc q => floordiv_int hc.1 q (.inl (PyProof.noPylong_of_log2 hc.2))
def ratF (p q : Int) : List (Str × V) := putF "lower" (.int q) (putF "upper" (.int p) [])
theorem ul : ¬ (("upper" : Str) = "lower") := by decide +kernel
theorem ratF_up (p q : Int) : (ratF p q).lookup ("upper" : Str) = some (.int p) := by
  unfold ratF
  rw [lookup_putF, if_neg ul, lookup_putF, if_pos rfl]
theorem ratF_lo (p q : Int) : (ratF p q).lookup ("lower" : Str) = some (.int q) := by
  unfold ratF
  rw [lookup_putF, if_pos rfl]
theorem ratF_no (p q : Int) {m : Str} (h1 : ¬ m = "lower") (h2 : ¬ m = "upper") : (ratF p q).lookup m = none := by
  unfold ratF
  rw [lookup_putF, if_neg h1, lookup_putF, if_neg h2]
  rfl
/-- the object at r is the ratio p / q -/
def RatO (C : Addr) (H : Hp) (r : Addr) (p q : Int) : Prop := Low p q ∧ ∃ dx, H r = some (.ins C dx (ratF p q))
theorem RatO.same {C : Addr} {H H' : Hp} {r : Addr} {p q : Int} (h : RatO C H r p q) (s : Same H H') : RatO C H' r p q := ⟨h.1, h.2.elim fun dx e => ⟨dx, s _ _ e⟩⟩
/-- a value that is a ratio or an integer -/
def Num (C : Addr) (H : Hp) (v : V) (p q : Int) : Prop := (v = .int p ∧ q = 1) ∨ ∃ r, v = .ref r ∧ RatO C H r p q
theorem Num.same {C : Addr} {H H' : Hp} {v : V} {p q : Int} (h : Num C H v p q) (s : Same H H') : Num C H' v p q := h.elim .inl fun ⟨r, e, h⟩ => .inr ⟨r, e, h.same s⟩
theorem Num.low {C : Addr} {H : Hp} {v : V} {p q : Int} (h : Num C H v p q) : Low p q := by
  rcases h with ⟨_, rfl⟩ | ⟨r, _, h⟩
  · exact low_one p
  · exact h.1
def spGcd : Sp := fun vs H Q _ => ∃ a b : Int, vs = [.int a, .int b] ∧ Q (.int (Int.gcd a b : Int)) H
/-- __init__ at a new instance -/
def spRin (C CO : Addr) : Sp := fun vs H Q E => ∃ (x dx : Addr) (t b : Int), vs = [.ref x, .int t, .int b] ∧ H x = some (.ins C dx []) ∧ (∃ n, n ≤ 8000 ∧ b.natAbs < 2 ^ n) ∧
  ((b ≠ 0 ∧ ∀ H', H' x = some (.ins C dx (ratF (nT t b) (nB t b))) → (∀ c o, H c = some o → c ≠ x → H' c = some o) → Q .non H') ∨
    (b = 0 ∧ ∀ d H', Same H H' → H d = none → H' d = some (.xd [("value", .int b)]) → E (.ref CO) (some d) H'))
/-- Ratio(t, b) -/
def spRat (C CO : Addr) : Sp := fun vs H Q E => ∃ t b : Int, vs = [.int t, .int b] ∧ (∃ n, n ≤ 8000 ∧ b.natAbs < 2 ^ n) ∧
  ((b ≠ 0 ∧ ∀ r H', Same H H' → H r = none → RatO C H' r (nT t b) (nB t b) → Q (.ref r) H') ∨
    (b = 0 ∧ ∀ d H', Same H H' → H d = none → H' d = some (.xd [("value", .int b)]) → E (.ref CO) (some d) H'))
/-- Ratio(t) -/
def spRat1 (C : Addr) : Sp := fun vs H Q _ => ∃ t : Int, vs = [.int t] ∧ ∀ r H', Same H H' → H r = none → RatO C H' r t 1 → Q (.ref r) H'
def spAs (C : Addr) : Sp := fun vs H Q _ => ∃ (v : V) (p q : Int), vs = [v] ∧ Num C H v p q ∧ ∀ r H', Same H H' → (v = .ref r ∨ H r = none) → RatO C H' r p q → Q (.ref r) H'
def spTop (C : Addr) : Sp := fun vs H Q _ => ∃ r p q, vs = [.ref r] ∧ RatO C H r p q ∧ Q (.int p) H
def spBot (C : Addr) : Sp := fun vs H Q _ => ∃ r p q, vs = [.ref r] ∧ RatO C H r p q ∧ Q (.int q) H
def sgn (p : Int) : Int := if p = 0 then 0 else if 0 < p then 1 else -1
def spSgn (C : Addr) : Sp := fun vs H Q _ => ∃ r p q, vs = [.ref r] ∧ RatO C H r p q ∧ Q (.int (sgn p)) H
/-- r == s, both ratios -/
def spReq (C : Addr) : Sp := fun vs H Q _ => ∃ r s p q p' q', vs = [.ref r, .ref s] ∧ RatO C H r p q ∧ RatO C H s p' q' ∧ Q (.bl (decide (p = p' ∧ q = q'))) H
/-- the text of a ratio -/
def rtext (p q : Int) : Str := if q = 1 then toString p else (toString p : Str) ++ "/" ++ (toString q : Str)
def spRstr (C : Addr) : Sp := fun vs H Q _ => ∃ r p q, vs = [.ref r] ∧ RatO C H r p q ∧ p.natAbs.log2 < 1920 ∧ q.natAbs.log2 < 1920 ∧ Q (.str (rtext p q)) H
theorem gcd_absl (a b : Int) : Int.gcd (if a < 0 then -a else a) b = Int.gcd a b := by
  split
  · exact Int.neg_gcd ..
  · rfl
theorem gcd_absr (a b : Int) : Int.gcd a (if b < 0 then -b else b) = Int.gcd a b := by
  split
  · exact Int.gcd_neg ..
  · rfl
theorem abs_nn (a : Int) : 0 ≤ (if a < 0 then -a else a) := by split <;> omega
section
variable {P : Program} {w : World} {K : PySem.W.Frag} {mg : Str → Option Value} {base : Heap}
abbrev N_common_divisor : List Str := ["first", "second"]
theorem sc_common_divisor : FnScope N_common_divisor ["first", "second"] (defScope s_common_divisor) := ⟨rfl, rfl, rfl, by decide +kernel, rfl, by decide +kernel, by decide +kernel⟩
theorem ok_common_divisor (T : GG K mg) : FnOk P w K mg base (L2.CX P w) 1 T.a_common_divisor T.fd_common_divisor ["first", "second"] spGcd := by
  refine okN T.F_common_divisor sc_common_divisor (fun vs H Q E h => ?_) (fun cdv A outer s H vs Q E hr h => ?_)
  · obtain ⟨a, b, rfl, _⟩ := h
    rfl
  · obtain ⟨a, b, rfl, k⟩ := h
    refine ⟨_, (pss_cons (ps_set (i := 0) sc_common_divisor.nd rfl (Or.inl rfl) (pe_callB call_abs rfl T.z_abs (by decide +kernel) (pa_cons (pv 0) pa_nil)))
      (pss_cons (ps_set (i := 1) sc_common_divisor.nd rfl (Or.inl rfl) (pe_callB call_abs rfl T.z_abs (by decide +kernel) (pa_cons (pv 1) pa_nil)))
      (pss_cut (ps_while PassesOwn.never (pt_cmpR op_ne (pv 1) pe_int (nomark _))
        (pss_one (ps_par (i := 0) (j := 1) rfl sc_common_divisor.nd rfl rfl (by decide) rfl rfl (pa_cons (pv 1) (pa_cons (pe_op op_mod (pv 0) (pv 1)) pa_nil)) rfl)))
      (pss_one (ps_ret (pv 0)))))), ?_⟩
    refine ⟨_, rfl, _, rfl, _, rfl, _, rfl, ?_⟩
    refine ⟨fun σ H1 => ∃ c, σ = [some (.int (Int.gcd a b : Int)), some c] ∧ H1 = H, ⟨fun m σ H1 => ∃ x y : Int, m = y.toNat ∧ 0 ≤ x ∧ 0 ≤ y ∧ σ = [some (.int x), some (.int y)] ∧ H1 = H ∧ Int.gcd x y = Int.gcd a b, ⟨_, _, _, rfl, abs_nn a, abs_nn b, rfl, rfl, ?_⟩, ?_⟩, ?_⟩
    · rw [gcd_absl, gcd_absr]
    · rintro m σ H1 ⟨x, y, rfl, hx, hy, rfl, rfl, hg⟩
      refine ⟨_, rfl, rfl, _, rfl, iteB (fun hne => ?_) (fun he => ?_)⟩
      · have hy0 : y ≠ 0 := by
          intro e
          subst e
          simp at hne
        refine ⟨_, fun _ _ z => z, ?_⟩
        refine ⟨_, rfl, _, rfl, _, rfl, _, _, rfl, rfl, (by omega), _, _, rfl, ?_⟩
        have h0 := Int.emod_nonneg x hy0
        have h1 := Int.emod_lt_of_pos x (show 0 < y by omega)
        exact ⟨(x % y).toNat, by omega, y, x % y, rfl, by omega, h0, rfl, rfl, by rw [gcd_step hx (by omega)]; exact hg⟩
      · have hy0 : y = 0 := by
          have z := bnf he
          have := of_decide_eq_true z
          exact V.int.inj this
        subst hy0
        have e : x = (Int.gcd a b : Int) := by
          rw [← hg, Int.gcd_zero_right]
          omega
        exact ⟨_, by rw [e], rfl⟩
    · rintro σ H1 ⟨c, rfl, rfl⟩
      exact ⟨_, rfl, k⟩
theorem F_common_divisor (T : GG K mg) : FnI P w K mg base "common_divisor" 1 ["first", "second"] spGcd :=
  ⟨T.a_common_divisor, T.fd_common_divisor, ok_common_divisor T, T.m_common_divisor, T.F_common_divisor.kp, T.F_common_divisor.binds fun _ _ _ _ _ _ us hl => match us, hl with | [_, _], _ => rfl⟩
abbrev N_Ratio___init__ : List Str := ["self", "top", "bottom", "divisor"]
theorem sc_Ratio___init__ : FnScope N_Ratio___init__ ["self", "top", "bottom"] (defScope s_Ratio___init__) := ⟨rfl, rfl, rfl, by decide +kernel, rfl, by decide +kernel, by decide +kernel⟩
theorem div_ok {t b : Int} (hb : b ≠ 0) (h : ∃ n, n ≤ 8000 ∧ b.natAbs < 2 ^ n) : sgcd t b ≠ 0 ∧ (sgcd t b).natAbs.log2 < 9000 := by
  obtain ⟨n, hn, hlt⟩ := h
  refine ⟨sgcd_ne hb, ?_⟩
  have e : (sgcd t b).natAbs ≤ b.natAbs := by
    rw [natAbs_sgcd]
    exact Nat.le_of_dvd (Int.natAbs_pos.mpr hb) (Int.ofNat_dvd_left.mp (Int.gcd_dvd_right ..))
  have h3 : (sgcd t b).natAbs < 2 ^ n := Nat.lt_of_le_of_lt e hlt
  have hn0 : 0 < n := by
    rcases Nat.eq_zero_or_pos n with z | z
    · subst z
      have : 0 < b.natAbs := Int.natAbs_pos.mpr hb
      omega
    · exact z
  have := PySem.Flt.log2_lt_of hn0 h3
  omega
theorem ok_Ratio___init__ (T : GG K mg) : FnOk P w K mg base (L2.CX P w) 3 T.a_Ratio___init__ T.fd_Ratio___init__ ["self", "top", "bottom"] (spRin T.c_Ratio T.c_OutOfRange) := by
  refine FunD.ok T.F_Ratio___init__ sc_Ratio___init__ (fun vs H Q E h => ?_) (fun cdv A outer s H vs Q E hr h => ?_)
  · obtain ⟨x, dx, t, b, rfl, _⟩ := h
    rfl
  · obtain ⟨x, dx, t, b, rfl, hx, hb, hk⟩ := h
    refine ⟨_, (pss_cut (ps_if (pt_cmpR op_eq (pv 2) pe_int (nomark _)) (pss_one (ps_rx (X_OutOfRange T) (by decide) (hr.mono (by decide)) rfl (takes_of rfl rfl rfl rfl) (pa_cons (pv 2) pa_nil))) pss_nil)
      (pss_cons (ps_set (i := 3) sc_Ratio___init__.nd rfl (Or.inl rfl) (pe_f (F_common_divisor T) (hr.mono (by decide)) passL (pa_cons (pv 1) (pa_cons (pv 2) pa_nil))))
      (pss_cut (ps_if (pt_cmpR op_lt (pv 2) pe_int (nomark _)) (pss_one (ps_set (i := 3) sc_Ratio___init__.nd rfl (Or.inl rfl) (pe_un un_neg (pv 3)))) pss_nil)
      (pss_cons (ps_fld (pv 0) (pe_op op_fdivX (pv 1) (pv 3)) rfl)
      (pss_one (ps_fld (pv 0) (pe_op op_fdivX (pv 2) (pv 3)) rfl)))))), ?_⟩
    refine ⟨fun σ H1 => b ≠ 0 ∧ σ = [some (.ref x), some (.int t), some (.int b), none] ∧ H1 = H, ⟨_, rfl, rfl, _, rfl, iteB (fun he => ?_) (fun hne => ?_)⟩, ?_⟩
    · have hb0 : b = 0 := V.int.inj (of_decide_eq_true he)
      rcases hk with ⟨hn, _⟩ | ⟨_, k⟩
      · exact absurd hb0 hn
      · refine ⟨_, rfl, rfl, fun d H' hs hd hd' => ?_⟩
        exact k d H' hs hd hd'
    · exact ⟨fun e => by subst e; simp at hne, rfl, rfl⟩
    rintro σ H1 ⟨hb0, rfl, rfl⟩
    rcases hk with ⟨_, k⟩ | ⟨he, _⟩
    · refine ⟨_, rfl, _, rfl, t, b, rfl, ?_⟩
      refine ⟨fun σ H2 => σ = [some (.ref x), some (.int t), some (.int b), some (.int (sgcd t b))] ∧ H2 = H1, ⟨_, rfl, _, _, rfl, rfl, _, rfl, iteB (fun he => ?_) (fun hne => ?_)⟩, ?_⟩
      · have hlt : b < 0 := of_decide_eq_true he
        refine ⟨_, rfl, _, rfl, ?_, rfl⟩
        unfold sgcd
        rw [if_pos hlt]
        rfl
      · have hge : ¬ b < 0 := of_decide_eq_false hne
        refine ⟨?_, rfl⟩
        unfold sgcd
        rw [if_neg hge]
        rfl
      rintro σ H2 ⟨rfl, rfl⟩
      refine ⟨_, rfl, _, rfl, _, _, rfl, rfl, div_ok hb0 hb, _, rfl, x, T.c_Ratio, dx, [], rfl, hx, T.cl_Ratio, T.no_Ratio_upper, (by show 0 < 1000; decide), ?_⟩
      refine ⟨_, rfl, _, rfl, _, _, rfl, rfl, div_ok hb0 hb, _, rfl, x, T.c_Ratio, dx, _, rfl, upd_same, T.cl_Ratio, T.no_Ratio_lower, (by show 1 < 1000; decide), ?_⟩
      refine k _ upd_same fun c o e hc => ?_
      rw [upd_ne hc, upd_ne hc]
      exact e
    · exact absurd he hb0
/-- Ratio(t, b) as an expression -/
theorem M_Ratio (T : GG K mg) : MkI P w K mg base T.c_Ratio 3 (spRat T.c_Ratio T.c_OutOfRange) := by
  obtain ⟨ds, hv, hb⟩ := T.F_Ratio___init__.binds1 (ps := ["self", "top", "bottom"]) 3 1 (by simp) (by decide) (fun TT kV doc pm an cdv ct us its l1 l2 => match us, l1, its, l2 with | [_, _, _], _, [_], _ => ⟨_, rfl, rfl⟩)
  refine ⟨T.a_Ratio___init__, T.fd_Ratio___init__, ["self", "top", "bottom"], _, ds, _, T.mk_Ratio, ok_Ratio___init__ T, hv, hb, fun vs H Q E h o dx ho hdx hne => ?_⟩
  · obtain ⟨t, b, rfl, hb, hk⟩ := h
    have sm : Same H (upd (upd H dx (.own o)) o (.ins T.c_Ratio dx [])) := fun c u e => by
      rw [upd_ne (ne_of_none e ho), upd_ne (ne_of_none e hdx)]
      exact e
    refine ⟨o, dx, t, b, rfl, upd_same, hb, ?_⟩
    rcases hk with ⟨hb0, k⟩ | ⟨hb0, k⟩
    · refine .inl ⟨hb0, fun H' e kp => ⟨rfl, k o H' (fun c u ec => kp c u (sm c u ec) (ne_of_none ec ho)) ho ⟨low_n hb0, dx, e⟩⟩⟩
    · refine .inr ⟨hb0, fun d H' hs hd hd' => k d H' (sm.trans hs) (sm.free hd) hd'⟩
theorem M_Ratio1 (T : GG K mg) : MkI P w K mg base T.c_Ratio 3 (spRat1 T.c_Ratio) := by
  obtain ⟨ds, hv, hb⟩ := T.F_Ratio___init__.binds1 (ps := ["self", "top", "bottom"]) 2 0 (by simp) (by decide) (fun TT kV doc pm an cdv ct us its l1 l2 => match us, l1, its, l2 with | [_, _], _, [_], _ => ⟨_, rfl, rfl⟩)
  refine ⟨T.a_Ratio___init__, T.fd_Ratio___init__, ["self", "top", "bottom"], _, ds, _, T.mk_Ratio, ok_Ratio___init__ T, hv, hb, fun vs H Q E h o dx ho hdx hne => ?_⟩
  obtain ⟨t, rfl, k⟩ := h
  have sm : Same H (upd (upd H dx (.own o)) o (.ins T.c_Ratio dx [])) := fun c u e => by
    rw [upd_ne (ne_of_none e ho), upd_ne (ne_of_none e hdx)]
    exact e
  refine ⟨o, dx, t, 1, rfl, upd_same, ⟨1, by decide, by decide⟩, .inl ⟨by decide, fun H' e kp => ⟨rfl, ?_⟩⟩⟩
  rw [(n_one t).1, (n_one t).2] at e
  exact k o H' (fun c u ec => kp c u (sm c u ec) (ne_of_none ec ho)) ho ⟨low_one t, dx, e⟩
theorem ty_Ratio (T : GG K mg) {H : Hp} {r : Addr} {p q : Int} (h : RatO T.c_Ratio H r p q) : TyX K H (.ref r) (.ref T.c_Ratio) := by
  obtain ⟨_, dx, e⟩ := h
  exact .base (.ins e T.cl_Ratio T.ty_Ratio.1 T.ty_Ratio.2.1 T.ty_Ratio.2.2.1 T.ty_Ratio.2.2.2)
end
end Xl

namespace Xl
open PySem PySem.Spec PyProof.Rows L2
section
variable {P : Program} {w : World} {K : PySem.W.Frag} {mg : Str → Option Value} {base : Heap}
abbrev N_as_ratio : List Str := ["value"]
theorem sc_as_ratio : FnScope N_as_ratio ["value"] (defScope s_as_ratio) := ⟨rfl, rfl, rfl, by decide +kernel, rfl, by decide +kernel, by decide +kernel⟩
theorem ok_as_ratio (T : GG K mg) : FnOk P w K mg base (L2.CX P w) 5 T.a_as_ratio T.fd_as_ratio ["value"] (spAs T.c_Ratio) := by
  refine okN T.F_as_ratio sc_as_ratio (fun vs H Q E h => ?_) (fun cdv A outer s H vs Q E hr h => ?_)
  · obtain ⟨v, p, q, rfl, _⟩ := h
    rfl
  · obtain ⟨v, p, q, rfl, hn, k⟩ := h
    refine ⟨_, (pss_cons (ps_if (pt_val (pe_callB call_isi rfl T.z_isinstance (by decide +kernel) (pa_cons (pv 0) (pa_cons (pe_cls T.g_Ratio) pa_nil)))) (pss_one (ps_ret (pv 0))) pss_nil)
      (pss_one (ps_ret (pe_mkI (M_Ratio1 T) hr T.g_Ratio passL (pa_cons (pv 0) pa_nil))))), ?_⟩
    rcases hn with ⟨rfl, rfl⟩ | ⟨r, rfl, hr⟩
    · refine ⟨_, rfl, _, _, _, _, _, rfl, .own _, .base (.int _), T.isa_int_Ratio, _, rfl, iteF ?_⟩
      exact ⟨_, rfl, p, rfl, fun r H' hs hr h => k r H' hs (.inr hr) h⟩
    · refine ⟨_, rfl, _, _, _, _, _, rfl, .own _, ty_Ratio T hr, T.isa_Ratio_Ratio, _, rfl, iteT ?_⟩
      exact ⟨_, rfl, k r H (Same.refl H) (.inl rfl) hr⟩
theorem F_as_ratio (T : GG K mg) : FnI P w K mg base "as_ratio" 5 ["value"] (spAs T.c_Ratio) :=
  ⟨T.a_as_ratio, T.fd_as_ratio, ok_as_ratio T, T.m_as_ratio, T.F_as_ratio.kp, T.F_as_ratio.binds fun _ _ _ _ _ _ us hl => match us, hl with | [_], _ => rfl⟩
end
end Xl

namespace Xl
open PySem PySem.Spec PyProof.Rows L2
section
variable {P : Program} {w : World} {K : PySem.W.Frag} {mg : Str → Option Value} {base : Heap}
theorem sc_Ratio_top : FnScope ["self"] ["self"] (defScope s_Ratio_top) := ⟨rfl, rfl, rfl, by decide +kernel, rfl, by decide +kernel, by decide +kernel⟩
theorem ok_Ratio_top (T : GG K mg) : FnOk P w K mg base (L2.CX P w) 1 T.a_Ratio_top T.fd_Ratio_top ["self"] (spTop T.c_Ratio) := by
  refine okN T.F_Ratio_top sc_Ratio_top (fun vs H Q E h => ?_) (fun cdv A outer s H vs Q E hr h => ?_)
  · obtain ⟨r, p, q, rfl, _⟩ := h
    rfl
  · obtain ⟨r, p, q, rfl, ⟨_, dx, e⟩, k⟩ := h
    refine ⟨_, (pss_one (ps_ret (pe_fld (pv 0) rfl))), ?_⟩
    exact ⟨_, rfl, r, T.c_Ratio, dx, _, _, rfl, e, T.cl_Ratio, T.no_Ratio_upper, ratF_up _ _, k⟩
theorem P_top (T : GG K mg) : PrI P w K mg base T.c_Ratio "top" 1 (spTop T.c_Ratio) := by
  obtain ⟨p, hp⟩ := T.pr_Ratio_top
  exact ⟨p, T.a_Ratio_top, T.fd_Ratio_top, ["self"], T.cl_Ratio, hp, ok_Ratio_top T, T.F_Ratio_top.binds fun _ _ _ _ _ _ us hl => match us, hl with | [_], _ => rfl⟩
theorem sc_Ratio_bottom : FnScope ["self"] ["self"] (defScope s_Ratio_bottom) := ⟨rfl, rfl, rfl, by decide +kernel, rfl, by decide +kernel, by decide +kernel⟩
theorem ok_Ratio_bottom (T : GG K mg) : FnOk P w K mg base (L2.CX P w) 1 T.a_Ratio_bottom T.fd_Ratio_bottom ["self"] (spBot T.c_Ratio) := by
  refine okN T.F_Ratio_bottom sc_Ratio_bottom (fun vs H Q E h => ?_) (fun cdv A outer s H vs Q E hr h => ?_)
  · obtain ⟨r, p, q, rfl, _⟩ := h
    rfl
  · obtain ⟨r, p, q, rfl, ⟨_, dx, e⟩, k⟩ := h
    refine ⟨_, (pss_one (ps_ret (pe_fld (pv 0) rfl))), ?_⟩
    exact ⟨_, rfl, r, T.c_Ratio, dx, _, _, rfl, e, T.cl_Ratio, T.no_Ratio_lower, ratF_lo _ _, k⟩
theorem P_bottom (T : GG K mg) : PrI P w K mg base T.c_Ratio "bottom" 1 (spBot T.c_Ratio) := by
  obtain ⟨p, hp⟩ := T.pr_Ratio_bottom
  exact ⟨p, T.a_Ratio_bottom, T.fd_Ratio_bottom, ["self"], T.cl_Ratio, hp, ok_Ratio_bottom T, T.F_Ratio_bottom.binds fun _ _ _ _ _ _ us hl => match us, hl with | [_], _ => rfl⟩
end
end Xl

namespace Xl
open PySem PySem.Spec PyProof.Rows L2
/-- r.below(v) -/
def spBelow (C : Addr) : Sp := fun vs H Q _ => ∃ r v p q p' q', vs = [.ref r, v] ∧ RatO C H r p q ∧ Num C H v p' q' ∧ Bd 4000 p ∧ Bd 4000 q ∧ Bd 4000 p' ∧ Bd 4000 q' ∧ ∀ H', Same H H' → Q (.bl (decide (p * q' < p' * q))) H'
section
variable {P : Program} {w : World} {K : PySem.W.Frag} {mg : Str → Option Value} {base : Heap}
abbrev N_Ratio_below : List Str := ["self", "value", "other"]
theorem sc_Ratio_below : FnScope N_Ratio_below ["self", "value"] (defScope s_Ratio_below) := ⟨rfl, rfl, rfl, by decide +kernel, rfl, by decide +kernel, by decide +kernel⟩
theorem ok_Ratio_below (T : GG K mg) : FnOk P w K mg base (L2.CX P w) 6 T.a_Ratio_below T.fd_Ratio_below ["self", "value"] (spBelow T.c_Ratio) := by
  refine okN T.F_Ratio_below sc_Ratio_below (fun vs H Q E h => ?_) (fun cdv A outer s H vs Q E hr h => ?_)
  · obtain ⟨r, v, p, q, p', q', rfl, _⟩ := h
    rfl
  · obtain ⟨r, v, p, q, p', q', rfl, h1, h2, b1, b2, b3, b4, k⟩ := h
    refine ⟨_, (pss_cons (ps_set (i := 2) sc_Ratio_below.nd rfl (Or.inl rfl) (pe_f (F_as_ratio T) (hr.mono (by decide)) passL (pa_cons (pv 1) pa_nil)))
      (pss_one (ps_ret (pe_cmpR op_lt (pe_op op_mulX (pe_fld (pv 0) rfl) (pe_fld (pv 2) rfl)) (pe_op op_mulX (pe_fld (pv 2) rfl) (pe_fld (pv 0) rfl)) (nomark _))))), ?_⟩
    refine ⟨_, rfl, v, p', q', rfl, h2, fun r' H1 s1 _ ho => ?_⟩
    obtain ⟨_, dx, e⟩ := h1.same s1
    obtain ⟨_, dy, e'⟩ := ho
    refine ⟨_, rfl, r, T.c_Ratio, dx, _, _, rfl, e, T.cl_Ratio, T.no_Ratio_upper, ratF_up _ _, _, rfl, r', T.c_Ratio, dy, _, _, rfl, e', T.cl_Ratio, T.no_Ratio_lower, ratF_lo _ _, _, _, rfl, rfl, ⟨4000, 4000, b1, b4, by decide⟩, ?_⟩
    refine ⟨_, rfl, r', T.c_Ratio, dy, _, _, rfl, e', T.cl_Ratio, T.no_Ratio_upper, ratF_up _ _, _, rfl, r, T.c_Ratio, dx, _, _, rfl, e, T.cl_Ratio, T.no_Ratio_lower, ratF_lo _ _, _, _, rfl, rfl, ⟨4000, 4000, b3, b2, by decide⟩, _, _, rfl, rfl, ?_⟩
    exact k H1 s1
theorem M_below (T : GG K mg) : MeI P w K mg base T.c_Ratio "below" 6 (spBelow T.c_Ratio) :=
  ⟨T.a_Ratio_below, T.fd_Ratio_below, ["self", "value"], T.cl_Ratio, T.me_Ratio_below, ok_Ratio_below T, T.F_Ratio_below.binds fun _ _ _ _ _ _ us hl => match us, hl with | [_, _], _ => rfl⟩
end
end Xl

namespace Xl
open PySem PySem.Spec PyProof.Rows L2
theorem Low.neg {p q : Int} (h : Low p q) : Low (-p) q := ⟨h.pos, by rw [Int.neg_gcd]; exact h.cop⟩
/-- -r -/
def spNeg (C : Addr) : Sp := fun vs H Q _ => ∃ r p q, vs = [.ref r] ∧ RatO C H r p q ∧ Bd 8000 q ∧ ∀ r' H', Same H H' → H r' = none → RatO C H' r' (-p) q → Q (.ref r') H'
section
variable {P : Program} {w : World} {K : PySem.W.Frag} {mg : Str → Option Value} {base : Heap}
abbrev N_Ratio___neg__ : List Str := ["self"]
theorem sc_Ratio___neg__ : FnScope N_Ratio___neg__ ["self"] (defScope s_Ratio___neg__) := ⟨rfl, rfl, rfl, by decide +kernel, rfl, by decide +kernel, by decide +kernel⟩
theorem ok_Ratio___neg__ (T : GG K mg) : FnOk P w K mg base (L2.CX P w) 5 T.a_Ratio___neg__ T.fd_Ratio___neg__ ["self"] (spNeg T.c_Ratio) := by
  refine okN T.F_Ratio___neg__ sc_Ratio___neg__ (fun vs H Q E h => ?_) (fun cdv A outer s H vs Q E hr h => ?_)
  · obtain ⟨r, p, q, rfl, _⟩ := h
    rfl
  · obtain ⟨r, p, q, rfl, h1, b, k⟩ := h
    refine ⟨_, (pss_one (ps_ret (pe_mkI (M_Ratio T) (hr.mono (by decide)) T.g_Ratio passL (pa_cons (pe_un un_neg (pe_fld (pv 0) rfl)) (pa_cons (pe_fld (pv 0) rfl) pa_nil))))), ?_⟩
    obtain ⟨hl, dx, e⟩ := id h1
    have hn := hl.neg
    have hq := hl.pos
    refine ⟨_, rfl, r, T.c_Ratio, dx, _, _, rfl, e, T.cl_Ratio, T.no_Ratio_upper, ratF_up _ _, _, rfl, _, rfl, r, T.c_Ratio, dx, _, _, rfl, e, T.cl_Ratio, T.no_Ratio_lower, ratF_lo _ _, -p, q, rfl, b.ex (by decide), .inl ⟨by omega, fun r' H' s' hr' ho => ?_⟩⟩
    rw [(n_of_low hn).1, (n_of_low hn).2] at ho
    exact k r' H' s' hr' ho
theorem M_neg (T : GG K mg) : MeI P w K mg base T.c_Ratio "__neg__" 5 (spNeg T.c_Ratio) :=
  ⟨T.a_Ratio___neg__, T.fd_Ratio___neg__, ["self"], T.cl_Ratio, T.me_Ratio___neg__, ok_Ratio___neg__ T, T.F_Ratio___neg__.binds fun _ _ _ _ _ _ us hl => match us, hl with | [_], _ => rfl⟩
end
end Xl

namespace Xl
open PySem PySem.Spec PyProof.Rows L2
/-! ### what the laws of ratios share: _law_low, _law_is -/
def spLow : Sp := fun vs H Q _ => ∃ u d : Int, vs = [.int u, .int d] ∧ d ≠ 0 ∧ (∃ n, n ≤ 8000 ∧ d.natAbs < 2 ^ n) ∧ ∀ p H', New H p (.tup [.int (nT u d), .int (nB u d)]) H' → Q (.ref p) H'
def PairO (H : Hp) (t : Addr) (p q : Int) : Prop := H t = some (.tup [.int p, .int q])
def spIs (C : Addr) : Sp := fun vs H Q _ => ∃ r t p q, vs = [.ref r, .ref t] ∧ RatO C H r p q ∧ PairO H t p q ∧ ∀ H', Same H H' → Q (.bl true) H'
theorem shaped_pair (p q : Int) : SeqAt.shaped (.tuple [.int p, .int q]) = true := shaped_of (lay_tuple (n := 1) fun d hd => by
  rcases List.mem_cons.mp hd with rfl | hd
  · exact lay_int p
  · rcases List.mem_cons.mp hd with rfl | hd
    · exact lay_int q
    · cases hd) (by decide)
theorem eqv_pair (p q : Int) : PyData.eqv (.tuple [.int p, .int q]) (.tuple [.int p, .int q]) = true := by simp [PyData.eqv, PyData.eqvAll]
section
variable {P : Program} {w : World} {K : PySem.W.Frag} {mg : Str → Option Value} {base : Heap}
abbrev N_low : List Str := ["_law_up", "_law_down", "_law_a", "_law_b"]
theorem sc_low : FnScope N_low ["_law_up", "_law_down"] (defScope s_low) := ⟨rfl, rfl, rfl, by decide +kernel, rfl, by decide +kernel, by decide +kernel⟩
theorem ok_low (T : GG K mg) : FnOk P w K mg base (L2.CX P w) 1 T.a_low T.fd_low ["_law_up", "_law_down"] spLow := by
  refine okN T.F_low sc_low (fun vs H Q E h => ?_) (fun cdv A outer s H vs Q E hr h => ?_)
  · obtain ⟨u, d, rfl, _⟩ := h
    rfl
  · obtain ⟨u, d, rfl, hd0, hd, k⟩ := h
    refine ⟨_, (pss_cons (ps_set (i := 2) sc_low.nd rfl (Or.inl rfl) (pe_callB call_abs rfl T.z_abs (by decide +kernel) (pa_cons (pv 0) pa_nil)))
      (pss_cons (ps_set (i := 3) sc_low.nd rfl (Or.inl rfl) (pe_callB call_abs rfl T.z_abs (by decide +kernel) (pa_cons (pv 1) pa_nil)))
      (pss_cut (ps_while PassesOwn.never (pt_cmpR op_ne (pv 3) pe_int (nomark _))
        (pss_one (ps_par (i := 2) (j := 3) rfl sc_low.nd rfl rfl (by decide) rfl rfl (pa_cons (pv 3) (pa_cons (pe_op op_mod (pe_callTy call_int1 rfl T.z_int (by decide +kernel) (pa_cons (pv 2) pa_nil)) (pv 3)) pa_nil)) rfl)))
      (pss_cut (ps_if (pt_cmpR op_lt (pv 1) pe_int (nomark _)) (pss_one (ps_set (i := 2) sc_low.nd rfl (Or.inl rfl) (pe_un un_neg (pv 2)))) pss_nil)
      (pss_one (ps_ret (pe_tupN (pa_cons (pe_op op_fdivX (pv 0) (pv 2)) (pa_cons (pe_op op_fdivX (pv 1) (pv 2)) pa_nil))))))))), ?_⟩
    refine ⟨_, rfl, _, rfl, _, rfl, _, rfl, ?_⟩
    refine ⟨fun σ H1 => ∃ c, σ = [some (.int u), some (.int d), some (.int (Int.gcd u d : Int)), some c] ∧ H1 = H, ⟨fun m σ H1 => ∃ x y : Int, m = y.toNat ∧ 0 ≤ x ∧ 0 ≤ y ∧ σ = [some (.int u), some (.int d), some (.int x), some (.int y)] ∧ H1 = H ∧ Int.gcd x y = Int.gcd u d, ⟨_, _, _, rfl, abs_nn u, abs_nn d, rfl, rfl, ?_⟩, ?_⟩, ?_⟩
    · rw [gcd_absl, gcd_absr]
    · rintro m σ H1 ⟨x, y, rfl, hx, hy, rfl, rfl, hg⟩
      refine ⟨_, rfl, rfl, _, rfl, iteB (fun hne => ?_) (fun he => ?_)⟩
      · have hy0 : y ≠ 0 := by
          intro e
          subst e
          simp at hne
        refine ⟨_, fun _ _ z => z, ?_⟩
        refine ⟨_, rfl, _, rfl, .inl ⟨x, rfl, _, rfl, _, _, rfl, rfl, (by omega), _, _, rfl, ?_⟩⟩
        have h0 := Int.emod_nonneg x hy0
        have h1 := Int.emod_lt_of_pos x (show 0 < y by omega)
        exact ⟨(x % y).toNat, by omega, y, x % y, rfl, by omega, h0, rfl, rfl, by rw [gcd_step hx (by omega)]; exact hg⟩
      · have hy0 : y = 0 := by
          have z := bnf he
          have := of_decide_eq_true z
          exact V.int.inj this
        subst hy0
        have e : x = (Int.gcd u d : Int) := by
          rw [← hg, Int.gcd_zero_right]
          omega
        exact ⟨_, by rw [e], rfl⟩
    · rintro σ H1 ⟨c, rfl, rfl⟩
      refine ⟨fun σ H2 => H2 = H1 ∧ σ = [some (.int u), some (.int d), some (.int (sgcd u d)), some c], ⟨_, rfl, _, _, rfl, rfl, _, rfl, iteB (fun he => ?_) (fun hne => ?_)⟩, ?_⟩
      · have hlt : d < 0 := of_decide_eq_true he
        refine ⟨_, rfl, _, rfl, rfl, ?_⟩
        unfold sgcd
        rw [if_pos hlt]
        rfl
      · have hge : ¬ d < 0 := of_decide_eq_false hne
        refine ⟨rfl, ?_⟩
        unfold sgcd
        rw [if_neg hge]
      rintro σ H2 ⟨rfl, rfl⟩
      exact ⟨_, rfl, _, rfl, _, _, rfl, rfl, div_ok hd0 hd, _, rfl, _, rfl, _, _, rfl, rfl, div_ok hd0 hd, (by show 2 ≤ sizeLine; decide), k⟩
theorem F_low (T : GG K mg) : FnI P w K mg base "_law_low" 1 ["_law_up", "_law_down"] spLow :=
  ⟨T.a_low, T.fd_low, ok_low T, T.m_low, T.F_low.kp, T.F_low.binds fun _ _ _ _ _ _ us hl => match us, hl with | [_, _], _ => rfl⟩
abbrev N_is : List Str := ["_law_actual", "_law_pair"]
theorem sc_is : FnScope N_is ["_law_actual", "_law_pair"] (defScope s_is) := ⟨rfl, rfl, rfl, by decide +kernel, rfl, by decide +kernel, by decide +kernel⟩
theorem ok_is (T : GG K mg) : FnOk P w K mg base (L2.CX P w) 3 T.a_is T.fd_is ["_law_actual", "_law_pair"] (spIs T.c_Ratio) := by
  refine okN T.F_is sc_is (fun vs H Q E h => ?_) (fun cdv A outer s H vs Q E hr h => ?_)
  · obtain ⟨r, t, p, q, rfl, _⟩ := h
    rfl
  · obtain ⟨r, t, p, q, rfl, hr1, ht, k⟩ := h
    refine ⟨_, (pss_cons (ps_if (PW.pt (pw_or (pt_not (pt_val (pe_callB call_isi rfl T.z_isinstance (by decide +kernel) (pa_cons (pv 0) (pa_cons (pe_cls T.g_Ratio) pa_nil))))) (pw_or (pt_not (pt_val (pe_callB call_isi rfl T.z_isinstance (by decide +kernel) (pa_cons (pe_pr (P_top T) hr passL (pv 0)) (pa_cons (pe_bltn (v := .ty "int") rfl T.z_int (by decide +kernel) rfl) pa_nil))))) (pw_or1 (pt_not (pt_val (pe_callB call_isi rfl T.z_isinstance (by decide +kernel) (pa_cons (pe_pr (P_bottom T) hr passL (pv 0)) (pa_cons (pe_bltn (v := .ty "int") rfl T.z_int (by decide +kernel) rfl) pa_nil))))))))) (pss_one (ps_ret pe_bl)) pss_nil)
      (pss_one (ps_ret (pe_cmpR (op_eqD hr.units) (pe_tupN (pa_cons (pe_pr (P_top T) hr passL (pv 0)) (pa_cons (pe_pr (P_bottom T) hr passL (pv 0)) pa_nil))) (pv 1) (nomark _))))), ?_⟩
    obtain ⟨hlow, dx, e⟩ := id hr1
    refine ⟨_, rfl, _, _, _, _, _, rfl, .own _, ty_Ratio T hr1, T.isa_Ratio_Ratio, _, rfl, iteF ?_⟩
    refine ⟨_, rfl, r, dx, _, rfl, e, r, p, q, rfl, hr1, ?_⟩
    refine ⟨.int p, .ty "int", .type "int", .type "int", true, rfl, .ty _, .base (.int _), kit_ty (by decide +kernel), _, rfl, iteF ?_⟩
    refine ⟨_, rfl, r, dx, _, rfl, e, r, p, q, rfl, hr1, ?_⟩
    refine ⟨.int q, .ty "int", .type "int", .type "int", true, rfl, .ty _, .base (.int _), kit_ty (by decide +kernel), _, rfl, iteF ?_⟩
    refine ⟨_, rfl, r, dx, _, rfl, e, r, p, q, rfl, hr1, _, rfl, r, dx, _, rfl, e, r, p, q, rfl, hr1, (by show 2 ≤ sizeLine; decide), fun t' H1 n1 => ?_⟩
    refine ⟨_, rfl, _, _, .tup (SqT.of n1.at) (.cons (.int p) (.cons (.int q) .nil)), .tup (SqT.of (n1.same _ _ ht)) (.cons (.int p) (.cons (.int q) .nil)), shaped_pair p q, shaped_pair p q, ?_⟩
    rw [eqv_pair]
    exact k H1 n1.same
theorem F_is (T : GG K mg) : FnI P w K mg base "_law_is" 3 ["_law_actual", "_law_pair"] (spIs T.c_Ratio) :=
  ⟨T.a_is, T.fd_is, ok_is T, T.m_is, T.F_is.kp, T.F_is.binds fun _ _ _ _ _ _ us hl => match us, hl with | [_, _], _ => rfl⟩
end
end Xl

namespace Xl
open PySem PySem.Spec PyProof.Rows L2
/-! ### least, greatest -/
def Nums (C : Addr) (H : Hp) (vs : List V) (ps : List (Int × Int)) : Prop := vs.length = ps.length ∧ ∀ (i : Nat) (v : V), vs[i]? = some v → ∃ p q, ps[i]? = some (p, q) ∧ Num C H v p q
theorem Nums.same {C : Addr} {H H' : Hp} {vs : List V} {ps : List (Int × Int)} (h : Nums C H vs ps) (s : Same H H') : Nums C H' vs ps := ⟨h.1, fun i v e => let ⟨p, q, e2, n⟩ := h.2 i v e; ⟨p, q, e2, n.same s⟩⟩
def Sized (n : Nat) (ps : List (Int × Int)) : Prop := ∀ x ∈ ps, Bd n x.1 ∧ Bd n x.2
def IsMin (ps : List (Int × Int)) (p q : Int) : Prop := (p, q) ∈ ps ∧ ∀ x ∈ ps, p * x.2 ≤ x.1 * q
def IsMax (ps : List (Int × Int)) (p q : Int) : Prop := (p, q) ∈ ps ∧ ∀ x ∈ ps, x.1 * q ≤ p * x.2
theorem frac_trans {p q p' q' s r : Int} (hq : 0 < q) (hr : 0 ≤ r) (hq' : 0 ≤ q') (h1 : p' * q ≤ p * q') (h2 : p * r ≤ s * q) : p' * r ≤ s * q' := by
  have a1 : p' * q * r ≤ p * q' * r := Int.mul_le_mul_of_nonneg_right h1 hr
  have a2 : p * r * q' ≤ s * q * q' := Int.mul_le_mul_of_nonneg_right h2 hq'
  have e1 : p' * q * r = p' * r * q := by rw [Int.mul_assoc, Int.mul_comm q r, ← Int.mul_assoc]
  have e2 : p * q' * r = p * r * q' := by rw [Int.mul_assoc, Int.mul_comm q' r, ← Int.mul_assoc]
  have e3 : s * q * q' = s * q' * q := by rw [Int.mul_assoc, Int.mul_comm q q', ← Int.mul_assoc]
  rw [e1, e2] at a1
  rw [e3] at a2
  exact Int.le_of_mul_le_mul_right (Int.le_trans a1 a2) hq
def spLeast (K : PySem.W.Frag) (C CB : Addr) : Sp := fun args H Q E => ∃ a vs ps, args = [.ref a] ∧ SeqV K H a vs ∧ Nums C H vs ps ∧ Sized 4000 ps ∧
  ((ps ≠ [] ∧ ∀ r H' p q, Same H H' → IsMin ps p q → RatO C H' r p q → Q (.ref r) H') ∨ (ps = [] ∧ ∀ d H', Same H H' → H d = none → H' d = some (.xd [("count", .int 0)]) → E (.ref CB) (some d) H'))
def spGreatest (K : PySem.W.Frag) (C CB : Addr) : Sp := fun args H Q E => ∃ a vs ps, args = [.ref a] ∧ SeqV K H a vs ∧ Nums C H vs ps ∧ Sized 4000 ps ∧ vs.length ≤ 1000 ∧
  ((ps ≠ [] ∧ ∀ r H' p q, Same H H' → IsMax ps p q → RatO C H' r p q → Q (.ref r) H') ∨ (ps = [] ∧ ∀ d H', Same H H' → H d = none → H' d = some (.xd [("count", .int 0)]) → E (.ref CB) (some d) H'))
theorem Num.pos {C : Addr} {H : Hp} {v : V} {p q : Int} (h : Num C H v p q) : 0 < q := h.low.pos
section
variable {P : Program} {w : World} {K : PySem.W.Frag} {mg : Str → Option Value} {base : Heap}
abbrev N_least : List Str := ["values", "found", "value"]
theorem sc_least : FnScope N_least ["values"] (defScope s_least) := ⟨rfl, rfl, rfl, by decide +kernel, rfl, by decide +kernel, by decide +kernel⟩
theorem ok_least (T : GG K mg) : FnOk P w K mg base (L2.CX P w) 7 T.a_least T.fd_least ["values"] (spLeast K T.c_Ratio T.c_BadCount) := by
  refine T.F_least.okX sc_least (fun vs H Q E h => ?_) (fun cdv A outer s H vs Q E hr h => ?_)
  · obtain ⟨a, vs, ps, rfl, _⟩ := h
    rfl
  · obtain ⟨a, vs, ps, rfl, hsq, hn, hz, k⟩ := h
    refine ⟨_, (pss_cons (ps_if (pt_cmpR op_eq (pe_callB call_len_seq rfl T.z_len PySem.boot_len (pa_cons (pv 0) pa_nil)) pe_int (nomark _)) (pss_one (ps_rx (X_BadCount T) (by decide) (hr.mono (by decide)) rfl (takes_of rfl rfl rfl rfl) (pa_cons pe_int pa_nil))) pss_nil)
      (pss_cons (ps_set (i := 1) sc_least.nd rfl (Or.inl rfl) (pe_f (F_as_ratio T) (hr.mono (by decide)) passL (pa_cons (pe_ix ix_seq (pv 0) pe_int (fun _ _ => rfl)) pa_nil)))
      (pss_cons (ps_for (passes_of rfl) rfl (pi_seqV (pv 0)) (pg_name (i := 2) sc_least.nd rfl (Or.inl rfl))
        (pss_one (ps_if (pt_truth (pe_mt (M_below T) (hr.mono (by decide)) passL (pe_f (F_as_ratio T) (hr.mono (by decide)) passL (pa_cons (pv 2) pa_nil)) (pa_cons (pv 1) pa_nil)) (by intro _; rfl)) (pss_one (ps_set (i := 1) sc_least.nd rfl (Or.inl rfl) (pe_f (F_as_ratio T) (hr.mono (by decide)) passL (pa_cons (pv 2) pa_nil)))) pss_nil)))
      (pss_one (ps_ret (pv 1)))))), ?_⟩
    refine ⟨_, rfl, a, vs, rfl, hsq, rfl, _, rfl, iteB (fun h0 => ?_) (fun h0 => ?_)⟩
    · have h0' := V.int.inj (of_decide_eq_true h0)
      have e0 : ps = [] := List.length_eq_zero_iff.mp (by have := hn.1; omega)
      rcases k with ⟨hne, _⟩ | ⟨_, k⟩
      · exact absurd e0 hne
      · exact ⟨rfl, fun d H' hs hd hd' => k d H' hs hd hd'⟩
    · have h0' : vs.length ≠ 0 := fun z => by
        have := of_decide_eq_false h0
        rw [z] at this
        exact this rfl
      rcases k with ⟨hne, k⟩ | ⟨e0, _⟩
      · obtain ⟨v0, ev0⟩ : ∃ v0, vs[0]? = some v0 := ⟨vs[0], List.getElem?_eq_getElem (by omega)⟩
        obtain ⟨p0, q0, ep0, n0⟩ := hn.2 0 v0 ev0
        refine ⟨_, rfl, a, vs, 0, v0, rfl, rfl, hsq, atI_nat (j := 0) ev0, v0, p0, q0, rfl, n0, fun r0 H1 s1 _ ho0 => ?_⟩
        refine ⟨a, vs, rfl, hsq.same s1, fun J S hS w => for_it w (fun i σ H2 => Same H1 H2 ∧ ∃ r p q ov, σ = [some (.ref a), some (.ref r), ov] ∧ RatO T.c_Ratio H2 r p q ∧ (p, q) ∈ ps ∧ ∀ (j : Nat) (x : Int × Int), j < i → ps[j]? = some x → p * x.2 ≤ x.1 * q) ?_ (fun i σ H2 _ hp => hS H2 hp.1) ?_ ?_⟩
        · exact ⟨Same.refl _, r0, p0, q0, _, rfl, ho0, List.mem_of_getElem? ep0, fun j x hj => absurd hj (Nat.not_lt_zero _)⟩
        · rintro i v σ H2 H3 hi ⟨s2, r, p, q, ov, rfl, ho, hmem, hall⟩ ⟨rfl, hv⟩
          obtain ⟨p', q', ep', n'⟩ := hn.2 i v hv
          have n2 := n'.same (s1.trans s2)
          have hm' : (p', q') ∈ ps := List.mem_of_getElem? ep'
          refine ⟨_, rfl, v, p', q', rfl, n2, fun r' H4 s4 _ ho' => ?_⟩
          obtain ⟨_, dx, e'⟩ := id ho'
          have ho4 := ho.same s4
          refine ⟨r', dx, _, rfl, e', ratF_no _ _ (by decide +kernel) (by decide +kernel), _, rfl, r', .ref r, p', q', p, q, rfl, ho', .inr ⟨r, rfl, ho4⟩, (hz _ hm').1, (hz _ hm').2, (hz _ hmem).1, (hz _ hmem).2, fun H5 s5 => ⟨_, rfl, iteB (fun hlt => ?_) (fun hge => ?_)⟩⟩
          · have hlt' : p' * q < p * q' := of_decide_eq_true hlt
            refine ⟨_, rfl, v, p', q', rfl, n2.same (s4.trans s5), fun r6 H6 s6 _ ho6 => ⟨s2.trans (s4.trans (s5.trans s6)), r6, p', q', _, rfl, ho6, hm', fun j x hj hx => ?_⟩⟩
            by_cases hji : j = i
            · subst hji
              rw [ep'] at hx
              cases hx
              exact Int.le_refl _
            · have hx2 := hall j x (by omega) hx
              obtain ⟨xv, exv⟩ : ∃ xv, vs[j]? = some xv := ⟨vs[j]'(by omega), List.getElem?_eq_getElem (by omega)⟩
              obtain ⟨a1, a2, a3, a4⟩ := hn.2 j xv exv
              rw [hx] at a3
              cases a3
              exact frac_trans ho.1.pos (by have := a4.pos; omega) (by have := n'.pos; omega) (by omega) hx2
          · have hge' : ¬ p' * q < p * q' := of_decide_eq_false hge
            refine ⟨s2.trans (s4.trans s5), r, p, q, _, rfl, ho4.same s5, hmem, fun j x hj hx => ?_⟩
            by_cases hji : j = i
            · subst hji
              rw [ep'] at hx
              cases hx
              show p * q' ≤ p' * q
              omega
            · exact hall j x (by omega) hx
        · rintro σ H2 ⟨s2, r, p, q, ov, rfl, ho, hmem, hall⟩
          refine ⟨_, rfl, k r H2 p q (s1.trans s2) ⟨hmem, fun x hx => ?_⟩ ho⟩
          obtain ⟨j, hj, ej⟩ := List.mem_iff_getElem.mp hx
          exact hall j x (by rw [hn.1]; exact hj) (by rw [← ej]; exact List.getElem?_eq_getElem hj)
      · exact absurd hn.1 (by rw [e0]; exact h0')
theorem F_least (T : GG K mg) : FnI P w K mg base "least" 7 ["values"] (spLeast K T.c_Ratio T.c_BadCount) :=
  ⟨T.a_least, T.fd_least, ok_least T, T.m_least, T.F_least.kp, T.F_least.binds fun _ _ _ _ _ _ us hl => match us, hl with | [_], _ => rfl⟩
theorem FK_least (T : GG K mg) : FnK P w K mg base "least" 7 ["values"] (spLeast K T.c_Ratio T.c_BadCount) := by
  refine ⟨T.a_least, T.fd_least, ok_least T, T.m_least, T.F_least.kp, ?_⟩
  obtain ⟨oc, od, kV, doc, pm, an, cdv, ct, osl, e, lk, hcd⟩ := T.F_least.ex
  rw [e]
  exact fun s ws hl => match ws, hl with | [_], _ => .of_eq rfl
abbrev N_greatest : List Str := ["values", "value"]
theorem sc_greatest : FnScope N_greatest ["values"] (defScope s_greatest) := ⟨rfl, rfl, rfl, by decide +kernel, rfl, by decide +kernel, by decide +kernel⟩
def ngP (x : Int × Int) : Int × Int := (-x.1, x.2)
theorem ok_greatest (T : GG K mg) : FnOk P w K mg base (L2.CX P w) 8 T.a_greatest T.fd_greatest ["values"] (spGreatest K T.c_Ratio T.c_BadCount) := by
  refine T.F_greatest.okX sc_greatest (fun vs H Q E h => ?_) (fun cdv A outer s H vs Q E hr h => ?_)
  · obtain ⟨a, vs, ps, rfl, _⟩ := h
    rfl
  · obtain ⟨a, vs, ps, rfl, hsq, hn, hz, hvl, k⟩ := h
    refine ⟨_, (pss_one (ps_ret (pe_un (un_own (M_neg T) (hr.mono (by decide)) passL) (pe_f (F_least T) hr (passes_call (takes_of rfl rfl rfl rfl) (fun _ _ _ _ h => h)) (pa_cons (pe_lc (own := [("value", 1)])  rfl sc_greatest.nd (pi_seqV (pv 0)) (blkOk_by (N := N_greatest) (sc := defScope s_greatest) (by decide +kernel)) (fun _ _ _ _ _ => (pg_name (i := 1) sc_greatest.nd rfl (Or.inl rfl))) (fun _ _ _ _ _ => pts_nil) (fun _ _ _ _ _ => (pe_un (un_own (M_neg T) (hr.mono (by decide)) passL) (pe_f (F_as_ratio T) (hr.mono (by decide)) passL (pa_cons (pv 1) pa_nil))))) pa_nil))))), ?_⟩
    refine ⟨a, vs, rfl, hsq, fun J S hS w D hD => lc_it w (fun i H2 => ∃ rs : List Addr, Same H H2 ∧ H2 D = some (.lst (rs.map V.ref)) ∧ rs.length = i ∧ ∀ (j : Nat) (r : Addr) (x : Int × Int), rs[j]? = some r → ps[j]? = some x → RatO T.c_Ratio H2 r (-x.1) x.2) ?_ (fun i H2 _ hp => hp.elim fun _ hp => hS H2 hp.1) ?_ ?_⟩
    · exact ⟨[], (new_of hD).same, upd_same, rfl, fun j r x h => by simp at h⟩
    · rintro i v H2 H3 hi ⟨rs, s2, hD2, hl, hall⟩ ⟨rfl, hv⟩
      obtain ⟨p', q', ep', n'⟩ := hn.2 i v hv
      have hm' : (p', q') ∈ ps := List.mem_of_getElem? ep'
      refine ⟨rfl, _, rfl, v, p', q', rfl, n'.same s2, fun r' H4 s4 _ ho' => ?_⟩
      obtain ⟨_, dx, e'⟩ := id ho'
      refine ⟨r', dx, _, rfl, e', r', p', q', rfl, ho', (hz _ hm').2.mono (by decide), fun r5 H5 s5 _ ho5 => ?_⟩
      have hD5 := s5 _ _ (s4 _ _ hD2)
      have nD : ∀ r p q, RatO T.c_Ratio H5 r p q → RatO T.c_Ratio (upd H5 D (.lst (rs.map V.ref ++ [.ref r5]))) r p q := fun r p q ⟨hl, dx, e⟩ => ⟨hl, dx, by
        rw [upd_ne]
        · exact e
        · intro z
          subst z
          rw [hD5] at e
          cases e⟩
      refine ⟨_, hD5, ?_, rs ++ [r5], ?_, ?_, ?_, fun j r x hr hx => ?_⟩
      · rw [List.length_map]; exact small_szlt (by omega)
      · intro b o eb
        rw [upd_ne (ne_of_none eb hD)]
        exact s5 _ _ (s4 _ _ (s2 _ _ eb))
      · rw [upd_same, List.map_append]; rfl
      · rw [List.length_append, hl]; rfl
      · by_cases hji : j < rs.length
        · rw [List.getElem?_append_left hji] at hr
          exact nD _ _ _ ((hall j r x hr hx).same (s4.trans s5))
        · have hjl : j < (rs ++ [r5]).length := by
            rcases Nat.lt_or_ge j (rs ++ [r5]).length with h | h
            · exact h
            · rw [List.getElem?_eq_none h] at hr; cases hr
          rw [List.length_append, List.length_singleton] at hjl
          have hj : j = i := by omega
          subst hj
          rw [List.getElem?_append_right (by omega), hl, Nat.sub_self] at hr
          rw [ep'] at hx
          cases hr
          cases hx
          exact nD _ _ _ ho5
    · rintro H2 ⟨rs, s2, hD2, hl, hall⟩
      have hlp : rs.length = ps.length := by rw [hl, hn.1]
      have hnum : Nums T.c_Ratio H2 (rs.map V.ref) (ps.map ngP) := by
        refine ⟨by rw [List.length_map, List.length_map, hlp], fun i v hv => ?_⟩
        rw [List.getElem?_map] at hv
        cases er : rs[i]? with
        | none => rw [er] at hv; cases hv
        | some r =>
          rw [er] at hv
          cases hv
          have hi : i < ps.length := by
            rcases Nat.lt_or_ge i rs.length with h | h
            · omega
            · rw [List.getElem?_eq_none h] at er; cases er
          refine ⟨-(ps[i]).1, (ps[i]).2, ?_, .inr ⟨r, rfl, hall i r _ er (List.getElem?_eq_getElem hi)⟩⟩
          rw [List.getElem?_map, List.getElem?_eq_getElem hi]
          rfl
      have hsz : Sized 4000 (ps.map ngP) := fun x hx => by
        obtain ⟨y, hy, rfl⟩ := List.mem_map.mp hx
        exact ⟨(hz y hy).1.neg, (hz y hy).2⟩
      refine ⟨D, _, ps.map ngP, rfl, .inl (SqL.of hD2), hnum, hsz, ?_⟩
      rcases k with ⟨hne, k⟩ | ⟨e0, k⟩
      · refine .inl ⟨by simpa using hne, fun r H3 p q s3 hmin ho => ?_⟩
        obtain ⟨y, hy, ey⟩ := List.mem_map.mp hmin.1
        obtain ⟨_, dx, e⟩ := id ho
        have eq2 : q = y.2 := (congrArg Prod.snd ey).symm
        have ep2 : p = -y.1 := (congrArg Prod.fst ey).symm
        refine ⟨r, dx, _, rfl, e, r, p, q, rfl, ho, by rw [eq2]; exact (hz y hy).2.mono (by decide), fun r' H4 s4 _ ho' => k r' H4 (-p) q (s2.trans (s3.trans s4)) ⟨?_, fun x hx => ?_⟩ ho'⟩
        · rw [ep2, eq2, Int.neg_neg]
          exact hy
        · have := hmin.2 (ngP x) (List.mem_map.mpr ⟨x, hx, rfl⟩)
          have h2 : p * x.2 ≤ -x.1 * q := this
          rw [Int.neg_mul] at h2 ⊢
          omega
      · exact .inr ⟨by rw [e0]; rfl, fun d H' hs hd hd' => k d H' (s2.trans hs) (s2.free hd) hd'⟩
theorem F_greatest (T : GG K mg) : FnI P w K mg base "greatest" 8 ["values"] (spGreatest K T.c_Ratio T.c_BadCount) :=
  ⟨T.a_greatest, T.fd_greatest, ok_greatest T, T.m_greatest, T.F_greatest.kp, T.F_greatest.binds fun _ _ _ _ _ _ us hl => match us, hl with | [_], _ => rfl⟩
theorem FK_greatest (T : GG K mg) : FnK P w K mg base "greatest" 8 ["values"] (spGreatest K T.c_Ratio T.c_BadCount) := by
  refine ⟨T.a_greatest, T.fd_greatest, ok_greatest T, T.m_greatest, T.F_greatest.kp, ?_⟩
  obtain ⟨oc, od, kV, doc, pm, an, cdv, ct, osl, e, lk, hcd⟩ := T.F_greatest.ex
  rw [e]
  exact fun s ws hl => match ws, hl with | [_], _ => .of_eq rfl
end
end Xl

namespace Xl
open PySem PySem.Spec PyProof.Rows L2
def spLess : Sp := fun vs H Q _ => ∃ t u p q p' q', vs = [.ref t, .ref u] ∧ PairO H t p q ∧ PairO H u p' q' ∧ Bd 4000 p ∧ Bd 4000 q ∧ Bd 4000 p' ∧ Bd 4000 q' ∧ Q (.bl (decide (p * q' < p' * q))) H
section
variable {P : Program} {w : World} {K : PySem.W.Frag} {mg : Str → Option Value} {base : Heap}
abbrev N_less : List Str := ["_law_one", "_law_two"]
theorem sc_less : FnScope N_less ["_law_one", "_law_two"] (defScope s_less) := ⟨rfl, rfl, rfl, by decide +kernel, rfl, by decide +kernel, by decide +kernel⟩
theorem ok_less (T : GG K mg) : FnOk P w K mg base (L2.CX P w) 1 T.a_less T.fd_less ["_law_one", "_law_two"] spLess := by
  refine okN T.F_less sc_less (fun vs H Q E h => ?_) (fun cdv A outer s H vs Q E hr h => ?_)
  · obtain ⟨t, u, p, q, p', q', rfl, _⟩ := h
    rfl
  · obtain ⟨t, u, p, q, p', q', rfl, h1, h2, b1, b2, b3, b4, k⟩ := h
    refine ⟨_, (pss_one (ps_ret (pe_cmpR op_lt (pe_op op_mulX (pe_ix ix_tup (pv 0) pe_int (fun _ _ => rfl)) (pe_ix ix_tup (pv 1) pe_int (fun _ _ => rfl))) (pe_op op_mulX (pe_ix ix_tup (pv 1) pe_int (fun _ _ => rfl)) (pe_ix ix_tup (pv 0) pe_int (fun _ _ => rfl))) (nomark _)))), ?_⟩
    refine ⟨_, rfl, t, _, _, _, rfl, rfl, SqT.of h1, rfl, _, rfl, u, _, _, _, rfl, rfl, SqT.of h2, rfl, p, q', rfl, rfl, ⟨4000, 4000, b1, b4, by decide⟩, ?_⟩
    exact ⟨_, rfl, u, _, _, _, rfl, rfl, SqT.of h2, rfl, _, rfl, t, _, _, _, rfl, rfl, SqT.of h1, rfl, p', q, rfl, rfl, ⟨4000, 4000, b3, b2, by decide⟩, _, _, rfl, rfl, k⟩
theorem F_less (T : GG K mg) : FnI P w K mg base "_law_less" 1 ["_law_one", "_law_two"] spLess :=
  ⟨T.a_less, T.fd_less, ok_less T, T.m_less, T.F_less.kp, T.F_less.binds fun _ _ _ _ _ _ us hl => match us, hl with | [_, _], _ => rfl⟩
end
end Xl

namespace Xl
open PySem PySem.Spec PyProof.Rows L2
/-- a number outside of F -/
def NumO (F : Fp) (C : Addr) (H : Hp) (v : V) (p q : Int) : Prop := (v = .int p ∧ q = 1) ∨ ∃ r, v = .ref r ∧ ¬ F r ∧ RatO C H r p q
theorem NumO.num {F : Fp} {C : Addr} {H : Hp} {v : V} {p q : Int} (h : NumO F C H v p q) : Num C H v p q := h.elim .inl fun ⟨r, e, _, h⟩ => .inr ⟨r, e, h⟩
theorem NumO.flat {F : Fp} {C : Addr} {H : Hp} {v : V} {p q : Int} (h : NumO F C H v p q) : Flat v := by
  rcases h with ⟨rfl, _⟩ | ⟨r, rfl, _⟩ <;> exact trivial
theorem NumO.fr {F F' : Fp} {C : Addr} {H H' : Hp} {v : V} {p q : Int} (h : NumO F C H v p q) (f : Fr F H F' H') : NumO F' C H' v p q := by
  rcases h with h | ⟨r, e, nf, hl, dx, ho⟩
  · exact .inl h
  · have := f.out ⟨ho, nf⟩
    exact .inr ⟨r, e, this.2, hl, dx, this.1⟩
theorem n_scale {p q f : Int} (h : Low p q) (hf : 0 < f) : nT (p * f) (q * f) = p ∧ nB (p * f) (q * f) = q := by
  have hq := h.pos
  have h0 : q * f ≠ 0 := Int.ne_of_gt (Int.mul_pos hq hf)
  have := n_congr (t := p * f) (b := q * f) (t' := p) (b' := q) h0 (by omega) (by rw [Int.mul_assoc, Int.mul_comm f q])
  rw [(n_of_low h).1, (n_of_low h).2] at this
  exact this
def spValue (C : Addr) : Sp := fun vs H Q _ => ∃ (F : Fp) (st t : Addr) (n : Nat) (p q : Int), vs = [.ref st, .ref t] ∧ StAt H F st n ∧ n + 2 < 2 ^ 40 ∧ Out F H t (.tup [.int p, .int q]) ∧ Low p q ∧ Bd 2000 p ∧ Bd 2000 q ∧
  ∀ (v : V) (F' : Fp) (H' : Hp), NumO F' C H' v p q → StAt H' F' st (n + 2) → Fr F H F' H' → Q v H'
section
variable {P : Program} {w : World} {K : PySem.W.Frag} {mg : Str → Option Value} {base : Heap}
abbrev N_value : List Str := ["_law_state", "_law_pair", "_law_factor"]
theorem sc_value : FnScope N_value ["_law_state", "_law_pair"] (defScope s_value) := ⟨rfl, rfl, rfl, by decide +kernel, rfl, by decide +kernel, by decide +kernel⟩
theorem ok_value (T : GG K mg) : FnOk P w K mg base (L2.CX P w) 5 T.a_value T.fd_value ["_law_state", "_law_pair"] (spValue T.c_Ratio) := by
  refine okN T.F_value sc_value (fun vs H Q E h => ?_) (fun cdv A outer s H vs Q E hr h => ?_)
  · obtain ⟨F, st, t, n, p, q, rfl, _⟩ := h
    rfl
  · obtain ⟨F, st, t, n, p, q, rfl, s0, hn, ht, hlow, b1, b2, k⟩ := h
    refine ⟨_, (pss_cut (ps_if (PW.pt (pw_and (pt_cmpR op_eq (pe_ix ix_tup (pv 1) pe_int (fun _ _ => rfl)) pe_int (nomark _)) (pw_and1 (pt_cmpR op_eq (pe_f (F_draw T) (hr.mono (by decide)) passL (pa_cons (pv 0) (pa_cons pe_int pa_nil))) pe_int (nomark _))))) (pss_one (ps_ret (pe_ix ix_tup (pv 1) pe_int (fun _ _ => rfl)))) pss_nil)
      (pss_cons (ps_set (i := 2) sc_value.nd rfl (Or.inl rfl) (pe_op op_add pe_int (pe_f (F_draw T) (hr.mono (by decide)) passL (pa_cons (pv 0) (pa_cons pe_int pa_nil)))))
      (pss_one (ps_ret (pe_mkI (M_Ratio T) (hr.mono (by decide)) T.g_Ratio passL (pa_cons (pe_op op_mulX (pe_ix ix_tup (pv 1) pe_int (fun _ _ => rfl)) (pv 2)) (pa_cons (pe_op op_mulX (pe_ix ix_tup (pv 1) pe_int (fun _ _ => rfl)) (pv 2)) pa_nil))))))), ?_⟩
    refine ⟨fun σ H1 => ∃ F1, StAt H1 F1 st (n + 1) ∧ Fr F H F1 H1 ∧ σ = [some (.ref st), some (.ref t), none], ⟨_, rfl, t, _, _, _, rfl, rfl, SqT.of ht.1, rfl, rfl, _, rfl, iteB (fun h1 => ?_) (fun _ => iteF ⟨F, s0.mono (by omega), Fr.refl F H, rfl⟩)⟩, ?_⟩
    · have hq1 : q = 1 := V.int.inj (of_decide_eq_true h1)
      refine ⟨_, rfl, F, st, n, _, rfl, s0, (by omega), (by decide), (by decide), fun d F1 H1 _ _ s1 f1 => ⟨rfl, _, rfl, iteB (fun _ => ?_) (fun _ => ⟨F1, s1, f1, rfl⟩)⟩⟩
      exact ⟨_, rfl, t, _, _, _, rfl, rfl, SqT.of (f1.out ht).1, rfl, k _ F1 H1 (.inl ⟨rfl, hq1⟩) (s1.mono (by omega)) f1⟩
    rintro σ H1 ⟨F1, s1, f1, rfl⟩
    refine ⟨_, rfl, F1, st, n + 1, _, rfl, s1, (by omega), (by decide), (by decide), fun d F2 H2 h0 h1 s2 f2 => ⟨_, _, rfl, rfl, ?_⟩⟩
    have ht2 := f2.out (f1.out ht)
    have bf : Bd 4 (1 + d) := show (1 + d).natAbs < 2 ^ 4 by omega
    refine ⟨_, rfl, t, _, _, _, rfl, rfl, SqT.of ht2.1, rfl, _, rfl, p, 1 + d, rfl, rfl, ⟨2000, 4, b1, bf, by decide⟩, _, rfl, t, _, _, _, rfl, rfl, SqT.of ht2.1, rfl, _, rfl, q, 1 + d, rfl, rfl, ⟨2000, 4, b2, bf, by decide⟩, _, _, rfl, (b2.mul bf).ex (by decide), .inl ⟨?_, fun r H3 s3 hr3 ho => ?_⟩⟩
    · exact Int.ne_of_gt (Int.mul_pos hlow.pos (by omega))
    · have e := n_scale hlow (f := 1 + d) (by omega)
      rw [e.1, e.2] at ho
      exact k _ F2 H3 (.inr ⟨r, rfl, s2.nf hr3, ho⟩) (s2.same s3) ((f1.trans f2).trans (Fr.same s3))
theorem F_value (T : GG K mg) : FnI P w K mg base "_law_value" 5 ["_law_state", "_law_pair"] (spValue T.c_Ratio) :=
  ⟨T.a_value, T.fd_value, ok_value T, T.m_value, T.F_value.kp, T.F_value.binds fun _ _ _ _ _ _ us hl => match us, hl with | [_, _], _ => rfl⟩
end
end Xl

namespace Xl
open PySem PySem.Spec PyProof.Rows L2
def spRefused0 : Sp := fun vs _ Q _ => vs = [] ∧ ∀ H', Q (.bl true) H'
/-- tuples of pairs -/
def PairsH (H : Hp) (ts : List Addr) (ps : List (Int × Int)) : Prop := ts.length = ps.length ∧ ∀ (i : Nat) (t : Addr), ts[i]? = some t → ∃ p q, ps[i]? = some (p, q) ∧ PairO H t p q
theorem PairsH.same {H H' : Hp} {ts : List Addr} {ps : List (Int × Int)} (h : PairsH H ts ps) (s : Same H H') : PairsH H' ts ps := ⟨h.1, fun i t e => let ⟨p, q, e2, n⟩ := h.2 i t e; ⟨p, q, e2, s _ _ n⟩⟩
def spExtreme (K : PySem.W.Frag) : Sp := fun args H Q _ => ∃ L ts ps turn, args = [.ref L, .int turn] ∧ SqL K H L (ts.map V.ref) ∧ PairsH H ts ps ∧ Sized 4000 ps ∧ (∀ x ∈ ps, 0 < x.2) ∧ ps ≠ [] ∧ (turn = 0 ∨ turn = 1) ∧
  ∀ t H' p q, Same H H' → PairO H' t p q → (turn = 0 → IsMin ps p q) → (turn = 1 → IsMax ps p q) → Q (.ref t) H'
def spRight (K : PySem.W.Frag) (C : Addr) : Sp := fun args H Q _ => ∃ a vs ps' L ts ps, args = [.ref a, .ref L] ∧ SeqV K H a vs ∧ Nums C H vs ps' ∧ vs.length ≤ 1000 ∧ SqL K H L (ts.map V.ref) ∧ PairsH H ts ps ∧ Sized 4000 ps ∧ (∀ x ∈ ps, Low x.1 x.2) ∧ (∀ x, x ∈ ps' ↔ x ∈ ps) ∧ ps ≠ [] ∧
  ∀ H', Same H H' → Q (.bl true) H'
theorem min_uniq {ps ps' : List (Int × Int)} {p q p' q' : Int} (hl : ∀ x ∈ ps, Low x.1 x.2) (hm : ∀ x, x ∈ ps' ↔ x ∈ ps) (h : IsMin ps p q) (h' : IsMin ps' p' q') : p' = p ∧ q' = q := by
  have h1 := (hm _).mp h'.1
  have a := h.2 _ h1
  have b := h'.2 _ ((hm _).mpr h.1)
  exact low_uniq (hl _ h1) (hl _ h.1) (Int.le_antisymm b a)
theorem max_uniq {ps ps' : List (Int × Int)} {p q p' q' : Int} (hl : ∀ x ∈ ps, Low x.1 x.2) (hm : ∀ x, x ∈ ps' ↔ x ∈ ps) (h : IsMax ps p q) (h' : IsMax ps' p' q') : p' = p ∧ q' = q := by
  have h1 := (hm _).mp h'.1
  have a := h.2 _ h1
  have b := h'.2 _ ((hm _).mpr h.1)
  exact low_uniq (hl _ h1) (hl _ h.1) (Int.le_antisymm a b)
section
variable {P : Program} {w : World} {K : PySem.W.Frag} {mg : Str → Option Value} {base : Heap}
abbrev N_extreme : List Str := ["_law_pairs", "_law_turn", "_law_found", "_law_pair"]
theorem sc_extreme : FnScope N_extreme ["_law_pairs", "_law_turn"] (defScope s_extreme) := ⟨rfl, rfl, rfl, by decide +kernel, rfl, by decide +kernel, by decide +kernel⟩
theorem ok_extreme (T : GG K mg) : FnOk P w K mg base (L2.CX P w) 2 T.a_extreme T.fd_extreme ["_law_pairs", "_law_turn"] (spExtreme K) := by
  refine okN T.F_extreme sc_extreme (fun vs H Q E h => ?_) (fun cdv A outer s H vs Q E hr h => ?_)
  · obtain ⟨L, ts, ps, turn, rfl, _⟩ := h
    rfl
  · obtain ⟨L, ts, ps, turn, rfl, hL, hp, hz, hpos, hne, hturn, k⟩ := h
    refine ⟨_, (pss_cons (ps_set (i := 2) sc_extreme.nd rfl (Or.inl rfl) (pe_ix ix_list (pv 0) pe_int (fun _ _ => rfl)))
      (pss_cons (ps_for PassesOwn.never rfl (pi_list (pv 0)) (pg_name (i := 3) sc_extreme.nd rfl (Or.inl rfl))
        (pss_one (ps_if (pt_truth (pe_f (F_less T) (hr.mono (by decide)) passL (pa_cons (pe_ix ix_list (pe_lstN (pa_cons (pv 3) (pa_cons (pv 2) pa_nil))) (pv 1) (fun _ _ => rfl)) (pa_cons (pe_ix ix_list (pe_lstN (pa_cons (pv 2) (pa_cons (pv 3) pa_nil))) (pv 1) (fun _ _ => rfl)) pa_nil))) (by intro _; rfl)) (pss_one (ps_set (i := 2) sc_extreme.nd rfl (Or.inl rfl) (pv 3))) pss_nil)))
      (pss_one (ps_ret (pv 2))))), ?_⟩
    have hlen := hp.1
    have hp0 : 0 < ps.length := List.length_pos_iff.mpr hne
    obtain ⟨t0, et0⟩ : ∃ t0, ts[0]? = some t0 := ⟨ts[0]'(by omega), List.getElem?_eq_getElem (by omega)⟩
    obtain ⟨p0, q0, ep0, hq0⟩ := hp.2 0 t0 et0
    have sz2 : 2 ≤ sizeLine := by decide
    refine ⟨_, rfl, L, _, 0, .ref t0, rfl, rfl, hL, atI_nat (j := 0) (by rw [List.getElem?_map, et0]; rfl), ?_⟩
    refine ⟨_, rfl, L, rfl, ⟨_, hL⟩, for_it (walk_list (xs := ts.map V.ref)) (fun i σ H2 => Same H H2 ∧ ∃ t p q ov, σ = [some (.ref L), some (.int turn), some (.ref t), ov] ∧ PairO H2 t p q ∧ (p, q) ∈ ps ∧ (turn = 0 → ∀ (j : Nat) (x : Int × Int), j < i → ps[j]? = some x → p * x.2 ≤ x.1 * q) ∧ (turn = 1 → ∀ (j : Nat) (x : Int × Int), j < i → ps[j]? = some x → x.1 * q ≤ p * x.2)) ?_ (fun i σ H2 _ hp => sqL_same hL hp.1) ?_ ?_⟩
    · exact ⟨Same.refl _, t0, p0, q0, _, rfl, hq0, List.mem_of_getElem? ep0, fun _ j x hj => absurd hj (Nat.not_lt_zero _), fun _ j x hj => absurd hj (Nat.not_lt_zero _)⟩
    · rintro i v σ H2 H3 hi ⟨s2, t, p, q, ov, rfl, ht, hmem, hall0, hall1⟩ ⟨rfl, hv⟩
      rw [List.getElem?_map] at hv
      cases et : ts[i]? with
      | none => rw [et] at hv; cases hv
      | some t' =>
        rw [et] at hv
        cases hv
        obtain ⟨p', q', ep', hq'⟩ := hp.2 i t' et
        have hm' : (p', q') ∈ ps := List.mem_of_getElem? ep'
        have hq2 := s2 _ _ hq'
        refine ⟨_, rfl, _, rfl, sz2, fun l1 H4 n4 => ⟨_, rfl, ?_⟩⟩
        rcases hturn with rfl | rfl
        · refine ⟨l1, _, 0, .ref t', rfl, rfl, SqL.of n4.at, rfl, _, rfl, _, rfl, sz2, fun l2 H5 n5 => ⟨_, rfl, l2, _, 0, .ref t, rfl, rfl, SqL.of n5.at, rfl, ?_⟩⟩
          have sm := n4.same.trans n5.same
          refine ⟨t', t, p', q', p, q, rfl, sm _ _ hq2, sm _ _ ht, (hz _ hm').1, (hz _ hm').2, (hz _ hmem).1, (hz _ hmem).2, _, rfl, iteB (fun hlt => ?_) (fun hge => ?_)⟩
          · have hlt' : p' * q < p * q' := of_decide_eq_true hlt
            refine ⟨_, rfl, s2.trans sm, t', p', q', _, rfl, sm _ _ hq2, hm', fun _ j x hj hx => ?_, fun z => by cases z⟩
            by_cases hji : j = i
            · subst hji
              rw [ep'] at hx
              cases hx
              exact Int.le_refl _
            · have hx0 := hpos x (List.mem_of_getElem? hx)
              have hp1 := hpos _ hmem
              have hp2 := hpos _ hm'
              exact frac_trans hp1 (Int.le_of_lt hx0) (Int.le_of_lt hp2) (Int.le_of_lt hlt') (hall0 rfl j x (by omega) hx)
          · have hge' : ¬ p' * q < p * q' := of_decide_eq_false hge
            refine ⟨s2.trans sm, t, p, q, _, rfl, sm _ _ ht, hmem, fun _ j x hj hx => ?_, fun z => by cases z⟩
            by_cases hji : j = i
            · subst hji
              rw [ep'] at hx
              cases hx
              show p * q' ≤ p' * q
              omega
            · exact hall0 rfl j x (by omega) hx
        · refine ⟨l1, _, 1, .ref t, rfl, rfl, SqL.of n4.at, rfl, _, rfl, _, rfl, sz2, fun l2 H5 n5 => ⟨_, rfl, l2, _, 1, .ref t', rfl, rfl, SqL.of n5.at, rfl, ?_⟩⟩
          have sm := n4.same.trans n5.same
          refine ⟨t, t', p, q, p', q', rfl, sm _ _ ht, sm _ _ hq2, (hz _ hmem).1, (hz _ hmem).2, (hz _ hm').1, (hz _ hm').2, _, rfl, iteB (fun hlt => ?_) (fun hge => ?_)⟩
          · have hlt' : p * q' < p' * q := of_decide_eq_true hlt
            refine ⟨_, rfl, s2.trans sm, t', p', q', _, rfl, sm _ _ hq2, hm', (fun z => by cases z), fun _ j x hj hx => ?_⟩
            by_cases hji : j = i
            · subst hji
              rw [ep'] at hx
              cases hx
              exact Int.le_refl _
            · have hx0 := hpos x (List.mem_of_getElem? hx)
              have hp1 := hpos _ hmem
              have hp2 := hpos _ hm'
              exact frac_trans hp1 (Int.le_of_lt hp2) (Int.le_of_lt hx0) (hall1 rfl j x (by omega) hx) (Int.le_of_lt hlt')
          · have hge' : ¬ p * q' < p' * q := of_decide_eq_false hge
            refine ⟨s2.trans sm, t, p, q, _, rfl, sm _ _ ht, hmem, (fun z => by cases z), fun _ j x hj hx => ?_⟩
            by_cases hji : j = i
            · subst hji
              rw [ep'] at hx
              cases hx
              show p' * q ≤ p * q'
              omega
            · exact hall1 rfl j x (by omega) hx
    · rintro σ H2 ⟨s2, t, p, q, ov, rfl, ht, hmem, hall0, hall1⟩
      rw [List.length_map, hlen] at hall0 hall1
      refine ⟨_, rfl, k t H2 p q s2 ht (fun z => ⟨hmem, fun x hx => ?_⟩) (fun z => ⟨hmem, fun x hx => ?_⟩)⟩
      · obtain ⟨j, hj, ej⟩ := List.mem_iff_getElem.mp hx
        exact hall0 z j x hj (by rw [← ej]; exact List.getElem?_eq_getElem hj)
      · obtain ⟨j, hj, ej⟩ := List.mem_iff_getElem.mp hx
        exact hall1 z j x hj (by rw [← ej]; exact List.getElem?_eq_getElem hj)
theorem F_extreme (T : GG K mg) : FnI P w K mg base "_law_extreme" 2 ["_law_pairs", "_law_turn"] (spExtreme K) :=
  ⟨T.a_extreme, T.fd_extreme, ok_extreme T, T.m_extreme, T.F_extreme.kp, T.F_extreme.binds fun _ _ _ _ _ _ us hl => match us, hl with | [_, _], _ => rfl⟩
abbrev N_right : List Str := ["_law_given", "_law_pairs"]
theorem sc_right : FnScope N_right ["_law_given", "_law_pairs"] (defScope s_right) := ⟨rfl, rfl, rfl, by decide +kernel, rfl, by decide +kernel, by decide +kernel⟩
theorem ok_right (T : GG K mg) : FnOk P w K mg base (L2.CX P w) 9 T.a_right T.fd_right ["_law_given", "_law_pairs"] (spRight K T.c_Ratio) := by
  refine okN T.F_right sc_right (fun vs H Q E h => ?_) (fun cdv A outer s H vs Q E hr h => ?_)
  · obtain ⟨a, vs, ps', L, ts, ps, rfl, _⟩ := h
    rfl
  · obtain ⟨a, vs, ps', L, ts, ps, rfl, hsq, hn, hvl, hL, hp, hz, hlow, hm, hne, k⟩ := h
    refine ⟨_, (pss_cons (ps_if (PW.pt (pw_or (pt_not (pt_truth (pe_f (F_is T) (hr.mono (by decide)) passL (pa_cons (pe_f (F_least T) (hr.mono (by decide)) passL (pa_cons (pv 0) pa_nil)) (pa_cons (pe_f (F_extreme T) (hr.mono (by decide)) passL (pa_cons (pv 1) (pa_cons pe_int pa_nil))) pa_nil))) (by intro _; rfl))) (pw_or1 (pt_not (pt_truth (pe_f (F_is T) (hr.mono (by decide)) passL (pa_cons (pe_fK (FK_least T) (hr.mono (by decide)) passL (pk_cons (pv 0) pk_nil)) (pa_cons (pe_f (F_extreme T) (hr.mono (by decide)) passL (pa_cons (pv 1) (pa_cons pe_int pa_nil))) pa_nil))) (by intro _; rfl)))))) (pss_one (ps_ret pe_bl)) pss_nil)
      (pss_one (ps_ret (pe_and (pe_f (F_is T) (hr.mono (by decide)) passL (pa_cons (pe_f (F_greatest T) (hr.mono (by decide)) passL (pa_cons (pv 0) pa_nil)) (pa_cons (pe_f (F_extreme T) (hr.mono (by decide)) passL (pa_cons (pv 1) (pa_cons pe_int pa_nil))) pa_nil))) (pe_one (pe_f (F_is T) (hr.mono (by decide)) passL (pa_cons (pe_f (F_greatest T) (hr.mono (by decide)) passL (pa_cons (pv 0) pa_nil)) (pa_cons (pe_f (F_extreme T) (hr.mono (by decide)) passL (pa_cons (pv 1) (pa_cons pe_int pa_nil))) pa_nil)))))))), ?_⟩
    have hz' : Sized 4000 ps' := fun x hx => hz x ((hm x).mp hx)
    have hne' : ps' ≠ [] := by
      obtain ⟨x, hx⟩ := List.exists_mem_of_ne_nil ps hne
      exact List.ne_nil_of_mem ((hm x).mpr hx)
    have hpos : ∀ x ∈ ps, 0 < x.2 := fun x hx => (hlow x hx).pos
    refine ⟨_, rfl, a, vs, ps', rfl, hsq, hn, hz', .inl ⟨hne', fun r1 H1 p1 q1 s1 m1 o1 => ⟨_, rfl, L, ts, ps, 0, rfl, sqL_same hL s1, hp.same s1, hz, hpos, hne, .inl rfl, fun t2 H2 p2 q2 s2 ht2 m2 _ => ?_⟩⟩⟩
    obtain ⟨rfl, rfl⟩ := min_uniq hlow hm (m2 rfl) m1
    refine ⟨r1, t2, p1, q1, rfl, o1.same s2, ht2, fun H3 s3 => ⟨_, rfl, iteF ?_⟩⟩
    have s03 := s1.trans (s2.trans s3)
    refine ⟨_, rfl, rfl, a, vs, ps', rfl, hsq.same s03, hn.same s03, hz', .inl ⟨hne', fun r4 H4 p4 q4 s4 m4 o4 => ⟨_, rfl, L, ts, ps, 0, rfl, sqL_same hL (s03.trans s4), hp.same (s03.trans s4), hz, hpos, hne, .inl rfl, fun t5 H5 p5 q5 s5 ht5 m5 _ => ?_⟩⟩⟩
    obtain ⟨rfl, rfl⟩ := min_uniq hlow hm (m5 rfl) m4
    refine ⟨r4, t5, p4, q4, rfl, o4.same s5, ht5, fun H6 s6 => ⟨_, rfl, iteF ?_⟩⟩
    have s06 := s03.trans (s4.trans (s5.trans s6))
    refine ⟨_, rfl, a, vs, ps', rfl, hsq.same s06, hn.same s06, hz', hvl, .inl ⟨hne', fun r7 H7 p7 q7 s7 m7 o7 => ⟨_, rfl, L, ts, ps, 1, rfl, sqL_same hL (s06.trans s7), hp.same (s06.trans s7), hz, hpos, hne, .inr rfl, fun t8 H8 p8 q8 s8 ht8 _ m8 => ?_⟩⟩⟩
    obtain ⟨rfl, rfl⟩ := max_uniq hlow hm (m8 rfl) m7
    refine ⟨r7, t8, p7, q7, rfl, o7.same s8, ht8, fun H9 s9 => ⟨_, rfl, iteT ?_⟩⟩
    have s09 := s06.trans (s7.trans (s8.trans s9))
    refine ⟨_, rfl, a, vs, ps', rfl, hsq.same s09, hn.same s09, hz', hvl, .inl ⟨hne', fun r7 H7 p7 q7 s7 m7 o7 => ⟨_, rfl, L, ts, ps, 1, rfl, sqL_same hL (s09.trans s7), hp.same (s09.trans s7), hz, hpos, hne, .inr rfl, fun t8 H8 p8 q8 s8 ht8 _ m8 => ?_⟩⟩⟩
    obtain ⟨rfl, rfl⟩ := max_uniq hlow hm (m8 rfl) m7
    exact ⟨r7, t8, p7, q7, rfl, o7.same s8, ht8, fun H9 s9 => k H9 (s09.trans (s7.trans (s8.trans s9)))⟩
theorem F_right (T : GG K mg) : FnI P w K mg base "_law_right" 9 ["_law_given", "_law_pairs"] (spRight K T.c_Ratio) :=
  ⟨T.a_right, T.fd_right, ok_right T, T.m_right, T.F_right.kp, T.F_right.binds fun _ _ _ _ _ _ us hl => match us, hl with | [_, _], _ => rfl⟩
abbrev N_refused : List Str := ["_law_count", "_law_given", "e"]
theorem sc_refused : FnScope N_refused [] (defScope s_refused) := ⟨rfl, rfl, rfl, by decide +kernel, rfl, by decide +kernel, by decide +kernel⟩
theorem ok_refused (T : GG K mg) : FnOk P w K mg base (L2.CX P w) 9 T.a_refused T.fd_refused [] spRefused0 := by
  refine okN T.F_refused sc_refused (fun vs H Q E h => ?_) (fun cdv A outer s H vs Q E hr h => ?_)
  · obtain ⟨rfl, _⟩ := h
    rfl
  · obtain ⟨rfl, k⟩ := h
    refine ⟨_, (pss_cons (ps_set (i := 0) sc_refused.nd rfl (Or.inl rfl) pe_int)
      (pss_cons (ps_for PassesOwn.never rfl (pi_list (pe_lstN (pa_cons (pe_lstN pa_nil) (pa_cons (pe_tupN pa_nil) pa_nil)))) (pg_name (i := 1) sc_refused.nd rfl (Or.inl rfl))
        (pss_cons (ps_try_as (i := 2) rfl rfl sc_refused.nd rfl rfl ⟨rfl, by decide, .inl T.g_BadCount⟩ takes0
          (fun W pn xe tk po => (pss_one (ps_expr (pe_fS (F_least T) (hr.mono (by decide)) tk (pa_cons (pv 1) pa_nil)))))
          (fun a oe cls d pn hz hf => (pss_one (ps_set (i := 0) sc_refused.nd rfl (Or.inl rfl) (pe_op op_add (pv 0) (pe_callTy call_int1 rfl T.z_int (by decide +kernel) (pa_cons (pe_and (pe_cmpR op_eq (pe_xf T.xf_BadCount T.no_BadCount_count hz hf (pv 2)) pe_int (nomark _)) (pe_one (pe_callB (call_isX T.xf_BadCount ⟨T.ty_BadCount.1, T.ty_BadCount.2.1, T.ty_BadCount.2.2.1, T.ty_BadCount.2.2.2⟩ hz hf) rfl T.z_isinstance (by decide +kernel) (pa_cons (pv 2) (pa_cons (pe_cls T.g_ExtralinkError) pa_nil))))) pa_nil)))))))
        (pss_one (ps_try_as (i := 2) rfl rfl sc_refused.nd rfl rfl ⟨rfl, by decide, .inl T.g_BadCount⟩ takes0
          (fun W pn xe tk po => (pss_one (ps_expr (pe_fKS (FK_greatest T) (hr.mono (by decide)) tk (pk_cons (pv 1) pk_nil)))))
          (fun a oe cls d pn hz hf => (pss_one (ps_set (i := 0) sc_refused.nd rfl (Or.inl rfl) (pe_op op_add (pv 0) (pe_callTy call_int1 rfl T.z_int (by decide +kernel) (pa_cons (pe_and (pe_cmpR op_eq (pe_xf T.xf_BadCount T.no_BadCount_count hz hf (pv 2)) pe_int (nomark _)) (pe_one (pe_callB (call_isX T.xf_BadCount ⟨T.ty_BadCount.1, T.ty_BadCount.2.1, T.ty_BadCount.2.2.1, T.ty_BadCount.2.2.2⟩ hz hf) rfl T.z_isinstance (by decide +kernel) (pa_cons (pv 2) (pa_cons (pe_cls T.g_ExtralinkError) pa_nil))))) pa_nil))))))))))
      (pss_one (ps_ret (pe_cmpR op_eq (pv 0) pe_int (nomark _)))))), ?_⟩
    have sz0 : 0 ≤ sizeLine := by decide
    have sz2 : 2 ≤ sizeLine := by decide
    refine ⟨sz0, fun l1 H1 n1 => ⟨sz0, fun t2 H2 n2 => ⟨sz2, fun l3 H3 n3 => ?_⟩⟩⟩
    have hl1 := n3.same _ _ (n2.same _ _ n1.at)
    have ht2 := n3.same _ _ n2.at
    refine ⟨l3, rfl, ⟨_, SqL.of n3.at⟩, for_it (walk_list (xs := [.ref l1, .ref t2])) (fun i σ H4 => Same H3 H4 ∧ ∃ gv, σ = [some (.int (2 * (i : Int))), gv, none]) ⟨Same.refl _, _, rfl⟩ (fun i σ H4 _ hp => sqL_same (SqL.of n3.at) hp.1) ?_ ?_⟩
    · rintro i v σ H4 H5 hi ⟨s4, gv, rfl⟩ ⟨rfl, hv⟩
      have hsq : ∃ g, v = .ref g ∧ SeqV K H5 g [] := by
        have hi2 : i = 0 ∨ i = 1 := by
          have : i < 2 := hi
          omega
        rcases hi2 with rfl | rfl
        · cases hv
          exact ⟨l1, rfl, .inl (SqL.of (s4 _ _ hl1))⟩
        · cases hv
          exact ⟨t2, rfl, .inr (SqT.of (s4 _ _ ht2))⟩
      obtain ⟨g, rfl, hsq⟩ := hsq
      have hnums : ∀ H', Nums T.c_Ratio H' [] [] := fun H' => ⟨rfl, fun i v h => by simp at h⟩
      have hsz : Sized 4000 [] := fun x hx => by cases hx
      refine ⟨_, rfl, g, [], [], rfl, hsq, hnums H5, hsz, .inr ⟨rfl, fun d H6 s6 _ hd => ⟨true, T.te_BadCount, fun _ x hx => ?_, fun z => by cases z⟩⟩⟩
      refine ⟨_, rfl, _, rfl, rfl, rfl, d, _, _, rfl, hd, rfl, rfl, _, rfl, iteY (decide_eq_true rfl) ?_⟩
      refine ⟨_, rfl, .ref T.c_ExtralinkError, .ref T.c_ExtralinkError, true, d, _, rfl, rfl, hd, rfl, fun u hu => hu, T.isa_BadCount_ExtralinkError, .inr ⟨true, rfl, _, _, rfl, rfl, ?_⟩⟩
      refine ⟨_, rfl, rfl, g, [], [], rfl, hsq.same s6, hnums H6, hsz, Nat.zero_le _, .inr ⟨rfl, fun d H7 s7 _ hd => ⟨true, T.te_BadCount, fun _ x hx => ?_, fun z => by cases z⟩⟩⟩
      refine ⟨_, rfl, _, rfl, rfl, rfl, d, _, _, rfl, hd, rfl, rfl, _, rfl, iteY (decide_eq_true rfl) ?_⟩
      refine ⟨_, rfl, .ref T.c_ExtralinkError, .ref T.c_ExtralinkError, true, d, _, rfl, rfl, hd, rfl, fun u hu => hu, T.isa_BadCount_ExtralinkError, .inr ⟨true, rfl, _, _, rfl, rfl, ?_⟩⟩
      refine ⟨s4.trans (s6.trans s7), some (.ref g), ?_⟩
      have e : 2 * (i : Int) + (if true = true then 1 else 0) + (if true = true then 1 else 0) = 2 * ((i + 1 : Nat) : Int) := by
        simp
        omega
      exact congrArg (fun z => [some (V.int z), some (V.ref g), none]) e
    · rintro σ H4 ⟨s4, gv, rfl⟩
      refine ⟨_, rfl, rfl, ?_⟩
      exact k H4
theorem F_refused (T : GG K mg) : FnI P w K mg base "_law_refused" 9 [] spRefused0 :=
  ⟨T.a_refused, T.fd_refused, ok_refused T, T.m_refused, T.F_refused.kp, T.F_refused.binds fun _ _ _ _ _ _ us hl => match us, hl with | [], _ => rfl⟩
/-- pairs outside of F -/
def PairsO (F : Fp) (H : Hp) (ts : List Addr) (ps : List (Int × Int)) : Prop := ts.length = ps.length ∧ ∀ (i : Nat) (t : Addr), ts[i]? = some t → ∃ p q, ps[i]? = some (p, q) ∧ Out F H t (.tup [.int p, .int q])
theorem PairsO.fr {F F' : Fp} {H H' : Hp} {ts : List Addr} {ps : List (Int × Int)} (h : PairsO F H ts ps) (f : Fr F H F' H') : PairsO F' H' ts ps := ⟨h.1, fun i t e => let ⟨p, q, e2, n⟩ := h.2 i t e; ⟨p, q, e2, f.out n⟩⟩
theorem PairsO.pairs {F : Fp} {H : Hp} {ts : List Addr} {ps : List (Int × Int)} (h : PairsO F H ts ps) : PairsH H ts ps := ⟨h.1, fun i t e => let ⟨p, q, e2, n⟩ := h.2 i t e; ⟨p, q, e2, n.1⟩⟩
theorem PairsO.upd {F : Fp} {H : Hp} {ts : List Addr} {ps : List (Int × Int)} {L : Addr} {xs : List V} {o : HO} (h : PairsO F H ts ps) (hL : H L = some (.lst xs)) : PairsO F (L2.upd H L o) ts ps := ⟨h.1, fun i t e => let ⟨p, q, e2, n⟩ := h.2 i t e; ⟨p, q, e2, n.upd fun z => by
  have := n.1
  rw [z, hL] at this
  cases this⟩⟩
theorem PairsO.snoc {F : Fp} {H : Hp} {ts : List Addr} {ps : List (Int × Int)} {t : Addr} {p q : Int} (h : PairsO F H ts ps) (ht : Out F H t (.tup [.int p, .int q])) : PairsO F H (ts ++ [t]) (ps ++ [(p, q)]) := by
  refine ⟨by rw [List.length_append, List.length_append, h.1]; rfl, fun i u hu => ?_⟩
  have hi : i < (ts ++ [t]).length := by
    rcases Nat.lt_or_ge i (ts ++ [t]).length with h | h
    · exact h
    · rw [List.getElem?_eq_none h] at hu; cases hu
  rw [List.length_append, List.length_singleton] at hi
  by_cases hlt : i < ts.length
  · rw [List.getElem?_append_left hlt] at hu
    obtain ⟨a, b, e, o⟩ := h.2 i u hu
    exact ⟨a, b, by rw [List.getElem?_append_left (by rw [← h.1]; exact hlt)]; exact e, o⟩
  · have : i = ts.length := by omega
    subst this
    rw [List.getElem?_append_right (Nat.le_refl _), Nat.sub_self] at hu
    cases hu
    exact ⟨p, q, by rw [h.1, List.getElem?_append_right (Nat.le_refl _), Nat.sub_self]; rfl, ht⟩
/-- what is drawn: a pair in lowest terms, not below -m -/
structure Drawn (m : Int) (x : Int × Int) : Prop where
  low : Low x.1 x.2
  sz : Bd 60 x.1 ∧ Bd 60 x.2
  ge : -m * x.2 ≤ x.1
theorem drawn_of {m u b : Int} (hm : 0 < m) (hm2 : m ≤ 10 ^ 15) (h1 : -m ≤ u) (h2 : u ≤ m) (h3 : 1 ≤ b) (h4 : b ≤ 1000) : Drawn m (nT u b, nB u b) := by
  have hb0 : b ≠ 0 := by omega
  have hl := low_n (t := u) hb0
  have bu : Bd 60 u := show u.natAbs < 2 ^ 60 by
    have : (10 : Int) ^ 15 < 2 ^ 60 := by decide
    omega
  have bb : Bd 60 b := show b.natAbs < 2 ^ 60 by omega
  refine ⟨hl, ⟨bu.le (nT_le hb0), bb.le (nB_le hb0)⟩, ?_⟩
  show -m * nB u b ≤ nT u b
  have e := n_cross (t := u) hb0
  have hp := hl.pos
  refine Int.le_of_mul_le_mul_right (a := b) ?_ (by omega)
  rw [e, Int.mul_assoc, Int.mul_comm (nB u b) b, ← Int.mul_assoc]
  refine Int.mul_le_mul_of_nonneg_right ?_ (by omega)
  have : -m * b ≤ -m * 1 := Int.mul_le_mul_of_nonpos_left (by omega) h3
  omega
theorem NumO.upd {F : Fp} {C : Addr} {H : Hp} {v : V} {p q : Int} {L : Addr} {xs : List V} {o : HO} (h : NumO F C H v p q) (hL : H L = some (.lst xs)) : NumO F C (L2.upd H L o) v p q := by
  rcases h with h | ⟨r, e, nf, hl, dx, ho⟩
  · exact .inl h
  · refine .inr ⟨r, e, nf, hl, dx, ?_⟩
    rw [upd_ne]
    · exact ho
    · intro z
      rw [z, hL] at ho
      cases ho
theorem Nums.rev {C : Addr} {H : Hp} {vs : List V} {ps : List (Int × Int)} (h : Nums C H vs ps) : Nums C H vs.reverse ps.reverse := by
  refine ⟨by rw [List.length_reverse, List.length_reverse, h.1], fun i v hv => ?_⟩
  have hi : i < vs.reverse.length := by
    rcases Nat.lt_or_ge i vs.reverse.length with h | h
    · exact h
    · rw [List.getElem?_eq_none h] at hv; cases hv
  rw [List.length_reverse] at hi
  rw [List.getElem?_reverse hi] at hv
  obtain ⟨p, q, e, n⟩ := h.2 _ v hv
  refine ⟨p, q, ?_, n⟩
  rw [List.getElem?_reverse (by rw [← h.1]; exact hi), ← h.1]
  exact e
theorem Nums.snoc {C : Addr} {H : Hp} {vs : List V} {ps : List (Int × Int)} {m : Int} (h : Nums C H vs ps) : Nums C H (vs ++ [.int m]) (ps ++ [(m, 1)]) := by
  refine ⟨by rw [List.length_append, List.length_append, h.1]; rfl, fun i u hu => ?_⟩
  have hi : i < (vs ++ [V.int m]).length := by
    rcases Nat.lt_or_ge i (vs ++ [V.int m]).length with h | h
    · exact h
    · rw [List.getElem?_eq_none h] at hu; cases hu
  rw [List.length_append, List.length_singleton] at hi
  by_cases hlt : i < vs.length
  · rw [List.getElem?_append_left hlt] at hu
    obtain ⟨a, b, e, o⟩ := h.2 i u hu
    exact ⟨a, b, by rw [List.getElem?_append_left (by rw [← h.1]; exact hlt)]; exact e, o⟩
  · have : i = vs.length := by omega
    subst this
    rw [List.getElem?_append_right (Nat.le_refl _), Nat.sub_self] at hu
    cases hu
    exact ⟨m, 1, by rw [h.1, List.getElem?_append_right (Nat.le_refl _), Nat.sub_self]; rfl, .inl ⟨rfl, rfl⟩⟩
theorem same_upd {H H' : Hp} {p : Addr} {o : HO} (s : Same H H') (h : H p = none) : Same H (L2.upd H' p o) := fun b u e => by
  rw [upd_ne (ne_of_none e h)]
  exact s b u e
theorem min_last {m p q : Int} {ps : List (Int × Int)} (hd : ∀ x ∈ ps, Drawn m x) (h : IsMin (ps ++ [(-m - 1, 1)]) p q) : p = -m - 1 ∧ q = 1 := by
  rcases List.mem_append.mp h.1 with hx | hx
  · have d := hd _ hx
    have h2 := h.2 (-m - 1, 1) (List.mem_append.mpr (.inr List.mem_cons_self))
    have h3 : p * 1 ≤ (-m - 1) * q := h2
    have h4 : -m * q ≤ p := d.ge
    have h5 : 0 < q := d.low.pos
    rw [Int.sub_mul, Int.one_mul] at h3
    omega
  · rcases List.mem_cons.mp hx with e | hx
    · cases e
      exact ⟨rfl, rfl⟩
    · cases hx
abbrev N_law : List Str := ["_law_script", "_law_state", "_law_scale", "_law_most", "_law_pairs", "_law_k", "_law_given", "_law_passed", "_law_pair"]
theorem sc_law : FnScope N_law ["_law_script"] (defScope s_law) := ⟨rfl, rfl, rfl, by decide +kernel, rfl, by decide +kernel, by decide +kernel⟩
theorem scaleA {d : Int} (h0 : 0 ≤ d) (h1 : d < 3) : ∃ m : Int, atI ([.int 5, .int 1000, .int (10 ^ 15)] : List V) d = some (.int m) ∧ 0 < m ∧ m ≤ 10 ^ 15 := by
  have : d = 0 ∨ d = 1 ∨ d = 2 := by omega
  rcases this with rfl | rfl | rfl
  · exact ⟨5, rfl, by decide, by decide⟩
  · exact ⟨1000, rfl, by decide, by decide⟩
  · exact ⟨10 ^ 15, rfl, by decide, by decide⟩
theorem scaleB {d : Int} (h0 : 0 ≤ d) (h1 : d < 3) : ∃ m : Int, atI ([.int 1, .int 6, .int 1000] : List V) d = some (.int m) ∧ 0 < m ∧ m ≤ 1000 := by
  have : d = 0 ∨ d = 1 ∨ d = 2 := by omega
  rcases this with rfl | rfl | rfl
  · exact ⟨1, rfl, by decide, by decide⟩
  · exact ⟨6, rfl, by decide, by decide⟩
  · exact ⟨1000, rfl, by decide, by decide⟩
theorem ok_law_of {T : GG K mg} {f : Addr} {fd : FuncData} (F : Fun K "law" "law" s_law f fd) : FnOk P w K mg base (L2.CX P w) 12 f fd ["_law_script"] (spLaw K) := by
  refine okN F sc_law (fun vs H Q E h => ?_) (fun cdv A outer s H vs Q E hr h => ?_)
  · obtain ⟨a, ns, rfl, _⟩ := h
    rfl
  · obtain ⟨a, ns, rfl, hS, hl, k⟩ := h
    refine ⟨_, (pss_cons (ps_set (i := 1) sc_law.nd rfl (Or.inr rfl) (pe_f (F_start T) (hr.mono (by decide)) passL (pa_cons (pv 0) pa_nil)))
      (pss_cons (ps_set (i := 2) sc_law.nd rfl (Or.inl rfl) (pe_ix ix_list (pe_lstN (pa_cons pe_int (pa_cons pe_int (pa_cons (pe_op op_pow pe_int pe_int) pa_nil)))) (pe_f (F_draw T) (hr.mono (by decide)) passL (pa_cons (pv 1) (pa_cons pe_int pa_nil))) (fun _ _ => rfl)))
      (pss_cons (ps_set (i := 3) sc_law.nd rfl (Or.inl rfl) (pe_ix ix_list (pe_lstN (pa_cons pe_int (pa_cons pe_int (pa_cons pe_int pa_nil)))) (pe_f (F_draw T) (hr.mono (by decide)) passL (pa_cons (pv 1) (pa_cons pe_int pa_nil))) (fun _ _ => rfl)))
      (pss_cons (ps_set (i := 4) sc_law.nd rfl (Or.inl rfl) (pe_lstN pa_nil))
      (pss_cut (ps_for PassesOwn.never rfl (pi_range1 rfl T.z_range (pa_cons (pe_f (F_draw T) (hr.mono (by decide)) passL (pa_cons (pv 1) (pa_cons pe_int pa_nil))) pa_nil)) (pg_name (i := 5) sc_law.nd rfl (Or.inl rfl))
        (pss_cons (ps_set (i := 8) sc_law.nd rfl (Or.inl rfl) (pe_f (F_low T) (hr.mono (by decide)) passL (pa_cons (pe_op op_sub (pe_f (F_draw T) (hr.mono (by decide)) passL (pa_cons (pv 1) (pa_cons (pe_op op_add (pe_op op_mul pe_int (pv 2)) pe_int) pa_nil))) (pv 2)) (pa_cons (pe_op op_add pe_int (pe_f (F_draw T) (hr.mono (by decide)) passL (pa_cons (pv 1) (pa_cons (pv 3) pa_nil)))) pa_nil))))
        (pss_cut (ps_if (PW.pt (pw_and (pt_cmpR (op_neNil hr.units) (pv 4) (pe_lstN pa_nil) (nomark _)) (pw_and1 (pt_cmpR op_eq (pe_f (F_draw T) (hr.mono (by decide)) passL (pa_cons (pv 1) (pa_cons pe_int pa_nil))) pe_int (nomark _))))) (pss_one (ps_set (i := 8) sc_law.nd rfl (Or.inl rfl) (pe_ix ix_list (pv 4) (pe_f (F_draw T) (hr.mono (by decide)) passL (pa_cons (pv 1) (pa_cons (pe_callB call_len_seq rfl T.z_len PySem.boot_len (pa_cons (pv 4) pa_nil)) pa_nil))) (fun _ _ => rfl)))) pss_nil)
        (pss_one (ps_expr (pe_bm PySem.F.plainAttrs_list PySem.F.slot_list_append PySem.F.type_list_append mt_append (pv 4) (pa_cons (pv 8) pa_nil)))))))
      (pss_cons (ps_if (pt_cmpR (op_eqNil hr.units) (pv 4) (pe_lstN pa_nil) (nomark _)) (pss_one (ps_ret (pe_f0 (F_refused T) (hr.mono (by decide)) passL))) pss_nil)
      (pss_cons (ps_setLc (i := 6) (own := [("_law_pair", 8)]) rfl sc_law.nd rfl rfl (sw_true rfl rfl rfl (by decide +kernel)) (pi_list (pv 4)) (blkOk_by (N := N_law) (sc := defScope s_law) (by decide +kernel)) (fun _ _ _ _ _ => (pg_name (i := 8) sc_law.nd rfl (Or.inl rfl))) (fun _ _ _ _ _ => pts_nil) (fun _ _ _ _ _ => (pe_f (F_value T) (hr.mono (by decide)) passL (pa_cons (pv 1) (pa_cons (pv 8) pa_nil)))))
      (pss_cons (ps_set (i := 7) sc_law.nd rfl (Or.inl rfl) (pe_callTy call_list_ofN rfl T.z_list (by decide +kernel) (pa_cons (pv 6) pa_nil)))
      (pss_cons (ps_if (PW.pt (pw_or (pt_not (pt_truth (pe_f (F_right T) (hr.mono (by decide)) passL (pa_cons (pv 7) (pa_cons (pv 4) pa_nil))) (by intro _; rfl))) (pw_or (pt_cmpR (op_neSame hr.units) (pv 7) (pv 6) (nomark _)) (pw_or1 (pt_not (pt_truth (pe_f (F_right T) (hr.mono (by decide)) passL (pa_cons (pe_callTy call_tuple_of rfl T.z_tuple (by decide +kernel) (pa_cons (pe_revL (pv 6)) pa_nil)) (pa_cons (pv 4) pa_nil))) (by intro _; rfl))))))) (pss_one (ps_ret pe_bl)) pss_nil)
      (pss_cons (ps_expr (pe_bm PySem.F.plainAttrs_list PySem.F.slot_list_append PySem.F.type_list_append mt_append (pv 7) (pa_cons (pe_op op_sub (pe_un un_neg (pv 2)) pe_int) pa_nil)))
      (pss_one (ps_ret (pe_and (pe_f (F_is T) (hr.mono (by decide)) passL (pa_cons (pe_f (F_least T) (hr.mono (by decide)) passL (pa_cons (pv 7) pa_nil)) (pa_cons (pe_tupN (pa_cons (pe_op op_sub (pe_un un_neg (pv 2)) pe_int) (pa_cons pe_int pa_nil))) pa_nil))) (pe_one (pe_f (F_right T) (hr.mono (by decide)) passL (pa_cons (pv 6) (pa_cons (pv 4) pa_nil))))))))))))))))), ?_⟩
    have sz : ∀ m : Nat, m ≤ 1000 → m ≤ sizeLine := fun m h => small_sz (by omega)
    have big : (10 : Int) ^ 15 * 2 + 1 < 2 ^ 200 := by decide
    refine ⟨_, rfl, a, ns, rfl, hS, hl, fun st F0 H0 s0 _ _ => ?_⟩
    refine ⟨_, _, rfl, rfl, ⟨by decide, by decide, by decide⟩, sz 3 (by decide), fun p1 H1 n1 => ⟨_, rfl, F0, st, 0, _, rfl, n1.sta s0, (by decide), (by decide), (by decide), fun d1 F1 H1' h10 h11 s1 f1 => ?_⟩⟩
    obtain ⟨m, em, hm0, hm1⟩ := scaleA h10 h11
    refine ⟨p1, _, _, _, rfl, rfl, SqL.of (f1.out (n1.out s0)).1, em, ?_⟩
    refine ⟨sz 3 (by decide), fun p2 H2 n2 => ⟨_, rfl, F1, st, 1, _, rfl, n2.sta s1, (by decide), (by decide), (by decide), fun d2 F2 H2' h20 h21 s2 f2 => ?_⟩⟩
    obtain ⟨mo, emo, hmo0, hmo1⟩ := scaleB h20 h21
    refine ⟨p2, _, _, _, rfl, rfl, SqL.of (f2.out (n2.out s1)).1, emo, ?_⟩
    refine ⟨sz 0 (by decide), fun L H3 n3 => ?_⟩
    refine ⟨fun σ H4 => ∃ (F4 : Fp) (n : Nat) (ts : List Addr) (ps : List (Int × Int)) (v5 v8 : Option V), n ≤ 100 ∧ StAt H4 F4 st n ∧ Out F4 H4 L (.lst (ts.map V.ref)) ∧ PairsO F4 H4 ts ps ∧ ts.length ≤ 8 ∧ (∀ x ∈ ps, Drawn m x) ∧ σ = [some (.ref a), some (.ref st), some (.int m), some (.int mo), some (.ref L), v5, none, none, v8], ?_, ?_⟩
    · refine ⟨_, rfl, F2, st, 2, _, rfl, n3.sta s2, (by decide), (by decide), (by decide), fun d4 F4 H4 h40 h41 s4 f4 => ⟨d4, rfl, by omega, by omega, for_it (walk_range (lo := 0) (n := d4.toNat)) (fun i σ H5 => ∃ (F5 : Fp) (ts : List Addr) (ps : List (Int × Int)) (v5 v8 : Option V), StAt H5 F5 st (3 + 4 * i) ∧ Out F5 H5 L (.lst (ts.map V.ref)) ∧ PairsO F5 H5 ts ps ∧ ts.length = i ∧ (∀ x ∈ ps, Drawn m x) ∧ σ = [some (.ref a), some (.ref st), some (.int m), some (.int mo), some (.ref L), v5, none, none, v8]) ?_ (fun _ _ _ _ _ => trivial) ?_ ?_⟩⟩
      · exact ⟨F4, [], [], _, _, s4, f4.out (n3.out s2), ⟨rfl, fun i t h => by simp at h⟩, rfl, (fun x hx => by cases hx), rfl⟩
      · rintro i v σ H5 H5' hi ⟨F5, ts, ps, v5, v8, s5, o5, hp5, hlen, hdr, rfl⟩ ⟨rfl, rfl⟩
        have hi8 : i < 8 := by omega
        refine ⟨_, rfl, _, rfl, _, _, rfl, rfl, .inl (by decide), _, _, rfl, rfl, F5, st, _, _, rfl, s5, (by omega), (by omega), (by omega), fun d6 F6 H6 h60 h61 s6 f6 => ⟨_, rfl, _, _, rfl, rfl, _, rfl, _, rfl, F6, st, _, _, rfl, s6, (by omega), (by omega), (by omega), fun d7 F7 H7 h70 h71 s7 f7 => ⟨_, _, rfl, rfl, d6 - m, 1 + d7, rfl, by omega, ⟨20, by decide, by omega⟩, fun t H8 n8 => ?_⟩⟩⟩
        have hd := drawn_of (m := m) (u := d6 - m) (b := 1 + d7) hm0 hm1 (by omega) (by omega) (by omega) (by omega)
        have f8 := f7.trans (n8.fr (F := F7))
        have o8 := f8.out (f6.out o5)
        have hp8 := (hp5.fr f6).fr f8
        have s8 := n8.sta s7
        refine ⟨fun σ H9 => ∃ (F9 : Fp) (t9 : Addr) (p q : Int), StAt H9 F9 st (3 + 4 * i + 4) ∧ Out F9 H9 L (.lst (ts.map V.ref)) ∧ PairsO F9 H9 ts ps ∧ Out F9 H9 t9 (.tup [.int p, .int q]) ∧ Drawn m (p, q) ∧ σ = [some (.ref a), some (.ref st), some (.int m), some (.int mo), some (.ref L), some (.int (0 + (i : Int))), none, none, some (.ref t9)], ?_, ?_⟩
        · refine ⟨_, rfl, sz 0 (by decide), fun e9 H9 n9 => ⟨L, e9, _, rfl, rfl, n9.same _ _ o8.1, n9.at, _, rfl, iteB (fun hne => ?_) (fun _ => iteF ?_)⟩⟩
          · have hts : 0 < ts.length := by
              cases ts with
              | nil => cases hne
              | cons _ _ => exact Nat.succ_pos _
            have f9 := n9.fr (F := F7)
            refine ⟨_, rfl, F7, st, _, _, rfl, n9.sta s8, (by omega), (by decide), (by decide), fun d10 F10 H10 _ _ s10 f10 => ⟨rfl, _, rfl, iteB (fun _ => ?_) (fun _ => ?_)⟩⟩
            · have o10 := f10.out (f9.out o8)
              have hp10 := (hp8.fr f9).fr f10
              refine ⟨_, rfl, _, rfl, _, rfl, L, _, rfl, .inl (SqL.of o10.1), ?_⟩
              rw [List.length_map]
              refine ⟨F10, st, _, _, rfl, s10, (by omega), (by omega), (by omega), fun d11 F11 H11 h110 h111 s11 f11 => ?_⟩
              obtain ⟨j, v, ej, hj, hv, hat⟩ := at_ex (xs := ts.map V.ref) h110 (by rw [List.length_map]; exact h111)
              rw [List.getElem?_map] at hv
              cases et : ts[j]? with
              | none => rw [et] at hv; cases hv
              | some t' =>
                rw [et] at hv
                cases hv
                have hp11 := hp10.fr f11
                obtain ⟨p', q', ep', ho'⟩ := hp11.2 j t' et
                exact ⟨L, _, _, _, rfl, rfl, SqL.of (f11.out o10).1, hat, F11, t', p', q', s11.mono (by omega), f11.out o10, hp11, ho', hdr _ (List.mem_of_getElem? ep'), rfl⟩
            · exact ⟨F10, t, _, _, s10.mono (by omega), f10.out (f9.out o8), (hp8.fr f9).fr f10, f10.out (f9.out (n8.out s7)), hd, rfl⟩
          · have f9 := n9.fr (F := F7)
            exact ⟨F7, t, _, _, (n9.sta s8).mono (by omega), f9.out o8, hp8.fr f9, f9.out (n8.out s7), hd, rfl⟩
        rintro σ H9 ⟨F9, t9, p, q, s9, o9, hp9, ho9, hd9, rfl⟩
        refine ⟨_, rfl, .inl ⟨rfl, _, SqL.of o9.1⟩, _, rfl, L, _, _, rfl, rfl, o9.1, ?_, ?_⟩
        · rw [List.length_map]; exact small_szlt (by omega)
        · have ho9' : Out F9 (L2.upd H9 L (.lst (ts.map V.ref ++ [.ref t9]))) t9 (.tup [.int p, .int q]) := ho9.upd fun z => by
            have := ho9.1
            rw [z, o9.1] at this
            cases this
          refine ⟨F9, ts ++ [t9], ps ++ [(p, q)], _, _, s9.upd o9.2, ?_, (hp9.upd o9.1).snoc ho9', by rw [List.length_append, hlen]; rfl, fun x hx => ?_, rfl⟩
          · rw [List.map_append]
            exact Out.here o9.2
          · rcases List.mem_append.mp hx with hx | hx
            · exact hdr x hx
            · rcases List.mem_cons.mp hx with rfl | hx
              · exact hd9
              · cases hx
      · rintro σ H5 ⟨F5, ts, ps, v5, v8, s5, o5, hp5, hlen, hdr, rfl⟩
        exact ⟨F5, _, ts, ps, v5, v8, by omega, s5, o5, hp5, by omega, hdr, rfl⟩
    rintro σ H4 ⟨F4, n, ts, ps, v5, v8, hn, s4, o4, hp4, hts8, hdr, rfl⟩
    refine ⟨_, rfl, sz 0 (by decide), fun e5 H5 n5 => ⟨L, e5, _, rfl, rfl, n5.same _ _ o4.1, n5.at, _, rfl, iteB (fun _ => ⟨rfl, k⟩) (fun hne => ?_)⟩⟩
    have hne' : ps ≠ [] := by
      intro z
      have hl0 : ts = [] := List.length_eq_zero_iff.mp (by rw [hp4.1, z]; rfl)
      rw [hl0] at hne
      cases hne
    have f5 := n5.fr (F := F4)
    have s5 := n5.sta s4
    have o5 := f5.out o4
    have hp5 := hp4.fr f5
    refine ⟨_, rfl, L, rfl, ⟨_, SqL.of o5.1⟩, fun D hD => lc_list (K := K) (a := L) (xs := ts.map V.ref) (fun i H6 => ∃ (F6 : Fp) (vs : List V), StAt H6 F6 st (n + 2 * i) ∧ Out F6 H6 L (.lst (ts.map V.ref)) ∧ PairsO F6 H6 ts ps ∧ Out F6 H6 D (.lst vs) ∧ vs.length = i ∧ ∀ (j : Nat) (v : V), vs[j]? = some v → ∃ p q, ps[j]? = some (p, q) ∧ NumO F6 T.c_Ratio H6 v p q) ?_ ?_ ?_ ?_⟩
    · have f6 : Fr F4 H5 F4 (L2.upd H5 D (.lst [])) := Fr.new hD
      exact ⟨F4, [], s5.new hD, f6.out o5, hp5.fr f6, s5.made hD, rfl, fun j v h => by simp at h⟩
    · rintro i H6 _ ⟨F6, vs, _, o6, _⟩
      exact SqL.of o6.1
    · rintro i x H6 hx ⟨F6, vs, s6, o6, hp6, oD, hvl, hnum⟩
      rw [List.getElem?_map] at hx
      cases et : ts[i]? with
      | none => rw [et] at hx; cases hx
      | some t =>
        rw [et] at hx
        cases hx
        have hi : i < ts.length := by
          rcases Nat.lt_or_ge i ts.length with h | h
          · exact h
          · rw [List.getElem?_eq_none h] at et; cases et
        obtain ⟨p, q, ep, ho⟩ := hp6.2 i t et
        have dr := hdr _ (List.mem_of_getElem? ep)
        refine ⟨rfl, _, rfl, _, rfl, F6, st, t, n + 2 * i, p, q, rfl, s6, (by omega), ho, dr.low, dr.sz.1.mono (by decide), dr.sz.2.mono (by decide), fun v F7 H7 hv s7 f7 => ?_⟩
        have oD7 := f7.out oD
        refine ⟨vs, oD7.1, small_szlt (by omega), F7, vs ++ [v], s7.upd oD7.2, (f7.out o6).upd ?_, (hp6.fr f7).upd oD7.1, Out.here oD7.2, by rw [List.length_append, hvl]; rfl, fun j u hu => ?_⟩
        · intro z
          have h1 := o5.1
          rw [z, hD] at h1
          cases h1
        · have hj : j < (vs ++ [v]).length := by
            rcases Nat.lt_or_ge j (vs ++ [v]).length with h | h
            · exact h
            · rw [List.getElem?_eq_none h] at hu; cases hu
          rw [List.length_append, List.length_singleton] at hj
          by_cases hlt : j < vs.length
          · rw [List.getElem?_append_left hlt] at hu
            obtain ⟨p', q', e', n'⟩ := hnum j u hu
            exact ⟨p', q', e', (n'.fr f7).upd oD7.1⟩
          · have : j = i := by omega
            subst this
            rw [List.getElem?_append_right (by omega), hvl, Nat.sub_self] at hu
            cases hu
            exact ⟨p, q, ep, hv.upd oD7.1⟩
    rintro H6 ⟨F6, vs, s6, oL, hp6, oD, hvl, hnum⟩
    rw [List.length_map] at hvl
    have hnums : Nums T.c_Ratio H6 vs ps := ⟨by rw [hvl, hp6.1], fun i v hv => let ⟨p, q, e, h⟩ := hnum i v hv; ⟨p, q, e, h.num⟩⟩
    have hflat : ∀ v ∈ vs, Flat v := fun v hv => by
      obtain ⟨j, hj, ej⟩ := List.mem_iff_getElem.mp hv
      obtain ⟨p, q, _, h⟩ := hnum j v (by rw [← ej]; exact List.getElem?_eq_getElem hj)
      exact h.flat
    have hpr := hp6.pairs
    have hszd : Sized 4000 ps := fun x hx => ⟨(hdr x hx).sz.1.mono (by decide), (hdr x hx).sz.2.mono (by decide)⟩
    have hlow : ∀ x ∈ ps, Low x.1 x.2 := fun x hx => (hdr x hx).low
    refine ⟨_, rfl, D, _, rfl, .inl (SqL.of oD.1), fun Pp H7 n7 => ?_⟩
    refine ⟨_, rfl, _, rfl, Pp, vs, ps, L, ts, ps, rfl, .inl (SqL.of n7.at), hnums.same n7.same, by omega, SqL.of (n7.same _ _ oL.1), hpr.same n7.same, hszd, hlow, fun x => Iff.rfl, hne', fun H8 s8 => ⟨_, rfl, iteF ?_⟩⟩
    have s78 := n7.same.trans s8
    refine ⟨_, rfl, _, rfl, Pp, D, vs, rfl, rfl, SqL.of (s8 _ _ n7.at), SqL.of (s78 _ _ oD.1), hflat, _, rfl, iteF ?_⟩
    refine ⟨_, rfl, D, vs, rfl, SqL.of (s78 _ _ oD.1), fun p9 h9 => ⟨p9, _, rfl, .inl ⟨SqL.of upd_same, fun t10 h10 => ?_⟩⟩⟩
    have n9 := new_of (o := .lst vs.reverse) h9
    generalize L2.upd H8 p9 (.lst vs.reverse) = H9 at n9 h10 ⊢
    have n10 := new_of (o := .tup vs.reverse) h10
    generalize L2.upd H9 t10 (.tup vs.reverse) = H10 at n10 ⊢
    have s610 := s78.trans (n9.same.trans n10.same)
    refine ⟨_, rfl, t10, vs.reverse, ps.reverse, L, ts, ps, rfl, .inr (SqT.of n10.at), (hnums.same s610).rev, by rw [List.length_reverse]; omega, SqL.of (s610 _ _ oL.1), hpr.same s610, hszd, hlow, fun x => List.mem_reverse, hne', fun H11 s11 => ⟨_, rfl, iteF ?_⟩⟩
    have s611 := s610.trans s11
    have hP11 := s11 _ _ (n10.same _ _ (n9.same _ _ (s8 _ _ n7.at)))
    refine ⟨_, rfl, .inl ⟨rfl, _, SqL.of hP11⟩, _, rfl, m, rfl, _, _, rfl, rfl, Pp, _, _, rfl, rfl, hP11, small_szlt (by omega), ?_⟩
    have s612 : Same H6 (L2.upd H11 Pp (.lst (vs ++ [.int (-m - 1)]))) := same_upd s611 n7.1
    have bm : Bd 60 (-m - 1) := show (-m - 1).natAbs < 2 ^ 60 by
      have : (10 : Int) ^ 15 < 2 ^ 59 := by decide
      omega
    refine ⟨_, rfl, Pp, _, ps ++ [(-m - 1, 1)], rfl, .inl (SqL.of upd_same), (hnums.same s612).snoc, fun x hx => ?_, .inl ⟨by simp, fun r H13 p q s13 hmin ho => ?_⟩⟩
    · rcases List.mem_append.mp hx with hx | hx
      · exact hszd x hx
      · rcases List.mem_cons.mp hx with rfl | hx
        · exact ⟨bm.mono (by decide), show (1 : Int).natAbs < 2 ^ 4000 from Nat.one_lt_two_pow (by decide)⟩
        · cases hx
    · obtain ⟨rfl, rfl⟩ := min_last hdr hmin
      refine ⟨_, rfl, m, rfl, _, _, rfl, rfl, sz 2 (by decide), fun t14 H14 n14 => ⟨r, t14, _, _, rfl, ho.same n14.same, n14.at, fun H15 s15 => ⟨_, rfl, iteT ?_⟩⟩⟩
      have s615 := s612.trans (s13.trans (n14.same.trans s15))
      exact ⟨_, rfl, _, rfl, D, vs, ps, L, ts, ps, rfl, .inl (SqL.of (s615 _ _ oD.1)), hnums.same s615, by omega, SqL.of (s615 _ _ oL.1), hpr.same s615, hszd, hlow, fun x => Iff.rfl, hne', fun H16 _ => k H16⟩
end
end Xl

namespace Xl
open PySem L2
theorem all_mk {l : PySem.W.OpenLaw} {w : World} {K : PySem.W.Frag} {h : Heap} {mg : Str → Option Value} {fa f_BadCount___init__ f_OutOfRange___init__ f_common_divisor f_Ratio___init__ f_Ratio_top f_Ratio_bottom f_Ratio_below f_Ratio___neg__ f_as_ratio f_least f_greatest f_start f_draw f_low f_less f_is f_value f_refused f_extreme f_right f_law c_ExtralinkError c_BadCount c_OutOfRange c_Ratio : Addr} (X : K.In h) (G : h.Ns mainGlobals mg) (hfa : mg "law" = some (.ref fa))
    {od_BadCount___init__ an_BadCount___init__ : Option Addr} {sl_BadCount___init__ : Array (Option Value)} {oc_BadCount___init__ kV_BadCount___init__ dc_BadCount___init__ pm_BadCount___init__ cd_BadCount___init__ ct_BadCount___init__ : Value}
    {od_OutOfRange___init__ an_OutOfRange___init__ : Option Addr} {sl_OutOfRange___init__ : Array (Option Value)} {oc_OutOfRange___init__ kV_OutOfRange___init__ dc_OutOfRange___init__ pm_OutOfRange___init__ cd_OutOfRange___init__ ct_OutOfRange___init__ : Value}
    {od_common_divisor an_common_divisor : Option Addr} {sl_common_divisor : Array (Option Value)} {oc_common_divisor kV_common_divisor dc_common_divisor pm_common_divisor cd_common_divisor ct_common_divisor : Value}
    {od_Ratio___init__ an_Ratio___init__ : Option Addr} {sl_Ratio___init__ : Array (Option Value)} {oc_Ratio___init__ kV_Ratio___init__ dc_Ratio___init__ pm_Ratio___init__ cd_Ratio___init__ ct_Ratio___init__ : Value}
    {dT_Ratio___init__ : Addr} {do_Ratio___init__ : Obj} {di_Ratio___init__ : Array Value} {dn_Ratio___init__ : Nat}
    {dt_Ratio___init__ : Tok}
    {od_Ratio_top an_Ratio_top : Option Addr} {sl_Ratio_top : Array (Option Value)} {oc_Ratio_top kV_Ratio_top dc_Ratio_top pm_Ratio_top cd_Ratio_top ct_Ratio_top : Value}
    {p_Ratio_top : Addr} {rr_Ratio_top : List Value}
    {od_Ratio_bottom an_Ratio_bottom : Option Addr} {sl_Ratio_bottom : Array (Option Value)} {oc_Ratio_bottom kV_Ratio_bottom dc_Ratio_bottom pm_Ratio_bottom cd_Ratio_bottom ct_Ratio_bottom : Value}
    {p_Ratio_bottom : Addr} {rr_Ratio_bottom : List Value}
    {od_Ratio_below an_Ratio_below : Option Addr} {sl_Ratio_below : Array (Option Value)} {oc_Ratio_below kV_Ratio_below dc_Ratio_below pm_Ratio_below cd_Ratio_below ct_Ratio_below : Value}
    {od_Ratio___neg__ an_Ratio___neg__ : Option Addr} {sl_Ratio___neg__ : Array (Option Value)} {oc_Ratio___neg__ kV_Ratio___neg__ dc_Ratio___neg__ pm_Ratio___neg__ cd_Ratio___neg__ ct_Ratio___neg__ : Value}
    {od_as_ratio an_as_ratio : Option Addr} {sl_as_ratio : Array (Option Value)} {oc_as_ratio kV_as_ratio dc_as_ratio pm_as_ratio cd_as_ratio ct_as_ratio : Value}
    {od_least an_least : Option Addr} {sl_least : Array (Option Value)} {oc_least kV_least dc_least pm_least cd_least ct_least : Value}
    {od_greatest an_greatest : Option Addr} {sl_greatest : Array (Option Value)} {oc_greatest kV_greatest dc_greatest pm_greatest cd_greatest ct_greatest : Value}
    {od_start an_start : Option Addr} {sl_start : Array (Option Value)} {oc_start kV_start dc_start pm_start cd_start ct_start : Value}
    {od_draw an_draw : Option Addr} {sl_draw : Array (Option Value)} {oc_draw kV_draw dc_draw pm_draw cd_draw ct_draw : Value}
    {od_low an_low : Option Addr} {sl_low : Array (Option Value)} {oc_low kV_low dc_low pm_low cd_low ct_low : Value}
    {od_less an_less : Option Addr} {sl_less : Array (Option Value)} {oc_less kV_less dc_less pm_less cd_less ct_less : Value}
    {od_is an_is : Option Addr} {sl_is : Array (Option Value)} {oc_is kV_is dc_is pm_is cd_is ct_is : Value}
    {od_value an_value : Option Addr} {sl_value : Array (Option Value)} {oc_value kV_value dc_value pm_value cd_value ct_value : Value}
    {od_refused an_refused : Option Addr} {sl_refused : Array (Option Value)} {oc_refused kV_refused dc_refused pm_refused cd_refused ct_refused : Value}
    {od_extreme an_extreme : Option Addr} {sl_extreme : Array (Option Value)} {oc_extreme kV_extreme dc_extreme pm_extreme cd_extreme ct_extreme : Value}
    {od_right an_right : Option Addr} {sl_right : Array (Option Value)} {oc_right kV_right dc_right pm_right cd_right ct_right : Value}
    {od_law an_law : Option Addr} {sl_law : Array (Option Value)} {oc_law kV_law dc_law pm_law cd_law ct_law : Value}
    {t_DIGITS : Tok}
    {t_MOST_DIGITS : Tok}
    {xn_BadCount xq_BadCount : Str} {xN_BadCount : Addr} {xb_BadCount xm_BadCount xu_BadCount : List Value} {xs_BadCount : List Str} {xa_BadCount : Bool} {xc_BadCount : Option Bool} {xd_BadCount : Option Addr} {x0_BadCount xi_BadCount x2_BadCount x3_BadCount x5_BadCount : Option Value}
    {xn_OutOfRange xq_OutOfRange : Str} {xN_OutOfRange : Addr} {xb_OutOfRange xm_OutOfRange xu_OutOfRange : List Value} {xs_OutOfRange : List Str} {xa_OutOfRange : Bool} {xc_OutOfRange : Option Bool} {xd_OutOfRange : Option Addr} {x0_OutOfRange xi_OutOfRange x2_OutOfRange x3_OutOfRange x5_OutOfRange : Option Value}
    (gc_ExtralinkError : PySem.W.nsIn K mainGlobals "ExtralinkError" = some (some (.ref c_ExtralinkError)))
    (gc_BadCount : PySem.W.nsIn K mainGlobals "BadCount" = some (some (.ref c_BadCount)))
    (gc_OutOfRange : PySem.W.nsIn K mainGlobals "OutOfRange" = some (some (.ref c_OutOfRange)))
    (gc_Ratio : PySem.W.nsIn K mainGlobals "Ratio" = some (some (.ref c_Ratio)))
    (at_BadCount___init__ : PySem.W.findIn K (.ref c_BadCount) "__init__" = some (some (.ref f_BadCount___init__)))
    (l_BadCount___init__ : K.lookup f_BadCount___init__ = some ⟨oc_BadCount___init__, od_BadCount___init__, .func (PySem.W.fnOf "__init__" "BadCount.__init__" (defArgs s_BadCount___init__) (defBody s_BadCount___init__) (defScope s_BadCount___init__) .none kV_BadCount___init__ dc_BadCount___init__ pm_BadCount___init__ an_BadCount___init__ cd_BadCount___init__ ct_BadCount___init__), sl_BadCount___init__⟩)
    (k1_BadCount___init__ : PySem.W.codeIn K cd_BadCount___init__ "BadCount.__init__" = true)
    (k2_BadCount___init__ : PySem.W.keepIn K (.ref f_BadCount___init__) = true)
    (at_OutOfRange___init__ : PySem.W.findIn K (.ref c_OutOfRange) "__init__" = some (some (.ref f_OutOfRange___init__)))
    (l_OutOfRange___init__ : K.lookup f_OutOfRange___init__ = some ⟨oc_OutOfRange___init__, od_OutOfRange___init__, .func (PySem.W.fnOf "__init__" "OutOfRange.__init__" (defArgs s_OutOfRange___init__) (defBody s_OutOfRange___init__) (defScope s_OutOfRange___init__) .none kV_OutOfRange___init__ dc_OutOfRange___init__ pm_OutOfRange___init__ an_OutOfRange___init__ cd_OutOfRange___init__ ct_OutOfRange___init__), sl_OutOfRange___init__⟩)
    (k1_OutOfRange___init__ : PySem.W.codeIn K cd_OutOfRange___init__ "OutOfRange.__init__" = true)
    (k2_OutOfRange___init__ : PySem.W.keepIn K (.ref f_OutOfRange___init__) = true)
    (a_common_divisor : PySem.W.nsIn K mainGlobals "common_divisor" = some (some (.ref f_common_divisor)))
    (l_common_divisor : K.lookup f_common_divisor = some ⟨oc_common_divisor, od_common_divisor, .func (PySem.W.fnOf "common_divisor" "common_divisor" (defArgs s_common_divisor) (defBody s_common_divisor) (defScope s_common_divisor) .none kV_common_divisor dc_common_divisor pm_common_divisor an_common_divisor cd_common_divisor ct_common_divisor), sl_common_divisor⟩)
    (k1_common_divisor : PySem.W.codeIn K cd_common_divisor "common_divisor" = true)
    (k2_common_divisor : PySem.W.keepIn K (.ref f_common_divisor) = true)
    (at_Ratio___init__ : PySem.W.findIn K (.ref c_Ratio) "__init__" = some (some (.ref f_Ratio___init__)))
    (l_Ratio___init__ : K.lookup f_Ratio___init__ = some ⟨oc_Ratio___init__, od_Ratio___init__, .func (PySem.W.fnOf "__init__" "Ratio.__init__" (defArgs s_Ratio___init__) (defBody s_Ratio___init__) (defScope s_Ratio___init__) (.ref dT_Ratio___init__) kV_Ratio___init__ dc_Ratio___init__ pm_Ratio___init__ an_Ratio___init__ cd_Ratio___init__ ct_Ratio___init__), sl_Ratio___init__⟩)
    (k1_Ratio___init__ : PySem.W.codeIn K cd_Ratio___init__ "Ratio.__init__" = true)
    (k2_Ratio___init__ : PySem.W.keepIn K (.ref f_Ratio___init__) = true)
    (d1_Ratio___init__ : K.lookup dT_Ratio___init__ = some do_Ratio___init__)
    (d2_Ratio___init__ : do_Ratio___init__.data = .seq di_Ratio___init__ dn_Ratio___init__)
    (d3_Ratio___init__ : di_Ratio___init__ = #[.int 1 dt_Ratio___init__])
    (at_Ratio_top : PySem.W.findIn K (.ref c_Ratio) "top" = some (some (.ref p_Ratio_top)))
    (rc_Ratio_top : PySem.W.recIn K p_Ratio_top "property" = some (.ref f_Ratio_top :: rr_Ratio_top))
    (l_Ratio_top : K.lookup f_Ratio_top = some ⟨oc_Ratio_top, od_Ratio_top, .func (PySem.W.fnOf "top" "Ratio.top" (defArgs s_Ratio_top) (defBody s_Ratio_top) (defScope s_Ratio_top) .none kV_Ratio_top dc_Ratio_top pm_Ratio_top an_Ratio_top cd_Ratio_top ct_Ratio_top), sl_Ratio_top⟩)
    (k1_Ratio_top : PySem.W.codeIn K cd_Ratio_top "Ratio.top" = true)
    (k2_Ratio_top : PySem.W.keepIn K (.ref f_Ratio_top) = true)
    (at_Ratio_bottom : PySem.W.findIn K (.ref c_Ratio) "bottom" = some (some (.ref p_Ratio_bottom)))
    (rc_Ratio_bottom : PySem.W.recIn K p_Ratio_bottom "property" = some (.ref f_Ratio_bottom :: rr_Ratio_bottom))
    (l_Ratio_bottom : K.lookup f_Ratio_bottom = some ⟨oc_Ratio_bottom, od_Ratio_bottom, .func (PySem.W.fnOf "bottom" "Ratio.bottom" (defArgs s_Ratio_bottom) (defBody s_Ratio_bottom) (defScope s_Ratio_bottom) .none kV_Ratio_bottom dc_Ratio_bottom pm_Ratio_bottom an_Ratio_bottom cd_Ratio_bottom ct_Ratio_bottom), sl_Ratio_bottom⟩)
    (k1_Ratio_bottom : PySem.W.codeIn K cd_Ratio_bottom "Ratio.bottom" = true)
    (k2_Ratio_bottom : PySem.W.keepIn K (.ref f_Ratio_bottom) = true)
    (at_Ratio_below : PySem.W.findIn K (.ref c_Ratio) "below" = some (some (.ref f_Ratio_below)))
    (l_Ratio_below : K.lookup f_Ratio_below = some ⟨oc_Ratio_below, od_Ratio_below, .func (PySem.W.fnOf "below" "Ratio.below" (defArgs s_Ratio_below) (defBody s_Ratio_below) (defScope s_Ratio_below) .none kV_Ratio_below dc_Ratio_below pm_Ratio_below an_Ratio_below cd_Ratio_below ct_Ratio_below), sl_Ratio_below⟩)
    (k1_Ratio_below : PySem.W.codeIn K cd_Ratio_below "Ratio.below" = true)
    (k2_Ratio_below : PySem.W.keepIn K (.ref f_Ratio_below) = true)
    (at_Ratio___neg__ : PySem.W.findIn K (.ref c_Ratio) "__neg__" = some (some (.ref f_Ratio___neg__)))
    (l_Ratio___neg__ : K.lookup f_Ratio___neg__ = some ⟨oc_Ratio___neg__, od_Ratio___neg__, .func (PySem.W.fnOf "__neg__" "Ratio.__neg__" (defArgs s_Ratio___neg__) (defBody s_Ratio___neg__) (defScope s_Ratio___neg__) .none kV_Ratio___neg__ dc_Ratio___neg__ pm_Ratio___neg__ an_Ratio___neg__ cd_Ratio___neg__ ct_Ratio___neg__), sl_Ratio___neg__⟩)
    (k1_Ratio___neg__ : PySem.W.codeIn K cd_Ratio___neg__ "Ratio.__neg__" = true)
    (k2_Ratio___neg__ : PySem.W.keepIn K (.ref f_Ratio___neg__) = true)
    (a_as_ratio : PySem.W.nsIn K mainGlobals "as_ratio" = some (some (.ref f_as_ratio)))
    (l_as_ratio : K.lookup f_as_ratio = some ⟨oc_as_ratio, od_as_ratio, .func (PySem.W.fnOf "as_ratio" "as_ratio" (defArgs s_as_ratio) (defBody s_as_ratio) (defScope s_as_ratio) .none kV_as_ratio dc_as_ratio pm_as_ratio an_as_ratio cd_as_ratio ct_as_ratio), sl_as_ratio⟩)
    (k1_as_ratio : PySem.W.codeIn K cd_as_ratio "as_ratio" = true)
    (k2_as_ratio : PySem.W.keepIn K (.ref f_as_ratio) = true)
    (a_least : PySem.W.nsIn K mainGlobals "least" = some (some (.ref f_least)))
    (l_least : K.lookup f_least = some ⟨oc_least, od_least, .func (PySem.W.fnOf "least" "least" (defArgs s_least) (defBody s_least) (defScope s_least) .none kV_least dc_least pm_least an_least cd_least ct_least), sl_least⟩)
    (k1_least : PySem.W.codeIn K cd_least "least" = true)
    (k2_least : PySem.W.keepIn K (.ref f_least) = true)
    (a_greatest : PySem.W.nsIn K mainGlobals "greatest" = some (some (.ref f_greatest)))
    (l_greatest : K.lookup f_greatest = some ⟨oc_greatest, od_greatest, .func (PySem.W.fnOf "greatest" "greatest" (defArgs s_greatest) (defBody s_greatest) (defScope s_greatest) .none kV_greatest dc_greatest pm_greatest an_greatest cd_greatest ct_greatest), sl_greatest⟩)
    (k1_greatest : PySem.W.codeIn K cd_greatest "greatest" = true)
    (k2_greatest : PySem.W.keepIn K (.ref f_greatest) = true)
    (a_start : PySem.W.nsIn K mainGlobals "_law_start" = some (some (.ref f_start)))
    (l_start : K.lookup f_start = some ⟨oc_start, od_start, .func (PySem.W.fnOf "_law_start" "_law_start" (defArgs s_start) (defBody s_start) (defScope s_start) .none kV_start dc_start pm_start an_start cd_start ct_start), sl_start⟩)
    (k1_start : PySem.W.codeIn K cd_start "_law_start" = true)
    (k2_start : PySem.W.keepIn K (.ref f_start) = true)
    (a_draw : PySem.W.nsIn K mainGlobals "_law_draw" = some (some (.ref f_draw)))
    (l_draw : K.lookup f_draw = some ⟨oc_draw, od_draw, .func (PySem.W.fnOf "_law_draw" "_law_draw" (defArgs s_draw) (defBody s_draw) (defScope s_draw) .none kV_draw dc_draw pm_draw an_draw cd_draw ct_draw), sl_draw⟩)
    (k1_draw : PySem.W.codeIn K cd_draw "_law_draw" = true)
    (k2_draw : PySem.W.keepIn K (.ref f_draw) = true)
    (a_low : PySem.W.nsIn K mainGlobals "_law_low" = some (some (.ref f_low)))
    (l_low : K.lookup f_low = some ⟨oc_low, od_low, .func (PySem.W.fnOf "_law_low" "_law_low" (defArgs s_low) (defBody s_low) (defScope s_low) .none kV_low dc_low pm_low an_low cd_low ct_low), sl_low⟩)
    (k1_low : PySem.W.codeIn K cd_low "_law_low" = true)
    (k2_low : PySem.W.keepIn K (.ref f_low) = true)
    (a_less : PySem.W.nsIn K mainGlobals "_law_less" = some (some (.ref f_less)))
    (l_less : K.lookup f_less = some ⟨oc_less, od_less, .func (PySem.W.fnOf "_law_less" "_law_less" (defArgs s_less) (defBody s_less) (defScope s_less) .none kV_less dc_less pm_less an_less cd_less ct_less), sl_less⟩)
    (k1_less : PySem.W.codeIn K cd_less "_law_less" = true)
    (k2_less : PySem.W.keepIn K (.ref f_less) = true)
    (a_is : PySem.W.nsIn K mainGlobals "_law_is" = some (some (.ref f_is)))
    (l_is : K.lookup f_is = some ⟨oc_is, od_is, .func (PySem.W.fnOf "_law_is" "_law_is" (defArgs s_is) (defBody s_is) (defScope s_is) .none kV_is dc_is pm_is an_is cd_is ct_is), sl_is⟩)
    (k1_is : PySem.W.codeIn K cd_is "_law_is" = true)
    (k2_is : PySem.W.keepIn K (.ref f_is) = true)
    (a_value : PySem.W.nsIn K mainGlobals "_law_value" = some (some (.ref f_value)))
    (l_value : K.lookup f_value = some ⟨oc_value, od_value, .func (PySem.W.fnOf "_law_value" "_law_value" (defArgs s_value) (defBody s_value) (defScope s_value) .none kV_value dc_value pm_value an_value cd_value ct_value), sl_value⟩)
    (k1_value : PySem.W.codeIn K cd_value "_law_value" = true)
    (k2_value : PySem.W.keepIn K (.ref f_value) = true)
    (a_refused : PySem.W.nsIn K mainGlobals "_law_refused" = some (some (.ref f_refused)))
    (l_refused : K.lookup f_refused = some ⟨oc_refused, od_refused, .func (PySem.W.fnOf "_law_refused" "_law_refused" (defArgs s_refused) (defBody s_refused) (defScope s_refused) .none kV_refused dc_refused pm_refused an_refused cd_refused ct_refused), sl_refused⟩)
    (k1_refused : PySem.W.codeIn K cd_refused "_law_refused" = true)
    (k2_refused : PySem.W.keepIn K (.ref f_refused) = true)
    (a_extreme : PySem.W.nsIn K mainGlobals "_law_extreme" = some (some (.ref f_extreme)))
    (l_extreme : K.lookup f_extreme = some ⟨oc_extreme, od_extreme, .func (PySem.W.fnOf "_law_extreme" "_law_extreme" (defArgs s_extreme) (defBody s_extreme) (defScope s_extreme) .none kV_extreme dc_extreme pm_extreme an_extreme cd_extreme ct_extreme), sl_extreme⟩)
    (k1_extreme : PySem.W.codeIn K cd_extreme "_law_extreme" = true)
    (k2_extreme : PySem.W.keepIn K (.ref f_extreme) = true)
    (a_right : PySem.W.nsIn K mainGlobals "_law_right" = some (some (.ref f_right)))
    (l_right : K.lookup f_right = some ⟨oc_right, od_right, .func (PySem.W.fnOf "_law_right" "_law_right" (defArgs s_right) (defBody s_right) (defScope s_right) .none kV_right dc_right pm_right an_right cd_right ct_right), sl_right⟩)
    (k1_right : PySem.W.codeIn K cd_right "_law_right" = true)
    (k2_right : PySem.W.keepIn K (.ref f_right) = true)
    (a_law : PySem.W.nsIn K mainGlobals "law" = some (some (.ref f_law)))
    (l_law : K.lookup f_law = some ⟨oc_law, od_law, .func (PySem.W.fnOf "law" "law" (defArgs s_law) (defBody s_law) (defScope s_law) .none kV_law dc_law pm_law an_law cd_law ct_law), sl_law⟩)
    (k1_law : PySem.W.codeIn K cd_law "law" = true)
    (k2_law : PySem.W.keepIn K (.ref f_law) = true)
    (h_DIGITS : PySem.W.nsIn K mainGlobals "DIGITS" = some (some (.str "0123456789" t_DIGITS)))
    (h_MOST_DIGITS : PySem.W.nsIn K mainGlobals "MOST_DIGITS" = some (some (.int 9 t_MOST_DIGITS)))
    (z_ValueError : PySem.W.nsIn K mainGlobals "ValueError" = some none)
    (z_abs : PySem.W.nsIn K mainGlobals "abs" = some none)
    (z_classmethod : PySem.W.nsIn K mainGlobals "classmethod" = some none)
    (z_int : PySem.W.nsIn K mainGlobals "int" = some none)
    (z_isinstance : PySem.W.nsIn K mainGlobals "isinstance" = some none)
    (z_len : PySem.W.nsIn K mainGlobals "len" = some none)
    (z_list : PySem.W.nsIn K mainGlobals "list" = some none)
    (z_property : PySem.W.nsIn K mainGlobals "property" = some none)
    (z_range : PySem.W.nsIn K mainGlobals "range" = some none)
    (z_str : PySem.W.nsIn K mainGlobals "str" = some none)
    (z_tuple : PySem.W.nsIn K mainGlobals "tuple" = some none)
    (e1_ExtralinkError : PySem.W.readsIn K c_ExtralinkError (.type "type") = true)
    (e2_ExtralinkError : PySem.W.specialIn K (.ref c_ExtralinkError) "__getattribute__" = some (some (.builtin "type.__getattribute__")))
    (e3_ExtralinkError : PySem.W.findCls K (.ref c_ExtralinkError) (.type "type") "__init__" = some (.val (.builtin "ValueError.__init__")))
    (x1_BadCount : K.lookup c_BadCount = some (excClassObj xn_BadCount xq_BadCount c_BadCount xN_BadCount xb_BadCount xm_BadCount true xs_BadCount xu_BadCount xa_BadCount xc_BadCount xd_BadCount x0_BadCount xi_BadCount x2_BadCount x3_BadCount x5_BadCount "ValueError.__new__"))
    (x6_BadCount : PySem.HandSPX.refsVE xm_BadCount = true)
    (x7_BadCount : PySem.W.findIn K (.ref c_BadCount) "__setattr__" = some (some (.builtin "object.__setattr__")))
    (x8_BadCount : PySem.W.subIn K (.ref c_BadCount) (.type "BaseException") = some true)
    (x9_BadCount : PySem.W.typeIn K (.ref c_BadCount) = some (.type "type"))
    (xk_BadCount : PySem.W.keepIn K (.ref c_BadCount) = true)
    (xt_BadCount : PySem.W.typeIn K (.ref f_BadCount___init__) = some (.type "function"))
    (hn_BadCount_count : PySem.W.findIn K (.ref c_BadCount) "count" = some none)
    (y1_BadCount : PySem.W.findIn K (.ref c_BadCount) "__getattribute__" = some (some (.builtin "BaseException.__getattribute__")))
    (y2_BadCount : PySem.W.findIn K (.ref c_BadCount) "__getattr__" = some none)
    (y4_BadCount : PySem.W.hasDictIn K c_BadCount = true)
    (z1_BadCount : PySem.W.isClsIn K c_BadCount = true)
    (z2_BadCount : PySem.W.subIn K (.ref c_BadCount) (.ref c_BadCount) = some true)
    (ht1_BadCount : PySem.W.findIn K (.ref c_BadCount) "__class__" = some (some (.builtin "object.__class__")))
    (ht2_BadCount : PySem.W.specialIn K (.builtin "object.__class__") "__get__" = some (some (.builtin "getset_descriptor.__get__")))
    (ht3_BadCount : PySem.W.takesIn K (.builtin "object.__class__") = some true)
    (ht4_BadCount : PySem.W.mroIn K c_BadCount (.type "object") = some true)
    (h_isa_BadCount_ExtralinkError : PySem.W.kitOne K (.ref c_BadCount) (.ref c_ExtralinkError) = some true)
    (x1_OutOfRange : K.lookup c_OutOfRange = some (excClassObj xn_OutOfRange xq_OutOfRange c_OutOfRange xN_OutOfRange xb_OutOfRange xm_OutOfRange true xs_OutOfRange xu_OutOfRange xa_OutOfRange xc_OutOfRange xd_OutOfRange x0_OutOfRange xi_OutOfRange x2_OutOfRange x3_OutOfRange x5_OutOfRange "ValueError.__new__"))
    (x6_OutOfRange : PySem.HandSPX.refsVE xm_OutOfRange = true)
    (x7_OutOfRange : PySem.W.findIn K (.ref c_OutOfRange) "__setattr__" = some (some (.builtin "object.__setattr__")))
    (x8_OutOfRange : PySem.W.subIn K (.ref c_OutOfRange) (.type "BaseException") = some true)
    (x9_OutOfRange : PySem.W.typeIn K (.ref c_OutOfRange) = some (.type "type"))
    (xk_OutOfRange : PySem.W.keepIn K (.ref c_OutOfRange) = true)
    (xt_OutOfRange : PySem.W.typeIn K (.ref f_OutOfRange___init__) = some (.type "function"))
    (hn_OutOfRange_value : PySem.W.findIn K (.ref c_OutOfRange) "value" = some none)
    (y1_OutOfRange : PySem.W.findIn K (.ref c_OutOfRange) "__getattribute__" = some (some (.builtin "BaseException.__getattribute__")))
    (y2_OutOfRange : PySem.W.findIn K (.ref c_OutOfRange) "__getattr__" = some none)
    (y4_OutOfRange : PySem.W.hasDictIn K c_OutOfRange = true)
    (z1_OutOfRange : PySem.W.isClsIn K c_OutOfRange = true)
    (z2_OutOfRange : PySem.W.subIn K (.ref c_OutOfRange) (.ref c_OutOfRange) = some true)
    (h1_Ratio : PySem.W.plainGet K c_Ratio Str.empty = true)
    (h2_Ratio : PySem.W.hasDictIn K c_Ratio = true)
    (h3_Ratio : PySem.W.plainOver K c_Ratio = true)
    (h4_Ratio : PySem.W.findIn K (.ref c_Ratio) "__setattr__" = some (some (.builtin "object.__setattr__")))
    (h5_Ratio : PySem.W.makesIn K c_Ratio = true)
    (h6_Ratio : PySem.W.isFn K (.ref f_Ratio___init__) = true)
    (h7_Ratio : PySem.W.keepIn K (.ref c_Ratio) = true)
    (hn_Ratio_upper : PySem.W.findIn K (.ref c_Ratio) "upper" = some none)
    (hn_Ratio_lower : PySem.W.findIn K (.ref c_Ratio) "lower" = some none)
    (hm_Ratio___init__ : PySem.W.isFn K (.ref f_Ratio___init__) = true)
    (hm_Ratio_below : PySem.W.isFn K (.ref f_Ratio_below) = true)
    (hm_Ratio___neg__ : PySem.W.isFn K (.ref f_Ratio___neg__) = true)
    (hp1_Ratio_top : PySem.W.specialIn K (.ref p_Ratio_top) "__get__" = some (some (.builtin "property.__get__")))
    (hp2_Ratio_top : PySem.W.takesIn K (.ref p_Ratio_top) = some true)
    (hp1_Ratio_bottom : PySem.W.specialIn K (.ref p_Ratio_bottom) "__get__" = some (some (.builtin "property.__get__")))
    (hp2_Ratio_bottom : PySem.W.takesIn K (.ref p_Ratio_bottom) = some true)
    (ht1_Ratio : PySem.W.findIn K (.ref c_Ratio) "__class__" = some (some (.builtin "object.__class__")))
    (ht2_Ratio : PySem.W.specialIn K (.builtin "object.__class__") "__get__" = some (some (.builtin "getset_descriptor.__get__")))
    (ht3_Ratio : PySem.W.takesIn K (.builtin "object.__class__") = some true)
    (ht4_Ratio : PySem.W.mroIn K c_Ratio (.type "object") = some true)
    (h_isa_Ratio_Ratio : PySem.W.kitOne K (.ref c_Ratio) (.ref c_Ratio) = some true)
    (h_isa_int_Ratio : PySem.W.kitOne K (.type "int") (.ref c_Ratio) = some false)
    : ∃ fd : FuncData, (∀ (s : Shared) (v : Value), BindsTo s fd ⟨[v], []⟩ [("_law_script", v)]) ∧ ∀ base : Heap, K.In base → base.Ns mainGlobals mg → FnOk l.prog w K mg base (L2.CX l.prog w) 12 fa fd ["_law_script"] (spLaw K) := by
  have e := hfa.symm.trans (PySem.W.mg_of X G a_law)
  have e2 : fa = f_law := Value.ref.inj (Option.some.inj e)
  rw [e2]
  have T : GG K mg := {
    c_ExtralinkError := c_ExtralinkError
    g_ExtralinkError := PySem.W.mg_of X G gc_ExtralinkError
    c_BadCount := c_BadCount
    g_BadCount := PySem.W.mg_of X G gc_BadCount
    c_OutOfRange := c_OutOfRange
    g_OutOfRange := PySem.W.mg_of X G gc_OutOfRange
    c_Ratio := c_Ratio
    g_Ratio := PySem.W.mg_of X G gc_Ratio
    a_BadCount___init__ := f_BadCount___init__
    fd_BadCount___init__ := PySem.W.fnOf "__init__" "BadCount.__init__" (defArgs s_BadCount___init__) (defBody s_BadCount___init__) (defScope s_BadCount___init__) .none kV_BadCount___init__ dc_BadCount___init__ pm_BadCount___init__ an_BadCount___init__ cd_BadCount___init__ ct_BadCount___init__
    F_BadCount___init__ := fun_mk (st := s_BadCount___init__) l_BadCount___init__ k1_BadCount___init__ k2_BadCount___init__
    a_OutOfRange___init__ := f_OutOfRange___init__
    fd_OutOfRange___init__ := PySem.W.fnOf "__init__" "OutOfRange.__init__" (defArgs s_OutOfRange___init__) (defBody s_OutOfRange___init__) (defScope s_OutOfRange___init__) .none kV_OutOfRange___init__ dc_OutOfRange___init__ pm_OutOfRange___init__ an_OutOfRange___init__ cd_OutOfRange___init__ ct_OutOfRange___init__
    F_OutOfRange___init__ := fun_mk (st := s_OutOfRange___init__) l_OutOfRange___init__ k1_OutOfRange___init__ k2_OutOfRange___init__
    a_common_divisor := f_common_divisor
    fd_common_divisor := PySem.W.fnOf "common_divisor" "common_divisor" (defArgs s_common_divisor) (defBody s_common_divisor) (defScope s_common_divisor) .none kV_common_divisor dc_common_divisor pm_common_divisor an_common_divisor cd_common_divisor ct_common_divisor
    F_common_divisor := fun_mk (st := s_common_divisor) l_common_divisor k1_common_divisor k2_common_divisor
    m_common_divisor := PySem.W.mg_of X G a_common_divisor
    a_Ratio___init__ := f_Ratio___init__
    fd_Ratio___init__ := PySem.W.fnOf "__init__" "Ratio.__init__" (defArgs s_Ratio___init__) (defBody s_Ratio___init__) (defScope s_Ratio___init__) (.ref dT_Ratio___init__) kV_Ratio___init__ dc_Ratio___init__ pm_Ratio___init__ an_Ratio___init__ cd_Ratio___init__ ct_Ratio___init__
    F_Ratio___init__ := ⟨⟨oc_Ratio___init__, od_Ratio___init__, _, kV_Ratio___init__, dc_Ratio___init__, pm_Ratio___init__, an_Ratio___init__, cd_Ratio___init__, ct_Ratio___init__, sl_Ratio___init__, rfl, l_Ratio___init__, k1_Ratio___init__, .inr ⟨by simp, dT_Ratio___init__, do_Ratio___init__, di_Ratio___init__.toList, dn_Ratio___init__, rfl, d1_Ratio___init__, by rw [d2_Ratio___init__], by rw [d3_Ratio___init__]; exact (.cons ⟨_, rfl⟩ .nil)⟩, .inl rfl⟩, k2_Ratio___init__⟩
    a_Ratio_top := f_Ratio_top
    fd_Ratio_top := PySem.W.fnOf "top" "Ratio.top" (defArgs s_Ratio_top) (defBody s_Ratio_top) (defScope s_Ratio_top) .none kV_Ratio_top dc_Ratio_top pm_Ratio_top an_Ratio_top cd_Ratio_top ct_Ratio_top
    F_Ratio_top := fun_mk (st := s_Ratio_top) l_Ratio_top k1_Ratio_top k2_Ratio_top
    a_Ratio_bottom := f_Ratio_bottom
    fd_Ratio_bottom := PySem.W.fnOf "bottom" "Ratio.bottom" (defArgs s_Ratio_bottom) (defBody s_Ratio_bottom) (defScope s_Ratio_bottom) .none kV_Ratio_bottom dc_Ratio_bottom pm_Ratio_bottom an_Ratio_bottom cd_Ratio_bottom ct_Ratio_bottom
    F_Ratio_bottom := fun_mk (st := s_Ratio_bottom) l_Ratio_bottom k1_Ratio_bottom k2_Ratio_bottom
    a_Ratio_below := f_Ratio_below
    fd_Ratio_below := PySem.W.fnOf "below" "Ratio.below" (defArgs s_Ratio_below) (defBody s_Ratio_below) (defScope s_Ratio_below) .none kV_Ratio_below dc_Ratio_below pm_Ratio_below an_Ratio_below cd_Ratio_below ct_Ratio_below
    F_Ratio_below := fun_mk (st := s_Ratio_below) l_Ratio_below k1_Ratio_below k2_Ratio_below
    a_Ratio___neg__ := f_Ratio___neg__
    fd_Ratio___neg__ := PySem.W.fnOf "__neg__" "Ratio.__neg__" (defArgs s_Ratio___neg__) (defBody s_Ratio___neg__) (defScope s_Ratio___neg__) .none kV_Ratio___neg__ dc_Ratio___neg__ pm_Ratio___neg__ an_Ratio___neg__ cd_Ratio___neg__ ct_Ratio___neg__
    F_Ratio___neg__ := fun_mk (st := s_Ratio___neg__) l_Ratio___neg__ k1_Ratio___neg__ k2_Ratio___neg__
    a_as_ratio := f_as_ratio
    fd_as_ratio := PySem.W.fnOf "as_ratio" "as_ratio" (defArgs s_as_ratio) (defBody s_as_ratio) (defScope s_as_ratio) .none kV_as_ratio dc_as_ratio pm_as_ratio an_as_ratio cd_as_ratio ct_as_ratio
    F_as_ratio := fun_mk (st := s_as_ratio) l_as_ratio k1_as_ratio k2_as_ratio
    m_as_ratio := PySem.W.mg_of X G a_as_ratio
    a_least := f_least
    fd_least := PySem.W.fnOf "least" "least" (defArgs s_least) (defBody s_least) (defScope s_least) .none kV_least dc_least pm_least an_least cd_least ct_least
    F_least := fun_mk (st := s_least) l_least k1_least k2_least
    m_least := PySem.W.mg_of X G a_least
    a_greatest := f_greatest
    fd_greatest := PySem.W.fnOf "greatest" "greatest" (defArgs s_greatest) (defBody s_greatest) (defScope s_greatest) .none kV_greatest dc_greatest pm_greatest an_greatest cd_greatest ct_greatest
    F_greatest := fun_mk (st := s_greatest) l_greatest k1_greatest k2_greatest
    m_greatest := PySem.W.mg_of X G a_greatest
    a_start := f_start
    fd_start := PySem.W.fnOf "_law_start" "_law_start" (defArgs s_start) (defBody s_start) (defScope s_start) .none kV_start dc_start pm_start an_start cd_start ct_start
    F_start := fun_mk (st := s_start) l_start k1_start k2_start
    m_start := PySem.W.mg_of X G a_start
    a_draw := f_draw
    fd_draw := PySem.W.fnOf "_law_draw" "_law_draw" (defArgs s_draw) (defBody s_draw) (defScope s_draw) .none kV_draw dc_draw pm_draw an_draw cd_draw ct_draw
    F_draw := fun_mk (st := s_draw) l_draw k1_draw k2_draw
    m_draw := PySem.W.mg_of X G a_draw
    a_low := f_low
    fd_low := PySem.W.fnOf "_law_low" "_law_low" (defArgs s_low) (defBody s_low) (defScope s_low) .none kV_low dc_low pm_low an_low cd_low ct_low
    F_low := fun_mk (st := s_low) l_low k1_low k2_low
    m_low := PySem.W.mg_of X G a_low
    a_less := f_less
    fd_less := PySem.W.fnOf "_law_less" "_law_less" (defArgs s_less) (defBody s_less) (defScope s_less) .none kV_less dc_less pm_less an_less cd_less ct_less
    F_less := fun_mk (st := s_less) l_less k1_less k2_less
    m_less := PySem.W.mg_of X G a_less
    a_is := f_is
    fd_is := PySem.W.fnOf "_law_is" "_law_is" (defArgs s_is) (defBody s_is) (defScope s_is) .none kV_is dc_is pm_is an_is cd_is ct_is
    F_is := fun_mk (st := s_is) l_is k1_is k2_is
    m_is := PySem.W.mg_of X G a_is
    a_value := f_value
    fd_value := PySem.W.fnOf "_law_value" "_law_value" (defArgs s_value) (defBody s_value) (defScope s_value) .none kV_value dc_value pm_value an_value cd_value ct_value
    F_value := fun_mk (st := s_value) l_value k1_value k2_value
    m_value := PySem.W.mg_of X G a_value
    a_refused := f_refused
    fd_refused := PySem.W.fnOf "_law_refused" "_law_refused" (defArgs s_refused) (defBody s_refused) (defScope s_refused) .none kV_refused dc_refused pm_refused an_refused cd_refused ct_refused
    F_refused := fun_mk (st := s_refused) l_refused k1_refused k2_refused
    m_refused := PySem.W.mg_of X G a_refused
    a_extreme := f_extreme
    fd_extreme := PySem.W.fnOf "_law_extreme" "_law_extreme" (defArgs s_extreme) (defBody s_extreme) (defScope s_extreme) .none kV_extreme dc_extreme pm_extreme an_extreme cd_extreme ct_extreme
    F_extreme := fun_mk (st := s_extreme) l_extreme k1_extreme k2_extreme
    m_extreme := PySem.W.mg_of X G a_extreme
    a_right := f_right
    fd_right := PySem.W.fnOf "_law_right" "_law_right" (defArgs s_right) (defBody s_right) (defScope s_right) .none kV_right dc_right pm_right an_right cd_right ct_right
    F_right := fun_mk (st := s_right) l_right k1_right k2_right
    m_right := PySem.W.mg_of X G a_right
    a_law := f_law
    fd_law := PySem.W.fnOf "law" "law" (defArgs s_law) (defBody s_law) (defScope s_law) .none kV_law dc_law pm_law an_law cd_law ct_law
    F_law := fun_mk (st := s_law) l_law k1_law k2_law
    m_law := PySem.W.mg_of X G a_law
    g_DIGITS := ⟨_, PySem.W.mg_of X G h_DIGITS, ⟨_, rfl⟩⟩
    g_MOST_DIGITS := ⟨_, PySem.W.mg_of X G h_MOST_DIGITS, ⟨_, rfl⟩⟩
    z_ValueError := PySem.W.mg_none_of X G z_ValueError
    z_abs := PySem.W.mg_none_of X G z_abs
    z_classmethod := PySem.W.mg_none_of X G z_classmethod
    z_int := PySem.W.mg_none_of X G z_int
    z_isinstance := PySem.W.mg_none_of X G z_isinstance
    z_len := PySem.W.mg_none_of X G z_len
    z_list := PySem.W.mg_none_of X G z_list
    z_property := PySem.W.mg_none_of X G z_property
    z_range := PySem.W.mg_none_of X G z_range
    z_str := PySem.W.mg_none_of X G z_str
    z_tuple := PySem.W.mg_none_of X G z_tuple
    ei_ExtralinkError := ⟨(.type "type"), ⟨e1_ExtralinkError, e2_ExtralinkError⟩, e3_ExtralinkError⟩
    ox_BadCount := ⟨⟨_, _, _, _, _, _, _, _, _, _, _, _, _, _, _, x1_BadCount, x6_BadCount⟩, x7_BadCount, x8_BadCount, x9_BadCount, xk_BadCount⟩
    in_BadCount := ⟨at_BadCount___init__, xt_BadCount⟩
    no_BadCount_count := hn_BadCount_count
    xf_BadCount := ⟨y1_BadCount, y2_BadCount, x8_BadCount, y4_BadCount⟩
    te_BadCount := PySem.W.exm_ref x8_BadCount y4_BadCount x9_BadCount z2_BadCount
    ty_BadCount := ⟨ht1_BadCount, ht2_BadCount, ht3_BadCount, ht4_BadCount⟩
    isa_BadCount_ExtralinkError := h_isa_BadCount_ExtralinkError
    ox_OutOfRange := ⟨⟨_, _, _, _, _, _, _, _, _, _, _, _, _, _, _, x1_OutOfRange, x6_OutOfRange⟩, x7_OutOfRange, x8_OutOfRange, x9_OutOfRange, xk_OutOfRange⟩
    in_OutOfRange := ⟨at_OutOfRange___init__, xt_OutOfRange⟩
    no_OutOfRange_value := hn_OutOfRange_value
    xf_OutOfRange := ⟨y1_OutOfRange, y2_OutOfRange, x8_OutOfRange, y4_OutOfRange⟩
    te_OutOfRange := PySem.W.exm_ref x8_OutOfRange y4_OutOfRange x9_OutOfRange z2_OutOfRange
    cl_Ratio := ⟨h1_Ratio, h2_Ratio, h3_Ratio, h4_Ratio⟩
    mk_Ratio := ⟨h5_Ratio, at_Ratio___init__, h6_Ratio, h7_Ratio⟩
    no_Ratio_upper := hn_Ratio_upper
    no_Ratio_lower := hn_Ratio_lower
    me_Ratio___init__ := ⟨at_Ratio___init__, hm_Ratio___init__, k2_Ratio___init__⟩
    me_Ratio_below := ⟨at_Ratio_below, hm_Ratio_below, k2_Ratio_below⟩
    me_Ratio___neg__ := ⟨at_Ratio___neg__, hm_Ratio___neg__, k2_Ratio___neg__⟩
    pr_Ratio_top := ⟨p_Ratio_top, at_Ratio_top, hp1_Ratio_top, hp2_Ratio_top, _, rc_Ratio_top⟩
    pr_Ratio_bottom := ⟨p_Ratio_bottom, at_Ratio_bottom, hp1_Ratio_bottom, hp2_Ratio_bottom, _, rc_Ratio_bottom⟩
    ty_Ratio := ⟨ht1_Ratio, ht2_Ratio, ht3_Ratio, ht4_Ratio⟩
    isa_Ratio_Ratio := h_isa_Ratio_Ratio
    isa_int_Ratio := h_isa_int_Ratio }
  have hlaw : ∀ base : Heap, FnOk l.prog w K mg base (L2.CX l.prog w) 12 f_law (PySem.W.fnOf "law" "law" (defArgs s_law) (defBody s_law) (defScope s_law) .none kV_law dc_law pm_law an_law cd_law ct_law) ["_law_script"] (spLaw K) := fun base => ok_law_of (T := T) (fun_mk (st := s_law) l_law k1_law k2_law)
  exact ⟨_, fun s v => .of_eq rfl, fun base _ _ => hlaw base⟩
theorem walk {l : PySem.W.OpenLaw} {q : Program} {loose : List Str} {XP : (Str → Option Value) → Heap → Prop} {YP : World → Heap → Prop} {d : DefRec} {K : Params → PySem.W.Frag} (hn : l.most = some 63) (hdf : d.params.defaults = [])
    (hY : ∀ (w : World) (h : Heap), YP w h → (K w.params).In h)
    (F : ∀ (w : World) (mg : Str → Option Value) (fa : Addr) (h : Heap), (K w.params).In h → h.Ns mainGlobals mg → mg d.name = some (.ref fa) →
      ∃ fd : FuncData, (∀ (s : Shared) (u : Value), BindsTo s fd ⟨[u], []⟩ [("_law_script", u)]) ∧ ∀ base : Heap, (K w.params).In base → base.Ns mainGlobals mg → FnOk l.prog w (K w.params) mg base (L2.CX l.prog w) 12 fa fd ["_law_script"] (spLaw (K w.params))) :
    PySem.W.WalkO q loose XP YP l.row.toRowW d [] (fun f vs => PySem.call f vs) :=
  L2.walk_of (n := 63) (k := 12) (x := "_law_script") (CX := fun w => L2.CX l.prog w) (sp := fun w => spLaw (K w.params)) hn (by decide) hdf ⟨rfl, by decide, by decide⟩ hY F (fun _ _ a ns hl _ hS => ⟨a, ns, rfl, hS, hl, fun _ => rfl⟩) fun _ _ _ _ _ z => by
    obtain ⟨_, _, _, _, _, _, _, _, _, _, _, _, z⟩ := z
    exact z
end Xl
open PySem PySem.W PyProof.Rows
set_option maxRecDepth 100000 in
set_option maxHeartbeats 0 in
theorem PySem.Challenge.cw_extralink_k05_least_and_greatest_holds : PySem.Challenge.rw_extralink_k05_least_and_greatest.Holds := by
  w_on; o_law; k_head; (case hw => w_witness2)
  k_fill
  refine Xl.walk (l := PySem.Challenge.rw_extralink_k05_least_and_greatest) rfl rfl (fun w h Y => PySem.W.kIn_of Y) ?F
  case F =>
    intro w mg fa h KX G hmg
    refine' Xl.all_mk KX G hmg ?gc_ExtralinkError ?gc_BadCount ?gc_OutOfRange ?gc_Ratio ?at_BadCount___init__ ?l_BadCount___init__ ?k1_BadCount___init__ ?k2_BadCount___init__ ?at_OutOfRange___init__ ?l_OutOfRange___init__ ?k1_OutOfRange___init__ ?k2_OutOfRange___init__ ?a_common_divisor ?l_common_divisor ?k1_common_divisor ?k2_common_divisor ?at_Ratio___init__ ?l_Ratio___init__ ?k1_Ratio___init__ ?k2_Ratio___init__ ?d1_Ratio___init__ ?d2_Ratio___init__ ?d3_Ratio___init__ ?at_Ratio_top ?rc_Ratio_top ?l_Ratio_top ?k1_Ratio_top ?k2_Ratio_top ?at_Ratio_bottom ?rc_Ratio_bottom ?l_Ratio_bottom ?k1_Ratio_bottom ?k2_Ratio_bottom ?at_Ratio_below ?l_Ratio_below ?k1_Ratio_below ?k2_Ratio_below ?at_Ratio___neg__ ?l_Ratio___neg__ ?k1_Ratio___neg__ ?k2_Ratio___neg__ ?a_as_ratio ?l_as_ratio ?k1_as_ratio ?k2_as_ratio ?a_least ?l_least ?k1_least ?k2_least ?a_greatest ?l_greatest ?k1_greatest ?k2_greatest ?a_start ?l_start ?k1_start ?k2_start ?a_draw ?l_draw ?k1_draw ?k2_draw ?a_low ?l_low ?k1_low ?k2_low ?a_less ?l_less ?k1_less ?k2_less ?a_is ?l_is ?k1_is ?k2_is ?a_value ?l_value ?k1_value ?k2_value ?a_refused ?l_refused ?k1_refused ?k2_refused ?a_extreme ?l_extreme ?k1_extreme ?k2_extreme ?a_right ?l_right ?k1_right ?k2_right ?a_law ?l_law ?k1_law ?k2_law ?h_DIGITS ?h_MOST_DIGITS ?z_ValueError ?z_abs ?z_classmethod ?z_int ?z_isinstance ?z_len ?z_list ?z_property ?z_range ?z_str ?z_tuple ?e1_ExtralinkError ?e2_ExtralinkError ?e3_ExtralinkError ?x1_BadCount ?x6_BadCount ?x7_BadCount ?x8_BadCount ?x9_BadCount ?xk_BadCount ?xt_BadCount ?hn_BadCount_count ?y1_BadCount ?y2_BadCount ?y4_BadCount ?z1_BadCount ?z2_BadCount ?ht1_BadCount ?ht2_BadCount ?ht3_BadCount ?ht4_BadCount ?h_isa_BadCount_ExtralinkError ?x1_OutOfRange ?x6_OutOfRange ?x7_OutOfRange ?x8_OutOfRange ?x9_OutOfRange ?xk_OutOfRange ?xt_OutOfRange ?hn_OutOfRange_value ?y1_OutOfRange ?y2_OutOfRange ?y4_OutOfRange ?z1_OutOfRange ?z2_OutOfRange ?h1_Ratio ?h2_Ratio ?h3_Ratio ?h4_Ratio ?h5_Ratio ?h6_Ratio ?h7_Ratio ?hn_Ratio_upper ?hn_Ratio_lower ?hm_Ratio___init__ ?hm_Ratio_below ?hm_Ratio___neg__ ?hp1_Ratio_top ?hp2_Ratio_top ?hp1_Ratio_bottom ?hp2_Ratio_bottom ?ht1_Ratio ?ht2_Ratio ?ht3_Ratio ?ht4_Ratio ?h_isa_Ratio_Ratio ?h_isa_int_Ratio
    (case gc_ExtralinkError => k_is)
    (case gc_BadCount => k_is)
    (case gc_OutOfRange => k_is)
    (case gc_Ratio => k_is)
    (case at_BadCount___init__ => k_is)
    (case l_BadCount___init__ => k_is)
    (case k1_BadCount___init__ => k_is)
    (case k2_BadCount___init__ => k_is)
    (case at_OutOfRange___init__ => k_is)
    (case l_OutOfRange___init__ => k_is)
    (case k1_OutOfRange___init__ => k_is)
    (case k2_OutOfRange___init__ => k_is)
    (case a_common_divisor => k_is)
    (case l_common_divisor => k_is)
    (case k1_common_divisor => k_is)
    (case k2_common_divisor => k_is)
    (case at_Ratio___init__ => k_is)
    (case l_Ratio___init__ => k_is)
    (case k1_Ratio___init__ => k_is)
    (case k2_Ratio___init__ => k_is)
    (case d1_Ratio___init__ => k_is)
    (case d2_Ratio___init__ => rfl)
    (case d3_Ratio___init__ => rfl)
    (case at_Ratio_top => k_is)
    (case rc_Ratio_top => k_is)
    (case l_Ratio_top => k_is)
    (case k1_Ratio_top => k_is)
    (case k2_Ratio_top => k_is)
    (case at_Ratio_bottom => k_is)
    (case rc_Ratio_bottom => k_is)
    (case l_Ratio_bottom => k_is)
    (case k1_Ratio_bottom => k_is)
    (case k2_Ratio_bottom => k_is)
    (case at_Ratio_below => k_is)
    (case l_Ratio_below => k_is)
    (case k1_Ratio_below => k_is)
    (case k2_Ratio_below => k_is)
    (case at_Ratio___neg__ => k_is)
    (case l_Ratio___neg__ => k_is)
    (case k1_Ratio___neg__ => k_is)
    (case k2_Ratio___neg__ => k_is)
    (case a_as_ratio => k_is)
    (case l_as_ratio => k_is)
    (case k1_as_ratio => k_is)
    (case k2_as_ratio => k_is)
    (case a_least => k_is)
    (case l_least => k_is)
    (case k1_least => k_is)
    (case k2_least => k_is)
    (case a_greatest => k_is)
    (case l_greatest => k_is)
    (case k1_greatest => k_is)
    (case k2_greatest => k_is)
    (case a_start => k_is)
    (case l_start => k_is)
    (case k1_start => k_is)
    (case k2_start => k_is)
    (case a_draw => k_is)
    (case l_draw => k_is)
    (case k1_draw => k_is)
    (case k2_draw => k_is)
    (case a_low => k_is)
    (case l_low => k_is)
    (case k1_low => k_is)
    (case k2_low => k_is)
    (case a_less => k_is)
    (case l_less => k_is)
    (case k1_less => k_is)
    (case k2_less => k_is)
    (case a_is => k_is)
    (case l_is => k_is)
    (case k1_is => k_is)
    (case k2_is => k_is)
    (case a_value => k_is)
    (case l_value => k_is)
    (case k1_value => k_is)
    (case k2_value => k_is)
    (case a_refused => k_is)
    (case l_refused => k_is)
    (case k1_refused => k_is)
    (case k2_refused => k_is)
    (case a_extreme => k_is)
    (case l_extreme => k_is)
    (case k1_extreme => k_is)
    (case k2_extreme => k_is)
    (case a_right => k_is)
    (case l_right => k_is)
    (case k1_right => k_is)
    (case k2_right => k_is)
    (case a_law => k_is)
    (case l_law => k_is)
    (case k1_law => k_is)
    (case k2_law => k_is)
    (case h_DIGITS => k_is)
    (case h_MOST_DIGITS => k_is)
    (case z_ValueError => k_is)
    (case z_abs => k_is)
    (case z_classmethod => k_is)
    (case z_int => k_is)
    (case z_isinstance => k_is)
    (case z_len => k_is)
    (case z_list => k_is)
    (case z_property => k_is)
    (case z_range => k_is)
    (case z_str => k_is)
    (case z_tuple => k_is)
    (case e1_ExtralinkError => k_is)
    (case e2_ExtralinkError => k_is)
    (case e3_ExtralinkError => k_is)
    (case x1_BadCount => k_is)
    (case x6_BadCount => decide +kernel)
    (case x7_BadCount => k_is)
    (case x8_BadCount => k_is)
    (case x9_BadCount => k_is)
    (case xk_BadCount => k_is)
    (case xt_BadCount => k_is)
    (case hn_BadCount_count => k_is)
    (case y1_BadCount => k_is)
    (case y2_BadCount => k_is)
    (case y4_BadCount => k_is)
    (case z1_BadCount => k_is)
    (case z2_BadCount => first | rfl | k_is)
    (case ht1_BadCount => k_is)
    (case ht2_BadCount => k_is)
    (case ht3_BadCount => k_is)
    (case ht4_BadCount => k_is)
    (case h_isa_BadCount_ExtralinkError => kit_is)
    (case x1_OutOfRange => k_is)
    (case x6_OutOfRange => decide +kernel)
    (case x7_OutOfRange => k_is)
    (case x8_OutOfRange => k_is)
    (case x9_OutOfRange => k_is)
    (case xk_OutOfRange => k_is)
    (case xt_OutOfRange => k_is)
    (case hn_OutOfRange_value => k_is)
    (case y1_OutOfRange => k_is)
    (case y2_OutOfRange => k_is)
    (case y4_OutOfRange => k_is)
    (case z1_OutOfRange => k_is)
    (case z2_OutOfRange => first | rfl | k_is)
    (case h1_Ratio => k_is)
    (case h2_Ratio => k_is)
    (case h3_Ratio => k_is)
    (case h4_Ratio => k_is)
    (case h5_Ratio => k_is)
    (case h6_Ratio => k_is)
    (case h7_Ratio => k_is)
    (case hn_Ratio_upper => k_is)
    (case hn_Ratio_lower => k_is)
    (case hm_Ratio___init__ => k_is)
    (case hm_Ratio_below => k_is)
    (case hm_Ratio___neg__ => k_is)
    (case hp1_Ratio_top => k_is)
    (case hp2_Ratio_top => k_is)
    (case hp1_Ratio_bottom => k_is)
    (case hp2_Ratio_bottom => k_is)
    (case ht1_Ratio => k_is)
    (case ht2_Ratio => k_is)
    (case ht3_Ratio => k_is)
    (case ht4_Ratio => k_is)
    (case h_isa_Ratio_Ratio => kit_is)
    (case h_isa_int_Ratio => kit_is)
#print axioms PySem.Challenge.cw_extralink_k05_least_and_greatest_holds

