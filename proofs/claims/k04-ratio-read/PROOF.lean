import PyProof.Rows.All
import Wide.All
import OpenK.AllK
import Wide.FinOn
import KE.KRevSl
import HandS.ForMost
import HandS.ForExc
import HandS.Walk
import HandS.Wide
import HandS.IsInst
import HandS.Style
import HandS.ClsMeth
import HandS.ExcInit
import HandS.ExcField
import HandS.Property
import HandS.Defaults
import HandS.MakeKwOnly
import HandS.FStr
import HandS.OwnEq
import HandS.CallSlots
import KE.KOpsOwn
import KE.KCallOwn
import HandS.Codes
import HandS.ExcOwn
import KE.KExcIs
import KE.IntBitsLaws
import HandS.ExcIs
import PySem.Challenge.RW_extralink_k04_ratio_read
set_option Elab.async false
set_option linter.all false
set_option maxRecDepth 100000
set_option maxHeartbeats 4000000

namespace Xl
open PySem PySem.Spec PyProof.Rows L2

/-! ### calls of the text's own defs, bundled -/
structure FnI (P : Program) (w : World) (K : PySem.W.Frag) (mg : Str → Option Value) (base : Heap) (x : Str) (k : Nat) (ps : List Str) (sp : Sp) : Prop where
  ex : ∃ f fd, FnOk P w K mg base (L2.CX P w) k f fd ps sp ∧ mg x = some (.ref f) ∧ PySem.W.keepIn K (.ref f) = true ∧ Binds K fd ps []
/-- .. called by keywords alone, one keyword -/
structure FnK (P : Program) (w : World) (K : PySem.W.Frag) (mg : Str → Option Value) (base : Heap) (x : Str) (k : Nat) (ps : List Str) (sp : Sp) : Prop where
  ex : ∃ f fd, FnOk P w K mg base (L2.CX P w) k f fd ps sp ∧ mg x = some (.ref f) ∧ PySem.W.keepIn K (.ref f) = true ∧ ∀ (s : Shared) (ws : List Value), ws.length = ps.length → BindsTo s fd ⟨[], ps.zip ws⟩ (ps.zip ws)

section
variable {X : Cx} {k : Nat} {ps : List Str} {sp : Sp} {E : XK} {x : Str} {p pos : Pos} {e : Expr} {es : List Expr} {t : TA} {te : TE}
theorem pe_f (F : FnI X.prog X.w X.K X.mg X.base x k ps sp) (hr : Room k X.A) (hx : Passes (L2.CX X.prog X.w) X E) (ha : PA X (e :: es) t) (hg : Gl X x := by rfl)
    (hdb : (x == ("__debug__" : Str)) = false := by decide) (he : starEach (e :: es) X.env = (false, eval e X.env) :: starEach es X.env := by rfl) (hpl : (backTo pos (starEach es X.env)).any (·.1) = false := by rfl) :
    PE X (.Call (.Name x p) (e :: es) [] pos) (tCall sp [] E t) := by
  obtain ⟨f, fd, h1, h2, h3, h4⟩ := F.ex
  exact pe_call h1 hr hg h2 h3 h4 .nil hx ha hdb he hpl
theorem pe_f0 (F : FnI X.prog X.w X.K X.mg X.base x k ps sp) (hr : Room k X.A) (hx : Passes (L2.CX X.prog X.w) X E) (hg : Gl X x := by rfl)
    (hdb : (x == ("__debug__" : Str)) = false := by decide) : PE X (.Call (.Name x p) [] [] pos) (tCall sp [] E tNil) := by
  obtain ⟨f, fd, h1, h2, h3, h4⟩ := F.ex
  exact pe_call0 h1 hr hg h2 h3 h4 .nil hx hdb
/-- f(k = v, ..), all parameters by keyword in their order -/
def tCallW (n : Nat) (sp : Sp) (E : XK) (tk : TA) : TE := fun σ H Q => tk σ H fun zs H2 => zs.length = n ∧ sp zs H2 Q E
theorem pe_fK {kws : List Keyword} {tk : TA} (F : FnK X.prog X.w X.K X.mg X.base x k ps sp) (hr : Room k X.A) (hx : Passes (L2.CX X.prog X.w) X E) (hkw : PK X kws tk) (hg : Gl X x := by rfl)
    (hall : (backToKw pos (keywordEach kws X.env)).all (·.1.isSome) = true := by rfl) (hks : (backToKw pos (keywordEach kws X.env)).filterMap (·.1) = ps := by rfl) (hdb : (x == ("__debug__" : Str)) = false := by decide)
    (hpl : ((backTo pos (starEach [] X.env)).any (·.1) || (backToKw pos (keywordEach kws X.env)).any (·.1.isNone)) = false := by rfl) :
    PE X (.Call (.Name x p) [] kws pos) (tCallW ps.length sp E tk) := by
  obtain ⟨f, fd, h1, h2, h3, h4⟩ := F.ex
  refine ⟨fun pins s σ H Q I h => ?_⟩
  refine wpAny_Call_Name_kw (ld_glob I hg h2 ?_ hdb)
  refine PySem.W.callWith_KW0 (h₀ := X.base) I.ok.mod.kin h3 hall ?_ hpl
  refine thn (hkw.run pos pins s σ H _ I h) fun ws s2 ⟨zs, H2, I2, rz, l1, q2⟩ => ⟨I2.kIn, ?_⟩
  rw [hks]
  refine wpAny_call (codeAny_mono (h1.run X.A X.stack s2 H2 ⟨[], ps.zip ws⟩ ws zs Q E hr I2.env0 (h4 s2 ws (by rw [← rz.length]; exact l1)) rz q2) fun r s' hq => ?_)
  cases r with
  | error e => exact hx pins σ H2 s2 e s' I2 hq
  | ok fl =>
    cases fl with
    | ret u => exact I2.after hq
    | next => exact False.elim hq
    | brk => exact False.elim hq
    | cont => exact False.elim hq
/-- a constant of the module -/
theorem pe_gl {v : V} (h : ∃ u, X.mg x = some u ∧ RelV v u) (hg : Gl X x := by rfl) (hd : (x == ("__debug__" : Str)) = false := by decide) : PE X (.Name x pos) (tC v) := by
  obtain ⟨u, h1, h2⟩ := h
  exact pe_glob hg h1 h2 hd
/-- a class of the module -/
theorem pe_cls {C : Addr} (h : X.mg x = some (.ref C)) (hg : Gl X x := by rfl) (hd : (x == ("__debug__" : Str)) = false := by decide) : PE X (.Name x pos) (tC (.ref C)) := pe_glob (v := .ref C) hg h rfl hd
/-- a list's item as the old value of an item assignment with an operator -/
theorem get_list : PGet X (rIxL X.K) := by
  intro pins s σ H o i ov iv Q I ro ri h
  obtain ⟨p, xs, k, v, rfl, rfl, hq, ha, q⟩ := h
  cases ro
  obtain ⟨t, rfl⟩ := ri
  obtain ⟨its, r, pl, hz⟩ := I.list hq
  obtain ⟨j, h1, h2, h3, h4, h5⟩ := atI_get ha
  obtain ⟨w, ew, rw'⟩ := r.get h2
  have hl := r.length
  have hn := line63
  have fin : EP X pins σ Q w s := ⟨v, H, I, rw', q⟩
  by_cases h0 : 0 ≤ k
  · have hj : k.toNat = j := by
      rw [seqIndex_of h0 h5] at h1
      exact Option.some.inj h1
    exact wpAny_getItem_list pl.isList h0 (by omega) (by rw [hj]; simpa using ew) fin
  · have hj : (k + (its.toArray.size : Int)).toNat = j := by
      rw [seqIndex_neg (by omega) h4] at h1
      rw [List.size_toArray, ← hl]
      exact Option.some.inj h1
    exact wpAny_getItem_list_neg pl.isList (by omega) (by rw [List.size_toArray] <;> omega) (by omega) (by rw [hj]; simpa using ew) fin
/-- text[::-1] -/
def revS (z : Str) : Str := Txt.sliceBy z none none (-1, 0)
theorem revS_len (z : Str) : (revS z).length ≤ z.length := Txt.sliceBy_le z none none (-1, 0) (show (-1 : Int) ≠ 0 by decide)
def tRevS (te : TE) : TE := fun σ H Q => te σ H fun x H1 => ∃ z, x = .str z ∧ z.length ≤ sizeLine ∧ Q (.str (revS z)) H1
theorem pe_revS {k : Nat} {p1 p2 p3 : Pos} (he : PE X e te) : PE X (.Subscript e (.Slice none none (some (.UnaryOp .USub (.Constant (.int 1) k p1) p2)) p3) pos) (tRevS te) := by
  refine ⟨fun pins s σ H Q I h => ?_⟩
  refine Subscript_ (thn (he.run pins s σ H _ I h) fun v s1 ⟨x, H1, I1, r1, q1⟩ => ?_)
  obtain ⟨z, rfl, hz, q⟩ := q1
  obtain ⟨tz, rfl⟩ := r1
  have hst : PO X (some (.UnaryOp .USub (.Constant (.int 1) k p1) p2)) (tPart (tUn (rU fun i => .int (-i)) (tC (.int 1)))) := po_some (pe_un un_neg pe_int)
  refine wpAny_Slice (thn (po_none.run pins s1 σ H1 (fun o H2 => o = none ∧ H2 = H1) I1 ⟨rfl, rfl⟩) fun vl s2 ⟨l, H2, I2, pl, el, e2⟩ => ?_)
  subst el e2
  refine thn (po_none.run pins s2 σ H2 (fun o H3 => o = none ∧ H3 = H2) I2 ⟨rfl, rfl⟩) fun vu s3 ⟨u, H3, I3, pu, eu, e3⟩ => ?_
  subst eu e3
  refine thn (hst.run pins s3 σ H3 (fun o H4 => o = some (-1) ∧ H4 = H3) I3 ⟨1, rfl, -1, rfl, rfl, rfl⟩) fun vs s4 ⟨o, H4, I4, ps, eo, e4⟩ => ?_
  subst eo e4
  have I5 : Inv X pins σ H4 { s4 with heap := s4.heap.push { cls := .type "slice", data := .fields #[vl, vu, vs] } } := I4.kept (t' := s4.toks) fun b ob q => Heap.get?_push_of_some _ q
  obtain ⟨l, rfl, e1⟩ := IsPart.raw pl
  obtain ⟨u, rfl, e2⟩ := IsPart.raw pu
  obtain ⟨st, rfl, e3⟩ := IsPart.raw ps
  cases l with
  | some _ => cases e1
  | none =>
  cases u with
  | some _ => cases e2
  | none =>
  cases st with
  | none => cases e3
  | some st =>
    obtain ⟨k0, uk⟩ := st
    have ek : k0 = -1 := Option.some.inj e3
    subst ek
    show wpAny (model X.prog X.w) X.A (subscriptTail e (.Slice none none (some (.UnaryOp .USub (.Constant (.int 1) k p1) p2)) p3) (.str z tz) (.ref s4.heap.objs.size)) (EP X pins σ Q) X.xe { s4 with heap := s4.heap.push { cls := .type "slice", data := .fields #[.none, .none, .int (-1) uk] } }
    refine tail_any (ops := [.ref s4.heap.objs.size, .str z tz]) (typeIs_str _ _ _) F.slot_str_getitem.lookup ?_ (by with_unfolding_all rfl)
    refine wpAny_getItem_str_slice (l := none) (u := none) (st := some (-1, uk)) ⟨_, Heap.get?_push_size _ rfl, rfl, rfl⟩ rfl ?_
    have hl : (Txt.sliceBy z none none (-1, uk)).length ≤ z.length := Txt.sliceBy_le z none none (-1, uk) (show (-1 : Int) ≠ 0 by decide)
    exact post_val_or_str ⟨Nat.le_trans hl hz, fun t' c => ⟨.str (Txt.sliceBy z none none (-1, uk)), H4, I5.tok c, ⟨_, rfl⟩, q⟩⟩
end
theorem passL' {X : Cx} : Passes (L2.CX X.prog X.w) X E0 := passL

section
variable {P : Program} {w : World} {K : PySem.W.Frag} {mg : Str → Option Value} {base : Heap}
/-- a def that lets nothing out, among defs that may -/
theorem okN {x qual : Str} {st : Stmt} {f : Addr} {fd : FuncData} {N ps : List Str} {k : Nat} {sp : Sp} (F : Fun K x qual st f fd) (S : FnScope N ps (defScope st)) (len : ∀ vs H Q E, sp vs H Q E → vs.length = ps.length)
    (hbody : ∀ (cdv : Value) (A : Around) (outer : List Env) (s : Shared) (H : Hp) (vs : List V) (Q : VK) (E : XK), Room k (A.deeper (envOfC qual (defScope st) s.heap.objs.size f cdv)) → sp vs H Q E →
      ∃ t, PSs (cxOf (L2.CX P w) P w K mg base N qual (defScope st) f cdv A outer s H E).nox (defBody st) t ∧ t { nx := fun _ H' => Q .non H', rt := Q } (start N vs) H) : FnOk P w K mg base (L2.CX P w) (k + 1) f fd ps sp := by
  refine F.okX S len fun cdv A outer s H vs Q E hr h => ?_
  obtain ⟨t, h1, h2⟩ := hbody cdv A outer s H vs Q E hr h
  exact ⟨t, h1.nox, h2⟩
end
/-! ### a statement and what follows, joined by a word of one's own -/
def tCut (t u : TS) : TS := fun D σ H => ∃ R : L2.St → Hp → Prop, t { D with nx := R } σ H ∧ ∀ σ' H', R σ' H' → u D σ' H'
theorem pss_cut {X : Cx} {st : Stmt} {rest : List Stmt} {t u : TS} (h1 : PS X st t) (h2 : PSs X rest u) : PSs X (st :: rest) (tCut t u) := by
  refine ⟨fun pins s σ H D I h => ?_⟩
  obtain ⟨R, h, k⟩ := h
  refine wpAny_execs_cons (thn (h1.run pins s σ H { D with nx := R } I h) fun f s1 q => ?_)
  cases f with
  | next =>
    obtain ⟨σ', H', I', q⟩ := q
    exact h2.run pins s1 σ' H' D I' (k σ' H' q)
  | ret v => exact q
  | brk => exact q
  | cont => exact q
theorem iteY {b : Bool} {A B : Prop} (h : b = true) (a : A) : if b = true then A else B := by
  rw [if_pos h]; exact a
theorem iteN {b : Bool} {A B : Prop} (h : b = false) (a : B) : if b = true then A else B := by
  rw [if_neg (by rw [h]; exact Bool.false_ne_true)]; exact a
theorem iteB {b : Bool} {A B : Prop} (h1 : b = true → A) (h2 : b = false → B) : if b = true then A else B := by
  cases b with
  | true => exact iteT (h1 rfl)
  | false => exact iteF (h2 rfl)
theorem bnt {b : Bool} (h : (!b) = true) : b = false := by cases b with | true => cases h | false => rfl
theorem bnf {b : Bool} (h : (!b) = false) : b = true := by cases b with | true => rfl | false => cases h
/-! ### readings made monotone -/
def taM (t : TA) : TA := fun σ H Q => ∃ R : List V → Hp → Prop, t σ H R ∧ ∀ vs H1, R vs H1 → Q vs H1
theorem pa_mono {X : Cx} {es : List Expr} {t : TA} (h : PA X es t) : PA X es (taM t) := ⟨fun pos pins s σ H Q I ⟨R, q, k⟩ => thn (h.run pos pins s σ H R I q) fun us s' ⟨vs, H', I', r, z⟩ => ⟨vs, H', I', r, k vs H' z⟩⟩
def teM (t : TE) : TE := fun σ H Q => ∃ R : VK, t σ H R ∧ ∀ v H1, R v H1 → Q v H1
theorem pe_mono {X : Cx} {e : Expr} {t : TE} (h : PE X e t) : PE X e (teM t) := ⟨fun pins s σ H Q I ⟨R, q, k⟩ => thn (h.run pins s σ H R I q) fun u s' ⟨v, H', I', r, z⟩ => ⟨v, H', I', r, k v H' z⟩⟩
/-! ### a new object: the heap behind it as a letter -/
def New (H : Hp) (p : Addr) (o : HO) (H' : Hp) : Prop := H p = none ∧ H' = upd H p o
theorem Same.at {H H' : Hp} {b : Addr} {o : HO} (s : Same H H') (h : H b = some o) : H' b = some o := s b o h
section
variable {H H' : Hp} {p b : Addr} {o u : HO}
theorem New.same (n : New H p o H') : Same H H' := fun b u e => by
  obtain ⟨h, rfl⟩ := n
  rw [upd_ne (ne_of_none e h)]
  exact e
theorem New.at (n : New H p o H') : H' p = some o := by
  obtain ⟨h, rfl⟩ := n
  exact upd_same
theorem New.ne (n : New H p o H') (h : H b = some u) : b ≠ p := ne_of_none h n.1
theorem New.none (n : New H p o H') (h : H' b = none) : H b = none := n.same.free h
theorem new_of (h : H p = none) : New H p o (upd H p o) := ⟨h, rfl⟩
end
section
variable {X : Cx} {a b e : Expr} {ta tb te : TE} {pos : Pos} {t : TA} {es : List Expr}
theorem PE.imp {t t' : TE} (h : PE X e t) (i : ∀ σ H Q, t' σ H Q → t σ H Q) : PE X e t' := ⟨fun pins s σ H Q I q => h.run pins s σ H Q I (i σ H Q q)⟩
theorem OpR.imp {f : Value → Value → Sem Value} {r r' : R2} (h : OpR X f r) (i : ∀ x y H Q, r' x y H Q → r x y H Q) : OpR X f r' := fun pins s σ H x y v u Q I rx ry q => h pins s σ H x y v u Q I rx ry (i _ _ _ _ q)
theorem CallR.imp {f : Value} {r r' : List V → Hp → VK → Prop} (h : CallR X f r) (i : ∀ xs H Q, r' xs H Q → r xs H Q) : CallR X f r' := fun pins s σ H xs us Q I rx q => h pins s σ H xs us Q I rx (i _ _ _ q)
theorem SlR.imp {r r' : V → Option Int → Option Int → Hp → VK → Prop} (h : SlR X r) (i : ∀ x l u H Q, r' x l u H Q → r x l u H Q) : SlR X r' := fun pins s σ H x v vl vu lo hi sl Q I rx hs pl pu q => h pins s σ H x v vl vu lo hi sl Q I rx hs pl pu (i _ _ _ _ _ q)
def tTupN (t : TA) : TE := fun σ H Q => t σ H fun xs H1 => xs.length ≤ sizeLine ∧ ∀ p H', New H1 p (.tup xs) H' → Q (.ref p) H'
def tLstN (t : TA) : TE := fun σ H Q => t σ H fun xs H1 => xs.length ≤ sizeLine ∧ ∀ p H', New H1 p (.lst xs) H' → Q (.ref p) H'
theorem pe_tupN {x1} (h : PA X es t) : PE X (.Tuple es x1 pos) (tTupN t) := by
  refine ⟨fun pins s σ H Q I hq => ?_⟩
  refine wpAny_Tuple_spliced (thn (h.run pos pins s σ H _ I hq) fun us s1 ⟨xs, H1, I1, r, z, q⟩ => ⟨by rw [← r.length]; exact z, ?_⟩)
  have hf : H1 s1.heap.objs.size = none := I1.hok.fresh (Nat.le_refl _)
  refine ⟨.ref s1.heap.objs.size, upd H1 s1.heap.objs.size (.tup xs), I1.laid (t' := s1.toks) (fun b u e => Heap.get?_push_of_some _ e) (Nat.le_refl _) ?_, rfl, q _ _ (new_of hf)⟩
  exact ⟨z, us, r, ⟨_, Heap.get?_push_size _ rfl, rfl, _, rfl⟩⟩
theorem pe_lstN (h : PA X es t) : PE X (.List es pos) (tLstN t) := by
  refine ⟨fun pins s σ H Q I hq => ?_⟩
  refine wpAny_List_spliced (thn (h.run pos pins s σ H _ I hq) fun us s1 ⟨xs, H1, I1, r, z, q⟩ => ⟨by rw [← r.length]; exact z, ?_⟩)
  have hf : H1 s1.heap.objs.size = none := I1.hok.fresh (Nat.le_refl _)
  refine ⟨.ref s1.heap.objs.size, upd H1 s1.heap.objs.size (.lst xs), I1.laid (t' := s1.toks) (fun b u e => Heap.get?_push_of_some _ e) (Nat.le_refl _) ?_, rfl, q _ _ (new_of hf)⟩
  exact ⟨z, us, 0, r, Heap.get?_push_size _ rfl⟩
def rCatN : R2 := fun x y H Q => ∃ l b xs zs, x = .ref l ∧ y = .ref b ∧ H l = some (.lst xs) ∧ H b = some (.lst zs) ∧ xs.length + zs.length ≤ sizeLine ∧ ∀ p H', New H p (.lst (xs ++ zs)) H' → Q (.ref p) H'
theorem op_catN : OpR X (binaryOp .Add) rCatN := OpR.imp op_cat fun x y H Q ⟨l, b, xs, zs, h1, h2, h3, h4, h5, q⟩ => ⟨l, b, xs, zs, h1, h2, h3, h4, h5, fun p hp => q p _ (new_of hp)⟩
theorem call_list_ofN : CallR X (.type "list") (fun xs H Q => ∃ p ys, xs = [.ref p] ∧ (SqL X.K H p ys ∨ SqT X.K H p ys) ∧ ∀ l H', New H l (.lst ys) H' → Q (.ref l) H') :=
  CallR.imp call_list_of fun xs H Q ⟨p, ys, h1, h2, q⟩ => ⟨p, ys, h1, h2, fun l hl => q l _ (new_of hl)⟩
def rSlLN (K : PySem.W.Frag) : V → Option Int → Option Int → Hp → VK → Prop := fun x lo hi H Q => ∃ a xs, x = .ref a ∧ SqL K H a xs ∧ ∀ p H', New H p (.lst (cutV xs lo hi)) H' → Q (.ref p) H'
theorem sl_listN : SlR X (rSlLN X.K) := SlR.imp sl_list fun x l u H Q ⟨a, xs, h1, h2, q⟩ => ⟨a, xs, h1, h2, fun p hp => q p _ (new_of hp)⟩
end

/-! ### data that == takes: its depth -/
def Lay (n : Nat) (d : PyData) : Prop := d.canLay0 = true ∧ d.depth ≤ n
theorem lay_all {n : Nat} : ∀ {ds : List PyData}, (∀ d ∈ ds, Lay n d) → PyData.canLayAll0 ds = true ∧ PyData.depthAll ds ≤ n
  | [], _ => by simp [PyData.canLayAll0, PyData.depthAll]
  | d :: ds, h => by
    have h1 := lay_all (ds := ds) fun x hx => h x (List.mem_cons_of_mem _ hx)
    have h2 := h d (List.mem_cons_self ..)
    simp only [PyData.canLayAll0, PyData.depthAll, h1.1, h2.1]
    refine ⟨rfl, ?_⟩
    have := h1.2
    have := h2.2
    omega
theorem lay_list {n : Nat} {ds : List PyData} (h : ∀ d ∈ ds, Lay n d) : Lay (n + 1) (.list ds) := by
  obtain ⟨h1, h2⟩ := lay_all h
  refine ⟨by simp only [PyData.canLay0]; exact h1, ?_⟩
  simp only [PyData.depth]
  omega
theorem lay_tuple {n : Nat} {ds : List PyData} (h : ∀ d ∈ ds, Lay n d) : Lay (n + 1) (.tuple ds) := by
  obtain ⟨h1, h2⟩ := lay_all h
  refine ⟨by simp only [PyData.canLay0]; exact h1, ?_⟩
  simp only [PyData.depth]
  omega
theorem lay_int (i : Int) : Lay 1 (.int i) := ⟨by simp [PyData.canLay0], by simp [PyData.depth]⟩
theorem lay_str {i : Str} (h : PyData.strOk i = true) : Lay 1 (.str i) := ⟨by simpa [PyData.canLay0] using h, by simp [PyData.depth]⟩
theorem lay_bool (i : Bool) : Lay 1 (.bool i) := ⟨by simp [PyData.canLay0], by simp [PyData.depth]⟩
theorem shaped_of {n : Nat} {d : PyData} (h : Lay n d) (hn : n ≤ 64) : SeqAt.shaped d = true := by
  unfold SeqAt.shaped
  rw [Bool.and_eq_true]
  exact ⟨h.1, decide_eq_true (Nat.le_trans h.2 hn)⟩
theorem dpAll_ints {K : PySem.W.Frag} {H : Hp} : ∀ ns : List Int, DpAll K H (ns.map V.int) (ns.map PyData.int)
  | [] => .nil
  | n :: ns => .cons (.int n) (dpAll_ints ns)
theorem shaped_ints (ns : List Int) : SeqAt.shaped (.list (ns.map PyData.int)) = true := shaped_of (lay_list (n := 1) fun d hd => by
  obtain ⟨i, _, rfl⟩ := List.mem_map.mp hd
  exact lay_int i) (by decide)
theorem shaped_nil : SeqAt.shaped (.list []) = true := shaped_ints []
theorem eqv_nil : ∀ ds : List PyData, PyData.eqv (.list ds) (.list []) = ds.isEmpty
  | [] => by simp [PyData.eqv, PyData.eqvAll]
  | d :: ds => by simp [PyData.eqv, PyData.eqvAll]
/-- xs == [], xs != [], whatever stands in xs -/
def rEqNil (neg : Bool) : R2 := fun x y H Q => ∃ l b, ∃ xs : List V, x = .ref l ∧ y = .ref b ∧ H l = some (.lst xs) ∧ H b = some (.lst []) ∧ Q (.bl (neg ^^ xs.isEmpty)) H
theorem nil_all {xs : List V} {its ity : List Value} (r : Vals xs its) (r2 : Vals [] ity) (h : xs = []) : its.toArray.size = ity.toArray.size ∧ (List.range its.toArray.size).all (fun _ => true) = true := by
  subst h
  cases r
  cases r2
  exact ⟨rfl, rfl⟩
theorem op_eqNil {X : Cx} (hu : X.A.units + 64 < cLine) : OpR X (compareOp .Eq) (rEqNil false) := by
  intro pins s σ H x y v u Q I rx ry h
  obtain ⟨l, b, xs, rfl, rfl, h1, h2, q⟩ := h
  cases rx
  cases ry
  obtain ⟨its, r, p, _⟩ := I.list (SqL.of h1)
  obtain ⟨ity, r2, p2, _⟩ := I.list (SqL.of h2)
  have hu' : X.A.units < cLine := by omega
  cases xs with
  | nil =>
    obtain ⟨e1, e2⟩ := nil_all r r2 rfl
    refine SeqAt.eq_listAt (e := fun _ => true) p.isList p2.isList e1 hu' (fun j j1 _ => ?_) (by rw [e2]; exact ⟨.bl true, H, I, rfl, q⟩)
    cases r
    exact absurd j1 (Nat.not_lt_zero _)
  | cons a t =>
    refine SeqAt.eq_list_lengthsAt p.isList p2.isList ?_ hu' ⟨.bl false, H, I, rfl, q⟩
    cases r
    cases r2
    rfl
theorem op_neNil {X : Cx} (hu : X.A.units + 64 < cLine) : OpR X (compareOp .NotEq) (rEqNil true) := by
  intro pins s σ H x y v u Q I rx ry h
  obtain ⟨l, b, xs, rfl, rfl, h1, h2, q⟩ := h
  cases rx
  cases ry
  obtain ⟨its, r, p, _⟩ := I.list (SqL.of h1)
  obtain ⟨ity, r2, p2, _⟩ := I.list (SqL.of h2)
  have hu' : X.A.units < cLine := by omega
  cases xs with
  | nil =>
    obtain ⟨e1, e2⟩ := nil_all r r2 rfl
    refine SeqAt.RcNeAt.lists (e := fun _ => true) p.isList p2.isList e1 hu' (fun j j1 _ => ?_) _ _ _ _ (by rw [e2]; exact ⟨.bl false, H, I, rfl, q⟩)
    cases r
    exact absurd j1 (Nat.not_lt_zero _)
  | cons a t =>
    refine SeqAt.RcNeAt.lists_lengths p.isList p2.isList ?_ hu' _ _ _ _ ⟨.bl true, H, I, rfl, q⟩
    cases r
    cases r2
    rfl

/-! ### the drawing state: its footprint F, and what is left alone -/
abbrev Fp := Addr → Prop
def Own (st l0 l1 : Addr) : Fp := fun b => b = st ∨ b = l0 ∨ b = l1
/-- from (F, H) to (F', H'): what was tracked outside of F stands; F' has grown by new objects alone -/
structure Fr (F : Fp) (H : Hp) (F' : Fp) (H' : Hp) : Prop where
  keep : ∀ b o, H b = some o → ¬ F b → H' b = some o
  grow : ∀ b, F' b → F b ∨ H b = none
  free : ∀ b, H' b = none → H b = none
theorem upd_free {H : Hp} {p b : Addr} {o : HO} (h : L2.upd H p o b = none) : H b = none := by
  by_cases e : b = p
  · subst e
    rw [upd_same] at h
    cases h
  · rw [upd_ne e] at h
    exact h
/-- o stands at b, outside of F -/
def Out (F : Fp) (H : Hp) (b : Addr) (o : HO) : Prop := H b = some o ∧ ¬ F b
structure StAt (H : Hp) (F : Fp) (st : Addr) (n : Nat) : Prop where
  ex : ∃ (l0 l1 : Addr) (cs ss : List Int) (c : Int), F = Own st l0 l1 ∧ st ≠ l0 ∧ st ≠ l1 ∧ l0 ≠ l1 ∧ H st = some (.lst [.ref l0, .ref l1, .int c]) ∧ H l0 = some (.lst (cs.map V.int)) ∧
    H l1 = some (.lst (ss.map V.int)) ∧ 0 < ss.length ∧ 0 ≤ c ∧ c ≤ n
section
variable {F F' F'' : Fp} {H H' H'' : Hp} {b p st : Addr} {o u : HO} {n m : Nat}
theorem Fr.refl (F : Fp) (H : Hp) : Fr F H F H := ⟨fun _ _ h _ => h, fun _ h => .inl h, fun _ h => h⟩
theorem Fr.out (f : Fr F H F' H') (h : Out F H b o) : Out F' H' b o :=
  ⟨f.keep b o h.1 h.2, fun z => (f.grow b z).elim h.2 fun e => by rw [h.1] at e; cases e⟩
theorem Fr.trans (f : Fr F H F' H') (g : Fr F' H' F'' H'') : Fr F H F'' H'' := by
  refine ⟨fun b o h n => ((g.out (f.out ⟨h, n⟩)).1), fun b z => ?_, fun b h => f.free b (g.free b h)⟩
  rcases g.grow b z with h | h
  · exact f.grow b h
  · by_cases hb : F b
    · exact .inl hb
    · cases e : H b with
      | none => exact .inr rfl
      | some o => rw [f.keep b o e hb] at h; cases h
theorem Fr.new (h : H p = none) : Fr F H F (upd H p o) := ⟨fun b u e _ => by rw [upd_ne (ne_of_none e h)]; exact e, fun _ z => .inl z, fun _ z => upd_free z⟩
/-- an object that was not there at the start may change -/
theorem Fr.mut (f : Fr F H F' H') (h : H p = none) : Fr F H F' (upd H' p o) := ⟨fun b u e nf => by rw [upd_ne (ne_of_none e h)]; exact f.keep b u e nf, f.grow, fun b z => f.free b (upd_free z)⟩
theorem Fr.none (f : Fr F H F' H') (hF : ¬ F p) (h : H' p = none) : H p = none := by
  cases e : H p with
  | none => rfl
  | some o => rw [f.keep p o e hF] at h; cases h
theorem StAt.dom (s : StAt H F st n) (h : F b) : ∃ o, H b = some o := by
  obtain ⟨l0, l1, cs, ss, c, rfl, _, _, _, h1, h2, h3, _⟩ := s.ex
  rcases h with rfl | rfl | rfl
  · exact ⟨_, h1⟩
  · exact ⟨_, h2⟩
  · exact ⟨_, h3⟩
theorem StAt.nf (s : StAt H F st n) (h : H b = none) : ¬ F b := fun z => by
  obtain ⟨o, e⟩ := s.dom z
  rw [h] at e
  cases e
theorem StAt.upd (s : StAt H F st n) (h : ¬ F p) : StAt (L2.upd H p o) F st n := by
  obtain ⟨l0, l1, cs, ss, c, rfl, a1, a2, a3, h1, h2, h3, r⟩ := s.ex
  exact ⟨l0, l1, cs, ss, c, rfl, a1, a2, a3, by rw [upd_ne fun e => h (.inl e.symm)]; exact h1, by rw [upd_ne fun e => h (.inr (.inl e.symm))]; exact h2, by rw [upd_ne fun e => h (.inr (.inr e.symm))]; exact h3, r⟩
theorem StAt.new (s : StAt H F st n) (h : H p = none) : StAt (L2.upd H p o) F st n := s.upd (s.nf h)
theorem StAt.mono (s : StAt H F st n) (h : n ≤ m) : StAt H F st m := by
  obtain ⟨l0, l1, cs, ss, c, e, a1, a2, a3, h1, h2, h3, h4, h5, h6⟩ := s.ex
  exact ⟨l0, l1, cs, ss, c, e, a1, a2, a3, h1, h2, h3, h4, h5, by omega⟩
theorem Out.upd (h : Out F H b o) (ne : b ≠ p) : Out F (L2.upd H p u) b o := ⟨by rw [upd_ne ne]; exact h.1, h.2⟩
theorem Out.new (h : Out F H b o) (np : H p = none) : Out F (L2.upd H p u) b o := h.upd (ne_of_none h.1 np)
theorem StAt.made (s : StAt H F st n) (h : H p = none) : Out F (L2.upd H p o) p o := ⟨upd_same, s.nf h⟩
theorem Fr.same (s : Same H H') : Fr F H F H' := ⟨fun b o h _ => s b o h, fun _ h => .inl h, fun _ h => s.free h⟩
theorem StAt.same (s : StAt H F st n) (e : Same H H') : StAt H' F st n := by
  obtain ⟨l0, l1, cs, ss, c, rfl, a1, a2, a3, h1, h2, h3, r⟩ := s.ex
  exact ⟨l0, l1, cs, ss, c, rfl, a1, a2, a3, e _ _ h1, e _ _ h2, e _ _ h3, r⟩
theorem New.fr (e : New H p o H') : Fr F H F H' := Fr.same e.same
theorem New.sta (e : New H p o H') (s : StAt H F st n) : StAt H' F st n := s.same e.same
theorem New.out (e : New H p o H') (s : StAt H F st n) : Out F H' p o := ⟨e.at, s.nf e.1⟩
theorem Out.here (h : ¬ F p) : Out F (L2.upd H p o) p o := ⟨upd_same, h⟩
end

/-! ### _law_start, _law_draw: their promises -/
def spStart (K : PySem.W.Frag) : Sp := fun vs H Q _ => ∃ (a : Addr) (ns : List Int), vs = [.ref a] ∧ SqL K H a (ns.map V.int) ∧ ns.length ≤ 63 ∧
  ∀ (st : Addr) (F : Fp) (H' : Hp), StAt H' F st 0 → Same H H' → (∀ b, F b → H b = none) → Q (.ref st) H'
def spDraw : Sp := fun vs H Q _ => ∃ (F : Fp) (st : Addr) (n : Nat) (size : Int), vs = [.ref st, .int size] ∧ StAt H F st n ∧ n < 2 ^ 40 ∧ 0 < size ∧ size < 2 ^ 200 ∧
  ∀ (d : Int) (F' : Fp) (H' : Hp), 0 ≤ d → d < size → StAt H' F' st (n + 1) → Fr F H F' H' → Q (.int d) H'
theorem spDraw.call {F : Fp} {H : Hp} {st : Addr} {n : Nat} {size : Int} {Q : VK} {E : XK} (s : StAt H F st n) (hn : n < 2 ^ 40) (h0 : 0 < size) (h1 : size < 2 ^ 200)
    (k : ∀ (d : Int) (F' : Fp) (H' : Hp), 0 ≤ d → d < size → StAt H' F' st (n + 1) → Fr F H F' H' → Q (.int d) H') : spDraw [.ref st, .int size] H Q E := ⟨F, st, n, size, rfl, s, hn, h0, h1, k⟩
/-- a law's own promise -/
def spLaw (K : PySem.W.Frag) : Sp := fun vs H Q _ => ∃ (a : Addr) (ns : List Int), vs = [.ref a] ∧ SqL K H a (ns.map V.int) ∧ ns.length ≤ 63 ∧ ∀ H', Q (.bl true) H'
end Xl

local macro_rules | `(tactic| walk_at "out") => `(tactic| (first | assumption | (refine Xl.Fr.out (by assumption) ?_; walk_at "out")))
local macro_rules | `(tactic| walk_at "at") => `(tactic| (first | assumption | exact And.left (by assumption) | exact Xl.New.at (by assumption) | (refine Xl.Same.at (by first | assumption | exact Xl.New.same (by assumption)) ?_; walk_at "at") | exact And.left (show Xl.Out _ _ _ _ by walk_at "out")))
local macro_rules | `(tactic| walk_at "same") => `(tactic| (first | assumption | exact Xl.New.same (by assumption) | (refine L2.Same.trans ?_ (by first | assumption | exact Xl.New.same (by assumption)); walk_at "same") | exact L2.Same.refl _))
local macro_rules | `(tactic| walk_at "fr") => `(tactic| (first | assumption | exact Xl.Fr.refl _ _ | (refine Xl.Fr.trans ?_ (by assumption); walk_at "fr")))
local macro_rules | `(tactic| walk_at "rd") => `(tactic| (repeat (first
  | (refine ⟨_, rfl, ?_⟩) | (refine ⟨_, _, rfl, rfl, ?_⟩) | (refine ⟨_, _, _, _, rfl, rfl, L2.SqL.of (by walk_at "at"), rfl, ?_⟩) | (refine ⟨_, _, _, _, rfl, rfl, L2.SqT.of (by walk_at "at"), rfl, ?_⟩))))

namespace Xl
open PySem L2
def top (i : Nat) : Stmt := PySem.Challenge.pw_extralink_k04_ratio_read.main.body.getD i (.Pass ⟨0, 0, 0, 0⟩)
abbrev s_OutOfRange___init__ : Stmt := inClass (top 3) 0
abbrev s_BadText___init__ : Stmt := inClass (top 4) 0
abbrev s_common_divisor : Stmt := top 8
abbrev s_Ratio___init__ : Stmt := inClass (top 9) 0
abbrev s_Ratio_read : Stmt := inClass (top 9) 1
abbrev s_Ratio_top : Stmt := inClass (top 9) 2
abbrev s_Ratio_bottom : Stmt := inClass (top 9) 3
abbrev s_read_number : Stmt := top 10
abbrev s_start : Stmt := top 13
abbrev s_draw : Stmt := top 14
abbrev s_signs : Stmt := top 15
abbrev s_low : Stmt := top 16
abbrev s_is : Stmt := top 20
abbrev s_digits : Stmt := top 21
abbrev s_pieced : Stmt := top 22
abbrev s_drawn : Stmt := top 23
abbrev s_spoiled : Stmt := top 24
abbrev s_number : Stmt := top 25
abbrev s_due : Stmt := top 26
abbrev s_law : Stmt := top 27
/-- what the top has left -/
structure GG (K : PySem.W.Frag) (mg : Str → Option Value) where
  c_ExtralinkError : Addr
  g_ExtralinkError : mg "ExtralinkError" = some (.ref c_ExtralinkError)
  c_OutOfRange : Addr
  g_OutOfRange : mg "OutOfRange" = some (.ref c_OutOfRange)
  c_BadText : Addr
  g_BadText : mg "BadText" = some (.ref c_BadText)
  c_Ratio : Addr
  g_Ratio : mg "Ratio" = some (.ref c_Ratio)
  a_OutOfRange___init__ : Addr
  fd_OutOfRange___init__ : FuncData
  F_OutOfRange___init__ : Fun K "__init__" "OutOfRange.__init__" s_OutOfRange___init__ a_OutOfRange___init__ fd_OutOfRange___init__
  a_BadText___init__ : Addr
  fd_BadText___init__ : FuncData
  F_BadText___init__ : Fun K "__init__" "BadText.__init__" s_BadText___init__ a_BadText___init__ fd_BadText___init__
  a_common_divisor : Addr
  fd_common_divisor : FuncData
  F_common_divisor : Fun K "common_divisor" "common_divisor" s_common_divisor a_common_divisor fd_common_divisor
  m_common_divisor : mg "common_divisor" = some (.ref a_common_divisor)
  a_Ratio___init__ : Addr
  fd_Ratio___init__ : FuncData
  F_Ratio___init__ : FunD K "__init__" "Ratio.__init__" (defArgs s_Ratio___init__) (defBody s_Ratio___init__) (defScope s_Ratio___init__) [.int 1] [] a_Ratio___init__ fd_Ratio___init__
  a_Ratio_read : Addr
  fd_Ratio_read : FuncData
  F_Ratio_read : Fun K "read" "Ratio.read" s_Ratio_read a_Ratio_read fd_Ratio_read
  a_Ratio_top : Addr
  fd_Ratio_top : FuncData
  F_Ratio_top : Fun K "top" "Ratio.top" s_Ratio_top a_Ratio_top fd_Ratio_top
  a_Ratio_bottom : Addr
  fd_Ratio_bottom : FuncData
  F_Ratio_bottom : Fun K "bottom" "Ratio.bottom" s_Ratio_bottom a_Ratio_bottom fd_Ratio_bottom
  a_read_number : Addr
  fd_read_number : FuncData
  F_read_number : Fun K "read_number" "read_number" s_read_number a_read_number fd_read_number
  m_read_number : mg "read_number" = some (.ref a_read_number)
  a_start : Addr
  fd_start : FuncData
  F_start : Fun K "_law_start" "_law_start" s_start a_start fd_start
  m_start : mg "_law_start" = some (.ref a_start)
  a_draw : Addr
  fd_draw : FuncData
  F_draw : Fun K "_law_draw" "_law_draw" s_draw a_draw fd_draw
  m_draw : mg "_law_draw" = some (.ref a_draw)
  a_signs : Addr
  fd_signs : FuncData
  F_signs : Fun K "_law_signs" "_law_signs" s_signs a_signs fd_signs
  m_signs : mg "_law_signs" = some (.ref a_signs)
  a_low : Addr
  fd_low : FuncData
  F_low : Fun K "_law_low" "_law_low" s_low a_low fd_low
  m_low : mg "_law_low" = some (.ref a_low)
  a_is : Addr
  fd_is : FuncData
  F_is : Fun K "_law_is" "_law_is" s_is a_is fd_is
  m_is : mg "_law_is" = some (.ref a_is)
  a_digits : Addr
  fd_digits : FuncData
  F_digits : Fun K "_law_digits" "_law_digits" s_digits a_digits fd_digits
  m_digits : mg "_law_digits" = some (.ref a_digits)
  a_pieced : Addr
  fd_pieced : FuncData
  F_pieced : Fun K "_law_pieced" "_law_pieced" s_pieced a_pieced fd_pieced
  m_pieced : mg "_law_pieced" = some (.ref a_pieced)
  a_drawn : Addr
  fd_drawn : FuncData
  F_drawn : Fun K "_law_drawn" "_law_drawn" s_drawn a_drawn fd_drawn
  m_drawn : mg "_law_drawn" = some (.ref a_drawn)
  a_spoiled : Addr
  fd_spoiled : FuncData
  F_spoiled : Fun K "_law_spoiled" "_law_spoiled" s_spoiled a_spoiled fd_spoiled
  m_spoiled : mg "_law_spoiled" = some (.ref a_spoiled)
  a_number : Addr
  fd_number : FuncData
  F_number : Fun K "_law_number" "_law_number" s_number a_number fd_number
  m_number : mg "_law_number" = some (.ref a_number)
  a_due : Addr
  fd_due : FuncData
  F_due : Fun K "_law_due" "_law_due" s_due a_due fd_due
  m_due : mg "_law_due" = some (.ref a_due)
  a_law : Addr
  fd_law : FuncData
  F_law : Fun K "law" "law" s_law a_law fd_law
  m_law : mg "law" = some (.ref a_law)
  g_DIGITS : ∃ u, mg "DIGITS" = some u ∧ RelV (.str "0123456789") u
  g_MOST_DIGITS : ∃ u, mg "MOST_DIGITS" = some u ∧ RelV (.int 9) u
  z_ValueError : mg "ValueError" = none
  z_abs : mg "abs" = none
  z_classmethod : mg "classmethod" = none
  z_int : mg "int" = none
  z_isinstance : mg "isinstance" = none
  z_len : mg "len" = none
  z_list : mg "list" = none
  z_property : mg "property" = none
  z_range : mg "range" = none
  z_str : mg "str" = none
  ei_ExtralinkError : ∃ mc, ClX.CRead K c_ExtralinkError mc ∧ PySem.W.findCls K (.ref c_ExtralinkError) mc "__init__" = some (.val (.builtin "ValueError.__init__"))
  ox_OutOfRange : OexC K c_OutOfRange
  in_OutOfRange : PySem.W.findIn K (.ref c_OutOfRange) "__init__" = some (some (.ref a_OutOfRange___init__)) ∧ PySem.W.typeIn K (.ref a_OutOfRange___init__) = some (.type "function")
  no_OutOfRange_value : PySem.W.findIn K (.ref c_OutOfRange) "value" = some none
  xf_OutOfRange : XfC K c_OutOfRange
  te_OutOfRange : PySem.W.exmOne K (.ref c_OutOfRange) (.ref c_OutOfRange) = some true
  ox_BadText : OexC K c_BadText
  in_BadText : PySem.W.findIn K (.ref c_BadText) "__init__" = some (some (.ref a_BadText___init__)) ∧ PySem.W.typeIn K (.ref a_BadText___init__) = some (.type "function")
  no_BadText_text : PySem.W.findIn K (.ref c_BadText) "text" = some none
  xf_BadText : XfC K c_BadText
  te_BadText : PySem.W.exmOne K (.ref c_BadText) (.ref c_BadText) = some true
  ty_BadText : PySem.W.findIn K (.ref c_BadText) "__class__" = some (some (.builtin "object.__class__")) ∧ PySem.W.specialIn K (.builtin "object.__class__") "__get__" = some (some (.builtin "getset_descriptor.__get__")) ∧ PySem.W.takesIn K (.builtin "object.__class__") = some true ∧ PySem.W.mroIn K c_BadText (.type "object") = some true
  isa_BadText_ExtralinkError : PySem.W.kitOne K (.ref c_BadText) (.ref c_ExtralinkError) = some true
  isa_BadText_ValueError : PySem.W.kitOne K (.ref c_BadText) (.type "ValueError") = some true
  cl_Ratio : Cls K c_Ratio
  mk_Ratio : Mk K c_Ratio a_Ratio___init__
  no_Ratio_upper : NoAttr K c_Ratio "upper"
  no_Ratio_lower : NoAttr K c_Ratio "lower"
  me_Ratio___init__ : Meth K c_Ratio "__init__" a_Ratio___init__
  pr_Ratio_top : ∃ p, PropOf K c_Ratio "top" p a_Ratio_top
  pr_Ratio_bottom : ∃ p, PropOf K c_Ratio "bottom" p a_Ratio_bottom
  cm_Ratio_read : ∃ mc p, ClX.CRead K c_Ratio mc ∧ ClX.CMet K c_Ratio mc "read" p a_Ratio_read
  ty_Ratio : PySem.W.findIn K (.ref c_Ratio) "__class__" = some (some (.builtin "object.__class__")) ∧ PySem.W.specialIn K (.builtin "object.__class__") "__get__" = some (some (.builtin "getset_descriptor.__get__")) ∧ PySem.W.takesIn K (.builtin "object.__class__") = some true ∧ PySem.W.mroIn K c_Ratio (.type "object") = some true
  isa_Ratio_Ratio : PySem.W.kitOne K (.ref c_Ratio) (.ref c_Ratio) = some true
  isa_int_Ratio : PySem.W.kitOne K (.type "int") (.ref c_Ratio) = some false
end Xl

namespace Xl
open PySem L2
section
variable {P : Program} {w : World} {K : PySem.W.Frag} {mg : Str → Option Value} {base : Heap}
theorem int_at {ns : List Int} {i : Nat} {x : V} (h : (ns.map V.int)[i]? = some x) : ∃ z, ns[i]? = some z ∧ x = V.int z := by
  rw [List.getElem?_map] at h
  cases e : ns[i]? with
  | none => rw [e] at h; cases h
  | some z => rw [e] at h; exact ⟨z, rfl, (Option.some.inj h).symm⟩
theorem small_sz {n : Nat} (h : n ≤ 1000000) : n ≤ sizeLine := Nat.le_trans h (by decide)
theorem small_szlt {n : Nat} (h : n ≤ 1000000) : n < sizeLine := Nat.lt_of_le_of_lt h (by decide)
theorem ixN_at {n j : Nat} (h : j < n) : ixN n (j : Int) = some j := by
  unfold ixN
  rw [if_pos (by omega), if_pos (by omega), Int.toNat_natCast]
abbrev N_start : List Str := ["_law_script", "_law_cell"]
theorem sc_start : FnScope N_start ["_law_script"] (defScope s_start) := ⟨rfl, rfl, rfl, by decide +kernel, rfl, by decide +kernel, by decide +kernel⟩
theorem ok_start (T : GG K mg) : FnOk P w K mg base (L2.CX P w) 1 T.a_start T.fd_start ["_law_script"] (spStart K) := by
  refine okN T.F_start sc_start (fun vs H Q E h => ?_) (fun cdv A outer s H vs Q E hr h => ?_)
  · obtain ⟨a, ns, rfl, _⟩ := h
    rfl
  · obtain ⟨a, ns, rfl, hS, hl, k⟩ := h
    refine ⟨_, (pss_one (ps_ret (pe_lstN (pa_cons (pe_lc (own := [("_law_cell", 1)])  rfl sc_start.nd (pi_list (pv 0)) (blkOk_by (N := N_start) (sc := defScope s_start) (by decide +kernel)) (fun _ _ _ _ _ => (pg_name (i := 1) sc_start.nd rfl (Or.inl rfl)))
      (fun _ _ _ _ _ => (pts_one (pt_cmpR op_ge (pe_callB call_abs rfl T.z_abs (by decide +kernel) (pa_cons (pv 1) pa_nil)) (pe_op op_pow pe_int pe_int) (nomark _)))) (fun _ _ _ _ _ => (pe_callB call_abs rfl T.z_abs (by decide +kernel) (pa_cons (pv 1) pa_nil))))
      (pa_cons (pe_op op_catN (pe_callTy call_list_ofN rfl T.z_list (by decide +kernel) (pa_cons (pv 0) pa_nil)) (pe_lstN (pa_cons pe_int pa_nil))) (pa_cons pe_int pa_nil)))))), ?_⟩
    refine ⟨_, rfl, a, rfl, ⟨_, hS⟩, fun D hD => lc_list (K := K) (a := a) (xs := ns.map V.int) (fun i H1 => ∃ cs : List Int, cs.length ≤ i ∧ H1 D = some (.lst (cs.map V.int)) ∧ Same H H1) ?_ ?_ ?_ ?_⟩
    · exact ⟨[], Nat.le_refl _, upd_same, (new_of hD).same⟩
    · rintro i H1 _ ⟨cs, _, _, hs⟩
      exact Same.seq hs hS
    · rintro i x H1 hx ⟨cs, hc, h1, hs⟩
      obtain ⟨z, hz, rfl⟩ := int_at hx
      have hil := (List.getElem?_eq_some_iff.mp hz).1
      refine ⟨rfl, _, rfl, _, rfl, _, _, rfl, rfl, ⟨by decide, by decide, by decide⟩, _, _, rfl, rfl, _, rfl, ite2 (fun _ => ?_) (fun _ => ?_)⟩
      · refine ⟨_, rfl, _, rfl, _, h1, ?_, cs ++ [(if z < 0 then -z else z)], ?_, ?_, fun b o e => ?_⟩
        · rw [List.length_map]; exact small_szlt (by omega)
        · rw [List.length_append]; exact Nat.succ_le_succ hc
        · rw [upd_same, List.map_append]; rfl
        · rw [upd_ne (ne_of_none e hD)]; exact hs b o e
      · exact ⟨cs, Nat.le_succ_of_le hc, h1, hs⟩
    · rintro H1 ⟨cs, hc, h1, hs⟩
      refine ⟨_, rfl, a, _, rfl, .inl (Same.seq hs hS), fun l H2 n2 => ⟨(by show 1 ≤ sizeLine; decide), fun l5 H3 n3 => ?_⟩⟩
      refine ⟨l, l5, _, _, rfl, rfl, by walk_at "at", n3.at, ?_, fun l1 H4 n4 => ?_⟩
      · rw [List.length_map]; exact small_sz (show ns.length + 1 ≤ 1000000 by omega)
      refine ⟨(by show 3 ≤ sizeLine; decide), fun st H5 n5 => ?_⟩
      have hD3 : H3 D = some (.lst (cs.map V.int)) := n3.same _ _ (n2.same _ _ h1)
      have hD4 := n4.same _ _ hD3
      have d3 : D ≠ l1 := n4.ne hD3
      have d5 : D ≠ st := n5.ne hD4
      have d4 : l1 ≠ st := n5.ne n4.at
      have s5 : Same H H5 := (((hs.trans n2.same).trans n3.same).trans n4.same).trans n5.same
      refine k st (Own st D l1) _ ⟨D, l1, cs, ns ++ [5], 0, rfl, d5.symm, d4.symm, d3, n5.at, n5.same _ _ hD4, ?_, ?_, by decide, by decide⟩ s5 fun b hb => ?_
      · rw [List.map_append]; exact n5.same _ _ n4.at
      · rw [List.length_append]; exact Nat.succ_pos _
      · rcases hb with rfl | rfl | rfl
        · exact (((hs.trans n2.same).trans n3.same).trans n4.same).free n5.1
        · exact hD
        · exact ((hs.trans n2.same).trans n3.same).free n4.1
theorem F_start (T : GG K mg) : FnI P w K mg base "_law_start" 1 ["_law_script"] (spStart K) :=
  ⟨T.a_start, T.fd_start, ok_start T, T.m_start, T.F_start.kp, T.F_start.binds fun _ _ _ _ _ _ us hl => match us, hl with | [_], _ => rfl⟩

/-! ### _law_draw -/
/-- the state with the cells cs at l0, the copy ss at l1, the count c -/
structure StIn (H : Hp) (st l0 l1 : Addr) (cs ss : List Int) (c : Int) : Prop where
  n0 : st ≠ l0
  n1 : st ≠ l1
  n2 : l0 ≠ l1
  h0 : H st = some (.lst [.ref l0, .ref l1, .int c])
  h1 : H l0 = some (.lst (cs.map V.int))
  h2 : H l1 = some (.lst (ss.map V.int))
theorem draw_cell {x : Int} : 0 ≤ x % 2147483647 ∧ x % 2147483647 < 2147483647 := ⟨Int.emod_nonneg _ (by decide), Int.emod_lt_of_pos _ (by decide)⟩
theorem draw_pow {x c k m : Int} {n : Nat} (h0 : 0 ≤ x) (h1 : x < 2147483647) (h2 : 0 ≤ c) (h3 : c ≤ n) (h4 : n ≤ 2 ^ 40) (hk : 0 ≤ k) (hk2 : k < 100000) (hm : 0 ≤ m) (hm2 : m < 100000) (j : Int) (hj : 0 ≤ j) (hj2 : j < 100) : (x * k + c * m + j).natAbs < 2 ^ 64 := by
  have a1 : x * k ≤ 2147483647 * 100000 := Int.mul_le_mul (by omega) (by omega) hk (by decide)
  have a2 : 0 ≤ x * k := Int.mul_nonneg h0 hk
  have a3 : c * m ≤ 1099511627776 * 100000 := Int.mul_le_mul (by omega) (by omega) hm (by decide)
  have a4 : 0 ≤ c * m := Int.mul_nonneg h2 hm
  omega
abbrev N_draw : List Str := ["_law_state", "_law_size", "_law_cell", "_law_one", "_law_digit"]
theorem sc_draw : FnScope N_draw ["_law_state", "_law_size"] (defScope s_draw) := ⟨rfl, rfl, rfl, by decide +kernel, rfl, by decide +kernel, by decide +kernel⟩
theorem ok_draw (T : GG K mg) : FnOk P w K mg base (L2.CX P w) 1 T.a_draw T.fd_draw ["_law_state", "_law_size"] spDraw := by
  refine okN T.F_draw sc_draw (fun vs H Q E h => ?_) (fun cdv A outer s H vs Q E hr h => ?_)
  · obtain ⟨F, st, n, size, rfl, _⟩ := h
    rfl
  · obtain ⟨F, st, n, size, rfl, hst, hn, hs0, hs1, k⟩ := h
    obtain ⟨l0, l1, cs, ss, c, rfl, a1, a2, a3, h1, h2, h3, hss, hc0, hc1⟩ := hst.ex
    refine ⟨_, (pss_cons (ps_augS (pv 0) pe_int get_list pe_int ip_add set_list)
      (pss_cut (ps_while PassesOwn.never (PW.pt (pw_and (pt_cmpR (op_neNil hr.units) (pe_ix ix_list (pv 0) pe_int (fun _ _ => rfl)) (pe_lstN pa_nil) (nomark _)) (pw_and1 (pt_cmpR op_eq (pe_ix ix_list (pe_ix ix_list (pv 0) pe_int (fun _ _ => rfl)) pe_int (fun _ _ => rfl)) pe_int (nomark _)))))
        (pss_one (ps_asg (pe_slice sl_listN (pe_ix ix_list (pv 0) pe_int (fun _ _ => rfl)) (po_some pe_int) po_none) (pg_sub (pv 0) pe_int set_list))))
      (pss_cons (ps_if (pt_cmpR (op_neNil hr.units) (pe_ix ix_list (pv 0) pe_int (fun _ _ => rfl)) (pe_lstN pa_nil) (nomark _)) (pss_cons (ps_set (i := 4) sc_draw.nd rfl (Or.inl rfl) (pe_op op_mod (pe_callTy call_int1 rfl T.z_int (by decide +kernel) (pa_cons (pe_ix ix_list (pe_ix ix_list (pv 0) pe_int (fun _ _ => rfl)) pe_int (fun _ _ => rfl)) pa_nil)) (pv 1)))
        (pss_cons (ps_asg (pe_op op_fdivW (pe_ix ix_list (pe_ix ix_list (pv 0) pe_int (fun _ _ => rfl)) pe_int (fun _ _ => rfl)) (pv 1)) (pg_sub (pe_ix ix_list (pv 0) pe_int (fun _ _ => rfl)) pe_int set_list))
        (pss_one (ps_ret (pv 4))))) pss_nil)
      (pss_cons (ps_set (i := 2) sc_draw.nd rfl (Or.inl rfl) (pe_op op_mod (pe_callTy call_int1 rfl T.z_int (by decide +kernel) (pa_cons (pe_ix ix_list (pe_ix ix_list (pv 0) pe_int (fun _ _ => rfl)) (pe_op op_mod (pe_callTy call_int1 rfl T.z_int (by decide +kernel) (pa_cons (pe_ix ix_list (pv 0) pe_int (fun _ _ => rfl)) pa_nil)) (pe_callB call_len_seq rfl T.z_len PySem.boot_len (pa_cons (pe_ix ix_list (pv 0) pe_int (fun _ _ => rfl)) pa_nil))) (fun _ _ => rfl)) pa_nil)) pe_int))
      (pss_cons (ps_set (i := 3) sc_draw.nd rfl (Or.inl rfl) (pe_op op_mod (pe_callTy call_int1 rfl T.z_int (by decide +kernel) (pa_cons (pe_op op_pow (pe_op op_add (pe_op op_add (pe_op op_mul (pv 2) pe_int) (pe_op op_mul (pe_ix ix_list (pv 0) pe_int (fun _ _ => rfl)) pe_int)) pe_int) pe_int) pa_nil)) pe_int))
      (pss_one (ps_ret (pe_op op_mod (pe_op op_mod (pe_callTy call_int1 rfl T.z_int (by decide +kernel) (pa_cons (pe_op op_pow (pe_op op_add (pe_op op_add (pe_op op_mul (pv 3) pe_int) (pe_op op_mul (pe_ix ix_list (pv 0) pe_int (fun _ _ => rfl)) pe_int)) pe_int) pe_int) pa_nil)) pe_int) (pv 1))))))))), ?_⟩
    -- state[2] += 1
    refine ⟨_, rfl, st, _, _, _, rfl, rfl, SqL.of h1, rfl, _, _, rfl, rfl, st, _, 2, 2, rfl, rfl, h1, rfl, ?_⟩
    -- the cells of nought are dropped
    refine ⟨fun σ H1 => ∃ (l : Addr) (cs1 : List Int), σ = [some (.ref st), some (.int size), none, none, none] ∧ StIn H1 st l l1 cs1 ss (c + 1) ∧ Fr (Own st l0 l1) H (Own st l l1) H1,
      ⟨fun m σ H1 => ∃ (l : Addr) (cs1 : List Int), m = cs1.length ∧ σ = [some (.ref st), some (.int size), none, none, none] ∧ StIn H1 st l l1 cs1 ss (c + 1) ∧ Fr (Own st l0 l1) H (Own st l l1) H1, ⟨_, l0, cs, rfl, rfl, ⟨a1, a2, a3, upd_same, ?_, ?_⟩, ?_, fun _ z => .inl z, fun _ z => upd_free z⟩, ?_⟩, ?_⟩
    · rw [upd_ne a1.symm]; exact h2
    · rw [upd_ne a2.symm]; exact h3
    · intro b o e nb
      rw [upd_ne fun z => nb (.inl z)]; exact e
    · rintro m σ H1 ⟨l, cs1, rfl, rfl, S, fr⟩
      refine ⟨_, rfl, st, _, _, _, rfl, rfl, SqL.of S.h0, rfl, (by show 0 ≤ sizeLine; decide), fun p H2 n2 => ⟨l, p, _, rfl, rfl, n2.same _ _ S.h1, n2.at, ?_⟩⟩
      have S2 : StIn H2 st l l1 cs1 ss (c + 1) := ⟨S.n0, S.n1, S.n2, n2.same _ _ S.h0, n2.same _ _ S.h1, n2.same _ _ S.h2⟩
      have fr2 : Fr (Own st l0 l1) H (Own st l l1) H2 := fr.trans (Fr.same n2.same)
      cases cs1 with
      | nil => exact ⟨_, rfl, iteF (iteF ⟨l, [], rfl, S2, fr2⟩)⟩
      | cons z r =>
        refine ⟨_, rfl, iteT ⟨_, rfl, st, _, _, _, rfl, rfl, SqL.of S2.h0, rfl, l, _, _, V.int z, rfl, rfl, SqL.of S2.h1, at_of (j := 0) rfl rfl, rfl, _, rfl, ?_⟩⟩
        refine ite2 (fun _ => ?_) (fun _ => ⟨l, _, rfl, S2, fr2⟩)
        refine ⟨_, fun _ _ h => h, ?_⟩
        refine ⟨_, rfl, st, _, _, _, rfl, rfl, SqL.of S2.h0, rfl, _, rfl, l, _, rfl, SqL.of S2.h1, fun p3 H3 n3 => ⟨_, rfl, st, _, 0, 0, rfl, rfl, n3.same _ _ S2.h0, rfl, ?_⟩⟩
        have e1 : cutV ((z :: r).map V.int) (some 1) none = r.map V.int := by
          simp [cutV, HT.sIx]
          rw [List.take_of_length_le (by rw [List.length_map]; exact Nat.le_refl _)]
        have m1 : st ≠ p3 := n3.ne S2.h0
        have m2 : l1 ≠ p3 := n3.ne S2.h2
        refine ⟨r.length, Nat.lt_succ_self _, p3, r, rfl, rfl, ⟨m1, S2.n1, m2.symm, upd_same, ?_, ?_⟩, ?_, ?_, fun b z => fr2.free b (n3.same.free (upd_free z))⟩
        · rw [upd_ne m1.symm, ← e1]; exact n3.at
        · rw [upd_ne S2.n1.symm]; exact n3.same _ _ S2.h2
        · intro b o e nb
          have q := fr2.out ⟨e, nb⟩
          rw [upd_ne fun z => q.2 (.inl z)]
          exact n3.same _ _ q.1
        · intro b hb
          rcases hb with rfl | rfl | rfl
          · exact .inl (.inl rfl)
          · by_cases hF : Own st l0 l1 b
            · exact .inl hF
            · exact .inr (fr2.none hF n3.1)
          · exact .inl (.inr (.inr rfl))
    · rintro σ H1 ⟨l, cs1, rfl, S, fr⟩
      refine ⟨_, rfl, st, _, _, _, rfl, rfl, SqL.of S.h0, rfl, (by show 0 ≤ sizeLine; decide), fun p H2 n2 => ⟨l, p, _, rfl, rfl, n2.same _ _ S.h1, n2.at, ?_⟩⟩
      have S2 : StIn H2 st l l1 cs1 ss (c + 1) := ⟨S.n0, S.n1, S.n2, n2.same _ _ S.h0, n2.same _ _ S.h1, n2.same _ _ S.h2⟩
      have fr2 : Fr (Own st l0 l1) H (Own st l l1) H2 := fr.trans (Fr.same n2.same)
      have hc2 : c + 1 ≤ (n + 1 : Nat) := by omega
      cases cs1 with
      | cons z r =>
        refine ⟨_, rfl, iteT ⟨_, rfl, st, _, _, _, rfl, rfl, SqL.of S2.h0, rfl, l, _, _, V.int z, rfl, rfl, SqL.of S2.h1, at_of (j := 0) rfl rfl, .inl ⟨_, rfl, _, rfl, _, _, rfl, rfl, hs0, ?_⟩⟩⟩
        refine ⟨_, rfl, st, _, _, _, rfl, rfl, SqL.of S2.h0, rfl, l, _, _, V.int z, rfl, rfl, SqL.of S2.h1, at_of (j := 0) rfl rfl, _, rfl, _, _, rfl, rfl, wide_div hs0 (b := 200) (by omega) (by decide) (by decide), ?_⟩
        refine ⟨_, rfl, st, _, _, _, rfl, rfl, SqL.of S2.h0, rfl, l, _, 0, 0, rfl, rfl, S2.h1, ixN_at (by simp), _, rfl, ?_⟩
        refine k _ (Own st l l1) _ (Int.emod_nonneg _ (by omega)) (Int.emod_lt_of_pos _ hs0) ⟨l, l1, (z / size) :: r, ss, c + 1, rfl, S2.n0, S2.n1, S2.n2, ?_, ?_, ?_, hss, by omega, hc2⟩ ⟨?_, fr2.grow, fun b z => fr2.free b (upd_free z)⟩
        · rw [upd_ne S2.n0]; exact S2.h0
        · rw [upd_same]; rfl
        · rw [upd_ne S2.n2.symm]; exact S2.h2
        · intro b o e nb
          have q := fr2.out ⟨e, nb⟩
          rw [upd_ne fun z => q.2 (.inr (.inl z))]
          exact q.1
      | nil =>
        refine ⟨_, rfl, iteF ?_⟩
        -- cell
        have hlen : (0 : Int) < (ss.length : Int) := by omega
        have hm0 := Int.emod_nonneg (c + 1) (show (ss.length : Int) ≠ 0 by omega)
        have hm1 := Int.emod_lt_of_pos (c + 1) hlen
        obtain ⟨j, ej⟩ : ∃ j : Nat, (c + 1) % (ss.length : Int) = (j : Int) := ⟨((c + 1) % (ss.length : Int)).toNat, by omega⟩
        have hj : j < ss.length := by omega
        refine ⟨_, rfl, st, _, _, _, rfl, rfl, SqL.of S2.h0, rfl, _, rfl, st, _, _, _, rfl, rfl, SqL.of S2.h0, rfl, .inl ⟨_, rfl, _, rfl, st, _, _, _, rfl, rfl, SqL.of S2.h0, rfl, l1, _, rfl, .inl (SqL.of S2.h2), _, _, rfl, rfl, (by rw [List.length_map]; exact hlen),
          l1, _, _, V.int ss[j], rfl, rfl, SqL.of S2.h2, at_of (j := j) (by rw [List.length_map]; exact ej) (by rw [List.getElem?_map, List.getElem?_eq_getElem hj]; rfl), .inl ⟨_, rfl, _, _, rfl, rfl, (by show (0 : Int) < 2147483647; decide), ?_⟩⟩⟩
        obtain ⟨g0, g1⟩ := draw_cell (x := ss[j])
        -- one
        refine ⟨_, rfl, _, _, rfl, rfl, .inr ⟨by decide, by decide⟩, _, rfl, st, _, _, _, rfl, rfl, SqL.of S2.h0, rfl, _, _, rfl, rfl, .inr ⟨by decide, by decide⟩, _, _, rfl, rfl, _, _, rfl, rfl, _, _, rfl, rfl, ⟨by decide, by decide, ?_⟩, .inl ⟨_, rfl, _, _, rfl, rfl, (by show (0 : Int) < 2147483647; decide), ?_⟩⟩
        · exact draw_pow g0 g1 (by omega) hc2 (by omega) (by decide) (by decide) (by decide) (by decide) 7 (by decide) (by decide)
        obtain ⟨g2, g3⟩ := draw_cell (x := (ss[j] % 2147483647 * 48271 + (c + 1) * 69621 + 7) ^ Int.toNat 5)
        refine ⟨_, rfl, _, _, rfl, rfl, .inr ⟨by decide, by decide⟩, _, rfl, st, _, _, _, rfl, rfl, SqL.of S2.h0, rfl, _, _, rfl, rfl, .inr ⟨by decide, by decide⟩, _, _, rfl, rfl, _, _, rfl, rfl, _, _, rfl, rfl, ⟨by decide, by decide, ?_⟩, .inl ⟨_, rfl, _, _, rfl, rfl, (by show (0 : Int) < 2147483629; decide), _, rfl, _, _, rfl, rfl, hs0, ?_⟩⟩
        · exact draw_pow g2 g3 (by omega) hc2 (by omega) (by decide) (by decide) (by decide) (by decide) 13 (by decide) (by decide)
        exact k _ (Own st l l1) _ (Int.emod_nonneg _ (by omega)) (Int.emod_lt_of_pos _ hs0) ⟨l, l1, [], ss, c + 1, rfl, S2.n0, S2.n1, S2.n2, S2.h0, S2.h1, S2.h2, hss, by omega, hc2⟩ fr2
theorem F_draw (T : GG K mg) : FnI P w K mg base "_law_draw" 1 ["_law_state", "_law_size"] spDraw :=
  ⟨T.a_draw, T.fd_draw, ok_draw T, T.m_draw, T.F_draw.kp, T.F_draw.binds fun _ _ _ _ _ _ us hl => match us, hl with | [_, _], _ => rfl⟩
end
end Xl

namespace Xl
open PySem L2
theorem at_ex {α : Type} {xs : List α} {d : Int} (h0 : 0 ≤ d) (h1 : d < xs.length) : ∃ (j : Nat) (v : α), d = j ∧ j < xs.length ∧ xs[j]? = some v ∧ atI xs d = some v := by
  obtain ⟨j, rfl⟩ := Int.eq_ofNat_of_zero_le h0
  have hj : j < xs.length := by omega
  exact ⟨j, xs[j], rfl, hj, List.getElem?_eq_getElem hj, atI_nat (List.getElem?_eq_getElem hj)⟩
theorem str_app_len (x y : Str) : (x ++ y).length = x.length + y.length := by
  show (x.cps ++ y.cps).size = x.cps.size + y.cps.size
  rw [Array.size_append]
theorem strjoin_len (y : Str) : ∀ ps : List Str, (Str.join y ps).length ≤ (ps.map (·.length)).sum + ps.length * y.length
  | [] => Nat.zero_le _
  | [p] => by
    show p.length ≤ _
    simp
  | p :: q :: r => by
    have ih := strjoin_len y (q :: r)
    show (p ++ y ++ Str.join y (q :: r)).length ≤ _
    rw [str_app_len, str_app_len]
    simp only [List.map_cons, List.sum_cons, List.length_cons, Nat.succ_mul] at ih ⊢
    omega
theorem join_len (y : Str) (ps : List Str) : (Txt.join y ps).length ≤ (ps.map (·.length)).sum + ps.length * y.length := by
  rw [TL.join_eq]
  exact strjoin_len y ps
theorem one_len (c : Nat) : (⟨#[c]⟩ : Str).length = 1 := rfl
theorem ones_sum : ∀ cs : List Nat, ((cs.map fun c => (⟨#[c]⟩ : Str)).map (·.length)).sum = cs.length
  | [] => rfl
  | c :: r => by
    simp only [List.map_cons, List.sum_cons, List.length_cons, ones_sum r, one_len]
    omega
theorem str_len (z : Str) : z.length = z.cps.toList.length := by
  show z.cps.size = z.cps.toList.length
  rw [Array.length_toList]
/-- texts of one sign -/
def onesV (cs : List Nat) : List V := cs.map fun c => .str ⟨#[c]⟩
theorem onesV_str (cs : List Nat) : onesV cs = (cs.map fun c => (⟨#[c]⟩ : Str)).map V.str := by
  unfold onesV
  rw [List.map_map]
  rfl
theorem at_strs {zs : List Str} {d : Int} (h0 : 0 ≤ d) (h1 : d < zs.length) : ∃ z, z ∈ zs ∧ atI (zs.map V.str) d = some (.str z) := by
  obtain ⟨j, v, e, hj, hv, hat⟩ := at_ex (xs := zs.map V.str) h0 (by rw [List.length_map]; exact h1)
  rw [List.getElem?_map] at hv
  cases ez : zs[j]? with
  | none => rw [ez] at hv; cases hv
  | some z =>
    rw [ez] at hv
    cases hv
    exact ⟨z, List.mem_of_getElem? ez, hat⟩
theorem sum_le {L : Nat} : ∀ {ys : List Str}, (∀ z ∈ ys, z.length ≤ L) → (ys.map fun z : Str => z.length).sum ≤ ys.length * L
  | [], _ => Nat.zero_le _
  | y :: ys, h => by
    have h1 := sum_le (ys := ys) fun z hz => h z (List.mem_cons_of_mem _ hz)
    have h2 := h y List.mem_cons_self
    simp only [List.map_cons, List.sum_cons, List.length_cons, Nat.succ_mul]
    omega
theorem cutV_strs (zs : List Str) (lo hi : Option Int) : ∃ zs' : List Str, cutV (zs.map V.str) lo hi = zs'.map V.str ∧ zs'.length ≤ zs.length ∧ ∀ z ∈ zs', z ∈ zs := by
  unfold cutV
  refine ⟨(zs.drop (HT.sIx (zs.map V.str).length 0 lo)).take (HT.sIx (zs.map V.str).length (zs.map V.str).length hi - HT.sIx (zs.map V.str).length 0 lo), ?_, ?_, fun z hz => ?_⟩
  · rw [List.map_take, List.map_drop]
  · rw [List.length_take, List.length_drop]
    omega
  · exact List.mem_of_mem_drop (List.mem_of_mem_take hz)
/-- a text of one sign, times an int -/
theorem op_mulS {X : Cx} : OpR X (binaryOp .Mult) (fun x y H Q => ∃ z n, x = .str z ∧ y = .int n ∧ z.length = 1 ∧ 1 ≤ n ∧ n ≤ 100000 ∧ ∀ r : Str, r.length ≤ 100000 → Q (.str r) H) := by
  intro pins s σ H x y v u Q I rx ry h
  obtain ⟨z, n, rfl, rfl, hz, h1, h2, q⟩ := h
  obtain ⟨t, rfl⟩ := rx
  obtain ⟨t', rfl⟩ := ry
  have hok : PySem.MulOk z n := by
    refine ⟨?_, fun _ _ => ?_, fun _ _ => ?_⟩
    · rw [decide_eq_false (by omega), decide_eq_false (by omega)]; rfl
    · rw [hz]
      have hd : (1 : Int) ≤ (2 ^ 63 - 1) / n := by
        rw [Int.le_ediv_iff_mul_le (by omega)]
        omega
      omega
    · rw [hz]
      unfold PySem.Builtin.Str.tooLong
      have : (sizeLine : Nat) ≥ 1000000 := by decide
      simp
      omega
  refine PySem.SB.mul hok fun t' k => ⟨.str (Txt.mul z n), H, I.tok _, ⟨_, rfl⟩, q _ ?_⟩
  have := PyProof.Rows.len_mul z n
  rw [hz, if_neg (by simp; omega)] at this
  omega
end Xl

namespace Xl
open PySem L2
/-- the signs of the law -/
def sgS : Str := (" !\"#$&'()*+,-./0123456789:;<=>?@ABCDEFGHIJKLMNOPQRSTUVWXYZ[\\]^_`" : Str) ++ ("abcdefghijklmnopqrstuvwxyz{|}~\n" : Str)
theorem sgS_len : sgS.length = 95 := by decide +kernel
def spSigns : Sp := fun vs H Q _ => vs = [] ∧ Q (.str sgS) H
section
variable {P : Program} {w : World} {K : PySem.W.Frag} {mg : Str → Option Value} {base : Heap}
abbrev N_signs : List Str := ["_law_signs_here"]
theorem sc_signs : FnScope N_signs [] (defScope s_signs) := ⟨rfl, rfl, rfl, by decide +kernel, rfl, by decide +kernel, by decide +kernel⟩
theorem ok_signs (T : GG K mg) : FnOk P w K mg base (L2.CX P w) 1 T.a_signs T.fd_signs [] spSigns := by
  refine okN T.F_signs sc_signs (fun vs H Q E h => ?_) (fun cdv A outer s H vs Q E hr h => ?_)
  · obtain ⟨rfl, _⟩ := h
    rfl
  · obtain ⟨rfl, k⟩ := h
    refine ⟨_, (pss_cons (ps_set (i := 0) sc_signs.nd rfl (Or.inl rfl) pe_str)
      (pss_one (ps_ret (pe_op op_add_str (pv 0) pe_str)))), ?_⟩
    exact ⟨_, rfl, _, _, rfl, rfl, by decide +kernel, k⟩
theorem F_signs (T : GG K mg) : FnI P w K mg base "_law_signs" 1 [] spSigns :=
  ⟨T.a_signs, T.fd_signs, ok_signs T, T.m_signs, T.F_signs.kp, T.F_signs.binds fun _ _ _ _ _ _ us hl => match us, hl with | [], _ => rfl⟩
end
end Xl

namespace Xl
/-! ### fractions in lowest terms, in plain numbers -/
def sgcd (t b : Int) : Int := if b < 0 then -(Int.gcd t b : Int) else (Int.gcd t b : Int)
def nT (t b : Int) : Int := t.fdiv (sgcd t b)
def nB (t b : Int) : Int := b.fdiv (sgcd t b)
/-- in lowest terms -/
structure Low (p q : Int) : Prop where
  pos : 0 < q
  cop : Int.gcd p q = 1
theorem gcd_pos_of {t b : Int} (h : b ≠ 0) : 0 < Int.gcd t b := Int.gcd_pos_of_ne_zero_right t h
theorem sgcd_dvd_left (t b : Int) : sgcd t b ∣ t := by
  unfold sgcd
  split
  · exact Int.neg_dvd.mpr (Int.gcd_dvd_left ..)
  · exact Int.gcd_dvd_left ..
theorem sgcd_dvd_right (t b : Int) : sgcd t b ∣ b := by
  unfold sgcd
  split
  · exact Int.neg_dvd.mpr (Int.gcd_dvd_right ..)
  · exact Int.gcd_dvd_right ..
theorem sgcd_ne {t b : Int} (h : b ≠ 0) : sgcd t b ≠ 0 := by
  have := gcd_pos_of (t := t) h
  unfold sgcd
  split <;> omega
theorem nT_mul {t b : Int} : nT t b * sgcd t b = t := by
  unfold nT
  rw [Int.fdiv_eq_ediv_of_dvd (sgcd_dvd_left t b)]
  exact Int.ediv_mul_cancel (sgcd_dvd_left t b)
theorem nB_mul {t b : Int} : nB t b * sgcd t b = b := by
  unfold nB
  rw [Int.fdiv_eq_ediv_of_dvd (sgcd_dvd_right t b)]
  exact Int.ediv_mul_cancel (sgcd_dvd_right t b)
theorem nB_pos {t b : Int} (h : b ≠ 0) : 0 < nB t b := by
  have e := nB_mul (t := t) (b := b)
  have g := gcd_pos_of (t := t) h
  by_cases hb : b < 0
  · have es : sgcd t b = -(Int.gcd t b : Int) := by unfold sgcd; rw [if_pos hb]
    rw [es] at e
    refine Int.not_le.mp fun hn => ?_
    have : 0 ≤ nB t b * -(Int.gcd t b : Int) := Int.mul_nonneg_of_nonpos_of_nonpos hn (by omega)
    omega
  · have es : sgcd t b = (Int.gcd t b : Int) := by unfold sgcd; rw [if_neg hb]
    rw [es] at e
    refine Int.not_le.mp fun hn => ?_
    have : nB t b * (Int.gcd t b : Int) ≤ 0 := Int.mul_nonpos_of_nonpos_of_nonneg hn (by omega)
    omega
theorem natAbs_sgcd (t b : Int) : (sgcd t b).natAbs = Int.gcd t b := by
  unfold sgcd
  split <;> omega
theorem low_n {t b : Int} (h : b ≠ 0) : Low (nT t b) (nB t b) := by
  refine ⟨nB_pos h, ?_⟩
  have g := gcd_pos_of (t := t) h
  have e1 := nT_mul (t := t) (b := b)
  have e2 := nB_mul (t := t) (b := b)
  have e3 : Int.gcd (nT t b * sgcd t b) (nB t b * sgcd t b) = Int.gcd (nT t b) (nB t b) * (sgcd t b).natAbs := Int.gcd_mul_right ..
  rw [e1, e2, natAbs_sgcd] at e3
  exact Nat.eq_of_mul_eq_mul_right g (by rw [Nat.one_mul]; exact e3.symm)
theorem n_cross {t b : Int} (h : b ≠ 0) : nT t b * b = t * nB t b := by
  have e1 := nT_mul (t := t) (b := b)
  have e2 := nB_mul (t := t) (b := b)
  generalize nT t b = x at e1 ⊢
  generalize nB t b = y at e2 ⊢
  generalize sgcd t b = g at e1 e2
  subst e1
  rw [← e2, ← Int.mul_assoc, Int.mul_right_comm]
theorem low_uniq {p q p' q' : Int} (h : Low p q) (h' : Low p' q') (e : p * q' = p' * q) : p = p' ∧ q = q' := by
  have d1 : q ∣ q' := by
    have : q ∣ p * q' := ⟨p', by rw [e, Int.mul_comm]⟩
    have z := Int.dvd_gcd_mul_iff_dvd_mul.mpr this
    rwa [Int.gcd_comm, h.cop, Int.natCast_one, Int.one_mul] at z
  have d2 : q' ∣ q := by
    have : q' ∣ p' * q := ⟨p, by rw [← e, Int.mul_comm]⟩
    have z := Int.dvd_gcd_mul_iff_dvd_mul.mpr this
    rwa [Int.gcd_comm, h'.cop, Int.natCast_one, Int.one_mul] at z
  have eq : q = q' := Int.dvd_antisymm (Int.le_of_lt h.pos) (Int.le_of_lt h'.pos) d1 d2
  subst eq
  exact ⟨Int.eq_of_mul_eq_mul_right (Int.ne_of_gt h.pos) e, rfl⟩
theorem n_of_low {p q : Int} (h : Low p q) : nT p q = p ∧ nB p q = q := by
  have hq : q ≠ 0 := Int.ne_of_gt h.pos
  exact low_uniq (low_n hq) h (n_cross hq)
theorem low_one (v : Int) : Low v 1 := ⟨by decide, by rw [Int.gcd_one_right]⟩
theorem n_one (v : Int) : nT v 1 = v ∧ nB v 1 = 1 := n_of_low (low_one v)
/-- two ways to write one fraction -/
theorem n_congr {t b t' b' : Int} (h : b ≠ 0) (h' : b' ≠ 0) (e : t * b' = t' * b) : nT t b = nT t' b' ∧ nB t b = nB t' b' := by
  have hb := nB_pos (t := t) h
  refine low_uniq (low_n h) (low_n h') ?_
  have e1 := n_cross (t := t) h
  have e2 := n_cross (t := t') h'
  have k : nT t b * nB t' b' * (b * b') = nT t' b' * nB t b * (b * b') := by
    have a1 : nT t b * nB t' b' * (b * b') = (nT t b * b) * (nB t' b' * b') := by ac_rfl
    have a2 : nT t' b' * nB t b * (b * b') = (nT t' b' * b') * (nB t b * b) := by ac_rfl
    rw [a1, a2, e1, e2]
    have a3 : t * nB t b * (nB t' b' * b') = (t * b') * (nB t b * nB t' b') := by ac_rfl
    have a4 : t' * nB t' b' * (nB t b * b) = (t' * b) * (nB t b * nB t' b') := by ac_rfl
    rw [a3, a4, e]
  exact Int.eq_of_mul_eq_mul_right (Int.mul_ne_zero h h') k
theorem nT_le {t b : Int} (h : b ≠ 0) : (nT t b).natAbs ≤ t.natAbs := by
  have e := nT_mul (t := t) (b := b)
  have g := gcd_pos_of (t := t) h
  have e2 : (nT t b).natAbs * Int.gcd t b = t.natAbs := by rw [← natAbs_sgcd, ← Int.natAbs_mul, e]
  rw [← e2]
  exact Nat.le_mul_of_pos_right _ g
theorem nB_le {t b : Int} (h : b ≠ 0) : (nB t b).natAbs ≤ b.natAbs := by
  have e := nB_mul (t := t) (b := b)
  have g := gcd_pos_of (t := t) h
  have e2 : (nB t b).natAbs * Int.gcd t b = b.natAbs := by rw [← natAbs_sgcd, ← Int.natAbs_mul, e]
  rw [← e2]
  exact Nat.le_mul_of_pos_right _ g
/-- Euclid's step -/
theorem gcd_step {a b : Int} (ha : 0 ≤ a) (hb : 0 < b) : Int.gcd b (a % b) = Int.gcd a b := by
  obtain ⟨m, rfl⟩ := Int.eq_ofNat_of_zero_le ha
  obtain ⟨n, rfl⟩ := Int.eq_ofNat_of_zero_le (Int.le_of_lt hb)
  rw [← Int.natCast_emod, Int.gcd_natCast_natCast, Int.gcd_natCast_natCast, Nat.gcd_comm m n, Nat.gcd_rec n m, Nat.gcd_comm]
end Xl

namespace Xl
open PySem PySem.Spec PyProof.Rows L2
/-! ### sizes of numbers -/
def Bd (n : Nat) (i : Int) : Prop := i.natAbs < 2 ^ n
theorem Bd.mono {m n : Nat} {i : Int} (h : Bd m i) (l : m ≤ n) : Bd n i := Nat.lt_of_lt_of_le h (Nat.pow_le_pow_right (by decide) l)
theorem Bd.le {n : Nat} {i j : Int} (h : Bd n i) (l : j.natAbs ≤ i.natAbs) : Bd n j := Nat.lt_of_le_of_lt l h
theorem Bd.neg {n : Nat} {i : Int} (h : Bd n i) : Bd n (-i) := h.le (by omega)
theorem Bd.mul {m n : Nat} {i j : Int} (h : Bd m i) (k : Bd n j) : Bd (m + n) (i * j) := by
  unfold Bd at *
  rw [Int.natAbs_mul, Nat.pow_add]
  have h1 : i.natAbs * j.natAbs ≤ i.natAbs * 2 ^ n := Nat.mul_le_mul_left _ (Nat.le_of_lt k)
  have h2 : i.natAbs * 2 ^ n < 2 ^ m * 2 ^ n := Nat.mul_lt_mul_of_pos_right h (Nat.pow_pos (by decide))
  omega
theorem Bd.add {n : Nat} {i j : Int} (h : Bd n i) (k : Bd n j) : Bd (n + 1) (i + j) := by
  unfold Bd at *
  rw [Nat.pow_succ]
  omega
theorem Bd.sub {n : Nat} {i j : Int} (h : Bd n i) (k : Bd n j) : Bd (n + 1) (i - j) := by
  unfold Bd at *
  rw [Nat.pow_succ]
  omega
theorem Bd.log {n : Nat} {i : Int} (h : Bd n i) (l : n ≤ 1919) : i.natAbs.log2 < 1920 := by
  have h2 : i.natAbs < 2 ^ 1920 := Nat.lt_of_lt_of_le h (Nat.pow_le_pow_right (by decide) (by omega))
  exact PySem.Flt.log2_lt_of (by decide) h2
theorem Bd.ex {n : Nat} {i : Int} (h : Bd n i) (l : n ≤ 8000) : ∃ n, n ≤ 8000 ∧ i.natAbs < 2 ^ n := ⟨n, l, h⟩
/-- * of any numbers that are not huge -/
theorem op_mulX {X : Cx} : OpR X (binaryOp .Mult) (rI (fun i j => ∃ m n, Bd m i ∧ Bd n j ∧ m + n ≤ 100000000) fun i j => .int (i * j)) := opI fun _ _ _ _ _ _ _ hc q => by
  obtain ⟨m, n, h1, h2, h3⟩ := hc
  exact mul_int q (PySem.IntMulOk.of_le (intBits_le_iff.mpr h1) (intBits_le_iff.mpr h2) (by omega))
end Xl

namespace Xl
open PySem PySem.Spec PyProof.Rows L2
/-! ### ExtralinkError.__init__(self, ..) in an own __init__ -/
section
variable {X : Cx} {o e : Expr} {es : List Expr} {to te : TE} {ta : TA} {f x : Str} {p p' p1 p2 pos : Pos} {CE : Addr}
theorem pe_einit {pl : Sem Bool} (hg : Gl X x) (hm : X.mg x = some (.ref CE)) (hE : ∃ mc, ClX.CRead X.K CE mc ∧ PySem.W.findCls X.K (.ref CE) mc "__init__" = some (.val (.builtin "ValueError.__init__"))) (ha : PA X (e :: es) ta)
    (hc : eval (.Call (.Attribute (.Name x p1) "__init__" p2) (e :: es) [] pos) X.env = (do
      let ov ← eval (.Name x p1) X.env
      standAt p2.atName
      let (f, first) ← holding [ov] (getMethod ov "__init__" pl)
      callWith pos f first (backTo pos (starEach (e :: es) X.env)) (backToKw pos (keywordEach [] X.env))) := by rfl)
    (hdb : (x == ("__debug__" : Str)) = false := by decide)
    (he : starEach (e :: es) X.env = (false, eval e X.env) :: starEach es X.env := by rfl) (hpl : (backTo pos (starEach es X.env)).any (·.1) = false := by rfl) :
    PE X (.Call (.Attribute (.Name x p1) "__init__" p2) (e :: es) [] pos) (tVeI X.K ta) := by
  obtain ⟨mc, cr, fc⟩ := hE
  refine ⟨fun pins s σ H Q I h => ?_⟩
  refine PySem.W.methodCall_KW (ld_glob I hg hm ?_ hdb) hc
  refine PySem.W.method_cls I.kIn cr.ga (PySem.W.cls_value I.kIn cr.rd fc rfl ?_)
  show wpAny _ _ (callWith pos (Value.builtin "ValueError.__init__") [] (backTo pos (starEach (e :: es) X.env)) []) _ _ _
  refine PyProof.Rows.callWith_method1 (thn (ha.run pos pins _ σ H _ (I.tok _) h) fun us s1 ⟨vs, H1, I1, r1, a, C, ws, ev, hl, T, ea, q⟩ => ?_) he hpl
  subst ev
  cases r1 with
  | @cons _ u0 _ ur ra rw' =>
    obtain rfl : u0 = Value.ref a := ra
    have hlen : ur.length ≤ sizeLine := by
      rw [← Paired.length rw', sizeLine_eq]
      omega
    exact oinit_ok T I1 ea hlen fun s' J => ⟨.non, H1, J, rfl, q⟩
end
/-! ### an error's making: its own fields, in a dict that is new -/
/-- __init__(self, ..): the fields fs of the arguments vs -/
def spXi (C : Addr) (n : Nat) (g : List V → List (Str × V)) : Sp := fun vs H Q _ => ∃ (a : Addr) (ws : List V), vs = .ref a :: ws ∧ ws.length = n ∧ H a = some (exo a C none) ∧
  ∀ d H', H d = none → d ≠ a → H' a = some (exo a C (some d)) → H' d = some (exd d (g ws)) → (∀ b o, H b = some o → b ≠ a → H' b = some o) → Q .non H'
structure XcI (P : Program) (w : World) (K : PySem.W.Frag) (mg : Str → Option Value) (base : Heap) (x : Str) (C : Addr) (n : Nat) (g : List V → List (Str × V)) : Prop where
  ex : ∃ fI fd ps, OexC K C ∧ PySem.W.findIn K (.ref C) "__init__" = some (some (.ref fI)) ∧ PySem.W.typeIn K (.ref fI) = some (.type "function") ∧ FnOk P w K mg base (L2.CX P w) 1 fI fd ps (spXi C n g) ∧ Binds K fd ps [] ∧ mg x = some (.ref C)
/-- X(e, ..) raised: what is wanted of its class, its dict and the heap -/
def tXm (C : Addr) (n : Nat) (g : List V → List (Str × V)) (ta : TA) : L2.St → Hp → XK → Prop := fun σ H Q => ta σ H fun vs H1 => vs.length = n ∧ ∀ d H', Same H1 H' → H1 d = none → H' d = some (.xd (g vs)) → Q (.ref C) (some d) H'
section
variable {X : Cx} {e : Expr} {es : List Expr} {ta : TA} {p pos : Pos} {x : Str} {C : Addr} {n : Nat} {g : List V → List (Str × V)}
theorem pmk_x (B : XcI X.prog X.w X.K X.mg X.base x C n g) (hn : n ≤ 1000) (hr : Room 2 X.A) (ha : PA X (e :: es) ta) (hg : Gl X x := by rfl) (hdb : (x == ("__debug__" : Str)) = false := by decide)
    (he : starEach (e :: es) X.env = (false, eval e X.env) :: starEach es X.env := by rfl) (hpl : (backTo pos (starEach es X.env)).any (·.1) = false := by rfl) :
    PMk X (.Call (.Name x p) (e :: es) [] pos) (tXm C n g ta) := by
  obtain ⟨fI, fd, ps, h1, h2, h3, h4, h5, h6⟩ := B.ex
  have z := pmk_oex (X := X) (p := p) (pos := pos) (e := e) (es := es) (ta := taM ta) h1 h2 h3 h4 hr h5 (dvs := []) .nil (passL (X := X)) hg h6 (pa_mono ha) hdb he hpl
  intro pins s σ H Q I h
  refine z pins s σ H Q I ⟨_, h, fun vs H1 ⟨hl, k⟩ => ⟨by omega, fun a na => ?_⟩⟩
  refine ⟨a, vs, by rw [List.append_nil], hl, upd_same, fun d H2 hd hda ea ed kp => ⟨rfl, d, g vs, ea, ed, ?_, ?_⟩⟩
  · rw [upd_ne hda] at hd
    exact hd
  · rw [upd_ne hda] at hd
    refine k d _ (fun b o eb => ?_) hd upd_same
    have nb : b ≠ a := ne_of_none eb na
    rw [upd_ne (ne_of_none eb hd), del_ne nb]
    exact kp b o (by rw [upd_ne nb]; exact eb) nb
theorem ps_rx {W : WX} {pos' : Pos} (B : XcI X.prog X.w X.K X.mg X.base x C n g) (hn : n ≤ 1000) (hr : Room 2 X.A) (hc : X.calm = true) (tk : Takes X W) (ha : PA X (e :: es) ta) (hg : Gl X x := by rfl) (hdb : (x == ("__debug__" : Str)) = false := by decide)
    (he : starEach (e :: es) X.env = (false, eval e X.env) :: starEach es X.env := by rfl) (hpl : (backTo pos (starEach es X.env)).any (·.1) = false := by rfl) :
    PS X (.Raise (some (.Call (.Name x p) (e :: es) [] pos)) none pos') (fun _ σ H => tXm C n g ta σ H fun cls d H' => W cls d σ H') := ps_raise hc tk (pmk_x B hn hr ha hg hdb he hpl)
end
end Xl

namespace Xl
open PySem PySem.Spec PyProof.Rows L2
section
variable {P : Program} {w : World} {K : PySem.W.Frag} {mg : Str → Option Value} {base : Heap}
theorem sc_OutOfRange___init__ : FnScope ["self", "value"] ["self", "value"] (defScope s_OutOfRange___init__) := ⟨rfl, rfl, rfl, by decide +kernel, rfl, by decide +kernel, by decide +kernel⟩
theorem ok_OutOfRange___init__ (T : GG K mg) : FnOk P w K mg base (L2.CX P w) 1 T.a_OutOfRange___init__ T.fd_OutOfRange___init__ ["self", "value"] (spXi T.c_OutOfRange 1 (fun ws => ((["value"] : List Str).zip ws).reverse)) := by
  refine okN T.F_OutOfRange___init__ sc_OutOfRange___init__ (fun vs H Q E h => ?_) (fun cdv A outer s H vs Q E hr h => ?_)
  · obtain ⟨a, ws, rfl, hl, _⟩ := h
    show ws.length + 1 = 2
    omega
  · obtain ⟨a, ws, rfl, hl, ha, k⟩ := h
    obtain ⟨v, rfl⟩ : ∃ v, ws = [v] := List.length_eq_one_iff.mp hl
    refine ⟨_, pss_cons (ps_expr (pe_einit rfl T.g_ExtralinkError T.ei_ExtralinkError (pa_cons (pv 0) (pa_cons pe_str pa_nil)))) (pss_one (ps_ost (pv 0) (pv 1))), ?_⟩
    refine ⟨_, rfl, a, T.c_OutOfRange, _, rfl, by decide, T.ox_OutOfRange, ha, ?_⟩
    refine ⟨_, rfl, _, rfl, a, T.c_OutOfRange, rfl, T.ox_OutOfRange, T.no_OutOfRange_value, .inl ⟨ha, fun dx hd hda => ?_⟩⟩
    exact k dx _ hd hda upd_same (by rw [upd_ne hda, upd_same]; rfl) fun b o eb hb => by rw [upd_ne hb, upd_ne (ne_of_none eb hd)]; exact eb
theorem X_OutOfRange (T : GG K mg) : XcI P w K mg base "OutOfRange" T.c_OutOfRange 1 (fun ws => ((["value"] : List Str).zip ws).reverse) := ⟨_, _, _, T.ox_OutOfRange, T.in_OutOfRange.1, T.in_OutOfRange.2, ok_OutOfRange___init__ T, T.F_OutOfRange___init__.binds fun _ _ _ _ _ _ us hl => match us, hl with | [_, _], _ => rfl, T.g_OutOfRange⟩
theorem sc_BadText___init__ : FnScope ["self", "text"] ["self", "text"] (defScope s_BadText___init__) := ⟨rfl, rfl, rfl, by decide +kernel, rfl, by decide +kernel, by decide +kernel⟩
theorem ok_BadText___init__ (T : GG K mg) : FnOk P w K mg base (L2.CX P w) 1 T.a_BadText___init__ T.fd_BadText___init__ ["self", "text"] (spXi T.c_BadText 1 (fun ws => ((["text"] : List Str).zip ws).reverse)) := by
  refine okN T.F_BadText___init__ sc_BadText___init__ (fun vs H Q E h => ?_) (fun cdv A outer s H vs Q E hr h => ?_)
  · obtain ⟨a, ws, rfl, hl, _⟩ := h
    show ws.length + 1 = 2
    omega
  · obtain ⟨a, ws, rfl, hl, ha, k⟩ := h
    obtain ⟨v, rfl⟩ : ∃ v, ws = [v] := List.length_eq_one_iff.mp hl
    refine ⟨_, pss_cons (ps_expr (pe_einit rfl T.g_ExtralinkError T.ei_ExtralinkError (pa_cons (pv 0) (pa_cons pe_str pa_nil)))) (pss_one (ps_ost (pv 0) (pv 1))), ?_⟩
    refine ⟨_, rfl, a, T.c_BadText, _, rfl, by decide, T.ox_BadText, ha, ?_⟩
    refine ⟨_, rfl, _, rfl, a, T.c_BadText, rfl, T.ox_BadText, T.no_BadText_text, .inl ⟨ha, fun dx hd hda => ?_⟩⟩
    exact k dx _ hd hda upd_same (by rw [upd_ne hda, upd_same]; rfl) fun b o eb hb => by rw [upd_ne hb, upd_ne (ne_of_none eb hd)]; exact eb
theorem X_BadText (T : GG K mg) : XcI P w K mg base "BadText" T.c_BadText 1 (fun ws => ((["text"] : List Str).zip ws).reverse) := ⟨_, _, _, T.ox_BadText, T.in_BadText.1, T.in_BadText.2, ok_BadText___init__ T, T.F_BadText___init__.binds fun _ _ _ _ _ _ us hl => match us, hl with | [_, _], _ => rfl, T.g_BadText⟩
end
end Xl

namespace Xl
open PySem PySem.Spec PyProof.Rows L2
/-! ### making an instance, a method, a property, an own operator: each by a promise over values -/
/-- C(..): what the whole expression promises; dvs: the defaults that fill up -/
structure MkI (P : Program) (w : World) (K : PySem.W.Frag) (mg : Str → Option Value) (base : Heap) (C : Addr) (k : Nat) (sp : Sp) : Prop where
  ex : ∃ f fd ps dvs ds sp0, Mk K C f ∧ FnOk P w K mg base (L2.CX P w) k f fd ps sp0 ∧ Vals dvs ds ∧ Binds K fd ps ds ∧
    ∀ vs H Q E, sp vs H Q E → ∀ o dx, H o = none → H dx = none → dx ≠ o → sp0 (.ref o :: (vs ++ dvs)) (upd (upd H dx (.own o)) o (.ins C dx [])) (fun v H2 => v = .non ∧ Q (.ref o) H2) E
/-- C(k = v, ..) -/
structure MkK (P : Program) (w : World) (K : PySem.W.Frag) (mg : Str → Option Value) (base : Heap) (C : Addr) (k : Nat) (ks : List Str) (sp : Sp) : Prop where
  ex : ∃ f fd ps g gV sp0, Mk K C f ∧ FnOk P w K mg base (L2.CX P w) k f fd ps sp0 ∧ KBn K fd ps 1 ks g gV ∧
    ∀ zs H Q E, zs.length = ks.length → sp zs H Q E → ∀ o dx, H o = none → H dx = none → dx ≠ o → sp0 (gV [.ref o] zs) (upd (upd H dx (.own o)) o (.ins C dx [])) (fun v H2 => v = .non ∧ Q (.ref o) H2) E
theorem vals_rev : ∀ {vs : List V} {us : List Value}, Vals vs us → Vals vs.reverse us.reverse
  | _, _, .nil => .nil
  | _, _, .cons h t => by
    rw [List.reverse_cons, List.reverse_cons]
    exact (vals_rev t).append (.cons h .nil)
/-- keywords given to a def with defaults, none of which is left out or read -/
theorem FunD.kb1 {K : PySem.W.Frag} {x qual : Str} {params : Arguments} {body : List Stmt} {scope : Scope} {dvs : List V} {f : Addr} {fd : FuncData} {ps : List Str} (F : FunD K x qual params body scope dvs [] f fd) (n : Nat) (ks : List Str) (g : {α : Type} → List α → List α → List α → List α) (hd : dvs ≠ [])
    (hrel : ∀ {vs ds zs : List V} {us its ws : List Value}, Vals vs us → Vals ds its → Vals zs ws → Vals (g vs ds zs) (g us its ws))
    (h : ∀ (T : Addr) (kV doc pm : Value) (an : Option Addr) (cdv ct : Value) (us its ws : List Value), us.length = n → its.length = dvs.length → ws.length = ks.length →
      ∃ k, bindArgs (PySem.W.fnOf x qual params body scope (.ref T) kV doc pm an cdv ct) ⟨us, ks.zip ws⟩ = seqItems? (.ref T) >>= k ∧ k (some its.toArray) = pure (ps.zip (g us its ws))) :
    ∃ its : List Value, KBn K fd ps n ks (fun us ws => g us its ws) (fun vs zs => g vs dvs zs) := by
  obtain ⟨oc, od, dV, kV, doc, pm, an, cdv, ct, osl, rfl, lk, hcd, hD, hK⟩ := F.ex
  rcases hD with ⟨e, _⟩ | ⟨_, T, o, its, m, rfl, lT, oT, rT⟩
  · exact absurd e hd
  · refine ⟨its, ⟨fun s us ws X l1 l2 => ?_, fun r1 r2 => hrel r1 rT r2⟩⟩
    obtain ⟨k, e1, e2⟩ := h T kV doc pm an cdv ct us its ws l1 rT.length.symm l2
    refine BindsTo.of_looks fun M => ?_
    rw [e1]
    exact looks_items X lT oT (.of_pure e2)
section
variable {X : Cx} {k i : Nat} {C : Addr} {sp : Sp} {E : XK} {x : Str} {p pos : Pos} {e : Expr} {es : List Expr} {t : TA} {te : TE}
theorem pe_mkI (F : MkI X.prog X.w X.K X.mg X.base C k sp) (hr : Room (k + 1) X.A) (hm : X.mg x = some (.ref C)) (hx : Passes (L2.CX X.prog X.w) X E) (ha : PA X (e :: es) t) (hg : Gl X x := by rfl)
    (hdb : (x == ("__debug__" : Str)) = false := by decide) (he : starEach (e :: es) X.env = (false, eval e X.env) :: starEach es X.env := by rfl) (hpl : (backTo pos (starEach es X.env)).any (·.1) = false := by rfl) :
    PE X (.Call (.Name x p) (e :: es) [] pos) (tCall sp [] E t) := by
  obtain ⟨f, fd, ps, dvs, ds, sp0, M, G, hd, hb, conv⟩ := F.ex
  refine ⟨fun pins s σ H Q I h => ?_⟩
  refine wpAny_Call_Name_kw (ld_glob I hg hm ?_ hdb)
  refine PySem.W.callWith_K (h₀ := X.base) I.ok.mod.kin M.kp (thn (ha.run pos pins s σ H _ I h) fun us s1 ⟨vs, H1, I1, r, q⟩ => ⟨I1.kIn, ?_⟩) he hpl
  exact run_make M G hr hb hd hx I1 r (conv vs H1 Q E (by rw [← List.append_nil vs]; exact q))
/-- the class in a slot -/
def tCallLc (i : Nat) (C : Addr) (sp : Sp) (E : XK) (t : TA) : TE := fun σ H Q => σ[i]? = some (some (.ref C)) ∧ t σ H fun vs H1 => sp vs H1 Q E
theorem pe_mkL (F : MkI X.prog X.w X.K X.mg X.base C k sp) (hr : Room (k + 1) X.A) (hN : X.N[i]? = some x) (hv : Vis X.env.scope x) (hx : Passes (L2.CX X.prog X.w) X E) (ha : PA X (e :: es) t)
    (hdb : (x == ("__debug__" : Str)) = false := by decide) (hcd : (x == ("__classdict__" : Str)) = false := by decide) (he : starEach (e :: es) X.env = (false, eval e X.env) :: starEach es X.env := by rfl) (hpl : (backTo pos (starEach es X.env)).any (·.1) = false := by rfl) :
    PE X (.Call (.Name x p) (e :: es) [] pos) (tCallLc i C sp E t) := by
  obtain ⟨f, fd, ps, dvs, ds, sp0, M, G, hd, hb, conv⟩ := F.ex
  refine ⟨fun pins s σ H Q I h => ?_⟩
  obtain ⟨hs, ht⟩ := h
  refine wpAny_Call_Name_kw (thn ((pe_var (pos := p) hN hv hdb hcd).run pins s σ H (fun v H1 => v = .ref C ∧ H1 = H) I ⟨.ref C, hs, rfl, rfl⟩) fun u s1 ⟨v, H1, I1, r1, q1⟩ => ?_)
  obtain ⟨rfl, rfl⟩ := q1
  cases r1
  refine PySem.W.callWith_K (h₀ := X.base) I.ok.mod.kin M.kp (thn (ha.run pos pins s1 σ _ _ I1 ht) fun us s2 ⟨vs, H2, I2, r, q⟩ => ⟨I2.kIn, ?_⟩) he hpl
  exact run_make M G hr hb hd hx I2 r (conv vs H2 Q E q)
theorem pe_mkK {ks : List Str} {kws : List Keyword} {tk : TA} (F : MkK X.prog X.w X.K X.mg X.base C k ks sp) (hr : Room (k + 1) X.A) (hm : X.mg x = some (.ref C)) (hx : Passes (L2.CX X.prog X.w) X E) (hkw : PK X kws tk) (hg : Gl X x := by rfl)
    (hall : (backToKw pos (keywordEach kws X.env)).all (·.1.isSome) = true := by rfl) (hks : (backToKw pos (keywordEach kws X.env)).filterMap (·.1) = ks := by rfl) (hdb : (x == ("__debug__" : Str)) = false := by decide)
    (hpl : ((backTo pos (starEach [] X.env)).any (·.1) || (backToKw pos (keywordEach kws X.env)).any (·.1.isNone)) = false := by rfl) :
    PE X (.Call (.Name x p) [] kws pos) (tCallW ks.length sp E tk) := by
  obtain ⟨f, fd, ps, g, gV, sp0, M, G, hb, conv⟩ := F.ex
  refine ⟨fun pins s σ H Q I h => ?_⟩
  refine wpAny_Call_Name_kw (ld_glob I hg hm ?_ hdb)
  refine PySem.W.callWith_KW0 (h₀ := X.base) I.ok.mod.kin M.kp hall ?_ hpl
  refine thn (hkw.run pos pins s σ H _ I h) fun ws s2 ⟨zs, H2, I2, rz, l1, q2⟩ => ⟨I2.kIn, ?_⟩
  rw [hks]
  exact run_makeK (us := []) (vs := []) M G hr hb hx I2 .nil rz rfl l1 (conv zs H2 Q E l1 q2)
end
/-- a method of the class at C, or a property of it: the promise takes the object first -/
structure MeI (P : Program) (w : World) (K : PySem.W.Frag) (mg : Str → Option Value) (base : Heap) (C : Addr) (m : Str) (k : Nat) (sp : Sp) : Prop where
  ex : ∃ f fd ps, Cls K C ∧ Meth K C m f ∧ FnOk P w K mg base (L2.CX P w) k f fd ps sp ∧ Binds K fd ps []
structure PrI (P : Program) (w : World) (K : PySem.W.Frag) (mg : Str → Option Value) (base : Heap) (C : Addr) (m : Str) (k : Nat) (sp : Sp) : Prop where
  ex : ∃ p g fd ps, Cls K C ∧ PropOf K C m p g ∧ FnOk P w K mg base (L2.CX P w) k g fd ps sp ∧ Binds K fd ps []
section
variable {X : Cx} {k : Nat} {C : Addr} {sp : Sp} {E : XK} {m : Str} {apos pos : Pos} {e o : Expr} {es : List Expr} {t : TA} {te ta : TE}
theorem pe_mt {pl : Sem Bool} (F : MeI X.prog X.w X.K X.mg X.base C m k sp) (hr : Room k X.A) (hx : Passes (L2.CX X.prog X.w) X E) (he : PE X o ta) (ha : PA X (e :: es) t)
    (ht : eval (.Call (.Attribute o m apos) (e :: es) [] pos) X.env = (do
      let ov ← eval o X.env
      standAt apos.atName
      let (f, first) ← holding [ov] (getMethod ov m pl)
      callWith pos f first (backTo pos (starEach (e :: es) X.env)) (backToKw pos (keywordEach [] X.env))) := by rfl)
    (hs : starEach (e :: es) X.env = (false, eval e X.env) :: starEach es X.env := by rfl) (hpl : (backTo pos (starEach es X.env)).any (·.1) = false := by rfl) :
    PE X (.Call (.Attribute o m apos) (e :: es) [] pos) (tMeth C m sp [] E ta t) := by
  obtain ⟨f, fd, ps, c, M, G, hb⟩ := F.ex
  exact pe_meth he c M G hr hb .nil hx ha hs hpl ht
theorem pe_mt0 {pl : Sem Bool} (F : MeI X.prog X.w X.K X.mg X.base C m k sp) (hr : Room k X.A) (hx : Passes (L2.CX X.prog X.w) X E) (he : PE X o ta)
    (ht : eval (.Call (.Attribute o m apos) [] [] pos) X.env = (do
      let ov ← eval o X.env
      standAt apos.atName
      let (f, first) ← holding [ov] (getMethod ov m pl)
      callWith pos f first (backTo pos (starEach [] X.env)) (backToKw pos (keywordEach [] X.env))) := by rfl) :
    PE X (.Call (.Attribute o m apos) [] [] pos) (tMeth C m sp [] E ta tNil) := by
  obtain ⟨f, fd, ps, c, M, G, hb⟩ := F.ex
  exact pe_meth0 he c M G hr hb .nil hx ht
theorem pe_pr (F : PrI X.prog X.w X.K X.mg X.base C m k sp) (hr : Room (k + 1) X.A) (hx : Passes (L2.CX X.prog X.w) X.nox E) (he : PE X e ta) (hab : attributeBase e m X.env (eval e X.env) = eval e X.env := by rfl) :
    PE X (.Attribute e m pos) (tProp C sp [] E ta) := by
  obtain ⟨p, g, fd, ps, c, hp, G, hb⟩ := F.ex
  exact pe_prop he c hp G hr hb .nil hx hab
/-- an own special method called on values, its answer anything but NotImplemented -/
theorem own_back {Q : VK} {pins : List (Addr × Obj)} {σ : L2.St} {s' : Shared} {u : Value} (h : EP X pins σ Q u s') : PySem.W.CmpBack (EP X pins σ Q) u s' := by
  obtain ⟨v, H', I, r, q⟩ := id h
  cases v with
  | non => cases (show u = Value.none from r); exact h
  | bl b => cases (show u = Value.bool b from r); exact h
  | int b => obtain ⟨t, rfl⟩ := (show ∃ t, u = Value.int b t from r); exact h
  | str b => obtain ⟨t, rfl⟩ := (show ∃ t, u = Value.str b t from r); exact h
  | byt b => obtain ⟨t, rfl⟩ := (show ∃ t, u = Value.bytes b t from r); exact h
  | flt b => obtain ⟨t, rfl⟩ := (show ∃ t, u = Value.float b t from r); exact h
  | ref a => cases (show u = Value.ref a from r); exact h
  | ty n => cases (show u = Value.type n from r); exact h
theorem run_own {f : Addr} {fd : FuncData} {ps : List Str} {pins : List (Addr × Obj)} {σ : L2.St} {H : Hp} {s : Shared} {Q : VK} {us : List Value} {vs : List V} (F : FnOk X.prog X.w X.K X.mg X.base (L2.CX X.prog X.w) k f fd ps sp) (hr : Room k X.A) (hb : Binds X.K fd ps []) (hx : Passes (L2.CX X.prog X.w) X E)
    (I : Inv X pins σ H s) (r : Vals vs us) (h : sp vs H Q E) : wpAny (model X.prog X.w) X.A (call (.ref f) us) (PySem.W.CmpBack (EP X pins σ Q)) X.xe s :=
  thn (run_fn (dvs := []) F hr hb .nil hx I r (by rw [List.append_nil]; exact h)) fun _ _ q => own_back q
/-- a op b, a an instance of the class at C, b one of it, too -/
def rOwn (C : Addr) (sp : Sp) (E : XK) : R2 := fun x y H Q => ∃ a b dx dy fs gs, x = .ref a ∧ y = .ref b ∧ H a = some (.ins C dx fs) ∧ H b = some (.ins C dy gs) ∧ sp [.ref a, .ref b] H Q E
theorem op_own {op : Operator} (F : MeI X.prog X.w X.K X.mg X.base C (PySem.dunder op.info.2) k sp) (sf : PySem.W.selfFirst X.K C = true) (hr : Room k X.A) (hx : Passes (L2.CX X.prog X.w) X E) : OpR X (binaryOp op) (rOwn C sp E) := by
  obtain ⟨f, fd, ps, c, M, G, hb⟩ := F.ex
  intro pins s σ H x y v u Q I rx ry h
  obtain ⟨a, b, dx, dy, fs, gs, rfl, rfl, ha, hb', q⟩ := h
  cases rx
  cases ry
  obtain ⟨mA, J, _⟩ := ins_get I.hok ha
  obtain ⟨mB, J', _⟩ := ins_get I.hok hb'
  obtain ⟨od, J, _⟩ := J.look
  obtain ⟨od', J', _⟩ := J'.look
  obtain ⟨m, hF⟩ := I.fr
  exact PySem.W.binop_K hF I.ok.mod.kin J J'.type sf M.at_ M.fn (run_own (vs := [.ref a, .ref b]) G hr hb hx I (.cons rfl (.cons rfl .nil)) q)
/-- a op n, n an int -/
def rOwnI (C : Addr) (sp : Sp) (E : XK) : R2 := fun x y H Q => ∃ a n dx fs, x = .ref a ∧ y = .int n ∧ H a = some (.ins C dx fs) ∧ sp [.ref a, .int n] H Q E
theorem op_ownI {op : Operator} {rc : Option Value} (F : MeI X.prog X.w X.K X.mg X.base C (PySem.dunder op.info.2) k sp) (sf : PySem.W.selfFirst X.K C = true) (hrc : PySem.W.findIn X.K (.ref C) (dunderR op.info.2) = some rc) (hp : rc = none ∨ ∃ g : Addr, rc = some (.ref g))
    (hi : ∃ fo ro, PySem.W.findIn X.K (.type "int") (PySem.dunder op.info.2) = some fo ∧ PySem.W.findIn X.K (.type "int") (dunderR op.info.2) = some ro ∧ PySem.W.subIn X.K (.type "int") (.ref C) = some false)
    (hr : Room k X.A) (hx : Passes (L2.CX X.prog X.w) X E) : OpR X (binaryOp op) (rOwnI C sp E) := by
  obtain ⟨f, fd, ps, c, M, G, hb⟩ := F.ex
  obtain ⟨fo, ro, h1, h2, h3⟩ := hi
  intro pins s σ H x y v u Q I rx ry h
  obtain ⟨a, n, dx, fs, rfl, rfl, ha, q⟩ := h
  cases rx
  obtain ⟨t, rfl⟩ := ry
  obtain ⟨mA, J, _⟩ := ins_get I.hok ha
  obtain ⟨od, J, _⟩ := J.look
  obtain ⟨m, hF⟩ := I.fr
  exact PySem.W.ksp_binT hF I.ok.mod.kin J rfl sf M.at_ M.fn hrc hp h1 h2 h3 (run_own (vs := [.ref a, .int n]) G hr hb hx I (.cons rfl (.cons ⟨_, rfl⟩ .nil)) q)
/-- -a -/
theorem un_own (F : MeI X.prog X.w X.K X.mg X.base C "__neg__" k sp) (hr : Room k X.A) (hx : Passes (L2.CX X.prog X.w) X E) : UnR X (unaryOp .USub) (fun x H Q => ∃ a dx fs, x = .ref a ∧ H a = some (.ins C dx fs) ∧ sp [.ref a] H Q E) := by
  obtain ⟨f, fd, ps, c, M, G, hb⟩ := F.ex
  intro pins s σ H x v Q I rx h
  obtain ⟨a, dx, fs, rfl, ha, q⟩ := h
  cases rx
  obtain ⟨mA, J, _⟩ := ins_get I.hok ha
  obtain ⟨od, J, _⟩ := J.look
  obtain ⟨m, hF⟩ := I.fr
  exact PySem.W.ksp_neg hF I.ok.mod.kin J M.at_ M.fn (run_fn (dvs := []) (vs := [.ref a]) G hr hb .nil hx I (.cons rfl .nil) q)
/-- a == b by an own __eq__ -/
theorem op_ownEq (F : MeI X.prog X.w X.K X.mg X.base C "__eq__" k sp) (hr : Room k X.A) (hx : Passes (L2.CX X.prog X.w) X E) : OpR X (compareOp .Eq) (rOwn C sp E) := by
  obtain ⟨f, fd, ps, c, M, G, hb⟩ := F.ex
  intro pins s σ H x y v u Q I rx ry h
  obtain ⟨a, b, dx, dy, fs, gs, rfl, rfl, ha, hb', q⟩ := h
  cases rx
  cases ry
  obtain ⟨mA, J, _⟩ := ins_get I.hok ha
  obtain ⟨mB, J', _⟩ := ins_get I.hok hb'
  obtain ⟨od, J, _⟩ := J.look
  obtain ⟨od', J', _⟩ := J'.look
  obtain ⟨m, hF⟩ := I.fr
  exact PySem.W.cmp_K (op := .Eq) (tb := .ref C) hr.units0 hF I.ok.mod.kin J J'.type (by simp [PySem.W.notFirst]) M.at_ M.fn (run_own (vs := [.ref a, .ref b]) G hr hb hx I (.cons rfl (.cons rfl .nil)) q)
/-- a def run one or two levels within a builtin -/
theorem run_at {A' : Around} {f : Addr} {fd : FuncData} {ps : List Str} {pins : List (Addr × Obj)} {σ : L2.St} {H : Hp} {s : Shared} {Q : VK} {us : List Value} {vs : List V} (F : FnOk X.prog X.w X.K X.mg X.base (L2.CX X.prog X.w) k f fd ps sp) (hr : Room k A') (hA : A'.frames = X.A.frames) (hb : Binds X.K fd ps []) (hx : Passes (L2.CX X.prog X.w) X E)
    (I : Inv X pins σ H s) (r : Vals vs us) (h : sp vs H Q E) : wpAny (model X.prog X.w) A' (call (.ref f) us) (EP X pins σ Q) X.xe s := by
  have hl : (us ++ []).length = ps.length := by rw [List.append_nil, ← r.length]; exact F.len _ _ _ _ h
  have e0 : Env0 X.prog X.w X.K X.mg X.base A' X.stack s H := by
    have e := I.env0
    exact ⟨by rw [hA]; exact e.frames, e.mod, e.bs, e.bsz, e.funs, e.frf, e.hok, e.bare⟩
  have hb2 := hb s us I.kIn hl
  rw [List.append_nil] at hb2
  refine wpAny_call (codeAny_mono (F.run A' X.stack s H ⟨us, []⟩ us vs Q E hr e0 hb2 r h) fun r s' hq => ?_)
  cases r with
  | error e => exact hx pins σ H s e s' I hq
  | ok fl =>
    cases fl with
    | ret u => exact I.after hq
    | next => exact False.elim hq
    | brk => exact False.elim hq
    | cont => exact False.elim hq
/-- str(a) by an own __str__ -/
theorem call_strO (F : MeI X.prog X.w X.K X.mg X.base C "__str__" k sp) (hr : Room (k + 2) X.A) (hx : Passes (L2.CX X.prog X.w) X E) : CallR X (.type "str") (fun xs H Q => ∃ a dx fs, xs = [.ref a] ∧ H a = some (.ins C dx fs) ∧ sp [.ref a] H (fun v H' => (∃ z, v = .str z) ∧ Q v H') E) := by
  obtain ⟨f, fd, ps, c, M, G, hb⟩ := F.ex
  intro pins s σ H xs us Q I r h
  obtain ⟨a, dx, fs, rfl, ha, q⟩ := h
  obtain ⟨u, rfl, ru⟩ := vals1 r
  cases ru
  obtain ⟨mA, J, _⟩ := ins_get I.hok ha
  obtain ⟨od, J, _⟩ := J.look
  have hr1 : Room (k + 1) X.A.in1 := hr.in1
  have hr2 : Room k X.A.in1.in1 := hr1.in1
  refine PySem.W.kso_call hr2.units0 I.kIn J M.at_ M.fn (thn (run_at (A' := X.A.in1.in1) (vs := [.ref a]) G hr2 rfl hb hx I (.cons rfl .nil) q) fun u s' ⟨v, H', I', rv, ⟨z, ev⟩, q'⟩ => ?_)
  subst ev
  obtain ⟨t, rfl⟩ := rv
  exact ⟨.str z, H', I', ⟨t, rfl⟩, q'⟩
end
end Xl

namespace Xl
open PySem PySem.Spec PyProof.Rows L2
/-! ### calls in a try: what they let out depends on the slots -/
section
variable {X : Cx} {k : Nat} {C f : Addr} {fd : FuncData} {ps : List Str} {sp : Sp} {W : WX} {x m : Str} {p pos apos : Pos} {e o : Expr} {es : List Expr} {t : TA} {ta : TE}
/-- the callee ends -/
theorem end_fnS {E : XK} {pins : List (Addr × Obj)} {σ : L2.St} {H : Hp} {s : Shared} {Q : VK} {vs : List V} {us : List Value} {a : Args} (F : FnOk X.prog X.w X.K X.mg X.base (L2.CX X.prog X.w) k f fd ps sp) (hr : Room k X.A) (hx : PassesAt (L2.CX X.prog X.w) X σ E)
    (I : Inv X pins σ H s) (hb : BindsTo s fd a (ps.zip us)) (r : Vals vs us) (h : sp vs H Q E) : codeAny (model X.prog X.w) X.A (.call (.ref f) a) (fun r s' => match r with | .ok (.ret v) => EP X pins σ Q v s' | .ok _ => False | .error e => X.xe e s') s := by
  refine codeAny_mono (F.run X.A X.stack s H a us vs Q E hr I.env0 hb r h) fun r s' hq => ?_
  cases r with
  | error e => exact hx pins H s e s' I hq
  | ok fl =>
    cases fl with
    | ret u => exact I.after hq
    | next => exact False.elim hq
    | brk => exact False.elim hq
    | cont => exact False.elim hq
theorem pe_fS (F : FnI X.prog X.w X.K X.mg X.base x k ps sp) (hr : Room k X.A) (tk : Takes X W) (ha : PA X (e :: es) t) (hg : Gl X x := by rfl)
    (hdb : (x == ("__debug__" : Str)) = false := by decide) (he : starEach (e :: es) X.env = (false, eval e X.env) :: starEach es X.env := by rfl) (hpl : (backTo pos (starEach es X.env)).any (·.1) = false := by rfl) :
    PE X (.Call (.Name x p) (e :: es) [] pos) (tCallS sp (WE W) t) := by
  obtain ⟨f, fd, h1, h2, h3, h4⟩ := F.ex
  exact pe_callS h1 hr hg h2 h3 h4 (passAt tk) ha hdb he hpl
theorem run_makeS {E : XK} {ds : List Value} {dvs : List V} {pins : List (Addr × Obj)} {σ : L2.St} {H : Hp} {s : Shared} {Q : VK} {us : List Value} {vs : List V} (M : Mk X.K C f) (F : FnOk X.prog X.w X.K X.mg X.base (L2.CX X.prog X.w) k f fd ps sp) (hr : Room (k + 1) X.A) (hb : Binds X.K fd ps ds) (hd : Vals dvs ds)
    (hx : PassesAt (L2.CX X.prog X.w) X σ E) (I : Inv X pins σ H s) (r : Vals vs us)
    (h : ∀ x dx, H x = none → H dx = none → dx ≠ x → sp (.ref x :: (vs ++ dvs)) (upd (upd H dx (.own x)) x (.ins C dx [])) (fun v H2 => v = .non ∧ Q (.ref x) H2) E) :
    wpAny (model X.prog X.w) X.A (call (.ref C) us) (EP X pins σ Q) X.xe s := by
  have hq := h (s.heap.objs.size + 1) s.heap.objs.size (I.hok.fresh (Nat.le_succ _)) (I.hok.fresh (Nat.le_refl _)) (Nat.ne_of_lt (Nat.lt_succ_self _))
  have I2 := Inv.made (C := C) I
  have r2 : Vals (V.ref (s.heap.objs.size + 1) :: (vs ++ dvs)) (Value.ref (s.heap.objs.size + 1) :: (us ++ ds)) := .cons rfl (r.append hd)
  have hl : (Value.ref (s.heap.objs.size + 1) :: us ++ ds).length = ps.length := by
    have e := r2.length
    rw [F.len _ _ _ _ hq] at e
    exact e.symm
  refine wpAny_call (make_map (f := f) I.kIn M.makes M.init (beq_iff_eq.mp M.fn) (codeAny_mono (F.run _ X.stack _ _ ⟨Value.ref (s.heap.objs.size + 1) :: us, []⟩ (Value.ref (s.heap.objs.size + 1) :: (us ++ ds)) _ _ E (hr.make C us [])
    (I2.env0.make C us []) (hb _ (Value.ref (s.heap.objs.size + 1) :: us) I2.kIn hl) r2 hq) fun r s' hq' => ?_))
  cases r with
  | error e => exact hx pins _ _ e s' I2 hq'
  | ok fl =>
    cases fl with
    | ret u =>
      obtain ⟨v, H', I3, rv, ev, q3⟩ := I2.after hq'
      subst ev
      exact ⟨rv, ⟨V.ref (s.heap.objs.size + 1), H', I3, rfl, q3⟩⟩
    | next => exact False.elim hq'
    | brk => exact False.elim hq'
    | cont => exact False.elim hq'
theorem pe_mkS (F : MkI X.prog X.w X.K X.mg X.base C k sp) (hr : Room (k + 1) X.A) (hm : X.mg x = some (.ref C)) (tk : Takes X W) (ha : PA X (e :: es) t) (hg : Gl X x := by rfl)
    (hdb : (x == ("__debug__" : Str)) = false := by decide) (he : starEach (e :: es) X.env = (false, eval e X.env) :: starEach es X.env := by rfl) (hpl : (backTo pos (starEach es X.env)).any (·.1) = false := by rfl) :
    PE X (.Call (.Name x p) (e :: es) [] pos) (tCallS sp (WE W) t) := by
  obtain ⟨f, fd, ps, dvs, ds, sp0, M, G, hd, hb, conv⟩ := F.ex
  refine ⟨fun pins s σ H Q I h => ?_⟩
  refine wpAny_Call_Name_kw (ld_glob I hg hm ?_ hdb)
  refine PySem.W.callWith_K (h₀ := X.base) I.ok.mod.kin M.kp (thn (ha.run pos pins s σ H _ I h) fun us s1 ⟨vs, H1, I1, r, q⟩ => ⟨I1.kIn, ?_⟩) he hpl
  exact run_makeS M G hr hb hd (passAt tk σ) I1 r (conv vs H1 Q _ q)
end
/-! ### classmethods -/
structure CmI (P : Program) (w : World) (K : PySem.W.Frag) (mg : Str → Option Value) (base : Heap) (C : Addr) (m : Str) (k : Nat) (ks : List Str) (sp : Sp) : Prop where
  ex : ∃ mc p g fd c, ClX.CRead K C mc ∧ ClX.CMet K C mc m p g ∧ FnOk P w K mg base (L2.CX P w) k g fd (c :: ks) sp ∧ Binds K fd (c :: ks) [] ∧
    ∀ (s : Shared) (c0 : Value) (ws : List Value), ws.length = ks.length → BindsTo s fd ⟨[c0], ks.zip ws⟩ ((c :: ks).zip (c0 :: ws))
section
variable {X : Cx} {k : Nat} {C : Addr} {ks : List Str} {sp : Sp} {E : XK} {W : WX} {m : Str} {apos pos : Pos} {e o : Expr} {es : List Expr} {t tk : TA} {ta : TE}
theorem raw0 {P : Program} {w : World} {K : PySem.W.Frag} {mg : Str → Option Value} {base : Heap} {f : Addr} {fd : FuncData} {ps : List Str} (F : FnOk P w K mg base (L2.CX P w) k f fd ps sp) (hb : Binds K fd ps []) : FnR P w K mg base (L2.CX P w) k f sp :=
  FnR.imp (FnOk.raw (dvs := []) F hb .nil) fun vs H Q E h => by rw [List.append_nil]; exact h
theorem pe_cm {pl : Sem Bool} (F : CmI X.prog X.w X.K X.mg X.base C m k ks sp) (hr : Room k X.A) (hx : Passes (L2.CX X.prog X.w) X E) (he : PE X o ta) (ha : PA X (e :: es) t)
    (hst : starEach (e :: es) X.env = (false, eval e X.env) :: starEach es X.env := by rfl) (hpl : (backTo pos (starEach es X.env)).any (·.1) = false := by rfl)
    (ht : eval (.Call (.Attribute o m apos) (e :: es) [] pos) X.env = (do
      let ov ← eval o X.env
      standAt apos.atName
      let (f, first) ← holding [ov] (getMethod ov m pl)
      callWith pos f first (backTo pos (starEach (e :: es) X.env)) (backToKw pos (keywordEach [] X.env))) := by rfl) :
    PE X (.Call (.Attribute o m apos) (e :: es) [] pos) (ClX.tCMeth C sp E ta t) := by
  obtain ⟨mc, p, g, fd, c, h1, h2, h3, h4, _⟩ := F.ex
  exact ClX.pe_cmeth he h1 h2 (raw0 h3 h4) hr hx ha hst hpl ht
def tCMethS (C : Addr) (sp : Sp) (E : L2.St → XK) (ta : TE) (t : TA) : TE := fun σ H Q => ta σ H fun x H1 => x = .ref C ∧ t σ H1 fun vs H2 => sp (.ref C :: vs) H2 Q (E σ)
theorem pe_cmS {pl : Sem Bool} (F : CmI X.prog X.w X.K X.mg X.base C m k ks sp) (hr : Room k X.A) (tk : Takes X W) (he : PE X o ta) (ha : PA X (e :: es) t)
    (hst : starEach (e :: es) X.env = (false, eval e X.env) :: starEach es X.env := by rfl) (hpl : (backTo pos (starEach es X.env)).any (·.1) = false := by rfl)
    (ht : eval (.Call (.Attribute o m apos) (e :: es) [] pos) X.env = (do
      let ov ← eval o X.env
      standAt apos.atName
      let (f, first) ← holding [ov] (getMethod ov m pl)
      callWith pos f first (backTo pos (starEach (e :: es) X.env)) (backToKw pos (keywordEach [] X.env))) := by rfl) :
    PE X (.Call (.Attribute o m apos) (e :: es) [] pos) (tCMethS C sp (WE W) ta t) := by
  obtain ⟨mc, p, g, fd, c, r, c', G, hb, _⟩ := F.ex
  refine ⟨fun pins s σ H Q I h => ?_⟩
  refine PySem.W.methodCall_KW (pl := pl) (thn (he.run pins s σ H _ I h) fun u s1 ⟨x, H1, I1, rx, ex, q⟩ => ?_) ht
  subst ex
  obtain rfl : u = Value.ref C := rx
  refine ClX.getmethcm_ok I1 r c' fun s2 I2 => ?_
  refine ClX.callwith_cm I2 (ClX.base_none I1 (Nat.le_refl _)) c'.fi (thn (ha.run pos _ s2 σ H1 _ I2 q) fun us s3 ⟨vs, H2, I3, rv, q2⟩ => ⟨⟨ClX.pin_at I3, I3.kIn⟩, ?_⟩) hst hpl
  have hl : (Value.ref C :: us).length = (c :: ks).length := by
    have := G.len _ _ _ _ q2
    rw [List.length_cons, rv.length] at this
    rw [List.length_cons]
    exact this
  have hb2 := hb s3 (.ref C :: us) I3.kIn (by rw [List.append_nil]; exact hl)
  rw [List.append_nil] at hb2
  exact thn (wpAny_call (PySem.W.method_call (ClX.pin_at I3) (end_fnS (vs := .ref C :: vs) G hr (passAt tk σ) I3 hb2 (.cons rfl rv) q2))) fun _ _ y => ClX.unpinE (p := (s1.heap.objs.size, PySem.W.methodObj (.ref g) (.ref C))) y
/-- C.m(k = v, ..) -/
def tCMethK (C : Addr) (n : Nat) (sp : Sp) (E : XK) (ta : TE) (t : TA) : TE := fun σ H Q => ta σ H fun x H1 => x = .ref C ∧ t σ H1 fun vs H2 => vs.length = n ∧ sp (.ref C :: vs) H2 Q E
theorem pe_cmK {kws : List Keyword} {pl : Sem Bool} (F : CmI X.prog X.w X.K X.mg X.base C m k ks sp) (hr : Room k X.A) (hx : Passes (L2.CX X.prog X.w) X E) (he : PE X o ta) (hkw : PK X kws tk)
    (hall : (backToKw pos (keywordEach kws X.env)).all (·.1.isSome) = true := by rfl) (hks : (backToKw pos (keywordEach kws X.env)).filterMap (·.1) = ks := by rfl)
    (hpl : ((backTo pos (starEach [] X.env)).any (·.1) || (backToKw pos (keywordEach kws X.env)).any (·.1.isNone)) = false := by rfl)
    (ht : eval (.Call (.Attribute o m apos) [] kws pos) X.env = (do
      let ov ← eval o X.env
      standAt apos.atName
      let (f, first) ← holding [ov] (getMethod ov m pl)
      callWith pos f first (backTo pos (starEach [] X.env)) (backToKw pos (keywordEach kws X.env))) := by rfl) :
    PE X (.Call (.Attribute o m apos) [] kws pos) (tCMethK C ks.length sp E ta tk) := by
  obtain ⟨mc, p, g, fd, c, r, c', G, _, hb⟩ := F.ex
  refine ⟨fun pins s σ H Q I h => ?_⟩
  refine PySem.W.methodCall_KW (pl := pl) (thn (he.run pins s σ H _ I h) fun u s1 ⟨x, H1, I1, rx, ex, q⟩ => ?_) ht
  subst ex
  obtain rfl : u = Value.ref C := rx
  refine ClX.getmethcm_ok I1 r c' fun s2 I2 => ?_
  refine PySem.W.callWith_of (P := PySem.W.MethP X.K s1.heap.objs.size g (.ref C)) hpl (PySem.W.keeps_M c'.fi) (evalArgs_kw2_nil hall ?_)
  refine thn (hkw.run pos _ s2 σ H1 _ I2 q) fun ws s3 ⟨zs, H2, I3, rz, l1, q2⟩ => ⟨⟨ClX.pin_at I3, I3.kIn⟩, ?_⟩
  rw [hks]
  refine thn (wpAny_call (PySem.W.method_call (ClX.pin_at I3) ?_)) fun _ _ y => ClX.unpinE (p := (s1.heap.objs.size, PySem.W.methodObj (.ref g) (.ref C))) y
  refine codeAny_mono (G.run X.A X.stack s3 H2 ⟨[.ref C], ks.zip ws⟩ (.ref C :: ws) (.ref C :: zs) Q E hr I3.env0 (hb s3 (.ref C) ws (by rw [← rz.length]; exact l1)) (.cons rfl rz) q2) fun r s' hq => ?_
  cases r with
  | error e => exact hx _ σ H2 s3 e s' I3 hq
  | ok fl =>
    cases fl with
    | ret u => exact I3.after hq
    | next => exact False.elim hq
    | brk => exact False.elim hq
    | cont => exact False.elim hq
end
/-! ### isinstance(e, C), e the caught error, which has fields -/
structure XkC (K : PySem.W.Frag) (C : Addr) : Prop where
  ha : PySem.W.findIn K (.ref C) "__class__" = some (some (.builtin "object.__class__"))
  hn : PySem.W.specialIn K (.builtin "object.__class__") "__get__" = some (some (.builtin "getset_descriptor.__get__"))
  ht : PySem.W.takesIn K (.builtin "object.__class__") = some true
  hm : PySem.W.mroIn K C (.type "object") = some true
def rIsX (K : PySem.W.Frag) (D a : Addr) (cls : Value) (d : Option Addr) : List V → Hp → VK → Prop := fun xs H Q => ∃ (c : V) (cv : Value) (b : Bool) (dd : Addr) (fs : List (Str × V)),
  cls = .ref D ∧ d = some dd ∧ H dd = some (.xd fs) ∧ xs = [.ref a, c] ∧ (∀ u, RelV c u → u = cv) ∧ PySem.W.kitOne K (.ref D) cv = some b ∧ Q (.bl b) H
theorem call_isX {X : Cx} {a D : Addr} {oe : Obj} {cls : Value} {d : Option Addr} {pn : List (Addr × Obj)} (T : XfC X.K D) (C : XkC X.K D) (hz : Zc cls d oe) (hf : ∃ vs, oe.data = .fields vs) : CallR (X.suite a ((a, oe) :: pn)) (.builtin "isinstance") (rIsX X.K D a cls d) := by
  intro pins s σ H xs us Q I r h
  obtain ⟨c, cv, b, dd, fs, rfl, rfl, hdd, rfl, hcv, e, q⟩ := h
  cases r with
  | cons rx rr =>
    cases rr with
    | cons rt rr =>
      cases rr
      cases rx
      have ec := hcv _ rt
      subst ec
      obtain ⟨hget, _⟩ := I.pin (a, oe) (List.mem_append.mpr (.inl List.mem_cons_self))
      obtain ⟨vs, hv⟩ := hf
      have hx : ObjOk X.prog X.w H s.heap dd (.xd fs) := I.hok dd _ hdd
      obtain ⟨mA, hns, hr⟩ := hx
      obtain ⟨od, ho, hl⟩ := lookIn_ns hns
      have J : PySem.W.InstAt s.heap a oe D (some od) := ⟨hget, hz.1, by unfold PySem.W.notCls; rw [hv] <;> rfl, by rw [hz.2]; exact ho⟩
      have hcl : (PySem.W.clsIn X.K D).isSome = true := by
        obtain ⟨cd, hc, _⟩ := PySem.W.any_some T.hdC
        rw [hc]; rfl
      exact PySem.W.kia_one (PySem.W.kitx_exc hcl T.ga T.gg T.exC C.ha C.hn C.ht C.hm) I.kIn J e (fun z => nomatch z) fun tk => ⟨.bl b, H, I.kept (t' := tk) fun _ _ z => z, rfl, q⟩
end Xl

namespace Xl
open PySem PySem.Spec PyProof.Rows L2
/-! ### the class Ratio -/
/-- // by any divisor but 0, below 2 ^ 9000 in size -/
theorem op_fdivX {X : Cx} : OpR X (binaryOp .FloorDiv) (rI (fun _ j => j ≠ 0 ∧ j.natAbs.log2 < 9000) fun i j => .int (i.fdiv j)) := opI fun _ _ _ _ _ _ _ hc q => floordiv_int hc.1 q (.inl (PyProof.noPylong_of_log2 hc.2))
def ratF (p q : Int) : List (Str × V) := putF "lower" (.int q) (putF "upper" (.int p) [])
theorem ul : ¬ (("upper" : Str) = "lower") := by decide +kernel
theorem ratF_up (p q : Int) : (ratF p q).lookup ("upper" : Str) = some (.int p) := by
  unfold ratF
  rw [lookup_putF, if_neg ul, lookup_putF, if_pos rfl]
theorem ratF_lo (p q : Int) : (ratF p q).lookup ("lower" : Str) = some (.int q) := by
  unfold ratF
  rw [lookup_putF, if_pos rfl]
theorem ratF_no (p q : Int) {m : Str} (h1 : ¬ m = "lower") (h2 : ¬ m = "upper") : (ratF p q).lookup m = none := by
  unfold ratF
  rw [lookup_putF, if_neg h1, lookup_putF, if_neg h2]
  rfl
/-- the object at r is the ratio p / q -/
def RatO (C : Addr) (H : Hp) (r : Addr) (p q : Int) : Prop := Low p q ∧ ∃ dx, H r = some (.ins C dx (ratF p q))
theorem RatO.same {C : Addr} {H H' : Hp} {r : Addr} {p q : Int} (h : RatO C H r p q) (s : Same H H') : RatO C H' r p q := ⟨h.1, h.2.elim fun dx e => ⟨dx, s _ _ e⟩⟩
/-- a value that is a ratio or an integer -/
def Num (C : Addr) (H : Hp) (v : V) (p q : Int) : Prop := (v = .int p ∧ q = 1) ∨ ∃ r, v = .ref r ∧ RatO C H r p q
theorem Num.same {C : Addr} {H H' : Hp} {v : V} {p q : Int} (h : Num C H v p q) (s : Same H H') : Num C H' v p q := h.elim .inl fun ⟨r, e, h⟩ => .inr ⟨r, e, h.same s⟩
theorem Num.low {C : Addr} {H : Hp} {v : V} {p q : Int} (h : Num C H v p q) : Low p q := by
  rcases h with ⟨_, rfl⟩ | ⟨r, _, h⟩
  · exact low_one p
  · exact h.1
def spGcd : Sp := fun vs H Q _ => ∃ a b : Int, vs = [.int a, .int b] ∧ Q (.int (Int.gcd a b : Int)) H
/-- __init__ at a new instance -/
def spRin (C CO : Addr) : Sp := fun vs H Q E => ∃ (x dx : Addr) (t b : Int), vs = [.ref x, .int t, .int b] ∧ H x = some (.ins C dx []) ∧ (∃ n, n ≤ 8000 ∧ b.natAbs < 2 ^ n) ∧
  ((b ≠ 0 ∧ ∀ H', H' x = some (.ins C dx (ratF (nT t b) (nB t b))) → (∀ c o, H c = some o → c ≠ x → H' c = some o) → Q .non H') ∨
    (b = 0 ∧ ∀ d H', Same H H' → H d = none → H' d = some (.xd [("value", .int b)]) → E (.ref CO) (some d) H'))
/-- Ratio(t, b) -/
def spRat (C CO : Addr) : Sp := fun vs H Q E => ∃ t b : Int, vs = [.int t, .int b] ∧ (∃ n, n ≤ 8000 ∧ b.natAbs < 2 ^ n) ∧
  ((b ≠ 0 ∧ ∀ r H', Same H H' → H r = none → RatO C H' r (nT t b) (nB t b) → Q (.ref r) H') ∨
    (b = 0 ∧ ∀ d H', Same H H' → H d = none → H' d = some (.xd [("value", .int b)]) → E (.ref CO) (some d) H'))
/-- Ratio(t) -/
def spRat1 (C : Addr) : Sp := fun vs H Q _ => ∃ t : Int, vs = [.int t] ∧ ∀ r H', Same H H' → H r = none → RatO C H' r t 1 → Q (.ref r) H'
def spAs (C : Addr) : Sp := fun vs H Q _ => ∃ (v : V) (p q : Int), vs = [v] ∧ Num C H v p q ∧ ∀ r H', Same H H' → (v = .ref r ∨ H r = none) → RatO C H' r p q → Q (.ref r) H'
def spTop (C : Addr) : Sp := fun vs H Q _ => ∃ r p q, vs = [.ref r] ∧ RatO C H r p q ∧ Q (.int p) H
def spBot (C : Addr) : Sp := fun vs H Q _ => ∃ r p q, vs = [.ref r] ∧ RatO C H r p q ∧ Q (.int q) H
def sgn (p : Int) : Int := if p = 0 then 0 else if 0 < p then 1 else -1
def spSgn (C : Addr) : Sp := fun vs H Q _ => ∃ r p q, vs = [.ref r] ∧ RatO C H r p q ∧ Q (.int (sgn p)) H
/-- r == s, both ratios -/
def spReq (C : Addr) : Sp := fun vs H Q _ => ∃ r s p q p' q', vs = [.ref r, .ref s] ∧ RatO C H r p q ∧ RatO C H s p' q' ∧ Q (.bl (decide (p = p' ∧ q = q'))) H
/-- the text of a ratio -/
def rtext (p q : Int) : Str := if q = 1 then toString p else (toString p : Str) ++ "/" ++ (toString q : Str)
def spRstr (C : Addr) : Sp := fun vs H Q _ => ∃ r p q, vs = [.ref r] ∧ RatO C H r p q ∧ p.natAbs.log2 < 1920 ∧ q.natAbs.log2 < 1920 ∧ Q (.str (rtext p q)) H
theorem gcd_absl (a b : Int) : Int.gcd (if a < 0 then -a else a) b = Int.gcd a b := by
  split
  · exact Int.neg_gcd ..
  · rfl
theorem gcd_absr (a b : Int) : Int.gcd a (if b < 0 then -b else b) = Int.gcd a b := by
  split
  · exact Int.gcd_neg ..
  · rfl
theorem abs_nn (a : Int) : 0 ≤ (if a < 0 then -a else a) := by split <;> omega
section
variable {P : Program} {w : World} {K : PySem.W.Frag} {mg : Str → Option Value} {base : Heap}
abbrev N_common_divisor : List Str := ["first", "second"]
theorem sc_common_divisor : FnScope N_common_divisor ["first", "second"] (defScope s_common_divisor) := ⟨rfl, rfl, rfl, by decide +kernel, rfl, by decide +kernel, by decide +kernel⟩
theorem ok_common_divisor (T : GG K mg) : FnOk P w K mg base (L2.CX P w) 1 T.a_common_divisor T.fd_common_divisor ["first", "second"] spGcd := by
  refine okN T.F_common_divisor sc_common_divisor (fun vs H Q E h => ?_) (fun cdv A outer s H vs Q E hr h => ?_)
  · obtain ⟨a, b, rfl, _⟩ := h
    rfl
  · obtain ⟨a, b, rfl, k⟩ := h
    refine ⟨_, (pss_cons (ps_set (i := 0) sc_common_divisor.nd rfl (Or.inl rfl) (pe_callB call_abs rfl T.z_abs (by decide +kernel) (pa_cons (pv 0) pa_nil)))
      (pss_cons (ps_set (i := 1) sc_common_divisor.nd rfl (Or.inl rfl) (pe_callB call_abs rfl T.z_abs (by decide +kernel) (pa_cons (pv 1) pa_nil)))
      (pss_cut (ps_while PassesOwn.never (pt_cmpR op_ne (pv 1) pe_int (nomark _))
        (pss_one (ps_par (i := 0) (j := 1) rfl sc_common_divisor.nd rfl rfl (by decide) rfl rfl (pa_cons (pv 1) (pa_cons (pe_op op_mod (pv 0) (pv 1)) pa_nil)) rfl)))
      (pss_one (ps_ret (pv 0)))))), ?_⟩
    refine ⟨_, rfl, _, rfl, _, rfl, _, rfl, ?_⟩
    refine ⟨fun σ H1 => ∃ c, σ = [some (.int (Int.gcd a b : Int)), some c] ∧ H1 = H, ⟨fun m σ H1 => ∃ x y : Int, m = y.toNat ∧ 0 ≤ x ∧ 0 ≤ y ∧ σ = [some (.int x), some (.int y)] ∧ H1 = H ∧ Int.gcd x y = Int.gcd a b, ⟨_, _, _, rfl, abs_nn a, abs_nn b, rfl, rfl, ?_⟩, ?_⟩, ?_⟩
    · rw [gcd_absl, gcd_absr]
    · rintro m σ H1 ⟨x, y, rfl, hx, hy, rfl, rfl, hg⟩
      refine ⟨_, rfl, rfl, _, rfl, iteB (fun hne => ?_) (fun he => ?_)⟩
      · have hy0 : y ≠ 0 := by
          intro e
          subst e
          simp at hne
        refine ⟨_, fun _ _ z => z, ?_⟩
        refine ⟨_, rfl, _, rfl, _, rfl, _, _, rfl, rfl, (by omega), _, _, rfl, ?_⟩
        have h0 := Int.emod_nonneg x hy0
        have h1 := Int.emod_lt_of_pos x (show 0 < y by omega)
        exact ⟨(x % y).toNat, by omega, y, x % y, rfl, by omega, h0, rfl, rfl, by rw [gcd_step hx (by omega)]; exact hg⟩
      · have hy0 : y = 0 := by
          have z := bnf he
          have := of_decide_eq_true z
          exact V.int.inj this
        subst hy0
        have e : x = (Int.gcd a b : Int) := by
          rw [← hg, Int.gcd_zero_right]
          omega
        exact ⟨_, by rw [e], rfl⟩
    · rintro σ H1 ⟨c, rfl, rfl⟩
      exact ⟨_, rfl, k⟩
theorem F_common_divisor (T : GG K mg) : FnI P w K mg base "common_divisor" 1 ["first", "second"] spGcd :=
  ⟨T.a_common_divisor, T.fd_common_divisor, ok_common_divisor T, T.m_common_divisor, T.F_common_divisor.kp, T.F_common_divisor.binds fun _ _ _ _ _ _ us hl => match us, hl with | [_, _], _ => rfl⟩
abbrev N_Ratio___init__ : List Str := ["self", "top", "bottom", "divisor"]
theorem sc_Ratio___init__ : FnScope N_Ratio___init__ ["self", "top", "bottom"] (defScope s_Ratio___init__) := ⟨rfl, rfl, rfl, by decide +kernel, rfl, by decide +kernel, by decide +kernel⟩
theorem div_ok {t b : Int} (hb : b ≠ 0) (h : ∃ n, n ≤ 8000 ∧ b.natAbs < 2 ^ n) : sgcd t b ≠ 0 ∧ (sgcd t b).natAbs.log2 < 9000 := by
  obtain ⟨n, hn, hlt⟩ := h
  refine ⟨sgcd_ne hb, ?_⟩
  have e : (sgcd t b).natAbs ≤ b.natAbs := by
    rw [natAbs_sgcd]
    exact Nat.le_of_dvd (Int.natAbs_pos.mpr hb) (Int.ofNat_dvd_left.mp (Int.gcd_dvd_right ..))
  have h3 : (sgcd t b).natAbs < 2 ^ n := Nat.lt_of_le_of_lt e hlt
  have hn0 : 0 < n := by
    rcases Nat.eq_zero_or_pos n with z | z
    · subst z
      have : 0 < b.natAbs := Int.natAbs_pos.mpr hb
      omega
    · exact z
  have := PySem.Flt.log2_lt_of hn0 h3
  omega
theorem ok_Ratio___init__ (T : GG K mg) : FnOk P w K mg base (L2.CX P w) 3 T.a_Ratio___init__ T.fd_Ratio___init__ ["self", "top", "bottom"] (spRin T.c_Ratio T.c_OutOfRange) := by
  refine FunD.ok T.F_Ratio___init__ sc_Ratio___init__ (fun vs H Q E h => ?_) (fun cdv A outer s H vs Q E hr h => ?_)
  · obtain ⟨x, dx, t, b, rfl, _⟩ := h
    rfl
  · obtain ⟨x, dx, t, b, rfl, hx, hb, hk⟩ := h
    refine ⟨_, (pss_cut (ps_if (pt_cmpR op_eq (pv 2) pe_int (nomark _)) (pss_one (ps_rx (X_OutOfRange T) (by decide) (hr.mono (by decide)) rfl (takes_of rfl rfl rfl rfl) (pa_cons (pv 2) pa_nil))) pss_nil)
      (pss_cons (ps_set (i := 3) sc_Ratio___init__.nd rfl (Or.inl rfl) (pe_f (F_common_divisor T) (hr.mono (by decide)) passL (pa_cons (pv 1) (pa_cons (pv 2) pa_nil))))
      (pss_cut (ps_if (pt_cmpR op_lt (pv 2) pe_int (nomark _)) (pss_one (ps_set (i := 3) sc_Ratio___init__.nd rfl (Or.inl rfl) (pe_un un_neg (pv 3)))) pss_nil)
      (pss_cons (ps_fld (pv 0) (pe_op op_fdivX (pv 1) (pv 3)) rfl)
      (pss_one (ps_fld (pv 0) (pe_op op_fdivX (pv 2) (pv 3)) rfl)))))), ?_⟩
    refine ⟨fun σ H1 => b ≠ 0 ∧ σ = [some (.ref x), some (.int t), some (.int b), none] ∧ H1 = H, ⟨_, rfl, rfl, _, rfl, iteB (fun he => ?_) (fun hne => ?_)⟩, ?_⟩
    · have hb0 : b = 0 := V.int.inj (of_decide_eq_true he)
      rcases hk with ⟨hn, _⟩ | ⟨_, k⟩
      · exact absurd hb0 hn
      · refine ⟨_, rfl, rfl, fun d H' hs hd hd' => ?_⟩
        exact k d H' hs hd hd'
    · exact ⟨fun e => by subst e; simp at hne, rfl, rfl⟩
    rintro σ H1 ⟨hb0, rfl, rfl⟩
    rcases hk with ⟨_, k⟩ | ⟨he, _⟩
    · refine ⟨_, rfl, _, rfl, t, b, rfl, ?_⟩
      refine ⟨fun σ H2 => σ = [some (.ref x), some (.int t), some (.int b), some (.int (sgcd t b))] ∧ H2 = H1, ⟨_, rfl, _, _, rfl, rfl, _, rfl, iteB (fun he => ?_) (fun hne => ?_)⟩, ?_⟩
      · have hlt : b < 0 := of_decide_eq_true he
        refine ⟨_, rfl, _, rfl, ?_, rfl⟩
        unfold sgcd
        rw [if_pos hlt]
        rfl
      · have hge : ¬ b < 0 := of_decide_eq_false hne
        refine ⟨?_, rfl⟩
        unfold sgcd
        rw [if_neg hge]
        rfl
      rintro σ H2 ⟨rfl, rfl⟩
      refine ⟨_, rfl, _, rfl, _, _, rfl, rfl, div_ok hb0 hb, _, rfl, x, T.c_Ratio, dx, [], rfl, hx, T.cl_Ratio, T.no_Ratio_upper, (by show 0 < 1000; decide), ?_⟩
      refine ⟨_, rfl, _, rfl, _, _, rfl, rfl, div_ok hb0 hb, _, rfl, x, T.c_Ratio, dx, _, rfl, upd_same, T.cl_Ratio, T.no_Ratio_lower, (by show 1 < 1000; decide), ?_⟩
      refine k _ upd_same fun c o e hc => ?_
      rw [upd_ne hc, upd_ne hc]
      exact e
    · exact absurd he hb0
/-- Ratio(t, b) as an expression -/
theorem M_Ratio (T : GG K mg) : MkI P w K mg base T.c_Ratio 3 (spRat T.c_Ratio T.c_OutOfRange) := by
  obtain ⟨ds, hv, hb⟩ := T.F_Ratio___init__.binds1 (ps := ["self", "top", "bottom"]) 3 1 (by simp) (by decide) (fun TT kV doc pm an cdv ct us its l1 l2 => match us, l1, its, l2 with | [_, _, _], _, [_], _ => ⟨_, rfl, rfl⟩)
  refine ⟨T.a_Ratio___init__, T.fd_Ratio___init__, ["self", "top", "bottom"], _, ds, _, T.mk_Ratio, ok_Ratio___init__ T, hv, hb, fun vs H Q E h o dx ho hdx hne => ?_⟩
  · obtain ⟨t, b, rfl, hb, hk⟩ := h
    have sm : Same H (upd (upd H dx (.own o)) o (.ins T.c_Ratio dx [])) := fun c u e => by
      rw [upd_ne (ne_of_none e ho), upd_ne (ne_of_none e hdx)]
      exact e
    refine ⟨o, dx, t, b, rfl, upd_same, hb, ?_⟩
    rcases hk with ⟨hb0, k⟩ | ⟨hb0, k⟩
    · refine .inl ⟨hb0, fun H' e kp => ⟨rfl, k o H' (fun c u ec => kp c u (sm c u ec) (ne_of_none ec ho)) ho ⟨low_n hb0, dx, e⟩⟩⟩
    · refine .inr ⟨hb0, fun d H' hs hd hd' => k d H' (sm.trans hs) (sm.free hd) hd'⟩
theorem M_Ratio1 (T : GG K mg) : MkI P w K mg base T.c_Ratio 3 (spRat1 T.c_Ratio) := by
  obtain ⟨ds, hv, hb⟩ := T.F_Ratio___init__.binds1 (ps := ["self", "top", "bottom"]) 2 0 (by simp) (by decide) (fun TT kV doc pm an cdv ct us its l1 l2 => match us, l1, its, l2 with | [_, _], _, [_], _ => ⟨_, rfl, rfl⟩)
  refine ⟨T.a_Ratio___init__, T.fd_Ratio___init__, ["self", "top", "bottom"], _, ds, _, T.mk_Ratio, ok_Ratio___init__ T, hv, hb, fun vs H Q E h o dx ho hdx hne => ?_⟩
  obtain ⟨t, rfl, k⟩ := h
  have sm : Same H (upd (upd H dx (.own o)) o (.ins T.c_Ratio dx [])) := fun c u e => by
    rw [upd_ne (ne_of_none e ho), upd_ne (ne_of_none e hdx)]
    exact e
  refine ⟨o, dx, t, 1, rfl, upd_same, ⟨1, by decide, by decide⟩, .inl ⟨by decide, fun H' e kp => ⟨rfl, ?_⟩⟩⟩
  rw [(n_one t).1, (n_one t).2] at e
  exact k o H' (fun c u ec => kp c u (sm c u ec) (ne_of_none ec ho)) ho ⟨low_one t, dx, e⟩
theorem ty_Ratio (T : GG K mg) {H : Hp} {r : Addr} {p q : Int} (h : RatO T.c_Ratio H r p q) : TyX K H (.ref r) (.ref T.c_Ratio) := by
  obtain ⟨_, dx, e⟩ := h
  exact .base (.ins e T.cl_Ratio T.ty_Ratio.1 T.ty_Ratio.2.1 T.ty_Ratio.2.2.1 T.ty_Ratio.2.2.2)
end
end Xl

namespace Xl
open PySem PySem.Spec PyProof.Rows L2
section
variable {P : Program} {w : World} {K : PySem.W.Frag} {mg : Str → Option Value} {base : Heap}
theorem sc_Ratio_top : FnScope ["self"] ["self"] (defScope s_Ratio_top) := ⟨rfl, rfl, rfl, by decide +kernel, rfl, by decide +kernel, by decide +kernel⟩
theorem ok_Ratio_top (T : GG K mg) : FnOk P w K mg base (L2.CX P w) 1 T.a_Ratio_top T.fd_Ratio_top ["self"] (spTop T.c_Ratio) := by
  refine okN T.F_Ratio_top sc_Ratio_top (fun vs H Q E h => ?_) (fun cdv A outer s H vs Q E hr h => ?_)
  · obtain ⟨r, p, q, rfl, _⟩ := h
    rfl
  · obtain ⟨r, p, q, rfl, ⟨_, dx, e⟩, k⟩ := h
    refine ⟨_, (pss_one (ps_ret (pe_fld (pv 0) rfl))), ?_⟩
    exact ⟨_, rfl, r, T.c_Ratio, dx, _, _, rfl, e, T.cl_Ratio, T.no_Ratio_upper, ratF_up _ _, k⟩
theorem P_top (T : GG K mg) : PrI P w K mg base T.c_Ratio "top" 1 (spTop T.c_Ratio) := by
  obtain ⟨p, hp⟩ := T.pr_Ratio_top
  exact ⟨p, T.a_Ratio_top, T.fd_Ratio_top, ["self"], T.cl_Ratio, hp, ok_Ratio_top T, T.F_Ratio_top.binds fun _ _ _ _ _ _ us hl => match us, hl with | [_], _ => rfl⟩
theorem sc_Ratio_bottom : FnScope ["self"] ["self"] (defScope s_Ratio_bottom) := ⟨rfl, rfl, rfl, by decide +kernel, rfl, by decide +kernel, by decide +kernel⟩
theorem ok_Ratio_bottom (T : GG K mg) : FnOk P w K mg base (L2.CX P w) 1 T.a_Ratio_bottom T.fd_Ratio_bottom ["self"] (spBot T.c_Ratio) := by
  refine okN T.F_Ratio_bottom sc_Ratio_bottom (fun vs H Q E h => ?_) (fun cdv A outer s H vs Q E hr h => ?_)
  · obtain ⟨r, p, q, rfl, _⟩ := h
    rfl
  · obtain ⟨r, p, q, rfl, ⟨_, dx, e⟩, k⟩ := h
    refine ⟨_, (pss_one (ps_ret (pe_fld (pv 0) rfl))), ?_⟩
    exact ⟨_, rfl, r, T.c_Ratio, dx, _, _, rfl, e, T.cl_Ratio, T.no_Ratio_lower, ratF_lo _ _, k⟩
theorem P_bottom (T : GG K mg) : PrI P w K mg base T.c_Ratio "bottom" 1 (spBot T.c_Ratio) := by
  obtain ⟨p, hp⟩ := T.pr_Ratio_bottom
  exact ⟨p, T.a_Ratio_bottom, T.fd_Ratio_bottom, ["self"], T.cl_Ratio, hp, ok_Ratio_bottom T, T.F_Ratio_bottom.binds fun _ _ _ _ _ _ us hl => match us, hl with | [_], _ => rfl⟩
end
end Xl

namespace Xl
open PySem PySem.Spec PyProof.Rows L2
/-! ### Ratio.read -/
def dgB (c : Nat) : Bool := decide (48 ≤ c) && decide (c ≤ 57)
theorem dig_list : ("0123456789" : Str).cps.toList = [48, 49, 50, 51, 52, 53, 54, 55, 56, 57] := by decide +kernel
theorem dig_mem (c : Nat) : decide (c ∈ ("0123456789" : Str).cps.toList) = dgB c := by
  rw [dig_list]
  unfold dgB
  rw [Bool.eq_iff_iff, Bool.and_eq_true, decide_eq_true_iff, decide_eq_true_iff, decide_eq_true_iff]
  simp only [List.mem_cons, List.not_mem_nil, or_false]
  omega
def rnum (cs : List Nat) : Option Nat := if (1 ≤ cs.length ∧ cs.length ≤ 9) ∧ cs.all dgB = true ∧ ¬ (cs.head? = some 48 ∧ 1 < cs.length) then some (NumText.digitsVal cs) else none
def ovN : Option Nat → V
  | some n => .int n
  | none => .non
def rnumV (cs : List Nat) : V := ovN (rnum cs)
theorem all_dig {cs : List Nat} (h : cs.all dgB = true) : NumText.AllDigits cs := fun c hc => by
  have := List.all_eq_true.mp h c hc
  unfold dgB at this
  rw [Bool.and_eq_true, decide_eq_true_iff, decide_eq_true_iff] at this
  exact this
theorem fold_lt : ∀ (cs : List Nat) (a : Nat), NumText.AllDigits cs → cs.foldl (fun acc c => acc * 10 + (c - 48)) a < (a + 1) * 10 ^ cs.length
  | [], a, _ => by simp
  | c :: cs, a, h => by
    have h1 := fold_lt cs (a * 10 + (c - 48)) h.tail
    have h2 := h.head
    refine Nat.lt_of_lt_of_le h1 ?_
    rw [List.length_cons, Nat.pow_succ, Nat.mul_comm (10 ^ _) 10, ← Nat.mul_assoc]
    exact Nat.mul_le_mul_right _ (by omega)
theorem val_lt {cs : List Nat} (h : NumText.AllDigits cs) : NumText.digitsVal cs < 10 ^ cs.length := by
  have := fold_lt cs 0 h
  rw [Nat.zero_add, Nat.one_mul] at this
  exact this
theorem rnum_lt {cs : List Nat} {n : Nat} (h : rnum cs = some n) : n < 10 ^ 9 := by
  unfold rnum at h
  split at h
  · next hc =>
    cases h
    exact Nat.lt_of_lt_of_le (val_lt (all_dig hc.2.1)) (Nat.pow_le_pow_right (by decide) hc.1.2)
  · cases h
def spRnum : Sp := fun vs H Q _ => ∃ cs, vs = [.str (SX.S cs)] ∧ cs.length ≤ 1000000 ∧ Q (rnumV cs) H
/-- the numbers of a text without its sign -/
def prR (r : List Nat) : Option Nat × Option Nat := match TL.par [47] [] r with | some (h, t) => (rnum h, rnum t) | none => (rnum r, some 1)
theorem prR_some {r h t : List Nat} (e : TL.par [47] [] r = some (h, t)) : prR r = (rnum h, rnum t) := by
  unfold prR
  rw [e]
theorem prR_none {r : List Nat} (e : TL.par [47] [] r = none) : prR r = (rnum r, some 1) := by
  unfold prR
  rw [e]
def finR (neg : Bool) : Option Nat × Option Nat → Option (Int × Int)
  | (some a, some b) => if b = 0 then none else some (if neg = true then -(a : Int) else a, b)
  | _ => none
theorem finR_ok (neg : Bool) (a : Nat) {b : Nat} (h : b ≠ 0) : finR neg (some a, some b) = some (if neg = true then -(a : Int) else a, (b : Int)) := if_neg h
theorem finR_no (neg : Bool) (x : Option Nat) : finR neg (x, none) = none := by cases x <;> rfl
theorem finR_0 (neg : Bool) (a : Nat) {b : Nat} (h : b = 0) : finR neg (some a, some b) = none := if_pos h
/-- what a text writes: sign and upper number, lower number -/
def rdR (cs : List Nat) : Option (Int × Int) := finR (decide (cs.take 1 = [45])) (prR (if decide (cs.take 1 = [45]) = true then cs.drop 1 else cs))
def spRead (C CB : Addr) : Sp := fun vs H Q E => ∃ cs, vs = [.ref C, .str (SX.S cs)] ∧ cs.length ≤ 1000000 ∧
  ((∃ n d, rdR cs = some (n, d) ∧ ∀ r H', Same H H' → H r = none → RatO C H' r (nT n d) (nB n d) → Q (.ref r) H') ∨
   (rdR cs = none ∧ ∀ d H', Same H H' → H d = none → H' d = some (.xd [("text", .str (SX.S cs))]) → E (.ref CB) (some d) H'))
theorem par_len (S : List Nat) : ∀ (l acc a b : List Nat), TL.par S acc l = some (a, b) → a.length ≤ acc.length + l.length ∧ b.length ≤ l.length
  | [], acc, a, b, h => by cases h
  | c :: r, acc, a, b, h => by
    cases e : TL.pre S (c :: r) with
    | true =>
      rw [TL.par_hit e] at h
      cases h
      exact ⟨by omega, by rw [List.length_drop]; omega⟩
    | false =>
      rw [TL.par_miss e] at h
      have := par_len S r _ a b h
      rw [List.length_append, List.length_singleton] at this
      rw [List.length_cons]
      omega
theorem slash_S : (Str.ofString "/") = SX.S [47] := TL.ext_tl (by decide +kernel)
theorem part47 (r : List Nat) : ∃ h t st, Txt.partition (SX.S r) (Str.ofString "/") = (SX.S h, SX.S st, SX.S t) ∧ h.length ≤ r.length ∧ t.length ≤ r.length ∧
    ((TL.par [47] [] r = some (h, t) ∧ st = [47]) ∨ (TL.par [47] [] r = none ∧ st = [] ∧ h = r)) := by
  rw [slash_S]
  cases e : TL.par [47] [] r with
  | none => exact ⟨r, [], [], SX.partition_none (by simp) e, Nat.le_refl _, Nat.zero_le _, .inr ⟨rfl, rfl, rfl⟩⟩
  | some pq =>
    obtain ⟨p, q⟩ := pq
    have := par_len _ _ _ _ _ e
    rw [List.length_nil, Nat.zero_add] at this
    exact ⟨p, q, [47], SX.partition_some (by simp) e, this.1, this.2, .inl ⟨rfl, rfl⟩⟩
theorem cut1_eq (cs : List Nat) : decide (V.str (cutS (SX.S cs) none (some 1)) = V.str "-") = decide (cs.take 1 = [45]) := by
  rw [C8.cutS_slice, SX.slice_to (by decide), decide_eq_decide]
  refine ⟨fun z => ?_, fun z => ?_⟩
  · have := congrArg (fun x : Str => x.cps.toList) (V.str.inj z)
    have e2 : (Str.ofString "-").cps.toList = [45] := by decide +kernel
    simp only [e2] at this
    exact this
  · refine congrArg V.str (TL.ext_tl ?_)
    show cs.take 1 = _
    rw [z]
    decide +kernel
theorem S_sz {cs : List Nat} (h : cs.length ≤ 1000000) : (SX.S cs).length ≤ sizeLine := by
  rw [SX.S_len]; exact small_sz (by omega)
section
variable {P : Program} {w : World} {K : PySem.W.Frag} {mg : Str → Option Value} {base : Heap}
abbrev N_read_number : List Str := ["text", "char"]
theorem sc_read_number : FnScope N_read_number ["text"] (defScope s_read_number) := ⟨rfl, rfl, rfl, by decide +kernel, rfl, by decide +kernel, by decide +kernel⟩
theorem ok_read_number (T : GG K mg) : FnOk P w K mg base (L2.CX P w) 1 T.a_read_number T.fd_read_number ["text"] spRnum := by
  refine okN T.F_read_number sc_read_number (fun vs H Q E h => ?_) (fun cdv A outer s H vs Q E hr h => ?_)
  · obtain ⟨cs, rfl, _⟩ := h
    rfl
  · obtain ⟨cs, rfl, hz, k⟩ := h
    refine ⟨_, (pss_cut (ps_if (pt_not (pt_chain op_le op_le pe_int (pe_callB call_len_str rfl T.z_len PySem.boot_len (pa_cons (pv 0) pa_nil)) (pe_gl T.g_MOST_DIGITS))) (pss_one (ps_ret pe_non)) pss_nil)
      (pss_cons (ps_for PassesOwn.never rfl (pi_str (pv 0)) (pg_name (i := 1) sc_read_number.nd rfl (Or.inl rfl))
        (pss_one (ps_if (pt_cmpR op_notIn_sign (pv 1) (pe_gl T.g_DIGITS) (by rfl)) (pss_one (ps_ret pe_non)) pss_nil)))
      (pss_cons (ps_if (PW.pt (pw_and (pt_cmpR op_eq (pe_ix ix_str (pv 0) pe_int (fun _ _ => rfl)) pe_str (nomark _)) (pw_and1 (pt_cmpR op_gt (pe_callB call_len_str rfl T.z_len PySem.boot_len (pa_cons (pv 0) pa_nil)) pe_int (nomark _))))) (pss_one (ps_ret pe_non)) pss_nil)
      (pss_one (ps_ret (pe_callTy call_int_str rfl T.z_int (by decide +kernel) (pa_cons (pv 0) pa_nil))))))), ?_⟩
    have hz' := S_sz hz
    have el := SX.S_len cs
    have kN : ¬ ((1 ≤ cs.length ∧ cs.length ≤ 9) ∧ cs.all dgB = true ∧ ¬ (cs.head? = some 48 ∧ 1 < cs.length)) → Q .non H := fun e => by
      unfold rnumV rnum at k
      rw [if_neg e] at k
      exact k
    refine ⟨fun σ H1 => H1 = H ∧ σ = [some (.str (SX.S cs)), none] ∧ (1 ≤ cs.length ∧ cs.length ≤ 9), ?_, ?_⟩
    · refine ⟨_, rfl, _, rfl, hz', _, _, rfl, rfl, _, rfl, ?_⟩
      refine iteB (fun h1 => ⟨_, _, rfl, rfl, _, rfl, ?_⟩) (fun h1 => ⟨_, rfl, ?_⟩)
      · have h1' := of_decide_eq_true h1
        refine iteB (fun h2 => kN fun z => ?_) (fun h2 => ⟨rfl, rfl, ?_⟩)
        · have h2' := of_decide_eq_false (bnt h2)
          omega
        · have h2' := of_decide_eq_true (bnf h2)
          omega
      · refine iteT (kN fun z => ?_)
        have h1' := of_decide_eq_false h1
        omega
    rintro σ H1 ⟨rfl, rfl, hlen⟩
    refine ⟨_, rfl, _, rfl, for_it walk_str (fun i σ H2 => H2 = H1 ∧ (∃ v, σ = [some (.str (SX.S cs)), v]) ∧ ∀ (j : Nat) d, j < i → (SX.S cs).cps[j]? = some d → dgB d = true) ⟨rfl, ⟨_, rfl⟩, fun j d hj => absurd hj (Nat.not_lt_zero _)⟩ (fun _ _ _ _ _ => trivial) ?_ ?_⟩
    · rintro i x σ H2 H3 hi ⟨rfl, ⟨v, rfl⟩, hall⟩ ⟨rfl, d, hd, rfl⟩
      refine ⟨_, rfl, d, _, rfl, rfl, _, rfl, ?_⟩
      rw [dig_mem]
      refine iteB (fun q1 => kN fun z => ?_) (fun q1 => ⟨rfl, ⟨_, rfl⟩, fun j d' hj hd' => ?_⟩)
      · have hm : d ∈ cs := by
          rw [List.getElem?_toArray] at hd
          exact List.mem_of_getElem? hd
        have := List.all_eq_true.mp z.2.1 d hm
        rw [this] at q1
        cases q1
      · by_cases hji : j = i
        · subst hji
          rw [hd] at hd'
          cases hd'
          exact bnf q1
        · exact hall j d' (by omega) hd'
    · rintro σ H2 ⟨rfl, ⟨v, rfl⟩, hall⟩
      have ha : cs.all dgB = true := by
        rw [List.all_eq_true]
        intro d hd
        obtain ⟨j, hj, ej⟩ := List.mem_iff_getElem.mp hd
        refine hall j d (by rw [List.size_toArray]; exact hj) ?_
        rw [List.getElem?_toArray, ← ej]
        exact List.getElem?_eq_getElem hj
      cases cs with
      | nil => exact absurd hlen.1 (by decide)
      | cons c r =>
        have fin : ¬ ((c :: r).head? = some 48 ∧ 1 < (c :: r).length) → H2 = H2 → ∃ a n, [V.str (SX.S (c :: r))] = [.str a] ∧ PySem.intText? a = some n ∧ a.length ≤ 640 ∧ Q (.int n) H2 := fun hh _ => by
          refine ⟨_, _, rfl, SX.int_S ha (by simp) (by omega), by omega, ?_⟩
          unfold rnumV rnum at k
          rw [if_pos ⟨hlen, ha, hh⟩] at k
          exact k
        refine ⟨_, rfl, SX.S (c :: r), _, c, rfl, rfl, hz', atI_nat (j := 0) rfl, rfl, _, rfl, ?_⟩
        refine iteB (fun h1 => ⟨_, rfl, _, rfl, hz', _, _, rfl, rfl, _, rfl, iteB (fun h2 => ?_) (fun h2 => ?_)⟩) (fun h1 => iteF ?_)
        · have h1' := V.str.inj (of_decide_eq_true h1)
          have h2' := of_decide_eq_true h2
          refine kN fun z => z.2.2 ⟨?_, by omega⟩
          have e48 : c = 48 := by
            have := congrArg (fun x : Str => x.cps.toList) h1'
            have e2 : (Str.ofString "0").cps.toList = [48] := by decide +kernel
            simp only [e2] at this
            exact (List.cons.inj this).1
          rw [e48]; rfl
        · have h2' := of_decide_eq_false h2
          obtain ⟨a, n, e1, e2, e3, e4⟩ := fin (fun z => by omega) rfl
          exact ⟨_, rfl, a, n, e1, e2, e3, e4⟩
        · have h1' := of_decide_eq_false h1
          have hc : c ≠ 48 := fun z => by
            subst z
            exact h1' (congrArg V.str (TL.ext_tl (by decide +kernel)))
          obtain ⟨a, n, e1, e2, e3, e4⟩ := fin (fun z => hc (Option.some.inj z.1)) rfl
          exact ⟨_, rfl, a, n, e1, e2, e3, e4⟩
theorem F_read_number (T : GG K mg) : FnI P w K mg base "read_number" 1 ["text"] spRnum :=
  ⟨T.a_read_number, T.fd_read_number, ok_read_number T, T.m_read_number, T.F_read_number.kp, T.F_read_number.binds fun _ _ _ _ _ _ us hl => match us, hl with | [_], _ => rfl⟩
abbrev N_Ratio_read : List Str := ["cls", "text", "negative", "top", "bottom", "head", "stroke", "tail"]
theorem sc_Ratio_read : FnScope N_Ratio_read ["cls", "text"] (defScope s_Ratio_read) := ⟨rfl, rfl, rfl, by decide +kernel, rfl, by decide +kernel, by decide +kernel⟩
theorem ok_Ratio_read (T : GG K mg) : FnOk P w K mg base (L2.CX P w) 6 T.a_Ratio_read T.fd_Ratio_read ["cls", "text"] (spRead T.c_Ratio T.c_BadText) := by
  refine T.F_Ratio_read.okX sc_Ratio_read (fun vs H Q E h => ?_) (fun cdv A outer s H vs Q E hr h => ?_)
  · obtain ⟨cs, rfl, _⟩ := h
    rfl
  · obtain ⟨cs, rfl, hz, k⟩ := h
    refine ⟨_, (pss_cons (ps_set (i := 2) sc_Ratio_read.nd rfl (Or.inl rfl) (pe_cmpR op_eq (pe_slice sl_str (pv 1) po_none (po_some pe_int)) pe_str (nomark _)))
      (pss_cons (ps_asg (pe_partition (pe_mono (pe_ifExp (pt_val (pv 2)) (pe_slice sl_str (pv 1) (po_some pe_int) po_none) (pv 1))) pe_str) (pg_tup rfl (pgs_cons (pg_name (i := 5) sc_Ratio_read.nd rfl (Or.inl rfl)) (pgs_cons (pg_name (i := 6) sc_Ratio_read.nd rfl (Or.inl rfl)) (pgs_cons (pg_name (i := 7) sc_Ratio_read.nd rfl (Or.inl rfl)) pgs_nil)))))
      (pss_cons (ps_set (i := 3) sc_Ratio_read.nd rfl (Or.inl rfl) (pe_f (F_read_number T) (hr.mono (by decide)) passL (pa_cons (pv 5) pa_nil)))
      (pss_cons (ps_set (i := 4) sc_Ratio_read.nd rfl (Or.inl rfl) pe_int)
      (pss_cut (ps_if (pt_cmpR op_eq (pv 6) pe_str (nomark _)) (pss_one (ps_set (i := 4) sc_Ratio_read.nd rfl (Or.inl rfl) (pe_f (F_read_number T) (hr.mono (by decide)) passL (pa_cons (pv 7) pa_nil)))) pss_nil)
      (pss_cons (ps_if (PW.pt (pw_or (pt_cmpR op_isN (pv 3) pe_non (nomark _)) (pw_or (pt_cmpR op_isN (pv 4) pe_non (nomark _)) (pw_or1 (pt_cmpR op_eq (pv 4) pe_int (nomark _)))))) (pss_one (ps_rx (X_BadText T) (by decide) (hr.mono (by decide)) rfl (takes_of rfl rfl rfl rfl) (pa_cons (pv 1) pa_nil))) pss_nil)
      (pss_one (ps_ret (pe_mkL (i := 0) (M_Ratio T) (hr.mono (by decide)) rfl (Or.inl rfl) passL (pa_cons (pe_mono (pe_ifExp (pt_val (pv 2)) (pe_un un_neg (pv 3)) (pv 3))) (pa_cons (pv 4) pa_nil))))))))))), ?_⟩
    have hz' := S_sz hz
    refine ⟨_, rfl, 1, rfl, _, rfl, hz', rfl, ?_⟩
    have e1 := cut1_eq cs
    rw [e1]
    unfold rdR at k
    generalize decide (cs.take 1 = [45]) = neg at k ⊢
    refine ⟨fun v H1 => v = .str (SX.S (if neg = true then cs.drop 1 else cs)) ∧ H1 = H, ⟨_, rfl, neg, rfl, ?_⟩, ?_⟩
    · cases neg with
      | true =>
        refine iteT ⟨_, rfl, 1, rfl, _, rfl, hz', ?_, rfl⟩
        rw [C8.cutS_slice, SX.slice_from (by decide)]
        rfl
      | false => exact iteF ⟨_, rfl, rfl, rfl⟩
    rintro v H1 ⟨rfl, rfl⟩
    generalize er : (if neg = true then cs.drop 1 else cs) = r at k ⊢
    have hrl : r.length ≤ 1000000 := by
      rw [← er]
      split
      · rw [List.length_drop]; omega
      · exact hz
    refine ⟨⟨_, rfl⟩, _, _, rfl, rfl, by decide +kernel, S_sz hrl, fun p hp => ?_⟩
    obtain ⟨h, t, st, ep, hh, ht, hst⟩ := part47 r
    rw [ep]
    refine ⟨p, _, rfl, SqT.of upd_same, rfl, _, _, rfl, _, _, rfl, _, _, rfl, rfl, _, rfl, h, rfl, by omega, ?_⟩
    have sm : Same H1 (upd H1 p (.tup [V.str (SX.S h), V.str (SX.S st), V.str (SX.S t)])) := (new_of hp).same
    generalize upd H1 p (.tup [V.str (SX.S h), V.str (SX.S st), V.str (SX.S t)]) = H2 at sm ⊢
    refine ⟨fun σ H3 => H3 = H2 ∧ ∃ b, σ = [some (.ref T.c_Ratio), some (.str (SX.S cs)), some (.bl neg), some (rnumV h), some (ovN b), some (.str (SX.S h)), some (.str (SX.S st)), some (.str (SX.S t))] ∧
      prR r = (rnum h, b) ∧ ∀ n, b = some n → n < 10 ^ 9, ⟨_, rfl, rfl, _, rfl, iteB (fun z => ?_) (fun z => ?_)⟩, ?_⟩
    · have z' := V.str.inj (of_decide_eq_true z)
      rw [slash_S] at z'
      have z2 := SX.S_inj z'
      rcases hst with ⟨e, _⟩ | ⟨_, e, _⟩
      · exact ⟨_, rfl, t, rfl, by omega, rfl, rnum t, rfl, prR_some e, fun n => rnum_lt⟩
      · rw [e] at z2; cases z2
    · rcases hst with ⟨_, e⟩ | ⟨e, _, e3⟩
      · rw [e, slash_S] at z; simp at z
      · exact ⟨rfl, some 1, rfl, by rw [prR_none e, e3], fun n z => by cases z; decide⟩
    rintro σ H3 ⟨rfl, b, rfl, eb, hb9⟩
    rw [eb] at k
    unfold rnumV
    generalize rnum h = a at k ⊢
    have fail : finR neg (a, b) = none → ∃ x, ([some (.ref T.c_Ratio), some (.str (SX.S cs)), some (.bl neg), some (ovN a), some (ovN b), some (.str (SX.S h)), some (.str (SX.S st)), some (.str (SX.S t))] : L2.St)[1]? = some (some x) ∧ [x].length = 1 ∧
        ∀ d H', Same H3 H' → H3 d = none → H' d = some (.xd ([Str.ofString "text"].zip [x]).reverse) → E (.ref T.c_BadText) (some d) H' := fun e => by
      rcases k with ⟨n, d, e2, _⟩ | ⟨_, k⟩
      · rw [e] at e2; cases e2
      · exact ⟨_, rfl, rfl, fun d H' hs hd hd' => k d H' (sm.trans hs) (sm.free hd) hd'⟩
    cases a with
    | none =>
      refine ⟨_, rfl, rfl, _, rfl, iteT ?_⟩
      exact fail rfl
    | some a =>
      refine ⟨_, rfl, rfl, _, rfl, iteF ?_⟩
      cases b with
      | none =>
        refine ⟨_, rfl, rfl, _, rfl, iteT ?_⟩
        exact fail rfl
      | some b =>
        refine ⟨_, rfl, rfl, _, rfl, iteF ⟨_, rfl, rfl, _, rfl, iteB (fun z => ?_) (fun z => ?_)⟩⟩
        · have z' := V.int.inj (of_decide_eq_true z)
          have hb0 : b = 0 := by omega
          exact fail (finR_0 _ _ hb0)
        · have hb0 : b ≠ 0 := fun e => by subst e; simp [ovN] at z
          have hb1 : (b : Int) ≠ 0 := by omega
          rw [finR_ok _ _ hb0] at k
          rcases k with ⟨n, d, e2, k⟩ | ⟨e2, _⟩
          · cases e2
            refine ⟨rfl, fun v H4 => v = .int (if neg = true then -(a : Int) else a) ∧ H4 = H3, ⟨_, rfl, neg, rfl, ?_⟩, ?_⟩
            · cases neg with
              | true => exact iteT ⟨_, rfl, _, rfl, rfl, rfl⟩
              | false => exact iteF ⟨_, rfl, rfl, rfl⟩
            rintro v H4 ⟨rfl, rfl⟩
            refine ⟨_, rfl, _, _, rfl, ⟨100, by decide, ?_⟩, .inl ⟨hb1, fun r' H' hs hr' ho => k r' H' (sm.trans hs) (sm.free hr') ho⟩⟩
            have := hb9 b rfl
            have e2 : ((b : Int)).natAbs = b := Int.natAbs_natCast b
            rw [e2]
            exact Nat.lt_trans this (by decide)
          · cases e2
theorem C_read (T : GG K mg) : CmI P w K mg base T.c_Ratio "read" 6 ["text"] (spRead T.c_Ratio T.c_BadText) := by
  obtain ⟨mc, p, h1, h2⟩ := T.cm_Ratio_read
  refine ⟨mc, p, T.a_Ratio_read, T.fd_Ratio_read, "cls", h1, h2, ok_Ratio_read T, T.F_Ratio_read.binds fun _ _ _ _ _ _ us hl => match us, hl with | [_, _], _ => rfl, ?_⟩
  obtain ⟨oc, od, kV, doc, pm, an, cdv, ct, osl, e, lk, hcd⟩ := T.F_Ratio_read.ex
  rw [e]
  exact fun s c0 ws hl => match ws, hl with | [_], _ => .of_eq rfl
end
end Xl

namespace Xl
open PySem PySem.Spec PyProof.Rows L2
/-! ### what the laws of ratios share: _law_low, _law_is -/
def spLow : Sp := fun vs H Q _ => ∃ u d : Int, vs = [.int u, .int d] ∧ d ≠ 0 ∧ (∃ n, n ≤ 8000 ∧ d.natAbs < 2 ^ n) ∧ ∀ p H', New H p (.tup [.int (nT u d), .int (nB u d)]) H' → Q (.ref p) H'
def PairO (H : Hp) (t : Addr) (p q : Int) : Prop := H t = some (.tup [.int p, .int q])
def spIs (C : Addr) : Sp := fun vs H Q _ => ∃ r t p q, vs = [.ref r, .ref t] ∧ RatO C H r p q ∧ PairO H t p q ∧ ∀ H', Same H H' → Q (.bl true) H'
theorem shaped_pair (p q : Int) : SeqAt.shaped (.tuple [.int p, .int q]) = true := shaped_of (lay_tuple (n := 1) fun d hd => by
  rcases List.mem_cons.mp hd with rfl | hd
  · exact lay_int p
  · rcases List.mem_cons.mp hd with rfl | hd
    · exact lay_int q
    · cases hd) (by decide)
theorem eqv_pair (p q : Int) : PyData.eqv (.tuple [.int p, .int q]) (.tuple [.int p, .int q]) = true := by simp [PyData.eqv, PyData.eqvAll]
section
variable {P : Program} {w : World} {K : PySem.W.Frag} {mg : Str → Option Value} {base : Heap}
abbrev N_low : List Str := ["_law_up", "_law_down", "_law_a", "_law_b"]
theorem sc_low : FnScope N_low ["_law_up", "_law_down"] (defScope s_low) := ⟨rfl, rfl, rfl, by decide +kernel, rfl, by decide +kernel, by decide +kernel⟩
theorem ok_low (T : GG K mg) : FnOk P w K mg base (L2.CX P w) 1 T.a_low T.fd_low ["_law_up", "_law_down"] spLow := by
  refine okN T.F_low sc_low (fun vs H Q E h => ?_) (fun cdv A outer s H vs Q E hr h => ?_)
  · obtain ⟨u, d, rfl, _⟩ := h
    rfl
  · obtain ⟨u, d, rfl, hd0, hd, k⟩ := h
    refine ⟨_, (pss_cons (ps_set (i := 2) sc_low.nd rfl (Or.inl rfl) (pe_callB call_abs rfl T.z_abs (by decide +kernel) (pa_cons (pv 0) pa_nil)))
      (pss_cons (ps_set (i := 3) sc_low.nd rfl (Or.inl rfl) (pe_callB call_abs rfl T.z_abs (by decide +kernel) (pa_cons (pv 1) pa_nil)))
      (pss_cut (ps_while PassesOwn.never (pt_cmpR op_ne (pv 3) pe_int (nomark _))
        (pss_one (ps_par (i := 2) (j := 3) rfl sc_low.nd rfl rfl (by decide) rfl rfl (pa_cons (pv 3) (pa_cons (pe_op op_mod (pe_callTy call_int1 rfl T.z_int (by decide +kernel) (pa_cons (pv 2) pa_nil)) (pv 3)) pa_nil)) rfl)))
      (pss_cut (ps_if (pt_cmpR op_lt (pv 1) pe_int (nomark _)) (pss_one (ps_set (i := 2) sc_low.nd rfl (Or.inl rfl) (pe_un un_neg (pv 2)))) pss_nil)
      (pss_one (ps_ret (pe_tupN (pa_cons (pe_op op_fdivX (pv 0) (pv 2)) (pa_cons (pe_op op_fdivX (pv 1) (pv 2)) pa_nil))))))))), ?_⟩
    refine ⟨_, rfl, _, rfl, _, rfl, _, rfl, ?_⟩
    refine ⟨fun σ H1 => ∃ c, σ = [some (.int u), some (.int d), some (.int (Int.gcd u d : Int)), some c] ∧ H1 = H, ⟨fun m σ H1 => ∃ x y : Int, m = y.toNat ∧ 0 ≤ x ∧ 0 ≤ y ∧ σ = [some (.int u), some (.int d), some (.int x), some (.int y)] ∧ H1 = H ∧ Int.gcd x y = Int.gcd u d, ⟨_, _, _, rfl, abs_nn u, abs_nn d, rfl, rfl, ?_⟩, ?_⟩, ?_⟩
    · rw [gcd_absl, gcd_absr]
    · rintro m σ H1 ⟨x, y, rfl, hx, hy, rfl, rfl, hg⟩
      refine ⟨_, rfl, rfl, _, rfl, iteB (fun hne => ?_) (fun he => ?_)⟩
      · have hy0 : y ≠ 0 := by
          intro e
          subst e
          simp at hne
        refine ⟨_, fun _ _ z => z, ?_⟩
        refine ⟨_, rfl, _, rfl, .inl ⟨x, rfl, _, rfl, _, _, rfl, rfl, (by omega), _, _, rfl, ?_⟩⟩
        have h0 := Int.emod_nonneg x hy0
        have h1 := Int.emod_lt_of_pos x (show 0 < y by omega)
        exact ⟨(x % y).toNat, by omega, y, x % y, rfl, by omega, h0, rfl, rfl, by rw [gcd_step hx (by omega)]; exact hg⟩
      · have hy0 : y = 0 := by
          have z := bnf he
          have := of_decide_eq_true z
          exact V.int.inj this
        subst hy0
        have e : x = (Int.gcd u d : Int) := by
          rw [← hg, Int.gcd_zero_right]
          omega
        exact ⟨_, by rw [e], rfl⟩
    · rintro σ H1 ⟨c, rfl, rfl⟩
      refine ⟨fun σ H2 => H2 = H1 ∧ σ = [some (.int u), some (.int d), some (.int (sgcd u d)), some c], ⟨_, rfl, _, _, rfl, rfl, _, rfl, iteB (fun he => ?_) (fun hne => ?_)⟩, ?_⟩
      · have hlt : d < 0 := of_decide_eq_true he
        refine ⟨_, rfl, _, rfl, rfl, ?_⟩
        unfold sgcd
        rw [if_pos hlt]
        rfl
      · have hge : ¬ d < 0 := of_decide_eq_false hne
        refine ⟨rfl, ?_⟩
        unfold sgcd
        rw [if_neg hge]
      rintro σ H2 ⟨rfl, rfl⟩
      exact ⟨_, rfl, _, rfl, _, _, rfl, rfl, div_ok hd0 hd, _, rfl, _, rfl, _, _, rfl, rfl, div_ok hd0 hd, (by show 2 ≤ sizeLine; decide), k⟩
theorem F_low (T : GG K mg) : FnI P w K mg base "_law_low" 1 ["_law_up", "_law_down"] spLow :=
  ⟨T.a_low, T.fd_low, ok_low T, T.m_low, T.F_low.kp, T.F_low.binds fun _ _ _ _ _ _ us hl => match us, hl with | [_, _], _ => rfl⟩
abbrev N_is : List Str := ["_law_actual", "_law_pair"]
theorem sc_is : FnScope N_is ["_law_actual", "_law_pair"] (defScope s_is) := ⟨rfl, rfl, rfl, by decide +kernel, rfl, by decide +kernel, by decide +kernel⟩
theorem ok_is (T : GG K mg) : FnOk P w K mg base (L2.CX P w) 3 T.a_is T.fd_is ["_law_actual", "_law_pair"] (spIs T.c_Ratio) := by
  refine okN T.F_is sc_is (fun vs H Q E h => ?_) (fun cdv A outer s H vs Q E hr h => ?_)
  · obtain ⟨r, t, p, q, rfl, _⟩ := h
    rfl
  · obtain ⟨r, t, p, q, rfl, hr1, ht, k⟩ := h
    refine ⟨_, (pss_cons (ps_if (PW.pt (pw_or (pt_not (pt_val (pe_callB call_isi rfl T.z_isinstance (by decide +kernel) (pa_cons (pv 0) (pa_cons (pe_cls T.g_Ratio) pa_nil))))) (pw_or (pt_not (pt_val (pe_callB call_isi rfl T.z_isinstance (by decide +kernel) (pa_cons (pe_pr (P_top T) hr passL (pv 0)) (pa_cons (pe_bltn (v := .ty "int") rfl T.z_int (by decide +kernel) rfl) pa_nil))))) (pw_or1 (pt_not (pt_val (pe_callB call_isi rfl T.z_isinstance (by decide +kernel) (pa_cons (pe_pr (P_bottom T) hr passL (pv 0)) (pa_cons (pe_bltn (v := .ty "int") rfl T.z_int (by decide +kernel) rfl) pa_nil))))))))) (pss_one (ps_ret pe_bl)) pss_nil)
      (pss_one (ps_ret (pe_cmpR (op_eqD hr.units) (pe_tupN (pa_cons (pe_pr (P_top T) hr passL (pv 0)) (pa_cons (pe_pr (P_bottom T) hr passL (pv 0)) pa_nil))) (pv 1) (nomark _))))), ?_⟩
    obtain ⟨hlow, dx, e⟩ := id hr1
    refine ⟨_, rfl, _, _, _, _, _, rfl, .own _, ty_Ratio T hr1, T.isa_Ratio_Ratio, _, rfl, iteF ?_⟩
    refine ⟨_, rfl, r, dx, _, rfl, e, r, p, q, rfl, hr1, ?_⟩
    refine ⟨.int p, .ty "int", .type "int", .type "int", true, rfl, .ty _, .base (.int _), kit_ty (by decide +kernel), _, rfl, iteF ?_⟩
    refine ⟨_, rfl, r, dx, _, rfl, e, r, p, q, rfl, hr1, ?_⟩
    refine ⟨.int q, .ty "int", .type "int", .type "int", true, rfl, .ty _, .base (.int _), kit_ty (by decide +kernel), _, rfl, iteF ?_⟩
    refine ⟨_, rfl, r, dx, _, rfl, e, r, p, q, rfl, hr1, _, rfl, r, dx, _, rfl, e, r, p, q, rfl, hr1, (by show 2 ≤ sizeLine; decide), fun t' H1 n1 => ?_⟩
    refine ⟨_, rfl, _, _, .tup (SqT.of n1.at) (.cons (.int p) (.cons (.int q) .nil)), .tup (SqT.of (n1.same _ _ ht)) (.cons (.int p) (.cons (.int q) .nil)), shaped_pair p q, shaped_pair p q, ?_⟩
    rw [eqv_pair]
    exact k H1 n1.same
theorem F_is (T : GG K mg) : FnI P w K mg base "_law_is" 3 ["_law_actual", "_law_pair"] (spIs T.c_Ratio) :=
  ⟨T.a_is, T.fd_is, ok_is T, T.m_is, T.F_is.kp, T.F_is.binds fun _ _ _ _ _ _ us hl => match us, hl with | [_, _], _ => rfl⟩
end
end Xl

namespace Xl
open PySem PySem.Spec PyProof.Rows L2
theorem app_len (x y : Str) : (x ++ y).length = x.length + y.length := str_app_len x y
/-- a text is drawn: at most c draws, at most L signs -/
def spStrD (c L : Nat) : Sp := fun vs H Q _ => ∃ (F : Fp) (st : Addr) (n : Nat), vs = [.ref st] ∧ StAt H F st n ∧ n + c ≤ 2 ^ 38 ∧
  ∀ (z : Str) (F' : Fp) (H' : Hp), z.length ≤ L → StAt H' F' st (n + c) → Fr F H F' H' → Q (.str z) H'
def spSpoiled (c L M : Nat) : Sp := fun vs H Q _ => ∃ (F : Fp) (st : Addr) (n : Nat) (y : Str), vs = [.ref st, .str y] ∧ y.length ≤ L ∧ StAt H F st n ∧ n + c ≤ 2 ^ 38 ∧
  ∀ (z : Str) (F' : Fp) (H' : Hp), z.length ≤ M → StAt H' F' st (n + c) → Fr F H F' H' → Q (.str z) H'
section
variable {P : Program} {w : World} {K : PySem.W.Frag} {mg : Str → Option Value} {base : Heap}
abbrev N_digits : List Str := ["_law_state", "_law_k"]
theorem sc_digits : FnScope N_digits ["_law_state"] (defScope s_digits) := ⟨rfl, rfl, rfl, by decide +kernel, rfl, by decide +kernel, by decide +kernel⟩
theorem ok_digits (T : GG K mg) : FnOk P w K mg base (L2.CX P w) 3 T.a_digits T.fd_digits ["_law_state"] (spStrD 15 2000) := by
  refine okN T.F_digits sc_digits (fun vs H Q E h => ?_) (fun cdv A outer s H vs Q E hr h => ?_)
  · obtain ⟨F, st, n, rfl, _⟩ := h
    rfl
  · obtain ⟨F, st, n, rfl, s0, hn, k⟩ := h
    refine ⟨_, (pss_cons (ps_if (pt_cmpR op_eq (pe_f (F_draw T) (hr.mono (by decide)) passL (pa_cons (pv 0) (pa_cons pe_int pa_nil))) pe_int (nomark _)) (pss_one (ps_ret (pe_callTy call_str_int rfl T.z_str (by decide +kernel) (pa_cons (pe_f (F_draw T) (hr.mono (by decide)) passL (pa_cons (pv 0) (pa_cons pe_int pa_nil))) pa_nil)))) pss_nil)
      (pss_one (ps_ret (pe_join pe_str (pe_lc (own := [("_law_k", 1)])  rfl sc_digits.nd (pi_range1 rfl T.z_range (pa_cons (pe_op op_add pe_int (pe_f (F_draw T) (hr.mono (by decide)) passL (pa_cons (pv 0) (pa_cons pe_int pa_nil)))) pa_nil)) (blkOk_by (N := N_digits) (sc := defScope s_digits) (by decide +kernel)) (fun _ _ _ _ _ => (pg_name (i := 1) sc_digits.nd rfl (Or.inl rfl))) (fun _ _ _ _ _ => pts_nil) (fun _ _ _ _ _ => (pe_ix ix_str pe_str (pe_f (F_draw T) (hr.mono (by decide)) passL (pa_cons (pv 0) (pa_cons pe_int pa_nil))) (fun _ _ => rfl)))))))), ?_⟩
    refine ⟨_, rfl, F, st, n, _, rfl, s0, (by omega), (by decide), (by decide), fun d1 F1 H1 _ _ s1 f1 => ⟨rfl, _, rfl, iteB (fun _ => ?_) (fun _ => ?_)⟩⟩
    · refine ⟨_, rfl, F1, st, n + 1, _, rfl, s1, (by omega), (by decide), (by decide), fun d2 F2 H2 h0 h1 s2 f2 => ?_⟩
      have lg : d2.natAbs.log2 < 1920 := Bd.log (n := 4) (show d2.natAbs < 2 ^ 4 by omega) (by decide)
      have := int_text_len_1921 lg
      exact ⟨d2, rfl, lg, k _ F2 H2 (by omega) (s2.mono (by omega)) (f1.trans f2)⟩
    · refine ⟨⟨_, rfl⟩, _, rfl, F1, st, n + 1, _, rfl, s1, (by omega), (by decide), (by decide), fun d2 F2 H2 h20 h21 s2 f2 => ⟨_, _, rfl, rfl, ?_⟩⟩
      refine ⟨1 + d2, rfl, by omega, by omega, fun D hD => lc_range (lo := 0) (n := (1 + d2).toNat) (fun i H6 => ∃ (F6 : Fp) (cs : List Nat), StAt H6 F6 st (n + 2 + i) ∧ Out F6 H6 D (.lst (onesV cs)) ∧ cs.length = i ∧ Fr F H F6 H6) ?_ ?_ ?_⟩
      · exact ⟨F2, [], s2.new hD, s2.made hD, rfl, (f1.trans f2).trans (Fr.new hD)⟩
      · rintro i H6 hi ⟨F6, cs, s6, o6, hcs, f6⟩
        have hsz : (Str.ofString "0123456789").length ≤ sizeLine := by decide +kernel
        have hl10 : (Str.ofString "0123456789").cps.toList.length = 10 := by decide +kernel
        refine ⟨rfl, _, rfl, _, _, _, _, rfl, s6, (by omega), (by decide), (by decide), fun d7 F7 H7 h70 h71 s7 f7 => ?_⟩
        obtain ⟨j, c, _, _, _, ec⟩ := at_ex h70 (show d7 < ((Str.ofString "0123456789").cps.toList.length : Nat) by rw [hl10]; exact h71)
        have o7 := f7.out o6
        have hDn : H D = none := (f1.trans f2).free D hD
        refine ⟨_, d7, c, rfl, rfl, hsz, ec, _, o7.1, ?_, F7, cs ++ [c], s7.upd o7.2, ?_, ?_, (f6.trans f7).mut hDn⟩
        · unfold onesV; rw [List.length_map]; exact small_szlt (by omega)
        · rw [show onesV (cs ++ [c]) = onesV cs ++ [.str ⟨#[c]⟩] by unfold onesV; rw [List.map_append]; rfl]
          exact Out.here o7.2
        · rw [List.length_append, hcs]; rfl
      rintro H6 ⟨F6, cs, s6, o6, hcs, f6⟩
      have hcl : cs.length ≤ 10 := by omega
      have hsum : ((cs.map fun c => (⟨#[c]⟩ : Str)).map (·.length)).sum + (cs.map fun c => (⟨#[c]⟩ : Str)).length * (Str.ofString "").length = cs.length := by
        rw [ones_sum, List.length_map, show (Str.ofString "").length = 0 from rfl]
        omega
      refine ⟨_, D, cs.map fun c => (⟨#[c]⟩ : Str), rfl, rfl, .inl (SqL.of (by rw [← onesV_str]; exact o6.1)), by rw [hsum]; omega, ?_⟩
      have hw := join_len "" (cs.map fun c => (⟨#[c]⟩ : Str))
      rw [hsum] at hw
      exact k _ F6 H6 (by omega) (s6.mono (by omega)) f6
theorem F_digits (T : GG K mg) : FnI P w K mg base "_law_digits" 3 ["_law_state"] (spStrD 15 2000) :=
  ⟨T.a_digits, T.fd_digits, ok_digits T, T.m_digits, T.F_digits.kp, T.F_digits.binds fun _ _ _ _ _ _ us hl => match us, hl with | [_], _ => rfl⟩
abbrev N_pieced : List Str := ["_law_state", "_law_pieces", "_law_spot", "_law_stray"]
theorem sc_pieced : FnScope N_pieced ["_law_state"] (defScope s_pieced) := ⟨rfl, rfl, rfl, by decide +kernel, rfl, by decide +kernel, by decide +kernel⟩
theorem mem2 {a b z : Str} {L : Nat} (h : z ∈ [a, b]) (ha : a.length ≤ L) (hb : b.length ≤ L) : z.length ≤ L := by
  rcases List.mem_cons.mp h with rfl | h
  · exact ha
  · rcases List.mem_cons.mp h with rfl | h
    · exact hb
    · cases h
theorem len_all {zs : List Str} {z : Str} (L : Nat) (hz : z ∈ zs) (h : zs.all (fun z => decide (z.length ≤ L)) = true) : z.length ≤ L := of_decide_eq_true (List.all_eq_true.mp h z hz)
theorem ok_pieced (T : GG K mg) : FnOk P w K mg base (L2.CX P w) 4 T.a_pieced T.fd_pieced ["_law_state"] (spStrD 40 20000) := by
  refine okN T.F_pieced sc_pieced (fun vs H Q E h => ?_) (fun cdv A outer s H vs Q E hr h => ?_)
  · obtain ⟨F, st, n, rfl, _⟩ := h
    rfl
  · obtain ⟨F, st, n, rfl, s0, hn, k⟩ := h
    refine ⟨_, (pss_cons (ps_set (i := 1) sc_pieced.nd rfl (Or.inl rfl) (pe_lstN (pa_cons (pe_ix ix_list (pe_lstN (pa_cons pe_str (pa_cons pe_str pa_nil))) (pe_f (F_draw T) (hr.mono (by decide)) passL (pa_cons (pv 0) (pa_cons pe_int pa_nil))) (fun _ _ => rfl)) (pa_cons (pe_f (F_digits T) (hr.mono (by decide)) passL (pa_cons (pv 0) pa_nil)) pa_nil))))
      (pss_cut (ps_if (pt_cmpR op_gt (pe_f (F_draw T) (hr.mono (by decide)) passL (pa_cons (pv 0) (pa_cons pe_int pa_nil))) pe_int (nomark _)) (pss_one (ps_set (i := 1) sc_pieced.nd rfl (Or.inl rfl) (pe_op op_catN (pv 1) (pe_lstN (pa_cons pe_str (pa_cons (pe_f (F_digits T) (hr.mono (by decide)) passL (pa_cons (pv 0) pa_nil)) pa_nil)))))) pss_nil)
      (pss_cons (ps_set (i := 2) sc_pieced.nd rfl (Or.inl rfl) (pe_f (F_draw T) (hr.mono (by decide)) passL (pa_cons (pv 0) (pa_cons (pe_op op_add (pe_callB call_len_seq rfl T.z_len PySem.boot_len (pa_cons (pv 1) pa_nil)) pe_int) pa_nil))))
      (pss_cons (ps_set (i := 3) sc_pieced.nd rfl (Or.inl rfl) (pe_ix ix_list (pe_lstN (pa_cons pe_str (pa_cons pe_str (pa_cons pe_str (pa_cons pe_str (pa_cons pe_str (pa_cons pe_str (pa_cons pe_str pa_nil)))))))) (pe_f (F_draw T) (hr.mono (by decide)) passL (pa_cons (pv 0) (pa_cons pe_int pa_nil))) (fun _ _ => rfl)))
      (pss_one (ps_ret (pe_join pe_str (pe_op op_catN (pe_op op_catN (pe_slice sl_listN (pv 1) po_none (po_some (pv 2))) (pe_lstN (pa_cons (pv 3) pa_nil))) (pe_slice sl_listN (pv 1) (po_some (pv 2)) po_none))))))))), ?_⟩
    have sz : ∀ m : Nat, m ≤ 1000 → m ≤ sizeLine := fun m h => small_sz (by omega)
    refine ⟨sz 2 (by decide), fun p1 H1 n1 => ⟨_, rfl, F, st, n, _, rfl, n1.sta s0, (by omega), (by decide), (by decide), fun d2 F2 H2 h20 h21 s2 f2 => ?_⟩⟩
    obtain ⟨z2, hz2, e2⟩ := at_strs (zs := ["", "-"]) h20 h21
    have lz2 : z2.length ≤ 2000 := len_all 2000 hz2 (by decide +kernel)
    refine ⟨p1, _, _, _, rfl, rfl, SqL.of (f2.out (n1.out s0)).1, e2, _, rfl, F2, st, n + 1, rfl, s2, (by omega), fun z3 F3 H3 hz3 s3 f3 => ⟨sz 2 (by decide), fun p4 H4 n4 => ?_⟩⟩
    have fr4 : Fr F H F3 H4 := ((n1.fr.trans f2).trans f3).trans n4.fr
    refine ⟨fun σ H5 => ∃ (F5 : Fp) (m : Nat) (p : Addr) (zs : List Str), m ≤ n + 35 ∧ StAt H5 F5 st m ∧ Fr F H F5 H5 ∧ Out F5 H5 p (.lst (zs.map V.str)) ∧ zs.length ≤ 4 ∧ (∀ z ∈ zs, z.length ≤ 2000) ∧ σ = [some (.ref st), some (.ref p), none, none], ?_, ?_⟩
    · refine ⟨_, rfl, F3, st, n + 16, _, rfl, n4.sta s3, (by omega), (by decide), (by decide), fun d5 F5 H5 h50 h51 s5 f5 => ⟨_, _, rfl, rfl, _, rfl, iteB (fun _ => ?_) (fun _ => ?_)⟩⟩
      · refine ⟨_, rfl, _, rfl, F5, st, n + 17, rfl, s5, (by omega), fun z6 F6 H6 hz6 s6 f6 => ⟨sz 2 (by decide), fun p7 H7 n7 => ?_⟩⟩
        have o6 := f6.out (f5.out (n4.out s3))
        refine ⟨p4, p7, _, _, rfl, rfl, n7.same _ _ o6.1, n7.at, sz _ (by simp), fun p8 H8 n8 => ?_⟩
        refine ⟨F6, n + 32, p8, [z2, z3, "/", z6], by omega, (n8.sta (n7.sta s6)), ((fr4.trans f5).trans f6).trans (n7.fr.trans n8.fr), n8.out (n7.sta s6), by simp, fun z hz => ?_, rfl⟩
        rcases List.mem_cons.mp hz with rfl | hz
        · exact lz2
        · rcases List.mem_cons.mp hz with rfl | hz
          · exact hz3
          · exact mem2 hz (by decide +kernel) hz6
      · exact ⟨F5, n + 17, p4, [z2, z3], by omega, s5, fr4.trans f5, f5.out (n4.out s3), by simp, fun z hz => mem2 hz lz2 hz3, rfl⟩
    rintro σ H5 ⟨F5, m, p, zs, hm, s5, fr5, o5, hzs, hal, rfl⟩
    refine ⟨_, rfl, _, rfl, p, _, rfl, .inl (SqL.of o5.1), _, _, rfl, rfl, ?_⟩
    rw [List.length_map]
    refine ⟨F5, st, m, _, rfl, s5, (by omega), (by omega), ?_, fun d6 F6 H6 h60 h61 s6 f6 => ?_⟩
    · have : (2 : Int) ^ 200 > 1000 := by decide
      omega
    have o6 := f6.out o5
    refine ⟨sz 7 (by decide), fun p7 H7 n7 => ⟨_, rfl, F6, st, m + 1, _, rfl, n7.sta s6, (by omega), (by decide), (by decide), fun d8 F8 H8 h80 h81 s8 f8 => ?_⟩⟩
    obtain ⟨z8, hz8, e8⟩ := at_strs (zs := [" ", "\n", "_", "+", "-", "/", "0"]) h80 h81
    have lz8 : z8.length ≤ 2000 := len_all 2000 hz8 (by decide +kernel)
    have o8 := f8.out ((n7.fr (F := F6)).out o6)
    refine ⟨p7, _, _, _, rfl, rfl, SqL.of (f8.out (n7.out s6)).1, e8, ?_⟩
    refine ⟨⟨_, rfl⟩, _, rfl, _, rfl, d6, rfl, p, _, rfl, SqL.of o8.1, fun p9 H9 n9 => ⟨_, rfl, sz 1 (by decide), fun p10 H10 n10 => ?_⟩⟩
    obtain ⟨za, ea, la, ma⟩ := cutV_strs zs none (some d6)
    obtain ⟨zb, eb, lb, mb⟩ := cutV_strs zs (some d6) none
    rw [ea] at n9
    refine ⟨p9, p10, _, _, rfl, rfl, n10.same _ _ n9.at, n10.at, sz _ (by rw [List.length_map]; simp; omega), fun p11 H11 n11 => ?_⟩
    have sm := (n9.same.trans n10.same).trans n11.same
    refine ⟨_, rfl, _, rfl, d6, rfl, p, _, rfl, SqL.of (sm _ _ o8.1), fun p12 H12 n12 => ?_⟩
    rw [eb] at n12
    refine ⟨p11, p12, _, _, rfl, rfl, n12.same _ _ n11.at, n12.at, sz _ (by simp; omega), fun p13 H13 n13 => ?_⟩
    have et : za.map V.str ++ [V.str z8] ++ zb.map V.str = (za ++ [z8] ++ zb).map V.str := by simp
    rw [et] at n13
    have hlen : (za ++ [z8] ++ zb).length ≤ 9 := by simp; omega
    have hbd : ∀ z ∈ za ++ [z8] ++ zb, z.length ≤ 2000 := fun z hz => by
      rcases List.mem_append.mp hz with hz | hz
      · rcases List.mem_append.mp hz with hz | hz
        · exact hal z (ma z hz)
        · rcases List.mem_cons.mp hz with rfl | hz
          · exact lz8
          · cases hz
      · exact hal z (mb z hz)
    have hsum := sum_le hbd
    have hw := join_len "" (za ++ [z8] ++ zb)
    rw [show (Str.ofString "").length = 0 from rfl] at hw
    refine ⟨_, p13, za ++ [z8] ++ zb, rfl, rfl, .inl (SqL.of n13.at), ?_, ?_⟩
    · rw [show (Str.ofString "").length = 0 from rfl]
      omega
    · have sm2 := (sm.trans n12.same).trans n13.same
      refine k _ F8 H13 (by omega) ((s8.same sm2).mono (by omega)) ((((fr5.trans f6).trans n7.fr).trans f8).trans (Fr.same sm2))
theorem F_pieced (T : GG K mg) : FnI P w K mg base "_law_pieced" 4 ["_law_state"] (spStrD 40 20000) :=
  ⟨T.a_pieced, T.fd_pieced, ok_pieced T, T.m_pieced, T.F_pieced.kp, T.F_pieced.binds fun _ _ _ _ _ _ us hl => match us, hl with | [_], _ => rfl⟩
abbrev N_drawn : List Str := ["_law_state", "_law_word", "_law_odd"]
theorem sc_drawn : FnScope N_drawn ["_law_state"] (defScope s_drawn) := ⟨rfl, rfl, rfl, by decide +kernel, rfl, by decide +kernel, by decide +kernel⟩
theorem ok_drawn (T : GG K mg) : FnOk P w K mg base (L2.CX P w) 5 T.a_drawn T.fd_drawn ["_law_state"] (spStrD 60 20000) := by
  refine okN T.F_drawn sc_drawn (fun vs H Q E h => ?_) (fun cdv A outer s H vs Q E hr h => ?_)
  · obtain ⟨F, st, n, rfl, _⟩ := h
    rfl
  · obtain ⟨F, st, n, rfl, s0, hn, k⟩ := h
    refine ⟨_, (pss_cons (ps_if (pt_cmpR op_eq (pe_f (F_draw T) (hr.mono (by decide)) passL (pa_cons (pv 0) (pa_cons pe_int pa_nil))) pe_int (nomark _)) (pss_one (ps_ret (pe_f (F_pieced T) (hr.mono (by decide)) passL (pa_cons (pv 0) pa_nil)))) pss_nil)
      (pss_cons (ps_if (pt_cmpR op_eq (pe_f (F_draw T) (hr.mono (by decide)) passL (pa_cons (pv 0) (pa_cons pe_int pa_nil))) pe_int (nomark _)) (pss_cons (ps_set (i := 2) sc_drawn.nd rfl (Or.inl rfl) (pe_lstN (pa_cons pe_str (pa_cons pe_str (pa_cons pe_str (pa_cons pe_str (pa_cons pe_str (pa_cons pe_str (pa_cons pe_str (pa_cons pe_str (pa_cons pe_str (pa_cons pe_str (pa_cons pe_str (pa_cons pe_str pa_nil))))))))))))))
        (pss_one (ps_ret (pe_ix ix_list (pv 2) (pe_f (F_draw T) (hr.mono (by decide)) passL (pa_cons (pv 0) (pa_cons pe_int pa_nil))) (fun _ _ => rfl))))) pss_nil)
      (pss_cons (ps_set (i := 1) sc_drawn.nd rfl (Or.inl rfl) (pe_op op_add_str (pe_ix ix_list (pe_lstN (pa_cons pe_str (pa_cons pe_str pa_nil))) (pe_f (F_draw T) (hr.mono (by decide)) passL (pa_cons (pv 0) (pa_cons pe_int pa_nil))) (fun _ _ => rfl)) (pe_f (F_digits T) (hr.mono (by decide)) passL (pa_cons (pv 0) pa_nil))))
      (pss_cut (ps_if (pt_cmpR op_eq (pe_f (F_draw T) (hr.mono (by decide)) passL (pa_cons (pv 0) (pa_cons pe_int pa_nil))) pe_int (nomark _)) (pss_one (ps_set (i := 1) sc_drawn.nd rfl (Or.inl rfl) (pe_op op_add_str (pe_op op_add_str (pv 1) pe_str) (pe_f (F_digits T) (hr.mono (by decide)) passL (pa_cons (pv 0) pa_nil))))) pss_nil)
      (pss_one (ps_ret (pv 1))))))), ?_⟩
    have sz : ∀ m : Nat, m ≤ 100000 → m ≤ sizeLine := fun m h => small_sz (by omega)
    refine ⟨_, rfl, F, st, n, _, rfl, s0, (by omega), (by decide), (by decide), fun d1 F1 H1 _ _ s1 f1 => ⟨rfl, _, rfl, iteB (fun _ => ?_) (fun _ => ?_)⟩⟩
    · exact ⟨_, rfl, F1, st, n + 1, rfl, s1, (by omega), fun z F2 H2 hz s2 f2 => k z F2 H2 (by omega) (s2.mono (by omega)) (f1.trans f2)⟩
    refine ⟨_, rfl, F1, st, n + 1, _, rfl, s1, (by omega), (by decide), (by decide), fun d2 F2 H2 _ _ s2 f2 => ⟨rfl, _, rfl, iteB (fun _ => ?_) (fun _ => ?_)⟩⟩
    · refine ⟨sz 12 (by decide), fun p3 H3 n3 => ⟨_, rfl, _, rfl, F2, st, n + 2, _, rfl, n3.sta s2, (by omega), (by decide), (by decide), fun d4 F4 H4 h40 h41 s4 f4 => ?_⟩⟩
      obtain ⟨z, hz, ez⟩ := at_strs (zs := ["", "-", "/", "1/", "/1", "--1", "1/-2", "+1", " 1", "1 ", "1/0", "1/2/3"]) h40 h41
      have lz : z.length ≤ 2000 := len_all 2000 hz (by decide +kernel)
      exact ⟨p3, _, _, _, rfl, rfl, SqL.of (f4.out (n3.out s2)).1, ez, k z F4 H4 (by omega) (s4.mono (by omega)) (((f1.trans f2).trans n3.fr).trans f4)⟩
    refine ⟨sz 2 (by decide), fun p3 H3 n3 => ⟨_, rfl, F2, st, n + 2, _, rfl, n3.sta s2, (by omega), (by decide), (by decide), fun d4 F4 H4 h40 h41 s4 f4 => ?_⟩⟩
    obtain ⟨z4, hz4, e4⟩ := at_strs (zs := ["", "-"]) h40 h41
    have lz4 : z4.length ≤ 2000 := len_all 2000 hz4 (by decide +kernel)
    refine ⟨p3, _, _, _, rfl, rfl, SqL.of (f4.out (n3.out s2)).1, e4, _, rfl, F4, st, n + 3, rfl, s4, (by omega), fun z5 F5 H5 hz5 s5 f5 => ⟨_, _, rfl, rfl, sz _ (by omega), ?_⟩⟩
    have fr5 : Fr F H F5 H5 := (((f1.trans f2).trans n3.fr).trans f4).trans f5
    refine ⟨fun σ H6 => ∃ (F6 : Fp) (y : Str) (ov : Option V), StAt H6 F6 st (n + 60) ∧ Fr F H F6 H6 ∧ y.length ≤ 20000 ∧ σ = [some (.ref st), some (.str y), ov], ?_, ?_⟩
    · have l45 := app_len z4 z5
      refine ⟨_, rfl, F5, st, n + 18, _, rfl, s5, (by omega), (by decide), (by decide), fun d6 F6 H6 _ _ s6 f6 => ⟨rfl, _, rfl, iteB (fun _ => ?_) (fun _ => ?_)⟩⟩
      · have l3 : (Str.ofString "/").length = 1 := rfl
        refine ⟨_, rfl, _, _, rfl, rfl, sz _ (by omega), _, rfl, F6, st, n + 19, rfl, s6, (by omega), fun z7 F7 H7 hz7 s7 f7 => ⟨_, _, rfl, rfl, sz _ (by rw [app_len]; omega), ?_⟩⟩
        exact ⟨F7, _, _, s7.mono (by omega), (fr5.trans f6).trans f7, by rw [app_len, app_len]; omega, rfl⟩
      · exact ⟨F6, _, _, s6.mono (by omega), fr5.trans f6, by omega, rfl⟩
    rintro σ H6 ⟨F6, y, ov, s6, f6, hy, rfl⟩
    exact ⟨_, rfl, k y F6 H6 hy s6 f6⟩
theorem F_drawn (T : GG K mg) : FnI P w K mg base "_law_drawn" 5 ["_law_state"] (spStrD 60 20000) :=
  ⟨T.a_drawn, T.fd_drawn, ok_drawn T, T.m_drawn, T.F_drawn.kp, T.F_drawn.binds fun _ _ _ _ _ _ us hl => match us, hl with | [_], _ => rfl⟩
abbrev N_spoiled : List Str := ["_law_state", "_law_word", "_law_signs_here", "_law_sign", "_law_spot", "_law_plan"]
theorem sc_spoiled : FnScope N_spoiled ["_law_state", "_law_word"] (defScope s_spoiled) := ⟨rfl, rfl, rfl, by decide +kernel, rfl, by decide +kernel, by decide +kernel⟩
theorem ok_spoiled (T : GG K mg) : FnOk P w K mg base (L2.CX P w) 3 T.a_spoiled T.fd_spoiled ["_law_state", "_law_word"] (spSpoiled 3 20000 50000) := by
  refine okN T.F_spoiled sc_spoiled (fun vs H Q E h => ?_) (fun cdv A outer s H vs Q E hr h => ?_)
  · obtain ⟨F, st, n, y, rfl, _⟩ := h
    rfl
  · obtain ⟨F, st, n, y, rfl, hy, s0, hn, k⟩ := h
    refine ⟨_, (pss_cons (ps_set (i := 2) sc_spoiled.nd rfl (Or.inl rfl) (pe_f0 (F_signs T) (hr.mono (by decide)) passL))
      (pss_cons (ps_set (i := 3) sc_spoiled.nd rfl (Or.inl rfl) (pe_ix ix_str (pv 2) (pe_f (F_draw T) (hr.mono (by decide)) passL (pa_cons (pv 0) (pa_cons (pe_callB call_len_str rfl T.z_len PySem.boot_len (pa_cons (pv 2) pa_nil)) pa_nil))) (fun _ _ => rfl)))
      (pss_cons (ps_set (i := 4) sc_spoiled.nd rfl (Or.inl rfl) (pe_f (F_draw T) (hr.mono (by decide)) passL (pa_cons (pv 0) (pa_cons (pe_op op_add (pe_callB call_len_str rfl T.z_len PySem.boot_len (pa_cons (pv 1) pa_nil)) pe_int) pa_nil))))
      (pss_cons (ps_set (i := 5) sc_spoiled.nd rfl (Or.inl rfl) (pe_f (F_draw T) (hr.mono (by decide)) passL (pa_cons (pv 0) (pa_cons pe_int pa_nil))))
      (pss_cons (ps_if (pt_cmpR op_eq (pv 5) pe_int (nomark _)) (pss_one (ps_ret (pe_op op_add_str (pe_slice sl_str (pv 1) po_none (po_some (pv 4))) (pe_slice sl_str (pv 1) (po_some (pe_op op_add (pv 4) pe_int)) po_none)))) pss_nil)
      (pss_one (ps_ret (pe_op op_add_str (pe_op op_add_str (pe_slice sl_str (pv 1) po_none (po_some (pv 4))) (pv 3)) (pe_slice sl_str (pv 1) (po_some (pe_op op_sub (pe_op op_add (pv 4) (pv 5)) pe_int)) po_none))))))))), ?_⟩
    have sz : ∀ m : Nat, m ≤ 100000 → m ≤ sizeLine := fun m h => small_sz (by omega)
    have hsg : sgS.length ≤ sizeLine := by rw [sgS_len]; decide
    have big : (2 : Int) ^ 200 > 1000000 := by decide
    refine ⟨rfl, _, rfl, _, rfl, _, rfl, sgS, rfl, hsg, F, st, n, _, rfl, s0, (by omega), (by rw [sgS_len]; decide), (by rw [sgS_len]; decide), fun d1 F1 H1 h10 h11 s1 f1 => ?_⟩
    obtain ⟨j, c, _, _, _, ec⟩ := at_ex h10 (show d1 < (sgS.cps.toList.length : Nat) by rw [← str_len]; exact h11)
    refine ⟨sgS, d1, c, rfl, rfl, hsg, ec, ?_⟩
    refine ⟨_, rfl, _, rfl, y, rfl, sz _ (by omega), _, _, rfl, rfl, F1, st, n + 1, _, rfl, s1, (by omega), (by omega), (by omega), fun d2 F2 H2 h20 h21 s2 f2 => ?_⟩
    refine ⟨_, rfl, F2, st, n + 2, _, rfl, s2, (by omega), (by decide), (by decide), fun d3 F3 H3 h30 h31 s3 f3 => ?_⟩
    have fr3 := (f1.trans f2).trans f3
    refine ⟨_, rfl, rfl, _, rfl, iteB (fun _ => ?_) (fun _ => ?_)⟩
    · have la := cutS_length y none (some d2)
      have lb := cutS_length y (some (d2 + 1)) none
      refine ⟨_, rfl, _, rfl, d2, rfl, y, rfl, sz _ (by omega), _, rfl, _, rfl, _, _, rfl, rfl, d2 + 1, rfl, y, rfl, sz _ (by omega), _, _, rfl, rfl, sz _ (by omega), ?_⟩
      exact k _ F3 H3 (by rw [app_len]; omega) (s3.mono (by omega)) fr3
    · have la := cutS_length y none (some d2)
      have lb := cutS_length y (some (d2 + d3 - 1)) none
      have l1 := one_len c
      refine ⟨_, rfl, _, rfl, d2, rfl, y, rfl, sz _ (by omega), _, rfl, _, _, rfl, rfl, sz _ (by omega), _, rfl, _, rfl, _, rfl, _, _, rfl, rfl, _, _, rfl, rfl, d2 + d3 - 1, rfl, y, rfl, sz _ (by omega), _, _, rfl, rfl, sz _ (by rw [app_len]; omega), ?_⟩
      exact k _ F3 H3 (by rw [app_len, app_len]; omega) (s3.mono (by omega)) fr3
theorem F_spoiled (T : GG K mg) : FnI P w K mg base "_law_spoiled" 3 ["_law_state", "_law_word"] (spSpoiled 3 20000 50000) :=
  ⟨T.a_spoiled, T.fd_spoiled, ok_spoiled T, T.m_spoiled, T.F_spoiled.kp, T.F_spoiled.binds fun _ _ _ _ _ _ us hl => match us, hl with | [_, _], _ => rfl⟩
/-- the law's own reading of a number is the same function -/
def spNumber : Sp := fun vs H Q _ => ∃ cs, vs = [.str (SX.S cs)] ∧ cs.length ≤ 1000000 ∧ ∀ H', Same H H' → Q (rnumV cs) H'
abbrev N_number : List Str := ["_law_word", "_law_sign"]
theorem sc_number : FnScope N_number ["_law_word"] (defScope s_number) := ⟨rfl, rfl, rfl, by decide +kernel, rfl, by decide +kernel, by decide +kernel⟩
theorem ok_number (T : GG K mg) : FnOk P w K mg base (L2.CX P w) 1 T.a_number T.fd_number ["_law_word"] spNumber := by
  refine okN T.F_number sc_number (fun vs H Q E h => ?_) (fun cdv A outer s H vs Q E hr h => ?_)
  · obtain ⟨cs, rfl, _⟩ := h
    rfl
  · obtain ⟨cs, rfl, hz, k⟩ := h
    refine ⟨_, (pss_cut (ps_if (PW.pt (pw_or (pt_cmpR op_lt (pe_callB call_len_str rfl T.z_len PySem.boot_len (pa_cons (pv 0) pa_nil)) pe_int (nomark _)) (pw_or (pt_cmpR op_gt (pe_callB call_len_str rfl T.z_len PySem.boot_len (pa_cons (pv 0) pa_nil)) pe_int (nomark _)) (pw_or1 (pt_cmpR (op_neNil hr.units) (pe_lc (own := [("_law_sign", 1)])  rfl sc_number.nd (pi_str (pv 0)) (blkOk_by (N := N_number) (sc := defScope s_number) (by decide +kernel)) (fun _ _ _ _ _ => (pg_name (i := 1) sc_number.nd rfl (Or.inl rfl))) (fun _ _ _ _ _ => (pts_one (pt_cmpR op_notIn_sign (pv 1) pe_str (by rfl)))) (fun _ _ _ _ _ => (pv 1))) (pe_lstN pa_nil) (nomark _)))))) (pss_one (ps_ret pe_non)) pss_nil)
      (pss_cons (ps_if (PW.pt (pw_and (pt_cmpR op_eq (pe_ix ix_str (pv 0) pe_int (fun _ _ => rfl)) pe_str (nomark _)) (pw_and1 (pt_cmpR op_gt (pe_callB call_len_str rfl T.z_len PySem.boot_len (pa_cons (pv 0) pa_nil)) pe_int (nomark _))))) (pss_one (ps_ret pe_non)) pss_nil)
      (pss_one (ps_ret (pe_callTy call_int_str rfl T.z_int (by decide +kernel) (pa_cons (pv 0) pa_nil)))))), ?_⟩
    have hz' := S_sz hz
    have el := SX.S_len cs
    have kN : ¬ ((1 ≤ cs.length ∧ cs.length ≤ 9) ∧ cs.all dgB = true ∧ ¬ (cs.head? = some 48 ∧ 1 < cs.length)) → ∀ H', Same H H' → Q .non H' := fun e H' hs => by
      have k := k H' hs
      unfold rnumV rnum at k
      rw [if_neg e] at k
      exact k
    refine ⟨fun σ H1 => Same H H1 ∧ σ = [some (.str (SX.S cs)), none] ∧ (1 ≤ cs.length ∧ cs.length ≤ 9) ∧ cs.all dgB = true, ?_, ?_⟩
    · refine ⟨_, rfl, _, rfl, hz', _, _, rfl, rfl, _, rfl, iteB (fun h1 => ?_) (fun h1 => ?_)⟩
      · have h1' := of_decide_eq_true h1
        exact kN (fun z => by omega) H (Same.refl H)
      have h1' := of_decide_eq_false h1
      refine ⟨_, rfl, _, rfl, hz', _, _, rfl, rfl, _, rfl, iteB (fun h2 => ?_) (fun h2 => ?_)⟩
      · have h2' := of_decide_eq_true h2
        exact kN (fun z => by omega) H (Same.refl H)
      have h2' := of_decide_eq_false h2
      refine ⟨_, rfl, _, rfl, fun D hD => lc_it walk_str (fun i H2 => ∃ acc : List V, H2 D = some (.lst acc) ∧ acc.length ≤ i ∧ Same H H2 ∧ (acc = [] ↔ ∀ (j : Nat) d, j < i → (SX.S cs).cps[j]? = some d → dgB d = true)) ?_ (fun _ _ _ _ => trivial) ?_ ?_⟩
      · exact ⟨[], upd_same, Nat.le_refl _, (new_of hD).same, by simp⟩
      · rintro i x H2 H3 hi ⟨acc, h1, hlen, hs, hiff⟩ ⟨rfl, d, hd, rfl⟩
        have hil : i < (SX.S cs).length := hi
        refine ⟨rfl, _, rfl, d, _, rfl, rfl, _, rfl, ?_⟩
        rw [dig_mem]
        refine iteB (fun q => ?_) (fun q => ?_)
        · refine ⟨_, rfl, acc, h1, small_szlt (by omega), acc ++ [_], upd_same, ?_, ?_, ?_⟩
          · rw [List.length_append]; exact Nat.succ_le_succ hlen
          · intro b o eb; rw [upd_ne (ne_of_none eb hD)]; exact hs b o eb
          · refine ⟨fun z => absurd z (by simp), fun z => ?_⟩
            rw [z i d (Nat.lt_succ_self _) hd] at q
            cases q
        · refine ⟨acc, h1, Nat.le_succ_of_le hlen, hs, hiff.trans ⟨fun h j d' hj hd' => ?_, fun h j d' hj hd' => h j d' (by omega) hd'⟩⟩
          by_cases hji : j = i
          · subst hji
            rw [hd] at hd'
            cases hd'
            exact bnf q
          · exact h j d' (by omega) hd'
      · rintro H2 ⟨acc, h1, hlen, hs, hiff⟩
        refine ⟨(by show 0 ≤ sizeLine; decide), fun p H3 n3 => ⟨D, p, acc, rfl, rfl, n3.same _ _ h1, n3.at, _, rfl, ?_⟩⟩
        have hall : acc = [] ↔ cs.all dgB = true := by
          rw [hiff, List.all_eq_true]
          constructor
          · intro h d hd
            obtain ⟨j, hj, ej⟩ := List.mem_iff_getElem.mp hd
            refine h j d (by rw [List.size_toArray]; exact hj) ?_
            rw [List.getElem?_toArray, ← ej]
            exact List.getElem?_eq_getElem hj
          · intro h j d hj hd
            rw [List.getElem?_toArray] at hd
            exact h d (List.mem_of_getElem? hd)
        refine iteB (fun q => ?_) (fun q => ?_)
        · refine kN (fun z => ?_) H3 (hs.trans n3.same)
          rw [hall.mpr z.2.1] at q
          cases q
        · refine ⟨hs.trans n3.same, rfl, by omega, hall.mp ?_⟩
          cases acc with
          | nil => rfl
          | cons _ _ => cases q
    rintro σ H2 ⟨hs, rfl, hlen, ha⟩
    cases cs with
    | nil => exact absurd hlen.1 (by decide)
    | cons c r =>
      have fin : ¬ ((c :: r).head? = some 48 ∧ 1 < (c :: r).length) → H2 = H2 → ∃ a n, [V.str (SX.S (c :: r))] = [.str a] ∧ PySem.intText? a = some n ∧ a.length ≤ 640 ∧ Q (.int n) H2 := fun hh _ => by
        refine ⟨_, _, rfl, SX.int_S ha (by simp) (by omega), by omega, ?_⟩
        have k := k H2 hs
        unfold rnumV rnum at k
        rw [if_pos ⟨hlen, ha, hh⟩] at k
        exact k
      refine ⟨_, rfl, SX.S (c :: r), _, c, rfl, rfl, hz', atI_nat (j := 0) rfl, rfl, _, rfl, ?_⟩
      refine iteB (fun h1 => ⟨_, rfl, _, rfl, hz', _, _, rfl, rfl, _, rfl, iteB (fun h2 => ?_) (fun h2 => ?_)⟩) (fun h1 => iteF ?_)
      · have h1' := V.str.inj (of_decide_eq_true h1)
        have h2' := of_decide_eq_true h2
        refine kN (fun z => z.2.2 ⟨?_, by omega⟩) H2 hs
        have e48 : c = 48 := by
          have := congrArg (fun x : Str => x.cps.toList) h1'
          have e2 : (Str.ofString "0").cps.toList = [48] := by decide +kernel
          simp only [e2] at this
          exact (List.cons.inj this).1
        rw [e48]; rfl
      · have h2' := of_decide_eq_false h2
        obtain ⟨a, n, e1, e2, e3, e4⟩ := fin (fun z => by omega) rfl
        exact ⟨_, rfl, a, n, e1, e2, e3, e4⟩
      · have h1' := of_decide_eq_false h1
        have hc : c ≠ 48 := fun z => by
          subst z
          exact h1' (congrArg V.str (TL.ext_tl (by decide +kernel)))
        obtain ⟨a, n, e1, e2, e3, e4⟩ := fin (fun z => hc (Option.some.inj z.1)) rfl
        exact ⟨_, rfl, a, n, e1, e2, e3, e4⟩
theorem F_number (T : GG K mg) : FnI P w K mg base "_law_number" 1 ["_law_word"] spNumber :=
  ⟨T.a_number, T.fd_number, ok_number T, T.m_number, T.F_number.kp, T.F_number.binds fun _ _ _ _ _ _ us hl => match us, hl with | [_], _ => rfl⟩
/-- what the law's due says -/
def spDue : Sp := fun vs H Q _ => ∃ cs, vs = [.str (SX.S cs)] ∧ cs.length ≤ 1000000 ∧
  ((∃ n d, rdR cs = some (n, d) ∧ ∀ t H', Same H H' → PairO H' t (nT n d) (nB n d) → Q (.ref t) H') ∨ (rdR cs = none ∧ ∀ H', Same H H' → Q .non H'))
/-- split and partition at a stroke -/
theorem spl47 (r : List Nat) : (TL.par [47] [] r = none ∧ TL.spl [47] 0 [] r = [r]) ∨
    ∃ h t, TL.par [47] [] r = some (h, t) ∧ ((TL.spl [47] 0 [] r = [h, t]) ∨ (2 < (TL.spl [47] 0 [] r).length ∧ rnum t = none)) := by
  by_cases h1 : 47 ∈ r
  · obtain ⟨h, t, rfl, hh⟩ := List.eq_append_cons_of_mem h1
    refine .inr ⟨h, t, SX.par_head (sep := []) t hh, ?_⟩
    have e : TL.spl [47] 0 [] (h ++ 47 :: t) = h :: TL.spl [47] 0 [] t := TL.spl_part1 (S := []) hh
    rw [e]
    by_cases h2 : 47 ∈ t
    · right
      constructor
      · obtain ⟨h', t', rfl, hh'⟩ := List.eq_append_cons_of_mem h2
        have e2 : TL.spl [47] 0 [] (h' ++ 47 :: t') = h' :: TL.spl [47] 0 [] t' := TL.spl_part1 (S := []) hh'
        rw [e2]
        have : TL.spl [47] 0 [] t' ≠ [] := by
          by_cases h3 : 47 ∈ t'
          · obtain ⟨h4, t4, rfl, hh4⟩ := List.eq_append_cons_of_mem h3
            have e3 : TL.spl [47] 0 [] (h4 ++ 47 :: t4) = h4 :: TL.spl [47] 0 [] t4 := TL.spl_part1 (S := []) hh4
            rw [e3]; simp
          · rw [TL.spl_last1 (S := []) h3]; simp
        have := List.length_pos_iff.mpr this
        simp only [List.length_cons]
        omega
      · unfold rnum
        rw [if_neg]
        intro z
        have := List.all_eq_true.mp z.2.1 47 h2
        revert this
        decide
    · left
      rw [TL.spl_last1 (S := []) h2]
      rfl
  · left
    exact ⟨TL.par_none1 h1, by rw [TL.spl_last1 (S := []) h1]; rfl⟩
abbrev N_due : List Str := ["_law_word", "_law_factor", "_law_rest", "_law_parts", "_law_numbers", "_law_part"]
theorem sc_due : FnScope N_due ["_law_word"] (defScope s_due) := ⟨rfl, rfl, rfl, by decide +kernel, rfl, by decide +kernel, by decide +kernel⟩
theorem ok_due (T : GG K mg) : FnOk P w K mg base (L2.CX P w) 2 T.a_due T.fd_due ["_law_word"] spDue := by
  refine okN T.F_due sc_due (fun vs H Q E h => ?_) (fun cdv A outer s H vs Q E hr h => ?_)
  · obtain ⟨cs, rfl, _⟩ := h
    rfl
  · obtain ⟨cs, rfl, hz, k⟩ := h
    refine ⟨_, (pss_cons (ps_set (i := 1) sc_due.nd rfl (Or.inl rfl) pe_int)
      (pss_cons (ps_set (i := 2) sc_due.nd rfl (Or.inl rfl) (pv 0))
      (pss_cut (ps_if (pt_cmpR op_eq (pe_slice sl_str (pv 0) po_none (po_some pe_int)) pe_str (nomark _)) (pss_cons (ps_set (i := 1) sc_due.nd rfl (Or.inl rfl) (pe_un un_neg pe_int))
        (pss_one (ps_set (i := 2) sc_due.nd rfl (Or.inl rfl) (pe_slice sl_str (pv 0) (po_some pe_int) po_none)))) pss_nil)
      (pss_cons (ps_set (i := 3) sc_due.nd rfl (Or.inl rfl) (pe_split (pv 2) pe_str))
      (pss_cons (ps_if (pt_cmpR op_gt (pe_callB call_len_seq rfl T.z_len PySem.boot_len (pa_cons (pv 3) pa_nil)) pe_int (nomark _)) (pss_one (ps_ret pe_non)) pss_nil)
      (pss_cut (ps_set (i := 4) sc_due.nd rfl (Or.inl rfl) (pe_op op_catN (pe_lc (own := [("_law_part", 5)])  rfl sc_due.nd (pi_list (pv 3)) (blkOk_by (N := N_due) (sc := defScope s_due) (by decide +kernel)) (fun _ _ _ _ _ => (pg_name (i := 5) sc_due.nd rfl (Or.inl rfl))) (fun _ _ _ _ _ => pts_nil) (fun _ _ _ _ _ => (pe_f (F_number T) (hr.mono (by decide)) passL (pa_cons (pv 5) pa_nil)))) (pe_lstN (pa_cons pe_int pa_nil))))
      (pss_cons (ps_if (PW.pt (pw_or (pt_cmpR op_isN (pe_ix ix_list (pv 4) pe_int (fun _ _ => rfl)) pe_non (nomark _)) (pw_or (pt_cmpR op_isN (pe_ix ix_list (pv 4) pe_int (fun _ _ => rfl)) pe_non (nomark _)) (pw_or1 (pt_cmpR op_eq (pe_ix ix_list (pv 4) pe_int (fun _ _ => rfl)) pe_int (nomark _)))))) (pss_one (ps_ret pe_non)) pss_nil)
      (pss_one (ps_ret (pe_f (F_low T) (hr.mono (by decide)) passL (pa_cons (pe_op op_mul (pv 1) (pe_ix ix_list (pv 4) pe_int (fun _ _ => rfl))) (pa_cons (pe_ix ix_list (pv 4) pe_int (fun _ _ => rfl)) pa_nil)))))))))))), ?_⟩
    have hz' := S_sz hz
    have e1 : decide (V.str (cutS (SX.S cs) none (some 1)) = V.str "-") = decide (cs.take 1 = [45]) := cut1_eq cs
    unfold rdR at k
    generalize en : decide (cs.take 1 = [45]) = neg at k e1
    refine ⟨_, rfl, ?_⟩
    refine ⟨fun σ H1 => H1 = H ∧ σ = [some (.str (SX.S cs)), some (.int (if neg = true then -1 else 1)), some (.str (SX.S (if neg = true then cs.drop 1 else cs))), none, none, none], ⟨_, rfl, 1, rfl, _, rfl, hz', rfl, _, rfl, ?_⟩, ?_⟩
    · rw [e1]
      cases neg with
      | true =>
        refine iteT ⟨_, rfl, _, rfl, 1, rfl, _, rfl, hz', rfl, ?_⟩
        rw [C8.cutS_slice, SX.slice_from (by decide)]
        rfl
      | false => exact iteF ⟨rfl, rfl⟩
    rintro σ H1 ⟨rfl, rfl⟩
    generalize er : (if neg = true then cs.drop 1 else cs) = r at k ⊢
    have hrl : r.length ≤ 1000000 := by
      rw [← er]
      split
      · rw [List.length_drop]; omega
      · exact hz
    refine ⟨_, rfl, ⟨_, rfl⟩, _, _, rfl, rfl, by decide +kernel, ?_, fun p hp => ?_⟩
    · rw [SX.S_len]
      have : (1000002 : Nat) ≤ sizeLine := by decide
      omega
    have esp : (Txt.split (SX.S r) (Str.ofString "/")) = (TL.spl [47] 0 [] r).map SX.S := by
      rw [slash_S]
      exact SX.split_S (by simp) (by decide)
    rw [esp]
    have np := new_of (o := .lst (((TL.spl [47] 0 [] r).map SX.S).map V.str)) hp
    generalize upd H1 p (.lst (((TL.spl [47] 0 [] r).map SX.S).map V.str)) = H2 at np ⊢
    refine ⟨_, rfl, p, _, rfl, .inl (SqL.of np.at), _, _, rfl, rfl, _, rfl, ?_⟩
    rw [List.length_map, List.length_map]
    refine iteB (fun h2 => ?_) (fun h2 => ?_)
    · have h2' := of_decide_eq_true h2
      have h3 : 2 < (TL.spl [47] 0 [] r).length := by omega
      rcases spl47 r with ⟨_, es⟩ | ⟨h, t, ep, es | ⟨_, en⟩⟩
      · rw [es] at h3; simp at h3
      · rw [es] at h3; simp at h3
      · rw [prR_some ep, en, finR_no] at k
        rcases k with ⟨n, d, e, _⟩ | ⟨_, k⟩
        · cases e
        · exact k H2 np.same
    · have h2' := of_decide_eq_false h2
      have h3 : (TL.spl [47] 0 [] r).length ≤ 2 := by omega
      have hps : ∃ ps : List (List Nat), TL.spl [47] 0 [] r = ps ∧ ps.length ≤ 2 ∧ (∀ q ∈ ps, q.length ≤ 1000000) ∧ ∃ a b rest, ps.map rnumV ++ [.int 1] = ovN a :: ovN b :: rest ∧ (∀ n, b = some n → n < 10 ^ 9) ∧
          prR r = (a, b) := by
        rcases spl47 r with ⟨ep, es⟩ | ⟨h, t, ep, es | ⟨hl, _⟩⟩
        · refine ⟨[r], es, by simp, fun q hq => ?_, rnum r, some 1, [], rfl, fun n z => by cases z; decide, prR_none ep⟩
          rcases List.mem_cons.mp hq with rfl | hq
          · exact hrl
          · cases hq
        · have := par_len _ _ _ _ _ ep
          rw [List.length_nil, Nat.zero_add] at this
          refine ⟨[h, t], es, by simp, fun q hq => ?_, rnum h, rnum t, [.int 1], rfl, fun n => rnum_lt, prR_some ep⟩
          rcases List.mem_cons.mp hq with rfl | hq
          · omega
          · rcases List.mem_cons.mp hq with rfl | hq
            · omega
            · cases hq
        · omega
      obtain ⟨ps, eps, hps2, hpl, a, b, rest, eab, hb9, epr⟩ := hps
      rw [eps] at np
      rw [epr] at k
      refine ⟨fun σ H3 => ∃ p6, Same H1 H3 ∧ H3 p6 = some (.lst (ovN a :: ovN b :: rest)) ∧ σ = [some (.str (SX.S cs)), some (.int (if neg = true then -1 else 1)), some (.str (SX.S r)), some (.ref p), some (.ref p6), none], ?_, ?_⟩
      · refine ⟨_, rfl, p, rfl, ⟨_, SqL.of np.at⟩, fun D hD => lc_list (K := K) (a := p) (xs := (ps.map SX.S).map V.str) (fun i H4 => Same H2 H4 ∧ H4 D = some (.lst ((ps.take i).map rnumV))) ?_ ?_ ?_ ?_⟩
        · exact ⟨(new_of hD).same, upd_same⟩
        · rintro i H4 _ ⟨hs, _⟩
          exact SqL.of (hs _ _ np.at)
        · rintro i x H4 hx ⟨hs, hD4⟩
          rw [List.map_map, List.getElem?_map] at hx
          cases eq : ps[i]? with
          | none => rw [eq] at hx; cases hx
          | some q =>
            rw [eq] at hx
            cases hx
            have hi : i < ps.length := by
              rcases Nat.lt_or_ge i ps.length with h | h
              · exact h
              · rw [List.getElem?_eq_none h] at eq; cases eq
            refine ⟨rfl, _, rfl, q, rfl, hpl q (List.mem_of_getElem? eq), fun H5 s5 => ⟨_, s5 _ _ hD4, ?_, ?_, ?_⟩⟩
            · rw [List.length_map]; exact small_szlt (by rw [List.length_take]; omega)
            · intro c o ec
              have hcD : c ≠ D := ne_of_none ec hD
              rw [upd_ne hcD]
              exact s5 _ _ (hs _ _ ec)
            · rw [upd_same, List.take_add_one, eq, List.map_append]
              rfl
        · rintro H4 ⟨hs, hD4⟩
          rw [List.length_map, List.length_map, List.take_length] at hD4
          refine ⟨(by show 1 ≤ sizeLine; decide), fun p5 H5 n5 => ⟨D, p5, _, _, rfl, rfl, n5.same _ _ hD4, n5.at, small_sz (by simp; omega), fun p6 H6 n6 => ?_⟩⟩
          refine ⟨p6, (np.same.trans hs).trans (n5.same.trans n6.same), ?_, rfl⟩
          rw [n6.at, eab]
      rintro σ H3 ⟨p6, sm, h6, rfl⟩
      have fail : finR neg (a, b) = none → Q .non H3 := fun e => by
        rcases k with ⟨n, d, e2, _⟩ | ⟨_, k⟩
        · rw [e] at e2; cases e2
        · exact k H3 sm
      refine ⟨_, rfl, p6, _, _, ovN a, rfl, rfl, SqL.of h6, at_of (j := 0) rfl rfl, rfl, _, rfl, ?_⟩
      cases a with
      | none => exact iteT (fail rfl)
      | some a =>
        refine iteF ⟨_, rfl, p6, _, _, ovN b, rfl, rfl, SqL.of h6, at_of (j := 1) rfl rfl, rfl, _, rfl, ?_⟩
        cases b with
        | none => exact iteT (fail rfl)
        | some b =>
          refine iteF ⟨_, rfl, p6, _, _, ovN (some b), rfl, rfl, SqL.of h6, at_of (j := 1) rfl rfl, rfl, _, rfl, iteB (fun z => ?_) (fun z => ?_)⟩
          · have z' := V.int.inj (of_decide_eq_true z)
            have hb0 : b = 0 := by omega
            exact fail (finR_0 _ _ hb0)
          · have hb0 : b ≠ 0 := fun e => by subst e; simp [ovN] at z
            have hb1 : (b : Int) ≠ 0 := by omega
            rw [finR_ok _ _ hb0] at k
            rcases k with ⟨n, d, e2, k⟩ | ⟨e2, _⟩
            · cases e2
              refine ⟨_, rfl, _, rfl, p6, _, _, ovN (some a), rfl, rfl, SqL.of h6, at_of (j := 0) rfl rfl, _, _, rfl, rfl, .inl (by cases neg <;> decide), _, rfl, p6, _, _, ovN (some b), rfl, rfl, SqL.of h6, at_of (j := 1) rfl rfl, _, _, rfl, hb1, ⟨100, by decide, ?_⟩, fun t H4 n4 => ?_⟩
              · have := hb9 b rfl
                rw [Int.natAbs_natCast b]
                exact Nat.lt_trans this (by decide)
              · have em : (if neg = true then -1 else 1) * (a : Int) = (if neg = true then -(a : Int) else a) := by cases neg <;> simp
                rw [em] at n4
                exact k t H4 (sm.trans n4.same) n4.at
            · cases e2
theorem F_due (T : GG K mg) : FnI P w K mg base "_law_due" 2 ["_law_word"] spDue :=
  ⟨T.a_due, T.fd_due, ok_due T, T.m_due, T.F_due.kp, T.F_due.binds fun _ _ _ _ _ _ us hl => match us, hl with | [_], _ => rfl⟩
abbrev N_law : List Str := ["_law_script", "_law_state", "_law_word", "_law_due_here", "e", "_law_actual"]
theorem sc_law : FnScope N_law ["_law_script"] (defScope s_law) := ⟨rfl, rfl, rfl, by decide +kernel, rfl, by decide +kernel, by decide +kernel⟩
theorem ok_law_of {T : GG K mg} {f : Addr} {fd : FuncData} (F : Fun K "law" "law" s_law f fd) : FnOk P w K mg base (L2.CX P w) 9 f fd ["_law_script"] (spLaw K) := by
  refine okN F sc_law (fun vs H Q E h => ?_) (fun cdv A outer s H vs Q E hr h => ?_)
  · obtain ⟨a, ns, rfl, _⟩ := h
    rfl
  · obtain ⟨a, ns, rfl, hS, hl, k⟩ := h
    refine ⟨_, (pss_cons (ps_set (i := 1) sc_law.nd rfl (Or.inl rfl) (pe_f (F_start T) (hr.mono (by decide)) passL (pa_cons (pv 0) pa_nil)))
      (pss_cons (ps_set (i := 2) sc_law.nd rfl (Or.inl rfl) (pe_f (F_drawn T) (hr.mono (by decide)) passL (pa_cons (pv 1) pa_nil)))
      (pss_cut (ps_if (pt_cmpR op_eq (pe_f (F_draw T) (hr.mono (by decide)) passL (pa_cons (pv 1) (pa_cons pe_int pa_nil))) pe_int (nomark _)) (pss_one (ps_set (i := 2) sc_law.nd rfl (Or.inl rfl) (pe_f (F_spoiled T) (hr.mono (by decide)) passL (pa_cons (pv 1) (pa_cons (pv 2) pa_nil))))) pss_nil)
      (pss_cut (ps_if (pt_cmpR op_eq (pe_f (F_draw T) (hr.mono (by decide)) passL (pa_cons (pv 1) (pa_cons pe_int pa_nil))) pe_int (nomark _)) (pss_one (ps_set (i := 2) sc_law.nd rfl (Or.inl rfl) (pe_op op_add_str (pv 2) (pe_op op_mulS pe_str (pe_op op_add pe_int (pe_f (F_draw T) (hr.mono (by decide)) passL (pa_cons (pv 1) (pa_cons pe_int pa_nil)))))))) pss_nil)
      (pss_cons (ps_set (i := 3) sc_law.nd rfl (Or.inl rfl) (pe_f (F_due T) (hr.mono (by decide)) passL (pa_cons (pv 2) pa_nil)))
      (pss_cons (ps_try_as (i := 4) rfl rfl sc_law.nd rfl rfl ⟨rfl, by decide, .inl T.g_BadText⟩ takes0
        (fun W pn xe tk po => (pss_one (ps_set (i := 5) sc_law.nd rfl (Or.inl rfl) (pe_cmS (C_read T) (hr.mono (by decide)) tk (pe_cls T.g_Ratio) (pa_cons (pv 2) pa_nil)))))
        (fun a oe cls d pn hz hf => (pss_one (ps_ret (pe_and (pe_cmpR op_isN (pv 3) pe_non (nomark _)) (pe_and (pe_cmpR op_eq (pe_xf T.xf_BadText T.no_BadText_text hz hf (pv 4)) (pv 2) (nomark _)) (pe_and (pe_callB (call_isX T.xf_BadText ⟨T.ty_BadText.1, T.ty_BadText.2.1, T.ty_BadText.2.2.1, T.ty_BadText.2.2.2⟩ hz hf) rfl T.z_isinstance (by decide +kernel) (pa_cons (pv 4) (pa_cons (pe_cls T.g_ExtralinkError) pa_nil))) (pe_one (pe_callB (call_isX T.xf_BadText ⟨T.ty_BadText.1, T.ty_BadText.2.1, T.ty_BadText.2.2.1, T.ty_BadText.2.2.2⟩ hz hf) rfl T.z_isinstance (by decide +kernel) (pa_cons (pv 4) (pa_cons (pe_bltn (v := .ty "ValueError") rfl T.z_ValueError (by decide +kernel) rfl) pa_nil)))))))))))
      (pss_one (ps_ret (pe_and (pe_cmpR op_notN (pv 3) pe_non (nomark _)) (pe_and (pe_f (F_is T) (hr.mono (by decide)) passL (pa_cons (pv 5) (pa_cons (pv 3) pa_nil))) (pe_one (pe_f (F_is T) (hr.mono (by decide)) passL (pa_cons (pe_cmK (C_read T) (hr.mono (by decide)) passL (pe_cls T.g_Ratio) (pk_cons (pv 2) pk_nil)) (pa_cons (pv 3) pa_nil)))))))))))))), ?_⟩
    have sz : ∀ m : Nat, m ≤ 1000000 → m ≤ sizeLine := fun m h => small_sz (by omega)
    refine ⟨_, rfl, a, ns, rfl, hS, hl, fun st F0 H0 s0 _ _ => ?_⟩
    refine ⟨_, rfl, F0, st, 0, rfl, s0, (by decide), fun z1 F1 H1 hz1 s1 _ => ?_⟩
    refine ⟨fun σ H3 => ∃ (F3 : Fp) (y : Str), StAt H3 F3 st 64 ∧ y.length ≤ 50000 ∧ σ = [some (.ref a), some (.ref st), some (.str y), none, none, none], ?_, ?_⟩
    · refine ⟨_, rfl, F1, st, 60, _, rfl, s1, (by decide), (by decide), (by decide), fun d2 F2 H2 _ _ s2 _ => ⟨rfl, _, rfl, iteB (fun _ => ?_) (fun _ => ?_)⟩⟩
      · exact ⟨_, rfl, _, rfl, F2, st, 61, z1, rfl, hz1, s2, (by decide), fun z F3 H3 hz s3 _ => ⟨F3, z, s3, hz, rfl⟩⟩
      · exact ⟨F2, z1, s2.mono (by decide), by omega, rfl⟩
    rintro σ H3 ⟨F3, y3, s3, hy3, rfl⟩
    refine ⟨fun σ H4 => ∃ cs : List Nat, cs.length ≤ 1000000 ∧ σ = [some (.ref a), some (.ref st), some (.str (SX.S cs)), none, none, none], ?_, ?_⟩
    · refine ⟨_, rfl, F3, st, 64, _, rfl, s3, (by decide), (by decide), (by decide), fun d4 F4 H4 _ _ s4 _ => ⟨rfl, _, rfl, iteB (fun _ => ?_) (fun _ => ?_)⟩⟩
      · refine ⟨_, rfl, _, rfl, F4, st, 65, _, rfl, s4, (by decide), (by decide), (by decide), fun d5 F5 H5 h50 h51 s5 _ => ⟨_, _, rfl, rfl, _, _, rfl, rfl, by decide +kernel, by omega, by omega, fun r hr => ⟨_, _, rfl, rfl, sz _ (by omega), ?_⟩⟩⟩
        refine ⟨(y3 ++ r).cps.toList, ?_, ?_⟩
        · rw [← str_len, str_app_len]; omega
        · rw [SX.S_tl]; rfl
      · exact ⟨y3.cps.toList, by rw [← str_len]; omega, by rw [SX.S_tl]⟩
    rintro σ H4 ⟨cs, hcs, rfl⟩
    cases hrd : rdR cs with
    | none =>
      refine ⟨_, rfl, cs, rfl, hcs, .inr ⟨hrd, fun H5 s5 => ?_⟩⟩
      refine ⟨rfl, _, rfl, cs, rfl, hcs, .inr ⟨hrd, fun d H6 hs hd hd' => ?_⟩⟩
      refine ⟨true, T.te_BadText, fun _ x hx => ?_, fun z => by cases z⟩
      refine ⟨_, rfl, rfl, _, rfl, iteT ?_⟩
      refine ⟨_, rfl, rfl, rfl, d, _, _, rfl, hd', rfl, _, rfl, rfl, _, rfl, iteY (decide_eq_true rfl) ?_⟩
      refine ⟨_, rfl, .ref T.c_ExtralinkError, .ref T.c_ExtralinkError, true, d, _, rfl, rfl, hd', rfl, fun u hu => hu, T.isa_BadText_ExtralinkError, _, rfl, iteT ?_⟩
      refine ⟨_, rfl, .ty "ValueError", .type "ValueError", true, d, _, rfl, rfl, hd', rfl, fun u hu => hu, T.isa_BadText_ValueError, ?_⟩
      exact k H6
    | some nd =>
      obtain ⟨n, d⟩ := nd
      refine ⟨_, rfl, cs, rfl, hcs, .inl ⟨n, d, hrd, fun t H5 s5 ht => ?_⟩⟩
      refine ⟨rfl, _, rfl, cs, rfl, hcs, .inl ⟨n, d, hrd, fun r H6 s6 _ ho => ?_⟩⟩
      refine ⟨_, rfl, rfl, _, rfl, iteT ?_⟩
      refine ⟨_, rfl, _, rfl, r, t, _, _, rfl, ho, s6 _ _ ht, fun H7 s7 => ⟨_, rfl, iteT ?_⟩⟩
      refine ⟨rfl, _, rfl, rfl, cs, rfl, hcs, .inl ⟨n, d, hrd, fun r2 H8 s8 _ ho2 => ?_⟩⟩
      exact ⟨_, rfl, r2, t, _, _, rfl, ho2, s8 _ _ (s7 _ _ (s6 _ _ ht)), fun H9 _ => k H9⟩
end
end Xl

namespace Xl
open PySem L2
theorem all_mk {l : PySem.W.OpenLaw} {w : World} {K : PySem.W.Frag} {h : Heap} {mg : Str → Option Value} {fa f_OutOfRange___init__ f_BadText___init__ f_common_divisor f_Ratio___init__ f_Ratio_read f_Ratio_top f_Ratio_bottom f_read_number f_start f_draw f_signs f_low f_is f_digits f_pieced f_drawn f_spoiled f_number f_due f_law c_ExtralinkError c_OutOfRange c_BadText c_Ratio : Addr} (X : K.In h) (G : h.Ns mainGlobals mg) (hfa : mg "law" = some (.ref fa))
    {od_OutOfRange___init__ an_OutOfRange___init__ : Option Addr} {sl_OutOfRange___init__ : Array (Option Value)} {oc_OutOfRange___init__ kV_OutOfRange___init__ dc_OutOfRange___init__ pm_OutOfRange___init__ cd_OutOfRange___init__ ct_OutOfRange___init__ : Value}
    {od_BadText___init__ an_BadText___init__ : Option Addr} {sl_BadText___init__ : Array (Option Value)} {oc_BadText___init__ kV_BadText___init__ dc_BadText___init__ pm_BadText___init__ cd_BadText___init__ ct_BadText___init__ : Value}
    {od_common_divisor an_common_divisor : Option Addr} {sl_common_divisor : Array (Option Value)} {oc_common_divisor kV_common_divisor dc_common_divisor pm_common_divisor cd_common_divisor ct_common_divisor : Value}
    {od_Ratio___init__ an_Ratio___init__ : Option Addr} {sl_Ratio___init__ : Array (Option Value)} {oc_Ratio___init__ kV_Ratio___init__ dc_Ratio___init__ pm_Ratio___init__ cd_Ratio___init__ ct_Ratio___init__ : Value}
    {dT_Ratio___init__ : Addr} {do_Ratio___init__ : Obj} {di_Ratio___init__ : Array Value} {dn_Ratio___init__ : Nat}
    {dt_Ratio___init__ : Tok}
    {od_Ratio_read an_Ratio_read : Option Addr} {sl_Ratio_read : Array (Option Value)} {oc_Ratio_read kV_Ratio_read dc_Ratio_read pm_Ratio_read cd_Ratio_read ct_Ratio_read : Value}
    {p_Ratio_read : Addr} {rr_Ratio_read : List Value} 
    {od_Ratio_top an_Ratio_top : Option Addr} {sl_Ratio_top : Array (Option Value)} {oc_Ratio_top kV_Ratio_top dc_Ratio_top pm_Ratio_top cd_Ratio_top ct_Ratio_top : Value}
    {p_Ratio_top : Addr} {rr_Ratio_top : List Value}
    {od_Ratio_bottom an_Ratio_bottom : Option Addr} {sl_Ratio_bottom : Array (Option Value)} {oc_Ratio_bottom kV_Ratio_bottom dc_Ratio_bottom pm_Ratio_bottom cd_Ratio_bottom ct_Ratio_bottom : Value}
    {p_Ratio_bottom : Addr} {rr_Ratio_bottom : List Value}
    {od_read_number an_read_number : Option Addr} {sl_read_number : Array (Option Value)} {oc_read_number kV_read_number dc_read_number pm_read_number cd_read_number ct_read_number : Value}
    {od_start an_start : Option Addr} {sl_start : Array (Option Value)} {oc_start kV_start dc_start pm_start cd_start ct_start : Value}
    {od_draw an_draw : Option Addr} {sl_draw : Array (Option Value)} {oc_draw kV_draw dc_draw pm_draw cd_draw ct_draw : Value}
    {od_signs an_signs : Option Addr} {sl_signs : Array (Option Value)} {oc_signs kV_signs dc_signs pm_signs cd_signs ct_signs : Value}
    {od_low an_low : Option Addr} {sl_low : Array (Option Value)} {oc_low kV_low dc_low pm_low cd_low ct_low : Value}
    {od_is an_is : Option Addr} {sl_is : Array (Option Value)} {oc_is kV_is dc_is pm_is cd_is ct_is : Value}
    {od_digits an_digits : Option Addr} {sl_digits : Array (Option Value)} {oc_digits kV_digits dc_digits pm_digits cd_digits ct_digits : Value}
    {od_pieced an_pieced : Option Addr} {sl_pieced : Array (Option Value)} {oc_pieced kV_pieced dc_pieced pm_pieced cd_pieced ct_pieced : Value}
    {od_drawn an_drawn : Option Addr} {sl_drawn : Array (Option Value)} {oc_drawn kV_drawn dc_drawn pm_drawn cd_drawn ct_drawn : Value}
    {od_spoiled an_spoiled : Option Addr} {sl_spoiled : Array (Option Value)} {oc_spoiled kV_spoiled dc_spoiled pm_spoiled cd_spoiled ct_spoiled : Value}
    {od_number an_number : Option Addr} {sl_number : Array (Option Value)} {oc_number kV_number dc_number pm_number cd_number ct_number : Value}
    {od_due an_due : Option Addr} {sl_due : Array (Option Value)} {oc_due kV_due dc_due pm_due cd_due ct_due : Value}
    {od_law an_law : Option Addr} {sl_law : Array (Option Value)} {oc_law kV_law dc_law pm_law cd_law ct_law : Value}
    {t_DIGITS : Tok}
    {t_MOST_DIGITS : Tok}
    {xn_OutOfRange xq_OutOfRange : Str} {xN_OutOfRange : Addr} {xb_OutOfRange xm_OutOfRange xu_OutOfRange : List Value} {xs_OutOfRange : List Str} {xa_OutOfRange : Bool} {xc_OutOfRange : Option Bool} {xd_OutOfRange : Option Addr} {x0_OutOfRange xi_OutOfRange x2_OutOfRange x3_OutOfRange x5_OutOfRange : Option Value}
    {xn_BadText xq_BadText : Str} {xN_BadText : Addr} {xb_BadText xm_BadText xu_BadText : List Value} {xs_BadText : List Str} {xa_BadText : Bool} {xc_BadText : Option Bool} {xd_BadText : Option Addr} {x0_BadText xi_BadText x2_BadText x3_BadText x5_BadText : Option Value}
    (gc_ExtralinkError : PySem.W.nsIn K mainGlobals "ExtralinkError" = some (some (.ref c_ExtralinkError)))
    (gc_OutOfRange : PySem.W.nsIn K mainGlobals "OutOfRange" = some (some (.ref c_OutOfRange)))
    (gc_BadText : PySem.W.nsIn K mainGlobals "BadText" = some (some (.ref c_BadText)))
    (gc_Ratio : PySem.W.nsIn K mainGlobals "Ratio" = some (some (.ref c_Ratio)))
    (at_OutOfRange___init__ : PySem.W.findIn K (.ref c_OutOfRange) "__init__" = some (some (.ref f_OutOfRange___init__)))
    (l_OutOfRange___init__ : K.lookup f_OutOfRange___init__ = some ⟨oc_OutOfRange___init__, od_OutOfRange___init__, .func (PySem.W.fnOf "__init__" "OutOfRange.__init__" (defArgs s_OutOfRange___init__) (defBody s_OutOfRange___init__) (defScope s_OutOfRange___init__) .none kV_OutOfRange___init__ dc_OutOfRange___init__ pm_OutOfRange___init__ an_OutOfRange___init__ cd_OutOfRange___init__ ct_OutOfRange___init__), sl_OutOfRange___init__⟩)
    (k1_OutOfRange___init__ : PySem.W.codeIn K cd_OutOfRange___init__ "OutOfRange.__init__" = true)
    (k2_OutOfRange___init__ : PySem.W.keepIn K (.ref f_OutOfRange___init__) = true)
    (at_BadText___init__ : PySem.W.findIn K (.ref c_BadText) "__init__" = some (some (.ref f_BadText___init__)))
    (l_BadText___init__ : K.lookup f_BadText___init__ = some ⟨oc_BadText___init__, od_BadText___init__, .func (PySem.W.fnOf "__init__" "BadText.__init__" (defArgs s_BadText___init__) (defBody s_BadText___init__) (defScope s_BadText___init__) .none kV_BadText___init__ dc_BadText___init__ pm_BadText___init__ an_BadText___init__ cd_BadText___init__ ct_BadText___init__), sl_BadText___init__⟩)
    (k1_BadText___init__ : PySem.W.codeIn K cd_BadText___init__ "BadText.__init__" = true)
    (k2_BadText___init__ : PySem.W.keepIn K (.ref f_BadText___init__) = true)
    (a_common_divisor : PySem.W.nsIn K mainGlobals "common_divisor" = some (some (.ref f_common_divisor)))
    (l_common_divisor : K.lookup f_common_divisor = some ⟨oc_common_divisor, od_common_divisor, .func (PySem.W.fnOf "common_divisor" "common_divisor" (defArgs s_common_divisor) (defBody s_common_divisor) (defScope s_common_divisor) .none kV_common_divisor dc_common_divisor pm_common_divisor an_common_divisor cd_common_divisor ct_common_divisor), sl_common_divisor⟩)
    (k1_common_divisor : PySem.W.codeIn K cd_common_divisor "common_divisor" = true)
    (k2_common_divisor : PySem.W.keepIn K (.ref f_common_divisor) = true)
    (at_Ratio___init__ : PySem.W.findIn K (.ref c_Ratio) "__init__" = some (some (.ref f_Ratio___init__)))
    (l_Ratio___init__ : K.lookup f_Ratio___init__ = some ⟨oc_Ratio___init__, od_Ratio___init__, .func (PySem.W.fnOf "__init__" "Ratio.__init__" (defArgs s_Ratio___init__) (defBody s_Ratio___init__) (defScope s_Ratio___init__) (.ref dT_Ratio___init__) kV_Ratio___init__ dc_Ratio___init__ pm_Ratio___init__ an_Ratio___init__ cd_Ratio___init__ ct_Ratio___init__), sl_Ratio___init__⟩)
    (k1_Ratio___init__ : PySem.W.codeIn K cd_Ratio___init__ "Ratio.__init__" = true)
    (k2_Ratio___init__ : PySem.W.keepIn K (.ref f_Ratio___init__) = true)
    (d1_Ratio___init__ : K.lookup dT_Ratio___init__ = some do_Ratio___init__)
    (d2_Ratio___init__ : do_Ratio___init__.data = .seq di_Ratio___init__ dn_Ratio___init__)
    (d3_Ratio___init__ : di_Ratio___init__ = #[.int 1 dt_Ratio___init__])
    (at_Ratio_read : PySem.W.findCls K (.ref c_Ratio) (.type "type") "read" = some (.get (.builtin "classmethod.__get__") (.ref p_Ratio_read) .none (.ref c_Ratio)))
    (rc_Ratio_read : PySem.W.recIn K p_Ratio_read "classmethod" = some (.ref f_Ratio_read :: rr_Ratio_read))
    (l_Ratio_read : K.lookup f_Ratio_read = some ⟨oc_Ratio_read, od_Ratio_read, .func (PySem.W.fnOf "read" "Ratio.read" (defArgs s_Ratio_read) (defBody s_Ratio_read) (defScope s_Ratio_read) .none kV_Ratio_read dc_Ratio_read pm_Ratio_read an_Ratio_read cd_Ratio_read ct_Ratio_read), sl_Ratio_read⟩)
    (k1_Ratio_read : PySem.W.codeIn K cd_Ratio_read "Ratio.read" = true)
    (k2_Ratio_read : PySem.W.keepIn K (.ref f_Ratio_read) = true)
    (at_Ratio_top : PySem.W.findIn K (.ref c_Ratio) "top" = some (some (.ref p_Ratio_top)))
    (rc_Ratio_top : PySem.W.recIn K p_Ratio_top "property" = some (.ref f_Ratio_top :: rr_Ratio_top))
    (l_Ratio_top : K.lookup f_Ratio_top = some ⟨oc_Ratio_top, od_Ratio_top, .func (PySem.W.fnOf "top" "Ratio.top" (defArgs s_Ratio_top) (defBody s_Ratio_top) (defScope s_Ratio_top) .none kV_Ratio_top dc_Ratio_top pm_Ratio_top an_Ratio_top cd_Ratio_top ct_Ratio_top), sl_Ratio_top⟩)
    (k1_Ratio_top : PySem.W.codeIn K cd_Ratio_top "Ratio.top" = true)
    (k2_Ratio_top : PySem.W.keepIn K (.ref f_Ratio_top) = true)
    (at_Ratio_bottom : PySem.W.findIn K (.ref c_Ratio) "bottom" = some (some (.ref p_Ratio_bottom)))
    (rc_Ratio_bottom : PySem.W.recIn K p_Ratio_bottom "property" = some (.ref f_Ratio_bottom :: rr_Ratio_bottom))
    (l_Ratio_bottom : K.lookup f_Ratio_bottom = some ⟨oc_Ratio_bottom, od_Ratio_bottom, .func (PySem.W.fnOf "bottom" "Ratio.bottom" (defArgs s_Ratio_bottom) (defBody s_Ratio_bottom) (defScope s_Ratio_bottom) .none kV_Ratio_bottom dc_Ratio_bottom pm_Ratio_bottom an_Ratio_bottom cd_Ratio_bottom ct_Ratio_bottom), sl_Ratio_bottom⟩)
    (k1_Ratio_bottom : PySem.W.codeIn K cd_Ratio_bottom "Ratio.bottom" = true)
    (k2_Ratio_bottom : PySem.W.keepIn K (.ref f_Ratio_bottom) = true)
    (a_read_number : PySem.W.nsIn K mainGlobals "read_number" = some (some (.ref f_read_number)))
    (l_read_number : K.lookup f_read_number = some ⟨oc_read_number, od_read_number, .func (PySem.W.fnOf "read_number" "read_number" (defArgs s_read_number) (defBody s_read_number) (defScope s_read_number) .none kV_read_number dc_read_number pm_read_number an_read_number cd_read_number ct_read_number), sl_read_number⟩)
    (k1_read_number : PySem.W.codeIn K cd_read_number "read_number" = true)
    (k2_read_number : PySem.W.keepIn K (.ref f_read_number) = true)
    (a_start : PySem.W.nsIn K mainGlobals "_law_start" = some (some (.ref f_start)))
    (l_start : K.lookup f_start = some ⟨oc_start, od_start, .func (PySem.W.fnOf "_law_start" "_law_start" (defArgs s_start) (defBody s_start) (defScope s_start) .none kV_start dc_start pm_start an_start cd_start ct_start), sl_start⟩)
    (k1_start : PySem.W.codeIn K cd_start "_law_start" = true)
    (k2_start : PySem.W.keepIn K (.ref f_start) = true)
    (a_draw : PySem.W.nsIn K mainGlobals "_law_draw" = some (some (.ref f_draw)))
    (l_draw : K.lookup f_draw = some ⟨oc_draw, od_draw, .func (PySem.W.fnOf "_law_draw" "_law_draw" (defArgs s_draw) (defBody s_draw) (defScope s_draw) .none kV_draw dc_draw pm_draw an_draw cd_draw ct_draw), sl_draw⟩)
    (k1_draw : PySem.W.codeIn K cd_draw "_law_draw" = true)
    (k2_draw : PySem.W.keepIn K (.ref f_draw) = true)
    (a_signs : PySem.W.nsIn K mainGlobals "_law_signs" = some (some (.ref f_signs)))
    (l_signs : K.lookup f_signs = some ⟨oc_signs, od_signs, .func (PySem.W.fnOf "_law_signs" "_law_signs" (defArgs s_signs) (defBody s_signs) (defScope s_signs) .none kV_signs dc_signs pm_signs an_signs cd_signs ct_signs), sl_signs⟩)
    (k1_signs : PySem.W.codeIn K cd_signs "_law_signs" = true)
    (k2_signs : PySem.W.keepIn K (.ref f_signs) = true)
    (a_low : PySem.W.nsIn K mainGlobals "_law_low" = some (some (.ref f_low)))
    (l_low : K.lookup f_low = some ⟨oc_low, od_low, .func (PySem.W.fnOf "_law_low" "_law_low" (defArgs s_low) (defBody s_low) (defScope s_low) .none kV_low dc_low pm_low an_low cd_low ct_low), sl_low⟩)
    (k1_low : PySem.W.codeIn K cd_low "_law_low" = true)
    (k2_low : PySem.W.keepIn K (.ref f_low) = true)
    (a_is : PySem.W.nsIn K mainGlobals "_law_is" = some (some (.ref f_is)))
    (l_is : K.lookup f_is = some ⟨oc_is, od_is, .func (PySem.W.fnOf "_law_is" "_law_is" (defArgs s_is) (defBody s_is) (defScope s_is) .none kV_is dc_is pm_is an_is cd_is ct_is), sl_is⟩)
    (k1_is : PySem.W.codeIn K cd_is "_law_is" = true)
    (k2_is : PySem.W.keepIn K (.ref f_is) = true)
    (a_digits : PySem.W.nsIn K mainGlobals "_law_digits" = some (some (.ref f_digits)))
    (l_digits : K.lookup f_digits = some ⟨oc_digits, od_digits, .func (PySem.W.fnOf "_law_digits" "_law_digits" (defArgs s_digits) (defBody s_digits) (defScope s_digits) .none kV_digits dc_digits pm_digits an_digits cd_digits ct_digits), sl_digits⟩)
    (k1_digits : PySem.W.codeIn K cd_digits "_law_digits" = true)
    (k2_digits : PySem.W.keepIn K (.ref f_digits) = true)
    (a_pieced : PySem.W.nsIn K mainGlobals "_law_pieced" = some (some (.ref f_pieced)))
    (l_pieced : K.lookup f_pieced = some ⟨oc_pieced, od_pieced, .func (PySem.W.fnOf "_law_pieced" "_law_pieced" (defArgs s_pieced) (defBody s_pieced) (defScope s_pieced) .none kV_pieced dc_pieced pm_pieced an_pieced cd_pieced ct_pieced), sl_pieced⟩)
    (k1_pieced : PySem.W.codeIn K cd_pieced "_law_pieced" = true)
    (k2_pieced : PySem.W.keepIn K (.ref f_pieced) = true)
    (a_drawn : PySem.W.nsIn K mainGlobals "_law_drawn" = some (some (.ref f_drawn)))
    (l_drawn : K.lookup f_drawn = some ⟨oc_drawn, od_drawn, .func (PySem.W.fnOf "_law_drawn" "_law_drawn" (defArgs s_drawn) (defBody s_drawn) (defScope s_drawn) .none kV_drawn dc_drawn pm_drawn an_drawn cd_drawn ct_drawn), sl_drawn⟩)
    (k1_drawn : PySem.W.codeIn K cd_drawn "_law_drawn" = true)
    (k2_drawn : PySem.W.keepIn K (.ref f_drawn) = true)
    (a_spoiled : PySem.W.nsIn K mainGlobals "_law_spoiled" = some (some (.ref f_spoiled)))
    (l_spoiled : K.lookup f_spoiled = some ⟨oc_spoiled, od_spoiled, .func (PySem.W.fnOf "_law_spoiled" "_law_spoiled" (defArgs s_spoiled) (defBody s_spoiled) (defScope s_spoiled) .none kV_spoiled dc_spoiled pm_spoiled an_spoiled cd_spoiled ct_spoiled), sl_spoiled⟩)
    (k1_spoiled : PySem.W.codeIn K cd_spoiled "_law_spoiled" = true)
    (k2_spoiled : PySem.W.keepIn K (.ref f_spoiled) = true)
    (a_number : PySem.W.nsIn K mainGlobals "_law_number" = some (some (.ref f_number)))
    (l_number : K.lookup f_number = some ⟨oc_number, od_number, .func (PySem.W.fnOf "_law_number" "_law_number" (defArgs s_number) (defBody s_number) (defScope s_number) .none kV_number dc_number pm_number an_number cd_number ct_number), sl_number⟩)
    (k1_number : PySem.W.codeIn K cd_number "_law_number" = true)
    (k2_number : PySem.W.keepIn K (.ref f_number) = true)
    (a_due : PySem.W.nsIn K mainGlobals "_law_due" = some (some (.ref f_due)))
    (l_due : K.lookup f_due = some ⟨oc_due, od_due, .func (PySem.W.fnOf "_law_due" "_law_due" (defArgs s_due) (defBody s_due) (defScope s_due) .none kV_due dc_due pm_due an_due cd_due ct_due), sl_due⟩)
    (k1_due : PySem.W.codeIn K cd_due "_law_due" = true)
    (k2_due : PySem.W.keepIn K (.ref f_due) = true)
    (a_law : PySem.W.nsIn K mainGlobals "law" = some (some (.ref f_law)))
    (l_law : K.lookup f_law = some ⟨oc_law, od_law, .func (PySem.W.fnOf "law" "law" (defArgs s_law) (defBody s_law) (defScope s_law) .none kV_law dc_law pm_law an_law cd_law ct_law), sl_law⟩)
    (k1_law : PySem.W.codeIn K cd_law "law" = true)
    (k2_law : PySem.W.keepIn K (.ref f_law) = true)
    (h_DIGITS : PySem.W.nsIn K mainGlobals "DIGITS" = some (some (.str "0123456789" t_DIGITS)))
    (h_MOST_DIGITS : PySem.W.nsIn K mainGlobals "MOST_DIGITS" = some (some (.int 9 t_MOST_DIGITS)))
    (z_ValueError : PySem.W.nsIn K mainGlobals "ValueError" = some none)
    (z_abs : PySem.W.nsIn K mainGlobals "abs" = some none)
    (z_classmethod : PySem.W.nsIn K mainGlobals "classmethod" = some none)
    (z_int : PySem.W.nsIn K mainGlobals "int" = some none)
    (z_isinstance : PySem.W.nsIn K mainGlobals "isinstance" = some none)
    (z_len : PySem.W.nsIn K mainGlobals "len" = some none)
    (z_list : PySem.W.nsIn K mainGlobals "list" = some none)
    (z_property : PySem.W.nsIn K mainGlobals "property" = some none)
    (z_range : PySem.W.nsIn K mainGlobals "range" = some none)
    (z_str : PySem.W.nsIn K mainGlobals "str" = some none)
    (e1_ExtralinkError : PySem.W.readsIn K c_ExtralinkError (.type "type") = true)
    (e2_ExtralinkError : PySem.W.specialIn K (.ref c_ExtralinkError) "__getattribute__" = some (some (.builtin "type.__getattribute__")))
    (e3_ExtralinkError : PySem.W.findCls K (.ref c_ExtralinkError) (.type "type") "__init__" = some (.val (.builtin "ValueError.__init__")))
    (x1_OutOfRange : K.lookup c_OutOfRange = some (excClassObj xn_OutOfRange xq_OutOfRange c_OutOfRange xN_OutOfRange xb_OutOfRange xm_OutOfRange true xs_OutOfRange xu_OutOfRange xa_OutOfRange xc_OutOfRange xd_OutOfRange x0_OutOfRange xi_OutOfRange x2_OutOfRange x3_OutOfRange x5_OutOfRange "ValueError.__new__"))
    (x6_OutOfRange : PySem.HandSPX.refsVE xm_OutOfRange = true)
    (x7_OutOfRange : PySem.W.findIn K (.ref c_OutOfRange) "__setattr__" = some (some (.builtin "object.__setattr__")))
    (x8_OutOfRange : PySem.W.subIn K (.ref c_OutOfRange) (.type "BaseException") = some true)
    (x9_OutOfRange : PySem.W.typeIn K (.ref c_OutOfRange) = some (.type "type"))
    (xk_OutOfRange : PySem.W.keepIn K (.ref c_OutOfRange) = true)
    (xt_OutOfRange : PySem.W.typeIn K (.ref f_OutOfRange___init__) = some (.type "function"))
    (hn_OutOfRange_value : PySem.W.findIn K (.ref c_OutOfRange) "value" = some none)
    (y1_OutOfRange : PySem.W.findIn K (.ref c_OutOfRange) "__getattribute__" = some (some (.builtin "BaseException.__getattribute__")))
    (y2_OutOfRange : PySem.W.findIn K (.ref c_OutOfRange) "__getattr__" = some none)
    (y4_OutOfRange : PySem.W.hasDictIn K c_OutOfRange = true)
    (z1_OutOfRange : PySem.W.isClsIn K c_OutOfRange = true)
    (z2_OutOfRange : PySem.W.subIn K (.ref c_OutOfRange) (.ref c_OutOfRange) = some true)
    (x1_BadText : K.lookup c_BadText = some (excClassObj xn_BadText xq_BadText c_BadText xN_BadText xb_BadText xm_BadText true xs_BadText xu_BadText xa_BadText xc_BadText xd_BadText x0_BadText xi_BadText x2_BadText x3_BadText x5_BadText "ValueError.__new__"))
    (x6_BadText : PySem.HandSPX.refsVE xm_BadText = true)
    (x7_BadText : PySem.W.findIn K (.ref c_BadText) "__setattr__" = some (some (.builtin "object.__setattr__")))
    (x8_BadText : PySem.W.subIn K (.ref c_BadText) (.type "BaseException") = some true)
    (x9_BadText : PySem.W.typeIn K (.ref c_BadText) = some (.type "type"))
    (xk_BadText : PySem.W.keepIn K (.ref c_BadText) = true)
    (xt_BadText : PySem.W.typeIn K (.ref f_BadText___init__) = some (.type "function"))
    (hn_BadText_text : PySem.W.findIn K (.ref c_BadText) "text" = some none)
    (y1_BadText : PySem.W.findIn K (.ref c_BadText) "__getattribute__" = some (some (.builtin "BaseException.__getattribute__")))
    (y2_BadText : PySem.W.findIn K (.ref c_BadText) "__getattr__" = some none)
    (y4_BadText : PySem.W.hasDictIn K c_BadText = true)
    (z1_BadText : PySem.W.isClsIn K c_BadText = true)
    (z2_BadText : PySem.W.subIn K (.ref c_BadText) (.ref c_BadText) = some true)
    (ht1_BadText : PySem.W.findIn K (.ref c_BadText) "__class__" = some (some (.builtin "object.__class__")))
    (ht2_BadText : PySem.W.specialIn K (.builtin "object.__class__") "__get__" = some (some (.builtin "getset_descriptor.__get__")))
    (ht3_BadText : PySem.W.takesIn K (.builtin "object.__class__") = some true)
    (ht4_BadText : PySem.W.mroIn K c_BadText (.type "object") = some true)
    (h_isa_BadText_ExtralinkError : PySem.W.kitOne K (.ref c_BadText) (.ref c_ExtralinkError) = some true)
    (h_isa_BadText_ValueError : PySem.W.kitOne K (.ref c_BadText) (.type "ValueError") = some true)
    (h1_Ratio : PySem.W.plainGet K c_Ratio Str.empty = true)
    (h2_Ratio : PySem.W.hasDictIn K c_Ratio = true)
    (h3_Ratio : PySem.W.plainOver K c_Ratio = true)
    (h4_Ratio : PySem.W.findIn K (.ref c_Ratio) "__setattr__" = some (some (.builtin "object.__setattr__")))
    (h5_Ratio : PySem.W.makesIn K c_Ratio = true)
    (h6_Ratio : PySem.W.isFn K (.ref f_Ratio___init__) = true)
    (h7_Ratio : PySem.W.keepIn K (.ref c_Ratio) = true)
    (hn_Ratio_upper : PySem.W.findIn K (.ref c_Ratio) "upper" = some none)
    (hn_Ratio_lower : PySem.W.findIn K (.ref c_Ratio) "lower" = some none)
    (hm_Ratio___init__ : PySem.W.isFn K (.ref f_Ratio___init__) = true)
    (hp1_Ratio_top : PySem.W.specialIn K (.ref p_Ratio_top) "__get__" = some (some (.builtin "property.__get__")))
    (hp2_Ratio_top : PySem.W.takesIn K (.ref p_Ratio_top) = some true)
    (hp1_Ratio_bottom : PySem.W.specialIn K (.ref p_Ratio_bottom) "__get__" = some (some (.builtin "property.__get__")))
    (hp2_Ratio_bottom : PySem.W.takesIn K (.ref p_Ratio_bottom) = some true)
    (hc1_Ratio_read : PySem.W.readsIn K c_Ratio (.type "type") = true)
    (hc2_Ratio_read : PySem.W.specialIn K (.ref c_Ratio) "__getattribute__" = some (some (.builtin "type.__getattribute__")))
    (hc4_Ratio_read : PySem.W.fnIn K f_Ratio_read = true)
    (ht1_Ratio : PySem.W.findIn K (.ref c_Ratio) "__class__" = some (some (.builtin "object.__class__")))
    (ht2_Ratio : PySem.W.specialIn K (.builtin "object.__class__") "__get__" = some (some (.builtin "getset_descriptor.__get__")))
    (ht3_Ratio : PySem.W.takesIn K (.builtin "object.__class__") = some true)
    (ht4_Ratio : PySem.W.mroIn K c_Ratio (.type "object") = some true)
    (h_isa_Ratio_Ratio : PySem.W.kitOne K (.ref c_Ratio) (.ref c_Ratio) = some true)
    (h_isa_int_Ratio : PySem.W.kitOne K (.type "int") (.ref c_Ratio) = some false)
    : ∃ fd : FuncData, (∀ (s : Shared) (v : Value), BindsTo s fd ⟨[v], []⟩ [("_law_script", v)]) ∧ ∀ base : Heap, K.In base → base.Ns mainGlobals mg → FnOk l.prog w K mg base (L2.CX l.prog w) 9 fa fd ["_law_script"] (spLaw K) := by
  have e := hfa.symm.trans (PySem.W.mg_of X G a_law)
  have e2 : fa = f_law := Value.ref.inj (Option.some.inj e)
  rw [e2]
  have T : GG K mg := {
    c_ExtralinkError := c_ExtralinkError
    g_ExtralinkError := PySem.W.mg_of X G gc_ExtralinkError
    c_OutOfRange := c_OutOfRange
    g_OutOfRange := PySem.W.mg_of X G gc_OutOfRange
    c_BadText := c_BadText
    g_BadText := PySem.W.mg_of X G gc_BadText
    c_Ratio := c_Ratio
    g_Ratio := PySem.W.mg_of X G gc_Ratio
    a_OutOfRange___init__ := f_OutOfRange___init__
    fd_OutOfRange___init__ := PySem.W.fnOf "__init__" "OutOfRange.__init__" (defArgs s_OutOfRange___init__) (defBody s_OutOfRange___init__) (defScope s_OutOfRange___init__) .none kV_OutOfRange___init__ dc_OutOfRange___init__ pm_OutOfRange___init__ an_OutOfRange___init__ cd_OutOfRange___init__ ct_OutOfRange___init__
    F_OutOfRange___init__ := fun_mk (st := s_OutOfRange___init__) l_OutOfRange___init__ k1_OutOfRange___init__ k2_OutOfRange___init__
    a_BadText___init__ := f_BadText___init__
    fd_BadText___init__ := PySem.W.fnOf "__init__" "BadText.__init__" (defArgs s_BadText___init__) (defBody s_BadText___init__) (defScope s_BadText___init__) .none kV_BadText___init__ dc_BadText___init__ pm_BadText___init__ an_BadText___init__ cd_BadText___init__ ct_BadText___init__
    F_BadText___init__ := fun_mk (st := s_BadText___init__) l_BadText___init__ k1_BadText___init__ k2_BadText___init__
    a_common_divisor := f_common_divisor
    fd_common_divisor := PySem.W.fnOf "common_divisor" "common_divisor" (defArgs s_common_divisor) (defBody s_common_divisor) (defScope s_common_divisor) .none kV_common_divisor dc_common_divisor pm_common_divisor an_common_divisor cd_common_divisor ct_common_divisor
    F_common_divisor := fun_mk (st := s_common_divisor) l_common_divisor k1_common_divisor k2_common_divisor
    m_common_divisor := PySem.W.mg_of X G a_common_divisor
    a_Ratio___init__ := f_Ratio___init__
    fd_Ratio___init__ := PySem.W.fnOf "__init__" "Ratio.__init__" (defArgs s_Ratio___init__) (defBody s_Ratio___init__) (defScope s_Ratio___init__) (.ref dT_Ratio___init__) kV_Ratio___init__ dc_Ratio___init__ pm_Ratio___init__ an_Ratio___init__ cd_Ratio___init__ ct_Ratio___init__
    F_Ratio___init__ := ⟨⟨oc_Ratio___init__, od_Ratio___init__, _, kV_Ratio___init__, dc_Ratio___init__, pm_Ratio___init__, an_Ratio___init__, cd_Ratio___init__, ct_Ratio___init__, sl_Ratio___init__, rfl, l_Ratio___init__, k1_Ratio___init__, .inr ⟨by simp, dT_Ratio___init__, do_Ratio___init__, di_Ratio___init__.toList, dn_Ratio___init__, rfl, d1_Ratio___init__, by rw [d2_Ratio___init__], by rw [d3_Ratio___init__]; exact (.cons ⟨_, rfl⟩ .nil)⟩, .inl rfl⟩, k2_Ratio___init__⟩
    a_Ratio_read := f_Ratio_read
    fd_Ratio_read := PySem.W.fnOf "read" "Ratio.read" (defArgs s_Ratio_read) (defBody s_Ratio_read) (defScope s_Ratio_read) .none kV_Ratio_read dc_Ratio_read pm_Ratio_read an_Ratio_read cd_Ratio_read ct_Ratio_read
    F_Ratio_read := fun_mk (st := s_Ratio_read) l_Ratio_read k1_Ratio_read k2_Ratio_read
    a_Ratio_top := f_Ratio_top
    fd_Ratio_top := PySem.W.fnOf "top" "Ratio.top" (defArgs s_Ratio_top) (defBody s_Ratio_top) (defScope s_Ratio_top) .none kV_Ratio_top dc_Ratio_top pm_Ratio_top an_Ratio_top cd_Ratio_top ct_Ratio_top
    F_Ratio_top := fun_mk (st := s_Ratio_top) l_Ratio_top k1_Ratio_top k2_Ratio_top
    a_Ratio_bottom := f_Ratio_bottom
    fd_Ratio_bottom := PySem.W.fnOf "bottom" "Ratio.bottom" (defArgs s_Ratio_bottom) (defBody s_Ratio_bottom) (defScope s_Ratio_bottom) .none kV_Ratio_bottom dc_Ratio_bottom pm_Ratio_bottom an_Ratio_bottom cd_Ratio_bottom ct_Ratio_bottom
    F_Ratio_bottom := fun_mk (st := s_Ratio_bottom) l_Ratio_bottom k1_Ratio_bottom k2_Ratio_bottom
    a_read_number := f_read_number
    fd_read_number := PySem.W.fnOf "read_number" "read_number" (defArgs s_read_number) (defBody s_read_number) (defScope s_read_number) .none kV_read_number dc_read_number pm_read_number an_read_number cd_read_number ct_read_number
    F_read_number := fun_mk (st := s_read_number) l_read_number k1_read_number k2_read_number
    m_read_number := PySem.W.mg_of X G a_read_number
    a_start := f_start
    fd_start := PySem.W.fnOf "_law_start" "_law_start" (defArgs s_start) (defBody s_start) (defScope s_start) .none kV_start dc_start pm_start an_start cd_start ct_start
    F_start := fun_mk (st := s_start) l_start k1_start k2_start
    m_start := PySem.W.mg_of X G a_start
    a_draw := f_draw
    fd_draw := PySem.W.fnOf "_law_draw" "_law_draw" (defArgs s_draw) (defBody s_draw) (defScope s_draw) .none kV_draw dc_draw pm_draw an_draw cd_draw ct_draw
    F_draw := fun_mk (st := s_draw) l_draw k1_draw k2_draw
    m_draw := PySem.W.mg_of X G a_draw
    a_signs := f_signs
    fd_signs := PySem.W.fnOf "_law_signs" "_law_signs" (defArgs s_signs) (defBody s_signs) (defScope s_signs) .none kV_signs dc_signs pm_signs an_signs cd_signs ct_signs
    F_signs := fun_mk (st := s_signs) l_signs k1_signs k2_signs
    m_signs := PySem.W.mg_of X G a_signs
    a_low := f_low
    fd_low := PySem.W.fnOf "_law_low" "_law_low" (defArgs s_low) (defBody s_low) (defScope s_low) .none kV_low dc_low pm_low an_low cd_low ct_low
    F_low := fun_mk (st := s_low) l_low k1_low k2_low
    m_low := PySem.W.mg_of X G a_low
    a_is := f_is
    fd_is := PySem.W.fnOf "_law_is" "_law_is" (defArgs s_is) (defBody s_is) (defScope s_is) .none kV_is dc_is pm_is an_is cd_is ct_is
    F_is := fun_mk (st := s_is) l_is k1_is k2_is
    m_is := PySem.W.mg_of X G a_is
    a_digits := f_digits
    fd_digits := PySem.W.fnOf "_law_digits" "_law_digits" (defArgs s_digits) (defBody s_digits) (defScope s_digits) .none kV_digits dc_digits pm_digits an_digits cd_digits ct_digits
    F_digits := fun_mk (st := s_digits) l_digits k1_digits k2_digits
    m_digits := PySem.W.mg_of X G a_digits
    a_pieced := f_pieced
    fd_pieced := PySem.W.fnOf "_law_pieced" "_law_pieced" (defArgs s_pieced) (defBody s_pieced) (defScope s_pieced) .none kV_pieced dc_pieced pm_pieced an_pieced cd_pieced ct_pieced
    F_pieced := fun_mk (st := s_pieced) l_pieced k1_pieced k2_pieced
    m_pieced := PySem.W.mg_of X G a_pieced
    a_drawn := f_drawn
    fd_drawn := PySem.W.fnOf "_law_drawn" "_law_drawn" (defArgs s_drawn) (defBody s_drawn) (defScope s_drawn) .none kV_drawn dc_drawn pm_drawn an_drawn cd_drawn ct_drawn
    F_drawn := fun_mk (st := s_drawn) l_drawn k1_drawn k2_drawn
    m_drawn := PySem.W.mg_of X G a_drawn
    a_spoiled := f_spoiled
    fd_spoiled := PySem.W.fnOf "_law_spoiled" "_law_spoiled" (defArgs s_spoiled) (defBody s_spoiled) (defScope s_spoiled) .none kV_spoiled dc_spoiled pm_spoiled an_spoiled cd_spoiled ct_spoiled
    F_spoiled := fun_mk (st := s_spoiled) l_spoiled k1_spoiled k2_spoiled
    m_spoiled := PySem.W.mg_of X G a_spoiled
    a_number := f_number
    fd_number := PySem.W.fnOf "_law_number" "_law_number" (defArgs s_number) (defBody s_number) (defScope s_number) .none kV_number dc_number pm_number an_number cd_number ct_number
    F_number := fun_mk (st := s_number) l_number k1_number k2_number
    m_number := PySem.W.mg_of X G a_number
    a_due := f_due
    fd_due := PySem.W.fnOf "_law_due" "_law_due" (defArgs s_due) (defBody s_due) (defScope s_due) .none kV_due dc_due pm_due an_due cd_due ct_due
    F_due := fun_mk (st := s_due) l_due k1_due k2_due
    m_due := PySem.W.mg_of X G a_due
    a_law := f_law
    fd_law := PySem.W.fnOf "law" "law" (defArgs s_law) (defBody s_law) (defScope s_law) .none kV_law dc_law pm_law an_law cd_law ct_law
    F_law := fun_mk (st := s_law) l_law k1_law k2_law
    m_law := PySem.W.mg_of X G a_law
    g_DIGITS := ⟨_, PySem.W.mg_of X G h_DIGITS, ⟨_, rfl⟩⟩
    g_MOST_DIGITS := ⟨_, PySem.W.mg_of X G h_MOST_DIGITS, ⟨_, rfl⟩⟩
    z_ValueError := PySem.W.mg_none_of X G z_ValueError
    z_abs := PySem.W.mg_none_of X G z_abs
    z_classmethod := PySem.W.mg_none_of X G z_classmethod
    z_int := PySem.W.mg_none_of X G z_int
    z_isinstance := PySem.W.mg_none_of X G z_isinstance
    z_len := PySem.W.mg_none_of X G z_len
    z_list := PySem.W.mg_none_of X G z_list
    z_property := PySem.W.mg_none_of X G z_property
    z_range := PySem.W.mg_none_of X G z_range
    z_str := PySem.W.mg_none_of X G z_str
    ei_ExtralinkError := ⟨(.type "type"), ⟨e1_ExtralinkError, e2_ExtralinkError⟩, e3_ExtralinkError⟩
    ox_OutOfRange := ⟨⟨_, _, _, _, _, _, _, _, _, _, _, _, _, _, _, x1_OutOfRange, x6_OutOfRange⟩, x7_OutOfRange, x8_OutOfRange, x9_OutOfRange, xk_OutOfRange⟩
    in_OutOfRange := ⟨at_OutOfRange___init__, xt_OutOfRange⟩
    no_OutOfRange_value := hn_OutOfRange_value
    xf_OutOfRange := ⟨y1_OutOfRange, y2_OutOfRange, x8_OutOfRange, y4_OutOfRange⟩
    te_OutOfRange := PySem.W.exm_ref x8_OutOfRange y4_OutOfRange x9_OutOfRange z2_OutOfRange
    ox_BadText := ⟨⟨_, _, _, _, _, _, _, _, _, _, _, _, _, _, _, x1_BadText, x6_BadText⟩, x7_BadText, x8_BadText, x9_BadText, xk_BadText⟩
    in_BadText := ⟨at_BadText___init__, xt_BadText⟩
    no_BadText_text := hn_BadText_text
    xf_BadText := ⟨y1_BadText, y2_BadText, x8_BadText, y4_BadText⟩
    te_BadText := PySem.W.exm_ref x8_BadText y4_BadText x9_BadText z2_BadText
    ty_BadText := ⟨ht1_BadText, ht2_BadText, ht3_BadText, ht4_BadText⟩
    isa_BadText_ExtralinkError := h_isa_BadText_ExtralinkError
    isa_BadText_ValueError := h_isa_BadText_ValueError
    cl_Ratio := ⟨h1_Ratio, h2_Ratio, h3_Ratio, h4_Ratio⟩
    mk_Ratio := ⟨h5_Ratio, at_Ratio___init__, h6_Ratio, h7_Ratio⟩
    no_Ratio_upper := hn_Ratio_upper
    no_Ratio_lower := hn_Ratio_lower
    me_Ratio___init__ := ⟨at_Ratio___init__, hm_Ratio___init__, k2_Ratio___init__⟩
    pr_Ratio_top := ⟨p_Ratio_top, at_Ratio_top, hp1_Ratio_top, hp2_Ratio_top, _, rc_Ratio_top⟩
    pr_Ratio_bottom := ⟨p_Ratio_bottom, at_Ratio_bottom, hp1_Ratio_bottom, hp2_Ratio_bottom, _, rc_Ratio_bottom⟩
    cm_Ratio_read := ⟨(.type "type"), p_Ratio_read, ⟨hc1_Ratio_read, hc2_Ratio_read⟩, ⟨at_Ratio_read, ⟨_, rc_Ratio_read⟩, hc4_Ratio_read⟩⟩
    ty_Ratio := ⟨ht1_Ratio, ht2_Ratio, ht3_Ratio, ht4_Ratio⟩
    isa_Ratio_Ratio := h_isa_Ratio_Ratio
    isa_int_Ratio := h_isa_int_Ratio }
  have hlaw : ∀ base : Heap, FnOk l.prog w K mg base (L2.CX l.prog w) 9 f_law (PySem.W.fnOf "law" "law" (defArgs s_law) (defBody s_law) (defScope s_law) .none kV_law dc_law pm_law an_law cd_law ct_law) ["_law_script"] (spLaw K) := fun base => ok_law_of (T := T) (fun_mk (st := s_law) l_law k1_law k2_law)
  exact ⟨_, fun s v => .of_eq rfl, fun base _ _ => hlaw base⟩
theorem walk {l : PySem.W.OpenLaw} {q : Program} {loose : List Str} {XP : (Str → Option Value) → Heap → Prop} {YP : World → Heap → Prop} {d : DefRec} {K : Params → PySem.W.Frag} (hn : l.most = some 63) (hdf : d.params.defaults = [])
    (hY : ∀ (w : World) (h : Heap), YP w h → (K w.params).In h)
    (F : ∀ (w : World) (mg : Str → Option Value) (fa : Addr) (h : Heap), (K w.params).In h → h.Ns mainGlobals mg → mg d.name = some (.ref fa) →
      ∃ fd : FuncData, (∀ (s : Shared) (u : Value), BindsTo s fd ⟨[u], []⟩ [("_law_script", u)]) ∧ ∀ base : Heap, (K w.params).In base → base.Ns mainGlobals mg → FnOk l.prog w (K w.params) mg base (L2.CX l.prog w) 9 fa fd ["_law_script"] (spLaw (K w.params))) :
    PySem.W.WalkO q loose XP YP l.row.toRowW d [] (fun f vs => PySem.call f vs) :=
  L2.walk_of (n := 63) (k := 9) (x := "_law_script") (CX := fun w => L2.CX l.prog w) (sp := fun w => spLaw (K w.params)) hn (by decide) hdf ⟨rfl, by decide, by decide⟩ hY F (fun _ _ a ns hl _ hS => ⟨a, ns, rfl, hS, hl, fun _ => rfl⟩) fun _ _ _ _ _ z => by
    obtain ⟨_, _, _, _, _, _, _, _, _, _, _, _, z⟩ := z
    exact z
end Xl
open PySem PySem.W PyProof.Rows
set_option maxRecDepth 100000 in
set_option maxHeartbeats 0 in
theorem PySem.Challenge.cw_extralink_k04_ratio_read_holds : PySem.Challenge.rw_extralink_k04_ratio_read.Holds := by
  w_on; o_law; k_head; (case hw => w_witness2)
  k_fill
  refine Xl.walk (l := PySem.Challenge.rw_extralink_k04_ratio_read) rfl rfl (fun w h Y => PySem.W.kIn_of Y) ?F
  case F =>
    intro w mg fa h KX G hmg
    refine' Xl.all_mk KX G hmg ?gc_ExtralinkError ?gc_OutOfRange ?gc_BadText ?gc_Ratio ?at_OutOfRange___init__ ?l_OutOfRange___init__ ?k1_OutOfRange___init__ ?k2_OutOfRange___init__ ?at_BadText___init__ ?l_BadText___init__ ?k1_BadText___init__ ?k2_BadText___init__ ?a_common_divisor ?l_common_divisor ?k1_common_divisor ?k2_common_divisor ?at_Ratio___init__ ?l_Ratio___init__ ?k1_Ratio___init__ ?k2_Ratio___init__ ?d1_Ratio___init__ ?d2_Ratio___init__ ?d3_Ratio___init__ ?at_Ratio_read ?rc_Ratio_read ?l_Ratio_read ?k1_Ratio_read ?k2_Ratio_read ?at_Ratio_top ?rc_Ratio_top ?l_Ratio_top ?k1_Ratio_top ?k2_Ratio_top ?at_Ratio_bottom ?rc_Ratio_bottom ?l_Ratio_bottom ?k1_Ratio_bottom ?k2_Ratio_bottom ?a_read_number ?l_read_number ?k1_read_number ?k2_read_number ?a_start ?l_start ?k1_start ?k2_start ?a_draw ?l_draw ?k1_draw ?k2_draw ?a_signs ?l_signs ?k1_signs ?k2_signs ?a_low ?l_low ?k1_low ?k2_low ?a_is ?l_is ?k1_is ?k2_is ?a_digits ?l_digits ?k1_digits ?k2_digits ?a_pieced ?l_pieced ?k1_pieced ?k2_pieced ?a_drawn ?l_drawn ?k1_drawn ?k2_drawn ?a_spoiled ?l_spoiled ?k1_spoiled ?k2_spoiled ?a_number ?l_number ?k1_number ?k2_number ?a_due ?l_due ?k1_due ?k2_due ?a_law ?l_law ?k1_law ?k2_law ?h_DIGITS ?h_MOST_DIGITS ?z_ValueError ?z_abs ?z_classmethod ?z_int ?z_isinstance ?z_len ?z_list ?z_property ?z_range ?z_str ?e1_ExtralinkError ?e2_ExtralinkError ?e3_ExtralinkError ?x1_OutOfRange ?x6_OutOfRange ?x7_OutOfRange ?x8_OutOfRange ?x9_OutOfRange ?xk_OutOfRange ?xt_OutOfRange ?hn_OutOfRange_value ?y1_OutOfRange ?y2_OutOfRange ?y4_OutOfRange ?z1_OutOfRange ?z2_OutOfRange ?x1_BadText ?x6_BadText ?x7_BadText ?x8_BadText ?x9_BadText ?xk_BadText ?xt_BadText ?hn_BadText_text ?y1_BadText ?y2_BadText ?y4_BadText ?z1_BadText ?z2_BadText ?ht1_BadText ?ht2_BadText ?ht3_BadText ?ht4_BadText ?h_isa_BadText_ExtralinkError ?h_isa_BadText_ValueError ?h1_Ratio ?h2_Ratio ?h3_Ratio ?h4_Ratio ?h5_Ratio ?h6_Ratio ?h7_Ratio ?hn_Ratio_upper ?hn_Ratio_lower ?hm_Ratio___init__ ?hp1_Ratio_top ?hp2_Ratio_top ?hp1_Ratio_bottom ?hp2_Ratio_bottom ?hc1_Ratio_read ?hc2_Ratio_read ?hc4_Ratio_read ?ht1_Ratio ?ht2_Ratio ?ht3_Ratio ?ht4_Ratio ?h_isa_Ratio_Ratio ?h_isa_int_Ratio
    (case gc_ExtralinkError => k_is)
    (case gc_OutOfRange => k_is)
    (case gc_BadText => k_is)
    (case gc_Ratio => k_is)
    (case at_OutOfRange___init__ => k_is)
    (case l_OutOfRange___init__ => k_is)
    (case k1_OutOfRange___init__ => k_is)
    (case k2_OutOfRange___init__ => k_is)
    (case at_BadText___init__ => k_is)
    (case l_BadText___init__ => k_is)
    (case k1_BadText___init__ => k_is)
    (case k2_BadText___init__ => k_is)
    (case a_common_divisor => k_is)
    (case l_common_divisor => k_is)
    (case k1_common_divisor => k_is)
    (case k2_common_divisor => k_is)
    (case at_Ratio___init__ => k_is)
    (case l_Ratio___init__ => k_is)
    (case k1_Ratio___init__ => k_is)
    (case k2_Ratio___init__ => k_is)
    (case d1_Ratio___init__ => k_is)
    (case d2_Ratio___init__ => rfl)
    (case d3_Ratio___init__ => rfl)
    (case at_Ratio_read => k_is)
    (case rc_Ratio_read => k_is)
    (case l_Ratio_read => k_is)
    (case k1_Ratio_read => k_is)
    (case k2_Ratio_read => k_is)
    (case at_Ratio_top => k_is)
    (case rc_Ratio_top => k_is)
    (case l_Ratio_top => k_is)
    (case k1_Ratio_top => k_is)
    (case k2_Ratio_top => k_is)
    (case at_Ratio_bottom => k_is)
    (case rc_Ratio_bottom => k_is)
    (case l_Ratio_bottom => k_is)
    (case k1_Ratio_bottom => k_is)
    (case k2_Ratio_bottom => k_is)
    (case a_read_number => k_is)
    (case l_read_number => k_is)
    (case k1_read_number => k_is)
    (case k2_read_number => k_is)
    (case a_start => k_is)
    (case l_start => k_is)
    (case k1_start => k_is)
    (case k2_start => k_is)
    (case a_draw => k_is)
    (case l_draw => k_is)
    (case k1_draw => k_is)
    (case k2_draw => k_is)
    (case a_signs => k_is)
    (case l_signs => k_is)
    (case k1_signs => k_is)
    (case k2_signs => k_is)
    (case a_low => k_is)
    (case l_low => k_is)
    (case k1_low => k_is)
    (case k2_low => k_is)
    (case a_is => k_is)
    (case l_is => k_is)
    (case k1_is => k_is)
    (case k2_is => k_is)
    (case a_digits => k_is)
    (case l_digits => k_is)
    (case k1_digits => k_is)
    (case k2_digits => k_is)
    (case a_pieced => k_is)
    (case l_pieced => k_is)
    (case k1_pieced => k_is)
    (case k2_pieced => k_is)
    (case a_drawn => k_is)
    (case l_drawn => k_is)
    (case k1_drawn => k_is)
    (case k2_drawn => k_is)
    (case a_spoiled => k_is)
    (case l_spoiled => k_is)
    (case k1_spoiled => k_is)
    (case k2_spoiled => k_is)
    (case a_number => k_is)
    (case l_number => k_is)
    (case k1_number => k_is)
    (case k2_number => k_is)
    (case a_due => k_is)
    (case l_due => k_is)
    (case k1_due => k_is)
    (case k2_due => k_is)
    (case a_law => k_is)
    (case l_law => k_is)
    (case k1_law => k_is)
    (case k2_law => k_is)
    (case h_DIGITS => k_is)
    (case h_MOST_DIGITS => k_is)
    (case z_ValueError => k_is)
    (case z_abs => k_is)
    (case z_classmethod => k_is)
    (case z_int => k_is)
    (case z_isinstance => k_is)
    (case z_len => k_is)
    (case z_list => k_is)
    (case z_property => k_is)
    (case z_range => k_is)
    (case z_str => k_is)
    (case e1_ExtralinkError => k_is)
    (case e2_ExtralinkError => k_is)
    (case e3_ExtralinkError => k_is)
    (case x1_OutOfRange => k_is)
    (case x6_OutOfRange => decide +kernel)
    (case x7_OutOfRange => k_is)
    (case x8_OutOfRange => k_is)
    (case x9_OutOfRange => k_is)
    (case xk_OutOfRange => k_is)
    (case xt_OutOfRange => k_is)
    (case hn_OutOfRange_value => k_is)
    (case y1_OutOfRange => k_is)
    (case y2_OutOfRange => k_is)
    (case y4_OutOfRange => k_is)
    (case z1_OutOfRange => k_is)
    (case z2_OutOfRange => first | rfl | k_is)
    (case x1_BadText => k_is)
    (case x6_BadText => decide +kernel)
    (case x7_BadText => k_is)
    (case x8_BadText => k_is)
    (case x9_BadText => k_is)
    (case xk_BadText => k_is)
    (case xt_BadText => k_is)
    (case hn_BadText_text => k_is)
    (case y1_BadText => k_is)
    (case y2_BadText => k_is)
    (case y4_BadText => k_is)
    (case z1_BadText => k_is)
    (case z2_BadText => first | rfl | k_is)
    (case ht1_BadText => k_is)
    (case ht2_BadText => k_is)
    (case ht3_BadText => k_is)
    (case ht4_BadText => k_is)
    (case h_isa_BadText_ExtralinkError => kit_is)
    (case h_isa_BadText_ValueError => kit_is)
    (case h1_Ratio => k_is)
    (case h2_Ratio => k_is)
    (case h3_Ratio => k_is)
    (case h4_Ratio => k_is)
    (case h5_Ratio => k_is)
    (case h6_Ratio => k_is)
    (case h7_Ratio => k_is)
    (case hn_Ratio_upper => k_is)
    (case hn_Ratio_lower => k_is)
    (case hm_Ratio___init__ => k_is)
    (case hp1_Ratio_top => k_is)
    (case hp2_Ratio_top => k_is)
    (case hp1_Ratio_bottom => k_is)
    (case hp2_Ratio_bottom => k_is)
    (case hc1_Ratio_read => k_is)
    (case hc2_Ratio_read => k_is)
    (case hc4_Ratio_read => k_is)
    (case ht1_Ratio => k_is)
    (case ht2_Ratio => k_is)
    (case ht3_Ratio => k_is)
    (case ht4_Ratio => k_is)
    (case h_isa_Ratio_Ratio => kit_is)
    (case h_isa_int_Ratio => kit_is)
#print axioms PySem.Challenge.cw_extralink_k04_ratio_read_holds

