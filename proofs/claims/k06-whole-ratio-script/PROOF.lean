import PyProof.Rows.All
import Wide.All
import OpenK.AllK
import Wide.FinOn
import KE.KRevSl
import HandS.ForMost
import HandS.ForExc
import HandS.Walk
import HandS.Wide
import HandS.IsInst
import HandS.Style
import HandS.ClsMeth
import HandS.ExcInit
import HandS.ExcField
import HandS.Property
import HandS.Defaults
import HandS.MakeKwOnly
import HandS.FStr
import HandS.OwnEq
import HandS.CallSlots
import KE.KOpsOwn
import KE.KCallOwn
import HandS.Codes
import HandS.ExcOwn
import KE.KExcIs
import KE.IntBitsLaws
import HandS.ExcIs
import PySem.Challenge.RW_extralink_k06_whole_ratio_script
set_option Elab.async false
set_option linter.all false
set_option maxRecDepth 100000
set_option maxHeartbeats 4000000

namespace Xl
open PySem PySem.Spec PyProof.Rows L2

/-! ### calls of the text's own defs, bundled -/
structure FnI (P : Program) (w : World) (K : PySem.W.Frag) (mg : Str → Option Value) (base : Heap) (x : Str) (k : Nat) (ps : List Str) (sp : Sp) : Prop where
  ex : ∃ f fd, FnOk P w K mg base (L2.CX P w) k f fd ps sp ∧ mg x = some (.ref f) ∧ PySem.W.keepIn K (.ref f) = true ∧ Binds K fd ps []
/-- .. called by keywords alone, one keyword -/
structure FnK (P : Program) (w : World) (K : PySem.W.Frag) (mg : Str → Option Value) (base : Heap) (x : Str) (k : Nat) (ps : List Str) (sp : Sp) : Prop where
  ex : ∃ f fd, FnOk P w K mg base (L2.CX P w) k f fd ps sp ∧ mg x = some (.ref f) ∧ PySem.W.keepIn K (.ref f) = true ∧ ∀ (s : Shared) (ws : List Value), ws.length = ps.length → BindsTo s fd ⟨[], ps.zip ws⟩ (ps.zip ws)

section
variable {X : Cx} {k : Nat} {ps : List Str} {sp : Sp} {E : XK} {x : Str} {p pos : Pos} {e : Expr} {es : List Expr} {t : TA} {te : TE}
theorem pe_f (F : FnI X.prog X.w X.K X.mg X.base x k ps sp) (hr : Room k X.A) (hx : Passes (L2.CX X.prog X.w) X E) (ha : PA X (e :: es) t) (hg : Gl X x := by rfl)
    (hdb : (x == ("__debug__" : Str)) = false := by decide) (he : starEach (e :: es) X.env = (false, eval e X.env) :: starEach es X.env := by rfl) (hpl : (backTo pos (starEach es X.env)).any (·.1) = false := by rfl) :
    PE X (.Call (.Name x p) (e :: es) [] pos) (tCall sp [] E t) := by
  obtain ⟨f, fd, h1, h2, h3, h4⟩ := F.ex
  exact pe_call h1 hr hg h2 h3 h4 .nil hx ha hdb he hpl
theorem pe_f0 (F : FnI X.prog X.w X.K X.mg X.base x k ps sp) (hr : Room k X.A) (hx : Passes (L2.CX X.prog X.w) X E) (hg : Gl X x := by rfl)
    (hdb : (x == ("__debug__" : Str)) = false := by decide) : PE X (.Call (.Name x p) [] [] pos) (tCall sp [] E tNil) := by
  obtain ⟨f, fd, h1, h2, h3, h4⟩ := F.ex
  exact pe_call0 h1 hr hg h2 h3 h4 .nil hx hdb
/-- f(k = v, ..), all parameters by keyword in their order -/
def tCallW (n : Nat) (sp : Sp) (E : XK) (tk : TA) : TE := fun σ H Q => tk σ H fun zs H2 => zs.length = n ∧ sp zs H2 Q E
theorem pe_fK {kws : List Keyword} {tk : TA} (F : FnK X.prog X.w X.K X.mg X.base x k ps sp) (hr : Room k X.A) (hx : Passes (L2.CX X.prog X.w) X E) (hkw : PK X kws tk) (hg : Gl X x := by rfl)
    (hall : (backToKw pos (keywordEach kws X.env)).all (·.1.isSome) = true := by rfl) (hks : (backToKw pos (keywordEach kws X.env)).filterMap (·.1) = ps := by rfl) (hdb : (x == ("__debug__" : Str)) = false := by decide)
    (hpl : ((backTo pos (starEach [] X.env)).any (·.1) || (backToKw pos (keywordEach kws X.env)).any (·.1.isNone)) = false := by rfl) :
    PE X (.Call (.Name x p) [] kws pos) (tCallW ps.length sp E tk) := by
  obtain ⟨f, fd, h1, h2, h3, h4⟩ := F.ex
  refine ⟨fun pins s σ H Q I h => ?_⟩
  refine wpAny_Call_Name_kw (ld_glob I hg h2 ?_ hdb)
  refine PySem.W.callWith_KW0 (h₀ := X.base) I.ok.mod.kin h3 hall ?_ hpl
  refine thn (hkw.run pos pins s σ H _ I h) fun ws s2 ⟨zs, H2, I2, rz, l1, q2⟩ => ⟨I2.kIn, ?_⟩
  rw [hks]
  refine wpAny_call (codeAny_mono (h1.run X.A X.stack s2 H2 ⟨[], ps.zip ws⟩ ws zs Q E hr I2.env0 (h4 s2 ws (by rw [← rz.length]; exact l1)) rz q2) fun r s' hq => ?_)
  cases r with
  | error e => exact hx pins σ H2 s2 e s' I2 hq
  | ok fl =>
    cases fl with
    | ret u => exact I2.after hq
    | next => exact False.elim hq
    | brk => exact False.elim hq
    | cont => exact False.elim hq
/-- a constant of the module -/
theorem pe_gl {v : V} (h : ∃ u, X.mg x = some u ∧ RelV v u) (hg : Gl X x := by rfl) (hd : (x == ("__debug__" : Str)) = false := by decide) : PE X (.Name x pos) (tC v) := by
  obtain ⟨u, h1, h2⟩ := h
  exact pe_glob hg h1 h2 hd
/-- a class of the module -/
theorem pe_cls {C : Addr} (h : X.mg x = some (.ref C)) (hg : Gl X x := by rfl) (hd : (x == ("__debug__" : Str)) = false := by decide) : PE X (.Name x pos) (tC (.ref C)) := pe_glob (v := .ref C) hg h rfl hd
/-- a list's item as the old value of an item assignment with an operator -/
theorem get_list : PGet X (rIxL X.K) := by
  intro pins s σ H o i ov iv Q I ro ri h
  obtain ⟨p, xs, k, v, rfl, rfl, hq, ha, q⟩ := h
  cases ro
  obtain ⟨t, rfl⟩ := ri
  obtain ⟨its, r, pl, hz⟩ := I.list hq
  obtain ⟨j, h1, h2, h3, h4, h5⟩ := atI_get ha
  obtain ⟨w, ew, rw'⟩ := r.get h2
  have hl := r.length
  have hn := line63
  have fin : EP X pins σ Q w s := ⟨v, H, I, rw', q⟩
  by_cases h0 : 0 ≤ k
  · have hj : k.toNat = j := by
      rw [seqIndex_of h0 h5] at h1
      exact Option.some.inj h1
    exact wpAny_getItem_list pl.isList h0 (by omega) (by rw [hj]; simpa using ew) fin
  · have hj : (k + (its.toArray.size : Int)).toNat = j := by
      rw [seqIndex_neg (by omega) h4] at h1
      rw [List.size_toArray, ← hl]
      exact Option.some.inj h1
    exact wpAny_getItem_list_neg pl.isList (by omega) (by rw [List.size_toArray] <;> omega) (by omega) (by rw [hj]; simpa using ew) fin
/-- text[::-1] -/
def revS (z : Str) : Str := Txt.sliceBy z none none (-1, 0)
theorem revS_len (z : Str) : (revS z).length ≤ z.length := Txt.sliceBy_le z none none (-1, 0) (show (-1 : Int) ≠ 0 by decide)
def tRevS (te : TE) : TE := fun σ H Q => te σ H fun x H1 => ∃ z, x = .str z ∧ z.length ≤ sizeLine ∧ Q (.str (revS z)) H1
theorem pe_revS {k : Nat} {p1 p2 p3 : Pos} (he : PE X e te) : PE X (.Subscript e (.Slice none none (some (.UnaryOp .USub (.Constant (.int 1) k p1) p2)) p3) pos) (tRevS te) := by
  refine ⟨fun pins s σ H Q I h => ?_⟩
  refine Subscript_ (thn (he.run pins s σ H _ I h) fun v s1 ⟨x, H1, I1, r1, q1⟩ => ?_)
  obtain ⟨z, rfl, hz, q⟩ := q1
  obtain ⟨tz, rfl⟩ := r1
  have hst : PO X (some (.UnaryOp .USub (.Constant (.int 1) k p1) p2)) (tPart (tUn (rU fun i => .int (-i)) (tC (.int 1)))) := po_some (pe_un un_neg pe_int)
  refine wpAny_Slice (thn (po_none.run pins s1 σ H1 (fun o H2 => o = none ∧ H2 = H1) I1 ⟨rfl, rfl⟩) fun vl s2 ⟨l, H2, I2, pl, el, e2⟩ => ?_)
  subst el e2
  refine thn (po_none.run pins s2 σ H2 (fun o H3 => o = none ∧ H3 = H2) I2 ⟨rfl, rfl⟩) fun vu s3 ⟨u, H3, I3, pu, eu, e3⟩ => ?_
  subst eu e3
  refine thn (hst.run pins s3 σ H3 (fun o H4 => o = some (-1) ∧ H4 = H3) I3 ⟨1, rfl, -1, rfl, rfl, rfl⟩) fun vs s4 ⟨o, H4, I4, ps, eo, e4⟩ => ?_
  subst eo e4
  have I5 : Inv X pins σ H4 { s4 with heap := s4.heap.push { cls := .type "slice", data := .fields #[vl, vu, vs] } } := I4.kept (t' := s4.toks) fun b ob q => Heap.get?_push_of_some _ q
  obtain ⟨l, rfl, e1⟩ := IsPart.raw pl
  obtain ⟨u, rfl, e2⟩ := IsPart.raw pu
  obtain ⟨st, rfl, e3⟩ := IsPart.raw ps
  cases l with
  | some _ => cases e1
  | none =>
  cases u with
  | some _ => cases e2
  | none =>
  cases st with
  | none => cases e3
  | some st =>
    obtain ⟨k0, uk⟩ := st
    have ek : k0 = -1 := Option.some.inj e3
    subst ek
    show wpAny (model X.prog X.w) X.A (subscriptTail e (.Slice none none (some (.UnaryOp .USub (.Constant (.int 1) k p1) p2)) p3) (.str z tz) (.ref s4.heap.objs.size)) (EP X pins σ Q) X.xe { s4 with heap := s4.heap.push { cls := .type "slice", data := .fields #[.none, .none, .int (-1) uk] } }
    refine tail_any (ops := [.ref s4.heap.objs.size, .str z tz]) (typeIs_str _ _ _) F.slot_str_getitem.lookup ?_ (by with_unfolding_all rfl)
    refine wpAny_getItem_str_slice (l := none) (u := none) (st := some (-1, uk)) ⟨_, Heap.get?_push_size _ rfl, rfl, rfl⟩ rfl ?_
    have hl : (Txt.sliceBy z none none (-1, uk)).length ≤ z.length := Txt.sliceBy_le z none none (-1, uk) (show (-1 : Int) ≠ 0 by decide)
    exact post_val_or_str ⟨Nat.le_trans hl hz, fun t' c => ⟨.str (Txt.sliceBy z none none (-1, uk)), H4, I5.tok c, ⟨_, rfl⟩, q⟩⟩
end
theorem passL' {X : Cx} : Passes (L2.CX X.prog X.w) X E0 := passL

section
variable {P : Program} {w : World} {K : PySem.W.Frag} {mg : Str → Option Value} {base : Heap}
/-- a def that lets nothing out, among defs that may -/
theorem okN {x qual : Str} {st : Stmt} {f : Addr} {fd : FuncData} {N ps : List Str} {k : Nat} {sp : Sp} (F : Fun K x qual st f fd) (S : FnScope N ps (defScope st)) (len : ∀ vs H Q E, sp vs H Q E → vs.length = ps.length)
    (hbody : ∀ (cdv : Value) (A : Around) (outer : List Env) (s : Shared) (H : Hp) (vs : List V) (Q : VK) (E : XK), Room k (A.deeper (envOfC qual (defScope st) s.heap.objs.size f cdv)) → sp vs H Q E →
      ∃ t, PSs (cxOf (L2.CX P w) P w K mg base N qual (defScope st) f cdv A outer s H E).nox (defBody st) t ∧ t { nx := fun _ H' => Q .non H', rt := Q } (start N vs) H) : FnOk P w K mg base (L2.CX P w) (k + 1) f fd ps sp := by
  refine F.okX S len fun cdv A outer s H vs Q E hr h => ?_
  obtain ⟨t, h1, h2⟩ := hbody cdv A outer s H vs Q E hr h
  exact ⟨t, h1.nox, h2⟩
end
/-! ### a statement and what follows, joined by a word of one's own -/
def tCut (t u : TS) : TS := fun D σ H => ∃ R : L2.St → Hp → Prop, t { D with nx := R } σ H ∧ ∀ σ' H', R σ' H' → u D σ' H'
theorem pss_cut {X : Cx} {st : Stmt} {rest : List Stmt} {t u : TS} (h1 : PS X st t) (h2 : PSs X rest u) : PSs X (st :: rest) (tCut t u) := by
  refine ⟨fun pins s σ H D I h => ?_⟩
  obtain ⟨R, h, k⟩ := h
  refine wpAny_execs_cons (thn (h1.run pins s σ H { D with nx := R } I h) fun f s1 q => ?_)
  cases f with
  | next =>
    obtain ⟨σ', H', I', q⟩ := q
    exact h2.run pins s1 σ' H' D I' (k σ' H' q)
  | ret v => exact q
  | brk => exact q
  | cont => exact q
theorem iteY {b : Bool} {A B : Prop} (h : b = true) (a : A) : if b = true then A else B := by
  rw [if_pos h]; exact a
theorem iteN {b : Bool} {A B : Prop} (h : b = false) (a : B) : if b = true then A else B := by
  rw [if_neg (by rw [h]; exact Bool.false_ne_true)]; exact a
theorem iteB {b : Bool} {A B : Prop} (h1 : b = true → A) (h2 : b = false → B) : if b = true then A else B := by
  cases b with
  | true => exact iteT (h1 rfl)
  | false => exact iteF (h2 rfl)
theorem bnt {b : Bool} (h : (!b) = true) : b = false := by cases b with | true => cases h | false => rfl
theorem bnf {b : Bool} (h : (!b) = false) : b = true := by cases b with | true => rfl | false => cases h
/-! ### readings made monotone -/
def taM (t : TA) : TA := fun σ H Q => ∃ R : List V → Hp → Prop, t σ H R ∧ ∀ vs H1, R vs H1 → Q vs H1
theorem pa_mono {X : Cx} {es : List Expr} {t : TA} (h : PA X es t) : PA X es (taM t) := ⟨fun pos pins s σ H Q I ⟨R, q, k⟩ => thn (h.run pos pins s σ H R I q) fun us s' ⟨vs, H', I', r, z⟩ => ⟨vs, H', I', r, k vs H' z⟩⟩
def teM (t : TE) : TE := fun σ H Q => ∃ R : VK, t σ H R ∧ ∀ v H1, R v H1 → Q v H1
theorem pe_mono {X : Cx} {e : Expr} {t : TE} (h : PE X e t) : PE X e (teM t) := ⟨fun pins s σ H Q I ⟨R, q, k⟩ => thn (h.run pins s σ H R I q) fun u s' ⟨v, H', I', r, z⟩ => ⟨v, H', I', r, k v H' z⟩⟩
/-! ### a new object: the heap behind it as a letter -/
def New (H : Hp) (p : Addr) (o : HO) (H' : Hp) : Prop := H p = none ∧ H' = upd H p o
theorem Same.at {H H' : Hp} {b : Addr} {o : HO} (s : Same H H') (h : H b = some o) : H' b = some o := s b o h
section
variable {H H' : Hp} {p b : Addr} {o u : HO}
theorem New.same (n : New H p o H') : Same H H' := fun b u e => by
  obtain ⟨h, rfl⟩ := n
  rw [upd_ne (ne_of_none e h)]
  exact e
theorem New.at (n : New H p o H') : H' p = some o := by
  obtain ⟨h, rfl⟩ := n
  exact upd_same
theorem New.ne (n : New H p o H') (h : H b = some u) : b ≠ p := ne_of_none h n.1
theorem New.none (n : New H p o H') (h : H' b = none) : H b = none := n.same.free h
theorem new_of (h : H p = none) : New H p o (upd H p o) := ⟨h, rfl⟩
end
section
variable {X : Cx} {a b e : Expr} {ta tb te : TE} {pos : Pos} {t : TA} {es : List Expr}
theorem PE.imp {t t' : TE} (h : PE X e t) (i : ∀ σ H Q, t' σ H Q → t σ H Q) : PE X e t' := ⟨fun pins s σ H Q I q => h.run pins s σ H Q I (i σ H Q q)⟩
theorem OpR.imp {f : Value → Value → Sem Value} {r r' : R2} (h : OpR X f r) (i : ∀ x y H Q, r' x y H Q → r x y H Q) : OpR X f r' := fun pins s σ H x y v u Q I rx ry q => h pins s σ H x y v u Q I rx ry (i _ _ _ _ q)
theorem CallR.imp {f : Value} {r r' : List V → Hp → VK → Prop} (h : CallR X f r) (i : ∀ xs H Q, r' xs H Q → r xs H Q) : CallR X f r' := fun pins s σ H xs us Q I rx q => h pins s σ H xs us Q I rx (i _ _ _ q)
theorem SlR.imp {r r' : V → Option Int → Option Int → Hp → VK → Prop} (h : SlR X r) (i : ∀ x l u H Q, r' x l u H Q → r x l u H Q) : SlR X r' := fun pins s σ H x v vl vu lo hi sl Q I rx hs pl pu q => h pins s σ H x v vl vu lo hi sl Q I rx hs pl pu (i _ _ _ _ _ q)
def tTupN (t : TA) : TE := fun σ H Q => t σ H fun xs H1 => xs.length ≤ sizeLine ∧ ∀ p H', New H1 p (.tup xs) H' → Q (.ref p) H'
def tLstN (t : TA) : TE := fun σ H Q => t σ H fun xs H1 => xs.length ≤ sizeLine ∧ ∀ p H', New H1 p (.lst xs) H' → Q (.ref p) H'
theorem pe_tupN {x1} (h : PA X es t) : PE X (.Tuple es x1 pos) (tTupN t) := by
  refine ⟨fun pins s σ H Q I hq => ?_⟩
  refine wpAny_Tuple_spliced (thn (h.run pos pins s σ H _ I hq) fun us s1 ⟨xs, H1, I1, r, z, q⟩ => ⟨by rw [← r.length]; exact z, ?_⟩)
  have hf : H1 s1.heap.objs.size = none := I1.hok.fresh (Nat.le_refl _)
  refine ⟨.ref s1.heap.objs.size, upd H1 s1.heap.objs.size (.tup xs), I1.laid (t' := s1.toks) (fun b u e => Heap.get?_push_of_some _ e) (Nat.le_refl _) ?_, rfl, q _ _ (new_of hf)⟩
  exact ⟨z, us, r, ⟨_, Heap.get?_push_size _ rfl, rfl, _, rfl⟩⟩
theorem pe_lstN (h : PA X es t) : PE X (.List es pos) (tLstN t) := by
  refine ⟨fun pins s σ H Q I hq => ?_⟩
  refine wpAny_List_spliced (thn (h.run pos pins s σ H _ I hq) fun us s1 ⟨xs, H1, I1, r, z, q⟩ => ⟨by rw [← r.length]; exact z, ?_⟩)
  have hf : H1 s1.heap.objs.size = none := I1.hok.fresh (Nat.le_refl _)
  refine ⟨.ref s1.heap.objs.size, upd H1 s1.heap.objs.size (.lst xs), I1.laid (t' := s1.toks) (fun b u e => Heap.get?_push_of_some _ e) (Nat.le_refl _) ?_, rfl, q _ _ (new_of hf)⟩
  exact ⟨z, us, 0, r, Heap.get?_push_size _ rfl⟩
def rCatN : R2 := fun x y H Q => ∃ l b xs zs, x = .ref l ∧ y = .ref b ∧ H l = some (.lst xs) ∧ H b = some (.lst zs) ∧ xs.length + zs.length ≤ sizeLine ∧ ∀ p H', New H p (.lst (xs ++ zs)) H' → Q (.ref p) H'
theorem op_catN : OpR X (binaryOp .Add) rCatN := OpR.imp op_cat fun x y H Q ⟨l, b, xs, zs, h1, h2, h3, h4, h5, q⟩ => ⟨l, b, xs, zs, h1, h2, h3, h4, h5, fun p hp => q p _ (new_of hp)⟩
theorem call_list_ofN : CallR X (.type "list") (fun xs H Q => ∃ p ys, xs = [.ref p] ∧ (SqL X.K H p ys ∨ SqT X.K H p ys) ∧ ∀ l H', New H l (.lst ys) H' → Q (.ref l) H') :=
  CallR.imp call_list_of fun xs H Q ⟨p, ys, h1, h2, q⟩ => ⟨p, ys, h1, h2, fun l hl => q l _ (new_of hl)⟩
def rSlLN (K : PySem.W.Frag) : V → Option Int → Option Int → Hp → VK → Prop := fun x lo hi H Q => ∃ a xs, x = .ref a ∧ SqL K H a xs ∧ ∀ p H', New H p (.lst (cutV xs lo hi)) H' → Q (.ref p) H'
theorem sl_listN : SlR X (rSlLN X.K) := SlR.imp sl_list fun x l u H Q ⟨a, xs, h1, h2, q⟩ => ⟨a, xs, h1, h2, fun p hp => q p _ (new_of hp)⟩
end

/-! ### data that == takes: its depth -/
def Lay (n : Nat) (d : PyData) : Prop := d.canLay0 = true ∧ d.depth ≤ n
theorem lay_all {n : Nat} : ∀ {ds : List PyData}, (∀ d ∈ ds, Lay n d) → PyData.canLayAll0 ds = true ∧ PyData.depthAll ds ≤ n
  | [], _ => by simp [PyData.canLayAll0, PyData.depthAll]
  | d :: ds, h => by
    have h1 := lay_all (ds := ds) fun x hx => h x (List.mem_cons_of_mem _ hx)
    have h2 := h d (List.mem_cons_self ..)
    simp only [PyData.canLayAll0, PyData.depthAll, h1.1, h2.1]
    refine ⟨rfl, ?_⟩
    have := h1.2
    have := h2.2
    omega
theorem lay_list {n : Nat} {ds : List PyData} (h : ∀ d ∈ ds, Lay n d) : Lay (n + 1) (.list ds) := by
  obtain ⟨h1, h2⟩ := lay_all h
  refine ⟨by simp only [PyData.canLay0]; exact h1, ?_⟩
  simp only [PyData.depth]
  omega
theorem lay_tuple {n : Nat} {ds : List PyData} (h : ∀ d ∈ ds, Lay n d) : Lay (n + 1) (.tuple ds) := by
  obtain ⟨h1, h2⟩ := lay_all h
  refine ⟨by simp only [PyData.canLay0]; exact h1, ?_⟩
  simp only [PyData.depth]
  omega
theorem lay_int (i : Int) : Lay 1 (.int i) := ⟨by simp [PyData.canLay0], by simp [PyData.depth]⟩
theorem lay_str {i : Str} (h : PyData.strOk i = true) : Lay 1 (.str i) := ⟨by simpa [PyData.canLay0] using h, by simp [PyData.depth]⟩
theorem lay_bool (i : Bool) : Lay 1 (.bool i) := ⟨by simp [PyData.canLay0], by simp [PyData.depth]⟩
theorem shaped_of {n : Nat} {d : PyData} (h : Lay n d) (hn : n ≤ 64) : SeqAt.shaped d = true := by
  unfold SeqAt.shaped
  rw [Bool.and_eq_true]
  exact ⟨h.1, decide_eq_true (Nat.le_trans h.2 hn)⟩
theorem dpAll_ints {K : PySem.W.Frag} {H : Hp} : ∀ ns : List Int, DpAll K H (ns.map V.int) (ns.map PyData.int)
  | [] => .nil
  | n :: ns => .cons (.int n) (dpAll_ints ns)
theorem shaped_ints (ns : List Int) : SeqAt.shaped (.list (ns.map PyData.int)) = true := shaped_of (lay_list (n := 1) fun d hd => by
  obtain ⟨i, _, rfl⟩ := List.mem_map.mp hd
  exact lay_int i) (by decide)
theorem shaped_nil : SeqAt.shaped (.list []) = true := shaped_ints []
theorem eqv_nil : ∀ ds : List PyData, PyData.eqv (.list ds) (.list []) = ds.isEmpty
  | [] => by simp [PyData.eqv, PyData.eqvAll]
  | d :: ds => by simp [PyData.eqv, PyData.eqvAll]
/-- xs == [], xs != [], whatever stands in xs -/
def rEqNil (neg : Bool) : R2 := fun x y H Q => ∃ l b, ∃ xs : List V, x = .ref l ∧ y = .ref b ∧ H l = some (.lst xs) ∧ H b = some (.lst []) ∧ Q (.bl (neg ^^ xs.isEmpty)) H
theorem nil_all {xs : List V} {its ity : List Value} (r : Vals xs its) (r2 : Vals [] ity) (h : xs = []) : its.toArray.size = ity.toArray.size ∧ (List.range its.toArray.size).all (fun _ => true) = true := by
  subst h
  cases r
  cases r2
  exact ⟨rfl, rfl⟩
theorem op_eqNil {X : Cx} (hu : X.A.units + 64 < cLine) : OpR X (compareOp .Eq) (rEqNil false) := by
  intro pins s σ H x y v u Q I rx ry h
  obtain ⟨l, b, xs, rfl, rfl, h1, h2, q⟩ := h
  cases rx
  cases ry
  obtain ⟨its, r, p, _⟩ := I.list (SqL.of h1)
  obtain ⟨ity, r2, p2, _⟩ := I.list (SqL.of h2)
  have hu' : X.A.units < cLine := by omega
  cases xs with
  | nil =>
    obtain ⟨e1, e2⟩ := nil_all r r2 rfl
    refine SeqAt.eq_listAt (e := fun _ => true) p.isList p2.isList e1 hu' (fun j j1 _ => ?_) (by rw [e2]; exact ⟨.bl true, H, I, rfl, q⟩)
    cases r
    exact absurd j1 (Nat.not_lt_zero _)
  | cons a t =>
    refine SeqAt.eq_list_lengthsAt p.isList p2.isList ?_ hu' ⟨.bl false, H, I, rfl, q⟩
    cases r
    cases r2
    rfl
theorem op_neNil {X : Cx} (hu : X.A.units + 64 < cLine) : OpR X (compareOp .NotEq) (rEqNil true) := by
  intro pins s σ H x y v u Q I rx ry h
  obtain ⟨l, b, xs, rfl, rfl, h1, h2, q⟩ := h
  cases rx
  cases ry
  obtain ⟨its, r, p, _⟩ := I.list (SqL.of h1)
  obtain ⟨ity, r2, p2, _⟩ := I.list (SqL.of h2)
  have hu' : X.A.units < cLine := by omega
  cases xs with
  | nil =>
    obtain ⟨e1, e2⟩ := nil_all r r2 rfl
    refine SeqAt.RcNeAt.lists (e := fun _ => true) p.isList p2.isList e1 hu' (fun j j1 _ => ?_) _ _ _ _ (by rw [e2]; exact ⟨.bl false, H, I, rfl, q⟩)
    cases r
    exact absurd j1 (Nat.not_lt_zero _)
  | cons a t =>
    refine SeqAt.RcNeAt.lists_lengths p.isList p2.isList ?_ hu' _ _ _ _ ⟨.bl true, H, I, rfl, q⟩
    cases r
    cases r2
    rfl

/-! ### the drawing state: its footprint F, and what is left alone -/
abbrev Fp := Addr → Prop
def Own (st l0 l1 : Addr) : Fp := fun b => b = st ∨ b = l0 ∨ b = l1
/-- from (F, H) to (F', H'): what was tracked outside of F stands; F' has grown by new objects alone -/
structure Fr (F : Fp) (H : Hp) (F' : Fp) (H' : Hp) : Prop where
  keep : ∀ b o, H b = some o → ¬ F b → H' b = some o
  grow : ∀ b, F' b → F b ∨ H b = none
  free : ∀ b, H' b = none → H b = none
theorem upd_free {H : Hp} {p b : Addr} {o : HO} (h : L2.upd H p o b = none) : H b = none := by
  by_cases e : b = p
  · subst e
    rw [upd_same] at h
    cases h
  · rw [upd_ne e] at h
    exact h
/-- o stands at b, outside of F -/
def Out (F : Fp) (H : Hp) (b : Addr) (o : HO) : Prop := H b = some o ∧ ¬ F b
structure StAt (H : Hp) (F : Fp) (st : Addr) (n : Nat) : Prop where
  ex : ∃ (l0 l1 : Addr) (cs ss : List Int) (c : Int), F = Own st l0 l1 ∧ st ≠ l0 ∧ st ≠ l1 ∧ l0 ≠ l1 ∧ H st = some (.lst [.ref l0, .ref l1, .int c]) ∧ H l0 = some (.lst (cs.map V.int)) ∧
    H l1 = some (.lst (ss.map V.int)) ∧ 0 < ss.length ∧ 0 ≤ c ∧ c ≤ n
section
variable {F F' F'' : Fp} {H H' H'' : Hp} {b p st : Addr} {o u : HO} {n m : Nat}
theorem Fr.refl (F : Fp) (H : Hp) : Fr F H F H := ⟨fun _ _ h _ => h, fun _ h => .inl h, fun _ h => h⟩
theorem Fr.out (f : Fr F H F' H') (h : Out F H b o) : Out F' H' b o :=
  ⟨f.keep b o h.1 h.2, fun z => (f.grow b z).elim h.2 fun e => by rw [h.1] at e; cases e⟩
theorem Fr.trans (f : Fr F H F' H') (g : Fr F' H' F'' H'') : Fr F H F'' H'' := by
  refine ⟨fun b o h n => ((g.out (f.out ⟨h, n⟩)).1), fun b z => ?_, fun b h => f.free b (g.free b h)⟩
  rcases g.grow b z with h | h
  · exact f.grow b h
  · by_cases hb : F b
    · exact .inl hb
    · cases e : H b with
      | none => exact .inr rfl
      | some o => rw [f.keep b o e hb] at h; cases h
theorem Fr.new (h : H p = none) : Fr F H F (upd H p o) := ⟨fun b u e _ => by rw [upd_ne (ne_of_none e h)]; exact e, fun _ z => .inl z, fun _ z => upd_free z⟩
/-- an object that was not there at the start may change -/
theorem Fr.mut (f : Fr F H F' H') (h : H p = none) : Fr F H F' (upd H' p o) := ⟨fun b u e nf => by rw [upd_ne (ne_of_none e h)]; exact f.keep b u e nf, f.grow, fun b z => f.free b (upd_free z)⟩
theorem Fr.none (f : Fr F H F' H') (hF : ¬ F p) (h : H' p = none) : H p = none := by
  cases e : H p with
  | none => rfl
  | some o => rw [f.keep p o e hF] at h; cases h
theorem StAt.dom (s : StAt H F st n) (h : F b) : ∃ o, H b = some o := by
  obtain ⟨l0, l1, cs, ss, c, rfl, _, _, _, h1, h2, h3, _⟩ := s.ex
  rcases h with rfl | rfl | rfl
  · exact ⟨_, h1⟩
  · exact ⟨_, h2⟩
  · exact ⟨_, h3⟩
theorem StAt.nf (s : StAt H F st n) (h : H b = none) : ¬ F b := fun z => by
  obtain ⟨o, e⟩ := s.dom z
  rw [h] at e
  cases e
theorem StAt.upd (s : StAt H F st n) (h : ¬ F p) : StAt (L2.upd H p o) F st n := by
  obtain ⟨l0, l1, cs, ss, c, rfl, a1, a2, a3, h1, h2, h3, r⟩ := s.ex
  exact ⟨l0, l1, cs, ss, c, rfl, a1, a2, a3, by rw [upd_ne fun e => h (.inl e.symm)]; exact h1, by rw [upd_ne fun e => h (.inr (.inl e.symm))]; exact h2, by rw [upd_ne fun e => h (.inr (.inr e.symm))]; exact h3, r⟩
theorem StAt.new (s : StAt H F st n) (h : H p = none) : StAt (L2.upd H p o) F st n := s.upd (s.nf h)
theorem StAt.mono (s : StAt H F st n) (h : n ≤ m) : StAt H F st m := by
  obtain ⟨l0, l1, cs, ss, c, e, a1, a2, a3, h1, h2, h3, h4, h5, h6⟩ := s.ex
  exact ⟨l0, l1, cs, ss, c, e, a1, a2, a3, h1, h2, h3, h4, h5, by omega⟩
theorem Out.upd (h : Out F H b o) (ne : b ≠ p) : Out F (L2.upd H p u) b o := ⟨by rw [upd_ne ne]; exact h.1, h.2⟩
theorem Out.new (h : Out F H b o) (np : H p = none) : Out F (L2.upd H p u) b o := h.upd (ne_of_none h.1 np)
theorem StAt.made (s : StAt H F st n) (h : H p = none) : Out F (L2.upd H p o) p o := ⟨upd_same, s.nf h⟩
theorem Fr.same (s : Same H H') : Fr F H F H' := ⟨fun b o h _ => s b o h, fun _ h => .inl h, fun _ h => s.free h⟩
theorem StAt.same (s : StAt H F st n) (e : Same H H') : StAt H' F st n := by
  obtain ⟨l0, l1, cs, ss, c, rfl, a1, a2, a3, h1, h2, h3, r⟩ := s.ex
  exact ⟨l0, l1, cs, ss, c, rfl, a1, a2, a3, e _ _ h1, e _ _ h2, e _ _ h3, r⟩
theorem New.fr (e : New H p o H') : Fr F H F H' := Fr.same e.same
theorem New.sta (e : New H p o H') (s : StAt H F st n) : StAt H' F st n := s.same e.same
theorem New.out (e : New H p o H') (s : StAt H F st n) : Out F H' p o := ⟨e.at, s.nf e.1⟩
theorem Out.here (h : ¬ F p) : Out F (L2.upd H p o) p o := ⟨upd_same, h⟩
end

/-! ### _law_start, _law_draw: their promises -/
def spStart (K : PySem.W.Frag) : Sp := fun vs H Q _ => ∃ (a : Addr) (ns : List Int), vs = [.ref a] ∧ SqL K H a (ns.map V.int) ∧ ns.length ≤ 63 ∧
  ∀ (st : Addr) (F : Fp) (H' : Hp), StAt H' F st 0 → Same H H' → (∀ b, F b → H b = none) → Q (.ref st) H'
def spDraw : Sp := fun vs H Q _ => ∃ (F : Fp) (st : Addr) (n : Nat) (size : Int), vs = [.ref st, .int size] ∧ StAt H F st n ∧ n < 2 ^ 40 ∧ 0 < size ∧ size < 2 ^ 200 ∧
  ∀ (d : Int) (F' : Fp) (H' : Hp), 0 ≤ d → d < size → StAt H' F' st (n + 1) → Fr F H F' H' → Q (.int d) H'
theorem spDraw.call {F : Fp} {H : Hp} {st : Addr} {n : Nat} {size : Int} {Q : VK} {E : XK} (s : StAt H F st n) (hn : n < 2 ^ 40) (h0 : 0 < size) (h1 : size < 2 ^ 200)
    (k : ∀ (d : Int) (F' : Fp) (H' : Hp), 0 ≤ d → d < size → StAt H' F' st (n + 1) → Fr F H F' H' → Q (.int d) H') : spDraw [.ref st, .int size] H Q E := ⟨F, st, n, size, rfl, s, hn, h0, h1, k⟩
/-- a law's own promise -/
def spLaw (K : PySem.W.Frag) : Sp := fun vs H Q _ => ∃ (a : Addr) (ns : List Int), vs = [.ref a] ∧ SqL K H a (ns.map V.int) ∧ ns.length ≤ 63 ∧ ∀ H', Q (.bl true) H'
end Xl

local macro_rules | `(tactic| walk_at "out") => `(tactic| (first | assumption | (refine Xl.Fr.out (by assumption) ?_; walk_at "out")))
local macro_rules | `(tactic| walk_at "at") => `(tactic| (first | assumption | exact And.left (by assumption) | exact Xl.New.at (by assumption) | (refine Xl.Same.at (by first | assumption | exact Xl.New.same (by assumption)) ?_; walk_at "at") | exact And.left (show Xl.Out _ _ _ _ by walk_at "out")))
local macro_rules | `(tactic| walk_at "same") => `(tactic| (first | assumption | exact Xl.New.same (by assumption) | (refine L2.Same.trans ?_ (by first | assumption | exact Xl.New.same (by assumption)); walk_at "same") | exact L2.Same.refl _))
local macro_rules | `(tactic| walk_at "fr") => `(tactic| (first | assumption | exact Xl.Fr.refl _ _ | (refine Xl.Fr.trans ?_ (by assumption); walk_at "fr")))
local macro_rules | `(tactic| walk_at "rd") => `(tactic| (repeat (first
  | (refine ⟨_, rfl, ?_⟩) | (refine ⟨_, _, rfl, rfl, ?_⟩) | (refine ⟨_, _, _, _, rfl, rfl, L2.SqL.of (by walk_at "at"), rfl, ?_⟩) | (refine ⟨_, _, _, _, rfl, rfl, L2.SqT.of (by walk_at "at"), rfl, ?_⟩))))

namespace Xl
open PySem L2
def top (i : Nat) : Stmt := PySem.Challenge.pw_extralink_k06_whole_ratio_script.main.body.getD i (.Pass ⟨0, 0, 0, 0⟩)
abbrev s_BadCount___init__ : Stmt := inClass (top 2) 0
abbrev s_OutOfRange___init__ : Stmt := inClass (top 3) 0
abbrev s_common_divisor : Stmt := top 8
abbrev s_Ratio___init__ : Stmt := inClass (top 9) 0
abbrev s_Ratio_top : Stmt := inClass (top 9) 2
abbrev s_Ratio_bottom : Stmt := inClass (top 9) 3
abbrev s_Ratio_sign : Stmt := inClass (top 9) 4
abbrev s_Ratio_over : Stmt := inClass (top 9) 5
abbrev s_Ratio_below : Stmt := inClass (top 9) 6
abbrev s_Ratio___neg__ : Stmt := inClass (top 9) 7
abbrev s_Ratio___add__ : Stmt := inClass (top 9) 8
abbrev s_Ratio___radd__ : Stmt := inClass (top 9) 9
abbrev s_Ratio___sub__ : Stmt := inClass (top 9) 10
abbrev s_Ratio___rsub__ : Stmt := inClass (top 9) 11
abbrev s_Ratio___mul__ : Stmt := inClass (top 9) 12
abbrev s_Ratio___rmul__ : Stmt := inClass (top 9) 13
abbrev s_Ratio___eq__ : Stmt := inClass (top 9) 14
abbrev s_Ratio___str__ : Stmt := inClass (top 9) 15
abbrev s_as_ratio : Stmt := top 11
abbrev s_least : Stmt := top 12
abbrev s_greatest : Stmt := top 13
abbrev s_start : Stmt := top 15
abbrev s_draw : Stmt := top 16
abbrev s_low : Stmt := top 17
abbrev s_plus : Stmt := top 18
abbrev s_times : Stmt := top 19
abbrev s_less : Stmt := top 20
abbrev s_is : Stmt := top 21
abbrev s_text : Stmt := top 22
abbrev s_agrees : Stmt := top 23
abbrev s_step : Stmt := top 24
abbrev s_law : Stmt := top 25
/-- what the top has left -/
structure GG (K : PySem.W.Frag) (mg : Str → Option Value) where
  c_ExtralinkError : Addr
  g_ExtralinkError : mg "ExtralinkError" = some (.ref c_ExtralinkError)
  c_BadCount : Addr
  g_BadCount : mg "BadCount" = some (.ref c_BadCount)
  c_OutOfRange : Addr
  g_OutOfRange : mg "OutOfRange" = some (.ref c_OutOfRange)
  c_Ratio : Addr
  g_Ratio : mg "Ratio" = some (.ref c_Ratio)
  a_BadCount___init__ : Addr
  fd_BadCount___init__ : FuncData
  F_BadCount___init__ : Fun K "__init__" "BadCount.__init__" s_BadCount___init__ a_BadCount___init__ fd_BadCount___init__
  a_OutOfRange___init__ : Addr
  fd_OutOfRange___init__ : FuncData
  F_OutOfRange___init__ : Fun K "__init__" "OutOfRange.__init__" s_OutOfRange___init__ a_OutOfRange___init__ fd_OutOfRange___init__
  a_common_divisor : Addr
  fd_common_divisor : FuncData
  F_common_divisor : Fun K "common_divisor" "common_divisor" s_common_divisor a_common_divisor fd_common_divisor
  m_common_divisor : mg "common_divisor" = some (.ref a_common_divisor)
  a_Ratio___init__ : Addr
  fd_Ratio___init__ : FuncData
  F_Ratio___init__ : FunD K "__init__" "Ratio.__init__" (defArgs s_Ratio___init__) (defBody s_Ratio___init__) (defScope s_Ratio___init__) [.int 1] [] a_Ratio___init__ fd_Ratio___init__
  a_Ratio_top : Addr
  fd_Ratio_top : FuncData
  F_Ratio_top : Fun K "top" "Ratio.top" s_Ratio_top a_Ratio_top fd_Ratio_top
  a_Ratio_bottom : Addr
  fd_Ratio_bottom : FuncData
  F_Ratio_bottom : Fun K "bottom" "Ratio.bottom" s_Ratio_bottom a_Ratio_bottom fd_Ratio_bottom
  a_Ratio_sign : Addr
  fd_Ratio_sign : FuncData
  F_Ratio_sign : Fun K "sign" "Ratio.sign" s_Ratio_sign a_Ratio_sign fd_Ratio_sign
  a_Ratio_over : Addr
  fd_Ratio_over : FuncData
  F_Ratio_over : Fun K "over" "Ratio.over" s_Ratio_over a_Ratio_over fd_Ratio_over
  a_Ratio_below : Addr
  fd_Ratio_below : FuncData
  F_Ratio_below : Fun K "below" "Ratio.below" s_Ratio_below a_Ratio_below fd_Ratio_below
  a_Ratio___neg__ : Addr
  fd_Ratio___neg__ : FuncData
  F_Ratio___neg__ : Fun K "__neg__" "Ratio.__neg__" s_Ratio___neg__ a_Ratio___neg__ fd_Ratio___neg__
  a_Ratio___add__ : Addr
  fd_Ratio___add__ : FuncData
  F_Ratio___add__ : Fun K "__add__" "Ratio.__add__" s_Ratio___add__ a_Ratio___add__ fd_Ratio___add__
  a_Ratio___radd__ : Addr
  fd_Ratio___radd__ : FuncData
  F_Ratio___radd__ : Fun K "__radd__" "Ratio.__radd__" s_Ratio___radd__ a_Ratio___radd__ fd_Ratio___radd__
  a_Ratio___sub__ : Addr
  fd_Ratio___sub__ : FuncData
  F_Ratio___sub__ : Fun K "__sub__" "Ratio.__sub__" s_Ratio___sub__ a_Ratio___sub__ fd_Ratio___sub__
  a_Ratio___rsub__ : Addr
  fd_Ratio___rsub__ : FuncData
  F_Ratio___rsub__ : Fun K "__rsub__" "Ratio.__rsub__" s_Ratio___rsub__ a_Ratio___rsub__ fd_Ratio___rsub__
  a_Ratio___mul__ : Addr
  fd_Ratio___mul__ : FuncData
  F_Ratio___mul__ : Fun K "__mul__" "Ratio.__mul__" s_Ratio___mul__ a_Ratio___mul__ fd_Ratio___mul__
  a_Ratio___rmul__ : Addr
  fd_Ratio___rmul__ : FuncData
  F_Ratio___rmul__ : Fun K "__rmul__" "Ratio.__rmul__" s_Ratio___rmul__ a_Ratio___rmul__ fd_Ratio___rmul__
  a_Ratio___eq__ : Addr
  fd_Ratio___eq__ : FuncData
  F_Ratio___eq__ : Fun K "__eq__" "Ratio.__eq__" s_Ratio___eq__ a_Ratio___eq__ fd_Ratio___eq__
  a_Ratio___str__ : Addr
  fd_Ratio___str__ : FuncData
  F_Ratio___str__ : Fun K "__str__" "Ratio.__str__" s_Ratio___str__ a_Ratio___str__ fd_Ratio___str__
  a_as_ratio : Addr
  fd_as_ratio : FuncData
  F_as_ratio : Fun K "as_ratio" "as_ratio" s_as_ratio a_as_ratio fd_as_ratio
  m_as_ratio : mg "as_ratio" = some (.ref a_as_ratio)
  a_least : Addr
  fd_least : FuncData
  F_least : Fun K "least" "least" s_least a_least fd_least
  m_least : mg "least" = some (.ref a_least)
  a_greatest : Addr
  fd_greatest : FuncData
  F_greatest : Fun K "greatest" "greatest" s_greatest a_greatest fd_greatest
  m_greatest : mg "greatest" = some (.ref a_greatest)
  a_start : Addr
  fd_start : FuncData
  F_start : Fun K "_law_start" "_law_start" s_start a_start fd_start
  m_start : mg "_law_start" = some (.ref a_start)
  a_draw : Addr
  fd_draw : FuncData
  F_draw : Fun K "_law_draw" "_law_draw" s_draw a_draw fd_draw
  m_draw : mg "_law_draw" = some (.ref a_draw)
  a_low : Addr
  fd_low : FuncData
  F_low : Fun K "_law_low" "_law_low" s_low a_low fd_low
  m_low : mg "_law_low" = some (.ref a_low)
  a_plus : Addr
  fd_plus : FuncData
  F_plus : Fun K "_law_plus" "_law_plus" s_plus a_plus fd_plus
  m_plus : mg "_law_plus" = some (.ref a_plus)
  a_times : Addr
  fd_times : FuncData
  F_times : Fun K "_law_times" "_law_times" s_times a_times fd_times
  m_times : mg "_law_times" = some (.ref a_times)
  a_less : Addr
  fd_less : FuncData
  F_less : Fun K "_law_less" "_law_less" s_less a_less fd_less
  m_less : mg "_law_less" = some (.ref a_less)
  a_is : Addr
  fd_is : FuncData
  F_is : Fun K "_law_is" "_law_is" s_is a_is fd_is
  m_is : mg "_law_is" = some (.ref a_is)
  a_text : Addr
  fd_text : FuncData
  F_text : Fun K "_law_text" "_law_text" s_text a_text fd_text
  m_text : mg "_law_text" = some (.ref a_text)
  a_agrees : Addr
  fd_agrees : FuncData
  F_agrees : Fun K "_law_agrees" "_law_agrees" s_agrees a_agrees fd_agrees
  m_agrees : mg "_law_agrees" = some (.ref a_agrees)
  a_step : Addr
  fd_step : FuncData
  F_step : Fun K "_law_step" "_law_step" s_step a_step fd_step
  m_step : mg "_law_step" = some (.ref a_step)
  a_law : Addr
  fd_law : FuncData
  F_law : Fun K "law" "law" s_law a_law fd_law
  m_law : mg "law" = some (.ref a_law)
  g_DIGITS : ∃ u, mg "DIGITS" = some u ∧ RelV (.str "0123456789") u
  g_MOST_DIGITS : ∃ u, mg "MOST_DIGITS" = some u ∧ RelV (.int 9) u
  z_ValueError : mg "ValueError" = none
  z_abs : mg "abs" = none
  z_classmethod : mg "classmethod" = none
  z_int : mg "int" = none
  z_isinstance : mg "isinstance" = none
  z_len : mg "len" = none
  z_list : mg "list" = none
  z_min : mg "min" = none
  z_property : mg "property" = none
  z_range : mg "range" = none
  z_str : mg "str" = none
  ei_ExtralinkError : ∃ mc, ClX.CRead K c_ExtralinkError mc ∧ PySem.W.findCls K (.ref c_ExtralinkError) mc "__init__" = some (.val (.builtin "ValueError.__init__"))
  ox_BadCount : OexC K c_BadCount
  in_BadCount : PySem.W.findIn K (.ref c_BadCount) "__init__" = some (some (.ref a_BadCount___init__)) ∧ PySem.W.typeIn K (.ref a_BadCount___init__) = some (.type "function")
  no_BadCount_count : PySem.W.findIn K (.ref c_BadCount) "count" = some none
  xf_BadCount : XfC K c_BadCount
  te_BadCount : PySem.W.exmOne K (.ref c_BadCount) (.ref c_BadCount) = some true
  ox_OutOfRange : OexC K c_OutOfRange
  in_OutOfRange : PySem.W.findIn K (.ref c_OutOfRange) "__init__" = some (some (.ref a_OutOfRange___init__)) ∧ PySem.W.typeIn K (.ref a_OutOfRange___init__) = some (.type "function")
  no_OutOfRange_value : PySem.W.findIn K (.ref c_OutOfRange) "value" = some none
  xf_OutOfRange : XfC K c_OutOfRange
  te_OutOfRange : PySem.W.exmOne K (.ref c_OutOfRange) (.ref c_OutOfRange) = some true
  cl_Ratio : Cls K c_Ratio
  mk_Ratio : Mk K c_Ratio a_Ratio___init__
  no_Ratio_upper : NoAttr K c_Ratio "upper"
  no_Ratio_lower : NoAttr K c_Ratio "lower"
  me_Ratio___init__ : Meth K c_Ratio "__init__" a_Ratio___init__
  me_Ratio_over : Meth K c_Ratio "over" a_Ratio_over
  me_Ratio_below : Meth K c_Ratio "below" a_Ratio_below
  me_Ratio___neg__ : Meth K c_Ratio "__neg__" a_Ratio___neg__
  me_Ratio___add__ : Meth K c_Ratio "__add__" a_Ratio___add__
  me_Ratio___radd__ : Meth K c_Ratio "__radd__" a_Ratio___radd__
  me_Ratio___sub__ : Meth K c_Ratio "__sub__" a_Ratio___sub__
  me_Ratio___rsub__ : Meth K c_Ratio "__rsub__" a_Ratio___rsub__
  me_Ratio___mul__ : Meth K c_Ratio "__mul__" a_Ratio___mul__
  me_Ratio___rmul__ : Meth K c_Ratio "__rmul__" a_Ratio___rmul__
  me_Ratio___eq__ : Meth K c_Ratio "__eq__" a_Ratio___eq__
  me_Ratio___str__ : Meth K c_Ratio "__str__" a_Ratio___str__
  pr_Ratio_top : ∃ p, PropOf K c_Ratio "top" p a_Ratio_top
  pr_Ratio_bottom : ∃ p, PropOf K c_Ratio "bottom" p a_Ratio_bottom
  pr_Ratio_sign : ∃ p, PropOf K c_Ratio "sign" p a_Ratio_sign
  ty_Ratio : PySem.W.findIn K (.ref c_Ratio) "__class__" = some (some (.builtin "object.__class__")) ∧ PySem.W.specialIn K (.builtin "object.__class__") "__get__" = some (some (.builtin "getset_descriptor.__get__")) ∧ PySem.W.takesIn K (.builtin "object.__class__") = some true ∧ PySem.W.mroIn K c_Ratio (.type "object") = some true
  isa_Ratio_Ratio : PySem.W.kitOne K (.ref c_Ratio) (.ref c_Ratio) = some true
  isa_int_Ratio : PySem.W.kitOne K (.type "int") (.ref c_Ratio) = some false
  sf_Ratio : PySem.W.selfFirst K c_Ratio = true
  ot_Ratio___add___int : ∃ fo ro, PySem.W.findIn K (.type "int") "__add__" = some fo ∧ PySem.W.findIn K (.type "int") "__radd__" = some ro ∧ PySem.W.subIn K (.type "int") (.ref c_Ratio) = some false
  ot_Ratio___sub___int : ∃ fo ro, PySem.W.findIn K (.type "int") "__sub__" = some fo ∧ PySem.W.findIn K (.type "int") "__rsub__" = some ro ∧ PySem.W.subIn K (.type "int") (.ref c_Ratio) = some false
  ot_Ratio___mul___int : ∃ fo ro, PySem.W.findIn K (.type "int") "__mul__" = some fo ∧ PySem.W.findIn K (.type "int") "__rmul__" = some ro ∧ PySem.W.subIn K (.type "int") (.ref c_Ratio) = some false
  nm_Ratio : ∃ cd, PySem.W.clsIn K c_Ratio = some cd ∧ cd.mro = [.ref c_Ratio, .type "object"]
  ni_Ratio_add : PySem.W.findIn K (.ref c_Ratio) "__iadd__" = some none
  no_Ratio_add : PySem.W.findIn K (.type "object") "__iadd__" = some none
  si_Ratio : PySem.W.subIn K (.ref c_Ratio) (.type "int") = some false
end Xl

namespace Xl
open PySem L2
section
variable {P : Program} {w : World} {K : PySem.W.Frag} {mg : Str → Option Value} {base : Heap}
theorem int_at {ns : List Int} {i : Nat} {x : V} (h : (ns.map V.int)[i]? = some x) : ∃ z, ns[i]? = some z ∧ x = V.int z := by
  rw [List.getElem?_map] at h
  cases e : ns[i]? with
  | none => rw [e] at h; cases h
  | some z => rw [e] at h; exact ⟨z, rfl, (Option.some.inj h).symm⟩
theorem small_sz {n : Nat} (h : n ≤ 1000000) : n ≤ sizeLine := Nat.le_trans h (by decide)
theorem small_szlt {n : Nat} (h : n ≤ 1000000) : n < sizeLine := Nat.lt_of_le_of_lt h (by decide)
theorem ixN_at {n j : Nat} (h : j < n) : ixN n (j : Int) = some j := by
  unfold ixN
  rw [if_pos (by omega), if_pos (by omega), Int.toNat_natCast]
abbrev N_start : List Str := ["_law_script", "_law_cell"]
theorem sc_start : FnScope N_start ["_law_script"] (defScope s_start) := ⟨rfl, rfl, rfl, by decide +kernel, rfl, by decide +kernel, by decide +kernel⟩
theorem ok_start (T : GG K mg) : FnOk P w K mg base (L2.CX P w) 1 T.a_start T.fd_start ["_law_script"] (spStart K) := by
  refine okN T.F_start sc_start (fun vs H Q E h => ?_) (fun cdv A outer s H vs Q E hr h => ?_)
  · obtain ⟨a, ns, rfl, _⟩ := h
    rfl
  · obtain ⟨a, ns, rfl, hS, hl, k⟩ := h
    refine ⟨_, (pss_one (ps_ret (pe_lstN (pa_cons (pe_lc (own := [("_law_cell", 1)])  rfl sc_start.nd (pi_list (pv 0)) (blkOk_by (N := N_start) (sc := defScope s_start) (by decide +kernel)) (fun _ _ _ _ _ => (pg_name (i := 1) sc_start.nd rfl (Or.inl rfl)))
      (fun _ _ _ _ _ => (pts_one (pt_cmpR op_ge (pe_callB call_abs rfl T.z_abs (by decide +kernel) (pa_cons (pv 1) pa_nil)) (pe_op op_pow pe_int pe_int) (nomark _)))) (fun _ _ _ _ _ => (pe_callB call_abs rfl T.z_abs (by decide +kernel) (pa_cons (pv 1) pa_nil))))
      (pa_cons (pe_op op_catN (pe_callTy call_list_ofN rfl T.z_list (by decide +kernel) (pa_cons (pv 0) pa_nil)) (pe_lstN (pa_cons pe_int pa_nil))) (pa_cons pe_int pa_nil)))))), ?_⟩
    refine ⟨_, rfl, a, rfl, ⟨_, hS⟩, fun D hD => lc_list (K := K) (a := a) (xs := ns.map V.int) (fun i H1 => ∃ cs : List Int, cs.length ≤ i ∧ H1 D = some (.lst (cs.map V.int)) ∧ Same H H1) ?_ ?_ ?_ ?_⟩
    · exact ⟨[], Nat.le_refl _, upd_same, (new_of hD).same⟩
    · rintro i H1 _ ⟨cs, _, _, hs⟩
      exact Same.seq hs hS
    · rintro i x H1 hx ⟨cs, hc, h1, hs⟩
      obtain ⟨z, hz, rfl⟩ := int_at hx
      have hil := (List.getElem?_eq_some_iff.mp hz).1
      refine ⟨rfl, _, rfl, _, rfl, _, _, rfl, rfl, ⟨by decide, by decide, by decide⟩, _, _, rfl, rfl, _, rfl, ite2 (fun _ => ?_) (fun _ => ?_)⟩
      · refine ⟨_, rfl, _, rfl, _, h1, ?_, cs ++ [(if z < 0 then -z else z)], ?_, ?_, fun b o e => ?_⟩
        · rw [List.length_map]; exact small_szlt (by omega)
        · rw [List.length_append]; exact Nat.succ_le_succ hc
        · rw [upd_same, List.map_append]; rfl
        · rw [upd_ne (ne_of_none e hD)]; exact hs b o e
      · exact ⟨cs, Nat.le_succ_of_le hc, h1, hs⟩
    · rintro H1 ⟨cs, hc, h1, hs⟩
      refine ⟨_, rfl, a, _, rfl, .inl (Same.seq hs hS), fun l H2 n2 => ⟨(by show 1 ≤ sizeLine; decide), fun l5 H3 n3 => ?_⟩⟩
      refine ⟨l, l5, _, _, rfl, rfl, by walk_at "at", n3.at, ?_, fun l1 H4 n4 => ?_⟩
      · rw [List.length_map]; exact small_sz (show ns.length + 1 ≤ 1000000 by omega)
      refine ⟨(by show 3 ≤ sizeLine; decide), fun st H5 n5 => ?_⟩
      have hD3 : H3 D = some (.lst (cs.map V.int)) := n3.same _ _ (n2.same _ _ h1)
      have hD4 := n4.same _ _ hD3
      have d3 : D ≠ l1 := n4.ne hD3
      have d5 : D ≠ st := n5.ne hD4
      have d4 : l1 ≠ st := n5.ne n4.at
      have s5 : Same H H5 := (((hs.trans n2.same).trans n3.same).trans n4.same).trans n5.same
      refine k st (Own st D l1) _ ⟨D, l1, cs, ns ++ [5], 0, rfl, d5.symm, d4.symm, d3, n5.at, n5.same _ _ hD4, ?_, ?_, by decide, by decide⟩ s5 fun b hb => ?_
      · rw [List.map_append]; exact n5.same _ _ n4.at
      · rw [List.length_append]; exact Nat.succ_pos _
      · rcases hb with rfl | rfl | rfl
        · exact (((hs.trans n2.same).trans n3.same).trans n4.same).free n5.1
        · exact hD
        · exact ((hs.trans n2.same).trans n3.same).free n4.1
theorem F_start (T : GG K mg) : FnI P w K mg base "_law_start" 1 ["_law_script"] (spStart K) :=
  ⟨T.a_start, T.fd_start, ok_start T, T.m_start, T.F_start.kp, T.F_start.binds fun _ _ _ _ _ _ us hl => match us, hl with | [_], _ => rfl⟩

/-! ### _law_draw -/
/-- the state with the cells cs at l0, the copy ss at l1, the count c -/
structure StIn (H : Hp) (st l0 l1 : Addr) (cs ss : List Int) (c : Int) : Prop where
  n0 : st ≠ l0
  n1 : st ≠ l1
  n2 : l0 ≠ l1
  h0 : H st = some (.lst [.ref l0, .ref l1, .int c])
  h1 : H l0 = some (.lst (cs.map V.int))
  h2 : H l1 = some (.lst (ss.map V.int))
theorem draw_cell {x : Int} : 0 ≤ x % 2147483647 ∧ x % 2147483647 < 2147483647 := ⟨Int.emod_nonneg _ (by decide), Int.emod_lt_of_pos _ (by decide)⟩
theorem draw_pow {x c k m : Int} {n : Nat} (h0 : 0 ≤ x) (h1 : x < 2147483647) (h2 : 0 ≤ c) (h3 : c ≤ n) (h4 : n ≤ 2 ^ 40) (hk : 0 ≤ k) (hk2 : k < 100000) (hm : 0 ≤ m) (hm2 : m < 100000) (j : Int) (hj : 0 ≤ j) (hj2 : j < 100) : (x * k + c * m + j).natAbs < 2 ^ 64 := by
  have a1 : x * k ≤ 2147483647 * 100000 := Int.mul_le_mul (by omega) (by omega) hk (by decide)
  have a2 : 0 ≤ x * k := Int.mul_nonneg h0 hk
  have a3 : c * m ≤ 1099511627776 * 100000 := Int.mul_le_mul (by omega) (by omega) hm (by decide)
  have a4 : 0 ≤ c * m := Int.mul_nonneg h2 hm
  omega
abbrev N_draw : List Str := ["_law_state", "_law_size", "_law_cell", "_law_one", "_law_digit"]
theorem sc_draw : FnScope N_draw ["_law_state", "_law_size"] (defScope s_draw) := ⟨rfl, rfl, rfl, by decide +kernel, rfl, by decide +kernel, by decide +kernel⟩
theorem ok_draw (T : GG K mg) : FnOk P w K mg base (L2.CX P w) 1 T.a_draw T.fd_draw ["_law_state", "_law_size"] spDraw := by
  refine okN T.F_draw sc_draw (fun vs H Q E h => ?_) (fun cdv A outer s H vs Q E hr h => ?_)
  · obtain ⟨F, st, n, size, rfl, _⟩ := h
    rfl
  · obtain ⟨F, st, n, size, rfl, hst, hn, hs0, hs1, k⟩ := h
    obtain ⟨l0, l1, cs, ss, c, rfl, a1, a2, a3, h1, h2, h3, hss, hc0, hc1⟩ := hst.ex
    refine ⟨_, (pss_cons (ps_augS (pv 0) pe_int get_list pe_int ip_add set_list)
      (pss_cut (ps_while PassesOwn.never (PW.pt (pw_and (pt_cmpR (op_neNil hr.units) (pe_ix ix_list (pv 0) pe_int (fun _ _ => rfl)) (pe_lstN pa_nil) (nomark _)) (pw_and1 (pt_cmpR op_eq (pe_ix ix_list (pe_ix ix_list (pv 0) pe_int (fun _ _ => rfl)) pe_int (fun _ _ => rfl)) pe_int (nomark _)))))
        (pss_one (ps_asg (pe_slice sl_listN (pe_ix ix_list (pv 0) pe_int (fun _ _ => rfl)) (po_some pe_int) po_none) (pg_sub (pv 0) pe_int set_list))))
      (pss_cons (ps_if (pt_cmpR (op_neNil hr.units) (pe_ix ix_list (pv 0) pe_int (fun _ _ => rfl)) (pe_lstN pa_nil) (nomark _)) (pss_cons (ps_set (i := 4) sc_draw.nd rfl (Or.inl rfl) (pe_op op_mod (pe_callTy call_int1 rfl T.z_int (by decide +kernel) (pa_cons (pe_ix ix_list (pe_ix ix_list (pv 0) pe_int (fun _ _ => rfl)) pe_int (fun _ _ => rfl)) pa_nil)) (pv 1)))
        (pss_cons (ps_asg (pe_op op_fdivW (pe_ix ix_list (pe_ix ix_list (pv 0) pe_int (fun _ _ => rfl)) pe_int (fun _ _ => rfl)) (pv 1)) (pg_sub (pe_ix ix_list (pv 0) pe_int (fun _ _ => rfl)) pe_int set_list))
        (pss_one (ps_ret (pv 4))))) pss_nil)
      (pss_cons (ps_set (i := 2) sc_draw.nd rfl (Or.inl rfl) (pe_op op_mod (pe_callTy call_int1 rfl T.z_int (by decide +kernel) (pa_cons (pe_ix ix_list (pe_ix ix_list (pv 0) pe_int (fun _ _ => rfl)) (pe_op op_mod (pe_callTy call_int1 rfl T.z_int (by decide +kernel) (pa_cons (pe_ix ix_list (pv 0) pe_int (fun _ _ => rfl)) pa_nil)) (pe_callB call_len_seq rfl T.z_len PySem.boot_len (pa_cons (pe_ix ix_list (pv 0) pe_int (fun _ _ => rfl)) pa_nil))) (fun _ _ => rfl)) pa_nil)) pe_int))
      (pss_cons (ps_set (i := 3) sc_draw.nd rfl (Or.inl rfl) (pe_op op_mod (pe_callTy call_int1 rfl T.z_int (by decide +kernel) (pa_cons (pe_op op_pow (pe_op op_add (pe_op op_add (pe_op op_mul (pv 2) pe_int) (pe_op op_mul (pe_ix ix_list (pv 0) pe_int (fun _ _ => rfl)) pe_int)) pe_int) pe_int) pa_nil)) pe_int))
      (pss_one (ps_ret (pe_op op_mod (pe_op op_mod (pe_callTy call_int1 rfl T.z_int (by decide +kernel) (pa_cons (pe_op op_pow (pe_op op_add (pe_op op_add (pe_op op_mul (pv 3) pe_int) (pe_op op_mul (pe_ix ix_list (pv 0) pe_int (fun _ _ => rfl)) pe_int)) pe_int) pe_int) pa_nil)) pe_int) (pv 1))))))))), ?_⟩
    -- state[2] += 1
    refine ⟨_, rfl, st, _, _, _, rfl, rfl, SqL.of h1, rfl, _, _, rfl, rfl, st, _, 2, 2, rfl, rfl, h1, rfl, ?_⟩
    -- the cells of nought are dropped
    refine ⟨fun σ H1 => ∃ (l : Addr) (cs1 : List Int), σ = [some (.ref st), some (.int size), none, none, none] ∧ StIn H1 st l l1 cs1 ss (c + 1) ∧ Fr (Own st l0 l1) H (Own st l l1) H1,
      ⟨fun m σ H1 => ∃ (l : Addr) (cs1 : List Int), m = cs1.length ∧ σ = [some (.ref st), some (.int size), none, none, none] ∧ StIn H1 st l l1 cs1 ss (c + 1) ∧ Fr (Own st l0 l1) H (Own st l l1) H1, ⟨_, l0, cs, rfl, rfl, ⟨a1, a2, a3, upd_same, ?_, ?_⟩, ?_, fun _ z => .inl z, fun _ z => upd_free z⟩, ?_⟩, ?_⟩
    · rw [upd_ne a1.symm]; exact h2
    · rw [upd_ne a2.symm]; exact h3
    · intro b o e nb
      rw [upd_ne fun z => nb (.inl z)]; exact e
    · rintro m σ H1 ⟨l, cs1, rfl, rfl, S, fr⟩
      refine ⟨_, rfl, st, _, _, _, rfl, rfl, SqL.of S.h0, rfl, (by show 0 ≤ sizeLine; decide), fun p H2 n2 => ⟨l, p, _, rfl, rfl, n2.same _ _ S.h1, n2.at, ?_⟩⟩
      have S2 : StIn H2 st l l1 cs1 ss (c + 1) := ⟨S.n0, S.n1, S.n2, n2.same _ _ S.h0, n2.same _ _ S.h1, n2.same _ _ S.h2⟩
      have fr2 : Fr (Own st l0 l1) H (Own st l l1) H2 := fr.trans (Fr.same n2.same)
      cases cs1 with
      | nil => exact ⟨_, rfl, iteF (iteF ⟨l, [], rfl, S2, fr2⟩)⟩
      | cons z r =>
        refine ⟨_, rfl, iteT ⟨_, rfl, st, _, _, _, rfl, rfl, SqL.of S2.h0, rfl, l, _, _, V.int z, rfl, rfl, SqL.of S2.h1, at_of (j := 0) rfl rfl, rfl, _, rfl, ?_⟩⟩
        refine ite2 (fun _ => ?_) (fun _ => ⟨l, _, rfl, S2, fr2⟩)
        refine ⟨_, fun _ _ h => h, ?_⟩
        refine ⟨_, rfl, st, _, _, _, rfl, rfl, SqL.of S2.h0, rfl, _, rfl, l, _, rfl, SqL.of S2.h1, fun p3 H3 n3 => ⟨_, rfl, st, _, 0, 0, rfl, rfl, n3.same _ _ S2.h0, rfl, ?_⟩⟩
        have e1 : cutV ((z :: r).map V.int) (some 1) none = r.map V.int := by
          simp [cutV, HT.sIx]
          rw [List.take_of_length_le (by rw [List.length_map]; exact Nat.le_refl _)]
        have m1 : st ≠ p3 := n3.ne S2.h0
        have m2 : l1 ≠ p3 := n3.ne S2.h2
        refine ⟨r.length, Nat.lt_succ_self _, p3, r, rfl, rfl, ⟨m1, S2.n1, m2.symm, upd_same, ?_, ?_⟩, ?_, ?_, fun b z => fr2.free b (n3.same.free (upd_free z))⟩
        · rw [upd_ne m1.symm, ← e1]; exact n3.at
        · rw [upd_ne S2.n1.symm]; exact n3.same _ _ S2.h2
        · intro b o e nb
          have q := fr2.out ⟨e, nb⟩
          rw [upd_ne fun z => q.2 (.inl z)]
          exact n3.same _ _ q.1
        · intro b hb
          rcases hb with rfl | rfl | rfl
          · exact .inl (.inl rfl)
          · by_cases hF : Own st l0 l1 b
            · exact .inl hF
            · exact .inr (fr2.none hF n3.1)
          · exact .inl (.inr (.inr rfl))
    · rintro σ H1 ⟨l, cs1, rfl, S, fr⟩
      refine ⟨_, rfl, st, _, _, _, rfl, rfl, SqL.of S.h0, rfl, (by show 0 ≤ sizeLine; decide), fun p H2 n2 => ⟨l, p, _, rfl, rfl, n2.same _ _ S.h1, n2.at, ?_⟩⟩
      have S2 : StIn H2 st l l1 cs1 ss (c + 1) := ⟨S.n0, S.n1, S.n2, n2.same _ _ S.h0, n2.same _ _ S.h1, n2.same _ _ S.h2⟩
      have fr2 : Fr (Own st l0 l1) H (Own st l l1) H2 := fr.trans (Fr.same n2.same)
      have hc2 : c + 1 ≤ (n + 1 : Nat) := by omega
      cases cs1 with
      | cons z r =>
        refine ⟨_, rfl, iteT ⟨_, rfl, st, _, _, _, rfl, rfl, SqL.of S2.h0, rfl, l, _, _, V.int z, rfl, rfl, SqL.of S2.h1, at_of (j := 0) rfl rfl, .inl ⟨_, rfl, _, rfl, _, _, rfl, rfl, hs0, ?_⟩⟩⟩
        refine ⟨_, rfl, st, _, _, _, rfl, rfl, SqL.of S2.h0, rfl, l, _, _, V.int z, rfl, rfl, SqL.of S2.h1, at_of (j := 0) rfl rfl, _, rfl, _, _, rfl, rfl, wide_div hs0 (b := 200) (by omega) (by decide) (by decide), ?_⟩
        refine ⟨_, rfl, st, _, _, _, rfl, rfl, SqL.of S2.h0, rfl, l, _, 0, 0, rfl, rfl, S2.h1, ixN_at (by simp), _, rfl, ?_⟩
        refine k _ (Own st l l1) _ (Int.emod_nonneg _ (by omega)) (Int.emod_lt_of_pos _ hs0) ⟨l, l1, (z / size) :: r, ss, c + 1, rfl, S2.n0, S2.n1, S2.n2, ?_, ?_, ?_, hss, by omega, hc2⟩ ⟨?_, fr2.grow, fun b z => fr2.free b (upd_free z)⟩
        · rw [upd_ne S2.n0]; exact S2.h0
        · rw [upd_same]; rfl
        · rw [upd_ne S2.n2.symm]; exact S2.h2
        · intro b o e nb
          have q := fr2.out ⟨e, nb⟩
          rw [upd_ne fun z => q.2 (.inr (.inl z))]
          exact q.1
      | nil =>
        refine ⟨_, rfl, iteF ?_⟩
        -- cell
        have hlen : (0 : Int) < (ss.length : Int) := by omega
        have hm0 := Int.emod_nonneg (c + 1) (show (ss.length : Int) ≠ 0 by omega)
        have hm1 := Int.emod_lt_of_pos (c + 1) hlen
        obtain ⟨j, ej⟩ : ∃ j : Nat, (c + 1) % (ss.length : Int) = (j : Int) := ⟨((c + 1) % (ss.length : Int)).toNat, by omega⟩
        have hj : j < ss.length := by omega
        refine ⟨_, rfl, st, _, _, _, rfl, rfl, SqL.of S2.h0, rfl, _, rfl, st, _, _, _, rfl, rfl, SqL.of S2.h0, rfl, .inl ⟨_, rfl, _, rfl, st, _, _, _, rfl, rfl, SqL.of S2.h0, rfl, l1, _, rfl, .inl (SqL.of S2.h2), _, _, rfl, rfl, (by rw [List.length_map]; exact hlen),
          l1, _, _, V.int ss[j], rfl, rfl, SqL.of S2.h2, at_of (j := j) (by rw [List.length_map]; exact ej) (by rw [List.getElem?_map, List.getElem?_eq_getElem hj]; rfl), .inl ⟨_, rfl, _, _, rfl, rfl, (by show (0 : Int) < 2147483647; decide), ?_⟩⟩⟩
        obtain ⟨g0, g1⟩ := draw_cell (x := ss[j])
        -- one
        refine ⟨_, rfl, _, _, rfl, rfl, .inr ⟨by decide, by decide⟩, _, rfl, st, _, _, _, rfl, rfl, SqL.of S2.h0, rfl, _, _, rfl, rfl, .inr ⟨by decide, by decide⟩, _, _, rfl, rfl, _, _, rfl, rfl, _, _, rfl, rfl, ⟨by decide, by decide, ?_⟩, .inl ⟨_, rfl, _, _, rfl, rfl, (by show (0 : Int) < 2147483647; decide), ?_⟩⟩
        · exact draw_pow g0 g1 (by omega) hc2 (by omega) (by decide) (by decide) (by decide) (by decide) 7 (by decide) (by decide)
        obtain ⟨g2, g3⟩ := draw_cell (x := (ss[j] % 2147483647 * 48271 + (c + 1) * 69621 + 7) ^ Int.toNat 5)
        refine ⟨_, rfl, _, _, rfl, rfl, .inr ⟨by decide, by decide⟩, _, rfl, st, _, _, _, rfl, rfl, SqL.of S2.h0, rfl, _, _, rfl, rfl, .inr ⟨by decide, by decide⟩, _, _, rfl, rfl, _, _, rfl, rfl, _, _, rfl, rfl, ⟨by decide, by decide, ?_⟩, .inl ⟨_, rfl, _, _, rfl, rfl, (by show (0 : Int) < 2147483629; decide), _, rfl, _, _, rfl, rfl, hs0, ?_⟩⟩
        · exact draw_pow g2 g3 (by omega) hc2 (by omega) (by decide) (by decide) (by decide) (by decide) 13 (by decide) (by decide)
        exact k _ (Own st l l1) _ (Int.emod_nonneg _ (by omega)) (Int.emod_lt_of_pos _ hs0) ⟨l, l1, [], ss, c + 1, rfl, S2.n0, S2.n1, S2.n2, S2.h0, S2.h1, S2.h2, hss, by omega, hc2⟩ fr2
theorem F_draw (T : GG K mg) : FnI P w K mg base "_law_draw" 1 ["_law_state", "_law_size"] spDraw :=
  ⟨T.a_draw, T.fd_draw, ok_draw T, T.m_draw, T.F_draw.kp, T.F_draw.binds fun _ _ _ _ _ _ us hl => match us, hl with | [_, _], _ => rfl⟩
end
end Xl

namespace Xl
open PySem L2
theorem at_ex {α : Type} {xs : List α} {d : Int} (h0 : 0 ≤ d) (h1 : d < xs.length) : ∃ (j : Nat) (v : α), d = j ∧ j < xs.length ∧ xs[j]? = some v ∧ atI xs d = some v := by
  obtain ⟨j, rfl⟩ := Int.eq_ofNat_of_zero_le h0
  have hj : j < xs.length := by omega
  exact ⟨j, xs[j], rfl, hj, List.getElem?_eq_getElem hj, atI_nat (List.getElem?_eq_getElem hj)⟩
theorem str_app_len (x y : Str) : (x ++ y).length = x.length + y.length := by
  show (x.cps ++ y.cps).size = x.cps.size + y.cps.size
  rw [Array.size_append]
theorem strjoin_len (y : Str) : ∀ ps : List Str, (Str.join y ps).length ≤ (ps.map (·.length)).sum + ps.length * y.length
  | [] => Nat.zero_le _
  | [p] => by
    show p.length ≤ _
    simp
  | p :: q :: r => by
    have ih := strjoin_len y (q :: r)
    show (p ++ y ++ Str.join y (q :: r)).length ≤ _
    rw [str_app_len, str_app_len]
    simp only [List.map_cons, List.sum_cons, List.length_cons, Nat.succ_mul] at ih ⊢
    omega
theorem join_len (y : Str) (ps : List Str) : (Txt.join y ps).length ≤ (ps.map (·.length)).sum + ps.length * y.length := by
  rw [TL.join_eq]
  exact strjoin_len y ps
theorem one_len (c : Nat) : (⟨#[c]⟩ : Str).length = 1 := rfl
theorem ones_sum : ∀ cs : List Nat, ((cs.map fun c => (⟨#[c]⟩ : Str)).map (·.length)).sum = cs.length
  | [] => rfl
  | c :: r => by
    simp only [List.map_cons, List.sum_cons, List.length_cons, ones_sum r, one_len]
    omega
theorem str_len (z : Str) : z.length = z.cps.toList.length := by
  show z.cps.size = z.cps.toList.length
  rw [Array.length_toList]
/-- texts of one sign -/
def onesV (cs : List Nat) : List V := cs.map fun c => .str ⟨#[c]⟩
theorem onesV_str (cs : List Nat) : onesV cs = (cs.map fun c => (⟨#[c]⟩ : Str)).map V.str := by
  unfold onesV
  rw [List.map_map]
  rfl
theorem at_strs {zs : List Str} {d : Int} (h0 : 0 ≤ d) (h1 : d < zs.length) : ∃ z, z ∈ zs ∧ atI (zs.map V.str) d = some (.str z) := by
  obtain ⟨j, v, e, hj, hv, hat⟩ := at_ex (xs := zs.map V.str) h0 (by rw [List.length_map]; exact h1)
  rw [List.getElem?_map] at hv
  cases ez : zs[j]? with
  | none => rw [ez] at hv; cases hv
  | some z =>
    rw [ez] at hv
    cases hv
    exact ⟨z, List.mem_of_getElem? ez, hat⟩
theorem sum_le {L : Nat} : ∀ {ys : List Str}, (∀ z ∈ ys, z.length ≤ L) → (ys.map fun z : Str => z.length).sum ≤ ys.length * L
  | [], _ => Nat.zero_le _
  | y :: ys, h => by
    have h1 := sum_le (ys := ys) fun z hz => h z (List.mem_cons_of_mem _ hz)
    have h2 := h y List.mem_cons_self
    simp only [List.map_cons, List.sum_cons, List.length_cons, Nat.succ_mul]
    omega
theorem cutV_strs (zs : List Str) (lo hi : Option Int) : ∃ zs' : List Str, cutV (zs.map V.str) lo hi = zs'.map V.str ∧ zs'.length ≤ zs.length ∧ ∀ z ∈ zs', z ∈ zs := by
  unfold cutV
  refine ⟨(zs.drop (HT.sIx (zs.map V.str).length 0 lo)).take (HT.sIx (zs.map V.str).length (zs.map V.str).length hi - HT.sIx (zs.map V.str).length 0 lo), ?_, ?_, fun z hz => ?_⟩
  · rw [List.map_take, List.map_drop]
  · rw [List.length_take, List.length_drop]
    omega
  · exact List.mem_of_mem_drop (List.mem_of_mem_take hz)
/-- a text of one sign, times an int -/
theorem op_mulS {X : Cx} : OpR X (binaryOp .Mult) (fun x y H Q => ∃ z n, x = .str z ∧ y = .int n ∧ z.length = 1 ∧ 1 ≤ n ∧ n ≤ 100000 ∧ ∀ r : Str, r.length ≤ 100000 → Q (.str r) H) := by
  intro pins s σ H x y v u Q I rx ry h
  obtain ⟨z, n, rfl, rfl, hz, h1, h2, q⟩ := h
  obtain ⟨t, rfl⟩ := rx
  obtain ⟨t', rfl⟩ := ry
  have hok : PySem.MulOk z n := by
    refine ⟨?_, fun _ _ => ?_, fun _ _ => ?_⟩
    · rw [decide_eq_false (by omega), decide_eq_false (by omega)]; rfl
    · rw [hz]
      have hd : (1 : Int) ≤ (2 ^ 63 - 1) / n := by
        rw [Int.le_ediv_iff_mul_le (by omega)]
        omega
      omega
    · rw [hz]
      unfold PySem.Builtin.Str.tooLong
      have : (sizeLine : Nat) ≥ 1000000 := by decide
      simp
      omega
  refine PySem.SB.mul hok fun t' k => ⟨.str (Txt.mul z n), H, I.tok _, ⟨_, rfl⟩, q _ ?_⟩
  have := PyProof.Rows.len_mul z n
  rw [hz, if_neg (by simp; omega)] at this
  omega
end Xl

namespace Xl
open PySem PySem.Spec PyProof.Rows L2
/-! ### a list or a tuple -/
def SeqV (K : PySem.W.Frag) (H : Hp) (a : Addr) (xs : List V) : Prop := SqL K H a xs ∨ SqT K H a xs
theorem sqL_same {K : PySem.W.Frag} {H H' : Hp} {a : Addr} {xs : List V} (h : SqL K H a xs) (e : Same H H') : SqL K H' a xs :=
  h.elim (fun h => .inl (h.elim (fun h => .inl (e _ _ h)) fun ⟨o, h⟩ => .inr ⟨o, e _ _ h⟩)) fun h => .inr h
theorem sqT_same {K : PySem.W.Frag} {H H' : Hp} {a : Addr} {xs : List V} (h : SqT K H a xs) (e : Same H H') : SqT K H' a xs :=
  h.elim (fun h => .inl (h.elim (fun h => .inl (e _ _ h)) fun ⟨o, h⟩ => .inr ⟨o, e _ _ h⟩)) fun h => .inr h
theorem SeqV.same {K : PySem.W.Frag} {H H' : Hp} {a : Addr} {xs : List V} (h : SeqV K H a xs) (e : Same H H') : SeqV K H' a xs := h.elim (fun h => .inl (sqL_same h e)) fun h => .inr (sqT_same h e)
section
variable {X : Cx} {tg : Expr}
def rIxS (K : PySem.W.Frag) : R2 := fun x y H Q => ∃ p xs k v, x = .ref p ∧ y = .int k ∧ SeqV K H p xs ∧ atI xs k = some v ∧ Q v H
theorem ix_seq : IxR X (rIxS X.K) := by
  intro value slice pins s σ H x y v u Q I rx ry h hs
  obtain ⟨p, xs, k, z, e1, e2, hq | hq, e3, q⟩ := h
  · exact ix_list value slice pins s σ H x y v u Q I rx ry ⟨p, xs, k, z, e1, e2, hq, e3, q⟩ hs
  · exact ix_tup value slice pins s σ H x y v u Q I rx ry ⟨p, xs, k, z, e1, e2, hq, e3, q⟩ hs
/-- for x in v, v in slot i: a list or a tuple -/
def iSeqV (K : PySem.W.Frag) (i : Nat) : TI := fun σ H R => ∃ a xs, σ[i]? = some (some (.ref a)) ∧ SeqV K H a xs ∧ ∀ (J : It) (S : Hp → Prop), (∀ H', Same H H' → S H') → Walk J xs.length S (YAt xs) → R J H
theorem pi_seqV {i : Nat} {x : Str} {p : Pos} (hv : PE X (.Name x p) (tVar i)) : PI X tg (.Name x p) (iSeqV X.K i) := by
  refine ⟨fun pins s σ H R I h => ?_⟩
  obtain ⟨a, xs, e, hq | hq, k⟩ := h
  · exact (pi_list hv).run pins s σ H R I ⟨.ref a, e, a, rfl, ⟨xs, hq⟩, k (Itl X.K a) (fun H' => SqL X.K H' a xs) (fun H' sm => sqL_same hq sm) walk_list⟩
  · exact (pi_tup hv).run pins s σ H R I ⟨.ref a, e, a, rfl, ⟨xs, hq⟩, k (Itt X.K a) (fun H' => SqT X.K H' a xs) (fun H' sm => sqT_same hq sm) walk_tup⟩
/-- values that == takes as equal if they are the same -/
def Flat : V → Prop
  | .int _ => True
  | .ref _ => True
  | _ => False
theorem eqAt_same {A : Around} {s : Shared} {x : V} {u v : Value} (hx : Flat x) (r : RelV x u) (r2 : RelV x v) : SeqAt.EqAt A s u v true := by
  cases x with
  | int i =>
    obtain ⟨t, rfl⟩ := r
    obtain ⟨t2, rfl⟩ := r2
    have := (MeetsSeq.EqGives.int i i t t2).at A s
    rw [beq_self_eq_true] at this
    exact this
  | ref a =>
    obtain rfl : u = Value.ref a := r
    obtain rfl : v = Value.ref a := r2
    exact SeqAt.EqAt.same _
  | _ => exact hx.elim
/-- xs != ys: two lists of the same values -/
theorem op_neSame (hu : X.A.units + 64 < cLine) : OpR X (compareOp .NotEq) (fun x y H Q => ∃ l b xs, x = .ref l ∧ y = .ref b ∧ SqL X.K H l xs ∧ SqL X.K H b xs ∧ (∀ v ∈ xs, Flat v) ∧ Q (.bl false) H) := by
  intro pins s σ H x y v u Q I rx ry h
  obtain ⟨l, b, xs, rfl, rfl, h1, h2, hf, q⟩ := h
  cases rx
  cases ry
  obtain ⟨its, r, p, _⟩ := I.list h1
  obtain ⟨ity, r2, p2, _⟩ := I.list h2
  have hu' : X.A.units < cLine := by omega
  have hl := r.length
  have hl2 := r2.length
  refine SeqAt.RcNeAt.lists (e := fun _ => true) p.isList p2.isList (by rw [List.size_toArray, List.size_toArray]; omega) hu' (fun j j1 j2 => ?_) _ _ _ _ ?_
  · rw [List.size_toArray] at j1 j2
    have hj : j < xs.length := by omega
    obtain ⟨w, ew, rw'⟩ := r.get (List.getElem?_eq_getElem hj)
    obtain ⟨w2, ew2, rw2⟩ := r2.get (List.getElem?_eq_getElem hj)
    have e1 : its.toArray[j]'(by rw [List.size_toArray]; exact j1) = w := by
      rw [List.getElem_toArray]
      exact (List.getElem?_eq_some_iff.mp ew).2
    have e2 : ity.toArray[j]'(by rw [List.size_toArray]; exact j2) = w2 := by
      rw [List.getElem_toArray]
      exact (List.getElem?_eq_some_iff.mp ew2).2
    rw [e1, e2]
    exact eqAt_same (hf _ (List.getElem_mem hj)) rw' rw2
  · have e : (List.range its.toArray.size).all (fun _ => true) = true := by simp
    rw [e]
    exact ⟨.bl false, H, I, rfl, q⟩
end
end Xl

namespace Xl
/-! ### fractions in lowest terms, in plain numbers -/
def sgcd (t b : Int) : Int := if b < 0 then -(Int.gcd t b : Int) else (Int.gcd t b : Int)
def nT (t b : Int) : Int := t.fdiv (sgcd t b)
def nB (t b : Int) : Int := b.fdiv (sgcd t b)
/-- in lowest terms -/
structure Low (p q : Int) : Prop where
  pos : 0 < q
  cop : Int.gcd p q = 1
theorem gcd_pos_of {t b : Int} (h : b ≠ 0) : 0 < Int.gcd t b := Int.gcd_pos_of_ne_zero_right t h
theorem sgcd_dvd_left (t b : Int) : sgcd t b ∣ t := by
  unfold sgcd
  split
  · exact Int.neg_dvd.mpr (Int.gcd_dvd_left ..)
  · exact Int.gcd_dvd_left ..
theorem sgcd_dvd_right (t b : Int) : sgcd t b ∣ b := by
  unfold sgcd
  split
  · exact Int.neg_dvd.mpr (Int.gcd_dvd_right ..)
  · exact Int.gcd_dvd_right ..
theorem sgcd_ne {t b : Int} (h : b ≠ 0) : sgcd t b ≠ 0 := by
  have := gcd_pos_of (t := t) h
  unfold sgcd
  split <;> omega
theorem nT_mul {t b : Int} : nT t b * sgcd t b = t := by
  unfold nT
  rw [Int.fdiv_eq_ediv_of_dvd (sgcd_dvd_left t b)]
  exact Int.ediv_mul_cancel (sgcd_dvd_left t b)
theorem nB_mul {t b : Int} : nB t b * sgcd t b = b := by
  unfold nB
  rw [Int.fdiv_eq_ediv_of_dvd (sgcd_dvd_right t b)]
  exact Int.ediv_mul_cancel (sgcd_dvd_right t b)
theorem nB_pos {t b : Int} (h : b ≠ 0) : 0 < nB t b := by
  have e := nB_mul (t := t) (b := b)
  have g := gcd_pos_of (t := t) h
  by_cases hb : b < 0
  · have es : sgcd t b = -(Int.gcd t b : Int) := by unfold sgcd; rw [if_pos hb]
    rw [es] at e
    refine Int.not_le.mp fun hn => ?_
    have : 0 ≤ nB t b * -(Int.gcd t b : Int) := Int.mul_nonneg_of_nonpos_of_nonpos hn (by omega)
    omega
  · have es : sgcd t b = (Int.gcd t b : Int) := by unfold sgcd; rw [if_neg hb]
    rw [es] at e
    refine Int.not_le.mp fun hn => ?_
    have : nB t b * (Int.gcd t b : Int) ≤ 0 := Int.mul_nonpos_of_nonpos_of_nonneg hn (by omega)
    omega
theorem natAbs_sgcd (t b : Int) : (sgcd t b).natAbs = Int.gcd t b := by
  unfold sgcd
  split <;> omega
theorem low_n {t b : Int} (h : b ≠ 0) : Low (nT t b) (nB t b) := by
  refine ⟨nB_pos h, ?_⟩
  have g := gcd_pos_of (t := t) h
  have e1 := nT_mul (t := t) (b := b)
  have e2 := nB_mul (t := t) (b := b)
  have e3 : Int.gcd (nT t b * sgcd t b) (nB t b * sgcd t b) = Int.gcd (nT t b) (nB t b) * (sgcd t b).natAbs := Int.gcd_mul_right ..
  rw [e1, e2, natAbs_sgcd] at e3
  exact Nat.eq_of_mul_eq_mul_right g (by rw [Nat.one_mul]; exact e3.symm)
theorem n_cross {t b : Int} (h : b ≠ 0) : nT t b * b = t * nB t b := by
  have e1 := nT_mul (t := t) (b := b)
  have e2 := nB_mul (t := t) (b := b)
  generalize nT t b = x at e1 ⊢
  generalize nB t b = y at e2 ⊢
  generalize sgcd t b = g at e1 e2
  subst e1
  rw [← e2, ← Int.mul_assoc, Int.mul_right_comm]
theorem low_uniq {p q p' q' : Int} (h : Low p q) (h' : Low p' q') (e : p * q' = p' * q) : p = p' ∧ q = q' := by
  have d1 : q ∣ q' := by
    have : q ∣ p * q' := ⟨p', by rw [e, Int.mul_comm]⟩
    have z := Int.dvd_gcd_mul_iff_dvd_mul.mpr this
    rwa [Int.gcd_comm, h.cop, Int.natCast_one, Int.one_mul] at z
  have d2 : q' ∣ q := by
    have : q' ∣ p' * q := ⟨p, by rw [← e, Int.mul_comm]⟩
    have z := Int.dvd_gcd_mul_iff_dvd_mul.mpr this
    rwa [Int.gcd_comm, h'.cop, Int.natCast_one, Int.one_mul] at z
  have eq : q = q' := Int.dvd_antisymm (Int.le_of_lt h.pos) (Int.le_of_lt h'.pos) d1 d2
  subst eq
  exact ⟨Int.eq_of_mul_eq_mul_right (Int.ne_of_gt h.pos) e, rfl⟩
theorem n_of_low {p q : Int} (h : Low p q) : nT p q = p ∧ nB p q = q := by
  have hq : q ≠ 0 := Int.ne_of_gt h.pos
  exact low_uniq (low_n hq) h (n_cross hq)
theorem low_one (v : Int) : Low v 1 := ⟨by decide, by rw [Int.gcd_one_right]⟩
theorem n_one (v : Int) : nT v 1 = v ∧ nB v 1 = 1 := n_of_low (low_one v)
/-- two ways to write one fraction -/
theorem n_congr {t b t' b' : Int} (h : b ≠ 0) (h' : b' ≠ 0) (e : t * b' = t' * b) : nT t b = nT t' b' ∧ nB t b = nB t' b' := by
  have hb := nB_pos (t := t) h
  refine low_uniq (low_n h) (low_n h') ?_
  have e1 := n_cross (t := t) h
  have e2 := n_cross (t := t') h'
  have k : nT t b * nB t' b' * (b * b') = nT t' b' * nB t b * (b * b') := by
    have a1 : nT t b * nB t' b' * (b * b') = (nT t b * b) * (nB t' b' * b') := by ac_rfl
    have a2 : nT t' b' * nB t b * (b * b') = (nT t' b' * b') * (nB t b * b) := by ac_rfl
    rw [a1, a2, e1, e2]
    have a3 : t * nB t b * (nB t' b' * b') = (t * b') * (nB t b * nB t' b') := by ac_rfl
    have a4 : t' * nB t' b' * (nB t b * b) = (t' * b) * (nB t b * nB t' b') := by ac_rfl
    rw [a3, a4, e]
  exact Int.eq_of_mul_eq_mul_right (Int.mul_ne_zero h h') k
theorem nT_le {t b : Int} (h : b ≠ 0) : (nT t b).natAbs ≤ t.natAbs := by
  have e := nT_mul (t := t) (b := b)
  have g := gcd_pos_of (t := t) h
  have e2 : (nT t b).natAbs * Int.gcd t b = t.natAbs := by rw [← natAbs_sgcd, ← Int.natAbs_mul, e]
  rw [← e2]
  exact Nat.le_mul_of_pos_right _ g
theorem nB_le {t b : Int} (h : b ≠ 0) : (nB t b).natAbs ≤ b.natAbs := by
  have e := nB_mul (t := t) (b := b)
  have g := gcd_pos_of (t := t) h
  have e2 : (nB t b).natAbs * Int.gcd t b = b.natAbs := by rw [← natAbs_sgcd, ← Int.natAbs_mul, e]
  rw [← e2]
  exact Nat.le_mul_of_pos_right _ g
/-- Euclid's step -/
theorem gcd_step {a b : Int} (ha : 0 ≤ a) (hb : 0 < b) : Int.gcd b (a % b) = Int.gcd a b := by
  obtain ⟨m, rfl⟩ := Int.eq_ofNat_of_zero_le ha
  obtain ⟨n, rfl⟩ := Int.eq_ofNat_of_zero_le (Int.le_of_lt hb)
  rw [← Int.natCast_emod, Int.gcd_natCast_natCast, Int.gcd_natCast_natCast, Nat.gcd_comm m n, Nat.gcd_rec n m, Nat.gcd_comm]
end Xl

namespace Xl
open PySem PySem.Spec PyProof.Rows L2
/-! ### sizes of numbers -/
def Bd (n : Nat) (i : Int) : Prop := i.natAbs < 2 ^ n
theorem Bd.mono {m n : Nat} {i : Int} (h : Bd m i) (l : m ≤ n) : Bd n i := Nat.lt_of_lt_of_le h (Nat.pow_le_pow_right (by decide) l)
theorem Bd.le {n : Nat} {i j : Int} (h : Bd n i) (l : j.natAbs ≤ i.natAbs) : Bd n j := Nat.lt_of_le_of_lt l h
theorem Bd.neg {n : Nat} {i : Int} (h : Bd n i) : Bd n (-i) := h.le (by omega)
theorem Bd.mul {m n : Nat} {i j : Int} (h : Bd m i) (k : Bd n j) : Bd (m + n) (i * j) := by
  unfold Bd at *
  rw [Int.natAbs_mul, Nat.pow_add]
  have h1 : i.natAbs * j.natAbs ≤ i.natAbs * 2 ^ n := Nat.mul_le_mul_left _ (Nat.le_of_lt k)
  have h2 : i.natAbs * 2 ^ n < 2 ^ m * 2 ^ n := Nat.mul_lt_mul_of_pos_right h (Nat.pow_pos (by decide))
  omega
theorem Bd.add {n : Nat} {i j : Int} (h : Bd n i) (k : Bd n j) : Bd (n + 1) (i + j) := by
  unfold Bd at *
  rw [Nat.pow_succ]
  omega
theorem Bd.sub {n : Nat} {i j : Int} (h : Bd n i) (k : Bd n j) : Bd (n + 1) (i - j) := by
  unfold Bd at *
  rw [Nat.pow_succ]
  omega
theorem Bd.log {n : Nat} {i : Int} (h : Bd n i) (l : n ≤ 1919) : i.natAbs.log2 < 1920 := by
  have h2 : i.natAbs < 2 ^ 1920 := Nat.lt_of_lt_of_le h (Nat.pow_le_pow_right (by decide) (by omega))
  exact PySem.Flt.log2_lt_of (by decide) h2
theorem Bd.ex {n : Nat} {i : Int} (h : Bd n i) (l : n ≤ 8000) : ∃ n, n ≤ 8000 ∧ i.natAbs < 2 ^ n := ⟨n, l, h⟩
/-- * of any numbers that are not huge -/
theorem op_mulX {X : Cx} : OpR X (binaryOp .Mult) (rI (fun i j => ∃ m n, Bd m i ∧ Bd n j ∧ m + n ≤ 100000000) fun i j => .int (i * j)) := opI fun _ _ _ _ _ _ _ hc q => by
  obtain ⟨m, n, h1, h2, h3⟩ := hc
  exact mul_int q (PySem.IntMulOk.of_le (intBits_le_iff.mpr h1) (intBits_le_iff.mpr h2) (by omega))
end Xl

namespace Xl
open PySem PySem.Spec PyProof.Rows L2
/-! ### ExtralinkError.__init__(self, ..) in an own __init__ -/
section
variable {X : Cx} {o e : Expr} {es : List Expr} {to te : TE} {ta : TA} {f x : Str} {p p' p1 p2 pos : Pos} {CE : Addr}
theorem pe_einit {pl : Sem Bool} (hg : Gl X x) (hm : X.mg x = some (.ref CE)) (hE : ∃ mc, ClX.CRead X.K CE mc ∧ PySem.W.findCls X.K (.ref CE) mc "__init__" = some (.val (.builtin "ValueError.__init__"))) (ha : PA X (e :: es) ta)
    (hc : eval (.Call (.Attribute (.Name x p1) "__init__" p2) (e :: es) [] pos) X.env = (do
      let ov ← eval (.Name x p1) X.env
      standAt p2.atName
      let (f, first) ← holding [ov] (getMethod ov "__init__" pl)
      callWith pos f first (backTo pos (starEach (e :: es) X.env)) (backToKw pos (keywordEach [] X.env))) := by rfl)
    (hdb : (x == ("__debug__" : Str)) = false := by decide)
    (he : starEach (e :: es) X.env = (false, eval e X.env) :: starEach es X.env := by rfl) (hpl : (backTo pos (starEach es X.env)).any (·.1) = false := by rfl) :
    PE X (.Call (.Attribute (.Name x p1) "__init__" p2) (e :: es) [] pos) (tVeI X.K ta) := by
  obtain ⟨mc, cr, fc⟩ := hE
  refine ⟨fun pins s σ H Q I h => ?_⟩
  refine PySem.W.methodCall_KW (ld_glob I hg hm ?_ hdb) hc
  refine PySem.W.method_cls I.kIn cr.ga (PySem.W.cls_value I.kIn cr.rd fc rfl ?_)
  show wpAny _ _ (callWith pos (Value.builtin "ValueError.__init__") [] (backTo pos (starEach (e :: es) X.env)) []) _ _ _
  refine PyProof.Rows.callWith_method1 (thn (ha.run pos pins _ σ H _ (I.tok _) h) fun us s1 ⟨vs, H1, I1, r1, a, C, ws, ev, hl, T, ea, q⟩ => ?_) he hpl
  subst ev
  cases r1 with
  | @cons _ u0 _ ur ra rw' =>
    obtain rfl : u0 = Value.ref a := ra
    have hlen : ur.length ≤ sizeLine := by
      rw [← Paired.length rw', sizeLine_eq]
      omega
    exact oinit_ok T I1 ea hlen fun s' J => ⟨.non, H1, J, rfl, q⟩
end
/-! ### an error's making: its own fields, in a dict that is new -/
/-- __init__(self, ..): the fields fs of the arguments vs -/
def spXi (C : Addr) (n : Nat) (g : List V → List (Str × V)) : Sp := fun vs H Q _ => ∃ (a : Addr) (ws : List V), vs = .ref a :: ws ∧ ws.length = n ∧ H a = some (exo a C none) ∧
  ∀ d H', H d = none → d ≠ a → H' a = some (exo a C (some d)) → H' d = some (exd d (g ws)) → (∀ b o, H b = some o → b ≠ a → H' b = some o) → Q .non H'
structure XcI (P : Program) (w : World) (K : PySem.W.Frag) (mg : Str → Option Value) (base : Heap) (x : Str) (C : Addr) (n : Nat) (g : List V → List (Str × V)) : Prop where
  ex : ∃ fI fd ps, OexC K C ∧ PySem.W.findIn K (.ref C) "__init__" = some (some (.ref fI)) ∧ PySem.W.typeIn K (.ref fI) = some (.type "function") ∧ FnOk P w K mg base (L2.CX P w) 1 fI fd ps (spXi C n g) ∧ Binds K fd ps [] ∧ mg x = some (.ref C)
/-- X(e, ..) raised: what is wanted of its class, its dict and the heap -/
def tXm (C : Addr) (n : Nat) (g : List V → List (Str × V)) (ta : TA) : L2.St → Hp → XK → Prop := fun σ H Q => ta σ H fun vs H1 => vs.length = n ∧ ∀ d H', Same H1 H' → H1 d = none → H' d = some (.xd (g vs)) → Q (.ref C) (some d) H'
section
variable {X : Cx} {e : Expr} {es : List Expr} {ta : TA} {p pos : Pos} {x : Str} {C : Addr} {n : Nat} {g : List V → List (Str × V)}
theorem pmk_x (B : XcI X.prog X.w X.K X.mg X.base x C n g) (hn : n ≤ 1000) (hr : Room 2 X.A) (ha : PA X (e :: es) ta) (hg : Gl X x := by rfl) (hdb : (x == ("__debug__" : Str)) = false := by decide)
    (he : starEach (e :: es) X.env = (false, eval e X.env) :: starEach es X.env := by rfl) (hpl : (backTo pos (starEach es X.env)).any (·.1) = false := by rfl) :
    PMk X (.Call (.Name x p) (e :: es) [] pos) (tXm C n g ta) := by
  obtain ⟨fI, fd, ps, h1, h2, h3, h4, h5, h6⟩ := B.ex
  have z := pmk_oex (X := X) (p := p) (pos := pos) (e := e) (es := es) (ta := taM ta) h1 h2 h3 h4 hr h5 (dvs := []) .nil (passL (X := X)) hg h6 (pa_mono ha) hdb he hpl
  intro pins s σ H Q I h
  refine z pins s σ H Q I ⟨_, h, fun vs H1 ⟨hl, k⟩ => ⟨by omega, fun a na => ?_⟩⟩
  refine ⟨a, vs, by rw [List.append_nil], hl, upd_same, fun d H2 hd hda ea ed kp => ⟨rfl, d, g vs, ea, ed, ?_, ?_⟩⟩
  · rw [upd_ne hda] at hd
    exact hd
  · rw [upd_ne hda] at hd
    refine k d _ (fun b o eb => ?_) hd upd_same
    have nb : b ≠ a := ne_of_none eb na
    rw [upd_ne (ne_of_none eb hd), del_ne nb]
    exact kp b o (by rw [upd_ne nb]; exact eb) nb
theorem ps_rx {W : WX} {pos' : Pos} (B : XcI X.prog X.w X.K X.mg X.base x C n g) (hn : n ≤ 1000) (hr : Room 2 X.A) (hc : X.calm = true) (tk : Takes X W) (ha : PA X (e :: es) ta) (hg : Gl X x := by rfl) (hdb : (x == ("__debug__" : Str)) = false := by decide)
    (he : starEach (e :: es) X.env = (false, eval e X.env) :: starEach es X.env := by rfl) (hpl : (backTo pos (starEach es X.env)).any (·.1) = false := by rfl) :
    PS X (.Raise (some (.Call (.Name x p) (e :: es) [] pos)) none pos') (fun _ σ H => tXm C n g ta σ H fun cls d H' => W cls d σ H') := ps_raise hc tk (pmk_x B hn hr ha hg hdb he hpl)
end
end Xl

namespace Xl
open PySem PySem.Spec PyProof.Rows L2
section
variable {P : Program} {w : World} {K : PySem.W.Frag} {mg : Str → Option Value} {base : Heap}
theorem sc_BadCount___init__ : FnScope ["self", "count"] ["self", "count"] (defScope s_BadCount___init__) := ⟨rfl, rfl, rfl, by decide +kernel, rfl, by decide +kernel, by decide +kernel⟩
theorem ok_BadCount___init__ (T : GG K mg) : FnOk P w K mg base (L2.CX P w) 1 T.a_BadCount___init__ T.fd_BadCount___init__ ["self", "count"] (spXi T.c_BadCount 1 (fun ws => ((["count"] : List Str).zip ws).reverse)) := by
  refine okN T.F_BadCount___init__ sc_BadCount___init__ (fun vs H Q E h => ?_) (fun cdv A outer s H vs Q E hr h => ?_)
  · obtain ⟨a, ws, rfl, hl, _⟩ := h
    show ws.length + 1 = 2
    omega
  · obtain ⟨a, ws, rfl, hl, ha, k⟩ := h
    obtain ⟨v, rfl⟩ : ∃ v, ws = [v] := List.length_eq_one_iff.mp hl
    refine ⟨_, pss_cons (ps_expr (pe_einit rfl T.g_ExtralinkError T.ei_ExtralinkError (pa_cons (pv 0) (pa_cons pe_str pa_nil)))) (pss_one (ps_ost (pv 0) (pv 1))), ?_⟩
    refine ⟨_, rfl, a, T.c_BadCount, _, rfl, by decide, T.ox_BadCount, ha, ?_⟩
    refine ⟨_, rfl, _, rfl, a, T.c_BadCount, rfl, T.ox_BadCount, T.no_BadCount_count, .inl ⟨ha, fun dx hd hda => ?_⟩⟩
    exact k dx _ hd hda upd_same (by rw [upd_ne hda, upd_same]; rfl) fun b o eb hb => by rw [upd_ne hb, upd_ne (ne_of_none eb hd)]; exact eb
theorem X_BadCount (T : GG K mg) : XcI P w K mg base "BadCount" T.c_BadCount 1 (fun ws => ((["count"] : List Str).zip ws).reverse) := ⟨_, _, _, T.ox_BadCount, T.in_BadCount.1, T.in_BadCount.2, ok_BadCount___init__ T, T.F_BadCount___init__.binds fun _ _ _ _ _ _ us hl => match us, hl with | [_, _], _ => rfl, T.g_BadCount⟩
theorem sc_OutOfRange___init__ : FnScope ["self", "value"] ["self", "value"] (defScope s_OutOfRange___init__) := ⟨rfl, rfl, rfl, by decide +kernel, rfl, by decide +kernel, by decide +kernel⟩
theorem ok_OutOfRange___init__ (T : GG K mg) : FnOk P w K mg base (L2.CX P w) 1 T.a_OutOfRange___init__ T.fd_OutOfRange___init__ ["self", "value"] (spXi T.c_OutOfRange 1 (fun ws => ((["value"] : List Str).zip ws).reverse)) := by
  refine okN T.F_OutOfRange___init__ sc_OutOfRange___init__ (fun vs H Q E h => ?_) (fun cdv A outer s H vs Q E hr h => ?_)
  · obtain ⟨a, ws, rfl, hl, _⟩ := h
    show ws.length + 1 = 2
    omega
  · obtain ⟨a, ws, rfl, hl, ha, k⟩ := h
    obtain ⟨v, rfl⟩ : ∃ v, ws = [v] := List.length_eq_one_iff.mp hl
    refine ⟨_, pss_cons (ps_expr (pe_einit rfl T.g_ExtralinkError T.ei_ExtralinkError (pa_cons (pv 0) (pa_cons pe_str pa_nil)))) (pss_one (ps_ost (pv 0) (pv 1))), ?_⟩
    refine ⟨_, rfl, a, T.c_OutOfRange, _, rfl, by decide, T.ox_OutOfRange, ha, ?_⟩
    refine ⟨_, rfl, _, rfl, a, T.c_OutOfRange, rfl, T.ox_OutOfRange, T.no_OutOfRange_value, .inl ⟨ha, fun dx hd hda => ?_⟩⟩
    exact k dx _ hd hda upd_same (by rw [upd_ne hda, upd_same]; rfl) fun b o eb hb => by rw [upd_ne hb, upd_ne (ne_of_none eb hd)]; exact eb
theorem X_OutOfRange (T : GG K mg) : XcI P w K mg base "OutOfRange" T.c_OutOfRange 1 (fun ws => ((["value"] : List Str).zip ws).reverse) := ⟨_, _, _, T.ox_OutOfRange, T.in_OutOfRange.1, T.in_OutOfRange.2, ok_OutOfRange___init__ T, T.F_OutOfRange___init__.binds fun _ _ _ _ _ _ us hl => match us, hl with | [_, _], _ => rfl, T.g_OutOfRange⟩
end
end Xl

namespace Xl
open PySem PySem.Spec PyProof.Rows L2
/-! ### making an instance, a method, a property, an own operator: each by a promise over values -/
/-- C(..): what the whole expression promises; dvs: the defaults that fill up -/
structure MkI (P : Program) (w : World) (K : PySem.W.Frag) (mg : Str → Option Value) (base : Heap) (C : Addr) (k : Nat) (sp : Sp) : Prop where
  ex : ∃ f fd ps dvs ds sp0, Mk K C f ∧ FnOk P w K mg base (L2.CX P w) k f fd ps sp0 ∧ Vals dvs ds ∧ Binds K fd ps ds ∧
    ∀ vs H Q E, sp vs H Q E → ∀ o dx, H o = none → H dx = none → dx ≠ o → sp0 (.ref o :: (vs ++ dvs)) (upd (upd H dx (.own o)) o (.ins C dx [])) (fun v H2 => v = .non ∧ Q (.ref o) H2) E
/-- C(k = v, ..) -/
structure MkK (P : Program) (w : World) (K : PySem.W.Frag) (mg : Str → Option Value) (base : Heap) (C : Addr) (k : Nat) (ks : List Str) (sp : Sp) : Prop where
  ex : ∃ f fd ps g gV sp0, Mk K C f ∧ FnOk P w K mg base (L2.CX P w) k f fd ps sp0 ∧ KBn K fd ps 1 ks g gV ∧
    ∀ zs H Q E, zs.length = ks.length → sp zs H Q E → ∀ o dx, H o = none → H dx = none → dx ≠ o → sp0 (gV [.ref o] zs) (upd (upd H dx (.own o)) o (.ins C dx [])) (fun v H2 => v = .non ∧ Q (.ref o) H2) E
theorem vals_rev : ∀ {vs : List V} {us : List Value}, Vals vs us → Vals vs.reverse us.reverse
  | _, _, .nil => .nil
  | _, _, .cons h t => by
    rw [List.reverse_cons, List.reverse_cons]
    exact (vals_rev t).append (.cons h .nil)
/-- keywords given to a def with defaults, none of which is left out or read -/
theorem FunD.kb1 {K : PySem.W.Frag} {x qual : Str} {params : Arguments} {body : List Stmt} {scope : Scope} {dvs : List V} {f : Addr} {fd : FuncData} {ps : List Str} (F : FunD K x qual params body scope dvs [] f fd) (n : Nat) (ks : List Str) (g : {α : Type} → List α → List α → List α → List α) (hd : dvs ≠ [])
    (hrel : ∀ {vs ds zs : List V} {us its ws : List Value}, Vals vs us → Vals ds its → Vals zs ws → Vals (g vs ds zs) (g us its ws))
    (h : ∀ (T : Addr) (kV doc pm : Value) (an : Option Addr) (cdv ct : Value) (us its ws : List Value), us.length = n → its.length = dvs.length → ws.length = ks.length →
      ∃ k, bindArgs (PySem.W.fnOf x qual params body scope (.ref T) kV doc pm an cdv ct) ⟨us, ks.zip ws⟩ = seqItems? (.ref T) >>= k ∧ k (some its.toArray) = pure (ps.zip (g us its ws))) :
    ∃ its : List Value, KBn K fd ps n ks (fun us ws => g us its ws) (fun vs zs => g vs dvs zs) := by
  obtain ⟨oc, od, dV, kV, doc, pm, an, cdv, ct, osl, rfl, lk, hcd, hD, hK⟩ := F.ex
  rcases hD with ⟨e, _⟩ | ⟨_, T, o, its, m, rfl, lT, oT, rT⟩
  · exact absurd e hd
  · refine ⟨its, ⟨fun s us ws X l1 l2 => ?_, fun r1 r2 => hrel r1 rT r2⟩⟩
    obtain ⟨k, e1, e2⟩ := h T kV doc pm an cdv ct us its ws l1 rT.length.symm l2
    refine BindsTo.of_looks fun M => ?_
    rw [e1]
    exact looks_items X lT oT (.of_pure e2)
section
variable {X : Cx} {k i : Nat} {C : Addr} {sp : Sp} {E : XK} {x : Str} {p pos : Pos} {e : Expr} {es : List Expr} {t : TA} {te : TE}
theorem pe_mkI (F : MkI X.prog X.w X.K X.mg X.base C k sp) (hr : Room (k + 1) X.A) (hm : X.mg x = some (.ref C)) (hx : Passes (L2.CX X.prog X.w) X E) (ha : PA X (e :: es) t) (hg : Gl X x := by rfl)
    (hdb : (x == ("__debug__" : Str)) = false := by decide) (he : starEach (e :: es) X.env = (false, eval e X.env) :: starEach es X.env := by rfl) (hpl : (backTo pos (starEach es X.env)).any (·.1) = false := by rfl) :
    PE X (.Call (.Name x p) (e :: es) [] pos) (tCall sp [] E t) := by
  obtain ⟨f, fd, ps, dvs, ds, sp0, M, G, hd, hb, conv⟩ := F.ex
  refine ⟨fun pins s σ H Q I h => ?_⟩
  refine wpAny_Call_Name_kw (ld_glob I hg hm ?_ hdb)
  refine PySem.W.callWith_K (h₀ := X.base) I.ok.mod.kin M.kp (thn (ha.run pos pins s σ H _ I h) fun us s1 ⟨vs, H1, I1, r, q⟩ => ⟨I1.kIn, ?_⟩) he hpl
  exact run_make M G hr hb hd hx I1 r (conv vs H1 Q E (by rw [← List.append_nil vs]; exact q))
/-- the class in a slot -/
def tCallLc (i : Nat) (C : Addr) (sp : Sp) (E : XK) (t : TA) : TE := fun σ H Q => σ[i]? = some (some (.ref C)) ∧ t σ H fun vs H1 => sp vs H1 Q E
theorem pe_mkL (F : MkI X.prog X.w X.K X.mg X.base C k sp) (hr : Room (k + 1) X.A) (hN : X.N[i]? = some x) (hv : Vis X.env.scope x) (hx : Passes (L2.CX X.prog X.w) X E) (ha : PA X (e :: es) t)
    (hdb : (x == ("__debug__" : Str)) = false := by decide) (hcd : (x == ("__classdict__" : Str)) = false := by decide) (he : starEach (e :: es) X.env = (false, eval e X.env) :: starEach es X.env := by rfl) (hpl : (backTo pos (starEach es X.env)).any (·.1) = false := by rfl) :
    PE X (.Call (.Name x p) (e :: es) [] pos) (tCallLc i C sp E t) := by
  obtain ⟨f, fd, ps, dvs, ds, sp0, M, G, hd, hb, conv⟩ := F.ex
  refine ⟨fun pins s σ H Q I h => ?_⟩
  obtain ⟨hs, ht⟩ := h
  refine wpAny_Call_Name_kw (thn ((pe_var (pos := p) hN hv hdb hcd).run pins s σ H (fun v H1 => v = .ref C ∧ H1 = H) I ⟨.ref C, hs, rfl, rfl⟩) fun u s1 ⟨v, H1, I1, r1, q1⟩ => ?_)
  obtain ⟨rfl, rfl⟩ := q1
  cases r1
  refine PySem.W.callWith_K (h₀ := X.base) I.ok.mod.kin M.kp (thn (ha.run pos pins s1 σ _ _ I1 ht) fun us s2 ⟨vs, H2, I2, r, q⟩ => ⟨I2.kIn, ?_⟩) he hpl
  exact run_make M G hr hb hd hx I2 r (conv vs H2 Q E q)
theorem pe_mkK {ks : List Str} {kws : List Keyword} {tk : TA} (F : MkK X.prog X.w X.K X.mg X.base C k ks sp) (hr : Room (k + 1) X.A) (hm : X.mg x = some (.ref C)) (hx : Passes (L2.CX X.prog X.w) X E) (hkw : PK X kws tk) (hg : Gl X x := by rfl)
    (hall : (backToKw pos (keywordEach kws X.env)).all (·.1.isSome) = true := by rfl) (hks : (backToKw pos (keywordEach kws X.env)).filterMap (·.1) = ks := by rfl) (hdb : (x == ("__debug__" : Str)) = false := by decide)
    (hpl : ((backTo pos (starEach [] X.env)).any (·.1) || (backToKw pos (keywordEach kws X.env)).any (·.1.isNone)) = false := by rfl) :
    PE X (.Call (.Name x p) [] kws pos) (tCallW ks.length sp E tk) := by
  obtain ⟨f, fd, ps, g, gV, sp0, M, G, hb, conv⟩ := F.ex
  refine ⟨fun pins s σ H Q I h => ?_⟩
  refine wpAny_Call_Name_kw (ld_glob I hg hm ?_ hdb)
  refine PySem.W.callWith_KW0 (h₀ := X.base) I.ok.mod.kin M.kp hall ?_ hpl
  refine thn (hkw.run pos pins s σ H _ I h) fun ws s2 ⟨zs, H2, I2, rz, l1, q2⟩ => ⟨I2.kIn, ?_⟩
  rw [hks]
  exact run_makeK (us := []) (vs := []) M G hr hb hx I2 .nil rz rfl l1 (conv zs H2 Q E l1 q2)
end
/-- a method of the class at C, or a property of it: the promise takes the object first -/
structure MeI (P : Program) (w : World) (K : PySem.W.Frag) (mg : Str → Option Value) (base : Heap) (C : Addr) (m : Str) (k : Nat) (sp : Sp) : Prop where
  ex : ∃ f fd ps, Cls K C ∧ Meth K C m f ∧ FnOk P w K mg base (L2.CX P w) k f fd ps sp ∧ Binds K fd ps []
structure PrI (P : Program) (w : World) (K : PySem.W.Frag) (mg : Str → Option Value) (base : Heap) (C : Addr) (m : Str) (k : Nat) (sp : Sp) : Prop where
  ex : ∃ p g fd ps, Cls K C ∧ PropOf K C m p g ∧ FnOk P w K mg base (L2.CX P w) k g fd ps sp ∧ Binds K fd ps []
section
variable {X : Cx} {k : Nat} {C : Addr} {sp : Sp} {E : XK} {m : Str} {apos pos : Pos} {e o : Expr} {es : List Expr} {t : TA} {te ta : TE}
theorem pe_mt {pl : Sem Bool} (F : MeI X.prog X.w X.K X.mg X.base C m k sp) (hr : Room k X.A) (hx : Passes (L2.CX X.prog X.w) X E) (he : PE X o ta) (ha : PA X (e :: es) t)
    (ht : eval (.Call (.Attribute o m apos) (e :: es) [] pos) X.env = (do
      let ov ← eval o X.env
      standAt apos.atName
      let (f, first) ← holding [ov] (getMethod ov m pl)
      callWith pos f first (backTo pos (starEach (e :: es) X.env)) (backToKw pos (keywordEach [] X.env))) := by rfl)
    (hs : starEach (e :: es) X.env = (false, eval e X.env) :: starEach es X.env := by rfl) (hpl : (backTo pos (starEach es X.env)).any (·.1) = false := by rfl) :
    PE X (.Call (.Attribute o m apos) (e :: es) [] pos) (tMeth C m sp [] E ta t) := by
  obtain ⟨f, fd, ps, c, M, G, hb⟩ := F.ex
  exact pe_meth he c M G hr hb .nil hx ha hs hpl ht
theorem pe_mt0 {pl : Sem Bool} (F : MeI X.prog X.w X.K X.mg X.base C m k sp) (hr : Room k X.A) (hx : Passes (L2.CX X.prog X.w) X E) (he : PE X o ta)
    (ht : eval (.Call (.Attribute o m apos) [] [] pos) X.env = (do
      let ov ← eval o X.env
      standAt apos.atName
      let (f, first) ← holding [ov] (getMethod ov m pl)
      callWith pos f first (backTo pos (starEach [] X.env)) (backToKw pos (keywordEach [] X.env))) := by rfl) :
    PE X (.Call (.Attribute o m apos) [] [] pos) (tMeth C m sp [] E ta tNil) := by
  obtain ⟨f, fd, ps, c, M, G, hb⟩ := F.ex
  exact pe_meth0 he c M G hr hb .nil hx ht
theorem pe_pr (F : PrI X.prog X.w X.K X.mg X.base C m k sp) (hr : Room (k + 1) X.A) (hx : Passes (L2.CX X.prog X.w) X.nox E) (he : PE X e ta) (hab : attributeBase e m X.env (eval e X.env) = eval e X.env := by rfl) :
    PE X (.Attribute e m pos) (tProp C sp [] E ta) := by
  obtain ⟨p, g, fd, ps, c, hp, G, hb⟩ := F.ex
  exact pe_prop he c hp G hr hb .nil hx hab
/-- an own special method called on values, its answer anything but NotImplemented -/
theorem own_back {Q : VK} {pins : List (Addr × Obj)} {σ : L2.St} {s' : Shared} {u : Value} (h : EP X pins σ Q u s') : PySem.W.CmpBack (EP X pins σ Q) u s' := by
  obtain ⟨v, H', I, r, q⟩ := id h
  cases v with
  | non => cases (show u = Value.none from r); exact h
  | bl b => cases (show u = Value.bool b from r); exact h
  | int b => obtain ⟨t, rfl⟩ := (show ∃ t, u = Value.int b t from r); exact h
  | str b => obtain ⟨t, rfl⟩ := (show ∃ t, u = Value.str b t from r); exact h
  | byt b => obtain ⟨t, rfl⟩ := (show ∃ t, u = Value.bytes b t from r); exact h
  | flt b => obtain ⟨t, rfl⟩ := (show ∃ t, u = Value.float b t from r); exact h
  | ref a => cases (show u = Value.ref a from r); exact h
  | ty n => cases (show u = Value.type n from r); exact h
theorem run_own {f : Addr} {fd : FuncData} {ps : List Str} {pins : List (Addr × Obj)} {σ : L2.St} {H : Hp} {s : Shared} {Q : VK} {us : List Value} {vs : List V} (F : FnOk X.prog X.w X.K X.mg X.base (L2.CX X.prog X.w) k f fd ps sp) (hr : Room k X.A) (hb : Binds X.K fd ps []) (hx : Passes (L2.CX X.prog X.w) X E)
    (I : Inv X pins σ H s) (r : Vals vs us) (h : sp vs H Q E) : wpAny (model X.prog X.w) X.A (call (.ref f) us) (PySem.W.CmpBack (EP X pins σ Q)) X.xe s :=
  thn (run_fn (dvs := []) F hr hb .nil hx I r (by rw [List.append_nil]; exact h)) fun _ _ q => own_back q
/-- a op b, a an instance of the class at C, b one of it, too -/
def rOwn (C : Addr) (sp : Sp) (E : XK) : R2 := fun x y H Q => ∃ a b dx dy fs gs, x = .ref a ∧ y = .ref b ∧ H a = some (.ins C dx fs) ∧ H b = some (.ins C dy gs) ∧ sp [.ref a, .ref b] H Q E
theorem op_own {op : Operator} (F : MeI X.prog X.w X.K X.mg X.base C (PySem.dunder op.info.2) k sp) (sf : PySem.W.selfFirst X.K C = true) (hr : Room k X.A) (hx : Passes (L2.CX X.prog X.w) X E) : OpR X (binaryOp op) (rOwn C sp E) := by
  obtain ⟨f, fd, ps, c, M, G, hb⟩ := F.ex
  intro pins s σ H x y v u Q I rx ry h
  obtain ⟨a, b, dx, dy, fs, gs, rfl, rfl, ha, hb', q⟩ := h
  cases rx
  cases ry
  obtain ⟨mA, J, _⟩ := ins_get I.hok ha
  obtain ⟨mB, J', _⟩ := ins_get I.hok hb'
  obtain ⟨od, J, _⟩ := J.look
  obtain ⟨od', J', _⟩ := J'.look
  obtain ⟨m, hF⟩ := I.fr
  exact PySem.W.binop_K hF I.ok.mod.kin J J'.type sf M.at_ M.fn (run_own (vs := [.ref a, .ref b]) G hr hb hx I (.cons rfl (.cons rfl .nil)) q)
/-- a op n, n an int -/
def rOwnI (C : Addr) (sp : Sp) (E : XK) : R2 := fun x y H Q => ∃ a n dx fs, x = .ref a ∧ y = .int n ∧ H a = some (.ins C dx fs) ∧ sp [.ref a, .int n] H Q E
theorem op_ownI {op : Operator} {rc : Option Value} (F : MeI X.prog X.w X.K X.mg X.base C (PySem.dunder op.info.2) k sp) (sf : PySem.W.selfFirst X.K C = true) (hrc : PySem.W.findIn X.K (.ref C) (dunderR op.info.2) = some rc) (hp : rc = none ∨ ∃ g : Addr, rc = some (.ref g))
    (hi : ∃ fo ro, PySem.W.findIn X.K (.type "int") (PySem.dunder op.info.2) = some fo ∧ PySem.W.findIn X.K (.type "int") (dunderR op.info.2) = some ro ∧ PySem.W.subIn X.K (.type "int") (.ref C) = some false)
    (hr : Room k X.A) (hx : Passes (L2.CX X.prog X.w) X E) : OpR X (binaryOp op) (rOwnI C sp E) := by
  obtain ⟨f, fd, ps, c, M, G, hb⟩ := F.ex
  obtain ⟨fo, ro, h1, h2, h3⟩ := hi
  intro pins s σ H x y v u Q I rx ry h
  obtain ⟨a, n, dx, fs, rfl, rfl, ha, q⟩ := h
  cases rx
  obtain ⟨t, rfl⟩ := ry
  obtain ⟨mA, J, _⟩ := ins_get I.hok ha
  obtain ⟨od, J, _⟩ := J.look
  obtain ⟨m, hF⟩ := I.fr
  exact PySem.W.ksp_binT hF I.ok.mod.kin J rfl sf M.at_ M.fn hrc hp h1 h2 h3 (run_own (vs := [.ref a, .int n]) G hr hb hx I (.cons rfl (.cons ⟨_, rfl⟩ .nil)) q)
/-- -a -/
theorem un_own (F : MeI X.prog X.w X.K X.mg X.base C "__neg__" k sp) (hr : Room k X.A) (hx : Passes (L2.CX X.prog X.w) X E) : UnR X (unaryOp .USub) (fun x H Q => ∃ a dx fs, x = .ref a ∧ H a = some (.ins C dx fs) ∧ sp [.ref a] H Q E) := by
  obtain ⟨f, fd, ps, c, M, G, hb⟩ := F.ex
  intro pins s σ H x v Q I rx h
  obtain ⟨a, dx, fs, rfl, ha, q⟩ := h
  cases rx
  obtain ⟨mA, J, _⟩ := ins_get I.hok ha
  obtain ⟨od, J, _⟩ := J.look
  obtain ⟨m, hF⟩ := I.fr
  exact PySem.W.ksp_neg hF I.ok.mod.kin J M.at_ M.fn (run_fn (dvs := []) (vs := [.ref a]) G hr hb .nil hx I (.cons rfl .nil) q)
/-- a == b by an own __eq__ -/
theorem op_ownEq (F : MeI X.prog X.w X.K X.mg X.base C "__eq__" k sp) (hr : Room k X.A) (hx : Passes (L2.CX X.prog X.w) X E) : OpR X (compareOp .Eq) (rOwn C sp E) := by
  obtain ⟨f, fd, ps, c, M, G, hb⟩ := F.ex
  intro pins s σ H x y v u Q I rx ry h
  obtain ⟨a, b, dx, dy, fs, gs, rfl, rfl, ha, hb', q⟩ := h
  cases rx
  cases ry
  obtain ⟨mA, J, _⟩ := ins_get I.hok ha
  obtain ⟨mB, J', _⟩ := ins_get I.hok hb'
  obtain ⟨od, J, _⟩ := J.look
  obtain ⟨od', J', _⟩ := J'.look
  obtain ⟨m, hF⟩ := I.fr
  exact PySem.W.cmp_K (op := .Eq) (tb := .ref C) hr.units0 hF I.ok.mod.kin J J'.type (by simp [PySem.W.notFirst]) M.at_ M.fn (run_own (vs := [.ref a, .ref b]) G hr hb hx I (.cons rfl (.cons rfl .nil)) q)
/-- a def run one or two levels within a builtin -/
theorem run_at {A' : Around} {f : Addr} {fd : FuncData} {ps : List Str} {pins : List (Addr × Obj)} {σ : L2.St} {H : Hp} {s : Shared} {Q : VK} {us : List Value} {vs : List V} (F : FnOk X.prog X.w X.K X.mg X.base (L2.CX X.prog X.w) k f fd ps sp) (hr : Room k A') (hA : A'.frames = X.A.frames) (hb : Binds X.K fd ps []) (hx : Passes (L2.CX X.prog X.w) X E)
    (I : Inv X pins σ H s) (r : Vals vs us) (h : sp vs H Q E) : wpAny (model X.prog X.w) A' (call (.ref f) us) (EP X pins σ Q) X.xe s := by
  have hl : (us ++ []).length = ps.length := by rw [List.append_nil, ← r.length]; exact F.len _ _ _ _ h
  have e0 : Env0 X.prog X.w X.K X.mg X.base A' X.stack s H := by
    have e := I.env0
    exact ⟨by rw [hA]; exact e.frames, e.mod, e.bs, e.bsz, e.funs, e.frf, e.hok, e.bare⟩
  have hb2 := hb s us I.kIn hl
  rw [List.append_nil] at hb2
  refine wpAny_call (codeAny_mono (F.run A' X.stack s H ⟨us, []⟩ us vs Q E hr e0 hb2 r h) fun r s' hq => ?_)
  cases r with
  | error e => exact hx pins σ H s e s' I hq
  | ok fl =>
    cases fl with
    | ret u => exact I.after hq
    | next => exact False.elim hq
    | brk => exact False.elim hq
    | cont => exact False.elim hq
/-- str(a) by an own __str__ -/
theorem call_strO (F : MeI X.prog X.w X.K X.mg X.base C "__str__" k sp) (hr : Room (k + 2) X.A) (hx : Passes (L2.CX X.prog X.w) X E) : CallR X (.type "str") (fun xs H Q => ∃ a dx fs, xs = [.ref a] ∧ H a = some (.ins C dx fs) ∧ sp [.ref a] H (fun v H' => (∃ z, v = .str z) ∧ Q v H') E) := by
  obtain ⟨f, fd, ps, c, M, G, hb⟩ := F.ex
  intro pins s σ H xs us Q I r h
  obtain ⟨a, dx, fs, rfl, ha, q⟩ := h
  obtain ⟨u, rfl, ru⟩ := vals1 r
  cases ru
  obtain ⟨mA, J, _⟩ := ins_get I.hok ha
  obtain ⟨od, J, _⟩ := J.look
  have hr1 : Room (k + 1) X.A.in1 := hr.in1
  have hr2 : Room k X.A.in1.in1 := hr1.in1
  refine PySem.W.kso_call hr2.units0 I.kIn J M.at_ M.fn (thn (run_at (A' := X.A.in1.in1) (vs := [.ref a]) G hr2 rfl hb hx I (.cons rfl .nil) q) fun u s' ⟨v, H', I', rv, ⟨z, ev⟩, q'⟩ => ?_)
  subst ev
  obtain ⟨t, rfl⟩ := rv
  exact ⟨.str z, H', I', ⟨t, rfl⟩, q'⟩
end
end Xl

namespace Xl
open PySem PySem.Spec PyProof.Rows L2
/-! ### operators by own methods: the right operand's, the place's, != -/
section
variable {prog : Program} {w : World} {A : Around} {E : Value → Shared → Prop} {s : Shared} {K : PySem.W.Frag} {x C f L : Addr} {h₀ : Heap} {m : Str → Option Value} {ox : Obj} {od : Option Obj}
/-- an int's operator declines an instance -/
theorem int_declines {id nm : String} {g : Int → Int → Sem Fin} {n : Int} {t : Tok} {name : Str} {Q : Value → Shared → Prop} (slot : Slot "int" name id) (entry : entryFor table id = some (Builtin.Int.intBinary nm g)) (args : argsOk id ⟨[.int n t, .ref x], []⟩)
    (ho : s.heap.get? x = some ox) (hd : ∀ i t, ox.data ≠ .prim (.int i t)) (h : Q .notImplemented s) : wpAny (model prog w) A (call (.builtin id) [.int n t, .ref x]) Q E s := by
  refine wpAny_call_entry slot (typeIs_int s n t) entry ?_ args
  have e1 : slotArgs nm 1 ⟨[.int n t, .ref x], []⟩ = pure (.int n t, [.ref x]) := rfl
  have e2 : Builtin.Int.intOfSelf (.int n t) = pure n := rfl
  unfold Builtin.Int.intBinary
  refine wpAny_bind (wpAny_of_eq e1 (wpAny_bind (wpAny_of_eq e2 (wpAny_bind ?_))))
  show wpAny _ _ (load x >>= fun o => match o.data with | .prim (.int i _) => pure (some i) | _ => pure none) _ _ _
  refine wpAny_bind (wpAny_load ho ?_)
  have e : (match ox.data with | .prim (.int i _) => (pure (some i) : Sem (Option Int)) | _ => pure none) = pure none := by
    split
    · next i t' e => exact absurd e (hd i t')
    · rfl
  rw [e]
  exact wpAny_pure (wpAny_bind (wpAny_rule (wpAny_pure ⟨_, rfl, h⟩)))
/-- n op x: the int declines, x's class has the reflected method -/
theorem bin_refl {op : Operator} {id nm : String} {g : Int → Int → Sem Fin} {n : Int} {t : Tok} {f0 : Addr} {Q : Value → Shared → Prop} (X : K.In s.heap) (I : PySem.W.InstAt s.heap x ox C od) (hc : PySem.W.selfFirst K C = true)
    (hd : ∀ i t, ox.data ≠ .prim (.int i t)) (fillsT : fillsNumberSlot (.type "int") op.info.2 = pure true) (slot : Slot "int" (PySem.dunder op.info.2) id) (entry : entryFor table id = some (Builtin.Int.intBinary nm g)) (args : argsOk id ⟨[.int n t, .ref x], []⟩)
    (hs0 : PySem.W.findIn K (.ref C) (PySem.dunder op.info.2) = some (some (.ref f0))) (hs : PySem.W.findIn K (.ref C) (dunderR op.info.2) = some (some (.ref f))) (hf : PySem.W.isFn K (.ref f) = true) (hsub : PySem.W.subIn K (.ref C) (.type "int") = some false)
    (h : wpAny (model prog w) A (call (.ref f) [.ref x, .int n t]) (PySem.W.CmpBack Q) E s) : wpAny (model prog w) A (binaryOp op (.int n t) (.ref x)) Q E s := by
  obtain ⟨cd, rest, hcd, hm⟩ := PySem.W.ksp_first hc
  rcases hi : op.info with ⟨sym, nm'⟩
  rw [hi] at hs hs0 fillsT slot
  dsimp only at hs hs0 fillsT slot
  have one := PySem.W.ksp_try X I hs hf h
  have dec : ∀ {Q' : Value → Shared → Prop}, Q' .notImplemented s → wpAny (model prog w) A (call (.builtin id) [.int n t, .ref x]) Q' E s := fun q => int_declines slot entry args I.at_ hd q
  have L1 : PySem.W.Looks (model prog w) s.heap (typeOf (.int n t)) (.type "int") := PySem.W.Looks.of_pure rfl
  have L2 : PySem.W.Looks (model prog w) s.heap (typeOf (.ref x)) (.ref C) := I.type
  have L3 : PySem.W.Looks (model prog w) s.heap (fillsNumberSlot (.type "int") nm') true := PySem.W.Looks.of_pure fillsT
  have L4 : PySem.W.Looks (model prog w) s.heap (fillsNumberSlot (.ref C) nm') true := PySem.W.fills_K X hcd hm hs0
  have L5 : PySem.W.Looks (model prog w) s.heap (isSubtype (.ref C) (.type "int")) false := PySem.W.looks_subIn X hsub
  have L7 : PySem.W.Looks (model prog w) s.heap (numberSlotInPython (.type "int") nm') false := PySem.W.Looks.of_pure rfl
  have hne : (Value.type "int" == Value.ref C) = false := Bool.eq_false_iff.mpr fun q => by cases beq_iff_eq.mp q
  obtain ⟨hh, g', d, tt, os⟩ := s
  simp only [binaryOp, hi]
  refine wpAny_holding (wpAny_bind ?_)
  unfold binaryOp1
  refine wpAny_bind (L1.at (wpAny_bind (L2.at (wpAny_bind (L3.at ?_)))))
  simp only [hne, Bool.false_eq_true, if_false]
  refine wpAny_bind (L4.at ?_)
  simp only [Bool.and_self, if_true]
  refine wpAny_bind (L5.at ?_)
  simp only [Bool.false_eq_true, if_false, pure_bind, Bool.not_false, Bool.and_self, if_true]
  refine wpAny_bind (L7.at ?_)
  simp only [Bool.false_eq_true, if_false, pure_bind, Bool.not_false, Bool.and_self, if_true]
  refine wpAny_bind (wpAny_tryMethod_declines (typeIs_int _ n t) slot (dec ⟨rfl, ?_⟩))
  refine wpAny_bind (wpAny_mono one (fun r s' hr' => ?_) fun _ _ e => e)
  obtain ⟨v, rfl, hq⟩ := hr'
  exact wpAny_bind (wpAny_rule (wpAny_pure (wpAny_pure hq)))
/-- the first part of an operator: both of one own class -/
theorem bin1_same {nm : String} {b : Value} {Q : Option Value → Shared → Prop} (X : K.In s.heap) (I : PySem.W.InstAt s.heap x ox C od) (hb : PySem.W.Looks (model prog w) s.heap (typeOf b) (.ref C)) (hc : PySem.W.selfFirst K C = true)
    (hs : PySem.W.findIn K (.ref C) (PySem.dunder nm) = some (some (.ref f))) (hf : PySem.W.isFn K (.ref f) = true)
    (h : wpAny (model prog w) A (call (.ref f) [.ref x, b]) (PySem.W.CmpBack fun v s' => Q (some v) s') E s) : wpAny (model prog w) A (binaryOp1 nm (.ref x) b) Q E s := by
  obtain ⟨cd, rest, hcd, hm⟩ := PySem.W.ksp_first hc
  unfold binaryOp1
  refine wpAny_bind (I.type.here (wpAny_bind (hb.here (wpAny_bind ((PySem.W.fills_K X hcd hm hs).here ?_)))))
  simp only [beq_self_eq_true, if_true]
  refine wpAny_bind (wpAny_pure ?_)
  simp only [Bool.and_false, Bool.false_eq_true, if_false, Bool.false_and]
  refine wpAny_bind (wpAny_pure ?_)
  simp only [Bool.false_eq_true, if_false]
  refine wpAny_bind (m := tryMethod (.ref x) _ b) ?_
  unfold tryMethod
  refine wpAny_bind (PySem.W.special_fn X I hs (beq_iff_eq.mp hf) (wpAny_mono h (fun v s' hv => ?_) fun _ _ e => e))
  cases v <;> first | exact hv.elim | exact wpAny_pure (wpAny_pure hv)
/-- .. the right one an int -/
theorem bin1_int {nm : String} {n : Int} {t : Tok} {fo ro rc : Option Value} {Q : Option Value → Shared → Prop} (X : K.In s.heap) (I : PySem.W.InstAt s.heap x ox C od) (hc : PySem.W.selfFirst K C = true)
    (hs : PySem.W.findIn K (.ref C) (PySem.dunder nm) = some (some (.ref f))) (hf : PySem.W.isFn K (.ref f) = true) (hr : PySem.W.findIn K (.ref C) (dunderR nm) = some rc) (hp : rc = none ∨ ∃ g : Addr, rc = some (.ref g))
    (h1 : PySem.W.findIn K (.type "int") (PySem.dunder nm) = some fo) (h2 : PySem.W.findIn K (.type "int") (dunderR nm) = some ro) (hsub : PySem.W.subIn K (.type "int") (.ref C) = some false)
    (h : wpAny (model prog w) A (call (.ref f) [.ref x, .int n t]) (PySem.W.CmpBack fun v s' => Q (some v) s') E s) : wpAny (model prog w) A (binaryOp1 nm (.ref x) (.int n t)) Q E s := by
  obtain ⟨cd, rest, hcd, hm⟩ := PySem.W.ksp_first hc
  have one := PySem.W.ksp_try X I hs hf h
  obtain ⟨hh, g, d, tt, os⟩ := s
  have L1 : PySem.W.Looks (model prog w) hh (typeOf (.ref x)) (.ref C) := I.type
  have L2 : PySem.W.Looks (model prog w) hh (typeOf (.int n t)) (.type "int") := PySem.W.Looks.of_pure rfl
  have L3 : PySem.W.Looks (model prog w) hh (fillsNumberSlot (.ref C) nm) true := PySem.W.fills_K X hcd hm hs
  have L4 : PySem.W.Looks (model prog w) hh (fillsNumberSlot (.type "int") nm) ((fo.isSome && !isSeqSlot fo) || (ro.isSome && !isSeqSlot ro)) := PySem.W.ksp_fillsT X h1 h2
  have L5 : PySem.W.Looks (model prog w) hh (isSubtype (.type "int") (.ref C)) false := PySem.W.looks_subIn X hsub
  have L6 : PySem.W.Looks (model prog w) hh (numberSlotInPython (.ref C) nm) true := PySem.W.ksp_inPy X hs hr hp
  have L7 : PySem.W.Looks (model prog w) hh (numberSlotInPython (.type "int") nm) false := PySem.W.Looks.of_pure rfl
  have L8 : PySem.W.Looks (model prog w) hh (typeLookup (.type "int") (dunderR nm)) ro := PySem.W.looks_findIn X h2
  generalize ((fo.isSome && !isSeqSlot fo) || (ro.isSome && !isSeqSlot ro)) = right at L4
  have hne : (Value.ref C == Value.type "int") = false := Bool.eq_false_iff.mpr fun q => by cases beq_iff_eq.mp q
  unfold binaryOp1
  refine wpAny_bind (L1.at (wpAny_bind (L2.at (wpAny_bind (L3.at ?_)))))
  simp only [hne, Bool.false_eq_true, if_false]
  open PySem.W in
  cases right with
  | false =>
    ksp_lk
    refine wpAny_mono one (fun r s' hr' => ?_) fun _ _ e => e
    obtain ⟨v, rfl, hq⟩ := hr'
    ksp_lk
    exact hq
  | true =>
    ksp_lk
    refine wpAny_mono one (fun r s' hr' => ?_) fun _ _ e => e
    obtain ⟨v, rfl, hq⟩ := hr'
    ksp_lk
    exact hq
/-- no method of the place -/
theorem no_inplace {M : Model} {h : Heap} {nm : String} {add : Bool} {cd : ClassData} (X : K.In h) (hcd : PySem.W.clsIn K C = some cd) (hm : cd.mro = [.ref C, .type "object"]) (h1 : PySem.W.findIn K (.ref C) (dunderI nm) = some none) (h2 : PySem.W.findIn K (.type "object") (dunderI nm) = some none) :
    PySem.W.Looks M h (fillsInplaceSlot (.ref C) nm add) false := by
  intro A Q E s k q
  have Lm : PySem.W.Looks M h (mroOf (.ref C)) cd.mro := (PySem.W.looks_clsIn X hcd).andThen (f := fun cd => pure cd.mro) .now
  have Lm' := Lm.keeps k
  obtain ⟨hh, g, d, tt, os⟩ := s
  have X' : K.In hh := X.keeps k
  have L1 : PySem.W.Looks M hh (typeLookup (.ref C) (dunderI nm)) none := PySem.W.looks_findIn X' h1
  have L2 : PySem.W.Looks M hh (typeLookup (.type "object") (dunderI nm)) none := PySem.W.looks_findIn X' h2
  unfold fillsInplaceSlot
  refine wpAny_bind (Lm'.at ?_)
  rw [hm, List.anyM_cons]
  refine wpAny_bind (wpAny_bind (L1.at (wpAny_pure ?_)))
  simp only [Bool.false_eq_true, if_false]
  rw [List.anyM_cons]
  refine wpAny_bind (wpAny_bind (L2.at (wpAny_pure ?_)))
  simp only [Bool.false_eq_true, if_false]
  exact wpAny_pure q
theorem inpl_own {op : Operator} {b : Value} {cd : ClassData} {Q : Value → Shared → Prop} (X : K.In s.heap) (I : PySem.W.InstAt s.heap x ox C od) (hcd : PySem.W.clsIn K C = some cd) (hm : cd.mro = [.ref C, .type "object"]) (h1 : PySem.W.findIn K (.ref C) (dunderI op.info.2) = some none) (h2 : PySem.W.findIn K (.type "object") (dunderI op.info.2) = some none)
    (h : wpAny (model prog w) A (binaryOp1 op.info.2 (.ref x) b) (fun r s' => ∃ v, r = some v ∧ Q v s') E s) : wpAny (model prog w) A (inplaceOp op (.ref x) b) Q E s := by
  obtain ⟨hh, g, d, tt, os⟩ := s
  have L1 : PySem.W.Looks (model prog w) hh (typeOf (.ref x)) (.ref C) := I.type
  have L2 : PySem.W.Looks (model prog w) hh (fillsInplaceSlot (.ref C) op.info.2 (op == .Add)) false := no_inplace X hcd hm h1 h2
  unfold inplaceOp
  refine wpAny_holding (wpAny_bind (L1.at (wpAny_bind (L2.at ?_))))
  simp only [Bool.false_eq_true, if_false]
  refine wpAny_bind (wpAny_mono h (fun r s' hr => ?_) fun _ _ e => e)
  obtain ⟨v, rfl, q⟩ := hr
  exact wpAny_pure q
end
/-! ### the same by values -/
/-- the class at C has the plain mro and no method of the place for op -/
structure NoI (K : PySem.W.Frag) (C : Addr) (nm : String) : Prop where
  ex : ∃ cd, PySem.W.clsIn K C = some cd ∧ cd.mro = [.ref C, .type "object"]
  i1 : PySem.W.findIn K (.ref C) (dunderI nm) = some none
  i2 : PySem.W.findIn K (.type "object") (dunderI nm) = some none
/-- what int's own operator is -/
structure IntOp (op : Operator) : Prop where
  ex : ∃ id nm g, fillsNumberSlot (.type "int") op.info.2 = pure true ∧ Slot "int" (PySem.dunder op.info.2) id ∧ entryFor table id = some (Builtin.Int.intBinary nm g) ∧ ∀ (n : Int) (t : Tok) (x : Addr), argsOk id ⟨[.int n t, .ref x], []⟩
theorem io_add : IntOp .Add := ⟨_, _, _, F.fills_int_add, F.slot_int_add, F.entry_int_add, fun _ _ _ => F.args_int_add_2 _ _⟩
theorem io_sub : IntOp .Sub := ⟨_, _, _, F.fills_int_sub, F.slot_int_sub, F.entry_int_sub, fun _ _ _ => F.args_int_sub_2 _ _⟩
theorem io_mul : IntOp .Mult := ⟨_, _, _, F.fills_int_mul, F.slot_int_mul, F.entry_int_mul, fun _ _ _ => F.args_int_mul_2 _ _⟩
section
variable {X : Cx} {k : Nat} {C : Addr} {sp : Sp} {E : XK}
def rOwnR (C : Addr) (sp : Sp) (E : XK) : R2 := fun x y H Q => ∃ n a dx fs, x = .int n ∧ y = .ref a ∧ H a = some (.ins C dx fs) ∧ sp [.ref a, .int n] H Q E
theorem op_ownR {op : Operator} (F : MeI X.prog X.w X.K X.mg X.base C (dunderR op.info.2) k sp) (i : IntOp op) (h0 : ∃ f0 : Addr, PySem.W.findIn X.K (.ref C) (PySem.dunder op.info.2) = some (some (.ref f0))) (sf : PySem.W.selfFirst X.K C = true)
    (hsub : PySem.W.subIn X.K (.ref C) (.type "int") = some false) (hr : Room k X.A) (hx : Passes (L2.CX X.prog X.w) X E) : OpR X (binaryOp op) (rOwnR C sp E) := by
  obtain ⟨f, fd, ps, c, M, G, hb⟩ := F.ex
  obtain ⟨id, nm, g, h1, h2, h3, h4⟩ := i.ex
  obtain ⟨f0, h0⟩ := h0
  intro pins s σ H x y v u Q I rx ry h
  obtain ⟨n, a, dx, fs, rfl, rfl, ha, q⟩ := h
  obtain ⟨t, rfl⟩ := rx
  cases ry
  obtain ⟨mA, J, _⟩ := ins_get I.hok ha
  obtain ⟨od, J, _⟩ := J.look
  exact bin_refl I.kIn J sf (fun i t e => nomatch e) h1 h2 h3 (h4 n t a) h0 M.at_ M.fn hsub (run_own (vs := [.ref a, .int n]) G hr hb hx I (.cons rfl (.cons ⟨_, rfl⟩ .nil)) q)
theorem back_opt {Q : Value → Shared → Prop} {v : Value} {s' : Shared} (h : PySem.W.CmpBack Q v s') : PySem.W.CmpBack (fun v s' => ∃ w, some v = some w ∧ Q w s') v s' := by
  cases v <;> first | exact h.elim | exact ⟨_, rfl, h⟩
theorem iop_own {op : Operator} (F : MeI X.prog X.w X.K X.mg X.base C (PySem.dunder op.info.2) k sp) (no : NoI X.K C op.info.2) (sf : PySem.W.selfFirst X.K C = true) (hr : Room k X.A) (hx : Passes (L2.CX X.prog X.w) X E) : OpR X (inplaceOp op) (rOwn C sp E) := by
  obtain ⟨f, fd, ps, c, M, G, hb⟩ := F.ex
  obtain ⟨cd, hcd, hm⟩ := no.ex
  intro pins s σ H x y v u Q I rx ry h
  obtain ⟨a, b, dx, dy, fs, gs, rfl, rfl, ha, hb', q⟩ := h
  cases rx
  cases ry
  obtain ⟨mA, J, _⟩ := ins_get I.hok ha
  obtain ⟨mB, J', _⟩ := ins_get I.hok hb'
  obtain ⟨od, J, _⟩ := J.look
  obtain ⟨od', J', _⟩ := J'.look
  exact inpl_own I.kIn J hcd hm no.i1 no.i2 (bin1_same I.kIn J J'.type sf M.at_ M.fn (thn (run_own (vs := [.ref a, .ref b]) G hr hb hx I (.cons rfl (.cons rfl .nil)) q) fun _ _ z => back_opt z))
theorem iop_ownI {op : Operator} {rc : Option Value} (F : MeI X.prog X.w X.K X.mg X.base C (PySem.dunder op.info.2) k sp) (no : NoI X.K C op.info.2) (sf : PySem.W.selfFirst X.K C = true) (hrc : PySem.W.findIn X.K (.ref C) (dunderR op.info.2) = some rc) (hp : rc = none ∨ ∃ g : Addr, rc = some (.ref g))
    (hi : ∃ fo ro, PySem.W.findIn X.K (.type "int") (PySem.dunder op.info.2) = some fo ∧ PySem.W.findIn X.K (.type "int") (dunderR op.info.2) = some ro ∧ PySem.W.subIn X.K (.type "int") (.ref C) = some false)
    (hr : Room k X.A) (hx : Passes (L2.CX X.prog X.w) X E) : OpR X (inplaceOp op) (rOwnI C sp E) := by
  obtain ⟨f, fd, ps, c, M, G, hb⟩ := F.ex
  obtain ⟨fo, ro, h1, h2, h3⟩ := hi
  obtain ⟨cd, hcd, hm⟩ := no.ex
  intro pins s σ H x y v u Q I rx ry h
  obtain ⟨a, n, dx, fs, rfl, rfl, ha, q⟩ := h
  cases rx
  obtain ⟨t, rfl⟩ := ry
  obtain ⟨mA, J, _⟩ := ins_get I.hok ha
  obtain ⟨od, J, _⟩ := J.look
  exact inpl_own I.kIn J hcd hm no.i1 no.i2 (bin1_int I.kIn J sf M.at_ M.fn hrc hp h1 h2 h3 (thn (run_own (vs := [.ref a, .int n]) G hr hb hx I (.cons rfl (.cons ⟨_, rfl⟩ .nil)) q) fun _ _ z => back_opt z))
end
end Xl

namespace Xl
open PySem PySem.Spec PyProof.Rows L2
/-! ### calls in a try: what they let out depends on the slots -/
section
variable {X : Cx} {k : Nat} {C f : Addr} {fd : FuncData} {ps : List Str} {sp : Sp} {W : WX} {x m : Str} {p pos apos : Pos} {e o : Expr} {es : List Expr} {t : TA} {ta : TE}
/-- the callee ends -/
theorem end_fnS {E : XK} {pins : List (Addr × Obj)} {σ : L2.St} {H : Hp} {s : Shared} {Q : VK} {vs : List V} {us : List Value} {a : Args} (F : FnOk X.prog X.w X.K X.mg X.base (L2.CX X.prog X.w) k f fd ps sp) (hr : Room k X.A) (hx : PassesAt (L2.CX X.prog X.w) X σ E)
    (I : Inv X pins σ H s) (hb : BindsTo s fd a (ps.zip us)) (r : Vals vs us) (h : sp vs H Q E) : codeAny (model X.prog X.w) X.A (.call (.ref f) a) (fun r s' => match r with | .ok (.ret v) => EP X pins σ Q v s' | .ok _ => False | .error e => X.xe e s') s := by
  refine codeAny_mono (F.run X.A X.stack s H a us vs Q E hr I.env0 hb r h) fun r s' hq => ?_
  cases r with
  | error e => exact hx pins H s e s' I hq
  | ok fl =>
    cases fl with
    | ret u => exact I.after hq
    | next => exact False.elim hq
    | brk => exact False.elim hq
    | cont => exact False.elim hq
theorem pe_fS (F : FnI X.prog X.w X.K X.mg X.base x k ps sp) (hr : Room k X.A) (tk : Takes X W) (ha : PA X (e :: es) t) (hg : Gl X x := by rfl)
    (hdb : (x == ("__debug__" : Str)) = false := by decide) (he : starEach (e :: es) X.env = (false, eval e X.env) :: starEach es X.env := by rfl) (hpl : (backTo pos (starEach es X.env)).any (·.1) = false := by rfl) :
    PE X (.Call (.Name x p) (e :: es) [] pos) (tCallS sp (WE W) t) := by
  obtain ⟨f, fd, h1, h2, h3, h4⟩ := F.ex
  exact pe_callS h1 hr hg h2 h3 h4 (passAt tk) ha hdb he hpl
theorem run_makeS {E : XK} {ds : List Value} {dvs : List V} {pins : List (Addr × Obj)} {σ : L2.St} {H : Hp} {s : Shared} {Q : VK} {us : List Value} {vs : List V} (M : Mk X.K C f) (F : FnOk X.prog X.w X.K X.mg X.base (L2.CX X.prog X.w) k f fd ps sp) (hr : Room (k + 1) X.A) (hb : Binds X.K fd ps ds) (hd : Vals dvs ds)
    (hx : PassesAt (L2.CX X.prog X.w) X σ E) (I : Inv X pins σ H s) (r : Vals vs us)
    (h : ∀ x dx, H x = none → H dx = none → dx ≠ x → sp (.ref x :: (vs ++ dvs)) (upd (upd H dx (.own x)) x (.ins C dx [])) (fun v H2 => v = .non ∧ Q (.ref x) H2) E) :
    wpAny (model X.prog X.w) X.A (call (.ref C) us) (EP X pins σ Q) X.xe s := by
  have hq := h (s.heap.objs.size + 1) s.heap.objs.size (I.hok.fresh (Nat.le_succ _)) (I.hok.fresh (Nat.le_refl _)) (Nat.ne_of_lt (Nat.lt_succ_self _))
  have I2 := Inv.made (C := C) I
  have r2 : Vals (V.ref (s.heap.objs.size + 1) :: (vs ++ dvs)) (Value.ref (s.heap.objs.size + 1) :: (us ++ ds)) := .cons rfl (r.append hd)
  have hl : (Value.ref (s.heap.objs.size + 1) :: us ++ ds).length = ps.length := by
    have e := r2.length
    rw [F.len _ _ _ _ hq] at e
    exact e.symm
  refine wpAny_call (make_map (f := f) I.kIn M.makes M.init (beq_iff_eq.mp M.fn) (codeAny_mono (F.run _ X.stack _ _ ⟨Value.ref (s.heap.objs.size + 1) :: us, []⟩ (Value.ref (s.heap.objs.size + 1) :: (us ++ ds)) _ _ E (hr.make C us [])
    (I2.env0.make C us []) (hb _ (Value.ref (s.heap.objs.size + 1) :: us) I2.kIn hl) r2 hq) fun r s' hq' => ?_))
  cases r with
  | error e => exact hx pins _ _ e s' I2 hq'
  | ok fl =>
    cases fl with
    | ret u =>
      obtain ⟨v, H', I3, rv, ev, q3⟩ := I2.after hq'
      subst ev
      exact ⟨rv, ⟨V.ref (s.heap.objs.size + 1), H', I3, rfl, q3⟩⟩
    | next => exact False.elim hq'
    | brk => exact False.elim hq'
    | cont => exact False.elim hq'
theorem pe_mkS (F : MkI X.prog X.w X.K X.mg X.base C k sp) (hr : Room (k + 1) X.A) (hm : X.mg x = some (.ref C)) (tk : Takes X W) (ha : PA X (e :: es) t) (hg : Gl X x := by rfl)
    (hdb : (x == ("__debug__" : Str)) = false := by decide) (he : starEach (e :: es) X.env = (false, eval e X.env) :: starEach es X.env := by rfl) (hpl : (backTo pos (starEach es X.env)).any (·.1) = false := by rfl) :
    PE X (.Call (.Name x p) (e :: es) [] pos) (tCallS sp (WE W) t) := by
  obtain ⟨f, fd, ps, dvs, ds, sp0, M, G, hd, hb, conv⟩ := F.ex
  refine ⟨fun pins s σ H Q I h => ?_⟩
  refine wpAny_Call_Name_kw (ld_glob I hg hm ?_ hdb)
  refine PySem.W.callWith_K (h₀ := X.base) I.ok.mod.kin M.kp (thn (ha.run pos pins s σ H _ I h) fun us s1 ⟨vs, H1, I1, r, q⟩ => ⟨I1.kIn, ?_⟩) he hpl
  exact run_makeS M G hr hb hd (passAt tk σ) I1 r (conv vs H1 Q _ q)
end
section
variable {X : Cx} {k : Nat} {ps : List Str} {sp : Sp} {W : WX} {x : Str} {p pos : Pos}
def tCallWS (n : Nat) (sp : Sp) (E : L2.St → XK) (tk : TA) : TE := fun σ H Q => tk σ H fun zs H2 => zs.length = n ∧ sp zs H2 Q (E σ)
theorem pe_fKS {kws : List Keyword} {t : TA} (F : FnK X.prog X.w X.K X.mg X.base x k ps sp) (hr : Room k X.A) (tk : Takes X W) (hkw : PK X kws t) (hg : Gl X x := by rfl)
    (hall : (backToKw pos (keywordEach kws X.env)).all (·.1.isSome) = true := by rfl) (hks : (backToKw pos (keywordEach kws X.env)).filterMap (·.1) = ps := by rfl) (hdb : (x == ("__debug__" : Str)) = false := by decide)
    (hpl : ((backTo pos (starEach [] X.env)).any (·.1) || (backToKw pos (keywordEach kws X.env)).any (·.1.isNone)) = false := by rfl) :
    PE X (.Call (.Name x p) [] kws pos) (tCallWS ps.length sp (WE W) t) := by
  obtain ⟨f, fd, h1, h2, h3, h4⟩ := F.ex
  refine ⟨fun pins s σ H Q I h => ?_⟩
  refine wpAny_Call_Name_kw (ld_glob I hg h2 ?_ hdb)
  refine PySem.W.callWith_KW0 (h₀ := X.base) I.ok.mod.kin h3 hall ?_ hpl
  refine thn (hkw.run pos pins s σ H _ I h) fun ws s2 ⟨zs, H2, I2, rz, l1, q2⟩ => ⟨I2.kIn, ?_⟩
  rw [hks]
  exact wpAny_call (end_fnS h1 hr (passAt tk σ) I2 (h4 s2 ws (by rw [← rz.length]; exact l1)) rz q2)
end
/-! ### classmethods -/
structure CmI (P : Program) (w : World) (K : PySem.W.Frag) (mg : Str → Option Value) (base : Heap) (C : Addr) (m : Str) (k : Nat) (ks : List Str) (sp : Sp) : Prop where
  ex : ∃ mc p g fd c, ClX.CRead K C mc ∧ ClX.CMet K C mc m p g ∧ FnOk P w K mg base (L2.CX P w) k g fd (c :: ks) sp ∧ Binds K fd (c :: ks) [] ∧
    ∀ (s : Shared) (c0 : Value) (ws : List Value), ws.length = ks.length → BindsTo s fd ⟨[c0], ks.zip ws⟩ ((c :: ks).zip (c0 :: ws))
section
variable {X : Cx} {k : Nat} {C : Addr} {ks : List Str} {sp : Sp} {E : XK} {W : WX} {m : Str} {apos pos : Pos} {e o : Expr} {es : List Expr} {t tk : TA} {ta : TE}
theorem raw0 {P : Program} {w : World} {K : PySem.W.Frag} {mg : Str → Option Value} {base : Heap} {f : Addr} {fd : FuncData} {ps : List Str} (F : FnOk P w K mg base (L2.CX P w) k f fd ps sp) (hb : Binds K fd ps []) : FnR P w K mg base (L2.CX P w) k f sp :=
  FnR.imp (FnOk.raw (dvs := []) F hb .nil) fun vs H Q E h => by rw [List.append_nil]; exact h
theorem pe_cm {pl : Sem Bool} (F : CmI X.prog X.w X.K X.mg X.base C m k ks sp) (hr : Room k X.A) (hx : Passes (L2.CX X.prog X.w) X E) (he : PE X o ta) (ha : PA X (e :: es) t)
    (hst : starEach (e :: es) X.env = (false, eval e X.env) :: starEach es X.env := by rfl) (hpl : (backTo pos (starEach es X.env)).any (·.1) = false := by rfl)
    (ht : eval (.Call (.Attribute o m apos) (e :: es) [] pos) X.env = (do
      let ov ← eval o X.env
      standAt apos.atName
      let (f, first) ← holding [ov] (getMethod ov m pl)
      callWith pos f first (backTo pos (starEach (e :: es) X.env)) (backToKw pos (keywordEach [] X.env))) := by rfl) :
    PE X (.Call (.Attribute o m apos) (e :: es) [] pos) (ClX.tCMeth C sp E ta t) := by
  obtain ⟨mc, p, g, fd, c, h1, h2, h3, h4, _⟩ := F.ex
  exact ClX.pe_cmeth he h1 h2 (raw0 h3 h4) hr hx ha hst hpl ht
def tCMethS (C : Addr) (sp : Sp) (E : L2.St → XK) (ta : TE) (t : TA) : TE := fun σ H Q => ta σ H fun x H1 => x = .ref C ∧ t σ H1 fun vs H2 => sp (.ref C :: vs) H2 Q (E σ)
theorem pe_cmS {pl : Sem Bool} (F : CmI X.prog X.w X.K X.mg X.base C m k ks sp) (hr : Room k X.A) (tk : Takes X W) (he : PE X o ta) (ha : PA X (e :: es) t)
    (hst : starEach (e :: es) X.env = (false, eval e X.env) :: starEach es X.env := by rfl) (hpl : (backTo pos (starEach es X.env)).any (·.1) = false := by rfl)
    (ht : eval (.Call (.Attribute o m apos) (e :: es) [] pos) X.env = (do
      let ov ← eval o X.env
      standAt apos.atName
      let (f, first) ← holding [ov] (getMethod ov m pl)
      callWith pos f first (backTo pos (starEach (e :: es) X.env)) (backToKw pos (keywordEach [] X.env))) := by rfl) :
    PE X (.Call (.Attribute o m apos) (e :: es) [] pos) (tCMethS C sp (WE W) ta t) := by
  obtain ⟨mc, p, g, fd, c, r, c', G, hb, _⟩ := F.ex
  refine ⟨fun pins s σ H Q I h => ?_⟩
  refine PySem.W.methodCall_KW (pl := pl) (thn (he.run pins s σ H _ I h) fun u s1 ⟨x, H1, I1, rx, ex, q⟩ => ?_) ht
  subst ex
  obtain rfl : u = Value.ref C := rx
  refine ClX.getmethcm_ok I1 r c' fun s2 I2 => ?_
  refine ClX.callwith_cm I2 (ClX.base_none I1 (Nat.le_refl _)) c'.fi (thn (ha.run pos _ s2 σ H1 _ I2 q) fun us s3 ⟨vs, H2, I3, rv, q2⟩ => ⟨⟨ClX.pin_at I3, I3.kIn⟩, ?_⟩) hst hpl
  have hl : (Value.ref C :: us).length = (c :: ks).length := by
    have := G.len _ _ _ _ q2
    rw [List.length_cons, rv.length] at this
    rw [List.length_cons]
    exact this
  have hb2 := hb s3 (.ref C :: us) I3.kIn (by rw [List.append_nil]; exact hl)
  rw [List.append_nil] at hb2
  exact thn (wpAny_call (PySem.W.method_call (ClX.pin_at I3) (end_fnS (vs := .ref C :: vs) G hr (passAt tk σ) I3 hb2 (.cons rfl rv) q2))) fun _ _ y => ClX.unpinE (p := (s1.heap.objs.size, PySem.W.methodObj (.ref g) (.ref C))) y
/-- C.m(k = v, ..) -/
def tCMethK (C : Addr) (n : Nat) (sp : Sp) (E : XK) (ta : TE) (t : TA) : TE := fun σ H Q => ta σ H fun x H1 => x = .ref C ∧ t σ H1 fun vs H2 => vs.length = n ∧ sp (.ref C :: vs) H2 Q E
theorem pe_cmK {kws : List Keyword} {pl : Sem Bool} (F : CmI X.prog X.w X.K X.mg X.base C m k ks sp) (hr : Room k X.A) (hx : Passes (L2.CX X.prog X.w) X E) (he : PE X o ta) (hkw : PK X kws tk)
    (hall : (backToKw pos (keywordEach kws X.env)).all (·.1.isSome) = true := by rfl) (hks : (backToKw pos (keywordEach kws X.env)).filterMap (·.1) = ks := by rfl)
    (hpl : ((backTo pos (starEach [] X.env)).any (·.1) || (backToKw pos (keywordEach kws X.env)).any (·.1.isNone)) = false := by rfl)
    (ht : eval (.Call (.Attribute o m apos) [] kws pos) X.env = (do
      let ov ← eval o X.env
      standAt apos.atName
      let (f, first) ← holding [ov] (getMethod ov m pl)
      callWith pos f first (backTo pos (starEach [] X.env)) (backToKw pos (keywordEach kws X.env))) := by rfl) :
    PE X (.Call (.Attribute o m apos) [] kws pos) (tCMethK C ks.length sp E ta tk) := by
  obtain ⟨mc, p, g, fd, c, r, c', G, _, hb⟩ := F.ex
  refine ⟨fun pins s σ H Q I h => ?_⟩
  refine PySem.W.methodCall_KW (pl := pl) (thn (he.run pins s σ H _ I h) fun u s1 ⟨x, H1, I1, rx, ex, q⟩ => ?_) ht
  subst ex
  obtain rfl : u = Value.ref C := rx
  refine ClX.getmethcm_ok I1 r c' fun s2 I2 => ?_
  refine PySem.W.callWith_of (P := PySem.W.MethP X.K s1.heap.objs.size g (.ref C)) hpl (PySem.W.keeps_M c'.fi) (evalArgs_kw2_nil hall ?_)
  refine thn (hkw.run pos _ s2 σ H1 _ I2 q) fun ws s3 ⟨zs, H2, I3, rz, l1, q2⟩ => ⟨⟨ClX.pin_at I3, I3.kIn⟩, ?_⟩
  rw [hks]
  refine thn (wpAny_call (PySem.W.method_call (ClX.pin_at I3) ?_)) fun _ _ y => ClX.unpinE (p := (s1.heap.objs.size, PySem.W.methodObj (.ref g) (.ref C))) y
  refine codeAny_mono (G.run X.A X.stack s3 H2 ⟨[.ref C], ks.zip ws⟩ (.ref C :: ws) (.ref C :: zs) Q E hr I3.env0 (hb s3 (.ref C) ws (by rw [← rz.length]; exact l1)) (.cons rfl rz) q2) fun r s' hq => ?_
  cases r with
  | error e => exact hx _ σ H2 s3 e s' I3 hq
  | ok fl =>
    cases fl with
    | ret u => exact I3.after hq
    | next => exact False.elim hq
    | brk => exact False.elim hq
    | cont => exact False.elim hq
end
/-! ### isinstance(e, C), e the caught error, which has fields -/
structure XkC (K : PySem.W.Frag) (C : Addr) : Prop where
  ha : PySem.W.findIn K (.ref C) "__class__" = some (some (.builtin "object.__class__"))
  hn : PySem.W.specialIn K (.builtin "object.__class__") "__get__" = some (some (.builtin "getset_descriptor.__get__"))
  ht : PySem.W.takesIn K (.builtin "object.__class__") = some true
  hm : PySem.W.mroIn K C (.type "object") = some true
def rIsX (K : PySem.W.Frag) (D a : Addr) (cls : Value) (d : Option Addr) : List V → Hp → VK → Prop := fun xs H Q => ∃ (c : V) (cv : Value) (b : Bool) (dd : Addr) (fs : List (Str × V)),
  cls = .ref D ∧ d = some dd ∧ H dd = some (.xd fs) ∧ xs = [.ref a, c] ∧ (∀ u, RelV c u → u = cv) ∧ PySem.W.kitOne K (.ref D) cv = some b ∧ Q (.bl b) H
theorem call_isX {X : Cx} {a D : Addr} {oe : Obj} {cls : Value} {d : Option Addr} {pn : List (Addr × Obj)} (T : XfC X.K D) (C : XkC X.K D) (hz : Zc cls d oe) (hf : ∃ vs, oe.data = .fields vs) : CallR (X.suite a ((a, oe) :: pn)) (.builtin "isinstance") (rIsX X.K D a cls d) := by
  intro pins s σ H xs us Q I r h
  obtain ⟨c, cv, b, dd, fs, rfl, rfl, hdd, rfl, hcv, e, q⟩ := h
  cases r with
  | cons rx rr =>
    cases rr with
    | cons rt rr =>
      cases rr
      cases rx
      have ec := hcv _ rt
      subst ec
      obtain ⟨hget, _⟩ := I.pin (a, oe) (List.mem_append.mpr (.inl List.mem_cons_self))
      obtain ⟨vs, hv⟩ := hf
      have hx : ObjOk X.prog X.w H s.heap dd (.xd fs) := I.hok dd _ hdd
      obtain ⟨mA, hns, hr⟩ := hx
      obtain ⟨od, ho, hl⟩ := lookIn_ns hns
      have J : PySem.W.InstAt s.heap a oe D (some od) := ⟨hget, hz.1, by unfold PySem.W.notCls; rw [hv] <;> rfl, by rw [hz.2]; exact ho⟩
      have hcl : (PySem.W.clsIn X.K D).isSome = true := by
        obtain ⟨cd, hc, _⟩ := PySem.W.any_some T.hdC
        rw [hc]; rfl
      exact PySem.W.kia_one (PySem.W.kitx_exc hcl T.ga T.gg T.exC C.ha C.hn C.ht C.hm) I.kIn J e (fun z => nomatch z) fun tk => ⟨.bl b, H, I.kept (t' := tk) fun _ _ z => z, rfl, q⟩
end Xl

namespace Xl
open PySem PySem.Spec PyProof.Rows L2
/-! ### the class Ratio -/
/-- // by any divisor but 0, below 2 ^ 9000 in size -/
theorem op_fdivX {X : Cx} : OpR X (binaryOp .FloorDiv) (rI (fun _ j => j ≠ 0 ∧ j.natAbs.log2 < 9000) fun i j => .int (i.fdiv j)) := opI fun _ _ _ _ _ _ _ hc q => floordiv_int hc.1 q (.inl (PyProof.noPylong_of_log2 hc.2))
def ratF (p q : Int) : List (Str × V) := putF "lower" (.int q) (putF "upper" (.int p) [])
theorem ul : ¬ (("upper" : Str) = "lower") := by decide +kernel
theorem ratF_up (p q : Int) : (ratF p q).lookup ("upper" : Str) = some (.int p) := by
  unfold ratF
  rw [lookup_putF, if_neg ul, lookup_putF, if_pos rfl]
theorem ratF_lo (p q : Int) : (ratF p q).lookup ("lower" : Str) = some (.int q) := by
  unfold ratF
  rw [lookup_putF, if_pos rfl]
theorem ratF_no (p q : Int) {m : Str} (h1 : ¬ m = "lower") (h2 : ¬ m = "upper") : (ratF p q).lookup m = none := by
  unfold ratF
  rw [lookup_putF, if_neg h1, lookup_putF, if_neg h2]
  rfl
/-- the object at r is the ratio p / q -/
def RatO (C : Addr) (H : Hp) (r : Addr) (p q : Int) : Prop := Low p q ∧ ∃ dx, H r = some (.ins C dx (ratF p q))
theorem RatO.same {C : Addr} {H H' : Hp} {r : Addr} {p q : Int} (h : RatO C H r p q) (s : Same H H') : RatO C H' r p q := ⟨h.1, h.2.elim fun dx e => ⟨dx, s _ _ e⟩⟩
/-- a value that is a ratio or an integer -/
def Num (C : Addr) (H : Hp) (v : V) (p q : Int) : Prop := (v = .int p ∧ q = 1) ∨ ∃ r, v = .ref r ∧ RatO C H r p q
theorem Num.same {C : Addr} {H H' : Hp} {v : V} {p q : Int} (h : Num C H v p q) (s : Same H H') : Num C H' v p q := h.elim .inl fun ⟨r, e, h⟩ => .inr ⟨r, e, h.same s⟩
theorem Num.low {C : Addr} {H : Hp} {v : V} {p q : Int} (h : Num C H v p q) : Low p q := by
  rcases h with ⟨_, rfl⟩ | ⟨r, _, h⟩
  · exact low_one p
  · exact h.1
def spGcd : Sp := fun vs H Q _ => ∃ a b : Int, vs = [.int a, .int b] ∧ Q (.int (Int.gcd a b : Int)) H
/-- __init__ at a new instance -/
def spRin (C CO : Addr) : Sp := fun vs H Q E => ∃ (x dx : Addr) (t b : Int), vs = [.ref x, .int t, .int b] ∧ H x = some (.ins C dx []) ∧ (∃ n, n ≤ 8000 ∧ b.natAbs < 2 ^ n) ∧
  ((b ≠ 0 ∧ ∀ H', H' x = some (.ins C dx (ratF (nT t b) (nB t b))) → (∀ c o, H c = some o → c ≠ x → H' c = some o) → Q .non H') ∨
    (b = 0 ∧ ∀ d H', Same H H' → H d = none → H' d = some (.xd [("value", .int b)]) → E (.ref CO) (some d) H'))
/-- Ratio(t, b) -/
def spRat (C CO : Addr) : Sp := fun vs H Q E => ∃ t b : Int, vs = [.int t, .int b] ∧ (∃ n, n ≤ 8000 ∧ b.natAbs < 2 ^ n) ∧
  ((b ≠ 0 ∧ ∀ r H', Same H H' → H r = none → RatO C H' r (nT t b) (nB t b) → Q (.ref r) H') ∨
    (b = 0 ∧ ∀ d H', Same H H' → H d = none → H' d = some (.xd [("value", .int b)]) → E (.ref CO) (some d) H'))
/-- Ratio(t) -/
def spRat1 (C : Addr) : Sp := fun vs H Q _ => ∃ t : Int, vs = [.int t] ∧ ∀ r H', Same H H' → H r = none → RatO C H' r t 1 → Q (.ref r) H'
def spAs (C : Addr) : Sp := fun vs H Q _ => ∃ (v : V) (p q : Int), vs = [v] ∧ Num C H v p q ∧ ∀ r H', Same H H' → (v = .ref r ∨ H r = none) → RatO C H' r p q → Q (.ref r) H'
def spTop (C : Addr) : Sp := fun vs H Q _ => ∃ r p q, vs = [.ref r] ∧ RatO C H r p q ∧ Q (.int p) H
def spBot (C : Addr) : Sp := fun vs H Q _ => ∃ r p q, vs = [.ref r] ∧ RatO C H r p q ∧ Q (.int q) H
def sgn (p : Int) : Int := if p = 0 then 0 else if 0 < p then 1 else -1
def spSgn (C : Addr) : Sp := fun vs H Q _ => ∃ r p q, vs = [.ref r] ∧ RatO C H r p q ∧ Q (.int (sgn p)) H
/-- r == s, both ratios -/
def spReq (C : Addr) : Sp := fun vs H Q _ => ∃ r s p q p' q', vs = [.ref r, .ref s] ∧ RatO C H r p q ∧ RatO C H s p' q' ∧ Q (.bl (decide (p = p' ∧ q = q'))) H
/-- the text of a ratio -/
def rtext (p q : Int) : Str := if q = 1 then toString p else (toString p : Str) ++ "/" ++ (toString q : Str)
def spRstr (C : Addr) : Sp := fun vs H Q _ => ∃ r p q, vs = [.ref r] ∧ RatO C H r p q ∧ p.natAbs.log2 < 1920 ∧ q.natAbs.log2 < 1920 ∧ Q (.str (rtext p q)) H
theorem gcd_absl (a b : Int) : Int.gcd (if a < 0 then -a else a) b = Int.gcd a b := by
  split
  · exact Int.neg_gcd ..
  · rfl
theorem gcd_absr (a b : Int) : Int.gcd a (if b < 0 then -b else b) = Int.gcd a b := by
  split
  · exact Int.gcd_neg ..
  · rfl
theorem abs_nn (a : Int) : 0 ≤ (if a < 0 then -a else a) := by split <;> omega
section
variable {P : Program} {w : World} {K : PySem.W.Frag} {mg : Str → Option Value} {base : Heap}
abbrev N_common_divisor : List Str := ["first", "second"]
theorem sc_common_divisor : FnScope N_common_divisor ["first", "second"] (defScope s_common_divisor) := ⟨rfl, rfl, rfl, by decide +kernel, rfl, by decide +kernel, by decide +kernel⟩
theorem ok_common_divisor (T : GG K mg) : FnOk P w K mg base (L2.CX P w) 1 T.a_common_divisor T.fd_common_divisor ["first", "second"] spGcd := by
  refine okN T.F_common_divisor sc_common_divisor (fun vs H Q E h => ?_) (fun cdv A outer s H vs Q E hr h => ?_)
  · obtain ⟨a, b, rfl, _⟩ := h
    rfl
  · obtain ⟨a, b, rfl, k⟩ := h
    refine ⟨_, (pss_cons (ps_set (i := 0) sc_common_divisor.nd rfl (Or.inl rfl) (pe_callB call_abs rfl T.z_abs (by decide +kernel) (pa_cons (pv 0) pa_nil)))
      (pss_cons (ps_set (i := 1) sc_common_divisor.nd rfl (Or.inl rfl) (pe_callB call_abs rfl T.z_abs (by decide +kernel) (pa_cons (pv 1) pa_nil)))
      (pss_cut (ps_while PassesOwn.never (pt_cmpR op_ne (pv 1) pe_int (nomark _))
        (pss_one (ps_par (i := 0) (j := 1) rfl sc_common_divisor.nd rfl rfl (by decide) rfl rfl (pa_cons (pv 1) (pa_cons (pe_op op_mod (pv 0) (pv 1)) pa_nil)) rfl)))
      (pss_one (ps_ret (pv 0)))))), ?_⟩
    refine ⟨_, rfl, _, rfl, _, rfl, _, rfl, ?_⟩
    refine ⟨fun σ H1 => ∃ c, σ = [some (.int (Int.gcd a b : Int)), some c] ∧ H1 = H, ⟨fun m σ H1 => ∃ x y : Int, m = y.toNat ∧ 0 ≤ x ∧ 0 ≤ y ∧ σ = [some (.int x), some (.int y)] ∧ H1 = H ∧ Int.gcd x y = Int.gcd a b, ⟨_, _, _, rfl, abs_nn a, abs_nn b, rfl, rfl, ?_⟩, ?_⟩, ?_⟩
    · rw [gcd_absl, gcd_absr]
    · rintro m σ H1 ⟨x, y, rfl, hx, hy, rfl, rfl, hg⟩
      refine ⟨_, rfl, rfl, _, rfl, iteB (fun hne => ?_) (fun he => ?_)⟩
      · have hy0 : y ≠ 0 := by
          intro e
          subst e
          simp at hne
        refine ⟨_, fun _ _ z => z, ?_⟩
        refine ⟨_, rfl, _, rfl, _, rfl, _, _, rfl, rfl, (by omega), _, _, rfl, ?_⟩
        have h0 := Int.emod_nonneg x hy0
        have h1 := Int.emod_lt_of_pos x (show 0 < y by omega)
        exact ⟨(x % y).toNat, by omega, y, x % y, rfl, by omega, h0, rfl, rfl, by rw [gcd_step hx (by omega)]; exact hg⟩
      · have hy0 : y = 0 := by
          have z := bnf he
          have := of_decide_eq_true z
          exact V.int.inj this
        subst hy0
        have e : x = (Int.gcd a b : Int) := by
          rw [← hg, Int.gcd_zero_right]
          omega
        exact ⟨_, by rw [e], rfl⟩
    · rintro σ H1 ⟨c, rfl, rfl⟩
      exact ⟨_, rfl, k⟩
theorem F_common_divisor (T : GG K mg) : FnI P w K mg base "common_divisor" 1 ["first", "second"] spGcd :=
  ⟨T.a_common_divisor, T.fd_common_divisor, ok_common_divisor T, T.m_common_divisor, T.F_common_divisor.kp, T.F_common_divisor.binds fun _ _ _ _ _ _ us hl => match us, hl with | [_, _], _ => rfl⟩
abbrev N_Ratio___init__ : List Str := ["self", "top", "bottom", "divisor"]
theorem sc_Ratio___init__ : FnScope N_Ratio___init__ ["self", "top", "bottom"] (defScope s_Ratio___init__) := ⟨rfl, rfl, rfl, by decide +kernel, rfl, by decide +kernel, by decide +kernel⟩
theorem div_ok {t b : Int} (hb : b ≠ 0) (h : ∃ n, n ≤ 8000 ∧ b.natAbs < 2 ^ n) : sgcd t b ≠ 0 ∧ (sgcd t b).natAbs.log2 < 9000 := by
  obtain ⟨n, hn, hlt⟩ := h
  refine ⟨sgcd_ne hb, ?_⟩
  have e : (sgcd t b).natAbs ≤ b.natAbs := by
    rw [natAbs_sgcd]
    exact Nat.le_of_dvd (Int.natAbs_pos.mpr hb) (Int.ofNat_dvd_left.mp (Int.gcd_dvd_right ..))
  have h3 : (sgcd t b).natAbs < 2 ^ n := Nat.lt_of_le_of_lt e hlt
  have hn0 : 0 < n := by
    rcases Nat.eq_zero_or_pos n with z | z
    · subst z
      have : 0 < b.natAbs := Int.natAbs_pos.mpr hb
      omega
    · exact z
  have := PySem.Flt.log2_lt_of hn0 h3
  omega
theorem ok_Ratio___init__ (T : GG K mg) : FnOk P w K mg base (L2.CX P w) 3 T.a_Ratio___init__ T.fd_Ratio___init__ ["self", "top", "bottom"] (spRin T.c_Ratio T.c_OutOfRange) := by
  refine FunD.ok T.F_Ratio___init__ sc_Ratio___init__ (fun vs H Q E h => ?_) (fun cdv A outer s H vs Q E hr h => ?_)
  · obtain ⟨x, dx, t, b, rfl, _⟩ := h
    rfl
  · obtain ⟨x, dx, t, b, rfl, hx, hb, hk⟩ := h
    refine ⟨_, (pss_cut (ps_if (pt_cmpR op_eq (pv 2) pe_int (nomark _)) (pss_one (ps_rx (X_OutOfRange T) (by decide) (hr.mono (by decide)) rfl (takes_of rfl rfl rfl rfl) (pa_cons (pv 2) pa_nil))) pss_nil)
      (pss_cons (ps_set (i := 3) sc_Ratio___init__.nd rfl (Or.inl rfl) (pe_f (F_common_divisor T) (hr.mono (by decide)) passL (pa_cons (pv 1) (pa_cons (pv 2) pa_nil))))
      (pss_cut (ps_if (pt_cmpR op_lt (pv 2) pe_int (nomark _)) (pss_one (ps_set (i := 3) sc_Ratio___init__.nd rfl (Or.inl rfl) (pe_un un_neg (pv 3)))) pss_nil)
      (pss_cons (ps_fld (pv 0) (pe_op op_fdivX (pv 1) (pv 3)) rfl)
      (pss_one (ps_fld (pv 0) (pe_op op_fdivX (pv 2) (pv 3)) rfl)))))), ?_⟩
    refine ⟨fun σ H1 => b ≠ 0 ∧ σ = [some (.ref x), some (.int t), some (.int b), none] ∧ H1 = H, ⟨_, rfl, rfl, _, rfl, iteB (fun he => ?_) (fun hne => ?_)⟩, ?_⟩
    · have hb0 : b = 0 := V.int.inj (of_decide_eq_true he)
      rcases hk with ⟨hn, _⟩ | ⟨_, k⟩
      · exact absurd hb0 hn
      · refine ⟨_, rfl, rfl, fun d H' hs hd hd' => ?_⟩
        exact k d H' hs hd hd'
    · exact ⟨fun e => by subst e; simp at hne, rfl, rfl⟩
    rintro σ H1 ⟨hb0, rfl, rfl⟩
    rcases hk with ⟨_, k⟩ | ⟨he, _⟩
    · refine ⟨_, rfl, _, rfl, t, b, rfl, ?_⟩
      refine ⟨fun σ H2 => σ = [some (.ref x), some (.int t), some (.int b), some (.int (sgcd t b))] ∧ H2 = H1, ⟨_, rfl, _, _, rfl, rfl, _, rfl, iteB (fun he => ?_) (fun hne => ?_)⟩, ?_⟩
      · have hlt : b < 0 := of_decide_eq_true he
        refine ⟨_, rfl, _, rfl, ?_, rfl⟩
        unfold sgcd
        rw [if_pos hlt]
        rfl
      · have hge : ¬ b < 0 := of_decide_eq_false hne
        refine ⟨?_, rfl⟩
        unfold sgcd
        rw [if_neg hge]
        rfl
      rintro σ H2 ⟨rfl, rfl⟩
      refine ⟨_, rfl, _, rfl, _, _, rfl, rfl, div_ok hb0 hb, _, rfl, x, T.c_Ratio, dx, [], rfl, hx, T.cl_Ratio, T.no_Ratio_upper, (by show 0 < 1000; decide), ?_⟩
      refine ⟨_, rfl, _, rfl, _, _, rfl, rfl, div_ok hb0 hb, _, rfl, x, T.c_Ratio, dx, _, rfl, upd_same, T.cl_Ratio, T.no_Ratio_lower, (by show 1 < 1000; decide), ?_⟩
      refine k _ upd_same fun c o e hc => ?_
      rw [upd_ne hc, upd_ne hc]
      exact e
    · exact absurd he hb0
/-- Ratio(t, b) as an expression -/
theorem M_Ratio (T : GG K mg) : MkI P w K mg base T.c_Ratio 3 (spRat T.c_Ratio T.c_OutOfRange) := by
  obtain ⟨ds, hv, hb⟩ := T.F_Ratio___init__.binds1 (ps := ["self", "top", "bottom"]) 3 1 (by simp) (by decide) (fun TT kV doc pm an cdv ct us its l1 l2 => match us, l1, its, l2 with | [_, _, _], _, [_], _ => ⟨_, rfl, rfl⟩)
  refine ⟨T.a_Ratio___init__, T.fd_Ratio___init__, ["self", "top", "bottom"], _, ds, _, T.mk_Ratio, ok_Ratio___init__ T, hv, hb, fun vs H Q E h o dx ho hdx hne => ?_⟩
  · obtain ⟨t, b, rfl, hb, hk⟩ := h
    have sm : Same H (upd (upd H dx (.own o)) o (.ins T.c_Ratio dx [])) := fun c u e => by
      rw [upd_ne (ne_of_none e ho), upd_ne (ne_of_none e hdx)]
      exact e
    refine ⟨o, dx, t, b, rfl, upd_same, hb, ?_⟩
    rcases hk with ⟨hb0, k⟩ | ⟨hb0, k⟩
    · refine .inl ⟨hb0, fun H' e kp => ⟨rfl, k o H' (fun c u ec => kp c u (sm c u ec) (ne_of_none ec ho)) ho ⟨low_n hb0, dx, e⟩⟩⟩
    · refine .inr ⟨hb0, fun d H' hs hd hd' => k d H' (sm.trans hs) (sm.free hd) hd'⟩
theorem M_Ratio1 (T : GG K mg) : MkI P w K mg base T.c_Ratio 3 (spRat1 T.c_Ratio) := by
  obtain ⟨ds, hv, hb⟩ := T.F_Ratio___init__.binds1 (ps := ["self", "top", "bottom"]) 2 0 (by simp) (by decide) (fun TT kV doc pm an cdv ct us its l1 l2 => match us, l1, its, l2 with | [_, _], _, [_], _ => ⟨_, rfl, rfl⟩)
  refine ⟨T.a_Ratio___init__, T.fd_Ratio___init__, ["self", "top", "bottom"], _, ds, _, T.mk_Ratio, ok_Ratio___init__ T, hv, hb, fun vs H Q E h o dx ho hdx hne => ?_⟩
  obtain ⟨t, rfl, k⟩ := h
  have sm : Same H (upd (upd H dx (.own o)) o (.ins T.c_Ratio dx [])) := fun c u e => by
    rw [upd_ne (ne_of_none e ho), upd_ne (ne_of_none e hdx)]
    exact e
  refine ⟨o, dx, t, 1, rfl, upd_same, ⟨1, by decide, by decide⟩, .inl ⟨by decide, fun H' e kp => ⟨rfl, ?_⟩⟩⟩
  rw [(n_one t).1, (n_one t).2] at e
  exact k o H' (fun c u ec => kp c u (sm c u ec) (ne_of_none ec ho)) ho ⟨low_one t, dx, e⟩
theorem ty_Ratio (T : GG K mg) {H : Hp} {r : Addr} {p q : Int} (h : RatO T.c_Ratio H r p q) : TyX K H (.ref r) (.ref T.c_Ratio) := by
  obtain ⟨_, dx, e⟩ := h
  exact .base (.ins e T.cl_Ratio T.ty_Ratio.1 T.ty_Ratio.2.1 T.ty_Ratio.2.2.1 T.ty_Ratio.2.2.2)
end
end Xl

namespace Xl
open PySem PySem.Spec PyProof.Rows L2
section
variable {P : Program} {w : World} {K : PySem.W.Frag} {mg : Str → Option Value} {base : Heap}
abbrev N_as_ratio : List Str := ["value"]
theorem sc_as_ratio : FnScope N_as_ratio ["value"] (defScope s_as_ratio) := ⟨rfl, rfl, rfl, by decide +kernel, rfl, by decide +kernel, by decide +kernel⟩
theorem ok_as_ratio (T : GG K mg) : FnOk P w K mg base (L2.CX P w) 5 T.a_as_ratio T.fd_as_ratio ["value"] (spAs T.c_Ratio) := by
  refine okN T.F_as_ratio sc_as_ratio (fun vs H Q E h => ?_) (fun cdv A outer s H vs Q E hr h => ?_)
  · obtain ⟨v, p, q, rfl, _⟩ := h
    rfl
  · obtain ⟨v, p, q, rfl, hn, k⟩ := h
    refine ⟨_, (pss_cons (ps_if (pt_val (pe_callB call_isi rfl T.z_isinstance (by decide +kernel) (pa_cons (pv 0) (pa_cons (pe_cls T.g_Ratio) pa_nil)))) (pss_one (ps_ret (pv 0))) pss_nil)
      (pss_one (ps_ret (pe_mkI (M_Ratio1 T) hr T.g_Ratio passL (pa_cons (pv 0) pa_nil))))), ?_⟩
    rcases hn with ⟨rfl, rfl⟩ | ⟨r, rfl, hr⟩
    · refine ⟨_, rfl, _, _, _, _, _, rfl, .own _, .base (.int _), T.isa_int_Ratio, _, rfl, iteF ?_⟩
      exact ⟨_, rfl, p, rfl, fun r H' hs hr h => k r H' hs (.inr hr) h⟩
    · refine ⟨_, rfl, _, _, _, _, _, rfl, .own _, ty_Ratio T hr, T.isa_Ratio_Ratio, _, rfl, iteT ?_⟩
      exact ⟨_, rfl, k r H (Same.refl H) (.inl rfl) hr⟩
theorem F_as_ratio (T : GG K mg) : FnI P w K mg base "as_ratio" 5 ["value"] (spAs T.c_Ratio) :=
  ⟨T.a_as_ratio, T.fd_as_ratio, ok_as_ratio T, T.m_as_ratio, T.F_as_ratio.kp, T.F_as_ratio.binds fun _ _ _ _ _ _ us hl => match us, hl with | [_], _ => rfl⟩
end
end Xl

namespace Xl
open PySem PySem.Spec PyProof.Rows L2
section
variable {P : Program} {w : World} {K : PySem.W.Frag} {mg : Str → Option Value} {base : Heap}
theorem sc_Ratio_top : FnScope ["self"] ["self"] (defScope s_Ratio_top) := ⟨rfl, rfl, rfl, by decide +kernel, rfl, by decide +kernel, by decide +kernel⟩
theorem ok_Ratio_top (T : GG K mg) : FnOk P w K mg base (L2.CX P w) 1 T.a_Ratio_top T.fd_Ratio_top ["self"] (spTop T.c_Ratio) := by
  refine okN T.F_Ratio_top sc_Ratio_top (fun vs H Q E h => ?_) (fun cdv A outer s H vs Q E hr h => ?_)
  · obtain ⟨r, p, q, rfl, _⟩ := h
    rfl
  · obtain ⟨r, p, q, rfl, ⟨_, dx, e⟩, k⟩ := h
    refine ⟨_, (pss_one (ps_ret (pe_fld (pv 0) rfl))), ?_⟩
    exact ⟨_, rfl, r, T.c_Ratio, dx, _, _, rfl, e, T.cl_Ratio, T.no_Ratio_upper, ratF_up _ _, k⟩
theorem P_top (T : GG K mg) : PrI P w K mg base T.c_Ratio "top" 1 (spTop T.c_Ratio) := by
  obtain ⟨p, hp⟩ := T.pr_Ratio_top
  exact ⟨p, T.a_Ratio_top, T.fd_Ratio_top, ["self"], T.cl_Ratio, hp, ok_Ratio_top T, T.F_Ratio_top.binds fun _ _ _ _ _ _ us hl => match us, hl with | [_], _ => rfl⟩
theorem sc_Ratio_bottom : FnScope ["self"] ["self"] (defScope s_Ratio_bottom) := ⟨rfl, rfl, rfl, by decide +kernel, rfl, by decide +kernel, by decide +kernel⟩
theorem ok_Ratio_bottom (T : GG K mg) : FnOk P w K mg base (L2.CX P w) 1 T.a_Ratio_bottom T.fd_Ratio_bottom ["self"] (spBot T.c_Ratio) := by
  refine okN T.F_Ratio_bottom sc_Ratio_bottom (fun vs H Q E h => ?_) (fun cdv A outer s H vs Q E hr h => ?_)
  · obtain ⟨r, p, q, rfl, _⟩ := h
    rfl
  · obtain ⟨r, p, q, rfl, ⟨_, dx, e⟩, k⟩ := h
    refine ⟨_, (pss_one (ps_ret (pe_fld (pv 0) rfl))), ?_⟩
    exact ⟨_, rfl, r, T.c_Ratio, dx, _, _, rfl, e, T.cl_Ratio, T.no_Ratio_lower, ratF_lo _ _, k⟩
theorem P_bottom (T : GG K mg) : PrI P w K mg base T.c_Ratio "bottom" 1 (spBot T.c_Ratio) := by
  obtain ⟨p, hp⟩ := T.pr_Ratio_bottom
  exact ⟨p, T.a_Ratio_bottom, T.fd_Ratio_bottom, ["self"], T.cl_Ratio, hp, ok_Ratio_bottom T, T.F_Ratio_bottom.binds fun _ _ _ _ _ _ us hl => match us, hl with | [_], _ => rfl⟩
end
end Xl

namespace Xl
open PySem PySem.Spec PyProof.Rows L2
section
variable {P : Program} {w : World} {K : PySem.W.Frag} {mg : Str → Option Value} {base : Heap}
theorem sc_Ratio_sign : FnScope ["self"] ["self"] (defScope s_Ratio_sign) := ⟨rfl, rfl, rfl, by decide +kernel, rfl, by decide +kernel, by decide +kernel⟩
theorem ok_Ratio_sign (T : GG K mg) : FnOk P w K mg base (L2.CX P w) 1 T.a_Ratio_sign T.fd_Ratio_sign ["self"] (spSgn T.c_Ratio) := by
  refine okN T.F_Ratio_sign sc_Ratio_sign (fun vs H Q E h => ?_) (fun cdv A outer s H vs Q E hr h => ?_)
  · obtain ⟨r, p, q, rfl, _⟩ := h
    rfl
  · obtain ⟨r, p, q, rfl, ⟨_, dx, e⟩, k⟩ := h
    refine ⟨_, (pss_cons (ps_if (pt_cmpR op_eq (pe_fld (pv 0) rfl) pe_int (nomark _)) (pss_one (ps_ret pe_int)) pss_nil)
      (pss_one (ps_ret (pe_ifExp (pt_cmpR op_gt (pe_fld (pv 0) rfl) pe_int (nomark _)) pe_int (pe_un un_neg pe_int))))), ?_⟩
    refine ⟨_, rfl, r, T.c_Ratio, dx, _, _, rfl, e, T.cl_Ratio, T.no_Ratio_upper, ratF_up _ _, rfl, _, rfl, ?_⟩
    unfold sgn at k
    refine iteB (fun he => ?_) (fun hne => ?_)
    · rw [if_pos (V.int.inj (of_decide_eq_true he))] at k
      exact k
    · have h0 : p ≠ 0 := fun z => by subst z; simp at hne
      rw [if_neg h0] at k
      refine ⟨_, rfl, r, T.c_Ratio, dx, _, _, rfl, e, T.cl_Ratio, T.no_Ratio_upper, ratF_up _ _, _, _, rfl, rfl, _, rfl, iteB (fun he => ?_) (fun hne2 => ?_)⟩
      · rw [if_pos (of_decide_eq_true he)] at k
        exact k
      · rw [if_neg (of_decide_eq_false hne2)] at k
        exact ⟨_, rfl, k⟩
theorem P_sign (T : GG K mg) : PrI P w K mg base T.c_Ratio "sign" 1 (spSgn T.c_Ratio) := by
  obtain ⟨p, hp⟩ := T.pr_Ratio_sign
  exact ⟨p, T.a_Ratio_sign, T.fd_Ratio_sign, ["self"], T.cl_Ratio, hp, ok_Ratio_sign T, T.F_Ratio_sign.binds fun _ _ _ _ _ _ us hl => match us, hl with | [_], _ => rfl⟩
end
end Xl

namespace Xl
open PySem PySem.Spec PyProof.Rows L2
section
variable {P : Program} {w : World} {K : PySem.W.Frag} {mg : Str → Option Value} {base : Heap}
theorem sc_Ratio___eq__ : FnScope ["self", "other"] ["self", "other"] (defScope s_Ratio___eq__) := ⟨rfl, rfl, rfl, by decide +kernel, rfl, by decide +kernel, by decide +kernel⟩
theorem ok_Ratio___eq__ (T : GG K mg) : FnOk P w K mg base (L2.CX P w) 1 T.a_Ratio___eq__ T.fd_Ratio___eq__ ["self", "other"] (spReq T.c_Ratio) := by
  refine okN T.F_Ratio___eq__ sc_Ratio___eq__ (fun vs H Q E h => ?_) (fun cdv A outer s H vs Q E hr h => ?_)
  · obtain ⟨r, s, p, q, p', q', rfl, _⟩ := h
    rfl
  · obtain ⟨r, s, p, q, p', q', rfl, h1, h2, k⟩ := h
    refine ⟨_, (pss_one (ps_ret (pe_and (pe_callB call_isi rfl T.z_isinstance (by decide +kernel) (pa_cons (pv 1) (pa_cons (pe_cls T.g_Ratio) pa_nil))) (pe_and (pe_cmpR op_eq (pe_fld (pv 0) rfl) (pe_fld (pv 1) rfl) (nomark _)) (pe_one (pe_cmpR op_eq (pe_fld (pv 0) rfl) (pe_fld (pv 1) rfl) (nomark _))))))), ?_⟩
    obtain ⟨_, dx, e⟩ := id h1
    obtain ⟨_, dy, e'⟩ := id h2
    refine ⟨_, rfl, _, _, _, _, _, rfl, .own _, ty_Ratio T h2, T.isa_Ratio_Ratio, _, rfl, iteT ?_⟩
    refine ⟨_, rfl, r, T.c_Ratio, dx, _, _, rfl, e, T.cl_Ratio, T.no_Ratio_upper, ratF_up _ _, _, rfl, s, T.c_Ratio, dy, _, _, rfl, e', T.cl_Ratio, T.no_Ratio_upper, ratF_up _ _, rfl, _, rfl, ?_⟩
    refine iteB (fun he => ?_) (fun hne => ?_)
    · have hp : p = p' := V.int.inj (of_decide_eq_true he)
      refine ⟨_, rfl, r, T.c_Ratio, dx, _, _, rfl, e, T.cl_Ratio, T.no_Ratio_lower, ratF_lo _ _, _, rfl, s, T.c_Ratio, dy, _, _, rfl, e', T.cl_Ratio, T.no_Ratio_lower, ratF_lo _ _, rfl, ?_⟩
      have ed : decide (V.int q = V.int q') = decide (p = p' ∧ q = q') := by
        rw [decide_eq_decide]
        exact ⟨fun z => ⟨hp, V.int.inj z⟩, fun z => congrArg V.int z.2⟩
      rw [ed]
      exact k
    · have hp : ¬ p = p' := fun z => by subst z; simp at hne
      rw [decide_eq_false (fun z => hp z.1)] at k
      exact k
theorem E_Ratio (T : GG K mg) : MeI P w K mg base T.c_Ratio "__eq__" 1 (spReq T.c_Ratio) :=
  ⟨T.a_Ratio___eq__, T.fd_Ratio___eq__, ["self", "other"], T.cl_Ratio, T.me_Ratio___eq__, ok_Ratio___eq__ T, T.F_Ratio___eq__.binds fun _ _ _ _ _ _ us hl => match us, hl with | [_, _], _ => rfl⟩
end
end Xl

namespace Xl
open PySem PySem.Spec PyProof.Rows L2
section
variable {P : Program} {w : World} {K : PySem.W.Frag} {mg : Str → Option Value} {base : Heap}
theorem sc_Ratio___str__ : FnScope ["self"] ["self"] (defScope s_Ratio___str__) := ⟨rfl, rfl, rfl, by decide +kernel, rfl, by decide +kernel, by decide +kernel⟩
theorem int_text_len {i : Int} (h : i.natAbs.log2 < 1920) : (toString i : Str).length ≤ 1000000 := by
  have := int_text_len_1921 h
  omega
theorem app_len (x y : Str) : (x ++ y).length = x.length + y.length := by
  show (x.cps ++ y.cps).size = x.cps.size + y.cps.size
  rw [Array.size_append]
theorem app_nil (x : Str) : Str.empty ++ x = x := by
  show Str.mk (#[] ++ x.cps) = x
  rw [Array.empty_append]
theorem ok_Ratio___str__ (T : GG K mg) : FnOk P w K mg base (L2.CX P w) 1 T.a_Ratio___str__ T.fd_Ratio___str__ ["self"] (spRstr T.c_Ratio) := by
  refine okN T.F_Ratio___str__ sc_Ratio___str__ (fun vs H Q E h => ?_) (fun cdv A outer s H vs Q E hr h => ?_)
  · obtain ⟨r, p, q, rfl, _⟩ := h
    rfl
  · obtain ⟨r, p, q, rfl, ⟨_, dx, e⟩, hp, hq, k⟩ := h
    refine ⟨_, (pss_cons (ps_if (pt_cmpR op_eq (pe_fld (pv 0) rfl) pe_int (nomark _)) (pss_one (ps_ret (pe_callTy call_str_int rfl T.z_str (by decide +kernel) (pa_cons (pe_fld (pv 0) rfl) pa_nil)))) pss_nil)
      (pss_one (ps_ret (pe_joined (.cons (pe_fmt (pe_fld (pv 0) rfl)) (.cons pe_str (.cons (pe_fmt (pe_fld (pv 0) rfl)) .nil))))))), ?_⟩
    unfold rtext at k
    refine ⟨_, rfl, r, T.c_Ratio, dx, _, _, rfl, e, T.cl_Ratio, T.no_Ratio_lower, ratF_lo _ _, rfl, _, rfl, iteB (fun he => ?_) (fun hne => ?_)⟩
    · rw [if_pos (V.int.inj (of_decide_eq_true he))] at k
      exact ⟨_, rfl, r, T.c_Ratio, dx, _, _, rfl, e, T.cl_Ratio, T.no_Ratio_upper, ratF_up _ _, _, rfl, hp, k⟩
    · rw [if_neg (fun z => by subst z; simp at hne)] at k
      have l1 := int_text_len_1921 hp
      have l2 := int_text_len_1921 hq
      have l3 : (Str.ofString "/").length = 1 := rfl
      refine ⟨_, rfl, r, T.c_Ratio, dx, _, _, rfl, e, T.cl_Ratio, T.no_Ratio_upper, ratF_up _ _, .inr ⟨_, rfl, hp, _, rfl, ?_, _, rfl, ?_, ?_⟩⟩
      · rw [app_nil]; exact small_sz (by omega)
      · rw [app_nil, app_len]; exact small_sz (by omega)
      refine ⟨_, rfl, r, T.c_Ratio, dx, _, _, rfl, e, T.cl_Ratio, T.no_Ratio_lower, ratF_lo _ _, .inr ⟨_, rfl, hq, _, rfl, ?_, ?_⟩⟩
      · rw [app_nil, app_len, app_len]; exact small_sz (by omega)
      · rw [app_nil]; exact k
theorem S_Ratio (T : GG K mg) : MeI P w K mg base T.c_Ratio "__str__" 1 (spRstr T.c_Ratio) :=
  ⟨T.a_Ratio___str__, T.fd_Ratio___str__, ["self"], T.cl_Ratio, T.me_Ratio___str__, ok_Ratio___str__ T, T.F_Ratio___str__.binds fun _ _ _ _ _ _ us hl => match us, hl with | [_], _ => rfl⟩
end
end Xl

namespace Xl
open PySem PySem.Spec PyProof.Rows L2
/-- r.below(v) -/
def spBelow (C : Addr) : Sp := fun vs H Q _ => ∃ r v p q p' q', vs = [.ref r, v] ∧ RatO C H r p q ∧ Num C H v p' q' ∧ Bd 4000 p ∧ Bd 4000 q ∧ Bd 4000 p' ∧ Bd 4000 q' ∧ ∀ H', Same H H' → Q (.bl (decide (p * q' < p' * q))) H'
section
variable {P : Program} {w : World} {K : PySem.W.Frag} {mg : Str → Option Value} {base : Heap}
abbrev N_Ratio_below : List Str := ["self", "value", "other"]
theorem sc_Ratio_below : FnScope N_Ratio_below ["self", "value"] (defScope s_Ratio_below) := ⟨rfl, rfl, rfl, by decide +kernel, rfl, by decide +kernel, by decide +kernel⟩
theorem ok_Ratio_below (T : GG K mg) : FnOk P w K mg base (L2.CX P w) 6 T.a_Ratio_below T.fd_Ratio_below ["self", "value"] (spBelow T.c_Ratio) := by
  refine okN T.F_Ratio_below sc_Ratio_below (fun vs H Q E h => ?_) (fun cdv A outer s H vs Q E hr h => ?_)
  · obtain ⟨r, v, p, q, p', q', rfl, _⟩ := h
    rfl
  · obtain ⟨r, v, p, q, p', q', rfl, h1, h2, b1, b2, b3, b4, k⟩ := h
    refine ⟨_, (pss_cons (ps_set (i := 2) sc_Ratio_below.nd rfl (Or.inl rfl) (pe_f (F_as_ratio T) (hr.mono (by decide)) passL (pa_cons (pv 1) pa_nil)))
      (pss_one (ps_ret (pe_cmpR op_lt (pe_op op_mulX (pe_fld (pv 0) rfl) (pe_fld (pv 2) rfl)) (pe_op op_mulX (pe_fld (pv 2) rfl) (pe_fld (pv 0) rfl)) (nomark _))))), ?_⟩
    refine ⟨_, rfl, v, p', q', rfl, h2, fun r' H1 s1 _ ho => ?_⟩
    obtain ⟨_, dx, e⟩ := h1.same s1
    obtain ⟨_, dy, e'⟩ := ho
    refine ⟨_, rfl, r, T.c_Ratio, dx, _, _, rfl, e, T.cl_Ratio, T.no_Ratio_upper, ratF_up _ _, _, rfl, r', T.c_Ratio, dy, _, _, rfl, e', T.cl_Ratio, T.no_Ratio_lower, ratF_lo _ _, _, _, rfl, rfl, ⟨4000, 4000, b1, b4, by decide⟩, ?_⟩
    refine ⟨_, rfl, r', T.c_Ratio, dy, _, _, rfl, e', T.cl_Ratio, T.no_Ratio_upper, ratF_up _ _, _, rfl, r, T.c_Ratio, dx, _, _, rfl, e, T.cl_Ratio, T.no_Ratio_lower, ratF_lo _ _, _, _, rfl, rfl, ⟨4000, 4000, b3, b2, by decide⟩, _, _, rfl, rfl, ?_⟩
    exact k H1 s1
theorem M_below (T : GG K mg) : MeI P w K mg base T.c_Ratio "below" 6 (spBelow T.c_Ratio) :=
  ⟨T.a_Ratio_below, T.fd_Ratio_below, ["self", "value"], T.cl_Ratio, T.me_Ratio_below, ok_Ratio_below T, T.F_Ratio_below.binds fun _ _ _ _ _ _ us hl => match us, hl with | [_, _], _ => rfl⟩
end
end Xl

namespace Xl
open PySem PySem.Spec PyProof.Rows L2
theorem Low.neg {p q : Int} (h : Low p q) : Low (-p) q := ⟨h.pos, by rw [Int.neg_gcd]; exact h.cop⟩
/-- -r -/
def spNeg (C : Addr) : Sp := fun vs H Q _ => ∃ r p q, vs = [.ref r] ∧ RatO C H r p q ∧ Bd 8000 q ∧ ∀ r' H', Same H H' → H r' = none → RatO C H' r' (-p) q → Q (.ref r') H'
section
variable {P : Program} {w : World} {K : PySem.W.Frag} {mg : Str → Option Value} {base : Heap}
abbrev N_Ratio___neg__ : List Str := ["self"]
theorem sc_Ratio___neg__ : FnScope N_Ratio___neg__ ["self"] (defScope s_Ratio___neg__) := ⟨rfl, rfl, rfl, by decide +kernel, rfl, by decide +kernel, by decide +kernel⟩
theorem ok_Ratio___neg__ (T : GG K mg) : FnOk P w K mg base (L2.CX P w) 5 T.a_Ratio___neg__ T.fd_Ratio___neg__ ["self"] (spNeg T.c_Ratio) := by
  refine okN T.F_Ratio___neg__ sc_Ratio___neg__ (fun vs H Q E h => ?_) (fun cdv A outer s H vs Q E hr h => ?_)
  · obtain ⟨r, p, q, rfl, _⟩ := h
    rfl
  · obtain ⟨r, p, q, rfl, h1, b, k⟩ := h
    refine ⟨_, (pss_one (ps_ret (pe_mkI (M_Ratio T) (hr.mono (by decide)) T.g_Ratio passL (pa_cons (pe_un un_neg (pe_fld (pv 0) rfl)) (pa_cons (pe_fld (pv 0) rfl) pa_nil))))), ?_⟩
    obtain ⟨hl, dx, e⟩ := id h1
    have hn := hl.neg
    have hq := hl.pos
    refine ⟨_, rfl, r, T.c_Ratio, dx, _, _, rfl, e, T.cl_Ratio, T.no_Ratio_upper, ratF_up _ _, _, rfl, _, rfl, r, T.c_Ratio, dx, _, _, rfl, e, T.cl_Ratio, T.no_Ratio_lower, ratF_lo _ _, -p, q, rfl, b.ex (by decide), .inl ⟨by omega, fun r' H' s' hr' ho => ?_⟩⟩
    rw [(n_of_low hn).1, (n_of_low hn).2] at ho
    exact k r' H' s' hr' ho
theorem M_neg (T : GG K mg) : MeI P w K mg base T.c_Ratio "__neg__" 5 (spNeg T.c_Ratio) :=
  ⟨T.a_Ratio___neg__, T.fd_Ratio___neg__, ["self"], T.cl_Ratio, T.me_Ratio___neg__, ok_Ratio___neg__ T, T.F_Ratio___neg__.binds fun _ _ _ _ _ _ us hl => match us, hl with | [_], _ => rfl⟩
end
end Xl

namespace Xl
open PySem PySem.Spec PyProof.Rows L2
/-! ### sums, differences, products of ratios -/
theorem d_add : PySem.dunder (Operator.info .Add).2 = "__add__" := by decide +kernel
theorem d_sub : PySem.dunder (Operator.info .Sub).2 = "__sub__" := by decide +kernel
theorem d_mul : PySem.dunder (Operator.info .Mult).2 = "__mul__" := by decide +kernel
theorem d_radd : dunderR (Operator.info .Add).2 = "__radd__" := by decide +kernel
theorem d_rsub : dunderR (Operator.info .Sub).2 = "__rsub__" := by decide +kernel
theorem d_rmul : dunderR (Operator.info .Mult).2 = "__rmul__" := by decide +kernel
/-- r op v by f, which gives the numbers -/
def spAr (C : Addr) (ft fb : Int → Int → Int → Int → Int) : Sp := fun vs H Q _ => ∃ r v p q p' q', vs = [.ref r, v] ∧ RatO C H r p q ∧ Num C H v p' q' ∧ Bd 2000 p ∧ Bd 2000 q ∧ Bd 2000 p' ∧ Bd 2000 q' ∧
  ∀ r' H', Same H H' → H r' = none → RatO C H' r' (nT (ft p q p' q') (fb p q p' q')) (nB (ft p q p' q') (fb p q p' q')) → Q (.ref r') H'
def addT (p q p' q' : Int) : Int := p * q' + p' * q
def mulB (_ q _ q' : Int) : Int := q * q'
def mulT (p _ p' _ : Int) : Int := p * p'
def subT (p q p' q' : Int) : Int := p * q' + -p' * q
theorem ne_mul {q q' : Int} (h : 0 < q) (h' : 0 < q') : q * q' ≠ 0 := Int.ne_of_gt (Int.mul_pos h h')
section
variable {P : Program} {w : World} {K : PySem.W.Frag} {mg : Str → Option Value} {base : Heap}
abbrev N_Ratio___add__ : List Str := ["self", "other", "term"]
theorem sc_Ratio___add__ : FnScope N_Ratio___add__ ["self", "other"] (defScope s_Ratio___add__) := ⟨rfl, rfl, rfl, by decide +kernel, rfl, by decide +kernel, by decide +kernel⟩
theorem ok_Ratio___add__ (T : GG K mg) : FnOk P w K mg base (L2.CX P w) 6 T.a_Ratio___add__ T.fd_Ratio___add__ ["self", "other"] (spAr T.c_Ratio addT mulB) := by
  refine okN T.F_Ratio___add__ sc_Ratio___add__ (fun vs H Q E h => ?_) (fun cdv A outer s H vs Q E hr h => ?_)
  · obtain ⟨r, v, p, q, p', q', rfl, _⟩ := h
    rfl
  · obtain ⟨r, v, p, q, p', q', rfl, h1, h2, b1, b2, b3, b4, k⟩ := h
    refine ⟨_, (pss_cons (ps_set (i := 2) sc_Ratio___add__.nd rfl (Or.inl rfl) (pe_f (F_as_ratio T) (hr.mono (by decide)) passL (pa_cons (pv 1) pa_nil)))
      (pss_one (ps_ret (pe_mkI (M_Ratio T) (hr.mono (by decide)) T.g_Ratio passL (pa_cons (pe_op op_add (pe_op op_mulX (pe_fld (pv 0) rfl) (pe_fld (pv 2) rfl)) (pe_op op_mulX (pe_fld (pv 2) rfl) (pe_fld (pv 0) rfl))) (pa_cons (pe_op op_mulX (pe_fld (pv 0) rfl) (pe_fld (pv 2) rfl)) pa_nil)))))), ?_⟩
    refine ⟨_, rfl, v, p', q', rfl, h2, fun r' H1 s1 _ ho => ?_⟩
    obtain ⟨_, dx, e⟩ := h1.same s1
    obtain ⟨_, dy, e'⟩ := id ho
    refine ⟨_, rfl, r, T.c_Ratio, dx, _, _, rfl, e, T.cl_Ratio, T.no_Ratio_upper, ratF_up _ _, _, rfl, r', T.c_Ratio, dy, _, _, rfl, e', T.cl_Ratio, T.no_Ratio_lower, ratF_lo _ _, _, _, rfl, rfl, ⟨2000, 2000, b1, b4, by decide⟩, ?_⟩
    refine ⟨_, rfl, r', T.c_Ratio, dy, _, _, rfl, e', T.cl_Ratio, T.no_Ratio_upper, ratF_up _ _, _, rfl, r, T.c_Ratio, dx, _, _, rfl, e, T.cl_Ratio, T.no_Ratio_lower, ratF_lo _ _, _, _, rfl, rfl, ⟨2000, 2000, b3, b2, by decide⟩, _, _, rfl, rfl, ?_⟩
    refine ⟨_, rfl, r, T.c_Ratio, dx, _, _, rfl, e, T.cl_Ratio, T.no_Ratio_lower, ratF_lo _ _, _, rfl, r', T.c_Ratio, dy, _, _, rfl, e', T.cl_Ratio, T.no_Ratio_lower, ratF_lo _ _, _, _, rfl, rfl, ⟨2000, 2000, b2, b4, by decide⟩, _, _, rfl, (b2.mul b4).ex (by decide), .inl ⟨ne_mul h1.1.pos ho.1.pos, fun r2 H2 s2 hr2 ho2 => ?_⟩⟩
    exact k r2 H2 (s1.trans s2) (s1.free hr2) ho2
theorem M_add (T : GG K mg) : MeI P w K mg base T.c_Ratio "__add__" 6 (spAr T.c_Ratio addT mulB) :=
  ⟨T.a_Ratio___add__, T.fd_Ratio___add__, ["self", "other"], T.cl_Ratio, T.me_Ratio___add__, ok_Ratio___add__ T, T.F_Ratio___add__.binds fun _ _ _ _ _ _ us hl => match us, hl with | [_, _], _ => rfl⟩
abbrev N_Ratio___mul__ : List Str := ["self", "other", "factor"]
theorem sc_Ratio___mul__ : FnScope N_Ratio___mul__ ["self", "other"] (defScope s_Ratio___mul__) := ⟨rfl, rfl, rfl, by decide +kernel, rfl, by decide +kernel, by decide +kernel⟩
theorem ok_Ratio___mul__ (T : GG K mg) : FnOk P w K mg base (L2.CX P w) 6 T.a_Ratio___mul__ T.fd_Ratio___mul__ ["self", "other"] (spAr T.c_Ratio mulT mulB) := by
  refine okN T.F_Ratio___mul__ sc_Ratio___mul__ (fun vs H Q E h => ?_) (fun cdv A outer s H vs Q E hr h => ?_)
  · obtain ⟨r, v, p, q, p', q', rfl, _⟩ := h
    rfl
  · obtain ⟨r, v, p, q, p', q', rfl, h1, h2, b1, b2, b3, b4, k⟩ := h
    refine ⟨_, (pss_cons (ps_set (i := 2) sc_Ratio___mul__.nd rfl (Or.inl rfl) (pe_f (F_as_ratio T) (hr.mono (by decide)) passL (pa_cons (pv 1) pa_nil)))
      (pss_one (ps_ret (pe_mkI (M_Ratio T) (hr.mono (by decide)) T.g_Ratio passL (pa_cons (pe_op op_mulX (pe_fld (pv 0) rfl) (pe_fld (pv 2) rfl)) (pa_cons (pe_op op_mulX (pe_fld (pv 0) rfl) (pe_fld (pv 2) rfl)) pa_nil)))))), ?_⟩
    refine ⟨_, rfl, v, p', q', rfl, h2, fun r' H1 s1 _ ho => ?_⟩
    obtain ⟨_, dx, e⟩ := h1.same s1
    obtain ⟨_, dy, e'⟩ := id ho
    refine ⟨_, rfl, r, T.c_Ratio, dx, _, _, rfl, e, T.cl_Ratio, T.no_Ratio_upper, ratF_up _ _, _, rfl, r', T.c_Ratio, dy, _, _, rfl, e', T.cl_Ratio, T.no_Ratio_upper, ratF_up _ _, _, _, rfl, rfl, ⟨2000, 2000, b1, b3, by decide⟩, ?_⟩
    refine ⟨_, rfl, r, T.c_Ratio, dx, _, _, rfl, e, T.cl_Ratio, T.no_Ratio_lower, ratF_lo _ _, _, rfl, r', T.c_Ratio, dy, _, _, rfl, e', T.cl_Ratio, T.no_Ratio_lower, ratF_lo _ _, _, _, rfl, rfl, ⟨2000, 2000, b2, b4, by decide⟩, _, _, rfl, (b2.mul b4).ex (by decide), .inl ⟨ne_mul h1.1.pos ho.1.pos, fun r2 H2 s2 hr2 ho2 => ?_⟩⟩
    exact k r2 H2 (s1.trans s2) (s1.free hr2) ho2
theorem M_mul (T : GG K mg) : MeI P w K mg base T.c_Ratio "__mul__" 6 (spAr T.c_Ratio mulT mulB) :=
  ⟨T.a_Ratio___mul__, T.fd_Ratio___mul__, ["self", "other"], T.cl_Ratio, T.me_Ratio___mul__, ok_Ratio___mul__ T, T.F_Ratio___mul__.binds fun _ _ _ _ _ _ us hl => match us, hl with | [_, _], _ => rfl⟩
end
section
variable {K : PySem.W.Frag} {mg : Str → Option Value} {X : Cx}
/-- a + b of two ratios, a ratio and an int -/
theorem o_add (T : GG X.K X.mg) (hr : Room 6 X.A) : OpR X (binaryOp .Add) (rOwn T.c_Ratio (spAr T.c_Ratio addT mulB) E0) := op_own (d_add ▸ M_add T) T.sf_Ratio hr passL
theorem o_addI (T : GG X.K X.mg) (hr : Room 6 X.A) : OpR X (binaryOp .Add) (rOwnI T.c_Ratio (spAr T.c_Ratio addT mulB) E0) := op_ownI (rc := some (.ref T.a_Ratio___radd__)) (d_add ▸ M_add T) T.sf_Ratio (d_radd ▸ T.me_Ratio___radd__.at_) (.inr ⟨_, rfl⟩) (by rw [d_add, d_radd]; exact T.ot_Ratio___add___int) hr passL
theorem o_mul (T : GG X.K X.mg) (hr : Room 6 X.A) : OpR X (binaryOp .Mult) (rOwn T.c_Ratio (spAr T.c_Ratio mulT mulB) E0) := op_own (d_mul ▸ M_mul T) T.sf_Ratio hr passL
theorem o_mulI (T : GG X.K X.mg) (hr : Room 6 X.A) : OpR X (binaryOp .Mult) (rOwnI T.c_Ratio (spAr T.c_Ratio mulT mulB) E0) := op_ownI (rc := some (.ref T.a_Ratio___rmul__)) (d_mul ▸ M_mul T) T.sf_Ratio (d_rmul ▸ T.me_Ratio___rmul__.at_) (.inr ⟨_, rfl⟩) (by rw [d_mul, d_rmul]; exact T.ot_Ratio___mul___int) hr passL
end
section
variable {P : Program} {w : World} {K : PySem.W.Frag} {mg : Str → Option Value} {base : Heap}
/-- the reflected ones: an int on the left -/
def spArR (C : Addr) (ft fb : Int → Int → Int → Int → Int) : Sp := fun vs H Q _ => ∃ r n p q, vs = [.ref r, .int n] ∧ RatO C H r p q ∧ Bd 1000 p ∧ Bd 1000 q ∧ Bd 1000 n ∧
  ∀ r' H', Same H H' → H r' = none → RatO C H' r' (nT (ft p q n 1) (fb p q n 1)) (nB (ft p q n 1) (fb p q n 1)) → Q (.ref r') H'
theorem bd1 : Bd 2000 1 := show (1 : Int).natAbs < 2 ^ 2000 from Nat.one_lt_two_pow (by decide)
abbrev N_so : List Str := ["self", "other"]
theorem sc_Ratio___radd__ : FnScope N_so ["self", "other"] (defScope s_Ratio___radd__) := ⟨rfl, rfl, rfl, by decide +kernel, rfl, by decide +kernel, by decide +kernel⟩
theorem ok_Ratio___radd__ (T : GG K mg) : FnOk P w K mg base (L2.CX P w) 7 T.a_Ratio___radd__ T.fd_Ratio___radd__ ["self", "other"] (spArR T.c_Ratio addT mulB) := by
  refine okN T.F_Ratio___radd__ sc_Ratio___radd__ (fun vs H Q E h => ?_) (fun cdv A outer s H vs Q E hr h => ?_)
  · obtain ⟨r, n, p, q, rfl, _⟩ := h
    rfl
  · obtain ⟨r, n, p, q, rfl, h1, b1, b2, b3, k⟩ := h
    refine ⟨_, (pss_one (ps_ret (pe_op (o_addI T hr) (pv 0) (pv 1)))), ?_⟩
    obtain ⟨_, dx, e⟩ := id h1
    exact ⟨_, rfl, _, rfl, r, n, dx, _, rfl, rfl, e, r, .int n, p, q, n, 1, rfl, h1, .inl ⟨rfl, rfl⟩, b1.mono (by decide), b2.mono (by decide), b3.mono (by decide), bd1, k⟩
theorem M_radd (T : GG K mg) : MeI P w K mg base T.c_Ratio "__radd__" 7 (spArR T.c_Ratio addT mulB) :=
  ⟨T.a_Ratio___radd__, T.fd_Ratio___radd__, ["self", "other"], T.cl_Ratio, T.me_Ratio___radd__, ok_Ratio___radd__ T, T.F_Ratio___radd__.binds fun _ _ _ _ _ _ us hl => match us, hl with | [_, _], _ => rfl⟩
theorem sc_Ratio___rmul__ : FnScope N_so ["self", "other"] (defScope s_Ratio___rmul__) := ⟨rfl, rfl, rfl, by decide +kernel, rfl, by decide +kernel, by decide +kernel⟩
theorem ok_Ratio___rmul__ (T : GG K mg) : FnOk P w K mg base (L2.CX P w) 7 T.a_Ratio___rmul__ T.fd_Ratio___rmul__ ["self", "other"] (spArR T.c_Ratio mulT mulB) := by
  refine okN T.F_Ratio___rmul__ sc_Ratio___rmul__ (fun vs H Q E h => ?_) (fun cdv A outer s H vs Q E hr h => ?_)
  · obtain ⟨r, n, p, q, rfl, _⟩ := h
    rfl
  · obtain ⟨r, n, p, q, rfl, h1, b1, b2, b3, k⟩ := h
    refine ⟨_, (pss_one (ps_ret (pe_op (o_mulI T hr) (pv 0) (pv 1)))), ?_⟩
    obtain ⟨_, dx, e⟩ := id h1
    exact ⟨_, rfl, _, rfl, r, n, dx, _, rfl, rfl, e, r, .int n, p, q, n, 1, rfl, h1, .inl ⟨rfl, rfl⟩, b1.mono (by decide), b2.mono (by decide), b3.mono (by decide), bd1, k⟩
theorem M_rmul (T : GG K mg) : MeI P w K mg base T.c_Ratio "__rmul__" 7 (spArR T.c_Ratio mulT mulB) :=
  ⟨T.a_Ratio___rmul__, T.fd_Ratio___rmul__, ["self", "other"], T.cl_Ratio, T.me_Ratio___rmul__, ok_Ratio___rmul__ T, T.F_Ratio___rmul__.binds fun _ _ _ _ _ _ us hl => match us, hl with | [_, _], _ => rfl⟩
theorem sc_Ratio___sub__ : FnScope N_so ["self", "other"] (defScope s_Ratio___sub__) := ⟨rfl, rfl, rfl, by decide +kernel, rfl, by decide +kernel, by decide +kernel⟩
theorem ok_Ratio___sub__ (T : GG K mg) : FnOk P w K mg base (L2.CX P w) 7 T.a_Ratio___sub__ T.fd_Ratio___sub__ ["self", "other"] (spAr T.c_Ratio subT mulB) := by
  refine okN T.F_Ratio___sub__ sc_Ratio___sub__ (fun vs H Q E h => ?_) (fun cdv A outer s H vs Q E hr h => ?_)
  · obtain ⟨r, v, p, q, p', q', rfl, _⟩ := h
    rfl
  · obtain ⟨r, v, p, q, p', q', rfl, h1, h2, b1, b2, b3, b4, k⟩ := h
    refine ⟨_, (pss_one (ps_ret (pe_op (o_add T hr) (pv 0) (pe_un (un_own (M_neg T) (hr.mono (by decide)) passL) (pe_f (F_as_ratio T) (hr.mono (by decide)) passL (pa_cons (pv 1) pa_nil)))))), ?_⟩
    refine ⟨_, rfl, _, rfl, v, p', q', rfl, h2, fun r' H1 s1 _ ho => ?_⟩
    obtain ⟨_, dy, e'⟩ := id ho
    refine ⟨r', dy, _, rfl, e', r', p', q', rfl, ho, b4.mono (by decide), fun r2 H2 s2 _ ho2 => ?_⟩
    have h12 := h1.same (s1.trans s2)
    obtain ⟨_, dx, e⟩ := id h12
    obtain ⟨_, dz, e2⟩ := id ho2
    exact ⟨r, r2, dx, dz, _, _, rfl, rfl, e, e2, r, .ref r2, p, q, -p', q', rfl, h12, .inr ⟨r2, rfl, ho2⟩, b1, b2, b3.neg, b4, fun r3 H3 s3 hr3 ho3 => k r3 H3 ((s1.trans s2).trans s3) ((s1.trans s2).free hr3) ho3⟩
theorem M_sub (T : GG K mg) : MeI P w K mg base T.c_Ratio "__sub__" 7 (spAr T.c_Ratio subT mulB) :=
  ⟨T.a_Ratio___sub__, T.fd_Ratio___sub__, ["self", "other"], T.cl_Ratio, T.me_Ratio___sub__, ok_Ratio___sub__ T, T.F_Ratio___sub__.binds fun _ _ _ _ _ _ us hl => match us, hl with | [_, _], _ => rfl⟩
end
section
variable {X : Cx}
theorem o_sub (T : GG X.K X.mg) (hr : Room 7 X.A) : OpR X (binaryOp .Sub) (rOwn T.c_Ratio (spAr T.c_Ratio subT mulB) E0) := op_own (d_sub ▸ M_sub T) T.sf_Ratio hr passL
theorem o_subI (T : GG X.K X.mg) (hr : Room 7 X.A) : OpR X (binaryOp .Sub) (rOwnI T.c_Ratio (spAr T.c_Ratio subT mulB) E0) := op_ownI (rc := some (.ref T.a_Ratio___rsub__)) (d_sub ▸ M_sub T) T.sf_Ratio (d_rsub ▸ T.me_Ratio___rsub__.at_) (.inr ⟨_, rfl⟩) (by rw [d_sub, d_rsub]; exact T.ot_Ratio___sub___int) hr passL
end
section
variable {P : Program} {w : World} {K : PySem.W.Frag} {mg : Str → Option Value} {base : Heap}
/-- n - r -/
def rsubT (p q n _ : Int) : Int := n * q + -p * 1
def rsubB (_ q _ _ : Int) : Int := 1 * q
theorem sc_Ratio___rsub__ : FnScope N_so ["self", "other"] (defScope s_Ratio___rsub__) := ⟨rfl, rfl, rfl, by decide +kernel, rfl, by decide +kernel, by decide +kernel⟩
theorem ok_Ratio___rsub__ (T : GG K mg) : FnOk P w K mg base (L2.CX P w) 8 T.a_Ratio___rsub__ T.fd_Ratio___rsub__ ["self", "other"] (spArR T.c_Ratio rsubT rsubB) := by
  refine okN T.F_Ratio___rsub__ sc_Ratio___rsub__ (fun vs H Q E h => ?_) (fun cdv A outer s H vs Q E hr h => ?_)
  · obtain ⟨r, n, p, q, rfl, _⟩ := h
    rfl
  · obtain ⟨r, n, p, q, rfl, h1, b1, b2, b3, k⟩ := h
    refine ⟨_, (pss_one (ps_ret (pe_op (o_sub T hr) (pe_f (F_as_ratio T) (hr.mono (by decide)) passL (pa_cons (pv 1) pa_nil)) (pv 0)))), ?_⟩
    refine ⟨_, rfl, .int n, n, 1, rfl, .inl ⟨rfl, rfl⟩, fun r' H1 s1 _ ho => ?_⟩
    have h11 := h1.same s1
    obtain ⟨_, dx, e⟩ := id h11
    obtain ⟨_, dy, e'⟩ := id ho
    exact ⟨_, rfl, r', r, dy, dx, _, _, rfl, rfl, e', e, r', .ref r, n, 1, p, q, rfl, ho, .inr ⟨r, rfl, h11⟩, b3.mono (by decide), bd1, b1.mono (by decide), b2.mono (by decide), fun r3 H3 s3 hr3 ho3 => k r3 H3 (s1.trans s3) (s1.free hr3) ho3⟩
theorem M_rsub (T : GG K mg) : MeI P w K mg base T.c_Ratio "__rsub__" 8 (spArR T.c_Ratio rsubT rsubB) :=
  ⟨T.a_Ratio___rsub__, T.fd_Ratio___rsub__, ["self", "other"], T.cl_Ratio, T.me_Ratio___rsub__, ok_Ratio___rsub__ T, T.F_Ratio___rsub__.binds fun _ _ _ _ _ _ us hl => match us, hl with | [_, _], _ => rfl⟩
end
section
variable {X : Cx}
theorem o_addR (T : GG X.K X.mg) (hr : Room 7 X.A) : OpR X (binaryOp .Add) (rOwnR T.c_Ratio (spArR T.c_Ratio addT mulB) E0) := op_ownR (d_radd ▸ M_radd T) io_add ⟨_, d_add ▸ T.me_Ratio___add__.at_⟩ T.sf_Ratio T.si_Ratio hr passL
theorem o_mulR (T : GG X.K X.mg) (hr : Room 7 X.A) : OpR X (binaryOp .Mult) (rOwnR T.c_Ratio (spArR T.c_Ratio mulT mulB) E0) := op_ownR (d_rmul ▸ M_rmul T) io_mul ⟨_, d_mul ▸ T.me_Ratio___mul__.at_⟩ T.sf_Ratio T.si_Ratio hr passL
theorem o_subR (T : GG X.K X.mg) (hr : Room 8 X.A) : OpR X (binaryOp .Sub) (rOwnR T.c_Ratio (spArR T.c_Ratio rsubT rsubB) E0) := op_ownR (d_rsub ▸ M_rsub T) io_sub ⟨_, d_sub ▸ T.me_Ratio___sub__.at_⟩ T.sf_Ratio T.si_Ratio hr passL
end
end Xl

namespace Xl
open PySem PySem.Spec PyProof.Rows L2
/-- r.over(v) -/
def spOver (C CO : Addr) : Sp := fun vs H Q E => ∃ r v p q p' q', vs = [.ref r, v] ∧ RatO C H r p q ∧ Num C H v p' q' ∧ Bd 2000 p ∧ Bd 2000 q ∧ Bd 2000 p' ∧ Bd 2000 q' ∧
  ((p' ≠ 0 ∧ ∀ r' H', Same H H' → H r' = none → RatO C H' r' (nT (p * q') (q * p')) (nB (p * q') (q * p')) → Q (.ref r') H') ∨
   (p' = 0 ∧ ∀ d H', Same H H' → H d = none → H' d = some (.xd [("value", v)]) → E (.ref CO) (some d) H'))
section
variable {P : Program} {w : World} {K : PySem.W.Frag} {mg : Str → Option Value} {base : Heap}
abbrev N_Ratio_over : List Str := ["self", "value", "divisor"]
theorem sc_Ratio_over : FnScope N_Ratio_over ["self", "value"] (defScope s_Ratio_over) := ⟨rfl, rfl, rfl, by decide +kernel, rfl, by decide +kernel, by decide +kernel⟩
theorem ok_Ratio_over (T : GG K mg) : FnOk P w K mg base (L2.CX P w) 6 T.a_Ratio_over T.fd_Ratio_over ["self", "value"] (spOver T.c_Ratio T.c_OutOfRange) := by
  refine T.F_Ratio_over.okX sc_Ratio_over (fun vs H Q E h => ?_) (fun cdv A outer s H vs Q E hr h => ?_)
  · obtain ⟨r, v, p, q, p', q', rfl, _⟩ := h
    rfl
  · obtain ⟨r, v, p, q, p', q', rfl, h1, h2, b1, b2, b3, b4, k⟩ := h
    refine ⟨_, (pss_cons (ps_set (i := 2) sc_Ratio_over.nd rfl (Or.inl rfl) (pe_f (F_as_ratio T) (hr.mono (by decide)) passL (pa_cons (pv 1) pa_nil)))
      (pss_cons (ps_if (pt_cmpR op_eq (pe_fld (pv 2) rfl) pe_int (nomark _)) (pss_one (ps_rx (X_OutOfRange T) (by decide) (hr.mono (by decide)) rfl (takes_of rfl rfl rfl rfl) (pa_cons (pv 1) pa_nil))) pss_nil)
      (pss_one (ps_ret (pe_mkI (M_Ratio T) (hr.mono (by decide)) T.g_Ratio passL (pa_cons (pe_op op_mulX (pe_fld (pv 0) rfl) (pe_fld (pv 2) rfl)) (pa_cons (pe_op op_mulX (pe_fld (pv 0) rfl) (pe_fld (pv 2) rfl)) pa_nil))))))), ?_⟩
    refine ⟨_, rfl, v, p', q', rfl, h2, fun r' H1 s1 _ ho => ?_⟩
    obtain ⟨_, dx, e⟩ := h1.same s1
    obtain ⟨_, dy, e'⟩ := id ho
    refine ⟨_, rfl, r', T.c_Ratio, dy, _, _, rfl, e', T.cl_Ratio, T.no_Ratio_upper, ratF_up _ _, rfl, _, rfl, iteB (fun h0 => ?_) (fun h0 => ?_)⟩
    · have hp : p' = 0 := V.int.inj (of_decide_eq_true h0)
      rcases k with ⟨hn, _⟩ | ⟨_, k⟩
      · exact absurd hp hn
      · exact ⟨_, rfl, rfl, fun d H' hs hd hd' => k d H' (s1.trans hs) (s1.free hd) hd'⟩
    · have hp : p' ≠ 0 := fun z => by subst z; simp at h0
      rcases k with ⟨_, k⟩ | ⟨hn, _⟩
      · have hq := h1.1.pos
        refine ⟨_, rfl, r, T.c_Ratio, dx, _, _, rfl, e, T.cl_Ratio, T.no_Ratio_upper, ratF_up _ _, _, rfl, r', T.c_Ratio, dy, _, _, rfl, e', T.cl_Ratio, T.no_Ratio_lower, ratF_lo _ _, _, _, rfl, rfl, ⟨2000, 2000, b1, b4, by decide⟩, ?_⟩
        refine ⟨_, rfl, r, T.c_Ratio, dx, _, _, rfl, e, T.cl_Ratio, T.no_Ratio_lower, ratF_lo _ _, _, rfl, r', T.c_Ratio, dy, _, _, rfl, e', T.cl_Ratio, T.no_Ratio_upper, ratF_up _ _, _, _, rfl, rfl, ⟨2000, 2000, b2, b3, by decide⟩, _, _, rfl, (b2.mul b3).ex (by decide), .inl ⟨?_, fun r2 H2 s2 hr2 ho2 => k r2 H2 (s1.trans s2) (s1.free hr2) ho2⟩⟩
        exact Int.mul_ne_zero (by omega) hp
      · exact absurd hn hp
theorem M_over (T : GG K mg) : MeI P w K mg base T.c_Ratio "over" 6 (spOver T.c_Ratio T.c_OutOfRange) :=
  ⟨T.a_Ratio_over, T.fd_Ratio_over, ["self", "value"], T.cl_Ratio, T.me_Ratio_over, ok_Ratio_over T, T.F_Ratio_over.binds fun _ _ _ _ _ _ us hl => match us, hl with | [_, _], _ => rfl⟩
end
end Xl

namespace Xl
open PySem PySem.Spec PyProof.Rows L2
/-! ### what the laws of ratios share: _law_low, _law_is -/
def spLow : Sp := fun vs H Q _ => ∃ u d : Int, vs = [.int u, .int d] ∧ d ≠ 0 ∧ (∃ n, n ≤ 8000 ∧ d.natAbs < 2 ^ n) ∧ ∀ p H', New H p (.tup [.int (nT u d), .int (nB u d)]) H' → Q (.ref p) H'
def PairO (H : Hp) (t : Addr) (p q : Int) : Prop := H t = some (.tup [.int p, .int q])
def spIs (C : Addr) : Sp := fun vs H Q _ => ∃ r t p q, vs = [.ref r, .ref t] ∧ RatO C H r p q ∧ PairO H t p q ∧ ∀ H', Same H H' → Q (.bl true) H'
theorem shaped_pair (p q : Int) : SeqAt.shaped (.tuple [.int p, .int q]) = true := shaped_of (lay_tuple (n := 1) fun d hd => by
  rcases List.mem_cons.mp hd with rfl | hd
  · exact lay_int p
  · rcases List.mem_cons.mp hd with rfl | hd
    · exact lay_int q
    · cases hd) (by decide)
theorem eqv_pair (p q : Int) : PyData.eqv (.tuple [.int p, .int q]) (.tuple [.int p, .int q]) = true := by simp [PyData.eqv, PyData.eqvAll]
section
variable {P : Program} {w : World} {K : PySem.W.Frag} {mg : Str → Option Value} {base : Heap}
abbrev N_low : List Str := ["_law_up", "_law_down", "_law_a", "_law_b"]
theorem sc_low : FnScope N_low ["_law_up", "_law_down"] (defScope s_low) := ⟨rfl, rfl, rfl, by decide +kernel, rfl, by decide +kernel, by decide +kernel⟩
theorem ok_low (T : GG K mg) : FnOk P w K mg base (L2.CX P w) 1 T.a_low T.fd_low ["_law_up", "_law_down"] spLow := by
  refine okN T.F_low sc_low (fun vs H Q E h => ?_) (fun cdv A outer s H vs Q E hr h => ?_)
  · obtain ⟨u, d, rfl, _⟩ := h
    rfl
  · obtain ⟨u, d, rfl, hd0, hd, k⟩ := h
    refine ⟨_, (pss_cons (ps_set (i := 2) sc_low.nd rfl (Or.inl rfl) (pe_callB call_abs rfl T.z_abs (by decide +kernel) (pa_cons (pv 0) pa_nil)))
      (pss_cons (ps_set (i := 3) sc_low.nd rfl (Or.inl rfl) (pe_callB call_abs rfl T.z_abs (by decide +kernel) (pa_cons (pv 1) pa_nil)))
      (pss_cut (ps_while PassesOwn.never (pt_cmpR op_ne (pv 3) pe_int (nomark _))
        (pss_one (ps_par (i := 2) (j := 3) rfl sc_low.nd rfl rfl (by decide) rfl rfl (pa_cons (pv 3) (pa_cons (pe_op op_mod (pe_callTy call_int1 rfl T.z_int (by decide +kernel) (pa_cons (pv 2) pa_nil)) (pv 3)) pa_nil)) rfl)))
      (pss_cut (ps_if (pt_cmpR op_lt (pv 1) pe_int (nomark _)) (pss_one (ps_set (i := 2) sc_low.nd rfl (Or.inl rfl) (pe_un un_neg (pv 2)))) pss_nil)
      (pss_one (ps_ret (pe_tupN (pa_cons (pe_op op_fdivX (pv 0) (pv 2)) (pa_cons (pe_op op_fdivX (pv 1) (pv 2)) pa_nil))))))))), ?_⟩
    refine ⟨_, rfl, _, rfl, _, rfl, _, rfl, ?_⟩
    refine ⟨fun σ H1 => ∃ c, σ = [some (.int u), some (.int d), some (.int (Int.gcd u d : Int)), some c] ∧ H1 = H, ⟨fun m σ H1 => ∃ x y : Int, m = y.toNat ∧ 0 ≤ x ∧ 0 ≤ y ∧ σ = [some (.int u), some (.int d), some (.int x), some (.int y)] ∧ H1 = H ∧ Int.gcd x y = Int.gcd u d, ⟨_, _, _, rfl, abs_nn u, abs_nn d, rfl, rfl, ?_⟩, ?_⟩, ?_⟩
    · rw [gcd_absl, gcd_absr]
    · rintro m σ H1 ⟨x, y, rfl, hx, hy, rfl, rfl, hg⟩
      refine ⟨_, rfl, rfl, _, rfl, iteB (fun hne => ?_) (fun he => ?_)⟩
      · have hy0 : y ≠ 0 := by
          intro e
          subst e
          simp at hne
        refine ⟨_, fun _ _ z => z, ?_⟩
        refine ⟨_, rfl, _, rfl, .inl ⟨x, rfl, _, rfl, _, _, rfl, rfl, (by omega), _, _, rfl, ?_⟩⟩
        have h0 := Int.emod_nonneg x hy0
        have h1 := Int.emod_lt_of_pos x (show 0 < y by omega)
        exact ⟨(x % y).toNat, by omega, y, x % y, rfl, by omega, h0, rfl, rfl, by rw [gcd_step hx (by omega)]; exact hg⟩
      · have hy0 : y = 0 := by
          have z := bnf he
          have := of_decide_eq_true z
          exact V.int.inj this
        subst hy0
        have e : x = (Int.gcd u d : Int) := by
          rw [← hg, Int.gcd_zero_right]
          omega
        exact ⟨_, by rw [e], rfl⟩
    · rintro σ H1 ⟨c, rfl, rfl⟩
      refine ⟨fun σ H2 => H2 = H1 ∧ σ = [some (.int u), some (.int d), some (.int (sgcd u d)), some c], ⟨_, rfl, _, _, rfl, rfl, _, rfl, iteB (fun he => ?_) (fun hne => ?_)⟩, ?_⟩
      · have hlt : d < 0 := of_decide_eq_true he
        refine ⟨_, rfl, _, rfl, rfl, ?_⟩
        unfold sgcd
        rw [if_pos hlt]
        rfl
      · have hge : ¬ d < 0 := of_decide_eq_false hne
        refine ⟨rfl, ?_⟩
        unfold sgcd
        rw [if_neg hge]
      rintro σ H2 ⟨rfl, rfl⟩
      exact ⟨_, rfl, _, rfl, _, _, rfl, rfl, div_ok hd0 hd, _, rfl, _, rfl, _, _, rfl, rfl, div_ok hd0 hd, (by show 2 ≤ sizeLine; decide), k⟩
theorem F_low (T : GG K mg) : FnI P w K mg base "_law_low" 1 ["_law_up", "_law_down"] spLow :=
  ⟨T.a_low, T.fd_low, ok_low T, T.m_low, T.F_low.kp, T.F_low.binds fun _ _ _ _ _ _ us hl => match us, hl with | [_, _], _ => rfl⟩
abbrev N_is : List Str := ["_law_actual", "_law_pair"]
theorem sc_is : FnScope N_is ["_law_actual", "_law_pair"] (defScope s_is) := ⟨rfl, rfl, rfl, by decide +kernel, rfl, by decide +kernel, by decide +kernel⟩
theorem ok_is (T : GG K mg) : FnOk P w K mg base (L2.CX P w) 3 T.a_is T.fd_is ["_law_actual", "_law_pair"] (spIs T.c_Ratio) := by
  refine okN T.F_is sc_is (fun vs H Q E h => ?_) (fun cdv A outer s H vs Q E hr h => ?_)
  · obtain ⟨r, t, p, q, rfl, _⟩ := h
    rfl
  · obtain ⟨r, t, p, q, rfl, hr1, ht, k⟩ := h
    refine ⟨_, (pss_cons (ps_if (PW.pt (pw_or (pt_not (pt_val (pe_callB call_isi rfl T.z_isinstance (by decide +kernel) (pa_cons (pv 0) (pa_cons (pe_cls T.g_Ratio) pa_nil))))) (pw_or (pt_not (pt_val (pe_callB call_isi rfl T.z_isinstance (by decide +kernel) (pa_cons (pe_pr (P_top T) hr passL (pv 0)) (pa_cons (pe_bltn (v := .ty "int") rfl T.z_int (by decide +kernel) rfl) pa_nil))))) (pw_or1 (pt_not (pt_val (pe_callB call_isi rfl T.z_isinstance (by decide +kernel) (pa_cons (pe_pr (P_bottom T) hr passL (pv 0)) (pa_cons (pe_bltn (v := .ty "int") rfl T.z_int (by decide +kernel) rfl) pa_nil))))))))) (pss_one (ps_ret pe_bl)) pss_nil)
      (pss_one (ps_ret (pe_cmpR (op_eqD hr.units) (pe_tupN (pa_cons (pe_pr (P_top T) hr passL (pv 0)) (pa_cons (pe_pr (P_bottom T) hr passL (pv 0)) pa_nil))) (pv 1) (nomark _))))), ?_⟩
    obtain ⟨hlow, dx, e⟩ := id hr1
    refine ⟨_, rfl, _, _, _, _, _, rfl, .own _, ty_Ratio T hr1, T.isa_Ratio_Ratio, _, rfl, iteF ?_⟩
    refine ⟨_, rfl, r, dx, _, rfl, e, r, p, q, rfl, hr1, ?_⟩
    refine ⟨.int p, .ty "int", .type "int", .type "int", true, rfl, .ty _, .base (.int _), kit_ty (by decide +kernel), _, rfl, iteF ?_⟩
    refine ⟨_, rfl, r, dx, _, rfl, e, r, p, q, rfl, hr1, ?_⟩
    refine ⟨.int q, .ty "int", .type "int", .type "int", true, rfl, .ty _, .base (.int _), kit_ty (by decide +kernel), _, rfl, iteF ?_⟩
    refine ⟨_, rfl, r, dx, _, rfl, e, r, p, q, rfl, hr1, _, rfl, r, dx, _, rfl, e, r, p, q, rfl, hr1, (by show 2 ≤ sizeLine; decide), fun t' H1 n1 => ?_⟩
    refine ⟨_, rfl, _, _, .tup (SqT.of n1.at) (.cons (.int p) (.cons (.int q) .nil)), .tup (SqT.of (n1.same _ _ ht)) (.cons (.int p) (.cons (.int q) .nil)), shaped_pair p q, shaped_pair p q, ?_⟩
    rw [eqv_pair]
    exact k H1 n1.same
theorem F_is (T : GG K mg) : FnI P w K mg base "_law_is" 3 ["_law_actual", "_law_pair"] (spIs T.c_Ratio) :=
  ⟨T.a_is, T.fd_is, ok_is T, T.m_is, T.F_is.kp, T.F_is.binds fun _ _ _ _ _ _ us hl => match us, hl with | [_, _], _ => rfl⟩
end
end Xl

namespace Xl
open PySem PySem.Spec PyProof.Rows L2
/-- the law's own text of a pair -/
def spText : Sp := fun vs H Q _ => ∃ t p q, vs = [.ref t] ∧ PairO H t p q ∧ p.natAbs.log2 < 1920 ∧ q.natAbs.log2 < 1920 ∧ Q (.str (rtext p q)) H
section
variable {P : Program} {w : World} {K : PySem.W.Frag} {mg : Str → Option Value} {base : Heap}
theorem log_ok {i : Int} (h : i.natAbs.log2 < 1920) : (toString i : Str).length ≤ 1000000 := by
  have := int_text_len_1921 h
  omega
abbrev N_text : List Str := ["_law_pair"]
theorem sc_text : FnScope N_text ["_law_pair"] (defScope s_text) := ⟨rfl, rfl, rfl, by decide +kernel, rfl, by decide +kernel, by decide +kernel⟩
theorem ok_text (T : GG K mg) : FnOk P w K mg base (L2.CX P w) 1 T.a_text T.fd_text ["_law_pair"] spText := by
  refine okN T.F_text sc_text (fun vs H Q E h => ?_) (fun cdv A outer s H vs Q E hr h => ?_)
  · obtain ⟨t, p, q, rfl, _⟩ := h
    rfl
  · obtain ⟨t, p, q, rfl, ht, hp, hq, k⟩ := h
    refine ⟨_, (pss_cons (ps_if (pt_cmpR op_eq (pe_ix ix_tup (pv 0) pe_int (fun _ _ => rfl)) pe_int (nomark _)) (pss_one (ps_ret (pe_callTy call_str_int rfl T.z_str (by decide +kernel) (pa_cons (pe_ix ix_tup (pv 0) pe_int (fun _ _ => rfl)) pa_nil)))) pss_nil)
      (pss_one (ps_ret (pe_op op_add_str (pe_op op_add_str (pe_callTy call_str_int rfl T.z_str (by decide +kernel) (pa_cons (pe_ix ix_tup (pv 0) pe_int (fun _ _ => rfl)) pa_nil)) pe_str) (pe_callTy call_str_int rfl T.z_str (by decide +kernel) (pa_cons (pe_ix ix_tup (pv 0) pe_int (fun _ _ => rfl)) pa_nil)))))), ?_⟩
    unfold rtext at k
    refine ⟨_, rfl, t, _, _, _, rfl, rfl, SqT.of ht, rfl, rfl, _, rfl, iteB (fun he => ?_) (fun hne => ?_)⟩
    · rw [if_pos (V.int.inj (of_decide_eq_true he))] at k
      exact ⟨_, rfl, t, _, _, _, rfl, rfl, SqT.of ht, rfl, p, rfl, hp, k⟩
    · rw [if_neg (fun z => by subst z; simp at hne)] at k
      have l1 := int_text_len_1921 hp
      have l2 := int_text_len_1921 hq
      have l3 : (Str.ofString "/").length = 1 := rfl
      refine ⟨_, rfl, t, _, _, _, rfl, rfl, SqT.of ht, rfl, p, rfl, hp, _, _, rfl, rfl, small_sz (by omega), ?_⟩
      refine ⟨_, rfl, t, _, _, _, rfl, rfl, SqT.of ht, rfl, q, rfl, hq, _, _, rfl, rfl, ?_, k⟩
      rw [app_len]
      exact small_sz (by omega)
theorem F_text (T : GG K mg) : FnI P w K mg base "_law_text" 1 ["_law_pair"] spText :=
  ⟨T.a_text, T.fd_text, ok_text T, T.m_text, T.F_text.kp, T.F_text.binds fun _ _ _ _ _ _ us hl => match us, hl with | [_], _ => rfl⟩
end
end Xl

namespace Xl
open PySem PySem.Spec PyProof.Rows L2
/-- the law's own sums and products of pairs -/
def spPairs (ft fb : Int → Int → Int → Int → Int) : Sp := fun vs H Q _ => ∃ t u p q p' q', vs = [.ref t, .ref u] ∧ PairO H t p q ∧ PairO H u p' q' ∧ fb p q p' q' ≠ 0 ∧ Bd 2000 p ∧ Bd 2000 q ∧ Bd 2000 p' ∧ Bd 2000 q' ∧
  ∀ z H', New H z (.tup [.int (nT (ft p q p' q') (fb p q p' q')), .int (nB (ft p q p' q') (fb p q p' q'))]) H' → Q (.ref z) H'
section
variable {P : Program} {w : World} {K : PySem.W.Frag} {mg : Str → Option Value} {base : Heap}
abbrev N_plus : List Str := ["_law_one", "_law_two"]
theorem sc_plus : FnScope N_plus ["_law_one", "_law_two"] (defScope s_plus) := ⟨rfl, rfl, rfl, by decide +kernel, rfl, by decide +kernel, by decide +kernel⟩
theorem ok_plus (T : GG K mg) : FnOk P w K mg base (L2.CX P w) 2 T.a_plus T.fd_plus ["_law_one", "_law_two"] (spPairs addT mulB) := by
  refine okN T.F_plus sc_plus (fun vs H Q E h => ?_) (fun cdv A outer s H vs Q E hr h => ?_)
  · obtain ⟨t, u, p, q, p', q', rfl, _⟩ := h
    rfl
  · obtain ⟨t, u, p, q, p', q', rfl, h1, h2, h0, b1, b2, b3, b4, k⟩ := h
    refine ⟨_, (pss_one (ps_ret (pe_f (F_low T) hr passL (pa_cons (pe_op op_add (pe_op op_mulX (pe_ix ix_tup (pv 0) pe_int (fun _ _ => rfl)) (pe_ix ix_tup (pv 1) pe_int (fun _ _ => rfl))) (pe_op op_mulX (pe_ix ix_tup (pv 1) pe_int (fun _ _ => rfl)) (pe_ix ix_tup (pv 0) pe_int (fun _ _ => rfl)))) (pa_cons (pe_op op_mulX (pe_ix ix_tup (pv 0) pe_int (fun _ _ => rfl)) (pe_ix ix_tup (pv 1) pe_int (fun _ _ => rfl))) pa_nil))))), ?_⟩
    refine ⟨_, rfl, t, _, _, _, rfl, rfl, SqT.of h1, rfl, _, rfl, u, _, _, _, rfl, rfl, SqT.of h2, rfl, p, q', rfl, rfl, ⟨2000, 2000, b1, b4, by decide⟩, ?_⟩
    refine ⟨_, rfl, u, _, _, _, rfl, rfl, SqT.of h2, rfl, _, rfl, t, _, _, _, rfl, rfl, SqT.of h1, rfl, p', q, rfl, rfl, ⟨2000, 2000, b3, b2, by decide⟩, _, _, rfl, rfl, ?_⟩
    exact ⟨_, rfl, t, _, _, _, rfl, rfl, SqT.of h1, rfl, _, rfl, u, _, _, _, rfl, rfl, SqT.of h2, rfl, q, q', rfl, rfl, ⟨2000, 2000, b2, b4, by decide⟩, _, _, rfl, h0, (b2.mul b4).ex (by decide), k⟩
theorem F_plus (T : GG K mg) : FnI P w K mg base "_law_plus" 2 ["_law_one", "_law_two"] (spPairs addT mulB) :=
  ⟨T.a_plus, T.fd_plus, ok_plus T, T.m_plus, T.F_plus.kp, T.F_plus.binds fun _ _ _ _ _ _ us hl => match us, hl with | [_, _], _ => rfl⟩
theorem sc_times : FnScope N_plus ["_law_one", "_law_two"] (defScope s_times) := ⟨rfl, rfl, rfl, by decide +kernel, rfl, by decide +kernel, by decide +kernel⟩
theorem ok_times (T : GG K mg) : FnOk P w K mg base (L2.CX P w) 2 T.a_times T.fd_times ["_law_one", "_law_two"] (spPairs mulT mulB) := by
  refine okN T.F_times sc_times (fun vs H Q E h => ?_) (fun cdv A outer s H vs Q E hr h => ?_)
  · obtain ⟨t, u, p, q, p', q', rfl, _⟩ := h
    rfl
  · obtain ⟨t, u, p, q, p', q', rfl, h1, h2, h0, b1, b2, b3, b4, k⟩ := h
    refine ⟨_, (pss_one (ps_ret (pe_f (F_low T) hr passL (pa_cons (pe_op op_mulX (pe_ix ix_tup (pv 0) pe_int (fun _ _ => rfl)) (pe_ix ix_tup (pv 1) pe_int (fun _ _ => rfl))) (pa_cons (pe_op op_mulX (pe_ix ix_tup (pv 0) pe_int (fun _ _ => rfl)) (pe_ix ix_tup (pv 1) pe_int (fun _ _ => rfl))) pa_nil))))), ?_⟩
    refine ⟨_, rfl, t, _, _, _, rfl, rfl, SqT.of h1, rfl, _, rfl, u, _, _, _, rfl, rfl, SqT.of h2, rfl, p, p', rfl, rfl, ⟨2000, 2000, b1, b3, by decide⟩, ?_⟩
    exact ⟨_, rfl, t, _, _, _, rfl, rfl, SqT.of h1, rfl, _, rfl, u, _, _, _, rfl, rfl, SqT.of h2, rfl, q, q', rfl, rfl, ⟨2000, 2000, b2, b4, by decide⟩, _, _, rfl, h0, (b2.mul b4).ex (by decide), k⟩
theorem F_times (T : GG K mg) : FnI P w K mg base "_law_times" 2 ["_law_one", "_law_two"] (spPairs mulT mulB) :=
  ⟨T.a_times, T.fd_times, ok_times T, T.m_times, T.F_times.kp, T.F_times.binds fun _ _ _ _ _ _ us hl => match us, hl with | [_, _], _ => rfl⟩
end
end Xl

namespace Xl
open PySem PySem.Spec PyProof.Rows L2
def spLess : Sp := fun vs H Q _ => ∃ t u p q p' q', vs = [.ref t, .ref u] ∧ PairO H t p q ∧ PairO H u p' q' ∧ Bd 4000 p ∧ Bd 4000 q ∧ Bd 4000 p' ∧ Bd 4000 q' ∧ Q (.bl (decide (p * q' < p' * q))) H
section
variable {P : Program} {w : World} {K : PySem.W.Frag} {mg : Str → Option Value} {base : Heap}
abbrev N_less : List Str := ["_law_one", "_law_two"]
theorem sc_less : FnScope N_less ["_law_one", "_law_two"] (defScope s_less) := ⟨rfl, rfl, rfl, by decide +kernel, rfl, by decide +kernel, by decide +kernel⟩
theorem ok_less (T : GG K mg) : FnOk P w K mg base (L2.CX P w) 1 T.a_less T.fd_less ["_law_one", "_law_two"] spLess := by
  refine okN T.F_less sc_less (fun vs H Q E h => ?_) (fun cdv A outer s H vs Q E hr h => ?_)
  · obtain ⟨t, u, p, q, p', q', rfl, _⟩ := h
    rfl
  · obtain ⟨t, u, p, q, p', q', rfl, h1, h2, b1, b2, b3, b4, k⟩ := h
    refine ⟨_, (pss_one (ps_ret (pe_cmpR op_lt (pe_op op_mulX (pe_ix ix_tup (pv 0) pe_int (fun _ _ => rfl)) (pe_ix ix_tup (pv 1) pe_int (fun _ _ => rfl))) (pe_op op_mulX (pe_ix ix_tup (pv 1) pe_int (fun _ _ => rfl)) (pe_ix ix_tup (pv 0) pe_int (fun _ _ => rfl))) (nomark _)))), ?_⟩
    refine ⟨_, rfl, t, _, _, _, rfl, rfl, SqT.of h1, rfl, _, rfl, u, _, _, _, rfl, rfl, SqT.of h2, rfl, p, q', rfl, rfl, ⟨4000, 4000, b1, b4, by decide⟩, ?_⟩
    exact ⟨_, rfl, u, _, _, _, rfl, rfl, SqT.of h2, rfl, _, rfl, t, _, _, _, rfl, rfl, SqT.of h1, rfl, p', q, rfl, rfl, ⟨4000, 4000, b3, b2, by decide⟩, _, _, rfl, rfl, k⟩
theorem F_less (T : GG K mg) : FnI P w K mg base "_law_less" 1 ["_law_one", "_law_two"] spLess :=
  ⟨T.a_less, T.fd_less, ok_less T, T.m_less, T.F_less.kp, T.F_less.binds fun _ _ _ _ _ _ us hl => match us, hl with | [_, _], _ => rfl⟩
end
end Xl

namespace Xl
open PySem PySem.Spec PyProof.Rows L2
/-! ### least, greatest -/
def Nums (C : Addr) (H : Hp) (vs : List V) (ps : List (Int × Int)) : Prop := vs.length = ps.length ∧ ∀ (i : Nat) (v : V), vs[i]? = some v → ∃ p q, ps[i]? = some (p, q) ∧ Num C H v p q
theorem Nums.same {C : Addr} {H H' : Hp} {vs : List V} {ps : List (Int × Int)} (h : Nums C H vs ps) (s : Same H H') : Nums C H' vs ps := ⟨h.1, fun i v e => let ⟨p, q, e2, n⟩ := h.2 i v e; ⟨p, q, e2, n.same s⟩⟩
def Sized (n : Nat) (ps : List (Int × Int)) : Prop := ∀ x ∈ ps, Bd n x.1 ∧ Bd n x.2
def IsMin (ps : List (Int × Int)) (p q : Int) : Prop := (p, q) ∈ ps ∧ ∀ x ∈ ps, p * x.2 ≤ x.1 * q
def IsMax (ps : List (Int × Int)) (p q : Int) : Prop := (p, q) ∈ ps ∧ ∀ x ∈ ps, x.1 * q ≤ p * x.2
theorem frac_trans {p q p' q' s r : Int} (hq : 0 < q) (hr : 0 ≤ r) (hq' : 0 ≤ q') (h1 : p' * q ≤ p * q') (h2 : p * r ≤ s * q) : p' * r ≤ s * q' := by
  have a1 : p' * q * r ≤ p * q' * r := Int.mul_le_mul_of_nonneg_right h1 hr
  have a2 : p * r * q' ≤ s * q * q' := Int.mul_le_mul_of_nonneg_right h2 hq'
  have e1 : p' * q * r = p' * r * q := by rw [Int.mul_assoc, Int.mul_comm q r, ← Int.mul_assoc]
  have e2 : p * q' * r = p * r * q' := by rw [Int.mul_assoc, Int.mul_comm q' r, ← Int.mul_assoc]
  have e3 : s * q * q' = s * q' * q := by rw [Int.mul_assoc, Int.mul_comm q q', ← Int.mul_assoc]
  rw [e1, e2] at a1
  rw [e3] at a2
  exact Int.le_of_mul_le_mul_right (Int.le_trans a1 a2) hq
def spLeast (K : PySem.W.Frag) (C CB : Addr) : Sp := fun args H Q E => ∃ a vs ps, args = [.ref a] ∧ SeqV K H a vs ∧ Nums C H vs ps ∧ Sized 4000 ps ∧
  ((ps ≠ [] ∧ ∀ r H' p q, Same H H' → IsMin ps p q → RatO C H' r p q → Q (.ref r) H') ∨ (ps = [] ∧ ∀ d H', Same H H' → H d = none → H' d = some (.xd [("count", .int 0)]) → E (.ref CB) (some d) H'))
def spGreatest (K : PySem.W.Frag) (C CB : Addr) : Sp := fun args H Q E => ∃ a vs ps, args = [.ref a] ∧ SeqV K H a vs ∧ Nums C H vs ps ∧ Sized 4000 ps ∧ vs.length ≤ 1000 ∧
  ((ps ≠ [] ∧ ∀ r H' p q, Same H H' → IsMax ps p q → RatO C H' r p q → Q (.ref r) H') ∨ (ps = [] ∧ ∀ d H', Same H H' → H d = none → H' d = some (.xd [("count", .int 0)]) → E (.ref CB) (some d) H'))
theorem Num.pos {C : Addr} {H : Hp} {v : V} {p q : Int} (h : Num C H v p q) : 0 < q := h.low.pos
section
variable {P : Program} {w : World} {K : PySem.W.Frag} {mg : Str → Option Value} {base : Heap}
abbrev N_least : List Str := ["values", "found", "value"]
theorem sc_least : FnScope N_least ["values"] (defScope s_least) := ⟨rfl, rfl, rfl, by decide +kernel, rfl, by decide +kernel, by decide +kernel⟩
theorem ok_least (T : GG K mg) : FnOk P w K mg base (L2.CX P w) 7 T.a_least T.fd_least ["values"] (spLeast K T.c_Ratio T.c_BadCount) := by
  refine T.F_least.okX sc_least (fun vs H Q E h => ?_) (fun cdv A outer s H vs Q E hr h => ?_)
  · obtain ⟨a, vs, ps, rfl, _⟩ := h
    rfl
  · obtain ⟨a, vs, ps, rfl, hsq, hn, hz, k⟩ := h
    refine ⟨_, (pss_cons (ps_if (pt_cmpR op_eq (pe_callB call_len_seq rfl T.z_len PySem.boot_len (pa_cons (pv 0) pa_nil)) pe_int (nomark _)) (pss_one (ps_rx (X_BadCount T) (by decide) (hr.mono (by decide)) rfl (takes_of rfl rfl rfl rfl) (pa_cons pe_int pa_nil))) pss_nil)
      (pss_cons (ps_set (i := 1) sc_least.nd rfl (Or.inl rfl) (pe_f (F_as_ratio T) (hr.mono (by decide)) passL (pa_cons (pe_ix ix_seq (pv 0) pe_int (fun _ _ => rfl)) pa_nil)))
      (pss_cons (ps_for (passes_of rfl) rfl (pi_seqV (pv 0)) (pg_name (i := 2) sc_least.nd rfl (Or.inl rfl))
        (pss_one (ps_if (pt_truth (pe_mt (M_below T) (hr.mono (by decide)) passL (pe_f (F_as_ratio T) (hr.mono (by decide)) passL (pa_cons (pv 2) pa_nil)) (pa_cons (pv 1) pa_nil)) (by intro _; rfl)) (pss_one (ps_set (i := 1) sc_least.nd rfl (Or.inl rfl) (pe_f (F_as_ratio T) (hr.mono (by decide)) passL (pa_cons (pv 2) pa_nil)))) pss_nil)))
      (pss_one (ps_ret (pv 1)))))), ?_⟩
    refine ⟨_, rfl, a, vs, rfl, hsq, rfl, _, rfl, iteB (fun h0 => ?_) (fun h0 => ?_)⟩
    · have h0' := V.int.inj (of_decide_eq_true h0)
      have e0 : ps = [] := List.length_eq_zero_iff.mp (by have := hn.1; omega)
      rcases k with ⟨hne, _⟩ | ⟨_, k⟩
      · exact absurd e0 hne
      · exact ⟨rfl, fun d H' hs hd hd' => k d H' hs hd hd'⟩
    · have h0' : vs.length ≠ 0 := fun z => by
        have := of_decide_eq_false h0
        rw [z] at this
        exact this rfl
      rcases k with ⟨hne, k⟩ | ⟨e0, _⟩
      · obtain ⟨v0, ev0⟩ : ∃ v0, vs[0]? = some v0 := ⟨vs[0], List.getElem?_eq_getElem (by omega)⟩
        obtain ⟨p0, q0, ep0, n0⟩ := hn.2 0 v0 ev0
        refine ⟨_, rfl, a, vs, 0, v0, rfl, rfl, hsq, atI_nat (j := 0) ev0, v0, p0, q0, rfl, n0, fun r0 H1 s1 _ ho0 => ?_⟩
        refine ⟨a, vs, rfl, hsq.same s1, fun J S hS w => for_it w (fun i σ H2 => Same H1 H2 ∧ ∃ r p q ov, σ = [some (.ref a), some (.ref r), ov] ∧ RatO T.c_Ratio H2 r p q ∧ (p, q) ∈ ps ∧ ∀ (j : Nat) (x : Int × Int), j < i → ps[j]? = some x → p * x.2 ≤ x.1 * q) ?_ (fun i σ H2 _ hp => hS H2 hp.1) ?_ ?_⟩
        · exact ⟨Same.refl _, r0, p0, q0, _, rfl, ho0, List.mem_of_getElem? ep0, fun j x hj => absurd hj (Nat.not_lt_zero _)⟩
        · rintro i v σ H2 H3 hi ⟨s2, r, p, q, ov, rfl, ho, hmem, hall⟩ ⟨rfl, hv⟩
          obtain ⟨p', q', ep', n'⟩ := hn.2 i v hv
          have n2 := n'.same (s1.trans s2)
          have hm' : (p', q') ∈ ps := List.mem_of_getElem? ep'
          refine ⟨_, rfl, v, p', q', rfl, n2, fun r' H4 s4 _ ho' => ?_⟩
          obtain ⟨_, dx, e'⟩ := id ho'
          have ho4 := ho.same s4
          refine ⟨r', dx, _, rfl, e', ratF_no _ _ (by decide +kernel) (by decide +kernel), _, rfl, r', .ref r, p', q', p, q, rfl, ho', .inr ⟨r, rfl, ho4⟩, (hz _ hm').1, (hz _ hm').2, (hz _ hmem).1, (hz _ hmem).2, fun H5 s5 => ⟨_, rfl, iteB (fun hlt => ?_) (fun hge => ?_)⟩⟩
          · have hlt' : p' * q < p * q' := of_decide_eq_true hlt
            refine ⟨_, rfl, v, p', q', rfl, n2.same (s4.trans s5), fun r6 H6 s6 _ ho6 => ⟨s2.trans (s4.trans (s5.trans s6)), r6, p', q', _, rfl, ho6, hm', fun j x hj hx => ?_⟩⟩
            by_cases hji : j = i
            · subst hji
              rw [ep'] at hx
              cases hx
              exact Int.le_refl _
            · have hx2 := hall j x (by omega) hx
              obtain ⟨xv, exv⟩ : ∃ xv, vs[j]? = some xv := ⟨vs[j]'(by omega), List.getElem?_eq_getElem (by omega)⟩
              obtain ⟨a1, a2, a3, a4⟩ := hn.2 j xv exv
              rw [hx] at a3
              cases a3
              exact frac_trans ho.1.pos (by have := a4.pos; omega) (by have := n'.pos; omega) (by omega) hx2
          · have hge' : ¬ p' * q < p * q' := of_decide_eq_false hge
            refine ⟨s2.trans (s4.trans s5), r, p, q, _, rfl, ho4.same s5, hmem, fun j x hj hx => ?_⟩
            by_cases hji : j = i
            · subst hji
              rw [ep'] at hx
              cases hx
              show p * q' ≤ p' * q
              omega
            · exact hall j x (by omega) hx
        · rintro σ H2 ⟨s2, r, p, q, ov, rfl, ho, hmem, hall⟩
          refine ⟨_, rfl, k r H2 p q (s1.trans s2) ⟨hmem, fun x hx => ?_⟩ ho⟩
          obtain ⟨j, hj, ej⟩ := List.mem_iff_getElem.mp hx
          exact hall j x (by rw [hn.1]; exact hj) (by rw [← ej]; exact List.getElem?_eq_getElem hj)
      · exact absurd hn.1 (by rw [e0]; exact h0')
theorem F_least (T : GG K mg) : FnI P w K mg base "least" 7 ["values"] (spLeast K T.c_Ratio T.c_BadCount) :=
  ⟨T.a_least, T.fd_least, ok_least T, T.m_least, T.F_least.kp, T.F_least.binds fun _ _ _ _ _ _ us hl => match us, hl with | [_], _ => rfl⟩
theorem FK_least (T : GG K mg) : FnK P w K mg base "least" 7 ["values"] (spLeast K T.c_Ratio T.c_BadCount) := by
  refine ⟨T.a_least, T.fd_least, ok_least T, T.m_least, T.F_least.kp, ?_⟩
  obtain ⟨oc, od, kV, doc, pm, an, cdv, ct, osl, e, lk, hcd⟩ := T.F_least.ex
  rw [e]
  exact fun s ws hl => match ws, hl with | [_], _ => .of_eq rfl
abbrev N_greatest : List Str := ["values", "value"]
theorem sc_greatest : FnScope N_greatest ["values"] (defScope s_greatest) := ⟨rfl, rfl, rfl, by decide +kernel, rfl, by decide +kernel, by decide +kernel⟩
def ngP (x : Int × Int) : Int × Int := (-x.1, x.2)
theorem ok_greatest (T : GG K mg) : FnOk P w K mg base (L2.CX P w) 8 T.a_greatest T.fd_greatest ["values"] (spGreatest K T.c_Ratio T.c_BadCount) := by
  refine T.F_greatest.okX sc_greatest (fun vs H Q E h => ?_) (fun cdv A outer s H vs Q E hr h => ?_)
  · obtain ⟨a, vs, ps, rfl, _⟩ := h
    rfl
  · obtain ⟨a, vs, ps, rfl, hsq, hn, hz, hvl, k⟩ := h
    refine ⟨_, (pss_one (ps_ret (pe_un (un_own (M_neg T) (hr.mono (by decide)) passL) (pe_f (F_least T) hr (passes_call (takes_of rfl rfl rfl rfl) (fun _ _ _ _ h => h)) (pa_cons (pe_lc (own := [("value", 1)])  rfl sc_greatest.nd (pi_seqV (pv 0)) (blkOk_by (N := N_greatest) (sc := defScope s_greatest) (by decide +kernel)) (fun _ _ _ _ _ => (pg_name (i := 1) sc_greatest.nd rfl (Or.inl rfl))) (fun _ _ _ _ _ => pts_nil) (fun _ _ _ _ _ => (pe_un (un_own (M_neg T) (hr.mono (by decide)) passL) (pe_f (F_as_ratio T) (hr.mono (by decide)) passL (pa_cons (pv 1) pa_nil))))) pa_nil))))), ?_⟩
    refine ⟨a, vs, rfl, hsq, fun J S hS w D hD => lc_it w (fun i H2 => ∃ rs : List Addr, Same H H2 ∧ H2 D = some (.lst (rs.map V.ref)) ∧ rs.length = i ∧ ∀ (j : Nat) (r : Addr) (x : Int × Int), rs[j]? = some r → ps[j]? = some x → RatO T.c_Ratio H2 r (-x.1) x.2) ?_ (fun i H2 _ hp => hp.elim fun _ hp => hS H2 hp.1) ?_ ?_⟩
    · exact ⟨[], (new_of hD).same, upd_same, rfl, fun j r x h => by simp at h⟩
    · rintro i v H2 H3 hi ⟨rs, s2, hD2, hl, hall⟩ ⟨rfl, hv⟩
      obtain ⟨p', q', ep', n'⟩ := hn.2 i v hv
      have hm' : (p', q') ∈ ps := List.mem_of_getElem? ep'
      refine ⟨rfl, _, rfl, v, p', q', rfl, n'.same s2, fun r' H4 s4 _ ho' => ?_⟩
      obtain ⟨_, dx, e'⟩ := id ho'
      refine ⟨r', dx, _, rfl, e', r', p', q', rfl, ho', (hz _ hm').2.mono (by decide), fun r5 H5 s5 _ ho5 => ?_⟩
      have hD5 := s5 _ _ (s4 _ _ hD2)
      have nD : ∀ r p q, RatO T.c_Ratio H5 r p q → RatO T.c_Ratio (upd H5 D (.lst (rs.map V.ref ++ [.ref r5]))) r p q := fun r p q ⟨hl, dx, e⟩ => ⟨hl, dx, by
        rw [upd_ne]
        · exact e
        · intro z
          subst z
          rw [hD5] at e
          cases e⟩
      refine ⟨_, hD5, ?_, rs ++ [r5], ?_, ?_, ?_, fun j r x hr hx => ?_⟩
      · rw [List.length_map]; exact small_szlt (by omega)
      · intro b o eb
        rw [upd_ne (ne_of_none eb hD)]
        exact s5 _ _ (s4 _ _ (s2 _ _ eb))
      · rw [upd_same, List.map_append]; rfl
      · rw [List.length_append, hl]; rfl
      · by_cases hji : j < rs.length
        · rw [List.getElem?_append_left hji] at hr
          exact nD _ _ _ ((hall j r x hr hx).same (s4.trans s5))
        · have hjl : j < (rs ++ [r5]).length := by
            rcases Nat.lt_or_ge j (rs ++ [r5]).length with h | h
            · exact h
            · rw [List.getElem?_eq_none h] at hr; cases hr
          rw [List.length_append, List.length_singleton] at hjl
          have hj : j = i := by omega
          subst hj
          rw [List.getElem?_append_right (by omega), hl, Nat.sub_self] at hr
          rw [ep'] at hx
          cases hr
          cases hx
          exact nD _ _ _ ho5
    · rintro H2 ⟨rs, s2, hD2, hl, hall⟩
      have hlp : rs.length = ps.length := by rw [hl, hn.1]
      have hnum : Nums T.c_Ratio H2 (rs.map V.ref) (ps.map ngP) := by
        refine ⟨by rw [List.length_map, List.length_map, hlp], fun i v hv => ?_⟩
        rw [List.getElem?_map] at hv
        cases er : rs[i]? with
        | none => rw [er] at hv; cases hv
        | some r =>
          rw [er] at hv
          cases hv
          have hi : i < ps.length := by
            rcases Nat.lt_or_ge i rs.length with h | h
            · omega
            · rw [List.getElem?_eq_none h] at er; cases er
          refine ⟨-(ps[i]).1, (ps[i]).2, ?_, .inr ⟨r, rfl, hall i r _ er (List.getElem?_eq_getElem hi)⟩⟩
          rw [List.getElem?_map, List.getElem?_eq_getElem hi]
          rfl
      have hsz : Sized 4000 (ps.map ngP) := fun x hx => by
        obtain ⟨y, hy, rfl⟩ := List.mem_map.mp hx
        exact ⟨(hz y hy).1.neg, (hz y hy).2⟩
      refine ⟨D, _, ps.map ngP, rfl, .inl (SqL.of hD2), hnum, hsz, ?_⟩
      rcases k with ⟨hne, k⟩ | ⟨e0, k⟩
      · refine .inl ⟨by simpa using hne, fun r H3 p q s3 hmin ho => ?_⟩
        obtain ⟨y, hy, ey⟩ := List.mem_map.mp hmin.1
        obtain ⟨_, dx, e⟩ := id ho
        have eq2 : q = y.2 := (congrArg Prod.snd ey).symm
        have ep2 : p = -y.1 := (congrArg Prod.fst ey).symm
        refine ⟨r, dx, _, rfl, e, r, p, q, rfl, ho, by rw [eq2]; exact (hz y hy).2.mono (by decide), fun r' H4 s4 _ ho' => k r' H4 (-p) q (s2.trans (s3.trans s4)) ⟨?_, fun x hx => ?_⟩ ho'⟩
        · rw [ep2, eq2, Int.neg_neg]
          exact hy
        · have := hmin.2 (ngP x) (List.mem_map.mpr ⟨x, hx, rfl⟩)
          have h2 : p * x.2 ≤ -x.1 * q := this
          rw [Int.neg_mul] at h2 ⊢
          omega
      · exact .inr ⟨by rw [e0]; rfl, fun d H' hs hd hd' => k d H' (s2.trans hs) (s2.free hd) hd'⟩
theorem F_greatest (T : GG K mg) : FnI P w K mg base "greatest" 8 ["values"] (spGreatest K T.c_Ratio T.c_BadCount) :=
  ⟨T.a_greatest, T.fd_greatest, ok_greatest T, T.m_greatest, T.F_greatest.kp, T.F_greatest.binds fun _ _ _ _ _ _ us hl => match us, hl with | [_], _ => rfl⟩
theorem FK_greatest (T : GG K mg) : FnK P w K mg base "greatest" 8 ["values"] (spGreatest K T.c_Ratio T.c_BadCount) := by
  refine ⟨T.a_greatest, T.fd_greatest, ok_greatest T, T.m_greatest, T.F_greatest.kp, ?_⟩
  obtain ⟨oc, od, kV, doc, pm, an, cdv, ct, osl, e, lk, hcd⟩ := T.F_greatest.ex
  rw [e]
  exact fun s ws hl => match ws, hl with | [_], _ => .of_eq rfl
end
end Xl

namespace Xl
open PySem PySem.Spec PyProof.Rows L2
/-- three registers: ratios at R, pairs at L -/
structure Regs (C : Addr) (H : Hp) (R L : Addr) (rs ts : List Addr) (ps : List (Int × Int)) : Prop where
  hR : H R = some (.lst (rs.map V.ref))
  hL : H L = some (.lst (ts.map V.ref))
  l1 : rs.length = 3
  l2 : ts.length = 3
  l3 : ps.length = 3
  rat : ∀ (i : Nat) (r : Addr), rs[i]? = some r → ∃ p q, ps[i]? = some (p, q) ∧ RatO C H r p q
  pr : ∀ (i : Nat) (t : Addr), ts[i]? = some t → ∃ p q, ps[i]? = some (p, q) ∧ PairO H t p q
  sz : ∀ x ∈ ps, Bd 500 x.1 ∧ Bd 500 x.2
theorem Regs.same {C : Addr} {H H' : Hp} {R L : Addr} {rs ts : List Addr} {ps : List (Int × Int)} (h : Regs C H R L rs ts ps) (s : Same H H') : Regs C H' R L rs ts ps :=
  ⟨s _ _ h.hR, s _ _ h.hL, h.l1, h.l2, h.l3, fun i r e => let ⟨p, q, e2, o⟩ := h.rat i r e; ⟨p, q, e2, o.same s⟩, fun i r e => let ⟨p, q, e2, o⟩ := h.pr i r e; ⟨p, q, e2, s _ _ o⟩, h.sz⟩
/-- the i-th register -/
theorem Regs.at {C : Addr} {H : Hp} {R L : Addr} {rs ts : List Addr} {ps : List (Int × Int)} (h : Regs C H R L rs ts ps) {i : Nat} (hi : i < 3) :
    ∃ r t p q, atI (rs.map V.ref) (i : Int) = some (.ref r) ∧ atI (ts.map V.ref) (i : Int) = some (.ref t) ∧ rs[i]? = some r ∧ ts[i]? = some t ∧ ps[i]? = some (p, q) ∧ RatO C H r p q ∧ PairO H t p q ∧ Bd 500 p ∧ Bd 500 q := by
  have i1 : i < rs.length := by rw [h.l1]; exact hi
  have i2 : i < ts.length := by rw [h.l2]; exact hi
  have e1 := List.getElem?_eq_getElem i1
  have e2 := List.getElem?_eq_getElem i2
  obtain ⟨p, q, ep, ho⟩ := h.rat i _ e1
  obtain ⟨p', q', ep', hp⟩ := h.pr i _ e2
  rw [ep] at ep'
  cases ep'
  have b := h.sz _ (List.mem_of_getElem? ep)
  exact ⟨_, _, p, q, atI_nat (by rw [List.getElem?_map, e1]; rfl), atI_nat (by rw [List.getElem?_map, e2]; rfl), e1, e2, ep, ho, hp, b.1, b.2⟩
def spAgrees (C : Addr) : Sp := fun args H Q _ => ∃ R L rs ts ps, args = [.ref R, .ref L] ∧ Regs C H R L rs ts ps ∧ ∀ H', Same H H' → Q (.bl true) H'
theorem eqv_pairs (p q p' q' : Int) : PyData.eqv (.tuple [.int p, .int q]) (.tuple [.int p', .int q']) = decide (p = p' ∧ q = q') := by
  rw [Bool.eq_iff_iff, decide_eq_true_iff]
  simp [PyData.eqv, PyData.eqvAll]
section
variable {P : Program} {w : World} {K : PySem.W.Frag} {mg : Str → Option Value} {base : Heap}
abbrev N_agrees : List Str := ["_law_ratios", "_law_pairs", "_law_i", "_law_k"]
theorem sc_agrees : FnScope N_agrees ["_law_ratios", "_law_pairs"] (defScope s_agrees) := ⟨rfl, rfl, rfl, by decide +kernel, rfl, by decide +kernel, by decide +kernel⟩
theorem ok_agrees (T : GG K mg) : FnOk P w K mg base (L2.CX P w) 7 T.a_agrees T.fd_agrees ["_law_ratios", "_law_pairs"] (spAgrees T.c_Ratio) := by
  refine okN T.F_agrees sc_agrees (fun vs H Q E h => ?_) (fun cdv A outer s H vs Q E hr h => ?_)
  · obtain ⟨R, L, rs, ts, ps, rfl, _⟩ := h
    rfl
  · obtain ⟨R, L, rs, ts, ps, rfl, hg, k⟩ := h
    refine ⟨_, (pss_cons (ps_for PassesOwn.never rfl (pi_range1 rfl T.z_range (pa_cons pe_int pa_nil)) (pg_name (i := 2) sc_agrees.nd rfl (Or.inl rfl))
        (pss_cons (ps_if (PW.pt (pw_or (pt_not (pt_truth (pe_f (F_is T) (hr.mono (by decide)) passL (pa_cons (pe_ix ix_list (pv 0) (pv 2) (fun _ _ => rfl)) (pa_cons (pe_ix ix_list (pv 1) (pv 2) (fun _ _ => rfl)) pa_nil))) (by intro _; rfl))) (pw_or1 (pt_cmpR op_ne (pe_callTy (call_strO (S_Ratio T) (hr.mono (by decide)) passL) rfl T.z_str (by decide +kernel) (pa_cons (pe_ix ix_list (pv 0) (pv 2) (fun _ _ => rfl)) pa_nil)) (pe_f (F_text T) (hr.mono (by decide)) passL (pa_cons (pe_ix ix_list (pv 1) (pv 2) (fun _ _ => rfl)) pa_nil)) (nomark _))))) (pss_one (ps_ret pe_bl)) pss_nil)
        (pss_cons (ps_if (pt_cmpR op_ne (pe_pr (P_sign T) (hr.mono (by decide)) passL (pe_ix ix_list (pv 0) (pv 2) (fun _ _ => rfl))) (pe_op op_sub (pe_callTy call_int1 rfl T.z_int (by decide +kernel) (pa_cons (pe_cmpR op_gt (pe_ix ix_tup (pe_ix ix_list (pv 1) (pv 2) (fun _ _ => rfl)) pe_int (fun _ _ => rfl)) pe_int (nomark _)) pa_nil)) (pe_callTy call_int1 rfl T.z_int (by decide +kernel) (pa_cons (pe_cmpR op_lt (pe_ix ix_tup (pe_ix ix_list (pv 1) (pv 2) (fun _ _ => rfl)) pe_int (fun _ _ => rfl)) pe_int (nomark _)) pa_nil))) (nomark _)) (pss_one (ps_ret pe_bl)) pss_nil)
        (pss_one (ps_for PassesOwn.never rfl (pi_range1 rfl T.z_range (pa_cons pe_int pa_nil)) (pg_name (i := 3) sc_agrees.nd rfl (Or.inl rfl))
          (pss_cons (ps_if (pt_cmpR op_ne (pe_cmpR (op_ownEq (E_Ratio T) (hr.mono (by decide)) passL) (pe_ix ix_list (pv 0) (pv 2) (fun _ _ => rfl)) (pe_ix ix_list (pv 0) (pv 3) (fun _ _ => rfl)) (nomark _)) (pe_cmpR (op_eqD hr.units) (pe_ix ix_list (pv 1) (pv 2) (fun _ _ => rfl)) (pe_ix ix_list (pv 1) (pv 3) (fun _ _ => rfl)) (nomark _)) (nomark _)) (pss_one (ps_ret pe_bl)) pss_nil)
          (pss_one (ps_if (pt_cmpR op_ne (pe_mt (M_below T) (hr.mono (by decide)) passL (pe_ix ix_list (pv 0) (pv 2) (fun _ _ => rfl)) (pa_cons (pe_ix ix_list (pv 0) (pv 3) (fun _ _ => rfl)) pa_nil)) (pe_f (F_less T) (hr.mono (by decide)) passL (pa_cons (pe_ix ix_list (pv 1) (pv 2) (fun _ _ => rfl)) (pa_cons (pe_ix ix_list (pv 1) (pv 3) (fun _ _ => rfl)) pa_nil))) (nomark _)) (pss_one (ps_ret pe_bl)) pss_nil))))))))
      (pss_one (ps_ret pe_bl))), ?_⟩
    refine ⟨3, rfl, by decide, by decide, for_it (walk_range (lo := 0) (n := 3)) (fun i σ H1 => Same H H1 ∧ ∃ vi vk, σ = [some (.ref R), some (.ref L), vi, vk]) ⟨Same.refl _, _, _, rfl⟩ (fun _ _ _ _ _ => trivial) ?_ ?_⟩
    · rintro i v σ H1 H1' hi ⟨s1, vi, vk, rfl⟩ ⟨rfl, rfl⟩
      have hg1 := hg.same s1
      obtain ⟨r, t, p, q, ar, at', er, et, ep, ho, hp, bp, bq⟩ := hg1.at hi
      rw [← Int.zero_add (i : Int)] at ar at'
      have lp := bp.log (by decide)
      have lq := bq.log (by decide)
      obtain ⟨_, dx, eo⟩ := id ho
      refine ⟨_, rfl, _, rfl, R, _, _, _, rfl, rfl, SqL.of hg1.hR, ar, _, rfl, _, rfl, L, _, _, _, rfl, rfl, SqL.of hg1.hL, at', r, t, p, q, rfl, ho, hp, fun H2 s2 => ⟨_, rfl, iteF ?_⟩⟩
      have hg2 := hg1.same s2
      refine ⟨_, rfl, _, rfl, R, _, _, _, rfl, rfl, SqL.of hg2.hR, ar, r, dx, _, rfl, s2 _ _ eo, r, p, q, rfl, ho.same s2, lp, lq, ⟨_, rfl⟩, _, rfl, _, rfl, L, _, _, _, rfl, rfl, SqL.of hg2.hL, at', t, p, q, rfl, s2 _ _ hp, lp, lq, rfl, _, rfl, iteN (by simp) ?_⟩
      refine ⟨_, rfl, _, rfl, R, _, _, _, rfl, rfl, SqL.of hg2.hR, ar, r, dx, _, rfl, s2 _ _ eo, r, p, q, rfl, ho.same s2, ?_⟩
      have es : (if decide (0 < p) = true then (1 : Int) else 0) - (if decide (p < 0) = true then 1 else 0) = sgn p := by
        unfold sgn
        by_cases h0 : p = 0
        · subst h0; rfl
        · rw [if_neg h0]
          by_cases h1 : 0 < p
          · rw [if_pos h1, if_pos (decide_eq_true h1), if_neg (by simp; omega)]
            rfl
          · rw [if_neg h1, if_neg (by simpa using h1), if_pos (decide_eq_true (by omega))]
            rfl
      refine ⟨_, rfl, _, rfl, L, _, _, _, rfl, rfl, SqL.of hg2.hL, at', t, _, _, _, rfl, rfl, SqT.of (s2 _ _ hp), rfl, p, 0, rfl, rfl, .inr ⟨_, rfl, ?_⟩⟩
      refine ⟨_, rfl, _, rfl, L, _, _, _, rfl, rfl, SqL.of hg2.hL, at', t, _, _, _, rfl, rfl, SqT.of (s2 _ _ hp), rfl, p, 0, rfl, rfl, .inr ⟨_, rfl, _, _, rfl, rfl, rfl, _, rfl, iteN ?_ ?_⟩⟩
      · show (!decide (V.int (sgn p) = V.int ((if decide (0 < p) = true then (1 : Int) else 0) - (if decide (p < 0) = true then 1 else 0)))) = false
        rw [es]; simp
      refine ⟨3, rfl, by decide, by decide, for_it (walk_range (lo := 0) (n := 3)) (fun j σ H3 => Same H H3 ∧ ∃ vk, σ = [some (.ref R), some (.ref L), some (.int (0 + (i : Int))), vk]) ⟨s1.trans s2, _, rfl⟩ (fun _ _ _ _ _ => trivial) ?_ ?_⟩
      · rintro j v σ H3 H3' hj ⟨s3, vk', rfl⟩ ⟨rfl, rfl⟩
        have hg3 := hg.same s3
        obtain ⟨r1, t1, p1, q1, ar1, at1, er1, et1, ep1, ho1, hp1, bp1, bq1⟩ := hg3.at hi
        obtain ⟨r2, t2, p2, q2, ar2, at2, er2, et2, ep2, ho2, hp2, bp2, bq2⟩ := hg3.at hj
        rw [← Int.zero_add (i : Int)] at ar1 at1
        rw [← Int.zero_add (j : Int)] at ar2 at2
        obtain ⟨_, d1, e1⟩ := id ho1
        obtain ⟨_, d2, e2⟩ := id ho2
        refine ⟨_, rfl, _, rfl, R, _, _, _, rfl, rfl, SqL.of hg3.hR, ar1, _, rfl, _, rfl, R, _, _, _, rfl, rfl, SqL.of hg3.hR, ar2, r1, r2, d1, d2, _, _, rfl, rfl, e1, e2, r1, r2, p1, q1, p2, q2, rfl, ho1, ho2, ?_⟩
        refine ⟨_, rfl, _, rfl, L, _, _, _, rfl, rfl, SqL.of hg3.hL, at1, _, rfl, _, rfl, L, _, _, _, rfl, rfl, SqL.of hg3.hL, at2, _, _, .tup (SqT.of hp1) (.cons (.int p1) (.cons (.int q1) .nil)), .tup (SqT.of hp2) (.cons (.int p2) (.cons (.int q2) .nil)), shaped_pair _ _, shaped_pair _ _, rfl, _, rfl, iteN ?_ ?_⟩
        · rw [eqv_pairs]; simp
        refine ⟨_, rfl, _, rfl, R, _, _, _, rfl, rfl, SqL.of hg3.hR, ar1, r1, d1, _, rfl, e1, ratF_no _ _ (by decide +kernel) (by decide +kernel), _, rfl, _, rfl, R, _, _, _, rfl, rfl, SqL.of hg3.hR, ar2, r1, .ref r2, p1, q1, p2, q2, rfl, ho1, .inr ⟨r2, rfl, ho2⟩, bp1.mono (by decide), bq1.mono (by decide), bp2.mono (by decide), bq2.mono (by decide), fun H4 s4 => ?_⟩
        have hg4 := hg3.same s4
        refine ⟨_, rfl, _, rfl, L, _, _, _, rfl, rfl, SqL.of hg4.hL, at1, _, rfl, _, rfl, L, _, _, _, rfl, rfl, SqL.of hg4.hL, at2, t1, t2, p1, q1, p2, q2, rfl, s4 _ _ hp1, s4 _ _ hp2, bp1.mono (by decide), bq1.mono (by decide), bp2.mono (by decide), bq2.mono (by decide), rfl, _, rfl, iteN (by simp) ?_⟩
        exact ⟨s3.trans s4, _, rfl⟩
      · rintro σ H3 ⟨s3, vk', rfl⟩
        exact ⟨s3, _, _, rfl⟩
    · rintro σ H1 ⟨s1, vi, vk, rfl⟩
      exact k H1 s1
theorem F_agrees (T : GG K mg) : FnI P w K mg base "_law_agrees" 7 ["_law_ratios", "_law_pairs"] (spAgrees T.c_Ratio) :=
  ⟨T.a_agrees, T.fd_agrees, ok_agrees T, T.m_agrees, T.F_agrees.kp, T.F_agrees.binds fun _ _ _ _ _ _ us hl => match us, hl with | [_, _], _ => rfl⟩
/-- registers outside of F -/
structure RegsO (F : Fp) (C : Addr) (H : Hp) (R L : Addr) (rs ts : List Addr) (ps : List (Int × Int)) : Prop where
  g : Regs C H R L rs ts ps
  nR : ¬ F R
  nL : ¬ F L
  nr : ∀ r ∈ rs, ¬ F r
  nt : ∀ t ∈ ts, ¬ F t
theorem RegsO.fr {F F' : Fp} {C : Addr} {H H' : Hp} {R L : Addr} {rs ts : List Addr} {ps : List (Int × Int)} (h : RegsO F C H R L rs ts ps) (f : Fr F H F' H') : RegsO F' C H' R L rs ts ps := by
  have hR := f.out ⟨h.g.hR, h.nR⟩
  have hL := f.out ⟨h.g.hL, h.nL⟩
  refine ⟨⟨hR.1, hL.1, h.g.l1, h.g.l2, h.g.l3, fun i r e => ?_, fun i t e => ?_, h.g.sz⟩, hR.2, hL.2, fun r hr => ?_, fun t ht => ?_⟩
  · obtain ⟨p, q, ep, hl, dx, ho⟩ := h.g.rat i r e
    exact ⟨p, q, ep, hl, dx, (f.out ⟨ho, h.nr r (List.mem_of_getElem? e)⟩).1⟩
  · obtain ⟨p, q, ep, ho⟩ := h.g.pr i t e
    exact ⟨p, q, ep, (f.out ⟨ho, h.nt t (List.mem_of_getElem? e)⟩).1⟩
  · obtain ⟨i, hi, ei⟩ := List.mem_iff_getElem.mp hr
    obtain ⟨p, q, ep, hl, dx, ho⟩ := h.g.rat i r (by rw [← ei]; exact List.getElem?_eq_getElem hi)
    exact (f.out ⟨ho, h.nr r hr⟩).2
  · obtain ⟨i, hi, ei⟩ := List.mem_iff_getElem.mp ht
    obtain ⟨p, q, ep, ho⟩ := h.g.pr i t (by rw [← ei]; exact List.getElem?_eq_getElem hi)
    exact (f.out ⟨ho, h.nt t ht⟩).2
/-- a step: a ratio and its pair -/
def spStep (C : Addr) : Sp := fun args H Q _ => ∃ (F : Fp) (st R L : Addr) (rs ts : List Addr) (ps : List (Int × Int)) (n : Nat), args = [.ref st, .ref R, .ref L] ∧ StAt H F st n ∧ n + 4 < 2 ^ 40 ∧ RegsO F C H R L rs ts ps ∧
  ∀ (z r t : Addr) (p q : Int) (F' : Fp) (H' : Hp), H' z = some (.tup [.ref r, .ref t]) → RatO C H' r p q → PairO H' t p q → ¬ F' r → ¬ F' t → Bd 1100 p → Bd 1100 q → StAt H' F' st (n + 4) → Fr F H F' H' → Q (.ref z) H'
end
end Xl

namespace Xl
open PySem PySem.Spec PyProof.Rows L2
theorem StAt.ins {H : Hp} {F : Fp} {st r C dx : Addr} {n : Nat} {fs : List (Str × V)} (s : StAt H F st n) (h : H r = some (.ins C dx fs)) : ¬ F r := fun z => by
  obtain ⟨l0, l1, cs, ss, c, rfl, _, _, _, h1, h2, h3, _⟩ := s.ex
  rcases z with rfl | rfl | rfl
  · rw [h1] at h; cases h
  · rw [h2] at h; cases h
  · rw [h3] at h; cases h
theorem nums2 {C : Addr} {H : Hp} {v1 v2 : V} {p1 q1 p2 q2 : Int} (h1 : Num C H v1 p1 q1) (h2 : Num C H v2 p2 q2) : Nums C H [v1, v2] [(p1, q1), (p2, q2)] := by
  refine ⟨rfl, fun i v e => ?_⟩
  match i, e with
  | 0, e => cases e; exact ⟨p1, q1, rfl, h1⟩
  | 1, e => cases e; exact ⟨p2, q2, rfl, h2⟩
theorem sized2 {p1 q1 p2 q2 : Int} {n : Nat} (b1 : Bd n p1) (b2 : Bd n q1) (b3 : Bd n p2) (b4 : Bd n q2) : Sized n [(p1, q1), (p2, q2)] := fun x hx => by
  rcases List.mem_cons.mp hx with rfl | hx
  · exact ⟨b1, b2⟩
  · rcases List.mem_cons.mp hx with rfl | hx
    · exact ⟨b3, b4⟩
    · cases hx
theorem min2 {p1 q1 p2 q2 p q : Int} (l1 : Low p1 q1) (l2 : Low p2 q2) (h : IsMin [(p1, q1), (p2, q2)] p q) : if p2 * q1 < p1 * q2 then p = p2 ∧ q = q2 else p = p1 ∧ q = q1 := by
  have m1 : p * q1 ≤ p1 * q := h.2 (p1, q1) List.mem_cons_self
  have m2 : p * q2 ≤ p2 * q := h.2 (p2, q2) (List.mem_cons_of_mem _ List.mem_cons_self)
  rcases List.mem_cons.mp h.1 with e | e
  · cases e
    rw [if_neg (by omega)]
    exact ⟨rfl, rfl⟩
  · rcases List.mem_cons.mp e with e | e
    · cases e
      by_cases hlt : p2 * q1 < p1 * q2
      · rw [if_pos hlt]; exact ⟨rfl, rfl⟩
      · rw [if_neg hlt]
        exact low_uniq l2 l1 (by omega)
    · cases e
theorem max2 {p1 q1 p2 q2 p q : Int} (l1 : Low p1 q1) (l2 : Low p2 q2) (h : IsMax [(p1, q1), (p2, q2)] p q) : if p1 * q2 < p2 * q1 then p = p2 ∧ q = q2 else p = p1 ∧ q = q1 := by
  have m1 : p1 * q ≤ p * q1 := h.2 (p1, q1) List.mem_cons_self
  have m2 : p2 * q ≤ p * q2 := h.2 (p2, q2) (List.mem_cons_of_mem _ List.mem_cons_self)
  rcases List.mem_cons.mp h.1 with e | e
  · cases e
    rw [if_neg (by omega)]
    exact ⟨rfl, rfl⟩
  · rcases List.mem_cons.mp e with e | e
    · cases e
      by_cases hlt : p1 * q2 < p2 * q1
      · rw [if_pos hlt]; exact ⟨rfl, rfl⟩
      · rw [if_neg hlt]
        exact low_uniq l2 l1 (by omega)
    · cases e
theorem low_1 {m : Int} (h : 0 < m) : Low 1 m := ⟨h, by rw [Int.one_gcd]⟩
section
variable {P : Program} {w : World} {K : PySem.W.Frag} {mg : Str → Option Value} {base : Heap}
abbrev N_step : List Str := ["_law_state", "_law_ratios", "_law_pairs", "_law_j", "_law_k", "_law_n", "_law_plan", "_law_one", "_law_two"]
theorem sc_step : FnScope N_step ["_law_state", "_law_ratios", "_law_pairs"] (defScope s_step) := ⟨rfl, rfl, rfl, by decide +kernel, rfl, by decide +kernel, by decide +kernel⟩
theorem ok_step (T : GG K mg) : FnOk P w K mg base (L2.CX P w) 10 T.a_step T.fd_step ["_law_state", "_law_ratios", "_law_pairs"] (spStep T.c_Ratio) := by
  refine okN T.F_step sc_step (fun vs H Q E h => ?_) (fun cdv A outer s H vs Q E hr h => ?_)
  · obtain ⟨F, st, R, L, rs, ts, ps, n, rfl, _⟩ := h
    rfl
  · obtain ⟨F, st, R, L, rs, ts, ps, n, rfl, s0, hn, hg, k⟩ := h
    refine ⟨_, (pss_cons (ps_set (i := 3) sc_step.nd rfl (Or.inl rfl) (pe_f (F_draw T) (hr.mono (by decide)) passL (pa_cons (pv 0) (pa_cons pe_int pa_nil))))
      (pss_cons (ps_set (i := 4) sc_step.nd rfl (Or.inl rfl) (pe_f (F_draw T) (hr.mono (by decide)) passL (pa_cons (pv 0) (pa_cons pe_int pa_nil))))
      (pss_cons (ps_set (i := 5) sc_step.nd rfl (Or.inl rfl) (pe_op op_sub (pe_f (F_draw T) (hr.mono (by decide)) passL (pa_cons (pv 0) (pa_cons pe_int pa_nil))) pe_int))
      (pss_cons (ps_set (i := 6) sc_step.nd rfl (Or.inl rfl) (pe_f (F_draw T) (hr.mono (by decide)) passL (pa_cons (pv 0) (pa_cons pe_int pa_nil))))
      (pss_cons (ps_set (i := 7) sc_step.nd rfl (Or.inl rfl) (pe_ix ix_list (pv 2) (pv 3) (fun _ _ => rfl)))
      (pss_cons (ps_set (i := 8) sc_step.nd rfl (Or.inl rfl) (pe_ix ix_list (pv 2) (pv 4) (fun _ _ => rfl)))
      (pss_cons (ps_if (pt_cmpR op_eq (pv 6) pe_int (nomark _)) (pss_one (ps_ret (pe_tupN (pa_cons (pe_op (o_add T (hr.mono (by decide))) (pe_ix ix_list (pv 1) (pv 3) (fun _ _ => rfl)) (pe_ix ix_list (pv 1) (pv 4) (fun _ _ => rfl))) (pa_cons (pe_f (F_plus T) (hr.mono (by decide)) passL (pa_cons (pv 7) (pa_cons (pv 8) pa_nil))) pa_nil))))) pss_nil)
      (pss_cons (ps_if (pt_cmpR op_eq (pv 6) pe_int (nomark _)) (pss_one (ps_ret (pe_tupN (pa_cons (pe_op (o_sub T (hr.mono (by decide))) (pe_ix ix_list (pv 1) (pv 3) (fun _ _ => rfl)) (pe_ix ix_list (pv 1) (pv 4) (fun _ _ => rfl))) (pa_cons (pe_f (F_plus T) (hr.mono (by decide)) passL (pa_cons (pv 7) (pa_cons (pe_tupN (pa_cons (pe_un un_neg (pe_ix ix_tup (pv 8) pe_int (fun _ _ => rfl))) (pa_cons (pe_ix ix_tup (pv 8) pe_int (fun _ _ => rfl)) pa_nil))) pa_nil))) pa_nil))))) pss_nil)
      (pss_cons (ps_if (pt_cmpR op_eq (pv 6) pe_int (nomark _)) (pss_one (ps_ret (pe_tupN (pa_cons (pe_op (o_mul T (hr.mono (by decide))) (pe_ix ix_list (pv 1) (pv 3) (fun _ _ => rfl)) (pe_ix ix_list (pv 1) (pv 4) (fun _ _ => rfl))) (pa_cons (pe_f (F_times T) (hr.mono (by decide)) passL (pa_cons (pv 7) (pa_cons (pv 8) pa_nil))) pa_nil))))) pss_nil)
      (pss_cut (ps_if (PW.pt (pw_and (pt_cmpR op_eq (pv 6) pe_int (nomark _)) (pw_and1 (pt_cmpR op_ne (pe_ix ix_tup (pv 8) pe_int (fun _ _ => rfl)) pe_int (nomark _))))) (pss_one (ps_ret (pe_tupN (pa_cons (pe_mt (M_over T) (hr.mono (by decide)) passL (pe_ix ix_list (pv 1) (pv 3) (fun _ _ => rfl)) (pa_cons (pe_ix ix_list (pv 1) (pv 4) (fun _ _ => rfl)) pa_nil)) (pa_cons (pe_f (F_times T) (hr.mono (by decide)) passL (pa_cons (pv 7) (pa_cons (pe_f (F_low T) (hr.mono (by decide)) passL (pa_cons (pe_ix ix_tup (pv 8) pe_int (fun _ _ => rfl)) (pa_cons (pe_ix ix_tup (pv 8) pe_int (fun _ _ => rfl)) pa_nil))) pa_nil))) pa_nil))))) pss_nil)
      (pss_cons (ps_if (pt_cmpR op_eq (pv 6) pe_int (nomark _)) (pss_one (ps_ret (pe_tupN (pa_cons (pe_op (o_addI T (hr.mono (by decide))) (pe_un (un_own (M_neg T) (hr.mono (by decide)) passL) (pe_ix ix_list (pv 1) (pv 3) (fun _ _ => rfl))) (pv 5)) (pa_cons (pe_f (F_plus T) (hr.mono (by decide)) passL (pa_cons (pe_tupN (pa_cons (pe_un un_neg (pe_ix ix_tup (pv 7) pe_int (fun _ _ => rfl))) (pa_cons (pe_ix ix_tup (pv 7) pe_int (fun _ _ => rfl)) pa_nil))) (pa_cons (pe_tupN (pa_cons (pv 5) (pa_cons pe_int pa_nil))) pa_nil))) pa_nil))))) pss_nil)
      (pss_cons (ps_if (pt_cmpR op_eq (pv 6) pe_int (nomark _)) (pss_one (ps_ret (pe_tupN (pa_cons (pe_op (o_subR T (hr.mono (by decide))) (pv 5) (pe_ix ix_list (pv 1) (pv 3) (fun _ _ => rfl))) (pa_cons (pe_f (F_plus T) (hr.mono (by decide)) passL (pa_cons (pe_tupN (pa_cons (pv 5) (pa_cons pe_int pa_nil))) (pa_cons (pe_tupN (pa_cons (pe_un un_neg (pe_ix ix_tup (pv 7) pe_int (fun _ _ => rfl))) (pa_cons (pe_ix ix_tup (pv 7) pe_int (fun _ _ => rfl)) pa_nil))) pa_nil))) pa_nil))))) pss_nil)
      (pss_cons (ps_if (pt_cmpR op_eq (pv 6) pe_int (nomark _)) (pss_one (ps_ret (pe_tupN (pa_cons (pe_f (F_least T) (hr.mono (by decide)) passL (pa_cons (pe_lstN (pa_cons (pe_ix ix_list (pv 1) (pv 3) (fun _ _ => rfl)) (pa_cons (pe_ix ix_list (pv 1) (pv 4) (fun _ _ => rfl)) pa_nil))) pa_nil)) (pa_cons (pe_ix ix_list (pe_lstN (pa_cons (pv 7) (pa_cons (pv 8) pa_nil))) (pe_callTy call_int1 rfl T.z_int (by decide +kernel) (pa_cons (pe_f (F_less T) (hr.mono (by decide)) passL (pa_cons (pv 8) (pa_cons (pv 7) pa_nil))) pa_nil)) (fun _ _ => rfl)) pa_nil))))) pss_nil)
      (pss_cons (ps_if (pt_cmpR op_eq (pv 6) pe_int (nomark _)) (pss_one (ps_ret (pe_tupN (pa_cons (pe_f (F_greatest T) (hr.mono (by decide)) passL (pa_cons (pe_tupN (pa_cons (pe_ix ix_list (pv 1) (pv 3) (fun _ _ => rfl)) (pa_cons (pv 5) pa_nil))) pa_nil)) (pa_cons (pe_ix ix_list (pe_lstN (pa_cons (pv 7) (pa_cons (pe_tupN (pa_cons (pv 5) (pa_cons pe_int pa_nil))) pa_nil))) (pe_callTy call_int1 rfl T.z_int (by decide +kernel) (pa_cons (pe_f (F_less T) (hr.mono (by decide)) passL (pa_cons (pv 7) (pa_cons (pe_tupN (pa_cons (pv 5) (pa_cons pe_int pa_nil))) pa_nil))) pa_nil)) (fun _ _ => rfl)) pa_nil))))) pss_nil)
      (pss_cons (ps_if (pt_cmpR op_eq (pv 6) pe_int (nomark _)) (pss_one (ps_ret (pe_tupN (pa_cons (pe_op (o_add T (hr.mono (by decide))) (pe_ix ix_list (pv 1) (pv 3) (fun _ _ => rfl)) (pe_mkI (M_Ratio T) (hr.mono (by decide)) T.g_Ratio passL (pa_cons pe_int (pa_cons (pe_op op_add (pe_op op_pow pe_int pe_int) (pv 5)) pa_nil)))) (pa_cons (pe_f (F_plus T) (hr.mono (by decide)) passL (pa_cons (pv 7) (pa_cons (pe_tupN (pa_cons pe_int (pa_cons (pe_op op_add (pe_op op_pow pe_int pe_int) (pv 5)) pa_nil))) pa_nil))) pa_nil))))) pss_nil)
      (pss_cons (ps_if (pt_cmpR op_eq (pv 6) pe_int (nomark _)) (pss_one (ps_ret (pe_tupN (pa_cons (pe_op (o_mul T (hr.mono (by decide))) (pe_mkI (M_Ratio T) (hr.mono (by decide)) T.g_Ratio passL (pa_cons pe_int (pa_cons (pe_op op_add pe_int (pe_callB call_abs rfl T.z_abs (by decide +kernel) (pa_cons (pv 5) pa_nil))) pa_nil))) (pe_ix ix_list (pv 1) (pv 3) (fun _ _ => rfl))) (pa_cons (pe_f (F_times T) (hr.mono (by decide)) passL (pa_cons (pv 7) (pa_cons (pe_tupN (pa_cons pe_int (pa_cons (pe_op op_add pe_int (pe_callB call_abs rfl T.z_abs (by decide +kernel) (pa_cons (pv 5) pa_nil))) pa_nil))) pa_nil))) pa_nil))))) pss_nil)
      (pss_one (ps_ret (pe_tupN (pa_cons (pe_mkI (M_Ratio T) (hr.mono (by decide)) T.g_Ratio passL (pa_cons (pv 5) (pa_cons (pe_op op_add pe_int (pe_callB call_abs rfl T.z_abs (by decide +kernel) (pa_cons (pv 5) pa_nil))) pa_nil))) (pa_cons (pe_f (F_low T) (hr.mono (by decide)) passL (pa_cons (pv 5) (pa_cons (pe_op op_add pe_int (pe_callB call_abs rfl T.z_abs (by decide +kernel) (pa_cons (pv 5) pa_nil))) pa_nil))) pa_nil))))))))))))))))))))), ?_⟩
    refine ⟨_, rfl, F, st, n, _, rfl, s0, (by omega), (by decide), (by decide), fun j F1 H1 hj0 hj1 s1 f1 => ?_⟩
    refine ⟨_, rfl, F1, st, n + 1, _, rfl, s1, (by omega), (by decide), (by decide), fun kk F2 H2 hk0 hk1 s2 f2 => ?_⟩
    refine ⟨_, rfl, F2, st, n + 2, _, rfl, s2, (by omega), (by decide), (by decide), fun nn F3 H3 hn0 hn1 s3 f3 => ⟨_, _, rfl, rfl, ?_⟩⟩
    refine ⟨_, rfl, F3, st, n + 3, _, rfl, s3, (by omega), (by decide), (by decide), fun pl F4 H4 _ _ s4 f4 => ?_⟩
    have f04 := ((f1.trans f2).trans f3).trans f4
    have hg4 := hg.fr f04
    obtain ⟨j, rfl⟩ := Int.eq_ofNat_of_zero_le hj0
    obtain ⟨kk, rfl⟩ := Int.eq_ofNat_of_zero_le hk0
    obtain ⟨r1, t1, p1, q1, ar1, at1, er1, et1, ep1, ho1, hp1, bp1, bq1⟩ := hg4.g.at (i := j) (by omega)
    obtain ⟨r2, t2, p2, q2, ar2, at2, er2, et2, ep2, ho2, hp2, bp2, bq2⟩ := hg4.g.at (i := kk) (by omega)
    have nr1 := hg4.nr r1 (List.mem_of_getElem? er1)
    have nr2 := hg4.nr r2 (List.mem_of_getElem? er2)
    have nt1 := hg4.nt t1 (List.mem_of_getElem? et1)
    have nt2 := hg4.nt t2 (List.mem_of_getElem? et2)
    refine ⟨_, rfl, _, rfl, L, _, _, _, rfl, rfl, SqL.of hg4.g.hL, at1, ?_⟩
    refine ⟨_, rfl, _, rfl, L, _, _, _, rfl, rfl, SqL.of hg4.g.hL, at2, ?_⟩
    have fin : ∀ (H5 : Hp) (r t : Addr) (p q : Int), Same H4 H5 → RatO T.c_Ratio H5 r p q → PairO H5 t p q → ¬ F4 r → ¬ F4 t → Bd 1100 p → Bd 1100 q → ∀ z H6, New H5 z (.tup [.ref r, .ref t]) H6 → Q (.ref z) H6 := fun H5 r t p q s5 ho hp nr nt bp bq z H6 n6 =>
      k z r t p q F4 H6 n6.at (ho.same n6.same) (n6.same _ _ hp) nr nt bp bq ((s4.same s5).same n6.same) (f04.trans (Fr.same (s5.trans n6.same)))
    have sz2 : 2 ≤ sizeLine := by decide
    have hR := SqL.of (K := K) hg4.g.hR
    obtain ⟨_, d1, e1⟩ := id ho1
    obtain ⟨_, d2, e2⟩ := id ho2
    have q1p := ho1.1.pos
    have q2p := ho2.1.pos
    refine ⟨_, rfl, rfl, _, rfl, iteB (fun _ => ?_) (fun _ => ?_)⟩
    · refine ⟨_, rfl, _, rfl, R, _, _, _, rfl, rfl, hR, ar1, _, rfl, _, rfl, R, _, _, _, rfl, rfl, hR, ar2, r1, r2, d1, d2, _, _, rfl, rfl, e1, e2, r1, .ref r2, p1, q1, p2, q2, rfl, ho1, .inr ⟨r2, rfl, ho2⟩, bp1.mono (by decide), bq1.mono (by decide), bp2.mono (by decide), bq2.mono (by decide), fun r5 H5 s5 hr5 ho5 => ?_⟩
      refine ⟨_, rfl, _, rfl, t1, t2, p1, q1, p2, q2, rfl, s5 _ _ hp1, s5 _ _ hp2, ne_mul q1p q2p, bp1.mono (by decide), bq1.mono (by decide), bp2.mono (by decide), bq2.mono (by decide), fun t6 H6 n6 => ⟨sz2, ?_⟩⟩
      have b0 := ne_mul q1p q2p
      have bb : Bd 1000 (q1 * q2) := bq1.mul bq2
      have bt : Bd 1001 (p1 * q2 + p2 * q1) := (bp1.mul bq2).add (bp2.mul bq1)
      exact fin H6 r5 t6 _ _ (s5.trans n6.same) (ho5.same n6.same) n6.at (s4.nf hr5) ((s4.same s5).nf n6.1) ((bt.le (nT_le b0)).mono (by decide)) ((bb.le (nB_le b0)).mono (by decide))
    refine ⟨_, rfl, rfl, _, rfl, iteB (fun _ => ?_) (fun _ => ?_)⟩
    · refine ⟨_, rfl, _, rfl, R, _, _, _, rfl, rfl, hR, ar1, _, rfl, _, rfl, R, _, _, _, rfl, rfl, hR, ar2, r1, r2, d1, d2, _, _, rfl, rfl, e1, e2, r1, .ref r2, p1, q1, p2, q2, rfl, ho1, .inr ⟨r2, rfl, ho2⟩, bp1.mono (by decide), bq1.mono (by decide), bp2.mono (by decide), bq2.mono (by decide), fun r5 H5 s5 hr5 ho5 => ?_⟩
      refine ⟨_, rfl, _, rfl, t2, _, _, _, rfl, rfl, SqT.of (s5 _ _ hp2), rfl, p2, rfl, _, rfl, t2, _, _, _, rfl, rfl, SqT.of (s5 _ _ hp2), rfl, sz2, fun t6 H6 n6 => ?_⟩
      refine ⟨t1, t6, p1, q1, -p2, q2, rfl, n6.same _ _ (s5 _ _ hp1), n6.at, ne_mul q1p q2p, bp1.mono (by decide), bq1.mono (by decide), bp2.neg.mono (by decide), bq2.mono (by decide), fun t7 H7 n7 => ⟨sz2, ?_⟩⟩
      have b0 := ne_mul q1p q2p
      have bb : Bd 1000 (q1 * q2) := bq1.mul bq2
      have bt : Bd 1001 (p1 * q2 + -p2 * q1) := (bp1.mul bq2).add (bp2.neg.mul bq1)
      have s57 := s5.trans (n6.same.trans n7.same)
      exact fin H7 r5 t7 _ _ s57 (ho5.same (n6.same.trans n7.same)) n7.at (s4.nf hr5) ((s4.same (s5.trans n6.same)).nf n7.1) ((bt.le (nT_le b0)).mono (by decide)) ((bb.le (nB_le b0)).mono (by decide))
    refine ⟨_, rfl, rfl, _, rfl, iteB (fun _ => ?_) (fun _ => ?_)⟩
    · refine ⟨_, rfl, _, rfl, R, _, _, _, rfl, rfl, hR, ar1, _, rfl, _, rfl, R, _, _, _, rfl, rfl, hR, ar2, r1, r2, d1, d2, _, _, rfl, rfl, e1, e2, r1, .ref r2, p1, q1, p2, q2, rfl, ho1, .inr ⟨r2, rfl, ho2⟩, bp1.mono (by decide), bq1.mono (by decide), bp2.mono (by decide), bq2.mono (by decide), fun r5 H5 s5 hr5 ho5 => ?_⟩
      refine ⟨_, rfl, _, rfl, t1, t2, p1, q1, p2, q2, rfl, s5 _ _ hp1, s5 _ _ hp2, ne_mul q1p q2p, bp1.mono (by decide), bq1.mono (by decide), bp2.mono (by decide), bq2.mono (by decide), fun t6 H6 n6 => ⟨sz2, ?_⟩⟩
      have b0 := ne_mul q1p q2p
      have bb : Bd 1000 (q1 * q2) := bq1.mul bq2
      have bt : Bd 1000 (p1 * p2) := bp1.mul bp2
      exact fin H6 r5 t6 _ _ (s5.trans n6.same) (ho5.same n6.same) n6.at (s4.nf hr5) ((s4.same s5).nf n6.1) ((bt.le (nT_le b0)).mono (by decide)) ((bb.le (nB_le b0)).mono (by decide))
    refine ⟨fun σ H5 => H5 = H4 ∧ σ = [some (.ref st), some (.ref R), some (.ref L), some (.int (j : Int)), some (.int (kk : Int)), some (.int (nn - 20)), some (.int pl), some (.ref t1), some (.ref t2)], ?_, ?_⟩
    · refine ⟨_, rfl, rfl, _, rfl, iteB (fun _ => ?_) (fun _ => iteF ⟨rfl, rfl⟩)⟩
      refine ⟨_, rfl, t2, _, _, _, rfl, rfl, SqT.of hp2, rfl, rfl, _, rfl, iteB (fun hne => ?_) (fun _ => ⟨rfl, rfl⟩)⟩
      have hp0 : p2 ≠ 0 := fun z => by subst z; simp at hne
      refine ⟨_, rfl, _, rfl, R, _, _, _, rfl, rfl, hR, ar1, r1, d1, _, rfl, e1, ratF_no _ _ (by decide +kernel) (by decide +kernel), _, rfl, _, rfl, R, _, _, _, rfl, rfl, hR, ar2, r1, .ref r2, p1, q1, p2, q2, rfl, ho1, .inr ⟨r2, rfl, ho2⟩, bp1.mono (by decide), bq1.mono (by decide), bp2.mono (by decide), bq2.mono (by decide), .inl ⟨hp0, fun r5 H5 s5 hr5 ho5 => ?_⟩⟩
      refine ⟨_, rfl, _, rfl, t2, _, _, _, rfl, rfl, SqT.of (s5 _ _ hp2), rfl, _, rfl, t2, _, _, _, rfl, rfl, SqT.of (s5 _ _ hp2), rfl, q2, p2, rfl, hp0, bp2.ex (by decide), fun t6 H6 n6 => ?_⟩
      have lo := low_n (t := q2) hp0
      have bT : Bd 500 (nT q2 p2) := bq2.le (nT_le hp0)
      have bB : Bd 500 (nB q2 p2) := bp2.le (nB_le hp0)
      have ne1 := ne_mul q1p lo.pos
      refine ⟨t1, t6, p1, q1, nT q2 p2, nB q2 p2, rfl, n6.same _ _ (s5 _ _ hp1), n6.at, ne1, bp1.mono (by decide), bq1.mono (by decide), bT.mono (by decide), bB.mono (by decide), fun t7 H7 n7 => ⟨sz2, ?_⟩⟩
      have ne2 : q1 * p2 ≠ 0 := Int.mul_ne_zero (by omega) hp0
      have cr := n_cross (t := q2) hp0
      have ec := n_congr (t := p1 * q2) (b := q1 * p2) (t' := p1 * nT q2 p2) (b' := q1 * nB q2 p2) ne2 ne1 (by
        have a1 : p1 * q2 * (q1 * nB q2 p2) = p1 * q1 * (q2 * nB q2 p2) := by simp only [Int.mul_comm, Int.mul_left_comm, Int.mul_assoc]
        have a2 : p1 * nT q2 p2 * (q1 * p2) = p1 * q1 * (nT q2 p2 * p2) := by simp only [Int.mul_comm, Int.mul_left_comm, Int.mul_assoc]
        rw [a1, a2, cr])
      rw [ec.1, ec.2] at ho5
      have s57 := s5.trans (n6.same.trans n7.same)
      have bb : Bd 1000 (q1 * nB q2 p2) := bq1.mul bB
      have bt : Bd 1000 (p1 * nT q2 p2) := bp1.mul bT
      exact fin H7 r5 t7 _ _ s57 (ho5.same (n6.same.trans n7.same)) n7.at (s4.nf hr5) ((s4.same (s5.trans n6.same)).nf n7.1) ((bt.le (nT_le ne1)).mono (by decide)) ((bb.le (nB_le ne1)).mono (by decide))
    rintro σ H5 ⟨rfl, rfl⟩
    have bN : Bd 10 (nn - 20) := show (nn - 20).natAbs < 2 ^ 10 by omega
    have b1 : Bd 10 1 := show (1 : Int).natAbs < 2 ^ 10 by decide
    have o1 : (0 : Int) < 1 := by decide
    refine ⟨_, rfl, rfl, _, rfl, iteB (fun _ => ?_) (fun _ => ?_)⟩
    · refine ⟨_, rfl, _, rfl, R, _, _, _, rfl, rfl, hR, ar1, r1, d1, _, rfl, e1, r1, p1, q1, rfl, ho1, bq1.mono (by decide), fun r6 H6 s6 hr6 ho6 => ?_⟩
      obtain ⟨_, d6, e6⟩ := id ho6
      refine ⟨_, rfl, r6, nn - 20, d6, _, rfl, rfl, e6, r6, .int (nn - 20), -p1, q1, nn - 20, 1, rfl, ho6, .inl ⟨rfl, rfl⟩, bp1.neg.mono (by decide), bq1.mono (by decide), bN.mono (by decide), b1.mono (by decide), fun r7 H7 s7 hr7 ho7 => ?_⟩
      have s67 := s6.trans s7
      refine ⟨_, rfl, t1, _, _, _, rfl, rfl, SqT.of (s67 _ _ hp1), rfl, p1, rfl, _, rfl, t1, _, _, _, rfl, rfl, SqT.of (s67 _ _ hp1), rfl, sz2, fun t8 H8 n8 => ⟨_, rfl, sz2, fun t9 H9 n9 => ?_⟩⟩
      refine ⟨t8, t9, -p1, q1, nn - 20, 1, rfl, n9.same _ _ n8.at, n9.at, ne_mul q1p o1, bp1.neg.mono (by decide), bq1.mono (by decide), bN.mono (by decide), b1.mono (by decide), fun t10 H10 n10 => ⟨sz2, ?_⟩⟩
      have b0 := ne_mul q1p o1
      have bb : Bd 510 (q1 * 1) := bq1.mul b1
      have bt : Bd 511 (-p1 * 1 + (nn - 20) * q1) := (bp1.neg.mul b1).add ((bN.mul bq1).mono (by decide))
      have s810 := (n8.same.trans n9.same).trans n10.same
      exact fin H10 r7 t10 _ _ (s67.trans s810) (ho7.same s810) n10.at (s4.nf (s6.free hr7)) ((s4.same (s67.trans (n8.same.trans n9.same))).nf n10.1) ((bt.le (nT_le b0)).mono (by decide)) ((bb.le (nB_le b0)).mono (by decide))
    refine ⟨_, rfl, rfl, _, rfl, iteB (fun _ => ?_) (fun _ => ?_)⟩
    · refine ⟨_, rfl, _, rfl, _, rfl, R, _, _, _, rfl, rfl, hR, ar1, nn - 20, r1, d1, _, rfl, rfl, e1, r1, nn - 20, p1, q1, rfl, ho1, bp1.mono (by decide), bq1.mono (by decide), bN.mono (by decide), fun r7 H7 s7 hr7 ho7 => ?_⟩
      refine ⟨_, rfl, sz2, fun t8 H8 n8 => ⟨_, rfl, t1, _, _, _, rfl, rfl, SqT.of (n8.same _ _ (s7 _ _ hp1)), rfl, p1, rfl, _, rfl, t1, _, _, _, rfl, rfl, SqT.of (n8.same _ _ (s7 _ _ hp1)), rfl, sz2, fun t9 H9 n9 => ?_⟩⟩
      refine ⟨t8, t9, nn - 20, 1, -p1, q1, rfl, n9.same _ _ n8.at, n9.at, ne_mul o1 q1p, bN.mono (by decide), b1.mono (by decide), bp1.neg.mono (by decide), bq1.mono (by decide), fun t10 H10 n10 => ⟨sz2, ?_⟩⟩
      have b0 := ne_mul o1 q1p
      have bb : Bd 510 (1 * q1) := b1.mul bq1
      have bt : Bd 511 ((nn - 20) * q1 + -p1 * 1) := (bN.mul bq1).add ((bp1.neg.mul b1).mono (by decide))
      have s810 := (n8.same.trans n9.same).trans n10.same
      exact fin H10 r7 t10 _ _ (s7.trans s810) (ho7.same s810) n10.at (s4.nf hr7) ((s4.same (s7.trans (n8.same.trans n9.same))).nf n10.1) ((bt.le (nT_le b0)).mono (by decide)) ((bb.le (nB_le b0)).mono (by decide))
    refine ⟨_, rfl, rfl, _, rfl, iteB (fun _ => ?_) (fun _ => ?_)⟩
    · refine ⟨_, rfl, _, rfl, R, _, _, _, rfl, rfl, hR, ar1, _, rfl, _, rfl, R, _, _, _, rfl, rfl, hR, ar2, sz2, fun l6 H6 n6 => ?_⟩
      refine ⟨l6, _, [(p1, q1), (p2, q2)], rfl, .inl (SqL.of n6.at), nums2 (.inr ⟨r1, rfl, ho1.same n6.same⟩) (.inr ⟨r2, rfl, ho2.same n6.same⟩), sized2 (bp1.mono (by decide)) (bq1.mono (by decide)) (bp2.mono (by decide)) (bq2.mono (by decide)), .inl ⟨by simp, fun r7 H7 p q s7 hmin ho7 => ?_⟩⟩
      have s67 := n6.same.trans s7
      refine ⟨_, rfl, _, rfl, sz2, fun l8 H8 n8 => ⟨_, rfl, _, rfl, t2, t1, p2, q2, p1, q1, rfl, n8.same _ _ (s67 _ _ hp2), n8.same _ _ (s67 _ _ hp1), bp2.mono (by decide), bq2.mono (by decide), bp1.mono (by decide), bq1.mono (by decide), .inr ⟨_, rfl, ?_⟩⟩⟩
      have hm := min2 ho1.1 ho2.1 hmin
      have s48 := s67.trans n8.same
      obtain ⟨_, d7, e7⟩ := id ho7
      have nr7 := ((s4.same s67).ins e7)
      by_cases hlt : p2 * q1 < p1 * q2
      · rw [if_pos hlt] at hm
        rw [decide_eq_true hlt]
        refine ⟨l8, _, 1, .ref t2, rfl, rfl, SqL.of n8.at, rfl, sz2, ?_⟩
        rw [hm.1, hm.2] at ho7
        exact fin H8 r7 t2 _ _ s48 (ho7.same n8.same) (s48 _ _ hp2) nr7 nt2 (bp2.mono (by decide)) (bq2.mono (by decide))
      · rw [if_neg hlt] at hm
        rw [decide_eq_false hlt]
        refine ⟨l8, _, 0, .ref t1, rfl, rfl, SqL.of n8.at, rfl, sz2, ?_⟩
        rw [hm.1, hm.2] at ho7
        exact fin H8 r7 t1 _ _ s48 (ho7.same n8.same) (s48 _ _ hp1) nr7 nt1 (bp1.mono (by decide)) (bq1.mono (by decide))
    refine ⟨_, rfl, rfl, _, rfl, iteB (fun _ => ?_) (fun _ => ?_)⟩
    · refine ⟨_, rfl, _, rfl, R, _, _, _, rfl, rfl, hR, ar1, _, rfl, sz2, fun l6 H6 n6 => ?_⟩
      refine ⟨l6, _, [(p1, q1), (nn - 20, 1)], rfl, .inr (SqT.of n6.at), nums2 (.inr ⟨r1, rfl, ho1.same n6.same⟩) (.inl ⟨rfl, rfl⟩), sized2 (bp1.mono (by decide)) (bq1.mono (by decide)) (bN.mono (by decide)) (b1.mono (by decide)), (by show 2 ≤ 1000; decide), .inl ⟨by simp, fun r7 H7 p q s7 hmax ho7 => ?_⟩⟩
      have s67 := n6.same.trans s7
      refine ⟨_, rfl, _, rfl, sz2, fun t8 H8 n8 => ⟨sz2, fun l9 H9 n9 => ⟨_, rfl, _, rfl, sz2, fun t10 H10 n10 => ?_⟩⟩⟩
      have s810 := (n8.same.trans n9.same).trans n10.same
      have s410 := s67.trans s810
      refine ⟨t1, t10, p1, q1, nn - 20, 1, rfl, s410 _ _ hp1, n10.at, bp1.mono (by decide), bq1.mono (by decide), bN.mono (by decide), b1.mono (by decide), .inr ⟨_, rfl, ?_⟩⟩
      have hm := max2 ho1.1 (low_one (nn - 20)) hmax
      obtain ⟨_, d7, e7⟩ := id ho7
      have nr7 := ((s4.same s67).ins e7)
      have hl9 := n10.same _ _ n9.at
      by_cases hlt : p1 * 1 < (nn - 20) * q1
      · rw [if_pos hlt] at hm
        rw [decide_eq_true hlt]
        refine ⟨l9, _, 1, .ref t8, rfl, rfl, SqL.of hl9, rfl, sz2, ?_⟩
        rw [hm.1, hm.2] at ho7
        exact fin H10 r7 t8 _ _ s410 (ho7.same s810) (n10.same _ _ (n9.same _ _ n8.at)) nr7 ((s4.same s67).nf n8.1) (bN.mono (by decide)) (b1.mono (by decide))
      · rw [if_neg hlt] at hm
        rw [decide_eq_false hlt]
        refine ⟨l9, _, 0, .ref t1, rfl, rfl, SqL.of hl9, rfl, sz2, ?_⟩
        rw [hm.1, hm.2] at ho7
        exact fin H10 r7 t1 _ _ s410 (ho7.same s810) (s410 _ _ hp1) nr7 nt1 (bp1.mono (by decide)) (bq1.mono (by decide))
    refine ⟨_, rfl, rfl, _, rfl, iteB (fun _ => ?_) (fun _ => ?_)⟩
    · have hM : (0 : Int) < 10 ^ Int.toNat 15 + (nn - 20) := by
        have : (10 : Int) ^ Int.toNat 15 = 1000000000000000 := by decide
        omega
      have bM : Bd 60 ((10 : Int) ^ Int.toNat 15 + (nn - 20)) := by
        have : (10 : Int) ^ Int.toNat 15 = 1000000000000000 := by decide
        show ((10 : Int) ^ Int.toNat 15 + (nn - 20)).natAbs < 2 ^ 60
        omega
      refine ⟨_, rfl, _, rfl, R, _, _, _, rfl, rfl, hR, ar1, _, _, rfl, rfl, ⟨by decide, by decide, by decide⟩, _, rfl, _, _, rfl, rfl, 1, _, rfl, bM.ex (by decide), .inl ⟨Int.ne_of_gt hM, fun r6 H6 s6 hr6 ho6 => ?_⟩⟩
      have lw := low_1 hM
      rw [(n_of_low lw).1, (n_of_low lw).2] at ho6
      obtain ⟨_, d6, e6⟩ := id ho6
      refine ⟨r1, r6, d1, d6, _, _, rfl, rfl, s6 _ _ e1, e6, r1, .ref r6, p1, q1, 1, _, rfl, ho1.same s6, .inr ⟨r6, rfl, ho6⟩, bp1.mono (by decide), bq1.mono (by decide), b1.mono (by decide), bM.mono (by decide), fun r7 H7 s7 hr7 ho7 => ?_⟩
      have s67 := s6.trans s7
      refine ⟨_, rfl, _, _, rfl, rfl, ⟨by decide, by decide, by decide⟩, _, rfl, _, _, rfl, rfl, sz2, fun t8 H8 n8 => ?_⟩
      refine ⟨t1, t8, p1, q1, 1, _, rfl, n8.same _ _ (s67 _ _ hp1), n8.at, ne_mul q1p hM, bp1.mono (by decide), bq1.mono (by decide), b1.mono (by decide), bM.mono (by decide), fun t9 H9 n9 => ⟨sz2, ?_⟩⟩
      have b0 := ne_mul q1p hM
      have s89 := n8.same.trans n9.same
      exact fin H9 r7 t9 _ _ (s67.trans s89) (ho7.same s89) n9.at (s4.nf (s6.free hr7)) ((s4.same (s67.trans n8.same)).nf n9.1) ((((bp1.mul bM).add ((b1.mul bq1).mono (by decide))).le (nT_le b0)).mono (by decide)) (((bq1.mul bM).le (nB_le b0)).mono (by decide))
    have hA0 : (0 : Int) < 1 + (if nn - 20 < 0 then -(nn - 20) else nn - 20) := by split <;> omega
    have bA : Bd 10 (1 + (if nn - 20 < 0 then -(nn - 20) else nn - 20)) := by
      show (1 + (if nn - 20 < 0 then -(nn - 20) else nn - 20)).natAbs < 2 ^ 10
      split <;> omega
    refine ⟨_, rfl, rfl, _, rfl, iteB (fun _ => ?_) (fun _ => ?_)⟩
    · refine ⟨_, rfl, _, rfl, _, _, rfl, rfl, 1, _, rfl, bA.ex (by decide), .inl ⟨Int.ne_of_gt hA0, fun r6 H6 s6 hr6 ho6 => ?_⟩⟩
      have lw := low_1 hA0
      rw [(n_of_low lw).1, (n_of_low lw).2] at ho6
      obtain ⟨_, d6, e6⟩ := id ho6
      refine ⟨_, rfl, _, rfl, R, _, _, _, rfl, rfl, SqL.of (s6 _ _ hg4.g.hR), ar1, r6, r1, d6, d1, _, _, rfl, rfl, e6, s6 _ _ e1, r6, .ref r1, 1, _, p1, q1, rfl, ho6, .inr ⟨r1, rfl, ho1.same s6⟩, b1.mono (by decide), bA.mono (by decide), bp1.mono (by decide), bq1.mono (by decide), fun r7 H7 s7 hr7 ho7 => ?_⟩
      have s67 := s6.trans s7
      refine ⟨_, rfl, _, rfl, _, rfl, _, _, rfl, rfl, sz2, fun t8 H8 n8 => ?_⟩
      refine ⟨t1, t8, p1, q1, 1, _, rfl, n8.same _ _ (s67 _ _ hp1), n8.at, ne_mul q1p hA0, bp1.mono (by decide), bq1.mono (by decide), b1.mono (by decide), bA.mono (by decide), fun t9 H9 n9 => ⟨sz2, ?_⟩⟩
      have b0 := ne_mul q1p hA0
      have s89 := n8.same.trans n9.same
      have c1 := Int.mul_comm 1 p1
      have c2 := Int.mul_comm (1 + (if nn - 20 < 0 then -(nn - 20) else nn - 20)) q1
      have ho7' : RatO T.c_Ratio H7 r7 (nT (p1 * 1) (q1 * (1 + (if nn - 20 < 0 then -(nn - 20) else nn - 20)))) (nB (p1 * 1) (q1 * (1 + (if nn - 20 < 0 then -(nn - 20) else nn - 20)))) := by
        rw [← c1, ← c2]; exact ho7
      exact fin H9 r7 t9 _ _ (s67.trans s89) (ho7'.same s89) n9.at (s4.nf (s6.free hr7)) ((s4.same (s67.trans n8.same)).nf n9.1) (((bp1.mul b1).le (nT_le b0)).mono (by decide)) (((bq1.mul bA).le (nB_le b0)).mono (by decide))
    have nA : 1 + (if nn - 20 < 0 then -(nn - 20) else nn - 20) ≠ 0 := Int.ne_of_gt hA0
    refine ⟨_, rfl, _, rfl, _, rfl, _, _, rfl, rfl, nn - 20, _, rfl, bA.ex (by decide), .inl ⟨nA, fun r6 H6 s6 hr6 ho6 => ?_⟩⟩
    refine ⟨_, rfl, _, rfl, _, rfl, _, _, rfl, rfl, nn - 20, _, rfl, nA, bA.ex (by decide), fun t8 H8 n8 => ⟨sz2, ?_⟩⟩
    exact fin H8 r6 t8 _ _ (s6.trans n8.same) (ho6.same n8.same) n8.at (s4.nf hr6) ((s4.same s6).nf n8.1) ((bN.le (nT_le nA)).mono (by decide)) ((bA.le (nB_le nA)).mono (by decide))
theorem F_step (T : GG K mg) : FnI P w K mg base "_law_step" 10 ["_law_state", "_law_ratios", "_law_pairs"] (spStep T.c_Ratio) :=
  ⟨T.a_step, T.fd_step, ok_step T, T.m_step, T.F_step.kp, T.F_step.binds fun _ _ _ _ _ _ us hl => match us, hl with | [_, _, _], _ => rfl⟩
end
end Xl

namespace Xl
open PySem PySem.Spec PyProof.Rows L2
theorem d_iadd : dunderI (Operator.info .Add).2 = "__iadd__" := by decide +kernel
theorem fold_lt : ∀ (cs : List Nat) (a : Nat), NumText.AllDigits cs → cs.foldl (fun acc c => acc * 10 + (c - 48)) a < (a + 1) * 10 ^ cs.length
  | [], a, _ => by simp
  | c :: cs, a, h => by
    have h1 := fold_lt cs (a * 10 + (c - 48)) h.tail
    have h2 := h.head
    refine Nat.lt_of_lt_of_le h1 ?_
    rw [List.length_cons, Nat.pow_succ, Nat.mul_comm (10 ^ _) 10, ← Nat.mul_assoc]
    exact Nat.mul_le_mul_right _ (by omega)
theorem val_lt {cs : List Nat} (h : NumText.AllDigits cs) : NumText.digitsVal cs < 10 ^ cs.length := by
  have := fold_lt cs 0 h
  rw [Nat.zero_add, Nat.one_mul] at this
  exact this
theorem len_lt40 {n : Nat} (h : (TL.numL n).length ≤ 40) : n < 10 ^ 40 := by
  have h1 := val_lt (TL.numL_digits n)
  rw [TL.numL_val] at h1
  exact Nat.lt_of_lt_of_le h1 (Nat.pow_le_pow_right (by decide) h)
theorem abs_len40 {p : Int} (h : (toString (if p < 0 then -p else p) : Str).length ≤ 40) : p.natAbs < 10 ^ 40 := by
  have e : (if p < 0 then -p else p) = ((p.natAbs : Nat) : Int) := by split <;> omega
  rw [e, TL.len_tl, TL.tl_num] at h
  exact len_lt40 h
theorem pos_len40 {q : Int} (h0 : 0 < q) (h : (toString q : Str).length ≤ 40) : q.natAbs < 10 ^ 40 := abs_len40 (by rw [if_neg (by omega)]; exact h)
theorem bd40 {p : Int} (h : p.natAbs < 10 ^ 40) : Bd 140 p := Nat.lt_of_lt_of_le h (by decide)
theorem RegsO.put {F : Fp} {C : Addr} {H H' : Hp} {R L : Addr} {rs ts : List Addr} {ps : List (Int × Int)} {i : Nat} {r t : Addr} {p q : Int} (h : RegsO F C H R L rs ts ps) (hi : i < 3)
    (k : ∀ b o, b ≠ R → b ≠ L → H b = some o → H' b = some o) (hR : H' R = some (.lst ((rs.map V.ref).set i (.ref r)))) (hL : H' L = some (.lst ((ts.map V.ref).set i (.ref t))))
    (ho : RatO C H' r p q) (hp : PairO H' t p q) (nr : ¬ F r) (nt : ¬ F t) (b1 : Bd 500 p) (b2 : Bd 500 q) : RegsO F C H' R L (rs.set i r) (ts.set i t) (ps.set i (p, q)) := by
  refine ⟨⟨by rw [hR, List.map_set], by rw [hL, List.map_set], by rw [List.length_set]; exact h.g.l1, by rw [List.length_set]; exact h.g.l2, by rw [List.length_set]; exact h.g.l3, fun j x e => ?_, fun j x e => ?_, fun x hx => ?_⟩, h.nR, h.nL, fun x hx => ?_, fun x hx => ?_⟩
  · rw [List.getElem?_set] at e
    rw [List.getElem?_set]
    by_cases hij : i = j
    · rw [if_pos hij, if_pos (by rw [h.g.l1]; omega)] at e
      rw [if_pos hij, if_pos (by rw [h.g.l3]; omega)]
      cases e
      exact ⟨p, q, rfl, ho⟩
    · rw [if_neg hij] at e
      rw [if_neg hij]
      obtain ⟨p', q', ep, hl, dx, e2⟩ := h.g.rat j x e
      exact ⟨p', q', ep, hl, dx, k _ _ (ne_of e2 h.g.hR (by intro z; cases z)) (ne_of e2 h.g.hL (by intro z; cases z)) e2⟩
  · rw [List.getElem?_set] at e
    rw [List.getElem?_set]
    by_cases hij : i = j
    · rw [if_pos hij, if_pos (by rw [h.g.l2]; omega)] at e
      rw [if_pos hij, if_pos (by rw [h.g.l3]; omega)]
      cases e
      exact ⟨p, q, rfl, hp⟩
    · rw [if_neg hij] at e
      rw [if_neg hij]
      obtain ⟨p', q', ep, e2⟩ := h.g.pr j x e
      exact ⟨p', q', ep, k _ _ (ne_of e2 h.g.hR (by intro z; cases z)) (ne_of e2 h.g.hL (by intro z; cases z)) e2⟩
  · rcases List.mem_or_eq_of_mem_set hx with hx | rfl
    · exact h.g.sz x hx
    · exact ⟨b1, b2⟩
  · rcases List.mem_or_eq_of_mem_set hx with hx | rfl
    · exact h.nr x hx
    · exact nr
  · rcases List.mem_or_eq_of_mem_set hx with hx | rfl
    · exact h.nt x hx
    · exact nt
section
variable {P : Program} {w : World} {K : PySem.W.Frag} {mg : Str → Option Value} {base : Heap} {X : Cx}
theorem o_iaddI (T : GG X.K X.mg) (hr : Room 6 X.A) : OpR X (inplaceOp .Add) (rOwnI T.c_Ratio (spAr T.c_Ratio addT mulB) E0) :=
  iop_ownI (rc := some (.ref T.a_Ratio___radd__)) (d_add ▸ M_add T) ⟨T.nm_Ratio, by rw [d_iadd]; exact T.ni_Ratio_add, by rw [d_iadd]; exact T.no_Ratio_add⟩ T.sf_Ratio (d_radd ▸ T.me_Ratio___radd__.at_) (.inr ⟨_, rfl⟩) (by rw [d_add, d_radd]; exact T.ot_Ratio___add___int) hr passL
abbrev N_law : List Str := ["_law_script", "_law_state", "_law_ratios", "_law_pairs", "_law_turn", "_law_i", "_law_ratio", "_law_pair"]
theorem sc_law : FnScope N_law ["_law_script"] (defScope s_law) := ⟨rfl, rfl, rfl, by decide +kernel, rfl, by decide +kernel, by decide +kernel⟩
theorem ok_law_of {T : GG K mg} {f : Addr} {fd : FuncData} (F : Fun K "law" "law" s_law f fd) : FnOk P w K mg base (L2.CX P w) 14 f fd ["_law_script"] (spLaw K) := by
  refine okN F sc_law (fun vs H Q E h => ?_) (fun cdv A outer s H vs Q E hr h => ?_)
  · obtain ⟨a, ns, rfl, _⟩ := h
    rfl
  · obtain ⟨a, ns, rfl, hS, hl, k⟩ := h
    refine ⟨_, (pss_cons (ps_set (i := 1) sc_law.nd rfl (Or.inl rfl) (pe_f (F_start T) (hr.mono (by decide)) passL (pa_cons (pv 0) pa_nil)))
      (pss_cons (ps_set (i := 2) sc_law.nd rfl (Or.inl rfl) (pe_lstN (pa_cons (pe_mkI (M_Ratio1 T) (hr.mono (by decide)) T.g_Ratio passL (pa_cons pe_int pa_nil)) (pa_cons (pe_mkI (M_Ratio T) (hr.mono (by decide)) T.g_Ratio passL (pa_cons pe_int (pa_cons pe_int pa_nil))) (pa_cons (pe_mkI (M_Ratio T) (hr.mono (by decide)) T.g_Ratio passL (pa_cons (pe_un un_neg pe_int) (pa_cons pe_int pa_nil))) pa_nil)))))
      (pss_cons (ps_set (i := 3) sc_law.nd rfl (Or.inl rfl) (pe_lstN (pa_cons (pe_tupN (pa_cons pe_int (pa_cons pe_int pa_nil))) (pa_cons (pe_tupN (pa_cons pe_int (pa_cons pe_int pa_nil))) (pa_cons (pe_tupN (pa_cons (pe_un un_neg pe_int) (pa_cons pe_int pa_nil))) pa_nil)))))
      (pss_cons (ps_for PassesOwn.never rfl (pi_range1 rfl T.z_range (pa_cons (pe_callB (cr_min rfl) rfl T.z_min (by decide +kernel) (pa_cons (pe_lstN (pa_cons pe_int (pa_cons (pe_op op_add (pe_callB call_len_seq rfl T.z_len PySem.boot_len (pa_cons (pv 0) pa_nil)) pe_int) pa_nil))) pa_nil)) pa_nil)) (pg_name (i := 4) sc_law.nd rfl (Or.inl rfl))
        (pss_cons (ps_set (i := 5) sc_law.nd rfl (Or.inl rfl) (pe_f (F_draw T) (hr.mono (by decide)) passL (pa_cons (pv 1) (pa_cons pe_int pa_nil))))
        (pss_cons (ps_asg (pe_f (F_step T) (hr.mono (by decide)) passL (pa_cons (pv 1) (pa_cons (pv 2) (pa_cons (pv 3) pa_nil)))) (pg_tup rfl (pgs_cons (pg_name (i := 6) sc_law.nd rfl (Or.inl rfl)) (pgs_cons (pg_name (i := 7) sc_law.nd rfl (Or.inl rfl)) pgs_nil))))
        (pss_cut (ps_if (PW.pt (pw_or (pt_cmpR op_gt (pe_callB call_len_str rfl T.z_len PySem.boot_len (pa_cons (pe_callTy call_str_int rfl T.z_str (by decide +kernel) (pa_cons (pe_callB call_abs rfl T.z_abs (by decide +kernel) (pa_cons (pe_ix ix_tup (pv 7) pe_int (fun _ _ => rfl)) pa_nil)) pa_nil)) pa_nil)) pe_int (nomark _)) (pw_or1 (pt_cmpR op_gt (pe_callB call_len_str rfl T.z_len PySem.boot_len (pa_cons (pe_callTy call_str_int rfl T.z_str (by decide +kernel) (pa_cons (pe_ix ix_tup (pv 7) pe_int (fun _ _ => rfl)) pa_nil)) pa_nil)) pe_int (nomark _))))) (pss_one (ps_par (i := 6) (j := 7) rfl sc_law.nd rfl rfl (by decide) rfl rfl (pa_cons (pe_mkI (M_Ratio T) (hr.mono (by decide)) T.g_Ratio passL (pa_cons (pv 4) (pa_cons pe_int pa_nil))) (pa_cons (pe_f (F_low T) (hr.mono (by decide)) passL (pa_cons (pv 4) (pa_cons pe_int pa_nil))) pa_nil)) rfl)) pss_nil)
        (pss_cons (ps_asg (pv 6) (pg_sub (pv 2) (pv 5) set_list))
        (pss_cons (ps_asg (pv 7) (pg_sub (pv 3) (pv 5) set_list))
        (pss_cut (ps_if (pt_cmpR op_eq (pe_f (F_draw T) (hr.mono (by decide)) passL (pa_cons (pv 1) (pa_cons pe_int pa_nil))) pe_int (nomark _)) (pss_cons (ps_augS (pv 2) (pv 5) get_list pe_int (o_iaddI T (hr.mono (by decide))) set_list)
          (pss_one (ps_asg (pe_f (F_plus T) (hr.mono (by decide)) passL (pa_cons (pv 7) (pa_cons (pe_tupN (pa_cons pe_int (pa_cons pe_int pa_nil))) pa_nil))) (pg_sub (pv 3) (pv 5) set_list)))) pss_nil)
        (pss_one (ps_if (pt_not (pt_truth (pe_f (F_agrees T) (hr.mono (by decide)) passL (pa_cons (pv 2) (pa_cons (pv 3) pa_nil))) (by intro _; rfl))) (pss_one (ps_ret pe_bl)) pss_nil)))))))))
      (pss_one (ps_ret pe_bl)))))), ?_⟩
    refine ⟨_, rfl, a, ns, rfl, hS, hl, fun st F1 H1 s1 sm1 nf1 => ?_⟩
    have b3 : ∀ i : Int, i.natAbs < 2 ^ 4 → Bd 500 i := fun i h => Nat.lt_of_lt_of_le h (Nat.pow_le_pow_right (by decide) (by decide))
    refine ⟨0, rfl, fun r0 H2 m2 hr0 ho0 => ⟨1, 2, rfl, (b3 2 (by decide)).ex (by decide), .inl ⟨by decide, fun r1 H3 m3 hr1 ho1 => ?_⟩⟩⟩
    refine ⟨_, rfl, -3, 7, rfl, (b3 7 (by decide)).ex (by decide), .inl ⟨by decide, fun r2 H4 m4 hr2 ho2 => ⟨(by show 3 ≤ sizeLine; decide), fun R H5 n5 => ?_⟩⟩⟩
    refine ⟨(by show 2 ≤ sizeLine; decide), fun t0 H6 n6 => ⟨(by show 2 ≤ sizeLine; decide), fun t1 H7 n7 => ⟨_, rfl, (by show 2 ≤ sizeLine; decide), fun t2 H8 n8 => ⟨(by show 3 ≤ sizeLine; decide), fun L H9 n9 => ?_⟩⟩⟩⟩
    have s59 := (((n6.same).trans n7.same).trans n8.same).trans n9.same
    have s49 := n5.same.trans s59
    have g0 : RegsO F1 T.c_Ratio H9 R L [r0, r1, r2] [t0, t1, t2] [(0, 1), (1, 2), (-3, 7)] := by
      have a1 : ¬ F1 R := ((((s1.same m2).same m3).same m4).nf n5.1)
      have a2 : ¬ F1 L := (((((((s1.same m2).same m3).same m4).same n5.same).same n6.same).same n7.same).same n8.same).nf n9.1
      have a3 : ¬ F1 t0 := (((((s1.same m2).same m3).same m4).same n5.same).nf n6.1)
      have a4 : ¬ F1 t1 := ((((((s1.same m2).same m3).same m4).same n5.same).same n6.same).nf n7.1)
      have a5 : ¬ F1 t2 := (((((((s1.same m2).same m3).same m4).same n5.same).same n6.same).same n7.same).nf n8.1)
      refine ⟨⟨s59 _ _ n5.at, n9.at, rfl, rfl, rfl, fun i r e => ?_, fun i t e => ?_, fun x hx => ?_⟩, a1, a2, fun r hr => ?_, fun t ht => ?_⟩
      · match i, e with
        | 0, e => cases e; exact ⟨0, 1, rfl, ((ho0.same m3).same m4).same s49⟩
        | 1, e => cases e; exact ⟨1, 2, rfl, (ho1.same m4).same s49⟩
        | 2, e => cases e; exact ⟨-3, 7, rfl, ho2.same s49⟩
      · match i, e with
        | 0, e => cases e; exact ⟨0, 1, rfl, (n7.same.trans (n8.same.trans n9.same)) _ _ n6.at⟩
        | 1, e => cases e; exact ⟨1, 2, rfl, (n8.same.trans n9.same) _ _ n7.at⟩
        | 2, e => cases e; exact ⟨-3, 7, rfl, n9.same _ _ n8.at⟩
      · simp only [List.mem_cons, List.not_mem_nil, or_false] at hx
        rcases hx with rfl | rfl | rfl <;> exact ⟨b3 _ (by decide), b3 _ (by decide)⟩
      · simp only [List.mem_cons, List.not_mem_nil, or_false] at hr
        rcases hr with rfl | rfl | rfl
        · exact s1.nf hr0
        · exact (s1.same m2).nf hr1
        · exact ((s1.same m2).same m3).nf hr2
      · simp only [List.mem_cons, List.not_mem_nil, or_false] at ht
        rcases ht with rfl | rfl | rfl <;> assumption
    have nRL : R ≠ L := n9.ne (n8.same _ _ (n7.same _ _ (n6.same _ _ n5.at)))
    have st9 : StAt H9 F1 st 0 := ((((s1.same m2).same m3).same m4).same s49)
    refine ⟨_, rfl, a, _, rfl, .inl (Same.seq (((sm1.trans m2).trans (m3.trans m4)).trans s49) hS), _, _, rfl, rfl, (by show 2 ≤ sizeLine; decide), fun l10 H10 n10 => ⟨l10, [60, (((ns.map V.int).length : Nat) : Int) + 4], rfl, SqL.of n10.at, (by show 0 < 2; decide), fun m hm hle => ?_⟩⟩
    have hm0 : 0 ≤ m := by
      rcases List.mem_cons.mp hm with e | e
      · omega
      · rcases List.mem_cons.mp e with e | e
        · omega
        · cases e
    have hm60 : m ≤ 60 := hle 60 (List.mem_cons_self ..)
    refine ⟨m, rfl, by omega, by omega, for_it (walk_range (lo := 0) (n := m.toNat)) (fun i σ H1 => ∃ F rs ts ps vt vi vr vp, σ = [some (.ref a), some (.ref st), some (.ref R), some (.ref L), vt, vi, vr, vp] ∧ StAt H1 F st (6 * i) ∧ RegsO F T.c_Ratio H1 R L rs ts ps) ?_ (fun _ _ _ _ _ => trivial) ?_ ?_⟩
    · exact ⟨F1, _, _, _, _, _, _, _, rfl, st9.same n10.same, g0.fr (Fr.same n10.same)⟩
    · rintro i v σ H11 H11' hi ⟨F, rs, ts, ps, vt, vi, vr, vp, rfl, sa, hg⟩ ⟨rfl, rfl⟩
      have hi60 : i < 60 := by omega
      refine ⟨_, rfl, F, st, 6 * i, _, rfl, sa, by omega, by decide, by decide, fun ii Fa Ha hi0 hi1 sa1 f1 => ?_⟩
      refine ⟨_, rfl, _, rfl, _, rfl, Fa, st, R, L, rs, ts, ps, 6 * i + 1, rfl, sa1, by omega, hg.fr f1, fun z r t p q Fb Hb hz ho hp nr nt bp bq sb fb => ?_⟩
      obtain ⟨ii, rfl⟩ := Int.eq_ofNat_of_zero_le hi0
      refine ⟨z, _, rfl, SqT.of hz, rfl, _, _, rfl, _, _, rfl, rfl, ?_⟩
      have hgb := (hg.fr f1).fr fb
      have qp := ho.1.pos
      refine ⟨fun σ H12 => ∃ r t p q, σ = [some (.ref a), some (.ref st), some (.ref R), some (.ref L), some (.int (0 + (i : Int))), some (.int (ii : Int)), some (.ref r), some (.ref t)] ∧ RatO T.c_Ratio H12 r p q ∧ PairO H12 t p q ∧ ¬ Fb r ∧ ¬ Fb t ∧ Bd 140 p ∧ Bd 140 q ∧ Same Hb H12, ?_, ?_⟩
      · have lp := bp.log (by decide)
        have lq := bq.log (by decide)
        have la : (if p < 0 then -p else p).natAbs.log2 < 1920 := by
          have e : (if p < 0 then -p else p).natAbs = p.natAbs := by split <;> omega
          rw [e]; exact lp
        have sq : SqT K Hb t [.int p, .int q] := SqT.of hp
        have body : ∀ Q : List V → Hp → Prop, (∀ r t p q H12, RatO T.c_Ratio H12 r p q → PairO H12 t p q → ¬ Fb r → ¬ Fb t → Bd 140 p → Bd 140 q → Same Hb H12 → Q [.ref r, .ref t] H12) → tCons (tCall (spRat T.c_Ratio T.c_OutOfRange) [] E0 (tCons (tVar 4) (tCons (tC (V.int 3)) tNil))) (tCons (tCall spLow [] E0 (tCons (tVar 4) (tCons (tC (V.int 3)) tNil))) tNil)
            [some (.ref a), some (.ref st), some (.ref R), some (.ref L), some (.int (0 + (i : Int))), some (.int (ii : Int)), some (.ref r), some (.ref t)] Hb Q := by
          intro Q k
          have h3 : (3 : Int) ≠ 0 := by decide
          have bi : Bd 140 (0 + (i : Int)) := Nat.lt_of_lt_of_le (show (0 + (i : Int)).natAbs < 2 ^ 6 by omega) (Nat.pow_le_pow_right (by decide) (by decide))
          have b33 : Bd 140 3 := Nat.lt_of_lt_of_le (show (3 : Int).natAbs < 2 ^ 6 by decide) (Nat.pow_le_pow_right (by decide) (by decide))
          refine ⟨_, rfl, 0 + (i : Int), 3, rfl, (b3 3 (by decide)).ex (by decide), .inl ⟨h3, fun r6 H6' m6 hr6 ho6 => ?_⟩⟩
          refine ⟨_, rfl, 0 + (i : Int), 3, rfl, h3, (b3 3 (by decide)).ex (by decide), fun t7 H7' n7' => ?_⟩
          exact k r6 t7 _ _ H7' (ho6.same n7'.same) n7'.at (sb.nf hr6) ((sb.same m6).nf n7'.1) (bi.le (nT_le h3)) (b33.le (nB_le h3)) (m6.trans n7'.same)
        refine ⟨_, rfl, t, _, _, _, rfl, rfl, sq, rfl, p, rfl, _, rfl, la, _, rfl, small_sz (log_ok la), _, _, rfl, rfl, _, rfl, iteB (fun _ => ?_) (fun c1 => ?_)⟩
        · refine iteT ?_
          refine body _ fun r t p q H12 ho hp nr nt bp bq m => ?_
          exact ⟨_, _, rfl, r, t, p, q, rfl, ho, hp, nr, nt, bp, bq, m⟩
        · refine ⟨_, rfl, t, _, _, _, rfl, rfl, sq, rfl, _, rfl, lq, _, rfl, small_sz (log_ok lq), _, _, rfl, rfl, _, rfl, iteB (fun _ => ?_) (fun c2 => ?_)⟩
          · refine body _ fun r t p q H12 ho hp nr nt bp bq m => ?_
            exact ⟨_, _, rfl, r, t, p, q, rfl, ho, hp, nr, nt, bp, bq, m⟩
          · have c1' := of_decide_eq_false c1
            have c2' := of_decide_eq_false c2
            exact ⟨r, t, p, q, rfl, ho, hp, nr, nt, bd40 (abs_len40 (by omega)), bd40 (pos_len40 qp (by omega)), Same.refl _⟩
      · rintro σ H12 ⟨r, t, p, q, rfl, ho, hp, nr, nt, bp, bq, m12⟩
        have qp := ho.1.pos
        have hgc := hgb.fr (Fr.same (F := Fb) m12)
        have sc := sb.same m12
        have i1 : ii < (rs.map V.ref).length := by rw [List.length_map, hgc.g.l1]; omega
        have i2 : ii < (ts.map V.ref).length := by rw [List.length_map, hgc.g.l2]; omega
        refine ⟨_, rfl, _, rfl, _, rfl, R, _, _, ii, rfl, rfl, hgc.g.hR, ixN_at i1, ?_⟩
        refine ⟨_, rfl, _, rfl, _, rfl, L, _, _, ii, rfl, rfl, by rw [upd_ne nRL.symm]; exact hgc.g.hL, ixN_at i2, ?_⟩
        have hgd : RegsO Fb T.c_Ratio (upd (upd H12 R (.lst ((rs.map V.ref).set ii (.ref r)))) L (.lst ((ts.map V.ref).set ii (.ref t)))) R L (rs.set ii r) (ts.set ii t) (ps.set ii (p, q)) := by
          have kk : ∀ b o, b ≠ R → b ≠ L → H12 b = some o → upd (upd H12 R (.lst ((rs.map V.ref).set ii (.ref r)))) L (.lst ((ts.map V.ref).set ii (.ref t))) b = some o := fun b o h1 h2 e => by
            rw [upd_ne h2, upd_ne h1]; exact e
          obtain ⟨lw, dx, e⟩ := id ho
          exact hgc.put (by omega) kk (by rw [upd_ne nRL, upd_same]) upd_same ⟨lw, dx, kk _ _ (ne_of e hgc.g.hR (by intro z; cases z)) (ne_of e hgc.g.hL (by intro z; cases z)) e⟩ (kk _ _ (ne_of hp hgc.g.hR (by intro z; cases z)) (ne_of hp hgc.g.hL (by intro z; cases z)) hp) nr nt (bp.mono (by decide)) (bq.mono (by decide))
        have sd := (sc.upd (p := R) (o := .lst ((rs.map V.ref).set ii (.ref r))) hgc.nR).upd (p := L) (o := .lst ((ts.map V.ref).set ii (.ref t))) hgc.nL
        revert hgd sd
        generalize upd (upd H12 R (.lst ((rs.map V.ref).set ii (.ref r)))) L (.lst ((ts.map V.ref).set ii (.ref t))) = H13
        intro hgd sd
        refine ⟨fun σ H14 => ∃ F rs ts ps, σ = [some (.ref a), some (.ref st), some (.ref R), some (.ref L), some (.int (0 + (i : Int))), some (.int (ii : Int)), some (.ref r), some (.ref t)] ∧ StAt H14 F st (6 * (i + 1)) ∧ RegsO F T.c_Ratio H14 R L rs ts ps, ?_, ?_⟩
        · refine ⟨_, rfl, Fb, st, 6 * i + 5, _, rfl, sd, by omega, by decide, by decide, fun d Fc Hc _ _ se fe => ⟨rfl, _, rfl, iteB (fun _ => ?_) (fun _ => ?_)⟩⟩
          · have hge := hgd.fr fe
            obtain ⟨r', t', p', q', ar', at', er', et', ep', ho', hp', bp', bq'⟩ := hge.g.at (i := ii) (by omega)
            rw [List.getElem?_set, if_pos rfl, if_pos (by rw [hg.g.l3]; omega)] at ep'
            rw [List.getElem?_set, if_pos rfl, if_pos (by rw [hg.g.l1]; omega)] at er'
            rw [List.getElem?_set, if_pos rfl, if_pos (by rw [hg.g.l2]; omega)] at et'
            cases ep'
            cases er'
            cases et'
            obtain ⟨_, dx, e'⟩ := id ho'
            have i1' : ii < ((rs.set ii r).map V.ref).length := by rw [List.length_map, hge.g.l1]; omega
            have i2' : ii < ((ts.set ii t).map V.ref).length := by rw [List.length_map, hge.g.l2]; omega
            have b11 : Bd 140 1 := Nat.lt_of_lt_of_le (show (1 : Int).natAbs < 2 ^ 6 by decide) (Nat.pow_le_pow_right (by decide) (by decide))
            refine ⟨_, rfl, _, rfl, R, _, _, _, rfl, rfl, SqL.of hge.g.hR, ar', r, 1, dx, _, rfl, rfl, e', r, .int 1, p, q, 1, 1, rfl, ho', .inl ⟨rfl, rfl⟩, bp'.mono (by decide), bq'.mono (by decide), b11.mono (by decide), b11.mono (by decide), fun r5 H15 m15 hr5 ho5 => ?_⟩
            refine ⟨R, _, _, ii, rfl, rfl, m15 _ _ hge.g.hR, ixN_at i1', ?_⟩
            have ntR : t ≠ R := ne_of hp' hge.g.hR (by intro z; cases z)
            have ntL : t ≠ L := ne_of hp' hge.g.hL (by intro z; cases z)
            refine ⟨_, rfl, (by show 2 ≤ sizeLine; decide), fun t16 H16 n16 => ?_⟩
            have qp' := ho'.1.pos
            have ne11 := ne_mul qp' (show (0 : Int) < 1 by decide)
            refine ⟨t, t16, p, q, 1, 1, rfl, n16.same _ _ (by rw [upd_ne ntR]; exact m15 _ _ hp'), n16.at, ne11, bp'.mono (by decide), bq'.mono (by decide), b11.mono (by decide), b11.mono (by decide), fun t17 H17 n17 => ?_⟩
            have hL17 : H17 L = some (.lst ((ts.set ii t).map V.ref)) := n17.same _ _ (n16.same _ _ (by rw [upd_ne nRL.symm]; exact m15 _ _ hge.g.hL))
            refine ⟨_, rfl, _, rfl, L, _, _, ii, rfl, rfl, hL17, ixN_at i2', ?_⟩
            have s67 := n16.same.trans n17.same
            have kk : ∀ b o, b ≠ R → b ≠ L → Hc b = some o → upd H17 L (.lst (((ts.set ii t).map V.ref).set ii (.ref t17))) b = some o := fun b o h1 h2 e => by
              rw [upd_ne h2]
              exact s67 _ _ (by rw [upd_ne h1]; exact m15 _ _ e)
            have sf1 : StAt (upd H15 R (.lst (((rs.set ii r).map V.ref).set ii (.ref r5)))) Fc st (6 * (i + 1)) := ((se.same m15).mono (by omega)).upd hge.nR
            obtain ⟨lw5, d5, e5⟩ := id ho5
            have n5R : r5 ≠ R := ne_of e5 (m15 _ _ hge.g.hR) (by intro z; cases z)
            have n5L : r5 ≠ L := ne_of e5 (m15 _ _ hge.g.hL) (by intro z; cases z)
            have n17L : t17 ≠ L := ne_of n17.at hL17 (by intro z; cases z)
            have bt : Bd 281 (addT p q 1 1) := (((bp.mul b11)).add ((b11.mul bq)))
            have bb : Bd 280 (mulB p q 1 1) := bq.mul b11
            have hput := hge.put (i := ii) (r := r5) (t := t17) (by omega) kk (by rw [upd_ne nRL]; exact s67 _ _ upd_same) upd_same
              ⟨lw5, d5, by rw [upd_ne n5L]; exact s67 _ _ (by rw [upd_ne n5R]; exact e5)⟩ (show PairO _ t17 _ _ by unfold PairO; rw [upd_ne n17L]; exact n17.at) (se.nf hr5) ((sf1.same n16.same).nf n17.1) ((bt.le (nT_le ne11)).mono (by decide)) ((bb.le (nB_le ne11)).mono (by decide))
            exact ⟨Fc, _, _, _, rfl, (sf1.same s67).upd hge.nL, hput⟩
          · exact ⟨Fc, _, _, _, rfl, se.mono (by omega), hgd.fr fe⟩
        · rintro σ H14 ⟨F', rs', ts', ps', rfl, s14, hg14⟩
          refine ⟨_, rfl, _, rfl, R, L, rs', ts', ps', rfl, hg14.g, fun H15 m15 => ⟨_, rfl, iteF ?_⟩⟩
          exact ⟨F', rs', ts', ps', _, _, _, _, rfl, s14.same m15, hg14.fr (Fr.same m15)⟩
    · rintro σ H11 ⟨F, rs, ts, ps, vt, vi, vr, vp, rfl, sa, hg⟩
      exact k H11
end
end Xl

namespace Xl
open PySem L2
theorem all_mk {l : PySem.W.OpenLaw} {w : World} {K : PySem.W.Frag} {h : Heap} {mg : Str → Option Value} {fa f_BadCount___init__ f_OutOfRange___init__ f_common_divisor f_Ratio___init__ f_Ratio_top f_Ratio_bottom f_Ratio_sign f_Ratio_over f_Ratio_below f_Ratio___neg__ f_Ratio___add__ f_Ratio___radd__ f_Ratio___sub__ f_Ratio___rsub__ f_Ratio___mul__ f_Ratio___rmul__ f_Ratio___eq__ f_Ratio___str__ f_as_ratio f_least f_greatest f_start f_draw f_low f_plus f_times f_less f_is f_text f_agrees f_step f_law c_ExtralinkError c_BadCount c_OutOfRange c_Ratio : Addr} (X : K.In h) (G : h.Ns mainGlobals mg) (hfa : mg "law" = some (.ref fa))
    {od_BadCount___init__ an_BadCount___init__ : Option Addr} {sl_BadCount___init__ : Array (Option Value)} {oc_BadCount___init__ kV_BadCount___init__ dc_BadCount___init__ pm_BadCount___init__ cd_BadCount___init__ ct_BadCount___init__ : Value}
    {od_OutOfRange___init__ an_OutOfRange___init__ : Option Addr} {sl_OutOfRange___init__ : Array (Option Value)} {oc_OutOfRange___init__ kV_OutOfRange___init__ dc_OutOfRange___init__ pm_OutOfRange___init__ cd_OutOfRange___init__ ct_OutOfRange___init__ : Value}
    {od_common_divisor an_common_divisor : Option Addr} {sl_common_divisor : Array (Option Value)} {oc_common_divisor kV_common_divisor dc_common_divisor pm_common_divisor cd_common_divisor ct_common_divisor : Value}
    {od_Ratio___init__ an_Ratio___init__ : Option Addr} {sl_Ratio___init__ : Array (Option Value)} {oc_Ratio___init__ kV_Ratio___init__ dc_Ratio___init__ pm_Ratio___init__ cd_Ratio___init__ ct_Ratio___init__ : Value}
    {dT_Ratio___init__ : Addr} {do_Ratio___init__ : Obj} {di_Ratio___init__ : Array Value} {dn_Ratio___init__ : Nat}
    {dt_Ratio___init__ : Tok}
    {od_Ratio_top an_Ratio_top : Option Addr} {sl_Ratio_top : Array (Option Value)} {oc_Ratio_top kV_Ratio_top dc_Ratio_top pm_Ratio_top cd_Ratio_top ct_Ratio_top : Value}
    {p_Ratio_top : Addr} {rr_Ratio_top : List Value}
    {od_Ratio_bottom an_Ratio_bottom : Option Addr} {sl_Ratio_bottom : Array (Option Value)} {oc_Ratio_bottom kV_Ratio_bottom dc_Ratio_bottom pm_Ratio_bottom cd_Ratio_bottom ct_Ratio_bottom : Value}
    {p_Ratio_bottom : Addr} {rr_Ratio_bottom : List Value}
    {od_Ratio_sign an_Ratio_sign : Option Addr} {sl_Ratio_sign : Array (Option Value)} {oc_Ratio_sign kV_Ratio_sign dc_Ratio_sign pm_Ratio_sign cd_Ratio_sign ct_Ratio_sign : Value}
    {p_Ratio_sign : Addr} {rr_Ratio_sign : List Value}
    {od_Ratio_over an_Ratio_over : Option Addr} {sl_Ratio_over : Array (Option Value)} {oc_Ratio_over kV_Ratio_over dc_Ratio_over pm_Ratio_over cd_Ratio_over ct_Ratio_over : Value}
    {od_Ratio_below an_Ratio_below : Option Addr} {sl_Ratio_below : Array (Option Value)} {oc_Ratio_below kV_Ratio_below dc_Ratio_below pm_Ratio_below cd_Ratio_below ct_Ratio_below : Value}
    {od_Ratio___neg__ an_Ratio___neg__ : Option Addr} {sl_Ratio___neg__ : Array (Option Value)} {oc_Ratio___neg__ kV_Ratio___neg__ dc_Ratio___neg__ pm_Ratio___neg__ cd_Ratio___neg__ ct_Ratio___neg__ : Value}
    {od_Ratio___add__ an_Ratio___add__ : Option Addr} {sl_Ratio___add__ : Array (Option Value)} {oc_Ratio___add__ kV_Ratio___add__ dc_Ratio___add__ pm_Ratio___add__ cd_Ratio___add__ ct_Ratio___add__ : Value}
    {od_Ratio___radd__ an_Ratio___radd__ : Option Addr} {sl_Ratio___radd__ : Array (Option Value)} {oc_Ratio___radd__ kV_Ratio___radd__ dc_Ratio___radd__ pm_Ratio___radd__ cd_Ratio___radd__ ct_Ratio___radd__ : Value}
    {od_Ratio___sub__ an_Ratio___sub__ : Option Addr} {sl_Ratio___sub__ : Array (Option Value)} {oc_Ratio___sub__ kV_Ratio___sub__ dc_Ratio___sub__ pm_Ratio___sub__ cd_Ratio___sub__ ct_Ratio___sub__ : Value}
    {od_Ratio___rsub__ an_Ratio___rsub__ : Option Addr} {sl_Ratio___rsub__ : Array (Option Value)} {oc_Ratio___rsub__ kV_Ratio___rsub__ dc_Ratio___rsub__ pm_Ratio___rsub__ cd_Ratio___rsub__ ct_Ratio___rsub__ : Value}
    {od_Ratio___mul__ an_Ratio___mul__ : Option Addr} {sl_Ratio___mul__ : Array (Option Value)} {oc_Ratio___mul__ kV_Ratio___mul__ dc_Ratio___mul__ pm_Ratio___mul__ cd_Ratio___mul__ ct_Ratio___mul__ : Value}
    {od_Ratio___rmul__ an_Ratio___rmul__ : Option Addr} {sl_Ratio___rmul__ : Array (Option Value)} {oc_Ratio___rmul__ kV_Ratio___rmul__ dc_Ratio___rmul__ pm_Ratio___rmul__ cd_Ratio___rmul__ ct_Ratio___rmul__ : Value}
    {od_Ratio___eq__ an_Ratio___eq__ : Option Addr} {sl_Ratio___eq__ : Array (Option Value)} {oc_Ratio___eq__ kV_Ratio___eq__ dc_Ratio___eq__ pm_Ratio___eq__ cd_Ratio___eq__ ct_Ratio___eq__ : Value}
    {od_Ratio___str__ an_Ratio___str__ : Option Addr} {sl_Ratio___str__ : Array (Option Value)} {oc_Ratio___str__ kV_Ratio___str__ dc_Ratio___str__ pm_Ratio___str__ cd_Ratio___str__ ct_Ratio___str__ : Value}
    {od_as_ratio an_as_ratio : Option Addr} {sl_as_ratio : Array (Option Value)} {oc_as_ratio kV_as_ratio dc_as_ratio pm_as_ratio cd_as_ratio ct_as_ratio : Value}
    {od_least an_least : Option Addr} {sl_least : Array (Option Value)} {oc_least kV_least dc_least pm_least cd_least ct_least : Value}
    {od_greatest an_greatest : Option Addr} {sl_greatest : Array (Option Value)} {oc_greatest kV_greatest dc_greatest pm_greatest cd_greatest ct_greatest : Value}
    {od_start an_start : Option Addr} {sl_start : Array (Option Value)} {oc_start kV_start dc_start pm_start cd_start ct_start : Value}
    {od_draw an_draw : Option Addr} {sl_draw : Array (Option Value)} {oc_draw kV_draw dc_draw pm_draw cd_draw ct_draw : Value}
    {od_low an_low : Option Addr} {sl_low : Array (Option Value)} {oc_low kV_low dc_low pm_low cd_low ct_low : Value}
    {od_plus an_plus : Option Addr} {sl_plus : Array (Option Value)} {oc_plus kV_plus dc_plus pm_plus cd_plus ct_plus : Value}
    {od_times an_times : Option Addr} {sl_times : Array (Option Value)} {oc_times kV_times dc_times pm_times cd_times ct_times : Value}
    {od_less an_less : Option Addr} {sl_less : Array (Option Value)} {oc_less kV_less dc_less pm_less cd_less ct_less : Value}
    {od_is an_is : Option Addr} {sl_is : Array (Option Value)} {oc_is kV_is dc_is pm_is cd_is ct_is : Value}
    {od_text an_text : Option Addr} {sl_text : Array (Option Value)} {oc_text kV_text dc_text pm_text cd_text ct_text : Value}
    {od_agrees an_agrees : Option Addr} {sl_agrees : Array (Option Value)} {oc_agrees kV_agrees dc_agrees pm_agrees cd_agrees ct_agrees : Value}
    {od_step an_step : Option Addr} {sl_step : Array (Option Value)} {oc_step kV_step dc_step pm_step cd_step ct_step : Value}
    {od_law an_law : Option Addr} {sl_law : Array (Option Value)} {oc_law kV_law dc_law pm_law cd_law ct_law : Value}
    {t_DIGITS : Tok}
    {t_MOST_DIGITS : Tok}
    {xn_BadCount xq_BadCount : Str} {xN_BadCount : Addr} {xb_BadCount xm_BadCount xu_BadCount : List Value} {xs_BadCount : List Str} {xa_BadCount : Bool} {xc_BadCount : Option Bool} {xd_BadCount : Option Addr} {x0_BadCount xi_BadCount x2_BadCount x3_BadCount x5_BadCount : Option Value}
    {xn_OutOfRange xq_OutOfRange : Str} {xN_OutOfRange : Addr} {xb_OutOfRange xm_OutOfRange xu_OutOfRange : List Value} {xs_OutOfRange : List Str} {xa_OutOfRange : Bool} {xc_OutOfRange : Option Bool} {xd_OutOfRange : Option Addr} {x0_OutOfRange xi_OutOfRange x2_OutOfRange x3_OutOfRange x5_OutOfRange : Option Value}
    {fo_Ratio___add___int ro_Ratio___add___int : Option Value}
    {fo_Ratio___sub___int ro_Ratio___sub___int : Option Value}
    {fo_Ratio___mul___int ro_Ratio___mul___int : Option Value}
    {nv1_Ratio : Value} {nv2_Ratio : Option Addr} {ncd_Ratio : ClassData} {nv3_Ratio : Array (Option Value)}
    (gc_ExtralinkError : PySem.W.nsIn K mainGlobals "ExtralinkError" = some (some (.ref c_ExtralinkError)))
    (gc_BadCount : PySem.W.nsIn K mainGlobals "BadCount" = some (some (.ref c_BadCount)))
    (gc_OutOfRange : PySem.W.nsIn K mainGlobals "OutOfRange" = some (some (.ref c_OutOfRange)))
    (gc_Ratio : PySem.W.nsIn K mainGlobals "Ratio" = some (some (.ref c_Ratio)))
    (at_BadCount___init__ : PySem.W.findIn K (.ref c_BadCount) "__init__" = some (some (.ref f_BadCount___init__)))
    (l_BadCount___init__ : K.lookup f_BadCount___init__ = some ⟨oc_BadCount___init__, od_BadCount___init__, .func (PySem.W.fnOf "__init__" "BadCount.__init__" (defArgs s_BadCount___init__) (defBody s_BadCount___init__) (defScope s_BadCount___init__) .none kV_BadCount___init__ dc_BadCount___init__ pm_BadCount___init__ an_BadCount___init__ cd_BadCount___init__ ct_BadCount___init__), sl_BadCount___init__⟩)
    (k1_BadCount___init__ : PySem.W.codeIn K cd_BadCount___init__ "BadCount.__init__" = true)
    (k2_BadCount___init__ : PySem.W.keepIn K (.ref f_BadCount___init__) = true)
    (at_OutOfRange___init__ : PySem.W.findIn K (.ref c_OutOfRange) "__init__" = some (some (.ref f_OutOfRange___init__)))
    (l_OutOfRange___init__ : K.lookup f_OutOfRange___init__ = some ⟨oc_OutOfRange___init__, od_OutOfRange___init__, .func (PySem.W.fnOf "__init__" "OutOfRange.__init__" (defArgs s_OutOfRange___init__) (defBody s_OutOfRange___init__) (defScope s_OutOfRange___init__) .none kV_OutOfRange___init__ dc_OutOfRange___init__ pm_OutOfRange___init__ an_OutOfRange___init__ cd_OutOfRange___init__ ct_OutOfRange___init__), sl_OutOfRange___init__⟩)
    (k1_OutOfRange___init__ : PySem.W.codeIn K cd_OutOfRange___init__ "OutOfRange.__init__" = true)
    (k2_OutOfRange___init__ : PySem.W.keepIn K (.ref f_OutOfRange___init__) = true)
    (a_common_divisor : PySem.W.nsIn K mainGlobals "common_divisor" = some (some (.ref f_common_divisor)))
    (l_common_divisor : K.lookup f_common_divisor = some ⟨oc_common_divisor, od_common_divisor, .func (PySem.W.fnOf "common_divisor" "common_divisor" (defArgs s_common_divisor) (defBody s_common_divisor) (defScope s_common_divisor) .none kV_common_divisor dc_common_divisor pm_common_divisor an_common_divisor cd_common_divisor ct_common_divisor), sl_common_divisor⟩)
    (k1_common_divisor : PySem.W.codeIn K cd_common_divisor "common_divisor" = true)
    (k2_common_divisor : PySem.W.keepIn K (.ref f_common_divisor) = true)
    (at_Ratio___init__ : PySem.W.findIn K (.ref c_Ratio) "__init__" = some (some (.ref f_Ratio___init__)))
    (l_Ratio___init__ : K.lookup f_Ratio___init__ = some ⟨oc_Ratio___init__, od_Ratio___init__, .func (PySem.W.fnOf "__init__" "Ratio.__init__" (defArgs s_Ratio___init__) (defBody s_Ratio___init__) (defScope s_Ratio___init__) (.ref dT_Ratio___init__) kV_Ratio___init__ dc_Ratio___init__ pm_Ratio___init__ an_Ratio___init__ cd_Ratio___init__ ct_Ratio___init__), sl_Ratio___init__⟩)
    (k1_Ratio___init__ : PySem.W.codeIn K cd_Ratio___init__ "Ratio.__init__" = true)
    (k2_Ratio___init__ : PySem.W.keepIn K (.ref f_Ratio___init__) = true)
    (d1_Ratio___init__ : K.lookup dT_Ratio___init__ = some do_Ratio___init__)
    (d2_Ratio___init__ : do_Ratio___init__.data = .seq di_Ratio___init__ dn_Ratio___init__)
    (d3_Ratio___init__ : di_Ratio___init__ = #[.int 1 dt_Ratio___init__])
    (at_Ratio_top : PySem.W.findIn K (.ref c_Ratio) "top" = some (some (.ref p_Ratio_top)))
    (rc_Ratio_top : PySem.W.recIn K p_Ratio_top "property" = some (.ref f_Ratio_top :: rr_Ratio_top))
    (l_Ratio_top : K.lookup f_Ratio_top = some ⟨oc_Ratio_top, od_Ratio_top, .func (PySem.W.fnOf "top" "Ratio.top" (defArgs s_Ratio_top) (defBody s_Ratio_top) (defScope s_Ratio_top) .none kV_Ratio_top dc_Ratio_top pm_Ratio_top an_Ratio_top cd_Ratio_top ct_Ratio_top), sl_Ratio_top⟩)
    (k1_Ratio_top : PySem.W.codeIn K cd_Ratio_top "Ratio.top" = true)
    (k2_Ratio_top : PySem.W.keepIn K (.ref f_Ratio_top) = true)
    (at_Ratio_bottom : PySem.W.findIn K (.ref c_Ratio) "bottom" = some (some (.ref p_Ratio_bottom)))
    (rc_Ratio_bottom : PySem.W.recIn K p_Ratio_bottom "property" = some (.ref f_Ratio_bottom :: rr_Ratio_bottom))
    (l_Ratio_bottom : K.lookup f_Ratio_bottom = some ⟨oc_Ratio_bottom, od_Ratio_bottom, .func (PySem.W.fnOf "bottom" "Ratio.bottom" (defArgs s_Ratio_bottom) (defBody s_Ratio_bottom) (defScope s_Ratio_bottom) .none kV_Ratio_bottom dc_Ratio_bottom pm_Ratio_bottom an_Ratio_bottom cd_Ratio_bottom ct_Ratio_bottom), sl_Ratio_bottom⟩)
    (k1_Ratio_bottom : PySem.W.codeIn K cd_Ratio_bottom "Ratio.bottom" = true)
    (k2_Ratio_bottom : PySem.W.keepIn K (.ref f_Ratio_bottom) = true)
    (at_Ratio_sign : PySem.W.findIn K (.ref c_Ratio) "sign" = some (some (.ref p_Ratio_sign)))
    (rc_Ratio_sign : PySem.W.recIn K p_Ratio_sign "property" = some (.ref f_Ratio_sign :: rr_Ratio_sign))
    (l_Ratio_sign : K.lookup f_Ratio_sign = some ⟨oc_Ratio_sign, od_Ratio_sign, .func (PySem.W.fnOf "sign" "Ratio.sign" (defArgs s_Ratio_sign) (defBody s_Ratio_sign) (defScope s_Ratio_sign) .none kV_Ratio_sign dc_Ratio_sign pm_Ratio_sign an_Ratio_sign cd_Ratio_sign ct_Ratio_sign), sl_Ratio_sign⟩)
    (k1_Ratio_sign : PySem.W.codeIn K cd_Ratio_sign "Ratio.sign" = true)
    (k2_Ratio_sign : PySem.W.keepIn K (.ref f_Ratio_sign) = true)
    (at_Ratio_over : PySem.W.findIn K (.ref c_Ratio) "over" = some (some (.ref f_Ratio_over)))
    (l_Ratio_over : K.lookup f_Ratio_over = some ⟨oc_Ratio_over, od_Ratio_over, .func (PySem.W.fnOf "over" "Ratio.over" (defArgs s_Ratio_over) (defBody s_Ratio_over) (defScope s_Ratio_over) .none kV_Ratio_over dc_Ratio_over pm_Ratio_over an_Ratio_over cd_Ratio_over ct_Ratio_over), sl_Ratio_over⟩)
    (k1_Ratio_over : PySem.W.codeIn K cd_Ratio_over "Ratio.over" = true)
    (k2_Ratio_over : PySem.W.keepIn K (.ref f_Ratio_over) = true)
    (at_Ratio_below : PySem.W.findIn K (.ref c_Ratio) "below" = some (some (.ref f_Ratio_below)))
    (l_Ratio_below : K.lookup f_Ratio_below = some ⟨oc_Ratio_below, od_Ratio_below, .func (PySem.W.fnOf "below" "Ratio.below" (defArgs s_Ratio_below) (defBody s_Ratio_below) (defScope s_Ratio_below) .none kV_Ratio_below dc_Ratio_below pm_Ratio_below an_Ratio_below cd_Ratio_below ct_Ratio_below), sl_Ratio_below⟩)
    (k1_Ratio_below : PySem.W.codeIn K cd_Ratio_below "Ratio.below" = true)
    (k2_Ratio_below : PySem.W.keepIn K (.ref f_Ratio_below) = true)
    (at_Ratio___neg__ : PySem.W.findIn K (.ref c_Ratio) "__neg__" = some (some (.ref f_Ratio___neg__)))
    (l_Ratio___neg__ : K.lookup f_Ratio___neg__ = some ⟨oc_Ratio___neg__, od_Ratio___neg__, .func (PySem.W.fnOf "__neg__" "Ratio.__neg__" (defArgs s_Ratio___neg__) (defBody s_Ratio___neg__) (defScope s_Ratio___neg__) .none kV_Ratio___neg__ dc_Ratio___neg__ pm_Ratio___neg__ an_Ratio___neg__ cd_Ratio___neg__ ct_Ratio___neg__), sl_Ratio___neg__⟩)
    (k1_Ratio___neg__ : PySem.W.codeIn K cd_Ratio___neg__ "Ratio.__neg__" = true)
    (k2_Ratio___neg__ : PySem.W.keepIn K (.ref f_Ratio___neg__) = true)
    (at_Ratio___add__ : PySem.W.findIn K (.ref c_Ratio) "__add__" = some (some (.ref f_Ratio___add__)))
    (l_Ratio___add__ : K.lookup f_Ratio___add__ = some ⟨oc_Ratio___add__, od_Ratio___add__, .func (PySem.W.fnOf "__add__" "Ratio.__add__" (defArgs s_Ratio___add__) (defBody s_Ratio___add__) (defScope s_Ratio___add__) .none kV_Ratio___add__ dc_Ratio___add__ pm_Ratio___add__ an_Ratio___add__ cd_Ratio___add__ ct_Ratio___add__), sl_Ratio___add__⟩)
    (k1_Ratio___add__ : PySem.W.codeIn K cd_Ratio___add__ "Ratio.__add__" = true)
    (k2_Ratio___add__ : PySem.W.keepIn K (.ref f_Ratio___add__) = true)
    (at_Ratio___radd__ : PySem.W.findIn K (.ref c_Ratio) "__radd__" = some (some (.ref f_Ratio___radd__)))
    (l_Ratio___radd__ : K.lookup f_Ratio___radd__ = some ⟨oc_Ratio___radd__, od_Ratio___radd__, .func (PySem.W.fnOf "__radd__" "Ratio.__radd__" (defArgs s_Ratio___radd__) (defBody s_Ratio___radd__) (defScope s_Ratio___radd__) .none kV_Ratio___radd__ dc_Ratio___radd__ pm_Ratio___radd__ an_Ratio___radd__ cd_Ratio___radd__ ct_Ratio___radd__), sl_Ratio___radd__⟩)
    (k1_Ratio___radd__ : PySem.W.codeIn K cd_Ratio___radd__ "Ratio.__radd__" = true)
    (k2_Ratio___radd__ : PySem.W.keepIn K (.ref f_Ratio___radd__) = true)
    (at_Ratio___sub__ : PySem.W.findIn K (.ref c_Ratio) "__sub__" = some (some (.ref f_Ratio___sub__)))
    (l_Ratio___sub__ : K.lookup f_Ratio___sub__ = some ⟨oc_Ratio___sub__, od_Ratio___sub__, .func (PySem.W.fnOf "__sub__" "Ratio.__sub__" (defArgs s_Ratio___sub__) (defBody s_Ratio___sub__) (defScope s_Ratio___sub__) .none kV_Ratio___sub__ dc_Ratio___sub__ pm_Ratio___sub__ an_Ratio___sub__ cd_Ratio___sub__ ct_Ratio___sub__), sl_Ratio___sub__⟩)
    (k1_Ratio___sub__ : PySem.W.codeIn K cd_Ratio___sub__ "Ratio.__sub__" = true)
    (k2_Ratio___sub__ : PySem.W.keepIn K (.ref f_Ratio___sub__) = true)
    (at_Ratio___rsub__ : PySem.W.findIn K (.ref c_Ratio) "__rsub__" = some (some (.ref f_Ratio___rsub__)))
    (l_Ratio___rsub__ : K.lookup f_Ratio___rsub__ = some ⟨oc_Ratio___rsub__, od_Ratio___rsub__, .func (PySem.W.fnOf "__rsub__" "Ratio.__rsub__" (defArgs s_Ratio___rsub__) (defBody s_Ratio___rsub__) (defScope s_Ratio___rsub__) .none kV_Ratio___rsub__ dc_Ratio___rsub__ pm_Ratio___rsub__ an_Ratio___rsub__ cd_Ratio___rsub__ ct_Ratio___rsub__), sl_Ratio___rsub__⟩)
    (k1_Ratio___rsub__ : PySem.W.codeIn K cd_Ratio___rsub__ "Ratio.__rsub__" = true)
    (k2_Ratio___rsub__ : PySem.W.keepIn K (.ref f_Ratio___rsub__) = true)
    (at_Ratio___mul__ : PySem.W.findIn K (.ref c_Ratio) "__mul__" = some (some (.ref f_Ratio___mul__)))
    (l_Ratio___mul__ : K.lookup f_Ratio___mul__ = some ⟨oc_Ratio___mul__, od_Ratio___mul__, .func (PySem.W.fnOf "__mul__" "Ratio.__mul__" (defArgs s_Ratio___mul__) (defBody s_Ratio___mul__) (defScope s_Ratio___mul__) .none kV_Ratio___mul__ dc_Ratio___mul__ pm_Ratio___mul__ an_Ratio___mul__ cd_Ratio___mul__ ct_Ratio___mul__), sl_Ratio___mul__⟩)
    (k1_Ratio___mul__ : PySem.W.codeIn K cd_Ratio___mul__ "Ratio.__mul__" = true)
    (k2_Ratio___mul__ : PySem.W.keepIn K (.ref f_Ratio___mul__) = true)
    (at_Ratio___rmul__ : PySem.W.findIn K (.ref c_Ratio) "__rmul__" = some (some (.ref f_Ratio___rmul__)))
    (l_Ratio___rmul__ : K.lookup f_Ratio___rmul__ = some ⟨oc_Ratio___rmul__, od_Ratio___rmul__, .func (PySem.W.fnOf "__rmul__" "Ratio.__rmul__" (defArgs s_Ratio___rmul__) (defBody s_Ratio___rmul__) (defScope s_Ratio___rmul__) .none kV_Ratio___rmul__ dc_Ratio___rmul__ pm_Ratio___rmul__ an_Ratio___rmul__ cd_Ratio___rmul__ ct_Ratio___rmul__), sl_Ratio___rmul__⟩)
    (k1_Ratio___rmul__ : PySem.W.codeIn K cd_Ratio___rmul__ "Ratio.__rmul__" = true)
    (k2_Ratio___rmul__ : PySem.W.keepIn K (.ref f_Ratio___rmul__) = true)
    (at_Ratio___eq__ : PySem.W.findIn K (.ref c_Ratio) "__eq__" = some (some (.ref f_Ratio___eq__)))
    (l_Ratio___eq__ : K.lookup f_Ratio___eq__ = some ⟨oc_Ratio___eq__, od_Ratio___eq__, .func (PySem.W.fnOf "__eq__" "Ratio.__eq__" (defArgs s_Ratio___eq__) (defBody s_Ratio___eq__) (defScope s_Ratio___eq__) .none kV_Ratio___eq__ dc_Ratio___eq__ pm_Ratio___eq__ an_Ratio___eq__ cd_Ratio___eq__ ct_Ratio___eq__), sl_Ratio___eq__⟩)
    (k1_Ratio___eq__ : PySem.W.codeIn K cd_Ratio___eq__ "Ratio.__eq__" = true)
    (k2_Ratio___eq__ : PySem.W.keepIn K (.ref f_Ratio___eq__) = true)
    (at_Ratio___str__ : PySem.W.findIn K (.ref c_Ratio) "__str__" = some (some (.ref f_Ratio___str__)))
    (l_Ratio___str__ : K.lookup f_Ratio___str__ = some ⟨oc_Ratio___str__, od_Ratio___str__, .func (PySem.W.fnOf "__str__" "Ratio.__str__" (defArgs s_Ratio___str__) (defBody s_Ratio___str__) (defScope s_Ratio___str__) .none kV_Ratio___str__ dc_Ratio___str__ pm_Ratio___str__ an_Ratio___str__ cd_Ratio___str__ ct_Ratio___str__), sl_Ratio___str__⟩)
    (k1_Ratio___str__ : PySem.W.codeIn K cd_Ratio___str__ "Ratio.__str__" = true)
    (k2_Ratio___str__ : PySem.W.keepIn K (.ref f_Ratio___str__) = true)
    (a_as_ratio : PySem.W.nsIn K mainGlobals "as_ratio" = some (some (.ref f_as_ratio)))
    (l_as_ratio : K.lookup f_as_ratio = some ⟨oc_as_ratio, od_as_ratio, .func (PySem.W.fnOf "as_ratio" "as_ratio" (defArgs s_as_ratio) (defBody s_as_ratio) (defScope s_as_ratio) .none kV_as_ratio dc_as_ratio pm_as_ratio an_as_ratio cd_as_ratio ct_as_ratio), sl_as_ratio⟩)
    (k1_as_ratio : PySem.W.codeIn K cd_as_ratio "as_ratio" = true)
    (k2_as_ratio : PySem.W.keepIn K (.ref f_as_ratio) = true)
    (a_least : PySem.W.nsIn K mainGlobals "least" = some (some (.ref f_least)))
    (l_least : K.lookup f_least = some ⟨oc_least, od_least, .func (PySem.W.fnOf "least" "least" (defArgs s_least) (defBody s_least) (defScope s_least) .none kV_least dc_least pm_least an_least cd_least ct_least), sl_least⟩)
    (k1_least : PySem.W.codeIn K cd_least "least" = true)
    (k2_least : PySem.W.keepIn K (.ref f_least) = true)
    (a_greatest : PySem.W.nsIn K mainGlobals "greatest" = some (some (.ref f_greatest)))
    (l_greatest : K.lookup f_greatest = some ⟨oc_greatest, od_greatest, .func (PySem.W.fnOf "greatest" "greatest" (defArgs s_greatest) (defBody s_greatest) (defScope s_greatest) .none kV_greatest dc_greatest pm_greatest an_greatest cd_greatest ct_greatest), sl_greatest⟩)
    (k1_greatest : PySem.W.codeIn K cd_greatest "greatest" = true)
    (k2_greatest : PySem.W.keepIn K (.ref f_greatest) = true)
    (a_start : PySem.W.nsIn K mainGlobals "_law_start" = some (some (.ref f_start)))
    (l_start : K.lookup f_start = some ⟨oc_start, od_start, .func (PySem.W.fnOf "_law_start" "_law_start" (defArgs s_start) (defBody s_start) (defScope s_start) .none kV_start dc_start pm_start an_start cd_start ct_start), sl_start⟩)
    (k1_start : PySem.W.codeIn K cd_start "_law_start" = true)
    (k2_start : PySem.W.keepIn K (.ref f_start) = true)
    (a_draw : PySem.W.nsIn K mainGlobals "_law_draw" = some (some (.ref f_draw)))
    (l_draw : K.lookup f_draw = some ⟨oc_draw, od_draw, .func (PySem.W.fnOf "_law_draw" "_law_draw" (defArgs s_draw) (defBody s_draw) (defScope s_draw) .none kV_draw dc_draw pm_draw an_draw cd_draw ct_draw), sl_draw⟩)
    (k1_draw : PySem.W.codeIn K cd_draw "_law_draw" = true)
    (k2_draw : PySem.W.keepIn K (.ref f_draw) = true)
    (a_low : PySem.W.nsIn K mainGlobals "_law_low" = some (some (.ref f_low)))
    (l_low : K.lookup f_low = some ⟨oc_low, od_low, .func (PySem.W.fnOf "_law_low" "_law_low" (defArgs s_low) (defBody s_low) (defScope s_low) .none kV_low dc_low pm_low an_low cd_low ct_low), sl_low⟩)
    (k1_low : PySem.W.codeIn K cd_low "_law_low" = true)
    (k2_low : PySem.W.keepIn K (.ref f_low) = true)
    (a_plus : PySem.W.nsIn K mainGlobals "_law_plus" = some (some (.ref f_plus)))
    (l_plus : K.lookup f_plus = some ⟨oc_plus, od_plus, .func (PySem.W.fnOf "_law_plus" "_law_plus" (defArgs s_plus) (defBody s_plus) (defScope s_plus) .none kV_plus dc_plus pm_plus an_plus cd_plus ct_plus), sl_plus⟩)
    (k1_plus : PySem.W.codeIn K cd_plus "_law_plus" = true)
    (k2_plus : PySem.W.keepIn K (.ref f_plus) = true)
    (a_times : PySem.W.nsIn K mainGlobals "_law_times" = some (some (.ref f_times)))
    (l_times : K.lookup f_times = some ⟨oc_times, od_times, .func (PySem.W.fnOf "_law_times" "_law_times" (defArgs s_times) (defBody s_times) (defScope s_times) .none kV_times dc_times pm_times an_times cd_times ct_times), sl_times⟩)
    (k1_times : PySem.W.codeIn K cd_times "_law_times" = true)
    (k2_times : PySem.W.keepIn K (.ref f_times) = true)
    (a_less : PySem.W.nsIn K mainGlobals "_law_less" = some (some (.ref f_less)))
    (l_less : K.lookup f_less = some ⟨oc_less, od_less, .func (PySem.W.fnOf "_law_less" "_law_less" (defArgs s_less) (defBody s_less) (defScope s_less) .none kV_less dc_less pm_less an_less cd_less ct_less), sl_less⟩)
    (k1_less : PySem.W.codeIn K cd_less "_law_less" = true)
    (k2_less : PySem.W.keepIn K (.ref f_less) = true)
    (a_is : PySem.W.nsIn K mainGlobals "_law_is" = some (some (.ref f_is)))
    (l_is : K.lookup f_is = some ⟨oc_is, od_is, .func (PySem.W.fnOf "_law_is" "_law_is" (defArgs s_is) (defBody s_is) (defScope s_is) .none kV_is dc_is pm_is an_is cd_is ct_is), sl_is⟩)
    (k1_is : PySem.W.codeIn K cd_is "_law_is" = true)
    (k2_is : PySem.W.keepIn K (.ref f_is) = true)
    (a_text : PySem.W.nsIn K mainGlobals "_law_text" = some (some (.ref f_text)))
    (l_text : K.lookup f_text = some ⟨oc_text, od_text, .func (PySem.W.fnOf "_law_text" "_law_text" (defArgs s_text) (defBody s_text) (defScope s_text) .none kV_text dc_text pm_text an_text cd_text ct_text), sl_text⟩)
    (k1_text : PySem.W.codeIn K cd_text "_law_text" = true)
    (k2_text : PySem.W.keepIn K (.ref f_text) = true)
    (a_agrees : PySem.W.nsIn K mainGlobals "_law_agrees" = some (some (.ref f_agrees)))
    (l_agrees : K.lookup f_agrees = some ⟨oc_agrees, od_agrees, .func (PySem.W.fnOf "_law_agrees" "_law_agrees" (defArgs s_agrees) (defBody s_agrees) (defScope s_agrees) .none kV_agrees dc_agrees pm_agrees an_agrees cd_agrees ct_agrees), sl_agrees⟩)
    (k1_agrees : PySem.W.codeIn K cd_agrees "_law_agrees" = true)
    (k2_agrees : PySem.W.keepIn K (.ref f_agrees) = true)
    (a_step : PySem.W.nsIn K mainGlobals "_law_step" = some (some (.ref f_step)))
    (l_step : K.lookup f_step = some ⟨oc_step, od_step, .func (PySem.W.fnOf "_law_step" "_law_step" (defArgs s_step) (defBody s_step) (defScope s_step) .none kV_step dc_step pm_step an_step cd_step ct_step), sl_step⟩)
    (k1_step : PySem.W.codeIn K cd_step "_law_step" = true)
    (k2_step : PySem.W.keepIn K (.ref f_step) = true)
    (a_law : PySem.W.nsIn K mainGlobals "law" = some (some (.ref f_law)))
    (l_law : K.lookup f_law = some ⟨oc_law, od_law, .func (PySem.W.fnOf "law" "law" (defArgs s_law) (defBody s_law) (defScope s_law) .none kV_law dc_law pm_law an_law cd_law ct_law), sl_law⟩)
    (k1_law : PySem.W.codeIn K cd_law "law" = true)
    (k2_law : PySem.W.keepIn K (.ref f_law) = true)
    (h_DIGITS : PySem.W.nsIn K mainGlobals "DIGITS" = some (some (.str "0123456789" t_DIGITS)))
    (h_MOST_DIGITS : PySem.W.nsIn K mainGlobals "MOST_DIGITS" = some (some (.int 9 t_MOST_DIGITS)))
    (z_ValueError : PySem.W.nsIn K mainGlobals "ValueError" = some none)
    (z_abs : PySem.W.nsIn K mainGlobals "abs" = some none)
    (z_classmethod : PySem.W.nsIn K mainGlobals "classmethod" = some none)
    (z_int : PySem.W.nsIn K mainGlobals "int" = some none)
    (z_isinstance : PySem.W.nsIn K mainGlobals "isinstance" = some none)
    (z_len : PySem.W.nsIn K mainGlobals "len" = some none)
    (z_list : PySem.W.nsIn K mainGlobals "list" = some none)
    (z_min : PySem.W.nsIn K mainGlobals "min" = some none)
    (z_property : PySem.W.nsIn K mainGlobals "property" = some none)
    (z_range : PySem.W.nsIn K mainGlobals "range" = some none)
    (z_str : PySem.W.nsIn K mainGlobals "str" = some none)
    (e1_ExtralinkError : PySem.W.readsIn K c_ExtralinkError (.type "type") = true)
    (e2_ExtralinkError : PySem.W.specialIn K (.ref c_ExtralinkError) "__getattribute__" = some (some (.builtin "type.__getattribute__")))
    (e3_ExtralinkError : PySem.W.findCls K (.ref c_ExtralinkError) (.type "type") "__init__" = some (.val (.builtin "ValueError.__init__")))
    (x1_BadCount : K.lookup c_BadCount = some (excClassObj xn_BadCount xq_BadCount c_BadCount xN_BadCount xb_BadCount xm_BadCount true xs_BadCount xu_BadCount xa_BadCount xc_BadCount xd_BadCount x0_BadCount xi_BadCount x2_BadCount x3_BadCount x5_BadCount "ValueError.__new__"))
    (x6_BadCount : PySem.HandSPX.refsVE xm_BadCount = true)
    (x7_BadCount : PySem.W.findIn K (.ref c_BadCount) "__setattr__" = some (some (.builtin "object.__setattr__")))
    (x8_BadCount : PySem.W.subIn K (.ref c_BadCount) (.type "BaseException") = some true)
    (x9_BadCount : PySem.W.typeIn K (.ref c_BadCount) = some (.type "type"))
    (xk_BadCount : PySem.W.keepIn K (.ref c_BadCount) = true)
    (xt_BadCount : PySem.W.typeIn K (.ref f_BadCount___init__) = some (.type "function"))
    (hn_BadCount_count : PySem.W.findIn K (.ref c_BadCount) "count" = some none)
    (y1_BadCount : PySem.W.findIn K (.ref c_BadCount) "__getattribute__" = some (some (.builtin "BaseException.__getattribute__")))
    (y2_BadCount : PySem.W.findIn K (.ref c_BadCount) "__getattr__" = some none)
    (y4_BadCount : PySem.W.hasDictIn K c_BadCount = true)
    (z1_BadCount : PySem.W.isClsIn K c_BadCount = true)
    (z2_BadCount : PySem.W.subIn K (.ref c_BadCount) (.ref c_BadCount) = some true)
    (x1_OutOfRange : K.lookup c_OutOfRange = some (excClassObj xn_OutOfRange xq_OutOfRange c_OutOfRange xN_OutOfRange xb_OutOfRange xm_OutOfRange true xs_OutOfRange xu_OutOfRange xa_OutOfRange xc_OutOfRange xd_OutOfRange x0_OutOfRange xi_OutOfRange x2_OutOfRange x3_OutOfRange x5_OutOfRange "ValueError.__new__"))
    (x6_OutOfRange : PySem.HandSPX.refsVE xm_OutOfRange = true)
    (x7_OutOfRange : PySem.W.findIn K (.ref c_OutOfRange) "__setattr__" = some (some (.builtin "object.__setattr__")))
    (x8_OutOfRange : PySem.W.subIn K (.ref c_OutOfRange) (.type "BaseException") = some true)
    (x9_OutOfRange : PySem.W.typeIn K (.ref c_OutOfRange) = some (.type "type"))
    (xk_OutOfRange : PySem.W.keepIn K (.ref c_OutOfRange) = true)
    (xt_OutOfRange : PySem.W.typeIn K (.ref f_OutOfRange___init__) = some (.type "function"))
    (hn_OutOfRange_value : PySem.W.findIn K (.ref c_OutOfRange) "value" = some none)
    (y1_OutOfRange : PySem.W.findIn K (.ref c_OutOfRange) "__getattribute__" = some (some (.builtin "BaseException.__getattribute__")))
    (y2_OutOfRange : PySem.W.findIn K (.ref c_OutOfRange) "__getattr__" = some none)
    (y4_OutOfRange : PySem.W.hasDictIn K c_OutOfRange = true)
    (z1_OutOfRange : PySem.W.isClsIn K c_OutOfRange = true)
    (z2_OutOfRange : PySem.W.subIn K (.ref c_OutOfRange) (.ref c_OutOfRange) = some true)
    (h1_Ratio : PySem.W.plainGet K c_Ratio Str.empty = true)
    (h2_Ratio : PySem.W.hasDictIn K c_Ratio = true)
    (h3_Ratio : PySem.W.plainOver K c_Ratio = true)
    (h4_Ratio : PySem.W.findIn K (.ref c_Ratio) "__setattr__" = some (some (.builtin "object.__setattr__")))
    (h5_Ratio : PySem.W.makesIn K c_Ratio = true)
    (h6_Ratio : PySem.W.isFn K (.ref f_Ratio___init__) = true)
    (h7_Ratio : PySem.W.keepIn K (.ref c_Ratio) = true)
    (hn_Ratio_upper : PySem.W.findIn K (.ref c_Ratio) "upper" = some none)
    (hn_Ratio_lower : PySem.W.findIn K (.ref c_Ratio) "lower" = some none)
    (hm_Ratio___init__ : PySem.W.isFn K (.ref f_Ratio___init__) = true)
    (hm_Ratio_over : PySem.W.isFn K (.ref f_Ratio_over) = true)
    (hm_Ratio_below : PySem.W.isFn K (.ref f_Ratio_below) = true)
    (hm_Ratio___neg__ : PySem.W.isFn K (.ref f_Ratio___neg__) = true)
    (hm_Ratio___add__ : PySem.W.isFn K (.ref f_Ratio___add__) = true)
    (hm_Ratio___radd__ : PySem.W.isFn K (.ref f_Ratio___radd__) = true)
    (hm_Ratio___sub__ : PySem.W.isFn K (.ref f_Ratio___sub__) = true)
    (hm_Ratio___rsub__ : PySem.W.isFn K (.ref f_Ratio___rsub__) = true)
    (hm_Ratio___mul__ : PySem.W.isFn K (.ref f_Ratio___mul__) = true)
    (hm_Ratio___rmul__ : PySem.W.isFn K (.ref f_Ratio___rmul__) = true)
    (hm_Ratio___eq__ : PySem.W.isFn K (.ref f_Ratio___eq__) = true)
    (hm_Ratio___str__ : PySem.W.isFn K (.ref f_Ratio___str__) = true)
    (hp1_Ratio_top : PySem.W.specialIn K (.ref p_Ratio_top) "__get__" = some (some (.builtin "property.__get__")))
    (hp2_Ratio_top : PySem.W.takesIn K (.ref p_Ratio_top) = some true)
    (hp1_Ratio_bottom : PySem.W.specialIn K (.ref p_Ratio_bottom) "__get__" = some (some (.builtin "property.__get__")))
    (hp2_Ratio_bottom : PySem.W.takesIn K (.ref p_Ratio_bottom) = some true)
    (hp1_Ratio_sign : PySem.W.specialIn K (.ref p_Ratio_sign) "__get__" = some (some (.builtin "property.__get__")))
    (hp2_Ratio_sign : PySem.W.takesIn K (.ref p_Ratio_sign) = some true)
    (ht1_Ratio : PySem.W.findIn K (.ref c_Ratio) "__class__" = some (some (.builtin "object.__class__")))
    (ht2_Ratio : PySem.W.specialIn K (.builtin "object.__class__") "__get__" = some (some (.builtin "getset_descriptor.__get__")))
    (ht3_Ratio : PySem.W.takesIn K (.builtin "object.__class__") = some true)
    (ht4_Ratio : PySem.W.mroIn K c_Ratio (.type "object") = some true)
    (h_isa_Ratio_Ratio : PySem.W.kitOne K (.ref c_Ratio) (.ref c_Ratio) = some true)
    (h_isa_int_Ratio : PySem.W.kitOne K (.type "int") (.ref c_Ratio) = some false)
    (h_sf_Ratio : PySem.W.selfFirst K c_Ratio = true)
    (ho1_Ratio___add___int : PySem.W.findIn K (.type "int") "__add__" = some fo_Ratio___add___int)
    (ho2_Ratio___add___int : PySem.W.findIn K (.type "int") "__radd__" = some ro_Ratio___add___int)
    (ho3_Ratio___add___int : PySem.W.subIn K (.type "int") (.ref c_Ratio) = some false)
    (ho1_Ratio___sub___int : PySem.W.findIn K (.type "int") "__sub__" = some fo_Ratio___sub___int)
    (ho2_Ratio___sub___int : PySem.W.findIn K (.type "int") "__rsub__" = some ro_Ratio___sub___int)
    (ho3_Ratio___sub___int : PySem.W.subIn K (.type "int") (.ref c_Ratio) = some false)
    (ho1_Ratio___mul___int : PySem.W.findIn K (.type "int") "__mul__" = some fo_Ratio___mul___int)
    (ho2_Ratio___mul___int : PySem.W.findIn K (.type "int") "__rmul__" = some ro_Ratio___mul___int)
    (ho3_Ratio___mul___int : PySem.W.subIn K (.type "int") (.ref c_Ratio) = some false)
    (nl1_Ratio : K.lookup c_Ratio = some ⟨nv1_Ratio, nv2_Ratio, .cls ncd_Ratio, nv3_Ratio⟩)
    (d2_nl2_Ratio : ncd_Ratio.mro = [.ref c_Ratio, .type "object"])
    (h_ni_Ratio_add : PySem.W.findIn K (.ref c_Ratio) "__iadd__" = some none)
    (h_no_Ratio_add : PySem.W.findIn K (.type "object") "__iadd__" = some none)
    (h_si_Ratio : PySem.W.subIn K (.ref c_Ratio) (.type "int") = some false)
    : ∃ fd : FuncData, (∀ (s : Shared) (v : Value), BindsTo s fd ⟨[v], []⟩ [("_law_script", v)]) ∧ ∀ base : Heap, K.In base → base.Ns mainGlobals mg → FnOk l.prog w K mg base (L2.CX l.prog w) 14 fa fd ["_law_script"] (spLaw K) := by
  have e := hfa.symm.trans (PySem.W.mg_of X G a_law)
  have e2 : fa = f_law := Value.ref.inj (Option.some.inj e)
  rw [e2]
  have T : GG K mg := {
    c_ExtralinkError := c_ExtralinkError
    g_ExtralinkError := PySem.W.mg_of X G gc_ExtralinkError
    c_BadCount := c_BadCount
    g_BadCount := PySem.W.mg_of X G gc_BadCount
    c_OutOfRange := c_OutOfRange
    g_OutOfRange := PySem.W.mg_of X G gc_OutOfRange
    c_Ratio := c_Ratio
    g_Ratio := PySem.W.mg_of X G gc_Ratio
    a_BadCount___init__ := f_BadCount___init__
    fd_BadCount___init__ := PySem.W.fnOf "__init__" "BadCount.__init__" (defArgs s_BadCount___init__) (defBody s_BadCount___init__) (defScope s_BadCount___init__) .none kV_BadCount___init__ dc_BadCount___init__ pm_BadCount___init__ an_BadCount___init__ cd_BadCount___init__ ct_BadCount___init__
    F_BadCount___init__ := fun_mk (st := s_BadCount___init__) l_BadCount___init__ k1_BadCount___init__ k2_BadCount___init__
    a_OutOfRange___init__ := f_OutOfRange___init__
    fd_OutOfRange___init__ := PySem.W.fnOf "__init__" "OutOfRange.__init__" (defArgs s_OutOfRange___init__) (defBody s_OutOfRange___init__) (defScope s_OutOfRange___init__) .none kV_OutOfRange___init__ dc_OutOfRange___init__ pm_OutOfRange___init__ an_OutOfRange___init__ cd_OutOfRange___init__ ct_OutOfRange___init__
    F_OutOfRange___init__ := fun_mk (st := s_OutOfRange___init__) l_OutOfRange___init__ k1_OutOfRange___init__ k2_OutOfRange___init__
    a_common_divisor := f_common_divisor
    fd_common_divisor := PySem.W.fnOf "common_divisor" "common_divisor" (defArgs s_common_divisor) (defBody s_common_divisor) (defScope s_common_divisor) .none kV_common_divisor dc_common_divisor pm_common_divisor an_common_divisor cd_common_divisor ct_common_divisor
    F_common_divisor := fun_mk (st := s_common_divisor) l_common_divisor k1_common_divisor k2_common_divisor
    m_common_divisor := PySem.W.mg_of X G a_common_divisor
    a_Ratio___init__ := f_Ratio___init__
    fd_Ratio___init__ := PySem.W.fnOf "__init__" "Ratio.__init__" (defArgs s_Ratio___init__) (defBody s_Ratio___init__) (defScope s_Ratio___init__) (.ref dT_Ratio___init__) kV_Ratio___init__ dc_Ratio___init__ pm_Ratio___init__ an_Ratio___init__ cd_Ratio___init__ ct_Ratio___init__
    F_Ratio___init__ := ⟨⟨oc_Ratio___init__, od_Ratio___init__, _, kV_Ratio___init__, dc_Ratio___init__, pm_Ratio___init__, an_Ratio___init__, cd_Ratio___init__, ct_Ratio___init__, sl_Ratio___init__, rfl, l_Ratio___init__, k1_Ratio___init__, .inr ⟨by simp, dT_Ratio___init__, do_Ratio___init__, di_Ratio___init__.toList, dn_Ratio___init__, rfl, d1_Ratio___init__, by rw [d2_Ratio___init__], by rw [d3_Ratio___init__]; exact (.cons ⟨_, rfl⟩ .nil)⟩, .inl rfl⟩, k2_Ratio___init__⟩
    a_Ratio_top := f_Ratio_top
    fd_Ratio_top := PySem.W.fnOf "top" "Ratio.top" (defArgs s_Ratio_top) (defBody s_Ratio_top) (defScope s_Ratio_top) .none kV_Ratio_top dc_Ratio_top pm_Ratio_top an_Ratio_top cd_Ratio_top ct_Ratio_top
    F_Ratio_top := fun_mk (st := s_Ratio_top) l_Ratio_top k1_Ratio_top k2_Ratio_top
    a_Ratio_bottom := f_Ratio_bottom
    fd_Ratio_bottom := PySem.W.fnOf "bottom" "Ratio.bottom" (defArgs s_Ratio_bottom) (defBody s_Ratio_bottom) (defScope s_Ratio_bottom) .none kV_Ratio_bottom dc_Ratio_bottom pm_Ratio_bottom an_Ratio_bottom cd_Ratio_bottom ct_Ratio_bottom
    F_Ratio_bottom := fun_mk (st := s_Ratio_bottom) l_Ratio_bottom k1_Ratio_bottom k2_Ratio_bottom
    a_Ratio_sign := f_Ratio_sign
    fd_Ratio_sign := PySem.W.fnOf "sign" "Ratio.sign" (defArgs s_Ratio_sign) (defBody s_Ratio_sign) (defScope s_Ratio_sign) .none kV_Ratio_sign dc_Ratio_sign pm_Ratio_sign an_Ratio_sign cd_Ratio_sign ct_Ratio_sign
    F_Ratio_sign := fun_mk (st := s_Ratio_sign) l_Ratio_sign k1_Ratio_sign k2_Ratio_sign
    a_Ratio_over := f_Ratio_over
    fd_Ratio_over := PySem.W.fnOf "over" "Ratio.over" (defArgs s_Ratio_over) (defBody s_Ratio_over) (defScope s_Ratio_over) .none kV_Ratio_over dc_Ratio_over pm_Ratio_over an_Ratio_over cd_Ratio_over ct_Ratio_over
    F_Ratio_over := fun_mk (st := s_Ratio_over) l_Ratio_over k1_Ratio_over k2_Ratio_over
    a_Ratio_below := f_Ratio_below
    fd_Ratio_below := PySem.W.fnOf "below" "Ratio.below" (defArgs s_Ratio_below) (defBody s_Ratio_below) (defScope s_Ratio_below) .none kV_Ratio_below dc_Ratio_below pm_Ratio_below an_Ratio_below cd_Ratio_below ct_Ratio_below
    F_Ratio_below := fun_mk (st := s_Ratio_below) l_Ratio_below k1_Ratio_below k2_Ratio_below
    a_Ratio___neg__ := f_Ratio___neg__
    fd_Ratio___neg__ := PySem.W.fnOf "__neg__" "Ratio.__neg__" (defArgs s_Ratio___neg__) (defBody s_Ratio___neg__) (defScope s_Ratio___neg__) .none kV_Ratio___neg__ dc_Ratio___neg__ pm_Ratio___neg__ an_Ratio___neg__ cd_Ratio___neg__ ct_Ratio___neg__
    F_Ratio___neg__ := fun_mk (st := s_Ratio___neg__) l_Ratio___neg__ k1_Ratio___neg__ k2_Ratio___neg__
    a_Ratio___add__ := f_Ratio___add__
    fd_Ratio___add__ := PySem.W.fnOf "__add__" "Ratio.__add__" (defArgs s_Ratio___add__) (defBody s_Ratio___add__) (defScope s_Ratio___add__) .none kV_Ratio___add__ dc_Ratio___add__ pm_Ratio___add__ an_Ratio___add__ cd_Ratio___add__ ct_Ratio___add__
    F_Ratio___add__ := fun_mk (st := s_Ratio___add__) l_Ratio___add__ k1_Ratio___add__ k2_Ratio___add__
    a_Ratio___radd__ := f_Ratio___radd__
    fd_Ratio___radd__ := PySem.W.fnOf "__radd__" "Ratio.__radd__" (defArgs s_Ratio___radd__) (defBody s_Ratio___radd__) (defScope s_Ratio___radd__) .none kV_Ratio___radd__ dc_Ratio___radd__ pm_Ratio___radd__ an_Ratio___radd__ cd_Ratio___radd__ ct_Ratio___radd__
    F_Ratio___radd__ := fun_mk (st := s_Ratio___radd__) l_Ratio___radd__ k1_Ratio___radd__ k2_Ratio___radd__
    a_Ratio___sub__ := f_Ratio___sub__
    fd_Ratio___sub__ := PySem.W.fnOf "__sub__" "Ratio.__sub__" (defArgs s_Ratio___sub__) (defBody s_Ratio___sub__) (defScope s_Ratio___sub__) .none kV_Ratio___sub__ dc_Ratio___sub__ pm_Ratio___sub__ an_Ratio___sub__ cd_Ratio___sub__ ct_Ratio___sub__
    F_Ratio___sub__ := fun_mk (st := s_Ratio___sub__) l_Ratio___sub__ k1_Ratio___sub__ k2_Ratio___sub__
    a_Ratio___rsub__ := f_Ratio___rsub__
    fd_Ratio___rsub__ := PySem.W.fnOf "__rsub__" "Ratio.__rsub__" (defArgs s_Ratio___rsub__) (defBody s_Ratio___rsub__) (defScope s_Ratio___rsub__) .none kV_Ratio___rsub__ dc_Ratio___rsub__ pm_Ratio___rsub__ an_Ratio___rsub__ cd_Ratio___rsub__ ct_Ratio___rsub__
    F_Ratio___rsub__ := fun_mk (st := s_Ratio___rsub__) l_Ratio___rsub__ k1_Ratio___rsub__ k2_Ratio___rsub__
    a_Ratio___mul__ := f_Ratio___mul__
    fd_Ratio___mul__ := PySem.W.fnOf "__mul__" "Ratio.__mul__" (defArgs s_Ratio___mul__) (defBody s_Ratio___mul__) (defScope s_Ratio___mul__) .none kV_Ratio___mul__ dc_Ratio___mul__ pm_Ratio___mul__ an_Ratio___mul__ cd_Ratio___mul__ ct_Ratio___mul__
    F_Ratio___mul__ := fun_mk (st := s_Ratio___mul__) l_Ratio___mul__ k1_Ratio___mul__ k2_Ratio___mul__
    a_Ratio___rmul__ := f_Ratio___rmul__
    fd_Ratio___rmul__ := PySem.W.fnOf "__rmul__" "Ratio.__rmul__" (defArgs s_Ratio___rmul__) (defBody s_Ratio___rmul__) (defScope s_Ratio___rmul__) .none kV_Ratio___rmul__ dc_Ratio___rmul__ pm_Ratio___rmul__ an_Ratio___rmul__ cd_Ratio___rmul__ ct_Ratio___rmul__
    F_Ratio___rmul__ := fun_mk (st := s_Ratio___rmul__) l_Ratio___rmul__ k1_Ratio___rmul__ k2_Ratio___rmul__
    a_Ratio___eq__ := f_Ratio___eq__
    fd_Ratio___eq__ := PySem.W.fnOf "__eq__" "Ratio.__eq__" (defArgs s_Ratio___eq__) (defBody s_Ratio___eq__) (defScope s_Ratio___eq__) .none kV_Ratio___eq__ dc_Ratio___eq__ pm_Ratio___eq__ an_Ratio___eq__ cd_Ratio___eq__ ct_Ratio___eq__
    F_Ratio___eq__ := fun_mk (st := s_Ratio___eq__) l_Ratio___eq__ k1_Ratio___eq__ k2_Ratio___eq__
    a_Ratio___str__ := f_Ratio___str__
    fd_Ratio___str__ := PySem.W.fnOf "__str__" "Ratio.__str__" (defArgs s_Ratio___str__) (defBody s_Ratio___str__) (defScope s_Ratio___str__) .none kV_Ratio___str__ dc_Ratio___str__ pm_Ratio___str__ an_Ratio___str__ cd_Ratio___str__ ct_Ratio___str__
    F_Ratio___str__ := fun_mk (st := s_Ratio___str__) l_Ratio___str__ k1_Ratio___str__ k2_Ratio___str__
    a_as_ratio := f_as_ratio
    fd_as_ratio := PySem.W.fnOf "as_ratio" "as_ratio" (defArgs s_as_ratio) (defBody s_as_ratio) (defScope s_as_ratio) .none kV_as_ratio dc_as_ratio pm_as_ratio an_as_ratio cd_as_ratio ct_as_ratio
    F_as_ratio := fun_mk (st := s_as_ratio) l_as_ratio k1_as_ratio k2_as_ratio
    m_as_ratio := PySem.W.mg_of X G a_as_ratio
    a_least := f_least
    fd_least := PySem.W.fnOf "least" "least" (defArgs s_least) (defBody s_least) (defScope s_least) .none kV_least dc_least pm_least an_least cd_least ct_least
    F_least := fun_mk (st := s_least) l_least k1_least k2_least
    m_least := PySem.W.mg_of X G a_least
    a_greatest := f_greatest
    fd_greatest := PySem.W.fnOf "greatest" "greatest" (defArgs s_greatest) (defBody s_greatest) (defScope s_greatest) .none kV_greatest dc_greatest pm_greatest an_greatest cd_greatest ct_greatest
    F_greatest := fun_mk (st := s_greatest) l_greatest k1_greatest k2_greatest
    m_greatest := PySem.W.mg_of X G a_greatest
    a_start := f_start
    fd_start := PySem.W.fnOf "_law_start" "_law_start" (defArgs s_start) (defBody s_start) (defScope s_start) .none kV_start dc_start pm_start an_start cd_start ct_start
    F_start := fun_mk (st := s_start) l_start k1_start k2_start
    m_start := PySem.W.mg_of X G a_start
    a_draw := f_draw
    fd_draw := PySem.W.fnOf "_law_draw" "_law_draw" (defArgs s_draw) (defBody s_draw) (defScope s_draw) .none kV_draw dc_draw pm_draw an_draw cd_draw ct_draw
    F_draw := fun_mk (st := s_draw) l_draw k1_draw k2_draw
    m_draw := PySem.W.mg_of X G a_draw
    a_low := f_low
    fd_low := PySem.W.fnOf "_law_low" "_law_low" (defArgs s_low) (defBody s_low) (defScope s_low) .none kV_low dc_low pm_low an_low cd_low ct_low
    F_low := fun_mk (st := s_low) l_low k1_low k2_low
    m_low := PySem.W.mg_of X G a_low
    a_plus := f_plus
    fd_plus := PySem.W.fnOf "_law_plus" "_law_plus" (defArgs s_plus) (defBody s_plus) (defScope s_plus) .none kV_plus dc_plus pm_plus an_plus cd_plus ct_plus
    F_plus := fun_mk (st := s_plus) l_plus k1_plus k2_plus
    m_plus := PySem.W.mg_of X G a_plus
    a_times := f_times
    fd_times := PySem.W.fnOf "_law_times" "_law_times" (defArgs s_times) (defBody s_times) (defScope s_times) .none kV_times dc_times pm_times an_times cd_times ct_times
    F_times := fun_mk (st := s_times) l_times k1_times k2_times
    m_times := PySem.W.mg_of X G a_times
    a_less := f_less
    fd_less := PySem.W.fnOf "_law_less" "_law_less" (defArgs s_less) (defBody s_less) (defScope s_less) .none kV_less dc_less pm_less an_less cd_less ct_less
    F_less := fun_mk (st := s_less) l_less k1_less k2_less
    m_less := PySem.W.mg_of X G a_less
    a_is := f_is
    fd_is := PySem.W.fnOf "_law_is" "_law_is" (defArgs s_is) (defBody s_is) (defScope s_is) .none kV_is dc_is pm_is an_is cd_is ct_is
    F_is := fun_mk (st := s_is) l_is k1_is k2_is
    m_is := PySem.W.mg_of X G a_is
    a_text := f_text
    fd_text := PySem.W.fnOf "_law_text" "_law_text" (defArgs s_text) (defBody s_text) (defScope s_text) .none kV_text dc_text pm_text an_text cd_text ct_text
    F_text := fun_mk (st := s_text) l_text k1_text k2_text
    m_text := PySem.W.mg_of X G a_text
    a_agrees := f_agrees
    fd_agrees := PySem.W.fnOf "_law_agrees" "_law_agrees" (defArgs s_agrees) (defBody s_agrees) (defScope s_agrees) .none kV_agrees dc_agrees pm_agrees an_agrees cd_agrees ct_agrees
    F_agrees := fun_mk (st := s_agrees) l_agrees k1_agrees k2_agrees
    m_agrees := PySem.W.mg_of X G a_agrees
    a_step := f_step
    fd_step := PySem.W.fnOf "_law_step" "_law_step" (defArgs s_step) (defBody s_step) (defScope s_step) .none kV_step dc_step pm_step an_step cd_step ct_step
    F_step := fun_mk (st := s_step) l_step k1_step k2_step
    m_step := PySem.W.mg_of X G a_step
    a_law := f_law
    fd_law := PySem.W.fnOf "law" "law" (defArgs s_law) (defBody s_law) (defScope s_law) .none kV_law dc_law pm_law an_law cd_law ct_law
    F_law := fun_mk (st := s_law) l_law k1_law k2_law
    m_law := PySem.W.mg_of X G a_law
    g_DIGITS := ⟨_, PySem.W.mg_of X G h_DIGITS, ⟨_, rfl⟩⟩
    g_MOST_DIGITS := ⟨_, PySem.W.mg_of X G h_MOST_DIGITS, ⟨_, rfl⟩⟩
    z_ValueError := PySem.W.mg_none_of X G z_ValueError
    z_abs := PySem.W.mg_none_of X G z_abs
    z_classmethod := PySem.W.mg_none_of X G z_classmethod
    z_int := PySem.W.mg_none_of X G z_int
    z_isinstance := PySem.W.mg_none_of X G z_isinstance
    z_len := PySem.W.mg_none_of X G z_len
    z_list := PySem.W.mg_none_of X G z_list
    z_min := PySem.W.mg_none_of X G z_min
    z_property := PySem.W.mg_none_of X G z_property
    z_range := PySem.W.mg_none_of X G z_range
    z_str := PySem.W.mg_none_of X G z_str
    ei_ExtralinkError := ⟨(.type "type"), ⟨e1_ExtralinkError, e2_ExtralinkError⟩, e3_ExtralinkError⟩
    ox_BadCount := ⟨⟨_, _, _, _, _, _, _, _, _, _, _, _, _, _, _, x1_BadCount, x6_BadCount⟩, x7_BadCount, x8_BadCount, x9_BadCount, xk_BadCount⟩
    in_BadCount := ⟨at_BadCount___init__, xt_BadCount⟩
    no_BadCount_count := hn_BadCount_count
    xf_BadCount := ⟨y1_BadCount, y2_BadCount, x8_BadCount, y4_BadCount⟩
    te_BadCount := PySem.W.exm_ref x8_BadCount y4_BadCount x9_BadCount z2_BadCount
    ox_OutOfRange := ⟨⟨_, _, _, _, _, _, _, _, _, _, _, _, _, _, _, x1_OutOfRange, x6_OutOfRange⟩, x7_OutOfRange, x8_OutOfRange, x9_OutOfRange, xk_OutOfRange⟩
    in_OutOfRange := ⟨at_OutOfRange___init__, xt_OutOfRange⟩
    no_OutOfRange_value := hn_OutOfRange_value
    xf_OutOfRange := ⟨y1_OutOfRange, y2_OutOfRange, x8_OutOfRange, y4_OutOfRange⟩
    te_OutOfRange := PySem.W.exm_ref x8_OutOfRange y4_OutOfRange x9_OutOfRange z2_OutOfRange
    cl_Ratio := ⟨h1_Ratio, h2_Ratio, h3_Ratio, h4_Ratio⟩
    mk_Ratio := ⟨h5_Ratio, at_Ratio___init__, h6_Ratio, h7_Ratio⟩
    no_Ratio_upper := hn_Ratio_upper
    no_Ratio_lower := hn_Ratio_lower
    me_Ratio___init__ := ⟨at_Ratio___init__, hm_Ratio___init__, k2_Ratio___init__⟩
    me_Ratio_over := ⟨at_Ratio_over, hm_Ratio_over, k2_Ratio_over⟩
    me_Ratio_below := ⟨at_Ratio_below, hm_Ratio_below, k2_Ratio_below⟩
    me_Ratio___neg__ := ⟨at_Ratio___neg__, hm_Ratio___neg__, k2_Ratio___neg__⟩
    me_Ratio___add__ := ⟨at_Ratio___add__, hm_Ratio___add__, k2_Ratio___add__⟩
    me_Ratio___radd__ := ⟨at_Ratio___radd__, hm_Ratio___radd__, k2_Ratio___radd__⟩
    me_Ratio___sub__ := ⟨at_Ratio___sub__, hm_Ratio___sub__, k2_Ratio___sub__⟩
    me_Ratio___rsub__ := ⟨at_Ratio___rsub__, hm_Ratio___rsub__, k2_Ratio___rsub__⟩
    me_Ratio___mul__ := ⟨at_Ratio___mul__, hm_Ratio___mul__, k2_Ratio___mul__⟩
    me_Ratio___rmul__ := ⟨at_Ratio___rmul__, hm_Ratio___rmul__, k2_Ratio___rmul__⟩
    me_Ratio___eq__ := ⟨at_Ratio___eq__, hm_Ratio___eq__, k2_Ratio___eq__⟩
    me_Ratio___str__ := ⟨at_Ratio___str__, hm_Ratio___str__, k2_Ratio___str__⟩
    pr_Ratio_top := ⟨p_Ratio_top, at_Ratio_top, hp1_Ratio_top, hp2_Ratio_top, _, rc_Ratio_top⟩
    pr_Ratio_bottom := ⟨p_Ratio_bottom, at_Ratio_bottom, hp1_Ratio_bottom, hp2_Ratio_bottom, _, rc_Ratio_bottom⟩
    pr_Ratio_sign := ⟨p_Ratio_sign, at_Ratio_sign, hp1_Ratio_sign, hp2_Ratio_sign, _, rc_Ratio_sign⟩
    ty_Ratio := ⟨ht1_Ratio, ht2_Ratio, ht3_Ratio, ht4_Ratio⟩
    isa_Ratio_Ratio := h_isa_Ratio_Ratio
    isa_int_Ratio := h_isa_int_Ratio
    sf_Ratio := h_sf_Ratio
    ot_Ratio___add___int := ⟨_, _, ho1_Ratio___add___int, ho2_Ratio___add___int, ho3_Ratio___add___int⟩
    ot_Ratio___sub___int := ⟨_, _, ho1_Ratio___sub___int, ho2_Ratio___sub___int, ho3_Ratio___sub___int⟩
    ot_Ratio___mul___int := ⟨_, _, ho1_Ratio___mul___int, ho2_Ratio___mul___int, ho3_Ratio___mul___int⟩
    nm_Ratio := ⟨ncd_Ratio, by unfold PySem.W.clsIn; rw [nl1_Ratio], d2_nl2_Ratio⟩
    ni_Ratio_add := h_ni_Ratio_add
    no_Ratio_add := h_no_Ratio_add
    si_Ratio := h_si_Ratio }
  have hlaw : ∀ base : Heap, FnOk l.prog w K mg base (L2.CX l.prog w) 14 f_law (PySem.W.fnOf "law" "law" (defArgs s_law) (defBody s_law) (defScope s_law) .none kV_law dc_law pm_law an_law cd_law ct_law) ["_law_script"] (spLaw K) := fun base => ok_law_of (T := T) (fun_mk (st := s_law) l_law k1_law k2_law)
  exact ⟨_, fun s v => .of_eq rfl, fun base _ _ => hlaw base⟩
theorem walk {l : PySem.W.OpenLaw} {q : Program} {loose : List Str} {XP : (Str → Option Value) → Heap → Prop} {YP : World → Heap → Prop} {d : DefRec} {K : Params → PySem.W.Frag} (hn : l.most = some 63) (hdf : d.params.defaults = [])
    (hY : ∀ (w : World) (h : Heap), YP w h → (K w.params).In h)
    (F : ∀ (w : World) (mg : Str → Option Value) (fa : Addr) (h : Heap), (K w.params).In h → h.Ns mainGlobals mg → mg d.name = some (.ref fa) →
      ∃ fd : FuncData, (∀ (s : Shared) (u : Value), BindsTo s fd ⟨[u], []⟩ [("_law_script", u)]) ∧ ∀ base : Heap, (K w.params).In base → base.Ns mainGlobals mg → FnOk l.prog w (K w.params) mg base (L2.CX l.prog w) 14 fa fd ["_law_script"] (spLaw (K w.params))) :
    PySem.W.WalkO q loose XP YP l.row.toRowW d [] (fun f vs => PySem.call f vs) :=
  L2.walk_of (n := 63) (k := 14) (x := "_law_script") (CX := fun w => L2.CX l.prog w) (sp := fun w => spLaw (K w.params)) hn (by decide) hdf ⟨rfl, by decide, by decide⟩ hY F (fun _ _ a ns hl _ hS => ⟨a, ns, rfl, hS, hl, fun _ => rfl⟩) fun _ _ _ _ _ z => by
    obtain ⟨_, _, _, _, _, _, _, _, _, _, _, _, z⟩ := z
    exact z
end Xl
open PySem PySem.W PyProof.Rows
set_option maxRecDepth 100000 in
set_option maxHeartbeats 0 in
theorem PySem.Challenge.cw_extralink_k06_whole_ratio_script_holds : PySem.Challenge.rw_extralink_k06_whole_ratio_script.Holds := by
  w_on; o_law; k_head; (case hw => w_witness2)
  k_fill
  refine Xl.walk (l := PySem.Challenge.rw_extralink_k06_whole_ratio_script) rfl rfl (fun w h Y => PySem.W.kIn_of Y) ?F
  case F =>
    intro w mg fa h KX G hmg
    refine' Xl.all_mk KX G hmg ?gc_ExtralinkError ?gc_BadCount ?gc_OutOfRange ?gc_Ratio ?at_BadCount___init__ ?l_BadCount___init__ ?k1_BadCount___init__ ?k2_BadCount___init__ ?at_OutOfRange___init__ ?l_OutOfRange___init__ ?k1_OutOfRange___init__ ?k2_OutOfRange___init__ ?a_common_divisor ?l_common_divisor ?k1_common_divisor ?k2_common_divisor ?at_Ratio___init__ ?l_Ratio___init__ ?k1_Ratio___init__ ?k2_Ratio___init__ ?d1_Ratio___init__ ?d2_Ratio___init__ ?d3_Ratio___init__ ?at_Ratio_top ?rc_Ratio_top ?l_Ratio_top ?k1_Ratio_top ?k2_Ratio_top ?at_Ratio_bottom ?rc_Ratio_bottom ?l_Ratio_bottom ?k1_Ratio_bottom ?k2_Ratio_bottom ?at_Ratio_sign ?rc_Ratio_sign ?l_Ratio_sign ?k1_Ratio_sign ?k2_Ratio_sign ?at_Ratio_over ?l_Ratio_over ?k1_Ratio_over ?k2_Ratio_over ?at_Ratio_below ?l_Ratio_below ?k1_Ratio_below ?k2_Ratio_below ?at_Ratio___neg__ ?l_Ratio___neg__ ?k1_Ratio___neg__ ?k2_Ratio___neg__ ?at_Ratio___add__ ?l_Ratio___add__ ?k1_Ratio___add__ ?k2_Ratio___add__ ?at_Ratio___radd__ ?l_Ratio___radd__ ?k1_Ratio___radd__ ?k2_Ratio___radd__ ?at_Ratio___sub__ ?l_Ratio___sub__ ?k1_Ratio___sub__ ?k2_Ratio___sub__ ?at_Ratio___rsub__ ?l_Ratio___rsub__ ?k1_Ratio___rsub__ ?k2_Ratio___rsub__ ?at_Ratio___mul__ ?l_Ratio___mul__ ?k1_Ratio___mul__ ?k2_Ratio___mul__ ?at_Ratio___rmul__ ?l_Ratio___rmul__ ?k1_Ratio___rmul__ ?k2_Ratio___rmul__ ?at_Ratio___eq__ ?l_Ratio___eq__ ?k1_Ratio___eq__ ?k2_Ratio___eq__ ?at_Ratio___str__ ?l_Ratio___str__ ?k1_Ratio___str__ ?k2_Ratio___str__ ?a_as_ratio ?l_as_ratio ?k1_as_ratio ?k2_as_ratio ?a_least ?l_least ?k1_least ?k2_least ?a_greatest ?l_greatest ?k1_greatest ?k2_greatest ?a_start ?l_start ?k1_start ?k2_start ?a_draw ?l_draw ?k1_draw ?k2_draw ?a_low ?l_low ?k1_low ?k2_low ?a_plus ?l_plus ?k1_plus ?k2_plus ?a_times ?l_times ?k1_times ?k2_times ?a_less ?l_less ?k1_less ?k2_less ?a_is ?l_is ?k1_is ?k2_is ?a_text ?l_text ?k1_text ?k2_text ?a_agrees ?l_agrees ?k1_agrees ?k2_agrees ?a_step ?l_step ?k1_step ?k2_step ?a_law ?l_law ?k1_law ?k2_law ?h_DIGITS ?h_MOST_DIGITS ?z_ValueError ?z_abs ?z_classmethod ?z_int ?z_isinstance ?z_len ?z_list ?z_min ?z_property ?z_range ?z_str ?e1_ExtralinkError ?e2_ExtralinkError ?e3_ExtralinkError ?x1_BadCount ?x6_BadCount ?x7_BadCount ?x8_BadCount ?x9_BadCount ?xk_BadCount ?xt_BadCount ?hn_BadCount_count ?y1_BadCount ?y2_BadCount ?y4_BadCount ?z1_BadCount ?z2_BadCount ?x1_OutOfRange ?x6_OutOfRange ?x7_OutOfRange ?x8_OutOfRange ?x9_OutOfRange ?xk_OutOfRange ?xt_OutOfRange ?hn_OutOfRange_value ?y1_OutOfRange ?y2_OutOfRange ?y4_OutOfRange ?z1_OutOfRange ?z2_OutOfRange ?h1_Ratio ?h2_Ratio ?h3_Ratio ?h4_Ratio ?h5_Ratio ?h6_Ratio ?h7_Ratio ?hn_Ratio_upper ?hn_Ratio_lower ?hm_Ratio___init__ ?hm_Ratio_over ?hm_Ratio_below ?hm_Ratio___neg__ ?hm_Ratio___add__ ?hm_Ratio___radd__ ?hm_Ratio___sub__ ?hm_Ratio___rsub__ ?hm_Ratio___mul__ ?hm_Ratio___rmul__ ?hm_Ratio___eq__ ?hm_Ratio___str__ ?hp1_Ratio_top ?hp2_Ratio_top ?hp1_Ratio_bottom ?hp2_Ratio_bottom ?hp1_Ratio_sign ?hp2_Ratio_sign ?ht1_Ratio ?ht2_Ratio ?ht3_Ratio ?ht4_Ratio ?h_isa_Ratio_Ratio ?h_isa_int_Ratio ?h_sf_Ratio ?ho1_Ratio___add___int ?ho2_Ratio___add___int ?ho3_Ratio___add___int ?ho1_Ratio___sub___int ?ho2_Ratio___sub___int ?ho3_Ratio___sub___int ?ho1_Ratio___mul___int ?ho2_Ratio___mul___int ?ho3_Ratio___mul___int ?nl1_Ratio ?d2_nl2_Ratio ?h_ni_Ratio_add ?h_no_Ratio_add ?h_si_Ratio
    (case gc_ExtralinkError => k_is)
    (case gc_BadCount => k_is)
    (case gc_OutOfRange => k_is)
    (case gc_Ratio => k_is)
    (case at_BadCount___init__ => k_is)
    (case l_BadCount___init__ => k_is)
    (case k1_BadCount___init__ => k_is)
    (case k2_BadCount___init__ => k_is)
    (case at_OutOfRange___init__ => k_is)
    (case l_OutOfRange___init__ => k_is)
    (case k1_OutOfRange___init__ => k_is)
    (case k2_OutOfRange___init__ => k_is)
    (case a_common_divisor => k_is)
    (case l_common_divisor => k_is)
    (case k1_common_divisor => k_is)
    (case k2_common_divisor => k_is)
    (case at_Ratio___init__ => k_is)
    (case l_Ratio___init__ => k_is)
    (case k1_Ratio___init__ => k_is)
    (case k2_Ratio___init__ => k_is)
    (case d1_Ratio___init__ => k_is)
    (case d2_Ratio___init__ => rfl)
    (case d3_Ratio___init__ => rfl)
    (case at_Ratio_top => k_is)
    (case rc_Ratio_top => k_is)
    (case l_Ratio_top => k_is)
    (case k1_Ratio_top => k_is)
    (case k2_Ratio_top => k_is)
    (case at_Ratio_bottom => k_is)
    (case rc_Ratio_bottom => k_is)
    (case l_Ratio_bottom => k_is)
    (case k1_Ratio_bottom => k_is)
    (case k2_Ratio_bottom => k_is)
    (case at_Ratio_sign => k_is)
    (case rc_Ratio_sign => k_is)
    (case l_Ratio_sign => k_is)
    (case k1_Ratio_sign => k_is)
    (case k2_Ratio_sign => k_is)
    (case at_Ratio_over => k_is)
    (case l_Ratio_over => k_is)
    (case k1_Ratio_over => k_is)
    (case k2_Ratio_over => k_is)
    (case at_Ratio_below => k_is)
    (case l_Ratio_below => k_is)
    (case k1_Ratio_below => k_is)
    (case k2_Ratio_below => k_is)
    (case at_Ratio___neg__ => k_is)
    (case l_Ratio___neg__ => k_is)
    (case k1_Ratio___neg__ => k_is)
    (case k2_Ratio___neg__ => k_is)
    (case at_Ratio___add__ => k_is)
    (case l_Ratio___add__ => k_is)
    (case k1_Ratio___add__ => k_is)
    (case k2_Ratio___add__ => k_is)
    (case at_Ratio___radd__ => k_is)
    (case l_Ratio___radd__ => k_is)
    (case k1_Ratio___radd__ => k_is)
    (case k2_Ratio___radd__ => k_is)
    (case at_Ratio___sub__ => k_is)
    (case l_Ratio___sub__ => k_is)
    (case k1_Ratio___sub__ => k_is)
    (case k2_Ratio___sub__ => k_is)
    (case at_Ratio___rsub__ => k_is)
    (case l_Ratio___rsub__ => k_is)
    (case k1_Ratio___rsub__ => k_is)
    (case k2_Ratio___rsub__ => k_is)
    (case at_Ratio___mul__ => k_is)
    (case l_Ratio___mul__ => k_is)
    (case k1_Ratio___mul__ => k_is)
    (case k2_Ratio___mul__ => k_is)
    (case at_Ratio___rmul__ => k_is)
    (case l_Ratio___rmul__ => k_is)
    (case k1_Ratio___rmul__ => k_is)
    (case k2_Ratio___rmul__ => k_is)
    (case at_Ratio___eq__ => k_is)
    (case l_Ratio___eq__ => k_is)
    (case k1_Ratio___eq__ => k_is)
    (case k2_Ratio___eq__ => k_is)
    (case at_Ratio___str__ => k_is)
    (case l_Ratio___str__ => k_is)
    (case k1_Ratio___str__ => k_is)
    (case k2_Ratio___str__ => k_is)
    (case a_as_ratio => k_is)
    (case l_as_ratio => k_is)
    (case k1_as_ratio => k_is)
    (case k2_as_ratio => k_is)
    (case a_least => k_is)
    (case l_least => k_is)
    (case k1_least => k_is)
    (case k2_least => k_is)
    (case a_greatest => k_is)
    (case l_greatest => k_is)
    (case k1_greatest => k_is)
    (case k2_greatest => k_is)
    (case a_start => k_is)
    (case l_start => k_is)
    (case k1_start => k_is)
    (case k2_start => k_is)
    (case a_draw => k_is)
    (case l_draw => k_is)
    (case k1_draw => k_is)
    (case k2_draw => k_is)
    (case a_low => k_is)
    (case l_low => k_is)
    (case k1_low => k_is)
    (case k2_low => k_is)
    (case a_plus => k_is)
    (case l_plus => k_is)
    (case k1_plus => k_is)
    (case k2_plus => k_is)
    (case a_times => k_is)
    (case l_times => k_is)
    (case k1_times => k_is)
    (case k2_times => k_is)
    (case a_less => k_is)
    (case l_less => k_is)
    (case k1_less => k_is)
    (case k2_less => k_is)
    (case a_is => k_is)
    (case l_is => k_is)
    (case k1_is => k_is)
    (case k2_is => k_is)
    (case a_text => k_is)
    (case l_text => k_is)
    (case k1_text => k_is)
    (case k2_text => k_is)
    (case a_agrees => k_is)
    (case l_agrees => k_is)
    (case k1_agrees => k_is)
    (case k2_agrees => k_is)
    (case a_step => k_is)
    (case l_step => k_is)
    (case k1_step => k_is)
    (case k2_step => k_is)
    (case a_law => k_is)
    (case l_law => k_is)
    (case k1_law => k_is)
    (case k2_law => k_is)
    (case h_DIGITS => k_is)
    (case h_MOST_DIGITS => k_is)
    (case z_ValueError => k_is)
    (case z_abs => k_is)
    (case z_classmethod => k_is)
    (case z_int => k_is)
    (case z_isinstance => k_is)
    (case z_len => k_is)
    (case z_list => k_is)
    (case z_min => k_is)
    (case z_property => k_is)
    (case z_range => k_is)
    (case z_str => k_is)
    (case e1_ExtralinkError => k_is)
    (case e2_ExtralinkError => k_is)
    (case e3_ExtralinkError => k_is)
    (case x1_BadCount => k_is)
    (case x6_BadCount => decide +kernel)
    (case x7_BadCount => k_is)
    (case x8_BadCount => k_is)
    (case x9_BadCount => k_is)
    (case xk_BadCount => k_is)
    (case xt_BadCount => k_is)
    (case hn_BadCount_count => k_is)
    (case y1_BadCount => k_is)
    (case y2_BadCount => k_is)
    (case y4_BadCount => k_is)
    (case z1_BadCount => k_is)
    (case z2_BadCount => first | rfl | k_is)
    (case x1_OutOfRange => k_is)
    (case x6_OutOfRange => decide +kernel)
    (case x7_OutOfRange => k_is)
    (case x8_OutOfRange => k_is)
    (case x9_OutOfRange => k_is)
    (case xk_OutOfRange => k_is)
    (case xt_OutOfRange => k_is)
    (case hn_OutOfRange_value => k_is)
    (case y1_OutOfRange => k_is)
    (case y2_OutOfRange => k_is)
    (case y4_OutOfRange => k_is)
    (case z1_OutOfRange => k_is)
    (case z2_OutOfRange => first | rfl | k_is)
    (case h1_Ratio => k_is)
    (case h2_Ratio => k_is)
    (case h3_Ratio => k_is)
    (case h4_Ratio => k_is)
    (case h5_Ratio => k_is)
    (case h6_Ratio => k_is)
    (case h7_Ratio => k_is)
    (case hn_Ratio_upper => k_is)
    (case hn_Ratio_lower => k_is)
    (case hm_Ratio___init__ => k_is)
    (case hm_Ratio_over => k_is)
    (case hm_Ratio_below => k_is)
    (case hm_Ratio___neg__ => k_is)
    (case hm_Ratio___add__ => k_is)
    (case hm_Ratio___radd__ => k_is)
    (case hm_Ratio___sub__ => k_is)
    (case hm_Ratio___rsub__ => k_is)
    (case hm_Ratio___mul__ => k_is)
    (case hm_Ratio___rmul__ => k_is)
    (case hm_Ratio___eq__ => k_is)
    (case hm_Ratio___str__ => k_is)
    (case hp1_Ratio_top => k_is)
    (case hp2_Ratio_top => k_is)
    (case hp1_Ratio_bottom => k_is)
    (case hp2_Ratio_bottom => k_is)
    (case hp1_Ratio_sign => k_is)
    (case hp2_Ratio_sign => k_is)
    (case ht1_Ratio => k_is)
    (case ht2_Ratio => k_is)
    (case ht3_Ratio => k_is)
    (case ht4_Ratio => k_is)
    (case h_isa_Ratio_Ratio => kit_is)
    (case h_isa_int_Ratio => kit_is)
    (case h_sf_Ratio => k_is)
    (case ho1_Ratio___add___int => k_is)
    (case ho2_Ratio___add___int => k_is)
    (case ho3_Ratio___add___int => k_is)
    (case ho1_Ratio___sub___int => k_is)
    (case ho2_Ratio___sub___int => k_is)
    (case ho3_Ratio___sub___int => k_is)
    (case ho1_Ratio___mul___int => k_is)
    (case ho2_Ratio___mul___int => k_is)
    (case ho3_Ratio___mul___int => k_is)
    (case nl1_Ratio => k_is)
    (case d2_nl2_Ratio => rfl)
    (case h_ni_Ratio_add => k_is)
    (case h_no_Ratio_add => k_is)
    (case h_si_Ratio => k_is)
#print axioms PySem.Challenge.cw_extralink_k06_whole_ratio_script_holds

