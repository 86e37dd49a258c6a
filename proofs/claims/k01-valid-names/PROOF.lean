import PyProof.Rows.All
import Wide.All
import OpenK.AllK
import Wide.FinOn
import KE.KRevSl
import HandS.ForMost
import HandS.ForExc
import HandS.Walk
import HandS.Wide
import HandS.IsInst
import HandS.Style
import PySem.Challenge.RW_extralink_k01_valid_names
set_option Elab.async false
set_option linter.all false
set_option maxRecDepth 100000
set_option maxHeartbeats 4000000

namespace Xl
open PySem PySem.Spec PyProof.Rows L2

/-! ### calls of the text's own defs, bundled -/
structure FnI (P : Program) (w : World) (K : PySem.W.Frag) (mg : Str → Option Value) (base : Heap) (x : Str) (k : Nat) (ps : List Str) (sp : Sp) : Prop where
  ex : ∃ f fd, FnOk P w K mg base (L2.CX P w) k f fd ps sp ∧ mg x = some (.ref f) ∧ PySem.W.keepIn K (.ref f) = true ∧ Binds K fd ps []
/-- .. called by keywords alone, one keyword -/
structure FnK (P : Program) (w : World) (K : PySem.W.Frag) (mg : Str → Option Value) (base : Heap) (x : Str) (k : Nat) (ps : List Str) (sp : Sp) : Prop where
  ex : ∃ f fd, FnOk P w K mg base (L2.CX P w) k f fd ps sp ∧ mg x = some (.ref f) ∧ PySem.W.keepIn K (.ref f) = true ∧ ∀ (s : Shared) (ws : List Value), ws.length = ps.length → BindsTo s fd ⟨[], ps.zip ws⟩ (ps.zip ws)

section
variable {X : Cx} {k : Nat} {ps : List Str} {sp : Sp} {E : XK} {x : Str} {p pos : Pos} {e : Expr} {es : List Expr} {t : TA} {te : TE}
theorem pe_f (F : FnI X.prog X.w X.K X.mg X.base x k ps sp) (hr : Room k X.A) (hx : Passes (L2.CX X.prog X.w) X E) (ha : PA X (e :: es) t) (hg : Gl X x := by rfl)
    (hdb : (x == ("__debug__" : Str)) = false := by decide) (he : starEach (e :: es) X.env = (false, eval e X.env) :: starEach es X.env := by rfl) (hpl : (backTo pos (starEach es X.env)).any (·.1) = false := by rfl) :
    PE X (.Call (.Name x p) (e :: es) [] pos) (tCall sp [] E t) := by
  obtain ⟨f, fd, h1, h2, h3, h4⟩ := F.ex
  exact pe_call h1 hr hg h2 h3 h4 .nil hx ha hdb he hpl
theorem pe_f0 (F : FnI X.prog X.w X.K X.mg X.base x k ps sp) (hr : Room k X.A) (hx : Passes (L2.CX X.prog X.w) X E) (hg : Gl X x := by rfl)
    (hdb : (x == ("__debug__" : Str)) = false := by decide) : PE X (.Call (.Name x p) [] [] pos) (tCall sp [] E tNil) := by
  obtain ⟨f, fd, h1, h2, h3, h4⟩ := F.ex
  exact pe_call0 h1 hr hg h2 h3 h4 .nil hx hdb
/-- f(k = v, ..), all parameters by keyword in their order -/
def tCallW (n : Nat) (sp : Sp) (E : XK) (tk : TA) : TE := fun σ H Q => tk σ H fun zs H2 => zs.length = n ∧ sp zs H2 Q E
theorem pe_fK {kws : List Keyword} {tk : TA} (F : FnK X.prog X.w X.K X.mg X.base x k ps sp) (hr : Room k X.A) (hx : Passes (L2.CX X.prog X.w) X E) (hkw : PK X kws tk) (hg : Gl X x := by rfl)
    (hall : (backToKw pos (keywordEach kws X.env)).all (·.1.isSome) = true := by rfl) (hks : (backToKw pos (keywordEach kws X.env)).filterMap (·.1) = ps := by rfl) (hdb : (x == ("__debug__" : Str)) = false := by decide)
    (hpl : ((backTo pos (starEach [] X.env)).any (·.1) || (backToKw pos (keywordEach kws X.env)).any (·.1.isNone)) = false := by rfl) :
    PE X (.Call (.Name x p) [] kws pos) (tCallW ps.length sp E tk) := by
  obtain ⟨f, fd, h1, h2, h3, h4⟩ := F.ex
  refine ⟨fun pins s σ H Q I h => ?_⟩
  refine wpAny_Call_Name_kw (ld_glob I hg h2 ?_ hdb)
  refine PySem.W.callWith_KW0 (h₀ := X.base) I.ok.mod.kin h3 hall ?_ hpl
  refine thn (hkw.run pos pins s σ H _ I h) fun ws s2 ⟨zs, H2, I2, rz, l1, q2⟩ => ⟨I2.kIn, ?_⟩
  rw [hks]
  refine wpAny_call (codeAny_mono (h1.run X.A X.stack s2 H2 ⟨[], ps.zip ws⟩ ws zs Q E hr I2.env0 (h4 s2 ws (by rw [← rz.length]; exact l1)) rz q2) fun r s' hq => ?_)
  cases r with
  | error e => exact hx pins σ H2 s2 e s' I2 hq
  | ok fl =>
    cases fl with
    | ret u => exact I2.after hq
    | next => exact False.elim hq
    | brk => exact False.elim hq
    | cont => exact False.elim hq
/-- a constant of the module -/
theorem pe_gl {v : V} (h : ∃ u, X.mg x = some u ∧ RelV v u) (hg : Gl X x := by rfl) (hd : (x == ("__debug__" : Str)) = false := by decide) : PE X (.Name x pos) (tC v) := by
  obtain ⟨u, h1, h2⟩ := h
  exact pe_glob hg h1 h2 hd
/-- a list's item as the old value of an item assignment with an operator -/
theorem get_list : PGet X (rIxL X.K) := by
  intro pins s σ H o i ov iv Q I ro ri h
  obtain ⟨p, xs, k, v, rfl, rfl, hq, ha, q⟩ := h
  cases ro
  obtain ⟨t, rfl⟩ := ri
  obtain ⟨its, r, pl, hz⟩ := I.list hq
  obtain ⟨j, h1, h2, h3, h4, h5⟩ := atI_get ha
  obtain ⟨w, ew, rw'⟩ := r.get h2
  have hl := r.length
  have hn := line63
  have fin : EP X pins σ Q w s := ⟨v, H, I, rw', q⟩
  by_cases h0 : 0 ≤ k
  · have hj : k.toNat = j := by
      rw [seqIndex_of h0 h5] at h1
      exact Option.some.inj h1
    exact wpAny_getItem_list pl.isList h0 (by omega) (by rw [hj]; simpa using ew) fin
  · have hj : (k + (its.toArray.size : Int)).toNat = j := by
      rw [seqIndex_neg (by omega) h4] at h1
      rw [List.size_toArray, ← hl]
      exact Option.some.inj h1
    exact wpAny_getItem_list_neg pl.isList (by omega) (by rw [List.size_toArray] <;> omega) (by omega) (by rw [hj]; simpa using ew) fin
/-- text[::-1] -/
def revS (z : Str) : Str := Txt.sliceBy z none none (-1, 0)
theorem revS_len (z : Str) : (revS z).length ≤ z.length := Txt.sliceBy_le z none none (-1, 0) (show (-1 : Int) ≠ 0 by decide)
def tRevS (te : TE) : TE := fun σ H Q => te σ H fun x H1 => ∃ z, x = .str z ∧ z.length ≤ sizeLine ∧ Q (.str (revS z)) H1
theorem pe_revS {k : Nat} {p1 p2 p3 : Pos} (he : PE X e te) : PE X (.Subscript e (.Slice none none (some (.UnaryOp .USub (.Constant (.int 1) k p1) p2)) p3) pos) (tRevS te) := by
  refine ⟨fun pins s σ H Q I h => ?_⟩
  refine Subscript_ (thn (he.run pins s σ H _ I h) fun v s1 ⟨x, H1, I1, r1, q1⟩ => ?_)
  obtain ⟨z, rfl, hz, q⟩ := q1
  obtain ⟨tz, rfl⟩ := r1
  have hst : PO X (some (.UnaryOp .USub (.Constant (.int 1) k p1) p2)) (tPart (tUn (rU fun i => .int (-i)) (tC (.int 1)))) := po_some (pe_un un_neg pe_int)
  refine wpAny_Slice (thn (po_none.run pins s1 σ H1 (fun o H2 => o = none ∧ H2 = H1) I1 ⟨rfl, rfl⟩) fun vl s2 ⟨l, H2, I2, pl, el, e2⟩ => ?_)
  subst el e2
  refine thn (po_none.run pins s2 σ H2 (fun o H3 => o = none ∧ H3 = H2) I2 ⟨rfl, rfl⟩) fun vu s3 ⟨u, H3, I3, pu, eu, e3⟩ => ?_
  subst eu e3
  refine thn (hst.run pins s3 σ H3 (fun o H4 => o = some (-1) ∧ H4 = H3) I3 ⟨1, rfl, -1, rfl, rfl, rfl⟩) fun vs s4 ⟨o, H4, I4, ps, eo, e4⟩ => ?_
  subst eo e4
  have I5 : Inv X pins σ H4 { s4 with heap := s4.heap.push { cls := .type "slice", data := .fields #[vl, vu, vs] } } := I4.kept (t' := s4.toks) fun b ob q => Heap.get?_push_of_some _ q
  obtain ⟨l, rfl, e1⟩ := IsPart.raw pl
  obtain ⟨u, rfl, e2⟩ := IsPart.raw pu
  obtain ⟨st, rfl, e3⟩ := IsPart.raw ps
  cases l with
  | some _ => cases e1
  | none =>
  cases u with
  | some _ => cases e2
  | none =>
  cases st with
  | none => cases e3
  | some st =>
    obtain ⟨k0, uk⟩ := st
    have ek : k0 = -1 := Option.some.inj e3
    subst ek
    show wpAny (model X.prog X.w) X.A (subscriptTail e (.Slice none none (some (.UnaryOp .USub (.Constant (.int 1) k p1) p2)) p3) (.str z tz) (.ref s4.heap.objs.size)) (EP X pins σ Q) X.xe { s4 with heap := s4.heap.push { cls := .type "slice", data := .fields #[.none, .none, .int (-1) uk] } }
    refine tail_any (ops := [.ref s4.heap.objs.size, .str z tz]) (typeIs_str _ _ _) F.slot_str_getitem.lookup ?_ (by with_unfolding_all rfl)
    refine wpAny_getItem_str_slice (l := none) (u := none) (st := some (-1, uk)) ⟨_, Heap.get?_push_size _ rfl, rfl, rfl⟩ rfl ?_
    have hl : (Txt.sliceBy z none none (-1, uk)).length ≤ z.length := Txt.sliceBy_le z none none (-1, uk) (show (-1 : Int) ≠ 0 by decide)
    exact post_val_or_str ⟨Nat.le_trans hl hz, fun t' c => ⟨.str (Txt.sliceBy z none none (-1, uk)), H4, I5.tok c, ⟨_, rfl⟩, q⟩⟩
end
theorem passL' {X : Cx} : Passes (L2.CX X.prog X.w) X E0 := passL

section
variable {P : Program} {w : World} {K : PySem.W.Frag} {mg : Str → Option Value} {base : Heap}
/-- a def that lets nothing out, among defs that may -/
theorem okN {x qual : Str} {st : Stmt} {f : Addr} {fd : FuncData} {N ps : List Str} {k : Nat} {sp : Sp} (F : Fun K x qual st f fd) (S : FnScope N ps (defScope st)) (len : ∀ vs H Q E, sp vs H Q E → vs.length = ps.length)
    (hbody : ∀ (cdv : Value) (A : Around) (outer : List Env) (s : Shared) (H : Hp) (vs : List V) (Q : VK) (E : XK), Room k (A.deeper (envOfC qual (defScope st) s.heap.objs.size f cdv)) → sp vs H Q E →
      ∃ t, PSs (cxOf (L2.CX P w) P w K mg base N qual (defScope st) f cdv A outer s H E).nox (defBody st) t ∧ t { nx := fun _ H' => Q .non H', rt := Q } (start N vs) H) : FnOk P w K mg base (L2.CX P w) (k + 1) f fd ps sp := by
  refine F.okX S len fun cdv A outer s H vs Q E hr h => ?_
  obtain ⟨t, h1, h2⟩ := hbody cdv A outer s H vs Q E hr h
  exact ⟨t, h1.nox, h2⟩
end
/-! ### a statement and what follows, joined by a word of one's own -/
def tCut (t u : TS) : TS := fun D σ H => ∃ R : L2.St → Hp → Prop, t { D with nx := R } σ H ∧ ∀ σ' H', R σ' H' → u D σ' H'
theorem pss_cut {X : Cx} {st : Stmt} {rest : List Stmt} {t u : TS} (h1 : PS X st t) (h2 : PSs X rest u) : PSs X (st :: rest) (tCut t u) := by
  refine ⟨fun pins s σ H D I h => ?_⟩
  obtain ⟨R, h, k⟩ := h
  refine wpAny_execs_cons (thn (h1.run pins s σ H { D with nx := R } I h) fun f s1 q => ?_)
  cases f with
  | next =>
    obtain ⟨σ', H', I', q⟩ := q
    exact h2.run pins s1 σ' H' D I' (k σ' H' q)
  | ret v => exact q
  | brk => exact q
  | cont => exact q
theorem iteY {b : Bool} {A B : Prop} (h : b = true) (a : A) : if b = true then A else B := by
  rw [if_pos h]; exact a
theorem iteN {b : Bool} {A B : Prop} (h : b = false) (a : B) : if b = true then A else B := by
  rw [if_neg (by rw [h]; exact Bool.false_ne_true)]; exact a
theorem iteB {b : Bool} {A B : Prop} (h1 : b = true → A) (h2 : b = false → B) : if b = true then A else B := by
  cases b with
  | true => exact iteT (h1 rfl)
  | false => exact iteF (h2 rfl)
theorem bnt {b : Bool} (h : (!b) = true) : b = false := by cases b with | true => cases h | false => rfl
theorem bnf {b : Bool} (h : (!b) = false) : b = true := by cases b with | true => rfl | false => cases h
/-! ### a new object: the heap behind it as a letter -/
def New (H : Hp) (p : Addr) (o : HO) (H' : Hp) : Prop := H p = none ∧ H' = upd H p o
theorem Same.at {H H' : Hp} {b : Addr} {o : HO} (s : Same H H') (h : H b = some o) : H' b = some o := s b o h
section
variable {H H' : Hp} {p b : Addr} {o u : HO}
theorem New.same (n : New H p o H') : Same H H' := fun b u e => by
  obtain ⟨h, rfl⟩ := n
  rw [upd_ne (ne_of_none e h)]
  exact e
theorem New.at (n : New H p o H') : H' p = some o := by
  obtain ⟨h, rfl⟩ := n
  exact upd_same
theorem New.ne (n : New H p o H') (h : H b = some u) : b ≠ p := ne_of_none h n.1
theorem New.none (n : New H p o H') (h : H' b = none) : H b = none := n.same.free h
theorem new_of (h : H p = none) : New H p o (upd H p o) := ⟨h, rfl⟩
end
section
variable {X : Cx} {a b e : Expr} {ta tb te : TE} {pos : Pos} {t : TA} {es : List Expr}
theorem PE.imp {t t' : TE} (h : PE X e t) (i : ∀ σ H Q, t' σ H Q → t σ H Q) : PE X e t' := ⟨fun pins s σ H Q I q => h.run pins s σ H Q I (i σ H Q q)⟩
theorem OpR.imp {f : Value → Value → Sem Value} {r r' : R2} (h : OpR X f r) (i : ∀ x y H Q, r' x y H Q → r x y H Q) : OpR X f r' := fun pins s σ H x y v u Q I rx ry q => h pins s σ H x y v u Q I rx ry (i _ _ _ _ q)
theorem CallR.imp {f : Value} {r r' : List V → Hp → VK → Prop} (h : CallR X f r) (i : ∀ xs H Q, r' xs H Q → r xs H Q) : CallR X f r' := fun pins s σ H xs us Q I rx q => h pins s σ H xs us Q I rx (i _ _ _ q)
theorem SlR.imp {r r' : V → Option Int → Option Int → Hp → VK → Prop} (h : SlR X r) (i : ∀ x l u H Q, r' x l u H Q → r x l u H Q) : SlR X r' := fun pins s σ H x v vl vu lo hi sl Q I rx hs pl pu q => h pins s σ H x v vl vu lo hi sl Q I rx hs pl pu (i _ _ _ _ _ q)
def tTupN (t : TA) : TE := fun σ H Q => t σ H fun xs H1 => xs.length ≤ sizeLine ∧ ∀ p H', New H1 p (.tup xs) H' → Q (.ref p) H'
def tLstN (t : TA) : TE := fun σ H Q => t σ H fun xs H1 => xs.length ≤ sizeLine ∧ ∀ p H', New H1 p (.lst xs) H' → Q (.ref p) H'
theorem pe_tupN {x1} (h : PA X es t) : PE X (.Tuple es x1 pos) (tTupN t) := by
  refine ⟨fun pins s σ H Q I hq => ?_⟩
  refine wpAny_Tuple_spliced (thn (h.run pos pins s σ H _ I hq) fun us s1 ⟨xs, H1, I1, r, z, q⟩ => ⟨by rw [← r.length]; exact z, ?_⟩)
  have hf : H1 s1.heap.objs.size = none := I1.hok.fresh (Nat.le_refl _)
  refine ⟨.ref s1.heap.objs.size, upd H1 s1.heap.objs.size (.tup xs), I1.laid (t' := s1.toks) (fun b u e => Heap.get?_push_of_some _ e) (Nat.le_refl _) ?_, rfl, q _ _ (new_of hf)⟩
  exact ⟨z, us, r, ⟨_, Heap.get?_push_size _ rfl, rfl, _, rfl⟩⟩
theorem pe_lstN (h : PA X es t) : PE X (.List es pos) (tLstN t) := by
  refine ⟨fun pins s σ H Q I hq => ?_⟩
  refine wpAny_List_spliced (thn (h.run pos pins s σ H _ I hq) fun us s1 ⟨xs, H1, I1, r, z, q⟩ => ⟨by rw [← r.length]; exact z, ?_⟩)
  have hf : H1 s1.heap.objs.size = none := I1.hok.fresh (Nat.le_refl _)
  refine ⟨.ref s1.heap.objs.size, upd H1 s1.heap.objs.size (.lst xs), I1.laid (t' := s1.toks) (fun b u e => Heap.get?_push_of_some _ e) (Nat.le_refl _) ?_, rfl, q _ _ (new_of hf)⟩
  exact ⟨z, us, 0, r, Heap.get?_push_size _ rfl⟩
def rCatN : R2 := fun x y H Q => ∃ l b xs zs, x = .ref l ∧ y = .ref b ∧ H l = some (.lst xs) ∧ H b = some (.lst zs) ∧ xs.length + zs.length ≤ sizeLine ∧ ∀ p H', New H p (.lst (xs ++ zs)) H' → Q (.ref p) H'
theorem op_catN : OpR X (binaryOp .Add) rCatN := OpR.imp op_cat fun x y H Q ⟨l, b, xs, zs, h1, h2, h3, h4, h5, q⟩ => ⟨l, b, xs, zs, h1, h2, h3, h4, h5, fun p hp => q p _ (new_of hp)⟩
theorem call_list_ofN : CallR X (.type "list") (fun xs H Q => ∃ p ys, xs = [.ref p] ∧ (SqL X.K H p ys ∨ SqT X.K H p ys) ∧ ∀ l H', New H l (.lst ys) H' → Q (.ref l) H') :=
  CallR.imp call_list_of fun xs H Q ⟨p, ys, h1, h2, q⟩ => ⟨p, ys, h1, h2, fun l hl => q l _ (new_of hl)⟩
def rSlLN (K : PySem.W.Frag) : V → Option Int → Option Int → Hp → VK → Prop := fun x lo hi H Q => ∃ a xs, x = .ref a ∧ SqL K H a xs ∧ ∀ p H', New H p (.lst (cutV xs lo hi)) H' → Q (.ref p) H'
theorem sl_listN : SlR X (rSlLN X.K) := SlR.imp sl_list fun x l u H Q ⟨a, xs, h1, h2, q⟩ => ⟨a, xs, h1, h2, fun p hp => q p _ (new_of hp)⟩
end

/-! ### data that == takes: its depth -/
def Lay (n : Nat) (d : PyData) : Prop := d.canLay0 = true ∧ d.depth ≤ n
theorem lay_all {n : Nat} : ∀ {ds : List PyData}, (∀ d ∈ ds, Lay n d) → PyData.canLayAll0 ds = true ∧ PyData.depthAll ds ≤ n
  | [], _ => by simp [PyData.canLayAll0, PyData.depthAll]
  | d :: ds, h => by
    have h1 := lay_all (ds := ds) fun x hx => h x (List.mem_cons_of_mem _ hx)
    have h2 := h d (List.mem_cons_self ..)
    simp only [PyData.canLayAll0, PyData.depthAll, h1.1, h2.1]
    refine ⟨rfl, ?_⟩
    have := h1.2
    have := h2.2
    omega
theorem lay_list {n : Nat} {ds : List PyData} (h : ∀ d ∈ ds, Lay n d) : Lay (n + 1) (.list ds) := by
  obtain ⟨h1, h2⟩ := lay_all h
  refine ⟨by simp only [PyData.canLay0]; exact h1, ?_⟩
  simp only [PyData.depth]
  omega
theorem lay_tuple {n : Nat} {ds : List PyData} (h : ∀ d ∈ ds, Lay n d) : Lay (n + 1) (.tuple ds) := by
  obtain ⟨h1, h2⟩ := lay_all h
  refine ⟨by simp only [PyData.canLay0]; exact h1, ?_⟩
  simp only [PyData.depth]
  omega
theorem lay_int (i : Int) : Lay 1 (.int i) := ⟨by simp [PyData.canLay0], by simp [PyData.depth]⟩
theorem lay_str {i : Str} (h : PyData.strOk i = true) : Lay 1 (.str i) := ⟨by simpa [PyData.canLay0] using h, by simp [PyData.depth]⟩
theorem lay_bool (i : Bool) : Lay 1 (.bool i) := ⟨by simp [PyData.canLay0], by simp [PyData.depth]⟩
theorem shaped_of {n : Nat} {d : PyData} (h : Lay n d) (hn : n ≤ 64) : SeqAt.shaped d = true := by
  unfold SeqAt.shaped
  rw [Bool.and_eq_true]
  exact ⟨h.1, decide_eq_true (Nat.le_trans h.2 hn)⟩
theorem dpAll_ints {K : PySem.W.Frag} {H : Hp} : ∀ ns : List Int, DpAll K H (ns.map V.int) (ns.map PyData.int)
  | [] => .nil
  | n :: ns => .cons (.int n) (dpAll_ints ns)
theorem shaped_ints (ns : List Int) : SeqAt.shaped (.list (ns.map PyData.int)) = true := shaped_of (lay_list (n := 1) fun d hd => by
  obtain ⟨i, _, rfl⟩ := List.mem_map.mp hd
  exact lay_int i) (by decide)
theorem shaped_nil : SeqAt.shaped (.list []) = true := shaped_ints []
theorem eqv_nil : ∀ ds : List PyData, PyData.eqv (.list ds) (.list []) = ds.isEmpty
  | [] => by simp [PyData.eqv, PyData.eqvAll]
  | d :: ds => by simp [PyData.eqv, PyData.eqvAll]
/-- xs == [], xs != [], whatever stands in xs -/
def rEqNil (neg : Bool) : R2 := fun x y H Q => ∃ l b, ∃ xs : List V, x = .ref l ∧ y = .ref b ∧ H l = some (.lst xs) ∧ H b = some (.lst []) ∧ Q (.bl (neg ^^ xs.isEmpty)) H
theorem nil_all {xs : List V} {its ity : List Value} (r : Vals xs its) (r2 : Vals [] ity) (h : xs = []) : its.toArray.size = ity.toArray.size ∧ (List.range its.toArray.size).all (fun _ => true) = true := by
  subst h
  cases r
  cases r2
  exact ⟨rfl, rfl⟩
theorem op_eqNil {X : Cx} (hu : X.A.units + 64 < cLine) : OpR X (compareOp .Eq) (rEqNil false) := by
  intro pins s σ H x y v u Q I rx ry h
  obtain ⟨l, b, xs, rfl, rfl, h1, h2, q⟩ := h
  cases rx
  cases ry
  obtain ⟨its, r, p, _⟩ := I.list (SqL.of h1)
  obtain ⟨ity, r2, p2, _⟩ := I.list (SqL.of h2)
  have hu' : X.A.units < cLine := by omega
  cases xs with
  | nil =>
    obtain ⟨e1, e2⟩ := nil_all r r2 rfl
    refine SeqAt.eq_listAt (e := fun _ => true) p.isList p2.isList e1 hu' (fun j j1 _ => ?_) (by rw [e2]; exact ⟨.bl true, H, I, rfl, q⟩)
    cases r
    exact absurd j1 (Nat.not_lt_zero _)
  | cons a t =>
    refine SeqAt.eq_list_lengthsAt p.isList p2.isList ?_ hu' ⟨.bl false, H, I, rfl, q⟩
    cases r
    cases r2
    rfl
theorem op_neNil {X : Cx} (hu : X.A.units + 64 < cLine) : OpR X (compareOp .NotEq) (rEqNil true) := by
  intro pins s σ H x y v u Q I rx ry h
  obtain ⟨l, b, xs, rfl, rfl, h1, h2, q⟩ := h
  cases rx
  cases ry
  obtain ⟨its, r, p, _⟩ := I.list (SqL.of h1)
  obtain ⟨ity, r2, p2, _⟩ := I.list (SqL.of h2)
  have hu' : X.A.units < cLine := by omega
  cases xs with
  | nil =>
    obtain ⟨e1, e2⟩ := nil_all r r2 rfl
    refine SeqAt.RcNeAt.lists (e := fun _ => true) p.isList p2.isList e1 hu' (fun j j1 _ => ?_) _ _ _ _ (by rw [e2]; exact ⟨.bl false, H, I, rfl, q⟩)
    cases r
    exact absurd j1 (Nat.not_lt_zero _)
  | cons a t =>
    refine SeqAt.RcNeAt.lists_lengths p.isList p2.isList ?_ hu' _ _ _ _ ⟨.bl true, H, I, rfl, q⟩
    cases r
    cases r2
    rfl

/-! ### the drawing state: its footprint F, and what is left alone -/
abbrev Fp := Addr → Prop
def Own (st l0 l1 : Addr) : Fp := fun b => b = st ∨ b = l0 ∨ b = l1
/-- from (F, H) to (F', H'): what was tracked outside of F stands; F' has grown by new objects alone -/
structure Fr (F : Fp) (H : Hp) (F' : Fp) (H' : Hp) : Prop where
  keep : ∀ b o, H b = some o → ¬ F b → H' b = some o
  grow : ∀ b, F' b → F b ∨ H b = none
/-- o stands at b, outside of F -/
def Out (F : Fp) (H : Hp) (b : Addr) (o : HO) : Prop := H b = some o ∧ ¬ F b
structure StAt (H : Hp) (F : Fp) (st : Addr) (n : Nat) : Prop where
  ex : ∃ (l0 l1 : Addr) (cs ss : List Int) (c : Int), F = Own st l0 l1 ∧ st ≠ l0 ∧ st ≠ l1 ∧ l0 ≠ l1 ∧ H st = some (.lst [.ref l0, .ref l1, .int c]) ∧ H l0 = some (.lst (cs.map V.int)) ∧
    H l1 = some (.lst (ss.map V.int)) ∧ 0 < ss.length ∧ 0 ≤ c ∧ c ≤ n
section
variable {F F' F'' : Fp} {H H' H'' : Hp} {b p st : Addr} {o u : HO} {n m : Nat}
theorem Fr.refl (F : Fp) (H : Hp) : Fr F H F H := ⟨fun _ _ h _ => h, fun _ h => .inl h⟩
theorem Fr.out (f : Fr F H F' H') (h : Out F H b o) : Out F' H' b o :=
  ⟨f.keep b o h.1 h.2, fun z => (f.grow b z).elim h.2 fun e => by rw [h.1] at e; cases e⟩
theorem Fr.trans (f : Fr F H F' H') (g : Fr F' H' F'' H'') : Fr F H F'' H'' := by
  refine ⟨fun b o h n => ((g.out (f.out ⟨h, n⟩)).1), fun b z => ?_⟩
  rcases g.grow b z with h | h
  · exact f.grow b h
  · by_cases hb : F b
    · exact .inl hb
    · cases e : H b with
      | none => exact .inr rfl
      | some o => rw [f.keep b o e hb] at h; cases h
theorem Fr.new (h : H p = none) : Fr F H F (upd H p o) := ⟨fun b u e _ => by rw [upd_ne (ne_of_none e h)]; exact e, fun _ z => .inl z⟩
/-- an object that was not there at the start may change -/
theorem Fr.mut (f : Fr F H F' H') (h : H p = none) : Fr F H F' (upd H' p o) := ⟨fun b u e nf => by rw [upd_ne (ne_of_none e h)]; exact f.keep b u e nf, f.grow⟩
theorem Fr.none (f : Fr F H F' H') (hF : ¬ F p) (h : H' p = none) : H p = none := by
  cases e : H p with
  | none => rfl
  | some o => rw [f.keep p o e hF] at h; cases h
theorem StAt.dom (s : StAt H F st n) (h : F b) : ∃ o, H b = some o := by
  obtain ⟨l0, l1, cs, ss, c, rfl, _, _, _, h1, h2, h3, _⟩ := s.ex
  rcases h with rfl | rfl | rfl
  · exact ⟨_, h1⟩
  · exact ⟨_, h2⟩
  · exact ⟨_, h3⟩
theorem StAt.nf (s : StAt H F st n) (h : H b = none) : ¬ F b := fun z => by
  obtain ⟨o, e⟩ := s.dom z
  rw [h] at e
  cases e
theorem StAt.upd (s : StAt H F st n) (h : ¬ F p) : StAt (L2.upd H p o) F st n := by
  obtain ⟨l0, l1, cs, ss, c, rfl, a1, a2, a3, h1, h2, h3, r⟩ := s.ex
  exact ⟨l0, l1, cs, ss, c, rfl, a1, a2, a3, by rw [upd_ne fun e => h (.inl e.symm)]; exact h1, by rw [upd_ne fun e => h (.inr (.inl e.symm))]; exact h2, by rw [upd_ne fun e => h (.inr (.inr e.symm))]; exact h3, r⟩
theorem StAt.new (s : StAt H F st n) (h : H p = none) : StAt (L2.upd H p o) F st n := s.upd (s.nf h)
theorem StAt.mono (s : StAt H F st n) (h : n ≤ m) : StAt H F st m := by
  obtain ⟨l0, l1, cs, ss, c, e, a1, a2, a3, h1, h2, h3, h4, h5, h6⟩ := s.ex
  exact ⟨l0, l1, cs, ss, c, e, a1, a2, a3, h1, h2, h3, h4, h5, by omega⟩
theorem Out.upd (h : Out F H b o) (ne : b ≠ p) : Out F (L2.upd H p u) b o := ⟨by rw [upd_ne ne]; exact h.1, h.2⟩
theorem Out.new (h : Out F H b o) (np : H p = none) : Out F (L2.upd H p u) b o := h.upd (ne_of_none h.1 np)
theorem StAt.made (s : StAt H F st n) (h : H p = none) : Out F (L2.upd H p o) p o := ⟨upd_same, s.nf h⟩
theorem Fr.same (s : Same H H') : Fr F H F H' := ⟨fun b o h _ => s b o h, fun _ h => .inl h⟩
theorem StAt.same (s : StAt H F st n) (e : Same H H') : StAt H' F st n := by
  obtain ⟨l0, l1, cs, ss, c, rfl, a1, a2, a3, h1, h2, h3, r⟩ := s.ex
  exact ⟨l0, l1, cs, ss, c, rfl, a1, a2, a3, e _ _ h1, e _ _ h2, e _ _ h3, r⟩
theorem New.fr (e : New H p o H') : Fr F H F H' := Fr.same e.same
theorem New.sta (e : New H p o H') (s : StAt H F st n) : StAt H' F st n := s.same e.same
theorem New.out (e : New H p o H') (s : StAt H F st n) : Out F H' p o := ⟨e.at, s.nf e.1⟩
theorem Out.here (h : ¬ F p) : Out F (L2.upd H p o) p o := ⟨upd_same, h⟩
end

/-! ### _law_start, _law_draw: their promises -/
def spStart (K : PySem.W.Frag) : Sp := fun vs H Q _ => ∃ (a : Addr) (ns : List Int), vs = [.ref a] ∧ SqL K H a (ns.map V.int) ∧ ns.length ≤ 63 ∧
  ∀ (st : Addr) (F : Fp) (H' : Hp), StAt H' F st 0 → Same H H' → (∀ b, F b → H b = none) → Q (.ref st) H'
def spDraw : Sp := fun vs H Q _ => ∃ (F : Fp) (st : Addr) (n : Nat) (size : Int), vs = [.ref st, .int size] ∧ StAt H F st n ∧ n < 2 ^ 40 ∧ 0 < size ∧ size < 2 ^ 200 ∧
  ∀ (d : Int) (F' : Fp) (H' : Hp), 0 ≤ d → d < size → StAt H' F' st (n + 1) → Fr F H F' H' → Q (.int d) H'
theorem spDraw.call {F : Fp} {H : Hp} {st : Addr} {n : Nat} {size : Int} {Q : VK} {E : XK} (s : StAt H F st n) (hn : n < 2 ^ 40) (h0 : 0 < size) (h1 : size < 2 ^ 200)
    (k : ∀ (d : Int) (F' : Fp) (H' : Hp), 0 ≤ d → d < size → StAt H' F' st (n + 1) → Fr F H F' H' → Q (.int d) H') : spDraw [.ref st, .int size] H Q E := ⟨F, st, n, size, rfl, s, hn, h0, h1, k⟩
/-- a law's own promise -/
def spLaw (K : PySem.W.Frag) : Sp := fun vs H Q _ => ∃ (a : Addr) (ns : List Int), vs = [.ref a] ∧ SqL K H a (ns.map V.int) ∧ ns.length ≤ 63 ∧ ∀ H', Q (.bl true) H'
end Xl

local macro_rules | `(tactic| walk_at "out") => `(tactic| (first | assumption | (refine Xl.Fr.out (by assumption) ?_; walk_at "out")))
local macro_rules | `(tactic| walk_at "at") => `(tactic| (first | assumption | exact And.left (by assumption) | exact Xl.New.at (by assumption) | (refine Xl.Same.at (by first | assumption | exact Xl.New.same (by assumption)) ?_; walk_at "at") | exact And.left (show Xl.Out _ _ _ _ by walk_at "out")))
local macro_rules | `(tactic| walk_at "same") => `(tactic| (first | assumption | exact Xl.New.same (by assumption) | (refine L2.Same.trans ?_ (by first | assumption | exact Xl.New.same (by assumption)); walk_at "same") | exact L2.Same.refl _))
local macro_rules | `(tactic| walk_at "fr") => `(tactic| (first | assumption | exact Xl.Fr.refl _ _ | (refine Xl.Fr.trans ?_ (by assumption); walk_at "fr")))
local macro_rules | `(tactic| walk_at "rd") => `(tactic| (repeat (first
  | (refine ⟨_, rfl, ?_⟩) | (refine ⟨_, _, rfl, rfl, ?_⟩) | (refine ⟨_, _, _, _, rfl, rfl, L2.SqL.of (by walk_at "at"), rfl, ?_⟩) | (refine ⟨_, _, _, _, rfl, rfl, L2.SqT.of (by walk_at "at"), rfl, ?_⟩))))

namespace Xl
open PySem L2
def top (i : Nat) : Stmt := PySem.Challenge.pw_extralink_k01_valid_names.main.body.getD i (.Pass ⟨0, 0, 0, 0⟩)
abbrev s_valid_name : Stmt := top 4
abbrev s_start : Stmt := top 6
abbrev s_draw : Stmt := top 7
abbrev s_signs : Stmt := top 8
abbrev s_good : Stmt := top 9
abbrev s_law : Stmt := top 10
/-- what the top has left -/
structure GG (K : PySem.W.Frag) (mg : Str → Option Value) where
  a_valid_name : Addr
  fd_valid_name : FuncData
  F_valid_name : Fun K "valid_name" "valid_name" s_valid_name a_valid_name fd_valid_name
  m_valid_name : mg "valid_name" = some (.ref a_valid_name)
  a_start : Addr
  fd_start : FuncData
  F_start : Fun K "_law_start" "_law_start" s_start a_start fd_start
  m_start : mg "_law_start" = some (.ref a_start)
  a_draw : Addr
  fd_draw : FuncData
  F_draw : Fun K "_law_draw" "_law_draw" s_draw a_draw fd_draw
  m_draw : mg "_law_draw" = some (.ref a_draw)
  a_signs : Addr
  fd_signs : FuncData
  F_signs : Fun K "_law_signs" "_law_signs" s_signs a_signs fd_signs
  m_signs : mg "_law_signs" = some (.ref a_signs)
  a_good : Addr
  fd_good : FuncData
  F_good : Fun K "_law_good" "_law_good" s_good a_good fd_good
  m_good : mg "_law_good" = some (.ref a_good)
  a_law : Addr
  fd_law : FuncData
  F_law : Fun K "law" "law" s_law a_law fd_law
  m_law : mg "law" = some (.ref a_law)
  g_LETTERS : ∃ u, mg "LETTERS" = some u ∧ RelV (.str "abcdefghijklmnopqrstuvwxyz") u
  g_DIGITS : ∃ u, mg "DIGITS" = some u ∧ RelV (.str "0123456789") u
  g_LONGEST : ∃ u, mg "LONGEST" = some u ∧ RelV (.int 6) u
  z_abs : mg "abs" = none
  z_bool : mg "bool" = none
  z_int : mg "int" = none
  z_isinstance : mg "isinstance" = none
  z_len : mg "len" = none
  z_list : mg "list" = none
  z_range : mg "range" = none
end Xl

namespace Xl
open PySem L2
section
variable {P : Program} {w : World} {K : PySem.W.Frag} {mg : Str → Option Value} {base : Heap}
theorem int_at {ns : List Int} {i : Nat} {x : V} (h : (ns.map V.int)[i]? = some x) : ∃ z, ns[i]? = some z ∧ x = V.int z := by
  rw [List.getElem?_map] at h
  cases e : ns[i]? with
  | none => rw [e] at h; cases h
  | some z => rw [e] at h; exact ⟨z, rfl, (Option.some.inj h).symm⟩
theorem small_sz {n : Nat} (h : n ≤ 1000000) : n ≤ sizeLine := Nat.le_trans h (by decide)
theorem small_szlt {n : Nat} (h : n ≤ 1000000) : n < sizeLine := Nat.lt_of_le_of_lt h (by decide)
theorem ixN_at {n j : Nat} (h : j < n) : ixN n (j : Int) = some j := by
  unfold ixN
  rw [if_pos (by omega), if_pos (by omega), Int.toNat_natCast]
abbrev N_start : List Str := ["_law_script", "_law_cell"]
theorem sc_start : FnScope N_start ["_law_script"] (defScope s_start) := ⟨rfl, rfl, rfl, by decide +kernel, rfl, by decide +kernel, by decide +kernel⟩
theorem ok_start (T : GG K mg) : FnOk P w K mg base (L2.CX P w) 1 T.a_start T.fd_start ["_law_script"] (spStart K) := by
  refine okN T.F_start sc_start (fun vs H Q E h => ?_) (fun cdv A outer s H vs Q E hr h => ?_)
  · obtain ⟨a, ns, rfl, _⟩ := h
    rfl
  · obtain ⟨a, ns, rfl, hS, hl, k⟩ := h
    refine ⟨_, (pss_one (ps_ret (pe_lstN (pa_cons (pe_lc (own := [("_law_cell", 1)])  rfl sc_start.nd (pi_list (pv 0)) (blkOk_by (N := N_start) (sc := defScope s_start) (by decide +kernel)) (fun _ _ _ _ _ => (pg_name (i := 1) sc_start.nd rfl (Or.inl rfl)))
      (fun _ _ _ _ _ => (pts_one (pt_cmpR op_ge (pe_callB call_abs rfl T.z_abs (by decide +kernel) (pa_cons (pv 1) pa_nil)) (pe_op op_pow pe_int pe_int) (nomark _)))) (fun _ _ _ _ _ => (pe_callB call_abs rfl T.z_abs (by decide +kernel) (pa_cons (pv 1) pa_nil))))
      (pa_cons (pe_op op_catN (pe_callTy call_list_ofN rfl T.z_list (by decide +kernel) (pa_cons (pv 0) pa_nil)) (pe_lstN (pa_cons pe_int pa_nil))) (pa_cons pe_int pa_nil)))))), ?_⟩
    refine ⟨_, rfl, a, rfl, ⟨_, hS⟩, fun D hD => lc_list (K := K) (a := a) (xs := ns.map V.int) (fun i H1 => ∃ cs : List Int, cs.length ≤ i ∧ H1 D = some (.lst (cs.map V.int)) ∧ Same H H1) ?_ ?_ ?_ ?_⟩
    · exact ⟨[], Nat.le_refl _, upd_same, (new_of hD).same⟩
    · rintro i H1 _ ⟨cs, _, _, hs⟩
      exact Same.seq hs hS
    · rintro i x H1 hx ⟨cs, hc, h1, hs⟩
      obtain ⟨z, hz, rfl⟩ := int_at hx
      have hil := (List.getElem?_eq_some_iff.mp hz).1
      refine ⟨rfl, _, rfl, _, rfl, _, _, rfl, rfl, ⟨by decide, by decide, by decide⟩, _, _, rfl, rfl, _, rfl, ite2 (fun _ => ?_) (fun _ => ?_)⟩
      · refine ⟨_, rfl, _, rfl, _, h1, ?_, cs ++ [(if z < 0 then -z else z)], ?_, ?_, fun b o e => ?_⟩
        · rw [List.length_map]; exact small_szlt (by omega)
        · rw [List.length_append]; exact Nat.succ_le_succ hc
        · rw [upd_same, List.map_append]; rfl
        · rw [upd_ne (ne_of_none e hD)]; exact hs b o e
      · exact ⟨cs, Nat.le_succ_of_le hc, h1, hs⟩
    · rintro H1 ⟨cs, hc, h1, hs⟩
      refine ⟨_, rfl, a, _, rfl, .inl (Same.seq hs hS), fun l H2 n2 => ⟨(by show 1 ≤ sizeLine; decide), fun l5 H3 n3 => ?_⟩⟩
      refine ⟨l, l5, _, _, rfl, rfl, by walk_at "at", n3.at, ?_, fun l1 H4 n4 => ?_⟩
      · rw [List.length_map]; exact small_sz (show ns.length + 1 ≤ 1000000 by omega)
      refine ⟨(by show 3 ≤ sizeLine; decide), fun st H5 n5 => ?_⟩
      have hD3 : H3 D = some (.lst (cs.map V.int)) := n3.same _ _ (n2.same _ _ h1)
      have hD4 := n4.same _ _ hD3
      have d3 : D ≠ l1 := n4.ne hD3
      have d5 : D ≠ st := n5.ne hD4
      have d4 : l1 ≠ st := n5.ne n4.at
      have s5 : Same H H5 := (((hs.trans n2.same).trans n3.same).trans n4.same).trans n5.same
      refine k st (Own st D l1) _ ⟨D, l1, cs, ns ++ [5], 0, rfl, d5.symm, d4.symm, d3, n5.at, n5.same _ _ hD4, ?_, ?_, by decide, by decide⟩ s5 fun b hb => ?_
      · rw [List.map_append]; exact n5.same _ _ n4.at
      · rw [List.length_append]; exact Nat.succ_pos _
      · rcases hb with rfl | rfl | rfl
        · exact (((hs.trans n2.same).trans n3.same).trans n4.same).free n5.1
        · exact hD
        · exact ((hs.trans n2.same).trans n3.same).free n4.1
theorem F_start (T : GG K mg) : FnI P w K mg base "_law_start" 1 ["_law_script"] (spStart K) :=
  ⟨T.a_start, T.fd_start, ok_start T, T.m_start, T.F_start.kp, T.F_start.binds fun _ _ _ _ _ _ us hl => match us, hl with | [_], _ => rfl⟩

/-! ### _law_draw -/
/-- the state with the cells cs at l0, the copy ss at l1, the count c -/
structure StIn (H : Hp) (st l0 l1 : Addr) (cs ss : List Int) (c : Int) : Prop where
  n0 : st ≠ l0
  n1 : st ≠ l1
  n2 : l0 ≠ l1
  h0 : H st = some (.lst [.ref l0, .ref l1, .int c])
  h1 : H l0 = some (.lst (cs.map V.int))
  h2 : H l1 = some (.lst (ss.map V.int))
theorem draw_cell {x : Int} : 0 ≤ x % 2147483647 ∧ x % 2147483647 < 2147483647 := ⟨Int.emod_nonneg _ (by decide), Int.emod_lt_of_pos _ (by decide)⟩
theorem draw_pow {x c k m : Int} {n : Nat} (h0 : 0 ≤ x) (h1 : x < 2147483647) (h2 : 0 ≤ c) (h3 : c ≤ n) (h4 : n ≤ 2 ^ 40) (hk : 0 ≤ k) (hk2 : k < 100000) (hm : 0 ≤ m) (hm2 : m < 100000) (j : Int) (hj : 0 ≤ j) (hj2 : j < 100) : (x * k + c * m + j).natAbs < 2 ^ 64 := by
  have a1 : x * k ≤ 2147483647 * 100000 := Int.mul_le_mul (by omega) (by omega) hk (by decide)
  have a2 : 0 ≤ x * k := Int.mul_nonneg h0 hk
  have a3 : c * m ≤ 1099511627776 * 100000 := Int.mul_le_mul (by omega) (by omega) hm (by decide)
  have a4 : 0 ≤ c * m := Int.mul_nonneg h2 hm
  omega
abbrev N_draw : List Str := ["_law_state", "_law_size", "_law_cell", "_law_one", "_law_digit"]
theorem sc_draw : FnScope N_draw ["_law_state", "_law_size"] (defScope s_draw) := ⟨rfl, rfl, rfl, by decide +kernel, rfl, by decide +kernel, by decide +kernel⟩
theorem ok_draw (T : GG K mg) : FnOk P w K mg base (L2.CX P w) 1 T.a_draw T.fd_draw ["_law_state", "_law_size"] spDraw := by
  refine okN T.F_draw sc_draw (fun vs H Q E h => ?_) (fun cdv A outer s H vs Q E hr h => ?_)
  · obtain ⟨F, st, n, size, rfl, _⟩ := h
    rfl
  · obtain ⟨F, st, n, size, rfl, hst, hn, hs0, hs1, k⟩ := h
    obtain ⟨l0, l1, cs, ss, c, rfl, a1, a2, a3, h1, h2, h3, hss, hc0, hc1⟩ := hst.ex
    refine ⟨_, (pss_cons (ps_augS (pv 0) pe_int get_list pe_int ip_add set_list)
      (pss_cut (ps_while PassesOwn.never (PW.pt (pw_and (pt_cmpR (op_neNil hr.units) (pe_ix ix_list (pv 0) pe_int (fun _ _ => rfl)) (pe_lstN pa_nil) (nomark _)) (pw_and1 (pt_cmpR op_eq (pe_ix ix_list (pe_ix ix_list (pv 0) pe_int (fun _ _ => rfl)) pe_int (fun _ _ => rfl)) pe_int (nomark _)))))
        (pss_one (ps_asg (pe_slice sl_listN (pe_ix ix_list (pv 0) pe_int (fun _ _ => rfl)) (po_some pe_int) po_none) (pg_sub (pv 0) pe_int set_list))))
      (pss_cons (ps_if (pt_cmpR (op_neNil hr.units) (pe_ix ix_list (pv 0) pe_int (fun _ _ => rfl)) (pe_lstN pa_nil) (nomark _)) (pss_cons (ps_set (i := 4) sc_draw.nd rfl (Or.inl rfl) (pe_op op_mod (pe_callTy call_int1 rfl T.z_int (by decide +kernel) (pa_cons (pe_ix ix_list (pe_ix ix_list (pv 0) pe_int (fun _ _ => rfl)) pe_int (fun _ _ => rfl)) pa_nil)) (pv 1)))
        (pss_cons (ps_asg (pe_op op_fdivW (pe_ix ix_list (pe_ix ix_list (pv 0) pe_int (fun _ _ => rfl)) pe_int (fun _ _ => rfl)) (pv 1)) (pg_sub (pe_ix ix_list (pv 0) pe_int (fun _ _ => rfl)) pe_int set_list))
        (pss_one (ps_ret (pv 4))))) pss_nil)
      (pss_cons (ps_set (i := 2) sc_draw.nd rfl (Or.inl rfl) (pe_op op_mod (pe_callTy call_int1 rfl T.z_int (by decide +kernel) (pa_cons (pe_ix ix_list (pe_ix ix_list (pv 0) pe_int (fun _ _ => rfl)) (pe_op op_mod (pe_callTy call_int1 rfl T.z_int (by decide +kernel) (pa_cons (pe_ix ix_list (pv 0) pe_int (fun _ _ => rfl)) pa_nil)) (pe_callB call_len_seq rfl T.z_len PySem.boot_len (pa_cons (pe_ix ix_list (pv 0) pe_int (fun _ _ => rfl)) pa_nil))) (fun _ _ => rfl)) pa_nil)) pe_int))
      (pss_cons (ps_set (i := 3) sc_draw.nd rfl (Or.inl rfl) (pe_op op_mod (pe_callTy call_int1 rfl T.z_int (by decide +kernel) (pa_cons (pe_op op_pow (pe_op op_add (pe_op op_add (pe_op op_mul (pv 2) pe_int) (pe_op op_mul (pe_ix ix_list (pv 0) pe_int (fun _ _ => rfl)) pe_int)) pe_int) pe_int) pa_nil)) pe_int))
      (pss_one (ps_ret (pe_op op_mod (pe_op op_mod (pe_callTy call_int1 rfl T.z_int (by decide +kernel) (pa_cons (pe_op op_pow (pe_op op_add (pe_op op_add (pe_op op_mul (pv 3) pe_int) (pe_op op_mul (pe_ix ix_list (pv 0) pe_int (fun _ _ => rfl)) pe_int)) pe_int) pe_int) pa_nil)) pe_int) (pv 1))))))))), ?_⟩
    -- state[2] += 1
    refine ⟨_, rfl, st, _, _, _, rfl, rfl, SqL.of h1, rfl, _, _, rfl, rfl, st, _, 2, 2, rfl, rfl, h1, rfl, ?_⟩
    -- the cells of nought are dropped
    refine ⟨fun σ H1 => ∃ (l : Addr) (cs1 : List Int), σ = [some (.ref st), some (.int size), none, none, none] ∧ StIn H1 st l l1 cs1 ss (c + 1) ∧ Fr (Own st l0 l1) H (Own st l l1) H1,
      ⟨fun m σ H1 => ∃ (l : Addr) (cs1 : List Int), m = cs1.length ∧ σ = [some (.ref st), some (.int size), none, none, none] ∧ StIn H1 st l l1 cs1 ss (c + 1) ∧ Fr (Own st l0 l1) H (Own st l l1) H1, ⟨_, l0, cs, rfl, rfl, ⟨a1, a2, a3, upd_same, ?_, ?_⟩, ?_, fun _ z => .inl z⟩, ?_⟩, ?_⟩
    · rw [upd_ne a1.symm]; exact h2
    · rw [upd_ne a2.symm]; exact h3
    · intro b o e nb
      rw [upd_ne fun z => nb (.inl z)]; exact e
    · rintro m σ H1 ⟨l, cs1, rfl, rfl, S, fr⟩
      refine ⟨_, rfl, st, _, _, _, rfl, rfl, SqL.of S.h0, rfl, (by show 0 ≤ sizeLine; decide), fun p H2 n2 => ⟨l, p, _, rfl, rfl, n2.same _ _ S.h1, n2.at, ?_⟩⟩
      have S2 : StIn H2 st l l1 cs1 ss (c + 1) := ⟨S.n0, S.n1, S.n2, n2.same _ _ S.h0, n2.same _ _ S.h1, n2.same _ _ S.h2⟩
      have fr2 : Fr (Own st l0 l1) H (Own st l l1) H2 := fr.trans (Fr.same n2.same)
      cases cs1 with
      | nil => exact ⟨_, rfl, iteF (iteF ⟨l, [], rfl, S2, fr2⟩)⟩
      | cons z r =>
        refine ⟨_, rfl, iteT ⟨_, rfl, st, _, _, _, rfl, rfl, SqL.of S2.h0, rfl, l, _, _, V.int z, rfl, rfl, SqL.of S2.h1, at_of (j := 0) rfl rfl, rfl, _, rfl, ?_⟩⟩
        refine ite2 (fun _ => ?_) (fun _ => ⟨l, _, rfl, S2, fr2⟩)
        refine ⟨_, fun _ _ h => h, ?_⟩
        refine ⟨_, rfl, st, _, _, _, rfl, rfl, SqL.of S2.h0, rfl, _, rfl, l, _, rfl, SqL.of S2.h1, fun p3 H3 n3 => ⟨_, rfl, st, _, 0, 0, rfl, rfl, n3.same _ _ S2.h0, rfl, ?_⟩⟩
        have e1 : cutV ((z :: r).map V.int) (some 1) none = r.map V.int := by
          simp [cutV, HT.sIx]
          rw [List.take_of_length_le (by rw [List.length_map]; exact Nat.le_refl _)]
        have m1 : st ≠ p3 := n3.ne S2.h0
        have m2 : l1 ≠ p3 := n3.ne S2.h2
        refine ⟨r.length, Nat.lt_succ_self _, p3, r, rfl, rfl, ⟨m1, S2.n1, m2.symm, upd_same, ?_, ?_⟩, ?_, ?_⟩
        · rw [upd_ne m1.symm, ← e1]; exact n3.at
        · rw [upd_ne S2.n1.symm]; exact n3.same _ _ S2.h2
        · intro b o e nb
          have q := fr2.out ⟨e, nb⟩
          rw [upd_ne fun z => q.2 (.inl z)]
          exact n3.same _ _ q.1
        · intro b hb
          rcases hb with rfl | rfl | rfl
          · exact .inl (.inl rfl)
          · by_cases hF : Own st l0 l1 b
            · exact .inl hF
            · exact .inr (fr2.none hF n3.1)
          · exact .inl (.inr (.inr rfl))
    · rintro σ H1 ⟨l, cs1, rfl, S, fr⟩
      refine ⟨_, rfl, st, _, _, _, rfl, rfl, SqL.of S.h0, rfl, (by show 0 ≤ sizeLine; decide), fun p H2 n2 => ⟨l, p, _, rfl, rfl, n2.same _ _ S.h1, n2.at, ?_⟩⟩
      have S2 : StIn H2 st l l1 cs1 ss (c + 1) := ⟨S.n0, S.n1, S.n2, n2.same _ _ S.h0, n2.same _ _ S.h1, n2.same _ _ S.h2⟩
      have fr2 : Fr (Own st l0 l1) H (Own st l l1) H2 := fr.trans (Fr.same n2.same)
      have hc2 : c + 1 ≤ (n + 1 : Nat) := by omega
      cases cs1 with
      | cons z r =>
        refine ⟨_, rfl, iteT ⟨_, rfl, st, _, _, _, rfl, rfl, SqL.of S2.h0, rfl, l, _, _, V.int z, rfl, rfl, SqL.of S2.h1, at_of (j := 0) rfl rfl, .inl ⟨_, rfl, _, rfl, _, _, rfl, rfl, hs0, ?_⟩⟩⟩
        refine ⟨_, rfl, st, _, _, _, rfl, rfl, SqL.of S2.h0, rfl, l, _, _, V.int z, rfl, rfl, SqL.of S2.h1, at_of (j := 0) rfl rfl, _, rfl, _, _, rfl, rfl, wide_div hs0 (b := 200) (by omega) (by decide) (by decide), ?_⟩
        refine ⟨_, rfl, st, _, _, _, rfl, rfl, SqL.of S2.h0, rfl, l, _, 0, 0, rfl, rfl, S2.h1, ixN_at (by simp), _, rfl, ?_⟩
        refine k _ (Own st l l1) _ (Int.emod_nonneg _ (by omega)) (Int.emod_lt_of_pos _ hs0) ⟨l, l1, (z / size) :: r, ss, c + 1, rfl, S2.n0, S2.n1, S2.n2, ?_, ?_, ?_, hss, by omega, hc2⟩ ⟨?_, fr2.grow⟩
        · rw [upd_ne S2.n0]; exact S2.h0
        · rw [upd_same]; rfl
        · rw [upd_ne S2.n2.symm]; exact S2.h2
        · intro b o e nb
          have q := fr2.out ⟨e, nb⟩
          rw [upd_ne fun z => q.2 (.inr (.inl z))]
          exact q.1
      | nil =>
        refine ⟨_, rfl, iteF ?_⟩
        -- cell
        have hlen : (0 : Int) < (ss.length : Int) := by omega
        have hm0 := Int.emod_nonneg (c + 1) (show (ss.length : Int) ≠ 0 by omega)
        have hm1 := Int.emod_lt_of_pos (c + 1) hlen
        obtain ⟨j, ej⟩ : ∃ j : Nat, (c + 1) % (ss.length : Int) = (j : Int) := ⟨((c + 1) % (ss.length : Int)).toNat, by omega⟩
        have hj : j < ss.length := by omega
        refine ⟨_, rfl, st, _, _, _, rfl, rfl, SqL.of S2.h0, rfl, _, rfl, st, _, _, _, rfl, rfl, SqL.of S2.h0, rfl, .inl ⟨_, rfl, _, rfl, st, _, _, _, rfl, rfl, SqL.of S2.h0, rfl, l1, _, rfl, .inl (SqL.of S2.h2), _, _, rfl, rfl, (by rw [List.length_map]; exact hlen),
          l1, _, _, V.int ss[j], rfl, rfl, SqL.of S2.h2, at_of (j := j) (by rw [List.length_map]; exact ej) (by rw [List.getElem?_map, List.getElem?_eq_getElem hj]; rfl), .inl ⟨_, rfl, _, _, rfl, rfl, (by show (0 : Int) < 2147483647; decide), ?_⟩⟩⟩
        obtain ⟨g0, g1⟩ := draw_cell (x := ss[j])
        -- one
        refine ⟨_, rfl, _, _, rfl, rfl, .inr ⟨by decide, by decide⟩, _, rfl, st, _, _, _, rfl, rfl, SqL.of S2.h0, rfl, _, _, rfl, rfl, .inr ⟨by decide, by decide⟩, _, _, rfl, rfl, _, _, rfl, rfl, _, _, rfl, rfl, ⟨by decide, by decide, ?_⟩, .inl ⟨_, rfl, _, _, rfl, rfl, (by show (0 : Int) < 2147483647; decide), ?_⟩⟩
        · exact draw_pow g0 g1 (by omega) hc2 (by omega) (by decide) (by decide) (by decide) (by decide) 7 (by decide) (by decide)
        obtain ⟨g2, g3⟩ := draw_cell (x := (ss[j] % 2147483647 * 48271 + (c + 1) * 69621 + 7) ^ Int.toNat 5)
        refine ⟨_, rfl, _, _, rfl, rfl, .inr ⟨by decide, by decide⟩, _, rfl, st, _, _, _, rfl, rfl, SqL.of S2.h0, rfl, _, _, rfl, rfl, .inr ⟨by decide, by decide⟩, _, _, rfl, rfl, _, _, rfl, rfl, _, _, rfl, rfl, ⟨by decide, by decide, ?_⟩, .inl ⟨_, rfl, _, _, rfl, rfl, (by show (0 : Int) < 2147483629; decide), _, rfl, _, _, rfl, rfl, hs0, ?_⟩⟩
        · exact draw_pow g2 g3 (by omega) hc2 (by omega) (by decide) (by decide) (by decide) (by decide) 13 (by decide) (by decide)
        exact k _ (Own st l l1) _ (Int.emod_nonneg _ (by omega)) (Int.emod_lt_of_pos _ hs0) ⟨l, l1, [], ss, c + 1, rfl, S2.n0, S2.n1, S2.n2, S2.h0, S2.h1, S2.h2, hss, by omega, hc2⟩ fr2
theorem F_draw (T : GG K mg) : FnI P w K mg base "_law_draw" 1 ["_law_state", "_law_size"] spDraw :=
  ⟨T.a_draw, T.fd_draw, ok_draw T, T.m_draw, T.F_draw.kp, T.F_draw.binds fun _ _ _ _ _ _ us hl => match us, hl with | [_, _], _ => rfl⟩
end
end Xl

namespace Xl
open PySem L2
def isLet (c : Nat) : Bool := decide (c ∈ ("abcdefghijklmnopqrstuvwxyz" : Str).cps.toList)
def isDig (c : Nat) : Bool := decide (c ∈ ("0123456789" : Str).cps.toList)
/-- a name: by its codes -/
def nameB : List Nat → Bool
  | [] => false
  | c :: r => decide (r.length < 6) && isLet c && (c :: r).all fun c => isLet c || isDig c
def validB (z : Str) : Bool := nameB z.cps.toList
def spValid : Sp := fun vs H Q _ => ∃ z : Str, vs = [.str z] ∧ z.length ≤ sizeLine ∧ Q (.bl (validB z)) H
theorem str_len (z : Str) : z.length = z.cps.toList.length := by
  show z.cps.size = z.cps.toList.length
  rw [Array.length_toList]
section
variable {P : Program} {w : World} {K : PySem.W.Frag} {mg : Str → Option Value} {base : Heap}
abbrev N_valid_name : List Str := ["text", "char"]
theorem sc_valid_name : FnScope N_valid_name ["text"] (defScope s_valid_name) := ⟨rfl, rfl, rfl, by decide +kernel, rfl, by decide +kernel, by decide +kernel⟩
theorem ok_valid_name (T : GG K mg) : FnOk P w K mg base (L2.CX P w) 1 T.a_valid_name T.fd_valid_name ["text"] spValid := by
  refine okN T.F_valid_name sc_valid_name (fun vs H Q E h => ?_) (fun cdv A outer s H vs Q E hr h => ?_)
  · obtain ⟨z, rfl, _⟩ := h
    rfl
  · obtain ⟨z, rfl, hz, k⟩ := h
    refine ⟨_, (pss_cut (ps_if (PW.pt (pw_or (pt_not (pt_chain op_le op_le pe_int (pe_callB call_len_str rfl T.z_len PySem.boot_len (pa_cons (pv 0) pa_nil)) (pe_gl T.g_LONGEST))) (pw_or1 (pt_cmpR op_notIn_sign (pe_ix ix_str (pv 0) pe_int (fun _ _ => rfl)) (pe_gl T.g_LETTERS) (by rfl))))) (pss_one (ps_ret pe_bl)) pss_nil)
      (pss_cons (ps_for PassesOwn.never rfl (pi_str (pv 0)) (pg_name (i := 1) sc_valid_name.nd rfl (Or.inl rfl))
        (pss_one (ps_if (PW.pt (pw_and (pt_cmpR op_notIn_sign (pv 1) (pe_gl T.g_LETTERS) (by rfl)) (pw_and1 (pt_cmpR op_notIn_sign (pv 1) (pe_gl T.g_DIGITS) (by rfl))))) (pss_one (ps_ret pe_bl)) pss_nil)))
      (pss_one (ps_ret pe_bl)))), ?_⟩
    refine ⟨fun σ H1 => H1 = H ∧ σ = [some (.str z), none] ∧ ∃ c r, z.cps.toList = c :: r ∧ r.length < 6 ∧ isLet c = true, ?_, ?_⟩
    · refine ⟨_, rfl, z, rfl, hz, _, _, rfl, rfl, _, rfl, ?_⟩
      rw [str_len] at hz ⊢
      unfold validB at k
      cases e : z.cps.toList with
      | nil =>
        rw [e] at k
        refine iteF ⟨_, rfl, iteT ?_⟩
        exact k
      | cons c r =>
        rw [e] at k
        refine iteY (decide_eq_true (by rw [List.length_cons]; omega)) ⟨_, _, rfl, rfl, _, rfl, ?_⟩
        by_cases h6 : r.length < 6
        · refine iteN (by rw [decide_eq_true (by rw [List.length_cons]; omega)]; rfl) ⟨_, rfl, z, _, c, rfl, rfl, ?_, ?_, c, _, rfl, rfl, _, rfl, ?_⟩
          · rw [str_len]; exact hz
          · rw [e]; exact atI_nat (j := 0) rfl
          · cases hl : isLet c with
            | true =>
              have hl' : decide (c ∈ ("abcdefghijklmnopqrstuvwxyz" : Str).cps.toList) = true := hl
              exact iteN (by rw [hl']; rfl) ⟨rfl, rfl, c, r, rfl, h6, hl⟩
            | false =>
              have hl' : decide (c ∈ ("abcdefghijklmnopqrstuvwxyz" : Str).cps.toList) = false := hl
              refine iteY (by rw [hl']; rfl) ?_
              have ek : nameB (c :: r) = false := by show (decide (r.length < 6) && isLet c && _) = false; rw [hl, Bool.and_false, Bool.false_and]
              rw [ek] at k
              exact k
        · refine iteY (by rw [decide_eq_false (by rw [List.length_cons]; omega)]; rfl) ?_
          have ek : nameB (c :: r) = false := by show (decide (r.length < 6) && isLet c && _) = false; rw [decide_eq_false h6, Bool.false_and, Bool.false_and]
          rw [ek] at k
          exact k
    · rintro σ H1 ⟨rfl, rfl, c, r, e, h6, hl⟩
      refine ⟨_, rfl, z, rfl, for_it walk_str (fun i σ H2 => H2 = H1 ∧ (∃ v, σ = [some (.str z), v]) ∧ ∀ (j : Nat) d, j < i → z.cps[j]? = some d → (isLet d || isDig d) = true) ⟨rfl, ⟨_, rfl⟩, fun j d hj => absurd hj (Nat.not_lt_zero _)⟩ (fun _ _ _ _ _ => trivial) ?_ ?_⟩
      · rintro i x σ H2 H3 hi ⟨rfl, ⟨v, rfl⟩, hall⟩ ⟨rfl, d, hd, rfl⟩
        have hmem : d ∈ z.cps.toList := by
          rw [Array.getElem?_eq_some_iff] at hd
          obtain ⟨hd1, hd2⟩ := hd
          rw [← hd2, ← Array.getElem_toList]
          exact List.getElem_mem _
        refine ⟨_, rfl, d, _, rfl, rfl, _, rfl, ?_⟩
        refine iteB (fun q1 => ⟨_, rfl, d, _, rfl, rfl, _, rfl, iteB (fun q2 => ?_) (fun q2 => ?_)⟩) (fun q1 => iteF ?_)
        · have ek : validB z = false := by
            unfold validB
            rw [e]
            show (decide (r.length < 6) && isLet c && ((c :: r).all fun c => isLet c || isDig c)) = false
            rw [← e]
            have hn : (isLet d || isDig d) = false := by
              have u1 : isLet d = false := bnt q1
              have u2 : isDig d = false := bnt q2
              rw [u1, u2]; rfl
            have hf : (z.cps.toList.all fun c => isLet c || isDig c) = false := List.all_eq_false.mpr ⟨d, hmem, by rw [hn]; exact Bool.false_ne_true⟩
            rw [hf, Bool.and_false]
          rw [ek] at k
          exact k
        all_goals
          refine ⟨rfl, ⟨_, rfl⟩, fun j d' hj hd' => ?_⟩
          by_cases hji : j = i
          · subst hji
            rw [hd] at hd'
            cases hd'
            first
              | (have u : isDig d = true := bnf q2
                 rw [u, Bool.or_true])
              | (have u : isLet d = true := bnf q1
                 rw [u, Bool.true_or])
          · exact hall j d' (by omega) hd'
      · rintro σ H2 ⟨rfl, ⟨v, rfl⟩, hall⟩
        have ek : validB z = true := by
          unfold validB
          rw [e]
          show (decide (r.length < 6) && isLet c && ((c :: r).all fun c => isLet c || isDig c)) = true
          rw [decide_eq_true h6, hl, ← e, Bool.true_and, Bool.true_and, List.all_eq_true]
          intro d hd
          obtain ⟨j, hj, ej⟩ := List.mem_iff_getElem.mp hd
          rw [Array.length_toList] at hj
          refine hall j d hj ?_
          rw [Array.getElem?_eq_getElem hj, ← ej, Array.getElem_toList]
        rw [ek] at k
        exact k
theorem F_valid_name (T : GG K mg) : FnI P w K mg base "valid_name" 1 ["text"] spValid :=
  ⟨T.a_valid_name, T.fd_valid_name, ok_valid_name T, T.m_valid_name, T.F_valid_name.kp, T.F_valid_name.binds fun _ _ _ _ _ _ us hl => match us, hl with | [_], _ => rfl⟩
end
end Xl

namespace Xl
open PySem L2
theorem at_ex {α : Type} {xs : List α} {d : Int} (h0 : 0 ≤ d) (h1 : d < xs.length) : ∃ (j : Nat) (v : α), d = j ∧ j < xs.length ∧ xs[j]? = some v ∧ atI xs d = some v := by
  obtain ⟨j, rfl⟩ := Int.eq_ofNat_of_zero_le h0
  have hj : j < xs.length := by omega
  exact ⟨j, xs[j], rfl, hj, List.getElem?_eq_getElem hj, atI_nat (List.getElem?_eq_getElem hj)⟩
theorem str_app_len (x y : Str) : (x ++ y).length = x.length + y.length := by
  show (x.cps ++ y.cps).size = x.cps.size + y.cps.size
  rw [Array.size_append]
theorem strjoin_len (y : Str) : ∀ ps : List Str, (Str.join y ps).length ≤ (ps.map (·.length)).sum + ps.length * y.length
  | [] => Nat.zero_le _
  | [p] => by
    show p.length ≤ _
    simp
  | p :: q :: r => by
    have ih := strjoin_len y (q :: r)
    show (p ++ y ++ Str.join y (q :: r)).length ≤ _
    rw [str_app_len, str_app_len]
    simp only [List.map_cons, List.sum_cons, List.length_cons, Nat.succ_mul] at ih ⊢
    omega
theorem join_len (y : Str) (ps : List Str) : (Txt.join y ps).length ≤ (ps.map (·.length)).sum + ps.length * y.length := by
  rw [TL.join_eq]
  exact strjoin_len y ps
theorem one_len (c : Nat) : (⟨#[c]⟩ : Str).length = 1 := rfl
theorem ones_sum : ∀ cs : List Nat, ((cs.map fun c => (⟨#[c]⟩ : Str)).map (·.length)).sum = cs.length
  | [] => rfl
  | c :: r => by
    simp only [List.map_cons, List.sum_cons, List.length_cons, ones_sum r, one_len]
    omega
/-- the signs of the law -/
def sgS : Str := (" !\"#$&'()*+,-./0123456789:;<=>?@ABCDEFGHIJKLMNOPQRSTUVWXYZ[\\]^_`" : Str) ++ ("abcdefghijklmnopqrstuvwxyz{|}~\n" : Str)
theorem sgS_len : sgS.length = 95 := by decide +kernel
def spSigns : Sp := fun vs H Q _ => vs = [] ∧ Q (.str sgS) H
/-- the law's own reading of a name is the same function -/
def spGood : Sp := fun vs H Q _ => ∃ z : Str, vs = [.str z] ∧ z.length ≤ 1000 ∧ ∀ H', Same H H' → Q (.bl (validB z)) H'
section
variable {P : Program} {w : World} {K : PySem.W.Frag} {mg : Str → Option Value} {base : Heap}
abbrev N_signs : List Str := ["_law_signs_here"]
theorem sc_signs : FnScope N_signs [] (defScope s_signs) := ⟨rfl, rfl, rfl, by decide +kernel, rfl, by decide +kernel, by decide +kernel⟩
theorem ok_signs (T : GG K mg) : FnOk P w K mg base (L2.CX P w) 1 T.a_signs T.fd_signs [] spSigns := by
  refine okN T.F_signs sc_signs (fun vs H Q E h => ?_) (fun cdv A outer s H vs Q E hr h => ?_)
  · obtain ⟨rfl, _⟩ := h
    rfl
  · obtain ⟨rfl, k⟩ := h
    refine ⟨_, (pss_cons (ps_set (i := 0) sc_signs.nd rfl (Or.inl rfl) pe_str)
      (pss_one (ps_ret (pe_op op_add_str (pv 0) pe_str)))), ?_⟩
    exact ⟨_, rfl, _, _, rfl, rfl, by decide +kernel, k⟩
theorem F_signs (T : GG K mg) : FnI P w K mg base "_law_signs" 1 [] spSigns :=
  ⟨T.a_signs, T.fd_signs, ok_signs T, T.m_signs, T.F_signs.kp, T.F_signs.binds fun _ _ _ _ _ _ us hl => match us, hl with | [], _ => rfl⟩
theorem letdig_mem (d : Nat) : decide (d ∈ (("abcdefghijklmnopqrstuvwxyz" : Str) ++ ("0123456789" : Str)).cps.toList) = (isLet d || isDig d) := by
  have e : (("abcdefghijklmnopqrstuvwxyz" : Str) ++ ("0123456789" : Str)).cps.toList = ("abcdefghijklmnopqrstuvwxyz" : Str).cps.toList ++ ("0123456789" : Str).cps.toList := by decide +kernel
  rw [e]
  unfold isLet isDig
  rw [Bool.eq_iff_iff]
  simp
abbrev N_good : List Str := ["_law_word", "_law_letters", "_law_sign"]
theorem sc_good : FnScope N_good ["_law_word"] (defScope s_good) := ⟨rfl, rfl, rfl, by decide +kernel, rfl, by decide +kernel, by decide +kernel⟩
theorem ok_good (T : GG K mg) : FnOk P w K mg base (L2.CX P w) 1 T.a_good T.fd_good ["_law_word"] spGood := by
  refine okN T.F_good sc_good (fun vs H Q E h => ?_) (fun cdv A outer s H vs Q E hr h => ?_)
  · obtain ⟨z, rfl, _⟩ := h
    rfl
  · obtain ⟨z, rfl, hz, k⟩ := h
    refine ⟨_, (pss_cons (ps_set (i := 1) sc_good.nd rfl (Or.inr rfl) pe_str)
      (pss_cut (ps_if (PW.pt (pw_or (pt_cmpR op_lt (pe_callB call_len_str rfl T.z_len PySem.boot_len (pa_cons (pv 0) pa_nil)) pe_int (nomark _)) (pw_or (pt_cmpR op_gt (pe_callB call_len_str rfl T.z_len PySem.boot_len (pa_cons (pv 0) pa_nil)) pe_int (nomark _)) (pw_or1 (pt_cmpR op_notIn_sign (pe_ix ix_str (pv 0) pe_int (fun _ _ => rfl)) (pv 1) (by rfl)))))) (pss_one (ps_ret pe_bl)) pss_nil)
      (pss_one (ps_ret (pe_cmpR (op_eqNil hr.units) (pe_lc (own := [("_law_sign", 2)])  rfl sc_good.nd (pi_str (pv 0)) (blkOk_by (N := N_good) (sc := defScope s_good) (by decide +kernel)) (fun _ _ _ _ _ => (pg_name (i := 2) sc_good.nd rfl (Or.inl rfl))) (fun _ _ _ _ _ => (pts_one (pt_cmpR op_notIn_sign (pv 2) (pe_op op_add_str (pv 1) pe_str) (by rfl)))) (fun _ _ _ _ _ => (pv 2))) (pe_lstN pa_nil) (nomark _)))))), ?_⟩
    have hz' : z.length ≤ sizeLine := small_sz (by omega)
    refine ⟨fun σ H1 => H1 = H ∧ σ = [some (.str z), some (.str "abcdefghijklmnopqrstuvwxyz"), none] ∧ ∃ c r, z.cps.toList = c :: r ∧ r.length < 6 ∧ isLet c = true, ?_, ?_⟩
    · refine ⟨_, rfl, z, rfl, hz', _, _, rfl, rfl, _, rfl, ?_⟩
      unfold validB at k
      have kF : nameB z.cps.toList = false → Q (.bl false) H := fun e => by
        have k1 := k H (Same.refl H)
        rw [e] at k1
        exact k1
      cases e : z.cps.toList with
      | nil =>
        rw [e] at kF
        refine iteY (decide_eq_true ?_) (kF rfl)
        rw [str_len, e]; decide
      | cons c r =>
        rw [e] at kF
        have hl := str_len z
        rw [e, List.length_cons] at hl
        refine iteN (decide_eq_false (by omega)) ⟨_, rfl, z, rfl, hz', _, _, rfl, rfl, _, rfl, ?_⟩
        by_cases h6 : r.length < 6
        · refine iteN (decide_eq_false (by omega)) ⟨_, rfl, z, _, c, rfl, rfl, hz', ?_, _, rfl, c, _, rfl, rfl, _, rfl, ?_⟩
          · rw [e]; exact atI_nat (j := 0) rfl
          · refine iteB (fun q => kF ?_) (fun q => ⟨rfl, rfl, c, r, rfl, h6, bnf q⟩)
            have hl2 : isLet c = false := bnt q
            show (decide (r.length < 6) && isLet c && _) = false
            rw [hl2, Bool.and_false, Bool.false_and]
        · refine iteY (decide_eq_true (by omega)) (kF ?_)
          show (decide (r.length < 6) && isLet c && _) = false
          rw [decide_eq_false h6, Bool.false_and, Bool.false_and]
    · rintro σ H1 ⟨rfl, rfl, c, r, e, h6, hl⟩
      refine ⟨_, rfl, z, rfl, fun D hD => lc_it walk_str (fun i H2 => ∃ acc : List V, H2 D = some (.lst acc) ∧ acc.length ≤ i ∧ Same H1 H2 ∧ (acc = [] ↔ ∀ (j : Nat) d, j < i → z.cps[j]? = some d → (isLet d || isDig d) = true)) ?_ (fun _ _ _ _ => trivial) ?_ ?_⟩
      · exact ⟨[], upd_same, Nat.le_refl _, (new_of hD).same, by simp⟩
      · rintro i x H2 H3 hi ⟨acc, h1, hlen, hs, hiff⟩ ⟨rfl, d, hd, rfl⟩
        have hil : i < z.length := hi
        refine ⟨rfl, _, rfl, _, rfl, _, _, rfl, rfl, ?_, d, _, rfl, rfl, _, rfl, ?_⟩
        · decide +kernel
        rw [letdig_mem]
        refine iteB (fun q => ?_) (fun q => ?_)
        · refine ⟨_, rfl, acc, h1, small_szlt (by omega), acc ++ [_], upd_same, ?_, ?_, ?_⟩
          · rw [List.length_append]; exact Nat.succ_le_succ hlen
          · intro b o eb; rw [upd_ne (ne_of_none eb hD)]; exact hs b o eb
          · refine ⟨fun z => absurd z (by simp), fun z => ?_⟩
            rw [z i d (Nat.lt_succ_self _) hd] at q
            cases q
        · refine ⟨acc, h1, Nat.le_succ_of_le hlen, hs, hiff.trans ⟨fun h j d' hj hd' => ?_, fun h j d' hj hd' => h j d' (by omega) hd'⟩⟩
          by_cases hji : j = i
          · subst hji
            rw [hd] at hd'
            cases hd'
            exact bnf q
          · exact h j d' (by omega) hd'
      · rintro H2 ⟨acc, h1, hlen, hs, hiff⟩
        refine ⟨(by show 0 ≤ sizeLine; decide), fun p H3 n3 => ⟨D, p, acc, rfl, rfl, n3.same _ _ h1, n3.at, ?_⟩⟩
        have ek : validB z = (false ^^ acc.isEmpty) := by
          rw [Bool.false_xor]
          unfold validB
          have e2 : nameB z.cps.toList = z.cps.toList.all fun c => isLet c || isDig c := by
            rw [e]
            show (decide (r.length < 6) && isLet c && ((c :: r).all fun c => isLet c || isDig c)) = _
            rw [decide_eq_true h6, hl, Bool.true_and, Bool.true_and]
          rw [e2, Bool.eq_iff_iff, List.all_eq_true, List.isEmpty_iff, hiff]
          constructor
          · intro h j d hj hd
            refine h d ?_
            rw [Array.getElem?_eq_some_iff] at hd
            obtain ⟨hd1, hd2⟩ := hd
            rw [← hd2, ← Array.getElem_toList]
            exact List.getElem_mem _
          · intro h d hd
            obtain ⟨j, hj, ej⟩ := List.mem_iff_getElem.mp hd
            rw [Array.length_toList] at hj
            refine h j d hj ?_
            rw [Array.getElem?_eq_getElem hj, ← ej, Array.getElem_toList]
        rw [← ek]
        exact k H3 (hs.trans n3.same)
theorem F_good (T : GG K mg) : FnI P w K mg base "_law_good" 1 ["_law_word"] spGood :=
  ⟨T.a_good, T.fd_good, ok_good T, T.m_good, T.F_good.kp, T.F_good.binds fun _ _ _ _ _ _ us hl => match us, hl with | [_], _ => rfl⟩
theorem FK_valid_name (T : GG K mg) : FnK P w K mg base "valid_name" 1 ["text"] spValid := by
  refine ⟨T.a_valid_name, T.fd_valid_name, ok_valid_name T, T.m_valid_name, T.F_valid_name.kp, ?_⟩
  obtain ⟨oc, od, kV, doc, pm, an, cdv, ct, osl, e, lk, hcd⟩ := T.F_valid_name.ex
  rw [e]
  exact fun s ws hl => match ws, hl with | [_], _ => .of_eq rfl
abbrev N_law : List Str := ["_law_script", "_law_state", "_law_plan", "_law_signs_here", "_law_chars", "_law_word", "_law_actual", "_law_k"]
theorem sc_law : FnScope N_law ["_law_script"] (defScope s_law) := ⟨rfl, rfl, rfl, by decide +kernel, rfl, by decide +kernel, by decide +kernel⟩
theorem pick4 {d : Int} (h0 : 0 ≤ d) (h1 : d < 4) : ∃ m : Int, atI ([.int 9, .int 9, .int 9, .int 80] : List V) d = some (.int m) ∧ 0 < m ∧ m ≤ 80 := by
  have : d = 0 ∨ d = 1 ∨ d = 2 ∨ d = 3 := by omega
  rcases this with rfl | rfl | rfl | rfl
  · exact ⟨9, rfl, by decide, by decide⟩
  · exact ⟨9, rfl, by decide, by decide⟩
  · exact ⟨9, rfl, by decide, by decide⟩
  · exact ⟨80, rfl, by decide, by decide⟩
/-- texts of one sign -/
def onesV (cs : List Nat) : List V := cs.map fun c => .str ⟨#[c]⟩
theorem onesV_str (cs : List Nat) : onesV cs = (cs.map fun c => (⟨#[c]⟩ : Str)).map V.str := by
  unfold onesV
  rw [List.map_map]
  rfl
theorem ok_law_of {T : GG K mg} {f : Addr} {fd : FuncData} (F : Fun K "law" "law" s_law f fd) : FnOk P w K mg base (L2.CX P w) 4 f fd ["_law_script"] (spLaw K) := by
  refine okN F sc_law (fun vs H Q E h => ?_) (fun cdv A outer s H vs Q E hr h => ?_)
  · obtain ⟨a, ns, rfl, _⟩ := h
    rfl
  · obtain ⟨a, ns, rfl, hS, hl, k⟩ := h
    refine ⟨_, (pss_cons (ps_set (i := 1) sc_law.nd rfl (Or.inr rfl) (pe_f (F_start T) (hr.mono (by decide)) passL (pa_cons (pv 0) pa_nil)))
      (pss_cons (ps_set (i := 2) sc_law.nd rfl (Or.inl rfl) (pe_f (F_draw T) (hr.mono (by decide)) passL (pa_cons (pv 1) (pa_cons pe_int pa_nil))))
      (pss_cons (ps_set (i := 3) sc_law.nd rfl (Or.inr rfl) pe_str)
      (pss_cut (ps_if (pt_cmpR op_eq (pv 2) pe_int (nomark _)) (pss_one (ps_set (i := 3) sc_law.nd rfl (Or.inr rfl) (pe_f0 (F_signs T) (hr.mono (by decide)) passL))) pss_nil)
      (pss_cons (ps_setLc (i := 4) (own := [("_law_k", 7)]) rfl sc_law.nd rfl rfl (sw_true rfl rfl rfl (by decide +kernel)) (pi_range1 rfl T.z_range (pa_cons (pe_f (F_draw T) (hr.mono (by decide)) passL (pa_cons (pv 1) (pa_cons (pe_ix ix_list (pe_lstN (pa_cons pe_int (pa_cons pe_int (pa_cons pe_int (pa_cons pe_int pa_nil))))) (pe_f (F_draw T) (hr.mono (by decide)) passL (pa_cons (pv 1) (pa_cons pe_int pa_nil))) (fun _ _ => rfl)) pa_nil))) pa_nil)) (blkOk_by (N := N_law) (sc := defScope s_law) (by decide +kernel)) (fun _ _ _ _ _ => (pg_name (i := 7) sc_law.nd rfl (Or.inl rfl))) (fun _ _ _ _ _ => pts_nil) (fun _ _ _ _ _ => (pe_ix ix_str (pv 3) (pe_f (F_draw T) (hr.mono (by decide)) passL (pa_cons (pv 1) (pa_cons (pe_callB call_len_str rfl T.z_len PySem.boot_len (pa_cons (pv 3) pa_nil)) pa_nil))) (fun _ _ => rfl))))
      (pss_cut (ps_if (PW.pt (pw_and (pt_cmpR op_eq (pv 2) pe_int (nomark _)) (pw_and1 (pt_cmpR (op_neNil hr.units) (pv 4) (pe_lstN pa_nil) (nomark _))))) (pss_one (ps_asg (pe_ix ix_str (pe_f0 (F_signs T) (hr.mono (by decide)) passL) (pe_f (F_draw T) (hr.mono (by decide)) passL (pa_cons (pv 1) (pa_cons (pe_callB call_len_str rfl T.z_len PySem.boot_len (pa_cons (pe_f0 (F_signs T) (hr.mono (by decide)) passL) pa_nil)) pa_nil))) (fun _ _ => rfl)) (pg_sub (pv 4) (pe_f (F_draw T) (hr.mono (by decide)) passL (pa_cons (pv 1) (pa_cons (pe_callB call_len_seq rfl T.z_len PySem.boot_len (pa_cons (pv 4) pa_nil)) pa_nil))) set_list))) pss_nil)
      (pss_cons (ps_set (i := 5) sc_law.nd rfl (Or.inl rfl) (pe_join pe_str (pv 4)))
      (pss_cons (ps_set (i := 6) sc_law.nd rfl (Or.inl rfl) (pe_f (F_valid_name T) (hr.mono (by decide)) passL (pa_cons (pv 5) pa_nil)))
      (pss_cons (ps_if (PW.pt (pw_or (pt_not (pt_val (pe_callB call_isi rfl T.z_isinstance (by decide +kernel) (pa_cons (pv 6) (pa_cons (pe_bltn (v := .ty "bool") rfl T.z_bool (by decide +kernel) rfl) pa_nil))))) (pw_or1 (pt_cmpR op_ne (pv 6) (pe_f (F_good T) (hr.mono (by decide)) passL (pa_cons (pv 5) pa_nil)) (nomark _))))) (pss_one (ps_ret pe_bl)) pss_nil)
      (pss_one (ps_ret (pe_cmpR op_eq (pe_fK (FK_valid_name T) (hr.mono (by decide)) passL (pk_cons (pe_revS (pv 5)) pk_nil)) (pe_f (F_good T) (hr.mono (by decide)) passL (pa_cons (pe_revS (pv 5)) pa_nil)) (nomark _))))))))))))), ?_⟩
    -- the start, the plan
    refine ⟨_, rfl, a, ns, rfl, hS, hl, fun st F0 H0 s0 _ _ => ?_⟩
    refine ⟨_, rfl, _, _, _, _, rfl, s0, (by decide), (by decide), (by decide), fun d1 F1 H1 h10 h11 s1 _ => ?_⟩
    refine ⟨fun σ H2 => ∃ sg : Str, σ = [some (.ref a), some (.ref st), some (.int d1), some (.str sg), none, none, none, none] ∧ H2 = H1 ∧ 0 < sg.length ∧ sg.length ≤ 1000, ⟨_, rfl, rfl, _, rfl, iteB (fun _ => ?_) (fun _ => ?_)⟩, ?_⟩
    · exact ⟨rfl, _, rfl, rfl, by rw [sgS_len]; decide, by rw [sgS_len]; decide⟩
    · exact ⟨_, rfl, rfl, by decide +kernel, by decide +kernel⟩
    rintro σ H2 ⟨sg, rfl, rfl, hsg0, hsg1⟩
    -- how many signs
    refine ⟨_, rfl, (by show 4 ≤ sizeLine; decide), fun p3 H3 n3 => ⟨_, rfl, _, _, _, _, rfl, (n3.sta s1), (by decide), (by decide), (by decide), fun d4 F4 H4 h40 h41 s4 f4 => ?_⟩⟩
    obtain ⟨m, em, hm0, hm1⟩ := pick4 h40 h41
    refine ⟨p3, _, _, _, rfl, rfl, SqL.of (f4.out (n3.out s1)).1, em, _, _, _, _, rfl, s4, (by decide), hm0, (by omega), fun d5 F5 H5 h50 h51 s5 f5 => ?_⟩
    refine ⟨d5, rfl, by omega, by omega, fun D hD => lc_range (lo := 0) (n := d5.toNat) (fun i H6 => ∃ (F6 : Fp) (cs : List Nat), StAt H6 F6 st (3 + i) ∧ Out F6 H6 D (.lst (onesV cs)) ∧ cs.length = i) ?_ ?_ ?_⟩
    · exact ⟨F5, [], s5.new hD, s5.made hD, rfl⟩
    · rintro i H6 hi ⟨F6, cs, s6, o6, hcs⟩
      have hsz : sg.length ≤ sizeLine := small_sz (by omega)
      refine ⟨rfl, _, rfl, _, rfl, _, rfl, sg, rfl, hsz, _, _, _, _, rfl, s6, (by omega), (by omega), (by omega), fun d7 F7 H7 h70 h71 s7 f7 => ?_⟩
      obtain ⟨j, c, _, _, _, ec⟩ := at_ex h70 (show d7 < (sg.cps.toList.length : Nat) by rw [← str_len]; exact h71)
      have o7 := f7.out o6
      refine ⟨sg, d7, c, rfl, rfl, hsz, ec, _, o7.1, ?_, F7, cs ++ [c], s7.upd o7.2, ?_, ?_⟩
      · unfold onesV; rw [List.length_map]; exact small_szlt (by omega)
      · rw [show onesV (cs ++ [c]) = onesV cs ++ [.str ⟨#[c]⟩] by unfold onesV; rw [List.map_append]; rfl]
        exact Out.here o7.2
      · rw [List.length_append, hcs]; rfl
    rintro H6 ⟨F6, cs, s6, o6, hcs⟩
    have hcl : cs.length ≤ 80 := by omega
    -- perhaps another sign at one place
    refine ⟨fun σ H7 => ∃ cs' : List Nat, σ = [some (.ref a), some (.ref st), some (.int d1), some (.str sg), some (.ref D), none, none, none] ∧ H7 D = some (.lst (onesV cs')) ∧ cs'.length ≤ 80, ?_, ?_⟩
    · refine ⟨_, rfl, rfl, _, rfl, iteB (fun _ => ?_) (fun _ => iteF ⟨cs, rfl, o6.1, hcl⟩)⟩
      refine ⟨_, rfl, (by show 0 ≤ sizeLine; decide), fun p7 H7 n7 => ⟨D, p7, _, rfl, rfl, n7.same _ _ o6.1, n7.at, _, rfl, ?_⟩⟩
      have s7 := n7.sta s6
      have o7 := (Fr.same (F := F6) n7.same).out o6
      refine iteB (fun hne => ?_) (fun _ => ⟨cs, rfl, o7.1, hcl⟩)
      have hpos : 0 < cs.length := by
        cases cs with
        | nil => cases hne
        | cons _ _ => exact Nat.succ_pos _
      have hsz : sgS.length ≤ sizeLine := by rw [sgS_len]; decide
      refine ⟨rfl, _, rfl, rfl, sgS, rfl, hsz, _, _, _, _, rfl, s7, (by omega), (by rw [sgS_len]; decide), (by rw [sgS_len]; decide), fun d8 F8 H8 h80 h81 s8 f8 => ?_⟩
      obtain ⟨j, c, _, _, _, ec⟩ := at_ex h80 (show d8 < (sgS.cps.toList.length : Nat) by rw [← str_len]; exact h81)
      have o8 := f8.out o7
      refine ⟨sgS, d8, c, rfl, rfl, hsz, ec, _, rfl, _, rfl, _, rfl, D, _, rfl, .inl (SqL.of o8.1), ?_⟩
      have hol : (onesV cs).length = cs.length := by unfold onesV; rw [List.length_map]
      rw [hol]
      refine ⟨_, _, _, _, rfl, s8, (by omega), (by omega), (by omega), fun d9 F9 H9 h90 h91 s9 f9 => ?_⟩
      have o9 := f9.out o8
      obtain ⟨i, rfl⟩ := Int.eq_ofNat_of_zero_le h90
      refine ⟨D, _, _, i, rfl, rfl, o9.1, ixN_at (by rw [hol]; omega), cs.set i c, rfl, ?_, by rw [List.length_set]; exact hcl⟩
      rw [upd_same]
      unfold onesV
      rw [List.map_set]
    rintro σ H7 ⟨cs', rfl, hD7, hcl'⟩
    -- the word
    have hsum : ((cs'.map fun c => (⟨#[c]⟩ : Str)).map (·.length)).sum + (cs'.map fun c => (⟨#[c]⟩ : Str)).length * (Str.ofString "").length = cs'.length := by
      rw [ones_sum, List.length_map, show (Str.ofString "").length = 0 from rfl]
      omega
    refine ⟨⟨_, rfl⟩, _, rfl, _, D, cs'.map fun c => (⟨#[c]⟩ : Str), rfl, rfl, .inl (SqL.of (by rw [← onesV_str]; exact hD7)), by rw [hsum]; omega, ?_⟩
    have hw := join_len "" (cs'.map fun c => (⟨#[c]⟩ : Str))
    rw [hsum] at hw
    generalize Txt.join "" (cs'.map fun c => (⟨#[c]⟩ : Str)) = wd at hw
    have hwz : wd.length ≤ sizeLine := small_sz (by omega)
    refine ⟨_, rfl, wd, rfl, hwz, _, rfl, .bl (validB wd), .ty "bool", .type "bool", .type "bool", true, rfl, .ty _, .base (.bl _), kit_ty (by decide +kernel), _, rfl, iteF ?_⟩
    refine ⟨_, rfl, _, rfl, wd, rfl, by omega, fun H8 _ => ⟨rfl, _, rfl, iteN ?_ ?_⟩⟩
    · simp
    have hrl := revS_len wd
    refine ⟨_, rfl, wd, rfl, hwz, rfl, revS wd, rfl, small_sz (by omega), _, rfl, wd, rfl, hwz, revS wd, rfl, by omega, fun H9 _ => ⟨rfl, ?_⟩⟩
    show Q (.bl (decide (V.bl (validB (revS wd)) = V.bl (validB (revS wd))))) H9
    rw [decide_eq_true rfl]
    exact k H9
end
end Xl

namespace Xl
open PySem L2
theorem all_mk {l : PySem.W.OpenLaw} {w : World} {K : PySem.W.Frag} {h : Heap} {mg : Str → Option Value} {fa f_valid_name f_start f_draw f_signs f_good f_law : Addr} (X : K.In h) (G : h.Ns mainGlobals mg) (hfa : mg "law" = some (.ref fa))
    {od_valid_name an_valid_name : Option Addr} {sl_valid_name : Array (Option Value)} {oc_valid_name kV_valid_name dc_valid_name pm_valid_name cd_valid_name ct_valid_name : Value}
    {od_start an_start : Option Addr} {sl_start : Array (Option Value)} {oc_start kV_start dc_start pm_start cd_start ct_start : Value}
    {od_draw an_draw : Option Addr} {sl_draw : Array (Option Value)} {oc_draw kV_draw dc_draw pm_draw cd_draw ct_draw : Value}
    {od_signs an_signs : Option Addr} {sl_signs : Array (Option Value)} {oc_signs kV_signs dc_signs pm_signs cd_signs ct_signs : Value}
    {od_good an_good : Option Addr} {sl_good : Array (Option Value)} {oc_good kV_good dc_good pm_good cd_good ct_good : Value}
    {od_law an_law : Option Addr} {sl_law : Array (Option Value)} {oc_law kV_law dc_law pm_law cd_law ct_law : Value}
    {t_LETTERS : Tok}
    {t_DIGITS : Tok}
    {t_LONGEST : Tok}
    (a_valid_name : PySem.W.nsIn K mainGlobals "valid_name" = some (some (.ref f_valid_name)))
    (l_valid_name : K.lookup f_valid_name = some ⟨oc_valid_name, od_valid_name, .func (PySem.W.fnOf "valid_name" "valid_name" (defArgs s_valid_name) (defBody s_valid_name) (defScope s_valid_name) .none kV_valid_name dc_valid_name pm_valid_name an_valid_name cd_valid_name ct_valid_name), sl_valid_name⟩)
    (k1_valid_name : PySem.W.codeIn K cd_valid_name "valid_name" = true)
    (k2_valid_name : PySem.W.keepIn K (.ref f_valid_name) = true)
    (a_start : PySem.W.nsIn K mainGlobals "_law_start" = some (some (.ref f_start)))
    (l_start : K.lookup f_start = some ⟨oc_start, od_start, .func (PySem.W.fnOf "_law_start" "_law_start" (defArgs s_start) (defBody s_start) (defScope s_start) .none kV_start dc_start pm_start an_start cd_start ct_start), sl_start⟩)
    (k1_start : PySem.W.codeIn K cd_start "_law_start" = true)
    (k2_start : PySem.W.keepIn K (.ref f_start) = true)
    (a_draw : PySem.W.nsIn K mainGlobals "_law_draw" = some (some (.ref f_draw)))
    (l_draw : K.lookup f_draw = some ⟨oc_draw, od_draw, .func (PySem.W.fnOf "_law_draw" "_law_draw" (defArgs s_draw) (defBody s_draw) (defScope s_draw) .none kV_draw dc_draw pm_draw an_draw cd_draw ct_draw), sl_draw⟩)
    (k1_draw : PySem.W.codeIn K cd_draw "_law_draw" = true)
    (k2_draw : PySem.W.keepIn K (.ref f_draw) = true)
    (a_signs : PySem.W.nsIn K mainGlobals "_law_signs" = some (some (.ref f_signs)))
    (l_signs : K.lookup f_signs = some ⟨oc_signs, od_signs, .func (PySem.W.fnOf "_law_signs" "_law_signs" (defArgs s_signs) (defBody s_signs) (defScope s_signs) .none kV_signs dc_signs pm_signs an_signs cd_signs ct_signs), sl_signs⟩)
    (k1_signs : PySem.W.codeIn K cd_signs "_law_signs" = true)
    (k2_signs : PySem.W.keepIn K (.ref f_signs) = true)
    (a_good : PySem.W.nsIn K mainGlobals "_law_good" = some (some (.ref f_good)))
    (l_good : K.lookup f_good = some ⟨oc_good, od_good, .func (PySem.W.fnOf "_law_good" "_law_good" (defArgs s_good) (defBody s_good) (defScope s_good) .none kV_good dc_good pm_good an_good cd_good ct_good), sl_good⟩)
    (k1_good : PySem.W.codeIn K cd_good "_law_good" = true)
    (k2_good : PySem.W.keepIn K (.ref f_good) = true)
    (a_law : PySem.W.nsIn K mainGlobals "law" = some (some (.ref f_law)))
    (l_law : K.lookup f_law = some ⟨oc_law, od_law, .func (PySem.W.fnOf "law" "law" (defArgs s_law) (defBody s_law) (defScope s_law) .none kV_law dc_law pm_law an_law cd_law ct_law), sl_law⟩)
    (k1_law : PySem.W.codeIn K cd_law "law" = true)
    (k2_law : PySem.W.keepIn K (.ref f_law) = true)
    (h_LETTERS : PySem.W.nsIn K mainGlobals "LETTERS" = some (some (.str "abcdefghijklmnopqrstuvwxyz" t_LETTERS)))
    (h_DIGITS : PySem.W.nsIn K mainGlobals "DIGITS" = some (some (.str "0123456789" t_DIGITS)))
    (h_LONGEST : PySem.W.nsIn K mainGlobals "LONGEST" = some (some (.int 6 t_LONGEST)))
    (z_abs : PySem.W.nsIn K mainGlobals "abs" = some none)
    (z_bool : PySem.W.nsIn K mainGlobals "bool" = some none)
    (z_int : PySem.W.nsIn K mainGlobals "int" = some none)
    (z_isinstance : PySem.W.nsIn K mainGlobals "isinstance" = some none)
    (z_len : PySem.W.nsIn K mainGlobals "len" = some none)
    (z_list : PySem.W.nsIn K mainGlobals "list" = some none)
    (z_range : PySem.W.nsIn K mainGlobals "range" = some none)
    : ∃ fd : FuncData, (∀ (s : Shared) (v : Value), BindsTo s fd ⟨[v], []⟩ [("_law_script", v)]) ∧ ∀ base : Heap, K.In base → base.Ns mainGlobals mg → FnOk l.prog w K mg base (L2.CX l.prog w) 4 fa fd ["_law_script"] (spLaw K) := by
  have e := hfa.symm.trans (PySem.W.mg_of X G a_law)
  have e2 : fa = f_law := Value.ref.inj (Option.some.inj e)
  rw [e2]
  have T : GG K mg := {
    a_valid_name := f_valid_name
    fd_valid_name := PySem.W.fnOf "valid_name" "valid_name" (defArgs s_valid_name) (defBody s_valid_name) (defScope s_valid_name) .none kV_valid_name dc_valid_name pm_valid_name an_valid_name cd_valid_name ct_valid_name
    F_valid_name := fun_mk (st := s_valid_name) l_valid_name k1_valid_name k2_valid_name
    m_valid_name := PySem.W.mg_of X G a_valid_name
    a_start := f_start
    fd_start := PySem.W.fnOf "_law_start" "_law_start" (defArgs s_start) (defBody s_start) (defScope s_start) .none kV_start dc_start pm_start an_start cd_start ct_start
    F_start := fun_mk (st := s_start) l_start k1_start k2_start
    m_start := PySem.W.mg_of X G a_start
    a_draw := f_draw
    fd_draw := PySem.W.fnOf "_law_draw" "_law_draw" (defArgs s_draw) (defBody s_draw) (defScope s_draw) .none kV_draw dc_draw pm_draw an_draw cd_draw ct_draw
    F_draw := fun_mk (st := s_draw) l_draw k1_draw k2_draw
    m_draw := PySem.W.mg_of X G a_draw
    a_signs := f_signs
    fd_signs := PySem.W.fnOf "_law_signs" "_law_signs" (defArgs s_signs) (defBody s_signs) (defScope s_signs) .none kV_signs dc_signs pm_signs an_signs cd_signs ct_signs
    F_signs := fun_mk (st := s_signs) l_signs k1_signs k2_signs
    m_signs := PySem.W.mg_of X G a_signs
    a_good := f_good
    fd_good := PySem.W.fnOf "_law_good" "_law_good" (defArgs s_good) (defBody s_good) (defScope s_good) .none kV_good dc_good pm_good an_good cd_good ct_good
    F_good := fun_mk (st := s_good) l_good k1_good k2_good
    m_good := PySem.W.mg_of X G a_good
    a_law := f_law
    fd_law := PySem.W.fnOf "law" "law" (defArgs s_law) (defBody s_law) (defScope s_law) .none kV_law dc_law pm_law an_law cd_law ct_law
    F_law := fun_mk (st := s_law) l_law k1_law k2_law
    m_law := PySem.W.mg_of X G a_law
    g_LETTERS := ⟨_, PySem.W.mg_of X G h_LETTERS, ⟨_, rfl⟩⟩
    g_DIGITS := ⟨_, PySem.W.mg_of X G h_DIGITS, ⟨_, rfl⟩⟩
    g_LONGEST := ⟨_, PySem.W.mg_of X G h_LONGEST, ⟨_, rfl⟩⟩
    z_abs := PySem.W.mg_none_of X G z_abs
    z_bool := PySem.W.mg_none_of X G z_bool
    z_int := PySem.W.mg_none_of X G z_int
    z_isinstance := PySem.W.mg_none_of X G z_isinstance
    z_len := PySem.W.mg_none_of X G z_len
    z_list := PySem.W.mg_none_of X G z_list
    z_range := PySem.W.mg_none_of X G z_range }
  have hlaw : ∀ base : Heap, FnOk l.prog w K mg base (L2.CX l.prog w) 4 f_law (PySem.W.fnOf "law" "law" (defArgs s_law) (defBody s_law) (defScope s_law) .none kV_law dc_law pm_law an_law cd_law ct_law) ["_law_script"] (spLaw K) := fun base => ok_law_of (T := T) (fun_mk (st := s_law) l_law k1_law k2_law)
  exact ⟨_, fun s v => .of_eq rfl, fun base _ _ => hlaw base⟩
theorem walk {l : PySem.W.OpenLaw} {q : Program} {loose : List Str} {XP : (Str → Option Value) → Heap → Prop} {YP : World → Heap → Prop} {d : DefRec} {K : Params → PySem.W.Frag} (hn : l.most = some 63) (hdf : d.params.defaults = [])
    (hY : ∀ (w : World) (h : Heap), YP w h → (K w.params).In h)
    (F : ∀ (w : World) (mg : Str → Option Value) (fa : Addr) (h : Heap), (K w.params).In h → h.Ns mainGlobals mg → mg d.name = some (.ref fa) →
      ∃ fd : FuncData, (∀ (s : Shared) (u : Value), BindsTo s fd ⟨[u], []⟩ [("_law_script", u)]) ∧ ∀ base : Heap, (K w.params).In base → base.Ns mainGlobals mg → FnOk l.prog w (K w.params) mg base (L2.CX l.prog w) 4 fa fd ["_law_script"] (spLaw (K w.params))) :
    PySem.W.WalkO q loose XP YP l.row.toRowW d [] (fun f vs => PySem.call f vs) :=
  L2.walk_of (n := 63) (k := 4) (x := "_law_script") (CX := fun w => L2.CX l.prog w) (sp := fun w => spLaw (K w.params)) hn (by decide) hdf ⟨rfl, by decide, by decide⟩ hY F (fun _ _ a ns hl _ hS => ⟨a, ns, rfl, hS, hl, fun _ => rfl⟩) fun _ _ _ _ _ z => by
    obtain ⟨_, _, _, _, _, _, _, _, _, _, _, _, z⟩ := z
    exact z
end Xl
open PySem PySem.W PyProof.Rows
set_option maxRecDepth 100000 in
set_option maxHeartbeats 0 in
theorem PySem.Challenge.cw_extralink_k01_valid_names_holds : PySem.Challenge.rw_extralink_k01_valid_names.Holds := by
  w_on; o_law; k_head; (case hw => w_witness2)
  k_fill
  refine Xl.walk (l := PySem.Challenge.rw_extralink_k01_valid_names) rfl rfl (fun w h Y => PySem.W.kIn_of Y) ?F
  case F =>
    intro w mg fa h KX G hmg
    refine' Xl.all_mk KX G hmg ?a_valid_name ?l_valid_name ?k1_valid_name ?k2_valid_name ?a_start ?l_start ?k1_start ?k2_start ?a_draw ?l_draw ?k1_draw ?k2_draw ?a_signs ?l_signs ?k1_signs ?k2_signs ?a_good ?l_good ?k1_good ?k2_good ?a_law ?l_law ?k1_law ?k2_law ?h_LETTERS ?h_DIGITS ?h_LONGEST ?z_abs ?z_bool ?z_int ?z_isinstance ?z_len ?z_list ?z_range
    (case a_valid_name => k_is)
    (case l_valid_name => k_is)
    (case k1_valid_name => k_is)
    (case k2_valid_name => k_is)
    (case a_start => k_is)
    (case l_start => k_is)
    (case k1_start => k_is)
    (case k2_start => k_is)
    (case a_draw => k_is)
    (case l_draw => k_is)
    (case k1_draw => k_is)
    (case k2_draw => k_is)
    (case a_signs => k_is)
    (case l_signs => k_is)
    (case k1_signs => k_is)
    (case k2_signs => k_is)
    (case a_good => k_is)
    (case l_good => k_is)
    (case k1_good => k_is)
    (case k2_good => k_is)
    (case a_law => k_is)
    (case l_law => k_is)
    (case k1_law => k_is)
    (case k2_law => k_is)
    (case h_LETTERS => k_is)
    (case h_DIGITS => k_is)
    (case h_LONGEST => k_is)
    (case z_abs => k_is)
    (case z_bool => k_is)
    (case z_int => k_is)
    (case z_isinstance => k_is)
    (case z_len => k_is)
    (case z_list => k_is)
    (case z_range => k_is)
#print axioms PySem.Challenge.cw_extralink_k01_valid_names_holds

